import PyProof.Rows.All
import Wide.All
import OpenK.AllK
import Wide.FinOn
import HandS.Head0
import HandS.Head1
import HandS.Head2
import HandS.HeadHook4
import HandS.Words
import KE.KExcInit
import HandS.ForMost
import HandS.ForExc
import HandS.Lambda
import HandS.IsInst
import HandS.Deep
import HandS.Walk
import HandS.Wide
import HandS.TupAny
import HandS.TupLe
import HandS.Star
import KE.KeyNested
import HandS.TupMul
import PyProof.ReprRoads
import HandS.Style
import KE.KExcSuper
import PyProof.ExcBaseAll.OverflowError
import PyProof.ExcBaseAll.LookupError
import KE.GoesEnum
import KE.GoesZip
import HandS.Small
import KE.KRevSl
import HandS.MakeKwOnly
import KE.KDictPairs
import PyProof.EqKinds
import PyProof.FactsAll.dict_1
import KE.KDictZip
import HandS.MakeKw
import HandS.ClsMeth
import HandS.CallLocal
import HandS.FStr
import KE.KUnpackStar
import HandS.ExcValue
import HandS.EndTab
import KE.KNestM
import OpenK.KMeth
import OpenK.KOps
import PyProof.InstNe
import KE.KDflt
import HandS.Conv
import HandS.TupLen
import HandS.DictTup
import KE.KIntText
import HandS.SortOrd
import HandS.TupSets
import KE.KDictKeyed
import PySem.Challenge.RW_midswitch_k06_requests_asked
set_option Elab.async false
set_option linter.all false
set_option maxRecDepth 100000
set_option autoImplicit false
set_option maxHeartbeats 1000000
namespace Ev
open PySem PySem.Spec L2 PyProof.Rows
def fdAt (K:PySem.W.Frag) (f:Addr):FuncData:=match K.lookup f with
  | some ⟨_,_,.func fd,_⟩=>fd
  | _=>default
def tys7:List String:=["NoneType","bool","int","str","tuple","list","dict"]
def isB (K:PySem.W.Frag) (C:Addr):Bool:=He.eqO (PySem.W.findIn K (.ref C) "__class__") (some (some (.builtin "object.__class__"))) && (He.eqO (PySem.W.specialIn K (.builtin "object.__class__") "__get__") (some (some (.builtin "getset_descriptor.__get__"))) &&
  (decide (PySem.W.takesIn K (.builtin "object.__class__")=some true) && (decide (PySem.W.mroIn K C (.type "object")=some true) && (decide (PySem.W.kitOne K (.ref C) (.ref C)=some true) && tys7.all fun T=>decide (PySem.W.kitOne K (.type T) (.ref C)=some false)))))
def neB (K:PySem.W.Frag) (C:Addr):Bool:=He.eqO (PySem.W.findIn K (.ref C) "__ne__") (some (some (.builtin "object.__ne__"))) && decide (PySem.W.mroIn K C (.type "object")=some true)
def eqB (K:PySem.W.Frag) (C:Addr):Bool:=tys7.all fun T=>decide (PySem.W.subIn K (.type T) (.ref C)=some false)
def exI (K:PySem.W.Frag) (x:Str):Addr:=He.ma K (He.ga K x) "__init__"
def exC (K:PySem.W.Frag) (x:Str):Addr:=match (fdAt K (exI K x)).closure with
  | (_,c) :: _=>c
  | _=>0
abbrev ExV:Type:=Option (Str×Arguments×FuncBody×Scope×Addr×List Str×Value×Value×Addr)
def exObs (K:PySem.W.Frag) (x:Str):ExV:=match K.lookup (exI K x) with
  | some ⟨_,_,.func fd,_⟩=>some (fd.name,fd.params,fd.body,fd.scope,fd.globals,fd.closure.map (·.1),fd.defaults,fd.kwdefaults,fd.builtins)
  | _=>none
def exVal (st:Stmt):ExV:=some ("__init__",defArgs st,.stmts (defBody st),defScope st,mainGlobals,["__class__"],.none,.none,builtinsNs)
def cellB (K:PySem.W.Frag) (cc C:Addr):Bool:=match K.lookup cc with
  | some ⟨_,_,.cell (some (.ref D)),_⟩=>D == C
  | _=>false
def fileB (K:PySem.W.Frag) (P:Program) (cd:Value):Bool:=match cd with
  | .ref c=>(match K.lookup c with
    | some ⟨_,_,.fields vs,_⟩=>(match (vs[2]?:Option Value) with
      | some (.str file _)=>(P.main.file:Str) == file
      | _=>false)
    | _=>false)
  | _=>false
def exB (P:Program) (fl:Str) (bn nw ini:String) (tl:List Value) (x:Str) (K:PySem.W.Frag):Bool :=
  PySem.W.excInitIn K (He.ga K x) tl nw && (PySem.W.excOver K (He.ga K x) tl && (((PySem.W.clsIn K (He.ga K x)).any fun cd=>He.eqO (PySem.W.alongIn K "__init__" cd.mro.tail) (some (some (.builtin ini)))) &&
  (decide (PySem.W.subIn K (.ref (He.ga K x)) (.type bn)=some true) && (He.eqO (PySem.W.findIn K (.ref (He.ga K x)) "__setattr__") (some (some (.builtin "object.__setattr__"))) && (He.eqO (PySem.W.findIn K (.ref (He.ga K x)) "__getattribute__") (some (some (.builtin "BaseException.__getattribute__"))) &&
  (He.eqO (PySem.W.findIn K (.ref (He.ga K x)) "__getattr__") (some none) && (He.eqO (PySem.W.findIn K (.ref (He.ga K x)) fl) (some none) && (He.eqO (PySem.W.findIn K (.ref (He.ga K x)) "__init__") (some (some (.ref (exI K x)))) && (decide (PySem.W.typeIn K (.ref (exI K x))=some (.type "function")) &&
  (PySem.W.keepIn K (.ref (He.ga K x)) && (decide (PySem.W.subIn K (.ref (He.ga K x)) (.type "BaseException")=some true) && (decide (PySem.W.typeIn K (.ref (He.ga K x))=some (.type "type")) && (PySem.W.hasDictIn K (He.ga K x) && (decide (PySem.W.exmOne K (.ref (He.ga K x)) (.ref (He.ga K x))=some true) &&
  (decide (PySem.W.mroIn K (He.ga K x) (.ref (He.ga K x))=some true) && (He.eqO (PySem.W.nsIn K cStatics "thirdparty.any") (some none) && (He.eqO (PySem.W.nsIn K mainGlobals "super") (some none) && (PySem.W.codeIn K (fdAt K (exI K x)).code (fdAt K (exI K x)).qualname &&
  (fileB K P (fdAt K (exI K x)).code && (cellB K (exC K x) (He.ga K x) && He.eqO (PySem.W.nsIn K mainGlobals x) (some (some (.ref (He.ga K x))))))))))))))))))))))))
abbrev AlZ:Type:=He.AlD×(Bool×List ExV)
def obsZ (as:List Addr) (fa:List He.Fa) (fn:List He.DefD) (tf:List He.Defn) (ex:PySem.W.Frag→Bool) (xs:List Str) (g:Addr→Option Obj):AlZ :=
  (He.obsD fa fn (He.frT g as),(ex (He.frT g as) && He.tabsB g tf (He.frT g as),xs.map (exObs (He.frT g as))))
structure SaysZ (fa:List He.Fa) (fn:List He.DefD) (tf:List He.Defn) (ex:PySem.W.Frag→Bool) (xs:List Str) (xv:List ExV) (h:Heap) (K:PySem.W.Frag):Prop where
  d:He.SaysD fa fn K
  more:ex K=true
  exo:xs.map (exObs K)=xv
  tab:∀ p∈tf,PySem.W.codeHdIn K (He.cT K p).1 (He.cT K p).2=true∧K.lookup (He.cT K p).2=none∧h.get? (He.cT K p).2=some { cls:=.none,data:=.fields #[] }
def hookZ (as:List Addr) (fa:List He.Fa) (fn:List He.DefD) (tf:List He.Defn) (ex:PySem.W.Frag→Bool) (xs:List Str) (xv:List ExV):PySem.W.Hook where
  α:=AlZ
  obs:=fun s=>obsZ as fa fn tf ex xs s.heap.get?
  val:=fun _=>(He.valD fn,(true,xv))
  says:=fun _ h=>∃ K:PySem.W.Frag,K.In h∧SaysZ fa fn tf ex xs xv h K
  of:=fun _ s e=>by
    have e1:He.obsD fa fn (He.frT s.heap.get? as)=He.valD fn:=congrArg (fun z:AlZ=>z.1) e
    have e2:(ex (He.frT s.heap.get? as) && He.tabsB s.heap.get? tf (He.frT s.heap.get? as))=true:=congrArg (fun z:AlZ=>z.2.1) e
    have e3:xs.map (exObs (He.frT s.heap.get? as))=xv:=congrArg (fun z:AlZ=>z.2.2) e
    obtain ⟨h1,h2⟩:=He.ba e2
    refine ⟨_,He.frT_in,e1,h1,e3,fun p hp=>?_⟩
    obtain ⟨h3,h4⟩:=He.ba (List.all_eq_true.mp h2 p hp)
    cases q:s.heap.get? (He.cT (He.frT s.heap.get? as) p).2 with
    | none=>rw [q] at h4; cases h4
    | some o =>
      rw [q] at h4
      exact ⟨h3,He.frT_none q h4,by rw [He.emptyTab_eq h4]⟩
  keeps:=fun _ _ _ ⟨K,hK,c⟩ k=>⟨K,PySem.W.Frag.In.keeps hK k,⟨c.d,c.more,c.exo,fun p hp=>⟨(c.tab p hp).1,(c.tab p hp).2.1,k _ _ (c.tab p hp).2.2⟩⟩⟩
theorem obsZ_eq {as:List Addr} {fa:List He.Fa} {fn:List He.DefD} {tf:List He.Defn} {ex:PySem.W.Frag→Bool} {xs:List Str} {xv:List ExV} {g:Addr→Option Obj} {s:Shared} (h:∀ a,g a=s.heap.get? a):obsZ as fa fn tf ex xs g=(hookZ as fa fn tf ex xs xv).obs s:=by
  have e:g=s.heap.get?:=funext h
  rw [e] <;> rfl
end Ev
set_option maxHeartbeats 4000000
namespace K06
open PySem PySem.Spec L2 Ev PyProof.Rows
def topH (i:Nat):Stmt:=PySem.Challenge.pw_midswitch_k06_requests_asked.main.body.getD i (.Pass ⟨0,0,0,0⟩)
abbrev RwR:PySem.W.OpenRow:=PySem.W.OpenLaw.row PySem.Challenge.rw_midswitch_k06_requests_asked
abbrev RwP:Program:=(PySem.Challenge.rw_midswitch_k06_requests_asked).prog
abbrev RwV:Program:=PySem.W.view RwR.prog [43]
def hdLoose0:List Str:=["_wall",
  "SwitchError",
  "BadSettings",
  "BadPlaces",
  "BadModes",
  "Missing",
  "TooMany",
  "MOST_SETTINGS",
  "MOST_VALUE",
  "MOST_STANDINGS",
  "LETTERS",
  "is_among",
  "is_name",
  "is_row",
  "is_setting",
  "names_of",
  "all_standings",
  "need_settings",
  "MODES",
  "LIVE",
  "MOST_PLACES",
  "DO",
  "ASK",
  "END",
  "is_place",
  "need_places",
  "need_modes",
  "led",
  "Request",
  "_law_begun"]
def hdLoose1:List Str:=["_law_next",
  "_law_names",
  "_law_settings",
  "_law_odd",
  "_law_bent",
  "_law_places",
  "_law_modes",
  "_law_told",
  "_law_kept_right"]
def hdLoose:List Str:=hdLoose0 ++ hdLoose1
def hdDefs0:List He.DefD:=[⟨("is_among",none),"is_among","is_among",defArgs (topH 13),defBody (topH 13),defScope (topH 13),[],[]⟩,
  ⟨("is_name",none),"is_name","is_name",defArgs (topH 14),defBody (topH 14),defScope (topH 14),[],[]⟩,
  ⟨("is_row",none),"is_row","is_row",defArgs (topH 15),defBody (topH 15),defScope (topH 15),[],[]⟩,
  ⟨("is_setting",none),"is_setting","is_setting",defArgs (topH 16),defBody (topH 16),defScope (topH 16),[],[]⟩,
  ⟨("names_of",none),"names_of","names_of",defArgs (topH 17),defBody (topH 17),defScope (topH 17),[],[]⟩,
  ⟨("all_standings",none),"all_standings","all_standings",defArgs (topH 18),defBody (topH 18),defScope (topH 18),[],[]⟩,
  ⟨("need_settings",none),"need_settings","need_settings",defArgs (topH 19),defBody (topH 19),defScope (topH 19),[],[]⟩,
  ⟨("is_place",none),"is_place","is_place",defArgs (topH 27),defBody (topH 27),defScope (topH 27),[],[]⟩,
  ⟨("need_places",none),"need_places","need_places",defArgs (topH 28),defBody (topH 28),defScope (topH 28),[],[]⟩,
  ⟨("need_modes",none),"need_modes","need_modes",defArgs (topH 29),defBody (topH 29),defScope (topH 29),[],[]⟩,
  ⟨("Request",some "__init__"),"__init__","Request.__init__",defArgs (inClass (topH 31) 0),defBody (inClass (topH 31) 0),defScope (inClass (topH 31) 0),[.non],[]⟩,
  ⟨("Request",some "__len__"),"__len__","Request.__len__",defArgs (inClass (topH 31) 2),defBody (inClass (topH 31) 2),defScope (inClass (topH 31) 2),[],[]⟩,
  ⟨("Request",some "__eq__"),"__eq__","Request.__eq__",defArgs (inClass (topH 31) 3),defBody (inClass (topH 31) 3),defScope (inClass (topH 31) 3),[],[]⟩,
  ⟨("Request",some "with_modes"),"with_modes","Request.with_modes",defArgs (inClass (topH 31) 5),defBody (inClass (topH 31) 5),defScope (inClass (topH 31) 5),[],[]⟩,
  ⟨("Request",some "keeping"),"keeping","Request.keeping",defArgs (inClass (topH 31) 6),defBody (inClass (topH 31) 6),defScope (inClass (topH 31) 6),[],[]⟩,
  ⟨("_law_begun",none),"_law_begun","_law_begun",defArgs (topH 33),defBody (topH 33),defScope (topH 33),[],[]⟩,
  ⟨("_law_next",none),"_law_next","_law_next",defArgs (topH 34),defBody (topH 34),defScope (topH 34),[],[]⟩,
  ⟨("_law_names",none),"_law_names","_law_names",defArgs (topH 35),defBody (topH 35),defScope (topH 35),[],[]⟩,
  ⟨("_law_settings",none),"_law_settings","_law_settings",defArgs (topH 36),defBody (topH 36),defScope (topH 36),[],[]⟩,
  ⟨("_law_places",none),"_law_places","_law_places",defArgs (topH 39),defBody (topH 39),defScope (topH 39),[],[]⟩,
  ⟨("_law_modes",none),"_law_modes","_law_modes",defArgs (topH 40),defBody (topH 40),defScope (topH 40),[],[]⟩,
  ⟨("_law_told",none),"_law_told","_law_told",defArgs (topH 41),defBody (topH 41),defScope (topH 41),[],[]⟩,
  ⟨("_law_kept_right",none),"_law_kept_right","_law_kept_right",defArgs (topH 42),defBody (topH 42),defScope (topH 42),[],[]⟩,
  ⟨("law",none),"law","law",defArgs (topH 43),defBody (topH 43),defScope (topH 43),[],[]⟩]
def hdDefs:List He.DefD:=hdDefs0
def hdFacts0:List He.Fa:=[.glo "is_among",
  .glo "is_name",
  .glo "is_row",
  .glo "is_setting",
  .glo "names_of",
  .glo "all_standings",
  .glo "need_settings",
  .glo "is_place",
  .glo "need_places",
  .glo "need_modes",
  .meth "Request" "__init__",
  .meth "Request" "__len__",
  .meth "Request" "__eq__",
  .meth "Request" "with_modes",
  .meth "Request" "keeping",
  .glo "_law_begun",
  .glo "_law_next",
  .glo "_law_names",
  .glo "_law_settings",
  .glo "_law_places",
  .glo "_law_modes",
  .glo "_law_told",
  .glo "_law_kept_right",
  .glo "law",
  .glo "Request",
  .cls "Request",
  .mkr "Request",
  .noat "Request" "settings",
  .noat "Request" "places",
  .noat "Request" "modes"]
def hdFacts1:List He.Fa:=[.free "all",
  .free "bool",
  .free "dict",
  .free "enumerate",
  .free "int",
  .free "isinstance",
  .free "len",
  .free "list",
  .free "min",
  .free "range",
  .free "repr",
  .free "str",
  .free "tuple",
  .free "zip",
  .str "ASK" "ask",
  .str "DO" "do",
  .str "LETTERS" "abcdefghijklmnopqrstuvwxyz",
  .str "LIVE" "live",
  .int "MOST_PLACES" 16,
  .int "MOST_SETTINGS" 3,
  .int "MOST_STANDINGS" 12,
  .int "MOST_VALUE" 3,
  .glo "END",
  .glo "MODES",
  .exm "Missing" "BadModes" false]
def hdFacts:List He.Fa:=hdFacts0 ++ hdFacts1
def hdTabs:List He.Defn:=[("_law_kept_right",none),("law",none)]
def hdEx0:List (PySem.W.Frag→Bool):=[(fun K=>isB K (He.ga K "Request")),
  (fun K=>neB K (He.ga K "Request")),
  (fun K=>eqB K (He.ga K "Request")),
  (fun K=>He.tupB K "END" ((["end"]:List Str).map He.Dv.str)),
  (fun K=>He.tupB K "MODES" ((["live","met","begin"]:List Str).map He.Dv.str)),
  (fun K=>exB RwP "place" "ValueError" "ValueError.__new__" "ValueError.__init__" [.type "ValueError",.type "Exception",.type "BaseException",.type "object"] "BadSettings" K),
  (fun K=>exB RwP "place" "ValueError" "ValueError.__new__" "ValueError.__init__" [.type "ValueError",.type "Exception",.type "BaseException",.type "object"] "BadPlaces" K),
  (fun K=>exB RwP "place" "ValueError" "ValueError.__new__" "ValueError.__init__" [.type "ValueError",.type "Exception",.type "BaseException",.type "object"] "BadModes" K),
  (fun K=>exB RwP "name" "LookupError" "LookupError.__new__" "LookupError.__init__" [.type "LookupError",.type "Exception",.type "BaseException",.type "object"] "Missing" K),
  (fun K=>decide ((hdTabs.map fun p=>(He.cT K p).2).Nodup))]
def hdEx:List (PySem.W.Frag→Bool):=hdEx0
def hdXs:List Str:=["BadSettings","BadPlaces","BadModes","Missing"]
def hdXv:List ExV:=[exVal (inClass (topH 3) 0),exVal (inClass (topH 4) 0),exVal (inClass (topH 5) 0),exVal (inClass (topH 6) 0)]
def hdAs:List Addr:=List.range' 0 8192
abbrev hdEx_:PySem.W.Frag→Bool:=fun K=>hdEx.all fun f=>f K
abbrev hdHook:PySem.W.Hook:=hookZ hdAs hdFacts hdDefs hdTabs hdEx_ hdXs hdXv
def hdOb (s:PySem.W.SharedT):AlZ:=obsZ hdAs hdFacts hdDefs hdTabs hdEx_ hdXs (HandSHeadRun.getT s)
theorem hdOb_eq (s:PySem.W.SharedT):hdOb s=hdHook.obs s.abs:=obsZ_eq (HandSHeadRun.getT_eq s)
set_option maxHeartbeats 0 in
theorem hdRun (w:World):HandSHeadRun.RunEq RwR RwV hdHook hdOb 20000 hdLoose w:=by
  intro os
  kernel_rfl
end K06
set_option maxHeartbeats 1000000
namespace Ev
open PySem PySem.Spec L2
inductive D where
  | non | bl (b:Bool) | int (i:Int) | str (x:Str)
  | tup (xs:List D) | lst (xs:List D) | dct (kvs:List (D×D))
  | ins (c:Nat) (fs:List (Str×D)) | scr (ns:List Int) | ftp (xs:List D) | cls (c:Nat)
  /-- a dict whose keys are nested tuples; an exception with its class and field -/
  | kdc (kvs:List (D×D)) | exi (c:Nat) (f:Str) (x:D) | dkf (kvs:List (D×D))
  deriving Inhabited
inductive W where
  | d (x:D) | ref (i:Nat) | exc (c:Nat) (x:D) | fn
  deriving Inhabited
inductive O where
  | lst (xs:List W) | dct (kvs:List (Key×W)) | drw (cells left:List Int) (at_:Int) | ins (c:Nat) (fs:List (Str×W)) | tup (xs:List W) | kd (kvs:List (D×W))
  deriving Inhabited
abbrev Sto:=List O
abbrev Loc:=List (Option W)
inductive R (α:Type) where
  | ok (a:α) (S:Sto)
  | exn (c:Nat) (x:D) (S:Sto)
  | err
  deriving Inhabited
def R.bind {α β:Type} (r:R α) (k:α→Sto→R β):R β:=match r with
  | .ok a S=>k a S
  | .exn c x S=>.exn c x S
  | .err=>.err
abbrev FE:=Loc→Sto→R W
abbrev FA:=Loc→Sto→R (List W)
abbrev FT:=Loc→Sto→R Bool
inductive RS where
  | nx (ρ:Loc) (S:Sto) | rt (w:W) (S:Sto) | bk (ρ:Loc) (S:Sto) | ct (ρ:Loc) (S:Sto)
  | exn (c:Nat) (x:D) (ρ:Loc) (S:Sto)
  | err
  deriving Inhabited
abbrev FS:=Loc→Sto→RS
def plainT (o:Obj):Prop:=o.cls=.type "tuple" ∧ o.dict=none∧∃ its n,o.data=.seq its n
mutual
def nkD:D→NestedKey
  | .int i=>.num i
  | .str x=>.text x
  | .tup xs=>.tup (nkDs xs)
  | _=>.none
def nkDs:List D→List NestedKey
  | []=>[]
  | x :: xs=>nkD x :: nkDs xs
end
mutual
def nkOk:D→Bool
  | .non=>true
  | .int _=>true
  | .str _=>true
  | .tup xs=>nkOks xs
  | _=>false
def nkOks:List D→Bool
  | []=>true
  | x :: xs=>nkOk x && nkOks xs
end
def keyT (d:D):Bool:=nkOk d && decide ((nkD d).depth≤8) && (match d with
  | .tup _=>true
  | _=>false)
abbrev KEnt:=NestedKey×Addr×Value
def entK (w:World) (x:KEnt):DictEntry:=⟨x.1.hash w,.ref x.2.1,x.2.2⟩
def Kd (w:World) (a:Addr) (o:Obj) (xs:List KEnt):Prop :=
  xs.length≤sizeLine∧(a == sysModules)=false∧o.ExactDict∧(∃ es ep,o.data=.dict es ep∧es.toList=xs.map (entK w))∧(xs.map (·.1)).Nodup
def kdO (w:World) (a:Addr) (o:Obj) (xs:List KEnt):HO:=.ext fun h=>h.get? a=some o∧Kd w a o xs
def exO (cls:Value) (dd a:Addr):HO:=.ext fun h=>∃ (oe:Obj) (vs:Array Value),h.get? a=some oe∧Zc cls (some dd) oe∧oe.data=.fields vs∧vs[1]? = some .none∧vs[2]? = some .none
theorem kd_data {w:World} {a:Addr} {o:Obj} {xs:List KEnt} (h:Kd w a o xs):∀ vs,o.data ≠ .fields vs:=fun vs e=>by
  obtain ⟨_,_,_,⟨es,ep,hd,_⟩,_⟩:=h
  rw [hd] at e
  cases e
structure Cl where
  fn:Nat→Addr
  w:World
instance:CoeFun Cl (fun _=>Nat→Addr):=⟨Cl.fn⟩
section
variable (K:PySem.W.Frag) (cls:Cl) (H:Hp) (ex:List Addr)
mutual
inductive Rep:D→V→Prop
  | non:Rep .non .non
  | bl (b:Bool):Rep (.bl b) (.bl b)
  | int (i:Int):Rep (.int i) (.int i)
  | str (x:Str):Rep (.str x) (.str x)
  | tup {a:Addr} {vs:List V} {ds:List D}:a ∉ ex→H a=some (.tup vs)→Reps ds vs→Rep (.tup ds) (.ref a)
  | tupK {a:Addr} {vs:List V} {ds:List D} {o:Obj} {its:Array Value} {n:Nat}:K.lookup a=some o→o.cls=.type "tuple" → o.data=.seq its n→its.size≤sizeLine→Vals vs its.toList→Reps ds vs→Rep (.tup ds) (.ref a)
  | tupF {a:Addr} {vs:List V} {ds:List D} {o:Obj}:a ∉ ex→H a=some (.frz o (.tup vs))→Reps ds vs→Rep (.tup ds) (.ref a)
  | ftp {a:Addr} {vs:List V} {ds:List D} {o:Obj}:a ∉ ex→H a=some (.frz o (.tup vs))→plainT o→Reps ds vs→Rep (.ftp ds) (.ref a)
  | lst {a:Addr} {vs:List V} {ds:List D}:a ∉ ex→H a=some (.lst vs)→Reps ds vs→Rep (.lst ds) (.ref a)
  | scr {a:Addr} {u:HO} {ns:List Int}:a ∉ ex→H a=some u→(u=.lst (ns.map V.int)∨∃ o,u=.frz o (.lst (ns.map V.int)))→Rep (.scr ns) (.ref a)
  | scrK {a:Addr} {ns:List Int} {o:Obj} {its:Array Value} {n:Nat}:K.lookup a=some o→o.cls=.type "list" → o.dict=none→o.data=.seq its n→its.size≤sizeLine→Vals (ns.map V.int) its.toList→Rep (.scr ns) (.ref a)
  | dK {a:Addr} {kvs:List (Key×V)} {ds:List (D×D)}:a ∉ ex→H a=some (.dK kvs)→RepK ds kvs→Rep (.dct ds) (.ref a)
  | ins {a dx:Addr} {c:Nat} {fs:List (Str×V)} {ds:List (Str×D)}:a ∉ ex→H a=some (.ins (cls c) dx fs)→RepF ds fs→Rep (.ins c ds) (.ref a)
  | cls (c:Nat):Rep (.cls c) (.ref (cls c))
  | kdc {a:Addr} {o:Obj} {xs:List KEnt} {ds:List (D×D)}:a ∉ ex→H a=some (kdO cls.w a o xs)→RepN ds xs→Rep (.kdc ds) (.ref a)
  | dkf {a:Addr} {o:Obj} {kvs:List (Key×V)} {ds:List (D×D)}:a ∉ ex→H a=some (.frz o (.dK kvs))→RepK ds kvs→Rep (.dkf ds) (.ref a)
  | exi {a dd:Addr} {c:Nat} {f:Str} {x:D} {v:V}:a ∉ ex→H a=some (exO (.ref (cls c)) dd a)→dd ∉ ex→H dd=some (.xd [(f,v)])→Rep x v→Rep (.exi c f x) (.ref a)
inductive Reps:List D→List V→Prop
  | nil:Reps [] []
  | cons {d:D} {v:V} {ds:List D} {vs:List V}:Rep d v→Reps ds vs→Reps (d :: ds) (v :: vs)
inductive RepK:List (D×D)→List (Key×V)→Prop
  | nil:RepK [] []
  | int {i:Int} {d:D} {v:V} {ds:List (D×D)} {vs:List (Key×V)}:Rep d v→RepK ds vs→RepK ((.int i,d) :: ds) ((.inl i,v) :: vs)
  | str {x:Str} {d:D} {v:V} {ds:List (D×D)} {vs:List (Key×V)}:Rep d v→RepK ds vs→RepK ((.str x,d) :: ds) ((.inr x,v) :: vs)
inductive RepN:List (D×D)→List KEnt→Prop
  | nil:RepN [] []
  | cons {k d:D} {b:Addr} {v:V} {u:Value} {ds:List (D×D)} {xs:List KEnt}:keyT k=true→Rep k (.ref b)→Rep d v→RelV v u→RepN ds xs→RepN ((k,d) :: ds) ((nkD k,b,u) :: xs)
inductive RepF:List (Str×D)→List (Str×V)→Prop
  | nil:RepF [] []
  | cons {x:Str} {d:D} {v:V} {ds:List (Str×D)} {vs:List (Str×V)}:Rep d v→RepF ds vs→RepF ((x,d) :: ds) ((x,v) :: vs)
end
end
abbrev Ads:=List (Addr×List Addr)
def flat (ι:Ads):List Addr:=ι.flatMap fun p=>p.1 :: p.2
theorem mem_flat {ι:Ads} {i:Nat} {p:Addr×List Addr} (h:ι[i]? = some p):p.1∈flat ι :=
  List.mem_flatMap.mpr ⟨p,List.mem_iff_getElem?.mpr ⟨i,h⟩,List.mem_cons_self⟩
theorem mem_flat2 {ι:Ads} {i:Nat} {p:Addr×List Addr} {a:Addr} (h:ι[i]? = some p) (ha:a∈p.2):a∈flat ι :=
  List.mem_flatMap.mpr ⟨p,List.mem_iff_getElem?.mpr ⟨i,h⟩,List.mem_cons_of_mem _ ha⟩
def notTbl (o:HO):Prop:=∀ ps,o ≠ .tbl ps
structure Ext (ι:Ads) (H:Hp) (ι':Ads) (H':Hp):Prop where
  at_:∀ (i:Nat) (p:Addr×List Addr),ι[i]? = some p→∃ p',ι'[i]? = some p'∧p'.1=p.1
  sub:∀ b∈flat ι',b∈flat ι∨H b=none
  dom:∀ b,H' b=none→H b=none
  keep:∀ b o,b ∉ flat ι→H b=some o→notTbl o→H' b=some o
theorem Ext.refl (ι:Ads) (H:Hp):Ext ι H ι H:=⟨fun _ p h=>⟨p,h,rfl⟩,fun _ h=>.inl h,fun _ h=>h,fun _ _ _ h _=>h⟩
theorem Ext.notin {ι ι':Ads} {H H':Hp} (x:Ext ι H ι' H') {a:Addr} (h:a ∉ flat ι) (n:H a ≠ none):a ∉ flat ι':=fun q=>by
  rcases x.sub a q with z | z
  · exact h z
  · exact n z
theorem Ext.trans {ι ι1 ι2:Ads} {H H1 H2:Hp} (x:Ext ι H ι1 H1) (y:Ext ι1 H1 ι2 H2):Ext ι H ι2 H2:=by
  refine ⟨fun i p h=>?_,fun b h=>?_,fun b h=>x.dom b (y.dom b h),fun b o nb h nt=>?_⟩
  · obtain ⟨p1,h1,e1⟩:=x.at_ i p h
    obtain ⟨p2,h2,e2⟩:=y.at_ i p1 h1
    exact ⟨p2,h2,e2.trans e1⟩
  · rcases y.sub b h with z | z
    · exact x.sub b z
    · exact .inr (x.dom b z)
  · exact y.keep b o (x.notin nb (by rw [h]; simp)) (x.keep b o nb h nt) nt
theorem nt_tup {vs:List V}:notTbl (.tup vs):=fun _ h=>nomatch h
theorem nt_lst {vs:List V}:notTbl (.lst vs):=fun _ h=>nomatch h
theorem nt_frz {o:Obj} {u:HO}:notTbl (.frz o u):=fun _ h=>nomatch h
theorem nt_dK {vs:List (Key×V)}:notTbl (.dK vs):=fun _ h=>nomatch h
theorem nt_ins {C dx:Addr} {fs:List (Str×V)}:notTbl (.ins C dx fs):=fun _ h=>nomatch h
theorem nt_ext {φ:Heap→Prop}:notTbl (.ext φ):=fun _ h=>nomatch h
theorem nt_kd {w:World} {a:Addr} {o:Obj} {xs:List KEnt}:notTbl (kdO w a o xs):=nt_ext
theorem nt_exO {cls:Value} {dd a:Addr}:notTbl (exO cls dd a):=nt_ext
theorem nt_xd {fs:List (Str×V)}:notTbl (.xd fs):=fun _ h=>nomatch h
section
variable {K:PySem.W.Frag} {cls:Cl} {H H':Hp} {ι ι':Ads} {B:List Addr}
structure ExtW (B:List Addr) (ι:Ads) (H:Hp) (ι':Ads) (H':Hp):Prop where
  sub:∀ b∈flat ι',b∈flat ι∨H b=none
  keep:∀ b o,b ∉ B ++ flat ι→H b=some o→notTbl o→H' b=some o
theorem notB {a:Addr} (h:a ∉ B ++ flat ι):a ∉ flat ι:=fun z=>h (List.mem_append_right _ z)
theorem Ext.toW (x:Ext ι H ι' H'):ExtW B ι H ι' H':=⟨x.sub,fun b o n h nt=>x.keep b o (notB n) h nt⟩
theorem ExtW.notinB (x:ExtW B ι H ι' H') {a:Addr} (h:a ∉ B ++ flat ι) (n:H a ≠ none):a ∉ B ++ flat ι':=fun q=>by
  rcases List.mem_append.mp q with z | z
  · exact h (List.mem_append_left _ z)
  · rcases x.sub a z with y | y
    · exact h (List.mem_append_right _ y)
    · exact n y
theorem ExtW.trans {ι1:Ads} {H1:Hp} (d:∀ b,H1 b=none→H b=none) (x:ExtW B ι H ι1 H1) (y:ExtW B ι1 H1 ι' H'):ExtW B ι H ι' H':=by
  refine ⟨fun b h=>?_,fun b o nb h nt=>?_⟩
  · rcases y.sub b h with z | z
    · exact x.sub b z
    · exact .inr (d b z)
  · exact y.keep b o (x.notinB nb (by rw [h]; simp)) (x.keep b o nb h nt) nt
mutual
theorem Rep.extW (x:ExtW B ι H ι' H'):∀ {d:D} {v:V},Rep K cls H (B ++ flat ι) d v→Rep K cls H' (B ++ flat ι') d v
  | _,_,.non=>.non
  | _,_,.bl b=>.bl b
  | _,_,.int i=>.int i
  | _,_,.str i=>.str i
  | _,_,.tup n h r=>.tup (x.notinB n (by rw [h]; simp)) (x.keep _ _ n h nt_tup) (Reps.extW x r)
  | _,_,.tupK h1 h2 h3 h4 h5 r=>.tupK h1 h2 h3 h4 h5 (Reps.extW x r)
  | _,_,.tupF n h r=>.tupF (x.notinB n (by rw [h]; simp)) (x.keep _ _ n h nt_frz) (Reps.extW x r)
  | _,_,.ftp n h p r=>.ftp (x.notinB n (by rw [h]; simp)) (x.keep _ _ n h nt_frz) p (Reps.extW x r)
  | _,_,.lst n h r=>.lst (x.notinB n (by rw [h]; simp)) (x.keep _ _ n h nt_lst) (Reps.extW x r)
  | _,_,.scr n h q=>.scr (x.notinB n (by rw [h]; simp)) (x.keep _ _ n h (by rcases q with rfl | ⟨o,rfl⟩; exact nt_lst; exact nt_frz)) q
  | _,_,.scrK h1 h2 h3 h4 h5 h6=>.scrK h1 h2 h3 h4 h5 h6
  | _,_,.dK n h r=>.dK (x.notinB n (by rw [h]; simp)) (x.keep _ _ n h nt_dK) (RepK.extW x r)
  | _,_,.ins n h r=>.ins (x.notinB n (by rw [h]; simp)) (x.keep _ _ n h nt_ins) (RepF.extW x r)
  | _,_,.cls c=>.cls c
  | _,_,.kdc n h r=>.kdc (x.notinB n (by rw [h]; simp)) (x.keep _ _ n h nt_kd) (RepN.extW x r)
  | _,_,.dkf n h r=>.dkf (x.notinB n (by rw [h]; simp)) (x.keep _ _ n h nt_frz) (RepK.extW x r)
  | _,_,.exi n h m g r=>.exi (x.notinB n (by rw [h]; simp)) (x.keep _ _ n h nt_exO) (x.notinB m (by rw [g]; simp)) (x.keep _ _ m g nt_xd) (Rep.extW x r)
theorem Reps.extW (x:ExtW B ι H ι' H'):∀ {d:List D} {v:List V},Reps K cls H (B ++ flat ι) d v→Reps K cls H' (B ++ flat ι') d v
  | _,_,.nil=>.nil
  | _,_,.cons r t=>.cons (Rep.extW x r) (Reps.extW x t)
theorem RepK.extW (x:ExtW B ι H ι' H'):∀ {d:List (D×D)} {v:List (Key×V)},RepK K cls H (B ++ flat ι) d v→RepK K cls H' (B ++ flat ι') d v
  | _,_,.nil=>.nil
  | _,_,.int r t=>.int (Rep.extW x r) (RepK.extW x t)
  | _,_,.str r t=>.str (Rep.extW x r) (RepK.extW x t)
theorem RepN.extW (x:ExtW B ι H ι' H'):∀ {d:List (D×D)} {v:List KEnt},RepN K cls H (B ++ flat ι) d v→RepN K cls H' (B ++ flat ι') d v
  | _,_,.nil=>.nil
  | _,_,.cons hk r q e t=>.cons hk (Rep.extW x r) (Rep.extW x q) e (RepN.extW x t)
theorem RepF.extW (x:ExtW B ι H ι' H'):∀ {d:List (Str×D)} {v:List (Str×V)},RepF K cls H (B ++ flat ι) d v→RepF K cls H' (B ++ flat ι') d v
  | _,_,.nil=>.nil
  | _,_,.cons r t=>.cons (Rep.extW x r) (RepF.extW x t)
end
theorem Rep.ext (x:Ext ι H ι' H') {d:D} {v:V} (r:Rep K cls H (B ++ flat ι) d v):Rep K cls H' (B ++ flat ι') d v:=Rep.extW x.toW r
theorem Reps.ext (x:Ext ι H ι' H') {d:List D} {v:List V} (r:Reps K cls H (B ++ flat ι) d v):Reps K cls H' (B ++ flat ι') d v:=Reps.extW x.toW r
end
section
variable {K:PySem.W.Frag} {cls:Cl} {H:Hp} {e e':List Addr}
mutual
theorem Rep.sub (x:∀ a∈e',H a ≠ none→a∈e):∀ {d:D} {v:V},Rep K cls H e d v→Rep K cls H e' d v
  | _,_,.non=>.non
  | _,_,.bl b=>.bl b
  | _,_,.int i=>.int i
  | _,_,.str i=>.str i
  | _,_,.tup n h r=>.tup (fun z=>n (x _ z (by rw [h]; simp))) h (Reps.sub x r)
  | _,_,.tupK h1 h2 h3 h4 h5 r=>.tupK h1 h2 h3 h4 h5 (Reps.sub x r)
  | _,_,.tupF n h r=>.tupF (fun z=>n (x _ z (by rw [h]; simp))) h (Reps.sub x r)
  | _,_,.ftp n h p r=>.ftp (fun z=>n (x _ z (by rw [h]; simp))) h p (Reps.sub x r)
  | _,_,.lst n h r=>.lst (fun z=>n (x _ z (by rw [h]; simp))) h (Reps.sub x r)
  | _,_,.scr n h q=>.scr (fun z=>n (x _ z (by rw [h]; simp))) h q
  | _,_,.scrK h1 h2 h3 h4 h5 h6=>.scrK h1 h2 h3 h4 h5 h6
  | _,_,.dK n h r=>.dK (fun z=>n (x _ z (by rw [h]; simp))) h (RepK.sub x r)
  | _,_,.ins n h r=>.ins (fun z=>n (x _ z (by rw [h]; simp))) h (RepF.sub x r)
  | _,_,.cls c=>.cls c
  | _,_,.kdc n h r=>.kdc (fun z=>n (x _ z (by rw [h]; simp))) h (RepN.sub x r)
  | _,_,.dkf n h r=>.dkf (fun z=>n (x _ z (by rw [h]; simp))) h (RepK.sub x r)
  | _,_,.exi n h m g r=>.exi (fun z=>n (x _ z (by rw [h]; simp))) h (fun z=>m (x _ z (by rw [g]; simp))) g (Rep.sub x r)
theorem Reps.sub (x:∀ a∈e',H a ≠ none→a∈e):∀ {d:List D} {v:List V},Reps K cls H e d v→Reps K cls H e' d v
  | _,_,.nil=>.nil
  | _,_,.cons r t=>.cons (Rep.sub x r) (Reps.sub x t)
theorem RepK.sub (x:∀ a∈e',H a ≠ none→a∈e):∀ {d:List (D×D)} {v:List (Key×V)},RepK K cls H e d v→RepK K cls H e' d v
  | _,_,.nil=>.nil
  | _,_,.int r t=>.int (Rep.sub x r) (RepK.sub x t)
  | _,_,.str r t=>.str (Rep.sub x r) (RepK.sub x t)
theorem RepN.sub (x:∀ a∈e',H a ≠ none→a∈e):∀ {d:List (D×D)} {v:List KEnt},RepN K cls H e d v→RepN K cls H e' d v
  | _,_,.nil=>.nil
  | _,_,.cons hk r q z t=>.cons hk (Rep.sub x r) (Rep.sub x q) z (RepN.sub x t)
theorem RepF.sub (x:∀ a∈e',H a ≠ none→a∈e):∀ {d:List (Str×D)} {v:List (Str×V)},RepF K cls H e d v→RepF K cls H e' d v
  | _,_,.nil=>.nil
  | _,_,.cons r t=>.cons (Rep.sub x r) (RepF.sub x t)
end
end
end Ev
namespace Ev
open PySem PySem.Spec L2
structure Fx where
  K:PySem.W.Frag
  cls:Cl
  fld:Nat→Str
  T:List (Addr×Str)
  /-- the exception that is handled,and its own dict -/
  xa:Option (Addr×Addr):=none
  /-- the function that was handed over,its code object,the name of this,what it has captured -/
  lam:Option (Addr×Addr×Str×Loc×L2.St):=none
section
variable (F:Fx) (H:Hp) (B:List Addr) (ι:Ads)
abbrev RD:=Rep F.K F.cls H (B ++ flat ι)
abbrev RDs:=Reps F.K F.cls H (B ++ flat ι)
def RC (K:PySem.W.Frag) (cls:Cl) (H:Hp) (B:List Addr) (ι:Ads):W→V→Prop
  | .d x,v=>Rep K cls H (B ++ flat ι) x v
  | .ref i,v=>∃ p,ι[i]? = some p∧v=.ref p.1
  | _,_=>False
def RCL (K:PySem.W.Frag) (cls:Cl) (H:Hp) (B:List Addr) (ι:Ads):Option W→Option V→Prop
  | none,_=>True
  | some w,some v=>RC K cls H B ι w v
  | some _,none=>False
def ExT (cls:Value) (dd a:Addr):HO:=.ext fun h=>∃ (oe:Obj) (vs:Array Value),h.get? a=some oe∧Zc cls (some dd) oe∧oe.data=.fields vs
def XAt (c:Nat) (a dd:Addr):Prop:=F.xa=some (a,dd)∨(H a=some (ExT (.ref (F.cls c)) dd a)∧a ∉ B ++ flat ι)
def RW:W→V→Prop
  | .d x,v=>RD F H B ι x v
  | .ref i,v=>∃ p,ι[i]? = some p∧v=.ref p.1
  | .exc c x,v=>∃ a dd u,XAt F H B ι c a dd∧v=.ref a∧H dd=some (.xd [(F.fld c,u)])∧dd ∉ flat ι∧RD F H B ι x u
  | .fn,v=>∃ a c q ρL σL,F.lam=some (a,c,q,ρL,σL)∧v=.ref a∧H c=some (LamX.CodeO c q)∧c ∉ flat ι∧Paired (RCL F.K F.cls H B ι) ρL σL
abbrev RWs:List W→List V→Prop:=Paired (RW F H B ι)
abbrev RWF:List (Str×W)→List (Str×V)→Prop:=Paired fun p q=>p.1=q.1∧RW F H B ι p.2 q.2
abbrev RWK:List (Key×W)→List (Key×V)→Prop:=Paired fun p q=>p.1=q.1∧RW F H B ι p.2 q.2
def sCells:Str:="cells"
def sLeft:Str:="left"
def sAt:Str:="at"
abbrev RWN:List (D×W)→List KEnt→Prop:=Paired fun q x=>keyT q.1=true∧x.1=nkD q.1∧RD F H B ι q.1 (.ref x.2.1)∧∃ v,RelV v x.2.2∧RW F H B ι q.2 v
def RO:O→Addr×List Addr→Prop
  | .lst ws,p=>p.2=[]∧∃ vs,H p.1=some (.lst vs)∧RWs F H B ι ws vs
  | .tup ws,p=>p.2=[]∧∃ vs,H p.1=some (.tup vs)∧RWs F H B ι ws vs
  | .kd kvs,p=>p.2=[]∧∃ o xs,H p.1=some (kdO F.cls.w p.1 o xs)∧RWN F H B ι kvs xs
  | .dct kvs,p=>p.2=[]∧∃ vs,H p.1=some (.dK vs)∧RWK F H B ι kvs vs
  | .drw cs ls n,p=>∃ aC aL,p.2=[aC,aL]∧H p.1=some (.dK [(.inr sCells,.ref aC),(.inr sLeft,.ref aL),(.inr sAt,.int n)])∧H aC=some (.lst (cs.map V.int))∧H aL=some (.lst (ls.map V.int))
  | .ins c fs,p=>p.2=[]∧∃ dx vs,H p.1=some (.ins (F.cls c) dx vs)∧RWF F H B ι fs vs
def RL:Option W→Option V→Prop
  | none,_=>True
  | some w,some v=>RW F H B ι w v
  | some _,none=>False
def TabA (T:List (Addr×Str)) (H:Hp):Prop:=LamX.Tabs T H∧∀ b ps,H b=some (.tbl ps)→∃ q,(b,q)∈T
structure RelS (S:Sto):Prop where
  nd:(flat ι).Nodup
  len:ι.length=S.length
  obj:∀ (i:Nat) (p:Addr×List Addr) (o:O),ι[i]? = some p→S[i]? = some o→RO F H B ι o p
  tab:TabA F.T H
  bs:∀ b∈B,H b ≠ none
  dis:∀ b∈B,b ∉ flat ι
structure Rel (ρ:Loc) (S:Sto) (σ:L2.St):Prop extends RelS F H B ι S where
  loc:Paired (RL F H B ι) ρ σ
def RX (c:Nat) (x:D) (cv:Value) (d:Option Addr):Prop :=
  cv=.ref (F.cls c)∧∃ a v,d=some a∧H a=some (.xd [(F.fld c,v)])∧a ∉ flat ι∧RD F H B ι x v
end
section
variable {F:Fx} {H H':Hp} {B:List Addr} {ι ι':Ads}
theorem pImp {α β:Type} {A C:α→β→Prop} (f:∀ a b,A a b→C a b):∀ {l:List α} {m:List β},Paired A l m→Paired C l m
  | _,_,.nil=>.nil
  | _,_,.cons r t=>.cons (f _ _ r) (pImp f t)
theorem RC.ext (x:Ext ι H ι' H'):∀ {w:W} {v:V},RC F.K F.cls H B ι w v→RC F.K F.cls H' B ι' w v
  | .d _,_,h=>Rep.ext x h
  | .ref _,_,⟨p,h,e⟩=>by
    obtain ⟨p',h',e'⟩:=x.at_ _ p h
    exact ⟨p',h',by rw [e,e']⟩
theorem RCL.ext (x:Ext ι H ι' H'):∀ {w:Option W} {v:Option V},RCL F.K F.cls H B ι w v→RCL F.K F.cls H' B ι' w v
  | none,_,_=>trivial
  | some _,some _,h=>RC.ext x h
theorem nt_exT {cls:Value} {dd a:Addr}:notTbl (ExT cls dd a):=fun _ h=>nomatch h
theorem XAt.ext (x:Ext ι H ι' H') {c:Nat} {a dd:Addr}:XAt F H B ι c a dd→XAt F H' B ι' c a dd
  | .inl h=>.inl h
  | .inr ⟨h1,h2⟩=>.inr ⟨x.keep _ _ (fun z=>h2 (List.mem_append_right _ z)) h1 nt_exT,fun z=>by
      rcases List.mem_append.mp z with y | y
      · exact h2 (List.mem_append_left _ y)
      · exact x.notin (fun z=>h2 (List.mem_append_right _ z)) (by rw [h1]; simp) y⟩
theorem RW.ext (x:Ext ι H ι' H'):∀ {w:W} {v:V},RW F H B ι w v→RW F H' B ι' w v
  | .d _,_,h=>Rep.ext x h
  | .ref _,_,⟨p,h,e⟩=>by
    obtain ⟨p',h',e'⟩:=x.at_ _ p h
    exact ⟨p',h',by rw [e,e']⟩
  | .exc _ _,_,⟨a,dd,u,h1,h2,h3,h4,h5⟩=>⟨a,dd,u,h1.ext x,h2,x.keep _ _ h4 h3 nt_xd,x.notin h4 (by rw [h3]; simp),Rep.ext x h5⟩
  | .fn,_,⟨a,c,q,ρL,σL,h1,h2,h3,h4,h5⟩=>⟨a,c,q,ρL,σL,h1,h2,x.keep _ _ h4 h3 LamX.codeO_ne,x.notin h4 (by rw [h3]; simp),pImp (fun _ _ r=>RCL.ext x r) h5⟩
theorem RWs.ext (x:Ext ι H ι' H') {ws:List W} {vs:List V} (h:RWs F H B ι ws vs):RWs F H' B ι' ws vs:=pImp (fun _ _ r=>RW.ext x r) h
theorem RWN.ext (x:Ext ι H ι' H') {ws:List (D×W)} {xs:List KEnt} (h:RWN F H B ι ws xs):RWN F H' B ι' ws xs:=pImp (fun _ _ r=>by
  obtain ⟨h1,h2,h3,v,h4,h5⟩:=r
  exact ⟨h1,h2,Rep.ext x h3,v,h4,RW.ext x h5⟩) h
theorem RL.ext (x:Ext ι H ι' H'):∀ {w:Option W} {v:Option V},RL F H B ι w v→RL F H' B ι' w v
  | none,_,_=>trivial
  | some _,some _,h=>RW.ext x h
theorem RX.ext (x:Ext ι H ι' H') {c:Nat} {d:D} {cv:Value} {od:Option Addr} (h:RX F H B ι c d cv od):RX F H' B ι' c d cv od:=by
  obtain ⟨e,a,v,e2,h1,n,r⟩:=h
  exact ⟨e,a,v,e2,x.keep _ _ n h1 nt_xd,x.notin n (by rw [h1]; simp),r.ext x⟩
theorem RO.ext (x:Ext ι H ι' H') {o:O} {p:Addr×List Addr} (e:∀ a,a=p.1∨a∈p.2→H' a=H a) (h:RO F H B ι o p):RO F H' B ι' o p:=by
  cases o with
  | lst ws=>obtain ⟨h0,vs,h1,r⟩:=h; exact ⟨h0,vs,by rw [e _ (.inl rfl)]; exact h1,RWs.ext x r⟩
  | tup ws=>obtain ⟨h0,vs,h1,r⟩:=h; exact ⟨h0,vs,by rw [e _ (.inl rfl)]; exact h1,RWs.ext x r⟩
  | kd ws=>obtain ⟨h0,o,vs,h1,r⟩:=h; exact ⟨h0,o,vs,by rw [e _ (.inl rfl)]; exact h1,RWN.ext x r⟩
  | dct ws=>obtain ⟨h0,vs,h1,r⟩:=h; exact ⟨h0,vs,by rw [e _ (.inl rfl)]; exact h1,pImp (fun _ _ q=>⟨q.1,RW.ext x q.2⟩) r⟩
  | ins c fs=>obtain ⟨h0,dx,vs,h1,r⟩:=h; exact ⟨h0,dx,vs,by rw [e _ (.inl rfl)]; exact h1,pImp (fun _ _ q=>⟨q.1,RW.ext x q.2⟩) r⟩
  | drw cs ls n=>obtain ⟨aC,aL,h0,h1,h2,h3⟩:=h; exact ⟨aC,aL,h0,by rw [e _ (.inl rfl)]; exact h1,by rw [e _ (.inr (by rw [h0]; simp))]; exact h2,by rw [e _ (.inr (by rw [h0]; simp))]; exact h3⟩
theorem RO.tracked {o:O} {p:Addr×List Addr} (h:RO F H B ι o p) {a:Addr} (ha:a=p.1∨a∈p.2):H a ≠ none:=by
  cases o with
  | lst ws =>
    obtain ⟨h0,vs,h1,r⟩:=h
    rcases ha with rfl | ha
    · rw [h1]; simp
    · rw [h0] at ha; simp at ha
  | tup ws =>
    obtain ⟨h0,vs,h1,r⟩:=h
    rcases ha with rfl | ha
    · rw [h1]; simp
    · rw [h0] at ha; simp at ha
  | kd ws =>
    obtain ⟨h0,o,vs,h1,r⟩:=h
    rcases ha with rfl | ha
    · rw [h1]; simp
    · rw [h0] at ha; simp at ha
  | dct ws =>
    obtain ⟨h0,vs,h1,r⟩:=h
    rcases ha with rfl | ha
    · rw [h1]; simp
    · rw [h0] at ha; simp at ha
  | ins c fs =>
    obtain ⟨h0,dx,vs,h1,r⟩:=h
    rcases ha with rfl | ha
    · rw [h1]; simp
    · rw [h0] at ha; simp at ha
  | drw cs ls n =>
    obtain ⟨aC,aL,h0,h1,h2,h3⟩:=h
    rcases ha with rfl | ha
    · rw [h1]; simp
    · rw [h0] at ha
      simp at ha
      rcases ha with rfl | rfl
      · rw [h2]; simp
      · rw [h3]; simp
def NoC (H:Hp) (A:Addr):Prop:=∀ c q,H A ≠ some (LamX.CodeO c q)
theorem noC1 {u:HO} (n:∀ φ,u ≠ .ext φ):∀ c q,u ≠ LamX.CodeO c q:=fun _ _ z=>n _ z
theorem noC_of {H:Hp} {A:Addr} {u:HO} (h:H A=some u) (n:∀ φ,u ≠ .ext φ):NoC H A:=fun c q z=>n _ (Option.some.inj (h.symm.trans z))
theorem kdO_code {w:World} {a:Addr} {o:Obj} {xs:List KEnt} {c:Addr} {q:Str}:kdO w a o xs ≠ LamX.CodeO c q:=fun z=>by
  unfold kdO LamX.CodeO at z
  have e:=HO.ext.inj z
  let oc:Obj:={ cls:=.none,data:=.fields #[.none,.str q 0] }
  let fr:Obj:={ cls:=.none,data:=.freed }
  let h:Heap:={ objs:=(Array.replicate c fr).push oc }
  have hp:h.objs[c]? = some oc:=by
    have:=Array.getElem?_push_size (xs:=Array.replicate c fr) (x:=oc)
    rw [Array.size_replicate] at this
    exact this
  have hc:h.get? c=some oc:=by
    unfold Heap.get?
    rw [hp]
  have hk:=congrFun e h
  simp only [eq_iff_iff] at hk
  obtain ⟨h1,kd⟩:=hk.mpr ⟨oc,_,0,hc,rfl,rfl⟩
  by_cases ac:a=c
  · subst ac
    rw [hc] at h1
    exact kd_data kd _ (by rw [← Option.some.inj h1])
  · have:h.get? a=none:=by
      unfold Heap.get?
      simp only [h,Array.getElem?_push,Array.size_replicate]
      rw [if_neg (fun z=>ac z)]
      by_cases l:a < c
      · simp [l,fr]
      · simp [l]
    rw [this] at h1
    cases h1
theorem RO.ntbl {o:O} {p:Addr×List Addr} (h:RO F H B ι o p) {a:Addr} (ha:a=p.1∨a∈p.2) {u:HO} (e:H a=some u):notTbl u∧∀ c q,u ≠ LamX.CodeO c q:=by
  cases o with
  | lst ws =>
    obtain ⟨h0,vs,h1,r⟩:=h
    rcases ha with rfl | ha
    · rw [h1] at e; cases e; exact ⟨nt_lst,noC1 fun _ z=>nomatch z⟩
    · rw [h0] at ha; simp at ha
  | tup ws =>
    obtain ⟨h0,vs,h1,r⟩:=h
    rcases ha with rfl | ha
    · rw [h1] at e; cases e; exact ⟨nt_tup,noC1 fun _ z=>nomatch z⟩
    · rw [h0] at ha; simp at ha
  | kd ws =>
    obtain ⟨h0,o,vs,h1,r⟩:=h
    rcases ha with rfl | ha
    · rw [h1] at e; cases e; exact ⟨nt_kd,fun c q=>kdO_code⟩
    · rw [h0] at ha; simp at ha
  | dct ws =>
    obtain ⟨h0,vs,h1,r⟩:=h
    rcases ha with rfl | ha
    · rw [h1] at e; cases e; exact ⟨nt_dK,noC1 fun _ z=>nomatch z⟩
    · rw [h0] at ha; simp at ha
  | ins c fs =>
    obtain ⟨h0,dx,vs,h1,r⟩:=h
    rcases ha with rfl | ha
    · rw [h1] at e; cases e; exact ⟨nt_ins,noC1 fun _ z=>nomatch z⟩
    · rw [h0] at ha; simp at ha
  | drw cs ls n =>
    obtain ⟨aC,aL,h0,h1,h2,h3⟩:=h
    rcases ha with rfl | ha
    · rw [h1] at e; cases e; exact ⟨nt_dK,noC1 fun _ z=>nomatch z⟩
    · rw [h0] at ha
      simp at ha
      rcases ha with rfl | rfl
      · rw [h2] at e; cases e; exact ⟨nt_lst,noC1 fun _ z=>nomatch z⟩
      · rw [h3] at e; cases e; exact ⟨nt_lst,noC1 fun _ z=>nomatch z⟩
theorem RelS.at_some {S:Sto} (r:RelS F H B ι S) {i:Nat} {p:Addr×List Addr} (h:ι[i]? = some p):∃ o,S[i]? = some o∧RO F H B ι o p:=by
  have hl:i < ι.length:=(List.getElem?_eq_some_iff.mp h).1
  rw [r.len] at hl
  exact ⟨S[i],List.getElem?_eq_getElem hl,r.obj i p _ h (List.getElem?_eq_getElem hl)⟩
theorem RelS.mem_flat {S:Sto} (r:RelS F H B ι S) {a:Addr} (h:a∈flat ι):∃ (i:Nat) (p:Addr×List Addr) (o:O),ι[i]? = some p∧S[i]? = some o∧RO F H B ι o p∧(a=p.1∨a∈p.2):=by
  obtain ⟨p,hp,ha⟩:=List.mem_flatMap.mp h
  obtain ⟨i,hi⟩:=List.mem_iff_getElem?.mp hp
  obtain ⟨o,h1,ho⟩:=r.at_some hi
  exact ⟨i,p,o,hi,h1,ho,List.mem_cons.mp ha⟩
theorem RelS.mem_some {S:Sto} (r:RelS F H B ι S) {a:Addr} (h:a∈flat ι):H a ≠ none:=by
  obtain ⟨_,_,_,_,_,ho,ha⟩:=r.mem_flat h
  exact ho.tracked ha
theorem RelS.fresh {S:Sto} (r:RelS F H B ι S) {p:Addr} (h:H p=none):p ∉ B ++ flat ι:=fun q=>by
  rcases List.mem_append.mp q with z | z
  · exact r.bs p z h
  · exact r.mem_some z h
theorem RelS.stay {S:Sto} (r:RelS F H B ι S) (x:Ext ι H ι H') (k:∀ a∈flat ι,H' a=H a) (t:TabA F.T H'):RelS F H' B ι S :=
  ⟨r.nd,r.len,fun i p o h1 h2=>(r.obj i p o h1 h2).ext x (fun a ha=>k a (by rcases ha with rfl | ha; exact Ev.mem_flat h1; exact Ev.mem_flat2 h1 ha)),t,fun b hb z=>r.bs b hb (x.dom b z),r.dis⟩
theorem Rel.stay {ρ:Loc} {S:Sto} {σ:L2.St} (r:Rel F H B ι ρ S σ) (x:Ext ι H ι H') (k:∀ a∈flat ι,H' a=H a) (t:TabA F.T H'):Rel F H' B ι ρ S σ :=
  ⟨r.toRelS.stay x k t,pImp (fun _ _ q=>RL.ext x q) r.loc⟩
theorem Ext.new {p:Addr} {o:HO} (h:H p=none):Ext ι H ι (upd H p o) :=
  ⟨fun _ p h=>⟨p,h,rfl⟩,fun _ z=>.inl z,fun b q=>by
    by_cases e:b=p
    · rw [e]; exact h
    · rw [upd_ne e] at q; exact q,fun b u _ q _=>by rw [upd_ne (ne_of_none q h)]; exact q⟩
theorem tabs_new {T:List (Addr×Str)} {p:Addr} {o:HO} (t:TabA T H) (h:H p=none) (nt:notTbl o):TabA T (upd H p o):=⟨t.1.ext fun b u e=>by rw [upd_ne (ne_of_none e h)]; exact e,fun b ps e=>by
  by_cases z:b=p
  · rw [z,upd_same] at e; exact absurd (Option.some.inj e) (nt ps)
  · rw [upd_ne z] at e; exact t.2 b ps e⟩
theorem Rel.new {ρ:Loc} {S:Sto} {σ:L2.St} (r:Rel F H B ι ρ S σ) {p:Addr} {o:HO} (h:H p=none) (nt:notTbl o:=by first | exact nt_tup | exact nt_lst | exact nt_xd | exact nt_dK | exact nt_ins):Rel F (upd H p o) B ι ρ S σ :=
  r.stay (Ext.new h) (fun a ha=>upd_ne fun e=>r.mem_some ha (e ▸ h)) (tabs_new r.tab h nt)
end
section
variable (F:Fx) (Wsh:WX) (B:List Addr) (ρ:Loc) (σ:L2.St)
def Cont {α:Type} (ι:Ads) (H:Hp) (r:R α) (k:α→Sto→Ads→Hp→Prop):Prop:=match r with
  | .ok a S=>∀ ι' H',Ext ι H ι' H'→Rel F H' B ι' ρ S σ→k a S ι' H'
  | .exn c x S=>∀ ι' H' cv d,Ext ι H ι' H'→Rel F H' B ι' ρ S σ→RX F H' B ι' c x cv d→Wsh cv d σ H'
  | .err=>False
end
section
variable {F:Fx} {Wsh:WX} {B:List Addr} {ρ:Loc} {σ:L2.St} {ι:Ads} {H:Hp}
theorem Cont.mono {α:Type} {r:R α} {k k':α→Sto→Ads→Hp→Prop} (h:Cont F Wsh B ρ σ ι H r k) (f:∀ a S ι' H',r=.ok a S→Ext ι H ι' H'→Rel F H' B ι' ρ S σ→k a S ι' H'→k' a S ι' H'):Cont F Wsh B ρ σ ι H r k':=by
  cases r with
  | ok a S=>exact fun ι' H' x r=>f _ _ _ _ rfl x r (h ι' H' x r)
  | exn c x S=>exact h
  | err=>exact h
theorem Cont.ext {α:Type} {r:R α} {k:α→Sto→Ads→Hp→Prop} {ι':Ads} {H':Hp} (h:Cont F Wsh B ρ σ ι H r k) (x:Ext ι H ι' H'):Cont F Wsh B ρ σ ι' H' r k:=by
  cases r with
  | ok a S=>exact fun ι2 H2 y r=>h ι2 H2 (x.trans y) r
  | exn c d S=>exact fun ι2 H2 cv od y r q=>h ι2 H2 cv od (x.trans y) r q
  | err=>exact h
theorem Cont.bind {α β:Type} {r:R α} {f:α→Sto→R β} {k:β→Sto→Ads→Hp→Prop} (h:Cont F Wsh B ρ σ ι H (r.bind f) k) :
    Cont F Wsh B ρ σ ι H r fun a S ι' H'=>Cont F Wsh B ρ σ ι' H' (f a S) k:=by
  cases r with
  | ok a S=>exact fun ι' H' x _=>Cont.ext (show Cont F Wsh B ρ σ ι H (f a S) k from h) x
  | exn c d S=>exact h
  | err=>exact h
theorem Cont.here {α:Type} {S:Sto} {a:α} {k:α→Sto→Ads→Hp→Prop} (c:Cont F Wsh B ρ σ ι H (.ok a S) k) (r:Rel F H B ι ρ S σ):k a S ι H:=c ι H (Ext.refl _ _) r
end
section
variable (F:Fx) (Wsh:WX)
def tR (f:FE):TE:=fun σ H Q=>∃ B ι ρ S,Rel F H B ι ρ S σ∧Cont F Wsh B ρ σ ι H (f ρ S) fun w _ ι' H'=>∀ v,RW F H' B ι' w v→Q v H'
def tRA (f:FA):TA:=fun σ H Q=>∃ B ι ρ S,Rel F H B ι ρ S σ∧Cont F Wsh B ρ σ ι H (f ρ S) fun ws _ ι' H'=>∀ vs,RWs F H' B ι' ws vs→Q vs H'
def tRT (f:FT):TT:=fun σ H Q=>∃ B ι ρ S,Rel F H B ι ρ S σ∧Cont F Wsh B ρ σ ι H (f ρ S) fun b _ _ H'=>Q b H'
end
section
variable {X:Cx} {F:Fx} {Wsh:WX}
theorem peImp {e:Expr} {t t':TE} (h:PE X e t) (f:∀ σ H Q,t' σ H Q→t σ H Q):PE X e t':=⟨fun pins s σ H Q I q=>h.run pins s σ H Q I (f σ H Q q)⟩
theorem ptImp {e:Expr} {t t':TT} (h:PT X e t) (f:∀ σ H Q,t' σ H Q→t σ H Q):PT X e t':=⟨fun pins s σ H Q I q=>h.run pins s σ H Q I (f σ H Q q)⟩
theorem paImp {e:List Expr} {t t':TA} (h:PA X e t) (f:∀ σ H Q,t' σ H Q→t σ H Q):PA X e t':=⟨fun pos pins s σ H Q I q=>h.run pos pins s σ H Q I (f σ H Q q)⟩
theorem psImp {e:Stmt} {t t':TS} (h:PS X e t) (f:∀ D σ H,t' D σ H→t D σ H):PS X e t':=⟨fun pins s σ H D I q=>h.run pins s σ H D I (f D σ H q)⟩
theorem pssImp {e:List Stmt} {t t':TS} (h:PSs X e t) (f:∀ D σ H,t' D σ H→t D σ H):PSs X e t':=⟨fun pins s σ H D I q=>h.run pins s σ H D I (f D σ H q)⟩
variable {σ:L2.St} {H:Hp} {B:List Addr} {ι:Ads} {ρ:Loc} {S:Sto}
theorem tR_step {f:FE} {β:Type} {g:W→Sto→R β} {k:β→Sto→Ads→Hp→Prop} {Q:VK} (r:Rel F H B ι ρ S σ) (c:Cont F Wsh B ρ σ ι H ((f ρ S).bind g) k)
    (h:∀ w v S' ι' H',Ext ι H ι' H'→Rel F H' B ι' ρ S' σ→RW F H' B ι' w v→Cont F Wsh B ρ σ ι' H' (g w S') k→Q v H'):tR F Wsh f σ H Q :=
  ⟨B,ι,ρ,S,r,c.bind.mono fun w S' ι' H' _ x r' q v rv=>h w v S' ι' H' x r' rv q⟩
theorem tRA_step {f:FA} {β:Type} {g:List W→Sto→R β} {k:β→Sto→Ads→Hp→Prop} {Q:List V→Hp→Prop} (r:Rel F H B ι ρ S σ) (c:Cont F Wsh B ρ σ ι H ((f ρ S).bind g) k)
    (h:∀ ws vs S' ι' H',Ext ι H ι' H'→Rel F H' B ι' ρ S' σ→RWs F H' B ι' ws vs→Cont F Wsh B ρ σ ι' H' (g ws S') k→Q vs H'):tRA F Wsh f σ H Q :=
  ⟨B,ι,ρ,S,r,c.bind.mono fun w S' ι' H' _ x r' q v rv=>h w v S' ι' H' x r' rv q⟩
theorem tRT_step {f:FT} {β:Type} {g:Bool→Sto→R β} {k:β→Sto→Ads→Hp→Prop} {Q:Bool→Hp→Prop} (r:Rel F H B ι ρ S σ) (c:Cont F Wsh B ρ σ ι H ((f ρ S).bind g) k)
    (h:∀ b S' ι' H',Ext ι H ι' H'→Rel F H' B ι' ρ S' σ→Cont F Wsh B ρ σ ι' H' (g b S') k→Q b H'):tRT F Wsh f σ H Q :=
  ⟨B,ι,ρ,S,r,c.bind.mono fun w S' ι' H' _ x r' q=>h w S' ι' H' x r' q⟩
end
section
variable {X:Cx} {F:Fx} {Wsh:WX}
def fVar (i:Nat):FE:=fun ρ S=>match ρ[i]? with | some (some w)=>.ok w S | _=>.err
theorem pAt {α β:Type} {A:α→β→Prop}:∀ {l:List α} {m:List β} {i:Nat} {a:α},Paired A l m→l[i]? = some a→∃ b,m[i]? = some b∧A a b
  | _,_,_,_,.nil,e=>by simp at e
  | _,_,0,_,.cons r _,e=>by simp at e; subst e; exact ⟨_,by simp,r⟩
  | _,_,i + 1,a,.cons _ t,e=>by
    obtain ⟨u,h1,h2⟩:=pAt (i:=i) (a:=a) t (by simpa using e)
    exact ⟨u,by simpa using h1,h2⟩
theorem r_var {i:Nat} {x:Str} {pos:Pos} (h:PE X (.Name x pos) (tVar i)):PE X (.Name x pos) (tR F Wsh (fVar i)):=peImp h fun σ H Q ⟨B,ι,ρ,S,r,c⟩=>by
  unfold fVar at c
  split at c
  · rename_i w e
    obtain ⟨b,hb,hr⟩:=pAt r.loc e
    cases b with
    | none=>exact hr.elim
    | some v=>exact ⟨v,hb,c.here r v hr⟩
  · exact c.elim
def fC (d:D):FE:=fun _ S=>.ok (.d d) S
theorem r_const {e:Expr} {v:V} {d:D} (h:PE X e (tC v)) (r:∀ H B ι,RD F H B ι d v):PE X e (tR F Wsh (fC d)):=peImp h fun σ H Q ⟨B,ι,ρ,S,rl,c⟩=>c.here rl v (r H B ι)
theorem r_int {i:Int} {j:Nat} {pos:Pos}:PE X (.Constant (.int i) j pos) (tR F Wsh (fC (.int i))):=r_const pe_int fun _ _ _=>.int i
theorem r_bl {b:Bool} {j:Nat} {pos:Pos}:PE X (.Constant (.bool b) j pos) (tR F Wsh (fC (.bl b))):=r_const pe_bl fun _ _ _=>.bl b
theorem r_non {j:Nat} {pos:Pos}:PE X (.Constant .none j pos) (tR F Wsh (fC .non)):=r_const pe_non fun _ _ _=>.non
theorem r_str {x:Str} {j:Nat} {pos:Pos}:PE X (.Constant (.str x) j pos) (tR F Wsh (fC (.str x))):=r_const pe_str fun _ _ _=>.str x
abbrev Op2:=W→W→Sto→R W
def fBin (op:Op2) (f g:FE):FE:=fun ρ S=>(f ρ S).bind fun x S1=>(g ρ S1).bind fun y S2=>op x y S2
def OpOk (F:Fx) (op:Op2) (r:R2):Prop:=∀ (Wsh:WX) (B:List Addr) (ι:Ads) (ρ:Loc) (S:Sto) (σ:L2.St) (H:Hp) (wx wy:W) (x y:V) (Q:VK),Rel F H B ι ρ S σ→RW F H B ι wx x→RW F H B ι wy y →
  Cont F Wsh B ρ σ ι H (op wx wy S) (fun w _ ι' H'=>∀ v,RW F H' B ι' w v→Q v H')→r x y H Q
theorem two {f g:FE} {op:Op2} {r:R2} (o:OpOk F op r) {σ:L2.St} {H:Hp} {Q:VK} (h:tR F Wsh (fBin op f g) σ H Q) :
    (tR F Wsh f) σ H fun x H1=>(tR F Wsh g) σ H1 fun y H2=>r x y H2 Q:=by
  obtain ⟨B,ι,ρ,S,rl,c⟩:=h
  refine tR_step rl c fun wx x S1 ι1 H1 x1 rl1 rx c1=>?_
  refine tR_step rl1 c1 fun wy y S2 ι2 H2 x2 rl2 ry c2=>?_
  exact o Wsh B ι2 ρ S2 σ H2 wx wy x y Q rl2 (rx.ext x2) ry c2
theorem r_bin {op:Operator} {a b:Expr} {f g:FE} {r:R2} {o:Op2} {pos:Pos} (ho:OpR X (binaryOp op) r) (ok:OpOk F o r) (ha:PE X a (tR F Wsh f)) (hb:PE X b (tR F Wsh g)):PE X (.BinOp a op b pos) (tR F Wsh (fBin o f g)) :=
  peImp (pe_op ho ha hb) fun σ H Q h=>two ok h
def fNil:FA:=fun _ S=>.ok [] S
def fCons (f:FE) (g:FA):FA:=fun ρ S=>(f ρ S).bind fun x S1=>(g ρ S1).bind fun xs S2=>.ok (x :: xs) S2
theorem r_nil:PA X [] (tRA F Wsh fNil):=paImp pa_nil fun σ H Q ⟨B,ι,ρ,S,r,c⟩=>c.here r [] .nil
theorem r_cons {e:Expr} {es:List Expr} {f:FE} {g:FA} (ha:PE X e (tR F Wsh f)) (hr:PA X es (tRA F Wsh g)) (hs:starEach (e :: es) X.env=(false,eval e X.env) :: starEach es X.env:=by rfl):PA X (e :: es) (tRA F Wsh (fCons f g)) :=
  paImp (pa_cons ha hr hs) fun σ H Q ⟨B,ι,ρ,S,r,c⟩=>by
    refine tR_step r c fun w v S1 ι1 H1 x1 r1 rv c1=>?_
    refine tRA_step r1 c1 fun ws vs S2 ι2 H2 x2 r2 rvs c2=>?_
    exact c2.here r2 _ (.cons (rv.ext x2) rvs)
abbrev OpN:=List W→Sto→R W
def fCall (op:OpN) (f:FA):FE:=fun ρ S=>(f ρ S).bind op
abbrev RN:=List V→Hp→VK→Prop
def OpNOk (F:Fx) (op:OpN) (r:RN):Prop:=∀ (Wsh:WX) (B:List Addr) (ι:Ads) (ρ:Loc) (S:Sto) (σ:L2.St) (H:Hp) (ws:List W) (vs:List V) (Q:VK),Rel F H B ι ρ S σ→RWs F H B ι ws vs →
  Cont F Wsh B ρ σ ι H (op ws S) (fun w _ ι' H'=>∀ v,RW F H' B ι' w v→Q v H')→r vs H Q
theorem many {f:FA} {op:OpN} {r:RN} (o:OpNOk F op r) {σ:L2.St} {H:Hp} {Q:VK} (h:tR F Wsh (fCall op f) σ H Q):(tRA F Wsh f) σ H fun xs H1=>r xs H1 Q:=by
  obtain ⟨B,ι,ρ,S,rl,c⟩:=h
  refine tRA_step rl c fun ws vs S1 ι1 H1 x1 rl1 rx c1=>?_
  exact o Wsh B ι1 ρ S1 σ H1 ws vs Q rl1 rx c1
end
end Ev
namespace Ev
open PySem PySem.Spec L2
section
variable {K:PySem.W.Frag} {cls:Cl} {H:Hp} {ex:List Addr}
theorem reps_paired:∀ {ds:List D} {vs:List V},Reps K cls H ex ds vs→Paired (Rep K cls H ex) ds vs
  | _,_,.nil=>.nil
  | _,_,.cons r t=>.cons r (reps_paired t)
theorem reps_len {ds:List D} {vs:List V} (h:Reps K cls H ex ds vs):ds.length=vs.length:=Paired.length (reps_paired h)
theorem reps_at {ds:List D} {vs:List V} (h:Reps K cls H ex ds vs) {i:Nat} {d:D} (e:ds[i]? = some d):∃ v,vs[i]? = some v∧Rep K cls H ex d v:=pAt (reps_paired h) e
theorem reps_app:∀ {ds es:List D} {vs us:List V},Reps K cls H ex ds vs→Reps K cls H ex es us→Reps K cls H ex (ds ++ es) (vs ++ us)
  | _,_,_,_,.nil,s=>s
  | _,_,_,_,.cons r t,s=>.cons r (reps_app t s)
theorem reps_drop:∀ (n:Nat) {ds:List D} {vs:List V},Reps K cls H ex ds vs→Reps K cls H ex (ds.drop n) (vs.drop n)
  | 0,_,_,h=>by simpa using h
  | n + 1,_,_,.nil=>by simpa using Reps.nil
  | n + 1,_,_,.cons r t=>by simpa using reps_drop n t
theorem reps_take:∀ (n:Nat) {ds:List D} {vs:List V},Reps K cls H ex ds vs→Reps K cls H ex (ds.take n) (vs.take n)
  | 0,_,_,h=>by simpa using Reps.nil
  | n + 1,_,_,.nil=>by simpa using Reps.nil
  | n + 1,_,_,.cons r t=>by simpa using Reps.cons r (reps_take n t)
theorem rep_sqT {ds:List D} {v:V} (h:Rep K cls H ex (.tup ds) v):∃ a vs,v=.ref a∧SqT K H a vs∧Reps K cls H ex ds vs:=by
  cases h with
  | tup n e r=>exact ⟨_,_,rfl,SqT.of e,r⟩
  | tupK h1 h2 h3 h4 h5 r=>exact ⟨_,_,rfl,.inr ⟨_,_,_,h1,h2,h3,h4,h5⟩,r⟩
  | tupF n e r=>exact ⟨_,_,rfl,.inl (.inr ⟨_,e⟩),r⟩
theorem rep_lst {ds:List D} {v:V} (h:Rep K cls H ex (.lst ds) v):∃ a vs,v=.ref a∧H a=some (.lst vs)∧Reps K cls H ex ds vs∧a ∉ ex:=by
  cases h with
  | lst n e r=>exact ⟨_,_,rfl,e,r,n⟩
end
mutual
def toPy:D→PyData
  | .non=>.none | .bl b=>.bool b | .int i=>.int i | .str x=>.str x
  | .tup xs=>.tuple (toPys xs) | .lst xs=>.list (toPys xs)
  | .dct _=>.none | .ins _ _=>.none | .scr _=>.none | .ftp _=>.none | .cls _=>.none | .kdc _=>.none | .exi _ _ _=>.none | .dkf _=>.none
def toPys:List D→List PyData
  | []=>[]
  | x :: xs=>toPy x :: toPys xs
end
mutual
def flatD:D→Bool
  | .non=>true | .bl _=>true | .int _=>true | .str _=>true
  | .tup xs=>flatDs xs | .lst xs=>flatDs xs
  | .dct _=>false | .ins _ _=>false | .scr _=>false | .ftp _=>false | .cls _=>false | .kdc _=>false | .exi _ _ _=>false | .dkf _=>false
def flatDs:List D→Bool
  | []=>true
  | x :: xs=>flatD x && flatDs xs
end
section
variable {K:PySem.W.Frag} {cls:Cl} {H:Hp} {ex:List Addr}
mutual
theorem rep_dp:∀ {d:D} {v:V},flatD d=true→Rep K cls H ex d v→Dp K H v (toPy d)
  | _,_,_,.non=>.non
  | _,_,_,.bl b=>.bl b
  | _,_,_,.int i=>.int i
  | _,_,_,.str i=>.str i
  | .tup ds,_,f,.tup n h r=>.tup (SqT.of h) (reps_dp (by simpa [flatD] using f) r)
  | .tup ds,_,f,.tupK h1 h2 h3 h4 h5 r=>.tup (.inr ⟨_,_,_,h1,h2,h3,h4,h5⟩) (reps_dp (by simpa [flatD] using f) r)
  | .tup ds,_,f,.tupF n h r=>.tup (.inl (.inr ⟨_,h⟩)) (reps_dp (by simpa [flatD] using f) r)
  | _,_,f,.ftp _ _ _ _=>by simp [flatD] at f
  | .lst ds,_,f,.lst n h r=>.lst (SqL.of h) (reps_dp (by simpa [flatD] using f) r)
  | _,_,f,.dK _ _ _=>by simp [flatD] at f
  | _,_,f,.ins _ _ _=>by simp [flatD] at f
  | _,_,f,.cls _=>by simp [flatD] at f
  | _,_,f,.kdc _ _ _=>by simp [flatD] at f
  | _,_,f,.exi _ _ _ _ _=>by simp [flatD] at f
  | _,_,f,.dkf _ _ _=>by simp [flatD] at f
  | _,_,f,.scr _ _ _=>by simp [flatD] at f
  | _,_,f,.scrK _ _ _ _ _ _=>by simp [flatD] at f
theorem reps_dp:∀ {ds:List D} {vs:List V},flatDs ds=true→Reps K cls H ex ds vs→DpAll K H vs (toPys ds)
  | _,_,_,.nil=>.nil
  | _,_,f,.cons r t=>by
    have f':=Bool.and_eq_true_iff.mp (by simpa [flatDs] using f)
    exact .cons (rep_dp f'.1 r) (reps_dp f'.2 t)
end
end
def eqOk (d:D):Bool:=flatD d && SeqAt.shaped (toPy d)
def eqD (a b:D):Bool:=PyData.eqv (toPy a) (toPy b)
def dats:List W→Option (List D)
  | []=>some []
  | .d x :: ws=>(dats ws).map (x :: ·)
  | .ref _ :: _=>none
  | .exc _ _ :: _=>none
  | .fn :: _=>none
def view (S:Sto):W→Option D
  | .d x=>some x
  | .ref i=>match S[i]? with
    | some (.lst ws)=>(dats ws).map .lst
    | _=>none
  | .exc _ _=>none
  | .fn=>none
section
variable {F:Fx} {H:Hp} {B:List Addr} {ι:Ads}
theorem dats_reps:∀ {ws:List W} {vs:List V} {ds:List D},dats ws=some ds→RWs F H B ι ws vs→RDs F H B ι ds vs
  | [],_,ds,e,.nil=>by simp [dats] at e; subst e; exact .nil
  | .d x :: ws,_,ds,e,.cons r t=>by
    simp only [dats,Option.map_eq_some_iff] at e
    obtain ⟨es,e1,rfl⟩:=e
    exact .cons r (dats_reps e1 t)
  | .ref _ :: _,_,_,e,_=>by simp [dats] at e
  | .exc _ _ :: _,_,_,e,_=>by simp [dats] at e
  | .fn :: _,_,_,e,_=>by simp [dats] at e
theorem view_dp {S:Sto} (r:RelS F H B ι S) {w:W} {v:V} {d:D} (rw:RW F H B ι w v) (e:view S w=some d) (f:flatD d=true):Dp F.K H v (toPy d):=by
  cases w with
  | d x=>simp [view] at e; subst e; exact rep_dp f rw
  | exc _ _=>simp [view] at e
  | fn=>simp [view] at e
  | ref i =>
    obtain ⟨p,hp,rfl⟩:=rw
    obtain ⟨o,ho,ro⟩:=r.at_some hp
    simp only [view,ho] at e
    cases o with
    | lst ws =>
      simp only [Option.map_eq_some_iff] at e
      obtain ⟨ds,e1,rfl⟩:=e
      obtain ⟨_,vs,h1,rv⟩:=ro
      exact .lst (SqL.of h1) (reps_dp (by simpa [flatD] using f) (dats_reps e1 rv))
    | tup _=>simp at e
    | kd _=>simp at e
    | dct _=>simp at e
    | drw _ _ _=>simp at e
    | ins _ _=>simp at e
end
def opEq:Op2:=fun x y S=>match x,y with
  | .d (.str a),.d (.str b)=>.ok (.d (.bl (decide (a=b)))) S
  | _,_=>match view S x,view S y with
    | some a,some b=>if eqOk a && eqOk b then .ok (.d (.bl (eqD a b))) S else .err
    | _,_=>.err
def rEqEv (K:PySem.W.Frag):R2:=fun x y H Q=>rEq x y H Q∨rEqD K x y H Q
def opNe:Op2:=fun x y S=>match x,y with
  | .d (.str a),.d (.str b)=>.ok (.d (.bl (!decide (a=b)))) S
  | _,_=>match view S x,view S y with
    | some a,some b=>if eqOk a && eqOk b then .ok (.d (.bl (!eqD a b))) S else .err
    | _,_=>.err
def rNeEv (K:PySem.W.Frag):R2:=fun x y H Q=>rNe x y H Q∨rNeD K x y H Q
section
variable {F:Fx}
theorem ok_eq:OpOk F opEq (rEqEv F.K):=by
  intro Wsh B ι ρ S σ H wx wy x y Q rl rx ry c
  unfold opEq at c
  split at c
  · rename_i a b
    cases rx; cases ry
    refine .inl ⟨rfl,?_⟩
    have e:decide (V.str a=V.str b)=decide (a=b):=by simp
    rw [e]
    exact c.here rl _ (.bl _)
  refine .inr ?_
  split at c
  · rename_i a b ea eb
    split at c
    · rename_i h
      have h1:=Bool.and_eq_true_iff.mp h
      have ha:=Bool.and_eq_true_iff.mp h1.1
      have hb:=Bool.and_eq_true_iff.mp h1.2
      exact ⟨toPy a,toPy b,view_dp rl.toRelS rx ea ha.1,view_dp rl.toRelS ry eb hb.1,ha.2,hb.2,c.here rl _ (.bl _)⟩
    · exact c.elim
  · exact c.elim
theorem ok_ne:OpOk F opNe (rNeEv F.K):=by
  intro Wsh B ι ρ S σ H wx wy x y Q rl rx ry c
  unfold opNe at c
  split at c
  · rename_i a b
    cases rx; cases ry
    refine .inl ⟨rfl,?_⟩
    have e:decide (V.str a=V.str b)=decide (a=b):=by simp
    rw [e]
    exact c.here rl _ (.bl _)
  refine .inr ?_
  split at c
  · rename_i a b ea eb
    split at c
    · rename_i h
      have h1:=Bool.and_eq_true_iff.mp h
      have ha:=Bool.and_eq_true_iff.mp h1.1
      have hb:=Bool.and_eq_true_iff.mp h1.2
      exact ⟨toPy a,toPy b,view_dp rl.toRelS rx ea ha.1,view_dp rl.toRelS ry eb hb.1,ha.2,hb.2,c.here rl _ (.bl _)⟩
    · exact c.elim
  · exact c.elim
def opI (ok:Int→Int→Bool) (g:Int→Int→D):Op2:=fun x y S=>match x,y with
  | .d (.int i),.d (.int j)=>if ok i j then .ok (.d (g i j)) S else .err
  | _,_=>.err
theorem ok_I {C:Int→Int→Prop} {ok:Int→Int→Bool} {g:Int→Int→D} {gv:Int→Int→V} (hC:∀ i j,ok i j=true→C i j) (hg:∀ i j H B ι,RD F H B ι (g i j) (gv i j)):OpOk F (opI ok g) (rI C gv):=by
  intro Wsh B ι ρ S σ H wx wy x y Q rl rx ry c
  unfold opI at c
  split at c
  · rename_i i j
    cases rx; cases ry
    split at c
    · rename_i h
      exact ⟨i,j,rfl,rfl,hC i j h,c.here rl _ (hg i j H B ι)⟩
    · exact c.elim
  · exact c.elim
def opI0 (g:Int→Int→D):Op2:=fun x y S=>match x,y with
  | .d (.int i),.d (.int j)=>.ok (.d (g i j)) S
  | _,_=>.err
theorem ok_I0 {g:Int→Int→D} {gv:Int→Int→V} (hg:∀ i j H B ι,RD F H B ι (g i j) (gv i j)):OpOk F (opI0 g) (rI0 gv):=by
  intro Wsh B ι ρ S σ H wx wy x y Q rl rx ry c
  unfold opI0 at c
  split at c
  · rename_i i j
    cases rx; cases ry
    exact ⟨i,j,rfl,rfl,c.here rl _ (hg i j H B ι)⟩
  · exact c.elim
end
end Ev
namespace Ev
open PySem PySem.Spec L2
section
variable {X:Cx} {F:Fx} {Wsh:WX} {a b e:Expr} {f g:FE} {pos:Pos}
def toB:W→Sto→R Bool
  | .d (.bl b),S=>.ok b S
  | _,_=>.err
def toT (f:FE):FT:=fun ρ S=>(f ρ S).bind toB
theorem toB_ok {ι:Ads} {ρ:Loc} {σ:L2.St} {H:Hp} {B:List Addr} {w:W} {v:V} {S:Sto} {Q:Bool→Hp→Prop} (rl:Rel F H B ι ρ S σ) (rv:RW F H B ι w v) (c:Cont F Wsh B ρ σ ι H (toB w S) fun b _ _ H'=>Q b H'):∃ k,v=.bl k∧Q k H:=by
  unfold toB at c
  split at c
  · cases rv
    exact ⟨_,rfl,c.here rl⟩
  · exact c.elim
theorem test_of {σ:L2.St} {H:Hp} {Q:Bool→Hp→Prop} (h:tRT F Wsh (toT f) σ H Q):tR F Wsh f σ H fun x H'=>∃ k,x=.bl k∧Q k H':=by
  obtain ⟨B,ι,ρ,S,rl,c⟩:=h
  exact tR_step rl c fun w v S1 ι1 H1 x1 rl1 rv c1=>toB_ok rl1 rv c1
theorem r_test (h:PE X e (tR F Wsh f)) (he:∀ whole,isTrue e X.env whole=(do let v ← whole; standAt e.pos; holding [v] (truthy v)):=by intro _; rfl):PT X e (tRT F Wsh (toT f)) :=
  ptImp (pt_val h he) fun σ H Q q=>test_of q
theorem r_cmp {op:CmpOp} {r:R2} {o:Op2} (ho:OpR X (compareOp op) r) (ok:OpOk F o r) (ha:PE X a (tR F Wsh f)) (hb:PE X b (tR F Wsh g)) (hm:behindInMarks op b=false):PE X (.Compare a [op] [b] pos) (tR F Wsh (fBin o f g)) :=
  peImp (pe_cmpR ho ha hb hm) fun σ H Q h=>two ok h
theorem r_cmpT {op:CmpOp} {r:R2} {o:Op2} (ho:OpR X (compareOp op) r) (ok:OpOk F o r) (ha:PE X a (tR F Wsh f)) (hb:PE X b (tR F Wsh g)) (hm:behindInMarks op b=false):PT X (.Compare a [op] [b] pos) (tRT F Wsh (toT (fBin o f g))) :=
  ptImp (pt_cmpR ho ha hb hm) fun σ H Q h=>two ok (test_of h)
def fChain (o o':Op2) (f g h:FE):FE:=fun ρ S=>(f ρ S).bind fun x S1=>(g ρ S1).bind fun y S2=>(o x y S2).bind fun z S3=>(toB z S3).bind fun k S4 =>
  if k=true then (h ρ S4).bind fun u S5=>o' y u S5 else .ok (.d (.bl false)) S4
def BoolOp2 (o:Op2):Prop:=∀ x y S,o x y S=.err∨∃ k,o x y S=.ok (.d (.bl k)) S
theorem chain_of {r r':R2} {o o':Op2} {h:FE} (bo:BoolOp2 o) (ok:OpOk F o r) (ok':OpOk F o' r') {σ:L2.St} {H:Hp} {Q:VK} (q:tR F Wsh (fChain o o' f g h) σ H Q) :
    tChain r r' (tR F Wsh f) (tR F Wsh g) (tR F Wsh h) σ H Q:=by
  obtain ⟨B,ι,ρ,S,rl,c⟩:=q
  refine tR_step rl c fun wx x S1 ι1 H1 x1 rl1 rx c1=>?_
  refine tR_step rl1 c1 fun wy y S2 ι2 H2 x2 rl2 ry c2=>?_
  rcases bo wx wy S2 with e | ⟨k,e⟩
  · rw [e] at c2
    exact (show False from c2).elim
  refine ok Wsh B ι2 ρ S2 σ H2 wx wy x y _ rl2 (rx.ext x2) ry ?_
  rw [e] at c2 ⊢
  intro ι3 H3 x3 rl3 v rv
  cases rv
  refine ⟨k,rfl,?_⟩
  have c3:Cont F Wsh B ρ σ ι3 H3 (if k=true then (h ρ S2).bind fun u S5=>o' wy u S5 else .ok (.d (.bl false)) S2) (fun w _ ι' H'=>∀ v,RW F H' B ι' w v→Q v H'):=Cont.ext c2 x3
  split
  · rename_i hk
    rw [if_pos hk] at c3
    refine tR_step rl3 c3 fun wu u S4 ι4 H4 x4 rl4 ru c4=>?_
    exact ok' Wsh B ι4 ρ S4 σ H4 wy wu y u Q rl4 ((ry.ext x3).ext x4) ru c4
  · rename_i hk
    rw [if_neg hk] at c3
    exact c3.here rl3 _ (.bl false)
theorem r_chain {op op':CmpOp} {r r':R2} {o o':Op2} {h:FE} {c:Expr} (bo:BoolOp2 o) (ho:OpR X (compareOp op) r) (ok:OpOk F o r) (ho':OpR X (compareOp op') r') (ok':OpOk F o' r') (ha:PE X a (tR F Wsh f)) (hb:PE X b (tR F Wsh g)) (hc:PE X c (tR F Wsh h))
    (hm:lastMarks [op,op'] [b,c]=false:=by with_unfolding_all rfl):PE X (.Compare a [op,op'] [b,c] pos) (tR F Wsh (fChain o o' f g h)) :=
  peImp (pe_chain ho ho' ha hb hc hm) fun σ H Q q=>chain_of bo ok ok' q
theorem r_chainT {op op':CmpOp} {r r':R2} {o o':Op2} {h:FE} {c:Expr} (bo:BoolOp2 o) (ho:OpR X (compareOp op) r) (ok:OpOk F o r) (ho':OpR X (compareOp op') r') (ok':OpOk F o' r') (ha:PE X a (tR F Wsh f)) (hb:PE X b (tR F Wsh g)) (hc:PE X c (tR F Wsh h))
    (hm:lastMarks [op,op'] [b,c]=false:=by with_unfolding_all rfl):PT X (.Compare a [op,op'] [b,c] pos) (tRT F Wsh (toT (fChain o o' f g h))) :=
  ptImp (pt_chain ho ho' ha hb hc hm) fun σ H Q q=>chain_of bo ok ok' (test_of q)
def bAnd (f g:FT):FT:=fun ρ S=>(f ρ S).bind fun k S1=>if k=true then g ρ S1 else .ok false S1
def bOr (f g:FT):FT:=fun ρ S=>(f ρ S).bind fun k S1=>if k=true then .ok true S1 else g ρ S1
def bNot (f:FT):FT:=fun ρ S=>(f ρ S).bind fun k S1=>.ok (!k) S1
variable {tf tg:FT} {rest:List Expr}
theorem pwImp {t t':TT} (h:PW X e t) (f:∀ σ H Q,t' σ H Q→t σ H Q):PW X e t':=⟨fun wh pins s σ H Q I q=>h.run wh pins s σ H Q I (f σ H Q q)⟩
theorem r_and (ha:PT X a (tRT F Wsh tf)) (hb:PW X (.BoolOp .And (b :: rest) pos) (tRT F Wsh tg)):PW X (.BoolOp .And (a :: b :: rest) pos) (tRT F Wsh (bAnd tf tg)) :=
  pwImp (pw_and ha hb) fun σ H Q ⟨B,ι,ρ,S,rl,c⟩=>by
    refine tRT_step rl c fun k S1 ι1 H1 x1 rl1 c1=>?_
    split
    · rename_i hk
      rw [if_pos hk] at c1
      exact ⟨B,ι1,ρ,S1,rl1,c1⟩
    · rename_i hk
      rw [if_neg hk] at c1
      exact c1.here rl1
theorem r_or (ha:PT X a (tRT F Wsh tf)) (hb:PW X (.BoolOp .Or (b :: rest) pos) (tRT F Wsh tg)):PW X (.BoolOp .Or (a :: b :: rest) pos) (tRT F Wsh (bOr tf tg)) :=
  pwImp (pw_or ha hb) fun σ H Q ⟨B,ι,ρ,S,rl,c⟩=>by
    refine tRT_step rl c fun k S1 ι1 H1 x1 rl1 c1=>?_
    split
    · rename_i hk
      rw [if_pos hk] at c1
      exact c1.here rl1
    · rename_i hk
      rw [if_neg hk] at c1
      exact ⟨B,ι1,ρ,S1,rl1,c1⟩
theorem r_not (ha:PT X a (tRT F Wsh tf)):PT X (.UnaryOp .Not a pos) (tRT F Wsh (bNot tf)) :=
  ptImp (pt_not ha) fun σ H Q ⟨B,ι,ρ,S,rl,c⟩=>tRT_step rl c fun k S1 ι1 H1 x1 rl1 c1=>c1.here rl1
def eAnd (f g:FE):FE:=fun ρ S=>(f ρ S).bind fun w S1=>(toB w S1).bind fun k S2=>if k=true then g ρ S2 else .ok (.d (.bl false)) S2
def eOr (f g:FE):FE:=fun ρ S=>(f ρ S).bind fun w S1=>(toB w S1).bind fun k S2=>if k=true then .ok (.d (.bl true)) S2 else g ρ S2
def eNot (f:FE):FE:=fun ρ S=>(f ρ S).bind fun w S1=>(toB w S1).bind fun k S2=>.ok (.d (.bl (!k))) S2
theorem toB_inv {β:Type} {ι:Ads} {ρ:Loc} {σ:L2.St} {H:Hp} {B:List Addr} {w:W} {v:V} {S:Sto} {h:Bool→Sto→R β} {Q:β→Sto→Ads→Hp→Prop} (rv:RW F H B ι w v) (c:Cont F Wsh B ρ σ ι H ((toB w S).bind h) Q):∃ k,v=.bl k∧Cont F Wsh B ρ σ ι H (h k S) Q:=by
  unfold toB at c
  split at c
  · cases rv
    exact ⟨_,rfl,c⟩
  · exact (show False from c).elim
theorem r_eand (ha:PE X a (tR F Wsh f)) (hb:PE X (.BoolOp .And (b :: rest) pos) (tR F Wsh g)):PE X (.BoolOp .And (a :: b :: rest) pos) (tR F Wsh (eAnd f g)) :=
  peImp (pe_and ha hb) fun σ H Q ⟨B,ι,ρ,S,rl,c⟩=>by
    refine tR_step rl c fun w v S1 ι1 H1 x1 rl1 rv c1=>?_
    obtain ⟨k,e,c2⟩:=toB_inv rv c1
    refine ⟨k,e,?_⟩
    split
    · rename_i hk
      rw [if_pos hk] at c2
      exact ⟨B,ι1,ρ,S1,rl1,c2⟩
    · rename_i hk
      rw [if_neg hk] at c2
      exact c2.here rl1 _ (.bl _)
theorem r_enot (ha:PE X a (tR F Wsh f)):PE X (.UnaryOp .Not a pos) (tR F Wsh (eNot f)) :=
  peImp (pe_not ha) fun σ H Q ⟨B,ι,ρ,S,rl,c⟩=>by
    refine tR_step rl c fun w v S1 ι1 H1 x1 rl1 rv c1=>?_
    obtain ⟨k,e,c2⟩:=toB_inv rv c1
    exact ⟨k,e,c2.here rl1 _ (.bl _)⟩
def eIf (t:FT) (f g:FE):FE:=fun ρ S=>(t ρ S).bind fun k S1=>if k=true then f ρ S1 else g ρ S1
theorem r_if {c:Expr} (hc:PT X c (tRT F Wsh tf)) (ha:PE X a (tR F Wsh f)) (hb:PE X b (tR F Wsh g)):PE X (.IfExp c a b pos) (tR F Wsh (eIf tf f g)) :=
  peImp (pe_ifExp hc ha hb) fun σ H Q ⟨B,ι,ρ,S,rl,c⟩=>by
    refine tRT_step rl c fun k S1 ι1 H1 x1 rl1 c1=>?_
    split
    · rename_i hk
      rw [if_pos hk] at c1
      exact ⟨B,ι1,ρ,S1,rl1,c1⟩
    · rename_i hk
      rw [if_neg hk] at c1
      exact ⟨B,ι1,ρ,S1,rl1,c1⟩
end
section
variable {F:Fx}
def opLt:Op2:=opI0 fun i j=>.bl (decide (i < j))
def opLe:Op2:=opI0 fun i j=>.bl (decide (i≤j))
def opGt:Op2:=opI0 fun i j=>.bl (decide (j < i))
def opGe:Op2:=opI0 fun i j=>.bl (decide (j≤i))
theorem ok_lt:OpOk F opLt (rI0 fun i j=>.bl (decide (i < j))):=ok_I0 fun _ _ _ _ _=>.bl _
theorem ok_le:OpOk F opLe (rI0 fun i j=>.bl (decide (i≤j))):=ok_I0 fun _ _ _ _ _=>.bl _
theorem ok_gt:OpOk F opGt (rI0 fun i j=>.bl (decide (j < i))):=ok_I0 fun _ _ _ _ _=>.bl _
theorem ok_ge:OpOk F opGe (rI0 fun i j=>.bl (decide (j≤i))):=ok_I0 fun _ _ _ _ _=>.bl _
theorem bo_I0 {g:Int→Int→Bool}:BoolOp2 (opI0 fun i j=>.bl (g i j)):=fun x y S=>by
  unfold opI0
  split
  · exact .inr ⟨_,rfl⟩
  · exact .inl rfl
def opSub:Op2:=opI0 fun i j=>.int (i - j)
theorem ok_sub:OpOk F opSub (rI0 fun i j=>.int (i - j)):=ok_I0 fun _ _ _ _ _=>.int _
def opFDiv:Op2:=opI (fun _ j=>decide (j ≠ 0∧j.natAbs < 1073741824)) fun i j=>.int (i.fdiv j)
theorem ok_fdiv:OpOk F opFDiv (rI CDivN fun i j=>.int (i.fdiv j)):=ok_I (fun _ j h=>(of_decide_eq_true h:j ≠ 0∧j.natAbs < 1073741824)) fun _ _ _ _ _=>.int _
def opMod:Op2:=opI (fun _ j=>decide (j ≠ 0)) fun i j=>.int (i.fmod j)
theorem ok_mod:OpOk F opMod (rI (fun _ j=>j ≠ 0) fun i j=>.int (i.fmod j)):=ok_I (fun _ _ h=>of_decide_eq_true h) fun _ _ _ _ _=>.int _
def opPow:Op2:=opI (fun i j=>decide (0≤j∧j≤1000000∧i.natAbs < 2 ^ 64)) fun i j=>.int (i ^ j.toNat)
theorem ok_pow:OpOk F opPow (rI CPow fun i j=>.int (i ^ j.toNat)):=ok_I (fun i j h=>(of_decide_eq_true h:0≤j∧j≤1000000∧i.natAbs < 2 ^ 64)) fun _ _ _ _ _=>.int _
def isNon:W→Bool
  | .d .non=>true
  | _=>false
def opIs:Op2:=fun x y S=>if isNon y then .ok (.d (.bl (isNon x))) S else .err
theorem isNon_iff {H:Hp} {B:List Addr} {ι:Ads} {w:W} {v:V} (r:RW F H B ι w v):isNon w=decide (v=.non):=by
  cases w with
  | ref i=>obtain ⟨p,_,rfl⟩:=r; rfl
  | exc c x=>obtain ⟨a,dd,u,_,rfl,_⟩:=r; rfl
  | fn=>obtain ⟨a,c,q,_,_,_,rfl,_⟩:=r; rfl
  | d x=>cases r <;> rfl
theorem isNon_eq {H:Hp} {B:List Addr} {ι:Ads} {w:W} {v:V} (r:RW F H B ι w v) (h:isNon w=true):v=.non:=by
  rw [isNon_iff r] at h
  exact of_decide_eq_true h
theorem ok_is:OpOk F opIs (fun x y H Q=>y=.non∧Q (.bl (decide (x=.non))) H):=by
  intro Wsh B ι ρ S σ H wx wy x y Q rl rx ry c
  unfold opIs at c
  split at c
  · rename_i h
    refine ⟨isNon_eq ry h,?_⟩
    rw [← isNon_iff rx]
    exact c.here rl _ (.bl _)
  · exact c.elim
def inD:D→D→Option Bool
  | .str a,.str z=>match a.cps.toList with
    | [c]=>some (decide (c∈z.cps.toList))
    | _=>none
  | x,.lst ys=>if eqOk x && eqOk (.lst ys) then some (ys.any fun y=>eqD y x) else none
  | _,_=>none
def opIn:Op2:=fun x y S=>match view S x,view S y with
  | some a,some b=>match inD a b with
    | some k=>.ok (.d (.bl k)) S
    | none=>.err
  | _,_=>.err
def opNotIn:Op2:=fun x y S=>match view S x,view S y with
  | some a,some b=>match inD a b with
    | some k=>.ok (.d (.bl (!k))) S
    | none=>.err
  | _,_=>.err
def rInEv (K:PySem.W.Frag):R2:=fun x y H Q=>(∃ (c:Nat) (z:Str),x=.str ⟨#[c]⟩∧y=.str z∧Q (.bl (decide (c∈z.cps.toList))) H)∨rInD K x y H Q
def rNotInEv (K:PySem.W.Frag):R2:=fun x y H Q=>(∃ (c:Nat) (z:Str),x=.str ⟨#[c]⟩∧y=.str z∧Q (.bl (!decide (c∈z.cps.toList))) H)∨rNotInD K x y H Q
theorem view_str {S:Sto} {w:W} {x:Str} (e:view S w=some (.str x)):w=.d (.str x):=by
  cases w with
  | d y=>simp [view] at e; rw [e]
  | exc _ _=>simp [view] at e
  | fn=>simp [view] at e
  | ref i =>
    simp only [view] at e
    split at e
    · simp at e
    · simp at e
theorem any_toPys (x:D):∀ ys:List D,(toPys ys).any (fun z=>PyData.eqv z (toPy x))=ys.any fun y=>eqD y x
  | []=>rfl
  | y :: ys=>by
    show (PyData.eqv (toPy y) (toPy x) || (toPys ys).any _)=(eqD y x || _)
    rw [any_toPys x ys]
    rfl
theorem one_sign {a:Str} {c:Nat} (h:a.cps.toList=[c]):a=⟨#[c]⟩:=by
  obtain ⟨arr⟩:=a
  obtain ⟨l⟩:=arr
  simp at h
  subst h
  rfl
theorem in_cases {S:Sto} {H:Hp} {B:List Addr} {ι:Ads} {wx wy:W} {x y:V} {a b:D} {k:Bool} (rl:RelS F H B ι S) (rx:RW F H B ι wx x) (ry:RW F H B ι wy y) (ea:view S wx=some a) (eb:view S wy=some b) (e:inD a b=some k) :
    (∃ (c:Nat) (z:Str),x=.str ⟨#[c]⟩∧y=.str z∧k=decide (c∈z.cps.toList)) ∨
    ∃ d ds,Dp F.K H x d∧Dp F.K H y (.list ds)∧SeqAt.shaped d=true∧SeqAt.shaped (.list ds)=true∧k=ds.any fun z=>PyData.eqv z d:=by
  unfold inD at e
  split at e
  · rename_i a z
    have h1:=view_str ea
    have h2:=view_str eb
    subst h1; subst h2
    cases rx; cases ry
    split at e
    · rename_i c hc
      rw [one_sign hc]
      exact .inl ⟨c,z,rfl,rfl,(Option.some.inj e).symm⟩
    · cases e
  · rename_i x1 ys
    split at e
    · rename_i h
      have h1:=Bool.and_eq_true_iff.mp h
      have ha:=Bool.and_eq_true_iff.mp h1.1
      have hb:=Bool.and_eq_true_iff.mp h1.2
      refine .inr ⟨toPy a,toPys ys,view_dp rl rx ea ha.1,view_dp rl ry eb hb.1,ha.2,hb.2,?_⟩
      rw [any_toPys]
      exact (Option.some.inj e).symm
    · cases e
  · cases e
theorem ok_in:OpOk F opIn (rInEv F.K):=by
  intro Wsh B ι ρ S σ H wx wy x y Q rl rx ry c
  unfold opIn at c
  split at c
  · rename_i a b ea eb
    split at c
    · rename_i k hk
      rcases in_cases rl.toRelS rx ry ea eb hk with ⟨cc,z,e1,e2,rfl⟩ | ⟨d,ds,h1,h2,h3,h4,rfl⟩
      · exact .inl ⟨cc,z,e1,e2,c.here rl _ (.bl _)⟩
      · exact .inr ⟨d,ds,h1,h2,h3,h4,c.here rl _ (.bl _)⟩
    · exact c.elim
  · exact c.elim
theorem ok_notin:OpOk F opNotIn (rNotInEv F.K):=by
  intro Wsh B ι ρ S σ H wx wy x y Q rl rx ry c
  unfold opNotIn at c
  split at c
  · rename_i a b ea eb
    split at c
    · rename_i k hk
      rcases in_cases rl.toRelS rx ry ea eb hk with ⟨cc,z,e1,e2,rfl⟩ | ⟨d,ds,h1,h2,h3,h4,rfl⟩
      · exact .inl ⟨cc,z,e1,e2,c.here rl _ (.bl _)⟩
      · exact .inr ⟨d,ds,h1,h2,h3,h4,c.here rl _ (.bl _)⟩
    · exact c.elim
  · exact c.elim
theorem or_in {X:Cx} (hu:X.A.units + 65 < cLine) (hK:X.K=F.K):OpR X (compareOp .In) (rInEv F.K):=by rw [← hK]; exact OpR.or op_in_sign (op_inD hu)
theorem or_notin {X:Cx} (hu:X.A.units + 65 < cLine) (hK:X.K=F.K):OpR X (compareOp .NotIn) (rNotInEv F.K):=by rw [← hK]; exact OpR.or op_notIn_sign (op_notInD hu)
end
end Ev
namespace Ev
open PySem PySem.Spec L2
section
variable {F:Fx}
theorem new_tup {H:Hp} {B:List Addr} {ι:Ads} {ρ:Loc} {S:Sto} {σ:L2.St} (rl:Rel F H B ι ρ S σ) {ds:List D} {vs:List V} (r:RDs F H B ι ds vs) {p:Addr} (hp:H p=none):RD F (upd H p (.tup vs)) B ι (.tup ds) (.ref p) :=
  .tup (rl.fresh hp) upd_same (r.ext (Ext.new hp))
theorem new_lst {H:Hp} {B:List Addr} {ι:Ads} {ρ:Loc} {S:Sto} {σ:L2.St} (rl:Rel F H B ι ρ S σ) {ds:List D} {vs:List V} (r:RDs F H B ι ds vs) {p:Addr} (hp:H p=none):RD F (upd H p (.lst vs)) B ι (.lst ds) (.ref p) :=
  .lst (rl.fresh hp) upd_same (r.ext (Ext.new hp))
def opAdd:Op2:=fun x y S=>match x,y with
  | .d (.int i),.d (.int j)=>.ok (.d (.int (i + j))) S
  | .d (.str a),.d (.str b)=>if a.length + b.length≤sizeLine then .ok (.d (.str (a ++ b))) S else .err
  | .d (.tup xs),.d (.tup ys)=>if xs.length + ys.length≤sizeLine then .ok (.d (.tup (xs ++ ys))) S else .err
  | .d (.lst xs),.d (.lst ys)=>if xs.length + ys.length≤sizeLine then .ok (.d (.lst (xs ++ ys))) S else .err
  | _,_=>.err
def rAddEv (K:PySem.W.Frag):R2:=fun x y H Q=>(rI0 (fun i j=>.int (i + j))) x y H Q∨(∃ i j,x=.str i∧y=.str j∧i.length + j.length≤sizeLine∧Q (.str (i ++ j)) H)∨rCatA K x y H Q∨rCat x y H Q
theorem ok_add:OpOk F opAdd (rAddEv F.K):=by
  intro Wsh B ι ρ S σ H wx wy x y Q rl rx ry c
  unfold opAdd at c
  split at c
  · cases rx; cases ry
    exact .inl ⟨_,_,rfl,rfl,c.here rl _ (.int _)⟩
  · cases rx; cases ry
    split at c
    · rename_i h
      exact .inr (.inl ⟨_,_,rfl,rfl,h,c.here rl _ (.str _)⟩)
    · exact c.elim
  · rename_i xs ys
    split at c
    · rename_i h
      obtain ⟨a,vs,rfl,h1,r1⟩:=rep_sqT rx
      obtain ⟨b,us,rfl,h2,r2⟩:=rep_sqT ry
      refine .inr (.inr (.inl ⟨a,b,vs,us,rfl,rfl,h1,h2,by rw [← reps_len r1,← reps_len r2]; exact h,fun e=>?_,fun e e2=>?_,fun _ _ p hp=>?_⟩))
      · have:xs=[]:=List.length_eq_zero_iff.mp (by rw [reps_len r1,e]; rfl)
        subst this
        exact c.here rl _ (by simpa using ry)
      · have:ys=[]:=List.length_eq_zero_iff.mp (by rw [reps_len r2,e2]; rfl)
        subst this
        exact c.here rl _ (by simpa using rx)
      · exact c ι _ (Ext.new hp) (rl.new hp) _ (new_tup rl (reps_app r1 r2) hp)
    · exact c.elim
  · split at c
    · rename_i h
      obtain ⟨a,vs,rfl,h1,r1,_⟩:=rep_lst rx
      obtain ⟨b,us,rfl,h2,r2,_⟩:=rep_lst ry
      exact .inr (.inr (.inr ⟨a,b,vs,us,rfl,rfl,h1,h2,by rw [← reps_len r1,← reps_len r2]; exact h,fun p hp=>c ι _ (Ext.new hp) (rl.new hp) _ (new_lst rl (reps_app r1 r2) hp)⟩))
    · exact c.elim
  · exact c.elim
theorem or_add {X:Cx} (hK:X.K=F.K):OpR X (binaryOp .Add) (rAddEv F.K):=by rw [← hK]; exact OpR.or op_add (OpR.or op_add_str (OpR.or op_catA op_cat))
def mulOk (i j:Int):Bool:=decide ((-(2 ^ 64) < i∧i < 2 ^ 64)∨(-(2 ^ 64) < j∧j < 2 ^ 64))
theorem mulOk_of {i j:Int} (h:mulOk i j=true):CMul i j:=(of_decide_eq_true h:(-(2 ^ 64) < i∧i < 2 ^ 64)∨(-(2 ^ 64) < j∧j < 2 ^ 64))
def repStr (x:Str) (n:Nat):Str:=⟨(List.replicate n x.cps.toList).flatten.toArray⟩
def opMul:Op2:=fun x y S=>match x,y with
  | .d (.int i),.d (.int j)=>if mulOk i j then .ok (.d (.int (i * j))) S else .err
  | .d (.str a),.d (.int j)=>if decide (2≤j∧j≤1000) && decide (a.length≤1000) then .ok (.d (.str (repStr a j.toNat))) S else .err
  | .d (.tup xs),.d (.int j)=>if decide (2≤j∧j≤1000) && decide (1≤xs.length∧xs.length≤1000) then .ok (.d (.tup (List.replicate j.toNat xs).flatten)) S
      else if decide (j=1) then .ok (.d (.tup xs)) S else .err
  | _,_=>.err
def rMulS:R2:=fun x y H Q=>∃ a j,x=.str a∧y=.int j∧(2≤j∧j≤1000)∧a.length≤1000∧Q (.str (repStr a j.toNat)) H
theorem foldl_cps (x:Array Nat):∀ (n:Nat) (acc:Array Nat),(List.replicate n x).foldl (· ++ ·) acc=acc ++ (List.replicate n x.toList).flatten.toArray
  | 0,acc=>by simp
  | n + 1,acc=>by
    rw [List.replicate_succ,List.foldl_cons,foldl_cps x n,List.replicate_succ,List.flatten_cons,Array.append_assoc]
    congr 1
    simp
theorem rep_len {α:Type} (l:List α):∀ n:Nat,((List.replicate n l).flatten).length=n * l.length
  | 0=>by simp
  | n + 1=>by rw [List.replicate_succ,List.flatten_cons,List.length_append,rep_len l n,Nat.succ_mul,Nat.add_comm]
theorem or_mulS {X:Cx}:OpR X (binaryOp .Mult) rMulS:=by
  intro pins s σ H x y v u Q I rx ry h
  obtain ⟨a,j,rfl,rfl,⟨h1,h2⟩,h4,q⟩:=h
  obtain ⟨t,rfl⟩:=rx
  obtain ⟨t',rfl⟩:=ry
  have hz:a.length * j.toNat≤1000 * 1000:=Nat.mul_le_mul h4 (by omega)
  refine PySem.P.mul_str (by
      have z1:decide (j < -(2 ^ 63:Int))=false:=decide_eq_false (by omega)
      have z2:decide (j ≥ (2 ^ 63:Int))=false:=decide_eq_false (by omega)
      rw [z1,z2]
      rfl) (fun _ _=>?_) (fun _ _=>?_) ?_
  · intro z
    have e:(1000:Int)≤(2 ^ 63 - 1) / j:=(Int.le_ediv_iff_mul_le (by omega)).mpr (by omega)
    omega
  · unfold Builtin.Str.tooLong
    rw [sizeLine_eq]
    exact decide_eq_false (by omega)
  · by_cases h3:1≤a.length
    case neg =>
      have ha:a.cps = #[]:=Array.eq_empty_of_size_eq_zero (show a.cps.size=0 by have:a.length=a.cps.size:=rfl; omega)
      have ea:repStr a j.toNat=a:=by
        cases a
        simp only at ha
        subst ha
        unfold repStr
        simp
      rw [if_neg (by omega),if_pos (by
          have e2:(a.length == 0)=true:=by simp; omega
          simp [e2])]
      exact ⟨.str a,H,I,⟨_,rfl⟩,by rw [ea] at q; exact q⟩
    rw [if_neg (by omega),if_neg (by
      have e1:(j == 1)=false:=by simp; omega
      have e2:(a.length == 0)=false:=by simp; omega
      simp [e1,e2])]
    have e:(⟨(List.replicate j.toNat a.cps).foldl (· ++ ·) #[]⟩:Str)=repStr a j.toNat:=by
      unfold repStr
      rw [foldl_cps]
      simp
    rw [e]
    have hz2:(repStr a j.toNat).length≤sizeLine:=by
      have z:(repStr a j.toNat).length=j.toNat * a.length:=by
        show ((List.replicate j.toNat a.cps.toList).flatten.toArray).size=_
        rw [List.size_toArray]
        exact rep_len _ _
      rw [z,sizeLine_eq,Nat.mul_comm]
      omega
    dsimp only [Made.post]
    exact ⟨hz2,.str (repStr a j.toNat),H,I.tok _,⟨_,rfl⟩,q⟩
theorem reps_flat {H:Hp} {B:List Addr} {ι:Ads} {ds:List D} {vs:List V} (r:RDs F H B ι ds vs):∀ n:Nat,RDs F H B ι (List.replicate n ds).flatten (List.replicate n vs).flatten
  | 0=>.nil
  | n + 1=>by
    rw [List.replicate_succ,List.replicate_succ,List.flatten_cons,List.flatten_cons]
    exact reps_app r (reps_flat r n)
theorem tuple_mul1 (l:Addr) (items:Array Value) (n:Nat) (dd:Option Addr) (sl:Array (Option Value)) (u:Tok) :
    Meets (Builtin.«tuple.__mul__» ⟨[.ref l,.int 1 u],[]⟩) (fun _ R s=>s.heap.get? l=some { cls:=.type "tuple",dict:=dd,data:=.seq items n,slots:=sl }∧R (.ok (.ret (Value.ref l))) s) :=
  .of_wp fun prog w A R s h=>by
    obtain ⟨hp,g,d,tk,os⟩:=s
    obtain ⟨hl,h⟩:=h
    have f1:=AutoSeq1.idx_int
    wp_walk using AutoSeq1.wpAny_loadPart' hl
    exact ⟨_,rfl,h⟩
def rRepT1 (K:PySem.W.Frag):R2:=fun x y H Q=>∃ l xs,x=.ref l∧y=.int 1∧SqT K H l xs∧Q (.ref l) H
theorem op_repT1 {X:Cx}:OpR X (binaryOp .Mult) (rRepT1 X.K):=by
  intro pins s σ H x y v u Q I rx ry h
  obtain ⟨l,xs,rfl,rfl,hT,q⟩:=h
  cases rx
  obtain ⟨t,rfl⟩:=ry
  obtain ⟨its,r,⟨⟨cls,dd,data,sl⟩,ho,hc,n,hd⟩,hs⟩:=I.tuple hT
  simp only at hc hd
  subst hc hd
  refine wpAny_binaryOp_repeat_ref (T:="tuple") (U:="int") (by decide) ⟨_,ho,rfl⟩ (fun s'=>typeIs_int s' 1 t) noFill_tuple_mul F.fills_int_mul F.slot_int_rmul repeat_tuple F.slot_int_index.lookup
    (call_meets F.slot_int_rmul (typeIs_int s 1 t) F.entry_int_rmul (F.args_int_rmul_2 _ _) (int_rmul_tuple 1 t l its.toArray n dd sl)
      ⟨ho,rfl,⟨_,ho,rfl⟩,call_meets F.slot_tuple_mul ⟨_,ho,rfl⟩ F.entry_tuple_mul (F.args_tuple_mul_2 _ _) (tuple_mul1 l its.toArray n dd sl t) ⟨ho,?_⟩⟩)
  exact ⟨.ref l,H,I,rfl,q⟩
def rMulEv (K:PySem.W.Frag):R2:=fun x y H Q=>rI CMul (fun i j=>.int (i * j)) x y H Q∨rMulS x y H Q∨rRepT K x y H Q∨rRepT1 K x y H Q
theorem ok_mul:OpOk F opMul (rMulEv F.K):=by
  intro Wsh B ι ρ S σ H wx wy x y Q rl rx ry c
  unfold opMul at c
  split at c
  · cases rx; cases ry
    split at c
    · rename_i h
      exact .inl ⟨_,_,rfl,rfl,mulOk_of h,c.here rl _ (.int _)⟩
    · exact c.elim
  · cases rx; cases ry
    split at c
    · rename_i h
      have h1:=Bool.and_eq_true_iff.mp h
      exact .inr (.inl ⟨_,_,rfl,rfl,of_decide_eq_true h1.1,of_decide_eq_true h1.2,c.here rl _ (.str _)⟩)
    · exact c.elim
  · cases ry
    split at c
    · rename_i h
      have h1:=Bool.and_eq_true_iff.mp h
      have h2:=of_decide_eq_true h1.1
      have h3:=of_decide_eq_true h1.2
      obtain ⟨a,vs,rfl,hq,r1⟩:=rep_sqT rx
      have hl:=reps_len r1
      refine .inr (.inr (.inl ⟨a,_,vs,rfl,rfl,hq,?_,h2.1,h2.2,by omega,fun p hp=>c ι _ (Ext.new hp) (rl.new hp) _ (new_tup rl (reps_flat r1 _) hp)⟩))
      intro e
      rw [e] at hl
      simp at hl
      rw [hl] at h3
      simp at h3
    · split at c
      · rename_i h1
        have h1:=of_decide_eq_true h1
        subst h1
        obtain ⟨a,vs,rfl,hq,r1⟩:=rep_sqT rx
        exact .inr (.inr (.inr ⟨a,vs,rfl,rfl,hq,c.here rl _ rx⟩))
      · exact c.elim
  · exact c.elim
theorem or_mul {X:Cx} (hK:X.K=F.K):OpR X (binaryOp .Mult) (rMulEv F.K):=by rw [← hK]; exact OpR.or op_mul (OpR.or or_mulS (OpR.or op_repT op_repT1))
def opIx:Op2:=fun x y S=>match view S x,y with
  | some (.lst xs),.d (.int i)=>match atI xs i with
    | some d=>.ok (.d d) S
    | none=>.err
  | some (.tup xs),.d (.int i)=>match atI xs i with
    | some d=>.ok (.d d) S
    | none=>.err
  | some (.str z),.d (.int i)=>if z.length≤sizeLine then (match atI z.cps.toList i with
    | some c=>.ok (.d (.str ⟨#[c]⟩)) S
    | none=>.err) else .err
  | _,_=>.err
theorem reps_atI {H:Hp} {B:List Addr} {ι:Ads} {ds:List D} {vs:List V} (r:RDs F H B ι ds vs) {i:Int} {d:D} (e:atI ds i=some d):∃ v,atI vs i=some v∧RD F H B ι d v:=by
  unfold atI at e ⊢
  rw [← reps_len r]
  cases q:ixN ds.length i with
  | none=>rw [q] at e; cases e
  | some j =>
    rw [q] at e
    exact reps_at r e
theorem view_lst {S:Sto} {H:Hp} {B:List Addr} {ι:Ads} {w:W} {v:V} {ds:List D} (rl:RelS F H B ι S) (r:RW F H B ι w v) (e:view S w=some (.lst ds)):∃ a vs,v=.ref a∧H a=some (.lst vs)∧RDs F H B ι ds vs:=by
  cases w with
  | d x =>
    simp [view] at e
    subst e
    obtain ⟨a,vs,h1,h2,h3,_⟩:=rep_lst r
    exact ⟨a,vs,h1,h2,h3⟩
  | exc _ _=>simp [view] at e
  | fn=>simp [view] at e
  | ref i =>
    obtain ⟨p,hp,rfl⟩:=r
    obtain ⟨o,ho,ro⟩:=rl.at_some hp
    simp only [view,ho] at e
    cases o with
    | lst ws =>
      simp only [Option.map_eq_some_iff] at e
      obtain ⟨es,e1,e2⟩:=e
      cases e2
      obtain ⟨_,vs,h1,rv⟩:=ro
      exact ⟨_,vs,rfl,h1,dats_reps e1 rv⟩
    | dct _=>simp at e
    | drw _ _ _=>simp at e
    | ins _ _=>simp at e
    | tup _=>simp at e
    | kd _=>simp at e
theorem view_tup {S:Sto} {H:Hp} {B:List Addr} {ι:Ads} {w:W} {v:V} {ds:List D} (rl:RelS F H B ι S) (r:RW F H B ι w v) (e:view S w=some (.tup ds)):∃ a vs,v=.ref a∧SqT F.K H a vs∧RDs F H B ι ds vs:=by
  cases w with
  | d x =>
    simp [view] at e
    subst e
    exact rep_sqT r
  | exc _ _=>simp [view] at e
  | fn=>simp [view] at e
  | ref i =>
    simp only [view] at e
    split at e
    · simp at e
    · simp at e
theorem ok_ix:OpOk F opIx (rIx F.K):=by
  intro Wsh B ι ρ S σ H wx wy x y Q rl rx ry c
  unfold opIx at c
  split at c
  · rename_i xs i e
    split at c
    · rename_i d hd
      obtain ⟨a,vs,rfl,h1,r1⟩:=view_lst rl.toRelS rx e
      obtain ⟨v,h2,r2⟩:=reps_atI r1 hd
      cases ry
      exact .inl ⟨a,vs,_,v,rfl,rfl,SqL.of h1,h2,c.here rl _ r2⟩
    · exact c.elim
  · rename_i xs i e
    split at c
    · rename_i d hd
      obtain ⟨a,vs,rfl,h1,r1⟩:=view_tup rl.toRelS rx e
      obtain ⟨v,h2,r2⟩:=reps_atI r1 hd
      cases ry
      exact .inr (.inl ⟨a,vs,_,v,rfl,rfl,h1,h2,c.here rl _ r2⟩)
    · exact c.elim
  · rename_i z i e
    have h1:=view_str e
    subst h1
    cases rx; cases ry
    split at c
    · rename_i hz
      split at c
      · rename_i cc hc
        exact .inr (.inr ⟨z,_,cc,rfl,rfl,hz,hc,c.here rl _ (.str _)⟩)
      · exact c.elim
    · exact c.elim
  · exact c.elim
section
variable {X:Cx} {Wsh:WX} {a b e:Expr} {f g:FE} {pos:Pos}
theorem r_ix (hK:X.K=F.K) (ha:PE X a (tR F Wsh f)) (hb:PE X b (tR F Wsh g)) (hs:PlainIx b):PE X (.Subscript a b pos) (tR F Wsh (fBin opIx f g)) :=
  peImp (pe_ix (r:=rIx F.K) (by rw [← hK]; exact ix_seq) ha hb hs) fun σ H Q h=>two ok_ix h
abbrev FO:=Loc→Sto→R (Option Int)
def oNone:FO:=fun _ S=>.ok none S
def oSome (f:FE):FO:=fun ρ S=>(f ρ S).bind fun w S1=>match w with
  | .d (.int i)=>.ok (some i) S1
  | _=>.err
def tRO (F:Fx) (Wsh:WX) (f:FO):TO:=fun σ H Q=>∃ B ι ρ S,Rel F H B ι ρ S σ∧Cont F Wsh B ρ σ ι H (f ρ S) fun o _ _ H'=>Q o H'
theorem poImp {o:Option Expr} {t t':TO} (h:PO X o t) (f:∀ σ H Q,t' σ H Q→t σ H Q):PO X o t':=⟨fun pins s σ H Q I q=>h.run pins s σ H Q I (f σ H Q q)⟩
theorem ro_none:PO X none (tRO F Wsh oNone):=poImp po_none fun σ H Q ⟨B,ι,ρ,S,rl,c⟩=>c.here rl
theorem ro_some (h:PE X e (tR F Wsh f)):PO X (some e) (tRO F Wsh (oSome f)):=poImp (po_some h) fun σ H Q ⟨B,ι,ρ,S,rl,c⟩=>by
  refine tR_step rl c fun w v S1 ι1 H1 x1 rl1 rv c1=>?_
  split at c1
  · cases rv
    exact ⟨_,rfl,c1.here rl1⟩
  · exact (show False from c1).elim
def cut {α:Type} (xs:List α) (lo hi:Option Int):List α:=(xs.drop (HT.sIx xs.length 0 lo)).take (HT.sIx xs.length xs.length hi - HT.sIx xs.length 0 lo)
abbrev OpSl:=W→Option Int→Option Int→Sto→R W
def opSl:OpSl:=fun x lo hi S=>match view S x with
  | some (.lst xs)=>.ok (.d (.lst (cut xs lo hi))) S
  | some (.tup xs)=>.ok (.d (.tup (cut xs lo hi))) S
  | some (.str z)=>if z.length≤sizeLine then .ok (.d (.str ⟨(cut z.cps.toList lo hi).toArray⟩)) S else .err
  | _=>.err
def fSl (op:OpSl) (f:FE) (lo hi:FO):FE:=fun ρ S=>(f ρ S).bind fun x S1=>(lo ρ S1).bind fun l S2=>(hi ρ S2).bind fun h S3=>op x l h S3
end
end
end Ev
namespace Ev
open PySem PySem.Spec L2
section
variable {F:Fx} {X:Cx} {Wsh:WX} {a b e:Expr} {es:List Expr} {f g:FE} {fa:FA} {pos p2:Pos}
def rSlEv (K:PySem.W.Frag):V→Option Int→Option Int→Hp→VK→Prop:=fun x lo hi H Q=>rSlL K x lo hi H Q∨rSlA K x lo hi H Q∨rSlS x lo hi H Q
theorem reps_cut {H:Hp} {B:List Addr} {ι:Ads} {ds:List D} {vs:List V} (r:RDs F H B ι ds vs) (lo hi:Option Int):RDs F H B ι (cut ds lo hi) (cutV vs lo hi):=by
  unfold cut cutV
  rw [reps_len r]
  exact reps_take _ (reps_drop _ r)
theorem cut_all {α:Type} (xs:List α) {lo hi:Option Int} (h:HT.sIx xs.length 0 lo=0∧HT.sIx xs.length xs.length hi=xs.length):cut xs lo hi=xs:=by
  unfold cut
  rw [h.1,h.2]
  simp
theorem ok_sl {B:List Addr} {ι:Ads} {ρ:Loc} {S:Sto} {σ:L2.St} {H:Hp} {w:W} {x:V} {lo hi:Option Int} {Q:VK} (rl:Rel F H B ι ρ S σ) (rx:RW F H B ι w x)
    (c:Cont F Wsh B ρ σ ι H (opSl w lo hi S) (fun w _ ι' H'=>∀ v,RW F H' B ι' w v→Q v H')):rSlEv F.K x lo hi H Q:=by
  unfold opSl at c
  split at c
  · rename_i xs e
    obtain ⟨a,vs,rfl,h1,r1⟩:=view_lst rl.toRelS rx e
    exact .inl ⟨a,vs,rfl,SqL.of h1,fun p hp=>c ι _ (Ext.new hp) (rl.new hp) _ (new_lst rl (reps_cut r1 lo hi) hp)⟩
  · rename_i xs e
    obtain ⟨a,vs,rfl,h1,r1⟩:=view_tup rl.toRelS rx e
    refine .inr (.inl ⟨a,vs,rfl,h1,fun h=>?_,fun _ p hp=>c ι _ (Ext.new hp) (rl.new hp) _ (new_tup rl (reps_cut r1 lo hi) hp)⟩)
    refine c.here rl _ ?_
    rw [← reps_len r1] at h
    rw [cut_all xs h]
    cases w with
    | d y=>simp [view] at e; subst e; exact rx
    | exc _ _=>simp [view] at e
    | fn=>simp [view] at e
    | ref i =>
      simp only [view] at e
      split at e <;> simp at e
  · rename_i z e
    have h1:=view_str e
    subst h1
    cases rx
    split at c
    · rename_i hz
      exact .inr (.inr ⟨z,rfl,hz,c.here rl _ (.str _)⟩)
    · exact c.elim
  · exact c.elim
theorem r_sl {lo hi:Option Expr} {fl fh:FO} (hK:X.K=F.K) (ha:PE X a (tR F Wsh f)) (hl:PO X lo (tRO F Wsh fl)) (hh:PO X hi (tRO F Wsh fh)):PE X (.Subscript a (.Slice lo hi none p2) pos) (tR F Wsh (fSl opSl f fl fh)) :=
  peImp (pe_slice (r:=rSlEv F.K) (by rw [← hK]; exact SlR.or sl_list (SlR.or sl_tupA sl_str)) ha hl hh) fun σ H Q ⟨B,ι,ρ,S,rl,c⟩=>by
    refine tR_step rl c fun w v S1 ι1 H1 x1 rl1 rv c1=>?_
    refine ⟨B,ι1,ρ,S1,rl1,c1.bind.mono fun l S2 ι2 H2 _ x2 rl2 c2=>?_⟩
    refine ⟨B,ι2,ρ,S2,rl2,c2.bind.mono fun h S3 ι3 H3 _ x3 rl3 c3=>?_⟩
    exact ok_sl rl3 ((rv.ext x2).ext x3) c3
def fTup (g:FA):FE:=fun ρ S=>(g ρ S).bind fun ws S1=>match dats ws with
  | some ds=>if ds.length≤sizeLine then .ok (.d (.tup ds)) S1 else .err
  | none=>.err
def fLst (g:FA):FE:=fun ρ S=>(g ρ S).bind fun ws S1=>match dats ws with
  | some ds=>if ds.length≤sizeLine then .ok (.d (.lst ds)) S1 else .err
  | none=>.err
theorem r_tup {x1:Nat} (h:PA X es (tRA F Wsh fa)):PE X (.Tuple es x1 pos) (tR F Wsh (fTup fa)):=peImp (pe_tup h) fun σ H Q ⟨B,ι,ρ,S,rl,c⟩=>by
  refine tRA_step rl c fun ws vs S1 ι1 H1 x1 rl1 rv c1=>?_
  split at c1
  · rename_i ds e
    have r:=dats_reps e rv
    split at c1
    · rename_i hz
      exact ⟨by rw [← reps_len r]; exact hz,fun p hp=>c1 ι1 _ (Ext.new hp) (rl1.new hp) _ (new_tup rl1 r hp)⟩
    · exact (show False from c1).elim
  · exact (show False from c1).elim
theorem r_lst (h:PA X es (tRA F Wsh fa)):PE X (.List es pos) (tR F Wsh (fLst fa)):=peImp (pe_lst h) fun σ H Q ⟨B,ι,ρ,S,rl,c⟩=>by
  refine tRA_step rl c fun ws vs S1 ι1 H1 x1 rl1 rv c1=>?_
  split at c1
  · rename_i ds e
    have r:=dats_reps e rv
    split at c1
    · rename_i hz
      exact ⟨by rw [← reps_len r]; exact hz,fun p hp=>c1 ι1 _ (Ext.new hp) (rl1.new hp) _ (new_lst rl1 r hp)⟩
    · exact (show False from c1).elim
  · exact (show False from c1).elim
def seqD:D→Option (List D)
  | .tup xs=>some xs
  | .lst xs=>some xs
  | _=>none
def seqW (S:Sto) (w:W):Option (List D):=(view S w).bind seqD
theorem seqW_sq {S:Sto} {H:Hp} {B:List Addr} {ι:Ads} {w:W} {v:V} {ds:List D} (rl:RelS F H B ι S) (r:RW F H B ι w v) (e:seqW S w=some ds):∃ a vs,v=.ref a∧(SqL F.K H a vs∨SqT F.K H a vs)∧RDs F H B ι ds vs:=by
  unfold seqW at e
  cases q:view S w with
  | none=>rw [q] at e; cases e
  | some d =>
    rw [q] at e
    cases d with
    | tup xs =>
      cases e
      obtain ⟨a,vs,h1,h2,h3⟩:=view_tup rl r q
      exact ⟨a,vs,h1,.inr h2,h3⟩
    | lst xs =>
      cases e
      obtain ⟨a,vs,h1,h2,h3⟩:=view_lst rl r q
      exact ⟨a,vs,h1,.inl (SqL.of h2),h3⟩
    | _=>cases e
theorem reps_rws {H:Hp} {B:List Addr} {ι:Ads}:∀ {ds:List D} {vs:List V},RDs F H B ι ds vs→RWs F H B ι (ds.map W.d) vs
  | _,_,.nil=>.nil
  | _,_,.cons r t=>.cons r (reps_rws t)
theorem rws_app {H:Hp} {B:List Addr} {ι:Ads}:∀ {ws zs:List W} {vs us:List V},RWs F H B ι ws vs→RWs F H B ι zs us→RWs F H B ι (ws ++ zs) (vs ++ us)
  | _,_,_,_,.nil,s=>s
  | _,_,_,_,.cons r t,s=>.cons r (rws_app t s)
def fStar (f:FE) (g:FA):FA:=fun ρ S=>(f ρ S).bind fun x S1=>match seqW S1 x with
  | some ds=>(g ρ S1).bind fun xs S2=>.ok (ds.map W.d ++ xs) S2
  | none=>.err
theorem r_star (hK:X.K=F.K) {sp:Pos} (he:PE X e (tR F Wsh f)) (hr:PA X es (tRA F Wsh fa)) (hs:starEach (.Starred e sp :: es) X.env=(true,eval e X.env) :: starEach es X.env:=by rfl):PA X (.Starred e sp :: es) (tRA F Wsh (fStar f fa)) :=
  paImp (StX.pa_star he hr hs) fun σ H Q ⟨B,ι,ρ,S,rl,c⟩=>by
    refine tR_step rl c fun w v S1 ι1 H1 x1 rl1 rv c1=>?_
    split at c1
    · rename_i ds e
      obtain ⟨a,vs,rfl,h1,r1⟩:=seqW_sq rl1.toRelS rv e
      refine ⟨a,vs,rfl,by rw [hK]; exact h1.symm,?_⟩
      refine tRA_step rl1 c1 fun ws us S2 ι2 H2 x2 rl2 ru c2=>?_
      exact c2.here rl2 _ (rws_app (reps_rws (r1.ext x2)) ru)
    · exact (show False from c1).elim
def op1 (h:D→Option D):OpN:=fun ws S=>match ws with
  | [w]=>match view S w with
    | some d=>match h d with
      | some r=>.ok (.d r) S
      | none=>.err
    | none=>.err
  | _=>.err
theorem r_callB {id:String} {x:Str} {p:Pos} {r:RN} {o:OpN} (hc:CallR X (.builtin id) r) (ok:OpNOk F o r) (hg:Gl X x) (hm:X.mg x=none) (hv:bootBuiltins x=some (.builtin id)) (ha:PA X (e :: es) (tRA F Wsh fa)) (hn:x ≠ "__name__":=by decide) (hdb:(x == ("__debug__":Str))=false:=by decide)
    (he:starEach (e :: es) X.env=(false,eval e X.env) :: starEach es X.env:=by rfl) (hpl:(backTo pos (starEach es X.env)).any (·.1)=false:=by rfl):PE X (.Call (.Name x p) (e :: es) [] pos) (tR F Wsh (fCall o fa)) :=
  peImp (pe_callB hc hg hm hv ha hn hdb he hpl) fun σ H Q h=>many ok h
theorem r_callTy {id:String} {x:Str} {p:Pos} {r:RN} {o:OpN} (hc:CallR X (.type id) r) (ok:OpNOk F o r) (hg:Gl X x) (hm:X.mg x=none) (hv:bootBuiltins x=some (.type id)) (ha:PA X (e :: es) (tRA F Wsh fa)) (hn:x ≠ "__name__":=by decide) (hdb:(x == ("__debug__":Str))=false:=by decide)
    (he:starEach (e :: es) X.env=(false,eval e X.env) :: starEach es X.env:=by rfl) (hpl:(backTo pos (starEach es X.env)).any (·.1)=false:=by rfl):PE X (.Call (.Name x p) (e :: es) [] pos) (tR F Wsh (fCall o fa)) :=
  peImp (pe_callTy hc hg hm hv ha hn hdb he hpl) fun σ H Q h=>many ok h
theorem one_arg {H:Hp} {B:List Addr} {ι:Ads} {w:W} {vs:List V} (r:RWs F H B ι [w] vs):∃ v,vs=[v]∧RW F H B ι w v:=by
  cases r with
  | cons a t=>cases t; exact ⟨_,rfl,a⟩
theorem two_args {H:Hp} {B:List Addr} {ι:Ads} {w z:W} {vs:List V} (r:RWs F H B ι [w,z] vs):∃ v u,vs=[v,u]∧RW F H B ι w v∧RW F H B ι z u:=by
  cases r with
  | cons a t=>cases t with
    | cons b t=>cases t; exact ⟨_,_,rfl,a,b⟩
def lenD:D→Option D
  | .str z=>if z.length≤sizeLine then some (.int z.length) else none
  | .tup xs=>some (.int xs.length)
  | .lst xs=>some (.int xs.length)
  | .scr ns=>some (.int ns.length)
  | _=>none
def opLen:OpN:=op1 lenD
def rLenEv (K:PySem.W.Frag):RN:=fun xs H Q=>(∃ p ys,xs=[.ref p]∧(SqL K H p ys∨SqT K H p ys)∧Q (.int ys.length) H)∨∃ z,xs=[.str z]∧z.length≤sizeLine∧Q (.int z.length) H
theorem cr_len (hK:X.K=F.K):CallR X (.builtin "len") (rLenEv F.K):=by rw [← hK]; exact CallR.or call_len_seq call_len_str
theorem view_scr {S:Sto} {w:W} {ns:List Int} (e:view S w=some (.scr ns)):w=.d (.scr ns):=by
  cases w with
  | d y=>simp [view] at e; rw [e]
  | exc _ _=>simp [view] at e
  | fn=>simp [view] at e
  | ref i =>
    simp only [view] at e
    split at e
    · simp at e
    · simp at e
theorem ok_len:OpNOk F opLen (rLenEv F.K):=by
  intro Wsh B ι ρ S σ H ws vs Q rl rw c
  unfold opLen op1 at c
  split at c
  · rename_i w
    obtain ⟨v,rfl,rv⟩:=one_arg rw
    split at c
    · rename_i d hd
      split at c
      · rename_i r hr
        cases d with
        | str z =>
          have h1:=view_str hd
          subst h1
          cases rv
          simp only [lenD] at hr
          split at hr
          · rename_i hz
            cases hr
            exact .inr ⟨z,rfl,hz,c.here rl _ (.int _)⟩
          · cases hr
        | tup xs =>
          cases hr
          obtain ⟨a,us,rfl,h1,r1⟩:=view_tup rl.toRelS rv hd
          refine .inl ⟨a,us,rfl,.inr h1,?_⟩
          rw [← reps_len r1]
          exact c.here rl _ (.int _)
        | lst xs =>
          cases hr
          obtain ⟨a,us,rfl,h1,r1⟩:=view_lst rl.toRelS rv hd
          refine .inl ⟨a,us,rfl,.inl (SqL.of h1),?_⟩
          rw [← reps_len r1]
          exact c.here rl _ (.int _)
        | scr ns =>
          cases hr
          have h1:=view_scr hd
          subst h1
          cases rv with
          | scr n h q =>
            refine .inl ⟨_,ns.map V.int,rfl,.inl (.inl (by rcases q with rfl | ⟨o,rfl⟩; exact .inl h; exact .inr ⟨_,h⟩)),?_⟩
            rw [List.length_map]
            exact c.here rl _ (.int _)
          | scrK h1 h2 h3 h4 h5 h6 =>
            refine .inl ⟨_,ns.map V.int,rfl,.inl (.inr ⟨_,_,_,h1,h2,h3,h4,h5,h6⟩),?_⟩
            rw [List.length_map]
            exact c.here rl _ (.int _)
        | _=>cases hr
      · exact c.elim
    · exact c.elim
  · exact c.elim
end
end Ev
namespace Ev
open PySem PySem.Spec L2
inductive Ty where
  | non | bl | int | str | tup | lst | dct
  deriving DecidableEq
def Ty.nm:Ty→String
  | .non=>"NoneType" | .bl=>"bool" | .int=>"int" | .str=>"str" | .tup=>"tuple" | .lst=>"list" | .dct=>"dict"
def Ty.sub (a b:Ty):Bool:=decide (a=b) || (decide (a=.bl) && decide (b=.int))
theorem kit_sub {K:PySem.W.Frag} (a b:Ty) (h:b ≠ .non):PySem.W.kitOne K (.type a.nm) (.type b.nm)=some (a.sub b):=by
  refine kit_ty ?_
  cases a <;> cases b <;> first | exact absurd rfl h | decide +kernel
def tyD:D→Option Ty
  | .non=>some .non | .bl _=>some .bl | .int _=>some .int | .str _=>some .str | .tup _=>some .tup | .lst _=>some .lst | .dct _=>some .dct
  | .scr _=>none | .ins _ _=>none | .ftp _=>none | .cls _=>none | .exi _ _ _=>none | .dkf _=>none | .kdc _=>none
def tyW (S:Sto):W→Option Ty
  | .d x=>tyD x
  | .ref i=>match S[i]? with
    | some (.lst _)=>some .lst
    | some (.dct _)=>some .dct
    | some (.tup _)=>some .tup
    | some (.kd _)=>none
    | some (.drw _ _ _)=>some .dct
    | some (.ins _ _)=>none
    | none=>none
  | .exc _ _=>none
  | .fn=>none
section
variable {F:Fx} {X:Cx} {Wsh:WX} {a b e:Expr} {es:List Expr} {f g:FE} {fa:FA} {pos p p2:Pos}
theorem tyW_tyX {S:Sto} {H:Hp} {B:List Addr} {ι:Ads} {w:W} {v:V} {t:Ty} (rl:RelS F H B ι S) (r:RW F H B ι w v) (e:tyW S w=some t):TyX F.K H v (.type t.nm):=by
  cases w with
  | d x =>
    simp only [tyW] at e
    cases r with
    | non=>cases e; exact .base .non
    | bl b=>cases e; exact .base (.bl b)
    | int i=>cases e; exact .base (.int i)
    | str z=>cases e; exact .base (.str z)
    | tup n h _=>cases e; exact .base (.tup h)
    | tupK h1 h2 _ _ _ _=>cases e; exact .kTuple h1 h2
    | tupF n h _=>cases e; exact .fTuple h
    | ftp n h _ _=>cases e
    | lst n h _=>cases e; exact .base (.lst h)
    | scr n h q=>cases e
    | scrK _ _ _ _ _ _=>cases e
    | dK n h _=>cases e; exact .base (.dK h)
    | ins n h _=>cases e
    | cls _=>cases e
    | kdc _ _ _=>cases e
    | exi _ _ _ _ _=>cases e
    | dkf _ _ _=>cases e
  | exc _ _=>simp [tyW] at e
  | fn=>simp [tyW] at e
  | ref i =>
    obtain ⟨p,hp,rfl⟩:=r
    obtain ⟨o,ho,ro⟩:=rl.at_some hp
    simp only [tyW,ho] at e
    cases o with
    | lst ws=>cases e; obtain ⟨_,vs,h1,_⟩:=ro; exact .base (.lst h1)
    | dct ws=>cases e; obtain ⟨_,vs,h1,_⟩:=ro; exact .base (.dK h1)
    | ins _ _=>cases e
    | kd _=>cases e
    | tup ws=>cases e; obtain ⟨_,vs,h1,_⟩:=ro; exact .base (.tup h1)
    | drw _ _ _=>cases e; obtain ⟨_,_,_,h1,_⟩:=ro; exact .base (.dK h1)
def fIsi (T:Ty) (f:FE):FE:=fun ρ S=>(f ρ S).bind fun w S1=>match tyW S1 w with
  | some t=>.ok (.d (.bl (t.sub T))) S1
  | none=>.err
theorem r_isi {T:Ty} {x:Str} (hK:X.K=F.K) (hT:T ≠ .non) (hgi:Gl X "isinstance") (hmi:X.mg "isinstance" = none) (hg:Gl X x) (hm:X.mg x=none) (hv:bootBuiltins x=some (.type T.nm)) (he:PE X e (tR F Wsh f))
    (hn:x ≠ "__name__":=by decide) (hd:(x == ("__debug__":Str))=false:=by decide)
    (hs:starEach [e,.Name x p2] X.env=(false,eval e X.env) :: starEach [.Name x p2] X.env:=by rfl):PE X (.Call (.Name "isinstance" p) [e,.Name x p2] [] pos) (tR F Wsh (fIsi T f)) :=
  peImp (pe_callB call_isi hgi hmi (by decide +kernel) (pa_cons he (pa_cons (pe_bltn (v:=.ty T.nm) hg hm hv rfl hn hd) pa_nil) hs) (by decide) (by decide) hs) fun σ H Q ⟨B,ι,ρ,S,rl,c⟩=>by
    refine tR_step rl c fun w v S1 ι1 H1 x1 rl1 rv c1=>?_
    split at c1
    · rename_i t ht
      refine ⟨v,.ty T.nm,.type t.nm,.type T.nm,_,rfl,.ty _,by rw [hK]; exact tyW_tyX rl1.toRelS rv ht,kit_sub t T hT,c1.here rl1 _ (.bl _)⟩
    · exact (show False from c1).elim
def bools:List D→Option (List Bool)
  | []=>some []
  | .bl b :: xs=>(bools xs).map (b :: ·)
  | _ :: _=>none
theorem bools_reps {H:Hp} {B:List Addr} {ι:Ads}:∀ {ds:List D} {vs:List V} {bs:List Bool},bools ds=some bs→RDs F H B ι ds vs→vs=bs.map V.bl
  | [],_,_,e,.nil=>by simp [bools] at e; subst e; rfl
  | d :: ds,_,_,e,.cons r t=>by
    cases d with
    | bl b =>
      simp only [bools,Option.map_eq_some_iff] at e
      obtain ⟨cs,e1,rfl⟩:=e
      cases r
      rw [bools_reps e1 t]
      rfl
    | _=>simp [bools] at e
def nums:List D→Option (List Int)
  | []=>some []
  | .int b :: xs=>(nums xs).map (b :: ·)
  | _ :: _=>none
def allD:D→Option D
  | .lst xs=>(bools xs).map fun bs=>.bl (bs.all id)
  | _=>none
theorem op1_ok {h:D→Option D} {r:RN} (k:∀ (Wsh:WX) (B:List Addr) (ι:Ads) (ρ:Loc) (S:Sto) (σ:L2.St) (H:Hp) (w:W) (v:V) (d y:D) (Q:VK),Rel F H B ι ρ S σ→RW F H B ι w v→view S w=some d→h d=some y →
    Cont F Wsh B ρ σ ι H (.ok (.d y) S) (fun w _ ι' H'=>∀ v,RW F H' B ι' w v→Q v H')→r [v] H Q):OpNOk F (op1 h) r:=by
  intro Wsh B ι ρ S σ H ws vs Q rl rw c
  unfold op1 at c
  split at c
  · rename_i w
    obtain ⟨v,rfl,rv⟩:=one_arg rw
    split at c
    · rename_i d hd
      split at c
      · rename_i y hy
        exact k Wsh B ι ρ S σ H w v d y Q rl rv hd hy c
      · exact c.elim
    · exact c.elim
  · exact c.elim
theorem ok_all:OpNOk F (op1 allD) (rAll F.K):=op1_ok fun Wsh B ι ρ S σ H w v d y Q rl rv hd hy c=>by
  cases d with
  | lst xs =>
    simp only [allD,Option.map_eq_some_iff] at hy
    obtain ⟨bs,hb,rfl⟩:=hy
    obtain ⟨a,vs,rfl,h1,r1⟩:=view_lst rl.toRelS rv hd
    rw [bools_reps hb r1] at h1
    exact ⟨a,bs,rfl,SqL.of h1,c.here rl _ (.bl _)⟩
  | _=>simp [allD] at hy
def listD (d:D):Option D:=(seqD d).map .lst
def tupleD (d:D):Option D:=(seqD d).map .tup
theorem seqD_sq {S:Sto} {H:Hp} {B:List Addr} {ι:Ads} {w:W} {v:V} {d:D} {ds:List D} (rl:RelS F H B ι S) (r:RW F H B ι w v) (e:view S w=some d) (e2:seqD d=some ds):∃ a vs,v=.ref a∧RDs F H B ι ds vs∧((SqL F.K H a vs∧d=.lst ds)∨(SqT F.K H a vs∧d=.tup ds)):=by
  cases d with
  | tup xs =>
    cases e2
    obtain ⟨a,vs,h1,h2,h3⟩:=view_tup rl r e
    exact ⟨a,vs,h1,h3,.inr ⟨h2,rfl⟩⟩
  | lst xs =>
    cases e2
    obtain ⟨a,vs,h1,h2,h3⟩:=view_lst rl r e
    exact ⟨a,vs,h1,h3,.inl ⟨SqL.of h2,rfl⟩⟩
  | _=>cases e2
theorem ok_list:OpNOk F (op1 listD) (fun xs H Q=>∃ p ys,xs=[.ref p]∧(SqL F.K H p ys∨SqT F.K H p ys)∧∀ l,H l=none→Q (.ref l) (upd H l (.lst ys))):=op1_ok fun Wsh B ι ρ S σ H w v d y Q rl rv hd hy c=>by
  simp only [listD,Option.map_eq_some_iff] at hy
  obtain ⟨ds,hs,rfl⟩:=hy
  obtain ⟨a,vs,rfl,r1,h⟩:=seqD_sq rl.toRelS rv hd hs
  exact ⟨a,vs,rfl,h.elim (fun z=>.inl z.1) (fun z=>.inr z.1),fun p hp=>c ι _ (Ext.new hp) (rl.new hp) _ (new_lst rl r1 hp)⟩
theorem view_data {S:Sto} {w:W} {ds:List D} (e:view S w=some (.tup ds)):w=.d (.tup ds):=by
  cases w with
  | d y=>simp [view] at e; rw [e]
  | exc _ _=>simp [view] at e
  | fn=>simp [view] at e
  | ref i =>
    simp only [view] at e
    split at e
    · simp at e
    · simp at e
theorem ok_tuple:OpNOk F (op1 tupleD) (fun xs H Q=>∃ p ys,xs=[.ref p]∧((SqL F.K H p ys∧∀ l,H l=none→Q (.ref l) (upd H l (.tup ys)))∨(SqT F.K H p ys∧Q (.ref p) H))):=op1_ok fun Wsh B ι ρ S σ H w v d y Q rl rv hd hy c=>by
  simp only [tupleD,Option.map_eq_some_iff] at hy
  obtain ⟨ds,hs,rfl⟩:=hy
  obtain ⟨a,vs,rfl,r1,h⟩:=seqD_sq rl.toRelS rv hd hs
  rcases h with ⟨h,e⟩ | ⟨h,e⟩
  · exact ⟨a,vs,rfl,.inl ⟨h,fun p hp=>c ι _ (Ext.new hp) (rl.new hp) _ (new_tup rl r1 hp)⟩⟩
  · subst e
    have:=view_data hd
    subst this
    exact ⟨a,vs,rfl,.inr ⟨h,c.here rl _ rv⟩⟩
def intD:D→Option D
  | .int i=>some (.int i)
  | .bl b=>some (.int (if b then 1 else 0))
  | _=>none
theorem view_int {S:Sto} {w:W} {i:Int} (e:view S w=some (.int i)):w=.d (.int i):=by
  cases w with
  | d y=>simp [view] at e; rw [e]
  | exc _ _=>simp [view] at e
  | fn=>simp [view] at e
  | ref i =>
    simp only [view] at e
    split at e
    · simp at e
    · simp at e
theorem view_bl {S:Sto} {w:W} {i:Bool} (e:view S w=some (.bl i)):w=.d (.bl i):=by
  cases w with
  | d y=>simp [view] at e; rw [e]
  | exc _ _=>simp [view] at e
  | fn=>simp [view] at e
  | ref i =>
    simp only [view] at e
    split at e
    · simp at e
    · simp at e
theorem ok_int:OpNOk F (op1 intD) (fun xs H Q=>(∃ i,xs=[.int i]∧Q (.int i) H)∨∃ k,xs=[.bl k]∧Q (.int (if k then 1 else 0)) H):=op1_ok fun Wsh B ι ρ S σ H w v d y Q rl rv hd hy c=>by
  cases d with
  | int i =>
    cases hy
    have:=view_int hd
    subst this
    cases rv
    exact .inl ⟨i,rfl,c.here rl _ (.int _)⟩
  | bl b =>
    cases hy
    have:=view_bl hd
    subst this
    cases rv
    exact .inr ⟨b,rfl,c.here rl _ (.int _)⟩
  | _=>simp [intD] at hy
def opMin2:OpN:=fun ws S=>match ws with
  | [.d (.int i),.d (.int j)]=>.ok (.d (.int (if j < i then j else i))) S
  | _=>.err
theorem ok_min2:OpNOk F opMin2 (fun xs H Q=>∃ i j,xs=[.int i,.int j]∧Q (.int (if j < i then j else i)) H):=by
  intro Wsh B ι ρ S σ H ws vs Q rl rw c
  unfold opMin2 at c
  split at c
  · obtain ⟨v,u,rfl,r1,r2⟩:=two_args rw
    cases r1; cases r2
    exact ⟨_,_,rfl,c.here rl _ (.int _)⟩
  · exact c.elim
end
end Ev
namespace Ev
open PySem PySem.Spec L2
section
variable {X:Cx} {F:Fx} {Wsh:WX}
theorem pSet {α β:Type} {A:α→β→Prop} {a:α} {b:β} (r:A a b):∀ (i:Nat) {l:List α} {m:List β},Paired A l m→Paired A (l.set i a) (m.set i b)
  | _,_,_,.nil=>.nil
  | 0,_,_,.cons _ t=>.cons r t
  | i + 1,_,_,.cons q t=>.cons q (pSet r i t)
theorem Rel.set {H:Hp} {B:List Addr} {ι:Ads} {ρ:Loc} {S:Sto} {σ:L2.St} (r:Rel F H B ι ρ S σ) {w:W} {v:V} (i:Nat) (rv:RW F H B ι w v):Rel F H B ι (ρ.set i (some w)) S (σ.set i (some v)) :=
  ⟨r.toRelS,pSet (A:=RL F H B ι) (a:=some w) (b:=some v) rv i r.loc⟩
abbrev FG:=W→Loc→Sto→Option Loc
def GRel (F:Fx) (g:FG) (sl:List Nat) (t:TG):Prop:=∀ (B:List Addr) (ι:Ads) (ρ:Loc) (S:Sto) (σ:L2.St) (H:Hp) (w:W) (v:V) (ρ':Loc) (Q:L2.St→Hp→Prop),Rel F H B ι ρ S σ→RW F H B ι w v→g w ρ S=some ρ' →
  (∀ σ',Rel F H B ι ρ' S σ'→(∀ vs,(∀ i∈sl,i∈vs)→wipe σ' vs=wipe σ vs)→Q σ' H)→t v σ H Q
def GOk (X:Cx) (F:Fx) (tg:Expr) (g:FG) (sl:List Nat):Prop:=∃ t,PG X tg t∧GRel F g sl t
theorem wipe_out1 {i:Nat} {x:Option V} {σ:L2.St}:∀ {vs:List Nat},i ∉ vs→wipe (σ.set i x) vs=(wipe σ vs).set i x
  | [],_=>rfl
  | v :: vs,h=>by
    unfold wipe
    have h1:i ∉ vs:=fun z=>h (List.mem_cons_of_mem _ z)
    have h2:i ≠ v:=fun z=>h (z ▸ List.mem_cons_self)
    rw [wipe_out1 h1,List.set_comm _ _ (h2)]
theorem wipe_set {i:Nat} {x:Option V} {σ:L2.St}:∀ {vs:List Nat},i∈vs→wipe (σ.set i x) vs=wipe σ vs
  | v :: vs,h=>by
    unfold wipe
    by_cases e:i∈vs
    · rw [wipe_set e]
    · have e2:i=v:=by
        rcases List.mem_cons.mp h with z | z
        · exact z
        · exact absurd z e
      subst e2
      rw [wipe_out1 e]
      rw [List.set_set]
def gN (i:Nat):FG:=fun w ρ _=>some (ρ.set i (some w))
theorem gr_name {i:Nat}:GRel F (gN i) [i] (gName i):=fun B ι ρ S σ H w v ρ' Q r rv e q=>by
  simp only [gN,Option.some.injEq] at e
  subst e
  exact q _ (r.set i rv) fun vs h=>wipe_set (h i (by simp))
abbrev FGs:=List D→Loc→Sto→Option Loc
def GsRel (F:Fx) (g:FGs) (sl:List Nat) (t:TGs):Prop:=∀ (B:List Addr) (ι:Ads) (ρ:Loc) (S:Sto) (σ:L2.St) (H:Hp) (ds:List D) (vs:List V) (ρ':Loc) (Q:L2.St→Hp→Prop),Rel F H B ι ρ S σ→RDs F H B ι ds vs→g ds ρ S=some ρ' →
  (∀ σ',Rel F H B ι ρ' S σ'→(∀ vs,(∀ i∈sl,i∈vs)→wipe σ' vs=wipe σ vs)→Q σ' H)→t vs σ H Q
def gsNil:FGs:=fun ds ρ _=>match ds with | []=>some ρ | _=>none
def gsCons (g:FG) (gs:FGs):FGs:=fun ds ρ S=>match ds with
  | d :: ds=>(g (.d d) ρ S).bind fun ρ1=>gs ds ρ1 S
  | []=>none
theorem grs_nil:GsRel F gsNil [] gNil:=fun B ι ρ S σ H ds vs ρ' Q r rv e q=>by
  unfold gsNil at e
  split at e
  · cases rv
    cases e
    exact ⟨rfl,q _ r fun _ _=>rfl⟩
  · cases e
theorem grs_cons {g:FG} {gs:FGs} {sl sls:List Nat} {t:TG} {u:TGs} (ht:GRel F g sl t) (hu:GsRel F gs sls u):GsRel F (gsCons g gs) (sl ++ sls) (gCons t u):=fun B ι ρ S σ H ds vs ρ' Q r rv e q=>by
  unfold gsCons at e
  split at e
  · cases rv with
    | cons r1 rt =>
      rw [Option.bind_eq_some_iff] at e
      obtain ⟨ρ1,e1,e2⟩:=e
      exact ⟨_,_,rfl,ht B ι ρ S σ H (.d _) _ ρ1 _ r r1 e1 fun σ1 rl1 w1=>hu B ι ρ1 S σ1 H _ _ ρ' Q rl1 rt e2 fun σ2 rl2 w2=>q σ2 rl2 fun vs hv=>(w2 vs fun i hi=>hv i (List.mem_append_right _ hi)).trans (w1 vs fun i hi=>hv i (List.mem_append_left _ hi))⟩
  · cases e
def gT (n:Nat) (gs:FGs):FG:=fun w ρ S=>match view S w with
  | some (.tup ds)=>if ds.length=n then gs ds ρ S else none
  | _=>none
theorem gr_tup {n:Nat} {gs:FGs} {sl:List Nat} {t:TGs} {K:PySem.W.Frag} (hK:K=F.K) (ht:GsRel F gs sl t):GRel F (gT n gs) sl (gTup K n t):=fun B ι ρ S σ H w v ρ' Q r rv e q=>by
  subst hK
  unfold gT at e
  split at e
  · rename_i ds hd
    split at e
    · rename_i hl
      obtain ⟨a,vs,rfl,h1,r1⟩:=view_tup r.toRelS rv hd
      exact ⟨a,vs,rfl,h1,by rw [← reps_len r1]; exact hl,ht B ι ρ S σ H ds vs ρ' Q r r1 e q⟩
    · cases e
  · cases e
theorem go_mk {tg:Expr} {g:FG} {sl:List Nat} {t:TG} (p:PG X tg t) (h:GRel F g sl t):GOk X F tg g sl:=⟨t,p,h⟩
def SCont (F:Fx) (Wsh:WX) (B:List Addr) (ι:Ads) (H:Hp) (D:Ends) (r:RS):Prop:=match r with
  | .nx ρ S=>∀ ι' H' σ',Ext ι H ι' H'→Rel F H' B ι' ρ S σ'→D.nx σ' H'
  | .bk ρ S=>∀ ι' H' σ',Ext ι H ι' H'→Rel F H' B ι' ρ S σ'→D.bk σ' H'
  | .ct ρ S=>∀ ι' H' σ',Ext ι H ι' H'→Rel F H' B ι' ρ S σ'→D.ct σ' H'
  | .rt w S=>∀ ι' H' v,Ext ι H ι' H'→RelS F H' B ι' S→RW F H' B ι' w v→D.rt v H'
  | .exn c x ρ S=>∀ ι' H' σ' cv d,Ext ι H ι' H'→Rel F H' B ι' ρ S σ'→RX F H' B ι' c x cv d→Wsh cv d σ' H'
  | .err=>False
def tS (F:Fx) (Wsh:WX) (g:FS):TS:=fun D σ H=>∃ B ι ρ S,Rel F H B ι ρ S σ∧SCont F Wsh B ι H D (g ρ S)
variable {B:List Addr} {ι:Ads} {H:Hp} {D:Ends} {ρ:Loc} {S:Sto} {σ:L2.St}
theorem SCont.ext {r:RS} {ι':Ads} {H':Hp} (h:SCont F Wsh B ι H D r) (x:Ext ι H ι' H'):SCont F Wsh B ι' H' D r:=by
  cases r with
  | nx ρ S=>exact fun ι2 H2 σ2 y r=>h ι2 H2 σ2 (x.trans y) r
  | bk ρ S=>exact fun ι2 H2 σ2 y r=>h ι2 H2 σ2 (x.trans y) r
  | ct ρ S=>exact fun ι2 H2 σ2 y r=>h ι2 H2 σ2 (x.trans y) r
  | rt w S=>exact fun ι2 H2 v y r rv=>h ι2 H2 v (x.trans y) r rv
  | exn c d ρ S=>exact fun ι2 H2 σ2 cv od y r q=>h ι2 H2 σ2 cv od (x.trans y) r q
  | err=>exact h
def R.st {α:Type} (r:R α) (ρ:Loc) (k:α→Sto→RS):RS:=match r with
  | .ok a S=>k a S
  | .exn c x S=>.exn c x ρ S
  | .err=>.err
theorem SCont.bind {α:Type} {r:R α} {k:α→Sto→RS} (h:SCont F Wsh B ι H D (r.st ρ k)):Cont F Wsh B ρ σ ι H r fun a S ι' H'=>SCont F Wsh B ι' H' D (k a S):=by
  cases r with
  | ok a S=>exact fun ι' H' x _=>SCont.ext (show SCont F Wsh B ι H D (k a S) from h) x
  | exn c d S=>exact fun ι' H' cv od x rl q=>h ι' H' σ cv od x rl q
  | err=>exact h
theorem tS_step {f:FE} {k:W→Sto→RS} {Q:VK} (r:Rel F H B ι ρ S σ) (c:SCont F Wsh B ι H D ((f ρ S).st ρ k))
    (h:∀ w v S' ι' H',Ext ι H ι' H'→Rel F H' B ι' ρ S' σ→RW F H' B ι' w v→SCont F Wsh B ι' H' D (k w S')→Q v H'):tR F Wsh f σ H Q :=
  ⟨B,ι,ρ,S,r,c.bind.mono fun w S' ι' H' _ x r' q v rv=>h w v S' ι' H' x r' rv q⟩
theorem tS_stepA {f:FA} {k:List W→Sto→RS} {Q:List V→Hp→Prop} (r:Rel F H B ι ρ S σ) (c:SCont F Wsh B ι H D ((f ρ S).st ρ k))
    (h:∀ ws vs S' ι' H',Ext ι H ι' H'→Rel F H' B ι' ρ S' σ→RWs F H' B ι' ws vs→SCont F Wsh B ι' H' D (k ws S')→Q vs H'):tRA F Wsh f σ H Q :=
  ⟨B,ι,ρ,S,r,c.bind.mono fun w S' ι' H' _ x r' q v rv=>h w v S' ι' H' x r' rv q⟩
theorem tS_stepT {f:FT} {k:Bool→Sto→RS} {Q:Bool→Hp→Prop} (r:Rel F H B ι ρ S σ) (c:SCont F Wsh B ι H D ((f ρ S).st ρ k))
    (h:∀ b S' ι' H',Ext ι H ι' H'→Rel F H' B ι' ρ S' σ→SCont F Wsh B ι' H' D (k b S')→Q b H'):tRT F Wsh f σ H Q :=
  ⟨B,ι,ρ,S,r,c.bind.mono fun w S' ι' H' _ x r' q=>h w S' ι' H' x r' q⟩
theorem SCont.nx_here (c:SCont F Wsh B ι H D (.nx ρ S)) (r:Rel F H B ι ρ S σ):D.nx σ H:=c ι H σ (Ext.refl _ _) r
def sSeq (f g:FS):FS:=fun ρ S=>match f ρ S with
  | .nx ρ1 S1=>g ρ1 S1
  | r=>r
def sNext:FS:=fun ρ S=>.nx ρ S
theorem r_pnil:PSs X [] (tS F Wsh sNext):=pssImp pss_nil fun D σ H ⟨B,ι,ρ,S,rl,c⟩=>c.nx_here rl
theorem r_pcons {st:Stmt} {rest:List Stmt} {f g:FS} (h1:PS X st (tS F Wsh f)) (h2:PSs X rest (tS F Wsh g)):PSs X (st :: rest) (tS F Wsh (sSeq f g)) :=
  pssImp (pss_cons h1 h2) fun D σ H ⟨B,ι,ρ,S,rl,c⟩=>by
    refine ⟨B,ι,ρ,S,rl,?_⟩
    unfold sSeq at c
    revert c
    cases f ρ S with
    | nx ρ1 S1=>exact fun c ι' H' σ' x r=>⟨B,ι',ρ1,S1,r,SCont.ext (show SCont F Wsh B ι H D (g ρ1 S1) from c) x⟩
    | bk _ _=>exact fun c=>c
    | ct _ _=>exact fun c=>c
    | rt _ _=>exact fun c=>c
    | exn _ _ _ _=>exact fun c=>c
    | err=>exact fun c=>c
theorem r_pone {st:Stmt} {f:FS} (h1:PS X st (tS F Wsh f)):PSs X [st] (tS F Wsh f):=pss_one h1
variable {e:Expr} {f g:FE} {pos:Pos}
def sBreak:FS:=fun ρ S=>.bk ρ S
def sCont:FS:=fun ρ S=>.ct ρ S
def sRet (f:FE):FS:=fun ρ S=>(f ρ S).st ρ fun w S1=>.rt w S1
theorem r_ret (he:PE X e (tR F Wsh f)):PS X (.Return (some e) pos) (tS F Wsh (sRet f)):=psImp (ps_ret he) fun D σ H ⟨B,ι,ρ,S,rl,c⟩ =>
  tS_step rl c fun w v S1 ι1 H1 x1 rl1 rv c1=>c1 ι1 H1 v (Ext.refl _ _) rl1.toRelS rv
def sRetN:FS:=fun _ S=>.rt (.d .non) S
def sExpr (f:FE):FS:=fun ρ S=>(f ρ S).st ρ fun _ S1=>.nx ρ S1
theorem r_expr (he:PE X e (tR F Wsh f)) (hs:swapsWith e none pos.line X.env=pure false:=by rfl):PS X (.Expr e pos) (tS F Wsh (sExpr f)):=psImp (ps_expr he hs) fun D σ H ⟨B,ι,ρ,S,rl,c⟩ =>
  tS_step rl c fun w v S1 ι1 H1 x1 rl1 rv c1=>c1.nx_here rl1
def sSet (i:Nat) (f:FE):FS:=fun ρ S=>(f ρ S).st ρ fun w S1=>.nx (ρ.set i (some w)) S1
theorem r_set {i:Nat} {x:Str} {pos':Pos} (hN:X.N.Nodup) (hi:X.N[i]? = some x) (hx:L2.Loc X.env.scope x) (he:PE X e (tR F Wsh f)) (hs:swapsWith e (some (.Name x pos')) pos.line X.env=pure false:=by rfl)
    (hf:X.fn x=true∨X.env.scope.names.lookup x=some .local:=by first | exact .inl rfl | exact .inr rfl | assumption):PS X (.Assign [.Name x pos'] e pos) (tS F Wsh (sSet i f)):=psImp (ps_set hN hi hx he hs hf) fun D σ H ⟨B,ι,ρ,S,rl,c⟩ =>
  tS_step rl c fun w v S1 ι1 H1 x1 rl1 rv c1=>c1.nx_here (rl1.set i rv)
def sAsg (g:FG) (f:FE):FS:=fun ρ S=>(f ρ S).st ρ fun w S1=>match g w ρ S1 with
  | some ρ'=>.nx ρ' S1
  | none=>.err
theorem r_asg {tg:Expr} {gf:FG} {sl:List Nat} (he:PE X e (tR F Wsh f)) (hg:GOk X F tg gf sl) (hs:swapsWithSole [tg] e pos.line X.env=pure false:=by rfl) (hw:swappedStores [tg] e X.env=pure none:=by rfl)
    (h1:(assignEach [tg] X.env).map (·.2)=[assign tg X.env]:=by rfl):PS X (.Assign [tg] e pos) (tS F Wsh (sAsg gf f)):=by
  obtain ⟨t,pt,ht⟩:=hg
  refine psImp (ps_asg he pt hs hw h1) fun D σ H ⟨B,ι,ρ,S,rl,c⟩=>tS_step rl c fun w v S1 ι1 H1 x1 rl1 rv c1=>?_
  split at c1
  · rename_i ρ' hρ
    exact ht B ι1 ρ S1 σ H1 w v ρ' D.nx rl1 rv hρ fun σ' r _=>c1.nx_here r
  · exact (show False from c1).elim
def sPar2 (i j:Nat) (f:FA):FS:=fun ρ S=>(f ρ S).st ρ fun ws S1=>match ws with
  | [v,w]=>.nx ((ρ.set i (some v)).set j (some w)) S1
  | _=>.err
theorem r_par2 {i j:Nat} {x y:Str} {a b:Expr} {fa:FA} {px py pt:Pos} {kt k2:Nat} {pt2:Pos} (hc:X.calm=true) (hN:X.N.Nodup) (hi:X.N[i]? = some x) (hj:X.N[j]? = some y) (hij:i ≠ j)
    (hx:X.env.scope.names.lookup x=some .local) (hy:X.env.scope.names.lookup y=some .local) (ha:PA X [a,b] (tRA F Wsh fa))
    (hw:swappedStores [.Tuple [.Name x px,.Name y py] kt pt] (.Tuple [a,b] k2 pt2) X.env=pure (some [x,y]))
    (hs:swapsWithSole [.Tuple [.Name x px,.Name y py] kt pt] (.Tuple [a,b] k2 pt2) pos.line X.env=pure false:=by rfl) :
    PS X (.Assign [.Tuple [.Name x px,.Name y py] kt pt] (.Tuple [a,b] k2 pt2) pos) (tS F Wsh (sPar2 i j fa)):=psImp (ps_par hc hN hi hj hij hx hy ha hw hs) fun D σ H ⟨B,ι,ρ,S,rl,c⟩ =>
  tS_stepA rl c fun ws vs S1 ι1 H1 x1 rl1 rv c1=>by
    split at c1
    · obtain ⟨v,u,rfl,r1,r2⟩:=two_args rv
      exact ⟨v,u,rfl,c1.nx_here ((rl1.set i r1).set j r2)⟩
    · exact (show False from c1).elim
def sPar3 (i j l:Nat) (f:FA):FS:=fun ρ S=>(f ρ S).st ρ fun ws S1=>match ws with
  | [u,v,w]=>.nx (((ρ.set i (some u)).set j (some v)).set l (some w)) S1
  | _=>.err
def sIf (t:FT) (f g:FS):FS:=fun ρ S=>(t ρ S).st ρ fun k S1=>if k=true then f ρ S1 else g ρ S1
theorem r_sif {c:Expr} {a b:List Stmt} {t:FT} {f g:FS} (hc:PT X c (tRT F Wsh t)) (ha:PSs X a (tS F Wsh f)) (hb:PSs X b (tS F Wsh g)):PS X (.If c a b pos) (tS F Wsh (sIf t f g)):=psImp (ps_if hc ha hb) fun D σ H ⟨B,ι,ρ,S,rl,c⟩ =>
  tS_stepT rl c fun k S1 ι1 H1 x1 rl1 c1=>by
    split
    · rename_i hk
      rw [if_pos hk] at c1
      exact ⟨B,ι1,ρ,S1,rl1,c1⟩
    · rename_i hk
      rw [if_neg hk] at c1
      exact ⟨B,ι1,ρ,S1,rl1,c1⟩
end
end Ev
namespace Ev
open PySem PySem.Spec L2
def WalkD (F:Fx) (B:List Addr) (ι:Ads) (H:Hp) (J:It) (ds:List D):Prop :=
  ∃ (G:Hp→Prop) (Y:Nat→Hp→V→Hp→Prop),Walk J ds.length G Y∧(∀ ι' H',ExtW B ι H ι' H'→G H') ∧
    ∀ (i:Nat) (B':List Addr) (ι':Ads) (H':Hp) (S':Sto) (x:V) (H2:Hp),i < ds.length→ExtW B' ι H ι' H'→(∀ a∈B',a∈B∨H a=none)→RelS F H' B' ι' S'→Y i H' x H2 →
      (H2=H'∨∃ p vs,H' p=none∧H2=upd H' p (.tup vs))∧∃ d,ds[i]? = some d∧RD F H2 B' ι' d x
abbrev FI:=Loc→Sto→R (List D)
def tRI (F:Fx) (Wsh:WX) (f:FI):TI:=fun σ H Rr=>∃ B ι ρ S,Rel F H B ι ρ S σ∧Cont F Wsh B ρ σ ι H (f ρ S) fun ds _ ι' H'=>∀ J,WalkD F B ι' H' J ds→Rr J H'
section
variable {X:Cx} {F:Fx} {Wsh:WX} {tg e:Expr} {f g:FE} {fa:FA} {pos p:Pos}
theorem piImp {it:Expr} {t t':TI} (h:PI X tg it t) (f:∀ σ H Q,t' σ H Q→t σ H Q):PI X tg it t':=⟨fun pins s σ H Q I q=>h.run pins s σ H Q I (f σ H Q q)⟩
theorem sq_keepT {H H':Hp} {B:List Addr} {ι ι':Ads} {ds:List D} {v:V} (h:RD F H B ι (.tup ds) v):∃ a vs,v=.ref a∧SqT F.K H a vs∧RDs F H B ι ds vs∧∀ ι' H',ExtW B ι H ι' H'→SqT F.K H' a vs:=by
  cases h with
  | tup n e r=>exact ⟨_,_,rfl,SqT.of e,r,fun ι' H' x=>SqT.of (x.keep _ _ n e nt_tup)⟩
  | tupK h1 h2 h3 h4 h5 r=>exact ⟨_,_,rfl,.inr ⟨_,_,_,h1,h2,h3,h4,h5⟩,r,fun _ _ _=>.inr ⟨_,_,_,h1,h2,h3,h4,h5⟩⟩
  | tupF n e r=>exact ⟨_,_,rfl,.inl (.inr ⟨_,e⟩),r,fun ι' H' x=>.inl (.inr ⟨_,x.keep _ _ n e nt_frz⟩)⟩
theorem sq_keepL {H:Hp} {B:List Addr} {ι:Ads} {ds:List D} {v:V} (h:RD F H B ι (.lst ds) v):∃ a vs,v=.ref a∧SqL F.K H a vs∧RDs F H B ι ds vs∧∀ ι' H',ExtW B ι H ι' H'→SqL F.K H' a vs:=by
  cases h with
  | lst n e r=>exact ⟨_,_,rfl,SqL.of e,r,fun ι' H' x=>SqL.of (x.keep _ _ n e nt_lst)⟩
theorem subB {B B':List Addr} {ι:Ads} {H:Hp} (h:∀ a∈B',a∈B∨H a=none):∀ a∈B' ++ flat ι,H a ≠ none→a∈B ++ flat ι:=fun a ha n=>by
  rcases List.mem_append.mp ha with z | z
  · rcases h a z with q | q
    · exact List.mem_append_left _ q
    · exact absurd q n
  · exact List.mem_append_right _ z
theorem walkD_at {B:List Addr} {ι:Ads} {H:Hp} {J:It} {ds:List D} {vs:List V} {G:Hp→Prop} (w:Walk J vs.length G (YAt vs)) (r:RDs F H B ι ds vs) (g:∀ ι' H',ExtW B ι H ι' H'→G H'):WalkD F B ι H J ds:=by
  refine ⟨G,YAt vs,by rw [reps_len r]; exact w,g,fun i B' ι' H' S' x H2 hi ex hB rl y=>?_⟩
  obtain ⟨e1,e2⟩:=y
  refine ⟨.inl e1,ds[i],List.getElem?_eq_getElem hi,?_⟩
  obtain ⟨v,hv,rv⟩:=reps_at r (List.getElem?_eq_getElem hi)
  rw [e2] at hv
  cases hv
  rw [e1]
  exact Rep.extW ex (Rep.sub (subB hB) rv)
def iLst (f:FE):FI:=fun ρ S=>(f ρ S).bind fun w S1=>match w with
  | .d (.lst ds)=>.ok ds S1
  | _=>.err
def iTupl (f:FE):FI:=fun ρ S=>(f ρ S).bind fun w S1=>match w with
  | .d (.tup ds)=>.ok ds S1
  | _=>.err
theorem ri_lst (hK:X.K=F.K) (he:PE X e (tR F Wsh f)):PI X tg e (tRI F Wsh (iLst f)):=piImp (pi_list he) fun σ H Q ⟨B,ι,ρ,S,rl,c⟩=>by
  refine tR_step rl c fun w v S1 ι1 H1 x1 rl1 rv c1=>?_
  split at c1
  · obtain ⟨a,vs,rfl,h1,r1,k⟩:=sq_keepL rv
    refine ⟨a,rfl,⟨vs,by rw [hK]; exact h1⟩,c1.here rl1 _ ?_⟩
    rw [hK]
    exact walkD_at walk_list r1 k
  · exact (show False from c1).elim
theorem ri_tup (hK:X.K=F.K) (he:PE X e (tR F Wsh f)):PI X tg e (tRI F Wsh (iTupl f)):=piImp (pi_tup he) fun σ H Q ⟨B,ι,ρ,S,rl,c⟩=>by
  refine tR_step rl c fun w v S1 ι1 H1 x1 rl1 rv c1=>?_
  split at c1
  · obtain ⟨a,vs,rfl,h1,r1,k⟩:=sq_keepT (H':=H1) (ι':=ι1) rv
    refine ⟨a,rfl,⟨vs,by rw [hK]; exact h1⟩,c1.here rl1 _ ?_⟩
    rw [hK]
    exact walkD_at walk_tup r1 k
  · exact (show False from c1).elim
def signs (z:Str):List D:=z.cps.toList.map fun c=>.str ⟨#[c]⟩
def iStr (f:FE):FI:=fun ρ S=>(f ρ S).bind fun w S1=>match w with
  | .d (.str z)=>.ok (signs z) S1
  | _=>.err
theorem ri_str (he:PE X e (tR F Wsh f)):PI X tg e (tRI F Wsh (iStr f)):=piImp (pi_str he) fun σ H Q ⟨B,ι,ρ,S,rl,c⟩=>by
  refine tR_step rl c fun w v S1 ι1 H1 x1 rl1 rv c1=>?_
  split at c1
  · rename_i z
    cases rv
    refine ⟨z,rfl,c1.here rl1 _ ?_⟩
    have hl:(signs z).length=z.cps.size:=by simp [signs]
    refine ⟨_,_,by rw [hl]; exact walk_str,fun _ _ _=>trivial,fun i B' ι' H' S' x H2 hi ex hB rl2 y=>?_⟩
    obtain ⟨e1,cc,hc,rfl⟩:=y
    refine ⟨.inl e1,.str ⟨#[cc]⟩,?_,.str _⟩
    unfold signs
    rw [List.getElem?_map,Array.getElem?_toList,hc]
    rfl
  · exact (show False from c1).elim
def rangeD (lo:Int) (n:Nat):List D:=(List.range n).map fun (k:Nat)=>.int (lo + (k:Int))
theorem walkD_range {B:List Addr} {ι:Ads} {H:Hp} (lo:Int) (n:Nat):WalkD F B ι H (Itr lo n) (rangeD lo n):=by
  have hl:(rangeD lo n).length=n:=by simp [rangeD]
  refine ⟨_,_,by rw [hl]; exact walk_range,fun _ _ _=>trivial,fun i B' ι' H' S' x H2 hi ex hB rl2 y=>?_⟩
  obtain ⟨e1,rfl⟩:=y
  rw [hl] at hi
  refine ⟨.inl e1,.int (lo + i),?_,.int _⟩
  unfold rangeD
  rw [List.getElem?_map,List.getElem?_range hi]
  rfl
def iRange1 (f:FA):FI:=fun ρ S=>(f ρ S).bind fun ws S1=>match ws with
  | [.d (.int j)]=>if -(2 ^ 62)≤j∧j < 2 ^ 62 then .ok (rangeD 0 j.toNat) S1 else .err
  | _=>.err
theorem ri_range1 {a:Expr} (hg:Gl X "range") (hm:X.mg "range" = none) (ha:PA X [a] (tRA F Wsh fa)) (hs:starEach [a] X.env=[(false,eval a X.env)]:=by rfl):PI X tg (.Call (.Name "range" p) [a] [] pos) (tRI F Wsh (iRange1 fa)) :=
  piImp (pi_range1 hg hm ha hs) fun σ H Q ⟨B,ι,ρ,S,rl,c⟩=>by
    refine tRA_step rl c fun ws vs S1 ι1 H1 x1 rl1 rv c1=>?_
    split at c1
    · obtain ⟨v,rfl,r1⟩:=one_arg rv
      cases r1
      split at c1
      · rename_i h
        exact ⟨_,rfl,h.1,h.2,c1.here rl1 _ (walkD_range 0 _)⟩
      · exact (show False from c1).elim
    · exact (show False from c1).elim
def loop (body:D→Loc→Sto→RS):List D→Loc→Sto→RS
  | [],ρ,S=>.nx ρ S
  | d :: ds,ρ,S=>match body d ρ S with
    | .nx ρ1 S1=>loop body ds ρ1 S1
    | .ct ρ1 S1=>loop body ds ρ1 S1
    | .bk ρ1 S1=>.nx ρ1 S1
    | r=>r
def turn (g:FG) (f:FS):D→Loc→Sto→RS:=fun d ρ S=>match g (.d d) ρ S with
  | some ρ1=>f ρ1 S
  | none=>.err
def sFor (fi:FI) (g:FG) (f:FS):FS:=fun ρ S=>(fi ρ S).st ρ fun ds S1=>loop (turn g f) ds ρ S1
theorem RelS.walked {H H2:Hp} {B:List Addr} {ι:Ads} {ρ:Loc} {S:Sto} {σ:L2.St} (r:Rel F H B ι ρ S σ) (h:H2=H∨∃ p vs,H p=none∧H2=upd H p (.tup vs)):Rel F H2 B ι ρ S σ∧Ext ι H ι H2:=by
  rcases h with rfl | ⟨p,o,hp,rfl⟩
  · exact ⟨r,Ext.refl _ _⟩
  · exact ⟨r.new hp,Ext.new hp⟩
theorem r_for {iter:Expr} {body:List Stmt} {fi:FI} {gf:FG} {sl:List Nat} {fb:FS} (hp:PassesOwn (model X.prog X.w) X.A X.env X.xe) (hc:X.calm=true) (hi:PI X tg iter (tRI F Wsh fi)) (hg:GOk X F tg gf sl) (hb:PSs X body (tS F Wsh fb)) (hs:∀ x,foldedSetIterable iter X.env x=pure x:=by intro _; rfl) :
    PS X (.For tg iter body [] pos) (tS F Wsh (sFor fi gf fb)):=by
  obtain ⟨t,pt,ht⟩:=hg
  refine psImp (ps_for hp hc hi pt hb hs) fun D σ H ⟨B,ι,ρ,S,rl,c⟩=>?_
  refine ⟨B,ι,ρ,S,rl,?_⟩
  refine (SCont.bind (σ:=σ) c).mono fun ds S1 ι1 H1 _ x1 rl1 c1 J wd=>?_
  obtain ⟨G,Y,w,hG,hY⟩:=wd
  refine for_it w (fun i σ2 H2=>∃ ι2 ρ2 S2,Ext ι1 H1 ι2 H2∧Rel F H2 B ι2 ρ2 S2 σ2∧SCont F Wsh B ι2 H2 D (loop (turn gf fb) (ds.drop i) ρ2 S2)) ⟨ι1,ρ,S1,Ext.refl _ _,rl1,by simpa using c1⟩ (fun i σ2 H2 _ ⟨ι2,_,_,x2,_,_⟩=>hG ι2 H2 x2.toW) ?_ ?_
  · rintro i x σ2 H2 H3 hi ⟨ι2,ρ2,S2,x2,rl2,c2⟩ y
    obtain ⟨hn,d,hd,rd⟩:=hY i B ι2 H2 S2 x H3 hi x2.toW (fun a ha=>.inl ha) rl2.toRelS y
    obtain ⟨rl3,x3⟩:=RelS.walked rl2 hn
    have hdr:ds.drop i=d :: ds.drop (i + 1):=by
      rw [List.drop_eq_getElem_cons hi]
      rw [List.getElem?_eq_getElem hi] at hd
      rw [Option.some.inj hd]
    rw [hdr] at c2
    simp only [loop,turn] at c2
    cases hgd:gf (.d d) ρ2 S2 with
    | none=>rw [hgd] at c2; exact (show False from c2).elim
    | some ρ3 =>
      rw [hgd] at c2
      refine ht B ι2 ρ2 S2 σ2 H3 (.d d) x ρ3 _ rl3 rd hgd fun σ3 rl4 _=>⟨B,ι2,ρ3,S2,rl4,?_⟩
      have c3:=SCont.ext c2 x3
      revert c3
      simp only []
      cases fb ρ3 S2 with
      | nx ρ4 S4=>exact fun c3 ι4 H4 σ4 x4 rl5=>⟨ι4,ρ4,S4,(x2.trans x3).trans x4,rl5,SCont.ext (show SCont F Wsh B ι2 H3 D (loop (turn gf fb) (ds.drop (i + 1)) ρ4 S4) from c3) x4⟩
      | ct ρ4 S4=>exact fun c3 ι4 H4 σ4 x4 rl5=>⟨ι4,ρ4,S4,(x2.trans x3).trans x4,rl5,SCont.ext (show SCont F Wsh B ι2 H3 D (loop (turn gf fb) (ds.drop (i + 1)) ρ4 S4) from c3) x4⟩
      | bk ρ4 S4=>exact fun c3 ι4 H4 σ4 x4 rl5=>c3 ι4 H4 σ4 x4 rl5
      | rt w4 S4=>exact fun c3=>c3
      | exn c4 d4 ρ4 S4=>exact fun c3=>c3
      | err=>exact fun c3=>c3
  · rintro σ2 H2 ⟨ι2,ρ2,S2,x2,rl2,c2⟩
    rw [List.drop_length] at c2
    exact SCont.nx_here (show SCont F Wsh B ι2 H2 D (.nx ρ2 S2) from c2) rl2
def loopW (t:FT) (body:FS):Nat→Loc→Sto→RS
  | 0,_,_=>.err
  | n + 1,ρ,S=>(t ρ S).st ρ fun k S1=>if k=true then (match body ρ S1 with
    | .nx ρ1 S2=>loopW t body n ρ1 S2
    | .ct ρ1 S2=>loopW t body n ρ1 S2
    | .bk ρ1 S2=>.nx ρ1 S2
    | r=>r) else .nx ρ S1
theorem r_while {cnd:Expr} {body:List Stmt} {t:FT} {fb:FS} (n:Nat) (hp:PassesOwn (model X.prog X.w) X.A X.env X.xe) (hc:PT X cnd (tRT F Wsh t)) (hb:PSs X body (tS F Wsh fb)) :
    PS X (.While cnd body [] pos) (tS F Wsh (loopW t fb n)):=by
  refine psImp (ps_while hp hc hb) fun D σ H ⟨B,ι,ρ,S,rl,c⟩=>?_
  refine ⟨fun m σ2 H2=>∃ ι2 ρ2 S2,Rel F H2 B ι2 ρ2 S2 σ2∧SCont F Wsh B ι2 H2 D (loopW t fb m ρ2 S2),⟨n,ι,ρ,S,rl,c⟩,?_⟩
  rintro m σ2 H2 ⟨ι2,ρ2,S2,rl2,c2⟩
  cases m with
  | zero=>exact (show False from c2).elim
  | succ m =>
    refine tS_stepT rl2 c2 fun k S3 ι3 H3 x3 rl3 c3=>?_
    split
    · rename_i hk
      rw [if_pos hk] at c3
      refine ⟨fun σ4 H4=>∃ ι4 ρ4 S4,Rel F H4 B ι4 ρ4 S4 σ4∧SCont F Wsh B ι4 H4 D (loopW t fb m ρ4 S4),fun σ4 H4 h4=>⟨m,Nat.lt_succ_self m,h4⟩,B,ι3,ρ2,S3,rl3,?_⟩
      revert c3
      cases fb ρ2 S3 with
      | nx ρ4 S4=>exact fun c3 ι4 H4 σ4 x4 rl5=>⟨ι4,ρ4,S4,rl5,SCont.ext (show SCont F Wsh B ι3 H3 D (loopW t fb m ρ4 S4) from c3) x4⟩
      | ct ρ4 S4=>exact fun c3 ι4 H4 σ4 x4 rl5=>⟨ι4,ρ4,S4,rl5,SCont.ext (show SCont F Wsh B ι3 H3 D (loopW t fb m ρ4 S4) from c3) x4⟩
      | bk ρ4 S4=>exact fun c3 ι4 H4 σ4 x4 rl5=>c3 ι4 H4 σ4 x4 rl5
      | rt w4 S4=>exact fun c3=>c3
      | exn c4 d4 ρ4 S4=>exact fun c3=>c3
      | err=>exact fun c3=>c3
    · rename_i hk
      rw [if_neg hk] at c3
      exact c3.nx_here rl3
end
end Ev
namespace Ev
open PySem PySem.Spec L2
section
variable {K:PySem.W.Frag} {cls:Cl} {H:Hp} {ex:List Addr} {A:Addr} {o:HO}
theorem ne_ex {a:Addr} (h:A∈ex) (n:a ∉ ex):a ≠ A:=fun e=>n (e ▸ h)
mutual
theorem Rep.updE (x:A∈ex):∀ {d:D} {v:V},Rep K cls H ex d v→Rep K cls (upd H A o) ex d v
  | _,_,.non=>.non
  | _,_,.bl b=>.bl b
  | _,_,.int i=>.int i
  | _,_,.str i=>.str i
  | _,_,.tup n h r=>.tup n (by rw [upd_ne (ne_ex x n)]; exact h) (Reps.updE x r)
  | _,_,.tupK h1 h2 h3 h4 h5 r=>.tupK h1 h2 h3 h4 h5 (Reps.updE x r)
  | _,_,.tupF n h r=>.tupF n (by rw [upd_ne (ne_ex x n)]; exact h) (Reps.updE x r)
  | _,_,.ftp n h p r=>.ftp n (by rw [upd_ne (ne_ex x n)]; exact h) p (Reps.updE x r)
  | _,_,.lst n h r=>.lst n (by rw [upd_ne (ne_ex x n)]; exact h) (Reps.updE x r)
  | _,_,.scr n h q=>.scr n (by rw [upd_ne (ne_ex x n)]; exact h) q
  | _,_,.scrK h1 h2 h3 h4 h5 h6=>.scrK h1 h2 h3 h4 h5 h6
  | _,_,.dK n h r=>.dK n (by rw [upd_ne (ne_ex x n)]; exact h) (RepK.updE x r)
  | _,_,.ins n h r=>.ins n (by rw [upd_ne (ne_ex x n)]; exact h) (RepF.updE x r)
  | _,_,.cls c=>.cls c
  | _,_,.kdc n h r=>.kdc n (by rw [upd_ne (ne_ex x n)]; exact h) (RepN.updE x r)
  | _,_,.dkf n h r=>.dkf n (by rw [upd_ne (ne_ex x n)]; exact h) (RepK.updE x r)
  | _,_,.exi n h m g r=>.exi n (by rw [upd_ne (ne_ex x n)]; exact h) m (by rw [upd_ne (ne_ex x m)]; exact g) (Rep.updE x r)
theorem Reps.updE (x:A∈ex):∀ {d:List D} {v:List V},Reps K cls H ex d v→Reps K cls (upd H A o) ex d v
  | _,_,.nil=>.nil
  | _,_,.cons r t=>.cons (Rep.updE x r) (Reps.updE x t)
theorem RepK.updE (x:A∈ex):∀ {d:List (D×D)} {v:List (Key×V)},RepK K cls H ex d v→RepK K cls (upd H A o) ex d v
  | _,_,.nil=>.nil
  | _,_,.int r t=>.int (Rep.updE x r) (RepK.updE x t)
  | _,_,.str r t=>.str (Rep.updE x r) (RepK.updE x t)
theorem RepN.updE (x:A∈ex):∀ {d:List (D×D)} {v:List KEnt},RepN K cls H ex d v→RepN K cls (upd H A o) ex d v
  | _,_,.nil=>.nil
  | _,_,.cons k r q e t=>.cons k (Rep.updE x r) (Rep.updE x q) e (RepN.updE x t)
theorem RepF.updE (x:A∈ex):∀ {d:List (Str×D)} {v:List (Str×V)},RepF K cls H ex d v→RepF K cls (upd H A o) ex d v
  | _,_,.nil=>.nil
  | _,_,.cons r t=>.cons (Rep.updE x r) (RepF.updE x t)
end
end
section
variable {F:Fx} {H:Hp} {B:List Addr} {ι:Ads} {A:Addr} {o:HO}
theorem RC.updE (x:A∈B ++ flat ι):∀ {w:W} {v:V},RC F.K F.cls H B ι w v→RC F.K F.cls (upd H A o) B ι w v
  | .d _,_,h=>Rep.updE x h
  | .ref _,_,h=>h
theorem RCL.updE (x:A∈B ++ flat ι):∀ {w:Option W} {v:Option V},RCL F.K F.cls H B ι w v→RCL F.K F.cls (upd H A o) B ι w v
  | none,_,_=>trivial
  | some _,some _,h=>RC.updE x h
theorem RW.updE (x:A∈B ++ flat ι) (n:¬ ∃ fs,H A=some (.xd fs)) (n2:NoC H A):∀ {w:W} {v:V},RW F H B ι w v→RW F (upd H A o) B ι w v
  | .d _,_,h=>Rep.updE x h
  | .ref _,_,h=>h
  | .exc _ _,_,⟨a,dd,u,h1,h2,h3,h4,h5⟩=>⟨a,dd,u,h1.imp_right fun q=>⟨by rw [upd_ne (fun z=>q.2 (by rw [z]; exact x))]; exact q.1,q.2⟩,h2,by rw [upd_ne (fun z=>n ⟨_,by rw [← z]; exact h3⟩)]; exact h3,h4,Rep.updE x h5⟩
  | .fn,_,⟨a,c,q,ρL,σL,h1,h2,h3,h4,h5⟩=>⟨a,c,q,ρL,σL,h1,h2,by rw [upd_ne (fun z=>n2 _ _ (by rw [← z]; exact h3))]; exact h3,h4,pImp (fun _ _ r=>RCL.updE x r) h5⟩
theorem RO.updE (x:A∈B ++ flat ι) (nx:¬ ∃ fs,H A=some (.xd fs)) (n2:NoC H A) {ob:O} {p:Addr×List Addr} (n:∀ a,a=p.1∨a∈p.2→a ≠ A) (h:RO F H B ι ob p):RO F (upd H A o) B ι ob p:=by
  cases ob with
  | lst ws=>obtain ⟨h0,vs,h1,r⟩:=h; exact ⟨h0,vs,by rw [upd_ne (n _ (.inl rfl))]; exact h1,pImp (fun _ _ q=>RW.updE x nx n2 q) r⟩
  | kd ws=>obtain ⟨h0,o,vs,h1,r⟩:=h; exact ⟨h0,o,vs,by rw [upd_ne (n _ (.inl rfl))]; exact h1,pImp (fun _ _ q=>⟨q.1,q.2.1,Rep.updE x q.2.2.1,q.2.2.2.elim fun v t=>⟨v,t.1,RW.updE x nx n2 t.2⟩⟩) r⟩
  | tup ws=>obtain ⟨h0,vs,h1,r⟩:=h; exact ⟨h0,vs,by rw [upd_ne (n _ (.inl rfl))]; exact h1,pImp (fun _ _ q=>RW.updE x nx n2 q) r⟩
  | dct ws=>obtain ⟨h0,vs,h1,r⟩:=h; exact ⟨h0,vs,by rw [upd_ne (n _ (.inl rfl))]; exact h1,pImp (fun _ _ q=>⟨q.1,RW.updE x nx n2 q.2⟩) r⟩
  | ins c fs=>obtain ⟨h0,dx,vs,h1,r⟩:=h; exact ⟨h0,dx,vs,by rw [upd_ne (n _ (.inl rfl))]; exact h1,pImp (fun _ _ q=>⟨q.1,RW.updE x nx n2 q.2⟩) r⟩
  | drw cs ls m=>obtain ⟨aC,aL,h0,h1,h2,h3⟩:=h; exact ⟨aC,aL,h0,by rw [upd_ne (n _ (.inl rfl))]; exact h1,by rw [upd_ne (n _ (.inr (by rw [h0]; simp)))]; exact h2,by rw [upd_ne (n _ (.inr (by rw [h0]; simp)))]; exact h3⟩
theorem RL.updE (x:A∈B ++ flat ι) (nx:¬ ∃ fs,H A=some (.xd fs)) (n2:NoC H A):∀ {w:Option W} {v:Option V},RL F H B ι w v→RL F (upd H A o) B ι w v
  | none,_,_=>trivial
  | some _,some _,h=>RW.updE x nx n2 h
theorem tabs_upd {T:List (Addr×Str)} {us us':List V} (t:TabA T H) (h:H A=some (.lst us)):TabA T (upd H A (.lst us')):=by
  refine ⟨fun p hp=>?_,fun b ps e=>?_⟩
  · obtain ⟨ps,h1,h2,h3⟩:=t.1 p hp
    refine ⟨ps,?_,h2,fun pos cv hc=>?_⟩
    · rw [upd_ne]
      · exact h1
      · intro e; rw [e,h] at h1; cases h1
    · obtain ⟨c,e1,e2⟩:=h3 pos cv hc
      refine ⟨c,e1,?_⟩
      rw [upd_ne]
      · exact e2
      · intro e; rw [e,h] at e2; cases e2
  · by_cases z:b=A
    · rw [z,upd_same] at e; cases e
    · rw [upd_ne z] at e; exact t.2 b ps e
theorem Rel.grow {ρ:Loc} {S:Sto} {σ:L2.St} {us us':List V} (r:Rel F H B ι ρ S σ) (hB:A∈B) (hA:A ∉ flat ι) (h:H A=some (.lst us)):Rel F (upd H A (.lst us')) B ι ρ S σ:=by
  have hx:A∈B ++ flat ι:=List.mem_append_left _ hB
  have nx:¬ ∃ fs,H A=some (.xd fs):=fun ⟨fs,z⟩=>by rw [h] at z; cases z
  have n2:NoC H A:=noC_of h fun _ z=>nomatch z
  refine ⟨⟨r.nd,r.len,fun i p ob h1 h2=>(r.obj i p ob h1 h2).updE hx nx n2 fun a ha e=>?_,tabs_upd r.tab h,fun b hb=>?_,r.dis⟩,pImp (fun _ _ q=>RL.updE hx nx n2 q) r.loc⟩
  · subst e
    rcases ha with z | z
    · exact hA (z ▸ mem_flat h1)
    · exact hA (mem_flat2 h1 z)
  · by_cases e:b=A
    · rw [e,upd_same]; simp
    · rw [upd_ne e]; exact r.bs b hb
theorem RC.sub {B':List Addr} (x:∀ a∈B' ++ flat ι,H a ≠ none→a∈B ++ flat ι):∀ {w:W} {v:V},RC F.K F.cls H B ι w v→RC F.K F.cls H B' ι w v
  | .d _,_,h=>Rep.sub x h
  | .ref _,_,h=>h
theorem RCL.sub {B':List Addr} (x:∀ a∈B' ++ flat ι,H a ≠ none→a∈B ++ flat ι):∀ {w:Option W} {v:Option V},RCL F.K F.cls H B ι w v→RCL F.K F.cls H B' ι w v
  | none,_,_=>trivial
  | some _,some _,h=>RC.sub x h
theorem RW.sub {B':List Addr} (x:∀ a∈B' ++ flat ι,H a ≠ none→a∈B ++ flat ι):∀ {w:W} {v:V},RW F H B ι w v→RW F H B' ι w v
  | .d _,_,h=>Rep.sub x h
  | .ref _,_,h=>h
  | .exc _ _,_,⟨a,dd,u,h1,h2,h3,h4,h5⟩=>⟨a,dd,u,h1.imp_right fun q=>⟨q.1,fun z=>q.2 (x _ z (by rw [q.1]; simp))⟩,h2,h3,h4,Rep.sub x h5⟩
  | .fn,_,⟨a,c,q,ρL,σL,h1,h2,h3,h4,h5⟩=>⟨a,c,q,ρL,σL,h1,h2,h3,h4,pImp (fun _ _ r=>RCL.sub x r) h5⟩
theorem RO.sub {B':List Addr} (x:∀ a∈B' ++ flat ι,H a ≠ none→a∈B ++ flat ι) {ob:O} {p:Addr×List Addr} (h:RO F H B ι ob p):RO F H B' ι ob p:=by
  cases ob with
  | lst ws=>obtain ⟨h0,vs,h1,r⟩:=h; exact ⟨h0,vs,h1,pImp (fun _ _ q=>RW.sub x q) r⟩
  | tup ws=>obtain ⟨h0,vs,h1,r⟩:=h; exact ⟨h0,vs,h1,pImp (fun _ _ q=>RW.sub x q) r⟩
  | kd ws=>obtain ⟨h0,o,vs,h1,r⟩:=h; exact ⟨h0,o,vs,h1,pImp (fun _ _ q=>⟨q.1,q.2.1,Rep.sub x q.2.2.1,q.2.2.2.elim fun v t=>⟨v,t.1,RW.sub x t.2⟩⟩) r⟩
  | dct ws=>obtain ⟨h0,vs,h1,r⟩:=h; exact ⟨h0,vs,h1,pImp (fun _ _ q=>⟨q.1,RW.sub x q.2⟩) r⟩
  | ins c fs=>obtain ⟨h0,dx,vs,h1,r⟩:=h; exact ⟨h0,dx,vs,h1,pImp (fun _ _ q=>⟨q.1,RW.sub x q.2⟩) r⟩
  | drw cs ls m=>exact h
theorem RL.sub {B':List Addr} (x:∀ a∈B' ++ flat ι,H a ≠ none→a∈B ++ flat ι):∀ {w:Option W} {v:Option V},RL F H B ι w v→RL F H B' ι w v
  | none,_,_=>trivial
  | some _,some _,h=>RW.sub x h
theorem Rel.sub {B':List Addr} {ρ:Loc} {S:Sto} {σ:L2.St} (r:Rel F H B ι ρ S σ) (x:∀ a∈B' ++ flat ι,H a ≠ none→a∈B ++ flat ι) (b:∀ a∈B',H a ≠ none) (dis:∀ a∈B',a ∉ flat ι):Rel F H B' ι ρ S σ :=
  ⟨⟨r.nd,r.len,fun i p ob h1 h2=>(r.obj i p ob h1 h2).sub x,r.tab,b,dis⟩,pImp (fun _ _ q=>RL.sub x q) r.loc⟩
end
def wipeL (ρ:Loc):List Nat→Loc
  | []=>ρ
  | v :: vs=>(wipeL ρ vs).set v none
section
variable {X:Cx} {F:Fx} {Wsh:WX} {tg e:Expr} {f g:FE} {fa:FA} {pos p:Pos} {B:List Addr} {ι:Ads} {H:Hp} {ρ:Loc} {S:Sto} {σ:L2.St}
theorem rl_none {i:Nat}:∀ {ρ:Loc} {σ:L2.St},Paired (RL F H B ι) ρ σ→Paired (RL F H B ι) (ρ.set i none) (σ.set i none):=fun h=>pSet (A:=RL F H B ι) (a:=none) (b:=none) trivial i h
theorem paired_wipe:∀ (vs:List Nat) {ρ:Loc} {σ:L2.St},Paired (RL F H B ι) ρ σ→Paired (RL F H B ι) (wipeL ρ vs) (wipe σ vs)
  | [],_,_,h=>h
  | v :: vs,_,_,h=>rl_none (paired_wipe vs h)
theorem Rel.wipe (r:Rel F H B ι ρ S σ) (vs:List Nat):Rel F H B ι (wipeL ρ vs) S (L2.wipe σ vs):=⟨r.toRelS,paired_wipe vs r.loc⟩
abbrev W0:WX:=fun _ _ _ _=>False
def noX {α:Type} (r:R α):R α:=match r with
  | .exn _ _ _=>.err
  | r=>r
theorem Cont.noX {α:Type} {r:R α} {k:α→Sto→Ads→Hp→Prop} (c:Cont F Wsh B ρ σ ι H (noX r) k):Cont F W0 B ρ σ ι H r k:=by
  cases r with
  | ok a S=>exact c
  | exn _ _ _=>exact (show False from c).elim
  | err=>exact c
abbrev TestsOk (X:Cx) (F:Fx) (ifs:List Expr) (t:FT):Prop:=PTs X ifs (tRT F W0 t)
def tTrue:FT:=fun _ S=>.ok true S
theorem rt_nil:TestsOk X F [] tTrue:=⟨fun pins s σ H Q I ⟨B,ι,ρ,S,rl,c⟩=>pts_nil.run pins s σ H Q I (c.here rl)⟩
theorem rt_one {c:Expr} {t:FT} (h:PT X c (tRT F W0 t)):TestsOk X F [c] t:=pts_one h
def compL (g:FG) (t:FT) (f:FE) (ρ:Loc):List D→Sto→List D→R (List D)
  | [],S,acc=>.ok acc S
  | d :: ds,S,acc=>match g (.d d) ρ S with
    | none=>.err
    | some ρ1=>(noX (t ρ1 S)).bind fun k S1=>if k=true then (noX (f ρ1 S1)).bind fun w S2=>(match w with
        | .d y=>if acc.length < sizeLine then compL g t f ρ ds S2 (acc ++ [y]) else .err
        | _=>.err) else compL g t f ρ ds S1 acc
def fLc (fi:FI) (g:FG) (t:FT) (f:FE) (vs:List Nat):FE:=fun ρ S=>(fi ρ S).bind fun ds S1=>(compL g t f (wipeL ρ vs) ds S1 []).bind fun ys S2=>.ok (.d (.lst ys)) S2
theorem wipe_wipe {σ:L2.St}:∀ vs:List Nat,L2.wipe (L2.wipe σ vs) vs=L2.wipe σ vs
  | []=>rfl
  | v :: vs=>by
    show (L2.wipe ((L2.wipe σ vs).set v none) vs).set v none=(L2.wipe σ vs).set v none
    by_cases e:v∈vs
    · rw [wipe_set e,wipe_wipe vs]
    · rw [wipe_out1 e,wipe_wipe vs,List.set_set]
theorem lc_of {fi:FI} {gf:FG} {sl:List Nat} {t:FT} {fe:FE} {vs:List Nat} {tgr:TG} {tt:TT} {te:TE}
    (hg:GRel F gf sl tgr)
    (hsl:∀ i∈sl,i∈vs) (htt:∀ σ H Q,tRT F W0 t σ H Q→tt σ H Q) (hte:∀ σ H Q,tR F W0 fe σ H Q→te σ H Q) {Q:VK} {σ:L2.St} {H:Hp} (h:tR F Wsh (fLc fi gf t fe vs) σ H Q):tLc (tRI F Wsh fi) tgr tt te vs σ H Q:=by
  obtain ⟨B,ι,ρ,S,rl,c⟩:=h
  refine ⟨B,ι,ρ,S,rl,c.bind.mono fun ds S1 ι1 H1 _ x1 rl1 c1 J wd D hD=>?_⟩
  obtain ⟨G,Y,w,hG,hY⟩:=wd
  have hDf:=rl1.toRelS.fresh hD
  have hDB:D ∉ B:=fun z=>hDf (List.mem_append_left _ z)
  have hDι:D ∉ flat ι1:=fun z=>hDf (List.mem_append_right _ z)
  have toBig:∀ {ι2:Ads} {H2:Hp} {ρ2:Loc} {S2:Sto} {σ2:L2.St},Rel F H2 (B ++ [D]) ι2 ρ2 S2 σ2→Rel F H2 B ι2 ρ2 S2 σ2:=fun {ι2 H2 ρ2 S2 σ2} r=>r.sub (fun a ha _=>by
    rcases List.mem_append.mp ha with z | z
    · exact List.mem_append_left _ (List.mem_append_left _ z)
    · exact List.mem_append_right _ z) (fun a ha=>r.bs a (List.mem_append_left _ ha)) fun a ha=>r.dis a (List.mem_append_left _ ha)
  have rl0:Rel F (upd H1 D (.lst [])) (B ++ [D]) ι1 ρ S1 σ:=by
    have r0:=rl1.new (o:=.lst []) hD
    refine ⟨⟨r0.nd,r0.len,fun i p ob h1 h2=>?_,r0.tab,fun b hb=>?_,fun b hb=>?_⟩,?_⟩
    · refine ((rl1.obj i p ob h1 h2).sub (B':=B ++ [D]) fun a ha n=>?_).ext (Ext.new hD) fun a ha=>upd_ne fun e=>?_
      · rcases List.mem_append.mp ha with z | z
        · rcases List.mem_append.mp z with z | z
          · exact List.mem_append_left _ z
          · simp at z; rw [z,hD] at n; exact absurd rfl n
        · exact List.mem_append_right _ z
      · rw [e] at ha
        rcases ha with z | z
        · exact hDι (z ▸ mem_flat h1)
        · exact hDι (mem_flat2 h1 z)
    · rcases List.mem_append.mp hb with z | z
      · exact r0.bs b z
      · simp at z; rw [z,upd_same]; simp
    · rcases List.mem_append.mp hb with z | z
      · exact rl1.dis b z
      · simp at z; rw [z]; exact hDι
    · refine pImp (fun a b q=>?_) rl1.loc
      refine RL.ext (Ext.new hD) (RL.sub (B':=B ++ [D]) (fun a ha n=>?_) q)
      rcases List.mem_append.mp ha with z | z
      · rcases List.mem_append.mp z with z | z
        · exact List.mem_append_left _ z
        · simp at z; rw [z,hD] at n; exact absurd rfl n
      · exact List.mem_append_right _ z
  refine lc_it w (fun i H2=>∃ ι2 S2 acc us,Ext ι1 H1 ι2 H2∧Rel F H2 (B ++ [D]) ι2 (wipeL ρ vs) S2 (L2.wipe σ vs)∧Rel F H2 (B ++ [D]) ι2 ρ S2 σ∧H2 D=some (.lst us)∧D ∉ flat ι2∧RDs F H2 (B ++ [D]) ι2 acc us ∧
      Cont F Wsh B ρ σ ι1 H1 ((compL gf t fe (wipeL ρ vs) (ds.drop i) S2 acc).bind fun ys S2=>.ok (.d (.lst ys)) S2) (fun w _ ι' H'=>∀ v,RW F H' B ι' w v→Q v H'))
    ⟨ι1,S1,[],[],Ext.new hD,rl0.wipe vs,rl0,upd_same,hDι,.nil,by simpa using c1⟩ (fun i H2 _ ⟨ι2,_,_,_,x2,_⟩=>hG ι2 H2 x2.toW) ?_ ?_
  · rintro i x H2 H3 hi ⟨ι2,S2,acc,us,x2,rl2,rlσ,hus,hD2,racc,c2⟩ y
    obtain ⟨hn,d,hd,rd⟩:=hY i (B ++ [D]) ι2 H2 S2 x H3 hi x2.toW (fun a ha=>by
      rcases List.mem_append.mp ha with z | z
      · exact .inl z
      · simp at z; exact .inr (z ▸ hD)) rl2.toRelS y
    obtain ⟨rl3,x3⟩:=RelS.walked rl2 hn
    obtain ⟨rlσ3,_⟩:=RelS.walked rlσ hn
    have hus3:H3 D=some (.lst us):=x3.keep _ _ hD2 hus nt_lst
    have hdr:ds.drop i=d :: ds.drop (i + 1):=by
      rw [List.drop_eq_getElem_cons hi]
      rw [List.getElem?_eq_getElem hi] at hd
      rw [Option.some.inj hd]
    rw [hdr] at c2
    simp only [compL] at c2
    cases hgd:gf (.d d) (wipeL ρ vs) S2 with
    | none=>rw [hgd] at c2; exact (show False from c2).elim
    | some ρ3 =>
      rw [hgd] at c2
      refine hg (B ++ [D]) ι2 (wipeL ρ vs) S2 (L2.wipe σ vs) H3 (.d d) x ρ3 _ rl3 rd hgd fun σ3 rl4 hw=>⟨?_,?_⟩
      · have e1:=hw vs hsl
        rw [wipe_wipe] at e1
        exact e1
      · refine htt _ _ _ ⟨B ++ [D],ι2,ρ3,S2,rl4,?_⟩
        revert c2
        simp only []
        generalize ht:t ρ3 S2=rt
        cases rt with
        | err=>exact fun c3=>(show False from c3).elim
        | exn _ _ _=>exact fun c3=>(show False from c3).elim
        | ok k S4 =>
          intro c3 ι4 H4 x4 rl5
          have c4:Cont F Wsh B ρ σ ι1 H1 ((if k=true then (noX (fe ρ3 S4)).bind fun w S2=>(match w with
              | .d y=>if acc.length < sizeLine then compL gf t fe (wipeL ρ vs) (ds.drop (i + 1)) S2 (acc ++ [y]) else .err
              | _=>.err) else compL gf t fe (wipeL ρ vs) (ds.drop (i + 1)) S4 acc).bind fun ys S2=>.ok (.d (.lst ys)) S2) (fun w _ ι' H'=>∀ v,RW F H' B ι' w v→Q v H'):=c3
          have hus4:H4 D=some (.lst us):=x4.keep _ _ hD2 hus3 nt_lst
          have hD4:D ∉ flat ι4:=x4.notin hD2 (by rw [hus3]; simp)
          have rlσ4:Rel F H4 (B ++ [D]) ι4 ρ S4 σ:=⟨rl5.toRelS,pImp (fun _ _ q=>RL.ext x4 q) rlσ3.loc⟩
          split
          · rename_i hk
            rw [if_pos hk] at c4
            refine hte _ _ _ ⟨B ++ [D],ι4,ρ3,S4,rl5,?_⟩
            revert c4
            generalize hfe:fe ρ3 S4=rf
            cases rf with
            | err=>exact fun c4=>(show False from c4).elim
            | exn _ _ _=>exact fun c4=>(show False from c4).elim
            | ok wy S5 =>
              intro c4 ι5 H5 x5 rl6 v rv
              have hus5:H5 D=some (.lst us):=x5.keep _ _ hD4 hus4 nt_lst
              have hD5:D ∉ flat ι5:=x5.notin hD4 (by rw [hus4]; simp)
              cases wy with
              | ref _=>exact (show False from c4).elim
              | exc _ _=>exact (show False from c4).elim
              | fn=>exact (show False from c4).elim
              | d yd =>
                have c5:Cont F Wsh B ρ σ ι1 H1 ((if acc.length < sizeLine then compL gf t fe (wipeL ρ vs) (ds.drop (i + 1)) S5 (acc ++ [yd]) else .err).bind fun ys S2=>.ok (.d (.lst ys)) S2) (fun w _ ι' H'=>∀ v,RW F H' B ι' w v→Q v H'):=c4
                by_cases hz:acc.length < sizeLine
                · rw [if_pos hz] at c5
                  have racc5:RDs F H5 (B ++ [D]) ι5 acc us:=Reps.ext (x3.trans (x4.trans x5)) racc
                  have hDB':D∈B ++ [D]:=by simp
                  have hDx:D∈(B ++ [D]) ++ flat ι5:=List.mem_append_left _ hDB'
                  have xg:Ext ι1 H1 ι5 (upd H5 D (.lst (us ++ [v]))):=by
                    have x15:=x2.trans (x3.trans (x4.trans x5))
                    refine ⟨x15.at_,x15.sub,fun b hb=>?_,fun b ob nb hb nt=>?_⟩
                    · by_cases e:b=D
                      · rw [e]; exact hD
                      · rw [upd_ne e] at hb; exact x15.dom b hb
                    · rw [upd_ne (ne_of_none hb hD)]; exact x15.keep b ob nb hb nt
                  have rlσ5:Rel F H5 (B ++ [D]) ι5 ρ S5 σ:=⟨rl6.toRelS,pImp (fun _ _ q=>RL.ext (x4.trans x5) q) rlσ3.loc⟩
                  refine ⟨us,hus5,by rw [← reps_len racc5]; exact hz,ι5,S5,acc ++ [yd],us ++ [v],xg,(rlσ5.wipe vs).grow hDB' hD5 hus5,rlσ5.grow hDB' hD5 hus5,upd_same,hD5,
                    reps_app (Reps.updE hDx racc5) (.cons (Rep.updE hDx rv) .nil),c5⟩
                · rw [if_neg hz] at c5
                  exact (show False from c5).elim
          · rename_i hk
            rw [if_neg hk] at c4
            exact ⟨ι4,S4,acc,us,x2.trans (x3.trans x4),rlσ4.wipe vs,rlσ4,hus4,hD4,Reps.ext (x3.trans x4) racc,c4⟩
  · rintro H2 ⟨ι2,S2,acc,us,x2,rl2,rlσ,hus,hD2,racc,c2⟩
    rw [List.drop_length] at c2
    have c3:Cont F Wsh B ρ σ ι1 H1 (.ok (W.d (.lst acc)) S2) (fun w _ ι' H'=>∀ v,RW F H' B ι' w v→Q v H'):=c2
    refine c3 ι2 H2 x2 (toBig rlσ) _ ?_
    refine .lst (fun z=>?_) hus (Reps.sub (fun a ha _=>?_) racc)
    · rcases List.mem_append.mp z with q | q
      · exact hDB q
      · exact hD2 q
    · rcases List.mem_append.mp ha with z | z
      · exact List.mem_append_left _ (List.mem_append_left _ z)
      · exact List.mem_append_right _ z
theorem r_lc {elt tg iter:Expr} {ifs:List Expr} {scope:Scope} {own:List (Str×Nat)} {pos:Pos} {fi:FI} {gf:FG} {sl:List Nat} {t:FT} {fe:FE} {tgr:TG} (hc:X.calm=true) (hN:X.N.Nodup) (hi:PI X tg iter (tRI F Wsh fi)) (ok:BlkOk X.N X.env.scope scope own)
    (hr:GRel F gf sl tgr) (hsl:∀ i∈sl,i∈own.map (·.2))
    (hg:∀ (s:Shared) (H:Hp) (C:Addr) (cl:List (Str×Addr)) (fp:List Addr),PG (X.blk s H scope (compEnvC scope cl C X.env) fp) tg tgr) (ht:∀ (s:Shared) (H:Hp) (C:Addr) (cl:List (Str×Addr)) (fp:List Addr),TestsOk (X.blk s H scope (compEnvC scope cl C X.env) fp) F ifs t)
    (he:∀ (s:Shared) (H:Hp) (C:Addr) (cl:List (Str×Addr)) (fp:List Addr),PE (X.blk s H scope (compEnvC scope cl C X.env) fp) elt (tR F W0 fe)) (hs:∀ x,foldedSetIterable iter X.env x=pure x:=by intro _; rfl) :
    PE X (.ListComp elt [⟨tg,iter,ifs,0⟩] scope pos) (tR F Wsh (fLc fi gf t fe (own.map (·.2)))) :=
  peImp (pe_lc hc hN hi ok hg ht he hs) fun σ H Q h=>lc_of hr hsl (fun _ _ _ q=>q) (fun _ _ _ q=>q) h
theorem r_setLc {i:Nat} {y:Str} {py:Pos} {elt tg iter:Expr} {ifs:List Expr} {scope:Scope} {own:List (Str×Nat)} {pos spos:Pos} {fi:FI} {gf:FG} {sl:List Nat} {t:FT} {fe:FE} {tgr:TG} (hc:X.calm=true) (hN:X.N.Nodup) (hy:X.N[i]? = some y) (hyl:X.env.scope.names.lookup y=some .local)
    (hsw:swapsWith (.ListComp elt [⟨tg,iter,ifs,0⟩] scope pos) (some (.Name y py)) spos.line X.env=pure true) (hi:PI X tg iter (tRI F Wsh fi)) (ok:BlkOk X.N X.env.scope scope own)
    (hr:GRel F gf sl tgr) (hsl:∀ i∈sl,i∈own.map (·.2))
    (hg:∀ (s:Shared) (H:Hp) (C:Addr) (cl:List (Str×Addr)) (fp:List Addr),PG (X.blk s H scope (compEnvC scope cl C X.env) fp) tg tgr) (ht:∀ (s:Shared) (H:Hp) (C:Addr) (cl:List (Str×Addr)) (fp:List Addr),TestsOk (X.blk s H scope (compEnvC scope cl C X.env) fp) F ifs t)
    (he:∀ (s:Shared) (H:Hp) (C:Addr) (cl:List (Str×Addr)) (fp:List Addr),PE (X.blk s H scope (compEnvC scope cl C X.env) fp) elt (tR F W0 fe)) (hs:∀ x,foldedSetIterable iter X.env x=pure x:=by intro _; rfl) :
    PS X (.Assign [.Name y py] (.ListComp elt [⟨tg,iter,ifs,0⟩] scope pos) spos) (tS F Wsh (sSet i (fLc fi gf t fe (own.map (·.2))))) :=
  psImp (ps_setLc hc hN hy hyl hsw hi ok hg ht he hs) fun D σ H ⟨B,ι,ρ,S,rl,c⟩=>by
    refine lc_of hr hsl (fun _ _ _ q=>q) (fun _ _ _ q=>q) ?_
    exact tS_step rl c fun w v S1 ι1 H1 x1 rl1 rv c1=>c1.nx_here (rl1.set i rv)
end
end Ev
namespace Ev
open PySem PySem.Spec L2
open PyProof.Rows (envOfC)
abbrev FF:=List W→Sto→R W
section
variable (F:Fx)
def CCont (B:List Addr) (ι:Ads) (H:Hp) (Q:VK) (E:XK) (r:R W):Prop:=match r with
  | .ok w S=>∀ ι' H' v,Ext ι H ι' H'→RelS F H' B ι' S→RW F H' B ι' w v→Q v H'
  | .exn c x S=>∀ ι' H' cv d,Ext ι H ι' H'→RelS F H' B ι' S→RX F H' B ι' c x cv d→E cv d H'
  | .err=>False
def spF (n:Nat) (f:FF):Sp:=fun vs H Q E=>vs.length=n∧∃ B ι S ws,RelS F H B ι S∧RWs F H B ι ws vs∧CCont F B ι H Q E (f ws S)
end
structure FnG (gd:Bool) (P:Program) (w:World) (K:PySem.W.Frag) (mg:Str→Option Value) (base:Heap) (k:Nat) (f:Addr) (fd:FuncData) (ps:List Str) (sp:Sp):Prop where
  len:∀ vs H Q E,sp vs H Q E→vs.length=ps.length
  run:∀ (A:Around) (outer:List Env) (s:Shared) (H:Hp) (args:Args) (us:List Value) (vs:List V) (Q:VK) (E:XK),Room k A→(gd=true→A.guards=some [])→Env0 P w K mg base A outer s H→BindsTo s fd args (ps.zip us)→Vals vs us→sp vs H Q E →
    codeAny (model P w) A (.call (.ref f) args) (CR (L2.CX P w) outer P w H s Q E) s
section
variable {gd:Bool} {P:Program} {w:World} {K:PySem.W.Frag} {mg:Str→Option Value} {base:Heap} {k:Nat} {f:Addr} {fd:FuncData} {ps:List Str} {sp sp':Sp}
theorem FnG.imp (G:FnG gd P w K mg base k f fd ps sp) (h:∀ vs H Q E,sp' vs H Q E→sp vs H Q E):FnG gd P w K mg base k f fd ps sp' :=
  ⟨fun vs H Q E q=>G.len vs H Q E (h _ _ _ _ q),fun A outer s H args us vs Q E hr hg he hb hv hs=>G.run A outer s H args us vs Q E hr hg he hb hv (h _ _ _ _ hs)⟩
theorem FnG.mono {j:Nat} (G:FnG gd P w K mg base j f fd ps sp) (h:j≤k):FnG gd P w K mg base k f fd ps sp:=⟨G.len,fun A outer s H args us vs Q E hr=>G.run A outer s H args us vs Q E (hr.mono h)⟩
theorem fnG_of {name qual:Str} {params:Arguments} {body:List Stmt} {scope:Scope} {dV kV doc pm cdv ct oc:Value} {an od:Option Addr} {osl:Array (Option Value)} {N:List Str}
    (lk:K.lookup f=some ⟨oc,od,.func (PySem.W.fnOf name qual params body scope dV kV doc pm an cdv ct),osl⟩) (hcd:PySem.W.codeIn K cdv qual=true) (S:FnScope N ps scope)
    (len:∀ vs H Q E,sp vs H Q E→vs.length=ps.length)
    (hbody:∀ (A:Around) (outer:List Env) (s:Shared) (H:Hp) (vs:List V) (Q:VK) (E:XK),Room k (A.deeper (envOfC qual scope s.heap.objs.size f cdv))→(gd=true→A.guards=some [])→sp vs H Q E →
      ∃ t,PSs (cxOf (L2.CX P w) P w K mg base N qual scope f cdv A outer s H E) body t∧t { nx:=fun _ H'=>Q .non H',rt:=Q } (L2.start N vs) H) :
    FnG gd P w K mg base (k + 1) f (PySem.W.fnOf name qual params body scope dV kV doc pm an cdv ct) ps sp:=by
  refine ⟨len,fun A outer s H args us vs Q E room hgd e0 bnd rel hsp=>?_⟩
  have el:=len _ _ _ _ hsp
  have old:=fun (b:Addr) (o:Obj) (e:base.get? b=some o)=>(e0.bs b o e).1
  have hin:K.In s.heap:=e0.mod.kin.keeps old
  have hlim:s.heap.NoLimit:=e0.mod.nolimit.keeps old
  have kinds:∀ q∈ps.zip us,scope.names.lookup q.1=some .local ∨
      (scope.names.lookup q.1=some .cell∧((cellsFrom (s.heap.objs.size + 1) scope.names []).lookup q.1).isSome=true):=by
    rintro ⟨n,v⟩ hq
    cases S.par n (List.of_mem_zip hq).1 with
    | inl z=>exact .inl z
    | inr z=>exact .inr ⟨z,PySem.W.cellsFrom_some _ _ _ (.inl z)⟩
  apply codeAny_call_function room.depth (hin _ _ lk) rfl S.co S.gen rfl (PySem.W.codeRec_of hin hcd)
  apply bnd
  apply wpAny_newFunctionEnv_cells S.kind kinds
  intro env henv s1 ic
  subst henv
  refine ⟨hlim.keeps ic.toInCall.keep,codeAny_func ?_⟩
  obtain ⟨t,hps,ht⟩:=hbody A outer s H vs Q E (room.deeper _) hgd hsp
  have J:=inv_start (CX:=L2.CX P w) (E:=E) S room.hd e0 el rel ic
  refine wpAny_mono (hps.run [] s1 (L2.start N vs) H _ J ht) (fun fl s' hs=>?_) (fun _ _ z=>z)
  rcases fl with _ | _ | _ | u
  · obtain ⟨σ',H',J',q⟩:=hs
    exact ⟨V.non,H',J'.os,J'.bare,J'.base,J'.hok,rfl,q⟩
  · exact hs.choose_spec.choose_spec.2.elim
  · exact hs.choose_spec.choose_spec.2.elim
  · obtain ⟨v,σ',H',J',rv,q⟩:=hs
    exact ⟨v,H',J'.os,J'.bare,J'.base,J'.hok,rv,q⟩
def bodyF (n:Nat) (g:FS):FF:=fun ws S=>match g (ws.map some ++ List.replicate (n - ws.length) none) S with
  | .rt w S1=>.ok w S1
  | .nx _ S1=>.ok (.d .non) S1
  | .exn c x _ S1=>.exn c x S1
  | _=>.err
theorem start_rel {F:Fx} {H:Hp} {B:List Addr} {ι:Ads}:∀ {ws:List W} {vs:List V} (m:Nat),RWs F H B ι ws vs→Paired (RL F H B ι) (ws.map some ++ List.replicate m none) (vs.map some ++ List.replicate m none)
  | _,_,m,.nil=>by
    show Paired _ (List.replicate m none) (List.replicate m none)
    induction m with
    | zero=>exact .nil
    | succ m ih=>exact .cons trivial ih
  | _,_,m,.cons r t=>.cons r (start_rel m t)
theorem def_ok {F:Fx} {x qual:Str} {st:Stmt} {N:List Str} {g:FS} (Fn:Fun F.K x qual st f fd) (S:FnScope N ps (defScope st))
    (hb:∀ (cdv:Value) (A:Around) (outer:List Env) (s:Shared) (H:Hp) (E:XK),Room k (A.deeper (envOfC qual (defScope st) s.heap.objs.size f cdv))→(gd=true→A.guards=some []) →
      PSs (cxOf (L2.CX P w) P w F.K mg base N qual (defScope st) f cdv A outer s H E) (defBody st) (tS F (fun cls d _ H=>E cls d H) g)) :
    FnG gd P w F.K mg base (k + 1) f fd ps (spF F ps.length (bodyF N.length g)):=by
  obtain ⟨oc,od,kV,doc,pm,an,cdv,ct,osl,rfl,lk,hcd⟩:=Fn.ex
  refine fnG_of lk hcd S (fun vs H Q E h=>h.1) fun A outer s H vs Q E hr hg hsp=>⟨_,hb cdv A outer s H E hr hg,?_⟩
  obtain ⟨hl,B,ι,S0,ws,rs,rw,c⟩:=hsp
  have hlw:ws.length=vs.length:=Paired.length rw
  refine ⟨B,ι,ws.map some ++ List.replicate (N.length - ws.length) none,S0,⟨rs,?_⟩,?_⟩
  · unfold L2.start
    rw [hlw]
    exact start_rel _ rw
  · unfold bodyF at c
    revert c
    cases g (ws.map some ++ List.replicate (N.length - ws.length) none) S0 with
    | nx ρ S1=>exact fun c ι' H' σ' x r=>c ι' H' .non x r.toRelS .non
    | rt w S1=>exact fun c ι' H' v x r rv=>c ι' H' v x r rv
    | exn cc d ρ S1=>exact fun c ι' H' σ' cv od x r rx=>c ι' H' cv od x r.toRelS rx
    | bk _ _=>exact fun c=>(show False from c).elim
    | ct _ _=>exact fun c=>(show False from c).elim
    | err=>exact fun c=>(show False from c).elim
end
theorem paired_all {α β:Type} {P:α→Prop} {A C:α→β→Prop}:∀ {l:List α} {m:List β},(∀ a∈l,P a)→(∀ a b,P a→A a b→C a b)→Paired A l m→Paired C l m
  | _,_,_,_,.nil=>.nil
  | _,_,h,f,.cons r t=>.cons (f _ _ (h _ (by simp)) r) (paired_all (fun a ha=>h a (List.mem_cons_of_mem _ ha)) f t)
def refLt (n:Nat):W→Bool
  | .d _=>true
  | .ref i=>decide (i < n)
  | .exc _ _=>false
  | .fn=>false
def objLt (n:Nat):O→Bool
  | .lst ws=>ws.all (refLt n)
  | .tup ws=>ws.all (refLt n)
  | .kd kvs=>kvs.all fun p=>refLt n p.2
  | .dct kvs=>kvs.all fun p=>refLt n p.2
  | .drw _ _ _=>true
  | .ins _ fs=>fs.all fun p=>refLt n p.2
def datF:List (Str×W)→Option (List (Str×D))
  | []=>some []
  | (f,.d x) :: fs=>(datF fs).map ((f,x) :: ·)
  | _ :: _=>none
def seen (S:Sto):W→Option D
  | .ref i=>match S[i]? with
    | some (.ins c fs)=>(datF fs).map (.ins c)
    | _=>view S (.ref i)
  | w=>view S w
def dpD (g:W→Option D):List W→Option (List D)
  | []=>some []
  | w :: ws=>match g w,dpD g ws with
    | some d,some ds=>some (d :: ds)
    | _,_=>none
def dpF (g:W→Option D):List (Str×W)→Option (List (Str×D))
  | []=>some []
  | (f,w) :: ws=>match g w,dpF g ws with
    | some d,some ds=>some ((f,d) :: ds)
    | _,_=>none
def dpN (g:W→Option D):List (D×W)→Option (List (D×D))
  | []=>some []
  | (k,w) :: ws=>match g w,dpN g ws with
    | some d,some ds=>some ((k,d) :: ds)
    | _,_=>none
def keyA:Key→D
  | .inl i=>.int i
  | .inr x=>.str x
def dpK (g:W→Option D):List (Key×W)→Option (List (D×D))
  | []=>some []
  | (k,w) :: ws=>match g w,dpK g ws with
    | some d,some ds=>some ((keyA k,d) :: ds)
    | _,_=>none
def deep (n:Nat) (S:Sto):Nat→W→Option D
  | 0,_=>none
  | _ + 1,.d x=>some x
  | f + 1,.ref i=>if i < n then none else match S[i]? with
    | some (.lst ws)=>(dpD (deep n S f) ws).map .lst
    | some (.tup ws)=>(dpD (deep n S f) ws).map .tup
    | some (.ins c fs)=>(dpF (deep n S f) fs).map (.ins c)
    | some (.kd kvs)=>(dpN (deep n S f) kvs).map .kdc
    | some (.dct kvs)=>(dpK (deep n S f) kvs).map .dct
    | _=>none
  | _ + 1,_=>none
def seenN (n:Nat) (S:Sto) (w:W):Option D:=match seen S w with
  | some d=>some d
  | none=>deep n S 6 w
def handOut (n:Nat) (S:Sto) (w:W):Option W:=if refLt n w then some w else (seenN n S w).map W.d
def called (f:FF):FF:=fun ws S=>match dats ws with
  | some _=>(match f ws [] with
    | .ok w S1=>(match seenN 0 S1 w with
      | some d=>.ok (.d d) S
      | none=>.err)
    | .exn c x _=>.exn c x S
    | .err=>.err)
  | none=>(match f ws S with
    | .ok w S1=>if (S1.take S.length).all (objLt S.length) && decide (S.length≤S1.length) then (match handOut S.length S1 w with
      | some w2=>.ok w2 (S1.take S.length)
      | none=>.err) else .err
    | .exn c x S1=>if (S1.take S.length).all (objLt S.length) && decide (S.length≤S1.length) then .exn c x (S1.take S.length) else .err
    | .err=>.err)
section
variable {F:Fx} {H H':Hp} {B:List Addr} {ι ι':Ads}
theorem dats_data:∀ {ws:List W} {ds:List D},dats ws=some ds→ws=ds.map W.d
  | [],_,e=>by simp [dats] at e; subst e; rfl
  | .d x :: ws,_,e=>by
    simp only [dats,Option.map_eq_some_iff] at e
    obtain ⟨es,e1,rfl⟩:=e
    rw [dats_data e1]
    rfl
  | .ref _ :: _,_,e=>by simp [dats] at e
  | .exc _ _ :: _,_,e=>by simp [dats] at e
  | .fn :: _,_,e=>by simp [dats] at e
theorem flat_take (n:Nat):∀ a∈flat (ι.take n),a∈flat ι:=fun a ha=>by
  obtain ⟨p,hp,h⟩:=List.mem_flatMap.mp ha
  exact List.mem_flatMap.mpr ⟨p,List.mem_of_mem_take hp,h⟩
theorem view_out {S:Sto} {w:W} {v:V} {d:D} {C:List Addr} (rs:RelS F H B ι S) (rw:RW F H B ι w v) (e:view S w=some d) (hw:∀ i p,w=.ref i→ι[i]? = some p→p.1 ∉ C) (hC:∀ a∈C,H a ≠ none→a∈B ++ flat ι):Rep F.K F.cls H C d v:=by
  cases w with
  | d x =>
    simp [view] at e
    subst e
    exact Rep.sub hC rw
  | exc _ _=>simp [view] at e
  | fn=>simp [view] at e
  | ref i =>
    obtain ⟨p,hp,rfl⟩:=rw
    obtain ⟨o,ho,ro⟩:=rs.at_some hp
    simp only [view,ho] at e
    cases o with
    | lst ws =>
      simp only [Option.map_eq_some_iff] at e
      obtain ⟨es,e1,rfl⟩:=e
      obtain ⟨_,vs,h1,rv⟩:=ro
      exact .lst (hw i p rfl hp) h1 (Reps.sub hC (dats_reps e1 rv))
    | tup _=>simp at e
    | kd _=>simp at e
    | dct _=>simp at e
    | drw _ _ _=>simp at e
    | ins _ _=>simp at e
theorem datF_reps:∀ {fs:List (Str×W)} {vs:List (Str×V)} {ds:List (Str×D)},datF fs=some ds→RWF F H B ι fs vs→RepF F.K F.cls H (B ++ flat ι) ds vs
  | [],_,ds,e,.nil=>by simp [datF] at e; subst e; exact .nil
  | (f,.d x) :: fs,(g,v) :: vs,ds,e,.cons r t=>by
    simp only [datF,Option.map_eq_some_iff] at e
    obtain ⟨es,e1,rfl⟩:=e
    obtain ⟨rfl,r⟩:=r
    exact .cons r (datF_reps e1 t)
  | (_,.ref _) :: _,_,_,e,_=>by simp [datF] at e
  | (_,.exc _ _) :: _,_,_,e,_=>by simp [datF] at e
  | (_,.fn) :: _,_,_,e,_=>by simp [datF] at e
theorem seen_out {S:Sto} {w:W} {v:V} {d:D} {C:List Addr} (rs:RelS F H B ι S) (rw:RW F H B ι w v) (e:seen S w=some d) (hw:∀ i p,w=.ref i→ι[i]? = some p→p.1 ∉ C) (hC:∀ a∈C,H a ≠ none→a∈B ++ flat ι):Rep F.K F.cls H C d v:=by
  cases w with
  | ref i =>
    obtain ⟨p,hp,ev⟩:=id rw
    obtain ⟨o,ho,ro⟩:=rs.at_some hp
    cases o with
    | ins c fs =>
      simp only [seen,ho,Option.map_eq_some_iff] at e
      obtain ⟨es,e1,rfl⟩:=e
      obtain ⟨_,dx,vs,h1,rv⟩:=ro
      subst ev
      exact .ins (hw i p rfl hp) h1 (RepF.sub hC (datF_reps e1 rv))
    | lst ws=>exact view_out rs rw (by simpa only [seen,ho] using e) hw hC
    | tup ws=>exact view_out rs rw (by simpa only [seen,ho] using e) hw hC
    | kd ws=>exact view_out rs rw (by simpa only [seen,ho] using e) hw hC
    | dct ws=>exact view_out rs rw (by simpa only [seen,ho] using e) hw hC
    | drw _ _ _=>exact view_out rs rw (by simpa only [seen,ho] using e) hw hC
  | d x=>exact view_out rs rw e hw hC
  | exc _ _=>exact view_out rs rw e hw hC
  | fn=>exact view_out rs rw e hw hC
theorem dpD_reps {C:List Addr} {g:W→Option D} (hg:∀ w v d,g w=some d→RW F H B ι w v→Rep F.K F.cls H C d v):∀ {ws:List W} {vs:List V} {ds:List D},dpD g ws=some ds→RWs F H B ι ws vs→Reps F.K F.cls H C ds vs
  | [],_,_,e,.nil=>by simp [dpD] at e; subst e; exact .nil
  | w :: ws,_,_,e,.cons r t=>by
    unfold dpD at e
    split at e
    · rename_i d ds e1 e2
      cases e
      exact .cons (hg _ _ _ e1 r) (dpD_reps hg e2 t)
    · cases e
theorem dpF_reps {C:List Addr} {g:W→Option D} (hg:∀ w v d,g w=some d→RW F H B ι w v→Rep F.K F.cls H C d v):∀ {ws:List (Str×W)} {vs:List (Str×V)} {ds:List (Str×D)},dpF g ws=some ds→RWF F H B ι ws vs→RepF F.K F.cls H C ds vs
  | [],_,_,e,.nil=>by simp [dpF] at e; subst e; exact .nil
  | (f,w) :: ws,(f',v) :: vs,_,e,.cons r t=>by
    unfold dpF at e
    split at e
    · rename_i d ds e1 e2
      cases e
      obtain ⟨r1,r2⟩:=r
      dsimp only at r1 r2
      subst r1
      exact .cons (hg _ _ _ e1 r2) (dpF_reps hg e2 t)
    · cases e
theorem dpN_reps {C:List Addr} {g:W→Option D} (hC:∀ a∈C,H a ≠ none→a∈B ++ flat ι) (hg:∀ w v d,g w=some d→RW F H B ι w v→Rep F.K F.cls H C d v):∀ {ws:List (D×W)} {vs:List KEnt} {ds:List (D×D)},dpN g ws=some ds→RWN F H B ι ws vs→RepN F.K F.cls H C ds vs
  | [],_,_,e,.nil=>by simp [dpN] at e; subst e; exact .nil
  | (k,w) :: ws,(k',b,u) :: vs,_,e,.cons r t=>by
    unfold dpN at e
    split at e
    · rename_i d ds e1 e2
      cases e
      obtain ⟨r1,r2,r3,v,r4,r5⟩:=r
      dsimp only at r1 r2 r3 r4 r5
      subst r2
      exact .cons r1 (Rep.sub hC r3) (hg _ _ _ e1 r5) r4 (dpN_reps hC hg e2 t)
    · cases e
theorem dpK_reps {C:List Addr} {g:W→Option D} (hg:∀ w v d,g w=some d→RW F H B ι w v→Rep F.K F.cls H C d v):∀ {ws:List (Key×W)} {vs:List (Key×V)} {ds:List (D×D)},dpK g ws=some ds→RWK F H B ι ws vs→RepK F.K F.cls H C ds vs
  | [],_,_,e,.nil=>by simp [dpK] at e; subst e; exact .nil
  | (k,w) :: ws,(k',v) :: vs,_,e,.cons r t=>by
    unfold dpK at e
    split at e
    · rename_i d ds e1 e2
      cases e
      obtain ⟨r1,r2⟩:=r
      dsimp only at r1 r2
      subst r1
      cases k with
      | inl i=>exact .int (hg _ _ _ e1 r2) (dpK_reps hg e2 t)
      | inr x=>exact .str (hg _ _ _ e1 r2) (dpK_reps hg e2 t)
    · cases e
theorem deep_out {S:Sto} {n:Nat} {C:List Addr} (rs:RelS F H B ι S) (hw:∀ i p,n≤i→ι[i]? = some p→p.1 ∉ C) (hC:∀ a∈C,H a ≠ none→a∈B ++ flat ι):∀ (f:Nat) (w:W) (v:V) (d:D),deep n S f w=some d→RW F H B ι w v→Rep F.K F.cls H C d v
  | 0,_,_,_,e,_=>by simp [deep] at e
  | f + 1,.d x,v,d,e,r=>by
    simp only [deep,Option.some.injEq] at e
    subst e
    exact Rep.sub hC r
  | f + 1,.exc _ _,v,d,e,r=>by simp [deep] at e
  | f + 1,.fn,v,d,e,r=>by simp [deep] at e
  | f + 1,.ref i,v,d,e,r=>by
    obtain ⟨p,hp,rfl⟩:=r
    obtain ⟨o,ho,ro⟩:=rs.at_some hp
    simp only [deep,ho] at e
    split at e
    · cases e
    · rename_i hi
      have hn:=hw i p (Nat.le_of_not_lt hi) hp
      have ih:=deep_out rs hw hC f
      cases o with
      | lst ws =>
        simp only [Option.map_eq_some_iff] at e
        obtain ⟨ds,e1,rfl⟩:=e
        obtain ⟨_,vs,h1,rv⟩:=ro
        exact .lst hn h1 (dpD_reps ih e1 rv)
      | tup ws =>
        simp only [Option.map_eq_some_iff] at e
        obtain ⟨ds,e1,rfl⟩:=e
        obtain ⟨_,vs,h1,rv⟩:=ro
        exact .tup hn h1 (dpD_reps ih e1 rv)
      | ins c fs =>
        simp only [Option.map_eq_some_iff] at e
        obtain ⟨ds,e1,rfl⟩:=e
        obtain ⟨_,dx,vs,h1,rv⟩:=ro
        exact .ins hn h1 (dpF_reps ih e1 rv)
      | kd kvs =>
        simp only [Option.map_eq_some_iff] at e
        obtain ⟨ds,e1,rfl⟩:=e
        obtain ⟨_,oo,vs,h1,rv⟩:=ro
        exact .kdc hn h1 (dpN_reps hC ih e1 rv)
      | dct kvs =>
        simp only [Option.map_eq_some_iff] at e
        obtain ⟨ds,e1,rfl⟩:=e
        obtain ⟨_,vs,h1,rv⟩:=ro
        exact .dK hn h1 (dpK_reps ih e1 rv)
      | drw _ _ _=>simp at e
theorem seenN_out {S:Sto} {n:Nat} {w:W} {v:V} {d:D} {C:List Addr} (rs:RelS F H B ι S) (rw:RW F H B ι w v) (e:seenN n S w=some d) (h1:∀ i p,w=.ref i→ι[i]? = some p→p.1 ∉ C) (hw:∀ i p,n≤i→ι[i]? = some p→p.1 ∉ C) (hC:∀ a∈C,H a ≠ none→a∈B ++ flat ι):Rep F.K F.cls H C d v:=by
  unfold seenN at e
  split at e
  · rename_i d' e'
    cases e
    exact seen_out rs rw e' h1 hC
  · exact deep_out rs hw hC 6 w v d e rw
theorem rx_out {c:Nat} {x:D} {cv:Value} {d:Option Addr} {B':List Addr} {ι2:Ads} (h:RX F H B ι c x cv d) (n:∀ a o,H a=some (.xd o)→a ∉ flat ι2) (hC:∀ a∈B' ++ flat ι2,H a ≠ none→a∈B ++ flat ι):RX F H B' ι2 c x cv d:=by
  obtain ⟨e,a,v,e2,h1,_,r⟩:=h
  exact ⟨e,a,v,e2,h1,n a _ h1,Rep.sub hC r⟩
theorem not_xd {S:Sto} (r:RelS F H B ι S) (a:Addr) (o:List (Str×V)) (h:H a=some (.xd o)):a ∉ flat ι:=fun z=>by
  obtain ⟨i,p,ob,h1,h2,ro,ha⟩:=r.mem_flat z
  cases ob with
  | lst ws =>
    obtain ⟨h0,vs,e,_⟩:=ro
    rcases ha with rfl | ha
    · rw [e] at h; cases h
    · rw [h0] at ha; simp at ha
  | tup ws =>
    obtain ⟨h0,vs,e,_⟩:=ro
    rcases ha with rfl | ha
    · rw [e] at h; cases h
    · rw [h0] at ha; simp at ha
  | kd ws =>
    obtain ⟨h0,_,vs,e,_⟩:=ro
    rcases ha with rfl | ha
    · rw [e] at h; cases h
    · rw [h0] at ha; simp at ha
  | dct ws =>
    obtain ⟨h0,vs,e,_⟩:=ro
    rcases ha with rfl | ha
    · rw [e] at h; cases h
    · rw [h0] at ha; simp at ha
  | ins c fs =>
    obtain ⟨h0,dx,vs,e,_⟩:=ro
    rcases ha with rfl | ha
    · rw [e] at h; cases h
    · rw [h0] at ha; simp at ha
  | drw _ _ _ =>
    obtain ⟨aC,aL,h0,e,e2,e3⟩:=ro
    rcases ha with rfl | ha
    · rw [e] at h; cases h
    · rw [h0] at ha
      simp at ha
      rcases ha with rfl | rfl
      · rw [e2] at h; cases h
      · rw [e3] at h; cases h
theorem away {S S1:Sto} (rs:RelS F H B ι S) (x:Ext [] H ι' H') (r1:RelS F H' (B ++ flat ι) ι' S1):Ext ι H ι H'∧RelS F H' B ι S:=by
  have ex:Ext ι H ι H':=⟨fun _ p h=>⟨p,h,rfl⟩,fun _ z=>.inl z,x.dom,fun b o _ h nt=>x.keep b o (fun z=>by simp [flat] at z) h nt⟩
  refine ⟨ex,rs.stay ex (fun a ha=>?_) r1.tab⟩
  obtain ⟨i,p,ob,h1,h2,ro,hap⟩:=rs.mem_flat ha
  cases q:H a with
  | none=>exact absurd q (ro.tracked hap)
  | some u=>rw [x.keep a u (fun z=>by simp [flat] at z) q (ro.ntbl hap q).1]
theorem cut_store {S1:Sto} {n:Nat} (r:RelS F H B ι S1) (hc:(S1.take n).all (objLt n)=true):RelS F H B (ι.take n) (S1.take n):=by
  have hsub:∀ a∈B ++ flat (ι.take n),H a ≠ none→a∈B ++ flat ι:=fun a ha _=>by
    rcases List.mem_append.mp ha with z | z
    · exact List.mem_append_left _ z
    · exact List.mem_append_right _ (flat_take n a z)
  have rwSub:∀ {w:W} {v:V},refLt n w=true→RW F H B ι w v→RW F H B (ι.take n) w v:=fun {w v} h r=>by
    cases w with
    | d x=>exact Rep.sub hsub r
    | exc _ _=>simp [refLt] at h
    | fn=>simp [refLt] at h
    | ref i =>
      obtain ⟨p,hp,e⟩:=r
      have hi:i < n:=by simpa [refLt] using h
      exact ⟨p,by rw [List.getElem?_take_of_lt hi]; exact hp,e⟩
  refine ⟨?_,by rw [List.length_take,List.length_take,r.len],fun i p o h1 h2=>?_,r.tab,r.bs,fun b hb z=>r.dis b hb (flat_take n b z)⟩
  · have e:flat ι=flat (ι.take n) ++ flat (ι.drop n):=by
      unfold flat
      rw [← List.flatMap_append,List.take_append_drop]
    have nd:=r.nd
    rw [e] at nd
    exact (List.nodup_append.mp nd).1
  · have hi:i < n:=by
      have:=(List.getElem?_eq_some_iff.mp h1).1
      rw [List.length_take] at this
      omega
    have h1':ι[i]? = some p:=by rw [List.getElem?_take_of_lt hi] at h1; exact h1
    have h2':S1[i]? = some o:=by rw [List.getElem?_take_of_lt hi] at h2; exact h2
    have ho:objLt n o=true:=List.all_eq_true.mp hc o (List.mem_iff_getElem?.mpr ⟨i,h2⟩)
    have ro:=r.obj i p o h1' h2'
    cases o with
    | lst ws =>
      obtain ⟨h0,vs,e,rv⟩:=ro
      exact ⟨h0,vs,e,paired_all (List.all_eq_true.mp (by simpa [objLt] using ho)) (fun _ _ a b=>rwSub a b) rv⟩
    | kd ws =>
      obtain ⟨h0,oo,vs,e,rv⟩:=ro
      exact ⟨h0,oo,vs,e,paired_all (P:=fun p:D×W=>refLt n p.2=true) (List.all_eq_true.mp (by simpa [objLt] using ho)) (fun _ _ a q=>⟨q.1,q.2.1,Rep.sub hsub q.2.2.1,q.2.2.2.elim fun v t=>⟨v,t.1,rwSub a t.2⟩⟩) rv⟩
    | tup ws =>
      obtain ⟨h0,vs,e,rv⟩:=ro
      exact ⟨h0,vs,e,paired_all (List.all_eq_true.mp (by simpa [objLt] using ho)) (fun _ _ a b=>rwSub a b) rv⟩
    | dct ws =>
      obtain ⟨h0,vs,e,rv⟩:=ro
      exact ⟨h0,vs,e,paired_all (P:=fun p:Key×W=>refLt n p.2=true) (List.all_eq_true.mp (by simpa [objLt] using ho)) (fun _ _ a b=>⟨b.1,rwSub a b.2⟩) rv⟩
    | ins c fs =>
      obtain ⟨h0,dx,vs,e,rv⟩:=ro
      exact ⟨h0,dx,vs,e,paired_all (P:=fun p:Str×W=>refLt n p.2=true) (List.all_eq_true.mp (by simpa [objLt] using ho)) (fun _ _ a b=>⟨b.1,rwSub a b.2⟩) rv⟩
    | drw _ _ _=>exact ro
theorem sp_called {n:Nat} {f:FF} {vs:List V} {Q:VK} {E:XK} (h:spF F n (called f) vs H Q E):spF F n f vs H Q E:=by
  obtain ⟨hl,B,ι,S,ws,rs,rw,c⟩:=h
  refine ⟨hl,?_⟩
  unfold called at c
  split at c
  · rename_i ds hd
    have ew:=dats_data hd
    refine ⟨B ++ flat ι,[],[],ws,⟨by simp [flat],rfl,fun i p o h1=>by simp at h1,rs.tab,fun b hb=>?_,fun b _ z=>by simp [flat] at z⟩,?_,?_⟩
    · rcases List.mem_append.mp hb with z | z
      · exact rs.bs b z
      · exact rs.mem_some z
    · subst ew
      have r:=dats_reps hd rw
      have r':RDs F H (B ++ flat ι) [] ds vs:=by
        refine Reps.sub (fun a ha _=>?_) r
        simpa [flat] using ha
      exact reps_rws r'
    · revert c
      cases f ws [] with
      | err=>exact fun c=>c
      | ok w S1 =>
        intro c ι' H' v x r1 rv
        obtain ⟨ex,rs'⟩:=away rs x r1
        simp only at c
        cases hv:seenN 0 S1 w with
        | none=>rw [hv] at c; exact (show False from c).elim
        | some d =>
          rw [hv] at c
          refine c ι H' v ex rs' (seenN_out (C:=B ++ flat ι) r1 rv hv (fun i p _ hp z=>r1.dis _ z (mem_flat hp)) (fun i p _ hp z=>r1.dis _ z (mem_flat hp)) fun a ha _=>List.mem_append_left _ ha)
      | exn cc d S1 =>
        intro c ι' H' cv od x r1 rx
        obtain ⟨ex,rs'⟩:=away rs x r1
        exact c ι H' cv od ex rs' (rx_out rx (fun a o h=>not_xd rs' a o h) fun a ha _=>List.mem_append_left _ ha)
  · refine ⟨B,ι,S,ws,rs,rw,?_⟩
    revert c
    have cutE:∀ {ι':Ads} {H':Hp},S.length≤ι'.length→Ext ι H ι' H'→Ext ι H (ι'.take S.length) H':=fun {ι' H'} hle x =>
      ⟨fun i p h=>by
        obtain ⟨p',h1,h2⟩:=x.at_ i p h
        have hi:i < S.length:=by rw [← rs.len]; exact (List.getElem?_eq_some_iff.mp h).1
        exact ⟨p',by rw [List.getElem?_take_of_lt hi]; exact h1,h2⟩,fun b hb=>x.sub b (flat_take _ b hb),x.dom,x.keep⟩
    cases f ws S with
    | err=>exact fun c=>c
    | ok w S1 =>
      intro c ι' H' v x r1 rv
      simp only at c
      split at c
      · rename_i hc
        have h1:=Bool.and_eq_true_iff.mp hc
        have hle:S.length≤S1.length:=of_decide_eq_true h1.2
        have rc:=cut_store (n:=S.length) r1 h1.1
        have ex:=cutE (by rw [r1.len]; exact hle) x
        cases ho:handOut S.length S1 w with
        | none=>rw [ho] at c; exact (show False from c).elim
        | some w2 =>
          rw [ho] at c
          refine c _ H' v ex rc ?_
          unfold handOut at ho
          have hsub:∀ a∈B ++ flat (ι'.take S.length),H' a ≠ none→a∈B ++ flat ι':=fun a ha _=>by
            rcases List.mem_append.mp ha with z | z
            · exact List.mem_append_left _ z
            · exact List.mem_append_right _ (flat_take _ a z)
          split at ho
          · rename_i hlt
            cases ho
            cases w with
            | d y=>exact Rep.sub hsub rv
            | exc _ _=>simp [refLt] at hlt
            | fn=>simp [refLt] at hlt
            | ref i =>
              obtain ⟨p,hp,e⟩:=rv
              have hi:i < S.length:=by simpa [refLt] using hlt
              exact ⟨p,by rw [List.getElem?_take_of_lt hi]; exact hp,e⟩
          · rename_i hlt
            simp only [Option.map_eq_some_iff] at ho
            obtain ⟨d,hd,rfl⟩:=ho
            have hfar:∀ i p,S.length≤i→ι'[i]? = some p→p.1 ∉ B ++ flat (ι'.take S.length):=fun i p hi hp z=>by
              rcases List.mem_append.mp z with q | q
              · exact r1.dis _ q (mem_flat hp)
              · have e:flat ι'=flat (ι'.take S.length) ++ flat (ι'.drop S.length):=by
                  unfold flat
                  rw [← List.flatMap_append,List.take_append_drop]
                have nd:=r1.nd
                rw [e] at nd
                have hmem:p.1∈flat (ι'.drop S.length):=by
                  refine mem_flat (i:=i - S.length) ?_
                  rw [List.getElem?_drop,Nat.add_sub_cancel' hi]
                  exact hp
                exact (List.nodup_append.mp nd).2.2 p.1 q p.1 hmem rfl
            refine seenN_out (C:=B ++ flat (ι'.take S.length)) r1 rv hd (fun i p hw hp z=>?_) hfar hsub
            subst hw
            exact hfar i p (Nat.le_of_not_lt (by simpa [refLt] using hlt)) hp z
      · exact (show False from c).elim
    | exn cc d S1 =>
      intro c ι' H' cv od x r1 rx
      simp only at c
      split at c
      · rename_i hc
        have h1:=Bool.and_eq_true_iff.mp hc
        have hle:S.length≤S1.length:=of_decide_eq_true h1.2
        have rc:=cut_store (n:=S.length) r1 h1.1
        have ex:=cutE (by rw [r1.len]; exact hle) x
        refine c _ H' cv od ex rc (rx_out rx (fun a o h=>not_xd rc a o h) fun a ha _=>?_)
        rcases List.mem_append.mp ha with z | z
        · exact List.mem_append_left _ z
        · exact List.mem_append_right _ (flat_take _ a z)
      · exact (show False from c).elim
def fApp (f:FF) (g:FA):FE:=fun ρ S=>(g ρ S).bind f
variable {X:Cx} {Wsh:WX} {e:Expr} {es:List Expr} {fa:FA} {pos p:Pos}
theorem r_call {gd:Bool} {k n:Nat} {f:Addr} {fd:FuncData} {ps:List Str} {ff:FF} {x:Str} (G:FnG gd X.prog X.w X.K X.mg X.base k f fd ps (spF F n ff)) (hgd:gd=true→X.A.guards=some []) (hn:ps.length=n) (hr:Room k X.A) (hg:Gl X x) (hm:X.mg x=some (.ref f)) (hk:PySem.W.keepIn X.K (.ref f)=true) (hb:Binds X.K fd ps []) (tk:Takes X Wsh)
    (ha:PA X (e :: es) (tRA F Wsh fa)) (hl:(e :: es).length=n) (hdb:(x == ("__debug__":Str))=false:=by decide) (he:starEach (e :: es) X.env=(false,eval e X.env) :: starEach es X.env:=by rfl) (hpl:(backTo pos (starEach es X.env)).any (·.1)=false:=by rfl)
    (hlen:∀ ρ S ws S',fa ρ S=.ok ws S'→ws.length=n) :
    PE X (.Call (.Name x p) (e :: es) [] pos) (tR F Wsh (fApp ff fa)):=by
  refine ⟨fun pins s σ H Q I h=>?_⟩
  obtain ⟨B,ι,ρ,S,rl,c⟩:=h
  refine wpAny_Call_Name_kw (ld_glob I hg hm ?_ hdb)
  refine PySem.W.callWith_K (h₀:=X.base) I.ok.mod.kin hk (thn (ha.run pos pins s σ H (fun vs H1=>spF F n ff vs H1 Q (WE Wsh σ)) I ?_) fun us s1 hh=>?_) he hpl
  · refine ⟨B,ι,ρ,S,rl,c.bind.mono fun ws S1 ι1 H1 ef x1 rl1 c1 vs rv=>⟨?_,B,ι1,S1,ws,rl1.toRelS,rv,?_⟩⟩
    · rw [← Paired.length rv]
      exact hlen ρ S ws S1 ef
    · revert c1
      cases ff ws S1 with
      | ok w S2=>exact fun c1 ι' H' v x r rv=>c1 ι' H' x ⟨r,pImp (fun _ _ q=>RL.ext x q) rl1.loc⟩ v rv
      | exn cc d S2=>exact fun c1 ι' H' cv od x r rx=>c1 ι' H' cv od x ⟨r,pImp (fun _ _ q=>RL.ext x q) rl1.loc⟩ rx
      | err=>exact fun c1=>c1
  · obtain ⟨vs,H1,I1,r1,hsp⟩:=hh
    refine ⟨I1.kIn,?_⟩
    have hlu:us.length=ps.length:=by rw [← r1.length]; exact G.len _ _ _ _ hsp
    have bnd:=hb s1 us I1.kIn (by simpa using hlu)
    rw [List.append_nil] at bnd
    refine wpAny_call (codeAny_mono (G.run X.A X.stack s1 H1 ⟨us,[]⟩ us vs Q (WE Wsh σ) hr hgd I1.env0 bnd r1 hsp) fun r s' hq=>?_)
    cases r with
    | error ex=>exact passAt tk σ pins H1 s1 ex s' I1 hq
    | ok fl =>
      cases fl with
      | ret u=>exact I1.after hq
      | next=>exact (show False from hq).elim
      | brk=>exact (show False from hq).elim
      | cont=>exact (show False from hq).elim
end
end Ev
namespace PySem
namespace EvX
open PySem.W PySem.Calls PyProof.Rows PySem.HandSPX
open Builtin Builtin.ObjectAttr
structure Base (bn nw ini:String) (tl:List Value):Prop where
  kx:KxsFacts bn ini
  eb:ExcBaseFacts bn nw ini tl
  ps:∀ self,refuseLoop self "__setattr__" tl=pure ()
  ob:tl.contains (.type "object")=true
  ne:tl ≠ []
theorem base_ValueError:Base "ValueError" "ValueError.__new__" "ValueError.__init__" [.type "ValueError",.type "Exception",.type "BaseException",.type "object"] :=
  ⟨kxs_ValueError,F.excBase_ValueError,fun self=>F.store_ValueError.passes self,by decide +kernel,by simp⟩
theorem kxs_Lookup:KxsFacts "LookupError" "LookupError.__init__":=⟨by show builtinType _=_; rw [builtinType_eq_fast]; kernel_rfl,by first | kernel_rfl | rfl⟩
theorem base_LookupError:Base "LookupError" "LookupError.__new__" "LookupError.__init__" [.type "LookupError",.type "Exception",.type "BaseException",.type "object"] :=
  ⟨kxs_Lookup,F.excBase_LookupError,fun self=>F.store_LookupError.passes self,by decide +kernel,by simp⟩
section
variable {prog:Program} {w:World} {A:Around} {R:Result→Shared→Prop} {hh:Heap} {gg:Array GenState} {dd:Drawn} {tt:Nat} {oo:OsState} {bn nw ini:String} {tl:List Value}
theorem osaB (Bs:Base bn nw ini tl) {K:W.Frag} {fn:Str} {tok:Tok} {val:Value} {e D:Addr} {fvs:Array Value} {dat:ClassData} (KX:K.In hh) (he:hh.get? e=some { cls:=.ref D,data:=.fields fvs }) (hdat:W.clsIn K D=some dat) (hm:excTail tl dat.mro=true) (hhas:dat.hasDict=true) (hno:W.findIn K (.ref D) fn=some none)
    (go:∀ h2 tk2 dx,(∀ b u,b ≠ e→hh.get? b=some u→h2.get? b=some u)→hh.objs.size≤dx→dx ≠ e→h2.get? e=some { cls:=.ref D,dict:=some dx,data:=.fields fvs }→h2.Ns1 dx (fun z=>if z=fn then some val else none)→R (.ok (.ret .none)) ⟨h2,gg,dd,tk2,oo⟩) :
    codeAny (model prog w) A (.call (.builtin "object.__setattr__") ⟨[.ref e,.str fn tok,val],[]⟩) R ⟨hh,gg,dd,tt,oo⟩:=by
  have ia:W.InstAt hh e { cls:=.ref D,data:=.fields fvs } D none:=⟨he,rfl,rfl,trivial⟩
  have sto:=F.store_object
  have nem:dat.mro.isEmpty=false:=by
    cases hl:dat.mro with
    | nil =>
      rw [hl] at hm
      exact absurd (beq_iff_eq.mp hm).symm Bs.ne
    | cons _ _=>rfl
  have hasO:dat.mro.contains (.type "object")=true:=(excTail_contains "object" _ hm).trans Bs.ob
  have apart:e ≠ hh.objs.size:=Nat.ne_of_lt (Heap.lt_size he)
  have isO:W.Looks (model prog w) hh (isInstance (.ref e) (.type "object")) true:=ia.type.andThen (W.looks_mroIn KX (by unfold W.mroIn; rw [hdat,Option.bind_some,if_neg (by rw [nem]; decide),hasO]))
  refine codeAny_call_builtin sto.slot.plain sto.entry (@W.check_slot (model prog w) _ _ ⟨hh,gg,dd,tt,oo⟩ "object.__setattr__" "object" "__setattr__" (.ref e) [.str fn tok,val] [] _ sto.kind sto.split isO (sto.args (.ref e) (.str fn tok) val) ?_)
  have lm:W.Looks (model prog w) hh (mroOf (.ref D)) dat.mro:=(W.looks_clsIn KX hdat).andThen .now
  have lt:W.Looks (model prog w) hh (storeTaker? none) none:=.now
  have lc:W.Looks (model prog w) hh (classData D) dat:=W.looks_clsIn KX hdat
  rw [W.osa_eq,refuse_eq]
  refine wpAny_bind (wpAny_bind (ia.type.at (wpAny_bind (lm.at ?_))))
  rw [excTail_pass _ (Bs.ps _) _ hm]
  refine wpAny_pure (wpAny_bind (ia.type.at (wpAny_bind ((W.looks_findIn KX hno).at (wpAny_bind (lt.at ?_))))))
  show wpAny _ _ (storeInOwnDict (.ref e) (.ref D) (.str fn tok) fn val false) _ _ _
  obtain ⟨c1,c2,c3,c4,c5,c6,c7,c8,c9,c10,c11⟩:=dat
  dsimp only at hhas
  subst hhas
  unfold storeInOwnDict ownDictForStores
  repeat (first | with_reducible refine store_in_new ?_ ?_ | with_reducible refine wpAny_loadPart_at he ?_ | with_reducible refine lc.at ?_ | wp_step)
  · exact ⟨_,#[],_,(Heap.get?_update_ne _ _ _ _ apart.symm).trans (Heap.get?_push_at rfl rfl),rfl,fun u hu=>absurd hu (by simp),fun _=>rfl⟩
  · intro h2 tk2 ns2 same
    have he1:(hh.push { cls:=.type "dict",data:=.dict #[] }).get? e=some { cls:=.ref D,data:=.fields fvs }:=Heap.get?_push_of_some _ he
    refine go h2 tk2 hh.objs.size (fun b u hb hu=>?_) (Nat.le_refl _) apart.symm ?_ ns2
    · exact (same.2 b (Nat.ne_of_lt (Heap.lt_size hu))).trans ((Heap.get?_update_ne _ _ _ _ hb).trans (Heap.get?_push_of_some _ hu))
    · exact (same.2 e apart).trans (Heap.get?_update_self _ he1 rfl)
end
def iA (fl:Str) (p1 p2:Pos):Arguments:={ posonlyargs:=[],args:=[{ arg:="self",annotation:=none,pos:=p1 },{ arg:=fl,annotation:=none,pos:=p2 }],vararg:=none,kwonlyargs:=[],kw_defaults:=[],kwarg:=none,defaults:=[] }
def iB (fl txt:Str) (j:Nat) (p0 p1 p2 p3 p4 p5 q1 q2 q3 q4:Pos):List Stmt :=
  [.Expr (.Call (.Attribute (.Call (.Name "super" p0) [] [] p1) "__init__" p2) [.Constant (.str txt) j p3] [] p4) p5,.Assign [.Attribute (.Name "self" q1) fl q2] (.Name fl q3) q4]
def iS (fl:Str):Scope:={ kind:=.function,names:=[(PySem.Str.ofString "self",.local),(fl,.local),(PySem.Str.ofString "__class__",.free),(PySem.Str.ofString "super",.globalImplicit)],isGenerator:=false,isCoroutine:=false,more:=[] }
structure ExTxt (P:Program) (K:Frag) (mg:Str→Option Value) (x fl:Str) (C fI cc:Addr):Prop where
  gC:mg x=some (.ref C)
  cls:∃ bn nw ini tl nm q N bs bm sn sub ab col dd k0 k1 k2 k3 k5,Base bn nw ini tl∧subIn K (.ref C) (.type bn)=some true∧K.lookup C=some (excClassObj nm q C N bs bm true sn sub ab col dd k0 k1 k2 k3 k5 nw)∧excTail tl bm=true∧alongIn K "__init__" bm=some (some (.builtin ini))
  sa:findIn K (.ref C) "__setattr__" = some (some (.builtin "object.__setattr__"))
  ga:findIn K (.ref C) "__getattribute__" = some (some (.builtin "BaseException.__getattribute__"))
  gg:findIn K (.ref C) "__getattr__" = some none
  noN:findIn K (.ref C) fl=some none
  iC:findIn K (.ref C) "__init__" = some (some (.ref fI))
  tC:typeIn K (.ref fI)=some (.type "function")
  kC:keepIn K (.ref C)=true
  exC:subIn K (.ref C) (.type "BaseException")=some true
  tyC:typeIn K (.ref C)=some (.type "type")
  hdC:hasDictIn K C=true
  te:exmOne K (.ref C) (.ref C)=some true
  ms:mroIn K C (.ref C)=some true
  tp:nsIn K cStatics "thirdparty.any" = some none
  su:mg "super" = none
  fn:∃ (oc:Value) (od:Option Addr) (qual:Str) (doc pm:Value) (an:Option Addr) (ct:Value) (osl:Array (Option Value)) (txt:Str) (j:Nat) (a1 a2 p0 p1 p2 p3 p4 p5 q1 q2 q3 q4:Pos) (cda:Addr),
    K.lookup fI=some ⟨oc,od,.func (ksFn "__init__" qual (iA fl a1 a2) (iB fl txt j p0 p1 p2 p3 p4 p5 q1 q2 q3 q4) (iS fl) .none .none doc pm an (.ref cda) ct cc),osl⟩∧codeIn K (.ref cda) qual=true ∧
    (∀ a b,bindArgs (ksFn "__init__" qual (iA fl a1 a2) (iB fl txt j p0 p1 p2 p3 p4 p5 q1 q2 q3 q4) (iS fl) .none .none doc pm an (.ref cda) ct cc) ⟨[a,b],[]⟩=pure [(("self":Str),a),(fl,b)]) ∧
    (∀ env:Env,∃ pl:Sem Bool,eval (.Call (.Attribute (.Call (.Name "super" p0) [] [] p1) "__init__" p2) [.Constant (.str txt) j p3] [] p4) env=(do
      let ov ← attributeBase (.Call (.Name "super" p0) [] [] p1) "__init__" env (eval (.Call (.Name "super" p0) [] [] p1) env)
      standAt p2.atName
      let (f,first) ← holding [ov] (getMethod ov "__init__" pl)
      callWith p4 f first (backTo p4 (starEach [.Constant (.str txt) j p3] env)) []))∧∃ (ccl:Value) (cdd:Option Addr) (vs:Array Value) (ccs:Array (Option Value)) (file:Str) (tf:Tok),K.lookup cda=some ⟨ccl,cdd,.fields vs,ccs⟩∧vs[2]? = some (.str file tf)∧((P.main.file:Str) == file)=true
  cell:∃ cl cld csl,K.lookup cc=some ⟨cl,cld,.cell (some (.ref C)),csl⟩
  top:(P.main.scope.names.lookup ("super":Str)).isSome=false
  n1:fl ≠ "self"
  n2:fl ≠ "__class__"
  n3:fl ≠ "super"
  nd:(fl == ("__debug__":Str))=false
theorem kept_but {K:Frag} {h h':Heap} {x:Addr} (X:K.In h) (hx:K.lookup x=none) (k:∀ b o,b ≠ x→h.get? b=some o→h'.get? b=some o):K.In h':=fun a o e =>
  k a o (fun z=>by rw [z,hx] at e; cases e) (X a o e)
structure InitEnd (h h':Heap) (x C dx:Addr) (fl:Str) (v:Value):Prop where
  keep:∀ b o,b ≠ x→h.get? b=some o→h'.get? b=some o
  obj:∃ t1,h'.get? x=some { cls:=.ref C,dict:=some dx,data:=.fields #[.ref t1,.none,.none,.none,.bool false,.none] }
  dbig:h.objs.size≤dx
  dne:dx ≠ x
  ns:h'.Ns1 dx (fun y=>if y=fl then some v else none)
section
variable {prog:Program} {w:World} {A:Around} {E:Value→Shared→Prop} {R:Result→Shared→Prop} {s:Shared} {K:Frag} {mg mb:Str→Option Value} {C fI cc:Addr} {xn fl:Str}
theorem ex_init (T:ExTxt prog K mg xn fl C fI cc) {x t0:Addr} {v:Value} (X:K.In s.heap) (hlim:s.heap.NoLimit) (hG:s.heap.Ns mainGlobals mg) (hB:s.heap.Ns builtinsNs mb) (hmb:∀ y:Str,y ≠ "__name__" → mb y=bootBuiltins y)
    (hx:s.heap.get? x=some (excO C t0)) (hnx:K.lookup x=none) (hroom:A.depth < recursionLimit)
    (hq:∀ h' tk dx,InitEnd s.heap h' x C dx fl v→R (.ok (.ret .none)) { s with heap:=h',toks:=tk }) :
    codeAny (model prog w) A (.call (.ref fI) ⟨[.ref x,v],[]⟩) R s:=by
  obtain ⟨hp₀,g₀,d₀,t₀,os₀⟩:=s
  obtain ⟨oc,od,qual,doc,pm,an,ct,osl,txt,j,a1,a2,p0,p1,p2,p3,p4,p5,q1,q2,q3,q4,cda,ho,hcd,hbd,hev,ccl,cdd,vs,ccs,file,tf,hcode,hvs,hfile⟩:=T.fn
  obtain ⟨bn,nw,ini,tl,nm,q,N,bs,bm,sn,sub,ab,col,dd,k0,k1,k2,k3,k5,Bs,hve,hC,hbm,hal⟩:=T.cls
  obtain ⟨cl,cld,csl,hcell⟩:=T.cell
  have hcl:clsIn K C=some { name:=nm,bases:=bs,mro:=.ref C :: bm,ns:=N,qualname:=q,hasDict:=true,slotNames:=sn,subclasses:=sub,abstract:=ab,collection:=col,hasDel:=false }:=by unfold clsIn; rw [hC] <;> rfl
  have e1:(iS fl).names.lookup ("self":Str)=some .local:=rfl
  have e2:(iS fl).names.lookup fl=some .local:=by
    show List.lookup fl ((PySem.Str.ofString "self",NameKind.local) :: (fl,NameKind.local) :: _)=_
    rw [List.lookup_cons,show (fl == PySem.Str.ofString "self")=false from beq_eq_false_iff_ne.mpr T.n1]
    simp [List.lookup]
  have skip:∀ (y:Str),y ≠ "self" → y ≠ fl→(iS fl).names.lookup y=List.lookup y [(PySem.Str.ofString "__class__",NameKind.free),(PySem.Str.ofString "super",NameKind.globalImplicit)]:=fun y h1 h2=>by
    show List.lookup y ((PySem.Str.ofString "self",NameKind.local) :: (fl,NameKind.local) :: _)=_
    rw [List.lookup_cons,show (y == PySem.Str.ofString "self")=false from beq_eq_false_iff_ne.mpr h1]
    dsimp only
    rw [List.lookup_cons,show (y == fl)=false from beq_eq_false_iff_ne.mpr h2]
  have e3:(iS fl).names.lookup ("__class__":Str)=some .free:=(skip _ (by decide +kernel) (Ne.symm T.n2)).trans (by decide +kernel)
  have e4:(iS fl).names.lookup ("super":Str)=some .globalImplicit:=(skip _ (by decide +kernel) (Ne.symm T.n3)).trans (by decide +kernel)
  have hbind:BindsTo ⟨hp₀,g₀,d₀,t₀,os₀⟩ (ksFn "__init__" qual (iA fl a1 a2) (iB fl txt j p0 p1 p2 p3 p4 p5 q1 q2 q3 q4) (iS fl) .none .none doc pm an (.ref cda) ct cc) ⟨[.ref x,v],[]⟩ [("self",.ref x),(fl,v)]:=BindsTo.of_eq (hbd _ _)
  refine ks_codeAny_call_defAt (binds:=[("self",.ref x),(fl,v)]) hroom (X _ _ ho) rfl hlim (codeRec_of X hcd) rfl hbind (fun y hy=>?_) (fun y hy=>?_) (fun h₁ hns k=>?_)
  · show y.2 ≠ .cell
    have hy':y∈(iS fl).names:=hy
    simp only [iS,List.mem_cons,List.not_mem_nil,or_false] at hy'
    rcases hy' with rfl | rfl | rfl | rfl <;> (intro z; cases z)
  · show (iS fl).names.lookup y.1=some .local
    simp only [List.mem_cons,List.not_mem_nil,or_false] at hy
    rcases hy with rfl | rfl
    · exact e1
    · exact e2
  · have X1:K.In h₁:=X.keeps k
    have hx1:=k _ _ hx
    have hxL:x < hp₀.objs.size:=Heap.lt_size hx
    have hv1:(fun y=>([("self",Value.ref x),(fl,v)]:List (Str×Value)).reverse.lookup y) ("self":Str)=some (.ref x):=by
      show List.lookup ("self":Str) [(fl,v),(("self":Str),Value.ref x)]=_
      rw [List.lookup_cons,show (("self":Str) == fl)=false from beq_eq_false_iff_ne.mpr (Ne.symm T.n1)]
      simp [List.lookup]
    have hv2:(fun y=>([("self",Value.ref x),(fl,v)]:List (Str×Value)).reverse.lookup y) fl=some v:=by
      show List.lookup fl [(fl,v),(("self":Str),Value.ref x)]=_
      simp [List.lookup]
    obtain ⟨pl,hpl⟩:=hev (callEnv (ksFn "__init__" qual (iA fl a1 a2) (iB fl txt j p0 p1 p2 p3 p4 p5 q1 q2 q3 q4) (iS fl) .none .none doc pm an (.ref cda) ct cc) hp₀.objs.size fI)
    refine ks_wpAt_execs_cons (ks_wpAt_Expr_any (ks_wpAt_MethodCall (he:=hpl) (ks_wpAt_super_base e4 e3 (by decide) rfl (X1 _ _ ho) rfl rfl rfl (X1 _ _ hcode) rfl hvs hfile T.top ?_)))
    refine ks_loadName_global rfl e4 (loadGlobal_builtin (hG.keeps k) T.su (hB.keeps k) ((hmb _ (by decide +kernel)).trans (by decide +kernel)) ⟨rfl,?_⟩)
    refine wpAny_loadName_free rfl e3 rfl ⟨_,X1 _ _ hcell,rfl⟩ ?_
    refine wpAny_loadName_local rfl e1 hns hv1 ?_
    refine ks_wpAny_isType_cls (X1 _ _ hC) rfl ⟨rfl,?_⟩
    refine ks_wpAny_call_super (X1 _ _ hC) rfl hx1 rfl (fun c z=>nomatch z) (looks_mroIn X1 T.ms) fun h₂ hso k2=>?_
    have X2:K.In h₂:=X1.keeps k2
    have hx2:=k2 _ _ hx1
    have hne:x ≠ C:=fun z=>by rw [z,hC] at hnx; cases hnx
    have I2:InstAt h₂ x (excO C t0) C none:=⟨hx2,rfl,rfl,trivial⟩
    have hI:Looks (model prog w) h₂ (isInstance (.ref x) (.type bn)) true:=I2.type.andThen (looks_subIn X2 hve)
    refine kxs_getMethod (K:=K) (l₀:=.ref C :: bm) (l:=bm) Bs.kx hso (looks_opaque X2 T.tp) (fun A Q E s k q=>wpAny_bind ((looks_clsIn X2 hcl) A _ E s k (wpAny_pure q))) (by simp [List.dropWhile]) X2 hal hI hne (by decide) ?_
    have k3:∀ b o,h₂.get? b=some o→(h₂.push (kxs_mw ini x)).get? b=some o:=fun b o e=>Heap.get?_push_of_some _ e
    have hu3:(h₂.push (kxs_mw ini x)).get? h₂.objs.size=some (kxs_mw ini x):=Heap.get?_push_at rfl rfl
    show wpAny _ _ (callWith p4 (.ref h₂.objs.size) [] (backTo p4 (starEach [.Constant (.str txt) j p3] _)) []) _ _ _
    refine kxs_callWith (i:=ini) (x:=x) rfl (evalArgs_plain ?_)
    refine Calls.spliced_cons (Calls.Constant_str (k:=j) (pos:=p3) (Calls.spliced_nil ⟨hu3,?_⟩))
    refine wpAny_call (codeAny_of_tree ?_)
    show wpAny _ _ (callAny (.ref h₂.objs.size) ⟨[.str txt _],[]⟩) _ _ _
    simp only [callAny]
    refine wpAny_bind (wpAny_load hu3 ?_)
    simp only [kxs_mw,show (Value.type "method-wrapper" == Value.type "method" || Value.type "method-wrapper" == Value.type "builtin_function_or_method" || Value.type "method-wrapper" == Value.type "method-wrapper")=true by decide,if_true]
    refine KFB.if_so (by decide) ?_
    refine wpAny_bind (check_bound_init Bs.eb.toExcCallFacts (k3 _ _ (X2 _ _ hC)) (k3 _ _ hx2) rfl ?_)
    refine wpAny_bind (wpAny_pure (wpAny_pure ?_))
    refine ⟨plainId_quiet Bs.eb.init.plain _,codeAny_builtin Bs.eb.initEntry ?_⟩
    refine exc_init_tree (cls:=.ref C) (t0:=t0) (dv:=none) (c2:=.none) (c3:=.none) (b4:=.bool false) (k3 _ _ hx2) (by show 1≤sizeLine; rw [sizeLine_eq]; omega) fun h₄ k4 hx4 _=>?_
    have k14:∀ b o,b ≠ x→h₁.get? b=some o→h₄.get? b=some o:=fun b o hb e=>k4 b o hb (k3 b o (k2 b o e))
    have hLx:hp₀.objs.size ≠ x:=Nat.ne_of_gt hxL
    have hns4:h₄.Ns hp₀.objs.size (fun y=>([("self",Value.ref x),(fl,v)]:List (Str×Value)).reverse.lookup y):=by
      obtain ⟨o,es,ep,e,r⟩:=hns
      exact ⟨o,es,ep,k14 _ _ hLx e,r⟩
    have X4:K.In h₄:=kept_but X1 hnx k14
    refine ks_wpAt_execs_cons (wpAt_of_wpAny (plainObj_wpAny_Assign_Attribute ?_))
    refine wpAny_Name (wpAny_loadName_local rfl e2 hns4 hv2 ?_) T.nd
    refine wpAny_Name (wpAny_loadName_local rfl e1 hns4 hv1 ?_) (by decide)
    refine set_plain X4 (ox:=excO C (h₂.push (kxs_mw ini x)).objs.size) (od:=none) ⟨hx4,rfl,rfl,trivial⟩ T.sa ?_
    refine osaB Bs X4 hx4 hcl (show excTail tl (.ref C :: bm)=true from hbm) rfl T.noN (fun h₅ tk₅ dx k5 dn dne hx5 hn5=>?_)
    refine wpAt_of_wpAny ?_
    show wpAny _ _ (execs [] _) _ _ _
    have hbig:hp₀.objs.size≤dx:=by
      have z:hp₀.objs.size < h₄.objs.size:=hns4.lt
      exact Nat.le_of_lt (Nat.lt_of_lt_of_le z dn)
    exact wpAny_execs_nil (hq h₅ tk₅ dx ⟨fun b o hb e=>k5 b o hb (k14 b o hb (k b o e)),⟨_,hx5⟩,hbig,dne,hn5⟩)
structure OwnMade (h h':Heap) (e C d:Addr) (fl:Str) (v:Value):Prop where
  keep:∀ b o,h.get? b=some o→h'.get? b=some o
  new:h.objs.size≤e
  obj:∃ oe vs,h'.get? e=some oe∧oe.cls=.ref C∧oe.dict=some d∧oe.data=.fields vs∧vs[1]? = some .none
  dbig:h.objs.size≤d
  dne:d ≠ e
  ns:h'.Ns1 d (fun y=>if y=fl then some v else none)
theorem ex_made (T:ExTxt prog K mg xn fl C fI cc) {v:Value} (X:K.In s.heap) (hlim:s.heap.NoLimit) (hG:s.heap.Ns mainGlobals mg) (hB:s.heap.Ns builtinsNs mb) (hmb:∀ y:Str,y ≠ "__name__" → mb y=bootBuiltins y) (hroom:A.depth + 1 < recursionLimit)
    (hq:∀ h' tk e d,OwnMade s.heap h' e C d fl v→R (.ok (.ret (.ref e))) { s with heap:=h',toks:=tk }) :
    codeAny (model prog w) A (.call (.ref C) ⟨[v],[]⟩) R s:=by
  obtain ⟨bn,nw,ini,tl,nm,q,N,bs,bm,sn,sub,ab,col,dd,k0,k1,k2,k3,k5,Bs,_,hC,hbm,_⟩:=T.cls
  obtain ⟨hp,g,dr,tk,os⟩:=s
  have k:∀ b o,hp.get? b=some o→((hp.push (kdv_tup [v])).push (excO C hp.objs.size)).get? b=some o:=fun b o e=>Heap.get?_push_of_some _ (Heap.get?_push_of_some _ e)
  have hget:((hp.push (kdv_tup [v])).push (excO C hp.objs.size)).get? (hp.objs.size + 1)=some (excO C hp.objs.size):=by heap_get
  have hnx:K.lookup (hp.objs.size + 1)=none:=by
    cases e:K.lookup (hp.objs.size + 1) with
    | none=>rfl
    | some o =>
      have z:hp.get? (hp.objs.size + 1)=some o:=X _ _ e
      exact absurd (Nat.lt_of_succ_lt (Heap.lt_size z)) (Nat.lt_irrefl _)
  refine call_own Bs.eb (fun X=>excTail_contains X bm hbm) (X _ _ hC) (looks_findIn X T.iC) (fun self=>bind_fn X self T.tC) (by show 1≤sizeLine; rw [sizeLine_eq]; omega) ?_
  refine ex_init (s:=⟨(hp.push (kdv_tup [v])).push (excO C hp.objs.size),g,dr,tk,os⟩) T (X.keeps k) (hlim.keeps k) (hG.keeps k) (hB.keeps k) hmb hget hnx ?_ fun h' tk' dx ⟨k',hx,dn,dne,hns⟩=>?_
  · show A.depth + 1 < recursionLimit
    exact hroom
  · obtain ⟨t1,hx⟩:=hx
    have old:∀ b o,hp.get? b=some o→h'.get? b=some o:=fun b o e=>k' b o (Nat.ne_of_lt (Nat.lt_succ_of_lt (Heap.lt_size e))) (k b o e)
    have z:hp.objs.size + 1 + 1≤dx:=by
      first
        | (simpa only [Heap.size_push] using dn)
        | exact dn
        | (have q:=dn; rw [Heap.size_push,Heap.size_push] at q; exact q)
    exact ⟨rfl,hq h' tk' (hp.objs.size + 1) dx ⟨old,Nat.le_succ _,⟨_,_,hx,rfl,rfl,rfl,rfl⟩,Nat.le_trans (Nat.le_trans (Nat.le_succ _) (Nat.le_succ _)) z,dne,hns⟩⟩
end
end EvX
end PySem
namespace Ev
open PySem PySem.Spec L2
open PySem.EvX (ExTxt)
section
variable {X:Cx} {F:Fx} {Wsh:WX} {xn fl:Str} {C fI cc:Addr}
theorem relO_one {v:V} {v':Value} {fl:Str} (r:RelV v v') (f:Str):RelO (List.lookup f [(fl,v)]) (if f=fl then some v' else none):=by
  by_cases hw:f=fl
  · subst hw
    rw [if_pos rfl]
    have q:List.lookup f [(f,v)]=some v:=by simp [List.lookup]
    rw [q]
    exact r
  · rw [if_neg hw]
    have qw:(f == fl)=false:=by simpa using hw
    have q2:List.lookup f [(fl,v)]=none:=by simp [List.lookup,qw]
    rw [q2]
    trivial
def tMkE (C:Addr) (fl:Str) (ta:TA):L2.St→Hp→XK→Prop:=fun σ H Q=>ta σ H fun vs H1=>∃ v,vs=[v]∧∀ d,H1 d=none→Q (.ref C) (some d) (upd H1 d (.xd [(fl,v)]))
theorem pmk_ex {a:Expr} {ta:TA} {p pos:Pos} {k:Nat} (T:ExTxt X.prog X.K X.mg xn fl C fI cc) (hr:Room k X.A) (ha:PA X [a] ta) (hg:Gl X xn) (hdb:(xn == ("__debug__":Str))=false:=by decide)
    (he:starEach (a :: []) X.env=(false,eval a X.env) :: starEach [] X.env:=by rfl) (hpl:(backTo pos (starEach [] X.env)).any (·.1)=false:=by rfl) :
    PMk X (.Call (.Name xn p) [a] [] pos) (tMkE C fl ta):=by
  intro pins s σ H Q I h
  refine wpAny_Call_Name_kw (ld_glob I hg T.gC ?_ hdb)
  refine PySem.W.callWith_K (h₀:=X.base) I.ok.mod.kin T.kC (thn (ha.run pos pins s σ H _ I h) fun us s1 hh=>?_) he hpl
  obtain ⟨vs,H1,I1,r1,v,ev,q1⟩:=hh
  subst ev
  refine ⟨I1.kIn,?_⟩
  cases r1 with
  | cons rv rn =>
    rename_i v' us'
    cases rn
    show wpAny _ _ (call (.ref C) [v']) _ _ _
    have hlim:=I1.nolimit
    obtain ⟨mb,hb1,hb2⟩:=I1.mod.blt
    have hglob:s1.heap.Ns mainGlobals X.mg:=I1.mod.glob.keeps I1.bk
    have hblt:s1.heap.Ns builtinsNs mb:=hb1.keeps I1.bk
    obtain ⟨hp,g,dr,tk,os⟩:=s1
    refine wpAny_call (PySem.EvX.ex_made T I1.kIn hlim hglob hblt hb2 (by have:=hr.dp; omega) fun h' tk' e d M=>?_)
    show MkP X pins σ Q (.ref e) ⟨h',g,dr,tk',os⟩
    obtain ⟨oe,fv,hoe,hc,hd,hdat,h1⟩:=M.obj
    have hns:=M.ns
    obtain ⟨G',g1,g2⟩:=restrict h' fun b=>decide (b ≠ e)
    have gk:∀ b,b ≠ e→G'.get? b=h'.get? b:=fun b hb=>g1 b (decide_eq_true hb)
    have ge:G'.get? e=none:=g2 e (by simp)
    have old:∀ b o,hp.get? b=some o→G'.get? b=some o:=fun b o q=>(gk b (Nat.ne_of_lt (Nat.lt_of_lt_of_le (Heap.lt_size q) M.new))).trans (M.keep b o q)
    have ob:ObjOk X.prog X.w (upd H1 d (.xd [(fl,v)])) G' d (.xd [(fl,v)]):=⟨_,hns.at (fun o q=>(gk d M.dne).trans q),fun f=>relO_one rv f⟩
    have J:Inv X pins σ (upd H1 d (.xd [(fl,v)])) ⟨G',g,dr,tk',os⟩:=I1.laid (t':=tk') old M.dbig ob
    refine ⟨e,oe,fv,⟨G',g,dr,tk',os⟩,_,.ref C,some d,rfl,J,fun b o q=>?_,ge,hoe,⟨hc,hd⟩,hdat,h1,?_,rfl,I1.bare,raises_own T.exC T.tyC,q1 d (I1.hok.fresh M.dbig)⟩
    · by_cases hb:b=e
      · have q':G'.get? b=some o:=q
        rw [hb,ge] at q'; cases q'
      · exact (gk b hb).symm.trans q
    · rw [upd_ne (Ne.symm M.dne)]
      exact I1.hok.fresh M.new
def sRaise (c:Nat) (f:FE):FS:=fun ρ S=>(f ρ S).st ρ fun w S1=>match w with
  | .d x=>.exn c x ρ S1
  | _=>.err
theorem r_raise {a:Expr} {f:FE} {c:Nat} {p pos pos2:Pos} {k:Nat} (T:ExTxt X.prog X.K X.mg xn (F.fld c) (F.cls c) fI cc) (hc:X.calm=true) (hr:Room k X.A) (tk:Takes X Wsh) (ha:PE X a (tR F Wsh f)) (hg:Gl X xn) (hdb:(xn == ("__debug__":Str))=false:=by decide)
    (he:starEach (a :: []) X.env=(false,eval a X.env) :: starEach [] X.env:=by rfl) (hpl:(backTo pos (starEach [] X.env)).any (·.1)=false:=by rfl) :
    PS X (.Raise (some (.Call (.Name xn p) [a] [] pos)) none pos2) (tS F Wsh (sRaise c f)) :=
  psImp (ps_raise hc tk (pmk_ex T hr (r_cons ha r_nil he) hg hdb he hpl)) fun D σ H ⟨B,ι,ρ,S,rl,c0⟩=>by
    refine ⟨B,ι,ρ,S,rl,?_⟩
    have c1:=SCont.bind (σ:=σ) c0
    have e:fCons f fNil ρ S=(f ρ S).bind fun x S1=>.ok [x] S1:=rfl
    rw [e]
    revert c1
    cases f ρ S with
    | err=>exact fun c1=>c1
    | exn _ _ _=>exact fun c1=>c1
    | ok w S1 =>
      intro c1 ι1 H1 x1 rl1 vs rv
      obtain ⟨v,rfl,rw⟩:=one_arg rv
      have c2:=c1 ι1 H1 x1 rl1
      cases w with
      | ref _=>exact (show False from c2).elim
      | exc _ _=>exact (show False from c2).elim
      | fn=>exact (show False from c2).elim
      | d x =>
        refine ⟨v,rfl,fun d hd=>?_⟩
        have c3:SCont F Wsh B ι1 H1 D (.exn c x ρ S1):=c2
        refine c3 ι1 _ σ _ _ (Ext.new hd) (rl1.new hd) ⟨rfl,d,v,rfl,upd_same,fun z=>rl1.fresh hd (List.mem_append_right _ z),Rep.ext (Ext.new hd) rw⟩
def fXf (i c:Nat):FE:=fun ρ S=>match ρ[i]? with
  | some (some (.exc c' x))=>if c'=c then .ok (.d x) S else .err
  | _=>.err
theorem r_xfield {i c:Nat} {a dd:Addr} {oe:Obj} {pn:List (Addr×Obj)} {e:Expr} {pos:Pos} (T:ExTxt X.prog X.K X.mg xn (F.fld c) (F.cls c) fI cc) (hx:F.xa=some (a,dd)) (hz:Zc (.ref (F.cls c)) (some dd) oe) (hf:∃ vs,oe.data=.fields vs) (he:PE (X.suite a ((a,oe) :: pn)) e (tVar i))
    (hb:attributeBase e (F.fld c) X.env (eval e X.env)=eval e X.env:=by rfl):PE (X.suite a ((a,oe) :: pn)) (.Attribute e (F.fld c) pos) (tR F Wsh (fXf i c)):=by
  refine ⟨fun pins s σ H Q I h=>?_⟩
  obtain ⟨B,ι,ρ,S,rl,cn⟩:=h
  unfold fXf at cn
  split at cn
  · rename_i c' x hρ
    split at cn
    · rename_i hcc
      subst hcc
      obtain ⟨v,hv,hr⟩:=pAt rl.loc hρ
      cases v with
      | none=>exact hr.elim
      | some v =>
        obtain ⟨a',dd',u,e1,rfl,h3,h4,h5⟩:=hr
        have q:=cn.here rl u h5
        refine attr_of hb (thn (he.run pins s σ H (fun y H1=>y=V.ref a'∧H1=H) I ⟨_,hv,rfl,rfl⟩) fun uu s1 hh=>?_)
        obtain ⟨y,H1,I1,ry,ey,eH⟩:=hh
        subst ey
        subst eH
        obtain rfl:uu=Value.ref a':=ry
        obtain ⟨oe',vs,ha,hz',hd⟩:∃ oe' vs,s1.heap.get? a'=some oe'∧Zc (.ref (F.cls c')) (some dd') oe'∧oe'.data=.fields vs:=by
          rcases e1 with e1 | ⟨e1,_⟩
          · rw [hx] at e1
            cases e1
            obtain ⟨ha,_⟩:=I1.pin (a,oe) (List.mem_append_left _ List.mem_cons_self)
            obtain ⟨vs,hd⟩:=hf
            exact ⟨oe,vs,ha,hz,hd⟩
          · obtain ⟨⟨o,vs,g1,g2,g3⟩,_⟩:=I1.hok a' _ e1
            exact ⟨o,vs,g1,g2,g3⟩
        have hxd:ObjOk X.prog X.w H1 s1.heap dd' (.xd [(F.fld c',u)]):=I1.hok dd' _ h3
        obtain ⟨mA,hns,hrel⟩:=hxd
        obtain ⟨od,ho,hl⟩:=lookIn_ns hns
        have l:List.lookup (F.fld c') [(F.fld c',u)]=some u:=by simp [List.lookup]
        obtain ⟨z,hz1,rz⟩:=RelO.some_of (v:=u) (o:=mA (F.fld c')) (by rw [← l]; exact hrel _)
        have J:PySem.W.InstAt s1.heap a' oe' (F.cls c') (some od):=⟨ha,hz'.1,by unfold PySem.W.notCls; rw [hd] <;> rfl,by rw [hz'.2]; exact ho⟩
        exact HandSPX.exc_get I1.kIn J T.ga T.gg T.exC (PySem.W.findObj_own T.hdC T.noN rfl (by rw [hl,hz1])) (handed_of rz) ⟨u,H1,I1.tok _,rz,q⟩
    · exact (show False from cn).elim
  · exact (show False from cn).elim
def noE:W→Bool
  | .exc _ _=>false
  | _=>true
def noEO:O→Bool
  | .lst ws=>ws.all noE
  | .tup ws=>ws.all noE
  | .kd kvs=>kvs.all fun p=>noE p.2
  | .dct kvs=>kvs.all fun p=>noE p.2
  | .drw _ _ _=>true
  | .ins _ fs=>fs.all fun p=>noE p.2
def clearE (ρ:Loc):Loc:=ρ.map fun w=>match w with
  | some (.exc _ _)=>none
  | w=>w
def behindS (i:Nat) (r:RS):RS:=match r with
  | .nx ρ S=>if S.all noEO then .nx (clearE (ρ.set i none)) S else .err
  | .bk ρ S=>if S.all noEO then .bk (clearE (ρ.set i none)) S else .err
  | .ct ρ S=>if S.all noEO then .ct (clearE (ρ.set i none)) S else .err
  | .rt w S=>if S.all noEO && noE w then .rt w S else .err
  | _=>.err
def withX (F:Fx) (a dd:Addr):Fx:={ F with xa:=some (a,dd) }
variable {H:Hp} {B:List Addr} {ι:Ads}
theorem RW.inX (h0:F.xa=none) {a dd:Addr}:∀ {w:W} {v:V},RW F H B ι w v→RW (withX F a dd) H B ι w v
  | .d _,_,h=>h
  | .ref _,_,h=>h
  | .exc _ _,_,⟨a',d',u,e,r⟩=>⟨a',d',u,e.elim (fun z=>by rw [h0] at z; cases z) .inr,r⟩
  | .fn,_,h=>h
theorem RW.outX {a dd:Addr}:∀ {w:W} {v:V},noE w=true→RW (withX F a dd) H B ι w v→RW F H B ι w v
  | .d _,_,_,h=>h
  | .ref _,_,_,h=>h
  | .exc _ _,_,n,_=>by simp [noE] at n
  | .fn,_,_,h=>h
theorem RO.inX (h0:F.xa=none) {a dd:Addr} {o:O} {p:Addr×List Addr} (h:RO F H B ι o p):RO (withX F a dd) H B ι o p:=by
  cases o with
  | lst ws=>obtain ⟨z,vs,e,r⟩:=h; exact ⟨z,vs,e,pImp (fun _ _ q=>RW.inX h0 q) r⟩
  | tup ws=>obtain ⟨z,vs,e,r⟩:=h; exact ⟨z,vs,e,pImp (fun _ _ q=>RW.inX h0 q) r⟩
  | kd ws=>obtain ⟨z,o,vs,e,r⟩:=h; exact ⟨z,o,vs,e,pImp (fun _ _ q=>⟨q.1,q.2.1,q.2.2.1,q.2.2.2.elim fun v t=>⟨v,t.1,RW.inX h0 t.2⟩⟩) r⟩
  | dct ws=>obtain ⟨z,vs,e,r⟩:=h; exact ⟨z,vs,e,pImp (fun _ _ q=>⟨q.1,RW.inX h0 q.2⟩) r⟩
  | ins c fs=>obtain ⟨z,dx,vs,e,r⟩:=h; exact ⟨z,dx,vs,e,pImp (fun _ _ q=>⟨q.1,RW.inX h0 q.2⟩) r⟩
  | drw _ _ _=>exact h
theorem RO.outX {a dd:Addr} {o:O} {p:Addr×List Addr} (n:noEO o=true) (h:RO (withX F a dd) H B ι o p):RO F H B ι o p:=by
  cases o with
  | lst ws=>obtain ⟨z,vs,e,r⟩:=h; exact ⟨z,vs,e,paired_all (List.all_eq_true.mp (by simpa [noEO] using n)) (fun _ _ a b=>RW.outX a b) r⟩
  | tup ws=>obtain ⟨z,vs,e,r⟩:=h; exact ⟨z,vs,e,paired_all (List.all_eq_true.mp (by simpa [noEO] using n)) (fun _ _ a b=>RW.outX a b) r⟩
  | dct ws=>obtain ⟨z,vs,e,r⟩:=h; exact ⟨z,vs,e,paired_all (P:=fun p:Key×W=>noE p.2=true) (List.all_eq_true.mp (by simpa [noEO] using n)) (fun _ _ a b=>⟨b.1,RW.outX a b.2⟩) r⟩
  | ins c fs=>obtain ⟨z,dx,vs,e,r⟩:=h; exact ⟨z,dx,vs,e,paired_all (P:=fun p:Str×W=>noE p.2=true) (List.all_eq_true.mp (by simpa [noEO] using n)) (fun _ _ a b=>⟨b.1,RW.outX a b.2⟩) r⟩
  | kd ws=>obtain ⟨z,o,vs,e,r⟩:=h; exact ⟨z,o,vs,e,paired_all (P:=fun p:D×W=>noE p.2=true) (List.all_eq_true.mp (by simpa [noEO] using n)) (fun _ _ a q=>⟨q.1,q.2.1,q.2.2.1,q.2.2.2.elim fun v t=>⟨v,t.1,RW.outX a t.2⟩⟩) r⟩
  | drw _ _ _=>exact h
theorem RelS.inX (h0:F.xa=none) {a dd:Addr} {S:Sto} (r:RelS F H B ι S):RelS (withX F a dd) H B ι S:=⟨r.nd,r.len,fun i p o h1 h2=>(r.obj i p o h1 h2).inX h0,r.tab,r.bs,r.dis⟩
theorem RelS.outX {a dd:Addr} {S:Sto} (n:S.all noEO=true) (r:RelS (withX F a dd) H B ι S):RelS F H B ι S :=
  ⟨r.nd,r.len,fun i p o h1 h2=>(r.obj i p o h1 h2).outX (List.all_eq_true.mp n o (List.mem_iff_getElem?.mpr ⟨i,h2⟩)),r.tab,r.bs,r.dis⟩
theorem locs_in (h0:F.xa=none) {a dd:Addr} {ρ:Loc} {σ:L2.St} (r:Paired (RL F H B ι) ρ σ):Paired (RL (withX F a dd) H B ι) ρ σ:=pImp (fun w v q=>by
  cases w with
  | none=>trivial
  | some w=>cases v with
    | none=>exact q
    | some v=>exact RW.inX h0 q) r
theorem locs_out {a dd:Addr}:∀ {ρ:Loc} {σ:L2.St},Paired (RL (withX F a dd) H B ι) ρ σ→Paired (RL F H B ι) (clearE ρ) σ
  | _,_,.nil=>.nil
  | some w :: _,v :: _,.cons q t=>by
    refine .cons ?_ (locs_out t)
    cases w with
    | exc _ _=>trivial
    | fn=>cases v with
      | none=>exact q
      | some v=>exact q
    | d x=>cases v with
      | none=>exact q
      | some v=>exact q
    | ref i=>cases v with
      | none=>exact q
      | some v=>exact q
  | none :: _,_ :: _,.cons q t=>.cons trivial (locs_out t)
end
end Ev
namespace Ev
open PySem PySem.Spec L2
mutual
def toPyR:D→PyData
  | .non=>.none | .bl b=>.bool b | .int i=>.int i | .str x=>.str x
  | .tup xs=>.tuple (toPyRs xs) | .lst xs=>.list (toPyRs xs)
  | .dct _=>.dict [] | .ins _ _=>.none | .scr _=>.none | .ftp _=>.none | .cls _=>.none | .kdc _=>.none | .exi _ _ _=>.none | .dkf _=>.none
def toPyRs:List D→List PyData
  | []=>[]
  | x :: xs=>toPyR x :: toPyRs xs
end
mutual
def showD:D→Bool
  | .non=>true | .bl _=>true | .int _=>true | .str _=>true
  | .tup xs=>showDs xs | .lst xs=>showDs xs
  | .dct kvs=>kvs.isEmpty | .ins _ _=>false | .scr _=>false | .ftp _=>false | .cls _=>false | .kdc _=>false | .exi _ _ _=>false | .dkf _=>false
def showDs:List D→Bool
  | []=>true
  | x :: xs=>showD x && showDs xs
end
def showOk (d:D):Bool:=showD d && (toPyR d).showable && decide ((toPyR d).depth≤64) && decide ((toPyR d).shown.length≤sizeLine)
def reprD (d:D):Str:=(toPyR d).shown
section
variable {X:Cx} {pins:List (Addr×Obj)} {σ:L2.St} {H:Hp} {s:Shared} {F:Fx} {ex:List Addr}
theorem tracked_ne (I:L2.Inv X pins σ H s) (hsys:∃ o,X.base.get? sysModules=some o) {a:Addr} {u:HO} (e:H a=some u):a ≠ sysModules:=fun z=>by
  obtain ⟨o,ho⟩:=hsys
  have:=(I.bs _ o ho).2
  rw [z,this] at e
  cases e
mutual
theorem rep_reads (I:L2.Inv X pins σ H s) (hK:X.K=F.K) (hsys:∃ o,X.base.get? sysModules=some o):∀ {d:D} {v:V} {u:Value},showD d=true→Rep F.K F.cls H ex d v→RelV v u→∃ as,Reads s.heap u (toPyR d) as∧sysModules ∉ as
  | _,_,_,_,.non,r=>by cases r; exact ⟨_,.none,by simp⟩
  | _,_,_,_,.bl b,r=>by cases r; exact ⟨_,.bool b,by simp⟩
  | _,_,_,_,.int i,r=>by obtain ⟨t,rfl⟩:=r; exact ⟨_,.int i t,by simp⟩
  | _,_,_,_,.str i,r=>by obtain ⟨t,rfl⟩:=r; exact ⟨_,.str i t,by simp⟩
  | .tup ds,_,_,f,.tup n h rr,r=>by
    cases r
    obtain ⟨its,rv,⟨o,ho,hc,m,hd⟩,_⟩:=I.tuple (SqT.of h)
    obtain ⟨as,hr,hn⟩:=reps_reads I hK hsys (by simpa [showD] using f) rr rv
    exact ⟨_,.tuple ho hc hd hr,hn⟩
  | .tup ds,_,_,f,.tupK h1 h2 h3 h4 h5 rr,r=>by
    cases r
    obtain ⟨its,rv,⟨o,ho,hc,m,hd⟩,_⟩:=I.tuple (xs:=_) (by rw [hK]; exact .inr ⟨_,_,_,h1,h2,h3,h4,h5⟩)
    obtain ⟨as,hr,hn⟩:=reps_reads I hK hsys (by simpa [showD] using f) rr rv
    exact ⟨_,.tuple ho hc hd hr,hn⟩
  | .tup ds,_,_,f,.tupF n h rr,r=>by
    cases r
    obtain ⟨its,rv,⟨o,ho,hc,m,hd⟩,_⟩:=I.tuple (.inl (.inr ⟨_,h⟩))
    obtain ⟨as,hr,hn⟩:=reps_reads I hK hsys (by simpa [showD] using f) rr rv
    exact ⟨_,.tuple ho hc hd hr,hn⟩
  | .lst ds,_,_,f,.lst n h rr,r=>by
    cases r
    obtain ⟨its,rv,⟨o,m,ho,hc,_,hd⟩,_⟩:=I.list (SqL.of h)
    obtain ⟨as,hr,hn⟩:=reps_reads I hK hsys (by simpa [showD] using f) rr rv
    refine ⟨_,.list ho hc hd hr,fun z=>?_⟩
    rcases List.mem_cons.mp z with q | q
    · exact tracked_ne I hsys h q.symm
    · exact hn q
  | .dct kvs,_,_,f,.dK n h rr,r=>by
    cases r
    have hk:kvs=[]:=by simpa [showD] using f
    subst hk
    cases rr
    obtain ⟨_,_,vs,kv,o,es,ep,e1,e2,e3,e4⟩:=dk_of I.hok h
    cases kv
    have es0:es.toList=[]:=by
      have z:=e4.2.1
      cases q:es.toList with
      | nil=>rfl
      | cons a l=>rw [q] at z; cases z
    refine ⟨_,.dict (kvs:=[]) e1 e2.1 e3 (by rw [es0]; exact .nil) (by rw [es0]; exact .nil),fun z=>?_⟩
    simp at z
    exact tracked_ne I hsys h z.symm
  | _,_,_,f,.ins _ _ _,_=>by simp [showD] at f
  | _,_,_,f,.scr _ _ _,_=>by simp [showD] at f
  | _,_,_,f,.scrK _ _ _ _ _ _,_=>by simp [showD] at f
  | _,_,_,f,.ftp _ _ _ _,_=>by simp [showD] at f
  | _,_,_,f,.cls _,_=>by simp [showD] at f
  | _,_,_,f,.kdc _ _ _,_=>by simp [showD] at f
  | _,_,_,f,.exi _ _ _ _ _,_=>by simp [showD] at f
  | _,_,_,f,.dkf _ _ _,_=>by simp [showD] at f
theorem reps_reads (I:L2.Inv X pins σ H s) (hK:X.K=F.K) (hsys:∃ o,X.base.get? sysModules=some o):∀ {ds:List D} {vs:List V} {us:List Value},showDs ds=true→Reps F.K F.cls H ex ds vs→Vals vs us→∃ as,ReadsAll s.heap us (toPyRs ds) as∧sysModules ∉ as
  | _,_,_,_,.nil,r=>by cases r; exact ⟨_,.nil,by simp⟩
  | _,_,_,f,.cons h t,r=>by
    cases r with
    | cons r1 r2 =>
      have f':=Bool.and_eq_true_iff.mp (by simpa [showDs] using f)
      obtain ⟨as,q1,n1⟩:=rep_reads I hK hsys f'.1 h r1
      obtain ⟨bs,q2,n2⟩:=reps_reads I hK hsys f'.2 t r2
      exact ⟨_,.cons q1 q2,fun z=>(List.mem_append.mp z).elim n1 n2⟩
end
end
section
variable {X:Cx} {F:Fx} {Wsh:WX}
def rReprEv (F:Fx):RN:=fun xs H Q=>∃ x d ex,xs=[x]∧Rep F.K F.cls H ex d x∧showOk d=true∧Q (.str (reprD d)) H
theorem cr_repr (hK:X.K=F.K) (hg:X.A.guards=some []) (hu:X.A.units + 66 < cLine) (hsys:∃ o,X.base.get? sysModules=some o):CallR X (.builtin "repr") (rReprEv F):=by
  intro pins s σ H xs us Q I r h
  obtain ⟨x,d,ex,rfl,rp,ok,q⟩:=h
  cases r with
  | cons rx rn =>
    rename_i u us'
    cases rn
    simp only [showOk,Bool.and_eq_true,decide_eq_true_eq] at ok
    obtain ⟨⟨⟨o1,o2⟩,o3⟩,o4⟩:=ok
    obtain ⟨as,rd,hn⟩:=rep_reads I hK hsys o1 rp rx
    have fin:∀ h' (k:∀ b o,s.heap.get? b=some o→h'.get? b=some o) uu tk,EP X pins σ Q (.str (reprD d) uu) { s with heap:=h',toks:=tk }:=fun h' k uu tk=>⟨.str _,H,I.kept (t':=tk) k,⟨_,rfl⟩,q⟩
    unfold reprD at fin
    revert fin
    generalize toPyR d=py at rd o2 o3 o4
    cases rd with
    | none=>exact fun fin=>PySem.P.repr_of_none (fin s.heap (fun _ _ e=>e) _ _)
    | bool b=>exact fun fin=>PySem.P.repr_of_bool (fin s.heap (fun _ _ e=>e) _ _)
    | int i t=>exact fun fin=>PySem.P.repr_of_int (by simpa [PyData.showable] using o2) (fin s.heap (fun _ _ e=>e) _ _)
    | str y t=>exact fun fin=>PySem.P.repr_of_str (fin s.heap (fun _ _ e=>e) _ _) o4
    | list a1 a2 a3 a4=>exact fun fin=>repr_of_reads' (.list a1 a2 a3 a4) o2 (fun _=>hn) hg (by omega) (fun _ _ e=>e) (fun h' uu tk k=>fin h' k uu tk) o4
    | tuple a1 a2 a3 a4=>exact fun fin=>repr_of_reads' (.tuple a1 a2 a3 a4) o2 (fun _=>hn) hg (by omega) (fun _ _ e=>e) (fun h' uu tk k=>fin h' k uu tk) o4
    | dict a1 a2 a3 a4 a5=>exact fun fin=>repr_of_reads' (.dict a1 a2 a3 a4 a5) o2 (fun _=>hn) hg (by omega) (fun _ _ e=>e) (fun h' uu tk k=>fin h' k uu tk) o4
def opRepr:OpN:=fun ws S=>match ws with
  | [.d d]=>if showOk d then .ok (.d (.str (reprD d))) S else .err
  | _=>.err
theorem ok_repr:OpNOk F opRepr (rReprEv F):=by
  intro Wsh B ι ρ S σ H ws vs Q rl rw c
  unfold opRepr at c
  split at c
  · rename_i d
    obtain ⟨v,rfl,rv⟩:=one_arg rw
    split at c
    · rename_i hk
      exact ⟨v,d,_,rfl,rv,hk,c.here rl _ (.str _)⟩
    · exact c.elim
  · exact c.elim
end
end Ev
namespace PySem
namespace EvE
open PySem.Calls PyProof.Rows
theorem meets_enum1 {v:Value} {o:Obj} {H:Heap→Prop} (B:Begins v o H) :
    Meets (Builtin.«enumerate.__new__» ⟨[.type "enumerate",v],[]⟩) (fun _ R s=>H s.heap ∧
      R (.ok (.ret (.ref (s.heap.push o).objs.size))) { s with heap:=(s.heap.push o).push { cls:=.type "enumerate",data:=.fields #[.none,.bool false,.ref s.heap.objs.size,rawInt 0,.none,.none] } }) :=
  .of_wp fun prog w A R s h=>by
    obtain ⟨hp,g,d,tk,os⟩:=s
    obtain ⟨h1,h⟩:=h
    have hsub:=sub_enumerate
    have q1:∀ {A':Around} {E:Value→Shared→Prop} {Q:Value→Shared→Prop},Q (.ref hp.objs.size) ⟨hp.push o,g,d,tk,os⟩→wpAny (model prog w) A' (pyIter v) Q E ⟨hp,g,d,tk,os⟩ :=
      fun q=>B.iter prog w _ _ ⟨hp,g,d,tk,os⟩ _ h1 q
    wp_walk using q1
    all_goals first
      | exact ⟨_,rfl,h⟩
      | (refine wpAny_stack_any fun st=>wpAny_pure ?_
         split
         · rename_i c _ _ _ _ _
           cases (c == Value.type "enumerate")
           · wp_walk using q1
             exact ⟨_,rfl,h⟩
           · wp_walk using q1
             exact ⟨_,rfl,h⟩
         · wp_walk using q1
           exact ⟨_,rfl,h⟩)
section
variable {prog:Program} {w:World} {A:Around} {E:Value→Shared→Prop} {s:Shared}
theorem call_enum1 {v:Value} {o:Obj} {H:Heap→Prop} {Q:Value→Shared→Prop} (B:Begins v o H) (h1:H s.heap)
    (h:∀ h',IsEnum h' (s.heap.objs.size + 1) s.heap.objs.size 0 .none→h'.get? s.heap.objs.size=some o→h'.objs.size=s.heap.objs.size + 2 →
      (∀ b o,s.heap.get? b=some o→h'.get? b=some o)→Q (.ref (s.heap.objs.size + 1)) { s with heap:=h' }) :
    wpAny (model prog w) A (call (.type "enumerate") [v]) Q E s:=by
  refine callType_new F.called_enumerate (by decide) (F.typeCall_enumerate_1 _) (F.newCall_enumerate_1 _) (fun obj=>F.args_object_init_2 obj _) F.entry_enumerate_new (meets_enum1 B) ⟨h1,?_⟩
  have hz:(s.heap.push o).objs.size=s.heap.objs.size + 1:=Heap.size_push ..
  show _∧_
  rw [hz]
  have he:IsEnum ((s.heap.push o).push { cls:=.type "enumerate",data:=.fields #[.none,.bool false,.ref s.heap.objs.size,rawInt 0,.none,.none] }) (s.heap.objs.size + 1) s.heap.objs.size 0 .none:=by
    have q:=Heap.get?_push_size (s.heap.push o) (o:={ cls:=.type "enumerate",data:=.fields #[.none,.bool false,.ref s.heap.objs.size,rawInt 0,.none,.none] }) rfl
    rw [hz] at q
    exact q
  refine ⟨⟨_,he,rfl⟩,h _ he ?_ ?_ ?_⟩
  · exact Heap.get?_push_of_some _ (Heap.get?_push_size _ B.free)
  · rw [Heap.size_push,hz]
  · exact fun b o e=>Heap.get?_push_of_some _ (Heap.get?_push_of_some _ e)
end
end EvE
end PySem
namespace Ev
open PySem PySem.Spec L2
def IteT (K:PySem.W.Frag) (a:Addr):It :=
  ⟨fun i H=>∃ (xs:List V) (x:V),SqT K H a xs∧xs[i]? = some x,fun i H v H'=>∃ T x,v=.ref T∧H T=none∧H'=upd H T (.tup [.int (i:Nat),x])∧∀ xs,SqT K H a xs→xs[i]? = some x,fun i H=>∃ xs:List V,SqT K H a xs∧xs.length=i⟩
theorem iter_ne {h:Heap} {it a:Addr} {i:Nat} {items:Array Value} (x:h.IsTupleIter it a i) (y:h.IsTuple a items):a ≠ it:=fun e=>by
  obtain ⟨o,ho,hc,_⟩:=x
  obtain ⟨o2,ho2,hc2,_⟩:=y
  rw [e,ho] at ho2
  cases ho2
  rw [hc] at hc2
  exact absurd (Value.type.inj hc2) (by decide)
theorem turn_enumT {P:Program} {w:World} {K:PySem.W.Frag} {elts:List Expr} {kk:Nat} {tpos:Pos} (a e it:Addr) :
    Turn P w K (.Tuple elts kk tpos) (IteT K a) [e,it] e (fun i h=>(∃ old,IsEnum h e it ((i:Nat):Int) old)∧h.IsTupleIter it a i∧e ≠ it) where
  mem:=by simp
  obj:=fun i h st b hb=>by
    obtain ⟨⟨old,he⟩,⟨o,ho,_,hd⟩,_⟩:=st
    rcases (by simpa using hb:b=e∨b=it) with rfl | rfl
    · exact ⟨_,he,fun v q=>nomatch q⟩
    · exact ⟨o,ho,fun v q=>by rw [hd] at q; cases q⟩
  keep:=fun i h h' st k=>by
    obtain ⟨⟨old,he⟩,⟨o,ho,r⟩,hne⟩:=st
    exact ⟨⟨old,k e (by simp) _ he⟩,⟨o,k it (by simp) o ho,r⟩,hne⟩
  item:=by
    intro X hP hw hK hc i pins s σ H E I hf st hgo
    subst hP hw hK
    obtain ⟨⟨old,he⟩,hit,hne⟩:=st
    obtain ⟨xs,x,hq,hx⟩:=hgo
    obtain ⟨its,rv,tp,hz⟩:=I.tuple hq
    have tp':s.heap.IsTuple a its.toArray:=tp
    obtain ⟨u,hu,ru⟩:=rv.get hx
    have hel:e < s.heap.objs.size:=Heap.lt_size he
    have hil:it < s.heap.objs.size:=by obtain ⟨_,q,_⟩:=hit; exact Heap.lt_size q
    have hai:=iter_ne hit tp'
    have hea:e ≠ a:=fun z=>by
      obtain ⟨o,ho,hcl,_⟩:=tp'
      rw [← z,he] at ho
      cases ho
      exact absurd (Value.type.inj hcl) (by decide)
    have hlt:i < its.toArray.size:=by
      have:=(List.getElem?_eq_some_iff.mp hu).1
      simpa using this
    refine wpAny_pyNext_enum_itemD (Draws.tuple (A:=X.A.in1) (I.ok.hd hc) it a hai its.toArray) he ⟨hit,tp'⟩ hlt hne (by simp [hne,hea]) fun y h1 tk hy ho st1 hT hsz hk=>?_
    have hyu:y=u:=by
      have q:its[i]? = some y:=by simpa using hy
      rw [hu] at q
      exact (Option.some.inj q).symm
    subst hyu
    refine ⟨_,rfl,wpAny_letOwnedTupleGo_enum (s:={ s with heap:=h1,toks:=tk + 1 }) ho fun h2 he' sb=>?_⟩
    have hT2:h2.get? s.heap.objs.size=some { cls:=.type "tuple",data:=.seq #[.int i tk,y] }:=(sb.2 _ (Nat.ne_of_gt hel)).trans hT
    have new:ObjOk X.prog X.w (upd H s.heap.objs.size (.tup [.int (i:Nat),x])) h2 s.heap.objs.size (.tup [.int (i:Nat),x]) :=
      ⟨by show 2≤sizeLine; decide,[.int i tk,y],.cons ⟨_,rfl⟩ (.cons ru .nil),⟨_,hT2,rfl,_,rfl⟩⟩
    have I1:L2.Inv X pins σ (upd H s.heap.objs.size (.tup [.int (i:Nat),x])) { s with heap:=h2,toks:=tk + 1 } :=
      I.turnedNew (ch:=[e,it]) (fun b ob hb q=>(sb.2 b (fun z=>hb (by simp [z]))).trans (hk b ob (fun z=>hb (by simp [z])) (fun z=>hb (by simp [z])) q)) hf (Nat.le_refl _) new
    refine ⟨.ref s.heap.objs.size,_,I1,rfl,⟨_,x,rfl,I.hok.fresh (Nat.le_refl _),rfl,fun ys hy=>by rw [I.tuple_inj hy hq]; exact hx⟩,⟨⟨y,?_⟩,?_,hne⟩,fun b hb=>?_⟩
    · have e1:((i + 1:Nat):Int)=(i:Int) + 1:=by omega
      rw [e1]
      exact he'
    · obtain ⟨o,q,r⟩:=st1.1
      exact ⟨o,(sb.2 it (Ne.symm hne)).trans q,r⟩
    · have hb':b < s.heap.objs.size:=by
        rcases (by simpa using hb:b=e∨b=it) with rfl | rfl
        · exact hel
        · exact hil
      rw [upd_ne (Nat.ne_of_lt hb')]
      exact (hf b hb).1
  done:=by
    intro X hP hw hK hc i pins s σ H E I hf st hstop
    subst hP hw hK
    obtain ⟨⟨old,he⟩,hit,hne⟩:=st
    obtain ⟨xs,hq,hx⟩:=hstop
    obtain ⟨its,rv,tp,hz⟩:=I.tuple hq
    have tp':s.heap.IsTuple a its.toArray:=tp
    obtain ⟨f0,f1,f2,f3,f4,f5⟩:=hf it (by simp)
    have hsz:its.toArray.size=i:=by rw [← hx,rv.length]; simp
    refine wpAny_pyNext_enum_endD (Draws.tuple (A:=X.A.in1) (I.ok.hd hc) it a (iter_ne hit tp') its.toArray) he (by rw [hsz]; exact ⟨hit,tp'⟩) fun h' eb=>⟨rfl,I.turned (t':=s.toks) (fun b o hb q=>eb b o hb q) f0 f1 f3 f4 f5⟩
  self:=fun A i s Q E st h=>by
    obtain ⟨⟨_,he⟩,_⟩:=st
    exact wpAny_pyIter_enum he h
theorem walk_enumT {K:PySem.W.Frag} {a:Addr} {xs:List V}:Walk (IteT K a) xs.length (fun H=>SqT K H a xs) (YPair (fun i=>some (.int (i:Nat))) (fun i=>xs[i]?)):=by
  refine ⟨fun i _ hi q=>⟨xs,xs[i],q,by simp [hi]⟩,fun _ q=>⟨xs,q,rfl⟩,fun i H v H' _ q y=>?_⟩
  obtain ⟨T,x,h1,h2,h3,h4⟩:=y
  exact ⟨T,.int (i:Nat),x,h1,h2,h3,rfl,h4 xs q⟩
section
variable {X:Cx} {F:Fx} {Wsh:WX} {e:Expr} {f:FE} {pos p tpos:Pos} {elts:List Expr} {kk:Nat}
def iEnumTT (K:PySem.W.Frag) (ta:TA):TI:=fun σ H R=>ta σ H fun vs H1=>∃ a xs,vs=[.ref a]∧SqT K H1 a xs∧R (IteT K a) H1
theorem pi_enumT {ta:TA} (hg:Gl X "enumerate") (hm:X.mg "enumerate" = none) (ha:PA X [e] ta) (hs:starEach [e] X.env=[(false,eval e X.env)]:=by rfl) :
    PI X (.Tuple elts kk tpos) (.Call (.Name "enumerate" p) [e] [] pos) (iEnumTT X.K ta):=by
  refine ⟨fun pins s σ H R I h=>?_⟩
  refine PyProof.Rows.Call_ (ld_blt I hg hm PyProof.Rows.boot_enumerate (PyProof.Rows.callWith_type1 (thn (ha.run pos pins s σ H _ I h) fun us s1 hh=>?_) hs rfl))
  obtain ⟨vs,H1,I1,r1,a,xs,ex,hq,q⟩:=hh
  subst ex
  cases r1 with
  | cons r rr =>
    cases rr
    cases r
    obtain ⟨its,rv,tp,hz⟩:=I1.tuple hq
    have tp':s1.heap.IsTuple a its.toArray:=tp
    refine PySem.EvE.call_enum1 (begins_tuple a its.toArray) tp' fun h' he hit hsz hk=>wpAny_pyIter_enum he ?_
    have I2:L2.Inv X pins σ H1 { s1 with heap:=h' }:=I1.kept (t':=s1.toks) hk
    refine ⟨s1.heap.objs.size + 1,[s1.heap.objs.size + 1,s1.heap.objs.size],_,_,H1,rfl,I2,turn_enumT a (s1.heap.objs.size + 1) s1.heap.objs.size,⟨⟨.none,he⟩,⟨_,hit,rfl,rfl⟩,Nat.succ_ne_self _⟩,fun b hb=>?_,q⟩
    have hle:s1.heap.objs.size≤b:=by
      rcases (by simpa using hb:b=s1.heap.objs.size + 1∨b=s1.heap.objs.size) with z | z
      · rw [z]; exact Nat.le_add_right _ _
      · rw [z]; exact Nat.le_refl _
    exact I1.fpOk hle (I1.hok.fresh hle)
def enumFrom:Nat→List D→List D
  | _,[]=>[]
  | n,d :: ds=>.tup [.int n,d] :: enumFrom (n + 1) ds
theorem enumFrom_len:∀ (n:Nat) (ds:List D),(enumFrom n ds).length=ds.length
  | _,[]=>rfl
  | n,d :: ds=>by simp [enumFrom,enumFrom_len]
theorem enumFrom_at:∀ (n:Nat) (ds:List D) (i:Nat) (d:D),ds[i]? = some d→(enumFrom n ds)[i]? = some (.tup [.int ((n + i:Nat):Int),d])
  | _,[],i,_,h=>by simp at h
  | n,d :: ds,0,x,h=>by simp at h; subst h; simp [enumFrom]
  | n,d :: ds,i + 1,x,h=>by
    have:=enumFrom_at (n + 1) ds i x (by simpa using h)
    have e:((n + 1 + i:Nat):Int)=((n + (i + 1):Nat):Int):=by omega
    rw [e] at this
    simp only [enumFrom,List.getElem?_cons_succ,this]
theorem walkD_pair {B:List Addr} {ι:Ads} {H:Hp} {J:It} {ds:List D} {n:Nat} {G:Hp→Prop} {xs ys:Nat→Option V} (hn:ds.length=n) (w:Walk J n G (YPair xs ys)) (g:∀ ι' H',ExtW B ι H ι' H'→G H')
    (h:∀ i,i < n→∃ a b,ds[i]? = some (.tup [a,b])∧(∀ x,xs i=some x→RD F H B ι a x)∧(∀ y,ys i=some y→RD F H B ι b y)):WalkD F B ι H J ds:=by
  subst hn
  refine ⟨G,_,w,g,fun i B' ι' H' S' x H2 hi ex hB rl y=>?_⟩
  obtain ⟨T,u,v,rfl,hT,rfl,hu,hv⟩:=y
  obtain ⟨a,b,e,h1,h2⟩:=h i hi
  refine ⟨.inr ⟨T,_,hT,rfl⟩,_,e,.tup (rl.fresh hT) upd_same ?_⟩
  have ra:=Rep.ext (Ext.new (o:=.tup [u,v]) hT) (Rep.extW ex (Rep.sub (subB hB) (h1 u hu)))
  have rb:=Rep.ext (Ext.new (o:=.tup [u,v]) hT) (Rep.extW ex (Rep.sub (subB hB) (h2 v hv)))
  exact .cons ra (.cons rb .nil)
def iEnumL (f:FE):FI:=fun ρ S=>(f ρ S).bind fun w S1=>match w with
  | .d (.lst ds)=>.ok (enumFrom 0 ds) S1
  | _=>.err
def iEnumT (f:FE):FI:=fun ρ S=>(f ρ S).bind fun w S1=>match w with
  | .d (.tup ds)=>.ok (enumFrom 0 ds) S1
  | _=>.err
theorem enum_pairs {B:List Addr} {ι:Ads} {H:Hp} {ds:List D} {vs:List V} (r:RDs F H B ι ds vs):∀ i,i < vs.length→∃ a b,(enumFrom 0 ds)[i]? = some (.tup [a,b])∧(∀ x,(fun i=>some (V.int (i:Nat))) i=some x→RD F H B ι a x)∧(∀ y,(fun i=>vs[i]?) i=some y→RD F H B ι b y):=fun i hi=>by
  have hi':i < ds.length:=by rw [reps_len r]; exact hi
  have e:=List.getElem?_eq_getElem hi'
  refine ⟨.int ((0 + i:Nat):Int),ds[i],enumFrom_at 0 ds i _ e,fun x hx=>?_,fun y hy=>?_⟩
  · cases hx
    rw [Nat.zero_add]
    exact .int _
  · obtain ⟨v,hv,rv⟩:=reps_at r e
    have hy':vs[i]? = some y:=hy
    rw [hy'] at hv
    cases hv
    exact rv
theorem ri_enumT (hK:X.K=F.K) (hg:Gl X "enumerate") (hm:X.mg "enumerate" = none) (he:PE X e (tR F Wsh f)) (hs:starEach [e] X.env=[(false,eval e X.env)]:=by rfl):PI X (.Tuple elts kk tpos) (.Call (.Name "enumerate" p) [e] [] pos) (tRI F Wsh (iEnumT f)) :=
  piImp (pi_enumT hg hm (pa_cons he pa_nil hs) hs) fun σ H Q ⟨B,ι,ρ,S,rl,c⟩=>by
    refine tR_step rl c fun w v S1 ι1 H1 x1 rl1 rv c1=>?_
    split at c1
    · obtain ⟨a,vs,rfl,h1,r1,k⟩:=sq_keepT (H':=H1) (ι':=ι1) rv
      refine ⟨a,vs,rfl,by rw [hK]; exact h1,c1.here rl1 _ ?_⟩
      rw [hK]
      exact walkD_pair (by rw [enumFrom_len,reps_len r1]) walk_enumT k (enum_pairs r1)
    · exact (show False from c1).elim
end
end Ev
namespace Ev
open PySem PySem.Spec L2
def sqB (k:Bool) (K:PySem.W.Frag) (H:Hp) (a:Addr) (xs:List V):Prop:=if k then SqT K H a xs else SqL K H a xs
def itB (k:Bool) (h:Heap) (it a:Addr) (i:Nat):Prop:=if k then h.IsTupleIter it a i else h.IsListIter it a i
def seqB (k:Bool) (h:Heap) (a:Addr) (items:Array Value):Prop:=if k then h.IsTuple a items else h.IsList a items
def itO (k:Bool) (a:Addr):Obj:=if k then { cls:=.type "tuple_iterator",data:=.fields #[.ref a,.int 0 0] } else { cls:=.type "list_iterator",data:=.fields #[.ref a,.int 0 0] }
theorem beginsB (k:Bool) (a:Addr) (items:Array Value):Begins (.ref a) (itO k a) fun h=>seqB k h a items:=by
  cases k with
  | true=>exact begins_tuple a items
  | false=>exact begins_list a items
theorem itB_new {k:Bool} {h:Heap} {it a:Addr} (e:h.get? it=some (itO k a)):itB k h it a 0:=by
  cases k with
  | true=>exact ⟨_,e,rfl,rfl⟩
  | false=>exact ⟨_,e,rfl,rfl⟩
theorem itB_at {k:Bool} {h h':Heap} {it a:Addr} {i:Nat} (x:itB k h it a i) (f:∀ o,h.get? it=some o→h'.get? it=some o):itB k h' it a i:=by
  cases k with
  | true=>obtain ⟨o,e,r⟩:=(show h.IsTupleIter it a i from x); exact ⟨o,f o e,r⟩
  | false=>exact (show h.IsListIter it a i from x).at f
theorem itB_obj {k:Bool} {h:Heap} {it a:Addr} {i:Nat} (x:itB k h it a i):∃ o vs,h.get? it=some o∧o.data=.fields vs:=by
  cases k with
  | true=>obtain ⟨o,e,_,r⟩:=(show h.IsTupleIter it a i from x); exact ⟨o,_,e,r⟩
  | false=>obtain ⟨o,e,_,r⟩:=(show h.IsListIter it a i from x); exact ⟨o,_,e,r⟩
theorem seqB_obj {k:Bool} {h:Heap} {a:Addr} {its:Array Value} (x:seqB k h a its):∃ o n,h.get? a=some o∧o.data=.seq its n:=by
  cases k with
  | true=>obtain ⟨o,e,_,n,r⟩:=(show h.IsTuple a its from x); exact ⟨o,n,e,r⟩
  | false=>obtain ⟨o,e,_,n,r⟩:=(show h.IsList a its from x); exact ⟨o,n,e,r⟩
theorem seq_it_ne {k:Bool} {h:Heap} {it a:Addr} {i:Nat} {its:Array Value} (x:itB k h it a i) (y:seqB k h a its):a ≠ it:=fun e=>by
  obtain ⟨o,vs,h1,h2⟩:=itB_obj x
  obtain ⟨o',n,h3,h4⟩:=seqB_obj y
  rw [e,h1] at h3
  cases h3
  rw [h2] at h4
  cases h4
theorem drawsB (k:Bool) {prog:Program} {w:World} {A:Around} (hh:A.handled=none) (it a:Addr) (hne:a ≠ it) (items:Array Value) :
    Draws prog w A it [it,a] items.size (fun i v=>items[i]? = some v) (fun i h=>itB k h it a i∧seqB k h a items):=by
  cases k with
  | true=>exact Draws.tuple hh it a hne items
  | false=>exact Draws.list hh it a hne items
section
variable {X:Cx} {pins:List (Addr×Obj)} {σ:L2.St} {H:Hp} {s:Shared}
theorem sqB_in {k:Bool} {a:Addr} {xs:List V} (I:L2.Inv X pins σ H s) (h:sqB k X.K H a xs):∃ its:List Value,Vals xs its∧seqB k s.heap a its.toArray:=by
  cases k with
  | true=>obtain ⟨its,rv,p,_⟩:=I.tuple h; exact ⟨its,rv,p⟩
  | false=>obtain ⟨its,rv,p,_⟩:=I.list h; exact ⟨its,rv,p.isList⟩
theorem sqB_inj {k:Bool} {a:Addr} {xs ys:List V} (I:L2.Inv X pins σ H s) (h:sqB k X.K H a xs) (h':sqB k X.K H a ys):xs=ys:=by
  cases k with
  | true=>exact I.tuple_inj h h'
  | false=>exact I.list_inj h h'
end
def ItzB (k1 k2:Bool) (K:PySem.W.Frag) (a b:Addr):It :=
  ⟨fun i H=>∃ (xs ys:List V) (x y:V),sqB k1 K H a xs∧sqB k2 K H b ys∧xs[i]? = some x∧ys[i]? = some y,
   fun i H v H'=>∃ T x y,v=.ref T∧H T=none∧H'=upd H T (.tup [x,y])∧(∀ xs,sqB k1 K H a xs→xs[i]? = some x)∧∀ ys,sqB k2 K H b ys→ys[i]? = some y,
   fun i H=>∃ xs ys:List V,sqB k1 K H a xs∧sqB k2 K H b ys∧i=min xs.length ys.length⟩
theorem turn_zipB {P:Program} {w:World} {K:PySem.W.Frag} {elts:List Expr} {kk:Nat} {tpos:Pos} {k1 k2:Bool} {a b z TI TO i1 i2:Addr} (Sp:ZipSep2 z TI TO i1 i2 [i1,a] [i2,b]) :
    Turn P w K (.Tuple elts kk tpos) (ItzB k1 k2 K a b) [z,TI,TO,i1,i2] z (fun i h=>IsZip h z TI TO .none∧IsTupOf2 h TI (.ref i1) (.ref i2)∧(∃ x y,IsTupOf2 h TO x y)∧itB k1 h i1 a i∧itB k2 h i2 b i) where
  mem:=by simp
  obj:=fun i h st c hc=>by
    obtain ⟨hz,hTI,⟨x,y,hTO⟩,h1,h2⟩:=st
    obtain ⟨o1,v1,e1,d1⟩:=itB_obj h1
    obtain ⟨o2,v2,e2,d2⟩:=itB_obj h2
    rcases (by simpa using hc:c=z∨c=TI∨c=TO∨c=i1∨c=i2) with rfl | rfl | rfl | rfl | rfl
    · exact ⟨_,hz,fun v q=>nomatch q⟩
    · exact ⟨_,hTI,fun v q=>nomatch q⟩
    · exact ⟨_,hTO,fun v q=>nomatch q⟩
    · exact ⟨o1,e1,fun v q=>by rw [d1] at q; cases q⟩
    · exact ⟨o2,e2,fun v q=>by rw [d2] at q; cases q⟩
  keep:=fun i h h' st k=>by
    obtain ⟨hz,hTI,⟨x,y,hTO⟩,h1,h2⟩:=st
    exact ⟨k z (by simp) _ hz,k TI (by simp) _ hTI,⟨x,y,k TO (by simp) _ hTO⟩,itB_at h1 fun o q=>k i1 (by simp) o q,itB_at h2 fun o q=>k i2 (by simp) o q⟩
  item:=by
    intro X hP hw hK hc i pins s σ H E I hf st hgo
    subst hP hw hK
    obtain ⟨hz,hTI,⟨x0,y0,hTO⟩,h1,h2⟩:=st
    obtain ⟨xs,ys,x,y,hqx,hqy,hx,hy⟩:=hgo
    obtain ⟨its,rv,p⟩:=sqB_in I hqx
    obtain ⟨its2,rv2,p2⟩:=sqB_in I hqy
    obtain ⟨u,hu,ru⟩:=rv.get hx
    obtain ⟨u2,hu2,ru2⟩:=rv2.get hy
    have hzl:z < s.heap.objs.size:=Heap.lt_size hz
    have l1:i < its.toArray.size:=by have:=(List.getElem?_eq_some_iff.mp hu).1; simpa using this
    have l2:i < its2.toArray.size:=by have:=(List.getElem?_eq_some_iff.mp hu2).1; simpa using this
    refine wpAny_pyNext_zipD2_item Sp (drawsB k1 (A:=X.A.in1) (I.ok.hd hc) i1 a (seq_it_ne h1 p) its.toArray) (drawsB k2 (A:=X.A.in1) (I.ok.hd hc) i2 b (seq_it_ne h2 p2) its2.toArray) hz hTI hTO ⟨h1,p⟩ ⟨h2,p2⟩ l1 l2 fun v1 v2 h' tk hv1 hv2 z' TO' st1 st2 hT hsz hk=>?_
    have e1:v1=u:=by
      have q:its[i]? = some v1:=by simpa using hv1
      rw [hu] at q
      exact (Option.some.inj q).symm
    have e2:v2=u2:=by
      have q:its2[i]? = some v2:=by simpa using hv2
      rw [hu2] at q
      exact (Option.some.inj q).symm
    subst e1
    subst e2
    refine ⟨_,rfl,wpAny_letOwnedTupleGo_zip (s:={ s with heap:=h',toks:=tk }) z' fun h'' z'' sb=>?_⟩
    have hT2:h''.get? s.heap.objs.size=some { cls:=.type "tuple",data:=.seq #[v1,v2] }:=(sb.2 _ (Nat.ne_of_gt hzl)).trans hT
    have new:ObjOk X.prog X.w (upd H s.heap.objs.size (.tup [x,y])) h'' s.heap.objs.size (.tup [x,y]) :=
      ⟨by show 2≤sizeLine; decide,[v1,v2],.cons ru (.cons ru2 .nil),⟨_,hT2,rfl,_,rfl⟩⟩
    have I1:L2.Inv X pins σ (upd H s.heap.objs.size (.tup [x,y])) { s with heap:=h'',toks:=tk } :=
      I.turnedNew (ch:=[z,TI,TO,i1,i2]) (fun c ob hb q=>(sb.2 c (fun e=>hb (by simp [e]))).trans (hk c ob (fun e=>hb (by simp [e])) (fun e=>hb (by simp [e])) (fun e=>hb (by simp [e])) (fun e=>hb (by simp [e])) q)) hf (Nat.le_refl _) new
    have nz:∀ c∈[TI,TO,i1,i2],c ≠ z:=fun c hm e=>by
      subst e
      rcases (by simpa using hm:c=TI∨c=TO∨c=i1∨c=i2) with q | q | q | q
      · exact Sp.TIz q.symm
      · exact Sp.TOz q.symm
      · exact Sp.zf1 (by simp [q])
      · exact Sp.zf2 (by simp [q])
    refine ⟨.ref s.heap.objs.size,_,I1,rfl,⟨_,x,y,rfl,I.hok.fresh (Nat.le_refl _),rfl,fun q hq=>by rw [sqB_inj I hq hqx]; exact hx,fun q hq=>by rw [sqB_inj I hq hqy]; exact hy⟩,⟨z'',?_,⟨v1,v2,?_⟩,?_,?_⟩,fun c hm=>?_⟩
    · have q:h'.get? TI=some _:=hk TI _ Sp.TIz Sp.TITO Sp.TIi1 Sp.TIi2 hTI
      exact (sb.2 TI (nz TI (by simp))).trans q
    · exact (sb.2 TO (nz TO (by simp))).trans TO'
    · exact itB_at st1.1 fun o q=>(sb.2 i1 (nz i1 (by simp))).trans q
    · exact itB_at st2.1 fun o q=>(sb.2 i2 (nz i2 (by simp))).trans q
    · have hc':c < s.heap.objs.size:=by
        obtain ⟨o1,w1,q1,_⟩:=itB_obj h1
        obtain ⟨o2,w2,q2,_⟩:=itB_obj h2
        rcases (by simpa using hm:c=z∨c=TI∨c=TO∨c=i1∨c=i2) with rfl | rfl | rfl | rfl | rfl
        · exact hzl
        · exact Heap.lt_size hTI
        · exact Heap.lt_size hTO
        · exact Heap.lt_size q1
        · exact Heap.lt_size q2
      rw [upd_ne (Nat.ne_of_lt hc')]
      exact (hf c hm).1
  done:=by
    intro X hP hw hK hc i pins s σ H E I hf st hstop
    subst hP hw hK
    obtain ⟨hz,hTI,⟨x0,y0,hTO⟩,h1,h2⟩:=st
    obtain ⟨xs,ys,hqx,hqy,hi⟩:=hstop
    obtain ⟨its,rv,p⟩:=sqB_in I hqx
    obtain ⟨its2,rv2,p2⟩:=sqB_in I hqy
    have l1:xs.length=its.toArray.size:=by rw [rv.length]; simp
    have l2:ys.length=its2.toArray.size:=by rw [rv2.length]; simp
    refine wpAny_pyNext_zipD2_end Sp (drawsB k1 (A:=X.A.in1) (I.ok.hd hc) i1 a (seq_it_ne h1 p) its.toArray) (drawsB k2 (A:=X.A.in1) (I.ok.hd hc) i2 b (seq_it_ne h2 p2) its2.toArray) hz hTI hTO ⟨h1,p⟩ ⟨h2,p2⟩ (by omega) (by omega) (by omega) fun h' tk hk=>⟨rfl,I.turnedL (t':=tk) (ch:=[z,TI,TO,i1,i2]) (fun c o hb q=>hk c o (fun e=>hb (by simp [e])) (fun e=>hb (by simp [e])) (fun e=>hb (by simp [e])) (fun e=>hb (by simp [e])) q) hf⟩
  self:=fun A i s Q E st h=>wpAny_pyIter_zip st.1 h
theorem walk_zipB {k1 k2:Bool} {K:PySem.W.Frag} {a b:Addr} {xs ys:List V}:Walk (ItzB k1 k2 K a b) (min xs.length ys.length) (fun H=>sqB k1 K H a xs∧sqB k2 K H b ys) (YPair (fun i=>xs[i]?) (fun i=>ys[i]?)):=by
  refine ⟨fun i _ hi q=>?_,fun _ q=>⟨xs,ys,q.1,q.2,rfl⟩,fun i H v H' _ q y=>?_⟩
  · have h1:i < xs.length:=by omega
    have h2:i < ys.length:=by omega
    exact ⟨xs,ys,xs[i],ys[i],q.1,q.2,by simp [h1],by simp [h2]⟩
  · obtain ⟨T,x,z,h1,h2,h3,h4,h5⟩:=y
    exact ⟨T,x,z,h1,h2,h3,h4 xs q.1,h5 ys q.2⟩
section
variable {X:Cx} {F:Fx} {Wsh:WX} {e e2:Expr} {f g:FE} {pos p tpos:Pos} {elts:List Expr} {kk:Nat} {k1 k2:Bool}
def iZipB (k1 k2:Bool) (K:PySem.W.Frag) (ta:TA):TI:=fun σ H R=>ta σ H fun vs H1=>∃ a b xs ys,vs=[.ref a,.ref b]∧sqB k1 K H1 a xs∧sqB k2 K H1 b ys∧R (ItzB k1 k2 K a b) H1
theorem pi_zipB {ta:TA} (hg:Gl X "zip") (hm:X.mg "zip" = none) (ha:PA X [e,e2] ta) (hs:starEach [e,e2] X.env=(false,eval e X.env) :: starEach [e2] X.env:=by rfl) (hpl:(backTo pos (starEach [e2] X.env)).any (·.1)=false:=by rfl) :
    PI X (.Tuple elts kk tpos) (.Call (.Name "zip" p) [e,e2] [] pos) (iZipB k1 k2 X.K ta):=by
  refine ⟨fun pins s σ H R I h=>?_⟩
  refine PyProof.Rows.Call_ (ld_blt I hg hm PyProof.Rows.boot_zip (PyProof.Rows.callWith_type1 (thn (ha.run pos pins s σ H _ I h) fun us s1 hh=>?_) hs hpl))
  obtain ⟨vs,H1,I1,r1,a,b,xs,ys,ex,hqx,hqy,q⟩:=hh
  subst ex
  cases r1 with
  | cons r rr=>cases rr with
    | cons r' rr =>
      cases rr
      cases r
      cases r'
      obtain ⟨its,rv,p1⟩:=sqB_in I1 hqx
      obtain ⟨its2,rv2,p2⟩:=sqB_in I1 hqy
      have la:a < s1.heap.objs.size:=by obtain ⟨_,_,z,_⟩:=seqB_obj p1; exact Heap.lt_size z
      have lb:b < s1.heap.objs.size:=by obtain ⟨_,_,z,_⟩:=seqB_obj p2; exact Heap.lt_size z
      refine zip_begins2 (beginsB k1 a its.toArray) (beginsB k2 b its2.toArray) p1 p2 fun h' hz hTI hTO h1 h2 hsz hk=>wpAny_pyIter_zip hz ?_
      have I2:L2.Inv X pins σ H1 { s1 with heap:=h' }:=I1.kept (t':=s1.toks) hk
      refine ⟨s1.heap.objs.size + 4,[s1.heap.objs.size + 4,s1.heap.objs.size + 2,s1.heap.objs.size + 3,s1.heap.objs.size,s1.heap.objs.size + 1],_,_,H1,rfl,I2,turn_zipB (k1:=k1) (k2:=k2) (zip_sep2 (fp1:=[a]) (fp2:=[b]) (by simpa using la) (by simpa using lb)),⟨hz,hTI,⟨_,_,hTO⟩,itB_new h1,itB_new h2⟩,fun c hc=>?_,q⟩
      have hle:s1.heap.objs.size≤c:=by
        rcases (by simpa using hc:c=s1.heap.objs.size + 4∨c=s1.heap.objs.size + 2∨c=s1.heap.objs.size + 3∨c=s1.heap.objs.size∨c=s1.heap.objs.size + 1) with z | z | z | z | z
        · rw [z]; exact Nat.le_add_right _ _
        · rw [z]; exact Nat.le_add_right _ _
        · rw [z]; exact Nat.le_add_right _ _
        · rw [z]; exact Nat.le_refl _
        · rw [z]; exact Nat.le_add_right _ _
      exact I1.fpOk hle (I1.hok.fresh hle)
def zipD:List D→List D→List D
  | x :: xs,y :: ys=>.tup [x,y] :: zipD xs ys
  | _,_=>[]
theorem zipD_len:∀ (xs ys:List D),(zipD xs ys).length=min xs.length ys.length
  | [],_=>by simp [zipD]
  | _ :: _,[]=>by simp [zipD]
  | x :: xs,y :: ys=>by
    simp only [zipD,List.length_cons,zipD_len xs ys]
    omega
theorem zipD_at:∀ (xs ys:List D) (i:Nat) (x y:D),xs[i]? = some x→ys[i]? = some y→(zipD xs ys)[i]? = some (.tup [x,y])
  | [],_,_,_,_,h,_=>by simp at h
  | _ :: _,[],_,_,_,_,h=>by simp at h
  | x :: xs,y :: ys,0,u,v,h,h'=>by simp at h h'; subst h; subst h'; simp [zipD]
  | x :: xs,y :: ys,i + 1,u,v,h,h'=>by
    have:=zipD_at xs ys i u v (by simpa using h) (by simpa using h')
    simpa [zipD] using this
def pick (k:Bool):W→Option (List D)
  | .d (.tup ds)=>if k then some ds else none
  | .d (.lst ds)=>if k then none else some ds
  | _=>none
theorem pick_sq {k:Bool} {w:W} {ds:List D} {v:V} {H:Hp} {B:List Addr} {ι:Ads} (e:pick k w=some ds) (r:RW F H B ι w v):∃ a vs,v=.ref a∧sqB k F.K H a vs∧RDs F H B ι ds vs∧∀ ι' H',ExtW B ι H ι' H'→sqB k F.K H' a vs:=by
  unfold pick at e
  split at e
  · split at e
    · rename_i hk
      cases e
      subst hk
      obtain ⟨a,vs,h1,h2,h3,h4⟩:=sq_keepT (H':=H) (ι':=ι) r
      exact ⟨a,vs,h1,h2,h3,h4⟩
    · cases e
  · split at e
    · cases e
    · rename_i hk
      cases e
      have hk':k=false:=by simpa using hk
      subst hk'
      obtain ⟨a,vs,h1,h2,h3,h4⟩:=sq_keepL r
      exact ⟨a,vs,h1,h2,h3,h4⟩
  · cases e
def iZip (k1 k2:Bool) (f g:FE):FI:=fun ρ S=>(f ρ S).bind fun x S1=>(g ρ S1).bind fun y S2=>match pick k1 x,pick k2 y with
  | some xs,some ys=>.ok (zipD xs ys) S2
  | _,_=>.err
theorem ri_zip (hK:X.K=F.K) (hg:Gl X "zip") (hm:X.mg "zip" = none) (he:PE X e (tR F Wsh f)) (he2:PE X e2 (tR F Wsh g)) (hs:starEach [e,e2] X.env=(false,eval e X.env) :: starEach [e2] X.env:=by rfl) (hs2:starEach [e2] X.env=[(false,eval e2 X.env)]:=by rfl) (hpl:(backTo pos (starEach [e2] X.env)).any (·.1)=false:=by rfl) :
    PI X (.Tuple elts kk tpos) (.Call (.Name "zip" p) [e,e2] [] pos) (tRI F Wsh (iZip k1 k2 f g)) :=
  piImp (pi_zipB (k1:=k1) (k2:=k2) hg hm (pa_cons he (pa_cons he2 pa_nil hs2) hs) hs hpl) fun σ H Q ⟨B,ι,ρ,S,rl,c⟩=>by
    refine tR_step rl c fun wx x S1 ι1 H1 x1 rl1 rx c1=>?_
    refine tR_step rl1 c1 fun wy y S2 ι2 H2 x2 rl2 ry c2=>?_
    split at c2
    · rename_i xs ys ex ey
      obtain ⟨a,vs,rfl,h1,r1,g1⟩:=pick_sq ex (rx.ext x2)
      obtain ⟨b,us,rfl,h2,r2,g2⟩:=pick_sq ey ry
      refine ⟨a,b,vs,us,rfl,by rw [hK]; exact h1,by rw [hK]; exact h2,c2.here rl2 _ ?_⟩
      rw [hK]
      refine walkD_pair (n:=min vs.length us.length) (by rw [zipD_len,reps_len r1,reps_len r2]) walk_zipB (fun ι' H' q=>⟨g1 ι' H' q,g2 ι' H' q⟩) fun i hi=>?_
      have i1:i < xs.length:=by rw [reps_len r1]; omega
      have i2:i < ys.length:=by rw [reps_len r2]; omega
      refine ⟨xs[i],ys[i],zipD_at xs ys i _ _ (List.getElem?_eq_getElem i1) (List.getElem?_eq_getElem i2),fun u hu=>?_,fun u hu=>?_⟩
      · obtain ⟨v,hv,rv⟩:=reps_at r1 (List.getElem?_eq_getElem i1)
        have hu':vs[i]? = some u:=hu
        rw [hu'] at hv
        cases hv
        exact rv
      · obtain ⟨v,hv,rv⟩:=reps_at r2 (List.getElem?_eq_getElem i2)
        have hu':us[i]? = some u:=hu
        rw [hu'] at hv
        cases hv
        exact rv
    · exact (show False from c2).elim
end
end Ev
namespace Ev
open PySem PySem.Spec L2
def compL2 (g:FG) (t:FT) (fi1:FI) (g1:FG) (t1:FT) (f:FE) (vs1:List Nat) (ρ:Loc):List D→Sto→List D→R (List D)
  | [],S,acc=>.ok acc S
  | d :: ds,S,acc=>match g (.d d) ρ S with
    | none=>.err
    | some ρ1=>(noX (t ρ1 S)).bind fun k S1=>if k=true then (noX (fi1 ρ1 S1)).bind fun es S2=>(compL g1 t1 f (wipeL ρ1 vs1) es S2 acc).bind fun acc' S3=>compL2 g t fi1 g1 t1 f vs1 ρ ds S3 acc'
        else compL2 g t fi1 g1 t1 f vs1 ρ ds S1 acc
def fLc2 (fi:FI) (g:FG) (t:FT) (fi1:FI) (g1:FG) (t1:FT) (f:FE) (vs vs1:List Nat):FE:=fun ρ S=>(fi ρ S).bind fun ds S1=>(compL2 g t fi1 g1 t1 f vs1 (wipeL ρ vs) ds S1 []).bind fun ys S2=>.ok (.d (.lst ys)) S2
section
variable {X:Cx} {F:Fx} {Wsh:WX}
theorem R_bind_assoc {α β γ:Type} (r:R α) (f:α→Sto→R β) (g:β→Sto→R γ):(r.bind f).bind g=r.bind fun a S=>(f a S).bind g:=by
  cases r <;> rfl
theorem in_of {gf:FG} {sl:List Nat} {t:FT} {fe:FE} {vs1:List Nat} {tgr:TG} {tt:TT} {te:TE}
    (hg:GRel F gf sl tgr) (hsl:∀ i∈sl,i∈vs1) (htt:∀ σ H Q,tRT F W0 t σ H Q→tt σ H Q) (hte:∀ σ H Q,tR F W0 fe σ H Q→te σ H Q)
    {B:List Addr} {D:Addr} {ι1 ι4:Ads} {H1 H4:Hp} {ρ ρ3:Loc} {σ σ3:L2.St} {S4:Sto} {acc:List Ev.D} {us:List V} {es:List Ev.D} {J:It} {rest:List Ev.D→Sto→R W} {k:W→Sto→Ads→Hp→Prop} {Nx:Hp→Prop}
    (wd:WalkD F (B ++ [D]) ι4 H4 J es) (hD:H1 D=none) (x4:Ext ι1 H1 ι4 H4) (rl:Rel F H4 (B ++ [D]) ι4 ρ3 S4 σ3) (rlσ:Rel F H4 (B ++ [D]) ι4 ρ S4 σ) (hus:H4 D=some (.lst us)) (hDn:D ∉ flat ι4) (racc:RDs F H4 (B ++ [D]) ι4 acc us)
    (c:Cont F Wsh B ρ σ ι1 H1 ((compL gf t fe (wipeL ρ3 vs1) es S4 acc).bind rest) k)
    (hNx:∀ ι H S acc us,Ext ι1 H1 ι H→Rel F H (B ++ [D]) ι ρ S σ→H D=some (.lst us)→D ∉ flat ι→RDs F H (B ++ [D]) ι acc us→Cont F Wsh B ρ σ ι1 H1 (rest acc S) k→Nx H) :
    ∃ W1:Nat→Nat→Hp→Prop,(∃ m,W1 0 m H4)∧∀ j k H,W1 j k H →
      (J.stop j H∧Nx H)∨(J.go j H∧∃ Nx1:Hp→Prop,(∀ H',Nx1 H'→∃ k',k' < k∧W1 (j + 1) k' H')∧∀ x H',J.yld j H x H'→tgr x (wipe σ3 vs1) H' fun σ5 H5=>wipe σ5 vs1=wipe σ3 vs1∧tt σ5 H5 fun b H6 =>
        if b=true then te σ5 H6 fun y H7=>∃ acc,H7 D=some (.lst acc)∧acc.length < sizeLine∧Nx1 (upd H7 D (.lst (acc ++ [y]))) else Nx1 H6):=by
  obtain ⟨G,Y,w,hG,hY⟩:=wd
  let Pv:Nat→Hp→Prop:=fun i H2=>∃ ι2 S2 acc us,Ext ι1 H1 ι2 H2∧ExtW (B ++ [D]) ι4 H4 ι2 H2∧(∀ b,H2 b=none→H4 b=none)∧Rel F H2 (B ++ [D]) ι2 (wipeL ρ3 vs1) S2 (L2.wipe σ3 vs1)∧Rel F H2 (B ++ [D]) ι2 ρ S2 σ∧H2 D=some (.lst us)∧D ∉ flat ι2∧RDs F H2 (B ++ [D]) ι2 acc us ∧
      Cont F Wsh B ρ σ ι1 H1 ((compL gf t fe (wipeL ρ3 vs1) (es.drop i) S2 acc).bind rest) k
  refine ⟨fun i m H=>m=es.length - i∧i≤es.length∧Pv i H,⟨es.length,by simp,Nat.zero_le _,ι4,S4,acc,us,x4,(Ext.refl _ _).toW,fun _ h=>h,rl.wipe vs1,rlσ,hus,hDn,racc,by simpa using c⟩,?_⟩
  rintro i m H2 ⟨rfl,hi,p⟩
  obtain ⟨ι2,S2,acc,us,x2,xw,dm,rl2,rlσ,hus,hD2,racc,c2⟩:=p
  have q:=hG ι2 H2 xw
  by_cases hlt:i < es.length
  · refine .inr ⟨w.goes i H2 hlt q,Pv (i + 1),fun H' p'=>⟨es.length - (i + 1),by omega,rfl,hlt,p'⟩,fun x H3 y=>?_⟩
    have y:=w.yields i H2 x H3 hlt q y
    obtain ⟨hn,d,hd,rd⟩:=hY i (B ++ [D]) ι2 H2 S2 x H3 hlt xw (fun a ha=>.inl ha) rl2.toRelS y
    obtain ⟨rl3,x3⟩:=RelS.walked rl2 hn
    obtain ⟨rlσ3,_⟩:=RelS.walked rlσ hn
    have hus3:H3 D=some (.lst us):=x3.keep _ _ hD2 hus nt_lst
    have hdr:es.drop i=d :: es.drop (i + 1):=by
      rw [List.drop_eq_getElem_cons hlt]
      rw [List.getElem?_eq_getElem hlt] at hd
      rw [Option.some.inj hd]
    rw [hdr] at c2
    simp only [compL] at c2
    have dt:∀ {Ha Hb Hc:Hp},(∀ b,Hb b=none→Ha b=none)→(∀ b,Hc b=none→Hb b=none)→∀ b,Hc b=none→Ha b=none:=fun f g b h=>f b (g b h)
    cases hgd:gf (.d d) (wipeL ρ3 vs1) S2 with
    | none=>rw [hgd] at c2; exact (show False from c2).elim
    | some ρ5 =>
      rw [hgd] at c2
      refine hg (B ++ [D]) ι2 (wipeL ρ3 vs1) S2 (L2.wipe σ3 vs1) H3 (.d d) x ρ5 _ rl3 rd hgd fun σ5 rl4 hw=>⟨?_,?_⟩
      · have e1:=hw vs1 hsl
        rw [wipe_wipe] at e1
        exact e1
      · refine htt _ _ _ ⟨B ++ [D],ι2,ρ5,S2,rl4,?_⟩
        revert c2
        simp only []
        generalize ht:t ρ5 S2=rt
        cases rt with
        | err=>exact fun c3=>(show False from c3).elim
        | exn _ _ _=>exact fun c3=>(show False from c3).elim
        | ok k S4 =>
          intro c3 ι6 H6 x6 rl6
          have c4:Cont F Wsh B ρ σ ι1 H1 ((if k=true then (noX (fe ρ5 S4)).bind fun w S2=>(match w with
              | .d y=>if acc.length < sizeLine then compL gf t fe (wipeL ρ3 vs1) (es.drop (i + 1)) S2 (acc ++ [y]) else .err
              | _=>.err) else compL gf t fe (wipeL ρ3 vs1) (es.drop (i + 1)) S4 acc).bind rest) _:=c3
          have hus4:H6 D=some (.lst us):=x6.keep _ _ hD2 hus3 nt_lst
          have hD4:D ∉ flat ι6:=x6.notin hD2 (by rw [hus3]; simp)
          have x36:=x3.trans x6
          have rlσ4:Rel F H6 (B ++ [D]) ι6 ρ S4 σ:=⟨rl6.toRelS,pImp (fun _ _ q=>RL.ext x36 q) rlσ.loc⟩
          have rlw4:Rel F H6 (B ++ [D]) ι6 (wipeL ρ3 vs1) S4 (L2.wipe σ3 vs1):=⟨rl6.toRelS,pImp (fun _ _ q=>RL.ext x36 q) rl2.loc⟩
          split
          · rename_i hk
            rw [if_pos hk] at c4
            refine hte _ _ _ ⟨B ++ [D],ι6,ρ5,S4,rl6,?_⟩
            revert c4
            generalize hfe:fe ρ5 S4=rf
            cases rf with
            | err=>exact fun c4=>(show False from c4).elim
            | exn _ _ _=>exact fun c4=>(show False from c4).elim
            | ok wy S5 =>
              intro c4 ι7 H7 x7 rl7 v rv
              have hus5:H7 D=some (.lst us):=x7.keep _ _ hD4 hus4 nt_lst
              have hD5:D ∉ flat ι7:=x7.notin hD4 (by rw [hus4]; simp)
              cases wy with
              | ref _=>exact (show False from c4).elim
              | exc _ _=>exact (show False from c4).elim
              | fn=>exact (show False from c4).elim
              | d yd =>
                have c5:Cont F Wsh B ρ σ ι1 H1 ((if acc.length < sizeLine then compL gf t fe (wipeL ρ3 vs1) (es.drop (i + 1)) S5 (acc ++ [yd]) else .err).bind rest) _:=c4
                by_cases hz:acc.length < sizeLine
                · rw [if_pos hz] at c5
                  have x37:=x36.trans x7
                  have racc5:RDs F H7 (B ++ [D]) ι7 acc us:=Reps.ext x37 racc
                  have hDB':D∈B ++ [D]:=by simp
                  have hDx:D∈(B ++ [D]) ++ flat ι7:=List.mem_append_left _ hDB'
                  have x17:=x2.trans x37
                  have xg:Ext ι1 H1 ι7 (upd H7 D (.lst (us ++ [v]))):=by
                    refine ⟨x17.at_,x17.sub,fun b hb=>?_,fun b ob nb hb nt=>?_⟩
                    · by_cases e:b=D
                      · rw [e]; exact hD
                      · rw [upd_ne e] at hb; exact x17.dom b hb
                    · rw [upd_ne (ne_of_none hb hD)]; exact x17.keep b ob nb hb nt
                  have xw7:ExtW (B ++ [D]) ι4 H4 ι7 H7:=xw.trans dm x37.toW
                  have xwg:ExtW (B ++ [D]) ι4 H4 ι7 (upd H7 D (.lst (us ++ [v]))):=⟨xw7.sub,fun b ob nb hb nt=>by
                    rw [upd_ne (fun e=>nb (List.mem_append_left _ (by rw [e]; exact hDB')))]; exact xw7.keep b ob nb hb nt⟩
                  have rlσ5:Rel F H7 (B ++ [D]) ι7 ρ S5 σ:=⟨rl7.toRelS,pImp (fun _ _ q=>RL.ext x37 q) rlσ.loc⟩
                  have rlw5:Rel F H7 (B ++ [D]) ι7 (wipeL ρ3 vs1) S5 (L2.wipe σ3 vs1):=⟨rl7.toRelS,pImp (fun _ _ q=>RL.ext x37 q) rl2.loc⟩
                  refine ⟨us,hus5,by rw [← reps_len racc5]; exact hz,ι7,S5,acc ++ [yd],us ++ [v],xg,xwg,?_,rlw5.grow hDB' hD5 hus5,rlσ5.grow hDB' hD5 hus5,upd_same,hD5,
                    reps_app (Reps.updE hDx racc5) (.cons (Rep.updE hDx rv) .nil),c5⟩
                  intro b hb
                  by_cases e:b=D
                  · rw [e,upd_same] at hb; cases hb
                  · rw [upd_ne e] at hb; exact dm b (x37.dom b hb)
                · rw [if_neg hz] at c5
                  exact (show False from c5).elim
          · rename_i hk
            rw [if_neg hk] at c4
            exact ⟨ι6,S4,acc,us,x2.trans x36,xw.trans dm x36.toW,fun b hb=>dm b (x36.dom b hb),rlw4,rlσ4,hus4,hD4,Reps.ext x36 racc,c4⟩
  · have e:i=es.length:=by omega
    subst e
    refine .inl ⟨w.stops H2 q,?_⟩
    rw [List.drop_length] at c2
    exact hNx ι2 H2 S2 acc us x2 rlσ hus hD2 racc c2
theorem lc2_of {fi fi1:FI} {gf gf1:FG} {sl sl1:List Nat} {t t1:FT} {fe:FE} {vs vs1:List Nat} {tgr tgr1:TG}
    (hg:GRel F gf sl tgr) (hsl:∀ i∈sl,i∈vs) (hg1:GRel F gf1 sl1 tgr1) (hsl1:∀ i∈sl1,i∈vs1) {Q:VK} {σ:L2.St} {H:Hp}
    (h:tR F Wsh (fLc2 fi gf t fi1 gf1 t1 fe vs vs1) σ H Q):tLc2 (tRI F Wsh fi) tgr (tRT F W0 t) (tRI F W0 fi1) tgr1 (tRT F W0 t1) (tR F W0 fe) vs vs1 σ H Q:=by
  obtain ⟨B,ι,ρ,S,rl,c⟩:=h
  refine ⟨B,ι,ρ,S,rl,c.bind.mono fun ds S1 ι1 H1 _ x1 rl1 c1 J wd D hD=>?_⟩
  obtain ⟨G,Y,w,hG,hY⟩:=wd
  have hDf:=rl1.toRelS.fresh hD
  have hDB:D ∉ B:=fun z=>hDf (List.mem_append_left _ z)
  have hDι:D ∉ flat ι1:=fun z=>hDf (List.mem_append_right _ z)
  have toBig:∀ {ι2:Ads} {H2:Hp} {ρ2:Loc} {S2:Sto} {σ2:L2.St},Rel F H2 (B ++ [D]) ι2 ρ2 S2 σ2→Rel F H2 B ι2 ρ2 S2 σ2:=fun {ι2 H2 ρ2 S2 σ2} r=>r.sub (fun a ha _=>by
    rcases List.mem_append.mp ha with z | z
    · exact List.mem_append_left _ (List.mem_append_left _ z)
    · exact List.mem_append_right _ z) (fun a ha=>r.bs a (List.mem_append_left _ ha)) fun a ha=>r.dis a (List.mem_append_left _ ha)
  have rl0:Rel F (upd H1 D (.lst [])) (B ++ [D]) ι1 ρ S1 σ:=by
    have r0:=rl1.new (o:=.lst []) hD
    refine ⟨⟨r0.nd,r0.len,fun i p ob h1 h2=>?_,r0.tab,fun b hb=>?_,fun b hb=>?_⟩,?_⟩
    · refine ((rl1.obj i p ob h1 h2).sub (B':=B ++ [D]) fun a ha n=>?_).ext (Ext.new hD) fun a ha=>upd_ne fun e=>?_
      · rcases List.mem_append.mp ha with z | z
        · rcases List.mem_append.mp z with z | z
          · exact List.mem_append_left _ z
          · simp at z; rw [z,hD] at n; exact absurd rfl n
        · exact List.mem_append_right _ z
      · rw [e] at ha
        rcases ha with z | z
        · exact hDι (z ▸ mem_flat h1)
        · exact hDι (mem_flat2 h1 z)
    · rcases List.mem_append.mp hb with z | z
      · exact r0.bs b z
      · simp at z; rw [z,upd_same]; simp
    · rcases List.mem_append.mp hb with z | z
      · exact rl1.dis b z
      · simp at z; rw [z]; exact hDι
    · refine pImp (fun a b q=>?_) rl1.loc
      refine RL.ext (Ext.new hD) (RL.sub (B':=B ++ [D]) (fun a ha n=>?_) q)
      rcases List.mem_append.mp ha with z | z
      · rcases List.mem_append.mp z with z | z
        · exact List.mem_append_left _ z
        · simp at z; rw [z,hD] at n; exact absurd rfl n
      · exact List.mem_append_right _ z
  let Pv:Nat→Hp→Prop:=fun i H2=>∃ ι2 S2 acc us,Ext ι1 H1 ι2 H2∧Rel F H2 (B ++ [D]) ι2 ρ S2 σ∧H2 D=some (.lst us)∧D ∉ flat ι2∧RDs F H2 (B ++ [D]) ι2 acc us ∧
      Cont F Wsh B ρ σ ι1 H1 ((compL2 gf t fi1 gf1 t1 fe vs1 (wipeL ρ vs) (ds.drop i) S2 acc).bind fun ys S2=>.ok (.d (.lst ys)) S2) (fun w _ ι' H'=>∀ v,RW F H' B ι' w v→Q v H')
  refine ⟨fun i m H=>m=ds.length - i∧i≤ds.length∧Pv i H,⟨ds.length,by simp,Nat.zero_le _,ι1,S1,[],[],Ext.new hD,rl0,upd_same,hDι,.nil,by simpa using c1⟩,?_⟩
  rintro i m H2 ⟨rfl,hi,p⟩
  obtain ⟨ι2,S2,acc,us,x2,rlσ,hus,hD2,racc,c2⟩:=p
  have q:=hG ι2 H2 x2.toW
  by_cases hlt:i < ds.length
  · refine .inr ⟨w.goes i H2 hlt q,Pv (i + 1),fun H' p'=>⟨ds.length - (i + 1),by omega,rfl,hlt,p'⟩,fun x H3 y=>?_⟩
    have y:=w.yields i H2 x H3 hlt q y
    obtain ⟨hn,d,hd,rd⟩:=hY i (B ++ [D]) ι2 H2 S2 x H3 hlt x2.toW (fun a ha=>by
      rcases List.mem_append.mp ha with z | z
      · exact .inl z
      · simp at z; exact .inr (z ▸ hD)) rlσ.toRelS y
    obtain ⟨rlσ3,x3⟩:=RelS.walked rlσ hn
    have hus3:H3 D=some (.lst us):=x3.keep _ _ hD2 hus nt_lst
    have hdr:ds.drop i=d :: ds.drop (i + 1):=by
      rw [List.drop_eq_getElem_cons hlt]
      rw [List.getElem?_eq_getElem hlt] at hd
      rw [Option.some.inj hd]
    rw [hdr] at c2
    simp only [compL2] at c2
    cases hgd:gf (.d d) (wipeL ρ vs) S2 with
    | none=>rw [hgd] at c2; exact (show False from c2).elim
    | some ρ3 =>
      rw [hgd] at c2
      refine hg (B ++ [D]) ι2 (wipeL ρ vs) S2 (L2.wipe σ vs) H3 (.d d) x ρ3 _ (rlσ3.wipe vs) rd hgd fun σ3 rl4 hw=>⟨?_,?_⟩
      · have e1:=hw vs hsl
        rw [wipe_wipe] at e1
        exact e1
      · refine ⟨B ++ [D],ι2,ρ3,S2,rl4,?_⟩
        revert c2
        simp only []
        generalize ht:t ρ3 S2=rt
        cases rt with
        | err=>exact fun c3=>(show False from c3).elim
        | exn _ _ _=>exact fun c3=>(show False from c3).elim
        | ok k S4 =>
          intro c3 ι4 H4 x4 rl5
          have c4:Cont F Wsh B ρ σ ι1 H1 ((if k=true then (noX (fi1 ρ3 S4)).bind fun es S2=>(compL gf1 t1 fe (wipeL ρ3 vs1) es S2 acc).bind fun acc' S3=>compL2 gf t fi1 gf1 t1 fe vs1 (wipeL ρ vs) (ds.drop (i + 1)) S3 acc'
            else compL2 gf t fi1 gf1 t1 fe vs1 (wipeL ρ vs) (ds.drop (i + 1)) S4 acc).bind fun ys S2=>.ok (.d (.lst ys)) S2) (fun w _ ι' H'=>∀ v,RW F H' B ι' w v→Q v H'):=c3
          have x34:=x3.trans x4
          have hus4:H4 D=some (.lst us):=x4.keep _ _ hD2 hus3 nt_lst
          have hD4:D ∉ flat ι4:=x4.notin hD2 (by rw [hus3]; simp)
          split
          · rename_i hk
            rw [if_pos hk] at c4
            refine ⟨B ++ [D],ι4,ρ3,S4,rl5,?_⟩
            revert c4
            generalize hfi:fi1 ρ3 S4=rf
            cases rf with
            | err=>exact fun c4=>(show False from c4).elim
            | exn _ _ _=>exact fun c4=>(show False from c4).elim
            | ok es S5 =>
              intro c4 ι5 H5 x5 rl6 J1 wd1
              have c5:Cont F Wsh B ρ σ ι1 H1 (((compL gf1 t1 fe (wipeL ρ3 vs1) es S5 acc).bind fun acc' S3=>compL2 gf t fi1 gf1 t1 fe vs1 (wipeL ρ vs) (ds.drop (i + 1)) S3 acc').bind fun ys S2=>.ok (.d (.lst ys)) S2) (fun w _ ι' H'=>∀ v,RW F H' B ι' w v→Q v H'):=c4
              rw [R_bind_assoc] at c5
              have x35:=x34.trans x5
              have hus5:H5 D=some (.lst us):=x5.keep _ _ hD4 hus4 nt_lst
              have hD5:D ∉ flat ι5:=x5.notin hD4 (by rw [hus4]; simp)
              have rlσ5:Rel F H5 (B ++ [D]) ι5 ρ S5 σ:=⟨rl6.toRelS,pImp (fun _ _ q=>RL.ext x35 q) rlσ.loc⟩
              exact in_of hg1 hsl1 (fun _ _ _ q=>q) (fun _ _ _ q=>q) wd1 hD (x2.trans x35) rl6 rlσ5 hus5 hD5 (Reps.ext x35 racc) c5 fun ι6 H6 S6 acc6 us6 x6 rl7 hus6 hD6 racc6 c6=>⟨ι6,S6,acc6,us6,x6,rl7,hus6,hD6,racc6,c6⟩
          · rename_i hk
            rw [if_neg hk] at c4
            exact ⟨ι4,S4,acc,us,x2.trans x34,⟨rl5.toRelS,pImp (fun _ _ q=>RL.ext x34 q) rlσ.loc⟩,hus4,hD4,Reps.ext x34 racc,c4⟩
  · have e:i=ds.length:=by omega
    subst e
    refine .inl ⟨w.stops H2 q,?_⟩
    rw [List.drop_length] at c2
    have c3:Cont F Wsh B ρ σ ι1 H1 (.ok (W.d (.lst acc)) S2) (fun w _ ι' H'=>∀ v,RW F H' B ι' w v→Q v H'):=c2
    refine c3 ι2 H2 x2 (toBig rlσ) _ ?_
    refine .lst (fun z=>?_) hus (Reps.sub (fun a ha _=>?_) racc)
    · rcases List.mem_append.mp z with q | q
      · exact hDB q
      · exact hD2 q
    · rcases List.mem_append.mp ha with z | z
      · exact List.mem_append_left _ (List.mem_append_left _ z)
      · exact List.mem_append_right _ z
theorem r_setLc2 {i:Nat} {y:Str} {py:Pos} {elt tg iter tg1 iter1:Expr} {ifs ifs1:List Expr} {scope:Scope} {own:List (Str×Nat)} {vs1:List Nat} {pos spos:Pos} {fi fi1:FI} {gf gf1:FG} {sl sl1:List Nat} {t t1:FT} {fe:FE} {tgr tgr1:TG} (hc:X.calm=true) (hN:X.N.Nodup) (hy:X.N[i]? = some y) (hyl:X.env.scope.names.lookup y=some .local)
    (hsw:swapsWith (.ListComp elt [⟨tg,iter,ifs,0⟩,⟨tg1,iter1,ifs1,0⟩] scope pos) (some (.Name y py)) spos.line X.env=pure true) (hi:PI X tg iter (tRI F Wsh fi)) (ok:BlkOk X.N X.env.scope scope own) (hv:∀ i∈vs1,i∈own.map (·.2))
    (hr:GRel F gf sl tgr) (hsl:∀ i∈sl,i∈own.map (·.2)) (hr1:GRel F gf1 sl1 tgr1) (hsl1:∀ i∈sl1,i∈vs1)
    (hg:∀ (s:Shared) (H:Hp) (C:Addr) (cl:List (Str×Addr)) (fp:List Addr),PG (X.blk s H scope (compEnvC scope cl C X.env) fp) tg tgr) (ht:∀ (s:Shared) (H:Hp) (C:Addr) (cl:List (Str×Addr)) (fp:List Addr),TestsOk (X.blk s H scope (compEnvC scope cl C X.env) fp) F ifs t)
    (hi1:∀ (s:Shared) (H:Hp) (C:Addr) (cl:List (Str×Addr)) (fp:List Addr),PI (X.blk s H scope (compEnvC scope cl C X.env) fp) tg1 iter1 (tRI F W0 fi1))
    (hg1:∀ (s:Shared) (H:Hp) (C:Addr) (cl:List (Str×Addr)) (fp:List Addr),PG (X.blk s H scope (compEnvC scope cl C X.env) fp) tg1 tgr1) (ht1:∀ (s:Shared) (H:Hp) (C:Addr) (cl:List (Str×Addr)) (fp:List Addr),TestsOk (X.blk s H scope (compEnvC scope cl C X.env) fp) F ifs1 t1)
    (he:∀ (s:Shared) (H:Hp) (C:Addr) (cl:List (Str×Addr)) (fp:List Addr),PE (X.blk s H scope (compEnvC scope cl C X.env) fp) elt (tR F W0 fe)) (hs:∀ x,foldedSetIterable iter X.env x=pure x:=by intro _; rfl) (hs1:∀ env x,foldedSetIterable iter1 env x=pure x:=by intro _ _; rfl) :
    PS X (.Assign [.Name y py] (.ListComp elt [⟨tg,iter,ifs,0⟩,⟨tg1,iter1,ifs1,0⟩] scope pos) spos) (tS F Wsh (sSet i (fLc2 fi gf t fi1 gf1 t1 fe (own.map (·.2)) vs1))) :=
  psImp (ps_setLc2 hc hN hy hyl hsw hi ok hv hg ht hi1 hg1 ht1 he hs hs1) fun D σ H ⟨B,ι,ρ,S,rl,c⟩=>by
    refine lc2_of hr hsl hr1 hsl1 ?_
    exact tS_step rl c fun w v S1 ι1 H1 x1 rl1 rv c1=>c1.nx_here (rl1.set i rv)
end
end Ev
namespace Ev
open PySem PySem.Spec L2
theorem flat_cons (p:Addr×List Addr) (ι:Ads):flat (p :: ι)=(p.1 :: p.2) ++ flat ι:=rfl
theorem flat_app (ι κ:Ads):flat (ι ++ κ)=flat ι ++ flat κ:=by simp [flat]
theorem flat_apart:∀ {ι:Ads} {i j:Nat} {p q:Addr×List Addr} {a:Addr},(flat ι).Nodup→ι[i]? = some p→ι[j]? = some q→i ≠ j→(a=p.1∨a∈p.2)→(a=q.1∨a∈q.2)→False
  | [],_,_,_,_,_,_,h,_,_,_,_=>by simp at h
  | r :: ι,0,0,_,_,_,_,_,_,n,_,_=>absurd rfl n
  | r :: ι,0,j + 1,p,q,a,nd,h1,h2,_,ha,hb=>by
    simp at h1 h2; subst h1
    rw [flat_cons,List.nodup_append] at nd
    exact nd.2.2 a (List.mem_cons.mpr ha) a (List.mem_flatMap.mpr ⟨q,List.mem_iff_getElem?.mpr ⟨j,h2⟩,List.mem_cons.mpr hb⟩) rfl
  | r :: ι,i + 1,0,p,q,a,nd,h1,h2,_,ha,hb=>by
    simp at h1 h2; subst h2
    rw [flat_cons,List.nodup_append] at nd
    exact nd.2.2 a (List.mem_cons.mpr hb) a (List.mem_flatMap.mpr ⟨p,List.mem_iff_getElem?.mpr ⟨i,h1⟩,List.mem_cons.mpr ha⟩) rfl
  | r :: ι,i + 1,j + 1,p,q,a,nd,h1,h2,n,ha,hb=>by
    rw [flat_cons,List.nodup_append] at nd
    exact flat_apart nd.2.1 (by simpa using h1) (by simpa using h2) (fun e=>n (by rw [e])) ha hb
section
variable {F:Fx} {H:Hp} {B:List Addr} {ι:Ads} {S:Sto} {A:Addr} {u:HO}
theorem Ext.upd_in (h:A∈flat ι) (n:H A ≠ none):Ext ι H ι (upd H A u) :=
  ⟨fun _ p h=>⟨p,h,rfl⟩,fun _ z=>.inl z,fun b q=>by
    by_cases e:b=A
    · rw [e,upd_same] at q; cases q
    · rw [upd_ne e] at q; exact q,fun b o nb q _=>by rw [upd_ne (fun e=>nb (by rw [e]; exact h))]; exact q⟩
theorem tabs_in {T:List (Addr×Str)} (t:TabA T H) {o:HO} (h:H A=some o) (n:notTbl o∧∀ c q,o ≠ LamX.CodeO c q) (nt:notTbl u):TabA T (upd H A u):=by
  refine ⟨fun p hp=>?_,fun b ps e=>?_⟩
  · obtain ⟨ps,h1,h2,h3⟩:=t.1 p hp
    refine ⟨ps,?_,h2,fun pos cv hc=>?_⟩
    · rw [upd_ne]
      · exact h1
      · intro e; rw [e,h] at h1; exact n.1 _ (Option.some.inj h1)
    · obtain ⟨c,e1,e2⟩:=h3 pos cv hc
      refine ⟨c,e1,?_⟩
      rw [upd_ne]
      · exact e2
      · intro e; rw [e,h] at e2; exact n.2 _ _ (Option.some.inj e2)
  · by_cases z:b=A
    · rw [z,upd_same] at e; exact absurd (Option.some.inj e) (nt ps)
    · rw [upd_ne z] at e; exact t.2 b ps e
theorem RO.nxd {o:O} {p:Addr×List Addr} (h:RO F H B ι o p) {a:Addr} (ha:a=p.1∨a∈p.2):¬ ∃ fs,H a=some (.xd fs):=by
  rintro ⟨fs,e⟩
  cases o with
  | lst ws =>
    obtain ⟨h0,vs,h1,r⟩:=h
    rcases ha with rfl | ha
    · rw [h1] at e; cases e
    · rw [h0] at ha; simp at ha
  | tup ws =>
    obtain ⟨h0,vs,h1,r⟩:=h
    rcases ha with rfl | ha
    · rw [h1] at e; cases e
    · rw [h0] at ha; simp at ha
  | kd ws =>
    obtain ⟨h0,_,vs,h1,r⟩:=h
    rcases ha with rfl | ha
    · rw [h1] at e; cases e
    · rw [h0] at ha; simp at ha
  | dct ws =>
    obtain ⟨h0,vs,h1,r⟩:=h
    rcases ha with rfl | ha
    · rw [h1] at e; cases e
    · rw [h0] at ha; simp at ha
  | ins c fs =>
    obtain ⟨h0,dx,vs,h1,r⟩:=h
    rcases ha with rfl | ha
    · rw [h1] at e; cases e
    · rw [h0] at ha; simp at ha
  | drw cs ls n =>
    obtain ⟨aC,aL,h0,h1,h2,h3⟩:=h
    rcases ha with rfl | ha
    · rw [h1] at e; cases e
    · rw [h0] at ha
      simp at ha
      rcases ha with rfl | rfl
      · rw [h2] at e; cases e
      · rw [h3] at e; cases e
theorem RelS.put {i:Nat} {p:Addr×List Addr} {o o':O} (r:RelS F H B ι S) (hi:ι[i]? = some p) (ho:S[i]? = some o) (hA:A=p.1∨A∈p.2) (new:RO F (upd H A u) B ι o' p) (nt:notTbl u:=by first | exact nt_tup | exact nt_lst | exact nt_xd | exact nt_dK | exact nt_ins) :
    RelS F (upd H A u) B ι (S.set i o')∧Ext ι H ι (upd H A u):=by
  have ro:=r.obj i p o hi ho
  have hm:A∈flat ι:=by
    rcases hA with rfl | z
    · exact Ev.mem_flat hi
    · exact Ev.mem_flat2 hi z
  have hn:H A ≠ none:=ro.tracked hA
  obtain ⟨w,hw⟩:∃ w,H A=some w:=by
    cases e:H A with
    | none=>exact absurd e hn
    | some w=>exact ⟨w,rfl⟩
  have x:Ext ι H ι (upd H A u):=Ext.upd_in hm hn
  refine ⟨⟨r.nd,by rw [List.length_set]; exact r.len,fun j q ob h1 h2=>?_,tabs_in r.tab hw (ro.ntbl hA hw) nt,fun b hb=>?_,r.dis⟩,x⟩
  · by_cases e:i=j
    · subst e
      rw [hi] at h1
      cases h1
      have hl:i < S.length:=(List.getElem?_eq_some_iff.mp ho).1
      rw [List.getElem?_set_self hl] at h2
      cases h2
      exact new
    · rw [List.getElem?_set_ne e] at h2
      exact (r.obj j q ob h1 h2).updE (List.mem_append_right _ hm) (ro.nxd hA) (fun c q z=>(ro.ntbl hA z).2 c q rfl) fun a ha z=>flat_apart (a:=A) r.nd hi h1 e hA (z ▸ ha)
  · by_cases e:b=A
    · rw [e,upd_same]; simp
    · rw [upd_ne e]; exact r.bs b hb
theorem Rel.put {ρ:Loc} {σ:L2.St} {i:Nat} {p:Addr×List Addr} {o o':O} (r:Rel F H B ι ρ S σ) (hi:ι[i]? = some p) (ho:S[i]? = some o) (hA:A=p.1∨A∈p.2) (new:RO F (upd H A u) B ι o' p) (nt:notTbl u:=by first | exact nt_tup | exact nt_lst | exact nt_xd | exact nt_dK | exact nt_ins) :
    Rel F (upd H A u) B ι ρ (S.set i o') σ∧Ext ι H ι (upd H A u):=by
  obtain ⟨h1,x⟩:=r.toRelS.put hi ho hA new nt
  exact ⟨⟨h1,pImp (fun _ _ q=>RL.ext x q) r.loc⟩,x⟩
theorem Ext.push (h:H A=none):Ext ι H (ι ++ [(A,[])]) (upd H A u) :=
  ⟨fun i p h=>⟨p,by rw [List.getElem?_append_left (List.getElem?_eq_some_iff.mp h).1]; exact h,rfl⟩,fun b z=>by
    rw [flat_app] at z
    rcases List.mem_append.mp z with q | q
    · exact .inl q
    · simp [flat] at q; rw [q]; exact .inr h,(Ext.new (ι:=ι) h).dom,(Ext.new (ι:=ι) h).keep⟩
theorem RelS.push {o':O} (r:RelS F H B ι S) (h:H A=none) (new:RO F (upd H A u) B (ι ++ [(A,[])]) o' (A,[])) (nt:notTbl u:=by first | exact nt_tup | exact nt_lst | exact nt_xd | exact nt_dK | exact nt_ins):RelS F (upd H A u) B (ι ++ [(A,[])]) (S ++ [o']):=by
  have hf:=r.fresh h
  have hB:A ∉ B:=fun z=>hf (List.mem_append_left _ z)
  have hι:A ∉ flat ι:=fun z=>hf (List.mem_append_right _ z)
  have fl:flat (ι ++ [(A,[])])=flat ι ++ [A]:=by rw [flat_app]; simp [flat]
  refine ⟨?_,by simp [r.len],fun j q ob h1 h2=>?_,tabs_new r.tab h nt,fun b hb=>?_,fun b hb=>?_⟩
  · rw [fl,List.nodup_append]
    refine ⟨r.nd,by simp,fun a ha b hb e=>?_⟩
    simp at hb
    exact hι (by rw [← hb,← e]; exact ha)
  · by_cases e:j < ι.length
    · rw [List.getElem?_append_left e] at h1
      rw [List.getElem?_append_left (by rw [← r.len]; exact e)] at h2
      exact (r.obj j q ob h1 h2).ext (Ext.push h) fun a ha=>upd_ne fun z=>hι (by
        rw [← z]
        rcases ha with rfl | ha
        · exact Ev.mem_flat h1
        · exact Ev.mem_flat2 h1 ha)
    · have hl:j=ι.length:=by
        have:=(List.getElem?_eq_some_iff.mp h1).1
        simp at this
        omega
      subst hl
      rw [List.getElem?_append_right (Nat.le_refl _)] at h1
      rw [List.getElem?_append_right (by rw [r.len]; exact Nat.le_refl _),r.len] at h2
      simp at h1 h2
      subst h1 h2
      exact new
  · by_cases e:b=A
    · rw [e,upd_same]; simp
    · rw [upd_ne e]; exact r.bs b hb
  · rw [fl]
    intro z
    rcases List.mem_append.mp z with q | q
    · exact r.dis b hb q
    · simp at q; exact hB (q ▸ hb)
theorem Rel.push {ρ:Loc} {σ:L2.St} {o':O} (r:Rel F H B ι ρ S σ) (h:H A=none) (new:RO F (upd H A u) B (ι ++ [(A,[])]) o' (A,[])) (nt:notTbl u:=by first | exact nt_tup | exact nt_lst | exact nt_xd | exact nt_dK | exact nt_ins):Rel F (upd H A u) B (ι ++ [(A,[])]) ρ (S ++ [o']) σ :=
  ⟨r.toRelS.push h new nt,pImp (fun _ _ q=>RL.ext (Ext.push h) q) r.loc⟩
end
theorem paired_len {α β:Type} {A:α→β→Prop}:∀ {l:List α} {m:List β},Paired A l m→l.length=m.length
  | _,_,.nil=>rfl
  | _,_,.cons _ t=>by simp [paired_len t]
theorem paired_app {α β:Type} {A:α→β→Prop}:∀ {l l':List α} {m m':List β},Paired A l m→Paired A l' m'→Paired A (l ++ l') (m ++ m')
  | _,_,_,_,.nil,h=>h
  | _,_,_,_,.cons r t,h=>.cons r (paired_app t h)
section
variable {X:Cx} {F:Fx} {Wsh:WX} {es:List Expr} {e o tg:Expr} {f g:FE} {fa:FA} {pos p apos:Pos}
def fNewL (g:FA):FE:=fun ρ S=>(g ρ S).bind fun ws S1=>if ws.length≤sizeLine then .ok (.ref S1.length) (S1 ++ [.lst ws]) else .err
theorem new_ref {H:Hp} {B:List Addr} {ι:Ads} {ρ:Loc} {S:Sto} {σ:L2.St} {ws:List W} {vs:List V} {a:Addr} {Q:VK} (rl:Rel F H B ι ρ S σ) (rv:RWs F H B ι ws vs) (h:H a=none)
    (c:Cont F Wsh B ρ σ ι H (.ok (.ref S.length) (S ++ [.lst ws])) (fun w _ ι' H'=>∀ v,RW F H' B ι' w v→Q v H')):Q (.ref a) (upd H a (.lst vs)):=by
  have x:Ext ι H (ι ++ [(a,[])]) (upd H a (.lst vs)):=Ext.push h
  refine c _ _ x (rl.push h ⟨rfl,vs,upd_same,RWs.ext x rv⟩) _ ⟨(a,[]),?_,rfl⟩
  rw [List.getElem?_append_right (by rw [rl.len]; exact Nat.le_refl _),rl.len]
  simp
theorem r_newL (h:PA X es (tRA F Wsh fa)):PE X (.List es pos) (tR F Wsh (fNewL fa)):=peImp (pe_lst h) fun σ H Q ⟨B,ι,ρ,S,rl,c⟩=>by
  refine tRA_step rl c fun ws vs S1 ι1 H1 x1 rl1 rv c1=>?_
  split at c1
  · rename_i hz
    exact ⟨by rw [← paired_len rv]; exact hz,fun p hp=>new_ref rl1 rv hp c1⟩
  · exact (show False from c1).elim
def opApp (w:W) (ws:List W) (S:Sto):R W:=match w,ws with
  | .ref i,[y]=>match S[i]? with
    | some (.lst xs)=>if xs.length < sizeLine then .ok (.d .non) (S.set i (.lst (xs ++ [y]))) else .err
    | _=>.err
  | _,_=>.err
def isLstR (w:W) (S:Sto):Bool:=match w with
  | .ref i=>match S[i]? with
    | some (.lst _)=>true
    | _=>false
  | .d (.lst _)=>true
  | _=>false
def fMeth (chk:W→Sto→Bool) (op:W→List W→Sto→R W) (f:FE) (fa:FA):FE:=fun ρ S=>(f ρ S).bind fun w S1=>if chk w S1=true then (fa ρ S1).bind fun ws S2=>op w ws S2 else .err
theorem RelS.at_ref {H:Hp} {B:List Addr} {ι:Ads} {S:Sto} {i:Nat} {v:V} {o:O} (r:RelS F H B ι S) (rv:RW F H B ι (.ref i) v) (ho:S[i]? = some o):∃ p,ι[i]? = some p∧v=.ref p.1∧RO F H B ι o p:=by
  obtain ⟨p,hp,e⟩:=rv
  exact ⟨p,hp,e,r.obj i p o hp ho⟩
theorem isLst_ty {H:Hp} {B:List Addr} {ι:Ads} {S:Sto} {w:W} {v:V} (r:RelS F H B ι S) (rv:RW F H B ι w v) (h:isLstR w S=true):tyV F.K "list" v H:=by
  unfold isLstR at h
  split at h
  · split at h
    · rename_i i ws e
      obtain ⟨p,hp,rfl,_,vs,h1,_⟩:=r.at_ref rv e
      exact .inl ⟨rfl,_,SqL.of h1⟩
    · cases h
  · obtain ⟨a,vs,rfl,h1,_⟩:=sq_keepL rv
    exact .inl ⟨rfl,_,h1⟩
  · cases h
theorem r_append (hK:X.K=F.K) (ho:PE X o (tR F Wsh f)) (ha:PA X [e] (tRA F Wsh fa)) (hbase:attributeBase o "append" X.env (eval o X.env)=eval o X.env:=by rfl)
    (hfew:((backTo pos (starEach [e] X.env)).all (fun x=>!x.1) && (backToKw pos (keywordEach [] X.env)).all (fun x=>x.1.isSome)
      && decide ([e].length + ([]:List Keyword).length + (if ([]:List Keyword).isEmpty then 0 else 1) < 30))=true:=by rfl)
    (hline:(apos.endLine == pos.line)=true:=by rfl) (hs:starEach [e] X.env=(false,eval e X.env) :: starEach [] X.env:=by rfl) :
    PE X (.Call (.Attribute o "append" apos) [e] [] pos) (tR F Wsh (fMeth isLstR opApp f fa)) :=
  peImp (pe_bm PySem.F.plainAttrs_list PySem.F.slot_list_append PySem.F.type_list_append mt_append ho ha hbase hfew hline hs rfl) fun σ H Q ⟨B,ι,ρ,S,rl,c⟩=>by
    refine tR_step rl c fun w v S1 ι1 H1 x1 rl1 rv c1=>?_
    split at c1
    · rename_i hk
      refine ⟨by rw [hK]; exact isLst_ty rl1.toRelS rv hk,?_⟩
      refine tRA_step rl1 c1 fun ws vs S2 ι2 H2 x2 rl2 rvs c2=>?_
      unfold opApp at c2
      split at c2
      · rename_i i y
        split at c2
        · rename_i xs e
          split at c2
          · rename_i hz
            obtain ⟨u,rfl,ru⟩:=one_arg rvs
            obtain ⟨p,hp,rfl,h0,us,h1,rus⟩:=rl2.toRelS.at_ref (RW.ext x2 rv) e
            have hm:p.1∈B ++ flat ι2:=List.mem_append_right _ (mem_flat hp)
            have nx:¬ ∃ fs,H2 p.1=some (.xd fs):=fun ⟨fs,z⟩=>by rw [h1] at z; cases z
            have n2:NoC H2 p.1:=noC_of h1 fun _ z=>nomatch z
            obtain ⟨rl3,x3⟩:=rl2.put (A:=p.1) (u:=.lst (us ++ [u])) (o':=.lst (xs ++ [y])) hp e (.inl rfl) ⟨h0,us ++ [u],upd_same,paired_app (pImp (fun _ _ q=>RW.updE hm nx n2 q) rus) (.cons (RW.updE hm nx n2 ru) .nil)⟩
            exact ⟨p.1,us,u,rfl,rfl,h1,by rw [← paired_len rus]; exact hz,c2 _ _ x3 rl3 _ .non⟩
          · exact (show False from c2).elim
        · exact (show False from c2).elim
      · exact (show False from c2).elim
    · exact (show False from c1).elim
end
end Ev
namespace Ev
open PySem PySem.Spec L2
open PyProof.Rows (envOfC)
def noF:W→Bool
  | .fn=>false
  | _=>true
def noFO:O→Bool
  | .lst ws=>ws.all noF
  | .tup ws=>ws.all noF
  | .kd kvs=>kvs.all fun p=>noF p.2
  | .dct kvs=>kvs.all fun p=>noF p.2
  | .drw _ _ _=>true
  | .ins _ fs=>fs.all fun p=>noF p.2
def cleanL (ρ:Loc):Loc:=ρ.map fun w=>match w with
  | some (.exc _ _)=>none
  | some .fn=>none
  | w=>w
def withL (F:Fx) (a c:Addr) (q:Str) (ρL:Loc) (σL:L2.St):Fx:={ F with lam:=some (a,c,q,ρL,σL) }
section
variable {F:Fx} {H:Hp} {B:List Addr} {ι:Ads} {a c:Addr} {q:Str} {ρL:Loc} {σL:L2.St}
theorem RW.inL (h0:F.lam=none):∀ {w:W} {v:V},RW F H B ι w v→RW (withL F a c q ρL σL) H B ι w v
  | .d _,_,h=>h
  | .ref _,_,h=>h
  | .exc _ _,_,h=>h
  | .fn,_,⟨_,_,_,_,_,e,_⟩=>by rw [h0] at e; cases e
theorem RW.outL:∀ {w:W} {v:V},noF w=true→RW (withL F a c q ρL σL) H B ι w v→RW F H B ι w v
  | .d _,_,_,h=>h
  | .ref _,_,_,h=>h
  | .exc _ _,_,_,h=>h
  | .fn,_,n,_=>by simp [noF] at n
theorem RO.inL (h0:F.lam=none) {o:O} {p:Addr×List Addr} (h:RO F H B ι o p):RO (withL F a c q ρL σL) H B ι o p:=by
  cases o with
  | lst ws=>obtain ⟨z,vs,e,r⟩:=h; exact ⟨z,vs,e,pImp (fun _ _ q=>RW.inL h0 q) r⟩
  | tup ws=>obtain ⟨z,vs,e,r⟩:=h; exact ⟨z,vs,e,pImp (fun _ _ q=>RW.inL h0 q) r⟩
  | kd ws=>obtain ⟨z,o,vs,e,r⟩:=h; exact ⟨z,o,vs,e,pImp (fun _ _ q=>⟨q.1,q.2.1,q.2.2.1,q.2.2.2.elim fun v t=>⟨v,t.1,RW.inL h0 t.2⟩⟩) r⟩
  | dct ws=>obtain ⟨z,vs,e,r⟩:=h; exact ⟨z,vs,e,pImp (fun _ _ q=>⟨q.1,RW.inL h0 q.2⟩) r⟩
  | ins c fs=>obtain ⟨z,dx,vs,e,r⟩:=h; exact ⟨z,dx,vs,e,pImp (fun _ _ q=>⟨q.1,RW.inL h0 q.2⟩) r⟩
  | drw _ _ _=>exact h
theorem RO.outL {o:O} {p:Addr×List Addr} (n:noFO o=true) (h:RO (withL F a c q ρL σL) H B ι o p):RO F H B ι o p:=by
  cases o with
  | lst ws=>obtain ⟨z,vs,e,r⟩:=h; exact ⟨z,vs,e,paired_all (P:=fun w=>noF w=true) (List.all_eq_true.mp (by simpa [noFO] using n)) (fun _ _ a b=>RW.outL a b) r⟩
  | tup ws=>obtain ⟨z,vs,e,r⟩:=h; exact ⟨z,vs,e,paired_all (P:=fun w=>noF w=true) (List.all_eq_true.mp (by simpa [noFO] using n)) (fun _ _ a b=>RW.outL a b) r⟩
  | dct ws=>obtain ⟨z,vs,e,r⟩:=h; exact ⟨z,vs,e,paired_all (P:=fun p:Key×W=>noF p.2=true) (List.all_eq_true.mp (by simpa [noFO] using n)) (fun _ _ a b=>⟨b.1,RW.outL a b.2⟩) r⟩
  | ins c fs=>obtain ⟨z,dx,vs,e,r⟩:=h; exact ⟨z,dx,vs,e,paired_all (P:=fun p:Str×W=>noF p.2=true) (List.all_eq_true.mp (by simpa [noFO] using n)) (fun _ _ a b=>⟨b.1,RW.outL a b.2⟩) r⟩
  | kd ws=>obtain ⟨z,o,vs,e,r⟩:=h; exact ⟨z,o,vs,e,paired_all (P:=fun p:D×W=>noF p.2=true) (List.all_eq_true.mp (by simpa [noFO] using n)) (fun _ _ a q=>⟨q.1,q.2.1,q.2.2.1,q.2.2.2.elim fun v t=>⟨v,t.1,RW.outL a t.2⟩⟩) r⟩
  | drw _ _ _=>exact h
theorem RelS.inL (h0:F.lam=none) {S:Sto} (r:RelS F H B ι S):RelS (withL F a c q ρL σL) H B ι S:=⟨r.nd,r.len,fun i p o h1 h2=>(r.obj i p o h1 h2).inL h0,r.tab,r.bs,r.dis⟩
theorem RelS.outL {S:Sto} (n:S.all noFO=true) (r:RelS (withL F a c q ρL σL) H B ι S):RelS F H B ι S :=
  ⟨r.nd,r.len,fun i p o h1 h2=>(r.obj i p o h1 h2).outL (List.all_eq_true.mp n o (List.mem_iff_getElem?.mpr ⟨i,h2⟩)),r.tab,r.bs,r.dis⟩
theorem captured:∀ {ρ:Loc} {σ:L2.St},Paired (RL F H B ι) ρ σ→Paired (RCL F.K F.cls H B ι) (cleanL ρ) σ
  | _,_,.nil=>.nil
  | some (.d x) :: _,some v :: _,.cons q t=>.cons q (captured t)
  | some (.ref x) :: _,some v :: _,.cons q t=>.cons q (captured t)
  | some (.exc _ _) :: _,_ :: _,.cons q t=>.cons trivial (captured t)
  | some .fn :: _,_ :: _,.cons q t=>.cons trivial (captured t)
  | none :: _,_ :: _,.cons q t=>.cons trivial (captured t)
theorem rcl_rl:∀ {w:Option W} {v:Option V},RCL F.K F.cls H B ι w v→RL F H B ι w v
  | none,_,_=>trivial
  | some (.d _),some _,h=>h
  | some (.ref _),some _,h=>h
end
def fAct (act:Sto→R W):FE:=fun ρ S=>match ρ[0]? with
  | some (some W.fn)=>act S
  | _=>.err
section
variable {X:Cx} {F:Fx}
theorem lam_new {pins:List (Addr×Obj)} {σ:L2.St} {H:Hp} {s:Shared} {T:List (Addr×Str)} {c P:Addr} {params:Arguments} {body:Expr} {scope:Scope} {pos:Pos} {E:Value→Shared→Prop} {Q:Value→Shared→Prop} (J:Inv X pins σ H s) (B:LamX.TabB X.base X.mg c P) (ec:X.env.code=.ref c)
    (mem:(P,X.env.qual ++ "<lambda>")∈T) (one:∀ p∈T,p.1=P→p.2=X.env.qual ++ "<lambda>") (t:TabA T H) (nod:defaultsOf params X.env=([],[])) (fr:∀ y∈scope.names,y.2=.free→∃ c,X.env.cells.lookup y.1=some c)
    (hQ:∀ (f c':Addr) (pm ctv:Value) (H1:Hp) (s':Shared),Inv X pins σ H1 s'→LamX.ExtN H H1→TabA T H1 →
      s'.heap.get? f=some (PySem.W.kla_obj "<lambda>" (X.env.qual ++ "<lambda>") params body scope (cloFrom X.env.cells scope.names []) pm c' ctv)→H1 f=none→f ∉ frs X.stack →
      H1 c'=some (LamX.CodeO c' (X.env.qual ++ "<lambda>"))→Q (.ref f) s') :
    wpAny (model X.prog X.w) X.A (eval (.Lambda params body scope pos) X.env) Q E s:=by
  obtain ⟨qs,atP,tri,all⟩:=t.1 _ mem
  apply PySem.W.kla_eval nod
  have bP:=B.bm.keeps J.bk
  have hp:s.heap.get? P=some { cls:=.none,data:=.fields qs }:=J.hok P _ atP
  have away:∀ f,s.heap.objs.size≤f→f ∉ frs X.stack:=by
    intro f le mm
    cases List.mem_cons.mp (J.stkSub _ mm) with
    | inl e =>
      have lt:=J.lt
      rw [← e] at lt
      exact absurd (Nat.lt_of_lt_of_le lt le) (Nat.lt_irrefl _)
    | inr e=>exact J.nofs le e
  cases am:codeAmong pos qs.toList with
  | some cv =>
    obtain ⟨c0,rfl,known⟩:=all pos cv am
    apply PySem.W.kla_makeFunctionHit (mg:=X.mg) (c:=c) (P:=P) (ps:=qs) (closure_ok fr) J.ok.glob (J.mod.glob.keeps J.bk) ec (B.code.keeps J.bk) hp tri am bP
    intro ctv h2 tk kp le
    refine hQ h2.objs.size c0 ((X.mg "__name__").getD .none) ctv H _ ?_ (LamX.ExtN.refl H) t (Heap.get?_push_size _ rfl) (J.hok.fresh le) (away _ le) known
    exact J.kept fun b o e=>Heap.get?_push_of_some _ (kp b o e)
  | none =>
    apply PySem.W.kla_makeFunction (mg:=X.mg) (c:=c) (P:=P) (ps:=qs) (closure_ok fr) J.ok.glob (J.mod.glob.keeps J.bk) ec (B.code.keeps J.bk) hp tri am B.gP bP
    rintro c0 ctv h2 tk kp ge lt ⟨c9,oc,fs,tok,e9,g1,g2,g3⟩ tb
    cases e9
    have le:s.heap.objs.size≤h2.objs.size:=by omega
    have new:H c0=none:=J.hok.fresh ge
    have nPc:P ≠ c0:=ne_of_none atP new
    have eL:(qs ++ #[rawInt pos.line,rawInt pos.col,.ref c0]).toList=qs.toList ++ [rawInt pos.line,rawInt pos.col,.ref c0]:=by simp
    have J1:=LamX.inv_table (t':=tk) (more:=#[rawInt pos.line,rawInt pos.col,.ref c0]) J atP (h':=h2.push (PySem.W.kla_obj "<lambda>" (X.env.qual ++ "<lambda>") params body scope (cloFrom X.env.cells scope.names []) ((X.mg "__name__").getD .none) c0 ctv))
      (fun b o nb e=>Heap.get?_push_of_some _ (kp b o nb e)) (Heap.get?_push_of_some _ tb) ge ⟨oc,fs,tok,Heap.get?_push_of_some _ g1,g2,g3⟩
    have on:LamX.ExtN H (upd (upd H P (.tbl (qs ++ #[rawInt pos.line,rawInt pos.col,.ref c0]))) c0 (LamX.CodeO c0 (X.env.qual ++ "<lambda>"))):=by
      intro b o e nt
      rw [upd_ne (ne_of_none e new),upd_ne]
      · exact e
      · intro z
        subst z
        rw [atP] at e
        exact nt _ (Option.some.inj e).symm
    refine hQ h2.objs.size c0 _ ctv _ _ J1 on ⟨fun p hpT=>?_,fun b ps e=>?_⟩ (Heap.get?_push_size _ rfl) ?_ (away _ le) upd_same
    · by_cases z:p.1=P
      · rw [one p hpT z,z]
        refine ⟨qs ++ #[rawInt pos.line,rawInt pos.col,.ref c0],by rw [upd_ne nPc,upd_same],by rw [eL]; exact PySem.TriplesOk_snoc _ _ _ _ tri,fun p2 cv hcv=>?_⟩
        rw [eL] at hcv
        cases LamX.among_app _ tri hcv with
        | inl y =>
          obtain ⟨c3,r1,r2⟩:=all p2 cv y
          exact ⟨c3,r1,on _ _ r2 LamX.codeO_ne⟩
        | inr y=>exact ⟨c0,y,upd_same⟩
      · obtain ⟨ps2,b1,b2,b3⟩:=t.1 p hpT
        refine ⟨ps2,by rw [upd_ne (ne_of_none b1 new),upd_ne z]; exact b1,b2,fun p2 cv hcv=>?_⟩
        obtain ⟨c3,r1,r2⟩:=b3 p2 cv hcv
        exact ⟨c3,r1,on _ _ r2 LamX.codeO_ne⟩
    · by_cases z:b=c0
      · rw [z,upd_same] at e
        exact absurd (Option.some.inj e) (LamX.codeO_ne ps)
      · rw [upd_ne z] at e
        by_cases y:b=P
        · rw [y]; exact ⟨_,mem⟩
        · rw [upd_ne y] at e; exact t.2 b ps e
    · rw [upd_ne (show h2.objs.size ≠ c0 by omega),upd_ne (show h2.objs.size ≠ P from Nat.ne_of_gt (Nat.lt_of_lt_of_le (Heap.lt_size hp) le))]
      exact J.hok.fresh le
abbrev cxT (X:Cx) (Ng:List Str) (x:Str) (sg:Scope) (g:Addr) (cdg:Value) (s:Shared) (H:Hp):Cx :=
  cxOf C8.CX0 X.prog X.w X.K X.mg X.base Ng x sg g cdg X.A X.stack s H C8.E0
theorem act_at {pins:List (Addr×Obj)} {σ:L2.St} {H:Hp} {s:Shared} {Ng:List Str} {x:Str} {sg:Scope} {g f c':Addr} {cdg pm ctv:Value} {params:Arguments} {body:Expr} {scope:Scope} {k i:Nat} {a:Str} {pn:List (Addr×Obj)} {xe:Value→Shared→Prop} {W:WX} {tb:XK→TE} {p1 p2:Pos}
    (I:Inv X pins σ H s) (L:LamX.LamS X.env.scope scope)
    (there:s.heap.get? f=some (PySem.W.kla_obj "<lambda>" (X.env.qual ++ "<lambda>") params body scope (cloFrom X.env.cells scope.names []) pm c' ctv)) (un0:H f=none) (un1:f ∉ frs X.stack)
    (bnd:bindArgs (PySem.W.kla_fn "<lambda>" (X.env.qual ++ "<lambda>") params body scope (cloFrom X.env.cells scope.names []) pm (.ref c') ctv) ⟨[],[]⟩=pure [])
    (tk:Takes ((cxT X Ng x sg g cdg s H).tr pn xe) W) (room:Room (k + 1) (X.A.deeper (envOfC x sg s.heap.objs.size g cdg)))
    (rd:∀ (A:Around) (outer:List Env) (s:Shared) (H:Hp) (E:XK),Room k (A.deeper (LamX.lamEnv X scope s.heap.objs.size f c'))→PE (LamX.lamCx X A outer s H E scope f c') body (tb E))
    (hN:Ng[i]? = some a) (hv:Vis sg a) (hd:(a == ("__debug__":Str))=false) (hcd:(a == ("__classdict__":Str))=false) :
    PE ((cxT X Ng x sg g cdg s H).tr pn xe) (.Call (.Name a p1) [] [] p2)
      (fun σz Hz Q=>σz[i]? = some (some (.ref f))∧Hz c'=some (LamX.CodeO c' (X.env.qual ++ "<lambda>"))∧tb (WE W σz) σ Hz Q):=by
  constructor
  rintro pz sz σz Hz Q Iz ⟨h1,h2,h3⟩
  have ld:=(pe_var (X:=(cxT X Ng x sg g cdg s H).tr pn xe) (pos:=p1) (i:=i) hN hv hd hcd).run pz sz σz Hz (fun y Hy=>y=.ref f∧Hy=Hz) Iz ⟨.ref f,h1,rfl,rfl⟩
  apply wpAny_Call_Name_kw
  refine thn ld ?_
  rintro u t1 ⟨y,Hy,Iy,ry,ey,eH⟩
  rw [ey] at ry
  rw [eH] at Iy
  cases ry
  have now:=Iy.base.keep f _ there un0 un1 (fun z=>nomatch (show f∈([]:List Addr) from z))
  apply PySem.W.callWith_F0 ⟨_,_,_,_,now⟩
  have bare:Un (frs X.stack) [] H Hz s.heap t1.heap:=Iy.base
  obtain ⟨⟨oc,fs,tok,g1,g2,g3⟩,_,_⟩:=Iy.hok c' _ h2
  apply wpAny_call
  have run:codeAny (model X.prog X.w) (X.A.deeper (envOfC x sg s.heap.objs.size g cdg)) (.call (.ref f) ⟨[],[]⟩)
      (CR (L2.CX X.prog X.w) (envOfC x sg s.heap.objs.size g cdg :: X.stack) X.prog X.w Hz t1 Q (WE W σz)) t1:=by
    apply PySem.W.kla_callFunE room.depth now rfl L.co L.gen rfl ⟨c',oc,fs,tok,rfl,g1,g2,g3⟩
    rw [bnd]
    apply wpAny_pure
    refine wpAny_newFunctionEnv (fun y hy=>(L.own y hy).2) (fun y hy=>absurd hy (by simp)) ?_ L.kind
    intro hh ns sb
    refine ⟨Iy.nolimit.fresh _ sb,?_⟩
    have kept:∀ b o,t1.heap.get? b=some o→hh.get? b=some o:=fun b o e=>sb.extBut b o (Nat.ne_of_lt (Heap.lt_size e)) (Heap.get?_push_of_some _ e)
    have J:=LamX.lam_start2 (c':=c') (f:=f) (E:=WE W σz) (tk:=t1.toks + ([]:List (Str×Value)).length) I L Iy.env0 room.hd bare ns kept
    refine PySem.W.kla_codeExpr (wpAny_mono ((rd _ _ t1 Hz (WE W σz) (room.deeper _)).run [] _ _ Hz Q J h3) ?_ fun _ _ z=>z)
    rintro v t2 ⟨w2,H2,J2,rv,q2⟩
    exact ⟨w2,H2,J2.os,J2.bare,J2.base,J2.hok,rv,q2⟩
  refine codeAny_mono run ?_
  rintro (e | fl) t3 hq
  · exact passAt tk σz pz Hz t1 e t3 Iy hq
  · cases fl with
    | ret u=>exact Iy.after hq
    | _=>exact (show False from hq).elim
abbrev TF:=(Sto→R W)→Sto→R W
def Given (X:Cx) (F:Fx) (Ng:List Str) (x:Str) (sg:Scope) (g:Addr) (cdg:Value) (bg:List Stmt) (a q:Str) (told:TF) (k:Nat):Prop :=
  ∀ (f c':Addr) (ρL:Loc) (σL:L2.St) (s:Shared) (H:Hp) (Q:VK) (act:Sto→R W) (B:List Addr) (ι:Ads) (S:Sto),Room k (X.A.deeper (envOfC x sg s.heap.objs.size g cdg)) →
    (∀ (W:WX) (pn:List (Addr×Obj)) (xe:Value→Shared→Prop) (p1 p2:Pos),Takes ((cxT X Ng x sg g cdg s H).tr pn xe) W →
      PE ((cxT X Ng x sg g cdg s H).tr pn xe) (.Call (.Name a p1) [] [] p2) (tR (withL F f c' q ρL σL) W (fAct act))) →
    RelS (withL F f c' q ρL σL) H B ι S→RW (withL F f c' q ρL σL) H B ι .fn (.ref f)→CCont (withL F f c' q ρL σL) B ι H Q (fun _ _ _=>False) (told act S) →
    ∃ t,PSs (cxT X Ng x sg g cdg s H).nox bg t∧t { nx:=fun _ H'=>Q .non H',rt:=Q } (L2.start Ng [.ref f]) H
theorem given_of {Ng:List Str} {x:Str} {sg:Scope} {g:Addr} {cdg:Value} {bg:List Stmt} {a q:Str} {gg:(Sto→R W)→FS} {k:Nat}
    (hb:∀ (F':Fx) (f c':Addr) (ρL:Loc) (σL:L2.St) (s:Shared) (H:Hp) (act:Sto→R W),F'=withL F f c' q ρL σL→Room k (X.A.deeper (envOfC x sg s.heap.objs.size g cdg)) →
      (∀ (W:WX) (pn:List (Addr×Obj)) (xe:Value→Shared→Prop) (p1 p2:Pos),Takes ((cxT X Ng x sg g cdg s H).tr pn xe) W →
        PE ((cxT X Ng x sg g cdg s H).tr pn xe) (.Call (.Name a p1) [] [] p2) (tR F' W (fAct act))) →
      PSs (cxT X Ng x sg g cdg s H).nox bg (tS F' W0 (gg act))) :
    Given X F Ng x sg g cdg bg a q (fun act=>bodyF Ng.length (gg act) [.fn]) k:=by
  intro f c' ρL σL s H Q act B ι S hr hact rs rf cc
  refine ⟨_,hb _ f c' ρL σL s H act rfl hr hact,B,ι,[some .fn] ++ List.replicate (Ng.length - 1) none,S,⟨rs,?_⟩,?_⟩
  · unfold L2.start
    exact start_rel (ws:=[.fn]) (vs:=[.ref f]) _ (.cons rf .nil)
  · unfold bodyF at cc
    revert cc
    show CCont _ B ι H Q _ (match gg act ([some .fn] ++ List.replicate (Ng.length - 1) none) S with
      | .rt w S1=>.ok w S1
      | .nx _ S1=>.ok (.d .non) S1
      | .exn c x _ S1=>.exn c x S1
      | _=>.err)→_
    cases gg act ([some .fn] ++ List.replicate (Ng.length - 1) none) S with
    | nx ρ S1=>exact fun c ι' H' σ' x r=>c ι' H' .non x r.toRelS .non
    | rt w S1=>exact fun c ι' H' v x r rv=>c ι' H' v x r rv
    | exn cc d ρ S1=>exact fun c ι' H' σ' cv od x r rx=>c ι' H' cv od x r.toRelS rx
    | bk _ _=>exact fun c=>(show False from c).elim
    | ct _ _=>exact fun c=>(show False from c).elim
    | err=>exact fun c=>(show False from c).elim
def fTold (told:TF) (fl:FE):FE:=fun ρ S=>match told (fun S'=>if S'.all noFO=true then fl (cleanL ρ) S' else .err) S with
  | .ok w S1=>if noF w && S1.all noFO then .ok w S1 else .err
  | _=>.err
theorem r_lam {Wsh:WX} {told:TF} {x a:Str} {g c P:Addr} {k:Nat} {pg:Arguments} {bg:List Stmt} {sg:Scope} {dV kV doc pm cdv ct oc:Value} {an od:Option Addr} {osl:Array (Option Value)} {Ng:List Str}
    {params:Arguments} {body:Expr} {scope:Scope} {fl:FE} {p lpos pos:Pos} (h0:F.lam=none) (hK:X.K=F.K) (hg:Gl X x) (hm:X.mg x=some (.ref g)) (hk:PySem.W.keepIn X.K (.ref g)=true)
    (lk:X.K.lookup g=some ⟨oc,od,.func (PySem.W.fnOf x x pg bg sg dV kV doc pm an cdv ct),osl⟩) (hcg:PySem.W.codeIn X.K cdv x=true) (hb:L2.Binds X.K (PySem.W.fnOf x x pg bg sg dV kV doc pm an cdv ct) [a] []) (Sg:FnScope Ng [a] sg) (hNg:Ng[0]? = some a) (hva:Vis sg a)
    (hG:Given X F Ng x sg g cdv bg a (X.env.qual ++ "<lambda>") told (k + 1))
    (TB:LamX.TabB X.base X.mg c P) (hcode:X.env.code=.ref c) (hmT:(P,X.env.qual ++ "<lambda>")∈F.T) (hu:∀ p∈F.T,p.1=P→p.2=X.env.qual ++ "<lambda>") (hr:Room (k + 2) X.A) (L:LamX.LamS X.env.scope scope) (hdef:defaultsOf params X.env=([],[]))
    (hbind:∀ (q:Str) (cl:List (Str×Addr)) (pm cv ctv:Value),bindArgs (PySem.W.kla_fn "<lambda>" q params body scope cl pm cv ctv) ⟨[],[]⟩=pure [])
    (hbody:∀ (A:Around) (outer:List Env) (s:Shared) (H:Hp) (E:XK) (f c':Addr),Room k (A.deeper (LamX.lamEnv X scope s.heap.objs.size f c'))→PE (LamX.lamCx X A outer s H E scope f c') body (tR F (fun cls d _ H=>E cls d H) fl))
    (hdb:(x == ("__debug__":Str))=false:=by decide) (hd:(a == ("__debug__":Str))=false:=by decide) (hcd:(a == ("__classdict__":Str))=false:=by decide) :
    PE X (.Call (.Name x p) [.Lambda params body scope lpos] [] pos) (tR F Wsh (fTold told fl)):=by
  constructor
  rintro pins s σ H Q I ⟨B,ι,ρ,S,rl,cn⟩
  apply wpAny_Call_Name_kw
  refine ld_glob I hg hm ?_ hdb
  refine PySem.W.callWith_K (h₀:=X.base) I.ok.mod.kin hk ?_ (by rfl) (by rfl)
  show wpAny _ _ (spliced ((false,eval (.Lambda params body scope lpos) X.env) :: backTo pos (starEach [] X.env))) _ _ s
  refine Calls.spliced_cons (lam_new I TB hcode hmT hu rl.tab hdef (L.has I.ok) ?_)
  intro f c' pm' ctv H1 s1 I1 eN T1 there un0 un1 hco
  apply Calls.spliced_nil
  refine ⟨I1.kIn,?_⟩
  have x1:Ext ι H ι H1:=by
    refine ⟨fun _ p h=>⟨p,h,rfl⟩,fun _ z=>.inl z,fun b z=>?_,fun b o _ h nt=>eN b o h nt⟩
    cases e:H b with
    | none=>rfl
    | some o =>
      by_cases nt:notTbl o
      · rw [eN b o e nt] at z; cases z
      · have:∃ ps,o=.tbl ps:=Classical.byContradiction fun n=>nt fun ps h=>n ⟨ps,h⟩
        obtain ⟨ps,rfl⟩:=this
        obtain ⟨q,hq⟩:=rl.tab.2 b ps e
        obtain ⟨ps',h1,_⟩:=T1.1 _ hq
        rw [z] at h1
        cases h1
  have keep1:∀ b∈flat ι,H1 b=H b:=fun b hb=>by
    obtain ⟨i,p,o,h1,h2,ro,hp⟩:=rl.toRelS.mem_flat hb
    cases e:H b with
    | none=>exact absurd e (ro.tracked hp)
    | some u=>exact eN b u e (ro.ntbl hp e).1
  have rl1:Rel F H1 B ι ρ S σ:=rl.stay x1 keep1 T1
  have hcn:c' ∉ flat ι:=fun z=>by
    obtain ⟨i,p,o,h1,h2,ro,hp⟩:=rl1.toRelS.mem_flat z
    exact (ro.ntbl hp hco).2 _ _ rfl
  unfold fTold at cn
  have rc:codeAny (model X.prog X.w) X.A (.call (.ref g) ⟨[.ref f],[]⟩) (CR C8.CX0 X.stack X.prog X.w H1 s1 Q C8.E0) s1:=by
    refine LamX.run_ofS (N:=Ng) (ps:=[a]) (us:=[.ref f]) (vs:=[.ref f]) lk hcg Sg hr I1.env0 (hb s1 [.ref f] I1.kIn rfl) (.cons rfl .nil) rfl fun hr'=>?_
    have h1:∀ (W:WX) (pn:List (Addr×Obj)) (xe:Value→Shared→Prop) (p1 p2:Pos),Takes ((cxT X Ng x sg g cdv s1 H1).tr pn xe) W →
        PE ((cxT X Ng x sg g cdv s1 H1).tr pn xe) (.Call (.Name a p1) [] [] p2) (tR (withL F f c' (X.env.qual ++ "<lambda>") (cleanL ρ) σ) W (fAct (fun S'=>if S'.all noFO=true then fl (cleanL ρ) S' else .err))):=by
      intro W pn xe p1 p2 tk
      refine peImp (act_at (tb:=fun E=>tR F (fun cls d _ H=>E cls d H) fl) (i:=0) I1 L there un0 un1 (hbind _ _ _ _ _) tk hr' (fun A outer s H E hr2=>hbody A outer s H E f c' hr2) hNg hva hd hcd) fun σz Hz Qz ⟨B2,ι2,ρ2,S2,rl2,c2⟩=>?_
      unfold fAct at c2
      split at c2
      · rename_i e0
        obtain ⟨v0,e1,r0⟩:=pAt rl2.loc e0
        cases v0 with
        | none=>exact r0.elim
        | some v0 =>
          obtain ⟨a2,c3,q2,ρ3,σ3,e2,rfl,h3,h4,h5⟩:=r0
          cases e2
          refine ⟨e1,h3,?_⟩
          simp only [] at c2
          split at c2
          · rename_i hall
            refine ⟨B2,ι2,cleanL ρ,S2,⟨rl2.toRelS.outL hall,pImp (fun _ _ r=>rcl_rl r) h5⟩,?_⟩
            revert c2
            cases fl (cleanL ρ) S2 with
            | err=>exact fun c2=>c2
            | ok w S3=>exact fun c2 ι3 H3 x3 rl3 v rv=>c2 ι3 H3 x3 ⟨rl3.toRelS.inL h0,pImp (fun _ _ q=>RL.ext x3 q) rl2.loc⟩ v (RW.inL h0 rv)
            | exn cc d S3=>exact fun c2 ι3 H3 cv od x3 rl3 rx=>c2 ι3 H3 cv od x3 ⟨rl3.toRelS.inL h0,pImp (fun _ _ q=>RL.ext x3 q) rl2.loc⟩ rx
          · exact (show False from c2).elim
      · exact (show False from c2).elim
    have h2:CCont (withL F f c' (X.env.qual ++ "<lambda>") (cleanL ρ) σ) B ι H1 Q (fun _ _ _=>False) (told (fun S'=>if S'.all noFO=true then fl (cleanL ρ) S' else .err) S):=by
      revert cn
      cases told (fun S'=>if S'.all noFO=true then fl (cleanL ρ) S' else .err) S with
      | err=>exact fun cn=>(show False from cn).elim
      | exn _ _ _=>exact fun cn=>(show False from cn).elim
      | ok w S1 =>
        intro cn ι2 H2 v x2 rs2 rv
        simp only at cn
        split at cn
        · rename_i hn
          have h2:=Bool.and_eq_true_iff.mp hn
          exact cn ι2 H2 (x1.trans x2) ⟨rs2.outL h2.2,pImp (fun _ _ q=>RL.ext x2 q) rl1.loc⟩ v (RW.outL h2.1 rv)
        · exact (show False from cn).elim
    obtain ⟨t',ht',hq'⟩:=hG f c' (cleanL ρ) σ s1 H1 Q (fun S'=>if S'.all noFO=true then fl (cleanL ρ) S' else .err) B ι S hr' h1 (rl1.toRelS.inL h0) ⟨f,c',_,_,_,rfl,rfl,hco,hcn,captured (F:=F) rl1.loc⟩ h2
    exact ⟨t',ht'.nox,hq'⟩
  refine wpAny_call (codeAny_mono rc ?_)
  rintro (e | fl') t3 hq
  · exact (show False from hq).elim
  · cases fl' with
    | ret u=>exact I1.after hq
    | _=>exact (show False from hq).elim
end
end Ev
namespace Ev
open PySem PySem.Spec L2
def keyOf:W→Option Key
  | .d (.int i)=>some (.inl i)
  | .d (.str z)=>some (.inr z)
  | _=>none
def valW (kvs:List (Key×W)) (k:Key):Option W:=match kvs with
  | []=>none
  | p :: r=>if p.1=k then some p.2 else valW r k
def putW (kvs:List (Key×W)) (k:Key) (w:W):List (Key×W):=if (kvs.any fun p=>decide (p.1=k))=true then kvs.map (fun p=>if p.1=k then (p.1,w) else p) else kvs ++ [(k,w)]
section
variable {F:Fx} {H:Hp} {B:List Addr} {ι:Ads}
theorem keyOf_rel {w:W} {v:V} {k:Key} (e:keyOf w=some k) (r:RW F H B ι w v):v=kV k:=by
  unfold keyOf at e
  split at e
  · cases e; cases r; rfl
  · cases e; cases r; rfl
  · cases e
theorem valW_rel {k:Key}:∀ {ws:List (Key×W)} {vs:List (Key×V)} {w:W},RWK F H B ι ws vs→valW ws k=some w→∃ v,valV vs k=some v∧RW F H B ι w v
  | _,_,_,.nil,e=>by simp [valW] at e
  | p :: _,q :: _,w,.cons r t,e=>by
    unfold valW at e
    split at e
    · rename_i hk
      cases e
      exact ⟨q.2,valV_pos (by rw [← r.1]; exact hk),r.2⟩
    · rename_i hk
      obtain ⟨v,h1,h2⟩:=valW_rel t e
      exact ⟨v,by rw [valV_neg (by rw [← r.1]; exact hk)]; exact h1,h2⟩
theorem any_rel {k:Key}:∀ {ws:List (Key×W)} {vs:List (Key×V)},RWK F H B ι ws vs→(ws.any fun p=>decide (p.1=k))=(vs.any fun p=>decide (p.1=k))
  | _,_,.nil=>rfl
  | p :: _,q :: _,.cons r t=>by simp only [List.any_cons,any_rel t,r.1]
theorem map_rel {k:Key} {w:W} {v:V} (rw:RW F H B ι w v):∀ {ws:List (Key×W)} {vs:List (Key×V)},RWK F H B ι ws vs→RWK F H B ι (ws.map fun p=>if p.1=k then (p.1,w) else p) (vs.map fun p=>if p.1=k then (p.1,v) else p)
  | _,_,.nil=>.nil
  | p :: _,q :: _,.cons r t=>by
    refine .cons ?_ (map_rel rw t)
    have e0:p.1=q.1:=r.1
    by_cases e:q.1=k
    · have e1:p.1=k:=e0.trans e
      simp only [e,e1,if_true]
      exact ⟨trivial,rw⟩
    · have e1:¬ p.1=k:=fun z=>e (e0.symm.trans z)
      simp only [e,e1,if_false]
      exact r
theorem putW_rel {k:Key} {w:W} {v:V} (rw:RW F H B ι w v) {ws:List (Key×W)} {vs:List (Key×V)} (r:RWK F H B ι ws vs):RWK F H B ι (putW ws k w) (putK vs k v):=by
  unfold putW putK
  rw [any_rel r]
  split
  · exact map_rel rw r
  · exact paired_app r (.cons ⟨rfl,rw⟩ .nil)
end
def opDGet:Op2:=fun x y S=>match x,keyOf y with
  | .ref i,some k=>match S[i]? with
    | some (.dct kvs)=>(match valW kvs k with
      | some w=>.ok w S
      | none=>.err)
    | _=>.err
  | _,_=>.err
section
variable {X:Cx} {F:Fx} {Wsh:WX} {o i e a:Expr} {f g h:FE} {fa:FA} {pos pos' p2:Pos}
theorem r_dget (hu:X.A.units + 1 < cLine) (ho:PE X o (tR F Wsh f)) (hi:PE X i (tR F Wsh g)) (hs:NoSl i):PE X (.Subscript o i pos) (tR F Wsh (fBin opDGet f g)) :=
  peImp (pe_dget hu ho hi hs) fun σ H Q ⟨B,ι,ρ,S,rl,c⟩=>by
    refine tR_step rl c fun wx x S1 ι1 H1 x1 rl1 rx c1=>?_
    refine tR_step rl1 c1 fun wy y S2 ι2 H2 x2 rl2 ry c2=>?_
    unfold opDGet at c2
    split at c2
    · rename_i j k hk
      split at c2
      · rename_i kvs e
        split at c2
        · rename_i w hw
          obtain ⟨p,hp,rfl,_,vs,h1,r1⟩:=rl2.toRelS.at_ref (RW.ext x2 rx) e
          obtain ⟨v,h2,r2⟩:=valW_rel r1 hw
          refine ⟨p.1,v,rfl,?_,c2.here rl2 v r2⟩
          rw [keyOf_rel hk ry,← h2]
          exact DGet.k h1
        · exact (show False from c2).elim
      · exact (show False from c2).elim
    · exact (show False from c2).elim
def sDPutF (f g h:FE):FS:=fun ρ S=>(h ρ S).st ρ fun w S1=>(f ρ S1).st ρ fun x S2=>(g ρ S2).st ρ fun y S3=>match x,keyOf y with
  | .ref j,some k=>match S3[j]? with
    | some (.dct kvs)=>if kvs.length < sizeLine then .nx ρ (S3.set j (.dct (putW kvs k w))) else .err
    | _=>.err
  | _,_=>.err
theorem r_dput (hu:X.A.units + 1 < cLine) (ho:PE X o (tR F Wsh f)) (hi:PE X i (tR F Wsh g)) (hv:PE X e (tR F Wsh h)) (hs:swapsWith e (some (.Subscript o i pos')) pos.line X.env=pure false:=by rfl) :
    PS X (.Assign [.Subscript o i pos'] e pos) (tS F Wsh (sDPutF f g h)):=psImp (ps_dput hu ho hi hv hs) fun D σ H ⟨B,ι,ρ,S,rl,c⟩=>by
    refine tS_step rl c fun w v S1 ι1 H1 x1 rl1 rv c1=>?_
    refine tS_step rl1 c1 fun wx x S2 ι2 H2 x2 rl2 rx c2=>?_
    refine tS_step rl2 c2 fun wy y S3 ι3 H3 x3 rl3 ry c3=>?_
    split at c3
    · rename_i j k hk
      split at c3
      · rename_i kvs e
        split at c3
        · rename_i hz
          obtain ⟨p,hp,rfl,h0,vs,h1,r1⟩:=rl3.toRelS.at_ref (RW.ext x3 rx) e
          have rv3:=RW.ext x3 (RW.ext x2 rv)
          have hm:p.1∈B ++ flat ι3:=List.mem_append_right _ (mem_flat hp)
          have nx:¬ ∃ fs,H3 p.1=some (.xd fs):=fun ⟨fs,z⟩=>by rw [h1] at z; cases z
          have n2:NoC H3 p.1:=noC_of h1 fun _ z=>nomatch z
          obtain ⟨rl4,x4⟩:=rl3.put (A:=p.1) (u:=.dK (putK vs k v)) (o':=.dct (putW kvs k w)) hp e (.inl rfl) ⟨h0,_,upd_same,pImp (fun _ _ q=>⟨q.1,RW.updE hm nx n2 q.2⟩) (putW_rel rv3 r1)⟩
          refine ⟨p.1,_,rfl,.inl ⟨vs,k,h1,keyOf_rel hk ry,by rw [← paired_len r1]; exact hz,rfl⟩,c3 _ _ _ x4 rl4⟩
        · exact (show False from c3).elim
      · exact (show False from c3).elim
    · exact (show False from c3).elim
def sLPutF (f g h:FE):FS:=fun ρ S=>(h ρ S).st ρ fun w S1=>(f ρ S1).st ρ fun x S2=>(g ρ S2).st ρ fun y S3=>match x,y with
  | .ref j,.d (.int n)=>match S3[j]? with
    | some (.lst ws)=>(match ixN ws.length n with
      | some m=>.nx ρ (S3.set j (.lst (ws.set m w)))
      | none=>.err)
    | _=>.err
  | _,_=>.err
theorem r_lput (ho:PE X o (tR F Wsh f)) (hi:PE X i (tR F Wsh g)) (hv:PE X e (tR F Wsh h)) (hs:swapsWithSole [.Subscript o i pos'] e pos.line X.env=pure false:=by rfl) (hw:swappedStores [.Subscript o i pos'] e X.env=pure none:=by rfl)
    (h1:(assignEach [.Subscript o i pos'] X.env).map (·.2)=[assign (.Subscript o i pos') X.env]:=by rfl)
    (ha:∀ v,assign (.Subscript o i pos') X.env v=(do
      let ov ← holding [v] (eval o X.env)
      let iv ← holding [v,ov] (eval i X.env)
      standAt pos'
      holding [v,ov,iv] (setItem ov iv v)
      release [v,ov,iv] []):=by intro _; rfl) :
    PS X (.Assign [.Subscript o i pos'] e pos) (tS F Wsh (sLPutF f g h)):=psImp (ps_asg hv (pg_sub ho hi set_list ha) hs hw h1) fun D σ H ⟨B,ι,ρ,S,rl,c⟩=>by
    refine tS_step rl c fun w v S1 ι1 H1 x1 rl1 rv c1=>?_
    refine tS_step rl1 c1 fun wx x S2 ι2 H2 x2 rl2 rx c2=>?_
    refine tS_step rl2 c2 fun wy y S3 ι3 H3 x3 rl3 ry c3=>?_
    split at c3
    · rename_i j n
      split at c3
      · rename_i ws e
        split at c3
        · rename_i m hm'
          obtain ⟨p,hp,rfl,h0,vs,h1,r1⟩:=rl3.toRelS.at_ref (RW.ext x3 rx) e
          have rv3:=RW.ext x3 (RW.ext x2 rv)
          have hm:p.1∈B ++ flat ι3:=List.mem_append_right _ (mem_flat hp)
          have nx:¬ ∃ fs,H3 p.1=some (.xd fs):=fun ⟨fs,z⟩=>by rw [h1] at z; cases z
          have n2:NoC H3 p.1:=noC_of h1 fun _ z=>nomatch z
          obtain ⟨rl4,x4⟩:=rl3.put (A:=p.1) (u:=.lst (vs.set m v)) (o':=.lst (ws.set m w)) hp e (.inl rfl) ⟨h0,_,upd_same,pImp (fun _ _ q=>RW.updE hm nx n2 q) (pSet rv3 m r1)⟩
          cases ry
          refine ⟨p.1,vs,n,m,rfl,rfl,h1,by rw [← paired_len r1]; exact hm',c3 _ _ _ x4 rl4⟩
        · exact (show False from c3).elim
      · exact (show False from c3).elim
    · exact (show False from c3).elim
def opSlR:OpSl:=fun x lo hi S=>match x with
  | .ref j=>match S[j]? with
    | some (.lst ws)=>.ok (.ref S.length) (S ++ [.lst (cut ws lo hi)])
    | _=>.err
  | _=>.err
theorem paired_take {α β:Type} {A:α→β→Prop}:∀ (n:Nat) {l:List α} {m:List β},Paired A l m→Paired A (l.take n) (m.take n)
  | 0,_,_,_=>by simp only [List.take_zero]; exact .nil
  | _ + 1,_,_,.nil=>by simp only [List.take_nil]; exact .nil
  | n + 1,_,_,.cons r t=>.cons r (paired_take n t)
theorem paired_drop {α β:Type} {A:α→β→Prop}:∀ (n:Nat) {l:List α} {m:List β},Paired A l m→Paired A (l.drop n) (m.drop n)
  | 0,_,_,h=>h
  | _ + 1,_,_,.nil=>by simp only [List.drop_nil]; exact .nil
  | n + 1,_,_,.cons _ t=>paired_drop n t
theorem r_slR {lo hi:Option Expr} {fl fh:FO} (hK:X.K=F.K) (ha:PE X a (tR F Wsh f)) (hl:PO X lo (tRO F Wsh fl)) (hh:PO X hi (tRO F Wsh fh)):PE X (.Subscript a (.Slice lo hi none p2) pos) (tR F Wsh (fSl opSlR f fl fh)) :=
  peImp (pe_slice (r:=rSlL F.K) (by rw [← hK]; exact sl_list) ha hl hh) fun σ H Q ⟨B,ι,ρ,S,rl,c⟩=>by
    refine tR_step rl c fun w v S1 ι1 H1 x1 rl1 rv c1=>?_
    refine ⟨B,ι1,ρ,S1,rl1,c1.bind.mono fun l S2 ι2 H2 _ x2 rl2 c2=>?_⟩
    refine ⟨B,ι2,ρ,S2,rl2,c2.bind.mono fun hh S3 ι3 H3 _ x3 rl3 c3=>?_⟩
    have rv3:=(RW.ext x3 (RW.ext x2 rv))
    unfold opSlR at c3
    split at c3
    · split at c3
      · rename_i j ws e
        obtain ⟨p,hp,rfl,h0,vs,h1,r1⟩:=rl3.toRelS.at_ref rv3 e
        refine ⟨p.1,vs,rfl,SqL.of h1,fun q hq=>new_ref rl3 (ws:=cut ws l hh) ?_ hq c3⟩
        unfold cut cutV
        rw [paired_len r1]
        exact paired_take _ (paired_drop _ r1)
      · exact (show False from c3).elim
    · exact (show False from c3).elim
def opEqE:Op2:=fun x y S=>match x,y with
  | .d (.tup xs),.d (.tup [])=>.ok (.d (.bl xs.isEmpty)) S
  | _,_=>.err
end
end Ev
namespace PySem.EvR
open PySem PySem.Spec PyProof.Rows
section
variable {prog:Program} {w:World} {A:Around} {E:Value→Shared→Prop} {s:Shared}
end
end PySem.EvR
namespace Ev
open PySem PySem.Spec L2
section
variable {X:Cx} {F:Fx} {Wsh:WX} {e:Expr} {f:FE}
def fBack (f:FE):FE:=fun ρ S=>(f ρ S).bind fun w S1=>match w with
  | .d (.tup ds)=>.ok (.d (.tup ds.reverse)) S1
  | _=>.err
end
end Ev
namespace Ev
open PySem PySem.Spec L2
section
variable {X:Cx} {F:Fx} {Wsh:WX} {a b e:Expr} {f g:FE} {fa:FA} {pos p:Pos} {k:Nat}
theorem un65 (hr:Room k X.A):X.A.units + 65 < cLine:=by have:=hr.un; omega
theorem un66A {j:Nat} {A:Around} (hr:Room j A):A.units + 66 < cLine:=by have:=hr.un; omega
theorem un1 (hr:Room k X.A):X.A.units + 1 < cLine:=by have:=hr.un; omega
theorem un0 (hr:Room k X.A):X.A.units < cLine:=by have:=hr.un; omega
theorem or_eq (hr:Room k X.A) (hK:X.K=F.K):OpR X (compareOp .Eq) (rEqEv F.K):=by rw [← hK]; exact OpR.or op_eq (op_eqD hr.units)
theorem or_ne (hr:Room k X.A) (hK:X.K=F.K):OpR X (compareOp .NotEq) (rNeEv F.K):=by rw [← hK]; exact OpR.or op_ne (op_neD hr.units)
def fNeg (f:FE):FE:=fun ρ S=>(f ρ S).bind fun w S1=>match w with
  | .d (.int i)=>.ok (.d (.int (-i))) S1
  | _=>.err
theorem r_neg (he:PE X e (tR F Wsh f)):PE X (.UnaryOp .USub e pos) (tR F Wsh (fNeg f)):=peImp (pe_un un_neg he) fun σ H Q ⟨B,ι,ρ,S,rl,c⟩=>by
  refine tR_step rl c fun w v S1 ι1 H1 x1 rl1 rv c1=>?_
  split at c1
  · cases rv
    exact ⟨_,rfl,c1.here rl1 _ (.int _)⟩
  · exact (show False from c1).elim
def GInt (mg:Str→Option Value) (x:Str) (i:Int):Prop:=∃ t,mg x=some (.int i t)
def GStr (mg:Str→Option Value) (x:Str) (z:Str):Prop:=∃ t,mg x=some (.str z t)
theorem r_gint {x:Str} {i:Int} (h:GInt X.mg x i) (hg:Gl X x) (hd:(x == ("__debug__":Str))=false:=by decide):PE X (.Name x pos) (tR F Wsh (fC (.int i))):=by
  obtain ⟨t,e⟩:=h
  exact r_const (pe_glob hg e (v:=.int i) ⟨t,rfl⟩ hd) fun _ _ _=>.int i
theorem r_gstr {x z:Str} (h:GStr X.mg x z) (hg:Gl X x) (hd:(x == ("__debug__":Str))=false:=by decide):PE X (.Name x pos) (tR F Wsh (fC (.str z))):=by
  obtain ⟨t,e⟩:=h
  exact r_const (pe_glob hg e (v:=.str z) ⟨t,rfl⟩ hd) fun _ _ _=>.str z
theorem len_nil:∀ ρ S ws S',fNil ρ S=.ok ws S'→ws.length=0:=fun ρ S ws S' e=>by
  cases e; rfl
theorem len_cons {n:Nat} {f:FE} {g:FA} (h:∀ ρ S ws S',g ρ S=.ok ws S'→ws.length=n):∀ ρ S ws S',fCons f g ρ S=.ok ws S'→ws.length=n + 1:=fun ρ S ws S' e=>by
  unfold fCons at e
  cases h1:f ρ S with
  | err=>rw [h1] at e; cases e
  | exn _ _ _=>rw [h1] at e; cases e
  | ok w S1 =>
    rw [h1] at e
    simp only [R.bind] at e
    cases h2:g ρ S1 with
    | err=>rw [h2] at e; cases e
    | exn _ _ _=>rw [h2] at e; cases e
    | ok ws2 S2 =>
      rw [h2] at e
      cases e
      rw [List.length_cons,h _ _ _ _ h2]
end
structure Def (K:PySem.W.Frag) (mg:Str→Option Value) (x:Str) (st:Stmt) (ps:List Str) (f:Addr) (fd:FuncData):Prop where
  fn:Fun K x x st f fd
  g:mg x=some (.ref f)
  b:Binds K fd ps []
section
variable {X:Cx} {F:Fx} {Wsh:WX} {e:Expr} {es:List Expr} {fa:FA} {pos p:Pos}
theorem q_call {gd:Bool} {k j n:Nat} {f:Addr} {fd:FuncData} {ps:List Str} {st:Stmt} {ff:FF} {x:Str} (Df:Def X.K X.mg x st ps f fd) (G:FnG gd X.prog X.w X.K X.mg X.base k f fd ps (spF F n ff)) (hgd:gd=true→X.A.guards=some []) (hr:Room j X.A) (hg:Gl X x) (tk:Takes X Wsh)
    (ha:PA X (e :: es) (tRA F Wsh fa)) (hlen:∀ ρ S ws S',fa ρ S=.ok ws S'→ws.length=n) (hjk:k≤j:=by first | decide | omega) (hn:ps.length=n:=by rfl) (hl:(e :: es).length=n:=by rfl) (hdb:(x == ("__debug__":Str))=false:=by decide) (he:starEach (e :: es) X.env=(false,eval e X.env) :: starEach es X.env:=by rfl) (hpl:(backTo pos (starEach es X.env)).any (·.1)=false:=by rfl) :
    PE X (.Call (.Name x p) (e :: es) [] pos) (tR F Wsh (fApp ff fa)):=r_call G hgd hn (hr.mono hjk) hg Df.g Df.fn.kp Df.b tk ha hl hdb he hpl hlen
end
end Ev
namespace Ev
open PySem PySem.Spec L2
section
variable {X:Cx} {F:Fx} {Wsh:WX} {tg e:Expr} {f g:FE} {fa:FA} {pos p tpos:Pos} {B:List Addr} {ι:Ads} {H:Hp} {ρ:Loc} {S:Sto} {σ:L2.St} {elts:List Expr} {kk:Nat}
end
end Ev
namespace Ev
open PySem PySem.Spec L2
def own (p:Addr×List Addr) (a:Addr):Prop:=a=p.1∨a∈p.2
theorem mem_set {ι:Ads} {i:Nat} {q:Addr×List Addr} {a:Addr} (h:a∈flat (ι.set i q)):own q a∨∃ (j:Nat) (r:Addr×List Addr),j ≠ i∧ι[j]? = some r∧own r a:=by
  obtain ⟨p,hp,ha⟩:=List.mem_flatMap.mp h
  obtain ⟨j,hj⟩:=List.mem_iff_getElem?.mp hp
  by_cases e:i=j
  · subst e
    have hl:i < (ι.set i q).length:=(List.getElem?_eq_some_iff.mp hj).1
    rw [List.length_set] at hl
    rw [List.getElem?_set_self hl] at hj
    cases hj
    exact .inl (List.mem_cons.mp ha)
  · rw [List.getElem?_set_ne e] at hj
    exact .inr ⟨j,p,fun z=>e z.symm,hj,List.mem_cons.mp ha⟩
theorem own_flat {ι:Ads} {i:Nat} {p:Addr×List Addr} {a:Addr} (hi:ι[i]? = some p) (h:own p a):a∈flat ι:=by
  rcases h with rfl | h
  · exact mem_flat hi
  · exact mem_flat2 hi h
theorem nodup_set:∀ {ι:Ads} {i:Nat} {q:Addr×List Addr},(flat ι).Nodup→(q.1 :: q.2).Nodup→(∀ a,own q a→∀ (j:Nat) r,j ≠ i→ι[j]? = some r→¬ own r a)→(flat (ι.set i q)).Nodup
  | [],_,_,nd,_,_=>by simpa [flat] using nd
  | p :: ι,0,q,nd,nq,dj=>by
    rw [flat_cons,List.nodup_append] at nd
    show (flat (q :: ι)).Nodup
    rw [flat_cons,List.nodup_append]
    refine ⟨nq,nd.2.1,fun a ha b hb e=>?_⟩
    subst e
    obtain ⟨r,hr,hra⟩:=List.mem_flatMap.mp hb
    obtain ⟨j,hj⟩:=List.mem_iff_getElem?.mp hr
    exact dj a (List.mem_cons.mp ha) (j + 1) r (by simp) (by simpa using hj) (List.mem_cons.mp hra)
  | p :: ι,i + 1,q,nd,nq,dj=>by
    rw [flat_cons,List.nodup_append] at nd
    show (flat (p :: ι.set i q)).Nodup
    rw [flat_cons,List.nodup_append]
    refine ⟨nd.1,nodup_set nd.2.1 nq fun a ha j r hj hr=>dj a ha (j + 1) r (by simpa using hj) (by simpa using hr),fun a ha b hb e=>?_⟩
    subst e
    rcases mem_set hb with z | ⟨j,r,_,hr,z⟩
    · exact dj a z 0 p (by simp) (by simp) (List.mem_cons.mp ha)
    · exact nd.2.2 a ha a (own_flat hr z) rfl
theorem own_nodup:∀ {ι:Ads} {i:Nat} {p:Addr×List Addr},(flat ι).Nodup→ι[i]? = some p→(p.1 :: p.2).Nodup
  | [],_,_,_,h=>by simp at h
  | p :: ι,0,_,nd,h=>by
    rw [flat_cons,List.nodup_append] at nd
    simp at h; subst h
    exact nd.1
  | p :: ι,i + 1,_,nd,h=>by
    rw [flat_cons,List.nodup_append] at nd
    exact own_nodup nd.2.1 (by simpa using h)
def intW (ns:List Int):List W:=ns.map fun i=>.d (.int i)
def expl (cs ls:List Int) (n:Int):Sto:=[.dct [(.inr sCells,.ref 1),(.inr sLeft,.ref 2),(.inr sAt,.d (.int n))],.lst (intW cs),.lst (intW ls)]
def drop0:List Int→List Int
  | []=>[]
  | x :: xs=>if x=0 then drop0 xs else x :: xs
def cellAt (cs:List Int) (n:Int):Int:=if cs=[] then 5 else cs.getD ((n * n + n.fdiv 2).fmod cs.length).toNat 0
def blendAt (cs:List Int) (n many:Int):Int:=((((cellAt cs n * 40692 + n * 65539 + 7001 * n * n).fmod 2147483399 * 48271 + 1013 * n).fmod 2147483647).fdiv 13).fmod many
def nextR (cs ls:List Int) (n many:Int):Int×List Int×Int:=match drop0 ls with
  | x :: xs=>(x.fmod many,x.fdiv many :: xs,n)
  | []=>(blendAt cs (n + 1) many,[],n + 1)
def nextC (cs ls:List Int) (n many:Int):Bool:=decide (0 < many∧many < 1073741824∧0≤n∧n < 2 ^ 40∧ls.length≤63∧cs.length≤63)
def nextF:FF:=fun ws S=>match ws with
  | [.ref i,.d (.int many)]=>match S[i]? with
    | some (.drw cs ls n)=>if nextC cs ls n many=true then .ok (.d (.int (nextR cs ls n many).1)) (S.set i (.drw cs (nextR cs ls n many).2.1 (nextR cs ls n many).2.2)) else .err
    | _=>.err
  | _=>.err
def NextOk (f:FF):Prop:=∀ cs ls n many,nextC cs ls n many=true→∃ S2 y,f [.ref 0,.d (.int many)] (expl cs ls n)=.ok (.d (.int (nextR cs ls n many).1)) S2 ∧
  S2[0]? = some (.dct [(.inr sCells,.ref 1),(.inr sLeft,.ref y),(.inr sAt,.d (.int (nextR cs ls n many).2.2))])∧S2[1]? = some (.lst (intW cs))∧S2[y]? = some (.lst (intW (nextR cs ls n many).2.1))∧y ≠ 0∧y ≠ 1
section
variable {F:Fx} {H:Hp} {B:List Addr} {ι:Ads}
theorem intW_rel:∀ ns:List Int,RWs F H B ι (intW ns) (ns.map V.int)
  | []=>.nil
  | n :: ns=>.cons (.int n) (intW_rel ns)
theorem intW_inv:∀ {ns:List Int} {vs:List V},RWs F H B ι (intW ns) vs→vs=ns.map V.int
  | [],_,.nil=>rfl
  | n :: ns,_,.cons r t=>by
    have h:Rep F.K F.cls H (B ++ flat ι) (.int n) _:=r
    cases h
    rw [intW_inv t]
    rfl
theorem sp_next {f:FF} (hf:NextOk f) {vs:List V} {Q:VK} {E:XK} (h:spF F 2 nextF vs H Q E):spF F 2 f vs H Q E:=by
  obtain ⟨hl,B,ι,S,ws,rs,rw,c⟩:=h
  refine ⟨hl,?_⟩
  unfold nextF at c
  split at c
  · rename_i i many
    split at c
    · rename_i cs ls n hS
      split at c
      · rename_i hc
        obtain ⟨v1,v2,rfl,r1,r2⟩:=two_args rw
        obtain ⟨p,hp,rfl,ro⟩:=rs.at_ref r1 hS
        obtain ⟨aC,aL,e2,hD,hC,hL⟩:=ro
        have h2:Rep F.K F.cls H (B ++ flat ι) (.int many) v2:=r2
        cases h2
        obtain ⟨S2,y,ef,e0,e1,ey,y0,y1⟩:=hf cs ls n many hc
        have ndp:=own_nodup rs.nd hp
        rw [e2] at ndp
        have n1:p.1 ≠ aC:=fun z=>by simp [z] at ndp
        have n2:p.1 ≠ aL:=fun z=>by simp [z] at ndp
        have n3:aC ≠ aL:=fun z=>by simp [z] at ndp
        have fp:p.1∈flat ι:=mem_flat hp
        have fC:aC∈flat ι:=mem_flat2 hp (by rw [e2]; simp)
        have fL:aL∈flat ι:=mem_flat2 hp (by rw [e2]; simp)
        let B':=(B ++ flat ι).filter fun x=>decide (x ≠ p.1∧x ≠ aC∧x ≠ aL)
        let ι':Ads:=[(p.1,[]),(aC,[]),(aL,[])]
        have fl':flat ι'=[p.1,aC,aL]:=by simp [flat,ι']
        have inB:∀ a,a∈B' ↔ a∈B ++ flat ι∧a ≠ p.1∧a ≠ aC∧a ≠ aL:=fun a=>by
          show a∈(B ++ flat ι).filter (fun x=>decide (x ≠ p.1∧x ≠ aC∧x ≠ aL)) ↔ _
          rw [List.mem_filter,decide_eq_true_iff]
        have sub':∀ a∈flat ι',a∈flat ι:=fun a ha=>by
          rw [fl'] at ha
          simp at ha
          rcases ha with rfl | rfl | rfl
          · exact fp
          · exact fC
          · exact fL
        have other:∀ (j:Nat) r a,j ≠ i→ι[j]? = some r→own r a→a∈B':=fun j r a hj hr ha=>by
          have q:∀ b,own p b→a ≠ b:=fun b hb z=>flat_apart (a:=a) rs.nd hr hp hj ha (z ▸ hb)
          exact (inB a).mpr ⟨List.mem_append_right _ (own_flat hr ha),q _ (.inl rfl),q _ (.inr (by rw [e2]; simp)),q _ (.inr (by rw [e2]; simp))⟩
        have rel':RelS F H B' ι' (expl cs ls n):=by
          refine ⟨by rw [fl']; simp [n1,n2,n3],rfl,fun j q ob h1 h2=>?_,rs.tab,fun b hb=>?_,fun b hb z=>?_⟩
          · match j,h1,h2 with
            | 0,h1,h2 =>
              cases h1; cases h2
              exact ⟨rfl,_,hD,.cons ⟨rfl,(aC,[]),rfl,rfl⟩ (.cons ⟨rfl,(aL,[]),rfl,rfl⟩ (.cons ⟨rfl,.int n⟩ .nil))⟩
            | 1,h1,h2 =>
              cases h1; cases h2
              exact ⟨rfl,_,hC,intW_rel cs⟩
            | 2,h1,h2 =>
              cases h1; cases h2
              exact ⟨rfl,_,hL,intW_rel ls⟩
            | j + 3,h1,h2=>simp [ι'] at h1
          · rcases List.mem_append.mp ((inB b).mp hb).1 with z | z
            · exact rs.bs b z
            · exact rs.mem_some z
          · rw [fl'] at z
            have:=((inB b).mp hb).2
            simp at z
            rcases z with z | z | z
            · exact this.1 z
            · exact this.2.1 z
            · exact this.2.2 z
        refine ⟨B',ι',expl cs ls n,[.ref 0,.d (.int many)],rel',.cons ⟨(p.1,[]),rfl,rfl⟩ (.cons (.int many) .nil),?_⟩
        rw [ef]
        intro ι2 H2 v x r3 rv
        obtain ⟨q0,hq0,z0⟩:=x.at_ 0 (p.1,[]) rfl
        obtain ⟨q1,hq1,z1⟩:=x.at_ 1 (aC,[]) rfl
        have z0:q0.1=p.1:=z0
        have z1:q1.1=aC:=z1
        have hly:y < ι2.length:=by rw [r3.len]; exact (List.getElem?_eq_some_iff.mp ey).1
        obtain ⟨qy,hqy⟩:∃ qy,ι2[y]? = some qy:=⟨_,List.getElem?_eq_getElem hly⟩
        obtain ⟨_,us,hu,ru⟩:=r3.obj 0 q0 _ hq0 e0
        obtain ⟨_,us1,hu1,ru1⟩:=r3.obj 1 q1 _ hq1 e1
        obtain ⟨_,usy,huy,ruy⟩:=r3.obj y qy _ hqy ey
        rw [z0] at hu
        rw [z1] at hu1
        have eu1:=intW_inv ru1
        have euy:=intW_inv ruy
        subst eu1 euy
        have eu:us=[(.inr sCells,.ref aC),(.inr sLeft,.ref qy.1),(.inr sAt,.int (nextR cs ls n many).2.2)]:=by
          cases ru with
          | @cons a b _ _ ra ta=>cases ta with
            | @cons a2 b2 _ _ rb tb=>cases tb with
              | @cons a3 b3 _ _ rc tc =>
                cases tc
                obtain ⟨k1,pp,g1,g2⟩:=ra
                obtain ⟨k2,pq,g3,g4⟩:=rb
                obtain ⟨k3,g5⟩:=rc
                obtain ⟨b11,b12⟩:=b
                obtain ⟨b21,b22⟩:=b2
                obtain ⟨b31,b32⟩:=b3
                simp only at k1 k2 k3 g2 g4 g5
                rw [hq1] at g1
                rw [hqy] at g3
                cases g1; cases g3
                have g6:Rep F.K F.cls H2 (B' ++ flat ι2) (.int (nextR cs ls n many).2.2) b32:=g5
                cases g6
                subst k1 k2 k3 g2 g4
                rw [z1]
        subst eu
        have fy:qy.1∈flat ι2:=mem_flat hqy
        have ny:∀ a∈B',a ≠ qy.1:=fun a ha z=>r3.dis a ha (z ▸ fy)
        have f0:p.1∈flat ι2:=z0 ▸ mem_flat hq0
        have f1:aC∈flat ι2:=z1 ▸ mem_flat hq1
        have m1:p.1 ≠ qy.1:=fun z=>flat_apart (a:=qy.1) r3.nd hq0 hqy (fun w=>y0 w.symm) (.inl (by rw [z0,z])) (.inl rfl)
        have m2:aC ≠ qy.1:=fun z=>flat_apart (a:=qy.1) r3.nd hq1 hqy (fun w=>y1 w.symm) (.inl (by rw [z1,z])) (.inl rfl)
        have yin:qy.1∈flat ι∨H qy.1=none:=by
          rcases x.sub _ fy with z | z
          · exact .inl (sub' _ z)
          · exact .inr z
        have ownq:∀ a,own (p.1,[aC,qy.1]) a→a=p.1∨a=aC∨a=qy.1:=fun a ha=>by
          rcases ha with z | z
          · exact .inl z
          · simp at z; exact .inr z
        have hi:i < ι.length:=(List.getElem?_eq_some_iff.mp hp).1
        have x3:Ext ι H (ι.set i (p.1,[aC,qy.1])) H2:=by
          refine ⟨fun j q hj=>?_,fun b hb=>?_,x.dom,fun b o nb hb nt=>x.keep b o (fun z=>nb (sub' b z)) hb nt⟩
          · by_cases e:i=j
            · subst e
              rw [hp] at hj
              cases hj
              exact ⟨_,List.getElem?_set_self hi,rfl⟩
            · exact ⟨q,by rw [List.getElem?_set_ne e]; exact hj,rfl⟩
          · rcases mem_set hb with z | ⟨j,r,_,hr,z⟩
            · rcases ownq b z with rfl | rfl | rfl
              · exact .inl fp
              · exact .inl fC
              · exact yin
            · exact .inl (own_flat hr z)
        refine c _ H2 v x3 ⟨?_,by rw [List.length_set,List.length_set]; exact rs.len,fun j q ob h1 h2=>?_,r3.tab,fun b hb z=>rs.bs b hb (x.dom b z),fun b hb z=>?_⟩ ?_
        · refine nodup_set rs.nd (by simp [n1,m1,m2]) fun a ha j r hj hr z=>?_
          have hb:=other j r a hj hr z
          have:=((inB a).mp hb).2
          rcases ownq a ha with e | e | e
          · exact this.1 e
          · exact this.2.1 e
          · exact ny a hb e
        · by_cases e:i=j
          · subst e
            rw [List.getElem?_set_self hi] at h1
            rw [List.getElem?_set_self (by rw [← rs.len]; exact hi)] at h2
            cases h1; cases h2
            exact ⟨aC,qy.1,rfl,hu,hu1,huy⟩
          · rw [List.getElem?_set_ne e] at h1
            rw [List.getElem?_set_ne e] at h2
            have ro:=rs.obj j q ob h1 h2
            refine ro.ext x3 fun a ha=>?_
            have hb:=other j q a (fun z=>e z.symm) h1 ha
            cases hq:H a with
            | none=>exact absurd hq (ro.tracked ha)
            | some u =>
              refine x.keep a u (fun z=>?_) hq (ro.ntbl ha hq).1
              rw [fl'] at z
              have:=((inB a).mp hb).2
              simp at z
              rcases z with z | z | z
              · exact this.1 z
              · exact this.2.1 z
              · exact this.2.2 z
        · have hbι:=rs.dis b hb
          rcases mem_set z with w | ⟨j,r,_,hr,w⟩
          · rcases ownq b w with rfl | rfl | rfl
            · exact hbι fp
            · exact hbι fC
            · exact ny _ ((inB _).mpr ⟨List.mem_append_left _ hb,fun z=>hbι (z ▸ fp),fun z=>hbι (z ▸ fC),fun z=>hbι (z ▸ fL)⟩) rfl
          · exact hbι (own_flat hr w)
        · have g7:Rep F.K F.cls H2 (B' ++ flat ι2) (.int (nextR cs ls n many).1) v:=rv
          cases g7
          exact .int _
      · exact (show False from c).elim
    · exact (show False from c).elim
  · exact (show False from c).elim
end
end Ev
namespace Ev
open PySem PySem.Spec L2
def intD' (ns:List Int):List D:=ns.map D.int
theorem dats_intW:∀ ns:List Int,dats (intW ns)=some (intD' ns)
  | []=>rfl
  | n :: ns=>by
    show (dats (intW ns)).map (D.int n :: ·)=_
    rw [dats_intW ns]
    rfl
theorem flat_ints:∀ ns:List Int,flatDs (intD' ns)=true
  | []=>rfl
  | n :: ns=>by
    show (flatD (.int n) && flatDs (intD' ns))=true
    rw [flat_ints ns]; rfl
theorem lay_ints:∀ ns:List Int,PyData.canLayAll0 (toPys (intD' ns))=true
  | []=>rfl
  | n :: ns=>by
    show (PyData.canLay0 (.int n) && PyData.canLayAll0 (toPys (intD' ns)))=true
    rw [lay_ints ns]; rfl
theorem depth_ints:∀ ns:List Int,PyData.depthAll (toPys (intD' ns))≤1
  | []=>by decide
  | n :: ns=>by
    have:=depth_ints ns
    show PyData.depthAll (PyData.int n :: toPys (intD' ns))≤1
    simp only [PyData.depthAll,PyData.depth]
    omega
theorem eqOk_ints (ns:List Int):eqOk (.lst (intD' ns))=true:=by
  have h:=depth_ints ns
  unfold eqOk SeqAt.shaped
  simp only [flatD,flat_ints,toPy,PyData.canLay0,lay_ints,Bool.true_and,Bool.and_true,PyData.depth,decide_eq_true_eq]
  omega
theorem eqD_ints (ns:List Int):eqD (.lst (intD' ns)) (.lst [])=ns.isEmpty:=by
  cases ns <;> rfl
def sDraw:FS:=(sSeq (loopW (bAnd (toT (fBin opNe (fBin opDGet (fVar 0) (fC (.str "left"))) (fLst fNil))) (toT (fBin opEq (fBin opIx (fBin opDGet (fVar 0) (fC (.str "left"))) (fC (.int 0))) (fC (.int 0))))) (sDPutF (fVar 0) (fC (.str "left")) (fSl opSlR (fBin opDGet (fVar 0) (fC (.str "left"))) (oSome (fC (.int 1))) oNone)) 100)
  (sSeq (sIf (toT (fBin opNe (fBin opDGet (fVar 0) (fC (.str "left"))) (fLst fNil))) (sSeq (sSet 2 (fBin opIx (fBin opDGet (fVar 0) (fC (.str "left"))) (fC (.int 0))))
  (sSeq (sLPutF (fBin opDGet (fVar 0) (fC (.str "left"))) (fC (.int 0)) (fBin opFDiv (fVar 2) (fVar 1)))
  (sRet (fBin opMod (fCall (op1 intD) (fCons (fVar 2) fNil)) (fVar 1))))) sNext)
  (sSeq (sPar2 3 4 (fCons (fBin opAdd (fBin opDGet (fVar 0) (fC (.str "at"))) (fC (.int 1))) (fCons (fBin opDGet (fVar 0) (fC (.str "cells"))) fNil)))
  (sSeq (sDPutF (fVar 0) (fC (.str "at")) (fVar 3))
  (sSeq (sSet 5 (eIf (toT (fBin opNe (fVar 4) (fLst fNil))) (fCall (op1 intD) (fCons (fBin opIx (fVar 4) (fBin opMod (fCall (op1 intD) (fCons (fBin opAdd (fBin opMul (fVar 3) (fVar 3)) (fBin opFDiv (fVar 3) (fC (.int 2)))) fNil)) (fCall opLen (fCons (fVar 4) fNil)))) fNil)) (fC (.int 5))))
  (sSeq (sSet 6 (fBin opMod (fCall (op1 intD) (fCons (fBin opAdd (fBin opAdd (fBin opMul (fVar 5) (fC (.int 40692))) (fBin opMul (fVar 3) (fC (.int 65539)))) (fBin opMul (fBin opMul (fC (.int 7001)) (fVar 3)) (fVar 3))) fNil)) (fC (.int 2147483399))))
  (sRet (fBin opMod (fCall (op1 intD) (fCons (fBin opFDiv (fBin opMod (fCall (op1 intD) (fCons (fBin opAdd (fBin opMul (fVar 6) (fC (.int 48271))) (fBin opMul (fC (.int 1013)) (fVar 3))) fNil)) (fC (.int 2147483647))) (fC (.int 13))) fNil)) (fVar 1)))))))))
structure StN (cs ls:List Int) (n:Int) (y:Nat) (S:Sto):Prop where
  m:S[0]? = some (.dct [(.inr sCells,.ref 1),(.inr sLeft,.ref y),(.inr sAt,.d (.int n))])
  c:S[1]? = some (.lst (intW cs))
  l:S[y]? = some (.lst (intW ls))
  y0:y ≠ 0
  y1:y ≠ 1
section
variable {cs ls:List Int} {n:Int} {y:Nat} {S:Sto} {ρ:Loc}
theorem k1:¬ ((.inr sCells:Key)=.inr "left"):=by decide +kernel
theorem k2:¬ ((.inr sCells:Key)=.inr "at"):=by decide +kernel
theorem k3:¬ ((.inr sLeft:Key)=.inr "at"):=by decide +kernel
theorem k4:(.inr sLeft:Key)=.inr "left":=by decide +kernel
theorem k5:(.inr sAt:Key)=.inr "at":=by decide +kernel
theorem k6:(.inr sCells:Key)=.inr "cells":=by decide +kernel
theorem k7:¬ ((.inr sAt:Key)=.inr "left"):=by decide +kernel
theorem var_of {i:Nat} {w:W} (h:ρ[i]? = some (some w)):fVar i ρ S=.ok w S:=by
  unfold fVar; rw [h]
theorem getL (st:StN cs ls n y S) (h:ρ[0]? = some (some (.ref 0))):fBin opDGet (fVar 0) (fC (.str "left")) ρ S=.ok (.ref y) S:=by
  unfold fBin
  rw [var_of h]
  simp only [R.bind,fC,opDGet,keyOf,st.m,valW,if_neg k1,if_pos k4]
theorem getC (st:StN cs ls n y S) (h:ρ[0]? = some (some (.ref 0))):fBin opDGet (fVar 0) (fC (.str "cells")) ρ S=.ok (.ref 1) S:=by
  unfold fBin
  rw [var_of h]
  simp only [R.bind,fC,opDGet,keyOf,st.m,valW,if_pos k6]
theorem getA (st:StN cs ls n y S) (h:ρ[0]? = some (some (.ref 0))):fBin opDGet (fVar 0) (fC (.str "at")) ρ S=.ok (.d (.int n)) S:=by
  unfold fBin
  rw [var_of h]
  simp only [R.bind,fC,opDGet,keyOf,st.m,valW,if_neg k2,if_neg k3,if_pos k5]
theorem viewL {i:Nat} {ns:List Int} (h:S[i]? = some (.lst (intW ns))):view S (.ref i)=some (.lst (intD' ns)):=by
  simp only [view,h,dats_intW,Option.map_some]
theorem viewD {x:D}:view S (.d x)=some x:=rfl
theorem nil_of:fLst fNil ρ S=.ok (.d (.lst [])) S:=by
  simp only [fLst,fNil,R.bind,dats,List.length_nil,Nat.zero_le,if_true]
theorem ne_nil {i:Nat} {ns:List Int} {f:FE} (hf:f ρ S=.ok (.ref i) S) (h:S[i]? = some (.lst (intW ns))):toT (fBin opNe f (fLst fNil)) ρ S=.ok (!ns.isEmpty) S:=by
  unfold toT fBin
  rw [hf]
  simp only [R.bind,nil_of,opNe,viewL h,viewD,eqOk_ints,eqD_ints,show eqOk (.lst [])=true from eqOk_ints [],Bool.and_self,if_true,toB]
theorem head_of {x:Int} (st:StN cs (x :: ls) n y S) (h:ρ[0]? = some (some (.ref 0))):fBin opIx (fBin opDGet (fVar 0) (fC (.str "left"))) (fC (.int 0)) ρ S=.ok (.d (.int x)) S:=by
  show ((fBin opDGet (fVar 0) (fC (.str "left")) ρ S).bind fun x S1=>(fC (.int 0) ρ S1).bind fun y S2=>opIx x y S2)=_
  rw [getL st h]
  simp only [R.bind,fC,opIx,viewL st.l,intD',List.map_cons,atI,ixN,List.length_cons]
  simp
theorem is0_of {x:Int} (st:StN cs (x :: ls) n y S) (h:ρ[0]? = some (some (.ref 0))):toT (fBin opEq (fBin opIx (fBin opDGet (fVar 0) (fC (.str "left"))) (fC (.int 0))) (fC (.int 0))) ρ S=.ok (decide (x=0)) S:=by
  show ((((fBin opIx (fBin opDGet (fVar 0) (fC (.str "left"))) (fC (.int 0))) ρ S).bind fun x S1=>(fC (.int 0) ρ S1).bind fun y S2=>opEq x y S2).bind toB)=_
  rw [head_of st h]
  simp only [R.bind,fC,opEq,view]
  have e:eqOk (.int x)=true:=by unfold eqOk; simp [flatD,toPy,SeqAt.shaped,PyData.canLay0,PyData.depth]
  have e0:eqOk (.int 0)=true:=by unfold eqOk; simp [flatD,toPy,SeqAt.shaped,PyData.canLay0,PyData.depth]
  simp only [e,e0,Bool.and_self,if_true,toB,eqD,toPy,PyData.eqv]
  congr 1
theorem skip_of (hn:ρ[0]? = some (some (.ref 0))):∀ (ls:List Int) (k y:Nat) (S:Sto),ls.length < k→StN cs ls n y S →
    ∃ y' S',loopW (bAnd (toT (fBin opNe (fBin opDGet (fVar 0) (fC (.str "left"))) (fLst fNil))) (toT (fBin opEq (fBin opIx (fBin opDGet (fVar 0) (fC (.str "left"))) (fC (.int 0))) (fC (.int 0))))) (sDPutF (fVar 0) (fC (.str "left")) (fSl opSlR (fBin opDGet (fVar 0) (fC (.str "left"))) (oSome (fC (.int 1))) oNone)) k ρ S=.nx ρ S'∧StN cs (drop0 ls) n y' S'
  | [],0,_,_,h,_=>by simp at h
  | [],k + 1,y,S,_,st=>by
    refine ⟨y,S,?_,st⟩
    unfold loopW
    have e:bAnd (toT (fBin opNe (fBin opDGet (fVar 0) (fC (.str "left"))) (fLst fNil))) (toT (fBin opEq (fBin opIx (fBin opDGet (fVar 0) (fC (.str "left"))) (fC (.int 0))) (fC (.int 0)))) ρ S=.ok false S:=by
      unfold bAnd
      rw [ne_nil (getL st hn) st.l]
      rfl
    rw [e]
    rfl
  | x :: ls,0,_,_,h,_=>by simp at h
  | x :: ls,k + 1,y,S,h,st=>by
    have e:bAnd (toT (fBin opNe (fBin opDGet (fVar 0) (fC (.str "left"))) (fLst fNil))) (toT (fBin opEq (fBin opIx (fBin opDGet (fVar 0) (fC (.str "left"))) (fC (.int 0))) (fC (.int 0)))) ρ S=.ok (decide (x=0)) S:=by
      unfold bAnd
      rw [ne_nil (getL st hn) st.l]
      simp only [R.bind,List.isEmpty_cons,Bool.not_false,if_true]
      exact is0_of st hn
    by_cases hx:x=0
    · have st2:StN cs ls n S.length ((S ++ [O.lst (intW ls)]).set 0 (O.dct [(.inr sCells,.ref 1),(.inr sLeft,.ref S.length),(.inr sAt,.d (.int n))])):=by
        have l0:0 < S.length:=(List.getElem?_eq_some_iff.mp st.m).1
        have l1:1 < S.length:=(List.getElem?_eq_some_iff.mp st.c).1
        refine ⟨List.getElem?_set_self (by simp),?_,?_,by omega,by omega⟩
        · rw [List.getElem?_set_ne (by omega),List.getElem?_append_left l1]; exact st.c
        · rw [List.getElem?_set_ne (by omega),List.getElem?_append_right (Nat.le_refl _)]; simp
      obtain ⟨y',S',e1,e2⟩:=skip_of hn ls k S.length _ (by simp at h; omega) st2
      refine ⟨y',S',?_,by unfold drop0; rw [if_pos hx]; exact e2⟩
      unfold loopW
      rw [e,← e1]
      have eb:sDPutF (fVar 0) (fC (.str "left")) (fSl opSlR (fBin opDGet (fVar 0) (fC (.str "left"))) (oSome (fC (.int 1))) oNone) ρ S=.nx ρ ((S ++ [O.lst (intW ls)]).set 0 (O.dct [(.inr sCells,.ref 1),(.inr sLeft,.ref S.length),(.inr sAt,.d (.int n))])):=by
        have l0:0 < S.length:=(List.getElem?_eq_some_iff.mp st.m).1
        have ecut:cut (intW (x :: ls)) (some 1) none=intW ls:=by
          unfold cut
          simp [intW,HT.sIx]
          rw [List.take_of_length_le (by simp)]
        have esl:fSl opSlR (fBin opDGet (fVar 0) (fC (.str "left"))) (oSome (fC (.int 1))) oNone ρ S=.ok (.ref S.length) (S ++ [.lst (intW ls)]):=by
          unfold fSl
          rw [getL st hn]
          simp only [R.bind,oSome,fC,oNone,opSlR,st.l,ecut]
        unfold sDPutF
        rw [esl]
        simp only [R.st]
        rw [var_of hn]
        simp only [R.st,fC,keyOf]
        have e0:(S ++ [O.lst (intW ls)])[0]? = some (.dct [(.inr sCells,.ref 1),(.inr sLeft,.ref y),(.inr sAt,.d (.int n))]):=by
          rw [List.getElem?_append_left l0]; exact st.m
        rw [e0]
        simp only [List.length_cons,List.length_nil]
        rw [if_pos (by rw [sizeLine_eq]; omega)]
        have ep:putW [(.inr sCells,.ref 1),(.inr sLeft,.ref y),(.inr sAt,.d (.int n))] (.inr "left") (.ref S.length)=[(.inr sCells,.ref 1),(.inr sLeft,.ref S.length),(.inr sAt,.d (.int n))]:=by
          unfold putW
          simp only [List.any_cons,List.any_nil,List.map_cons,List.map_nil,k1,k4,k7,decide_true,decide_false,Bool.or_true,Bool.true_or,Bool.false_or,if_true,if_false]
        rw [ep]
      simp only [R.st,hx,decide_true,if_true]
      subst hx
      rw [eb]
    · refine ⟨y,S,?_,by unfold drop0; rw [if_neg hx]; exact st⟩
      unfold loopW
      rw [e]
      simp only [R.st,hx,decide_false]
      rfl
theorem int1 {f:FE} {i:Int} {S S1:Sto} (h:f ρ S=.ok (.d (.int i)) S1):fCall (op1 intD) (fCons f fNil) ρ S=.ok (.d (.int i)) S1:=by
  unfold fCall fCons fNil
  rw [h]
  rfl
theorem len1 {f:FE} {i:Nat} {ns:List Int} (h:f ρ S=.ok (.ref i) S) (hl:S[i]? = some (.lst (intW ns))):fCall opLen (fCons f fNil) ρ S=.ok (.d (.int ns.length)) S:=by
  unfold fCall fCons fNil
  rw [h]
  simp only [R.bind,opLen,op1,viewL hl,lenD,intD',List.length_map]
theorem bin_of {o:Op2} {f g:FE} {x y z:W} {S S1 S2 S3:Sto} (hf:f ρ S=.ok x S1) (hg:g ρ S1=.ok y S2) (ho:o x y S2=.ok z S3):fBin o f g ρ S=.ok z S3:=by
  unfold fBin
  rw [hf]
  simp only [R.bind,hg,ho]
theorem o_add {i j:Int}:opAdd (.d (.int i)) (.d (.int j)) S=.ok (.d (.int (i + j))) S:=rfl
theorem o_mulL {i j:Int} (h:-(2 ^ 64) < i∧i < 2 ^ 64):opMul (.d (.int i)) (.d (.int j)) S=.ok (.d (.int (i * j))) S:=by
  simp only [opMul,mulOk,h,and_self,true_or,decide_true,if_true]
theorem o_mulR {i j:Int} (h:-(2 ^ 64) < j∧j < 2 ^ 64):opMul (.d (.int i)) (.d (.int j)) S=.ok (.d (.int (i * j))) S:=by
  simp only [opMul,mulOk,h,and_self,or_true,decide_true,if_true]
theorem o_fdiv {i j:Int} (h:0 < j∧j < 1073741824):opFDiv (.d (.int i)) (.d (.int j)) S=.ok (.d (.int (i.fdiv j))) S:=by
  simp only [opFDiv,opI]
  rw [if_pos (decide_eq_true ⟨by omega,by omega⟩)]
theorem o_mod {i j:Int} (h:j ≠ 0):opMod (.d (.int i)) (.d (.int j)) S=.ok (.d (.int (i.fmod j))) S:=by
  simp only [opMod,opI]
  rw [if_pos (decide_eq_true h)]
theorem o_ixL {i:Nat} {ns:List Int} {k:Int} (h:S[i]? = some (.lst (intW ns))) (h0:0≤k) (h1:k < ns.length):opIx (.ref i) (.d (.int k)) S=.ok (.d (.int (ns.getD k.toNat 0))) S:=by
  have hl:k.toNat < ns.length:=by omega
  simp only [opIx,viewL h,atI,ixN,intD',List.length_map,h0,h1,if_true,Option.bind_some,List.getElem?_map]
  rw [List.getElem?_eq_getElem hl]
  simp [List.getD,List.getElem?_eq_getElem hl]
theorem seq_nx {f g:FS} {ρ ρ1:Loc} {S S1:Sto} (h:f ρ S=.nx ρ1 S1):sSeq f g ρ S=g ρ1 S1:=by unfold sSeq; rw [h]
theorem seq_rt {f g:FS} {ρ:Loc} {S S1:Sto} {w:W} (h:f ρ S=.rt w S1):sSeq f g ρ S=.rt w S1:=by unfold sSeq; rw [h]
theorem set_of {f:FE} {ρ:Loc} {S S1:Sto} {w:W} {i:Nat} (h:f ρ S=.ok w S1):sSet i f ρ S=.nx (ρ.set i (some w)) S1:=by unfold sSet; rw [h]; rfl
theorem ret_of {f:FE} {ρ:Loc} {S S1:Sto} {w:W} (h:f ρ S=.ok w S1):sRet f ρ S=.rt w S1:=by unfold sRet; rw [h]; rfl
theorem if_t {t:FT} {f g:FS} {ρ:Loc} {S S1:Sto} (h:t ρ S=.ok true S1):sIf t f g ρ S=f ρ S1:=by unfold sIf; rw [h]; rfl
theorem if_f {t:FT} {f g:FS} {ρ:Loc} {S S1:Sto} (h:t ρ S=.ok false S1):sIf t f g ρ S=g ρ S1:=by unfold sIf; rw [h]; rfl
theorem eif_t {t:FT} {f g:FE} {ρ:Loc} {S S1:Sto} (h:t ρ S=.ok true S1):eIf t f g ρ S=f ρ S1:=by unfold eIf; rw [h]; rfl
theorem eif_f {t:FT} {f g:FE} {ρ:Loc} {S S1:Sto} (h:t ρ S=.ok false S1):eIf t f g ρ S=g ρ S1:=by unfold eIf; rw [h]; rfl
theorem par2_of {f:FA} {ρ:Loc} {S S1:Sto} {v w:W} {i j:Nat} (h:f ρ S=.ok [v,w] S1):sPar2 i j f ρ S=.nx ((ρ.set i (some v)).set j (some w)) S1:=by unfold sPar2; rw [h]; rfl
theorem cons_of {f:FE} {g:FA} {ρ:Loc} {S S1 S2:Sto} {w:W} {ws:List W} (h:f ρ S=.ok w S1) (h2:g ρ S1=.ok ws S2):fCons f g ρ S=.ok (w :: ws) S2:=by
  unfold fCons; rw [h]; simp only [R.bind,h2]
theorem body_rt {g:FS} {n:Nat} {ws:List W} {S S1:Sto} {w:W} (h:g (ws.map some ++ List.replicate (n - ws.length) none) S=.rt w S1):bodyF n g ws S=.ok w S1:=by unfold bodyF; rw [h]
theorem draw_ok:NextOk (bodyF 7 sDraw):=by
  intro cs ls n many hc
  have hc:=of_decide_eq_true hc
  obtain ⟨m0,m1,n0,n1,l0,l1⟩:=hc
  have st0:StN cs ls n 2 (expl cs ls n):=⟨rfl,rfl,rfl,by decide,by decide⟩
  obtain ⟨y,S,e1,st⟩:=skip_of (ρ:=[some (.ref 0),some (.d (.int many)),none,none,none,none,none]) rfl ls 100 2 _ (by omega) st0
  cases hd:drop0 ls with
  | cons x xs =>
    rw [hd] at st
    have eN:nextR cs ls n many=(x.fmod many,x.fdiv many :: xs,n):=by unfold nextR; rw [hd]
    rw [eN]
    have ly:y < S.length:=(List.getElem?_eq_some_iff.mp st.l).1
    have z0:=st.y0
    have z1:=st.y1
    refine ⟨S.set y (.lst (intW (x.fdiv many :: xs))),y,body_rt ?_,?_,?_,?_,st.y0,st.y1⟩
    · refine (seq_nx e1).trans (seq_rt ?_)
      refine (if_t (ne_nil (getL st rfl) st.l)).trans ?_
      refine (seq_nx (set_of (head_of st rfl))).trans ?_
      have ep:sLPutF (fBin opDGet (fVar 0) (fC (.str "left"))) (fC (.int 0)) (fBin opFDiv (fVar 2) (fVar 1)) [some (.ref 0),some (.d (.int many)),some (.d (.int x)),none,none,none,none] S=.nx [some (.ref 0),some (.d (.int many)),some (.d (.int x)),none,none,none,none] (S.set y (.lst (intW (x.fdiv many :: xs)))):=by
        unfold sLPutF
        rw [bin_of (ρ:=[some (.ref 0),some (.d (.int many)),some (.d (.int x)),none,none,none,none]) (S:=S) (S1:=S) (S2:=S) (x:=.d (.int x)) (y:=.d (.int many)) rfl rfl (o_fdiv ⟨m0,m1⟩)]
        simp only [R.st]
        rw [getL st rfl]
        simp only [R.st,fC,st.l]
        have ei:ixN (intW (x :: xs)).length 0=some 0:=by
          unfold ixN
          rw [if_pos (Int.le_refl _),if_pos (by simp [intW])]
          rfl
        rw [ei]
        rfl
      refine (seq_nx ep).trans (ret_of ?_)
      exact bin_of (x:=.d (.int x)) (y:=.d (.int many)) (int1 rfl) rfl (o_mod (by omega))
    · rw [List.getElem?_set_ne (by omega)]; exact st.m
    · rw [List.getElem?_set_ne (by omega)]; exact st.c
    · exact List.getElem?_set_self ly
  | nil =>
    rw [hd] at st
    have eN:nextR cs ls n many=(blendAt cs (n + 1) many,[],n + 1):=by unfold nextR; rw [hd]
    rw [eN]
    have l00:0 < S.length:=(List.getElem?_eq_some_iff.mp st.m).1
    have z0:=st.y0
    have z1:=st.y1
    generalize hS2:S.set 0 (O.dct [(.inr sCells,.ref 1),(.inr sLeft,.ref y),(.inr sAt,.d (.int (n + 1)))])=S2
    have st2:StN cs [] (n + 1) y S2:=by
      subst hS2
      refine ⟨List.getElem?_set_self l00,?_,?_,z0,z1⟩
      · rw [List.getElem?_set_ne (by omega)]; exact st.c
      · rw [List.getElem?_set_ne (by omega)]; exact st.l
    refine ⟨S2,y,body_rt ?_,st2.m,st2.c,st2.l,z0,z1⟩
    refine (seq_nx e1).trans ?_
    refine (seq_nx (if_f (ne_nil (getL st rfl) st.l))).trans ?_
    refine (seq_nx (par2_of (cons_of (bin_of (getA st rfl) rfl o_add) (cons_of (getC st rfl) rfl)))).trans ?_
    have ed:sDPutF (fVar 0) (fC (.str "at")) (fVar 3) [some (.ref 0),some (.d (.int many)),none,some (.d (.int (n + 1))),some (.ref 1),none,none] S=.nx [some (.ref 0),some (.d (.int many)),none,some (.d (.int (n + 1))),some (.ref 1),none,none] S2:=by
      unfold sDPutF
      rw [var_of (i:=3) rfl]
      simp only [R.st]
      rw [var_of (i:=0) rfl]
      simp only [R.st,fC,keyOf,st.m,List.length_cons,List.length_nil]
      rw [if_pos (by rw [sizeLine_eq]; omega),← hS2]
      have ep:putW [(.inr sCells,.ref 1),(.inr sLeft,.ref y),(.inr sAt,.d (.int n))] (.inr "at") (.d (.int (n + 1)))=[(.inr sCells,.ref 1),(.inr sLeft,.ref y),(.inr sAt,.d (.int (n + 1)))]:=by
        unfold putW
        simp only [List.any_cons,List.any_nil,List.map_cons,List.map_nil,k2,k3,k5,decide_true,decide_false,Bool.or_true,Bool.true_or,Bool.false_or,if_true,if_false]
      rw [ep]
    refine (seq_nx ed).trans ?_
    have ec:eIf (toT (fBin opNe (fVar 4) (fLst fNil))) (fCall (op1 intD) (fCons (fBin opIx (fVar 4) (fBin opMod (fCall (op1 intD) (fCons (fBin opAdd (fBin opMul (fVar 3) (fVar 3)) (fBin opFDiv (fVar 3) (fC (.int 2)))) fNil)) (fCall opLen (fCons (fVar 4) fNil)))) fNil)) (fC (.int 5))
        [some (.ref 0),some (.d (.int many)),none,some (.d (.int (n + 1))),some (.ref 1),none,none] S2=.ok (.d (.int (cellAt cs (n + 1)))) S2:=by
      unfold cellAt
      have et:=ne_nil (ρ:=[some (.ref 0),some (.d (.int many)),none,some (.d (.int (n + 1))),some (.ref 1),none,none]) (var_of (i:=4) (w:=.ref 1) rfl) st2.c
      by_cases hcs:cs=[]
      · rw [if_pos hcs]
        subst hcs
        exact (eif_f et).trans rfl
      · rw [if_neg hcs]
        have ht:(!cs.isEmpty)=true:=by cases cs <;> simp_all
        rw [ht] at et
        refine (eif_t et).trans ?_
        have hl:0 < cs.length:=by cases cs <;> simp_all
        have hne:(cs.length:Int) ≠ 0:=by omega
        refine int1 (bin_of (var_of (i:=4) (w:=.ref 1) rfl) (bin_of (int1 (bin_of (bin_of (var_of (i:=3) rfl) (var_of (i:=3) rfl) (o_mulL ⟨by omega,by omega⟩)) (bin_of (var_of (i:=3) rfl) rfl (o_fdiv ⟨by omega,by omega⟩)) o_add)) (len1 (var_of (i:=4) rfl) st2.c) (o_mod hne)) (o_ixL st2.c ?_ ?_))
        · exact Int.fmod_nonneg_of_pos _ (by omega)
        · exact Int.fmod_lt_of_pos _ (by omega)
    refine (seq_nx (set_of ec)).trans ?_
    refine (seq_nx (set_of (bin_of (int1 (bin_of (bin_of (bin_of (var_of (i:=5) rfl) rfl (o_mulR ⟨by omega,by omega⟩)) (bin_of (var_of (i:=3) rfl) rfl (o_mulR ⟨by omega,by omega⟩)) o_add) (bin_of (bin_of rfl (var_of (i:=3) rfl) (o_mulL ⟨by omega,by omega⟩)) (var_of (i:=3) rfl) (o_mulR ⟨by omega,by omega⟩)) o_add)) rfl (o_mod (by omega))))).trans ?_
    refine ret_of ?_
    exact bin_of (int1 (bin_of (bin_of (int1 (bin_of (bin_of (var_of (i:=6) rfl) rfl (o_mulR ⟨by omega,by omega⟩)) (bin_of rfl (var_of (i:=3) rfl) (o_mulL ⟨by omega,by omega⟩)) o_add)) rfl (o_mod (by omega))) rfl (o_fdiv ⟨by omega,by omega⟩))) (var_of (i:=1) rfl) (o_mod (by omega))
end
end Ev
namespace Ev
open PySem PySem.Spec L2
section
variable {F:Fx} {H:Hp} {B:List Addr} {ι:Ads} {p:Addr}
theorem flat_one (p:Addr):flat (ι ++ [(p,[])])=flat ι ++ [p]:=by rw [flat_app]; simp [flat]
theorem adopt_sub (p:Addr):∀ a∈B ++ flat (ι ++ [(p,[])]),H a ≠ none→a∈(B ++ [p]) ++ flat ι:=fun a ha _=>by
  rw [flat_one] at ha
  simp only [List.mem_append] at ha ⊢
  rcases ha with z | z | z
  · exact .inl (.inl z)
  · exact .inr z
  · exact .inl (.inr z)
theorem RC.adopt:∀ {w:W} {v:V},RC F.K F.cls H (B ++ [p]) ι w v→RC F.K F.cls H B (ι ++ [(p,[])]) w v
  | .d _,_,h=>Rep.sub (adopt_sub p) h
  | .ref _,_,⟨q,h,e⟩=>⟨q,by rw [List.getElem?_append_left (List.getElem?_eq_some_iff.mp h).1]; exact h,e⟩
theorem RCL.adopt:∀ {w:Option W} {v:Option V},RCL F.K F.cls H (B ++ [p]) ι w v→RCL F.K F.cls H B (ι ++ [(p,[])]) w v
  | none,_,_=>trivial
  | some _,some _,h=>RC.adopt h
theorem RW.adopt (nx:¬ ∃ fs,H p=some (.xd fs)) (n2:NoC H p):∀ {w:W} {v:V},RW F H (B ++ [p]) ι w v→RW F H B (ι ++ [(p,[])]) w v
  | .d _,_,h=>Rep.sub (adopt_sub p) h
  | .ref _,_,⟨q,h,e⟩=>⟨q,by rw [List.getElem?_append_left (List.getElem?_eq_some_iff.mp h).1]; exact h,e⟩
  | .exc _ _,_,⟨a,dd,u,h1,h2,h3,h4,h5⟩=>⟨a,dd,u,h1.imp_right fun q=>⟨q.1,fun z=>q.2 (by
      rw [flat_one] at z
      simp only [List.mem_append,List.mem_singleton] at z ⊢
      rcases z with y | y | y
      · exact .inl (.inl y)
      · exact .inr y
      · exact .inl (.inr y))⟩,h2,h3,fun z=>by
      rw [flat_one] at z
      rcases List.mem_append.mp z with y | y
      · exact h4 y
      · simp at y; exact nx ⟨_,y ▸ h3⟩,Rep.sub (adopt_sub p) h5⟩
  | .fn,_,⟨a,c,q,ρL,σL,h1,h2,h3,h4,h5⟩=>⟨a,c,q,ρL,σL,h1,h2,h3,fun z=>by
      rw [flat_one] at z
      rcases List.mem_append.mp z with y | y
      · exact h4 y
      · simp at y; exact n2 _ _ (y ▸ h3),pImp (fun _ _ r=>RCL.adopt r) h5⟩
theorem RO.adopt (nx:¬ ∃ fs,H p=some (.xd fs)) (n2:NoC H p) {o:O} {q:Addr×List Addr} (h:RO F H (B ++ [p]) ι o q):RO F H B (ι ++ [(p,[])]) o q:=by
  cases o with
  | lst ws=>obtain ⟨z,vs,e,r⟩:=h; exact ⟨z,vs,e,pImp (fun _ _ q=>RW.adopt nx n2 q) r⟩
  | tup ws=>obtain ⟨z,vs,e,r⟩:=h; exact ⟨z,vs,e,pImp (fun _ _ q=>RW.adopt nx n2 q) r⟩
  | kd ws=>obtain ⟨z,o,vs,e,r⟩:=h; exact ⟨z,o,vs,e,pImp (fun _ _ q=>⟨q.1,q.2.1,Rep.sub (adopt_sub p) q.2.2.1,q.2.2.2.elim fun v t=>⟨v,t.1,RW.adopt nx n2 t.2⟩⟩) r⟩
  | dct ws=>obtain ⟨z,vs,e,r⟩:=h; exact ⟨z,vs,e,pImp (fun _ _ q=>⟨q.1,RW.adopt nx n2 q.2⟩) r⟩
  | ins c fs=>obtain ⟨z,dx,vs,e,r⟩:=h; exact ⟨z,dx,vs,e,pImp (fun _ _ q=>⟨q.1,RW.adopt nx n2 q.2⟩) r⟩
  | drw _ _ _=>exact h
theorem RL.adopt (nx:¬ ∃ fs,H p=some (.xd fs)) (n2:NoC H p):∀ {w:Option W} {v:Option V},RL F H (B ++ [p]) ι w v→RL F H B (ι ++ [(p,[])]) w v
  | none,_,_=>trivial
  | some _,some _,h=>RW.adopt nx n2 h
theorem Rel.adopt {ρ:Loc} {S:Sto} {σ:L2.St} {o:O} (r:Rel F H (B ++ [p]) ι ρ S σ) (hB:p ∉ B) (nx:¬ ∃ fs,H p=some (.xd fs)) (n2:NoC H p) (new:RO F H B (ι ++ [(p,[])]) o (p,[])):Rel F H B (ι ++ [(p,[])]) ρ (S ++ [o]) σ:=by
  have hι:p ∉ flat ι:=r.dis p (by simp)
  refine ⟨⟨?_,by simp [r.len],fun j q ob h1 h2=>?_,r.tab,fun b hb=>r.bs b (List.mem_append_left _ hb),fun b hb=>?_⟩,pImp (fun _ _ q=>RL.adopt nx n2 q) r.loc⟩
  · rw [flat_one,List.nodup_append]
    refine ⟨r.nd,by simp,fun a ha b hb e=>?_⟩
    simp at hb
    exact hι (by rw [← hb,← e]; exact ha)
  · by_cases e:j < ι.length
    · rw [List.getElem?_append_left e] at h1
      rw [List.getElem?_append_left (by rw [← r.len]; exact e)] at h2
      exact (r.obj j q ob h1 h2).adopt nx n2
    · have hl:j=ι.length:=by
        have:=(List.getElem?_eq_some_iff.mp h1).1
        simp at this
        omega
      subst hl
      rw [List.getElem?_append_right (Nat.le_refl _)] at h1
      rw [List.getElem?_append_right (by rw [r.len]; exact Nat.le_refl _),r.len] at h2
      simp at h1 h2
      subst h1 h2
      exact new
  · rw [flat_one]
    intro z
    rcases List.mem_append.mp z with q | q
    · exact r.dis b (List.mem_append_left _ hb) q
    · simp at q; exact hB (q ▸ hb)
theorem adopt_ext {ι1:Ads} {H1:Hp} (hp:H1 p=none) (x:Ext ι1 H1 ι H):Ext ι1 H1 (ι ++ [(p,[])]) H :=
  ⟨fun i q h=>by
    obtain ⟨q',h1,h2⟩:=x.at_ i q h
    exact ⟨q',by rw [List.getElem?_append_left (List.getElem?_eq_some_iff.mp h1).1]; exact h1,h2⟩,fun b hb=>by
    rw [flat_one] at hb
    rcases List.mem_append.mp hb with z | z
    · exact x.sub b z
    · simp at z; exact .inr (z ▸ hp),x.dom,x.keep⟩
end
def fLcN (fi:FI) (g:FG) (t:FT) (f:FE) (vs:List Nat):FE:=fun ρ S=>(fi ρ S).bind fun ds S1=>(compL g t f (wipeL ρ vs) ds S1 []).bind fun ys S2=>.ok (.ref S2.length) (S2 ++ [.lst (ys.map W.d)])
section
variable {X:Cx} {F:Fx} {Wsh:WX} {tg e:Expr} {f g:FE} {fa:FA} {pos p:Pos} {B:List Addr} {ι:Ads} {H:Hp} {ρ:Loc} {S:Sto} {σ:L2.St}
theorem lcN_of {fi:FI} {gf:FG} {sl:List Nat} {t:FT} {fe:FE} {vs:List Nat} {tgr:TG} {tt:TT} {te:TE}
    (hg:GRel F gf sl tgr)
    (hsl:∀ i∈sl,i∈vs) (htt:∀ σ H Q,tRT F W0 t σ H Q→tt σ H Q) (hte:∀ σ H Q,tR F W0 fe σ H Q→te σ H Q) {Q:VK} {σ:L2.St} {H:Hp} (h:tR F Wsh (fLcN fi gf t fe vs) σ H Q):tLc (tRI F Wsh fi) tgr tt te vs σ H Q:=by
  obtain ⟨B,ι,ρ,S,rl,c⟩:=h
  refine ⟨B,ι,ρ,S,rl,c.bind.mono fun ds S1 ι1 H1 _ x1 rl1 c1 J wd D hD=>?_⟩
  obtain ⟨G,Y,w,hG,hY⟩:=wd
  have hDf:=rl1.toRelS.fresh hD
  have hDB:D ∉ B:=fun z=>hDf (List.mem_append_left _ z)
  have hDι:D ∉ flat ι1:=fun z=>hDf (List.mem_append_right _ z)
  have toBig:∀ {ι2:Ads} {H2:Hp} {ρ2:Loc} {S2:Sto} {σ2:L2.St},Rel F H2 (B ++ [D]) ι2 ρ2 S2 σ2→Rel F H2 B ι2 ρ2 S2 σ2:=fun {ι2 H2 ρ2 S2 σ2} r=>r.sub (fun a ha _=>by
    rcases List.mem_append.mp ha with z | z
    · exact List.mem_append_left _ (List.mem_append_left _ z)
    · exact List.mem_append_right _ z) (fun a ha=>r.bs a (List.mem_append_left _ ha)) fun a ha=>r.dis a (List.mem_append_left _ ha)
  have rl0:Rel F (upd H1 D (.lst [])) (B ++ [D]) ι1 ρ S1 σ:=by
    have r0:=rl1.new (o:=.lst []) hD
    refine ⟨⟨r0.nd,r0.len,fun i p ob h1 h2=>?_,r0.tab,fun b hb=>?_,fun b hb=>?_⟩,?_⟩
    · refine ((rl1.obj i p ob h1 h2).sub (B':=B ++ [D]) fun a ha n=>?_).ext (Ext.new hD) fun a ha=>upd_ne fun e=>?_
      · rcases List.mem_append.mp ha with z | z
        · rcases List.mem_append.mp z with z | z
          · exact List.mem_append_left _ z
          · simp at z; rw [z,hD] at n; exact absurd rfl n
        · exact List.mem_append_right _ z
      · rw [e] at ha
        rcases ha with z | z
        · exact hDι (z ▸ mem_flat h1)
        · exact hDι (mem_flat2 h1 z)
    · rcases List.mem_append.mp hb with z | z
      · exact r0.bs b z
      · simp at z; rw [z,upd_same]; simp
    · rcases List.mem_append.mp hb with z | z
      · exact rl1.dis b z
      · simp at z; rw [z]; exact hDι
    · refine pImp (fun a b q=>?_) rl1.loc
      refine RL.ext (Ext.new hD) (RL.sub (B':=B ++ [D]) (fun a ha n=>?_) q)
      rcases List.mem_append.mp ha with z | z
      · rcases List.mem_append.mp z with z | z
        · exact List.mem_append_left _ z
        · simp at z; rw [z,hD] at n; exact absurd rfl n
      · exact List.mem_append_right _ z
  refine lc_it w (fun i H2=>∃ ι2 S2 acc us,Ext ι1 H1 ι2 H2∧Rel F H2 (B ++ [D]) ι2 (wipeL ρ vs) S2 (L2.wipe σ vs)∧Rel F H2 (B ++ [D]) ι2 ρ S2 σ∧H2 D=some (.lst us)∧D ∉ flat ι2∧RDs F H2 (B ++ [D]) ι2 acc us ∧
      Cont F Wsh B ρ σ ι1 H1 ((compL gf t fe (wipeL ρ vs) (ds.drop i) S2 acc).bind fun ys S2=>.ok (.ref S2.length) (S2 ++ [.lst (ys.map W.d)])) (fun w _ ι' H'=>∀ v,RW F H' B ι' w v→Q v H'))
    ⟨ι1,S1,[],[],Ext.new hD,rl0.wipe vs,rl0,upd_same,hDι,.nil,by simpa using c1⟩ (fun i H2 _ ⟨ι2,_,_,_,x2,_⟩=>hG ι2 H2 x2.toW) ?_ ?_
  · rintro i x H2 H3 hi ⟨ι2,S2,acc,us,x2,rl2,rlσ,hus,hD2,racc,c2⟩ y
    obtain ⟨hn,d,hd,rd⟩:=hY i (B ++ [D]) ι2 H2 S2 x H3 hi x2.toW (fun a ha=>by
      rcases List.mem_append.mp ha with z | z
      · exact .inl z
      · simp at z; exact .inr (z ▸ hD)) rl2.toRelS y
    obtain ⟨rl3,x3⟩:=RelS.walked rl2 hn
    obtain ⟨rlσ3,_⟩:=RelS.walked rlσ hn
    have hus3:H3 D=some (.lst us):=x3.keep _ _ hD2 hus nt_lst
    have hdr:ds.drop i=d :: ds.drop (i + 1):=by
      rw [List.drop_eq_getElem_cons hi]
      rw [List.getElem?_eq_getElem hi] at hd
      rw [Option.some.inj hd]
    rw [hdr] at c2
    simp only [compL] at c2
    cases hgd:gf (.d d) (wipeL ρ vs) S2 with
    | none=>rw [hgd] at c2; exact (show False from c2).elim
    | some ρ3 =>
      rw [hgd] at c2
      refine hg (B ++ [D]) ι2 (wipeL ρ vs) S2 (L2.wipe σ vs) H3 (.d d) x ρ3 _ rl3 rd hgd fun σ3 rl4 hw=>⟨?_,?_⟩
      · have e1:=hw vs hsl
        rw [wipe_wipe] at e1
        exact e1
      · refine htt _ _ _ ⟨B ++ [D],ι2,ρ3,S2,rl4,?_⟩
        revert c2
        simp only []
        generalize ht:t ρ3 S2=rt
        cases rt with
        | err=>exact fun c3=>(show False from c3).elim
        | exn _ _ _=>exact fun c3=>(show False from c3).elim
        | ok k S4 =>
          intro c3 ι4 H4 x4 rl5
          have c4:Cont F Wsh B ρ σ ι1 H1 ((if k=true then (noX (fe ρ3 S4)).bind fun w S2=>(match w with
              | .d y=>if acc.length < sizeLine then compL gf t fe (wipeL ρ vs) (ds.drop (i + 1)) S2 (acc ++ [y]) else .err
              | _=>.err) else compL gf t fe (wipeL ρ vs) (ds.drop (i + 1)) S4 acc).bind fun ys S2=>.ok (.ref S2.length) (S2 ++ [.lst (ys.map W.d)])) (fun w _ ι' H'=>∀ v,RW F H' B ι' w v→Q v H'):=c3
          have hus4:H4 D=some (.lst us):=x4.keep _ _ hD2 hus3 nt_lst
          have hD4:D ∉ flat ι4:=x4.notin hD2 (by rw [hus3]; simp)
          have rlσ4:Rel F H4 (B ++ [D]) ι4 ρ S4 σ:=⟨rl5.toRelS,pImp (fun _ _ q=>RL.ext x4 q) rlσ3.loc⟩
          split
          · rename_i hk
            rw [if_pos hk] at c4
            refine hte _ _ _ ⟨B ++ [D],ι4,ρ3,S4,rl5,?_⟩
            revert c4
            generalize hfe:fe ρ3 S4=rf
            cases rf with
            | err=>exact fun c4=>(show False from c4).elim
            | exn _ _ _=>exact fun c4=>(show False from c4).elim
            | ok wy S5 =>
              intro c4 ι5 H5 x5 rl6 v rv
              have hus5:H5 D=some (.lst us):=x5.keep _ _ hD4 hus4 nt_lst
              have hD5:D ∉ flat ι5:=x5.notin hD4 (by rw [hus4]; simp)
              cases wy with
              | ref _=>exact (show False from c4).elim
              | exc _ _=>exact (show False from c4).elim
              | fn=>exact (show False from c4).elim
              | d yd =>
                have c5:Cont F Wsh B ρ σ ι1 H1 ((if acc.length < sizeLine then compL gf t fe (wipeL ρ vs) (ds.drop (i + 1)) S5 (acc ++ [yd]) else .err).bind fun ys S2=>.ok (.ref S2.length) (S2 ++ [.lst (ys.map W.d)])) (fun w _ ι' H'=>∀ v,RW F H' B ι' w v→Q v H'):=c4
                by_cases hz:acc.length < sizeLine
                · rw [if_pos hz] at c5
                  have racc5:RDs F H5 (B ++ [D]) ι5 acc us:=Reps.ext (x3.trans (x4.trans x5)) racc
                  have hDB':D∈B ++ [D]:=by simp
                  have hDx:D∈(B ++ [D]) ++ flat ι5:=List.mem_append_left _ hDB'
                  have xg:Ext ι1 H1 ι5 (upd H5 D (.lst (us ++ [v]))):=by
                    have x15:=x2.trans (x3.trans (x4.trans x5))
                    refine ⟨x15.at_,x15.sub,fun b hb=>?_,fun b ob nb hb nt=>?_⟩
                    · by_cases e:b=D
                      · rw [e]; exact hD
                      · rw [upd_ne e] at hb; exact x15.dom b hb
                    · rw [upd_ne (ne_of_none hb hD)]; exact x15.keep b ob nb hb nt
                  have rlσ5:Rel F H5 (B ++ [D]) ι5 ρ S5 σ:=⟨rl6.toRelS,pImp (fun _ _ q=>RL.ext (x4.trans x5) q) rlσ3.loc⟩
                  refine ⟨us,hus5,by rw [← reps_len racc5]; exact hz,ι5,S5,acc ++ [yd],us ++ [v],xg,(rlσ5.wipe vs).grow hDB' hD5 hus5,rlσ5.grow hDB' hD5 hus5,upd_same,hD5,
                    reps_app (Reps.updE hDx racc5) (.cons (Rep.updE hDx rv) .nil),c5⟩
                · rw [if_neg hz] at c5
                  exact (show False from c5).elim
          · rename_i hk
            rw [if_neg hk] at c4
            exact ⟨ι4,S4,acc,us,x2.trans (x3.trans x4),rlσ4.wipe vs,rlσ4,hus4,hD4,Reps.ext (x3.trans x4) racc,c4⟩
  · rintro H2 ⟨ι2,S2,acc,us,x2,rl2,rlσ,hus,hD2,racc,c2⟩
    rw [List.drop_length] at c2
    have c3:Cont F Wsh B ρ σ ι1 H1 (.ok (W.ref S2.length) (S2 ++ [.lst (acc.map W.d)])) (fun w _ ι' H'=>∀ v,RW F H' B ι' w v→Q v H'):=c2
    have nx:¬ ∃ fs,H2 D=some (.xd fs):=fun ⟨fs,z⟩=>by rw [hus] at z; cases z
    have n2:NoC H2 D:=noC_of hus fun _ z=>nomatch z
    refine c3 (ι2 ++ [(D,[])]) H2 (adopt_ext hD x2) (rlσ.adopt hDB nx n2 ⟨rfl,us,hus,reps_rws (Reps.sub (adopt_sub D) racc)⟩) _ ⟨(D,[]),?_,rfl⟩
    rw [List.getElem?_append_right (by rw [rlσ.len]; exact Nat.le_refl _),rlσ.len]
    simp
theorem r_lcN {elt tg iter:Expr} {ifs:List Expr} {scope:Scope} {own:List (Str×Nat)} {pos:Pos} {fi:FI} {gf:FG} {sl:List Nat} {t:FT} {fe:FE} {tgr:TG} (hc:X.calm=true) (hN:X.N.Nodup) (hi:PI X tg iter (tRI F Wsh fi)) (ok:BlkOk X.N X.env.scope scope own)
    (hr:GRel F gf sl tgr) (hsl:∀ i∈sl,i∈own.map (·.2))
    (hg:∀ (s:Shared) (H:Hp) (C:Addr) (cl:List (Str×Addr)) (fp:List Addr),PG (X.blk s H scope (compEnvC scope cl C X.env) fp) tg tgr) (ht:∀ (s:Shared) (H:Hp) (C:Addr) (cl:List (Str×Addr)) (fp:List Addr),TestsOk (X.blk s H scope (compEnvC scope cl C X.env) fp) F ifs t)
    (he:∀ (s:Shared) (H:Hp) (C:Addr) (cl:List (Str×Addr)) (fp:List Addr),PE (X.blk s H scope (compEnvC scope cl C X.env) fp) elt (tR F W0 fe)) (hs:∀ x,foldedSetIterable iter X.env x=pure x:=by intro _; rfl) :
    PE X (.ListComp elt [⟨tg,iter,ifs,0⟩] scope pos) (tR F Wsh (fLcN fi gf t fe (own.map (·.2)))) :=
  peImp (pe_lc hc hN hi ok hg ht he hs) fun σ H Q h=>lcN_of hr hsl (fun _ _ _ q=>q) (fun _ _ _ q=>q) h
theorem sq_keepS {H:Hp} {B:List Addr} {ι:Ads} {ns:List Int} {v:V} (h:RD F H B ι (.scr ns) v):∃ a,v=.ref a∧SqL F.K H a (ns.map V.int)∧∀ ι' H',ExtW B ι H ι' H'→SqL F.K H' a (ns.map V.int):=by
  cases h with
  | scr n e q =>
    rcases q with rfl | ⟨o,rfl⟩
    · exact ⟨_,rfl,.inl (.inl e),fun ι' H' x=>.inl (.inl (x.keep _ _ n e nt_lst))⟩
    · exact ⟨_,rfl,.inl (.inr ⟨_,e⟩),fun ι' H' x=>.inl (.inr ⟨_,x.keep _ _ n e nt_frz⟩)⟩
  | scrK h1 h2 h3 h4 h5 h6=>exact ⟨_,rfl,.inr ⟨_,_,_,h1,h2,h3,h4,h5,h6⟩,fun _ _ _=>.inr ⟨_,_,_,h1,h2,h3,h4,h5,h6⟩⟩
def iScr (f:FE):FI:=fun ρ S=>(f ρ S).bind fun w S1=>match w with
  | .d (.scr ns)=>.ok (intD' ns) S1
  | _=>.err
theorem reps_ints:∀ ns:List Int,RDs F H B ι (intD' ns) (ns.map V.int)
  | []=>.nil
  | n :: ns=>.cons (.int n) (reps_ints ns)
theorem ri_scr (hK:X.K=F.K) (he:PE X e (tR F Wsh f)):PI X tg e (tRI F Wsh (iScr f)):=piImp (pi_list he) fun σ H Q ⟨B,ι,ρ,S,rl,c⟩=>by
  refine tR_step rl c fun w v S1 ι1 H1 x1 rl1 rv c1=>?_
  split at c1
  · rename_i ns
    obtain ⟨a,rfl,h1,k⟩:=sq_keepS rv
    refine ⟨a,rfl,⟨_,by rw [hK]; exact h1⟩,c1.here rl1 _ ?_⟩
    rw [hK]
    exact walkD_at walk_list (reps_ints ns) k
  · exact (show False from c1).elim
def opListN:OpN:=fun ws S=>match ws with
  | [.d (.scr ns)]=>.ok (.ref S.length) (S ++ [.lst (intW ns)])
  | _=>.err
theorem ok_listN:OpNOk F opListN (fun xs H Q=>∃ p ys,xs=[.ref p]∧(SqL F.K H p ys∨SqT F.K H p ys)∧∀ l,H l=none→Q (.ref l) (upd H l (.lst ys))):=by
  intro Wsh B ι ρ S σ H ws vs Q rl rw c
  unfold opListN at c
  split at c
  · rename_i ns
    obtain ⟨v,rfl,rv⟩:=one_arg rw
    obtain ⟨a,rfl,h1,_⟩:=sq_keepS rv
    exact ⟨a,_,rfl,.inl h1,fun l hl=>new_ref rl (intW_rel ns) hl c⟩
  · exact (show False from c).elim
end
end Ev
namespace Ev
open PySem PySem.Spec L2
section
variable {F:Fx} {H:Hp} {B:List Addr} {ι:Ads} {ρ:Loc} {S:Sto} {σ:L2.St} {A:Addr}
theorem Rel.growD {u:HO} {kvs:List (Key×V)} (r:Rel F H B ι ρ S σ) (hB:A∈B) (hA:A ∉ flat ι) (h:H A=some (.dK kvs)) (nt:notTbl u):Rel F (upd H A u) B ι ρ S σ:=by
  have hx:A∈B ++ flat ι:=List.mem_append_left _ hB
  have nx:¬ ∃ fs,H A=some (.xd fs):=fun ⟨fs,z⟩=>by rw [h] at z; cases z
  have n2:NoC H A:=noC_of h fun _ z=>nomatch z
  refine ⟨⟨r.nd,r.len,fun i p ob h1 h2=>(r.obj i p ob h1 h2).updE hx nx n2 fun a ha e=>?_,tabs_in r.tab h ⟨nt_dK,noC1 fun _ z=>nomatch z⟩ nt,fun b hb=>?_,r.dis⟩,pImp (fun _ _ q=>RL.updE hx nx n2 q) r.loc⟩
  · subst e
    rcases ha with z | z
    · exact hA (z ▸ mem_flat h1)
    · exact hA (mem_flat2 h1 z)
  · by_cases e:b=A
    · rw [e,upd_same]; simp
    · rw [upd_ne e]; exact r.bs b hb
theorem Rel.aside {u:HO} (r:Rel F H B ι ρ S σ) (hD:H A=none) (nt:notTbl u):Rel F (upd H A u) (B ++ [A]) ι ρ S σ:=by
  have hDf:=r.toRelS.fresh hD
  have hDι:A ∉ flat ι:=fun z=>hDf (List.mem_append_right _ z)
  have r0:=r.new (o:=u) hD nt
  have sb:∀ a∈(B ++ [A]) ++ flat ι,H a ≠ none→a∈B ++ flat ι:=fun a ha n=>by
    rcases List.mem_append.mp ha with z | z
    · rcases List.mem_append.mp z with z | z
      · exact List.mem_append_left _ z
      · simp at z; rw [z,hD] at n; exact absurd rfl n
    · exact List.mem_append_right _ z
  refine ⟨⟨r0.nd,r0.len,fun i p ob h1 h2=>?_,r0.tab,fun b hb=>?_,fun b hb=>?_⟩,?_⟩
  · refine ((r.obj i p ob h1 h2).sub (B':=B ++ [A]) sb).ext (Ext.new hD) fun a ha=>upd_ne fun e=>?_
    rw [e] at ha
    rcases ha with z | z
    · exact hDι (z ▸ mem_flat h1)
    · exact hDι (mem_flat2 h1 z)
  · rcases List.mem_append.mp hb with z | z
    · exact r0.bs b z
    · simp at z; rw [z,upd_same]; simp
  · rcases List.mem_append.mp hb with z | z
    · exact r.dis b z
    · simp at z; rw [z]; exact hDι
  · exact pImp (fun a b q=>RL.ext (Ext.new hD) (RL.sub (B':=B ++ [A]) sb q)) r.loc
end
def fDisp3 (a b c:Str) (f g h:FE):FE:=fun ρ S=>(noX (f ρ S)).bind fun x S1=>(noX (g ρ S1)).bind fun y S2=>(noX (h ρ S2)).bind fun z S3=>.ok (.ref S3.length) (S3 ++ [.dct [(.inr a,x),(.inr b,y),(.inr c,z)]])
theorem merge3 {a b c:Str} (hab:a ≠ b) (hac:a ≠ c) (hbc:b ≠ c) (x y z:V):mergeK [] [((.inr a:Key),x),(.inr b,y),(.inr c,z)]=[(.inr a,x),(.inr b,y),(.inr c,z)]:=by
  have h1:¬ (a=b):=hab
  have h2:¬ (a=c):=hac
  have h3:¬ (b=c):=hbc
  simp [mergeK,putK,h1,h2,h3]
section
variable {X:Cx} {F:Fx} {Wsh:WX} {e1 e2 e3:Expr} {f g h:FE} {pos q1 q2 q3:Pos} {j1 j2 j3:Nat}
theorem r_disp3 {a b c:Str} (hab:a ≠ b) (hac:a ≠ c) (hbc:b ≠ c) (hf:PE X e1 (tR F W0 f)) (hg:PE X e2 (tR F W0 g)) (hh:PE X e3 (tR F W0 h)) :
    PE X (.Dict [some (.Constant (.str a) j1 q1),some (.Constant (.str b) j2 q2),some (.Constant (.str c) j3 q3)] [e1,e2,e3] pos) (tR F Wsh (fDisp3 a b c f g h)) :=
  peImp (pe_disp (pps_cons pe_str hf (pps_cons pe_str hg (pps_cons pe_str hh pps_nil))) rfl rfl (by simp) (by simp)) fun σ H Q ⟨B,ι,ρ,S,rl,cn⟩ p hp=>by
    show tR F W0 f σ (upd H p (.dK [])) fun x H1=>tR F W0 g σ H1 fun y H2=>tR F W0 h σ H2 fun z H3=>H3 p=some (.dK [])∧∃ kvs:List (Key×V),[(V.str a,x),(V.str b,y),(V.str c,z)]=kvs.map (fun kv=>(kV kv.1,kv.2))∧kvs.length≤15∧Q (.ref p) (upd H3 p (.dK (mergeK [] kvs)))
    have hpB:p ∉ B:=fun z=>rl.toRelS.fresh hp (List.mem_append_left _ z)
    have rl0:Rel F (upd H p (.dK [])) (B ++ [p]) ι ρ S σ:=rl.aside hp nt_dK
    unfold fDisp3 at cn
    revert cn
    refine fun cn=>⟨B ++ [p],ι,ρ,S,rl0,?_⟩
    revert cn
    cases f ρ S with
    | err=>exact fun cn=>(show False from cn).elim
    | exn _ _ _=>exact fun cn=>(show False from cn).elim
    | ok x S1 =>
      intro cn ι1 H1 x1 rl1 vx rx
      refine ⟨B ++ [p],ι1,ρ,S1,rl1,?_⟩
      replace cn:Cont F Wsh B ρ σ ι H ((noX (g ρ S1)).bind fun y S2=>(noX (h ρ S2)).bind fun z S3=>.ok (.ref S3.length) (S3 ++ [.dct [(.inr a,x),(.inr b,y),(.inr c,z)]])) (fun w _ ι' H'=>∀ v,RW F H' B ι' w v→Q v H'):=cn
      revert cn
      cases g ρ S1 with
      | err=>exact fun cn=>(show False from cn).elim
      | exn _ _ _=>exact fun cn=>(show False from cn).elim
      | ok y S2 =>
        intro cn ι2 H2 x2 rl2 vy ry
        refine ⟨B ++ [p],ι2,ρ,S2,rl2,?_⟩
        replace cn:Cont F Wsh B ρ σ ι H ((noX (h ρ S2)).bind fun z S3=>.ok (.ref S3.length) (S3 ++ [.dct [(.inr a,x),(.inr b,y),(.inr c,z)]])) (fun w _ ι' H'=>∀ v,RW F H' B ι' w v→Q v H'):=cn
        revert cn
        cases h ρ S2 with
        | err=>exact fun cn=>(show False from cn).elim
        | exn _ _ _=>exact fun cn=>(show False from cn).elim
        | ok z S3 =>
          intro cn ι3 H3 x3 rl3 vz rz
          replace cn:Cont F Wsh B ρ σ ι H (.ok (.ref S3.length) (S3 ++ [.dct [(.inr a,x),(.inr b,y),(.inr c,z)]])) (fun w _ ι' H'=>∀ v,RW F H' B ι' w v→Q v H'):=cn
          have x03:=x1.trans (x2.trans x3)
          have hp0:p ∉ flat ι:=rl0.dis p (by simp)
          have hp3:p ∉ flat ι3:=rl3.dis p (by simp)
          have hpd:H3 p=some (.dK []):=x03.keep _ _ hp0 upd_same nt_dK
          have hpm:p∈(B ++ [p]) ++ flat ι3:=List.mem_append_left _ (by simp)
          have nx:¬ ∃ fs,H3 p=some (.xd fs):=fun ⟨fs,z⟩=>by rw [hpd] at z; cases z
          have n2:NoC H3 p:=noC_of hpd fun _ z=>nomatch z
          refine ⟨hpd,[(.inr a,vx),(.inr b,vy),(.inr c,vz)],rfl,by simp,?_⟩
          rw [merge3 hab hac hbc]
          have rl4:=rl3.growD (u:=.dK [(.inr a,vx),(.inr b,vy),(.inr c,vz)]) (by simp) hp3 hpd nt_dK
          have nx':¬ ∃ fs,(upd H3 p (.dK [((.inr a:Key),vx),(.inr b,vy),(.inr c,vz)])) p=some (.xd fs):=fun ⟨fs,z⟩=>by rw [upd_same] at z; cases z
          have n2':NoC (upd H3 p (.dK [((.inr a:Key),vx),(.inr b,vy),(.inr c,vz)])) p:=noC_of upd_same fun _ z=>nomatch z
          have rx3:=RW.adopt nx' n2' (RW.updE (o:=.dK [((.inr a:Key),vx),(.inr b,vy),(.inr c,vz)]) hpm nx n2 (RW.ext (x2.trans x3) rx))
          have ry3:=RW.adopt nx' n2' (RW.updE (o:=.dK [((.inr a:Key),vx),(.inr b,vy),(.inr c,vz)]) hpm nx n2 (RW.ext x3 ry))
          have rz3:=RW.adopt nx' n2' (RW.updE (o:=.dK [((.inr a:Key),vx),(.inr b,vy),(.inr c,vz)]) hpm nx n2 rz)
          have xh:Ext ι H (ι3 ++ [(p,[])]) (upd H3 p (.dK [((.inr a:Key),vx),(.inr b,vy),(.inr c,vz)])):=by
            refine adopt_ext hp ⟨x03.at_,fun b hb=>?_,fun b hb=>?_,fun b o nb hb nt=>?_⟩
            · rcases x03.sub b hb with w | w
              · exact .inl w
              · by_cases e:b=p
                · exact .inr (e ▸ hp)
                · rw [upd_ne e] at w; exact .inr w
            · by_cases e:b=p
              · rw [e]; exact hp
              · rw [upd_ne e] at hb
                have:=x03.dom b hb
                rw [upd_ne e] at this
                exact this
            · have e:b ≠ p:=ne_of_none hb hp
              rw [upd_ne e]
              exact x03.keep b o nb (by rw [upd_ne e]; exact hb) nt
          refine cn _ _ xh (rl4.adopt hpB nx' n2' ⟨rfl,_,upd_same,.cons ⟨rfl,rx3⟩ (.cons ⟨rfl,ry3⟩ (.cons ⟨rfl,rz3⟩ .nil))⟩) _ ⟨(p,[]),?_,rfl⟩
          rw [List.getElem?_append_right (by rw [rl3.len]; exact Nat.le_refl _),rl3.len]
          simp
end
theorem q_xfield {X:Cx} {F:Fx} {Wsh:WX} {xn fl:Str} {fI cc:Addr} {i c:Nat} {a dd:Addr} {oe:Obj} {pn:List (Addr×Obj)} {e:Expr} {pos:Pos} (hn:F.fld c=fl) (T:PySem.EvX.ExTxt X.prog X.K X.mg xn (F.fld c) (F.cls c) fI cc) (hx:F.xa=some (a,dd)) (hz:Zc (.ref (F.cls c)) (some dd) oe) (hf:∃ vs,oe.data=.fields vs) (he:PE (X.suite a ((a,oe) :: pn)) e (tVar i))
    (hb:attributeBase e fl X.env (eval e X.env)=eval e X.env:=by rfl):PE (X.suite a ((a,oe) :: pn)) (.Attribute e fl pos) (tR F Wsh (fXf i c)):=by
  subst hn
  exact r_xfield T hx hz hf he hb
theorem def_okC {gd:Bool} {P:Program} {w:World} {F:Fx} {mg:Str→Option Value} {base:Heap} {k:Nat} {f:Addr} {ps:List Str} {name qual:Str} {params:Arguments} {body:List Stmt} {scope:Scope} {dV kV doc pm cdv ct oc:Value} {an od:Option Addr} {osl:Array (Option Value)} {N:List Str} {g:FS}
    (lk:F.K.lookup f=some ⟨oc,od,.func (PySem.W.fnOf name qual params body scope dV kV doc pm an cdv ct),osl⟩) (hcd:PySem.W.codeIn F.K cdv qual=true) (S:FnScope N ps scope)
    (hb:∀ (A:Around) (outer:List Env) (s:Shared) (H:Hp) (E:XK),Room k (A.deeper (PyProof.Rows.envOfC qual scope s.heap.objs.size f cdv))→(gd=true→A.guards=some []) →
      PSs (cxOf (L2.CX P w) P w F.K mg base N qual scope f cdv A outer s H E) body (tS F (fun cls d _ H=>E cls d H) g)) :
    FnG gd P w F.K mg base (k + 1) f (PySem.W.fnOf name qual params body scope dV kV doc pm an cdv ct) ps (spF F ps.length (bodyF N.length g)):=by
  refine fnG_of lk hcd S (fun vs H Q E h=>h.1) fun A outer s H vs Q E hr hg hsp=>⟨_,hb A outer s H E hr hg,?_⟩
  obtain ⟨hl,B,ι,S0,ws,rs,rw,c⟩:=hsp
  have hlw:ws.length=vs.length:=Paired.length rw
  refine ⟨B,ι,ws.map some ++ List.replicate (N.length - ws.length) none,S0,⟨rs,?_⟩,?_⟩
  · unfold L2.start
    rw [hlw]
    exact start_rel _ rw
  · unfold bodyF at c
    revert c
    cases g (ws.map some ++ List.replicate (N.length - ws.length) none) S0 with
    | nx ρ S1=>exact fun c ι' H' σ' x r=>c ι' H' .non x r.toRelS .non
    | rt w S1=>exact fun c ι' H' v x r rv=>c ι' H' v x r rv
    | exn cc d ρ S1=>exact fun c ι' H' σ' cv od x r rx=>c ι' H' cv od x r.toRelS rx
    | bk _ _=>exact fun c=>(show False from c).elim
    | ct _ _=>exact fun c=>(show False from c).elim
    | err=>exact fun c=>(show False from c).elim
def great (ns:List Int):List Int:=ns.filter fun i=>decide (10 ^ 18≤i)
def begunF:FF:=fun ws S=>match ws with
  | [.d (.scr ns)]=>if ns.length≤63 then .ok (.ref S.length) (S ++ [.drw ns (great ns) 0]) else .err
  | _=>.err
def BegunOk (f:FF):Prop:=∀ ns:List Int,ns.length≤63→f [.d (.scr ns)] []=.ok (.ref 2) [.lst (intW ns),.lst (intW (great ns)),.dct [(.inr sCells,.ref 0),(.inr sLeft,.ref 1),(.inr sAt,.d (.int 0))]]
theorem sp_begun {F:Fx} {H:Hp} {f:FF} (hf:BegunOk f) {vs:List V} {Q:VK} {E:XK} (h:spF F 1 begunF vs H Q E):spF F 1 f vs H Q E:=by
  obtain ⟨hl,B,ι,S,ws,rs,rw,c⟩:=h
  refine ⟨hl,?_⟩
  unfold begunF at c
  split at c
  · rename_i ns
    split at c
    · rename_i hn
      obtain ⟨v,rfl,rv⟩:=one_arg rw
      refine ⟨B ++ flat ι,[],[],[.d (.scr ns)],⟨by simp [flat],rfl,fun i p o h1=>by simp at h1,rs.tab,fun b hb=>?_,fun b _ z=>by simp [flat] at z⟩,.cons ?_ .nil,?_⟩
      · rcases List.mem_append.mp hb with z | z
        · exact rs.bs b z
        · exact rs.mem_some z
      · exact Rep.sub (fun a ha _=>by simpa [flat] using ha) (show RD F H B ι (.scr ns) v from rv)
      · rw [hf ns hn]
        intro ι2 H2 u x r3 ru
        have hlen:ι2.length=3:=r3.len
        obtain ⟨q0,hq0⟩:∃ q,ι2[0]? = some q:=⟨_,List.getElem?_eq_getElem (by omega)⟩
        obtain ⟨q1,hq1⟩:∃ q,ι2[1]? = some q:=⟨_,List.getElem?_eq_getElem (by omega)⟩
        obtain ⟨q2,hq2⟩:∃ q,ι2[2]? = some q:=⟨_,List.getElem?_eq_getElem (by omega)⟩
        obtain ⟨_,us0,hu0,ru0⟩:=r3.obj 0 q0 _ hq0 rfl
        obtain ⟨_,us1,hu1,ru1⟩:=r3.obj 1 q1 _ hq1 rfl
        obtain ⟨_,us2,hu2,ru2⟩:=r3.obj 2 q2 _ hq2 rfl
        have eu0:=intW_inv ru0
        have eu1:=intW_inv ru1
        subst eu0 eu1
        have eu2:us2=[(.inr sCells,.ref q0.1),(.inr sLeft,.ref q1.1),(.inr sAt,.int 0)]:=by
          cases ru2 with
          | @cons a b _ _ ra ta=>cases ta with
            | @cons a2 b2 _ _ rb tb=>cases tb with
              | @cons a3 b3 _ _ rc tc =>
                cases tc
                obtain ⟨k1,pp,g1,g2⟩:=ra
                obtain ⟨k2,pq,g3,g4⟩:=rb
                obtain ⟨k3,g5⟩:=rc
                obtain ⟨b11,b12⟩:=b
                obtain ⟨b21,b22⟩:=b2
                obtain ⟨b31,b32⟩:=b3
                simp only at k1 k2 k3 g2 g4 g5
                rw [hq0] at g1
                rw [hq1] at g3
                cases g1; cases g3
                have g6:Rep F.K F.cls H2 ((B ++ flat ι) ++ flat ι2) (.int 0) b32:=g5
                cases g6
                subst k1 k2 k3 g2 g4
                rfl
        subst eu2
        obtain ⟨qq,hqq,eu⟩:=ru
        rw [hq2] at hqq
        cases hqq
        subst eu
        have f0:q0.1∈flat ι2:=mem_flat hq0
        have f1:q1.1∈flat ι2:=mem_flat hq1
        have f2:q2.1∈flat ι2:=mem_flat hq2
        have new:∀ b∈flat ι2,H b=none:=fun b hb=>by
          rcases x.sub b hb with z | z
          · simp [flat] at z
          · exact z
        have away:∀ b∈flat ι2,b ∉ B ++ flat ι:=fun b hb z=>r3.dis b z hb
        have n01:q0.1 ≠ q1.1:=fun z=>flat_apart (a:=q0.1) r3.nd hq0 hq1 (by decide) (.inl rfl) (.inl z)
        have n02:q2.1 ≠ q0.1:=fun z=>flat_apart (a:=q2.1) r3.nd hq2 hq0 (by decide) (.inl rfl) (.inl z)
        have n12:q2.1 ≠ q1.1:=fun z=>flat_apart (a:=q2.1) r3.nd hq2 hq1 (by decide) (.inl rfl) (.inl z)
        have fl:flat (ι ++ [(q2.1,[q0.1,q1.1])])=flat ι ++ [q2.1,q0.1,q1.1]:=by rw [flat_app]; simp [flat]
        have own3:∀ b∈[q2.1,q0.1,q1.1],b∈flat ι2:=fun b hb=>by
          simp at hb
          rcases hb with rfl | rfl | rfl
          · exact f2
          · exact f0
          · exact f1
        have x3:Ext ι H (ι ++ [(q2.1,[q0.1,q1.1])]) H2:=by
          refine ⟨fun i p hi=>⟨p,by rw [List.getElem?_append_left (List.getElem?_eq_some_iff.mp hi).1]; exact hi,rfl⟩,fun b hb=>?_,x.dom,fun b o _ hb nt=>x.keep b o (fun z=>by simp [flat] at z) hb nt⟩
          rw [fl] at hb
          rcases List.mem_append.mp hb with z | z
          · exact .inl z
          · exact .inr (new b (own3 b z))
        refine c _ H2 _ x3 ⟨?_,by simp [rs.len],fun j q ob h1 h2=>?_,r3.tab,fun b hb z=>rs.bs b hb (x.dom b z),fun b hb z=>?_⟩ ⟨(q2.1,[q0.1,q1.1]),?_,rfl⟩
        · rw [fl,List.nodup_append]
          refine ⟨rs.nd,by simp [n01,n02,n12],fun a ha b hb e=>?_⟩
          subst e
          exact away a (own3 a hb) (List.mem_append_right _ ha)
        · by_cases e:j < ι.length
          · rw [List.getElem?_append_left e] at h1
            rw [List.getElem?_append_left (by rw [← rs.len]; exact e)] at h2
            have ro:=rs.obj j q ob h1 h2
            refine ro.ext x3 fun a ha=>?_
            cases hq:H a with
            | none=>exact absurd hq (ro.tracked ha)
            | some u=>exact x.keep a u (fun z=>by simp [flat] at z) hq (ro.ntbl ha hq).1
          · have hl:j=ι.length:=by
              have:=(List.getElem?_eq_some_iff.mp h1).1
              simp at this
              omega
            subst hl
            rw [List.getElem?_append_right (Nat.le_refl _)] at h1
            rw [List.getElem?_append_right (by rw [rs.len]; exact Nat.le_refl _),rs.len] at h2
            simp at h1 h2
            subst h1 h2
            exact ⟨q0.1,q1.1,rfl,hu2,hu0,hu1⟩
        · rw [fl] at z
          rcases List.mem_append.mp z with w | w
          · exact rs.dis b hb w
          · exact away b (own3 b w) (List.mem_append_left _ hb)
        · rw [List.getElem?_append_right (by rw [rs.len]; exact Nat.le_refl _),rs.len]
          simp
    · exact (show False from c).elim
  · exact (show False from c).elim
def sBegun:FS:=sRet (fDisp3 "cells" "left" "at" (fCall opListN (fCons (fVar 0) fNil)) (fLcN (iScr (fVar 0)) (gN 1) (toT (fBin opGe (fVar 1) (fBin opPow (fC (.int 10)) (fC (.int 18))))) (fVar 1) [1]) (fC (.int 0)))
theorem comp_great (ρ:Loc) (hρ:ρ.length=2) (S:Sto):∀ (ns acc:List Int),acc.length + ns.length < sizeLine →
    compL (gN 1) (toT (fBin opGe (fVar 1) (fBin opPow (fC (.int 10)) (fC (.int 18))))) (fVar 1) ρ (intD' ns) S (intD' acc)=.ok (intD' (acc ++ great ns)) S
  | [],acc,_=>by
    show R.ok (intD' acc) S=_
    rw [show great []=[] from rfl,List.append_nil]
  | x :: ns,acc,h=>by
    have hv:(ρ.set 1 (some (.d (.int x))))[1]? = some (some (.d (.int x))):=List.getElem?_set_self (by omega)
    have et:toT (fBin opGe (fVar 1) (fBin opPow (fC (.int 10)) (fC (.int 18)))) (ρ.set 1 (some (.d (.int x)))) S=.ok (decide (10 ^ 18≤x)) S:=by
      unfold toT
      rw [bin_of (var_of hv) (bin_of (x:=.d (.int 10)) (y:=.d (.int 18)) (z:=.d (.int (10 ^ 18))) (S1:=S) (S2:=S) (S3:=S) rfl rfl (by rfl)) (show opGe (.d (.int x)) (.d (.int (10 ^ 18))) S=.ok (.d (.bl (decide (10 ^ 18≤x)))) S from rfl)]
      rfl
    rw [show intD' (x :: ns)=D.int x :: intD' ns from rfl]
    simp only [compL,gN]
    rw [et]
    simp only [noX,R.bind]
    by_cases hx:(10:Int) ^ 18≤x
    · rw [if_pos (decide_eq_true hx),var_of hv]
      simp only [noX,R.bind]
      rw [if_pos (by simp [intD']; simp at h; omega)]
      have e:intD' acc ++ [D.int x]=intD' (acc ++ [x]):=by simp [intD']
      rw [e,comp_great ρ hρ S ns (acc ++ [x]) (by simp at h ⊢; omega)]
      have:great (x :: ns)=x :: great ns:=by simp only [great,List.filter_cons]; rw [if_pos (decide_eq_true hx)]
      rw [this]
      simp
    · rw [if_neg (by simpa using hx),comp_great ρ hρ S ns acc (by simp at h; omega)]
      have:great (x :: ns)=great ns:=by simp only [great,List.filter_cons]; rw [if_neg (by simpa using hx)]
      rw [this]
theorem begun_ok:BegunOk (bodyF 2 sBegun):=by
  intro ns hn
  refine body_rt (ret_of ?_)
  have e1:fCall opListN (fCons (fVar 0) fNil) [some (.d (.scr ns)),none] []=.ok (.ref 0) [.lst (intW ns)]:=rfl
  have e2:fLcN (iScr (fVar 0)) (gN 1) (toT (fBin opGe (fVar 1) (fBin opPow (fC (.int 10)) (fC (.int 18))))) (fVar 1) [1] [some (.d (.scr ns)),none] [.lst (intW ns)]=.ok (.ref 1) [.lst (intW ns),.lst (intW (great ns))]:=by
    show ((compL (gN 1) (toT (fBin opGe (fVar 1) (fBin opPow (fC (.int 10)) (fC (.int 18))))) (fVar 1) [some (.d (.scr ns)),none] (intD' ns) [.lst (intW ns)] (intD' [])).bind fun ys S2=>R.ok (W.ref S2.length) (S2 ++ [O.lst (ys.map W.d)]))=_
    rw [comp_great _ rfl _ ns [] (by rw [sizeLine_eq]; simp; omega)]
    simp [R.bind,intD',intW,Function.comp_def]
  show fDisp3 _ _ _ _ _ _ [some (.d (.scr ns)),none] []=_
  unfold fDisp3
  rw [e1]
  simp only [noX,R.bind]
  rw [e2]
  rfl
end Ev
namespace Ev
open PySem PySem.Spec L2
open PyProof.Rows (envOfC)
section
variable {F:Fx} {H:Hp} {B:List Addr} {ι:Ads} {ex:List Addr}
theorem lookF_rel {f:Str}:∀ {ws:List (Str×W)} {vs:List (Str×V)} {w:W},RWF F H B ι ws vs→ws.lookup f=some w→∃ v,vs.lookup f=some v∧RW F H B ι w v
  | _,_,_,.nil,e=>by simp at e
  | (k,a) :: ws,(k',b) :: vs,w,.cons r t,e=>by
    obtain ⟨rfl,r⟩:=r
    rw [List.lookup_cons] at e ⊢
    split at e
    · rename_i hk
      cases e
      exact ⟨b,by simp [hk],r⟩
    · rename_i hk
      obtain ⟨v,h1,h2⟩:=lookF_rel t e
      exact ⟨v,by simp [hk,h1],h2⟩
theorem lookF_none {f:Str}:∀ {ws:List (Str×W)} {vs:List (Str×V)},RWF F H B ι ws vs→ws.lookup f=none→vs.lookup f=none
  | _,_,.nil,e=>rfl
  | (k,a) :: ws,(k',b) :: vs,.cons r t,e=>by
    obtain ⟨rfl,r⟩:=r
    rw [List.lookup_cons] at e ⊢
    split at e
    · cases e
    · rename_i hk
      simp [hk,lookF_none t e]
theorem lookD_rel {f:Str}:∀ {ws:List (Str×D)} {vs:List (Str×V)} {w:D},RepF F.K F.cls H ex ws vs→ws.lookup f=some w→∃ v,vs.lookup f=some v∧Rep F.K F.cls H ex w v
  | _,_,_,.nil,e=>by simp at e
  | (k,a) :: ws,(_,b) :: vs,w,.cons r t,e=>by
    rw [List.lookup_cons] at e ⊢
    split at e
    · rename_i hk
      cases e
      exact ⟨b,by simp [hk],r⟩
    · rename_i hk
      obtain ⟨v,h1,h2⟩:=lookD_rel t e
      exact ⟨v,by simp [hk,h1],h2⟩
theorem lookD_none {f:Str}:∀ {ws:List (Str×D)} {vs:List (Str×V)},RepF F.K F.cls H ex ws vs→ws.lookup f=none→vs.lookup f=none
  | _,_,.nil,e=>rfl
  | (k,a) :: ws,(_,b) :: vs,.cons r t,e=>by
    rw [List.lookup_cons] at e ⊢
    split at e
    · cases e
    · rename_i hk
      simp [hk,lookD_none t e]
end
def fFld (c:Nat) (fl:Str) (fe:FE):FE:=fun ρ S=>(fe ρ S).bind fun w S1=>match w with
  | .d (.ins c' fs)=>if c'=c then (match fs.lookup fl with
    | some d=>.ok (.d d) S1
    | none=>.err) else .err
  | .ref i=>(match S1[i]? with
    | some (.ins c' fs)=>if c'=c then (match fs.lookup fl with
      | some w2=>.ok w2 S1
      | none=>.err) else .err
    | _=>.err)
  | _=>.err
def putFW (f:Str) (w:W):List (Str×W)→List (Str×W)
  | []=>[(f,w)]
  | (g,x) :: r=>if g=f then (g,w) :: r else (g,x) :: putFW f w r
def sFldPut (c:Nat) (fl:Str) (fo fe:FE):FS:=fun ρ S=>(fe ρ S).st ρ fun w S1=>(fo ρ S1).st ρ fun x S2=>match x with
  | .ref i=>(match S2[i]? with
    | some (.ins c' fs)=>if c'=c∧fs.length < 1000 then .nx ρ (S2.set i (.ins c (putFW fl w fs))) else .err
    | _=>.err)
  | _=>.err
def isIns (c:Nat) (m:Str) (w:W) (S:Sto):Bool:=match w with
  | .d (.ins c' fs)=>decide (c'=c) && (fs.lookup m).isNone
  | .ref i=>(match S[i]? with
    | some (.ins c' fs)=>decide (c'=c) && (fs.lookup m).isNone
    | _=>false)
  | _=>false
def fMtd (c:Nat) (m:Str) (ff:FF) (fo:FE) (fa:FA):FE:=fun ρ S=>(fo ρ S).bind fun w S1=>if isIns c m w S1=true then (fa ρ S1).bind fun ws S2=>ff (w :: ws) S2 else .err
def makeR (c:Nat) (init:FF) (dd:List D):FF:=fun ws S=>match init (.ref S.length :: (ws ++ dd.map W.d)) (S ++ [.ins c []]) with
  | .ok w S1=>if isNon w then .ok (.ref S.length) S1 else .err
  | .exn k x S1=>.exn k x S1
  | .err=>.err
section
variable {X:Cx} {F:Fx} {Wsh:WX} {es:List Expr} {e o:Expr} {f g fo fe:FE} {fa:FA} {pos pos' p apos:Pos} {c:Nat} {fl m:Str}
theorem r_fld (hK:X.K=F.K) (hc:Cls F.K (F.cls c)) (hn:NoAttr F.K (F.cls c) fl) (he:PE X e (tR F Wsh f)) (hb:attributeBase e fl X.env (eval e X.env)=eval e X.env:=by rfl) :
    PE X (.Attribute e fl pos) (tR F Wsh (fFld c fl f)):=peImp (pe_fld he hb) fun σ H Q ⟨B,ι,ρ,S,rl,c0⟩=>by
  refine tR_step rl c0 fun w v S1 ι1 H1 x1 rl1 rv c1=>?_
  rw [hK]
  cases w with
  | exc _ _=>exact (show False from c1).elim
  | fn=>exact (show False from c1).elim
  | d x =>
    cases rv with
    | ins n h r =>
      simp only at c1
      split at c1
      · rename_i hcc
        subst hcc
        split at c1
        · rename_i d hd
          obtain ⟨v,h1,h2⟩:=lookD_rel r hd
          exact ⟨_,_,_,_,v,rfl,h,hc,hn,h1,c1.here rl1 _ h2⟩
        · exact (show False from c1).elim
      · exact (show False from c1).elim
    | _=>exact (show False from c1).elim
  | ref i =>
    simp only at c1
    split at c1
    · rename_i c' fs hs
      split at c1
      · rename_i hcc
        subst hcc
        split at c1
        · rename_i w2 hw
          obtain ⟨p,hp,rfl,h0,dx,vs,h1,r⟩:=rl1.toRelS.at_ref rv hs
          obtain ⟨v,h3,h4⟩:=lookF_rel r hw
          exact ⟨_,_,_,_,v,rfl,h1,hc,hn,h3,c1.here rl1 _ h4⟩
        · exact (show False from c1).elim
      · exact (show False from c1).elim
    · exact (show False from c1).elim
theorem putFW_rel {H:Hp} {B:List Addr} {ι:Ads} {w:W} {v:V} (rw:RW F H B ι w v):∀ {ws:List (Str×W)} {vs:List (Str×V)},RWF F H B ι ws vs→RWF F H B ι (putFW fl w ws) (putF fl v vs)
  | _,_,.nil=>.cons ⟨rfl,rw⟩ .nil
  | (k,a) :: ws,(k',b) :: vs,.cons r t=>by
    obtain ⟨rfl,r⟩:=r
    unfold putFW putF
    by_cases h:k=fl
    · rw [if_pos h,if_pos h]; exact .cons ⟨rfl,rw⟩ t
    · rw [if_neg h,if_neg h]; exact .cons ⟨rfl,r⟩ (putFW_rel rw t)
theorem r_fldput (hK:X.K=F.K) (hc:Cls F.K (F.cls c)) (hn:NoAttr F.K (F.cls c) fl) (ho:PE X o (tR F Wsh fo)) (he:PE X e (tR F Wsh fe)) (hs:swapsWith e (some (.Attribute o fl pos')) pos.line X.env=pure false:=by rfl) :
    PS X (.Assign [.Attribute o fl pos'] e pos) (tS F Wsh (sFldPut c fl fo fe)):=psImp (ps_fld ho he hs) fun D σ H ⟨B,ι,ρ,S,rl,c0⟩=>by
  refine tS_step rl c0 fun w v S1 ι1 H1 x1 rl1 rv c1=>?_
  refine tS_step rl1 c1 fun wx x S2 ι2 H2 x2 rl2 rx c2=>?_
  rw [hK]
  cases wx with
  | exc _ _=>exact (show False from c2).elim
  | fn=>exact (show False from c2).elim
  | d x=>exact (show False from c2).elim
  | ref i =>
    simp only at c2
    split at c2
    · rename_i c' fs hs
      split at c2
      · rename_i hcc
        obtain ⟨rfl,hz⟩:=hcc
        obtain ⟨p,hp,rfl,h0,dx,vs,h1,r⟩:=rl2.toRelS.at_ref rx hs
        have rv2:=RW.ext x2 rv
        have hm:p.1∈B ++ flat ι2:=List.mem_append_right _ (mem_flat hp)
        have nx:¬ ∃ fs,H2 p.1=some (.xd fs):=fun ⟨fs,z⟩=>by rw [h1] at z; cases z
        have n2:NoC H2 p.1:=noC_of h1 fun _ z=>nomatch z
        obtain ⟨rl4,x4⟩:=rl2.put (A:=p.1) (u:=.ins (F.cls c') dx (putF fl v vs)) (o':=.ins c' (putFW fl w fs)) hp hs (.inl rfl) ⟨h0,dx,_,upd_same,pImp (fun _ _ q=>⟨q.1,RW.updE hm nx n2 q.2⟩) (putFW_rel rv2 r)⟩
        exact ⟨_,_,_,_,rfl,h1,hc,hn,by rw [← paired_len r]; exact hz,c2 _ _ _ x4 rl4⟩
      · exact (show False from c2).elim
    · exact (show False from c2).elim
theorem isIns_at {H:Hp} {B:List Addr} {ι:Ads} {S:Sto} {w:W} {v:V} (rl:RelS F H B ι S) (rv:RW F H B ι w v) (h:isIns c m w S=true):∃ a dx fs,v=.ref a∧H a=some (.ins (F.cls c) dx fs)∧fs.lookup m=none:=by
  unfold isIns at h
  split at h
  · rename_i c' fs
    rw [Bool.and_eq_true] at h
    have e:=of_decide_eq_true h.1
    subst e
    cases rv with
    | ins n hh r=>exact ⟨_,_,_,rfl,hh,lookD_none r (Option.isNone_iff_eq_none.mp h.2)⟩
  · rename_i i
    split at h
    · rename_i c' fs hs
      rw [Bool.and_eq_true] at h
      have e:=of_decide_eq_true h.1
      subst e
      obtain ⟨p,hp,rfl,h0,dx,vs,h1,r⟩:=rl.at_ref rv hs
      exact ⟨_,_,_,rfl,h1,lookF_none r (Option.isNone_iff_eq_none.mp h.2)⟩
    · cases h
  · cases h
theorem ccont_of {H:Hp} {B:List Addr} {ι:Ads} {ρ:Loc} {S:Sto} {σ:L2.St} {r:R W} {Q:VK} (rl:Rel F H B ι ρ S σ) (c1:Cont F Wsh B ρ σ ι H r fun w _ ι' H'=>∀ v,RW F H' B ι' w v→Q v H'):CCont F B ι H Q (WE Wsh σ) r:=by
  cases r with
  | ok w S2=>exact fun ι' H' v x r rv=>c1 ι' H' x ⟨r,pImp (fun _ _ q=>RL.ext x q) rl.loc⟩ v rv
  | exn cc d S2=>exact fun ι' H' cv od x r rx=>c1 ι' H' cv od x ⟨r,pImp (fun _ _ q=>RL.ext x q) rl.loc⟩ rx
  | err=>exact c1
theorem r_mtd {gd:Bool} {k j n:Nat} {f0:Addr} {fd:FuncData} {ps:List Str} {ff:FF} {pl:Sem Bool} (hK:X.K=F.K) (hc:Cls F.K (F.cls c)) (hm:Meth F.K (F.cls c) m f0) (G:FnG gd X.prog X.w X.K X.mg X.base k f0 fd ps (spF F (n + 1) ff)) (hgd:gd=true→X.A.guards=some []) (hr:Room j X.A) (hb:Binds X.K fd ps []) (tk:Takes X Wsh)
    (ho:PE X o (tR F Wsh fo)) (ha:PA X (e :: es) (tRA F Wsh fa)) (hlen:∀ ρ S ws S',fa ρ S=.ok ws S'→ws.length=n) (hjk:k≤j:=by first | decide | omega) (hn:ps.length=n + 1:=by rfl)
    (hst:starEach (e :: es) X.env=(false,eval e X.env) :: starEach es X.env:=by rfl) (hpl:(backTo pos (starEach es X.env)).any (·.1)=false:=by rfl)
    (ht:eval (.Call (.Attribute o m apos) (e :: es) [] pos) X.env=(do
      let ov ← eval o X.env
      standAt apos.atName
      let (f,first) ← holding [ov] (getMethod ov m pl)
      callWith pos f first (backTo pos (starEach (e :: es) X.env)) (backToKw pos (keywordEach [] X.env))):=by rfl) :
    PE X (.Call (.Attribute o m apos) (e :: es) [] pos) (tR F Wsh (fMtd c m ff fo fa)):=by
  refine ⟨fun pins s σ H Q I h=>?_⟩
  obtain ⟨B,ι,ρ,S,rl,c0⟩:=h
  refine PySem.W.methodCall_KW (pl:=pl) (thn (ho.run pins s σ H (fun x H1=>∃ a dx fs,x=.ref a∧H1 a=some (.ins (F.cls c) dx fs)∧fs.lookup m=none∧tRA F Wsh fa σ H1 fun vs H2=>spF F (n + 1) ff (x :: vs) H2 Q (WE Wsh σ)) I (tR_step rl c0 fun w v S1 ι1 H1 x1 rl1 rv c1=>?_)) fun u s1 hh=>?_) ht
  · split at c1
    · rename_i hi
      obtain ⟨a,dx,fs,rfl,h1,h2⟩:=isIns_at rl1.toRelS rv hi
      refine ⟨a,dx,fs,rfl,h1,h2,⟨B,ι1,ρ,S1,rl1,c1.bind.mono fun ws S2 ι2 H2 ef x2 rl2 c2 vs rvs=>⟨?_,B,ι2,S2,w :: ws,rl2.toRelS,.cons (RW.ext x2 rv) rvs,ccont_of rl2 c2⟩⟩⟩
      rw [List.length_cons,← Paired.length rvs,hlen ρ S1 ws S2 ef]
    · exact (show False from c1).elim
  · obtain ⟨x,H1,I1,rx,a,dx,fs,rfl,ea,l,q⟩:=hh
    obtain rfl:u=Value.ref a:=rx
    refine getmeth_ok I1 ea (by rw [hK]; exact hc) (by rw [hK]; exact hm) l ?_
    refine PySem.W.callWith_K (first:=[.ref a]) (h₀:=X.base) I.ok.mod.kin (by rw [hK]; exact hm.kp) (thn (ha.run pos pins s1 σ H1 _ I1 q) fun us s2 ⟨vs,H2,I2,r,q2⟩=>⟨I2.kIn,?_⟩) hst hpl
    have r':Vals (V.ref a :: vs) (Value.ref a :: us):=.cons rfl r
    have hlu:(Value.ref a :: us).length=ps.length:=by rw [← r'.length]; exact G.len _ _ _ _ q2
    have bnd:=hb s2 (.ref a :: us) I2.kIn (by simpa using hlu)
    rw [List.append_nil] at bnd
    refine wpAny_call (codeAny_mono (G.run X.A X.stack s2 H2 ⟨.ref a :: us,[]⟩ (.ref a :: us) (.ref a :: vs) Q (WE Wsh σ) (hr.mono hjk) hgd I2.env0 bnd r' q2) fun r s' hq=>?_)
    cases r with
    | error ex=>exact passAt tk σ pins H2 s2 ex s' I2 hq
    | ok fl =>
      cases fl with
      | ret u=>exact I2.after hq
      | next=>exact (show False from hq).elim
      | brk=>exact (show False from hq).elim
      | cont=>exact (show False from hq).elim
theorem make_init {n:Nat} {init:FF} {dd:List D} {dv:List V} (hdd:∀ H ex,Reps F.K F.cls H ex dd dv) {vs:List V} {H:Hp} {Q:VK} {E:XK} (h:spF F n (makeR c init dd) vs H Q E) {x dx:Addr} (hx:H x=none) (hdx:H dx=none) (hne:dx ≠ x) :
    spF F (n + 1 + dd.length) init (.ref x :: (vs ++ dv)) (upd (upd H dx (.own x)) x (.ins (F.cls c) dx [])) (fun v H2=>v=.non∧Q (.ref x) H2) E:=by
  obtain ⟨hl,B,ι,S,ws,rs,rw,cc⟩:=h
  have nt:notTbl (HO.own x):=fun _ z=>nomatch z
  have x0:Ext ι H ι (upd H dx (.own x)):=Ext.new hdx
  have rs0:RelS F (upd H dx (.own x)) B ι S:=rs.stay x0 (fun a ha=>upd_ne fun e=>rs.mem_some ha (e ▸ hdx)) (tabs_new rs.tab hdx nt)
  have hx0:(upd H dx (.own x)) x=none:=by rw [upd_ne hne.symm]; exact hx
  have x1:Ext ι (upd H dx (.own x)) (ι ++ [(x,[])]) (upd (upd H dx (.own x)) x (.ins (F.cls c) dx [])):=Ext.push hx0
  have rs1:=rs0.push (o':=.ins c []) hx0 ⟨rfl,dx,[],upd_same,.nil⟩
  have xx:=x0.trans x1
  have hself:(ι ++ [(x,([]:List Addr))])[S.length]? = some (x,[]):=by
    rw [List.getElem?_append_right (by rw [rs.len]; exact Nat.le_refl _),rs.len]
    simp
  refine ⟨?_,B,_,_,.ref S.length :: (ws ++ dd.map W.d),rs1,.cons ⟨(x,[]),hself,rfl⟩ (paired_app (RWs.ext xx rw) (reps_rws (hdd _ _))),?_⟩
  · have:=reps_len (hdd H [])
    simp only [List.length_cons,List.length_append,hl]
    omega
  · unfold makeR at cc
    revert cc
    cases init (.ref S.length :: (ws ++ dd.map W.d)) (S ++ [.ins c []]) with
    | err=>exact fun cc=>cc
    | exn k d S2=>exact fun cc ι' H' cv od y r rx=>cc ι' H' cv od (xx.trans y) r rx
    | ok w S2 =>
      intro cc ι' H' v y r rv
      simp only at cc
      split at cc
      · rename_i hw
        obtain ⟨p',hp',e'⟩:=y.at_ _ _ hself
        refine ⟨?_,cc ι' H' _ (xx.trans y) r ⟨p',hp',by rw [e']⟩⟩
        unfold isNon at hw
        split at hw
        · cases rv; rfl
        · cases hw
      · exact (show False from cc).elim
theorem r_make {gd:Bool} {k j n:Nat} {f0:Addr} {fd:FuncData} {ps:List Str} {init ff:FF} {dd:List D} {dv:List V} {ds:List Value} {x:Str} (hK:X.K=F.K) (M:Mk F.K (F.cls c) f0) (G:FnG gd X.prog X.w X.K X.mg X.base k f0 fd ps (spF F (n + 1 + dd.length) init)) (hgd:gd=true→X.A.guards=some []) (hr:Room j X.A) (hg:Gl X x) (hm:X.mg x=some (.ref (F.cls c)))
    (hb:Binds X.K fd ps ds) (hdv:Vals dv ds) (hdd:∀ H ex,Reps F.K F.cls H ex dd dv) (hff:∀ vs H Q E,spF F n ff vs H Q E→spF F n (makeR c init dd) vs H Q E) (tk:Takes X Wsh)
    (ha:PA X (e :: es) (tRA F Wsh fa)) (hlen:∀ ρ S ws S',fa ρ S=.ok ws S'→ws.length=n) (hjk:k + 1≤j:=by first | decide | omega) (hgd2:gd=true→(∀ us,(X.A.under (.builtin "type.__call__" ⟨.ref (F.cls c) :: us,[]⟩)).guards=some []):=by intro h; exact (Bool.noConfusion h))
    (hdb:(x == ("__debug__":Str))=false:=by decide) (he:starEach (e :: es) X.env=(false,eval e X.env) :: starEach es X.env:=by rfl) (hpl:(backTo pos (starEach es X.env)).any (·.1)=false:=by rfl) :
    PE X (.Call (.Name x p) (e :: es) [] pos) (tR F Wsh (fApp ff fa)):=by
  refine ⟨fun pins s σ H Q I h=>?_⟩
  obtain ⟨B,ι,ρ,S,rl,c0⟩:=h
  have M':Mk X.K (F.cls c) f0:=by rw [hK]; exact M
  refine wpAny_Call_Name_kw (ld_glob I hg hm ?_ hdb)
  refine PySem.W.callWith_K (h₀:=X.base) I.ok.mod.kin M'.kp (thn (ha.run pos pins s σ H (fun vs H1=>spF F n ff vs H1 Q (WE Wsh σ)) I ?_) fun us s1 hh=>?_) he hpl
  · refine ⟨B,ι,ρ,S,rl,c0.bind.mono fun ws S1 ι1 H1 ef x1 rl1 c1 vs rv=>⟨?_,B,ι1,S1,ws,rl1.toRelS,rv,ccont_of rl1 c1⟩⟩
    rw [← Paired.length rv]
    exact hlen ρ S ws S1 ef
  · obtain ⟨vs,H1,I1,r1,hsp⟩:=hh
    refine ⟨I1.kIn,?_⟩
    have hq:=make_init (dv:=dv) hdd (hff _ _ _ _ hsp) (I1.hok.fresh (Nat.le_succ s1.heap.objs.size)) (I1.hok.fresh (Nat.le_refl _)) (Nat.ne_of_lt (Nat.lt_succ_self _))
    have I2:=Inv.made (C:=F.cls c) I1
    have r2:Vals (V.ref (s1.heap.objs.size + 1) :: (vs ++ dv)) (Value.ref (s1.heap.objs.size + 1) :: (us ++ ds)):=.cons rfl (r1.append hdv)
    have hl:(Value.ref (s1.heap.objs.size + 1) :: us ++ ds).length=ps.length:=by
      have e:=r2.length
      rw [G.len _ _ _ _ hq] at e
      exact e.symm
    refine wpAny_call (make_map (f:=f0) I1.kIn M'.makes M'.init (beq_iff_eq.mp M'.fn) (codeAny_mono (G.run _ X.stack _ _ ⟨Value.ref (s1.heap.objs.size + 1) :: us,[]⟩ (Value.ref (s1.heap.objs.size + 1) :: (us ++ ds)) _ _ (WE Wsh σ) ((hr.mono hjk).make (F.cls c) us []) (fun z=>hgd2 z us)
      (I2.env0.make (F.cls c) us []) (hb _ (Value.ref (s1.heap.objs.size + 1) :: us) I2.kIn hl) r2 hq) fun r s' hq'=>?_))
    cases r with
    | error ex=>exact passAt tk σ pins _ _ ex s' I2 hq'
    | ok fl =>
      cases fl with
      | ret u =>
        obtain ⟨v,H',I3,rv,ev,q3⟩:=I2.after hq'
        subst ev
        exact ⟨rv,⟨V.ref (s1.heap.objs.size + 1),H',I3,rfl,q3⟩⟩
      | next=>exact (show False from hq').elim
      | brk=>exact (show False from hq').elim
      | cont=>exact (show False from hq').elim
end
end Ev
namespace Ev
open PySem PySem.Spec L2
open PyProof.Rows (IsTup)
section
variable {X:Cx} {F:Fx} {Wsh:WX} {es:List Expr} {e o i a b:Expr} {f g:FE} {fa:FA} {pos p p2:Pos}
def fCo (f:FE):FE:=fun ρ S=>(f ρ S).bind fun w S1=>match w with
  | .d (.ftp xs)=>.ok (.d (.tup xs)) S1
  | w=>.ok w S1
theorem r_co (he:PE X e (tR F Wsh f)):PE X e (tR F Wsh (fCo f)):=peImp he fun σ H Q ⟨B,ι,ρ,S,rl,c0⟩=>by
  refine tR_step rl c0 fun w v S1 ι1 H1 x1 rl1 rv c1=>?_
  cases w with
  | d x =>
    cases x with
    | ftp xs =>
      cases rv with
      | ftp n h p r=>exact c1.here rl1 _ (.tupF n h r)
    | _=>exact c1.here rl1 _ rv
  | _=>exact c1.here rl1 _ rv
def opTupF:OpN:=fun ws S=>match ws with
  | [w]=>(match view S w with
    | some (.lst xs)=>.ok (.d (.ftp xs)) S
    | _=>.err)
  | _=>.err
def rTupF (K:PySem.W.Frag):RN:=fun xs H Q=>∃ q ys,xs=[.ref q]∧SqL K H q ys∧∀ l ob,H l=none→plainT ob→Q (.ref l) (upd H l (.frz ob (.tup ys)))
theorem call_tupF (hK:X.K=F.K):CallR X (.type "tuple") (rTupF F.K):=by
  rw [← hK]
  intro pins s σ H xs us Q I r ⟨q,ys,e1,hq,k⟩
  subst e1
  obtain ⟨u,rfl,rx⟩:=vals1 r
  cases rx
  obtain ⟨its,rv,pl,hz⟩:=I.list hq
  have hlen:its.toArray.size≤sizeLine:=by rw [List.size_toArray,← rv.length]; exact hz
  refine call_tuple_list pl.isList (fun h' kp=>?_) hlen
  have I1:L2.Inv X pins σ H { s with heap:=h' }:=I.kept (t':=s.toks) kp
  let ob:Obj:={ cls:=.type "tuple",data:=.seq its.toArray }
  have ok:ObjOk X.prog X.w (upd H h'.objs.size (.frz ob (.tup ys))) (h'.push ob) h'.objs.size (.frz ob (.tup ys)):=⟨Heap.get?_push_size _ rfl,hz,its,rv,PyProof.Rows.IsTup.new _ _⟩
  exact ⟨.ref h'.objs.size,_,I1.laid (t':=s.toks) (fun b o e=>Heap.get?_push_of_some _ e) (Nat.le_refl _) ok,rfl,k _ ob (I1.hok.fresh (Nat.le_refl _)) ⟨rfl,rfl,_,_,rfl⟩⟩
theorem ok_tupF:OpNOk F opTupF (rTupF F.K):=by
  intro Wsh B ι ρ S σ H ws vs Q rl rw c
  unfold opTupF at c
  split at c
  · split at c
    · rename_i w xs hv
      obtain ⟨v,rfl,rv⟩:=one_arg rw
      obtain ⟨q,us,rfl,h1,r1⟩:=view_lst rl.toRelS rv hv
      refine ⟨q,us,rfl,SqL.of h1,fun l ob hl hp=>c ι _ (Ext.new hl) (rl.new hl nt_frz) _ (.ftp (rl.fresh hl) upd_same hp (r1.ext (Ext.new hl)))⟩
    · exact c.elim
  · exact c.elim
def strKV:List D→Option (List (Str×D))
  | []=>some []
  | .tup [.str k,v] :: xs=>(strKV xs).map ((k,v) :: ·)
  | _ :: _=>none
abbrev dkv (kvs:List (Str×D)):List (D×D):=kvs.map fun p=>(.str p.1,p.2)
abbrev vkv (kvs:List (Str×V)):List (Key×V):=kvs.map fun p=>(.inr p.1,p.2)
def opDictT:OpN:=fun ws S=>match ws with
  | [.d (.ftp xs)]=>(match strKV xs with
    | some kvs=>if (kvs.map (·.1)).Nodup then .ok (.d (.dct (dkv kvs))) S else .err
    | none=>.err)
  | _=>.err
theorem merge_nd:∀ (kvs acc:List (Key×V)),((acc ++ kvs).map (·.1)).Nodup→mergeK acc kvs=acc ++ kvs
  | [],acc,_=>by simp [mergeK]
  | p :: kvs,acc,h=>by
    have hn:valV acc p.1=none:=by
      have:(acc.any fun kv=>decide (kv.1=p.1))=false:=by
        rw [List.any_eq_false]
        intro x hx e
        have e:=of_decide_eq_true e
        rw [List.map_append,List.nodup_append] at h
        exact h.2.2 x.1 (List.mem_map.mpr ⟨x,hx,rfl⟩) p.1 (by simp) e
      rw [valV_any] at this
      simpa using this
    show mergeK (putK acc p.1 p.2) kvs=_
    rw [putK_new _ hn,merge_nd kvs _ (by simpa using h)]
    simp
def rDictT (K:PySem.W.Frag):RN:=fun xs H Q=>∃ (q:Addr) (ob:Obj) (ps:List Addr) (kvs:List (Key×V)),xs=[.ref q]∧H q=some (.frz ob (.tup (ps.map V.ref)))∧plainT ob∧Paired (fun p kv=>SqT K H p [kV kv.1,kv.2]) ps kvs ∧
  ∀ p,H p=none→Q (.ref p) (upd H p (.dK (mergeK [] kvs)))
theorem call_dictT (hK:X.K=F.K) (hcalm:X.calm=true):CallR X (.type "dict") (rDictT F.K):=by
  rw [← hK]
  intro pins s σ H xs us Q I r ⟨q,ob,ps,kvs,e1,hq,pl,hp,k⟩
  subst e1
  obtain ⟨u,rfl,rx⟩:=vals1 r
  cases rx
  obtain ⟨hob,hz,its,rv,_⟩:=(show ObjOk X.prog X.w H s.heap q (.frz ob (.tup (ps.map V.ref))) from I.hok q _ hq)
  have ei:=refs_at rv
  rename_i ht
  obtain ⟨o2,ho2,hc2,n2,hd2⟩:=ht
  rw [hob] at ho2
  cases ho2
  subst ei
  rw [List.length_map] at hz
  obtain ⟨prs,rel,hl,hpr⟩:=pairs_of I hp
  let vs:List (Value×Value):=(List.range prs.length).map fun j=>(match ps[j]? with
    | some b=>(match s.heap.get? b with
      | some o=>(match o.data with
        | .seq its _=>its.getD 0 .none
        | _=>.none)
      | none=>.none)
    | none=>.none,(prs.getD j (.inl 0,.none)).2)
  have hvl:vs.length=prs.length:=by simp [vs]
  have hvs:∀ (j:Nat) (q':Key×Value),prs[j]? = some q'→∃ (b:Addr) (u:Value),ps[j]? = some b∧IsTup s.heap b #[u,q'.2]∧keyIs q'.1 u=true∧vs[j]? = some (u,q'.2):=by
    intro j q' hj
    obtain ⟨b,u,h1,⟨o,h2,h3,n,h4⟩,h5⟩:=hpr j q' hj
    have hlt:j < prs.length:=(List.getElem?_eq_some_iff.mp hj).1
    refine ⟨b,u,h1,⟨o,h2,h3,n,h4⟩,h5,?_⟩
    simp only [vs,List.getElem?_map,List.getElem?_range hlt,Option.map_some,h1,h2,h4]
    rw [List.getD_eq_getElem?_getD,hj]
    rfl
  let Ts:Nat→Addr:=fun j=>ps.getD j 0
  have hps:∀ j b,ps[j]? = some b→Ts j=b:=fun j b h=>by
    show ps.getD j 0=b
    rw [List.getD_eq_getElem?_getD,h]
    rfl
  have hit:PairItems s.heap (ps.map Value.ref).toArray Ts vs:=by
    refine ⟨by rw [List.size_toArray,List.length_map,hvl,hl],fun j k v hj=>?_⟩
    have hlt:j < prs.length:=by rw [← hvl]; exact (List.getElem?_eq_some_iff.mp hj).1
    obtain ⟨b,u,h1,h2,h3,h4⟩:=hvs j prs[j] (List.getElem?_eq_getElem hlt)
    rw [h4] at hj
    cases hj
    refine ⟨by simp [h1,hps j b h1],.inl ?_⟩
    rw [hps j b h1]
    exact h2
  have hd:ob.data=.seq (ps.map Value.ref).toArray n2:=hd2
  refine PySem.call_dict_pairs (knd:=mixKind X.prog X.w) (kvs:=prs) (PairArg.tuple (prog:=X.prog) (w:=X.w) q (ps.map Value.ref).toArray Ts vs) (I.ok.hd hcalm) ⟨⟨ob,n2,hob,pl.1,pl.2.1,hd⟩,hit⟩ ?_ (by rw [hvl,hl]; exact hz) fun h' tk hd' hk=>?_
  · refine ⟨hvl.symm,fun j key v hj=>?_⟩
    have hlt:j < prs.length:=by rw [← hvl]; exact (List.getElem?_eq_some_iff.mp hj).1
    obtain ⟨b,u,h1,h2,h3,h4⟩:=hvs j prs[j] (List.getElem?_eq_getElem hlt)
    have hj:vs[j]? = some (key,v):=hj
    rw [h4] at hj
    cases hj
    exact ⟨prs[j].1,by rw [List.getElem?_eq_getElem hlt],h3⟩
  · have hm:(s.heap.objs.size == sysModules)=false:=beq_eq_false_iff_ne.mpr (Nat.ne_of_gt I.big)
    have hlen:(mergeK [] kvs).length≤sizeLine:=by
      have z:=length_mergeK kvs []
      rw [List.length_nil,Nat.zero_add,rel.length,hl] at z
      omega
    exact ⟨.ref s.heap.objs.size,_,I.laid (t':=tk) (fun b o e=>hk b o (by simp) e) (Nat.le_refl _) (show ObjOk X.prog X.w (upd H s.heap.objs.size (.dK (mergeK [] kvs))) h' s.heap.objs.size (.dK (mergeK [] kvs)) from ⟨hlen,hm,merged [] prs,KV.merge rel .nil,hd'⟩),rfl,k _ (I.hok.fresh (Nat.le_refl _))⟩
theorem strKV_pairs {H:Hp} {ex:List Addr}:∀ {xs:List D} {kvs:List (Str×D)} {vs:List V},strKV xs=some kvs→Reps F.K F.cls H ex xs vs→∃ (ps:List Addr) (us:List (Str×V)),vs=ps.map V.ref ∧
    Paired (fun p kv=>SqT F.K H p [kV kv.1,kv.2]) ps (vkv us)∧RepK F.K F.cls H ex (dkv kvs) (vkv us)∧us.map (·.1)=kvs.map (·.1)
  | [],kvs,_,h,.nil=>by
    simp only [strKV,Option.some.injEq] at h
    subst h
    exact ⟨[],[],rfl,.nil,.nil,rfl⟩
  | x :: xs,kvs,_,h,.cons r t=>by
    unfold strKV at h
    split at h
    · rename_i e
      cases e
    · rename_i k d ys e
      cases e
      simp only [Option.map_eq_some_iff] at h
      obtain ⟨k2,h,rfl⟩:=h
      obtain ⟨ps,us,rfl,h1,h2,h3⟩:=strKV_pairs h t
      obtain ⟨q,ws,rfl,hq,r2⟩:=rep_sqT r
      cases r2 with
      | cons ra rr=>cases rr with
        | cons rb rr =>
          cases rr
          cases ra
          exact ⟨q :: ps,(_,_) :: us,rfl,.cons hq h1,.str rb h2,by simp [h3]⟩
    · cases h
theorem ok_dictT:OpNOk F opDictT (rDictT F.K):=by
  intro Wsh B ι ρ S σ H ws vs Q rl rw c
  unfold opDictT at c
  split at c
  · split at c
    · rename_i xs kvs hk
      split at c
      · rename_i nd
        obtain ⟨v,rfl,rv⟩:=one_arg rw
        cases rv with
        | ftp n h pl r =>
          obtain ⟨ps,us,rfl,h1,h2,h3⟩:=strKV_pairs hk r
          refine ⟨_,_,ps,_,rfl,h,pl,h1,fun q hq=>?_⟩
          have em:mergeK [] (vkv us)=vkv us:=by
            rw [merge_nd]
            · rfl
            · have:(List.map (fun x=>x.1) (vkv us))=(us.map (·.1)).map Sum.inr:=by simp [vkv,Function.comp_def]
              rw [List.nil_append,this,h3]
              exact List.pairwise_map.mpr (nd.imp fun h e=>h (Sum.inr.inj e))
          rw [em]
          exact c ι _ (Ext.new hq) (rl.new hq) _ (.dK (rl.fresh hq) upd_same (RepK.extW (Ext.toW (Ext.new hq)) h2))
      · exact c.elim
    · exact c.elim
  · exact c.elim
def valD (kvs:List (D×D)) (z:Str):Option D:=match kvs with
  | []=>none
  | (.str k,v) :: r=>if k=z then some v else valD r z
  | _ :: r=>valD r z
def opDGetD:Op2:=fun x y S=>match x,y with
  | .d (.dct kvs),.d (.str z)=>(match valD kvs z with
    | some d=>.ok (.d d) S
    | none=>.err)
  | _,_=>.err
theorem valD_rel {H:Hp} {ex:List Addr} {z:Str}:∀ {kvs:List (D×D)} {vs:List (Key×V)} {d:D},RepK F.K F.cls H ex kvs vs→valD kvs z=some d→∃ v,valV vs (.inr z)=some v∧Rep F.K F.cls H ex d v
  | _,_,_,.nil,e=>by simp [valD] at e
  | _,_,d,.int r t,e=>by
    obtain ⟨v,h1,h2⟩:=valD_rel t (by simpa [valD] using e)
    exact ⟨v,by rw [valV_neg (by simp)]; exact h1,h2⟩
  | (.str k,_) :: _,_,d,.str r t,e=>by
    simp only [valD] at e
    split at e
    · rename_i hk
      cases e
      exact ⟨_,valV_pos (by rw [hk]),r⟩
    · rename_i hk
      obtain ⟨v,h1,h2⟩:=valD_rel t e
      exact ⟨v,by rw [valV_neg (by simpa using hk)]; exact h1,h2⟩
theorem r_dgetD (hu:X.A.units + 1 < cLine) (ho:PE X o (tR F Wsh f)) (hi:PE X i (tR F Wsh g)) (hs:NoSl i):PE X (.Subscript o i pos) (tR F Wsh (fBin opDGetD f g)) :=
  peImp (pe_dget hu ho hi hs) fun σ H Q ⟨B,ι,ρ,S,rl,c⟩=>by
    refine tR_step rl c fun wx x S1 ι1 H1 x1 rl1 rx c1=>?_
    refine tR_step rl1 c1 fun wy y S2 ι2 H2 x2 rl2 ry c2=>?_
    unfold opDGetD at c2
    split at c2
    · rename_i kvs z
      split at c2
      · rename_i d hd
        cases RW.ext x2 rx with
        | dK n h r =>
          obtain ⟨v,h1,h2⟩:=valD_rel r hd
          cases ry
          exact ⟨_,v,rfl,by rw [← h1]; exact DGet.k (k:=.inr z) h,c2.here rl2 _ h2⟩
      · exact (show False from c2).elim
    · exact (show False from c2).elim
end
end Ev
namespace Ev
open PySem PySem.Spec L2 PySem.SeqAt
theorem dict_declines (l:Addr) (es:Array DictEntry) (ep:Nat) (dd:Option Addr) (sl:Array (Option Value)) (z:Str) (u:Tok) :
    Meets (Builtin.«dict.__eq__» ⟨[.ref l,.str z u],[]⟩) (fun _ R s=>s.heap.get? l=some { cls:=.type "dict",dict:=dd,data:=.dict es ep,slots:=sl }∧R (.ok (.ret .notImplemented)) s) :=
  .of_wp fun prog w A R s h=>by
    obtain ⟨hp,g,d,tk,os⟩:=s
    obtain ⟨hl,h⟩:=h
    have f1:=F.sub_str_dict
    wp_walk using AutoSeq1.wpAny_loadPart' hl
    exact ⟨_,rfl,h⟩
theorem str_declines (l:Addr) (es:Array DictEntry) (ep:Nat) (dd:Option Addr) (sl:Array (Option Value)) (z:Str) (u:Tok) :
    Meets (Builtin.«str.__eq__» ⟨[.str z u,.ref l],[]⟩) (fun _ R s=>s.heap.get? l=some { cls:=.type "dict",dict:=dd,data:=.dict es ep,slots:=sl }∧R (.ok (.ret .notImplemented)) s) :=
  .of_wp fun prog w A R s h=>by
    obtain ⟨hp,g,d,tk,os⟩:=s
    obtain ⟨hl,h⟩:=h
    wp_walk using AutoSeq1.wpAny_loadPart' hl,wpAny_load hl
    exact ⟨_,rfl,h⟩
theorem eq_dict_str {A:Around} {s:Shared} {l:Addr} {es:Array DictEntry} {ep:Nat} {dd:Option Addr} {sl:Array (Option Value)} (z:Str) (u:Tok) (ho:s.heap.get? l=some { cls:=.type "dict",dict:=dd,data:=.dict es ep,slots:=sl }) (hu:A.units < cLine) :
    EqAt A s (.ref l) (.str z u) false:=fun prog w E Q h=>by
  have rc:∀ Q:Value→Shared→Prop,Q (.bool false) s→wpAny (model prog w) A (richCompare .Eq (.ref l) (.str z u)) Q E s:=fun Q h =>
    rc_eq_decline_or (k:=false) ⟨_,ho,rfl⟩ (typeIs_str s z u) (by decide) F.sub_str_dict F.slot_dict_eq F.slot_str_eq_refl
      (fun _ hq=>call_meets F.slot_dict_eq ⟨_,ho,rfl⟩ F.entry_dict_eq (F.args_dict_eq_2 _ _) (dict_declines l es ep dd sl z u) ⟨ho,hq⟩)
      (fun _ hq=>call_meets F.slot_str_eq_refl (typeIs_str s z u) F.entry_str_eq (F.args_str_eq_2 _ _) (str_declines l es ep dd sl z u) ⟨ho,hq⟩)
      (fun _ hq=>wpAny_of_eq (show isSame (.ref l) (.str z u)=pure false from rfl) hq) (.inr hu) h
  unfold eqBool
  refine wpAny_holding (wpAny_ite_split (fun hab=>absurd (eq_of_beq hab) nofun) fun _=>?_)
  exact wpAny_bind (rc _ (wpAny_truthy_bool h))
def eqS:D→Str→Option Bool
  | .str y,z=>some (decide (y=z))
  | .non,_=>some false
  | .bl _,_=>some false
  | .int _,_=>some false
  | .tup _,_=>some false
  | .lst _,_=>some false
  | .dct _,_=>some false
  | _,_=>none
def eqSs:List D→List Str→Option Bool
  | [],[]=>some true
  | [],_ :: _=>some false
  | _ :: _,[]=>some false
  | x :: xs,z :: zs=>(eqS x z).bind fun b=>(eqSs xs zs).map (b && ·)
def strsOf:List D→Option (List Str)
  | []=>some []
  | .str z :: xs=>(strsOf xs).map (z :: ·)
  | _ :: _=>none
def opEqS:Op2:=fun x y S=>match x,y with
  | .d (.tup xs),.d (.tup ys)=>(match strsOf ys with
    | some zs=>(match eqSs xs zs with
      | some b=>.ok (.d (.bl b)) S
      | none=>.err)
    | none=>.err)
  | _,_=>.err
section
variable {X:Cx} {F:Fx} {pins:List (Addr×Obj)} {σ:L2.St} {H:Hp} {s:Shared} {ex:List Addr}
theorem eqS_at (I:L2.Inv X pins σ H s) (hK:X.K=F.K) {A:Around} (hu:A.units < cLine) {d:D} {v:V} {u:Value} {z:Str} {t:Tok} {b:Bool} (e:eqS d z=some b) (r:Rep F.K F.cls H ex d v) (rv:RelV v u):EqAt A s u (.str z t) b:=by
  cases r with
  | non=>cases rv; cases e; exact EqAt.none_str z t
  | bl x=>cases rv; cases e; exact EqAt.bool_str x z t
  | int i=>obtain ⟨k,rfl⟩:=rv; cases e; exact EqAt.int_str i k z t
  | str y =>
    obtain ⟨k,rfl⟩:=rv
    simp only [eqS,Option.some.injEq] at e
    have:=EqAt.str_str (A:=A) (s:=s) y k z t
    have e2:(y == z)=b:=by rw [← e]; by_cases h:y=z <;> simp [h]
    rw [e2] at this
    exact this
  | tup n h r =>
    cases rv; cases e
    obtain ⟨its,_,p,_⟩:=I.tuple (SqT.of h)
    exact EqAt.tuple_str z t p hu
  | tupK h1 h2 h3 h4 h5 r =>
    cases rv; cases e
    obtain ⟨its,_,p,_⟩:=I.tuple (xs:=_) (by rw [hK]; exact .inr ⟨_,_,_,h1,h2,h3,h4,h5⟩)
    exact EqAt.tuple_str z t p hu
  | tupF n h r =>
    cases rv; cases e
    obtain ⟨its,_,p,_⟩:=I.tuple (.inl (.inr ⟨_,h⟩))
    exact EqAt.tuple_str z t p hu
  | lst n h r =>
    cases rv; cases e
    obtain ⟨its,_,p,_⟩:=I.list (SqL.of h)
    exact EqAt.list_str z t p.isList hu
  | dK n h r =>
    cases rv; cases e
    obtain ⟨_,_,vs,kv,o,es,ep,e1,e2,e3,e4⟩:=dk_of I.hok h
    obtain ⟨c,dd,dat,sl⟩:=o
    obtain ⟨hc,hd,hs⟩:=e2
    simp only at hc hd hs e3
    subst hc hd hs e3
    exact eq_dict_str z t e1 hu
  | ins _ _ _=>cases e
  | scr _ _ _=>cases e
  | scrK _ _ _ _ _ _=>cases e
  | ftp _ _ _ _=>cases e
  | cls _=>cases e
  | kdc _ _ _=>cases e
  | exi _ _ _ _ _=>cases e
  | dkf _ _ _=>cases e
theorem eqSs_at (I:L2.Inv X pins σ H s) (hK:X.K=F.K) {A:Around} (hu:A.units < cLine):∀ {ds:List D} {vs:List V} {us:List Value} {zs:List Str} {ws:List Value} {b:Bool},eqSs ds zs=some b→Reps F.K F.cls H ex ds vs→Vals vs us→Vals (zs.map V.str) ws →
    ∃ e:Nat→Bool,(∀ (j:Nat) (h1:j < us.length) (h2:j < ws.length),EqAt A s us[j] ws[j] (e j))∧((List.range (min us.length ws.length)).all e && (us.length == ws.length))=b
  | [],_,_,[],_,b,e,.nil,.nil,.nil=>by
    simp only [eqSs,Option.some.injEq] at e
    exact ⟨fun _=>true,fun j h1=>absurd h1 (by simp),by simp [e]⟩
  | [],_,_,z :: zs,_,b,e,.nil,.nil,.cons rz rzs=>by
    simp only [eqSs,Option.some.injEq] at e
    exact ⟨fun _=>true,fun j h1=>absurd h1 (by simp),by simp [← e]⟩
  | x :: xs,_,_,[],_,b,e,.cons r t,.cons rv tv,.nil=>by
    simp only [eqSs,Option.some.injEq] at e
    exact ⟨fun _=>true,fun j h1 h2=>absurd h2 (by simp),by simp [← e]⟩
  | x :: xs,_,_,z :: zs,_,b,e,.cons r t,.cons rv tv,.cons rz rzs=>by
    simp only [eqSs,Option.bind_eq_some_iff,Option.map_eq_some_iff] at e
    obtain ⟨b1,e1,b2,e2,rfl⟩:=e
    obtain ⟨f,h1,h2⟩:=eqSs_at I hK hu e2 t tv rzs
    obtain ⟨tk,rfl⟩:=rz
    have h0:=eqS_at (A:=A) (t:=tk) I hK hu e1 r rv
    refine ⟨fun j=>match j with | 0=>b1 | j + 1=>f j,fun j k1 k2=>?_,?_⟩
    · cases j with
      | zero=>exact h0
      | succ j=>exact h1 j (by simpa using k1) (by simpa using k2)
    · rw [← h2]
      simp only [List.length_cons,Nat.succ_min_succ,List.range_succ_eq_map,List.all_cons,List.all_map]
      have:((fun j=>match j with | 0=>b1 | j + 1=>f j) ∘ Nat.succ)=f:=by funext j; rfl
      rw [this]
      simp [Bool.and_assoc]
theorem strsOf_vals:∀ {ys:List D} {zs:List Str} {vs:List V},strsOf ys=some zs→Reps F.K F.cls H ex ys vs→vs=zs.map V.str
  | [],zs,_,h,.nil=>by simp only [strsOf,Option.some.injEq] at h; subst h; rfl
  | y :: ys,zs,_,h,.cons r t=>by
    unfold strsOf at h
    split at h
    · rename_i e; cases e
    · rename_i z xs e
      cases e
      simp only [Option.map_eq_some_iff] at h
      obtain ⟨z2,h,rfl⟩:=h
      cases r
      rw [strsOf_vals h t]
      rfl
    · cases h
def rEqS (F:Fx):R2:=fun x y H Q=>∃ ex xs ys zs b,Rep F.K F.cls H ex (.tup xs) x∧Rep F.K F.cls H ex (.tup ys) y∧strsOf ys=some zs∧eqSs xs zs=some b∧Q (.bl b) H
theorem or_eqS (hu:X.A.units + 1 < cLine) (hK:X.K=F.K):OpR X (compareOp .Eq) (rEqS F):=by
  intro pins s σ H x y v u Q I rx ry ⟨ex,xs,ys,zs,b,r1,r2,e1,e2,q⟩
  obtain ⟨p,vs,rfl,h1,t1⟩:=rep_sqT r1
  obtain ⟨p2,vs2,rfl,h2,t2⟩:=rep_sqT r2
  have ev:=strsOf_vals e1 t2
  subst ev
  cases rx; cases ry
  rw [← hK] at h1 h2
  obtain ⟨its,rv,ht,hz⟩:=I.tuple h1
  obtain ⟨its2,rv2,ht2,hz2⟩:=I.tuple h2
  obtain ⟨f,g1,g2⟩:=eqSs_at (A:=X.A.in1) I hK (show X.A.in1.units < cLine from hu) e2 t1 rv rv2
  refine SeqAt.eq_tupleAt (e:=f) ht ht2 (by omega) (fun j k1 k2=>?_) ⟨.bl b,H,I,?_,q⟩
  · have:=g1 j (by simpa using k1) (by simpa using k2)
    simpa using this
  · show Value.bool _=Value.bool b
    rw [← g2]
    simp
theorem ok_eqS:OpOk F opEqS (rEqS F):=by
  intro Wsh B ι ρ S σ H wx wy x y Q rl rx ry c
  unfold opEqS at c
  split at c
  · split at c
    · rename_i zs e1
      split at c
      · rename_i b e2
        exact ⟨_,_,_,zs,b,rx,ry,e1,e2,c.here rl _ (.bl b)⟩
      · exact c.elim
    · exact c.elim
  · exact c.elim
end
end Ev
namespace Ev
open PySem PySem.Spec L2 PySem.SeqAt
section
variable {prog:Program} {w:World} {A:Around} {E:Value→Shared→Prop} {s:Shared} {zz ti tt ia ib tu:Addr} {fa fb:List Addr} {na nb i:Nat} {Pa Pb:Nat→Value→Prop} {Sa Sb:Nat→Heap→Prop} {fl:Bool} {ou:Obj}
end
theorem kv_zip:∀ {zs:List Str} {ys:List V} {us:List Value},Vals ys us→KV (vkv (zs.zip ys)) ((zs.zip us).map fun p=>((Sum.inr p.1:L2.Key),p.2))
  | [],_,_,_=>.nil
  | _ :: _,_,_,.nil=>.nil
  | z :: zs,_,_,.cons r t=>.cons ⟨rfl,r⟩ (kv_zip t)
section
variable {X:Cx} {F:Fx} {Wsh:WX} {e e2:Expr} {f g:FE} {pos pos2 p p2:Pos} {k1 k2:Bool} {ta:TA}
end
end Ev
namespace Ev
open PySem PySem.Spec L2
section
variable {X:Cx} {F:Fx} {Wsh:WX} {es:List Expr} {e o i a b:Expr} {f g:FE} {fa:FA} {pos p p2 apos:Pos}
def opInT (neg:Bool):Op2:=fun x y S=>match x,y with
  | .d (.str z),.d (.tup ys)=>(match strsOf ys with
    | some zs=>.ok (.d (.bl (if neg then !decide (z∈zs) else decide (z∈zs)))) S
    | none=>.err)
  | _,_=>.err
theorem inV_strs (z:Str):∀ zs:List Str,inV (.str z) (zs.map V.str)=decide (z∈zs)
  | []=>rfl
  | y :: ys=>by
    have ih:=inV_strs z ys
    unfold inV at ih ⊢
    rw [List.map_cons,List.any_cons,ih]
    by_cases h:y=z
    · simp [eqV,h]
    · have h':¬ z=y:=fun e=>h e.symm
      simp [eqV,h,h']
theorem ok_inT (neg:Bool):OpOk F (opInT neg) (rIn F.K neg):=by
  intro Wsh B ι ρ S σ H wx wy x y Q rl rx ry c
  unfold opInT at c
  split at c
  · split at c
    · rename_i z ys zs hz
      obtain ⟨q,vs,rfl,h1,r1⟩:=rep_sqT ry
      have ev:=strsOf_vals hz r1
      subst ev
      cases rx
      refine ⟨q,_,rfl,.inr h1,rfl,by simp [flatV],?_⟩
      rw [inV_strs]
      exact c.here rl _ (.bl _)
    · exact c.elim
  · exact c.elim
theorem or_notinT (hK:X.K=F.K):OpR X (compareOp .NotIn) (rIn F.K true):=by rw [← hK]; exact op_notIn_seq
def GTup (K:PySem.W.Frag) (mg:Str→Option Value) (x:Str) (zs:List Str):Prop:=∃ (q:Addr) (ob:Obj) (its:Array Value) (n:Nat),mg x=some (.ref q)∧K.lookup q=some ob∧ob.cls=.type "tuple" ∧ ob.data=.seq its n∧its.size≤sizeLine∧Vals (zs.map V.str) its.toList
theorem reps_strs {H:Hp} {ex:List Addr}:∀ zs:List Str,Reps F.K F.cls H ex (zs.map D.str) (zs.map V.str)
  | []=>.nil
  | z :: zs=>.cons (.str z) (reps_strs zs)
theorem r_gtup {x:Str} {zs:List Str} (h:GTup F.K X.mg x zs) (hg:Gl X x) (hd:(x == ("__debug__":Str))=false:=by decide):PE X (.Name x pos) (tR F Wsh (fC (.tup (zs.map D.str)))):=by
  obtain ⟨q,ob,its,n,e,h1,h2,h3,h4,h5⟩:=h
  exact r_const (pe_glob hg e (v:=.ref q) rfl hd) fun _ _ _=>.tupK h1 h2 h3 h4 h5 (reps_strs zs)
structure MDef (K:PySem.W.Frag) (C:Addr) (x qual:Str) (st:Stmt) (ps:List Str) (dvs:List V) (f:Addr) (fd:FuncData):Prop where
  fn:FunD K x qual (defArgs st) (defBody st) (defScope st) dvs [] f fd
  me:Meth K C x f
  b:Binds K fd ps []
end
open PyProof.Rows (envOfC) in
theorem def_okM {gd:Bool} {P:Program} {w:World} {mg:Str→Option Value} {base:Heap} {k:Nat} {f:Addr} {fd:FuncData} {ps:List Str} {F:Fx} {x qual:Str} {st:Stmt} {N:List Str} {g:FS} {dvs:List V} (Fn:FunD F.K x qual (defArgs st) (defBody st) (defScope st) dvs [] f fd) (S:FnScope N ps (defScope st))
    (hb:∀ (cdv:Value) (A:Around) (outer:List Env) (s:Shared) (H:Hp) (E:XK),Room k (A.deeper (envOfC qual (defScope st) s.heap.objs.size f cdv))→(gd=true→A.guards=some []) →
      PSs (cxOf (L2.CX P w) P w F.K mg base N qual (defScope st) f cdv A outer s H E) (defBody st) (tS F (fun cls d _ H=>E cls d H) g)) :
    FnG gd P w F.K mg base (k + 1) f fd ps (spF F ps.length (bodyF N.length g)):=by
  obtain ⟨oc,od,dV,kV,doc,pm,an,cdv,ct,osl,rfl,lk,hcd,_,_⟩:=Fn.ex
  refine fnG_of lk hcd S (fun vs H Q E h=>h.1) fun A outer s H vs Q E hr hg hsp=>⟨_,hb cdv A outer s H E hr hg,?_⟩
  obtain ⟨hl,B,ι,S0,ws,rs,rw,c⟩:=hsp
  have hlw:ws.length=vs.length:=Paired.length rw
  refine ⟨B,ι,ws.map some ++ List.replicate (N.length - ws.length) none,S0,⟨rs,?_⟩,?_⟩
  · unfold L2.start
    rw [hlw]
    exact start_rel _ rw
  · unfold bodyF at c
    revert c
    cases g (ws.map some ++ List.replicate (N.length - ws.length) none) S0 with
    | nx ρ S1=>exact fun c ι' H' σ' x r=>c ι' H' .non x r.toRelS .non
    | rt w S1=>exact fun c ι' H' v x r rv=>c ι' H' v x r rv
    | exn cc d ρ S1=>exact fun c ι' H' σ' cv od x r rx=>c ι' H' cv od x r.toRelS rx
    | bk _ _=>exact fun c=>(show False from c).elim
    | ct _ _=>exact fun c=>(show False from c).elim
    | err=>exact fun c=>(show False from c).elim
end Ev
namespace Ev
open PySem PySem.Spec L2 PyProof.Rows
section
variable {X:Cx} {F:Fx} {Wsh:WX} {es:List Expr} {e:Expr} {f:FE} {fa fk:FA} {pos p kpos:Pos} {c:Nat} {nm:Option Str} {kws:List Keyword}
theorem pkImp {t t':TA} (h:PK X kws t) (i:∀ σ H Q,t' σ H Q→t σ H Q):PK X kws t':=⟨fun pos pins s σ H Q I w=>h.run pos pins s σ H Q I (i σ H Q w)⟩
theorem r_knil:PK X [] (tRA F Wsh fNil):=pkImp pk_nil fun σ H Q ⟨B,ι,ρ,S,r,c0⟩=>c0.here r [] .nil
theorem r_kcons (ha:PE X e (tR F Wsh f)) (hr:PK X kws (tRA F Wsh fa)):PK X (⟨nm,e,kpos⟩ :: kws) (tRA F Wsh (fCons f fa)) :=
  pkImp (pk_cons ha hr) fun σ H Q ⟨B,ι,ρ,S,r,c0⟩=>by
    refine tR_step r c0 fun w v S1 ι1 H1 x1 r1 rv c1=>?_
    refine tRA_step r1 c1 fun ws vs S2 ι2 H2 x2 r2 rvs c2=>?_
    exact c2.here r2 _ (.cons (rv.ext x2) rvs)
end
end Ev
namespace Ev
open PySem PySem.Spec L2 ClX StX
open PyProof.Rows (envOfC)
section
variable {F:Fx}
structure CDef (K:PySem.W.Frag) (C:Addr) (m qual:Str) (st:Stmt) (ps:List Str) (pv:Str) (f:Addr) (fd:FuncData):Prop where
  fn:Fun K m qual st f fd
  rd:∃ mc p,CRead K C mc∧CMet K C mc m p f
  b:∀ us rest:List Value,us.length=ps.length→bindArgs fd ⟨us ++ rest,[]⟩=(newTuple rest >>= fun t=>pure (ps.zip us ++ [(pv,t)]))
variable {X:Cx} {Wsh:WX} {e:Expr} {es:List Expr} {fa:FA} {pos p apos:Pos} {c:Nat} {x m qual:Str}
end
end Ev
namespace Ev
open PySem PySem.Spec L2 PyProof.Rows
open PySem.EvX (ExTxt)
def wL (K:PySem.W.Frag) (i:Nat) (Wo:WX) (D:Ends):List (Value×(Addr→Value→Option Addr→TS))→WX
  | []=>Wo
  | p :: r=>wAs K p.1 i p.2 (wL K i Wo D r) D
inductive HdL (X:Cx) (n:Str):List ExceptHandler→List (Value×(Addr→Value→Option Addr→TS))→Prop
  | nil:HdL X n [] []
  | cons {x:Str} {c:Value} {ts:Addr→Value→Option Addr→TS} {s₀:Stmt} {ss:List Stmt} {np hp:Pos} {hds:List ExceptHandler} {l:List (Value×(Addr→Value→Option Addr→TS))} (hx:Names X x c)
      (run:∀ (a:Addr) (oe:Obj) (cv:Value) (dx:Option Addr) (pn:List (Addr×Obj)),Zc cv dx oe→(∃ vs,oe.data=.fields vs)→PSs (X.suite a ((a,oe) :: pn)) (s₀ :: ss) (ts a cv dx)) (rest:HdL X n hds l) :
      HdL X n (.ExceptHandler (some (.Name x np)) (some n) (s₀ :: ss) hp :: hds) ((c,ts) :: l)
section
variable {X:Cx} {n:Str} {i:Nat} {body:List Stmt} {h₀:ExceptHandler} {hds:List ExceptHandler} {l:List (Value×(Addr→Value→Option Addr→TS))} {pos:Pos} {tb:WX→TS} {Wo:WX}
theorem ps_tryL (est:X.stack=X.env :: X.outer) (efr:X.env.frame=some X.env.locals) (nod:X.N.Nodup) (at_:X.N[i]? = some n) (isl:X.env.kindOf n=some .local) (tk:Takes X Wo)
    (runB:∀ (W:WX) (pn:List (Addr×Obj)) (xe:Value→Shared→Prop),Takes (X.tr pn xe) W→PassesOwn (model X.prog X.w) X.A X.env xe→PSs (X.tr pn xe) body (tb W))
    (runH:HdL X n (h₀ :: hds) l):PS X (.Try body (h₀ :: hds) [] [] pos) (fun D σ H=>tb (wL X.K i Wo D l) D σ H):=by
  refine ⟨fun pins s σ H D I wish=>?_⟩
  have ok:=I.ok
  have efs:X.A.frames=some (X.env :: X.outer):=by rw [ok.frames,est]
  have lcl:L2.Loc X.env.scope n:=.inl isl
  refine wpAny_Try_except ?_
  refine wpAny_mono ((runB (wL X.K i Wo D l) (X.pn ++ pins) (fun e t1=>wpAny (model X.prog X.w) X.A (noteFrame e X.env) (fun _ t2=>wpAny (model X.prog X.w) X.A (setFlight e none) (fun _ t3 =>
    wpAny (model X.prog X.w) X.A (handleBy e X.env (h₀ :: hds)) (SP X pins D) X.xe t3) X.xe t2) X.xe t1) (fun u t xx=>?_) PassesOwn.looking).run [] s σ H D (I.toTry _) wish) (fun fl t1 hsp=>?_) (fun e t1 he=>he)
  · obtain ⟨a,B,sI,pins',σc,Hc,cv,dx,rfl,J',nb,up,sky,na,os,ag,w⟩:=xx
    have J:Inv X pins σc Hc sI:=J'.ofTry ok
    have sky2:Sky B (X.env :: X.outer) a (Zc cv dx) X.env.locals t.heap:=by rw [← est]; exact sky
    show wpAny (model X.prog X.w) X.A (noteFrame (.ref a) X.env) _ _ _
    refine Sky.land Zc.steady efs efr sky2 fun h3 fl3 up3=>?_
    have J3:Inv X pins σc Hc { t with heap:=h3 }:=J.landed nb fl3.1 (up.trans up3) os ag
    obtain ⟨oe3,vs3,he3,hz3,hd3⟩:=fl3.there
    have nfr:a ∉ frs (X.env :: X.outer):=fun hm=>by
      obtain ⟨_,o2,e2,hnf⟩:=fl3.2.2.1.mem hm
      rw [he3] at e2; cases e2
      exact hnf _ hd3
    have nL:a ≠ X.env.locals:=fun z=>nfr (List.mem_filterMap.mpr ⟨X.env,List.mem_cons_self,by rw [efr,z]⟩)
    have nF:a ∉ X.fs:=fun hm=>by
      obtain ⟨e,he,q⟩:=List.mem_filterMap.mp hm
      exact nfr (List.mem_filterMap.mpr ⟨e,List.mem_cons_of_mem _ he,q⟩)
    have S3:=J3.suite he3 hd3 na nL nF
    have go:∀ {gs:List ExceptHandler} {m:List (Value×(Addr→Value→Option Addr→TS))},HdL X n gs m→wL X.K i Wo D m cv dx σc Hc →
        wpAny (model X.prog X.w) X.A (handleBy (.ref a) X.env gs) (SP X pins D) X.xe { t with heap:=h3 }:=by
      intro gs m hk
      induction hk with
      | nil =>
        intro w
        refine wpAny_handleBy_nil ?_
        obtain ⟨_,_,_,oe,vs,T,_,_,he,_,hd,h1,_⟩:=id fl3
        unfold PySem.passOn
        refine wpAny_bind (wpAny_field he hd h1 ?_)
        rw [if_neg (show ¬ ((Value.ref T == Value.none)=true) from by simp)]
        have fin:wpAny (model X.prog X.w) X.A (setFlight (.ref a) X.env.frame) (fun _ t4=>wpAny (model X.prog X.w) X.A (throw (.ref a):Sem Flow) (SP X pins D) X.xe t4) X.xe { t with heap:=h3 }:=by
          rw [efr]
          refine HandSPX.setFlight_upZ fl3 fun h4 hh4 up4=>wpAny_throw (tk _ _ ?_)
          exact ⟨a,B,sI,pins,σc,Hc,cv,dx,rfl,J,nb,(up.trans up3).trans up4,.inr (.inr (by rw [est]; exact hh4)),na,os,ag,w⟩
        first
          | exact wpAny_bind (wpAny_pure (wpAny_bind fin))
          | exact wpAny_bind fin
      | @cons x c ts s₀ ss np hp hds2 l2 hx run rest ih =>
        intro w
        obtain ⟨b,hb1,yes,no⟩:=w
        refine wpAny_handleBy_cons (codeAny_handlers_test ?_) (by intro q; cases q)
        have LT:PySem.W.Looks (model X.prog X.w) h3 (typeOf (.ref a)) cv:=fun A Q E s4 k q=>wpAny_typeOf_ref (k _ _ he3) (by rw [hz3.1]; exact q)
        have LM:=PySem.W.exm_one (M:=model X.prog X.w) (J3.kIn) LT hb1
        have ask:∀ {Q:Value→Shared→Prop} {E:Value→Shared→Prop},Q c { t with heap:=h3 }→wpAny (model X.prog X.w) (X.A.mark (some (.ref a))) (eval (.Name x np) X.env) Q E { t with heap:=h3 }:=fun {Q E} q=>by
          obtain ⟨hg,hdbg,hm | ⟨hm,hv,hnn⟩⟩:=hx
          · exact ld_glob (X:=X.suite a ((a,oe3) :: (X.pn ++ pins))) S3 hg hm q hdbg
          · exact ld_blt (X:=X.suite a ((a,oe3) :: (X.pn ++ pins))) S3 hg hm hv q hnn hdbg
        refine ask (LM.here ?_)
        cases b with
        | true =>
          refine codeAny_handlers_suite_as ?_
          refine HandSPX.lands_againZ fl3 fun h4 fl4 up4=>?_
          have J4:Inv X pins σc Hc { t with heap:=h4 }:=J.landed nb fl4.1 ((up.trans up3).trans up4) os ag
          obtain ⟨oe4,vs4,he4,hz4,hd4⟩:=fl4.there
          have S4:=J4.suite he4 hd4 na nL nF
          refine store_ok (X:=X.suite a ((a,oe4) :: (X.pn ++ pins))) (v:=.ref a) S4 nod at_ lcl rfl (fun t5 S5=>?_) (.inr isl)
          refine wpAny_mono ((run a oe4 cv dx (X.pn ++ pins) hz4 ⟨_,hd4⟩).run [] t5 _ Hc _ S5 (yes rfl a na)) (fun fl t6 hsp=>?_) (fun _ _ z=>False.elim z)
          have ends:∀ {σ6:L2.St} {H6:Hp} {Q:Shared→Prop},Inv (X.suite a ((a,oe4) :: (X.pn ++ pins))) [] σ6 H6 t6→(∀ t7,Inv X pins (σ6.set i none) H6 t7→Q t7) →
              wpAny (model X.prog X.w) X.A (do bindName X.env n .none; unbindBehindTheSuite X.env n hp) (fun _ t7=>Q t7) X.xe t6:=fun {σ6 H6 Q} S6 hq=>gone_ok (S6.unsuite ok) nod at_ isl hq
          cases fl with
          | next=>obtain ⟨σ6,H6,S6,q6⟩:=hsp; exact ends S6 fun t7 J7=>⟨_,_,J7,q6⟩
          | brk=>obtain ⟨σ6,H6,S6,q6⟩:=hsp; exact ends S6 fun t7 J7=>⟨_,_,J7,q6⟩
          | cont=>obtain ⟨σ6,H6,S6,q6⟩:=hsp; exact ends S6 fun t7 J7=>⟨_,_,J7,q6⟩
          | ret u=>obtain ⟨v6,σ6,H6,S6,r6,q6⟩:=hsp; exact ends S6 fun t7 J7=>⟨_,_,_,J7,r6,q6⟩
        | false =>
          show wpAny _ X.A (handleBy (.ref a) X.env hds2) _ _ _
          exact ih (no rfl)
    exact go runH w
  · cases fl with
    | next=>obtain ⟨σe,He,Je,q⟩:=hsp; exact wpAny_execs_nil ⟨σe,He,Je.ofTry ok,q⟩
    | brk=>obtain ⟨σe,He,Je,q⟩:=hsp; exact ⟨σe,He,Je.ofTry ok,q⟩
    | cont=>obtain ⟨σe,He,Je,q⟩:=hsp; exact ⟨σe,He,Je.ofTry ok,q⟩
    | ret u=>obtain ⟨v,σe,He,Je,r,q⟩:=hsp; exact ⟨v,σe,He,Je.ofTry ok,r,q⟩
end
abbrev Clause:=Nat×(Nat→Option Bool)×FS
def catchL (i c':Nat) (x:D) (ρ:List (Option W)) (S:Sto):List Clause→RS
  | []=>.exn c' x ρ S
  | p :: r=>if c'=p.1 then behindS i (p.2.2 (ρ.set i (some (.exc p.1 x))) S) else (match p.2.1 c' with
    | some false=>catchL i c' x ρ S r
    | _=>.err)
def sTryL (i:Nat) (l:List Clause) (fb:FS):FS:=fun ρ S=>match fb ρ S with
  | .exn c' x ρ1 S1=>catchL i c' x ρ1 S1 l
  | r=>r
def passM (l:List Nat):Nat→Option Bool:=fun c=>if c∈l then some false else none
theorem pass_of {l:List Nat} {P:Nat→Prop} (h:∀ c∈l,P c) (c:Nat) (e:passM l c=some false):P c:=by
  unfold passM at e
  split at e
  · rename_i hc; exact h c hc
  · cases e
theorem pass_nil {P:Nat→Prop}:∀ c∈([]:List Nat),P c:=fun _ h=>nomatch h
theorem pass_cons {a:Nat} {l:List Nat} {P:Nat→Prop} (h:P a) (t:∀ c∈l,P c):∀ c∈a :: l,P c:=fun c hc=>(List.mem_cons.mp hc).elim (fun e=>e ▸ h) (t c)
inductive HdF (X:Cx) (F:Fx) (n:Str):List ExceptHandler→List Clause→Prop
  | nil:HdF X F n [] []
  | cons {x:Str} {c:Nat} {m:Nat→Option Bool} {fs:FS} {s₀:Stmt} {ss:List Stmt} {np hp:Pos} {hds:List ExceptHandler} {l:List Clause} (hx:Names X x (.ref (F.cls c)))
      (same:PySem.W.exmOne X.K (.ref (F.cls c)) (.ref (F.cls c))=some true) (other:∀ c',m c'=some false→PySem.W.exmOne X.K (.ref (F.cls c')) (.ref (F.cls c))=some false)
      (run:∀ (a:Addr) (oe:Obj) (dd:Addr) (pn:List (Addr×Obj)),Zc (.ref (F.cls c)) (some dd) oe→(∃ vs,oe.data=.fields vs)→PSs (X.suite a ((a,oe) :: pn)) (s₀ :: ss) (tS (withX F a dd) W0 fs)) (rest:HdF X F n hds l) :
      HdF X F n (.ExceptHandler (some (.Name x np)) (some n) (s₀ :: ss) hp :: hds) ((c,m,fs) :: l)
section
variable {X:Cx} {F:Fx} {Wsh:WX}
abbrev tsOf (F:Fx) (p:Clause):Value×(Addr→Value→Option Addr→TS):=(.ref (F.cls p.1),fun a cls d D σ H=>cls=.ref (F.cls p.1)∧∃ dd,d=some dd∧tS (withX F a dd) W0 p.2.2 D σ H)
theorem HdF.hdL {n:Str}:∀ {hds:List ExceptHandler} {l:List Clause},HdF X F n hds l→HdL X n hds (l.map (tsOf F))
  | _,_,.nil=>.nil
  | _,_,.cons hx same other run rest=>.cons hx (fun a oe cv dx pn hz hfl=>⟨fun pins s σ H D I ⟨e1,dd,e2,h⟩=>by
      subst e1
      subst e2
      exact (run a oe dd pn hz hfl).run pins s σ H D I h⟩) rest.hdL
theorem behind_cont {i c':Nat} {x:D} {B:List Addr} {ι:Ads} {H:Hp} {D:Ends} {ρ1:List (Option W)} {S1:Sto} {a dd:Addr} {r:RS} (c2:SCont F Wsh B ι H D (behindS i r)) :
    SCont (withX F a dd) W0 B ι H { nx:=fun σ' H'=>D.nx (σ'.set i none) H',rt:=D.rt,bk:=fun σ' H'=>D.bk (σ'.set i none) H',ct:=fun σ' H'=>D.ct (σ'.set i none) H' } r:=by
  cases r with
  | err=>exact c2
  | exn _ _ _ _=>exact (show False from c2).elim
  | nx ρ2 S2 =>
    intro ι2 H2 σ2 x2 rl2
    simp only [behindS] at c2
    split at c2
    · rename_i hne
      exact c2 ι2 H2 _ x2 ⟨rl2.toRelS.outX hne,locs_out (rl_none rl2.loc)⟩
    · exact (show False from c2).elim
  | bk ρ2 S2 =>
    intro ι2 H2 σ2 x2 rl2
    simp only [behindS] at c2
    split at c2
    · rename_i hne
      exact c2 ι2 H2 _ x2 ⟨rl2.toRelS.outX hne,locs_out (rl_none rl2.loc)⟩
    · exact (show False from c2).elim
  | ct ρ2 S2 =>
    intro ι2 H2 σ2 x2 rl2
    simp only [behindS] at c2
    split at c2
    · rename_i hne
      exact c2 ι2 H2 _ x2 ⟨rl2.toRelS.outX hne,locs_out (rl_none rl2.loc)⟩
    · exact (show False from c2).elim
  | rt w2 S2 =>
    intro ι2 H2 v x2 rl2 rv
    simp only [behindS] at c2
    split at c2
    · rename_i hne
      have h2:=Bool.and_eq_true_iff.mp hne
      exact c2 ι2 H2 v x2 (rl2.outX h2.1) (RW.outX h2.2 rv)
    · exact (show False from c2).elim
theorem HdF.wish (h0:F.xa=none) {n:Str} {i c':Nat} {x:D} {B:List Addr} {ι ι1:Ads} {H H1:Hp} {D:Ends} {ρ1:List (Option W)} {S1:Sto} {σ1:L2.St} {cv:Value} {dx:Option Addr} (x1:Ext ι H ι1 H1) (rl1:Rel F H1 B ι1 ρ1 S1 σ1) (rx:RX F H1 B ι1 c' x cv dx) :
    ∀ {hds:List ExceptHandler} {l:List Clause},HdF X F n hds l→SCont F Wsh B ι H D (catchL i c' x ρ1 S1 l)→wL X.K i Wsh D (l.map (tsOf F)) cv dx σ1 H1
  | _,_,.nil,cn=>cn ι1 H1 σ1 cv dx x1 rl1 rx
  | _,_,.cons (c:=c) (m:=m) (fs:=fs) hx same other run rest,cn=>by
    obtain ⟨ecv,dd,u,ed,hdd,hnd,ru⟩:=id rx
    simp only [catchL] at cn
    split at cn
    · rename_i hcc
      subst hcc
      refine ⟨true,by rw [ecv]; exact same,fun _ a ha=>⟨ecv,dd,ed,B,ι1,ρ1.set i (some (.exc c' x)),S1,⟨rl1.toRelS.inX h0,?_⟩,behind_cont (c':=c') (x:=x) (ρ1:=ρ1) (S1:=S1) (SCont.ext cn x1)⟩,fun z=>Bool.noConfusion z⟩
      exact pSet (A:=RL (withX F a dd) H1 B ι1) (a:=some (.exc c' x)) (b:=some (.ref a)) ⟨a,dd,u,.inl rfl,rfl,hdd,hnd,ru⟩ i (locs_in h0 rl1.loc)
    · split at cn
      · rename_i hmm
        exact ⟨false,by rw [ecv]; exact other c' hmm,fun z=>Bool.noConfusion z,fun _=>HdF.wish h0 x1 rl1 rx rest cn⟩
      · exact (show False from cn).elim
theorem r_tryL {n:Str} {i:Nat} {body:List Stmt} {h₀:ExceptHandler} {hds:List ExceptHandler} {l:List Clause} {pos:Pos} {fb:FS} (h0:F.xa=none) (hs:X.stack=X.env :: X.outer) (hf:X.env.frame=some X.env.locals) (hN:X.N.Nodup) (hi:X.N[i]? = some n) (hln:X.env.kindOf n=some .local) (tk:Takes X Wsh)
    (hb:∀ (W:WX) (pn:List (Addr×Obj)) (xe:Value→Shared→Prop),Takes (X.tr pn xe) W→PassesOwn (model X.prog X.w) X.A X.env xe→PSs (X.tr pn xe) body (tS F W fb))
    (hh:HdF X F n (h₀ :: hds) l):PS X (.Try body (h₀ :: hds) [] [] pos) (tS F Wsh (sTryL i l fb)):=by
  refine psImp (ps_tryL (tb:=fun W=>tS F W fb) hs hf hN hi hln tk hb hh.hdL) fun D σ H h=>?_
  obtain ⟨B,ι,ρ,S,rl,cn⟩:=h
  refine ⟨B,ι,ρ,S,rl,?_⟩
  unfold sTryL at cn
  revert cn
  cases fb ρ S with
  | nx _ _=>exact fun cn=>cn
  | bk _ _=>exact fun cn=>cn
  | ct _ _=>exact fun cn=>cn
  | rt _ _=>exact fun cn=>cn
  | err=>exact fun cn=>cn
  | exn c' x ρ1 S1=>exact fun cn ι1 H1 σ1 cv d x1 rl1 rx=>hh.wish h0 x1 rl1 rx cn
end
end Ev
namespace Ev
open PySem PySem.Spec L2
section
variable {X:Cx} {F:Fx} {Wsh:WX}
end
end Ev
namespace Ev
open PySem PySem.Spec L2
section
variable {K:PySem.W.Frag} {cls:Cl} {H:Hp} {ex:List Addr}
end
end Ev
namespace Ev
open PySem PySem.Spec L2
section
variable {X:Cx} {F:Fx} {Wsh:WX} {o e:Expr} {f g:FE} {fa:FA} {pos apos p:Pos}
def fFmt (f:FE):FE:=fun ρ S=>(f ρ S).bind fun w S1=>match w with
  | .d (.str y)=>if y.length≤sizeLine then .ok (.d (.str y)) S1 else .err
  | .d (.int i)=>if i.natAbs.log2 < 1920 then .ok (.d (.str (toString i))) S1 else .err
  | _=>.err
def fJs:List FE→Str→Loc→Sto→R Str
  | [],acc,_,S=>.ok acc S
  | f :: fs,acc,ρ,S=>(f ρ S).bind fun w S1=>match w with
    | .d (.str y)=>if (acc ++ y).length≤sizeLine then fJs fs (acc ++ y) ρ S1 else .err
    | _=>.err
def fFStr (fs:List FE):FE:=fun ρ S=>(fJs fs Str.empty ρ S).bind fun z S1=>.ok (.d (.str z)) S1
end
end Ev
namespace Ev
open PySem PySem.Spec L2
section
variable {X:Cx} {F:Fx} {Wsh:WX} {tg e:Expr} {f g:FE} {fa:FA} {pos p:Pos}
end
end Ev
namespace Ev
open PySem PySem.Spec L2
structure EqM (K:PySem.W.Frag) (C f:Addr):Prop where
  at_:PySem.W.findIn K (.ref C) "__eq__" = some (some (.ref f))
  fn:PySem.W.isFn K (.ref f)=true
  sub:∀ T∈(["NoneType","bool","int","str","tuple","list","dict"]:List String),PySem.W.subIn K (.type T) (.ref C)=some false
theorem looks_ty {M:Model} {s:Shared} {u:Value} {T:String} (h:s.TypeIs u T):PySem.W.Looks M s.heap (typeOf u) (.type T):=fun A Q E s2 k q=>by
  refine wpAny_typeOf (T:=T) ?_ q
  cases u with
  | ref a =>
    obtain ⟨o,h1,h2⟩:=h
    exact ⟨o,k _ _ h1,h2⟩
  | _=>exact h
def insOf (c:Nat):W→Bool
  | .d (.ins c' _)=>decide (c'=c)
  | _=>false
def othOf (c:Nat):W→Bool
  | .d (.ins c' _)=>decide (c'=c)
  | .d d=>(tyD d).isSome
  | _=>false
def opEqI (c:Nat) (ff:FF):Op2:=fun x y S=>if insOf c x && othOf c y then (match ff [x,y] S with
  | .ok (.d (.bl b)) S1=>.ok (.d (.bl b)) S1
  | _=>.err) else .err
def rEqI (K:PySem.W.Frag) (C:Addr) (sp:Sp):R2:=fun x y H Q=>∃ a dx fs,x=.ref a∧H a=some (.ins C dx fs)∧((∃ T,T∈(["NoneType","bool","int","str","tuple","list","dict"]:List String)∧TyB K H y T)∨∃ b dy gs,y=.ref b∧H b=some (.ins C dy gs)) ∧
  sp [x,y] H (fun v H'=>(∃ b,v=.bl b)∧Q v H') (fun _ _ _=>False)
section
variable {X:Cx} {F:Fx}
theorem or_eqI {gd:Bool} {k j:Nat} {C f:Addr} {fd:FuncData} {ps:List Str} {sp:Sp} (m:EqM X.K C f) (G:FnG gd X.prog X.w X.K X.mg X.base k f fd ps sp) (hgd:gd=true→X.A.guards=some []) (hb:Binds X.K fd ps []) (hr:Room j X.A) (hjk:k≤j):OpR X (compareOp .Eq) (rEqI X.K C sp):=by
  intro pins s σ H x y v u Q I rx ry hq
  obtain ⟨a,dx,fs,rfl,ha,hy,hsp⟩:=hq
  show wpAny (model X.prog X.w) X.A (richCompare .Eq v u) (EP X pins σ Q) X.xe s
  obtain rfl:v=Value.ref a:=rx
  obtain ⟨mA,J,_⟩:=ins_get I.hok ha
  obtain ⟨od,J,_⟩:=J.look
  obtain ⟨mf,hF⟩:=I.fr
  have run:wpAny (model X.prog X.w) X.A (call (.ref f) [.ref a,u]) (PySem.W.CmpBack (EP X pins σ Q)) X.xe s:=by
    have r2:Vals [V.ref a,y] [Value.ref a,u]:=.cons rfl (.cons ry .nil)
    have hl:=G.len _ _ _ _ hsp
    have bnd:=hb s [.ref a,u] I.kIn (by simpa using hl)
    rw [List.append_nil] at bnd
    refine wpAny_call (codeAny_mono (G.run X.A X.stack s H ⟨[.ref a,u],[]⟩ [.ref a,u] [.ref a,y] _ (WE W0 σ) (hr.mono hjk) hgd I.env0 bnd r2 hsp) fun r s' hq=>?_)
    cases r with
    | error ex=>exact passAt LamX.takes0 σ pins H s ex s' I hq
    | ok fl =>
      cases fl with
      | ret z =>
        obtain ⟨w,H',I',rz,⟨b,rfl⟩,q⟩:=I.after hq
        obtain rfl:z=Value.bool b:=rz
        exact ⟨.bl b,H',I',rfl,q⟩
      | next=>exact (show False from hq).elim
      | brk=>exact (show False from hq).elim
      | cont=>exact (show False from hq).elim
  rcases hy with ⟨T,hT,ty⟩ | ⟨b,dy,gs,rfl,hb'⟩
  · have ti:=ty.is I ry
    exact PySem.W.cmp_K (op:=.Eq) (tb:=.type T) hr.units0 hF I.ok.mod.kin J (looks_ty ti) (by simp [PySem.W.notFirst,m.sub T hT]) m.at_ m.fn run
  · obtain rfl:u=Value.ref b:=ry
    obtain ⟨mB,J',_⟩:=ins_get I.hok hb'
    obtain ⟨od',J',_⟩:=J'.look
    exact PySem.W.cmp_K (op:=.Eq) (tb:=.ref C) hr.units0 hF I.ok.mod.kin J J'.type (by simp [PySem.W.notFirst]) m.at_ m.fn run
theorem ok_eqI {c:Nat} {ff:FF}:OpOk F (opEqI c ff) (rEqI F.K (F.cls c) (spF F 2 ff)):=by
  intro Wsh B ι ρ S σ H wx wy x y Q rl rx ry cn
  unfold opEqI at cn
  split at cn
  · rename_i h
    have h1:=Bool.and_eq_true_iff.mp h
    obtain ⟨a,dx,fs,rfl,ha⟩:∃ a dx fs,x=.ref a∧H a=some (.ins (F.cls c) dx fs):=by
      have hi:=h1.1
      unfold insOf at hi
      split at hi
      · rename_i c' fs
        have e:=of_decide_eq_true hi
        subst e
        have z:RD F H B ι (.ins c' fs) x:=rx
        cases z with
        | ins n e r=>exact ⟨_,_,_,rfl,e⟩
      · cases hi
    refine ⟨a,dx,fs,rfl,ha,?_,rfl,B,ι,S,[wx,wy],rl.toRelS,.cons rx (.cons ry .nil),?_⟩
    · have hi:=h1.2
      unfold othOf at hi
      split at hi
      · rename_i c' gs
        have e:=of_decide_eq_true hi
        subst e
        have z:RD F H B ι (.ins c' gs) y:=ry
        cases z with
        | ins n e r=>exact .inr ⟨_,_,_,rfl,e⟩
      · rename_i d _
        have z:RD F H B ι d y:=ry
        refine .inl ?_
        cases z with
        | non=>exact ⟨"NoneType",by simp,.non⟩
        | bl b=>exact ⟨"bool",by simp,.bl b⟩
        | int i=>exact ⟨"int",by simp,.int i⟩
        | str s=>exact ⟨"str",by simp,.str s⟩
        | tup n e r=>exact ⟨"tuple",by simp,.tup (SqT.of e)⟩
        | tupK e1 e2 e3 e4 e5 r=>exact ⟨"tuple",by simp,.tup (.inr ⟨_,_,_,e1,e2,e3,e4,e5⟩)⟩
        | tupF n e r=>exact ⟨"tuple",by simp,.tup (.inl (.inr ⟨_,e⟩))⟩
        | lst n e r=>exact ⟨"list",by simp,.lst (SqL.of e)⟩
        | dK n e r=>exact ⟨"dict",by simp,.dK e⟩
        | ftp n e p r=>simp [tyD] at hi
        | scr n e q=>simp [tyD] at hi
        | scrK e1 e2 e3 e4 e5 e6=>simp [tyD] at hi
        | ins n e r=>simp [tyD] at hi
        | cls c=>simp [tyD] at hi
        | kdc _ _ _=>simp [tyD] at hi
        | exi _ _ _ _ _=>simp [tyD] at hi
        | dkf _ _ _=>simp [tyD] at hi
      · cases hi
    · revert cn
      cases ff [wx,wy] S with
      | err=>exact fun cn=>cn
      | exn _ _ _=>exact fun cn=>(show False from cn).elim
      | ok w S1 =>
        cases w with
        | d d =>
          cases d with
          | bl b =>
            intro cn ι' H' v x r rv
            have e:v=.bl b:=by
              have z:RD F H' B ι' (.bl b) v:=rv
              cases z
              rfl
            subst e
            exact ⟨⟨b,rfl⟩,cn ι' H' x ⟨r,pImp (fun _ _ q=>RL.ext x q) rl.loc⟩ _ rv⟩
          | _=>exact fun cn=>(show False from cn).elim
        | _=>exact fun cn=>(show False from cn).elim
  · exact cn.elim
end
end Ev
namespace Ev
open PySem PySem.Spec L2 PyProof.Rows
section
variable {prog:Program} {w:World} {A:Around} {E:Value→Shared→Prop} {s:Shared}
end
section
variable {X:Cx} {F:Fx} {Wsh:WX} {e:Expr} {f:FE}
end
end Ev
namespace Ev
open PySem PySem.Spec L2
structure IsC (K:PySem.W.Frag) (C:Addr):Prop where
  cl:Cls K C
  ca:PySem.W.findIn K (.ref C) "__class__" = some (some (.builtin "object.__class__"))
  cg:PySem.W.specialIn K (.builtin "object.__class__") "__get__" = some (some (.builtin "getset_descriptor.__get__"))
  ct:PySem.W.takesIn K (.builtin "object.__class__")=some true
  co:PySem.W.mroIn K C (.type "object")=some true
  same:PySem.W.kitOne K (.ref C) (.ref C)=some true
  not_:∀ T∈(["NoneType","bool","int","str","tuple","list","dict"]:List String),PySem.W.kitOne K (.type T) (.ref C)=some false
def fIsiC (c:Nat) (f:FE):FE:=fun ρ S=>(f ρ S).bind fun w S1=>if insOf c w=true then .ok (.d (.bl true)) S1 else (match tyW S1 w with
  | some _=>.ok (.d (.bl false)) S1
  | none=>.err)
section
variable {X:Cx} {F:Fx} {Wsh:WX} {e:Expr} {f:FE} {pos p p2:Pos}
theorem ty_mem (t:Ty):t.nm∈(["NoneType","bool","int","str","tuple","list","dict"]:List String):=by cases t <;> simp [Ty.nm]
theorem r_isiC {c:Nat} {x:Str} (hK:X.K=F.K) (m:IsC F.K (F.cls c)) (hgi:Gl X "isinstance") (hmi:X.mg "isinstance" = none) (hg:Gl X x) (hm:X.mg x=some (.ref (F.cls c))) (he:PE X e (tR F Wsh f)) (hd:(x == ("__debug__":Str))=false:=by decide)
    (hs:starEach [e,.Name x p2] X.env=(false,eval e X.env) :: starEach [.Name x p2] X.env:=by rfl):PE X (.Call (.Name "isinstance" p) [e,.Name x p2] [] pos) (tR F Wsh (fIsiC c f)) :=
  peImp (pe_callB call_isi hgi hmi (by decide +kernel) (pa_cons he (pa_cons (pe_glob hg hm (v:=.ref (F.cls c)) rfl hd) pa_nil) hs) (by decide) (by decide) hs) fun σ H Q ⟨B,ι,ρ,S,rl,c0⟩=>by
    refine tR_step rl c0 fun w v S1 ι1 H1 x1 rl1 rv c1=>?_
    split at c1
    · rename_i hi
      obtain ⟨a,dx,fs,rfl,ha⟩:∃ a dx fs,v=.ref a∧H1 a=some (.ins (F.cls c) dx fs):=by
        unfold insOf at hi
        split at hi
        · rename_i c' fs
          have z0:=of_decide_eq_true hi
          subst z0
          have z:RD F H1 B ι1 (.ins c' fs) v:=rv
          cases z with
          | ins n e r=>exact ⟨_,_,_,rfl,e⟩
        · cases hi
      exact ⟨.ref a,.ref (F.cls c),.ref (F.cls c),.ref (F.cls c),true,rfl,.own _,.base (by rw [hK]; exact .ins ha m.cl m.ca m.cg m.ct m.co),by rw [hK]; exact m.same,c1.here rl1 _ (.bl _)⟩
    · split at c1
      · rename_i t ht
        exact ⟨v,.ref (F.cls c),.type t.nm,.ref (F.cls c),false,rfl,.own _,by rw [hK]; exact tyW_tyX rl1.toRelS rv ht,by rw [hK]; exact m.not_ _ (ty_mem t),c1.here rl1 _ (.bl _)⟩
      · exact (show False from c1).elim
end
end Ev
namespace Ev
open PySem PySem.Spec L2
section
variable {X:Cx} {F:Fx}
end
section
variable {X:Cx} {F:Fx} {Wsh:WX} {fa:FA} {es:List Expr} {pos:Pos}
end
end Ev
namespace Ev
open PySem PySem.Spec L2 PyProof.Rows
structure Start (K:PySem.W.Frag) (H:Hp) (a t:Addr) (ns:List Int):Prop where
  tab:H t=some (.tbl #[])
  one:∀ b ps,H b=some (.tbl ps)→b=t
  scr:(∃ o,H a=some (.frz o (.lst (ns.map V.int))))∨∃ (o:Obj) (its:Array Value) (n:Nat),K.lookup a=some o∧o.cls=.type "list" ∧ o.dict=none∧o.data=.seq its n∧its.size≤sizeLine∧Vals (ns.map V.int) its.toList
end Ev
namespace Ev
open PySem PySem.Spec L2 PyProof.Rows
section
variable {P:Program} {K:PySem.W.Frag} {mg:Str→Option Value} {h:Heap}
end
end Ev
namespace Ev
open PySem PySem.Spec L2 PyProof.Rows
structure Start0 (K:PySem.W.Frag) (H:Hp) (a:Addr) (ns:List Int):Prop where
  none:∀ b ps,H b ≠ some (.tbl ps)
  scr:(∃ o,H a=some (.frz o (.lst (ns.map V.int))))∨∃ (o:Obj) (its:Array Value) (n:Nat),K.lookup a=some o∧o.cls=.type "list" ∧ o.dict=.none∧o.data=.seq its n∧its.size≤sizeLine∧Vals (ns.map V.int) its.toList
end Ev
namespace Ev
open PySem PySem.Spec L2 PyProof.Rows
section
variable {P:Program} {K:PySem.W.Frag} {mg:Str→Option Value} {h:Heap}
end
end Ev
namespace Ev
open PySem PySem.Spec L2 PyProof.Rows
structure StartN (K:PySem.W.Frag) (H:Hp) (a:Addr) (ts:List Addr) (ns:List Int):Prop where
  tab:∀ t∈ts,H t=some (.tbl #[])
  one:∀ b ps,H b=some (.tbl ps)→b∈ts
  scr:(∃ o,H a=some (.frz o (.lst (ns.map V.int))))∨∃ (o:Obj) (its:Array Value) (n:Nat),K.lookup a=some o∧o.cls=.type "list" ∧ o.dict=none∧o.data=.seq its n∧its.size≤sizeLine∧Vals (ns.map V.int) its.toList
theorem startN_rel {F:Fx} {H:Hp} {a:Addr} {ts:List Addr} {ns:List Int} (hT:F.T.map (·.1)=ts) (s:StartN F.K H a ts ns):RelS F H [] [] []∧RD F H [] [] (.scr ns) (.ref a):=by
  refine ⟨⟨by simp [flat],rfl,fun i p o h1=>by simp at h1,⟨fun p hp=>?_,fun b ps e=>?_⟩,fun b hb=>by simp at hb,fun b hb=>by simp at hb⟩,?_⟩
  · exact LamX.TabS.nil (s.tab p.1 (by rw [← hT]; exact List.mem_map.mpr ⟨p,hp,rfl⟩))
  · have z:=s.one b ps e
    rw [← hT] at z
    obtain ⟨p,hp,rfl⟩:=List.mem_map.mp z
    exact ⟨p.2,hp⟩
  · rcases s.scr with ⟨o,e⟩ | ⟨o,its,n,h1,h2,h3,h4,h5,h6⟩
    · exact .scr (by simp [flat]) e (.inr ⟨o,rfl⟩)
    · exact .scrK h1 h2 h3 h4 h5 h6
structure TabAt (K:PySem.W.Frag) (h:Heap) (p:Addr×Addr):Prop where
  t:h.get? p.2=some { cls:=.none,data:=.fields #[] }
  k:K.lookup p.2=none
  c:PySem.W.CodeHd h p.1 p.2
theorem law_callN {P:Program} {w:World} {K:PySem.W.Frag} {mg mb:Str→Option Value} {k:Nat} {fa a:Addr} {cts:List (Addr×Addr)} {fd:FuncData} {x:Str} {sp:Sp} {s1:Shared} {vs:List Value} {ns:List Int}
    (kin:K.In s1.heap) (glo:s1.heap.Ns mainGlobals mg) (blt:s1.heap.Ns builtinsNs mb) (boot:∀ x:Str,x ≠ "__name__" → mb x=bootBuiltins x) (lim:s1.heap.NoLimit) (gens:s1.gens = #[])
    (tA:∀ p∈cts,TabAt K s1.heap p)
    (bmod:∃ (bm:Addr) (ob:Obj),mg "__builtins__" = some (.ref bm)∧bm ≠ builtinsNs∧s1.heap.get? bm=some ob∧ob.cls=.type "module" ∧ ob.dict=some builtinsNs∧ob.data=.plain)
    (scr:s1.heap.get? a=some { cls:=.type "list",data:=.seq vs.toArray }) (hi:IntsAre vs ns) (hl:ns.length≤sizeLine) (hr:Room k callerA)
    (sys:∃ mm,s1.heap.Ns sysModules mm) (G:∀ base:Heap,K.In base→base.Ns mainGlobals mg→(∀ p∈cts,LamX.TabB base mg p.1 p.2)→(∃ o,base.get? sysModules=some o)→FnG true P w K mg base k fa fd [x] sp) (bind:∀ (s:Shared) (u:Value),BindsTo s fd ⟨[u],[]⟩ [(x,u)])
    (told:∀ H:Hp,StartN K H a (cts.map (·.2)) ns→sp [.ref a] H (fun v _=>v=.bl true) fun _ _ _=>False) :
    codeAny (model P w) callerA (.call (.ref fa) ⟨[.ref a],[]⟩) (fun r s'=>r=.ok (.ret (.bool true))∧OldK s1.heap s'.heap∧s'.os=s1.os∧AllBare s'.gens) s1:=by
  have rv:=vals_ints hi
  have lenV:=hi.length
  have tT:∀ t∈cts.map (·.2),s1.heap.get? t=some { cls:=.none,data:=.fields #[] }:=fun t ht=>by
    obtain ⟨p,hp,rfl⟩:=List.mem_map.mp ht
    exact (tA p hp).t
  have tK:∀ t∈cts.map (·.2),K.lookup t=none:=fun t ht=>by
    obtain ⟨p,hp,rfl⟩:=List.mem_map.mp ht
    exact (tA p hp).k
  generalize hts:cts.map (·.2)=ts at tT tK told
  have aT:a ∉ ts:=fun z=>by
    have q:=tT a z
    rw [q] at scr
    cases scr
  have core:∀ H:Hp,StartN K H a ts ns→(∀ b,H b=none∨b∈ts∨∃ o xs,H b=some (.frz o (.lst xs)))→HOk P w H s1.heap→(∀ b,H b ≠ none→b=a∨b∈ts)→(H a ≠ none→K.lookup a=none) →
      codeAny (model P w) callerA (.call (.ref fa) ⟨[.ref a],[]⟩) (fun r s'=>r=.ok (.ret (.bool true))∧OldK s1.heap s'.heap∧s'.os=s1.os∧AllBare s'.gens) s1:=by
    intro H st kinds ok few noK
    have left:∀ {b:Addr} {o:Obj},s1.heap.get? b=some o→(∀ us n,o.data ≠ .seq us n)→o.data ≠ .fields #[]→H b=none:=by
      intro b o e h1 h2
      cases q:H b with
      | none=>rfl
      | some u =>
        cases few b (by rw [q]; simp) with
        | inl z=>rw [z,scr] at e; cases e; exact (h1 _ _ rfl).elim
        | inr z=>rw [tT b z] at e; cases e; exact (h2 rfl).elim
    have names:∀ {b:Addr} {m:Str→Option Value},s1.heap.Ns b m→(hidT s1.heap H).Ns b m:=by
      rintro b m ⟨o,es,ep,e,d,r⟩
      refine ⟨o,es,ep,hidT_get e (left e (fun us n z=>?_) fun z=>?_),d,r⟩
      · rw [d] at z; cases z
      · rw [d] at z; cases z
    have kin':K.In (hidT s1.heap H):=by
      intro b o e
      refine hidT_get (kin b o e) ?_
      cases q:H b with
      | none=>rfl
      | some u =>
        cases few b (by rw [q]; simp) with
        | inl z=>rw [z] at e q; rw [noK (by rw [q]; simp)] at e; cases e
        | inr z=>rw [tK b z] at e; cases e
    have tb:∀ p∈cts,LamX.TabB (hidT s1.heap H) mg p.1 p.2:=by
      intro p hp
      have pt:p.2∈ts:=by rw [← hts]; exact List.mem_map.mpr ⟨p,hp,rfl⟩
      refine ⟨?_,?_,fun z=>?_⟩
      · obtain ⟨o,us,file,tf,flags,tg,inF,text,tt,e1,r1,r2,r3,r4,r5,r6,r7,r8,hne⟩:=(tA p hp).c
        refine ⟨o,us,file,tf,flags,tg,inF,text,tt,hidT_get e1 (left e1 (fun us n z=>?_) fun z=>?_),r1,r2,r3,r4,r5,r6,r7,r8,hne⟩
        · rw [r2] at z; cases z
        · rw [r2] at z; cases z; simp at r3
      · obtain ⟨bm,ob,b1,b2,b3,b4,b5,b6⟩:=bmod
        refine ⟨bm,ob,b1,b2,fun z=>?_,fun z=>?_,hidT_get b3 (left b3 (fun us n z=>?_) fun z=>?_),b4,b5,b6⟩
        · obtain ⟨o,es,ep,e,hd,_⟩:=glo
          rw [z,e] at b3; cases b3; rw [hd] at b6; cases b6
        · rw [z,tT p.2 pt] at b3; cases b3; cases b6
        · rw [b6] at z; cases z
        · rw [b6] at z; cases z
      · obtain ⟨o,es,ep,e,hd,_⟩:=glo
        rw [z,tT p.2 pt] at e; cases e; cases hd
    have lim':(hidT s1.heap H).NoLimit:=by
      obtain ⟨mc,h1,h2⟩:=lim
      exact ⟨mc,names h1,h2⟩
    have e0:Env0 P w K mg (hidT s1.heap H) callerA [] s1 H:=⟨rfl,⟨kin',names glo,⟨mb,names blt,boot⟩,lim'⟩,fun b o e=>of_hidT e,Nat.le_of_eq (hidT_size _ _),trivial,fun b hb=>absurd (show b∈([]:List Addr) from hb) (by simp),ok,.of_eq gens⟩
    have sys':∃ o,(hidT s1.heap H).get? sysModules=some o:=by
      obtain ⟨mm,z⟩:=sys
      obtain ⟨o,es,ep,e,_⟩:=names z
      exact ⟨o,e⟩
    refine codeAny_mono ((G _ kin' (names glo) tb sys').run callerA [] s1 H ⟨[.ref a],[]⟩ [.ref a] [.ref a] _ _ hr (fun _=>rfl) e0 (bind s1 (.ref a)) (.cons rfl .nil) (told H st)) ?_
    rintro (e | fl) s2 h
    · obtain ⟨_,_,_,_,_,_,_,_,_,_,_,_,_,z⟩:=h
    · cases fl with
      | ret u =>
        obtain ⟨v,H2,os,bare,un,ok2,rv2,q⟩:=h
        have q:v=.bl true:=q
        subst q
        obtain rfl:u=Value.bool true:=rv2
        have same:∀ b o,b ∉ ts→s1.heap.get? b=some o→s2.heap.get? b=some o:=by
          intro b o nb e
          rcases kinds b with z | z | ⟨ob,xs,z⟩
          · exact un.keep b o e z (fun y=>absurd (show b∈([]:List Addr) from y) (by simp)) (by simp)
          · exact absurd z nb
          · obtain ⟨e1,_⟩:=ok b _ z
            obtain ⟨e2,_⟩:=ok2 b _ (un.frzs b ob _ z)
            rw [e] at e1; cases e1
            exact e2
        have grown:∀ t∈ts,∃ more,s2.heap.get? t=some { cls:=.none,data:=.fields (#[] ++ more) }:=fun t ht=>by
          obtain ⟨more,zt⟩:=un.tbls t #[] (st.tab t ht)
          exact ⟨more,ok2 t _ zt⟩
        refine ⟨rfl,⟨fun b o e=>?_,fun b o e=>?_⟩,os,bare⟩
        · by_cases hb:b∈ts
          · obtain ⟨more,g⟩:=grown b hb
            have tb2:=tT b hb
            rw [tb2] at e
            cases e
            have hb':=hb
            rw [← hts] at hb'
            obtain ⟨p,hp,rfl⟩:=List.mem_map.mp hb'
            exact .inr (.inl ⟨((tA p hp).c.tab tb2).isCodeTable,rfl,#[],more,rfl,g⟩)
          · exact .inl (same b o hb e)
        · by_cases hb:b∈ts
          · obtain ⟨more,g⟩:=grown b hb
            exact ⟨_,g⟩
          · exact ⟨o,same b o hb e⟩
      | _=>exact (show False from h).elim
  cases hk:K.lookup a with
  | some o =>
    have e:=kin a o hk
    rw [scr] at e
    cases e
    refine core (fun b=>if b∈ts then some (.tbl #[]) else none) ⟨fun t ht=>if_pos ht,fun b ps z=>?_,.inr ⟨_,vs.toArray,_,hk,rfl,rfl,rfl,by rw [List.size_toArray,lenV]; exact hl,by simpa using rv⟩⟩ (fun b=>?_) (fun b u z=>?_) (fun b z=>?_) fun z=>absurd (show (if a∈ts then some (HO.tbl #[]) else none)=none from if_neg aT) z
    · by_cases hb:b∈ts
      · exact hb
      · exact absurd ((if_neg hb).symm.trans z) (by simp)
    · by_cases hb:b∈ts
      · exact .inr (.inl hb)
      · exact .inl (if_neg hb)
    · by_cases hb:b∈ts
      · cases (if_pos hb).symm.trans z
        exact tT b hb
      · exact absurd ((if_neg hb).symm.trans z) (by simp)
    · by_cases hb:b∈ts
      · exact .inr hb
      · exact absurd (if_neg hb) z
  | none =>
    refine core (fun b=>if b=a then some (.frz { cls:=.type "list",data:=.seq vs.toArray } (.lst (ns.map V.int))) else if b∈ts then some (.tbl #[]) else none)
      ⟨fun t ht=>?_,fun b ps z=>?_,.inl ⟨_,if_pos rfl⟩⟩ (fun b=>?_) (fun b u z=>?_) (fun b z=>?_) fun _=>hk
    · have ne:t ≠ a:=fun z=>aT (z ▸ ht)
      exact (if_neg ne).trans (if_pos ht)
    · by_cases h1:b=a
      · exact absurd ((if_pos h1).symm.trans z) (by simp)
      · by_cases h2:b∈ts
        · exact h2
        · exact absurd (((if_neg h1).trans (if_neg h2)).symm.trans z) (by simp)
    · by_cases h1:b=a
      · exact .inr (.inr ⟨_,_,if_pos h1⟩)
      · by_cases h2:b∈ts
        · exact .inr (.inl h2)
        · exact .inl ((if_neg h1).trans (if_neg h2))
    · by_cases h1:b=a
      · cases (if_pos h1).symm.trans z
        rw [h1]
        exact ⟨scr,by rw [List.length_map]; exact hl,vs,_,rv,scr⟩
      · by_cases h2:b∈ts
        · cases ((if_neg h1).trans (if_pos h2)).symm.trans z
          exact tT b h2
        · exact absurd (((if_neg h1).trans (if_neg h2)).symm.trans z) (by simp)
    · by_cases h1:b=a
      · exact .inl h1
      · by_cases h2:b∈ts
        · exact .inr h2
        · exact absurd ((if_neg h1).trans (if_neg h2)) z
def LawAtN (l:PySem.W.OpenLaw) (w:World) (K:PySem.W.Frag) (k n:Nat) (x:Str) (mg:Str→Option Value) (fa:Addr) (h:Heap):Prop :=
  ∃ (fd:FuncData) (cts:List (Addr×Addr)) (sp:Sp),(∀ p∈cts,TabAt K h p)∧(∀ (s:Shared) (u:Value),BindsTo s fd ⟨[u],[]⟩ [(x,u)]) ∧
    (∀ (H:Hp) (a:Addr) (ns:List Int),ns.length≤n→StartN K H a (cts.map (·.2)) ns→sp [.ref a] H (fun v _=>v=.bl true) fun _ _ _=>False) ∧
    ∀ base:Heap,K.In base→base.Ns mainGlobals mg→(∀ p∈cts,LamX.TabB base mg p.1 p.2)→(∃ o,base.get? sysModules=some o)→FnG true l.prog w K mg base k fa fd [x] sp
end Ev
namespace Ev
open PySem PySem.Spec L2
section
variable {X:Cx} {F:Fx} {Wsh:WX}
theorem own_run {gd:Bool} {k:Nat} {f:Addr} {fd:FuncData} {ps:List Str} {sp:Sp} (G:FnG gd X.prog X.w X.K X.mg X.base k f fd ps sp) (hb:Binds X.K fd ps []) {A:Around} (hgd:gd=true→A.guards=some []) (hr:Room k A) {pins:List (Addr×Obj)} {σ:L2.St} {H:Hp} {s:Shared}
    (I:Inv X pins σ H s) (e0:Env0 X.prog X.w X.K X.mg X.base A X.stack s H) {W:WX} (tk:Takes X W) {us:List Value} {vs:List V} {Q:VK} (r2:Vals vs us) (hsp:sp vs H Q (WE W σ)) :
    wpAny (model X.prog X.w) A (call (.ref f) us) (EP X pins σ Q) X.xe s:=by
  have hl:=G.len _ _ _ _ hsp
  have bnd:=hb s us I.kIn (by rw [List.append_nil,← r2.length]; exact hl)
  rw [List.append_nil] at bnd
  refine wpAny_call (codeAny_mono (G.run A X.stack s H ⟨us,[]⟩ us vs Q (WE W σ) hr hgd e0 bnd r2 hsp) fun r s' hq=>?_)
  cases r with
  | error ex=>exact passAt tk σ pins H s ex s' I hq
  | ok fl =>
    cases fl with
    | ret u=>exact I.after hq
    | next=>exact (show False from hq).elim
    | brk=>exact (show False from hq).elim
    | cont=>exact (show False from hq).elim
theorem insAt {H:Hp} {B:List Addr} {ι:Ads} {w:W} {v:V} {c:Nat} (hi:insOf c w=true) (rv:RW F H B ι w v):∃ a dx fs,v=.ref a∧H a=some (.ins (F.cls c) dx fs):=by
  unfold insOf at hi
  split at hi
  · rename_i c' fs
    have e:=of_decide_eq_true hi
    subst e
    have z:RD F H B ι (.ins c' fs) v:=rv
    cases z with
    | ins n e r=>exact ⟨_,_,_,rfl,e⟩
  · cases hi
theorem bool_sp {ff:FF} {n:Nat} {h:Bool→Bool} {B:List Addr} {ι:Ads} {ρ:Loc} {S:Sto} {σ:L2.St} {H:Hp} {ws:List W} {vs:List V} {Q:VK} (hn:vs.length=n) (rl:Rel F H B ι ρ S σ) (rw:RWs F H B ι ws vs)
    (c:Cont F Wsh B ρ σ ι H (match ff ws S with
      | .ok (.d (.bl b)) S1=>.ok (.d (.bl (h b))) S1
      | _=>.err) (fun w _ ι' H'=>∀ v,RW F H' B ι' w v→Q v H')):spF F n ff vs H (fun v H'=>∃ b,v=.bl b∧Q (.bl (h b)) H') (fun _ _ _=>False):=by
  refine ⟨hn,B,ι,S,ws,rl.toRelS,rw,?_⟩
  revert c
  cases ff ws S with
  | err=>exact fun cn=>cn
  | exn _ _ _=>exact fun cn=>(show False from cn).elim
  | ok w S1 =>
    cases w with
    | d d =>
      cases d with
      | bl b =>
        intro cn ι' H' v x r rv
        have e:v=.bl b:=by
          have z:RD F H' B ι' (.bl b) v:=rv
          cases z
          rfl
        subst e
        exact ⟨b,rfl,cn ι' H' x ⟨r,pImp (fun _ _ q=>RL.ext x q) rl.loc⟩ _ (.bl _)⟩
      | _=>exact fun cn=>(show False from cn).elim
    | _=>exact fun cn=>(show False from cn).elim
end
section
variable {prog:Program} {w:World} {A:Around} {E:Value→Shared→Prop} {s:Shared} {K:PySem.W.Frag} {x C L f:Addr} {h₀:Heap} {mm:Str→Option Value} {ox:Obj} {od:Option Obj} {b tb:Value}
theorem objNe_own (X:K.In s.heap) (I:PySem.W.InstAt s.heap x ox C od) (heq:PySem.W.findIn K (.ref C) "__eq__" = some (some (.ref f))) (hf:PySem.W.isFn K (.ref f)=true) (hu:A.units < cLine) {Q:Fin→Shared→Prop}
    (hcall:wpAny (model prog w) A (call (.ref f) [.ref x,b]) (fun v s'=>∃ c,v=.bool c∧Q (.done (.ret (.bool (!c)))) s') E s) :
    wpAny (model prog w) A (Builtin.«object.__ne__» ⟨[.ref x,b],[]⟩) Q E s:=by
  unfold Builtin.«object.__ne__»
  repeat (first
    | with_reducible refine wpAny_cRoomFor hu ?_
    | (refine wpAny_bind (m:=callSpecialIfBound? (.ref x) (Str.ofString "__eq__") [b])
        (PySem.W.ifBound_K X I heq hf (wpAny_mono hcall (fun r s' hr=>by
          obtain ⟨b,rfl,hq⟩:=hr
          repeat (first | exact hq | exact wpAny_pure hq | exact wpAny_truthy_bool hq | (refine wpAny_bind (m:=truthy (.bool _)) (wpAny_truthy_bool ?_)) | wp_step)) fun _ _ e=>e)))
    | wp_step)
theorem ne_own {Q:Value→Shared→Prop} (hu:A.units + 1 < cLine) (F:PyProof.Rows.Fr h₀ L s.heap mm) (X₀:K.In h₀) (I:PySem.W.InstAt s.heap x ox C od) (hb:PySem.W.Looks (model prog w) s.heap (typeOf b) tb) (hn:PySem.W.notFirst K C tb=true)
    (hne:PySem.W.findIn K (.ref C) "__ne__" = some (some (.builtin "object.__ne__"))) (hob:PySem.W.mroIn K C (.type "object")=some true)
    (heq:PySem.W.findIn K (.ref C) "__eq__" = some (some (.ref f))) (hf:PySem.W.isFn K (.ref f)=true)
    (h:wpAny (model prog w) A.in1 (call (.ref f) [.ref x,b]) (fun v s'=>∃ c,v=.bool c∧Q (.bool (!c)) s') E s):wpAny (model prog w) A (richCompare .NotEq (.ref x) b) Q E s:=by
  have X:=X₀.keeps F.keep
  have inst:PySem.W.Looks (model prog w) s.heap (isInstance (.ref x) (.type "object")) true:=I.type.andThen (PySem.W.looks_mroIn X hob)
  have one:wpAny (model prog w) A (tryCompare (.ref x) (cmpInfo .NotEq).2.1 b) (fun r s'=>∃ v,r=some v∧Q v s') E s:=by
    unfold tryCompare
    refine wpAny_bind ?_
    simp only [callSpecialIfBound?,bindSpecialIfBound?]
    refine wpAny_holding (wpAny_bind (wpAny_bind (wpAny_bind (I.type.here ((PySem.W.looks_findIn X hne).here ?_)))))
    refine wpAny_bind (wpAny_askSetting (wpAny_ite ?_))
    have fin:wpAny (model prog w) A (call (.builtin "object.__ne__") ([.ref x] ++ [b]) >>= fun v=>pure (some v)) (fun r s'=>wpAny (model prog w) A (match r with
      | some .notImplemented | none=>pure none
      | some v=>pure (some v)) (fun r s'=>∃ v,r=some v∧Q v s') E s') E s:=by
      refine wpAny_bind (wpAny_call (codeAny_call_builtin PySem.F.cmp_object.ne.plain PySem.F.cmpEntry_ne (@PySem.W.check_slot (model prog w) _ _ _ "object.__ne__" "object" "__ne__" (.ref x) [b] [] _ PySem.F.cmpKind_ne PySem.F.cmpSplit_ne inst (PySem.F.cmpArgs_ne _ _) ?_)))
      refine objNe_own (A:=A.in1) X I heq hf hu (wpAny_mono h (fun v s' hv=>?_) fun _ _ e=>e)
      obtain ⟨c,rfl,hq⟩:=hv
      exact ⟨c,rfl,wpAny_pure (wpAny_pure ⟨_,rfl,hq⟩)⟩
    split
    · exact wpAny_bind (wpAny_of_eq (PySem.F.cmp_object.ne.bind _) (wpAny_pure (by exact fin)))
    · exact wpAny_tryCatch (wpAny_bind (wpAny_of_eq (PySem.F.cmp_object.ne.bind _) (wpAny_pure (by exact fin))))
  unfold richCompare
  simp only [oneThing_ref]
  refine wpAny_holding (wpAny_bind (wpAny_cRoomFor (Nat.lt_of_succ_lt hu) ?_))
  refine wpAny_bind (I.type.here (wpAny_bind (hb.here ?_)))
  split
  · rename_i q
    have e:PySem.W.subIn K tb (.ref C)=some false:=by
      rcases Bool.or_eq_true_iff.mp hn with e | e
      · rw [beq_iff_eq.mp e] at q; simp at q
      · exact beq_iff_eq.mp e
    refine wpAny_bind ((PySem.W.looks_subIn X e).here ?_)
    simp only [Bool.false_eq_true,if_false]
    refine wpAny_bind (wpAny_mono one (fun r s' z=>?_) fun _ _ e=>e)
    obtain ⟨v,rfl,hq⟩:=z
    exact wpAny_pure hq
  · refine wpAny_bind (wpAny_pure ?_)
    simp only [Bool.false_eq_true,if_false]
    refine wpAny_bind (wpAny_mono one (fun r s' z=>?_) fun _ _ e=>e)
    obtain ⟨v,rfl,hq⟩:=z
    exact wpAny_pure hq
end
structure NeM (K:PySem.W.Frag) (C:Addr):Prop where
  ne:PySem.W.findIn K (.ref C) "__ne__" = some (some (.builtin "object.__ne__"))
  ob:PySem.W.mroIn K C (.type "object")=some true
section
variable {X:Cx} {F:Fx} {Wsh:WX}
theorem othAt {H:Hp} {B:List Addr} {ι:Ads} {w:W} {v:V} {c:Nat} (hi:othOf c w=true) (ry:RW F H B ι w v) :
    (∃ T,T∈(["NoneType","bool","int","str","tuple","list","dict"]:List String)∧TyB F.K H v T)∨∃ b dy gs,v=.ref b∧H b=some (.ins (F.cls c) dy gs):=by
  unfold othOf at hi
  split at hi
  · rename_i c' gs
    have e:=of_decide_eq_true hi
    subst e
    exact .inr (insAt (c:=c') (w:=.d (.ins c' gs)) (by simp [insOf]) ry)
  · rename_i d _
    have z:RD F H B ι d v:=ry
    refine .inl ?_
    cases z with
    | non=>exact ⟨"NoneType",by simp,.non⟩
    | bl b=>exact ⟨"bool",by simp,.bl b⟩
    | int i=>exact ⟨"int",by simp,.int i⟩
    | str s=>exact ⟨"str",by simp,.str s⟩
    | tup n e r=>exact ⟨"tuple",by simp,.tup (SqT.of e)⟩
    | tupK e1 e2 e3 e4 e5 r=>exact ⟨"tuple",by simp,.tup (.inr ⟨_,_,_,e1,e2,e3,e4,e5⟩)⟩
    | tupF n e r=>exact ⟨"tuple",by simp,.tup (.inl (.inr ⟨_,e⟩))⟩
    | lst n e r=>exact ⟨"list",by simp,.lst (SqL.of e)⟩
    | dK n e r=>exact ⟨"dict",by simp,.dK e⟩
    | ftp n e p r=>simp [tyD] at hi
    | scr n e q=>simp [tyD] at hi
    | scrK e1 e2 e3 e4 e5 e6=>simp [tyD] at hi
    | ins n e r=>simp [tyD] at hi
    | cls c=>simp [tyD] at hi
    | kdc _ _ _=>simp [tyD] at hi
    | exi _ _ _ _ _=>simp [tyD] at hi
    | dkf _ _ _=>simp [tyD] at hi
  · cases hi
def opNeI (c:Nat) (ff:FF):Op2:=fun x y S=>if insOf c x=true∧othOf c y=true then (match ff [x,y] S with
  | .ok (.d (.bl b)) S1=>.ok (.d (.bl (!b))) S1
  | _=>.err) else .err
def rNeI (K:PySem.W.Frag) (C:Addr) (sp:Sp):R2:=fun x y H Q=>∃ a dx fs,x=.ref a∧H a=some (.ins C dx fs)∧((∃ T,T∈(["NoneType","bool","int","str","tuple","list","dict"]:List String)∧TyB K H y T)∨∃ b dy gs,y=.ref b∧H b=some (.ins C dy gs)) ∧
  sp [x,y] H (fun v H'=>∃ b,v=.bl b∧Q (.bl (!b)) H') (fun _ _ _=>False)
theorem or_neI {gd:Bool} {k j:Nat} {C f:Addr} {fd:FuncData} {ps:List Str} {sp:Sp} (m:EqM X.K C f) (nm:NeM X.K C) (G:FnG gd X.prog X.w X.K X.mg X.base k f fd ps sp) (hgd:gd=true→X.A.guards=some []) (hb:Binds X.K fd ps []) (hr:Room j X.A) (hjk:k + 1≤j):OpR X (compareOp .NotEq) (rNeI X.K C sp):=by
  intro pins s σ H x y v u Q I rx ry hq
  obtain ⟨a,dx,fs,rfl,ha,hy,hsp⟩:=hq
  show wpAny (model X.prog X.w) X.A (richCompare .NotEq v u) (EP X pins σ Q) X.xe s
  obtain rfl:v=Value.ref a:=rx
  obtain ⟨mA,J,_⟩:=ins_get I.hok ha
  obtain ⟨od,J,_⟩:=J.look
  obtain ⟨mf,hF⟩:=I.fr
  have hu:X.A.units + 1 < cLine:=un1 hr
  have hr1:Room k X.A.in1:=(show Room (k + 1) X.A from hr.mono hjk).in1
  have run:wpAny (model X.prog X.w) X.A.in1 (call (.ref f) [.ref a,u]) (fun v s'=>∃ c,v=.bool c∧EP X pins σ Q (.bool (!c)) s') X.xe s:=by
    refine thn (own_run (W:=W0) (A:=X.A.in1) G hb (fun h=>hgd h) hr1 I I.env0.in1 LamX.takes0 (us:=[.ref a,u]) (vs:=[.ref a,y]) (.cons rfl (.cons ry .nil)) hsp) fun z s' hz=>?_
    obtain ⟨w,H',I',rz,b,rfl,q⟩:=hz
    obtain rfl:z=Value.bool b:=rz
    exact ⟨b,rfl,.bl (!b),H',I',rfl,q⟩
  rcases hy with ⟨T,hT,ty⟩ | ⟨b,dy,gs,rfl,hb'⟩
  · have ti:=ty.is I ry
    exact ne_own (tb:=.type T) hu hF I.ok.mod.kin J (looks_ty ti) (by simp [PySem.W.notFirst,m.sub T hT]) nm.ne nm.ob m.at_ m.fn run
  · obtain rfl:u=Value.ref b:=ry
    obtain ⟨mB,J',_⟩:=ins_get I.hok hb'
    obtain ⟨od',J',_⟩:=J'.look
    exact ne_own (tb:=.ref C) hu hF I.ok.mod.kin J J'.type (by simp [PySem.W.notFirst]) nm.ne nm.ob m.at_ m.fn run
theorem ok_neI {c:Nat} {ff:FF}:OpOk F (opNeI c ff) (rNeI F.K (F.cls c) (spF F 2 ff)):=by
  intro Wsh B ι ρ S σ H wx wy x y Q rl rx ry cn
  unfold opNeI at cn
  split at cn
  · rename_i h
    obtain ⟨a,dx,fs,rfl,ha⟩:=insAt h.1 rx
    exact ⟨a,dx,fs,rfl,ha,othAt h.2 ry,bool_sp (h:=fun b=>!b) rfl rl (.cons rx (.cons ry .nil)) cn⟩
  · exact cn.elim
def fLenI (c:Nat) (ff:FF) (f:FE):FE:=fun ρ S=>(f ρ S).bind fun w S1=>if insOf c w=true then (match ff [w] S1 with
  | .ok (.d (.int n)) S2=>if 0≤n∧n < 2 ^ 63 then .ok (.d (.int n)) S2 else .err
  | _=>.err) else .err
def rLenI (C:Addr) (sp:Sp):RN:=fun xs H Q=>∃ a dx fs,xs=[V.ref a]∧H a=some (.ins C dx fs)∧sp [.ref a] H (fun v H'=>∃ n:Int,v=.int n∧0≤n∧n < 2 ^ 63∧Q (.int n) H') (fun _ _ _=>False)
theorem call_lenI {gd:Bool} {k j:Nat} {C f:Addr} {fd:FuncData} {ps:List Str} {sp:Sp} (m:Meth X.K C "__len__" f) (G:FnG gd X.prog X.w X.K X.mg X.base k f fd ps sp) (hgd:gd=true→X.A.guards=some []) (hb:Binds X.K fd ps []) (hr:Room j X.A) (hjk:k + 1≤j):CallR X (.builtin "len") (rLenI C sp):=by
  intro pins s σ H xs us Q I r h
  obtain ⟨a,dx,fs,rfl,ha,hsp⟩:=h
  obtain ⟨u,rfl,ru⟩:=r.one
  obtain rfl:u=Value.ref a:=ru
  obtain ⟨mA,J,_⟩:=ins_get I.hok ha
  obtain ⟨od,J,_⟩:=J.look
  obtain ⟨mf,hF⟩:=I.fr
  have hr1:Room k X.A.in1:=(show Room (k + 1) X.A from hr.mono hjk).in1
  refine PySem.W.len_K hF I.ok.mod.kin J m.at_ m.fn (thn (own_run (W:=W0) (A:=X.A.in1) G hb (fun h=>hgd h) hr1 I I.env0.in1 LamX.takes0 (us:=[.ref a]) (vs:=[.ref a]) (.cons rfl .nil) hsp) fun z s' hz=>?_)
  obtain ⟨w,H',I',rz,n,rfl,h0,h1,q⟩:=hz
  obtain ⟨t,rfl⟩:∃ t,z=Value.int n t:=rz
  exact ⟨⟨h0,h1⟩,.int n,H',I'.tok _,⟨_,rfl⟩,q⟩
theorem ok_lenI {c:Nat} {ff:FF} {f:FE} {σ:L2.St} {H:Hp} {Q:VK} (h:tR F Wsh (fLenI c ff f) σ H Q):tR F Wsh f σ H fun x H1=>rLenI (F.cls c) (spF F 1 ff) [x] H1 Q:=by
  obtain ⟨B,ι,ρ,S,rl,c0⟩:=h
  refine tR_step rl c0 fun w v S1 ι1 H1 x1 rl1 rv c1=>?_
  split at c1
  · rename_i hi
    obtain ⟨a,dx,fs,rfl,ha⟩:=insAt hi rv
    refine ⟨a,dx,fs,rfl,ha,rfl,B,ι1,S1,[w],rl1.toRelS,.cons rv .nil,?_⟩
    revert c1
    cases ff [w] S1 with
    | err=>exact fun cn=>cn
    | exn _ _ _=>exact fun cn=>(show False from cn).elim
    | ok w S1 =>
      cases w with
      | d d =>
        cases d with
        | int n =>
          intro cn ι' H' v x r rv
          have e:v=.int n:=by
            have z:RD F H' B ι' (.int n) v:=rv
            cases z
            rfl
          subst e
          by_cases hn:0≤n∧n < 2 ^ 63
          · rw [show (match (R.ok (W.d (D.int n)) S1:R W) with
              | .ok (.d (.int n)) S2=>if 0≤n∧n < 2 ^ 63 then R.ok (W.d (D.int n)) S2 else .err
              | _=>.err)=R.ok (W.d (D.int n)) S1 from if_pos hn] at cn
            exact ⟨n,rfl,hn.1,hn.2,cn ι' H' x ⟨r,pImp (fun _ _ q=>RL.ext x q) rl1.loc⟩ _ (.int _)⟩
          · rw [show (match (R.ok (W.d (D.int n)) S1:R W) with
              | .ok (.d (.int n)) S2=>if 0≤n∧n < 2 ^ 63 then R.ok (W.d (D.int n)) S2 else .err
              | _=>.err)=R.err from if_neg hn] at cn
            exact (show False from cn).elim
        | _=>exact fun cn=>(show False from cn).elim
      | _=>exact fun cn=>(show False from cn).elim
  · exact (show False from c1).elim
theorem r_lenI {gd:Bool} {k j:Nat} {c:Nat} {f0:Addr} {fd:FuncData} {ps:List Str} {ff:FF} {e:Expr} {f:FE} {p pos:Pos} (hK:X.K=F.K) (m:Meth F.K (F.cls c) "__len__" f0) (G:FnG gd X.prog X.w X.K X.mg X.base k f0 fd ps (spF F 1 ff)) (hgd:gd=true→X.A.guards=some []) (hb:Binds X.K fd ps []) (hr:Room j X.A)
    (hg:Gl X "len") (hm:X.mg "len" = none) (he:PE X e (tR F Wsh f)) (hjk:k + 1≤j:=by first | decide | omega) (hs:starEach [e] X.env=(false,eval e X.env) :: starEach [] X.env:=by rfl):PE X (.Call (.Name "len" p) [e] [] pos) (tR F Wsh (fLenI c ff f)) :=
  peImp (pe_callB (call_lenI (by rw [hK]; exact m) G hgd hb hr hjk) hg hm (by decide +kernel) (pa_cons he pa_nil hs) (by decide) (by decide) hs) fun σ H Q h=>ok_lenI h
end
end Ev
namespace Ev
open PySem PySem.Spec L2
open PyProof.Rows (envOfC)
structure LamP (N:List Str) (out lam:Scope):Prop where
  isF:lam.kind=.function
  noC:lam.isCoroutine=false
  noG:lam.isGenerator=false
  mine:∀ y∈lam.names,y.2 ≠ .cell∧(y.2=.local→y.1 ∉ N)
  far:∀ y∈lam.names,y.2=.free→out.names.lookup y.1=some .cell∨out.names.lookup y.1=some .free
def lamPB (N:List Str) (out lam:Scope):Bool :=
  decide (lam.kind=.function) && !lam.isCoroutine && !lam.isGenerator && lam.names.all fun y=>!decide (y.2=.cell) && (!decide (y.2=.local) || !decide (y.1∈N)) && (!decide (y.2=.free) || decide (out.names.lookup y.1=some .cell) || decide (out.names.lookup y.1=some .free))
theorem lamP_by {N:List Str} {out lam:Scope} (h:lamPB N out lam=true):LamP N out lam:=by
  unfold lamPB at h
  simp only [Bool.and_eq_true,Bool.or_eq_true,Bool.not_eq_true',decide_eq_true_eq,decide_eq_false_iff_not,List.all_eq_true] at h
  obtain ⟨⟨⟨a,b⟩,c⟩,d⟩:=h
  refine ⟨a,b,c,fun y hy=>⟨(d y hy).1.1,fun e=>?_⟩,fun y hy e=>?_⟩
  · cases (d y hy).1.2 with
    | inl z=>exact absurd e z
    | inr z=>exact z
  · rcases (d y hy).2 with (z | z) | z
    · exact absurd e z
    · exact Or.inl z
    · exact Or.inr z
section
variable {X:Cx}
theorem LamP.has {lam:Scope} (P:LamP X.N X.env.scope lam) (ok:X.Ok):∀ y∈lam.names,y.2=.free→∃ c,X.env.cells.lookup y.1=some c:=fun y hy e =>
  ok.has y.1 (P.far y hy e)
theorem lamP_start {pins:List (Addr×Obj)} {σ:L2.St} {H HZ:Hp} {s s1:Shared} {A:Around} {outer:List Env} {E:XK} {lam:Scope} {f c1:Addr} {g1:Heap} {bs:List (Str×Value)} {tk:Nat} (J:Inv X pins σ H s) (P:LamP X.N X.env.scope lam)
    (b0:Env0 X.prog X.w X.K X.mg X.base A outer s1 HZ) (calm:A.handled=none) (un:Un (frs X.stack) [] H HZ s.heap s1.heap) (nsp:g1.Ns s1.heap.objs.size fun y=>bs.reverse.lookup y) (stay:∀ b o,s1.heap.get? b=some o→g1.get? b=some o) :
    Inv (LamX.lamCx X A outer s1 HZ E lam f c1) [] σ HZ { s1 with heap:=g1,toks:=tk }:=by
  have hfr:=P.has J.ok
  have back:∀ {y c},(cloFrom X.env.cells lam.names []).lookup y=some c→X.env.cells.lookup y=some c:=by
    intro y c e
    cases cloFrom_mem (PySem.mem_of_lookup e) with
    | inl m=>cases m
    | inr r =>
      obtain ⟨m,z⟩:=r
      obtain ⟨d,hd⟩:=hfr _ m rfl
      have hd:X.env.cells.lookup y=some d:=hd
      have q:c=d:=by rw [z,hd] <;> rfl
      rw [q]
      exact hd
  have forth:∀ {y},lam.names.lookup y=some .free→∃ c,(cloFrom X.env.cells lam.names []).lookup y=some c:=by
    intro y e
    have m:(y,NameKind.free)∈lam.names:=PySem.mem_of_lookup e
    exact mem_lookup (cloFrom_has (cells:=X.env.cells) (acc:=[]) m)
  have cel:∀ {c:Addr} {v:Option Value},H c=none→s.heap.IsCell c v→g1.IsCell c v:=by
    rintro c v n ⟨o,e,d⟩
    obtain ⟨sl,q⟩:=un.any e n (by simp)
    exact ⟨_,stay _ _ q,d⟩
  have out:∀ b:Addr,b ∉ (LamX.lamCx X A outer s1 HZ E lam f c1).ex:=fun b z=>nomatch (show b∈([]:List Addr) from z)
  refine ⟨⟨b0.mod,P.isF,rfl,rfl,Nat.le_refl _,fun y z c p q=>J.ok.inj y z c (back p) (back q),fun y e=>?_,fun y c z _=>?_,fun _=>calm,Around.frames_deeper b0.frames,.inr ⟨rfl,rfl⟩,fun b z=>absurd z (out b),b0.bs,b0.bsz,fun b _ _=>out b,
      fun b z=>absurd z (out b),b0.funs,b0.frf⟩,
    rfl,b0.bare,Un.kept stay,⟨_,nsp,fun i y v p q r=>?_⟩,fun y c e=>?_,b0.hok.fresh (Nat.le_refl _),fun y c e=>?_,fun q m=>absurd (show q∈([]:List (Addr×Obj)) ++ [] from m) (by simp),b0.hok.kept stay,J.len⟩
  · have e:lam.names.lookup y=some .cell∨lam.names.lookup y=some .free:=e
    cases e with
    | inl e=>exact absurd rfl (P.mine _ (PySem.mem_of_lookup e)).1
    | inr e=>exact forth e
  · have z:false=true:=z
    cases z
  · have r:Vis lam y:=r
    rcases r with k | k | k
    · exact absurd (List.mem_of_getElem? (show X.N[i]? = some y from p)) ((P.mine _ (PySem.mem_of_lookup k)).2 rfl)
    · exact absurd rfl (P.mine _ (PySem.mem_of_lookup k)).1
    · obtain ⟨m,hn,hl⟩:=J.loc
      have vis:Vis X.env.scope y:=(P.far _ (PySem.mem_of_lookup k) rfl).elim (fun k=>Or.inr (Or.inl k)) (fun k=>Or.inr (Or.inr k))
      obtain ⟨w,rv,q⟩:=hl i y v p q vis
      obtain ⟨c2,h2⟩:=forth k
      refine ⟨w,rv,Or.inr ⟨Or.inr k,c2,h2,?_⟩⟩
      have h1:=back h2
      rcases q with ⟨l,_⟩ | ⟨_,c3,e3,z⟩
      · have l:X.env.scope.names.lookup y=some .local:=l
        rcases P.far _ (PySem.mem_of_lookup k) rfl with k2 | k2 <;> rw [show X.env.scope.names.lookup y=_ from k2] at l <;> cases l
      · rw [h1] at e3
        cases e3
        exact cel (J.freeC y _ h1) z
  · obtain ⟨w,z⟩:=J.cell y c (back e)
    exact ⟨w,cel (J.freeC y c (back e)) z⟩
  · obtain ⟨v,o,p,d⟩:=J.cell y c (back e)
    exact un.free c o p (J.freeC y c (back e)) (by simp)
end
abbrev objP (qual:Str) (params:Arguments) (body:Expr) (lam:Scope) (clo:List (Str×Addr)) (t0:Addr) (doc pm:Value) (c1:Addr) (ctv:Value):Obj :=
  PySem.W.kdv_obj "<lambda>" qual params (.expr body) lam clo (.ref t0) doc pm c1 ctv
section
variable {X:Cx} {F:Fx}
theorem lamP_tail {t0:Addr} {pins:List (Addr×Obj)} {σ:L2.St} {H:Hp} {s:Shared} {T:List (Addr×Str)} {c P:Addr} {params:Arguments} {body:Expr} {scope:Scope} {pos:Pos} {E:Value→Shared→Prop} {Q:Value→Shared→Prop} (J:Inv X pins σ H s) (B:LamX.TabB X.base X.mg c P) (ec:X.env.code=.ref c)
    (mem:(P,X.env.qual ++ "<lambda>")∈T) (one:∀ p∈T,p.1=P→p.2=X.env.qual ++ "<lambda>") (t:TabA T H) (fr:∀ y∈scope.names,y.2=.free→∃ c,X.env.cells.lookup y.1=some c)
    (hQ:∀ (f c':Addr) (doc pm ctv:Value) (H1:Hp) (s':Shared),Inv X pins σ H1 s'→LamX.ExtN H H1→TabA T H1 →
      (∀ b o,b ≠ P→s.heap.get? b=some o→s'.heap.get? b=some o)→(∀ b o,s.heap.get? b=some o→H b=none→H1 b=none)→s'.heap.get? f=some (objP (X.env.qual ++ "<lambda>") params body scope (cloFrom X.env.cells scope.names []) t0 doc pm c' ctv)→H1 f=none→f ∉ frs X.stack →
      H1 c'=some (LamX.CodeO c' (X.env.qual ++ "<lambda>"))→Q (.ref f) s') :
    wpAny (model X.prog X.w) X.A (makeTail "<lambda>" (X.env.qual ++ "<lambda>") params (.expr body) scope X.env (.ref t0) .none none pos pos.line) Q E s:=by
  obtain ⟨qs,atP,tri,all⟩:=t.1 _ mem
  have bP:=B.bm.keeps J.bk
  have hp:s.heap.get? P=some { cls:=.none,data:=.fields qs }:=J.hok P _ atP
  have away:∀ f,s.heap.objs.size≤f→f ∉ frs X.stack:=by
    intro f le mm
    cases List.mem_cons.mp (J.stkSub _ mm) with
    | inl e =>
      have lt:=J.lt
      rw [← e] at lt
      exact absurd (Nat.lt_of_lt_of_le lt le) (Nat.lt_irrefl _)
    | inr e=>exact J.nofs le e
  cases am:codeAmong pos qs.toList with
  | some cv =>
    obtain ⟨c0,rfl,known⟩:=all pos cv am
    apply PySem.W.kdv_makeTailHit (mg:=X.mg) (c:=c) (P:=P) (ps:=qs) (closure_ok fr) J.ok.glob (J.mod.glob.keeps J.bk) ec (B.code.keeps J.bk) hp tri am bP
    intro ctv doc h2 tk kp le
    refine hQ h2.objs.size c0 doc ((X.mg "__name__").getD .none) ctv H _ ?_ (LamX.ExtN.refl H) t (fun b o _ e=>Heap.get?_push_of_some _ (kp b o e)) (fun _ _ _ n=>n) (Heap.get?_push_size _ rfl) (J.hok.fresh le) (away _ le) known
    exact J.kept fun b o e=>Heap.get?_push_of_some _ (kp b o e)
  | none =>
    apply PySem.W.kdv_makeTail (mg:=X.mg) (c:=c) (P:=P) (ps:=qs) (closure_ok fr) J.ok.glob (J.mod.glob.keeps J.bk) ec (B.code.keeps J.bk) hp tri am B.gP bP
    rintro c0 ctv doc h2 tk kp ge lt ⟨c9,oc,fs,tok,e9,g1,g2,g3⟩ tb
    cases e9
    have le:s.heap.objs.size≤h2.objs.size:=by omega
    have new:H c0=none:=J.hok.fresh ge
    have nPc:P ≠ c0:=ne_of_none atP new
    have eL:(qs ++ #[rawInt pos.line,rawInt pos.col,.ref c0]).toList=qs.toList ++ [rawInt pos.line,rawInt pos.col,.ref c0]:=by simp
    have J1:=LamX.inv_table (t':=tk) (more:=#[rawInt pos.line,rawInt pos.col,.ref c0]) J atP (h':=h2.push (objP (X.env.qual ++ "<lambda>") params body scope (cloFrom X.env.cells scope.names []) t0 doc ((X.mg "__name__").getD .none) c0 ctv))
      (fun b o nb e=>Heap.get?_push_of_some _ (kp b o nb e)) (Heap.get?_push_of_some _ tb) ge ⟨oc,fs,tok,Heap.get?_push_of_some _ g1,g2,g3⟩
    have on:LamX.ExtN H (upd (upd H P (.tbl (qs ++ #[rawInt pos.line,rawInt pos.col,.ref c0]))) c0 (LamX.CodeO c0 (X.env.qual ++ "<lambda>"))):=by
      intro b o e nt
      rw [upd_ne (ne_of_none e new),upd_ne]
      · exact e
      · intro z
        subst z
        rw [atP] at e
        exact nt _ (Option.some.inj e).symm
    refine hQ h2.objs.size c0 doc _ ctv _ _ J1 on ⟨fun p hpT=>?_,fun b ps e=>?_⟩ (fun b o nb e=>Heap.get?_push_of_some _ (kp b o nb e)) (fun b o e n=>by rw [upd_ne (fun z=>by rw [z] at e; exact absurd (Nat.lt_of_lt_of_le (Heap.lt_size e) ge) (Nat.lt_irrefl _)),upd_ne (fun z=>by rw [z,atP] at n; cases n)]; exact n) (Heap.get?_push_size _ rfl) ?_ (away _ le) upd_same
    · by_cases z:p.1=P
      · rw [one p hpT z,z]
        refine ⟨qs ++ #[rawInt pos.line,rawInt pos.col,.ref c0],by rw [upd_ne nPc,upd_same],by rw [eL]; exact PySem.TriplesOk_snoc _ _ _ _ tri,fun p2 cv hcv=>?_⟩
        rw [eL] at hcv
        cases LamX.among_app _ tri hcv with
        | inl y =>
          obtain ⟨c3,r1,r2⟩:=all p2 cv y
          exact ⟨c3,r1,on _ _ r2 LamX.codeO_ne⟩
        | inr y=>exact ⟨c0,y,upd_same⟩
      · obtain ⟨ps2,b1,b2,b3⟩:=t.1 p hpT
        refine ⟨ps2,by rw [upd_ne (ne_of_none b1 new),upd_ne z]; exact b1,b2,fun p2 cv hcv=>?_⟩
        obtain ⟨c3,r1,r2⟩:=b3 p2 cv hcv
        exact ⟨c3,r1,on _ _ r2 LamX.codeO_ne⟩
    · by_cases z:b=c0
      · rw [z,upd_same] at e
        exact absurd (Option.some.inj e) (LamX.codeO_ne ps)
      · rw [upd_ne z] at e
        by_cases y:b=P
        · rw [y]; exact ⟨_,mem⟩
        · rw [upd_ne y] at e; exact t.2 b ps e
    · rw [upd_ne (show h2.objs.size ≠ c0 by omega),upd_ne (show h2.objs.size ≠ P from Nat.ne_of_gt (Nat.lt_of_lt_of_le (Heap.lt_size hp) le))]
      exact J.hok.fresh le
theorem lamP_new {pins:List (Addr×Obj)} {σ:L2.St} {H:Hp} {s:Shared} {T:List (Addr×Str)} {c P:Addr} {params:Arguments} {body:Expr} {scope:Scope} {pos dp:Pos} {kk:Nat} {iv:Int} {E:Value→Shared→Prop} {Q:Value→Shared→Prop} (J:Inv X pins σ H s) (B:LamX.TabB X.base X.mg c P) (ec:X.env.code=.ref c)
    (mem:(P,X.env.qual ++ "<lambda>")∈T) (one:∀ p∈T,p.1=P→p.2=X.env.qual ++ "<lambda>") (t:TabA T H) (df:params.defaults=[.Constant (.int iv) kk dp]) (kw:params.kw_defaults=[]) (fr:∀ y∈scope.names,y.2=.free→∃ c,X.env.cells.lookup y.1=some c)
    (hQ:∀ (f c' t0:Addr) (v doc pm ctv:Value) (H1:Hp) (s':Shared),Inv X pins σ H1 s'→LamX.ExtN H H1→TabA T H1→s'.heap.get? t0=some (PySem.W.kdv_tup [v])→H1 t0=none→t0 ∉ frs X.stack →
      s'.heap.get? f=some (objP (X.env.qual ++ "<lambda>") params body scope (cloFrom X.env.cells scope.names []) t0 doc pm c' ctv)→H1 f=none→f ∉ frs X.stack →
      H1 c'=some (LamX.CodeO c' (X.env.qual ++ "<lambda>"))→Q (.ref f) s') :
    wpAny (model X.prog X.w) X.A (eval (.Lambda params body scope pos) X.env) Q E s:=by
  apply PySem.W.kdv_lam (by rw [df]; rfl) kw
  rw [df]
  apply PySem.W.kdv_all1
  apply wpAny_Constant_int
  apply PySem.W.kdv_all0
  rw [makeFunction_eq]
  simp only [List.zip_nil_right,List.filterMap_nil,List.isEmpty_nil,if_true,pure_bind,List.isEmpty_cons,Bool.false_eq_true,if_false]
  refine wpAny_bind (wpAny_newTextTuple ?_)
  have away:s.heap.objs.size ∉ frs X.stack:=by
    intro mm
    cases List.mem_cons.mp (J.stkSub _ mm) with
    | inl e =>
      have lt:=J.lt
      rw [← e] at lt
      exact absurd lt (Nat.lt_irrefl _)
    | inr e=>exact J.nofs (Nat.le_refl _) e
  have new:H s.heap.objs.size=none:=J.hok.fresh (Nat.le_refl _)
  have J2:Inv X pins σ H { s with heap:=s.heap.push (PySem.W.kdv_tup [.int iv s.toks]),toks:=s.toks + 1 }:=J.kept fun b o e=>Heap.get?_push_of_some _ e
  obtain ⟨qs,atP,_⟩:=t.1 _ mem
  refine lamP_tail (t0:=s.heap.objs.size) J2 B ec mem one t fr ?_
  intro f c' doc pm ctv H1 s' J3 on t1 kp kn hf f0 f1 hc
  have nP:s.heap.objs.size ≠ P:=fun z=>by rw [z,atP] at new; cases new
  have at0:=kp s.heap.objs.size _ nP (Heap.get?_push_size _ rfl)
  refine hQ f c' s.heap.objs.size (.int iv s.toks) doc pm ctv H1 s' J3 on t1 at0 (kn _ _ (Heap.get?_push_size _ rfl) new) away hf f0 f1 hc
theorem actP_at {t0:Addr} {v doc:Value} {nx:Str} {pins:List (Addr×Obj)} {σ:L2.St} {H:Hp} {s:Shared} {Ng:List Str} {x:Str} {sg:Scope} {g f c':Addr} {cdg pm ctv:Value} {params:Arguments} {body:Expr} {scope:Scope} {k i:Nat} {a:Str} {pn:List (Addr×Obj)} {xe:Value→Shared→Prop} {W:WX} {tb:XK→TE} {p1 p2:Pos}
    (I:Inv X pins σ H s) (L:LamP X.N X.env.scope scope)
    (there:s.heap.get? f=some (objP (X.env.qual ++ "<lambda>") params body scope (cloFrom X.env.cells scope.names []) t0 doc pm c' ctv)) (at0:s.heap.get? t0=some (PySem.W.kdv_tup [v])) (vn0:H t0=none) (vn1:t0 ∉ frs X.stack) (un0:H f=none) (un1:f ∉ frs X.stack)
    (bnd:∀ s':Shared,s'.heap.get? t0=some (PySem.W.kdv_tup [v])→BindsTo s' (PySem.W.kdv_fn "<lambda>" (X.env.qual ++ "<lambda>") params (.expr body) scope (cloFrom X.env.cells scope.names []) (.ref t0) doc pm (.ref c') ctv) ⟨[],[]⟩ [(nx,v)]) (lx:scope.names.lookup nx=some .local)
    (tk:Takes ((cxT X Ng x sg g cdg s H).tr pn xe) W) (room:Room (k + 1) (X.A.deeper (envOfC x sg s.heap.objs.size g cdg)))
    (rd:∀ (A:Around) (outer:List Env) (s:Shared) (H:Hp) (E:XK),Room k (A.deeper (LamX.lamEnv X scope s.heap.objs.size f c'))→PE (LamX.lamCx X A outer s H E scope f c') body (tb E))
    (hN:Ng[i]? = some a) (hv:Vis sg a) (hd:(a == ("__debug__":Str))=false) (hcd:(a == ("__classdict__":Str))=false) :
    PE ((cxT X Ng x sg g cdg s H).tr pn xe) (.Call (.Name a p1) [] [] p2)
      (fun σz Hz Q=>σz[i]? = some (some (.ref f))∧Hz c'=some (LamX.CodeO c' (X.env.qual ++ "<lambda>"))∧tb (WE W σz) σ Hz Q):=by
  constructor
  rintro pz sz σz Hz Q Iz ⟨h1,h2,h3⟩
  have ld:=(pe_var (X:=(cxT X Ng x sg g cdg s H).tr pn xe) (pos:=p1) (i:=i) hN hv hd hcd).run pz sz σz Hz (fun y Hy=>y=.ref f∧Hy=Hz) Iz ⟨.ref f,h1,rfl,rfl⟩
  apply wpAny_Call_Name_kw
  refine thn ld ?_
  rintro u t1 ⟨y,Hy,Iy,ry,ey,eH⟩
  rw [ey] at ry
  rw [eH] at Iy
  cases ry
  have now:=Iy.base.keep f _ there un0 un1 (fun z=>nomatch (show f∈([]:List Addr) from z))
  have now0:=Iy.base.keep t0 _ at0 vn0 vn1 (fun z=>nomatch (show t0∈([]:List Addr) from z))
  apply PySem.W.callWith_F0 ⟨_,_,_,_,now⟩
  have bare:Un (frs X.stack) [] H Hz s.heap t1.heap:=Iy.base
  obtain ⟨⟨oc,fs,tok,g1,g2,g3⟩,_,_⟩:=Iy.hok c' _ h2
  apply wpAny_call
  have run:codeAny (model X.prog X.w) (X.A.deeper (envOfC x sg s.heap.objs.size g cdg)) (.call (.ref f) ⟨[],[]⟩)
      (CR (L2.CX X.prog X.w) (envOfC x sg s.heap.objs.size g cdg :: X.stack) X.prog X.w Hz t1 Q (WE W σz)) t1:=by
    apply PySem.W.kla_callFunE room.depth now rfl L.noC L.noG rfl ⟨c',oc,fs,tok,rfl,g1,g2,g3⟩
    refine bnd t1 now0 _ _ _ _ ?_
    refine wpAny_newFunctionEnv (fun y hy=>(L.mine y hy).1) (fun y hy=>by rw [List.mem_singleton.mp hy]; exact lx) ?_ L.isF
    intro hh ns sb
    refine ⟨Iy.nolimit.fresh _ sb,?_⟩
    have kept:∀ b o,t1.heap.get? b=some o→hh.get? b=some o:=fun b o e=>sb.extBut b o (Nat.ne_of_lt (Heap.lt_size e)) (Heap.get?_push_of_some _ e)
    have J:=lamP_start (c1:=c') (f:=f) (E:=WE W σz) (tk:=t1.toks + [(nx,v)].length) I L Iy.env0 room.hd bare ns kept
    refine PySem.W.kla_codeExpr (wpAny_mono ((rd _ _ t1 Hz (WE W σz) (room.deeper _)).run [] _ _ Hz Q J h3) ?_ fun _ _ z=>z)
    rintro v t2 ⟨w2,H2,J2,rv,q2⟩
    exact ⟨w2,H2,J2.os,J2.bare,J2.base,J2.hok,rv,q2⟩
  refine codeAny_mono run ?_
  rintro (e | fl) t3 hq
  · exact passAt tk σz pz Hz t1 e t3 Iy hq
  · cases fl with
    | ret u=>exact Iy.after hq
    | _=>exact (show False from hq).elim
theorem r_lamP {nx:Str} {kk:Nat} {dp:Pos} {iv:Int} {Wsh:WX} {told:TF} {x a:Str} {g c P:Addr} {k:Nat} {pg:Arguments} {bg:List Stmt} {sg:Scope} {dV kV doc pm cdv ct oc:Value} {an od:Option Addr} {osl:Array (Option Value)} {Ng:List Str}
    {params:Arguments} {body:Expr} {scope:Scope} {fl:FE} {p lpos pos:Pos} (h0:F.lam=none) (hK:X.K=F.K) (hg:Gl X x) (hm:X.mg x=some (.ref g)) (hk:PySem.W.keepIn X.K (.ref g)=true)
    (lk:X.K.lookup g=some ⟨oc,od,.func (PySem.W.fnOf x x pg bg sg dV kV doc pm an cdv ct),osl⟩) (hcg:PySem.W.codeIn X.K cdv x=true) (hb:L2.Binds X.K (PySem.W.fnOf x x pg bg sg dV kV doc pm an cdv ct) [a] []) (Sg:FnScope Ng [a] sg) (hNg:Ng[0]? = some a) (hva:Vis sg a)
    (hG:Given X F Ng x sg g cdv bg a (X.env.qual ++ "<lambda>") told (k + 1))
    (TB:LamX.TabB X.base X.mg c P) (hcode:X.env.code=.ref c) (hmT:(P,X.env.qual ++ "<lambda>")∈F.T) (hu:∀ p∈F.T,p.1=P→p.2=X.env.qual ++ "<lambda>") (hr:Room (k + 2) X.A) (L:LamP X.N X.env.scope scope) (hdf:params.defaults=[.Constant (.int iv) kk dp]) (hkw:params.kw_defaults=[])
    (hbind:∀ (q:Str) (cl:List (Str×Addr)) (t0:Addr) (v doc pm cv ctv:Value) (s':Shared),s'.heap.get? t0=some (PySem.W.kdv_tup [v])→BindsTo s' (PySem.W.kdv_fn "<lambda>" q params (.expr body) scope cl (.ref t0) doc pm cv ctv) ⟨[],[]⟩ [(nx,v)]) (hlx:scope.names.lookup nx=some .local)
    (hbody:∀ (A:Around) (outer:List Env) (s:Shared) (H:Hp) (E:XK) (f c':Addr),Room k (A.deeper (LamX.lamEnv X scope s.heap.objs.size f c'))→PE (LamX.lamCx X A outer s H E scope f c') body (tR F (fun cls d _ H=>E cls d H) fl))
    (hdb:(x == ("__debug__":Str))=false:=by decide) (hd:(a == ("__debug__":Str))=false:=by decide) (hcd:(a == ("__classdict__":Str))=false:=by decide) :
    PE X (.Call (.Name x p) [.Lambda params body scope lpos] [] pos) (tR F Wsh (fTold told fl)):=by
  constructor
  rintro pins s σ H Q I ⟨B,ι,ρ,S,rl,cn⟩
  apply wpAny_Call_Name_kw
  refine ld_glob I hg hm ?_ hdb
  refine PySem.W.callWith_K (h₀:=X.base) I.ok.mod.kin hk ?_ (by rfl) (by rfl)
  show wpAny _ _ (spliced ((false,eval (.Lambda params body scope lpos) X.env) :: backTo pos (starEach [] X.env))) _ _ s
  refine Calls.spliced_cons (lamP_new I TB hcode hmT hu rl.tab hdf hkw (L.has I.ok) ?_)
  intro f c' t0 dv0 doc' pm' ctv H1 s1 I1 eN T1 at0 vn0 vn1 there un0 un1 hco
  apply Calls.spliced_nil
  refine ⟨I1.kIn,?_⟩
  have x1:Ext ι H ι H1:=by
    refine ⟨fun _ p h=>⟨p,h,rfl⟩,fun _ z=>.inl z,fun b z=>?_,fun b o _ h nt=>eN b o h nt⟩
    cases e:H b with
    | none=>rfl
    | some o =>
      by_cases nt:notTbl o
      · rw [eN b o e nt] at z; cases z
      · have:∃ ps,o=.tbl ps:=Classical.byContradiction fun n=>nt fun ps h=>n ⟨ps,h⟩
        obtain ⟨ps,rfl⟩:=this
        obtain ⟨q,hq⟩:=rl.tab.2 b ps e
        obtain ⟨ps',h1,_⟩:=T1.1 _ hq
        rw [z] at h1
        cases h1
  have keep1:∀ b∈flat ι,H1 b=H b:=fun b hb=>by
    obtain ⟨i,p,o,h1,h2,ro,hp⟩:=rl.toRelS.mem_flat hb
    cases e:H b with
    | none=>exact absurd e (ro.tracked hp)
    | some u=>exact eN b u e (ro.ntbl hp e).1
  have rl1:Rel F H1 B ι ρ S σ:=rl.stay x1 keep1 T1
  have hcn:c' ∉ flat ι:=fun z=>by
    obtain ⟨i,p,o,h1,h2,ro,hp⟩:=rl1.toRelS.mem_flat z
    exact (ro.ntbl hp hco).2 _ _ rfl
  unfold fTold at cn
  have rc:codeAny (model X.prog X.w) X.A (.call (.ref g) ⟨[.ref f],[]⟩) (CR C8.CX0 X.stack X.prog X.w H1 s1 Q C8.E0) s1:=by
    refine LamX.run_ofS (N:=Ng) (ps:=[a]) (us:=[.ref f]) (vs:=[.ref f]) lk hcg Sg hr I1.env0 (hb s1 [.ref f] I1.kIn rfl) (.cons rfl .nil) rfl fun hr'=>?_
    have h1:∀ (W:WX) (pn:List (Addr×Obj)) (xe:Value→Shared→Prop) (p1 p2:Pos),Takes ((cxT X Ng x sg g cdv s1 H1).tr pn xe) W →
        PE ((cxT X Ng x sg g cdv s1 H1).tr pn xe) (.Call (.Name a p1) [] [] p2) (tR (withL F f c' (X.env.qual ++ "<lambda>") (cleanL ρ) σ) W (fAct (fun S'=>if S'.all noFO=true then fl (cleanL ρ) S' else .err))):=by
      intro W pn xe p1 p2 tk
      refine peImp (actP_at (tb:=fun E=>tR F (fun cls d _ H=>E cls d H) fl) (i:=0) I1 L there at0 vn0 vn1 un0 un1 (hbind _ _ _ _ _ _ _ _) hlx tk hr' (fun A outer s H E hr2=>hbody A outer s H E f c' hr2) hNg hva hd hcd) fun σz Hz Qz ⟨B2,ι2,ρ2,S2,rl2,c2⟩=>?_
      unfold fAct at c2
      split at c2
      · rename_i e0
        obtain ⟨v0,e1,r0⟩:=pAt rl2.loc e0
        cases v0 with
        | none=>exact r0.elim
        | some v0 =>
          obtain ⟨a2,c3,q2,ρ3,σ3,e2,rfl,h3,h4,h5⟩:=r0
          cases e2
          refine ⟨e1,h3,?_⟩
          simp only [] at c2
          split at c2
          · rename_i hall
            refine ⟨B2,ι2,cleanL ρ,S2,⟨rl2.toRelS.outL hall,pImp (fun _ _ r=>rcl_rl r) h5⟩,?_⟩
            revert c2
            cases fl (cleanL ρ) S2 with
            | err=>exact fun c2=>c2
            | ok w S3=>exact fun c2 ι3 H3 x3 rl3 v rv=>c2 ι3 H3 x3 ⟨rl3.toRelS.inL h0,pImp (fun _ _ q=>RL.ext x3 q) rl2.loc⟩ v (RW.inL h0 rv)
            | exn cc d S3=>exact fun c2 ι3 H3 cv od x3 rl3 rx=>c2 ι3 H3 cv od x3 ⟨rl3.toRelS.inL h0,pImp (fun _ _ q=>RL.ext x3 q) rl2.loc⟩ rx
          · exact (show False from c2).elim
      · exact (show False from c2).elim
    have h2:CCont (withL F f c' (X.env.qual ++ "<lambda>") (cleanL ρ) σ) B ι H1 Q (fun _ _ _=>False) (told (fun S'=>if S'.all noFO=true then fl (cleanL ρ) S' else .err) S):=by
      revert cn
      cases told (fun S'=>if S'.all noFO=true then fl (cleanL ρ) S' else .err) S with
      | err=>exact fun cn=>(show False from cn).elim
      | exn _ _ _=>exact fun cn=>(show False from cn).elim
      | ok w S1 =>
        intro cn ι2 H2 v x2 rs2 rv
        simp only at cn
        split at cn
        · rename_i hn
          have h2:=Bool.and_eq_true_iff.mp hn
          exact cn ι2 H2 (x1.trans x2) ⟨rs2.outL h2.2,pImp (fun _ _ q=>RL.ext x2 q) rl1.loc⟩ v (RW.outL h2.1 rv)
        · exact (show False from cn).elim
    obtain ⟨t',ht',hq'⟩:=hG f c' (cleanL ρ) σ s1 H1 Q (fun S'=>if S'.all noFO=true then fl (cleanL ρ) S' else .err) B ι S hr' h1 (rl1.toRelS.inL h0) ⟨f,c',_,_,_,rfl,rfl,hco,hcn,captured (F:=F) rl1.loc⟩ h2
    exact ⟨t',ht'.nox,hq'⟩
  refine wpAny_call (codeAny_mono rc ?_)
  rintro (e | fl') t3 hq
  · exact (show False from hq).elim
  · cases fl' with
    | ret u=>exact I1.after hq
    | _=>exact (show False from hq).elim
end
end Ev
namespace Ev
open PySem PySem.Spec L2 PyProof.Rows
section
variable {X:Cx} {F:Fx} {Wsh:WX} {es:List Expr} {fa:FA} {pos:Pos} {t:TA}
def tTupF (t:TA):TE:=fun σ H Q=>t σ H fun xs H1=>xs.length≤sizeLine∧∀ p ob,H1 p=none→plainT ob→Q (.ref p) (upd H1 p (.frz ob (.tup xs)))
theorem pe_tupF {x1} (h:PA X es t):PE X (.Tuple es x1 pos) (tTupF t):=by
  refine ⟨fun pins s σ H Q I hq=>?_⟩
  refine wpAny_Tuple_spliced (thn (h.run pos pins s σ H _ I hq) fun us s1 ⟨xs,H1,I1,r,z,q⟩=>⟨by rw [← r.length]; exact z,?_⟩)
  have hf:H1 s1.heap.objs.size=none:=I1.hok.fresh (Nat.le_refl _)
  let ob:Obj:={ cls:=.type "tuple",data:=.seq us.toArray }
  have ok:ObjOk X.prog X.w (upd H1 s1.heap.objs.size (.frz ob (.tup xs))) (s1.heap.push ob) s1.heap.objs.size (.frz ob (.tup xs)):=⟨Heap.get?_push_size _ rfl,z,us,r,PyProof.Rows.IsTup.new _ _⟩
  exact ⟨.ref s1.heap.objs.size,upd H1 s1.heap.objs.size (.frz ob (.tup xs)),I1.laid (t':=s1.toks) (fun b u e=>Heap.get?_push_of_some _ e) (Nat.le_refl _) ok,rfl,q _ ob hf ⟨rfl,rfl,_,_,rfl⟩⟩
def fTupF (fa:FA):FE:=fun ρ S=>(fa ρ S).bind fun ws S1=>match dats ws with
  | some ds=>if ds.length≤sizeLine then .ok (.d (.ftp ds)) S1 else .err
  | none=>.err
theorem r_tupF {x1:Nat} (h:PA X es (tRA F Wsh fa)):PE X (.Tuple es x1 pos) (tR F Wsh (fTupF fa)):=peImp (pe_tupF h) fun σ H Q ⟨B,ι,ρ,S,rl,c⟩=>by
  refine tRA_step rl c fun ws vs S1 ι1 H1 x1 rl1 rv c1=>?_
  split at c1
  · rename_i ds e
    have r:=dats_reps e rv
    split at c1
    · rename_i hz
      exact ⟨by rw [← reps_len r]; exact hz,fun p ob hl hp=>c1 ι1 _ (Ext.new hl) (rl1.new hl nt_frz) _ (.ftp (rl1.fresh hl) upd_same hp (r.ext (Ext.new hl)))⟩
    · exact (show False from c1).elim
  · exact (show False from c1).elim
end
end Ev
namespace Ev
open PySem PySem.Spec L2 ClX StX
open PyProof.Rows (envOfC)
structure MDefS (K:PySem.W.Frag) (C:Addr) (m qual:Str) (st:Stmt) (ps:List Str) (pv:Str) (f:Addr) (fd:FuncData):Prop where
  fn:Fun K m qual st f fd
  me:Meth K C m f
  b:∀ us rest:List Value,us.length=ps.length→bindArgs fd ⟨us ++ rest,[]⟩=(newTuple rest >>= fun t=>pure (ps.zip us ++ [(pv,t)]))
section
variable {F:Fx}
variable {X:Cx} {Wsh:WX} {o e:Expr} {es:List Expr} {fo:FE} {fa:FA} {pos apos:Pos} {c:Nat} {m:Str}
end
end Ev
namespace Ev
open PySem PySem.Spec L2 ClX StX
open PyProof.Rows (envOfC)
section
variable {prog:Program} {w:World} {A:Around} {E:Value→Shared→Prop} {s:Shared}
theorem ns_put {d:Addr} {name:Str} {v:Value} {es:Array DictEntry} {ep:Nat} {Q:Unit→Shared→Prop} (ho:s.heap.get? d=some ({ cls:=.type "dict",data:=.dict es ep }:Obj)) (hk:∀ e∈es,∃ x t,e.key=.str x t∧x ≠ name)
    (q:∀ h' tk tk',Heap.SameBut d s.heap h'→h'.get? d=some ({ cls:=.type "dict",data:=.dict (es.push ⟨hashStr w name,.str name tk,v⟩) (ep + 1) }:Obj)→Q () { s with heap:=h',toks:=tk' }):wpAny (model prog w) A (nsSet d name v) Q E s:=by
  refine fun Γ p _=>?_
  have hany:es.any (·.refKey)=false:=by
    rw [Array.any_eq_false']
    intro e he
    obtain ⟨x,t,h,_⟩:=hk e he
    simp [DictEntry.refKey,h]
  have hi:es.findIdx? (·.key.isStr name)=none:=by
    rw [Array.findIdx?_eq_none_iff]
    intro e he
    obtain ⟨x,t,h,ne⟩:=hk e he
    rw [h]
    simp [Value.isStr,ne]
  simp only [nsSet,strHash,Sem.wp_bind',Sem.wp_cmd_ask,Sem.wp_pure',Sem.wp_cmd_mkText]
  rw [Sem.wp_loadPart_of _ Γ _ p { s with toks:=s.toks + 1 } (o:={ cls:=.type "dict",data:=.dict es ep }) _ ho]
  simp only [aRefKeyMayBeTheName_eq,aRefKeyMayBeTheNameByArray,hany,Bool.and_false,Bool.false_eq_true,if_false,Sem.wp_cmd_updatePart]
  refine ⟨by rw [ho]; rfl,q _ s.toks _ (Heap.SameBut.update ..) ?_⟩
  refine (Heap.get?_update_self _ ho (by simp only [Obj.putName_eq,Obj.putNameByArray,hi]; rfl)).trans ?_
  simp only [Obj.putName_eq,Obj.putNameByArray,hi]
  rfl
end
def kwA (sn pd:Str) (p1 p2:Pos):Arguments:={ posonlyargs:=[],args:=[{ arg:=sn,annotation:=none,pos:=p1 }],vararg:=none,kwonlyargs:=[],kw_defaults:=[],kwarg:=some { arg:=pd,annotation:=none,pos:=p2 },defaults:=[] }
def newDct:Sem Addr:=alloc ({ cls:=.type "dict",data:=.dict #[] }:Obj)
def bindK (sn pd:Str) (u:Value) (kw:List (Str×Value)):Sem (List (Str×Value)):=newDct >>= fun d=>(match kw with
  | []=>pure ()
  | [(k1,v1)]=>nsSet d k1 v1
  | [(k1,v1),(k2,v2)]=>nsSet d k1 v1 >>= fun _=>nsSet d k2 v2
  | _=>pure ()) >>= fun _=>pure [(sn,u),(pd,.ref d)]
theorem bind_dict {name qual sn pd:Str} {p1 p2:Pos} {bd:List Stmt} {sc:Scope} {kV doc pm cdv ct:Value} {an:Option Addr} (u:Value) (kw:List (Str×Value)) (hl:kw.length≤2) (hn:∀ p∈kw,p.1 ≠ sn) :
    bindArgs (PySem.W.fnOf name qual (kwA sn pd p1 p2) bd sc .none kV doc pm an cdv ct) ⟨[u],kw⟩=bindK sn pd u kw:=by
  have e0:seqItems? Value.none=pure none:=rfl
  have z:sizeLine=16777216:=sizeLine_eq
  match kw,hl,hn with
  | [],_,_ =>
    unfold bindArgs PySem.W.fnOf kwA bindK newDct
    simp [List.lookup,e0,z]
  | [(k1,v1)],_,hn =>
    have e1:(k1 == sn)=false:=beq_eq_false_iff_ne.mpr (hn (k1,v1) (by simp))
    unfold bindArgs PySem.W.fnOf kwA bindK newDct
    have n1:¬ k1=sn:=hn (k1,v1) (by simp)
    simp [List.lookup,e0,e1,z,n1]
  | [(k1,v1),(k2,v2)],_,hn =>
    have e1:(k1 == sn)=false:=beq_eq_false_iff_ne.mpr (hn (k1,v1) (by simp))
    have e2:(k2 == sn)=false:=beq_eq_false_iff_ne.mpr (hn (k2,v2) (by simp))
    unfold bindArgs PySem.W.fnOf kwA bindK newDct
    have n1:¬ k1=sn:=hn (k1,v1) (by simp)
    have n2:¬ k2=sn:=hn (k2,v2) (by simp)
    simp [List.lookup,e0,e1,e2,z,n1,n2]
section
variable {P:Program} {w:World} {K:PySem.W.Frag} {mg:Str→Option Value} {base:Heap} {A:Around} {outer:List Env} {s:Shared} {H:Hp}
theorem env0_put {h':Heap} {t':Nat} {d:Addr} {u:HO} (e0:Env0 P w K mg base A outer s H) (kp:∀ b x,s.heap.get? b=some x→h'.get? b=some x) (hd:s.heap.objs.size≤d) (hs:∃ o,h'.get? d=some o) (new:ObjOk P w (upd H d u) h' d u) :
    Env0 P w K mg base A outer { s with heap:=h',toks:=t' } (upd H d u):=by
  refine ⟨e0.frames,e0.mod,fun b x e=>⟨kp b x (e0.bs b x e).1,?_⟩,?_,Heap.FunFrames.of_keeps (fun b x e _=>⟨x,kp b x e,rfl⟩) e0.funs,fun b hb=>?_,e0.hok.laid kp hd new,e0.bare⟩
  · rw [upd_ne (Nat.ne_of_lt (Nat.lt_of_lt_of_le (Heap.lt_size (e0.bs b x e).1) hd))]
    exact (e0.bs b x e).2
  · obtain ⟨o,ho⟩:=hs
    exact Nat.le_trans e0.bsz (Nat.le_trans hd (Nat.le_of_lt (Heap.lt_size ho)))
  · obtain ⟨_,x,hx,_⟩:=e0.funs.mem hb
    rw [upd_ne (Nat.ne_of_lt (Nat.lt_of_lt_of_le (Heap.lt_size hx) hd))]
    exact e0.frf b hb
def kvW (ks:List Str) (vs:List V):List (Key×V):=ks.zipWith (fun k v=>(.inr k,v)) vs
theorem dct_of {h':Heap} {d:Addr} {es:Array DictEntry} {ep:Nat} (ho:h'.get? d=some ({ cls:=.type "dict",data:=.dict es ep }:Obj)) (hs:(d == sysModules)=false) :
    ∀ (ks:List Str) (us:List Value) (vs:List V),es.toList.map (·.val)=us→Vals vs us→(∃ ts:List Tok,es.toList.map (fun e=>(e.hash,e.key))=ks.zipWith (fun k t=>(hashStr w k,Value.str k t)) ts∧ts.length=ks.length)→ks.Nodup→us.length=ks.length→ks.length≤2 →
    ObjOk P w H h' d (.dK (kvW ks vs)):=by
  intro ks us vs e1 rv ⟨ts,e2,lt⟩ nd lu l2
  have lv:vs.length=us.length:=rv.length
  have le:es.toList.length=us.length:=by rw [← e1,List.length_map]
  match ks,us,vs,ts,lu,lv,lt,l2 with
  | [],[],[],[],_,_,_,_ =>
    have ee:es = #[]:=by
      apply Array.ext'
      simpa using le
    subst ee
    exact dk_new (by simp [kvW]) hs .nil ⟨_,#[],ep,ho,⟨rfl,rfl,rfl⟩,rfl,fun _ he=>by simp at he,Pairs.nil,List.nodup_nil⟩
  | [k],[u],[v],[t],_,_,_,_ =>
    obtain ⟨a,ee⟩:∃ a,es.toList=[a]:=List.length_eq_one_iff.mp le
    rw [ee] at e1 e2
    simp only [List.map_cons,List.map_nil,List.zipWith_cons_cons,List.zipWith_nil_left,List.cons.injEq,and_true,Prod.mk.injEq] at e1 e2
    cases rv with
    | cons r1 rr =>
      refine dk_new (vs:=[(.inr k,u)]) (by rw [sizeLine_eq]; simp [kvW]) hs (.cons ⟨rfl,r1⟩ .nil) ⟨_,es,ep,ho,⟨rfl,rfl,rfl⟩,rfl,fun e he=>?_,?_,by simp⟩
      · have:e∈es.toList:=Array.mem_toList_iff.mpr he
        rw [ee,List.mem_singleton] at this
        subst this
        exact ⟨.inr k,by rw [e2.2]; exact keyIs_str k t,e2.1⟩
      · rw [ee]
        exact .cons (by rw [e2.2]; exact keyIs_str k t) e1 .nil
  | [k,k'],[u,u'],[v,v'],[t,t'],_,_,_,_ =>
    obtain ⟨a,b,ee⟩:∃ a b,es.toList=[a,b]:=by
      generalize es.toList=L at le
      match L,le with
      | [a,b],_=>exact ⟨a,b,rfl⟩
    rw [ee] at e1 e2
    simp only [List.map_cons,List.map_nil,List.zipWith_cons_cons,List.zipWith_nil_left,List.cons.injEq,and_true,Prod.mk.injEq] at e1 e2
    cases rv with
    | cons r1 rr =>
      cases rr with
      | cons r2 rr =>
        refine dk_new (vs:=[(.inr k,u),(.inr k',u')]) (by rw [sizeLine_eq]; simp [kvW]) hs (.cons ⟨rfl,r1⟩ (.cons ⟨rfl,r2⟩ .nil)) ⟨_,es,ep,ho,⟨rfl,rfl,rfl⟩,rfl,fun e he=>?_,?_,?_⟩
        · have:e∈es.toList:=Array.mem_toList_iff.mpr he
          rw [ee] at this
          rcases List.mem_cons.mp this with z | z
          · rw [z]
            exact ⟨.inr k,by rw [e2.1.2]; exact keyIs_str k t,e2.1.1⟩
          · rw [List.mem_singleton.mp z]
            exact ⟨.inr k',by rw [e2.2.2]; exact keyIs_str k' t',e2.2.1⟩
        · rw [ee]
          exact .cons (by rw [e2.1.2]; exact keyIs_str k t) e1.1 (.cons (by rw [e2.2.2]; exact keyIs_str k' t') e1.2 .nil)
        · have ne:k ≠ k':=fun z=>by
            rw [z] at nd
            simp at nd
          simp [ne]
def FnKW (P:Program) (w:World) (K:PySem.W.Frag) (mg:Str→Option Value) (base:Heap) (k:Nat) (sn:Str) (f:Addr) (sp:Sp):Prop :=
  ∀ (A:Around) (outer:List Env) (s:Shared) (H:Hp) (u:Value) (x:V) (ks:List Str) (us:List Value) (vs:List V) (Q:VK) (E:XK),Room k A→Env0 P w K mg base A outer s H→RelV x u→Vals vs us→us.length=ks.length→ks.Nodup→(∀ z∈ks,z ≠ sn)→ks.length≤2 →
    (∀ d o,H d=none→sp [x,.ref d] (upd H d (.frz o (.dK (kvW ks vs)))) Q E)→codeAny (model P w) A (.call (.ref f) ⟨[u],ks.zip us⟩) (CR (L2.CX P w) outer P w H s Q E) s
theorem fn_kw {k:Nat} {f:Addr} {name qual sn pd:Str} {p1 p2:Pos} {body:List Stmt} {scope:Scope} {kV doc pm cdv ct oc:Value} {an od:Option Addr} {osl:Array (Option Value)} {N:List Str} {sp:Sp}
    (lk:K.lookup f=some ⟨oc,od,.func (PySem.W.fnOf name qual (kwA sn pd p1 p2) body scope .none kV doc pm an cdv ct),osl⟩) (hcd:PySem.W.codeIn K cdv qual=true) (S:FnScope N [sn,pd] scope)
    (hbody:∀ (A:Around) (outer:List Env) (s:Shared) (H:Hp) (vs:List V) (Q:VK) (E:XK),Room k (A.deeper (envOfC qual scope s.heap.objs.size f cdv))→sp vs H Q E →
      ∃ t,PSs (cxOf (L2.CX P w) P w K mg base N qual scope f cdv A outer s H E) body t∧t { nx:=fun _ H'=>Q .non H',rt:=Q } (start N vs) H):FnKW P w K mg base (k + 1) sn f sp:=by
  intro A outer s H u x ks us vs Q E hr e0 rx rv lu nd hn l2 hsp
  have lv:vs.length=us.length:=rv.length
  have hfr:H s.heap.objs.size=Option.none:=e0.hok.fresh (Nat.le_refl _)
  have hsy:(s.heap.objs.size == sysModules)=false:=beq_eq_false_iff_ne.mpr (Nat.ne_of_gt (env0_big e0))
  refine run_bnd (ps:=[sn,pd]) lk hcd S hr e0 (G:=fun xs H2=>∃ d o,H d=Option.none∧xs=[x,.ref d]∧H2=upd H d (.frz o (.dK (kvW ks vs)))) (fun A' Ex Q' h=>?_) fun s2 H2 xs ⟨d,o,hd,ex,eH⟩ hr'=>?_
  · rw [bind_dict u (ks.zip us) (by rw [List.length_zip]; omega) (fun p hp=>hn _ (List.of_mem_zip hp).1)]
    have fin:∀ (h':Heap) (t':Nat) (es:Array DictEntry) (ep:Nat),(∀ b o,s.heap.get? b=some o→h'.get? b=some o)→h'.get? s.heap.objs.size=some ({ cls:=.type "dict",data:=.dict es ep }:Obj)→es.toList.map (·.val)=us →
        (∃ ts:List Tok,es.toList.map (fun e=>(e.hash,e.key))=ks.zipWith (fun k t=>(hashStr w k,Value.str k t)) ts∧ts.length=ks.length)→Q' [(sn,u),(pd,.ref s.heap.objs.size)] { s with heap:=h',toks:=t' }:=fun h' t' es ep kp g e1 e2=>by
      let o:Obj:={ cls:=.type "dict",data:=.dict es ep }
      have new0:=dct_of (P:=P) (w:=w) (H:=upd H s.heap.objs.size (.frz o (.dK (kvW ks vs)))) g hsy ks us vs e1 rv e2 nd lu l2
      have new:ObjOk P w (upd H s.heap.objs.size (.frz o (.dK (kvW ks vs)))) h' s.heap.objs.size (.frz o (.dK (kvW ks vs))):=⟨g,new0⟩
      have un:Un (frs outer) [] H (upd H s.heap.objs.size (.frz o (.dK (kvW ks vs)))) s.heap h':=Un.laid kp (Nat.le_refl _) hfr
      exact h { s with heap:=h',toks:=t' } _ [x,.ref s.heap.objs.size] [u,.ref s.heap.objs.size] (env0_put e0 kp (Nat.le_refl _) ⟨_,g⟩ new) un rfl (fun e s'=>cxUp outer s H _ _ E e s' un kp rfl) (.cons rx (.cons rfl .nil)) rfl ⟨_,_,hfr,rfl,rfl⟩
    have kp0:∀ b o,s.heap.get? b=some o→(s.heap.push ({ cls:=.type "dict",data:=.dict #[] }:Obj)).get? b=some o:=fun b o e=>Heap.get?_push_of_some _ e
    have g0:(s.heap.push ({ cls:=.type "dict",data:=.dict #[] }:Obj)).get? s.heap.objs.size=some ({ cls:=.type "dict",data:=.dict #[] }:Obj):=Heap.get?_push_size _ rfl
    have kpS:∀ {h1 h2:Heap},(∀ b o,s.heap.get? b=some o→h1.get? b=some o)→Heap.SameBut s.heap.objs.size h1 h2→∀ b o,s.heap.get? b=some o→h2.get? b=some o:=fun k1 sb b o e=>(sb.2 b (Nat.ne_of_lt (Heap.lt_size e))).trans (k1 b o e)
    unfold bindK newDct
    refine wpAny_bind (wpAny_alloc ?_)
    match ks,us,lu,l2,nd,fin with
    | [],[],_,_,_,fin=>exact wpAny_bind (wpAny_pure (wpAny_pure (fin _ s.toks #[] _ kp0 g0 rfl ⟨[],rfl,rfl⟩)))
    | [k1],[u1],_,_,_,fin =>
      refine wpAny_bind (ns_put (s:={ s with heap:=_ }) g0 (fun e he=>by simp at he) fun h1 t1 t2 sb g1=>wpAny_pure ?_)
      exact fin h1 t2 _ _ (kpS kp0 sb) g1 rfl ⟨[t1],rfl,rfl⟩
    | [k1,k2],[u1,u2],_,_,nd,fin =>
      have ne:k1 ≠ k2:=fun z=>by
        rw [z] at nd
        simp at nd
      refine wpAny_bind (wpAny_bind (ns_put (s:={ s with heap:=_ }) g0 (fun e he=>by simp at he) fun h1 t1 t2 sb g1=>?_))
      refine ns_put (s:={ s with heap:=h1,toks:=t2 }) g1 (fun e he=>?_) fun h2 t3 t4 sb2 g2=>wpAny_pure ?_
      · have:e=⟨hashStr w k1,.str k1 t1,u1⟩:=by simpa using he
        rw [this]
        exact ⟨k1,t1,rfl,ne⟩
      · exact fin h2 t4 _ _ (kpS (kpS kp0 sb) sb2) g2 rfl ⟨[t1,t3],rfl,rfl⟩
  · subst ex eH
    exact hbody A outer s2 _ _ Q E hr' (hsp d o hd)
end
theorem FnKW.imp {P:Program} {w:World} {K:PySem.W.Frag} {mg:Str→Option Value} {base:Heap} {k:Nat} {sn:Str} {f:Addr} {sp sp':Sp} (G:FnKW P w K mg base k sn f sp) (h:∀ vs H Q E,sp' vs H Q E→sp vs H Q E):FnKW P w K mg base k sn f sp' :=
  fun A outer s H u x ks us vs Q E hr he rx rv lu nd hn l2 hs=>G A outer s H u x ks us vs Q E hr he rx rv lu nd hn l2 fun d o hd=>h _ _ _ _ (hs d o hd)
structure MDefW (K:PySem.W.Frag) (C:Addr) (m qual:Str) (st:Stmt) (sn pd:Str) (f:Addr) (fd:FuncData):Prop where
  fn:Fun K m qual st f fd
  me:Meth K C m f
  ar:∃ p1 p2,defArgs st=kwA sn pd p1 p2
section
variable {F:Fx}
theorem def_okW {P:Program} {w:World} {mg:Str→Option Value} {base:Heap} {k:Nat} {f:Addr} {fd:FuncData} {sn pd x qual:Str} {C:Addr} {st:Stmt} {N:List Str} {g:FS} (Df:MDefW F.K C x qual st sn pd f fd) (S:FnScope N [sn,pd] (defScope st))
    (hb:∀ (cdv:Value) (A:Around) (outer:List Env) (s:Shared) (H:Hp) (E:XK),Room k (A.deeper (envOfC qual (defScope st) s.heap.objs.size f cdv)) →
      PSs (cxOf (L2.CX P w) P w F.K mg base N qual (defScope st) f cdv A outer s H E) (defBody st) (tS F (fun cls d _ H=>E cls d H) g)) :
    FnKW P w F.K mg base (k + 1) sn f (spF F 2 (bodyF N.length g)):=by
  obtain ⟨oc,od,kV,doc,pm,an,cdv,ct,osl,rfl,lk,hcd⟩:=Df.fn.ex
  obtain ⟨p1,p2,ea⟩:=Df.ar
  rw [ea] at lk
  refine fn_kw (sp:=spF F 2 (bodyF N.length g)) lk hcd S fun A outer s H vs Q E hr hsp=>⟨_,hb cdv A outer s H E hr,?_⟩
  obtain ⟨hl,B,ι,S0,ws,rs,rw,c⟩:=hsp
  have hlw:ws.length=vs.length:=Paired.length rw
  refine ⟨B,ι,ws.map some ++ List.replicate (N.length - ws.length) none,S0,⟨rs,?_⟩,?_⟩
  · unfold L2.start
    rw [hlw]
    exact start_rel _ rw
  · unfold bodyF at c
    revert c
    cases g (ws.map some ++ List.replicate (N.length - ws.length) none) S0 with
    | nx ρ S1=>exact fun c ι' H' σ' x r=>c ι' H' .non x r.toRelS .non
    | rt w S1=>exact fun c ι' H' v x r rv=>c ι' H' v x r rv
    | exn cc d ρ S1=>exact fun c ι' H' σ' cv od x r rx=>c ι' H' cv od x r.toRelS rx
    | bk _ _=>exact fun c=>(show False from c).elim
    | ct _ _=>exact fun c=>(show False from c).elim
    | err=>exact fun c=>(show False from c).elim
def kwD (ks:List Str) (ds:List D):D:=.dkf (ks.zipWith (fun k d=>(.str k,d)) ds)
def fMtdW (c:Nat) (m:Str) (ks:List Str) (ff:FF) (fo:FE) (fk:FA):FE:=fun ρ S=>(fo ρ S).bind fun w S1=>if isIns c m w S1=true then (fk ρ S1).bind fun zs S2=>(match dats zs with
  | some ds=>if ds.length=ks.length then ff [w,.d (kwD ks ds)] S2 else .err
  | none=>.err) else .err
theorem kw_rep {H:Hp} {B:List Addr} {ι:Ads}:∀ {ks:List Str} {ds:List D} {vs:List V},RDs F H B ι ds vs→RepK F.K F.cls H (B ++ flat ι) (ks.zipWith (fun k d=>(D.str k,d)) ds) (kvW ks vs)
  | [],_,_,_=>by simp only [List.zipWith_nil_left,kvW]; exact .nil
  | k :: ks,_,_,.nil=>by simp only [List.zipWith_nil_right,kvW]; exact .nil
  | k :: ks,_,_,.cons r t=>by
    simp only [List.zipWith_cons_cons,kvW]
    exact .str r (kw_rep t)
variable {X:Cx} {Wsh:WX} {o:Expr} {kws:List Keyword} {fo:FE} {fa:FA} {pos apos:Pos} {c:Nat} {m:Str}
theorem kw_run {k j:Nat} {f0:Addr} {ff:FF} {sn:Str} (G:FnKW X.prog X.w X.K X.mg X.base k sn f0 (spF F 2 ff)) (hr:Room j X.A) (hjk:k≤j) (tk:Takes X Wsh) {pins:List (Addr×Obj)} {σ:L2.St} {H:Hp} {s:Shared} {u:Value} {x:V} {ks:List Str} {us:List Value} {vs:List V} {Q:VK}
    (I:Inv X pins σ H s) (rx:RelV x u) (r:Vals vs us) (lu:us.length=ks.length) (nd:ks.Nodup) (hn:∀ z∈ks,z ≠ sn) (l2:ks.length≤2) (q:∀ d o,H d=none→spF F 2 ff [x,.ref d] (upd H d (.frz o (.dK (kvW ks vs)))) Q (WE Wsh σ)) :
    wpAny (model X.prog X.w) X.A (call (.ref f0) [u] (ks.zip us)) (EP X pins σ Q) X.xe s:=by
  refine wpAny_call (codeAny_mono (G X.A X.stack s H u x ks us vs Q (WE Wsh σ) (hr.mono hjk) I.env0 rx r lu nd hn l2 q) fun r s' hq=>?_)
  cases r with
  | error ex=>exact passAt tk σ pins H s ex s' I hq
  | ok fl =>
    cases fl with
    | ret u=>exact I.after hq
    | next=>exact (show False from hq).elim
    | brk=>exact (show False from hq).elim
    | cont=>exact (show False from hq).elim
theorem r_mtdW {k j:Nat} {f0:Addr} {ff:FF} {sn:Str} {ks:List Str} {pl:Sem Bool} (hK:X.K=F.K) (hc:Cls F.K (F.cls c)) (hm:Meth F.K (F.cls c) m f0) (G:FnKW X.prog X.w X.K X.mg X.base k sn f0 (spF F 2 ff)) (hr:Room j X.A) (tk:Takes X Wsh)
    (ho:PE X o (tR F Wsh fo)) (hkw:PK X kws (tRA F Wsh fa)) (nd:ks.Nodup) (hn:∀ z∈ks,z ≠ sn) (l2:ks.length≤2) (hjk:k≤j:=by first | decide | omega)
    (hall:(backToKw pos (keywordEach kws X.env)).all (·.1.isSome)=true:=by rfl) (hks:(backToKw pos (keywordEach kws X.env)).filterMap (·.1)=ks:=by rfl)
    (hpl:((backTo pos (starEach [] X.env)).any (·.1) || (backToKw pos (keywordEach kws X.env)).any (·.1.isNone))=false:=by rfl)
    (ht:eval (.Call (.Attribute o m apos) [] kws pos) X.env=(do
      let ov ← eval o X.env
      standAt apos.atName
      let (f,first) ← holding [ov] (getMethod ov m pl)
      callWith pos f first (backTo pos (starEach [] X.env)) (backToKw pos (keywordEach kws X.env))):=by rfl) :
    PE X (.Call (.Attribute o m apos) [] kws pos) (tR F Wsh (fMtdW c m ks ff fo fa)):=by
  refine ⟨fun pins s σ H Q I h=>?_⟩
  obtain ⟨B,ι,ρ,S,rl,c0⟩:=h
  refine PySem.W.methodCall_KW (pl:=pl) (thn (ho.run pins s σ H (fun x H1=>∃ a dx fs,x=.ref a∧H1 a=some (.ins (F.cls c) dx fs)∧fs.lookup m=none∧tRA F Wsh fa σ H1 fun vs H2=>vs.length=ks.length∧∀ d o,H2 d=none→spF F 2 ff [x,.ref d] (upd H2 d (.frz o (.dK (kvW ks vs)))) Q (WE Wsh σ)) I (tR_step rl c0 fun w v S1 ι1 H1 x1 rl1 rv c1=>?_)) fun u s1 hh=>?_) ht
  · split at c1
    · rename_i hi
      obtain ⟨a,dx,fs,rfl,h1,h2⟩:=isIns_at rl1.toRelS rv hi
      refine ⟨a,dx,fs,rfl,h1,h2,⟨B,ι1,ρ,S1,rl1,c1.bind.mono fun ws S2 ι2 H2 ef x2 rl2 c2 vs rvs=>?_⟩⟩
      split at c2
      · rename_i ds hds
        split at c2
        · rename_i hlen
          have rd:=dats_reps hds rvs
          refine ⟨by rw [← reps_len rd]; exact hlen,fun d o hd=>?_⟩
          have x3:Ext ι2 H2 ι2 (upd H2 d (.frz o (.dK (kvW ks vs)))):=Ext.new hd
          have fd:d ∉ B ++ flat ι2:=fun z=>rl2.fresh hd z
          have rl3:=rl2.new (o:=.frz o (.dK (kvW ks vs))) hd nt_frz
          have rw1:RW F (upd H2 d (.frz o (.dK (kvW ks vs)))) B ι2 w (.ref a):=RW.ext (x2.trans x3) rv
          have rw2:RW F (upd H2 d (.frz o (.dK (kvW ks vs)))) B ι2 (.d (kwD ks ds)) (.ref d):=Rep.dkf fd upd_same (kw_rep (Reps.ext x3 rd))
          exact ⟨rfl,B,ι2,S2,[w,.d (kwD ks ds)],rl3.toRelS,.cons rw1 (.cons rw2 .nil),ccont_of rl3 (c2.ext x3)⟩
        · exact (show False from c2).elim
      · exact (show False from c2).elim
    · exact (show False from c1).elim
  · obtain ⟨x,H1,I1,rx,a,dx,fs,rfl,ea,l,q⟩:=hh
    obtain rfl:u=Value.ref a:=rx
    refine getmeth_ok I1 ea (by rw [hK]; exact hc) (by rw [hK]; exact hm) l ?_
    refine PySem.W.callWith_KW0 (first:=[.ref a]) (h₀:=X.base) I.ok.mod.kin (by rw [hK]; exact hm.kp) hall (thn (hkw.run pos pins s1 σ H1 _ I1 q) fun us s2 ⟨vs,H2,I2,r,lv,q2⟩=>⟨I2.kIn,?_⟩) hpl
    rw [hks]
    exact kw_run G hr hjk tk I2 (u:=.ref a) (x:=.ref a) rfl r (r.length.symm.trans lv) nd hn l2 q2
end
end Ev
namespace Ev
open PySem PySem.Spec L2
section
variable {F:Fx}
def keyData:Key→D
  | .inl i=>.int i
  | .inr z=>.str z
theorem key_rd {H:Hp} {B:List Addr} {ι:Ads} (k:Key):RD F H B ι (keyData k) (kV k):=by
  cases k with
  | inl i=>exact .int i
  | inr z=>exact .str z
end
end Ev
namespace Ev
open PySem PySem.Spec L2
mutual
theorem nkD_inj:∀ {a b:D},nkOk a=true→nkOk b=true→nkD a=nkD b→a=b
  | .non,b,_,hb,h=>by
    cases b <;> simp [nkD,nkOk] at h hb
    rfl
  | .int i,b,_,hb,h=>by
    cases b <;> simp [nkD,nkOk] at h hb
    rw [h]
  | .str x,b,_,hb,h=>by
    cases b <;> simp [nkD,nkOk] at h hb
    rw [h]
  | .tup xs,b,ha,hb,h=>by
    cases b with
    | tup ys =>
      simp only [nkD,NestedKey.tup.injEq] at h
      rw [nkDs_inj (by simpa [nkOk] using ha) (by simpa [nkOk] using hb) h]
    | _=>simp [nkD,nkOk] at h hb
  | .bl _,_,h,_,_=>by simp [nkOk] at h
  | .lst _,_,h,_,_=>by simp [nkOk] at h
  | .dct _,_,h,_,_=>by simp [nkOk] at h
  | .ins _ _,_,h,_,_=>by simp [nkOk] at h
  | .scr _,_,h,_,_=>by simp [nkOk] at h
  | .ftp _,_,h,_,_=>by simp [nkOk] at h
  | .cls _,_,h,_,_=>by simp [nkOk] at h
  | .kdc _,_,h,_,_=>by simp [nkOk] at h
  | .exi _ _ _,_,h,_,_=>by simp [nkOk] at h
  | .dkf _,_,h,_,_=>by simp [nkOk] at h
theorem nkDs_inj:∀ {a b:List D},nkOks a=true→nkOks b=true→nkDs a=nkDs b→a=b
  | [],[],_,_,_=>rfl
  | [],_ :: _,_,_,h=>by simp [nkDs] at h
  | _ :: _,[],_,_,h=>by simp [nkDs] at h
  | x :: xs,y :: ys,ha,hb,h=>by
    simp only [nkOks,Bool.and_eq_true] at ha hb
    simp only [nkDs,List.cons.injEq] at h
    rw [nkD_inj ha.1 hb.1 h.1,nkDs_inj ha.2 hb.2 h.2]
end
section
variable {X:Cx} {pins:List (Addr×Obj)} {σ:L2.St} {H:Hp} {s:Shared} {F:Fx} {ex:List Addr}
mutual
theorem rep_nest (I:L2.Inv X pins σ H s) (hK:X.K=F.K):∀ {d:D} {v:V} {u:Value},nkOk d=true→Rep F.K F.cls H ex d v→RelV v u→NestedIs s.heap (nkD d) u
  | _,_,_,_,.non,r=>by cases r; simp only [nkD]; exact .none
  | _,_,_,_,.int i,r=>by obtain ⟨t,rfl⟩:=r; simp only [nkD]; exact .int i t
  | _,_,_,_,.str i,r=>by obtain ⟨t,rfl⟩:=r; simp only [nkD]; exact .text i t
  | .tup ds,_,_,f,.tup n h rr,r=>by
    cases r
    obtain ⟨its,rv,⟨o,ho,hc,m,hd⟩,_⟩:=I.tuple (SqT.of h)
    simp only [nkD]
    exact .tup ho hc hd (reps_nest I hK (by simpa [nkOk] using f) rr rv)
  | .tup ds,_,_,f,.tupK h1 h2 h3 h4 h5 rr,r=>by
    cases r
    obtain ⟨its,rv,⟨o,ho,hc,m,hd⟩,_⟩:=I.tuple (xs:=_) (by rw [hK]; exact .inr ⟨_,_,_,h1,h2,h3,h4,h5⟩)
    simp only [nkD]
    exact .tup ho hc hd (reps_nest I hK (by simpa [nkOk] using f) rr rv)
  | .tup ds,_,_,f,.tupF n h rr,r=>by
    cases r
    obtain ⟨its,rv,⟨o,ho,hc,m,hd⟩,_⟩:=I.tuple (.inl (.inr ⟨_,h⟩))
    simp only [nkD]
    exact .tup ho hc hd (reps_nest I hK (by simpa [nkOk] using f) rr rv)
  | _,_,_,f,.bl _,_=>by simp [nkOk] at f
  | _,_,_,f,.lst _ _ _,_=>by simp [nkOk] at f
  | _,_,_,f,.dK _ _ _,_=>by simp [nkOk] at f
  | _,_,_,f,.ins _ _ _,_=>by simp [nkOk] at f
  | _,_,_,f,.scr _ _ _,_=>by simp [nkOk] at f
  | _,_,_,f,.scrK _ _ _ _ _ _,_=>by simp [nkOk] at f
  | _,_,_,f,.ftp _ _ _ _,_=>by simp [nkOk] at f
  | _,_,_,f,.cls _,_=>by simp [nkOk] at f
  | _,_,_,f,.kdc _ _ _,_=>by simp [nkOk] at f
  | _,_,_,f,.exi _ _ _ _ _,_=>by simp [nkOk] at f
  | _,_,_,f,.dkf _ _ _,_=>by simp [nkOk] at f
theorem reps_nest (I:L2.Inv X pins σ H s) (hK:X.K=F.K):∀ {ds:List D} {vs:List V} {us:List Value},nkOks ds=true→Reps F.K F.cls H ex ds vs→Vals vs us→NestedAll s.heap (nkDs ds) us
  | _,_,_,_,.nil,r=>by cases r; simp only [nkDs]; exact .nil
  | _,_,_,f,.cons h t,r=>by
    cases r with
    | cons r1 r2 =>
      have f':=Bool.and_eq_true_iff.mp (by simpa [nkOks] using f)
      simp only [nkDs]
      exact .cons (rep_nest I hK f'.1 h r1) (reps_nest I hK f'.2 t r2)
end
end
section
variable {X:Cx} {pins:List (Addr×Obj)} {σ:L2.St} {H:Hp} {s:Shared} {F:Fx} {B:List Addr} {ι:Ads}
end
section
variable {F:Fx} {H:Hp} {B:List Addr} {ι:Ads}
end
section
variable {X:Cx} {F:Fx} {Wsh:WX} {o i e a:Expr} {f g h:FE} {fa:FA} {pos pos' p2 p apos cpos:Pos}
theorem RWN.updE {H:Hp} {B:List Addr} {ι:Ads} {A:Addr} {u:HO} (x:A∈B ++ flat ι) (nx:¬ ∃ fs,H A=some (.xd fs)) (n2:NoC H A) {ws:List (D×W)} {xs:List KEnt} (r:RWN F H B ι ws xs):RWN F (upd H A u) B ι ws xs :=
  pImp (fun _ _ q=>⟨q.1,q.2.1,Rep.updE x q.2.2.1,q.2.2.2.elim fun v t=>⟨v,t.1,RW.updE x nx n2 t.2⟩⟩) r
end
end Ev
namespace Ev
open PySem PySem.Spec PyProof.Rows L2
section
variable {X:Cx} {F:Fx} {Wsh:WX} {tg e o i f':Expr} {f g h:FE} {apos cpos pos:Pos} {elts:List Expr} {kk:Nat} {tpos:Pos}
theorem repK_len {K:PySem.W.Frag} {cls:Cl} {H:Hp} {ex:List Addr}:∀ {ds:List (D×D)} {kvs:List (Key×V)},RepK K cls H ex ds kvs→ds.length=kvs.length
  | _,_,.nil=>rfl
  | _,_,.int _ t=>by simp [repK_len t]
  | _,_,.str _ t=>by simp [repK_len t]
theorem repK_at {K:PySem.W.Frag} {cls:Cl} {H:Hp} {ex:List Addr}:∀ {ds:List (D×D)} {kvs:List (Key×V)} {j:Nat} {k:Key} {v:V},RepK K cls H ex ds kvs→kvs[j]? = some (k,v)→∃ d,ds[j]? = some (keyData k,d)∧Rep K cls H ex d v
  | _,_,_,_,_,.nil,e=>by simp at e
  | _,_,0,_,_,.int r t,e=>by
    simp only [List.getElem?_cons_zero,Option.some.injEq,Prod.mk.injEq] at e
    obtain ⟨rfl,rfl⟩:=e
    exact ⟨_,rfl,r⟩
  | _,_,0,_,_,.str r t,e=>by
    simp only [List.getElem?_cons_zero,Option.some.injEq,Prod.mk.injEq] at e
    obtain ⟨rfl,rfl⟩:=e
    exact ⟨_,rfl,r⟩
  | _,_,j + 1,_,_,.int r t,e=>by
    simp only [List.getElem?_cons_succ] at e ⊢
    exact repK_at t e
  | _,_,j + 1,_,_,.str r t,e=>by
    simp only [List.getElem?_cons_succ] at e ⊢
    exact repK_at t e
theorem walkD_dk {B:List Addr} {ι:Ads} {H:Hp} {a:Addr} {o:Obj} {kvs:List (Key×V)} {ds:List (D×D)} (n:a ∉ B ++ flat ι) (h:H a=some (.frz o (.dK kvs))) (r:RepK F.K F.cls H (B ++ flat ι) ds kvs):WalkD F B ι H (Itk a o kvs) (ds.map (·.1)):=by
  have hl:(ds.map (·.1)).length=kvs.length:=by rw [List.length_map]; exact repK_len r
  refine ⟨fun H'=>H' a=some (.frz o (.dK kvs)),fun i H' x H2=>H2=H'∧∃ k v,kvs[i]? = some (k,v)∧x=kV k,⟨fun i H' hi g=>⟨g,by rw [← hl]; exact hi⟩,fun H' g=>⟨g,by rw [hl]; exact Nat.le_refl _⟩,fun i H' x H2 hi g y=>y⟩,fun ι' H' x=>x.keep _ _ n h nt_frz,fun i B' ι' H' S' x H2 hi ex hB rl y=>?_⟩
  obtain ⟨rfl,k,v,e1,rfl⟩:=y
  obtain ⟨d,e2,_⟩:=repK_at r e1
  exact ⟨.inl rfl,keyData k,by rw [List.getElem?_map,e2]; rfl,key_rd k⟩
def iDfK (f:FE):FI:=fun ρ S=>(f ρ S).bind fun w S1=>match w with
  | .d (.dkf ds)=>.ok (ds.map (·.1)) S1
  | _=>.err
theorem ri_dfk (he:PE X e (tR F Wsh f)):PI X tg e (tRI F Wsh (iDfK f)):=piImp (pi_keys he) fun σ H Q ⟨B,ι,ρ,S,rl,c⟩=>by
  refine tR_step rl c fun w v S1 ι1 H1 x1 rl1 rv c1=>?_
  split at c1
  · cases (show Rep F.K F.cls H1 (B ++ flat ι1) _ v from rv) with
    | dkf n h r=>exact ⟨_,_,rfl,.inl ⟨_,h,c1.here rl1 _ (walkD_dk n h r)⟩⟩
  · exact (show False from c1).elim
theorem walkD_dki {B:List Addr} {ι:Ads} {H:Hp} {a:Addr} {o:Obj} {kvs:List (Key×V)} {ds:List (D×D)} (n:a ∉ B ++ flat ι) (h:H a=some (.frz o (.dK kvs))) (r:RepK F.K F.cls H (B ++ flat ι) ds kvs):WalkD F B ι H (Iti a o kvs) (ds.map fun p=>D.tup [p.1,p.2]):=by
  have hl:(ds.map fun p=>D.tup [p.1,p.2]).length=kvs.length:=by rw [List.length_map]; exact repK_len r
  refine ⟨fun H'=>H' a=some (.frz o (.dK kvs)),fun i H' x H2=>∃ T k v,kvs[i]? = some (k,v)∧x=V.ref T∧H' T=none∧H2=upd H' T (.tup [kV k,v]),⟨fun i H' hi g=>⟨g,by rw [← hl]; exact hi⟩,fun H' g=>⟨g,by rw [hl]; exact Nat.le_refl _⟩,fun i H' x H2 hi g y=>y⟩,fun ι' H' x=>x.keep _ _ n h nt_frz,fun i B' ι' H' S' x H2 hi ex hB rl y=>?_⟩
  obtain ⟨T,k,v,e1,rfl,hT,rfl⟩:=y
  obtain ⟨d,e2,r2⟩:=repK_at r e1
  refine ⟨.inr ⟨T,_,hT,rfl⟩,.tup [keyData k,d],by rw [List.getElem?_map,e2]; rfl,?_⟩
  have x2:Ext ι' H' ι' (upd H' T (.tup [kV k,v])):=Ext.new hT
  have f1:Rep F.K F.cls H' (B' ++ flat ι') d v:=Rep.extW ex (Rep.sub (subB hB) r2)
  exact .tup (rl.fresh hT) upd_same (.cons (key_rd k) (.cons (Rep.ext x2 f1) .nil))
def iDfI (f:FE):FI:=fun ρ S=>(f ρ S).bind fun w S1=>match w with
  | .d (.dkf ds)=>.ok (ds.map fun p=>D.tup [p.1,p.2]) S1
  | _=>.err
theorem ri_dfi (he:PE X e (tR F Wsh f)) (hbase:attributeBase e "items" X.env (eval e X.env)=eval e X.env:=by rfl) (hline:(apos.endLine == cpos.line)=true:=by rfl) :
    PI X (.Tuple elts kk tpos) (.Call (.Attribute e "items" apos) [] [] cpos) (tRI F Wsh (iDfI f)):=piImp (pi_items he hbase hline) fun σ H Q ⟨B,ι,ρ,S,rl,c⟩=>by
  refine tR_step rl c fun w v S1 ι1 H1 x1 rl1 rv c1=>?_
  split at c1
  · cases (show Rep F.K F.cls H1 (B ++ flat ι1) _ v from rv) with
    | dkf n h r=>exact ⟨_,_,_,rfl,h,c1.here rl1 _ (walkD_dki n h r)⟩
  · exact (show False from c1).elim
def valF:List (D×D)→D→Option D
  | [],_=>none
  | (.int i,d) :: r,.int j=>if i=j then some d else valF r (.int j)
  | (.str x,d) :: r,.str y=>if x=y then some d else valF r (.str y)
  | _ :: r,k=>valF r k
theorem valV_hd {k:Key} {v:V} {r:List (Key×V)}:valV ((k,v) :: r) k=some v:=by simp [valV]
theorem valV_tl {k k':Key} {v:V} {r:List (Key×V)} (h:k' ≠ k):valV ((k',v) :: r) k=valV r k:=by simp [valV,h]
theorem valF_rel {K:PySem.W.Frag} {cls:Cl} {H:Hp} {ex:List Addr} (k:Key):∀ {ds:List (D×D)} {kvs:List (Key×V)},RepK K cls H ex ds kvs→(match valF ds (keyData k) with
    | none=>valV kvs k=none
    | some d=>∃ v,valV kvs k=some v∧Rep K cls H ex d v)
  | _,_,.nil=>by
    cases k <;> simp [valF,keyData,valV]
  | _,_,.int (i:=i) r t=>by
    have ih:=valF_rel k t
    cases k with
    | inl j =>
      by_cases h:i=j
      · subst h
        simp only [keyData,valF,if_true]
        exact ⟨_,valV_hd,r⟩
      · simp only [keyData,valF,if_neg h] at ih ⊢
        rw [valV_tl (fun z=>h (Sum.inl.inj z))]
        exact ih
    | inr y =>
      simp only [keyData,valF] at ih ⊢
      rw [valV_tl (fun z=>by cases z)]
      exact ih
  | _,_,.str (x:=x) r t=>by
    have ih:=valF_rel k t
    cases k with
    | inl j =>
      simp only [keyData,valF] at ih ⊢
      rw [valV_tl (fun z=>by cases z)]
      exact ih
    | inr y =>
      by_cases h:x=y
      · subst h
        simp only [keyData,valF,if_true]
        exact ⟨_,valV_hd,r⟩
      · simp only [keyData,valF,if_neg h] at ih ⊢
        rw [valV_tl (fun z=>h (Sum.inr.inj z))]
        exact ih
def keyOfD:D→Option Key
  | .int i=>some (.inl i)
  | .str z=>some (.inr z)
  | _=>none
theorem keyOfD_rep {H:Hp} {B:List Addr} {ι:Ads} {d:D} {k:Key} {v:V} (e:keyOfD d=some k) (r:RD F H B ι d v):v=kV k∧d=keyData k:=by
  cases d with
  | int i =>
    cases e
    cases r
    exact ⟨rfl,rfl⟩
  | str z =>
    cases e
    cases r
    exact ⟨rfl,rfl⟩
  | _=>cases e
def fDfGet2 (f g h:FE):FE:=fun ρ S=>(f ρ S).bind fun x S1=>match x with
  | .d (.dkf ds)=>(g ρ S1).bind fun y S2=>(h ρ S2).bind fun z S3=>(match y,z with
    | .d y,.d z=>(match keyOfD y with
      | some _=>.ok (.d ((valF ds y).getD z)) S3
      | none=>.err)
    | _,_=>.err)
  | _=>.err
theorem r_dfget2 (hu:X.A.units + 1 < cLine) (ho:PE X o (tR F Wsh f)) (hi:PE X i (tR F Wsh g)) (hf:PE X f' (tR F Wsh h)) (m:M2 X o "get" apos i f' cpos:=by exact ⟨rfl,rfl,rfl,rfl⟩):PE X (.Call (.Attribute o "get" apos) [i,f'] [] cpos) (tR F Wsh (fDfGet2 f g h)) :=
  peImp (pe_dget2 hu ho hi hf m) fun σ H Q ⟨B,ι,ρ,S,rl,c⟩=>by
    refine tR_step rl c fun wx x S1 ι1 H1 x1 rl1 rx c1=>?_
    split at c1
    · rename_i ds
      have z0:RD F H1 B ι1 (.dkf ds) x:=rx
      cases z0 with
      | dkf n h0 r =>
        refine ⟨_,rfl,.inl ⟨_,.inr ⟨_,h0⟩⟩,tR_step rl1 c1 fun wy y S2 ι2 H2 x2 rl2 ry c2=>tR_step rl2 c2 fun wz z S3 ι3 H3 x3 rl3 rz c3=>?_⟩
        split at c3
        · rename_i dy dz
          split at c3
          · rename_i k hk
            obtain ⟨ey,ed⟩:=keyOfD_rep hk (show RD F H2 B ι2 dy y from ry)
            subst ey ed
            have z1:RD F H3 B ι3 (.dkf ds) _:=Rep.ext (x2.trans x3) (.dkf n h0 r)
            cases z1 with
            | dkf n2 h2 r2 =>
              have vr:=valF_rel k r2
              refine ⟨valV _ k,.inl ⟨_,k,.inr ⟨_,h2⟩,rfl,rfl⟩,?_⟩
              cases hd:valF ds (keyData k) with
              | none =>
                rw [hd] at vr c3
                rw [vr]
                exact c3.here rl3 _ rz
              | some d =>
                rw [hd] at vr c3
                obtain ⟨v,e1,e2⟩:=vr
                rw [e1]
                exact c3.here rl3 _ e2
          · exact (show False from c3).elim
        · exact (show False from c3).elim
    · exact (show False from c1).elim
end
end Ev
set_option maxHeartbeats 4000000
namespace K06
open PySem PySem.Spec L2 Ev
open PyProof.Rows (envOfC)
def top (i:Nat):Stmt:=PySem.Challenge.pw_midswitch_k06_requests_asked.main.body.getD i (.Pass ⟨0,0,0,0⟩)
abbrev st_is_among:Stmt:=top 13
abbrev N_is_among:List Str:=["thing","least","most"]
abbrev P_is_among:List Str:=["thing","least","most"]
abbrev st_is_name:Stmt:=top 14
abbrev N_is_name:List Str:=["thing","letter"]
abbrev P_is_name:List Str:=["thing"]
abbrev st_is_row:Stmt:=top 15
abbrev N_is_row:List Str:=["thing","many"]
abbrev P_is_row:List Str:=["thing","many"]
abbrev st_is_setting:Stmt:=top 16
abbrev N_is_setting:List Str:=["thing"]
abbrev P_is_setting:List Str:=["thing"]
abbrev st_names_of:Stmt:=top 17
abbrev N_names_of:List Str:=["settings","setting"]
abbrev P_names_of:List Str:=["settings"]
abbrev st_all_standings:Stmt:=top 18
abbrev N_all_standings:List Str:=["settings","found","name","most","row","value"]
abbrev P_all_standings:List Str:=["settings"]
abbrev st_need_settings:Stmt:=top 19
abbrev N_need_settings:List Str:=["thing","place","setting"]
abbrev P_need_settings:List Str:=["thing"]
abbrev st_is_place:Stmt:=top 27
abbrev N_is_place:List Str:=["settings","thing","many","most","number"]
abbrev P_is_place:List Str:=["settings","thing","many"]
abbrev st_need_places:Stmt:=top 28
abbrev N_need_places:List Str:=["settings","thing","number","place"]
abbrev P_need_places:List Str:=["settings","thing"]
abbrev st_need_modes:Stmt:=top 29
abbrev N_need_modes:List Str:=["settings","thing","place","mode"]
abbrev P_need_modes:List Str:=["settings","thing"]
abbrev st_Request___init__:Stmt:=inClass (top 31) 0
abbrev N_Request___init__:List Str:=["self","settings","places","modes","words"]
abbrev P_Request___init__:List Str:=["self","settings","places","modes"]
abbrev st_Request___len__:Stmt:=inClass (top 31) 2
abbrev N_Request___len__:List Str:=["self"]
abbrev P_Request___len__:List Str:=["self"]
abbrev st_Request___eq__:Stmt:=inClass (top 31) 3
abbrev N_Request___eq__:List Str:=["self","other"]
abbrev P_Request___eq__:List Str:=["self","other"]
abbrev st_Request_with_modes:Stmt:=inClass (top 31) 5
abbrev N_Request_with_modes:List Str:=["self","modes"]
abbrev P_Request_with_modes:List Str:=["self","modes"]
abbrev st_Request_keeping:Stmt:=inClass (top 31) 6
abbrev N_Request_keeping:List Str:=["self","modes","own","name","mode"]
abbrev P_Request_keeping:List Str:=["self","modes"]
abbrev st__law_begun:Stmt:=top 33
abbrev N__law_begun:List Str:=["script","cell"]
abbrev P__law_begun:List Str:=["script"]
abbrev st__law_next:Stmt:=top 34
abbrev N__law_next:List Str:=["m","many","rest","at","lot","cell","blend"]
abbrev P__law_next:List Str:=["m","many"]
abbrev st__law_names:Stmt:=top 35
abbrev N__law_names:List Str:=["m","many","letters","stem","k","at","first","by","word"]
abbrev P__law_names:List Str:=["m","many"]
abbrev st__law_settings:Stmt:=top 36
abbrev N__law_settings:List Str:=["m","mosts","some","name","most"]
abbrev P__law_settings:List Str:=["m"]
abbrev st__law_places:Stmt:=top 39
abbrev N__law_places:List Str:=["m","spots","most","many","words","found","back","at","way","near","low","word","name","bound","row","k"]
abbrev P__law_places:List Str:=["m","spots","most"]
abbrev st__law_modes:Stmt:=top 40
abbrev N__law_modes:List Str:=["m","spots","spot"]
abbrev P__law_modes:List Str:=["m","spots"]
abbrev st__law_told:Stmt:=top 41
abbrev N__law_told:List Str:=["call","one","e"]
abbrev P__law_told:List Str:=["call"]
abbrev st__law_kept_right:Stmt:=top 42
abbrev N__law_kept_right:List Str:=["m","spots","places","words","one","names","word","name","most","due","old","both","told"]
abbrev P__law_kept_right:List Str:=["m"]
abbrev st_law:Stmt:=top 43
abbrev N_law:List Str:=["script","m","turn","spots","places","words","more","far","one","two","thing","bad","due","bare"]
abbrev P_law:List Str:=["script"]
def s_is_among:FS:=(sRet (eAnd (fIsi .int (fVar 0)) (eAnd (eNot (fIsi .bl (fVar 0))) (fChain opLe opLe (fVar 1) (fVar 0) (fVar 2)))))
def F_is_among:FF:=called (bodyF 3 s_is_among)
def s_is_name:FS:=(sRet (eAnd (fIsi .str (fVar 0)) (eAnd (fChain opLe opLe (fC (.int 1)) (fCall opLen (fCons (fVar 0) fNil)) (fC (.int 8))) (fCall (op1 allD) (fCons (fLc (iStr (fVar 0)) (gN 1) tTrue (fBin opIn (fVar 1) (fC (.str "abcdefghijklmnopqrstuvwxyz"))) [1]) fNil)))))
def F_is_name:FF:=called (bodyF 2 s_is_name)
def s_is_row:FS:=(sRet (eAnd (fIsi .tup (fVar 0)) (fBin opEq (fCall opLen (fCons (fVar 0) fNil)) (fVar 1))))
def F_is_row:FF:=called (bodyF 2 s_is_row)
def s_is_setting:FS:=(sRet (eAnd (fApp F_is_row (fCons (fVar 0) (fCons (fC (.int 2)) fNil))) (eAnd (fApp F_is_name (fCons (fBin opIx (fVar 0) (fC (.int 0))) fNil)) (fApp F_is_among (fCons (fBin opIx (fVar 0) (fC (.int 1))) (fCons (fC (.int 1)) (fCons (fC (.int 3)) fNil)))))))
def F_is_setting:FF:=called (bodyF 1 s_is_setting)
def s_names_of:FS:=(sRet (fLc (iTupl (fVar 0)) (gN 1) tTrue (fBin opIx (fVar 1) (fC (.int 0))) [1]))
def F_names_of:FF:=called (bodyF 2 s_names_of)
def s_all_standings:FS:=(sSeq (sSet 1 (fLst (fCons (fTup fNil) fNil)))
  (sSeq (sFor (iTupl (fVar 0)) (gT 2 (gsCons (gN 2) (gsCons (gN 3) gsNil))) (sSet 1 (fLc2 (iLst (fVar 1)) (gN 4) tTrue (iRange1 (fCons (fBin opAdd (fVar 3) (fC (.int 1))) fNil)) (gN 5) tTrue (fTup (fStar (fVar 4) (fCons (fVar 5) fNil))) [4,5] [5])))
  (sRet (fVar 1))))
def F_all_standings:FF:=called (bodyF 6 s_all_standings)
def s_need_settings:FS:=(sSeq (sIf (bOr (bNot (toT (fIsi .tup (fVar 0)))) (bNot (toT (fChain opLe opLe (fC (.int 1)) (fCall opLen (fCons (fVar 0) fNil)) (fC (.int 3)))))) (sRaise 0 (fC .non)) sNext)
  (sSeq (sFor (iEnumT (fVar 0)) (gT 2 (gsCons (gN 1) (gsCons (gN 2) gsNil))) (sIf (bOr (bNot (toT (fApp F_is_setting (fCons (fVar 2) fNil)))) (toT (fBin opIn (fBin opIx (fVar 2) (fC (.int 0))) (fApp F_names_of (fCons (fSl opSl (fVar 0) oNone (oSome (fVar 1))) fNil))))) (sRaise 0 (fVar 1)) sNext))
  (sSeq (sIf (toT (fBin opGt (fCall opLen (fCons (fApp F_all_standings (fCons (fVar 0) fNil)) fNil)) (fC (.int 12)))) (sRaise 0 (fC (.str "many"))) sNext)
  (sRet (fVar 0)))))
def F_need_settings:FF:=called (bodyF 3 s_need_settings)
def s_is_place:FS:=(sSeq (sIf (bAnd (toT (fIsi .tup (fVar 1))) (toT (fBin opEqS (fVar 1) (fC (.tup ((["end"]:List Str).map D.str)))))) (sRet (fC (.bl true))) sNext)
  (sSeq (sIf (bOr (bNot (toT (fApp F_is_row (fCons (fVar 1) (fCons (fC (.int 3)) fNil))))) (bOr (bNot (toT (fIsi .str (fBin opIx (fVar 1) (fC (.int 0)))))) (bNot (toT (fIsi .str (fBin opIx (fVar 1) (fC (.int 1)))))))) (sRet (fC (.bl false))) sNext)
  (sSeq (sIf (toT (fBin opEq (fBin opIx (fVar 1) (fC (.int 0))) (fC (.str "do")))) (sRet (eAnd (fApp F_is_name (fCons (fBin opIx (fVar 1) (fC (.int 1))) fNil)) (fApp F_is_among (fCons (fBin opIx (fVar 1) (fC (.int 2))) (fCons (fC (.int 0)) (fCons (fBin opSub (fVar 2) (fC (.int 1))) fNil)))))) sNext)
  (sSeq (sIf (bOr (toT (fBin opNe (fBin opIx (fVar 1) (fC (.int 0))) (fC (.str "ask")))) (toT (fBin opNotIn (fBin opIx (fVar 1) (fC (.int 1))) (fApp F_names_of (fCons (fCo (fVar 0)) fNil))))) (sRet (fC (.bl false))) sNext)
  (sSeq (sSet 3 (fBin opDGetD (fCall opDictT (fCons (fVar 0) fNil)) (fBin opIx (fVar 1) (fC (.int 1)))))
  (sRet (eAnd (fApp F_is_row (fCons (fBin opIx (fVar 1) (fC (.int 2))) (fCons (fBin opAdd (fVar 3) (fC (.int 1))) fNil))) (fCall (op1 allD) (fCons (fLc (iTupl (fBin opIx (fVar 1) (fC (.int 2)))) (gN 4) tTrue (fApp F_is_among (fCons (fVar 4) (fCons (fC (.int 0)) (fCons (fBin opSub (fVar 2) (fC (.int 1))) fNil)))) [4]) fNil)))))))))
def F_is_place:FF:=called (bodyF 5 s_is_place)
def s_need_places:FS:=(sSeq (sIf (bOr (bNot (toT (fIsi .tup (fVar 1)))) (bNot (toT (fChain opLe opLe (fC (.int 1)) (fCall opLen (fCons (fVar 1) fNil)) (fC (.int 16)))))) (sRaise 2 (fC .non)) sNext)
  (sFor (iEnumT (fVar 1)) (gT 2 (gsCons (gN 2) (gsCons (gN 3) gsNil))) (sIf (bNot (toT (fApp F_is_place (fCons (fVar 0) (fCons (fVar 3) (fCons (fCall opLen (fCons (fVar 1) fNil)) fNil)))))) (sRaise 2 (fVar 2)) sNext)))
def F_need_places:FF:=called (bodyF 4 s_need_places)
def s_need_modes:FS:=(sSeq (sIf (bNot (toT (fApp F_is_row (fCons (fVar 1) (fCons (fCall opLen (fCons (fVar 0) fNil)) fNil))))) (sRaise 3 (fC .non)) sNext)
  (sFor (iEnumT (fVar 1)) (gT 2 (gsCons (gN 2) (gsCons (gN 3) gsNil))) (sIf (bOr (bNot (toT (fIsi .str (fVar 3)))) (toT (fBin (opInT true) (fVar 3) (fC (.tup ((["live","met","begin"]:List Str).map D.str)))))) (sRaise 3 (fVar 2)) sNext)))
def F_need_modes:FF:=called (bodyF 4 s_need_modes)
def s_Request___init__:FS:=(sSeq (sExpr (fApp F_need_settings (fCons (fCo (fVar 1)) fNil)))
  (sSeq (sExpr (fApp F_need_places (fCons (fVar 1) (fCons (fVar 2) fNil))))
  (sSeq (sSet 4 (eIf (toT (fBin opIs (fVar 3) (fC .non))) (fBin opMul (fTup (fCons (fC (.str "live")) fNil)) (fCall opLen (fCons (fCo (fVar 1)) fNil))) (fVar 3)))
  (sSeq (sExpr (fApp F_need_modes (fCons (fCo (fVar 1)) (fCons (fVar 4) fNil))))
  (sSeq (sFldPut 4 "settings" (fVar 0) (fVar 1))
  (sSeq (sFldPut 4 "places" (fVar 0) (fVar 2))
  (sFldPut 4 "modes" (fVar 0) (fVar 4))))))))
def F_Request___init__:FF:=bodyF 5 s_Request___init__
def F_Request:FF:=called (makeR 4 F_Request___init__ [])
def F_Request_d1:FF:=called (makeR 4 F_Request___init__ [.non])
def s_Request___len__:FS:=(sRet (fCall opLen (fCons (fFld 4 "places" (fVar 0)) fNil)))
def F_Request___len__:FF:=called (bodyF 1 s_Request___len__)
def s_Request___eq__:FS:=(sSeq (sIf (bNot (toT (fIsiC 4 (fVar 1)))) (sRet (fC (.bl false))) sNext)
  (sRet (fBin opEq (fTup (fCons (fCo (fFld 4 "settings" (fVar 0))) (fCons (fFld 4 "places" (fVar 0)) (fCons (fFld 4 "modes" (fVar 0)) fNil)))) (fTup (fCons (fCo (fFld 4 "settings" (fVar 1))) (fCons (fFld 4 "places" (fVar 1)) (fCons (fFld 4 "modes" (fVar 1)) fNil)))))))
def F_Request___eq__:FF:=called (bodyF 2 s_Request___eq__)
def s_Request_with_modes:FS:=(sSeq (sExpr (fApp F_need_modes (fCons (fCo (fFld 4 "settings" (fVar 0))) (fCons (fVar 1) fNil))))
  (sRet (fApp F_Request (fCons (fFld 4 "settings" (fVar 0)) (fCons (fFld 4 "places" (fVar 0)) (fCons (fVar 1) fNil))))))
def F_Request_with_modes:FF:=called (bodyF 2 s_Request_with_modes)
def s_Request_keeping:FS:=(sSeq (sSet 2 (fApp F_names_of (fCons (fCo (fFld 4 "settings" (fVar 0))) fNil)))
  (sSeq (sFor (iDfK (fVar 1)) (gN 3) (sIf (toT (fBin opNotIn (fVar 3) (fVar 2))) (sRaise 16 (fVar 3)) sNext))
  (sSeq (sFor (iDfI (fVar 1)) (gT 2 (gsCons (gN 3) (gsCons (gN 4) gsNil))) (sIf (bOr (bNot (toT (fIsi .str (fVar 4)))) (toT (fBin (opInT true) (fVar 4) (fC (.tup ((["live","met","begin"]:List Str).map D.str)))))) (sRaise 3 (fVar 3)) sNext))
  (sRet (fMtd 4 "with_modes" F_Request_with_modes (fVar 0) (fCons (fCall (op1 tupleD) (fCons (fLc (iZip false true (fVar 2) (fFld 4 "modes" (fVar 0))) (gT 2 (gsCons (gN 3) (gsCons (gN 4) gsNil))) tTrue (fDfGet2 (fVar 1) (fVar 3) (fVar 4)) [3,4]) fNil)) fNil))))))
def F_Request_keeping:FF:=called (bodyF 5 s_Request_keeping)
def s__law_begun:FS:=(sRet (fDisp3 "cells" "left" "at" (fCall opListN (fCons (fVar 0) fNil)) (fLcN (iScr (fVar 0)) (gN 1) (toT (fBin opGe (fVar 1) (fBin opPow (fC (.int 10)) (fC (.int 18))))) (fVar 1) [1]) (fC (.int 0))))
abbrev F__law_begun:FF:=begunF
def s__law_next:FS:=(sSeq (loopW (bAnd (toT (fBin opNe (fBin opDGet (fVar 0) (fC (.str "left"))) (fLst fNil))) (toT (fBin opEq (fBin opIx (fBin opDGet (fVar 0) (fC (.str "left"))) (fC (.int 0))) (fC (.int 0))))) (sDPutF (fVar 0) (fC (.str "left")) (fSl opSlR (fBin opDGet (fVar 0) (fC (.str "left"))) (oSome (fC (.int 1))) oNone)) 100)
  (sSeq (sIf (toT (fBin opNe (fBin opDGet (fVar 0) (fC (.str "left"))) (fLst fNil))) (sSeq (sSet 2 (fBin opIx (fBin opDGet (fVar 0) (fC (.str "left"))) (fC (.int 0))))
  (sSeq (sLPutF (fBin opDGet (fVar 0) (fC (.str "left"))) (fC (.int 0)) (fBin opFDiv (fVar 2) (fVar 1)))
  (sRet (fBin opMod (fCall (op1 intD) (fCons (fVar 2) fNil)) (fVar 1))))) sNext)
  (sSeq (sPar2 3 4 (fCons (fBin opAdd (fBin opDGet (fVar 0) (fC (.str "at"))) (fC (.int 1))) (fCons (fBin opDGet (fVar 0) (fC (.str "cells"))) fNil)))
  (sSeq (sDPutF (fVar 0) (fC (.str "at")) (fVar 3))
  (sSeq (sSet 5 (eIf (toT (fBin opNe (fVar 4) (fLst fNil))) (fCall (op1 intD) (fCons (fBin opIx (fVar 4) (fBin opMod (fCall (op1 intD) (fCons (fBin opAdd (fBin opMul (fVar 3) (fVar 3)) (fBin opFDiv (fVar 3) (fC (.int 2)))) fNil)) (fCall opLen (fCons (fVar 4) fNil)))) fNil)) (fC (.int 5))))
  (sSeq (sSet 6 (fBin opMod (fCall (op1 intD) (fCons (fBin opAdd (fBin opAdd (fBin opMul (fVar 5) (fC (.int 40692))) (fBin opMul (fVar 3) (fC (.int 65539)))) (fBin opMul (fBin opMul (fC (.int 7001)) (fVar 3)) (fVar 3))) fNil)) (fC (.int 2147483399))))
  (sRet (fBin opMod (fCall (op1 intD) (fCons (fBin opFDiv (fBin opMod (fCall (op1 intD) (fCons (fBin opAdd (fBin opMul (fVar 6) (fC (.int 48271))) (fBin opMul (fC (.int 1013)) (fVar 3))) fNil)) (fC (.int 2147483647))) (fC (.int 13))) fNil)) (fVar 1)))))))))
abbrev F__law_next:FF:=nextF
def s__law_names:FS:=(sSeq (sAsg (gT 2 (gsCons (gN 2) (gsCons (gN 3) gsNil))) (fTup (fCons (fC (.str "abcdefghijklmnopqrstuvwxyz")) (fCons (fC (.str "")) fNil))))
  (sSeq (sFor (iRange1 (fCons (fApp F__law_next (fCons (fVar 0) (fCons (fC (.int 8)) fNil))) fNil)) (gN 4) (sSet 3 (fBin opAdd (fVar 3) (fBin opIx (fVar 2) (fApp F__law_next (fCons (fVar 0) (fCons (fC (.int 26)) fNil)))))))
  (sSeq (sAsg (gT 3 (gsCons (gN 5) (gsCons (gN 6) (gsCons (gN 7) gsNil)))) (fTup (fCons (fApp F__law_next (fCons (fVar 0) (fCons (fBin opAdd (fCall opLen (fCons (fVar 3) fNil)) (fC (.int 1))) fNil))) (fCons (fApp F__law_next (fCons (fVar 0) (fCons (fC (.int 26)) fNil))) (fCons (fBin opIx (fLst (fCons (fC (.int 1)) (fCons (fC (.int 3)) (fCons (fC (.int 5)) (fCons (fC (.int 7)) (fCons (fC (.int 9)) (fCons (fC (.int 11)) fNil))))))) (fApp F__law_next (fCons (fVar 0) (fCons (fC (.int 6)) fNil)))) fNil)))))
  (sSeq (sSet 8 (fSl opSl (fBin opAdd (fVar 3) (fBin opMul (fBin opIx (fVar 2) (fVar 6)) (fC (.int 8)))) oNone (oSome (fC (.int 8)))))
  (sSeq (sIf (toT (fBin opGt (fVar 7) (fC (.int 5)))) (sRet (fLc (iRange1 (fCons (fVar 1) fNil)) (gN 4) tTrue (eIf (toT (fBin opGt (fVar 7) (fC (.int 7)))) (fSl opSl (fVar 8) (oSome (fVar 4)) oNone) (fSl opSl (fVar 8) oNone (oSome (fBin opSub (fBin opAdd (fVar 4) (fC (.int 9))) (fVar 1))))) [4])) sNext)
  (sRet (fLc (iRange1 (fCons (fVar 1) fNil)) (gN 4) tTrue (fBin opAdd (fBin opAdd (fSl opSl (fVar 3) oNone (oSome (fVar 5))) (fBin opIx (fVar 2) (fBin opMod (fCall (op1 intD) (fCons (fBin opAdd (fVar 6) (fBin opMul (fVar 7) (fVar 4))) fNil)) (fC (.int 26))))) (fSl opSl (fVar 3) (oSome (fVar 5)) oNone)) [4])))))))
def F__law_names:FF:=called (bodyF 9 s__law_names)
def s__law_settings:FS:=(sSeq (sSet 1 (fLst (fCons (fTup (fCons (fC (.int 1)) fNil)) (fCons (fTup (fCons (fC (.int 2)) fNil)) (fCons (fTup (fCons (fC (.int 3)) fNil)) (fCons (fTup (fCons (fC (.int 1)) (fCons (fC (.int 1)) fNil))) (fCons (fTup (fCons (fC (.int 1)) (fCons (fC (.int 2)) fNil))) (fCons (fTup (fCons (fC (.int 2)) (fCons (fC (.int 1)) fNil))) (fCons (fTup (fCons (fC (.int 2)) (fCons (fC (.int 2)) fNil))) (fCons (fTup (fCons (fC (.int 1)) (fCons (fC (.int 3)) fNil))) (fCons (fTup (fCons (fC (.int 3)) (fCons (fC (.int 2)) fNil))) (fCons (fTup (fCons (fC (.int 1)) (fCons (fC (.int 1)) (fCons (fC (.int 1)) fNil)))) (fCons (fTup (fCons (fC (.int 1)) (fCons (fC (.int 2)) (fCons (fC (.int 1)) fNil)))) (fCons (fTup (fCons (fC (.int 1)) (fCons (fC (.int 1)) (fCons (fC (.int 2)) fNil)))) fNil))))))))))))))
  (sSeq (sSet 2 (fBin opIx (fVar 1) (fApp F__law_next (fCons (fVar 0) (fCons (fC (.int 12)) fNil)))))
  (sRet (fCall opTupF (fCons (fLc (iZip false true (fApp F__law_names (fCons (fVar 0) (fCons (fCall opLen (fCons (fVar 2) fNil)) fNil))) (fVar 2)) (gT 2 (gsCons (gN 3) (gsCons (gN 4) gsNil))) tTrue (fTup (fCons (fVar 3) (fCons (fVar 4) fNil))) [3,4]) fNil)))))
def F__law_settings:FF:=called (bodyF 5 s__law_settings)
def s__law_places:FS:=(sSeq (sAsg (gT 2 (gsCons (gN 3) (gsCons (gN 4) gsNil))) (fTup (fCons (fBin opAdd (fC (.int 1)) (fApp F__law_next (fCons (fVar 0) (fCons (fVar 2) fNil)))) (fCons (fApp F__law_names (fCons (fVar 0) (fCons (fC (.int 3)) fNil))) fNil))))
  (sSeq (sPar2 5 6 (fCons (fNewL fNil) (fCons (fApp F__law_next (fCons (fVar 0) (fCons (fC (.int 2)) fNil))) fNil)))
  (sSeq (sFor (iRange1 (fCons (fVar 3) fNil)) (gN 7) (sSeq (sAsg (gT 2 (gsCons (gN 8) (gsCons (gN 9) gsNil))) (fTup (fCons (fApp F__law_next (fCons (fVar 0) (fCons (fC (.int 7)) fNil))) (fCons (fCall opMin2 (fCons (fBin opAdd (fVar 7) (fC (.int 1))) (fCons (fBin opSub (fVar 3) (fC (.int 1))) fNil))) fNil))))
  (sSeq (sSet 10 (fBin opMul (fVar 9) (fBin opSub (fC (.int 1)) (fVar 6))))
  (sIf (bOr (toT (fBin opEq (fVar 8) (fC (.int 0)))) (bAnd (toT (fBin opEq (fVar 7) (fBin opSub (fVar 3) (fC (.int 1))))) (bOr (toT (fBin opEq (fVar 6) (fC (.int 0)))) (toT (fBin opGt (fApp F__law_next (fCons (fVar 0) (fCons (fC (.int 4)) fNil))) (fC (.int 0))))))) (sExpr (fMeth isLstR opApp (fVar 5) (fCons (fTup (fCons (fC (.str "end")) fNil)) fNil))) (sIf (toT (fBin opLt (fVar 8) (fC (.int 4)))) (sSeq (sSet 11 (fBin opIx (fVar 4) (fApp F__law_next (fCons (fVar 0) (fCons (fC (.int 3)) fNil)))))
  (sExpr (fMeth isLstR opApp (fVar 5) (fCons (fTup (fCons (fC (.str "do")) (fCons (fVar 11) (fCons (eIf (toT (fBin opGt (fApp F__law_next (fCons (fVar 0) (fCons (fC (.int 3)) fNil))) (fC (.int 0)))) (fVar 9) (fBin opAdd (fVar 10) (fApp F__law_next (fCons (fVar 0) (fCons (fBin opSub (fVar 3) (fVar 10)) fNil))))) fNil)))) fNil)))) (sSeq (sAsg (gT 2 (gsCons (gN 12) (gsCons (gN 13) gsNil))) (fBin opIx (fVar 1) (fApp F__law_next (fCons (fVar 0) (fCons (fCall opLen (fCons (fVar 1) fNil)) fNil)))))
  (sSeq (sSet 14 (fLc (iRange1 (fCons (fBin opAdd (fVar 13) (fC (.int 1))) fNil)) (gN 15) tTrue (eIf (toT (fBin opEq (fApp F__law_next (fCons (fVar 0) (fCons (fC (.int 3)) fNil))) (fC (.int 0)))) (fVar 9) (fBin opAdd (fVar 10) (fApp F__law_next (fCons (fVar 0) (fCons (fBin opSub (fVar 3) (fVar 10)) fNil))))) [15]))
  (sExpr (fMeth isLstR opApp (fVar 5) (fCons (fTup (fCons (fC (.str "ask")) (fCons (fVar 12) (fCons (fCall (op1 tupleD) (fCons (fVar 14) fNil)) fNil)))) fNil))))))))))
  (sRet (fCall (op1 tupleD) (fCons (fVar 5) fNil))))))
def F__law_places:FF:=called (bodyF 16 s__law_places)
def s__law_modes:FS:=(sRet (fCall (op1 tupleD) (fCons (fLc (iTupl (fVar 1)) (gN 2) tTrue (fBin opIx (fLst (fCons (fC (.str "live")) (fCons (fC (.str "live")) (fCons (fC (.str "met")) (fCons (fC (.str "begin")) fNil))))) (fApp F__law_next (fCons (fVar 0) (fCons (fC (.int 4)) fNil)))) [2]) fNil)))
def F__law_modes:FF:=called (bodyF 3 s__law_modes)
def s__law_told (act:Sto→R W):FS:=(sSeq (sTryL 2 [(3,passM [16],(sRet (fTup (fCons (fC (.str "modes")) (fCons (fXf 2 3) fNil))))),(16,passM [],(sRet (fTup (fCons (fC (.str "missing")) (fCons (fXf 2 16) fNil)))))] (sSet 1 (fAct act)))
  (sRet (fLst (fCons (fFld 4 "modes" (fVar 1)) (fCons (fFld 4 "places" (fVar 1)) (fCons (fCo (fFld 4 "settings" (fVar 1))) fNil))))))
def F__law_told:TF:=fun act=>bodyF 3 (s__law_told act) [.fn]
def s__law_kept_right:FS:=(sSeq (sSet 1 (fBin opIx (fLst (fCons (fTupF (fCons (fTup (fCons (fC (.str "a")) (fCons (fC (.int 1)) fNil))) (fCons (fTup (fCons (fC (.str "b")) (fCons (fC (.int 2)) fNil))) fNil))) (fCons (fTupF (fCons (fTup (fCons (fC (.str "b")) (fCons (fC (.int 2)) fNil))) (fCons (fTup (fCons (fC (.str "a")) (fCons (fC (.int 1)) fNil))) fNil))) (fCons (fTupF (fCons (fTup (fCons (fC (.str "a")) (fCons (fC (.int 1)) fNil))) (fCons (fTup (fCons (fC (.str "b")) (fCons (fC (.int 1)) fNil))) (fCons (fTup (fCons (fC (.str "self")) (fCons (fC (.int 1)) fNil))) fNil)))) fNil)))) (fApp F__law_next (fCons (fVar 0) (fCons (fC (.int 3)) fNil)))))
  (sSeq (sPar2 2 3 (fCons (fTup (fCons (fTup (fCons (fC (.str "end")) fNil)) fNil)) (fCons (fCall (op1 tupleD) (fCons (fLc (iTupl (fCo (fVar 1))) (gN 4) tTrue (fBin opIx (fLst (fCons (fC (.str "live")) (fCons (fC (.str "met")) (fCons (fC (.str "begin")) fNil)))) (fApp F__law_next (fCons (fVar 0) (fCons (fC (.int 3)) fNil)))) [4]) fNil)) fNil)))
  (sSeq (sSet 4 (fApp F_Request (fCons (fVar 1) (fCons (fVar 2) (fCons (fVar 3) fNil)))))
  (sSeq (sAsg (gT 2 (gsCons (gN 5) (gsCons (gN 6) gsNil))) (fTup (fCons (fLc (iTupl (fCo (fVar 1))) (gT 2 (gsCons (gN 7) (gsCons (gN 8) gsNil))) tTrue (fVar 7) [7,8]) (fCons (fBin opIx (fLst (fCons (fC (.str "live")) (fCons (fC (.str "met")) (fCons (fC (.str "begin")) fNil)))) (fApp F__law_next (fCons (fVar 0) (fCons (fC (.int 3)) fNil)))) fNil))))
  (sSeq (sSet 9 (fCall (op1 tupleD) (fCons (fLc (iZip false true (fVar 5) (fVar 3)) (gT 2 (gsCons (gN 7) (gsCons (gN 10) gsNil))) tTrue (eIf (toT (fBin opEq (fVar 7) (fC (.str "a")))) (fVar 6) (fVar 10)) [7,10]) fNil)))
  (sSeq (sIf (toT (fBin opNe (fTold F__law_told (fMtdW 4 "keeping" ["a"] F_Request_keeping (fVar 4) (fCons (fVar 6) fNil))) (fLst (fCons (fVar 9) (fCons (fVar 2) (fCons (fCo (fVar 1)) fNil)))))) (sRet (fC (.bl false))) sNext)
  (sSeq (sSet 11 (fCall (op1 tupleD) (fCons (fLc (iZip false true (fVar 5) (fVar 9)) (gT 2 (gsCons (gN 7) (gsCons (gN 10) gsNil))) tTrue (eIf (toT (fBin opEq (fVar 7) (fC (.str "b")))) (fC (.str "met")) (fVar 10)) [7,10]) fNil)))
  (sSeq (sIf (toT (fBin opNe (fTold F__law_told (fMtdW 4 "keeping" ["b","a"] F_Request_keeping (fVar 4) (fCons (fC (.str "met")) (fCons (fVar 6) fNil)))) (fLst (fCons (fVar 11) (fCons (fVar 2) (fCons (fCo (fVar 1)) fNil)))))) (sRet (fC (.bl false))) sNext)
  (sSeq (sIf (bOr (toT (fBin opNe (fTold F__law_told (fMtdW 4 "keeping" [] F_Request_keeping (fVar 4) fNil)) (fLst (fCons (fVar 3) (fCons (fVar 2) (fCons (fCo (fVar 1)) fNil)))))) (toT (fBin opNe (fFld 4 "modes" (fVar 4)) (fVar 3)))) (sRet (fC (.bl false))) sNext)
  (sSeq (sSet 12 (fLst (fCons (fTold F__law_told (fMtdW 4 "keeping" ["a","c"] F_Request_keeping (fVar 4) (fCons (fC (.str "so")) (fCons (fC (.str "so")) fNil)))) (fCons (fTold F__law_told (fMtdW 4 "keeping" ["b","a"] F_Request_keeping (fVar 4) (fCons (fC (.int 5)) (fCons (fC (.str "never")) fNil)))) fNil))))
  (sRet (eAnd (fBin opEq (fVar 12) (fLst (fCons (fTup (fCons (fC (.str "missing")) (fCons (fC (.str "c")) fNil))) (fCons (fTup (fCons (fC (.str "modes")) (fCons (fC (.str "b")) fNil))) fNil)))) (fBin opEq (fTold F__law_told (fMtdW 4 "keeping" ["a"] F_Request_keeping (fVar 4) (fCons (fC .non) fNil))) (fTup (fCons (fC (.str "modes")) (fCons (fC (.str "a")) fNil))))))))))))))))
def F__law_kept_right:FF:=called (bodyF 13 s__law_kept_right)
def s_law:FS:=(sSeq (sSet 1 (fApp F__law_begun (fCons (fVar 0) fNil)))
  (sSeq (sFor (iRange1 (fCons (fBin opAdd (fC (.int 3)) (fCall opMin2 (fCons (fCall opLen (fCons (fVar 0) fNil)) (fCons (fC (.int 8)) fNil)))) fNil)) (gN 2) (sSeq (sSet 3 (fApp F__law_settings (fCons (fVar 1) fNil)))
  (sSeq (sPar2 4 5 (fCons (fApp F__law_places (fCons (fVar 1) (fCons (fCo (fVar 3)) (fCons (fC (.int 10)) fNil)))) (fCons (fApp F__law_modes (fCons (fVar 1) (fCons (fCo (fVar 3)) fNil))) fNil)))
  (sSeq (sSet 6 (fBin opIx (fLst (fCons (fVar 4) (fCons (fApp F__law_places (fCons (fVar 1) (fCons (fCo (fVar 3)) (fCons (fC (.int 4)) fNil)))) fNil))) (fApp F__law_next (fCons (fVar 1) (fCons (fC (.int 2)) fNil)))))
  (sSeq (sSet 7 (fBin opIx (fLst (fCons (fVar 5) (fCons (fApp F__law_modes (fCons (fVar 1) (fCons (fCo (fVar 3)) fNil))) fNil))) (fApp F__law_next (fCons (fVar 1) (fCons (fC (.int 2)) fNil)))))
  (sSeq (sAsg (gT 2 (gsCons (gN 8) (gsCons (gN 9) gsNil))) (fTup (fCons (fApp F_Request (fCons (fVar 3) (fCons (fVar 4) (fCons (fVar 5) fNil)))) (fCons (fApp F_Request (fCons (fVar 3) (fCons (fVar 6) (fCons (fVar 7) fNil)))) fNil))))
  (sSeq (sIf (bOr (toT (fBin opNe (fCall opRepr (fCons (fLenI 4 F_Request___len__ (fVar 8)) fNil)) (fCall opRepr (fCons (fCall opLen (fCons (fVar 4) fNil)) fNil)))) (toT (fBin opNe (fBin (opEqI 4 F_Request___eq__) (fVar 8) (fVar 9)) (fBin opEq (fLst (fCons (fVar 4) (fCons (fVar 5) fNil))) (fLst (fCons (fVar 6) (fCons (fVar 7) fNil))))))) (sRet (fC (.bl false))) sNext)
  (sSeq (sIf (bOr (toT (fBin opEq (fBin (opNeI 4 F_Request___eq__) (fVar 8) (fVar 9)) (fBin (opEqI 4 F_Request___eq__) (fVar 8) (fVar 9)))) (bNot (toT (fApp F__law_kept_right (fCons (fVar 1) fNil))))) (sRet (fC (.bl false))) sNext)
  (sSeq (sIf (toT (fBin opNe (fLc (iLst (fLst (fCons (fVar 4) (fCons (fVar 5) (fCons (fC .non) (fCons (fC (.int 5)) (fCons (fC (.str "request")) (fCons (fLst (fCons (fCo (fVar 3)) (fCons (fVar 4) (fCons (fVar 5) fNil)))) fNil)))))))) (gN 10) (toT (fBin (opEqI 4 F_Request___eq__) (fVar 8) (fVar 10))) (fVar 10) [10]) (fLst fNil))) (sRet (fC (.bl false))) sNext)
  (sSeq (sIf (toT (fBin opNe (fTold F__law_told (fMtd 4 "with_modes" F_Request_with_modes (fVar 8) (fCons (fVar 7) fNil))) (fLst (fCons (fVar 7) (fCons (fVar 4) (fCons (fCo (fVar 3)) fNil)))))) (sRet (fC (.bl false))) sNext)
  (sSeq (sSet 11 (fBin opIx (fLst (fCons (fC (.int 5)) (fCons (fC .non) (fCons (fBin opAdd (fVar 5) (fTup (fCons (fC (.str "met")) fNil))) (fCons (fBin opAdd (fSl opSl (fVar 5) oNone (oSome (fNeg (fC (.int 1))))) (fTup (fCons (fC (.str "so")) fNil))) (fCons (fCall (op1 listD) (fCons (fVar 5) fNil)) fNil)))))) (fApp F__law_next (fCons (fVar 1) (fCons (fC (.int 5)) fNil)))))
  (sSeq (sSet 12 (fTup (fCons (fC (.str "modes")) (fCons (eIf (bAnd (toT (fIsi .tup (fVar 11))) (toT (fBin opEq (fCall opLen (fCons (fVar 11) fNil)) (fCall opLen (fCons (fVar 5) fNil))))) (fBin opSub (fCall opLen (fCons (fVar 5) fNil)) (fC (.int 1))) (fC .non)) fNil))))
  (sSeq (sIf (toT (fBin opNe (fTold F__law_told (fMtd 4 "with_modes" F_Request_with_modes (fVar 8) (fCons (fVar 11) fNil))) (fVar 12))) (sRet (fC (.bl false))) sNext)
  (sIf (toT (fBin opNe (fLst (fCons (fCo (fFld 4 "settings" (fVar 8))) (fCons (fFld 4 "places" (fVar 8)) (fCons (fFld 4 "modes" (fVar 8)) fNil)))) (fLst (fCons (fCo (fVar 3)) (fCons (fVar 4) (fCons (fVar 5) fNil)))))) (sRet (fC (.bl false))) sNext))))))))))))))
  (sSeq (sSet 13 (fTup (fCons (fTup (fCons (fC (.str "end")) fNil)) fNil)))
  (sRet (fBin (opNeI 4 F_Request___eq__) (fApp F_Request_d1 (fCons (fTupF (fCons (fTup (fCons (fC (.str "a")) (fCons (fC (.int 1)) fNil))) fNil)) (fCons (fVar 13) fNil))) (fApp F_Request_d1 (fCons (fTupF (fCons (fTup (fCons (fC (.str "b")) (fCons (fC (.int 1)) fNil))) fNil)) (fCons (fVar 13) fNil))))))))
structure Txt (P:Program) (w:World) (F:Fx) (mg:Str→Option Value) (a:Str→Addr) (d:Str→FuncData):Prop where
  hw:w=F.cls.w
  f_is_among:Def F.K mg "is_among" st_is_among P_is_among (a "is_among") (d "is_among")
  f_is_name:Def F.K mg "is_name" st_is_name P_is_name (a "is_name") (d "is_name")
  f_is_row:Def F.K mg "is_row" st_is_row P_is_row (a "is_row") (d "is_row")
  f_is_setting:Def F.K mg "is_setting" st_is_setting P_is_setting (a "is_setting") (d "is_setting")
  f_names_of:Def F.K mg "names_of" st_names_of P_names_of (a "names_of") (d "names_of")
  f_all_standings:Def F.K mg "all_standings" st_all_standings P_all_standings (a "all_standings") (d "all_standings")
  f_need_settings:Def F.K mg "need_settings" st_need_settings P_need_settings (a "need_settings") (d "need_settings")
  f_is_place:Def F.K mg "is_place" st_is_place P_is_place (a "is_place") (d "is_place")
  f_need_places:Def F.K mg "need_places" st_need_places P_need_places (a "need_places") (d "need_places")
  f_need_modes:Def F.K mg "need_modes" st_need_modes P_need_modes (a "need_modes") (d "need_modes")
  m_Request___init__:MDef F.K (F.cls 4) "__init__" "Request.__init__" st_Request___init__ P_Request___init__ [.non] (a "Request.__init__") (d "Request.__init__")
  m_Request___len__:MDef F.K (F.cls 4) "__len__" "Request.__len__" st_Request___len__ P_Request___len__ [] (a "Request.__len__") (d "Request.__len__")
  m_Request___eq__:MDef F.K (F.cls 4) "__eq__" "Request.__eq__" st_Request___eq__ P_Request___eq__ [] (a "Request.__eq__") (d "Request.__eq__")
  m_Request_with_modes:MDef F.K (F.cls 4) "with_modes" "Request.with_modes" st_Request_with_modes P_Request_with_modes [] (a "Request.with_modes") (d "Request.with_modes")
  m_Request_keeping:MDefW F.K (F.cls 4) "keeping" "Request.keeping" st_Request_keeping "self" "modes" (a "Request.keeping") (d "Request.keeping")
  f__law_begun:Def F.K mg "_law_begun" st__law_begun P__law_begun (a "_law_begun") (d "_law_begun")
  f__law_next:Def F.K mg "_law_next" st__law_next P__law_next (a "_law_next") (d "_law_next")
  f__law_names:Def F.K mg "_law_names" st__law_names P__law_names (a "_law_names") (d "_law_names")
  f__law_settings:Def F.K mg "_law_settings" st__law_settings P__law_settings (a "_law_settings") (d "_law_settings")
  f__law_places:Def F.K mg "_law_places" st__law_places P__law_places (a "_law_places") (d "_law_places")
  f__law_modes:Def F.K mg "_law_modes" st__law_modes P__law_modes (a "_law_modes") (d "_law_modes")
  f__law_told:Def F.K mg "_law_told" st__law_told P__law_told (a "_law_told") (d "_law_told")
  f__law_kept_right:Def F.K mg "_law_kept_right" st__law_kept_right P__law_kept_right (a "_law_kept_right") (d "_law_kept_right")
  f_law:Def F.K mg "law" st_law P_law (a "law") (d "law")
  cl_Request:Cls F.K (F.cls 4)
  g_Request:mg "Request" = some (.ref (F.cls 4))
  mk_Request:Mk F.K (F.cls 4) (a "Request.__init__")
  is_Request:IsC F.K (F.cls 4)
  ne_Request:NeM F.K (F.cls 4)
  eq_Request:EqM F.K (F.cls 4) (a "Request.__eq__")
  nf_Request_settings:NoAttr F.K (F.cls 4) "settings"
  nf_Request_places:NoAttr F.K (F.cls 4) "places"
  nf_Request_modes:NoAttr F.K (F.cls 4) "modes"
  n_all:mg "all" = none
  n_bool:mg "bool" = none
  n_dict:mg "dict" = none
  n_enumerate:mg "enumerate" = none
  n_int:mg "int" = none
  n_isinstance:mg "isinstance" = none
  n_len:mg "len" = none
  n_list:mg "list" = none
  n_min:mg "min" = none
  n_range:mg "range" = none
  n_repr:mg "repr" = none
  n_str:mg "str" = none
  n_tuple:mg "tuple" = none
  n_zip:mg "zip" = none
  g_ASK:GStr mg "ASK" "ask"
  g_DO:GStr mg "DO" "do"
  g_END:GTup F.K mg "END" ["end"]
  g_LETTERS:GStr mg "LETTERS" "abcdefghijklmnopqrstuvwxyz"
  g_LIVE:GStr mg "LIVE" "live"
  g_MODES:GTup F.K mg "MODES" ["live","met","begin"]
  g_MOST_PLACES:GInt mg "MOST_PLACES" 16
  g_MOST_SETTINGS:GInt mg "MOST_SETTINGS" 3
  g_MOST_STANDINGS:GInt mg "MOST_STANDINGS" 12
  g_MOST_VALUE:GInt mg "MOST_VALUE" 3
  l__law_kept_right:∃ (oc:Value) (od:Option Addr) (kV doc pm:Value) (an:Option Addr) (ct:Value) (osl:Array (Option Value)),d "_law_kept_right" = PySem.W.fnOf "_law_kept_right" "_law_kept_right" (defArgs st__law_kept_right) (defBody st__law_kept_right) (defScope st__law_kept_right) .none kV doc pm an (.ref (a "_law_kept_right.code")) ct ∧
    F.K.lookup (a "_law_kept_right")=some ⟨oc,od,.func (PySem.W.fnOf "_law_kept_right" "_law_kept_right" (defArgs st__law_kept_right) (defBody st__law_kept_right) (defScope st__law_kept_right) .none kV doc pm an (.ref (a "_law_kept_right.code")) ct),osl⟩∧PySem.W.codeIn F.K (.ref (a "_law_kept_right.code")) "_law_kept_right" = true
  l_law:∃ (oc:Value) (od:Option Addr) (kV doc pm:Value) (an:Option Addr) (ct:Value) (osl:Array (Option Value)),d "law" = PySem.W.fnOf "law" "law" (defArgs st_law) (defBody st_law) (defScope st_law) .none kV doc pm an (.ref (a "law.code")) ct ∧
    F.K.lookup (a "law")=some ⟨oc,od,.func (PySem.W.fnOf "law" "law" (defArgs st_law) (defBody st_law) (defScope st_law) .none kV doc pm an (.ref (a "law.code")) ct),osl⟩∧PySem.W.codeIn F.K (.ref (a "law.code")) "law" = true
  y0:F.fld 0 = "place"
  x0:PySem.EvX.ExTxt P F.K mg "BadSettings" (F.fld 0) (F.cls 0) (a "BadSettings.__init__") (a "BadSettings.__class__")
  y2:F.fld 2 = "place"
  x2:PySem.EvX.ExTxt P F.K mg "BadPlaces" (F.fld 2) (F.cls 2) (a "BadPlaces.__init__") (a "BadPlaces.__class__")
  y3:F.fld 3 = "place"
  x3:PySem.EvX.ExTxt P F.K mg "BadModes" (F.fld 3) (F.cls 3) (a "BadModes.__init__") (a "BadModes.__class__")
  y16:F.fld 16 = "name"
  x16:PySem.EvX.ExTxt P F.K mg "Missing" (F.fld 16) (F.cls 16) (a "Missing.__init__") (a "Missing.__class__")
  ne16_3:PySem.W.exmOne F.K (.ref (F.cls 16)) (.ref (F.cls 3))=some false
def lamName__law_kept_right:Str:=(envOfC "_law_kept_right" (defScope st__law_kept_right) 0 0 .none).qual ++ "<lambda>"
def lamName_law:Str:=(envOfC "law" (defScope st_law) 0 0 .none).qual ++ "<lambda>"
structure Lm (F:Fx) (mg:Str→Option Value) (base:Heap) (a:Str→Addr):Prop where
  hxa:F.xa=none
  h0:F.lam=none
  hsys:∃ o,base.get? sysModules=some o
  tb__law_kept_right:LamX.TabB base mg (a "_law_kept_right.code") (a "_law_kept_right.table")
  mT__law_kept_right:(a "_law_kept_right.table",lamName__law_kept_right)∈F.T
  uT__law_kept_right:∀ p∈F.T,p.1=a "_law_kept_right.table" → p.2=lamName__law_kept_right
  tb_law:LamX.TabB base mg (a "law.code") (a "law.table")
  mT_law:(a "law.table",lamName_law)∈F.T
  uT_law:∀ p∈F.T,p.1=a "law.table" → p.2=lamName_law
section
variable {P:Program} {w:World} {F:Fx} {mg:Str→Option Value} {base:Heap} {a:Str→Addr} {d:Str→FuncData}
theorem bd_Request_1 (T:Txt P w F mg a d):∃ ds,Vals [V.non] ds∧Binds F.K (d "Request.__init__") P_Request___init__ ds :=
  T.m_Request___init__.fn.binds1 3 0 (by simp) rfl fun _ _ _ _ _ _ _ us its h1 h2=>match us,h1,its,h2 with
    | [_,_,_],_,[_],_=>⟨_,rfl,rfl⟩
theorem sc_is_among:FnScope N_is_among P_is_among (defScope st_is_among):=⟨rfl,rfl,rfl,by decide +kernel,rfl,by decide +kernel,by decide +kernel⟩
theorem ok_is_among (T:Txt P w F mg a d):FnG false P w F.K mg base 2 (a "is_among") (d "is_among") P_is_among (spF F 3 (bodyF 3 s_is_among)):=by
  refine def_ok (k:=1) (N:=N_is_among) T.f_is_among.fn sc_is_among fun cdv A outer s H E hr hg=>?_
  have tk:=takes_of (X:=cxOf (L2.CX P w) P w F.K mg base N_is_among "is_among" (defScope st_is_among) (a "is_among") cdv A outer s H E) (E:=E) rfl rfl rfl rfl
  have po:=passes_of (X:=cxOf (L2.CX P w) P w F.K mg base N_is_among "is_among" (defScope st_is_among) (a "is_among") cdv A outer s H E) rfl
  have nd:(cxOf (L2.CX P w) P w F.K mg base N_is_among "is_among" (defScope st_is_among) (a "is_among") cdv A outer s H E).N.Nodup:=sc_is_among.nd
  exact (r_pone (r_ret (r_eand (r_isi (T:=.int) rfl (by decide) rfl T.n_isinstance rfl T.n_int (by decide +kernel) (r_var (pv 0))) (r_eand (r_enot (r_isi (T:=.bl) rfl (by decide) rfl T.n_isinstance rfl T.n_bool (by decide +kernel) (r_var (pv 0)))) (pe_one (r_chain bo_I0 op_le ok_le op_le ok_le (r_var (pv 1)) (r_var (pv 0)) (r_var (pv 2))))))))
theorem c_is_among (T:Txt P w F mg a d):FnG false P w F.K mg base 2 (a "is_among") (d "is_among") P_is_among (spF F 3 F_is_among):=(ok_is_among T).imp fun _ _ _ _ h=>sp_called h
theorem sc_is_name:FnScope N_is_name P_is_name (defScope st_is_name):=⟨rfl,rfl,rfl,by decide +kernel,rfl,by decide +kernel,by decide +kernel⟩
theorem ok_is_name (T:Txt P w F mg a d):FnG false P w F.K mg base 2 (a "is_name") (d "is_name") P_is_name (spF F 1 (bodyF 2 s_is_name)):=by
  refine def_ok (k:=1) (N:=N_is_name) T.f_is_name.fn sc_is_name fun cdv A outer s H E hr hg=>?_
  have tk:=takes_of (X:=cxOf (L2.CX P w) P w F.K mg base N_is_name "is_name" (defScope st_is_name) (a "is_name") cdv A outer s H E) (E:=E) rfl rfl rfl rfl
  have po:=passes_of (X:=cxOf (L2.CX P w) P w F.K mg base N_is_name "is_name" (defScope st_is_name) (a "is_name") cdv A outer s H E) rfl
  have nd:(cxOf (L2.CX P w) P w F.K mg base N_is_name "is_name" (defScope st_is_name) (a "is_name") cdv A outer s H E).N.Nodup:=sc_is_name.nd
  exact (r_pone (r_ret (r_eand (r_isi (T:=.str) rfl (by decide) rfl T.n_isinstance rfl T.n_str (by decide +kernel) (r_var (pv 0))) (r_eand (r_chain bo_I0 op_le ok_le op_le ok_le r_int (r_callB (cr_len rfl) ok_len rfl T.n_len (by decide +kernel) (r_cons (r_var (pv 0)) r_nil)) r_int) (pe_one (r_callB (cr_all rfl) ok_all rfl T.n_all (by decide +kernel) (r_cons (r_lc (own:=[("letter",1)]) (sl:=[1]) (gf:=(gN 1)) rfl nd (ri_str (r_var (pv 0))) (show BlkOk N_is_name (defScope st_is_name) _ [("letter",1)] from ⟨rfl,by decide +kernel,by decide +kernel,by decide +kernel,by decide +kernel⟩) gr_name (by decide) (fun _ _ _ _ _=>(pg_name (i:=1) nd rfl (.inl rfl))) (fun _ _ _ _ _=>rt_nil) (fun _ _ _ _ _=>(r_cmp (or_in (un65 hr) rfl) ok_in (r_var (pv 1)) (r_gstr T.g_LETTERS rfl) rfl))) r_nil)))))))
theorem c_is_name (T:Txt P w F mg a d):FnG false P w F.K mg base 2 (a "is_name") (d "is_name") P_is_name (spF F 1 F_is_name):=(ok_is_name T).imp fun _ _ _ _ h=>sp_called h
theorem sc_is_row:FnScope N_is_row P_is_row (defScope st_is_row):=⟨rfl,rfl,rfl,by decide +kernel,rfl,by decide +kernel,by decide +kernel⟩
theorem ok_is_row (T:Txt P w F mg a d):FnG false P w F.K mg base 2 (a "is_row") (d "is_row") P_is_row (spF F 2 (bodyF 2 s_is_row)):=by
  refine def_ok (k:=1) (N:=N_is_row) T.f_is_row.fn sc_is_row fun cdv A outer s H E hr hg=>?_
  have tk:=takes_of (X:=cxOf (L2.CX P w) P w F.K mg base N_is_row "is_row" (defScope st_is_row) (a "is_row") cdv A outer s H E) (E:=E) rfl rfl rfl rfl
  have po:=passes_of (X:=cxOf (L2.CX P w) P w F.K mg base N_is_row "is_row" (defScope st_is_row) (a "is_row") cdv A outer s H E) rfl
  have nd:(cxOf (L2.CX P w) P w F.K mg base N_is_row "is_row" (defScope st_is_row) (a "is_row") cdv A outer s H E).N.Nodup:=sc_is_row.nd
  exact (r_pone (r_ret (r_eand (r_isi (T:=.tup) rfl (by decide) rfl T.n_isinstance rfl T.n_tuple (by decide +kernel) (r_var (pv 0))) (pe_one (r_cmp (or_eq hr rfl) ok_eq (r_callB (cr_len rfl) ok_len rfl T.n_len (by decide +kernel) (r_cons (r_var (pv 0)) r_nil)) (r_var (pv 1)) (nomark _))))))
theorem c_is_row (T:Txt P w F mg a d):FnG false P w F.K mg base 2 (a "is_row") (d "is_row") P_is_row (spF F 2 F_is_row):=(ok_is_row T).imp fun _ _ _ _ h=>sp_called h
theorem sc_is_setting:FnScope N_is_setting P_is_setting (defScope st_is_setting):=⟨rfl,rfl,rfl,by decide +kernel,rfl,by decide +kernel,by decide +kernel⟩
theorem ok_is_setting (T:Txt P w F mg a d):FnG false P w F.K mg base 4 (a "is_setting") (d "is_setting") P_is_setting (spF F 1 (bodyF 1 s_is_setting)):=by
  refine def_ok (k:=3) (N:=N_is_setting) T.f_is_setting.fn sc_is_setting fun cdv A outer s H E hr hg=>?_
  have tk:=takes_of (X:=cxOf (L2.CX P w) P w F.K mg base N_is_setting "is_setting" (defScope st_is_setting) (a "is_setting") cdv A outer s H E) (E:=E) rfl rfl rfl rfl
  have po:=passes_of (X:=cxOf (L2.CX P w) P w F.K mg base N_is_setting "is_setting" (defScope st_is_setting) (a "is_setting") cdv A outer s H E) rfl
  have nd:(cxOf (L2.CX P w) P w F.K mg base N_is_setting "is_setting" (defScope st_is_setting) (a "is_setting") cdv A outer s H E).N.Nodup:=sc_is_setting.nd
  exact (r_pone (r_ret (r_eand (q_call T.f_is_row (c_is_row T) (fun z=>Bool.noConfusion z) hr rfl tk (r_cons (r_var (pv 0)) (r_cons r_int r_nil)) (len_cons (len_cons len_nil))) (r_eand (q_call T.f_is_name (c_is_name T) (fun z=>Bool.noConfusion z) hr rfl tk (r_cons (r_ix rfl (r_var (pv 0)) r_int (fun _ _=>rfl)) r_nil) (len_cons len_nil)) (pe_one (q_call T.f_is_among (c_is_among T) (fun z=>Bool.noConfusion z) hr rfl tk (r_cons (r_ix rfl (r_var (pv 0)) r_int (fun _ _=>rfl)) (r_cons r_int (r_cons (r_gint T.g_MOST_VALUE rfl) r_nil))) (len_cons (len_cons (len_cons len_nil)))))))))
theorem c_is_setting (T:Txt P w F mg a d):FnG false P w F.K mg base 4 (a "is_setting") (d "is_setting") P_is_setting (spF F 1 F_is_setting):=(ok_is_setting T).imp fun _ _ _ _ h=>sp_called h
theorem sc_names_of:FnScope N_names_of P_names_of (defScope st_names_of):=⟨rfl,rfl,rfl,by decide +kernel,rfl,by decide +kernel,by decide +kernel⟩
theorem ok_names_of (T:Txt P w F mg a d):FnG false P w F.K mg base 2 (a "names_of") (d "names_of") P_names_of (spF F 1 (bodyF 2 s_names_of)):=by
  refine def_ok (k:=1) (N:=N_names_of) T.f_names_of.fn sc_names_of fun cdv A outer s H E hr hg=>?_
  have tk:=takes_of (X:=cxOf (L2.CX P w) P w F.K mg base N_names_of "names_of" (defScope st_names_of) (a "names_of") cdv A outer s H E) (E:=E) rfl rfl rfl rfl
  have po:=passes_of (X:=cxOf (L2.CX P w) P w F.K mg base N_names_of "names_of" (defScope st_names_of) (a "names_of") cdv A outer s H E) rfl
  have nd:(cxOf (L2.CX P w) P w F.K mg base N_names_of "names_of" (defScope st_names_of) (a "names_of") cdv A outer s H E).N.Nodup:=sc_names_of.nd
  exact (r_pone (r_ret (r_lc (own:=[("setting",1)]) (sl:=[1]) (gf:=(gN 1)) rfl nd (ri_tup rfl (r_var (pv 0))) (show BlkOk N_names_of (defScope st_names_of) _ [("setting",1)] from ⟨rfl,by decide +kernel,by decide +kernel,by decide +kernel,by decide +kernel⟩) gr_name (by decide) (fun _ _ _ _ _=>(pg_name (i:=1) nd rfl (.inl rfl))) (fun _ _ _ _ _=>rt_nil) (fun _ _ _ _ _=>(r_ix rfl (r_var (pv 1)) r_int (fun _ _=>rfl))))))
theorem c_names_of (T:Txt P w F mg a d):FnG false P w F.K mg base 2 (a "names_of") (d "names_of") P_names_of (spF F 1 F_names_of):=(ok_names_of T).imp fun _ _ _ _ h=>sp_called h
theorem sc_all_standings:FnScope N_all_standings P_all_standings (defScope st_all_standings):=⟨rfl,rfl,rfl,by decide +kernel,rfl,by decide +kernel,by decide +kernel⟩
theorem ok_all_standings (T:Txt P w F mg a d):FnG false P w F.K mg base 2 (a "all_standings") (d "all_standings") P_all_standings (spF F 1 (bodyF 6 s_all_standings)):=by
  refine def_ok (k:=1) (N:=N_all_standings) T.f_all_standings.fn sc_all_standings fun cdv A outer s H E hr hg=>?_
  have tk:=takes_of (X:=cxOf (L2.CX P w) P w F.K mg base N_all_standings "all_standings" (defScope st_all_standings) (a "all_standings") cdv A outer s H E) (E:=E) rfl rfl rfl rfl
  have po:=passes_of (X:=cxOf (L2.CX P w) P w F.K mg base N_all_standings "all_standings" (defScope st_all_standings) (a "all_standings") cdv A outer s H E) rfl
  have nd:(cxOf (L2.CX P w) P w F.K mg base N_all_standings "all_standings" (defScope st_all_standings) (a "all_standings") cdv A outer s H E).N.Nodup:=sc_all_standings.nd
  exact (r_pcons (r_set (i:=1) nd rfl (.inl rfl) (r_lst (r_cons (r_tup r_nil) r_nil)))
  (r_pcons (r_for po rfl (ri_tup rfl (r_var (pv 0))) (go_mk (sl:=[2,3]) (pg_tup rfl (pgs_cons (pg_name (i:=2) nd rfl (.inl rfl)) (pgs_cons (pg_name (i:=3) nd rfl (.inr rfl)) pgs_nil))) (gr_tup rfl (grs_cons gr_name (grs_cons gr_name grs_nil)))) (r_pone (r_setLc2 (i:=1) (own:=[("row",4),("value",5)]) (vs1:=[5]) (sl:=[4]) (sl1:=[5]) (gf:=(gN 4)) (gf1:=(gN 5)) rfl nd rfl rfl rfl (ri_lst rfl (r_var (pv 1))) (show BlkOk N_all_standings (defScope st_all_standings) _ [("row",4),("value",5)] from ⟨rfl,by decide +kernel,by decide +kernel,by decide +kernel,by decide +kernel⟩) (by decide) gr_name (by decide) gr_name (by decide) (fun _ _ _ _ _=>(pg_name (i:=4) nd rfl (.inl rfl))) (fun _ _ _ _ _=>rt_nil) (fun _ _ _ _ _=>(ri_range1 rfl T.n_range (r_cons (r_bin (or_add rfl) ok_add (r_var (pv 3)) r_int) r_nil))) (fun _ _ _ _ _=>(pg_name (i:=5) nd rfl (.inl rfl))) (fun _ _ _ _ _=>rt_nil) (fun _ _ _ _ _=>(r_tup (r_star rfl (r_var (pv 4)) (r_cons (r_var (pv 5)) r_nil)))))))
  (r_pone (r_ret (r_var (pv 1))))))
theorem c_all_standings (T:Txt P w F mg a d):FnG false P w F.K mg base 2 (a "all_standings") (d "all_standings") P_all_standings (spF F 1 F_all_standings):=(ok_all_standings T).imp fun _ _ _ _ h=>sp_called h
theorem sc_need_settings:FnScope N_need_settings P_need_settings (defScope st_need_settings):=⟨rfl,rfl,rfl,by decide +kernel,rfl,by decide +kernel,by decide +kernel⟩
theorem ok_need_settings (T:Txt P w F mg a d):FnG false P w F.K mg base 6 (a "need_settings") (d "need_settings") P_need_settings (spF F 1 (bodyF 3 s_need_settings)):=by
  refine def_ok (k:=5) (N:=N_need_settings) T.f_need_settings.fn sc_need_settings fun cdv A outer s H E hr hg=>?_
  have tk:=takes_of (X:=cxOf (L2.CX P w) P w F.K mg base N_need_settings "need_settings" (defScope st_need_settings) (a "need_settings") cdv A outer s H E) (E:=E) rfl rfl rfl rfl
  have po:=passes_of (X:=cxOf (L2.CX P w) P w F.K mg base N_need_settings "need_settings" (defScope st_need_settings) (a "need_settings") cdv A outer s H E) rfl
  have nd:(cxOf (L2.CX P w) P w F.K mg base N_need_settings "need_settings" (defScope st_need_settings) (a "need_settings") cdv A outer s H E).N.Nodup:=sc_need_settings.nd
  exact (r_pcons (r_sif (PW.pt (r_or (r_not (r_test (r_isi (T:=.tup) rfl (by decide) rfl T.n_isinstance rfl T.n_tuple (by decide +kernel) (r_var (pv 0))))) (pw_or1 (r_not (r_chainT bo_I0 op_le ok_le op_le ok_le r_int (r_callB (cr_len rfl) ok_len rfl T.n_len (by decide +kernel) (r_cons (r_var (pv 0)) r_nil)) (r_gint T.g_MOST_SETTINGS rfl)))))) (r_pone (r_raise T.x0 rfl hr tk r_non rfl)) r_pnil)
  (r_pcons (r_for po rfl (ri_enumT rfl rfl T.n_enumerate (r_var (pv 0))) (go_mk (sl:=[1,2]) (pg_tup rfl (pgs_cons (pg_name (i:=1) nd rfl (.inl rfl)) (pgs_cons (pg_name (i:=2) nd rfl (.inl rfl)) pgs_nil))) (gr_tup rfl (grs_cons gr_name (grs_cons gr_name grs_nil)))) (r_pone (r_sif (PW.pt (r_or (r_not (r_test (q_call T.f_is_setting (c_is_setting T) (fun z=>Bool.noConfusion z) hr rfl tk (r_cons (r_var (pv 2)) r_nil) (len_cons len_nil)))) (pw_or1 (r_cmpT (or_in (un65 hr) rfl) ok_in (r_ix rfl (r_var (pv 2)) r_int (fun _ _=>rfl)) (q_call T.f_names_of (c_names_of T) (fun z=>Bool.noConfusion z) hr rfl tk (r_cons (r_sl rfl (r_var (pv 0)) ro_none (ro_some (r_var (pv 1)))) r_nil) (len_cons len_nil)) rfl)))) (r_pone (r_raise T.x0 rfl hr tk (r_var (pv 1)) rfl)) r_pnil)))
  (r_pcons (r_sif (r_cmpT op_gt ok_gt (r_callB (cr_len rfl) ok_len rfl T.n_len (by decide +kernel) (r_cons (q_call T.f_all_standings (c_all_standings T) (fun z=>Bool.noConfusion z) hr rfl tk (r_cons (r_var (pv 0)) r_nil) (len_cons len_nil)) r_nil)) (r_gint T.g_MOST_STANDINGS rfl) (nomark _)) (r_pone (r_raise T.x0 rfl hr tk r_str rfl)) r_pnil)
  (r_pone (r_ret (r_var (pv 0)))))))
theorem c_need_settings (T:Txt P w F mg a d):FnG false P w F.K mg base 6 (a "need_settings") (d "need_settings") P_need_settings (spF F 1 F_need_settings):=(ok_need_settings T).imp fun _ _ _ _ h=>sp_called h
theorem sc_is_place:FnScope N_is_place P_is_place (defScope st_is_place):=⟨rfl,rfl,rfl,by decide +kernel,rfl,by decide +kernel,by decide +kernel⟩
theorem ok_is_place (T:Txt P w F mg a d):FnG false P w F.K mg base 4 (a "is_place") (d "is_place") P_is_place (spF F 3 (bodyF 5 s_is_place)):=by
  refine def_ok (k:=3) (N:=N_is_place) T.f_is_place.fn sc_is_place fun cdv A outer s H E hr hg=>?_
  have tk:=takes_of (X:=cxOf (L2.CX P w) P w F.K mg base N_is_place "is_place" (defScope st_is_place) (a "is_place") cdv A outer s H E) (E:=E) rfl rfl rfl rfl
  have po:=passes_of (X:=cxOf (L2.CX P w) P w F.K mg base N_is_place "is_place" (defScope st_is_place) (a "is_place") cdv A outer s H E) rfl
  have nd:(cxOf (L2.CX P w) P w F.K mg base N_is_place "is_place" (defScope st_is_place) (a "is_place") cdv A outer s H E).N.Nodup:=sc_is_place.nd
  exact (r_pcons (r_sif (PW.pt (r_and (r_test (r_isi (T:=.tup) rfl (by decide) rfl T.n_isinstance rfl T.n_tuple (by decide +kernel) (r_var (pv 1)))) (pw_and1 (r_cmpT (or_eqS (un1 hr) rfl) ok_eqS (r_var (pv 1)) (r_gtup T.g_END rfl) (nomark _))))) (r_pone (r_ret r_bl)) r_pnil)
  (r_pcons (r_sif (PW.pt (r_or (r_not (r_test (q_call T.f_is_row (c_is_row T) (fun z=>Bool.noConfusion z) hr rfl tk (r_cons (r_var (pv 1)) (r_cons r_int r_nil)) (len_cons (len_cons len_nil))))) (r_or (r_not (r_test (r_isi (T:=.str) rfl (by decide) rfl T.n_isinstance rfl T.n_str (by decide +kernel) (r_ix rfl (r_var (pv 1)) r_int (fun _ _=>rfl))))) (pw_or1 (r_not (r_test (r_isi (T:=.str) rfl (by decide) rfl T.n_isinstance rfl T.n_str (by decide +kernel) (r_ix rfl (r_var (pv 1)) r_int (fun _ _=>rfl))))))))) (r_pone (r_ret r_bl)) r_pnil)
  (r_pcons (r_sif (r_cmpT (or_eq hr rfl) ok_eq (r_ix rfl (r_var (pv 1)) r_int (fun _ _=>rfl)) (r_gstr T.g_DO rfl) (nomark _)) (r_pone (r_ret (r_eand (q_call T.f_is_name (c_is_name T) (fun z=>Bool.noConfusion z) hr rfl tk (r_cons (r_ix rfl (r_var (pv 1)) r_int (fun _ _=>rfl)) r_nil) (len_cons len_nil)) (pe_one (q_call T.f_is_among (c_is_among T) (fun z=>Bool.noConfusion z) hr rfl tk (r_cons (r_ix rfl (r_var (pv 1)) r_int (fun _ _=>rfl)) (r_cons r_int (r_cons (r_bin op_sub ok_sub (r_var (pv 2)) r_int) r_nil))) (len_cons (len_cons (len_cons len_nil)))))))) r_pnil)
  (r_pcons (r_sif (PW.pt (r_or (r_cmpT (or_ne hr rfl) ok_ne (r_ix rfl (r_var (pv 1)) r_int (fun _ _=>rfl)) (r_gstr T.g_ASK rfl) (nomark _)) (pw_or1 (r_cmpT (or_notin (un65 hr) rfl) ok_notin (r_ix rfl (r_var (pv 1)) r_int (fun _ _=>rfl)) (q_call T.f_names_of (c_names_of T) (fun z=>Bool.noConfusion z) hr rfl tk (r_cons (r_co (r_var (pv 0))) r_nil) (len_cons len_nil)) rfl)))) (r_pone (r_ret r_bl)) r_pnil)
  (r_pcons (r_set (i:=3) nd rfl (.inl rfl) (r_dgetD (un1 hr) (r_callTy (call_dictT rfl rfl) ok_dictT rfl T.n_dict (by decide +kernel) (r_cons (r_var (pv 0)) r_nil)) (r_ix rfl (r_var (pv 1)) r_int (fun _ _=>rfl)) (fun _ _=>rfl)))
  (r_pone (r_ret (r_eand (q_call T.f_is_row (c_is_row T) (fun z=>Bool.noConfusion z) hr rfl tk (r_cons (r_ix rfl (r_var (pv 1)) r_int (fun _ _=>rfl)) (r_cons (r_bin (or_add rfl) ok_add (r_var (pv 3)) r_int) r_nil)) (len_cons (len_cons len_nil))) (pe_one (r_callB (cr_all rfl) ok_all rfl T.n_all (by decide +kernel) (r_cons (r_lc (own:=[("number",4)]) (sl:=[4]) (gf:=(gN 4)) rfl nd (ri_tup rfl (r_ix rfl (r_var (pv 1)) r_int (fun _ _=>rfl))) (show BlkOk N_is_place (defScope st_is_place) _ [("number",4)] from ⟨rfl,by decide +kernel,by decide +kernel,by decide +kernel,by decide +kernel⟩) gr_name (by decide) (fun _ _ _ _ _=>(pg_name (i:=4) nd rfl (.inl rfl))) (fun _ _ _ _ _=>rt_nil) (fun _ _ _ _ _=>(q_call T.f_is_among (c_is_among T) (fun z=>Bool.noConfusion z) hr rfl LamX.takes0 (r_cons (r_var (pv 4)) (r_cons r_int (r_cons (r_bin op_sub ok_sub (r_var (pv 2)) r_int) r_nil))) (len_cons (len_cons (len_cons len_nil)))))) r_nil)))))))))))
theorem c_is_place (T:Txt P w F mg a d):FnG false P w F.K mg base 4 (a "is_place") (d "is_place") P_is_place (spF F 3 F_is_place):=(ok_is_place T).imp fun _ _ _ _ h=>sp_called h
theorem sc_need_places:FnScope N_need_places P_need_places (defScope st_need_places):=⟨rfl,rfl,rfl,by decide +kernel,rfl,by decide +kernel,by decide +kernel⟩
theorem ok_need_places (T:Txt P w F mg a d):FnG false P w F.K mg base 6 (a "need_places") (d "need_places") P_need_places (spF F 2 (bodyF 4 s_need_places)):=by
  refine def_ok (k:=5) (N:=N_need_places) T.f_need_places.fn sc_need_places fun cdv A outer s H E hr hg=>?_
  have tk:=takes_of (X:=cxOf (L2.CX P w) P w F.K mg base N_need_places "need_places" (defScope st_need_places) (a "need_places") cdv A outer s H E) (E:=E) rfl rfl rfl rfl
  have po:=passes_of (X:=cxOf (L2.CX P w) P w F.K mg base N_need_places "need_places" (defScope st_need_places) (a "need_places") cdv A outer s H E) rfl
  have nd:(cxOf (L2.CX P w) P w F.K mg base N_need_places "need_places" (defScope st_need_places) (a "need_places") cdv A outer s H E).N.Nodup:=sc_need_places.nd
  exact (r_pcons (r_sif (PW.pt (r_or (r_not (r_test (r_isi (T:=.tup) rfl (by decide) rfl T.n_isinstance rfl T.n_tuple (by decide +kernel) (r_var (pv 1))))) (pw_or1 (r_not (r_chainT bo_I0 op_le ok_le op_le ok_le r_int (r_callB (cr_len rfl) ok_len rfl T.n_len (by decide +kernel) (r_cons (r_var (pv 1)) r_nil)) (r_gint T.g_MOST_PLACES rfl)))))) (r_pone (r_raise T.x2 rfl hr tk r_non rfl)) r_pnil)
  (r_pone (r_for po rfl (ri_enumT rfl rfl T.n_enumerate (r_var (pv 1))) (go_mk (sl:=[2,3]) (pg_tup rfl (pgs_cons (pg_name (i:=2) nd rfl (.inl rfl)) (pgs_cons (pg_name (i:=3) nd rfl (.inl rfl)) pgs_nil))) (gr_tup rfl (grs_cons gr_name (grs_cons gr_name grs_nil)))) (r_pone (r_sif (r_not (r_test (q_call T.f_is_place (c_is_place T) (fun z=>Bool.noConfusion z) hr rfl tk (r_cons (r_var (pv 0)) (r_cons (r_var (pv 3)) (r_cons (r_callB (cr_len rfl) ok_len rfl T.n_len (by decide +kernel) (r_cons (r_var (pv 1)) r_nil)) r_nil))) (len_cons (len_cons (len_cons len_nil)))))) (r_pone (r_raise T.x2 rfl hr tk (r_var (pv 2)) rfl)) r_pnil)))))
theorem c_need_places (T:Txt P w F mg a d):FnG false P w F.K mg base 6 (a "need_places") (d "need_places") P_need_places (spF F 2 F_need_places):=(ok_need_places T).imp fun _ _ _ _ h=>sp_called h
theorem sc_need_modes:FnScope N_need_modes P_need_modes (defScope st_need_modes):=⟨rfl,rfl,rfl,by decide +kernel,rfl,by decide +kernel,by decide +kernel⟩
theorem ok_need_modes (T:Txt P w F mg a d):FnG false P w F.K mg base 4 (a "need_modes") (d "need_modes") P_need_modes (spF F 2 (bodyF 4 s_need_modes)):=by
  refine def_ok (k:=3) (N:=N_need_modes) T.f_need_modes.fn sc_need_modes fun cdv A outer s H E hr hg=>?_
  have tk:=takes_of (X:=cxOf (L2.CX P w) P w F.K mg base N_need_modes "need_modes" (defScope st_need_modes) (a "need_modes") cdv A outer s H E) (E:=E) rfl rfl rfl rfl
  have po:=passes_of (X:=cxOf (L2.CX P w) P w F.K mg base N_need_modes "need_modes" (defScope st_need_modes) (a "need_modes") cdv A outer s H E) rfl
  have nd:(cxOf (L2.CX P w) P w F.K mg base N_need_modes "need_modes" (defScope st_need_modes) (a "need_modes") cdv A outer s H E).N.Nodup:=sc_need_modes.nd
  exact (r_pcons (r_sif (r_not (r_test (q_call T.f_is_row (c_is_row T) (fun z=>Bool.noConfusion z) hr rfl tk (r_cons (r_var (pv 1)) (r_cons (r_callB (cr_len rfl) ok_len rfl T.n_len (by decide +kernel) (r_cons (r_var (pv 0)) r_nil)) r_nil)) (len_cons (len_cons len_nil))))) (r_pone (r_raise T.x3 rfl hr tk r_non rfl)) r_pnil)
  (r_pone (r_for po rfl (ri_enumT rfl rfl T.n_enumerate (r_var (pv 1))) (go_mk (sl:=[2,3]) (pg_tup rfl (pgs_cons (pg_name (i:=2) nd rfl (.inl rfl)) (pgs_cons (pg_name (i:=3) nd rfl (.inl rfl)) pgs_nil))) (gr_tup rfl (grs_cons gr_name (grs_cons gr_name grs_nil)))) (r_pone (r_sif (PW.pt (r_or (r_not (r_test (r_isi (T:=.str) rfl (by decide) rfl T.n_isinstance rfl T.n_str (by decide +kernel) (r_var (pv 3))))) (pw_or1 (r_cmpT (or_notinT rfl) (ok_inT true) (r_var (pv 3)) (r_gtup T.g_MODES rfl) rfl)))) (r_pone (r_raise T.x3 rfl hr tk (r_var (pv 2)) rfl)) r_pnil)))))
theorem c_need_modes (T:Txt P w F mg a d):FnG false P w F.K mg base 4 (a "need_modes") (d "need_modes") P_need_modes (spF F 2 F_need_modes):=(ok_need_modes T).imp fun _ _ _ _ h=>sp_called h
theorem sc_Request___init__:FnScope N_Request___init__ P_Request___init__ (defScope st_Request___init__):=⟨rfl,rfl,rfl,by decide +kernel,rfl,by decide +kernel,by decide +kernel⟩
theorem ok_Request___init__ (T:Txt P w F mg a d):FnG false P w F.K mg base 8 (a "Request.__init__") (d "Request.__init__") P_Request___init__ (spF F 4 (bodyF 5 s_Request___init__)):=by
  refine def_okM (k:=7) (N:=N_Request___init__) T.m_Request___init__.fn sc_Request___init__ fun cdv A outer s H E hr hg=>?_
  have tk:=takes_of (X:=cxOf (L2.CX P w) P w F.K mg base N_Request___init__ "Request.__init__" (defScope st_Request___init__) (a "Request.__init__") cdv A outer s H E) (E:=E) rfl rfl rfl rfl
  have po:=passes_of (X:=cxOf (L2.CX P w) P w F.K mg base N_Request___init__ "Request.__init__" (defScope st_Request___init__) (a "Request.__init__") cdv A outer s H E) rfl
  have nd:(cxOf (L2.CX P w) P w F.K mg base N_Request___init__ "Request.__init__" (defScope st_Request___init__) (a "Request.__init__") cdv A outer s H E).N.Nodup:=sc_Request___init__.nd
  exact (r_pcons (r_expr (q_call T.f_need_settings (c_need_settings T) (fun z=>Bool.noConfusion z) hr rfl tk (r_cons (r_co (r_var (pv 1))) r_nil) (len_cons len_nil)))
  (r_pcons (r_expr (q_call T.f_need_places (c_need_places T) (fun z=>Bool.noConfusion z) hr rfl tk (r_cons (r_var (pv 1)) (r_cons (r_var (pv 2)) r_nil)) (len_cons (len_cons len_nil))))
  (r_pcons (r_set (i:=4) nd rfl (.inl rfl) (r_if (r_cmpT op_isN ok_is (r_var (pv 3)) r_non (nomark _)) (r_bin (or_mul rfl) ok_mul (r_tup (r_cons (r_gstr T.g_LIVE rfl) r_nil)) (r_callB (cr_len rfl) ok_len rfl T.n_len (by decide +kernel) (r_cons (r_co (r_var (pv 1))) r_nil))) (r_var (pv 3))))
  (r_pcons (r_expr (q_call T.f_need_modes (c_need_modes T) (fun z=>Bool.noConfusion z) hr rfl tk (r_cons (r_co (r_var (pv 1))) (r_cons (r_var (pv 4)) r_nil)) (len_cons (len_cons len_nil))))
  (r_pcons (r_fldput rfl T.cl_Request T.nf_Request_settings (r_var (pv 0)) (r_var (pv 1)))
  (r_pcons (r_fldput rfl T.cl_Request T.nf_Request_places (r_var (pv 0)) (r_var (pv 2)))
  (r_pone (r_fldput rfl T.cl_Request T.nf_Request_modes (r_var (pv 0)) (r_var (pv 4))))))))))
theorem c_Request___init__ (T:Txt P w F mg a d):FnG false P w F.K mg base 8 (a "Request.__init__") (d "Request.__init__") P_Request___init__ (spF F 4 F_Request___init__):=ok_Request___init__ T
theorem sc_Request___len__:FnScope N_Request___len__ P_Request___len__ (defScope st_Request___len__):=⟨rfl,rfl,rfl,by decide +kernel,rfl,by decide +kernel,by decide +kernel⟩
theorem ok_Request___len__ (T:Txt P w F mg a d):FnG false P w F.K mg base 2 (a "Request.__len__") (d "Request.__len__") P_Request___len__ (spF F 1 (bodyF 1 s_Request___len__)):=by
  refine def_okM (k:=1) (N:=N_Request___len__) T.m_Request___len__.fn sc_Request___len__ fun cdv A outer s H E hr hg=>?_
  have tk:=takes_of (X:=cxOf (L2.CX P w) P w F.K mg base N_Request___len__ "Request.__len__" (defScope st_Request___len__) (a "Request.__len__") cdv A outer s H E) (E:=E) rfl rfl rfl rfl
  have po:=passes_of (X:=cxOf (L2.CX P w) P w F.K mg base N_Request___len__ "Request.__len__" (defScope st_Request___len__) (a "Request.__len__") cdv A outer s H E) rfl
  have nd:(cxOf (L2.CX P w) P w F.K mg base N_Request___len__ "Request.__len__" (defScope st_Request___len__) (a "Request.__len__") cdv A outer s H E).N.Nodup:=sc_Request___len__.nd
  exact (r_pone (r_ret (r_callB (cr_len rfl) ok_len rfl T.n_len (by decide +kernel) (r_cons (r_fld rfl T.cl_Request T.nf_Request_places (r_var (pv 0))) r_nil))))
theorem c_Request___len__ (T:Txt P w F mg a d):FnG false P w F.K mg base 2 (a "Request.__len__") (d "Request.__len__") P_Request___len__ (spF F 1 F_Request___len__):=(ok_Request___len__ T).imp fun _ _ _ _ h=>sp_called h
theorem sc_Request___eq__:FnScope N_Request___eq__ P_Request___eq__ (defScope st_Request___eq__):=⟨rfl,rfl,rfl,by decide +kernel,rfl,by decide +kernel,by decide +kernel⟩
theorem ok_Request___eq__ (T:Txt P w F mg a d):FnG false P w F.K mg base 2 (a "Request.__eq__") (d "Request.__eq__") P_Request___eq__ (spF F 2 (bodyF 2 s_Request___eq__)):=by
  refine def_okM (k:=1) (N:=N_Request___eq__) T.m_Request___eq__.fn sc_Request___eq__ fun cdv A outer s H E hr hg=>?_
  have tk:=takes_of (X:=cxOf (L2.CX P w) P w F.K mg base N_Request___eq__ "Request.__eq__" (defScope st_Request___eq__) (a "Request.__eq__") cdv A outer s H E) (E:=E) rfl rfl rfl rfl
  have po:=passes_of (X:=cxOf (L2.CX P w) P w F.K mg base N_Request___eq__ "Request.__eq__" (defScope st_Request___eq__) (a "Request.__eq__") cdv A outer s H E) rfl
  have nd:(cxOf (L2.CX P w) P w F.K mg base N_Request___eq__ "Request.__eq__" (defScope st_Request___eq__) (a "Request.__eq__") cdv A outer s H E).N.Nodup:=sc_Request___eq__.nd
  exact (r_pcons (r_sif (r_not (r_test (r_isiC rfl T.is_Request rfl T.n_isinstance rfl T.g_Request (r_var (pv 1))))) (r_pone (r_ret r_bl)) r_pnil)
  (r_pone (r_ret (r_cmp (or_eq hr rfl) ok_eq (r_tup (r_cons (r_co (r_fld rfl T.cl_Request T.nf_Request_settings (r_var (pv 0)))) (r_cons (r_fld rfl T.cl_Request T.nf_Request_places (r_var (pv 0))) (r_cons (r_fld rfl T.cl_Request T.nf_Request_modes (r_var (pv 0))) r_nil)))) (r_tup (r_cons (r_co (r_fld rfl T.cl_Request T.nf_Request_settings (r_var (pv 1)))) (r_cons (r_fld rfl T.cl_Request T.nf_Request_places (r_var (pv 1))) (r_cons (r_fld rfl T.cl_Request T.nf_Request_modes (r_var (pv 1))) r_nil)))) (nomark _)))))
theorem c_Request___eq__ (T:Txt P w F mg a d):FnG false P w F.K mg base 2 (a "Request.__eq__") (d "Request.__eq__") P_Request___eq__ (spF F 2 F_Request___eq__):=(ok_Request___eq__ T).imp fun _ _ _ _ h=>sp_called h
theorem sc_Request_with_modes:FnScope N_Request_with_modes P_Request_with_modes (defScope st_Request_with_modes):=⟨rfl,rfl,rfl,by decide +kernel,rfl,by decide +kernel,by decide +kernel⟩
theorem ok_Request_with_modes (T:Txt P w F mg a d):FnG false P w F.K mg base 11 (a "Request.with_modes") (d "Request.with_modes") P_Request_with_modes (spF F 2 (bodyF 2 s_Request_with_modes)):=by
  refine def_okM (k:=10) (N:=N_Request_with_modes) T.m_Request_with_modes.fn sc_Request_with_modes fun cdv A outer s H E hr hg=>?_
  have tk:=takes_of (X:=cxOf (L2.CX P w) P w F.K mg base N_Request_with_modes "Request.with_modes" (defScope st_Request_with_modes) (a "Request.with_modes") cdv A outer s H E) (E:=E) rfl rfl rfl rfl
  have po:=passes_of (X:=cxOf (L2.CX P w) P w F.K mg base N_Request_with_modes "Request.with_modes" (defScope st_Request_with_modes) (a "Request.with_modes") cdv A outer s H E) rfl
  have nd:(cxOf (L2.CX P w) P w F.K mg base N_Request_with_modes "Request.with_modes" (defScope st_Request_with_modes) (a "Request.with_modes") cdv A outer s H E).N.Nodup:=sc_Request_with_modes.nd
  exact (r_pcons (r_expr (q_call T.f_need_modes (c_need_modes T) (fun z=>Bool.noConfusion z) hr rfl tk (r_cons (r_co (r_fld rfl T.cl_Request T.nf_Request_settings (r_var (pv 0)))) (r_cons (r_var (pv 1)) r_nil)) (len_cons (len_cons len_nil))))
  (r_pone (r_ret (r_make (dd:=[]) (dv:=[]) rfl T.mk_Request (c_Request___init__ T) (fun z=>Bool.noConfusion z) hr rfl T.g_Request T.m_Request___init__.b .nil (fun _ _=>.nil) (fun _ _ _ _ h=>sp_called h) tk (r_cons (r_fld rfl T.cl_Request T.nf_Request_settings (r_var (pv 0))) (r_cons (r_fld rfl T.cl_Request T.nf_Request_places (r_var (pv 0))) (r_cons (r_var (pv 1)) r_nil))) (len_cons (len_cons (len_cons len_nil)))))))
theorem c_Request_with_modes (T:Txt P w F mg a d):FnG false P w F.K mg base 11 (a "Request.with_modes") (d "Request.with_modes") P_Request_with_modes (spF F 2 F_Request_with_modes):=(ok_Request_with_modes T).imp fun _ _ _ _ h=>sp_called h
theorem sc_Request_keeping:FnScope N_Request_keeping P_Request_keeping (defScope st_Request_keeping):=⟨rfl,rfl,rfl,by decide +kernel,rfl,by decide +kernel,by decide +kernel⟩
theorem c_Request_keeping (T:Txt P w F mg a d):FnKW P w F.K mg base 13 "self" (a "Request.keeping") (spF F 2 F_Request_keeping):=by
  refine FnKW.imp (def_okW (k:=12) (N:=N_Request_keeping) (g:=s_Request_keeping) T.m_Request_keeping sc_Request_keeping fun cdv A outer s H E hr=>?_) fun _ _ _ _ h=>sp_called h
  have tk:=takes_of (X:=cxOf (L2.CX P w) P w F.K mg base N_Request_keeping "Request.keeping" (defScope st_Request_keeping) (a "Request.keeping") cdv A outer s H E) (E:=E) rfl rfl rfl rfl
  have po:=passes_of (X:=cxOf (L2.CX P w) P w F.K mg base N_Request_keeping "Request.keeping" (defScope st_Request_keeping) (a "Request.keeping") cdv A outer s H E) rfl
  have nd:(cxOf (L2.CX P w) P w F.K mg base N_Request_keeping "Request.keeping" (defScope st_Request_keeping) (a "Request.keeping") cdv A outer s H E).N.Nodup:=sc_Request_keeping.nd
  exact (r_pcons (r_set (i:=2) nd rfl (.inl rfl) (q_call T.f_names_of (c_names_of T) (fun z=>Bool.noConfusion z) hr rfl tk (r_cons (r_co (r_fld rfl T.cl_Request T.nf_Request_settings (r_var (pv 0)))) r_nil) (len_cons len_nil)))
  (r_pcons (r_for po rfl (ri_dfk (r_var (pv 1))) (go_mk (sl:=[3]) (pg_name (i:=3) nd rfl (.inl rfl)) gr_name) (r_pone (r_sif (r_cmpT (or_notin (un65 hr) rfl) ok_notin (r_var (pv 3)) (r_var (pv 2)) rfl) (r_pone (r_raise T.x16 rfl hr tk (r_var (pv 3)) rfl)) r_pnil)))
  (r_pcons (r_for po rfl (ri_dfi (r_var (pv 1))) (go_mk (sl:=[3,4]) (pg_tup rfl (pgs_cons (pg_name (i:=3) nd rfl (.inl rfl)) (pgs_cons (pg_name (i:=4) nd rfl (.inl rfl)) pgs_nil))) (gr_tup rfl (grs_cons gr_name (grs_cons gr_name grs_nil)))) (r_pone (r_sif (PW.pt (r_or (r_not (r_test (r_isi (T:=.str) rfl (by decide) rfl T.n_isinstance rfl T.n_str (by decide +kernel) (r_var (pv 4))))) (pw_or1 (r_cmpT (or_notinT rfl) (ok_inT true) (r_var (pv 4)) (r_gtup T.g_MODES rfl) rfl)))) (r_pone (r_raise T.x3 rfl hr tk (r_var (pv 3)) rfl)) r_pnil)))
  (r_pone (r_ret (r_mtd rfl T.cl_Request T.m_Request_with_modes.me (c_Request_with_modes T) (fun z=>Bool.noConfusion z) hr T.m_Request_with_modes.b tk (r_var (pv 0)) (r_cons (r_callTy call_tuple_of ok_tuple rfl T.n_tuple (by decide +kernel) (r_cons (r_lc (own:=[("name",3),("mode",4)]) (sl:=[3,4]) (gf:=(gT 2 (gsCons (gN 3) (gsCons (gN 4) gsNil)))) rfl nd (ri_zip (k1:=false) (k2:=true) rfl rfl T.n_zip (r_var (pv 2)) (r_fld rfl T.cl_Request T.nf_Request_modes (r_var (pv 0)))) (show BlkOk N_Request_keeping (defScope st_Request_keeping) _ [("name",3),("mode",4)] from ⟨rfl,by decide +kernel,by decide +kernel,by decide +kernel,by decide +kernel⟩) (gr_tup rfl (grs_cons gr_name (grs_cons gr_name grs_nil))) (by decide) (fun _ _ _ _ _=>(pg_tup rfl (pgs_cons (pg_name (i:=3) nd rfl (.inl rfl)) (pgs_cons (pg_name (i:=4) nd rfl (.inl rfl)) pgs_nil)))) (fun _ _ _ _ _=>rt_nil) (fun _ _ _ _ _=>(r_dfget2 (un1 hr) (r_var (pv 1)) (r_var (pv 3)) (r_var (pv 4))))) r_nil)) r_nil) (len_cons len_nil)))))))
theorem sc__law_begun:FnScope N__law_begun P__law_begun (defScope st__law_begun):=⟨rfl,rfl,rfl,by decide +kernel,rfl,by decide +kernel,by decide +kernel⟩
theorem ok__law_begun (T:Txt P w F mg a d):FnG false P w F.K mg base 2 (a "_law_begun") (d "_law_begun") P__law_begun (spF F 1 (bodyF 2 s__law_begun)):=by
  refine def_ok (k:=1) (N:=N__law_begun) T.f__law_begun.fn sc__law_begun fun cdv A outer s H E hr hg=>?_
  have tk:=takes_of (X:=cxOf (L2.CX P w) P w F.K mg base N__law_begun "_law_begun" (defScope st__law_begun) (a "_law_begun") cdv A outer s H E) (E:=E) rfl rfl rfl rfl
  have po:=passes_of (X:=cxOf (L2.CX P w) P w F.K mg base N__law_begun "_law_begun" (defScope st__law_begun) (a "_law_begun") cdv A outer s H E) rfl
  have nd:(cxOf (L2.CX P w) P w F.K mg base N__law_begun "_law_begun" (defScope st__law_begun) (a "_law_begun") cdv A outer s H E).N.Nodup:=sc__law_begun.nd
  exact (r_pone (r_ret (r_disp3 (by decide +kernel) (by decide +kernel) (by decide +kernel) (r_callTy call_list_of ok_listN rfl T.n_list (by decide +kernel) (r_cons (r_var (pv 0)) r_nil)) (r_lcN (own:=[("cell",1)]) (sl:=[1]) (gf:=(gN 1)) rfl nd (ri_scr rfl (r_var (pv 0))) (show BlkOk N__law_begun (defScope st__law_begun) _ [("cell",1)] from ⟨rfl,by decide +kernel,by decide +kernel,by decide +kernel,by decide +kernel⟩) gr_name (by decide) (fun _ _ _ _ _=>(pg_name (i:=1) nd rfl (.inl rfl))) (fun _ _ _ _ _=>(rt_one (r_cmpT op_ge ok_ge (r_var (pv 1)) (r_bin op_pow ok_pow r_int r_int) (nomark _)))) (fun _ _ _ _ _=>(r_var (pv 1)))) r_int)))
theorem c__law_begun (T:Txt P w F mg a d):FnG false P w F.K mg base 2 (a "_law_begun") (d "_law_begun") P__law_begun (spF F 1 F__law_begun):=(ok__law_begun T).imp fun _ _ _ _ h=>sp_begun begun_ok h
theorem sc__law_next:FnScope N__law_next P__law_next (defScope st__law_next):=⟨rfl,rfl,rfl,by decide +kernel,rfl,by decide +kernel,by decide +kernel⟩
theorem ok__law_next (T:Txt P w F mg a d):FnG false P w F.K mg base 2 (a "_law_next") (d "_law_next") P__law_next (spF F 2 (bodyF 7 s__law_next)):=by
  refine def_ok (k:=1) (N:=N__law_next) T.f__law_next.fn sc__law_next fun cdv A outer s H E hr hg=>?_
  have tk:=takes_of (X:=cxOf (L2.CX P w) P w F.K mg base N__law_next "_law_next" (defScope st__law_next) (a "_law_next") cdv A outer s H E) (E:=E) rfl rfl rfl rfl
  have po:=passes_of (X:=cxOf (L2.CX P w) P w F.K mg base N__law_next "_law_next" (defScope st__law_next) (a "_law_next") cdv A outer s H E) rfl
  have nd:(cxOf (L2.CX P w) P w F.K mg base N__law_next "_law_next" (defScope st__law_next) (a "_law_next") cdv A outer s H E).N.Nodup:=sc__law_next.nd
  exact (r_pcons (r_while 100 po (PW.pt (r_and (r_cmpT (or_ne hr rfl) ok_ne (r_dget (un1 hr) (r_var (pv 0)) r_str (fun _ _=>rfl)) (r_lst r_nil) (nomark _)) (pw_and1 (r_cmpT (or_eq hr rfl) ok_eq (r_ix rfl (r_dget (un1 hr) (r_var (pv 0)) r_str (fun _ _=>rfl)) r_int (fun _ _=>rfl)) r_int (nomark _))))) (r_pone (r_dput (un1 hr) (r_var (pv 0)) r_str (r_slR rfl (r_dget (un1 hr) (r_var (pv 0)) r_str (fun _ _=>rfl)) (ro_some r_int) ro_none))))
  (r_pcons (r_sif (r_cmpT (or_ne hr rfl) ok_ne (r_dget (un1 hr) (r_var (pv 0)) r_str (fun _ _=>rfl)) (r_lst r_nil) (nomark _)) (r_pcons (r_set (i:=2) nd rfl (.inl rfl) (r_ix rfl (r_dget (un1 hr) (r_var (pv 0)) r_str (fun _ _=>rfl)) r_int (fun _ _=>rfl)))
  (r_pcons (r_lput (r_dget (un1 hr) (r_var (pv 0)) r_str (fun _ _=>rfl)) r_int (r_bin op_fdivN ok_fdiv (r_var (pv 2)) (r_var (pv 1))))
  (r_pone (r_ret (r_bin op_modN ok_mod (r_callTy call_int1 ok_int rfl T.n_int (by decide +kernel) (r_cons (r_var (pv 2)) r_nil)) (r_var (pv 1))))))) r_pnil)
  (r_pcons (r_par2 (i:=3) (j:=4) rfl nd rfl rfl (by decide) rfl rfl (r_cons (r_bin (or_add rfl) ok_add (r_dget (un1 hr) (r_var (pv 0)) r_str (fun _ _=>rfl)) r_int) (r_cons (r_dget (un1 hr) (r_var (pv 0)) r_str (fun _ _=>rfl)) r_nil)) rfl)
  (r_pcons (r_dput (un1 hr) (r_var (pv 0)) r_str (r_var (pv 3)))
  (r_pcons (r_set (i:=5) nd rfl (.inl rfl) (r_if (r_cmpT (or_ne hr rfl) ok_ne (r_var (pv 4)) (r_lst r_nil) (nomark _)) (r_callTy call_int1 ok_int rfl T.n_int (by decide +kernel) (r_cons (r_ix rfl (r_var (pv 4)) (r_bin op_modN ok_mod (r_callTy call_int1 ok_int rfl T.n_int (by decide +kernel) (r_cons (r_bin (or_add rfl) ok_add (r_bin (or_mul rfl) ok_mul (r_var (pv 3)) (r_var (pv 3))) (r_bin op_fdivN ok_fdiv (r_var (pv 3)) r_int)) r_nil)) (r_callB (cr_len rfl) ok_len rfl T.n_len (by decide +kernel) (r_cons (r_var (pv 4)) r_nil))) (fun _ _=>rfl)) r_nil)) r_int))
  (r_pcons (r_set (i:=6) nd rfl (.inl rfl) (r_bin op_modN ok_mod (r_callTy call_int1 ok_int rfl T.n_int (by decide +kernel) (r_cons (r_bin (or_add rfl) ok_add (r_bin (or_add rfl) ok_add (r_bin (or_mul rfl) ok_mul (r_var (pv 5)) r_int) (r_bin (or_mul rfl) ok_mul (r_var (pv 3)) r_int)) (r_bin (or_mul rfl) ok_mul (r_bin (or_mul rfl) ok_mul r_int (r_var (pv 3))) (r_var (pv 3)))) r_nil)) r_int))
  (r_pone (r_ret (r_bin op_modN ok_mod (r_callTy call_int1 ok_int rfl T.n_int (by decide +kernel) (r_cons (r_bin op_fdivN ok_fdiv (r_bin op_modN ok_mod (r_callTy call_int1 ok_int rfl T.n_int (by decide +kernel) (r_cons (r_bin (or_add rfl) ok_add (r_bin (or_mul rfl) ok_mul (r_var (pv 6)) r_int) (r_bin (or_mul rfl) ok_mul r_int (r_var (pv 3)))) r_nil)) r_int) r_int) r_nil)) (r_var (pv 1)))))))))))
theorem c__law_next (T:Txt P w F mg a d):FnG false P w F.K mg base 2 (a "_law_next") (d "_law_next") P__law_next (spF F 2 F__law_next):=(ok__law_next T).imp fun _ _ _ _ h=>sp_next draw_ok h
theorem sc__law_names:FnScope N__law_names P__law_names (defScope st__law_names):=⟨rfl,rfl,rfl,by decide +kernel,rfl,by decide +kernel,by decide +kernel⟩
theorem ok__law_names (T:Txt P w F mg a d):FnG false P w F.K mg base 4 (a "_law_names") (d "_law_names") P__law_names (spF F 2 (bodyF 9 s__law_names)):=by
  refine def_ok (k:=3) (N:=N__law_names) T.f__law_names.fn sc__law_names fun cdv A outer s H E hr hg=>?_
  have tk:=takes_of (X:=cxOf (L2.CX P w) P w F.K mg base N__law_names "_law_names" (defScope st__law_names) (a "_law_names") cdv A outer s H E) (E:=E) rfl rfl rfl rfl
  have po:=passes_of (X:=cxOf (L2.CX P w) P w F.K mg base N__law_names "_law_names" (defScope st__law_names) (a "_law_names") cdv A outer s H E) rfl
  have nd:(cxOf (L2.CX P w) P w F.K mg base N__law_names "_law_names" (defScope st__law_names) (a "_law_names") cdv A outer s H E).N.Nodup:=sc__law_names.nd
  exact (r_pcons (r_asg (r_tup (r_cons r_str (r_cons r_str r_nil))) (go_mk (sl:=[2,3]) (pg_tup rfl (pgs_cons (pg_name (i:=2) nd rfl (.inr rfl)) (pgs_cons (pg_name (i:=3) nd rfl (.inr rfl)) pgs_nil))) (gr_tup rfl (grs_cons gr_name (grs_cons gr_name grs_nil)))))
  (r_pcons (r_for po rfl (ri_range1 rfl T.n_range (r_cons (q_call T.f__law_next (c__law_next T) (fun z=>Bool.noConfusion z) hr rfl tk (r_cons (r_var (pv 0)) (r_cons r_int r_nil)) (len_cons (len_cons len_nil))) r_nil)) (go_mk (sl:=[4]) (pg_name (i:=4) nd rfl (.inl rfl)) gr_name) (r_pone (r_set (i:=3) nd rfl (.inr rfl) (r_bin (or_add rfl) ok_add (r_var (pv 3)) (r_ix rfl (r_var (pv 2)) (q_call T.f__law_next (c__law_next T) (fun z=>Bool.noConfusion z) hr rfl tk (r_cons (r_var (pv 0)) (r_cons r_int r_nil)) (len_cons (len_cons len_nil))) (fun _ _=>rfl))))))
  (r_pcons (r_asg (r_tup (r_cons (q_call T.f__law_next (c__law_next T) (fun z=>Bool.noConfusion z) hr rfl tk (r_cons (r_var (pv 0)) (r_cons (r_bin (or_add rfl) ok_add (r_callB (cr_len rfl) ok_len rfl T.n_len (by decide +kernel) (r_cons (r_var (pv 3)) r_nil)) r_int) r_nil)) (len_cons (len_cons len_nil))) (r_cons (q_call T.f__law_next (c__law_next T) (fun z=>Bool.noConfusion z) hr rfl tk (r_cons (r_var (pv 0)) (r_cons r_int r_nil)) (len_cons (len_cons len_nil))) (r_cons (r_ix rfl (r_lst (r_cons r_int (r_cons r_int (r_cons r_int (r_cons r_int (r_cons r_int (r_cons r_int r_nil))))))) (q_call T.f__law_next (c__law_next T) (fun z=>Bool.noConfusion z) hr rfl tk (r_cons (r_var (pv 0)) (r_cons r_int r_nil)) (len_cons (len_cons len_nil))) (fun _ _=>rfl)) r_nil)))) (go_mk (sl:=[5,6,7]) (pg_tup rfl (pgs_cons (pg_name (i:=5) nd rfl (.inr rfl)) (pgs_cons (pg_name (i:=6) nd rfl (.inr rfl)) (pgs_cons (pg_name (i:=7) nd rfl (.inr rfl)) pgs_nil)))) (gr_tup rfl (grs_cons gr_name (grs_cons gr_name (grs_cons gr_name grs_nil))))))
  (r_pcons (r_set (i:=8) nd rfl (.inr rfl) (r_sl rfl (r_bin (or_add rfl) ok_add (r_var (pv 3)) (r_bin (or_mul rfl) ok_mul (r_ix rfl (r_var (pv 2)) (r_var (pv 6)) (fun _ _=>rfl)) r_int)) ro_none (ro_some r_int)))
  (r_pcons (r_sif (r_cmpT op_gt ok_gt (r_var (pv 7)) r_int (nomark _)) (r_pone (r_ret (r_lc (own:=[("k",4)]) (sl:=[4]) (gf:=(gN 4)) rfl nd (ri_range1 rfl T.n_range (r_cons (r_var (pv 1)) r_nil)) (show BlkOk N__law_names (defScope st__law_names) _ [("k",4)] from ⟨rfl,by decide +kernel,by decide +kernel,by decide +kernel,by decide +kernel⟩) gr_name (by decide) (fun _ _ _ _ _=>(pg_name (i:=4) nd rfl (.inl rfl))) (fun _ _ _ _ _=>rt_nil) (fun _ _ _ _ _=>(r_if (r_cmpT op_gt ok_gt (r_var (pv 7)) r_int (nomark _)) (r_sl rfl (r_var (pv 8)) (ro_some (r_var (pv 4))) ro_none) (r_sl rfl (r_var (pv 8)) ro_none (ro_some (r_bin op_sub ok_sub (r_bin (or_add rfl) ok_add (r_var (pv 4)) r_int) (r_var (pv 1)))))))))) r_pnil)
  (r_pone (r_ret (r_lc (own:=[("k",4)]) (sl:=[4]) (gf:=(gN 4)) rfl nd (ri_range1 rfl T.n_range (r_cons (r_var (pv 1)) r_nil)) (show BlkOk N__law_names (defScope st__law_names) _ [("k",4)] from ⟨rfl,by decide +kernel,by decide +kernel,by decide +kernel,by decide +kernel⟩) gr_name (by decide) (fun _ _ _ _ _=>(pg_name (i:=4) nd rfl (.inl rfl))) (fun _ _ _ _ _=>rt_nil) (fun _ _ _ _ _=>(r_bin (or_add rfl) ok_add (r_bin (or_add rfl) ok_add (r_sl rfl (r_var (pv 3)) ro_none (ro_some (r_var (pv 5)))) (r_ix rfl (r_var (pv 2)) (r_bin op_modN ok_mod (r_callTy call_int1 ok_int rfl T.n_int (by decide +kernel) (r_cons (r_bin (or_add rfl) ok_add (r_var (pv 6)) (r_bin (or_mul rfl) ok_mul (r_var (pv 7)) (r_var (pv 4)))) r_nil)) r_int) (fun _ _=>rfl))) (r_sl rfl (r_var (pv 3)) (ro_some (r_var (pv 5))) ro_none)))))))))))
theorem c__law_names (T:Txt P w F mg a d):FnG false P w F.K mg base 4 (a "_law_names") (d "_law_names") P__law_names (spF F 2 F__law_names):=(ok__law_names T).imp fun _ _ _ _ h=>sp_called h
theorem sc__law_settings:FnScope N__law_settings P__law_settings (defScope st__law_settings):=⟨rfl,rfl,rfl,by decide +kernel,rfl,by decide +kernel,by decide +kernel⟩
theorem ok__law_settings (T:Txt P w F mg a d):FnG false P w F.K mg base 6 (a "_law_settings") (d "_law_settings") P__law_settings (spF F 1 (bodyF 5 s__law_settings)):=by
  refine def_ok (k:=5) (N:=N__law_settings) T.f__law_settings.fn sc__law_settings fun cdv A outer s H E hr hg=>?_
  have tk:=takes_of (X:=cxOf (L2.CX P w) P w F.K mg base N__law_settings "_law_settings" (defScope st__law_settings) (a "_law_settings") cdv A outer s H E) (E:=E) rfl rfl rfl rfl
  have po:=passes_of (X:=cxOf (L2.CX P w) P w F.K mg base N__law_settings "_law_settings" (defScope st__law_settings) (a "_law_settings") cdv A outer s H E) rfl
  have nd:(cxOf (L2.CX P w) P w F.K mg base N__law_settings "_law_settings" (defScope st__law_settings) (a "_law_settings") cdv A outer s H E).N.Nodup:=sc__law_settings.nd
  exact (r_pcons (r_set (i:=1) nd rfl (.inl rfl) (r_lst (r_cons (r_tup (r_cons r_int r_nil)) (r_cons (r_tup (r_cons r_int r_nil)) (r_cons (r_tup (r_cons r_int r_nil)) (r_cons (r_tup (r_cons r_int (r_cons r_int r_nil))) (r_cons (r_tup (r_cons r_int (r_cons r_int r_nil))) (r_cons (r_tup (r_cons r_int (r_cons r_int r_nil))) (r_cons (r_tup (r_cons r_int (r_cons r_int r_nil))) (r_cons (r_tup (r_cons r_int (r_cons r_int r_nil))) (r_cons (r_tup (r_cons r_int (r_cons r_int r_nil))) (r_cons (r_tup (r_cons r_int (r_cons r_int (r_cons r_int r_nil)))) (r_cons (r_tup (r_cons r_int (r_cons r_int (r_cons r_int r_nil)))) (r_cons (r_tup (r_cons r_int (r_cons r_int (r_cons r_int r_nil)))) r_nil))))))))))))))
  (r_pcons (r_set (i:=2) nd rfl (.inl rfl) (r_ix rfl (r_var (pv 1)) (q_call T.f__law_next (c__law_next T) (fun z=>Bool.noConfusion z) hr rfl tk (r_cons (r_var (pv 0)) (r_cons r_int r_nil)) (len_cons (len_cons len_nil))) (fun _ _=>rfl)))
  (r_pone (r_ret (r_callTy (call_tupF rfl) ok_tupF rfl T.n_tuple (by decide +kernel) (r_cons (r_lc (own:=[("name",3),("most",4)]) (sl:=[3,4]) (gf:=(gT 2 (gsCons (gN 3) (gsCons (gN 4) gsNil)))) rfl nd (ri_zip (k1:=false) (k2:=true) rfl rfl T.n_zip (q_call T.f__law_names (c__law_names T) (fun z=>Bool.noConfusion z) hr rfl tk (r_cons (r_var (pv 0)) (r_cons (r_callB (cr_len rfl) ok_len rfl T.n_len (by decide +kernel) (r_cons (r_var (pv 2)) r_nil)) r_nil)) (len_cons (len_cons len_nil))) (r_var (pv 2))) (show BlkOk N__law_settings (defScope st__law_settings) _ [("name",3),("most",4)] from ⟨rfl,by decide +kernel,by decide +kernel,by decide +kernel,by decide +kernel⟩) (gr_tup rfl (grs_cons gr_name (grs_cons gr_name grs_nil))) (by decide) (fun _ _ _ _ _=>(pg_tup rfl (pgs_cons (pg_name (i:=3) nd rfl (.inl rfl)) (pgs_cons (pg_name (i:=4) nd rfl (.inl rfl)) pgs_nil)))) (fun _ _ _ _ _=>rt_nil) (fun _ _ _ _ _=>(r_tup (r_cons (r_var (pv 3)) (r_cons (r_var (pv 4)) r_nil))))) r_nil))))))
theorem c__law_settings (T:Txt P w F mg a d):FnG false P w F.K mg base 6 (a "_law_settings") (d "_law_settings") P__law_settings (spF F 1 F__law_settings):=(ok__law_settings T).imp fun _ _ _ _ h=>sp_called h
theorem sc__law_places:FnScope N__law_places P__law_places (defScope st__law_places):=⟨rfl,rfl,rfl,by decide +kernel,rfl,by decide +kernel,by decide +kernel⟩
theorem ok__law_places (T:Txt P w F mg a d):FnG false P w F.K mg base 6 (a "_law_places") (d "_law_places") P__law_places (spF F 3 (bodyF 16 s__law_places)):=by
  refine def_ok (k:=5) (N:=N__law_places) T.f__law_places.fn sc__law_places fun cdv A outer s H E hr hg=>?_
  have tk:=takes_of (X:=cxOf (L2.CX P w) P w F.K mg base N__law_places "_law_places" (defScope st__law_places) (a "_law_places") cdv A outer s H E) (E:=E) rfl rfl rfl rfl
  have po:=passes_of (X:=cxOf (L2.CX P w) P w F.K mg base N__law_places "_law_places" (defScope st__law_places) (a "_law_places") cdv A outer s H E) rfl
  have nd:(cxOf (L2.CX P w) P w F.K mg base N__law_places "_law_places" (defScope st__law_places) (a "_law_places") cdv A outer s H E).N.Nodup:=sc__law_places.nd
  exact (r_pcons (r_asg (r_tup (r_cons (r_bin (or_add rfl) ok_add r_int (q_call T.f__law_next (c__law_next T) (fun z=>Bool.noConfusion z) hr rfl tk (r_cons (r_var (pv 0)) (r_cons (r_var (pv 2)) r_nil)) (len_cons (len_cons len_nil)))) (r_cons (q_call T.f__law_names (c__law_names T) (fun z=>Bool.noConfusion z) hr rfl tk (r_cons (r_var (pv 0)) (r_cons r_int r_nil)) (len_cons (len_cons len_nil))) r_nil))) (go_mk (sl:=[3,4]) (pg_tup rfl (pgs_cons (pg_name (i:=3) nd rfl (.inr rfl)) (pgs_cons (pg_name (i:=4) nd rfl (.inl rfl)) pgs_nil))) (gr_tup rfl (grs_cons gr_name (grs_cons gr_name grs_nil)))))
  (r_pcons (r_par2 (i:=5) (j:=6) rfl nd rfl rfl (by decide) rfl rfl (r_cons (r_newL r_nil) (r_cons (q_call T.f__law_next (c__law_next T) (fun z=>Bool.noConfusion z) hr rfl tk (r_cons (r_var (pv 0)) (r_cons r_int r_nil)) (len_cons (len_cons len_nil))) r_nil)) rfl)
  (r_pcons (r_for po rfl (ri_range1 rfl T.n_range (r_cons (r_var (pv 3)) r_nil)) (go_mk (sl:=[7]) (pg_name (i:=7) nd rfl (.inl rfl)) gr_name) (r_pcons (r_asg (r_tup (r_cons (q_call T.f__law_next (c__law_next T) (fun z=>Bool.noConfusion z) hr rfl tk (r_cons (r_var (pv 0)) (r_cons r_int r_nil)) (len_cons (len_cons len_nil))) (r_cons (r_callB (call_min2 rfl) ok_min2 rfl T.n_min (by decide +kernel) (r_cons (r_bin (or_add rfl) ok_add (r_var (pv 7)) r_int) (r_cons (r_bin op_sub ok_sub (r_var (pv 3)) r_int) r_nil))) r_nil))) (go_mk (sl:=[8,9]) (pg_tup rfl (pgs_cons (pg_name (i:=8) nd rfl (.inl rfl)) (pgs_cons (pg_name (i:=9) nd rfl (.inr rfl)) pgs_nil))) (gr_tup rfl (grs_cons gr_name (grs_cons gr_name grs_nil)))))
  (r_pcons (r_set (i:=10) nd rfl (.inr rfl) (r_bin (or_mul rfl) ok_mul (r_var (pv 9)) (r_bin op_sub ok_sub r_int (r_var (pv 6)))))
  (r_pone (r_sif (PW.pt (r_or (r_cmpT (or_eq hr rfl) ok_eq (r_var (pv 8)) r_int (nomark _)) (pw_or1 (PW.pt (r_and (r_cmpT (or_eq hr rfl) ok_eq (r_var (pv 7)) (r_bin op_sub ok_sub (r_var (pv 3)) r_int) (nomark _)) (pw_and1 (PW.pt (r_or (r_cmpT (or_eq hr rfl) ok_eq (r_var (pv 6)) r_int (nomark _)) (pw_or1 (r_cmpT op_gt ok_gt (q_call T.f__law_next (c__law_next T) (fun z=>Bool.noConfusion z) hr rfl tk (r_cons (r_var (pv 0)) (r_cons r_int r_nil)) (len_cons (len_cons len_nil))) r_int (nomark _))))))))))) (r_pone (r_expr (r_append rfl (r_var (pv 5)) (r_cons (r_tup (r_cons r_str r_nil)) r_nil)))) (r_pone (r_sif (r_cmpT op_lt ok_lt (r_var (pv 8)) r_int (nomark _)) (r_pcons (r_set (i:=11) nd rfl (.inl rfl) (r_ix rfl (r_var (pv 4)) (q_call T.f__law_next (c__law_next T) (fun z=>Bool.noConfusion z) hr rfl tk (r_cons (r_var (pv 0)) (r_cons r_int r_nil)) (len_cons (len_cons len_nil))) (fun _ _=>rfl)))
  (r_pone (r_expr (r_append rfl (r_var (pv 5)) (r_cons (r_tup (r_cons r_str (r_cons (r_var (pv 11)) (r_cons (r_if (r_cmpT op_gt ok_gt (q_call T.f__law_next (c__law_next T) (fun z=>Bool.noConfusion z) hr rfl tk (r_cons (r_var (pv 0)) (r_cons r_int r_nil)) (len_cons (len_cons len_nil))) r_int (nomark _)) (r_var (pv 9)) (r_bin (or_add rfl) ok_add (r_var (pv 10)) (q_call T.f__law_next (c__law_next T) (fun z=>Bool.noConfusion z) hr rfl tk (r_cons (r_var (pv 0)) (r_cons (r_bin op_sub ok_sub (r_var (pv 3)) (r_var (pv 10))) r_nil)) (len_cons (len_cons len_nil))))) r_nil)))) r_nil))))) (r_pcons (r_asg (r_ix rfl (r_var (pv 1)) (q_call T.f__law_next (c__law_next T) (fun z=>Bool.noConfusion z) hr rfl tk (r_cons (r_var (pv 0)) (r_cons (r_callB (cr_len rfl) ok_len rfl T.n_len (by decide +kernel) (r_cons (r_var (pv 1)) r_nil)) r_nil)) (len_cons (len_cons len_nil))) (fun _ _=>rfl)) (go_mk (sl:=[12,13]) (pg_tup rfl (pgs_cons (pg_name (i:=12) nd rfl (.inl rfl)) (pgs_cons (pg_name (i:=13) nd rfl (.inl rfl)) pgs_nil))) (gr_tup rfl (grs_cons gr_name (grs_cons gr_name grs_nil)))))
  (r_pcons (r_setLc (i:=14) (own:=[("k",15)]) (sl:=[15]) (gf:=(gN 15)) rfl nd rfl rfl rfl (ri_range1 rfl T.n_range (r_cons (r_bin (or_add rfl) ok_add (r_var (pv 13)) r_int) r_nil)) (show BlkOk N__law_places (defScope st__law_places) _ [("k",15)] from ⟨rfl,by decide +kernel,by decide +kernel,by decide +kernel,by decide +kernel⟩) gr_name (by decide) (fun _ _ _ _ _=>(pg_name (i:=15) nd rfl (.inl rfl))) (fun _ _ _ _ _=>rt_nil) (fun _ _ _ _ _=>(r_if (r_cmpT (or_eq hr rfl) ok_eq (q_call T.f__law_next (c__law_next T) (fun z=>Bool.noConfusion z) hr rfl LamX.takes0 (r_cons (r_var (pv 0)) (r_cons r_int r_nil)) (len_cons (len_cons len_nil))) r_int (nomark _)) (r_var (pv 9)) (r_bin (or_add rfl) ok_add (r_var (pv 10)) (q_call T.f__law_next (c__law_next T) (fun z=>Bool.noConfusion z) hr rfl LamX.takes0 (r_cons (r_var (pv 0)) (r_cons (r_bin op_sub ok_sub (r_var (pv 3)) (r_var (pv 10))) r_nil)) (len_cons (len_cons len_nil)))))))
  (r_pone (r_expr (r_append rfl (r_var (pv 5)) (r_cons (r_tup (r_cons r_str (r_cons (r_var (pv 12)) (r_cons (r_callTy call_tuple_of ok_tuple rfl T.n_tuple (by decide +kernel) (r_cons (r_var (pv 14)) r_nil)) r_nil)))) r_nil)))))))))))))
  (r_pone (r_ret (r_callTy call_tuple_of ok_tuple rfl T.n_tuple (by decide +kernel) (r_cons (r_var (pv 5)) r_nil)))))))
theorem c__law_places (T:Txt P w F mg a d):FnG false P w F.K mg base 6 (a "_law_places") (d "_law_places") P__law_places (spF F 3 F__law_places):=(ok__law_places T).imp fun _ _ _ _ h=>sp_called h
theorem sc__law_modes:FnScope N__law_modes P__law_modes (defScope st__law_modes):=⟨rfl,rfl,rfl,by decide +kernel,rfl,by decide +kernel,by decide +kernel⟩
theorem ok__law_modes (T:Txt P w F mg a d):FnG false P w F.K mg base 4 (a "_law_modes") (d "_law_modes") P__law_modes (spF F 2 (bodyF 3 s__law_modes)):=by
  refine def_ok (k:=3) (N:=N__law_modes) T.f__law_modes.fn sc__law_modes fun cdv A outer s H E hr hg=>?_
  have tk:=takes_of (X:=cxOf (L2.CX P w) P w F.K mg base N__law_modes "_law_modes" (defScope st__law_modes) (a "_law_modes") cdv A outer s H E) (E:=E) rfl rfl rfl rfl
  have po:=passes_of (X:=cxOf (L2.CX P w) P w F.K mg base N__law_modes "_law_modes" (defScope st__law_modes) (a "_law_modes") cdv A outer s H E) rfl
  have nd:(cxOf (L2.CX P w) P w F.K mg base N__law_modes "_law_modes" (defScope st__law_modes) (a "_law_modes") cdv A outer s H E).N.Nodup:=sc__law_modes.nd
  exact (r_pone (r_ret (r_callTy call_tuple_of ok_tuple rfl T.n_tuple (by decide +kernel) (r_cons (r_lc (own:=[("spot",2)]) (sl:=[2]) (gf:=(gN 2)) rfl nd (ri_tup rfl (r_var (pv 1))) (show BlkOk N__law_modes (defScope st__law_modes) _ [("spot",2)] from ⟨rfl,by decide +kernel,by decide +kernel,by decide +kernel,by decide +kernel⟩) gr_name (by decide) (fun _ _ _ _ _=>(pg_name (i:=2) nd rfl (.inl rfl))) (fun _ _ _ _ _=>rt_nil) (fun _ _ _ _ _=>(r_ix rfl (r_lst (r_cons r_str (r_cons r_str (r_cons r_str (r_cons r_str r_nil))))) (q_call T.f__law_next (c__law_next T) (fun z=>Bool.noConfusion z) hr rfl LamX.takes0 (r_cons (r_var (pv 0)) (r_cons r_int r_nil)) (len_cons (len_cons len_nil))) (fun _ _=>rfl)))) r_nil))))
theorem c__law_modes (T:Txt P w F mg a d):FnG false P w F.K mg base 4 (a "_law_modes") (d "_law_modes") P__law_modes (spF F 2 F__law_modes):=(ok__law_modes T).imp fun _ _ _ _ h=>sp_called h
theorem sc__law_told:FnScope N__law_told P__law_told (defScope st__law_told):=⟨rfl,rfl,rfl,by decide +kernel,rfl,by decide +kernel,by decide +kernel⟩
theorem sc__law_kept_right:FnScope N__law_kept_right P__law_kept_right (defScope st__law_kept_right):=⟨rfl,rfl,rfl,by decide +kernel,rfl,by decide +kernel,by decide +kernel⟩
abbrev cx__law_kept_right (P:Program) (w:World) (F:Fx) (mg:Str→Option Value) (base:Heap) (a:Str→Addr) (cdv:Value) (A:Around) (outer:List Env) (s:Shared) (H:Hp) (E:XK):Cx :=
  cxOf (L2.CX P w) P w F.K mg base N__law_kept_right "_law_kept_right" (defScope st__law_kept_right) (a "_law_kept_right") cdv A outer s H E
theorem given__law_told__law_kept_right (T:Txt P w F mg a d) (L:Lm F mg base a) {cdv cdg:Value} {A:Around} {outer:List Env} {s:Shared} {H:Hp} {E:XK} {q:Str} {k:Nat} :
    Given (cx__law_kept_right P w F mg base a cdv A outer s H E) F N__law_told "_law_told" (defScope st__law_told) (a "_law_told") cdg (defBody st__law_told) "call" q F__law_told (1 + k):=by
  refine given_of (gg:=s__law_told) fun F' f c' ρL σL s2 H2 act eF hr hact=>?_
  subst eF
  have hxa:(withL F f c' q ρL σL).xa=none:=L.hxa
  have nd:(cxT (cx__law_kept_right P w F mg base a cdv A outer s H E) N__law_told "_law_told" (defScope st__law_told) (a "_law_told") cdg s2 H2).nox.N.Nodup:=sc__law_told.nd
  exact (r_pcons (r_tryL (i:=2) hxa rfl rfl nd rfl rfl LamX.takes0 (fun W pn xe tk2 po2=>(r_pone (r_set (i:=1) nd rfl (.inl rfl) (hact _ _ _ _ _ tk2)))) (.cons (c:=3) ⟨rfl,by decide,.inl T.x3.gC⟩ T.x3.te (pass_of (pass_cons T.ne16_3 pass_nil)) (fun a9 oe dd pn hz hfl=>(r_pone (r_ret (r_tup (r_cons r_str (r_cons (q_xfield T.y3 T.x3 rfl hz hfl (pv 2)) r_nil)))))) (.cons (c:=16) ⟨rfl,by decide,.inl T.x16.gC⟩ T.x16.te (pass_of pass_nil) (fun a9 oe dd pn hz hfl=>(r_pone (r_ret (r_tup (r_cons r_str (r_cons (q_xfield T.y16 T.x16 rfl hz hfl (pv 2)) r_nil)))))) .nil)))
  (r_pone (r_ret (r_lst (r_cons (r_fld rfl T.cl_Request T.nf_Request_modes (r_var (pv 1))) (r_cons (r_fld rfl T.cl_Request T.nf_Request_places (r_var (pv 1))) (r_cons (r_co (r_fld rfl T.cl_Request T.nf_Request_settings (r_var (pv 1)))) r_nil)))))))
theorem sc_law:FnScope N_law P_law (defScope st_law):=⟨rfl,rfl,rfl,by decide +kernel,rfl,by decide +kernel,by decide +kernel⟩
abbrev cx_law (P:Program) (w:World) (F:Fx) (mg:Str→Option Value) (base:Heap) (a:Str→Addr) (cdv:Value) (A:Around) (outer:List Env) (s:Shared) (H:Hp) (E:XK):Cx :=
  cxOf (L2.CX P w) P w F.K mg base N_law "law" (defScope st_law) (a "law") cdv A outer s H E
theorem given__law_told_law (T:Txt P w F mg a d) (L:Lm F mg base a) {cdv cdg:Value} {A:Around} {outer:List Env} {s:Shared} {H:Hp} {E:XK} {q:Str} {k:Nat} :
    Given (cx_law P w F mg base a cdv A outer s H E) F N__law_told "_law_told" (defScope st__law_told) (a "_law_told") cdg (defBody st__law_told) "call" q F__law_told (1 + k):=by
  refine given_of (gg:=s__law_told) fun F' f c' ρL σL s2 H2 act eF hr hact=>?_
  subst eF
  have hxa:(withL F f c' q ρL σL).xa=none:=L.hxa
  have nd:(cxT (cx_law P w F mg base a cdv A outer s H E) N__law_told "_law_told" (defScope st__law_told) (a "_law_told") cdg s2 H2).nox.N.Nodup:=sc__law_told.nd
  exact (r_pcons (r_tryL (i:=2) hxa rfl rfl nd rfl rfl LamX.takes0 (fun W pn xe tk2 po2=>(r_pone (r_set (i:=1) nd rfl (.inl rfl) (hact _ _ _ _ _ tk2)))) (.cons (c:=3) ⟨rfl,by decide,.inl T.x3.gC⟩ T.x3.te (pass_of (pass_cons T.ne16_3 pass_nil)) (fun a9 oe dd pn hz hfl=>(r_pone (r_ret (r_tup (r_cons r_str (r_cons (q_xfield T.y3 T.x3 rfl hz hfl (pv 2)) r_nil)))))) (.cons (c:=16) ⟨rfl,by decide,.inl T.x16.gC⟩ T.x16.te (pass_of pass_nil) (fun a9 oe dd pn hz hfl=>(r_pone (r_ret (r_tup (r_cons r_str (r_cons (q_xfield T.y16 T.x16 rfl hz hfl (pv 2)) r_nil)))))) .nil)))
  (r_pone (r_ret (r_lst (r_cons (r_fld rfl T.cl_Request T.nf_Request_modes (r_var (pv 1))) (r_cons (r_fld rfl T.cl_Request T.nf_Request_places (r_var (pv 1))) (r_cons (r_co (r_fld rfl T.cl_Request T.nf_Request_settings (r_var (pv 1)))) r_nil)))))))
theorem ok__law_kept_right (T:Txt P w F mg a d) (L:Lm F mg base a):FnG false P w F.K mg base 31 (a "_law_kept_right") (d "_law_kept_right") P__law_kept_right (spF F 1 (bodyF 13 s__law_kept_right)):=by
  obtain ⟨oc,od,kV,doc,pm,an,ct,osl,efd,lk,hcd⟩:=T.l__law_kept_right
  obtain ⟨oc__law_told,od__law_told,kV__law_told,doc__law_told,pm__law_told,an__law_told,cd__law_told,ct__law_told,osl__law_told,efT__law_told,lkT__law_told,hcT__law_told⟩:=T.f__law_told.fn.ex
  have bT__law_told:=T.f__law_told.b
  rw [efT__law_told] at bT__law_told lkT__law_told
  rw [efd]
  refine def_okC (k:=30) (N:=N__law_kept_right) lk hcd sc__law_kept_right fun A outer s H E hr hg=>?_
  have tk:=takes_of (X:=cx__law_kept_right P w F mg base a (.ref (a "_law_kept_right.code")) A outer s H E) (E:=E) rfl rfl rfl rfl
  have po:=passes_of (X:=cx__law_kept_right P w F mg base a (.ref (a "_law_kept_right.code")) A outer s H E) rfl
  have nd:(cx__law_kept_right P w F mg base a (.ref (a "_law_kept_right.code")) A outer s H E).N.Nodup:=sc__law_kept_right.nd
  have hmT:(a "_law_kept_right.table",(cx__law_kept_right P w F mg base a (.ref (a "_law_kept_right.code")) A outer s H E).env.qual ++ "<lambda>")∈F.T:=L.mT__law_kept_right
  have huT:∀ p∈F.T,p.1=a "_law_kept_right.table" → p.2=(cx__law_kept_right P w F mg base a (.ref (a "_law_kept_right.code")) A outer s H E).env.qual ++ "<lambda>":=L.uT__law_kept_right
  exact (r_pcons (r_set (i:=1) nd rfl (.inl rfl) (r_ix rfl (r_lst (r_cons (r_tupF (r_cons (r_tup (r_cons r_str (r_cons r_int r_nil))) (r_cons (r_tup (r_cons r_str (r_cons r_int r_nil))) r_nil))) (r_cons (r_tupF (r_cons (r_tup (r_cons r_str (r_cons r_int r_nil))) (r_cons (r_tup (r_cons r_str (r_cons r_int r_nil))) r_nil))) (r_cons (r_tupF (r_cons (r_tup (r_cons r_str (r_cons r_int r_nil))) (r_cons (r_tup (r_cons r_str (r_cons r_int r_nil))) (r_cons (r_tup (r_cons r_str (r_cons r_int r_nil))) r_nil)))) r_nil)))) (q_call T.f__law_next (c__law_next T) (fun z=>Bool.noConfusion z) hr rfl tk (r_cons (r_var (pv 0)) (r_cons r_int r_nil)) (len_cons (len_cons len_nil))) (fun _ _=>rfl)))
  (r_pcons (r_par2 (i:=2) (j:=3) rfl nd rfl rfl (by decide) rfl rfl (r_cons (r_tup (r_cons (r_tup (r_cons r_str r_nil)) r_nil)) (r_cons (r_callTy call_tuple_of ok_tuple rfl T.n_tuple (by decide +kernel) (r_cons (r_lc (own:=[("one",4)]) (sl:=[4]) (gf:=(gN 4)) rfl nd (ri_tup rfl (r_co (r_var (pv 1)))) (show BlkOk N__law_kept_right (defScope st__law_kept_right) _ [("one",4)] from ⟨rfl,by decide +kernel,by decide +kernel,by decide +kernel,by decide +kernel⟩) gr_name (by decide) (fun _ _ _ _ _=>(pg_name (i:=4) nd rfl (.inl rfl))) (fun _ _ _ _ _=>rt_nil) (fun _ _ _ _ _=>(r_ix rfl (r_lst (r_cons r_str (r_cons r_str (r_cons r_str r_nil)))) (q_call T.f__law_next (c__law_next T) (fun z=>Bool.noConfusion z) hr rfl LamX.takes0 (r_cons (r_var (pv 0)) (r_cons r_int r_nil)) (len_cons (len_cons len_nil))) (fun _ _=>rfl)))) r_nil)) r_nil)) rfl)
  (r_pcons (r_set (i:=4) nd rfl (.inr rfl) (r_make (dd:=[]) (dv:=[]) rfl T.mk_Request (c_Request___init__ T) (fun z=>Bool.noConfusion z) hr rfl T.g_Request T.m_Request___init__.b .nil (fun _ _=>.nil) (fun _ _ _ _ h=>sp_called h) tk (r_cons (r_var (pv 1)) (r_cons (r_var (pv 2)) (r_cons (r_var (pv 3)) r_nil))) (len_cons (len_cons (len_cons len_nil)))))
  (r_pcons (r_asg (r_tup (r_cons (r_lc (own:=[("name",7),("most",8)]) (sl:=[7,8]) (gf:=(gT 2 (gsCons (gN 7) (gsCons (gN 8) gsNil)))) rfl nd (ri_tup rfl (r_co (r_var (pv 1)))) (show BlkOk N__law_kept_right (defScope st__law_kept_right) _ [("name",7),("most",8)] from ⟨rfl,by decide +kernel,by decide +kernel,by decide +kernel,by decide +kernel⟩) (gr_tup rfl (grs_cons gr_name (grs_cons gr_name grs_nil))) (by decide) (fun _ _ _ _ _=>(pg_tup rfl (pgs_cons (pg_name (i:=7) nd rfl (.inl rfl)) (pgs_cons (pg_name (i:=8) nd rfl (.inl rfl)) pgs_nil)))) (fun _ _ _ _ _=>rt_nil) (fun _ _ _ _ _=>(r_var (pv 7)))) (r_cons (r_ix rfl (r_lst (r_cons r_str (r_cons r_str (r_cons r_str r_nil)))) (q_call T.f__law_next (c__law_next T) (fun z=>Bool.noConfusion z) hr rfl tk (r_cons (r_var (pv 0)) (r_cons r_int r_nil)) (len_cons (len_cons len_nil))) (fun _ _=>rfl)) r_nil))) (go_mk (sl:=[5,6]) (pg_tup rfl (pgs_cons (pg_name (i:=5) nd rfl (.inl rfl)) (pgs_cons (pg_name (i:=6) nd rfl (.inr rfl)) pgs_nil))) (gr_tup rfl (grs_cons gr_name (grs_cons gr_name grs_nil)))))
  (r_pcons (r_set (i:=9) nd rfl (.inl rfl) (r_callTy call_tuple_of ok_tuple rfl T.n_tuple (by decide +kernel) (r_cons (r_lc (own:=[("name",7),("old",10)]) (sl:=[7,10]) (gf:=(gT 2 (gsCons (gN 7) (gsCons (gN 10) gsNil)))) rfl nd (ri_zip (k1:=false) (k2:=true) rfl rfl T.n_zip (r_var (pv 5)) (r_var (pv 3))) (show BlkOk N__law_kept_right (defScope st__law_kept_right) _ [("name",7),("old",10)] from ⟨rfl,by decide +kernel,by decide +kernel,by decide +kernel,by decide +kernel⟩) (gr_tup rfl (grs_cons gr_name (grs_cons gr_name grs_nil))) (by decide) (fun _ _ _ _ _=>(pg_tup rfl (pgs_cons (pg_name (i:=7) nd rfl (.inl rfl)) (pgs_cons (pg_name (i:=10) nd rfl (.inl rfl)) pgs_nil)))) (fun _ _ _ _ _=>rt_nil) (fun _ _ _ _ _=>(r_if (r_cmpT (or_eq hr rfl) ok_eq (r_var (pv 7)) r_str (nomark _)) (r_var (pv 6)) (r_var (pv 10))))) r_nil)))
  (r_pcons (r_sif (r_cmpT (or_ne hr rfl) ok_ne (r_lam (k:=15) L.h0 rfl rfl T.f__law_told.g T.f__law_told.fn.kp lkT__law_told hcT__law_told bT__law_told sc__law_told rfl (.inl rfl) (given__law_told__law_kept_right T L  (k:=15)) L.tb__law_kept_right rfl hmT huT (hr.mono (by decide)) (show LamX.LamS (defScope st__law_kept_right) _ from LamX.lamS_by (by decide +kernel)) rfl (fun _ _ _ _ _=>rfl) (fun A outer s H E f c hr=>(r_mtdW (ks:=["a"]) rfl T.cl_Request T.m_Request_keeping.me (c_Request_keeping T) hr (takes_of rfl rfl rfl rfl) (r_var (pv 4)) (r_kcons (r_var (pv 6)) r_knil) (by decide +kernel) (by decide +kernel) (by decide)))) (r_lst (r_cons (r_var (pv 9)) (r_cons (r_var (pv 2)) (r_cons (r_co (r_var (pv 1))) r_nil)))) (nomark _)) (r_pone (r_ret r_bl)) r_pnil)
  (r_pcons (r_set (i:=11) nd rfl (.inl rfl) (r_callTy call_tuple_of ok_tuple rfl T.n_tuple (by decide +kernel) (r_cons (r_lc (own:=[("name",7),("old",10)]) (sl:=[7,10]) (gf:=(gT 2 (gsCons (gN 7) (gsCons (gN 10) gsNil)))) rfl nd (ri_zip (k1:=false) (k2:=true) rfl rfl T.n_zip (r_var (pv 5)) (r_var (pv 9))) (show BlkOk N__law_kept_right (defScope st__law_kept_right) _ [("name",7),("old",10)] from ⟨rfl,by decide +kernel,by decide +kernel,by decide +kernel,by decide +kernel⟩) (gr_tup rfl (grs_cons gr_name (grs_cons gr_name grs_nil))) (by decide) (fun _ _ _ _ _=>(pg_tup rfl (pgs_cons (pg_name (i:=7) nd rfl (.inl rfl)) (pgs_cons (pg_name (i:=10) nd rfl (.inl rfl)) pgs_nil)))) (fun _ _ _ _ _=>rt_nil) (fun _ _ _ _ _=>(r_if (r_cmpT (or_eq hr rfl) ok_eq (r_var (pv 7)) r_str (nomark _)) r_str (r_var (pv 10))))) r_nil)))
  (r_pcons (r_sif (r_cmpT (or_ne hr rfl) ok_ne (r_lam (k:=15) L.h0 rfl rfl T.f__law_told.g T.f__law_told.fn.kp lkT__law_told hcT__law_told bT__law_told sc__law_told rfl (.inl rfl) (given__law_told__law_kept_right T L  (k:=15)) L.tb__law_kept_right rfl hmT huT (hr.mono (by decide)) (show LamX.LamS (defScope st__law_kept_right) _ from LamX.lamS_by (by decide +kernel)) rfl (fun _ _ _ _ _=>rfl) (fun A outer s H E f c hr=>(r_mtdW (ks:=["b","a"]) rfl T.cl_Request T.m_Request_keeping.me (c_Request_keeping T) hr (takes_of rfl rfl rfl rfl) (r_var (pv 4)) (r_kcons r_str (r_kcons (r_var (pv 6)) r_knil)) (by decide +kernel) (by decide +kernel) (by decide)))) (r_lst (r_cons (r_var (pv 11)) (r_cons (r_var (pv 2)) (r_cons (r_co (r_var (pv 1))) r_nil)))) (nomark _)) (r_pone (r_ret r_bl)) r_pnil)
  (r_pcons (r_sif (PW.pt (r_or (r_cmpT (or_ne hr rfl) ok_ne (r_lam (k:=15) L.h0 rfl rfl T.f__law_told.g T.f__law_told.fn.kp lkT__law_told hcT__law_told bT__law_told sc__law_told rfl (.inl rfl) (given__law_told__law_kept_right T L  (k:=15)) L.tb__law_kept_right rfl hmT huT (hr.mono (by decide)) (show LamX.LamS (defScope st__law_kept_right) _ from LamX.lamS_by (by decide +kernel)) rfl (fun _ _ _ _ _=>rfl) (fun A outer s H E f c hr=>(r_mtdW (ks:=[]) rfl T.cl_Request T.m_Request_keeping.me (c_Request_keeping T) hr (takes_of rfl rfl rfl rfl) (r_var (pv 4)) r_knil (by decide +kernel) (by decide +kernel) (by decide)))) (r_lst (r_cons (r_var (pv 3)) (r_cons (r_var (pv 2)) (r_cons (r_co (r_var (pv 1))) r_nil)))) (nomark _)) (pw_or1 (r_cmpT (or_ne hr rfl) ok_ne (r_fld rfl T.cl_Request T.nf_Request_modes (r_var (pv 4))) (r_var (pv 3)) (nomark _))))) (r_pone (r_ret r_bl)) r_pnil)
  (r_pcons (r_set (i:=12) nd rfl (.inl rfl) (r_lst (r_cons (r_lam (k:=15) L.h0 rfl rfl T.f__law_told.g T.f__law_told.fn.kp lkT__law_told hcT__law_told bT__law_told sc__law_told rfl (.inl rfl) (given__law_told__law_kept_right T L  (k:=15)) L.tb__law_kept_right rfl hmT huT (hr.mono (by decide)) (show LamX.LamS (defScope st__law_kept_right) _ from LamX.lamS_by (by decide +kernel)) rfl (fun _ _ _ _ _=>rfl) (fun A outer s H E f c hr=>(r_mtdW (ks:=["a","c"]) rfl T.cl_Request T.m_Request_keeping.me (c_Request_keeping T) hr (takes_of rfl rfl rfl rfl) (r_var (pv 4)) (r_kcons r_str (r_kcons r_str r_knil)) (by decide +kernel) (by decide +kernel) (by decide)))) (r_cons (r_lamP (nx:="x") (k:=15) L.h0 rfl rfl T.f__law_told.g T.f__law_told.fn.kp lkT__law_told hcT__law_told bT__law_told sc__law_told rfl (.inl rfl) (given__law_told__law_kept_right T L  (k:=15)) L.tb__law_kept_right rfl hmT huT (hr.mono (by decide)) (show LamP N__law_kept_right (defScope st__law_kept_right) _ from lamP_by (by decide +kernel)) rfl rfl (fun _ _ _ _ _ _ _ _ _ h=>BindsTo.of_defaults rfl h rfl rfl rfl) rfl (fun A outer s H E f c hr=>(r_mtdW (ks:=["b","a"]) rfl T.cl_Request T.m_Request_keeping.me (c_Request_keeping T) hr (takes_of rfl rfl rfl rfl) (r_var (pv 4)) (r_kcons r_int (r_kcons r_str r_knil)) (by decide +kernel) (by decide +kernel) (by decide)))) r_nil))))
  (r_pone (r_ret (r_eand (r_cmp (or_eq hr rfl) ok_eq (r_var (pv 12)) (r_lst (r_cons (r_tup (r_cons r_str (r_cons r_str r_nil))) (r_cons (r_tup (r_cons r_str (r_cons r_str r_nil))) r_nil))) (nomark _)) (pe_one (r_cmp (or_eq hr rfl) ok_eq (r_lam (k:=15) L.h0 rfl rfl T.f__law_told.g T.f__law_told.fn.kp lkT__law_told hcT__law_told bT__law_told sc__law_told rfl (.inl rfl) (given__law_told__law_kept_right T L  (k:=15)) L.tb__law_kept_right rfl hmT huT (hr.mono (by decide)) (show LamX.LamS (defScope st__law_kept_right) _ from LamX.lamS_by (by decide +kernel)) rfl (fun _ _ _ _ _=>rfl) (fun A outer s H E f c hr=>(r_mtdW (ks:=["a"]) rfl T.cl_Request T.m_Request_keeping.me (c_Request_keeping T) hr (takes_of rfl rfl rfl rfl) (r_var (pv 4)) (r_kcons r_non r_knil) (by decide +kernel) (by decide +kernel) (by decide)))) (r_tup (r_cons r_str (r_cons r_str r_nil))) (nomark _))))))))))))))))
theorem c__law_kept_right (T:Txt P w F mg a d) (L:Lm F mg base a):FnG false P w F.K mg base 31 (a "_law_kept_right") (d "_law_kept_right") P__law_kept_right (spF F 1 F__law_kept_right):=(ok__law_kept_right T L).imp fun _ _ _ _ h=>sp_called h
theorem ok_law (T:Txt P w F mg a d) (L:Lm F mg base a):FnG true P w F.K mg base 67 (a "law") (d "law") P_law (spF F 1 (bodyF 14 s_law)):=by
  obtain ⟨oc,od,kV,doc,pm,an,ct,osl,efd,lk,hcd⟩:=T.l_law
  obtain ⟨oc__law_told,od__law_told,kV__law_told,doc__law_told,pm__law_told,an__law_told,cd__law_told,ct__law_told,osl__law_told,efT__law_told,lkT__law_told,hcT__law_told⟩:=T.f__law_told.fn.ex
  have bT__law_told:=T.f__law_told.b
  rw [efT__law_told] at bT__law_told lkT__law_told
  rw [efd]
  refine def_okC (k:=66) (N:=N_law) lk hcd sc_law fun A outer s H E hr hg=>?_
  have tk:=takes_of (X:=cx_law P w F mg base a (.ref (a "law.code")) A outer s H E) (E:=E) rfl rfl rfl rfl
  have po:=passes_of (X:=cx_law P w F mg base a (.ref (a "law.code")) A outer s H E) rfl
  have nd:(cx_law P w F mg base a (.ref (a "law.code")) A outer s H E).N.Nodup:=sc_law.nd
  have hmT:(a "law.table",(cx_law P w F mg base a (.ref (a "law.code")) A outer s H E).env.qual ++ "<lambda>")∈F.T:=L.mT_law
  have huT:∀ p∈F.T,p.1=a "law.table" → p.2=(cx_law P w F mg base a (.ref (a "law.code")) A outer s H E).env.qual ++ "<lambda>":=L.uT_law
  exact (r_pcons (r_set (i:=1) nd rfl (.inl rfl) (q_call T.f__law_begun (c__law_begun T) (fun z=>Bool.noConfusion z) hr rfl tk (r_cons (r_var (pv 0)) r_nil) (len_cons len_nil)))
  (r_pcons (r_for po rfl (ri_range1 rfl T.n_range (r_cons (r_bin (or_add rfl) ok_add r_int (r_callB (call_min2 rfl) ok_min2 rfl T.n_min (by decide +kernel) (r_cons (r_callB (cr_len rfl) ok_len rfl T.n_len (by decide +kernel) (r_cons (r_var (pv 0)) r_nil)) (r_cons r_int r_nil)))) r_nil)) (go_mk (sl:=[2]) (pg_name (i:=2) nd rfl (.inl rfl)) gr_name) (r_pcons (r_set (i:=3) nd rfl (.inl rfl) (q_call T.f__law_settings (c__law_settings T) (fun z=>Bool.noConfusion z) hr rfl tk (r_cons (r_var (pv 1)) r_nil) (len_cons len_nil)))
  (r_pcons (r_par2 (i:=4) (j:=5) rfl nd rfl rfl (by decide) rfl rfl (r_cons (q_call T.f__law_places (c__law_places T) (fun z=>Bool.noConfusion z) hr rfl tk (r_cons (r_var (pv 1)) (r_cons (r_co (r_var (pv 3))) (r_cons r_int r_nil))) (len_cons (len_cons (len_cons len_nil)))) (r_cons (q_call T.f__law_modes (c__law_modes T) (fun z=>Bool.noConfusion z) hr rfl tk (r_cons (r_var (pv 1)) (r_cons (r_co (r_var (pv 3))) r_nil)) (len_cons (len_cons len_nil))) r_nil)) rfl)
  (r_pcons (r_set (i:=6) nd rfl (.inl rfl) (r_ix rfl (r_lst (r_cons (r_var (pv 4)) (r_cons (q_call T.f__law_places (c__law_places T) (fun z=>Bool.noConfusion z) hr rfl tk (r_cons (r_var (pv 1)) (r_cons (r_co (r_var (pv 3))) (r_cons r_int r_nil))) (len_cons (len_cons (len_cons len_nil)))) r_nil))) (q_call T.f__law_next (c__law_next T) (fun z=>Bool.noConfusion z) hr rfl tk (r_cons (r_var (pv 1)) (r_cons r_int r_nil)) (len_cons (len_cons len_nil))) (fun _ _=>rfl)))
  (r_pcons (r_set (i:=7) nd rfl (.inr rfl) (r_ix rfl (r_lst (r_cons (r_var (pv 5)) (r_cons (q_call T.f__law_modes (c__law_modes T) (fun z=>Bool.noConfusion z) hr rfl tk (r_cons (r_var (pv 1)) (r_cons (r_co (r_var (pv 3))) r_nil)) (len_cons (len_cons len_nil))) r_nil))) (q_call T.f__law_next (c__law_next T) (fun z=>Bool.noConfusion z) hr rfl tk (r_cons (r_var (pv 1)) (r_cons r_int r_nil)) (len_cons (len_cons len_nil))) (fun _ _=>rfl)))
  (r_pcons (r_asg (r_tup (r_cons (r_make (dd:=[]) (dv:=[]) rfl T.mk_Request (c_Request___init__ T) (fun z=>Bool.noConfusion z) hr rfl T.g_Request T.m_Request___init__.b .nil (fun _ _=>.nil) (fun _ _ _ _ h=>sp_called h) tk (r_cons (r_var (pv 3)) (r_cons (r_var (pv 4)) (r_cons (r_var (pv 5)) r_nil))) (len_cons (len_cons (len_cons len_nil)))) (r_cons (r_make (dd:=[]) (dv:=[]) rfl T.mk_Request (c_Request___init__ T) (fun z=>Bool.noConfusion z) hr rfl T.g_Request T.m_Request___init__.b .nil (fun _ _=>.nil) (fun _ _ _ _ h=>sp_called h) tk (r_cons (r_var (pv 3)) (r_cons (r_var (pv 6)) (r_cons (r_var (pv 7)) r_nil))) (len_cons (len_cons (len_cons len_nil)))) r_nil))) (go_mk (sl:=[8,9]) (pg_tup rfl (pgs_cons (pg_name (i:=8) nd rfl (.inr rfl)) (pgs_cons (pg_name (i:=9) nd rfl (.inl rfl)) pgs_nil))) (gr_tup rfl (grs_cons gr_name (grs_cons gr_name grs_nil)))))
  (r_pcons (r_sif (PW.pt (r_or (r_cmpT (or_ne hr rfl) ok_ne (r_callB (cr_repr rfl (hg rfl) (have z:=un66A hr; z) L.hsys) ok_repr rfl T.n_repr (by decide +kernel) (r_cons (r_lenI rfl T.m_Request___len__.me (c_Request___len__ T) (fun z=>Bool.noConfusion z) T.m_Request___len__.b hr rfl T.n_len (r_var (pv 8))) r_nil)) (r_callB (cr_repr rfl (hg rfl) (have z:=un66A hr; z) L.hsys) ok_repr rfl T.n_repr (by decide +kernel) (r_cons (r_callB (cr_len rfl) ok_len rfl T.n_len (by decide +kernel) (r_cons (r_var (pv 4)) r_nil)) r_nil)) (nomark _)) (pw_or1 (r_cmpT (or_ne hr rfl) ok_ne (r_cmp (or_eqI T.eq_Request (c_Request___eq__ T) (fun z=>Bool.noConfusion z) T.m_Request___eq__.b hr (by decide)) ok_eqI (r_var (pv 8)) (r_var (pv 9)) (nomark _)) (r_cmp (or_eq hr rfl) ok_eq (r_lst (r_cons (r_var (pv 4)) (r_cons (r_var (pv 5)) r_nil))) (r_lst (r_cons (r_var (pv 6)) (r_cons (r_var (pv 7)) r_nil))) (nomark _)) (nomark _))))) (r_pone (r_ret r_bl)) r_pnil)
  (r_pcons (r_sif (PW.pt (r_or (r_cmpT (or_eq hr rfl) ok_eq (r_cmp (or_neI T.eq_Request T.ne_Request (c_Request___eq__ T) (fun z=>Bool.noConfusion z) T.m_Request___eq__.b hr (by decide)) ok_neI (r_var (pv 8)) (r_var (pv 9)) (nomark _)) (r_cmp (or_eqI T.eq_Request (c_Request___eq__ T) (fun z=>Bool.noConfusion z) T.m_Request___eq__.b hr (by decide)) ok_eqI (r_var (pv 8)) (r_var (pv 9)) (nomark _)) (nomark _)) (pw_or1 (r_not (r_test (q_call T.f__law_kept_right (c__law_kept_right T L) (fun z=>Bool.noConfusion z) hr rfl tk (r_cons (r_var (pv 1)) r_nil) (len_cons len_nil))))))) (r_pone (r_ret r_bl)) r_pnil)
  (r_pcons (r_sif (r_cmpT (or_ne hr rfl) ok_ne (r_lc (own:=[("thing",10)]) (sl:=[10]) (gf:=(gN 10)) rfl nd (ri_lst rfl (r_lst (r_cons (r_var (pv 4)) (r_cons (r_var (pv 5)) (r_cons r_non (r_cons r_int (r_cons r_str (r_cons (r_lst (r_cons (r_co (r_var (pv 3))) (r_cons (r_var (pv 4)) (r_cons (r_var (pv 5)) r_nil)))) r_nil)))))))) (show BlkOk N_law (defScope st_law) _ [("thing",10)] from ⟨rfl,by decide +kernel,by decide +kernel,by decide +kernel,by decide +kernel⟩) gr_name (by decide) (fun _ _ _ _ _=>(pg_name (i:=10) nd rfl (.inl rfl))) (fun _ _ _ _ _=>(rt_one (r_cmpT (or_eqI T.eq_Request (c_Request___eq__ T) (fun z=>Bool.noConfusion z) T.m_Request___eq__.b hr (by decide)) ok_eqI (r_var (pv 8)) (r_var (pv 10)) (nomark _)))) (fun _ _ _ _ _=>(r_var (pv 10)))) (r_lst r_nil) (nomark _)) (r_pone (r_ret r_bl)) r_pnil)
  (r_pcons (r_sif (r_cmpT (or_ne hr rfl) ok_ne (r_lam (k:=33) L.h0 rfl rfl T.f__law_told.g T.f__law_told.fn.kp lkT__law_told hcT__law_told bT__law_told sc__law_told rfl (.inl rfl) (given__law_told_law T L  (k:=33)) L.tb_law rfl hmT huT (hr.mono (by decide)) (show LamX.LamS (defScope st_law) _ from LamX.lamS_by (by decide +kernel)) rfl (fun _ _ _ _ _=>rfl) (fun A outer s H E f c hr=>(r_mtd rfl T.cl_Request T.m_Request_with_modes.me (c_Request_with_modes T) (fun z=>Bool.noConfusion z) hr T.m_Request_with_modes.b (takes_of rfl rfl rfl rfl) (r_var (pv 8)) (r_cons (r_var (pv 7)) r_nil) (len_cons len_nil)))) (r_lst (r_cons (r_var (pv 7)) (r_cons (r_var (pv 4)) (r_cons (r_co (r_var (pv 3))) r_nil)))) (nomark _)) (r_pone (r_ret r_bl)) r_pnil)
  (r_pcons (r_set (i:=11) nd rfl (.inr rfl) (r_ix rfl (r_lst (r_cons r_int (r_cons r_non (r_cons (r_bin (or_add rfl) ok_add (r_var (pv 5)) (r_tup (r_cons r_str r_nil))) (r_cons (r_bin (or_add rfl) ok_add (r_sl rfl (r_var (pv 5)) ro_none (ro_some (r_neg r_int))) (r_tup (r_cons r_str r_nil))) (r_cons (r_callTy call_list_of ok_list rfl T.n_list (by decide +kernel) (r_cons (r_var (pv 5)) r_nil)) r_nil)))))) (q_call T.f__law_next (c__law_next T) (fun z=>Bool.noConfusion z) hr rfl tk (r_cons (r_var (pv 1)) (r_cons r_int r_nil)) (len_cons (len_cons len_nil))) (fun _ _=>rfl)))
  (r_pcons (r_set (i:=12) nd rfl (.inl rfl) (r_tup (r_cons r_str (r_cons (r_if (PW.pt (r_and (r_test (r_isi (T:=.tup) rfl (by decide) rfl T.n_isinstance rfl T.n_tuple (by decide +kernel) (r_var (pv 11)))) (pw_and1 (r_cmpT (or_eq hr rfl) ok_eq (r_callB (cr_len rfl) ok_len rfl T.n_len (by decide +kernel) (r_cons (r_var (pv 11)) r_nil)) (r_callB (cr_len rfl) ok_len rfl T.n_len (by decide +kernel) (r_cons (r_var (pv 5)) r_nil)) (nomark _))))) (r_bin op_sub ok_sub (r_callB (cr_len rfl) ok_len rfl T.n_len (by decide +kernel) (r_cons (r_var (pv 5)) r_nil)) r_int) r_non) r_nil))))
  (r_pcons (r_sif (r_cmpT (or_ne hr rfl) ok_ne (r_lam (k:=33) L.h0 rfl rfl T.f__law_told.g T.f__law_told.fn.kp lkT__law_told hcT__law_told bT__law_told sc__law_told rfl (.inl rfl) (given__law_told_law T L  (k:=33)) L.tb_law rfl hmT huT (hr.mono (by decide)) (show LamX.LamS (defScope st_law) _ from LamX.lamS_by (by decide +kernel)) rfl (fun _ _ _ _ _=>rfl) (fun A outer s H E f c hr=>(r_mtd rfl T.cl_Request T.m_Request_with_modes.me (c_Request_with_modes T) (fun z=>Bool.noConfusion z) hr T.m_Request_with_modes.b (takes_of rfl rfl rfl rfl) (r_var (pv 8)) (r_cons (r_var (pv 11)) r_nil) (len_cons len_nil)))) (r_var (pv 12)) (nomark _)) (r_pone (r_ret r_bl)) r_pnil)
  (r_pone (r_sif (r_cmpT (or_ne hr rfl) ok_ne (r_lst (r_cons (r_co (r_fld rfl T.cl_Request T.nf_Request_settings (r_var (pv 8)))) (r_cons (r_fld rfl T.cl_Request T.nf_Request_places (r_var (pv 8))) (r_cons (r_fld rfl T.cl_Request T.nf_Request_modes (r_var (pv 8))) r_nil)))) (r_lst (r_cons (r_co (r_var (pv 3))) (r_cons (r_var (pv 4)) (r_cons (r_var (pv 5)) r_nil)))) (nomark _)) (r_pone (r_ret r_bl)) r_pnil)))))))))))))))
  (r_pcons (r_set (i:=13) nd rfl (.inl rfl) (r_tup (r_cons (r_tup (r_cons r_str r_nil)) r_nil)))
  (r_pone (r_ret (r_cmp (or_neI T.eq_Request T.ne_Request (c_Request___eq__ T) (fun z=>Bool.noConfusion z) T.m_Request___eq__.b hr (by decide)) ok_neI (Exists.elim (bd_Request_1 T) fun _ kz=>r_make (dd:=[.non]) (dv:=[.non]) (n:=2) rfl T.mk_Request (c_Request___init__ T) (fun z=>Bool.noConfusion z) hr rfl T.g_Request kz.2 kz.1 (fun _ _=>(.cons .non .nil)) (fun _ _ _ _ h=>sp_called h) tk (r_cons (r_tupF (r_cons (r_tup (r_cons r_str (r_cons r_int r_nil))) r_nil)) (r_cons (r_var (pv 13)) r_nil)) (len_cons (len_cons len_nil))) (Exists.elim (bd_Request_1 T) fun _ kz=>r_make (dd:=[.non]) (dv:=[.non]) (n:=2) rfl T.mk_Request (c_Request___init__ T) (fun z=>Bool.noConfusion z) hr rfl T.g_Request kz.2 kz.1 (fun _ _=>(.cons .non .nil)) (fun _ _ _ _ h=>sp_called h) tk (r_cons (r_tupF (r_cons (r_tup (r_cons r_str (r_cons r_int r_nil))) r_nil)) (r_cons (r_var (pv 13)) r_nil)) (len_cons (len_cons len_nil))) (nomark _)))))))
end
end K06
set_option maxHeartbeats 1000000
namespace Ev
open PySem
def isD:W→Bool
  | .d _=>true
  | _=>false
def pln:O→Bool
  | .lst ws=>ws.all isD
  | _=>false
def Dw (cs:List Int) (rest:Sto) (c:Nat) (S:Sto):Prop:=∃ ls n,S=.drw cs ls n :: rest∧cs.length≤63∧ls.length≤63∧0≤n∧n≤(c:Int)∧rest.all pln=true
theorem Dw.mono {cs:List Int} {rest S:Sto} {c c':Nat} (h:Dw cs rest c S) (l:c≤c'):Dw cs rest c' S:=by
  obtain ⟨ls,n,e,h1,h2,h3,h4,h5⟩:=h
  exact ⟨ls,n,e,h1,h2,h3,by omega,h5⟩
theorem drop0_sub:∀ ls:List Int,(drop0 ls).length≤ls.length
  | []=>Nat.le_refl _
  | x :: ls=>by
    unfold drop0
    split
    · exact Nat.le_succ_of_le (drop0_sub ls)
    · exact Nat.le_refl _
theorem next_ok {cs:List Int} {rest S:Sto} {c:Nat} {many:Int} (h:Dw cs rest c S) (hc:c < 2 ^ 39) (hm:0 < many) (hm2:many < 1073741824) :
    ∃ (r:Int) (S':Sto),nextF [.ref 0,.d (.int many)] S=.ok (.d (.int r)) S'∧0≤r∧r < many∧Dw cs rest (c + 1) S':=by
  obtain ⟨ls,n,rfl,h1,h2,h3,h4,h5⟩:=h
  have hC:nextC cs ls n many=true:=decide_eq_true ⟨hm,hm2,h3,by omega,h2,h1⟩
  refine ⟨(nextR cs ls n many).1,.drw cs (nextR cs ls n many).2.1 (nextR cs ls n many).2.2 :: rest,?_,?_,?_,?_⟩
  · simp only [nextF,List.getElem?_cons_zero,hC,if_true,List.set_cons_zero]
  · unfold nextR
    split
    · exact Int.fmod_nonneg_of_pos _ hm
    · exact Int.fmod_nonneg_of_pos _ hm
  · unfold nextR
    split
    · exact Int.fmod_lt_of_pos _ hm
    · exact Int.fmod_lt_of_pos _ hm
  · have hd:=drop0_sub ls
    refine ⟨_,_,rfl,h1,?_,?_,?_,h5⟩
    · unfold nextR
      split
      · rename_i x xs e
        rw [e] at hd
        simp only [List.length_cons] at hd ⊢
        omega
      · simp
    · unfold nextR
      split
      · exact h3
      · simp only; omega
    · unfold nextR
      split
      · simp only; omega
      · simp only; omega
theorem pln_lt {n:Nat} {o:O} (h:pln o=true):objLt n o=true:=by
  cases o with
  | lst ws =>
    simp only [pln,List.all_eq_true] at h
    simp only [objLt,List.all_eq_true]
    intro w hw
    have:=h w hw
    cases w <;> simp_all [isD,refLt]
  | dct _=>simp [pln] at h
  | drw _ _ _=>simp [pln] at h
  | ins _ _=>simp [pln] at h
  | tup _=>simp [pln] at h
  | kd _=>simp [pln] at h
theorem Dw.len {cs:List Int} {rest S:Sto} {c:Nat} (h:Dw cs rest c S):S.length=rest.length + 1:=by
  obtain ⟨ls,n,rfl,_⟩:=h
  rfl
theorem Dw.lt {cs:List Int} {rest S:Sto} {c n:Nat} (h:Dw cs rest c S):S.all (objLt n)=true:=by
  obtain ⟨ls,k,rfl,_,_,_,_,h5⟩:=h
  rw [List.all_cons]
  simp only [objLt,Bool.true_and,List.all_eq_true]
  exact fun o ho=>pln_lt (List.all_eq_true.mp h5 o ho)
theorem Dw.noF {cs:List Int} {rest S:Sto} {c:Nat} (h:Dw cs rest c S):S.all noFO=true:=by
  obtain ⟨ls,k,rfl,_,_,_,_,h5⟩:=h
  rw [List.all_cons]
  simp only [noFO,Bool.true_and,List.all_eq_true]
  intro o ho
  have:=List.all_eq_true.mp h5 o ho
  cases o with
  | lst ws =>
    simp only [pln,List.all_eq_true] at this
    simp only [noFO,List.all_eq_true]
    intro w hw
    have:=this w hw
    cases w <;> simp_all [isD,Ev.noF]
  | dct _=>simp [pln] at this
  | drw _ _ _=>simp [pln] at this
  | ins _ _=>simp [pln] at this
  | tup _=>simp [pln] at this
  | kd _=>simp [pln] at this
theorem Dw.noE {cs:List Int} {rest S:Sto} {c:Nat} (h:Dw cs rest c S):S.all noEO=true:=by
  obtain ⟨ls,k,rfl,_,_,_,_,h5⟩:=h
  rw [List.all_cons]
  simp only [noEO,Bool.true_and,List.all_eq_true]
  intro o ho
  have:=List.all_eq_true.mp h5 o ho
  cases o with
  | lst ws =>
    simp only [pln,List.all_eq_true] at this
    simp only [noEO,List.all_eq_true]
    intro w hw
    have:=this w hw
    cases w <;> simp_all [isD,Ev.noE]
  | dct _=>simp [pln] at this
  | drw _ _ _=>simp [pln] at this
  | ins _ _=>simp [pln] at this
  | tup _=>simp [pln] at this
  | kd _=>simp [pln] at this
theorem called_draw {f:FF} {ws:List W} {cs:List Int} {rest S S1:Sto} {c c1:Nat} {d:D} (hd:dats ws=none) (h:Dw cs rest c S) (e:f ws S=.ok (.d d) S1) (h1:Dw cs rest c1 S1):called f ws S=.ok (.d d) S1:=by
  unfold called
  rw [hd]
  simp only [e]
  have l:S.length=S1.length:=by rw [h.len,h1.len]
  have t:S1.take S.length=S1:=by rw [l,List.take_length]
  rw [t,h1.lt,l]
  simp [handOut,refLt]
theorem called_data {f:FF} {ws:List W} {ds:List D} {S S1:Sto} {d:D} (hd:dats ws=some ds) (e:f ws []=.ok (.d d) S1):called f ws S=.ok (.d d) S:=by
  unfold called
  rw [hd]
  simp only [e,seenN,seen,view]
theorem called_exn {f:FF} {ws:List W} {ds:List D} {S S1:Sto} {c:Nat} {d:D} (hd:dats ws=some ds) (e:f ws []=.exn c d S1):called f ws S=.exn c d S:=by
  unfold called
  rw [hd]
  simp only [e]
theorem compL_dw {g:FG} {f:FE} {ρ:Loc} {cs:List Int} {rest:Sto} (k:Nat) (P:D→Prop):∀ (ds acc:List D) (c:Nat) (S:Sto),Dw cs rest c S→acc.length + ds.length≤sizeLine→c + k * ds.length < 2 ^ 39 →
    (∀ d∈ds,∀ c S,Dw cs rest c S→c + k < 2 ^ 39→∃ ρ1 y S',g (.d d) ρ S=some ρ1∧f ρ1 S=.ok (.d y) S'∧Dw cs rest (c + k) S'∧P y) →
    ∃ ys S',compL g tTrue f ρ ds S acc=.ok (acc ++ ys) S'∧Dw cs rest (c + k * ds.length) S'∧ys.length=ds.length∧∀ y∈ys,P y
  | [],acc,c,S,hS,_,_,_=>⟨[],S,by simp [compL],by simpa using hS,rfl,by simp⟩
  | d :: ds,acc,c,S,hS,hl,hc,h=>by
    simp only [List.length_cons,Nat.mul_succ] at hl hc
    obtain ⟨ρ1,y,S1,e1,e2,h1,hy⟩:=h d List.mem_cons_self c S hS (by omega)
    obtain ⟨ys,S',e3,h3,l3,p3⟩:=compL_dw (g:=g) (f:=f) (ρ:=ρ) k P ds (acc ++ [y]) (c + k) S1 h1 (by simp; omega) (by omega) (fun x hx=>h x (List.mem_cons_of_mem _ hx))
    refine ⟨y :: ys,S',?_,h3.mono (by simp only [List.length_cons,Nat.mul_succ]; omega),by simp [l3],fun z hz=>?_⟩
    · unfold compL
      simp only [e1,tTrue,noX,R.bind,if_true,e2]
      rw [if_pos (by omega),e3]
      simp
    · rcases List.mem_cons.mp hz with rfl | hz
      · exact hy
      · exact p3 z hz
theorem range_len (n:Nat):(rangeD 0 n).length=n:=by simp [rangeD]
mutual
def szD:D→Nat
  | .str z=>z.length + 1
  | .tup xs=>1 + szDs xs
  | .lst xs=>1 + szDs xs
  | _=>1
def szDs:List D→Nat
  | []=>0
  | x :: xs=>szD x + szDs xs
end
theorem szDs_mem:∀ {xs:List D} {x:D},x∈xs→szD x≤szDs xs
  | y :: ys,x,h=>by
    simp only [szDs]
    rcases List.mem_cons.mp h with rfl | h
    · omega
    · have:=szDs_mem h
      omega
def plC (c:Nat):Bool:=decide (32≤c∧c < 127∧c ≠ 39∧c ≠ 92)
theorem plC_lt {c:Nat} (h:plC c=true):c < 128:=by
  have:=of_decide_eq_true h
  omega
mutual
def Gd:Nat→D→Prop
  | _,.non=>True
  | _,.bl _=>True
  | k,.int i=>i.natAbs≤10 ^ 30 + 100 * k
  | _,.str z=>∀ c∈z.cps.toList,plC c=true
  | _,.dct kvs=>kvs=[]
  | k + 1,.tup xs=>Gds k xs
  | k + 1,.lst xs=>Gds k xs
  | _,_=>False
def Gds:Nat→List D→Prop
  | _,[]=>True
  | k,x :: xs=>Gd k x∧Gds k xs
end
theorem gds_iff {k:Nat}:∀ {xs:List D},Gds k xs ↔ ∀ x∈xs,Gd k x
  | []=>by simp [Gds]
  | x :: xs=>by simp [Gds,gds_iff (xs:=xs)]
mutual
theorem Gd.up:∀ {k:Nat} {d:D},Gd k d→Gd (k + 1) d
  | 0,.non,_=>by simp [Gd]
  | 0,.bl _,_=>by simp [Gd]
  | 0,.int i,h=>by simp only [Gd] at h ⊢; omega
  | 0,.str z,h=>by simp only [Gd] at h ⊢; exact h
  | 0,.dct kvs,h=>by simp only [Gd] at h ⊢; exact h
  | 0,.tup _,h=>by simp [Gd] at h
  | 0,.lst _,h=>by simp [Gd] at h
  | 0,.ins _ _,h=>by simp [Gd] at h
  | 0,.scr _,h=>by simp [Gd] at h
  | 0,.ftp _,h=>by simp [Gd] at h
  | 0,.cls _,h=>by simp [Gd] at h
  | k + 1,.non,_=>by simp [Gd]
  | k + 1,.bl _,_=>by simp [Gd]
  | k + 1,.int i,h=>by simp only [Gd] at h ⊢; omega
  | k + 1,.str z,h=>by simp only [Gd] at h ⊢; exact h
  | k + 1,.dct kvs,h=>by simp only [Gd] at h ⊢; exact h
  | k + 1,.tup xs,h=>by simp only [Gd] at h ⊢; exact Gds.up h
  | k + 1,.lst xs,h=>by simp only [Gd] at h ⊢; exact Gds.up h
  | k + 1,.ins _ _,h=>by simp [Gd] at h
  | k + 1,.scr _,h=>by simp [Gd] at h
  | k + 1,.ftp _,h=>by simp [Gd] at h
  | k + 1,.cls _,h=>by simp [Gd] at h
theorem Gds.up:∀ {k:Nat} {ds:List D},Gds k ds→Gds (k + 1) ds
  | _,[],_=>by simp [Gds]
  | k,d :: ds,h=>by simp only [Gds] at h ⊢; exact ⟨Gd.up h.1,Gds.up h.2⟩
end
theorem Gd.mono {k k':Nat} {d:D} (h:Gd k d) (l:k≤k'):Gd k' d:=by
  obtain ⟨m,rfl⟩:=Nat.exists_eq_add_of_le l
  clear l
  induction m with
  | zero=>exact h
  | succ m ih=>exact Gd.up ih
theorem Gds.mono {k k':Nat} {d:List D} (h:Gds k d) (l:k≤k'):Gds k' d:=gds_iff.mpr fun x hx=>(gds_iff.mp h x hx).mono l
theorem log40 {n:Nat} (h:n < 10 ^ 40):n.log2 < 133:=by
  by_cases h0:n=0
  · subst h0; decide
  · refine (Nat.log2_lt h0).mpr (Nat.lt_of_lt_of_le h (by decide))
mutual
theorem gd_show:∀ {k:Nat} {d:D},k≤1000→Gd k d→showD d=true∧(toPyR d).showable=true∧(toPyR d).depth≤k + 1∧(toPyR d).leavesShort 42=true∧(toPyR d).weight + 1≤140 * szD d
  | _,.non,_,_=>⟨rfl,rfl,by simp [toPyR,PyData.depth],rfl,by simp [toPyR,PyData.weight,szD]⟩
  | _,.bl _,_,_=>⟨rfl,rfl,by simp [toPyR,PyData.depth],rfl,by simp [toPyR,PyData.weight,szD]⟩
  | k,.int i,hk,h=>by
    have h:i.natAbs≤10 ^ 30 + 100 * k:=by cases k <;> simpa only [Gd] using h
    have h:i.natAbs < 10 ^ 40:=by omega
    have hl:=log40 h
    refine ⟨rfl,?_,by simp [toPyR,PyData.depth],?_,?_⟩
    · simp only [toPyR,PyData.showable,decide_eq_true_eq]; omega
    · simp only [toPyR,PyData.leavesShort,PyData.shown]
      have:=int_text_length_le10 (k:=40) (by decide) h
      have e:(Str.ofString (toString i)).length=(toString i).length:=by
        first
          | exact PySem.ofString_length _
          | simp
      exact decide_eq_true (by rw [e]; omega)
    · simp only [toPyR,PyData.weight,szD]
      split <;> omega
  | k,.str z,_,h=>by
    have h:∀ c∈z.cps.toList,c < 128:=fun c hc=>plC_lt ((show ∀ c∈z.cps.toList,plC c=true by cases k <;> simpa only [Gd] using h) c hc)
    refine ⟨rfl,rfl,by simp [toPyR,PyData.depth],?_,?_⟩
    · simp only [toPyR,PyData.leavesShort,List.all_eq_true,decide_eq_true_eq]
      exact fun c hc=>Nat.lt_of_lt_of_le (h c hc) (by decide)
    · simp only [toPyR,PyData.weight,szD]
      have:z.length=z.cps.size:=rfl
      omega
  | k,.dct kvs,_,h=>by
    have h:kvs=[]:=by cases k <;> simpa only [Gd] using h
    subst h
    exact ⟨rfl,rfl,by simp [toPyR,PyData.depth,PyData.depthKv],rfl,by simp [toPyR,PyData.weight,PyData.weightKv,szD]⟩
  | k + 1,.tup xs,hk,h=>by
    obtain ⟨h1,h2,h3,h4,h5⟩:=gds_show (k:=k) (ds:=xs) (by omega) (by simpa only [Gd] using h)
    refine ⟨h1,h2,?_,h4,?_⟩
    · simp only [toPyR,PyData.depth]; omega
    · simp only [toPyR,PyData.weight,szD]; omega
  | k + 1,.lst xs,hk,h=>by
    obtain ⟨h1,h2,h3,h4,h5⟩:=gds_show (k:=k) (ds:=xs) (by omega) (by simpa only [Gd] using h)
    refine ⟨h1,h2,?_,h4,?_⟩
    · simp only [toPyR,PyData.depth]; omega
    · simp only [toPyR,PyData.weight,szD]; omega
  | 0,.tup _,_,h=>by simp [Gd] at h
  | 0,.lst _,_,h=>by simp [Gd] at h
  | 0,.ins _ _,_,h=>by simp [Gd] at h
  | 0,.scr _,_,h=>by simp [Gd] at h
  | 0,.ftp _,_,h=>by simp [Gd] at h
  | 0,.cls _,_,h=>by simp [Gd] at h
  | k + 1,.ins _ _,_,h=>by simp [Gd] at h
  | k + 1,.scr _,_,h=>by simp [Gd] at h
  | k + 1,.ftp _,_,h=>by simp [Gd] at h
  | k + 1,.cls _,_,h=>by simp [Gd] at h
theorem gds_show:∀ {k:Nat} {ds:List D},k≤1000→Gds k ds→showDs ds=true∧PyData.showableAll (toPyRs ds)=true∧PyData.depthAll (toPyRs ds)≤k + 1∧PyData.leavesShortAll 42 (toPyRs ds)=true∧PyData.weightAll (toPyRs ds)≤140 * szDs ds
  | _,[],_,_=>⟨rfl,rfl,by simp [toPyRs,PyData.depthAll],rfl,by simp [toPyRs,PyData.weightAll]⟩
  | k,d :: ds,hk,h=>by
    simp only [Gds] at h
    obtain ⟨a1,a2,a3,a4,a5⟩:=gd_show hk h.1
    obtain ⟨h1,h2,h3,h4,h5⟩:=gds_show hk h.2
    refine ⟨by simp [showDs,a1,h1],by simp [toPyRs,PyData.showableAll,a2,h2],?_,by simp [toPyRs,PyData.leavesShortAll,a4,h4],?_⟩
    · simp only [toPyRs,PyData.depthAll]; omega
    · simp only [toPyRs,PyData.weightAll,szDs]; omega
end
end Ev
namespace Ev
open PySem
open L2 (atI ixN)
section
variable {α β:Type} {a:α} {S S1:Sto} {ρ:Loc} {c:Nat} {x:D}
@[simp] theorem bind_ok {k:α→Sto→R β}:R.bind (.ok a S) k=k a S:=rfl
@[simp] theorem bind_exn {k:α→Sto→R β}:R.bind (.exn c x S) k=.exn c x S:=rfl
@[simp] theorem bind_err {k:α→Sto→R β}:R.bind .err k=.err:=rfl
@[simp] theorem st_ok {k:α→Sto→RS}:R.st (.ok a S) ρ k=k a S:=rfl
@[simp] theorem st_exn {k:α→Sto→RS}:R.st (.exn c x S) ρ k=.exn c x ρ S:=rfl
@[simp] theorem st_err {k:α→Sto→RS}:R.st .err ρ k=.err:=rfl
@[simp] theorem noX_ok:noX (.ok a S)=.ok a S:=rfl
@[simp] theorem noX_err:noX (.err:R α)=.err:=rfl
end
def RS.go (r:RS) (g:FS):RS:=match r with
  | .nx ρ S=>g ρ S
  | r=>r
section
variable {f g h:FE} {fa:FA} {t u:FT} {p q:FS} {ρ:Loc} {S:Sto} {i j:Nat} {op:Op2}
@[simp] theorem go_nx:RS.go (.nx ρ S) p=p ρ S:=rfl
@[simp] theorem go_rt {w:W}:RS.go (.rt w S) p=.rt w S:=rfl
@[simp] theorem go_exn {c:Nat} {x:D}:RS.go (.exn c x ρ S) p=.exn c x ρ S:=rfl
@[simp] theorem go_bk:RS.go (.bk ρ S) p=.bk ρ S:=rfl
@[simp] theorem go_ct:RS.go (.ct ρ S) p=.ct ρ S:=rfl
@[simp] theorem go_err:RS.go .err p=.err:=rfl
@[simp] theorem e_seq:sSeq p q ρ S=RS.go (p ρ S) q:=rfl
@[simp] theorem e_next:sNext ρ S=.nx ρ S:=rfl
@[simp] theorem e_ret:sRet f ρ S=(f ρ S).st ρ fun w S1=>.rt w S1:=rfl
@[simp] theorem e_retN:sRetN ρ S=.rt (.d .non) S:=rfl
@[simp] theorem e_expr:sExpr f ρ S=(f ρ S).st ρ fun _ S1=>.nx ρ S1:=rfl
@[simp] theorem e_set:sSet i f ρ S=(f ρ S).st ρ fun w S1=>.nx (ρ.set i (some w)) S1:=rfl
@[simp] theorem e_if:sIf t p q ρ S=(t ρ S).st ρ fun k S1=>if k=true then p ρ S1 else q ρ S1:=rfl
@[simp] theorem e_brk:sBreak ρ S=.bk ρ S:=rfl
@[simp] theorem e_cnt:sCont ρ S=.ct ρ S:=rfl
@[simp] theorem e_var:fVar i ρ S=match ρ[i]? with | some (some w)=>.ok w S | _=>.err:=rfl
@[simp] theorem e_c {d:D}:fC d ρ S=.ok (.d d) S:=rfl
@[simp] theorem e_bin:fBin op f g ρ S=(f ρ S).bind fun x S1=>(g ρ S1).bind fun y S2=>op x y S2:=rfl
@[simp] theorem e_nil:fNil ρ S=.ok [] S:=rfl
@[simp] theorem e_cons:fCons f fa ρ S=(f ρ S).bind fun x S1=>(fa ρ S1).bind fun xs S2=>.ok (x :: xs) S2:=rfl
@[simp] theorem e_call {o:OpN}:fCall o fa ρ S=(fa ρ S).bind o:=rfl
@[simp] theorem e_app {o:FF}:fApp o fa ρ S=(fa ρ S).bind o:=rfl
@[simp] theorem e_toT:toT f ρ S=(f ρ S).bind toB:=rfl
@[simp] theorem e_toB {b:Bool}:toB (.d (.bl b)) S=.ok b S:=rfl
@[simp] theorem e_band:bAnd t u ρ S=(t ρ S).bind fun k S1=>if k=true then u ρ S1 else .ok false S1:=rfl
@[simp] theorem e_bor:bOr t u ρ S=(t ρ S).bind fun k S1=>if k=true then .ok true S1 else u ρ S1:=rfl
@[simp] theorem e_bnot:bNot t ρ S=(t ρ S).bind fun k S1=>.ok (!k) S1:=rfl
@[simp] theorem e_eand:eAnd f g ρ S=(f ρ S).bind fun w S1=>(toB w S1).bind fun k S2=>if k=true then g ρ S2 else .ok (.d (.bl false)) S2:=rfl
@[simp] theorem e_eor:eOr f g ρ S=(f ρ S).bind fun w S1=>(toB w S1).bind fun k S2=>if k=true then .ok (.d (.bl true)) S2 else g ρ S2:=rfl
@[simp] theorem e_enot:eNot f ρ S=(f ρ S).bind fun w S1=>(toB w S1).bind fun k S2=>.ok (.d (.bl (!k))) S2:=rfl
@[simp] theorem e_eif:eIf t f g ρ S=(t ρ S).bind fun k S1=>if k=true then f ρ S1 else g ρ S1:=rfl
@[simp] theorem e_chain {o o':Op2}:fChain o o' f g h ρ S=(f ρ S).bind fun x S1=>(g ρ S1).bind fun y S2=>(o x y S2).bind fun z S3=>(toB z S3).bind fun k S4 =>
  if k=true then (h ρ S4).bind fun u S5=>o' y u S5 else .ok (.d (.bl false)) S4:=rfl
@[simp] theorem e_tup:fTup fa ρ S=(fa ρ S).bind fun ws S1=>match dats ws with
  | some ds=>if ds.length≤sizeLine then .ok (.d (.tup ds)) S1 else .err
  | none=>.err:=rfl
@[simp] theorem e_lst:fLst fa ρ S=(fa ρ S).bind fun ws S1=>match dats ws with
  | some ds=>if ds.length≤sizeLine then .ok (.d (.lst ds)) S1 else .err
  | none=>.err:=rfl
@[simp] theorem e_star:fStar f fa ρ S=(f ρ S).bind fun x S1=>match seqW S1 x with
  | some ds=>(fa ρ S1).bind fun xs S2=>.ok (ds.map W.d ++ xs) S2
  | none=>.err:=rfl
@[simp] theorem e_neg:fNeg f ρ S=(f ρ S).bind fun w S1=>match w with
  | .d (.int i)=>.ok (.d (.int (-i))) S1
  | _=>.err:=rfl
@[simp] theorem e_back:fBack f ρ S=(f ρ S).bind fun w S1=>match w with
  | .d (.tup ds)=>.ok (.d (.tup ds.reverse)) S1
  | _=>.err:=rfl
@[simp] theorem e_isi {T:Ty}:fIsi T f ρ S=(f ρ S).bind fun w S1=>match tyW S1 w with
  | some t=>.ok (.d (.bl (t.sub T))) S1
  | none=>.err:=rfl
@[simp] theorem e_oNone:oNone ρ S=.ok none S:=rfl
@[simp] theorem e_oSome:oSome f ρ S=(f ρ S).bind fun w S1=>match w with
  | .d (.int i)=>.ok (some i) S1
  | _=>.err:=rfl
@[simp] theorem e_sl {o:OpSl} {lo hi:FO}:fSl o f lo hi ρ S=(f ρ S).bind fun x S1=>(lo ρ S1).bind fun l S2=>(hi ρ S2).bind fun h S3=>o x l h S3:=rfl
@[simp] theorem e_par2:sPar2 i j fa ρ S=(fa ρ S).st ρ fun ws S1=>match ws with
  | [v,w]=>.nx ((ρ.set i (some v)).set j (some w)) S1
  | _=>.err:=rfl
@[simp] theorem e_par3 {l:Nat}:sPar3 i j l fa ρ S=(fa ρ S).st ρ fun ws S1=>match ws with
  | [u,v,w]=>.nx (((ρ.set i (some u)).set j (some v)).set l (some w)) S1
  | _=>.err:=rfl
@[simp] theorem e_asg {g:FG}:sAsg g f ρ S=(f ρ S).st ρ fun w S1=>match g w ρ S1 with
  | some ρ'=>.nx ρ' S1
  | none=>.err:=rfl
@[simp] theorem e_raise {c:Nat}:sRaise c f ρ S=(f ρ S).st ρ fun w S1=>match w with
  | .d x=>.exn c x ρ S1
  | _=>.err:=rfl
@[simp] theorem e_for {fi:FI} {g:FG}:sFor fi g p ρ S=(fi ρ S).st ρ fun ds S1=>loop (turn g p) ds ρ S1:=rfl
@[simp] theorem e_turn {g:FG} {d:D}:turn g p d ρ S=match g (.d d) ρ S with
  | some ρ1=>p ρ1 S
  | none=>.err:=rfl
@[simp] theorem e_gN {w:W}:gN i w ρ S=some (ρ.set i (some w)):=rfl
@[simp] theorem e_gT {n:Nat} {gs:FGs} {ds:List D}:gT n gs (.d (.tup ds)) ρ S=if ds.length=n then gs ds ρ S else none:=rfl
@[simp] theorem e_gsN:gsNil [] ρ S=some ρ:=rfl
@[simp] theorem e_gsC {g:FG} {gs:FGs} {d:D} {ds:List D}:gsCons g gs (d :: ds) ρ S=(g (.d d) ρ S).bind fun ρ1=>gs ds ρ1 S:=rfl
@[simp] theorem e_lc {fi:FI} {g:FG} {vs:List Nat}:fLc fi g t f vs ρ S=(fi ρ S).bind fun ds S1=>(compL g t f (wipeL ρ vs) ds S1 []).bind fun ys S2=>.ok (.d (.lst ys)) S2:=rfl
@[simp] theorem e_lst':iLst f ρ S=(f ρ S).bind fun w S1=>match w with
  | .d (.lst ds)=>.ok ds S1
  | _=>.err:=rfl
@[simp] theorem e_tupl:iTupl f ρ S=(f ρ S).bind fun w S1=>match w with
  | .d (.tup ds)=>.ok ds S1
  | _=>.err:=rfl
@[simp] theorem e_str:iStr f ρ S=(f ρ S).bind fun w S1=>match w with
  | .d (.str z)=>.ok (signs z) S1
  | _=>.err:=rfl
@[simp] theorem e_range1:iRange1 fa ρ S=(fa ρ S).bind fun ws S1=>match ws with
  | [.d (.int j)]=>if -(2 ^ 62)≤j∧j < 2 ^ 62 then .ok (rangeD 0 j.toNat) S1 else .err
  | _=>.err:=rfl
@[simp] theorem e_enumT:iEnumT f ρ S=(f ρ S).bind fun w S1=>match w with
  | .d (.tup ds)=>.ok (enumFrom 0 ds) S1
  | _=>.err:=rfl
@[simp] theorem e_enumL:iEnumL f ρ S=(f ρ S).bind fun w S1=>match w with
  | .d (.lst ds)=>.ok (enumFrom 0 ds) S1
  | _=>.err:=rfl
end
section
variable {S:Sto} {i j:Int} {z y:Str} {xs ys ds:List D}
@[simp] theorem o_addI:opAdd (.d (.int i)) (.d (.int j)) S=.ok (.d (.int (i + j))) S:=rfl
theorem o_addT (h:xs.length + ys.length≤16777216):opAdd (.d (.tup xs)) (.d (.tup ys)) S=.ok (.d (.tup (xs ++ ys))) S:=by
  show (if xs.length + ys.length≤sizeLine then _ else _)=_
  rw [if_pos (by rw [sizeLine_eq]; exact h)]
@[simp] theorem o_sub:opSub (.d (.int i)) (.d (.int j)) S=.ok (.d (.int (i - j))) S:=rfl
@[simp] theorem o_lt:opLt (.d (.int i)) (.d (.int j)) S=.ok (.d (.bl (decide (i < j)))) S:=rfl
@[simp] theorem o_le:opLe (.d (.int i)) (.d (.int j)) S=.ok (.d (.bl (decide (i≤j)))) S:=rfl
@[simp] theorem o_gt:opGt (.d (.int i)) (.d (.int j)) S=.ok (.d (.bl (decide (j < i)))) S:=rfl
@[simp] theorem o_ge:opGe (.d (.int i)) (.d (.int j)) S=.ok (.d (.bl (decide (j≤i)))) S:=rfl
theorem eqOk_int (x:Int):eqOk (.int x)=true:=by unfold eqOk; simp [flatD,toPy,SeqAt.shaped,PyData.canLay0,PyData.depth]
@[simp] theorem o_eqI:opEq (.d (.int i)) (.d (.int j)) S=.ok (.d (.bl (decide (i=j)))) S:=by
  simp only [opEq,view,eqOk_int,Bool.and_self,if_true,eqD,toPy,PyData.eqv]
  congr 1
@[simp] theorem o_neI:opNe (.d (.int i)) (.d (.int j)) S=.ok (.d (.bl (!decide (i=j)))) S:=by
  simp only [opNe,view,eqOk_int,Bool.and_self,if_true,eqD,toPy,PyData.eqv]
  congr 1
@[simp] theorem o_eqS:opEq (.d (.str z)) (.d (.str y)) S=.ok (.d (.bl (decide (z=y)))) S:=rfl
@[simp] theorem o_neS:opNe (.d (.str z)) (.d (.str y)) S=.ok (.d (.bl (!decide (z=y)))) S:=rfl
@[simp] theorem o_lenT:opLen [.d (.tup xs)] S=.ok (.d (.int xs.length)) S:=rfl
@[simp] theorem o_lenL:opLen [.d (.lst xs)] S=.ok (.d (.int xs.length)) S:=rfl
theorem o_lenS (h:z.length≤16777216):opLen [.d (.str z)] S=.ok (.d (.int z.length)) S:=by
  have h:z.length≤sizeLine:=by rw [sizeLine_eq]; exact h
  simp only [opLen,op1,view,lenD,h,if_true]
@[simp] theorem o_slT {lo hi:Option Int}:opSl (.d (.tup xs)) lo hi S=.ok (.d (.tup (cut xs lo hi))) S:=rfl
@[simp] theorem o_slL {lo hi:Option Int}:opSl (.d (.lst xs)) lo hi S=.ok (.d (.lst (cut xs lo hi))) S:=rfl
theorem atI_in {α:Type} {xs:List α} {r:Int} {x:α} (h0:0≤r) (h:xs[r.toNat]? = some x):atI xs r=some x:=by
  have hl:r.toNat < xs.length:=(List.getElem?_eq_some_iff.mp h).1
  unfold atI ixN
  rw [if_pos h0,if_pos (by omega)]
  exact h
@[simp] theorem o_ixT:opIx (.d (.tup xs)) (.d (.int i)) S=match atI xs i with | some d=>.ok (.d d) S | none=>.err:=rfl
@[simp] theorem o_ixLi:opIx (.d (.lst xs)) (.d (.int i)) S=match atI xs i with | some d=>.ok (.d d) S | none=>.err:=rfl
@[simp] theorem atI_0 {α:Type} {x:α} {xs:List α}:atI (x :: xs) 0=some x:=by
  apply atI_in (by decide); rfl
@[simp] theorem atI_1 {α:Type} {x y:α} {xs:List α}:atI (x :: y :: xs) 1=some y:=by
  apply atI_in (by decide); rfl
@[simp] theorem o_eqE {xs:List D}:opEqE (.d (.tup xs)) (.d (.tup [])) S=.ok (.d (.bl xs.isEmpty)) S:=rfl
@[simp] theorem o_list:op1 listD [.d (.tup xs)] S=.ok (.d (.lst xs)) S:=rfl
@[simp] theorem o_list':op1 listD [.d (.lst xs)] S=.ok (.d (.lst xs)) S:=rfl
@[simp] theorem o_tuple:op1 tupleD [.d (.lst xs)] S=.ok (.d (.tup xs)) S:=rfl
@[simp] theorem o_tuple':op1 tupleD [.d (.tup xs)] S=.ok (.d (.tup xs)) S:=rfl
@[simp] theorem o_int:op1 intD [.d (.int i)] S=.ok (.d (.int i)) S:=rfl
@[simp] theorem o_min:opMin2 [.d (.int i),.d (.int j)] S=.ok (.d (.int (if j < i then j else i))) S:=rfl
@[simp] theorem y_d {x:D}:tyW S (.d x)=tyD x:=rfl
@[simp] theorem v_d {x:D}:view S (.d x)=some x:=rfl
@[simp] theorem dats_nil:dats []=some []:=rfl
@[simp] theorem dats_d {x:D} {ws:List W}:dats (.d x :: ws)=(dats ws).map (x :: ·):=rfl
@[simp] theorem dats_ref {i:Nat} {ws:List W}:dats (.ref i :: ws)=none:=rfl
@[simp] theorem t_non:tyD .non=some .non:=rfl
@[simp] theorem t_bl {b:Bool}:tyD (.bl b)=some .bl:=rfl
@[simp] theorem t_int {i:Int}:tyD (.int i)=some .int:=rfl
@[simp] theorem t_str {z:Str}:tyD (.str z)=some .str:=rfl
@[simp] theorem t_tup {xs:List D}:tyD (.tup xs)=some .tup:=rfl
@[simp] theorem t_lst {xs:List D}:tyD (.lst xs)=some .lst:=rfl
@[simp] theorem t_dct {xs:List (D×D)}:tyD (.dct xs)=some .dct:=rfl
@[simp] theorem sub_e {a b:Ty}:a.sub b=(decide (a=b) || (decide (a=.bl) && decide (b=.int))):=rfl
end
end Ev
namespace Ev
open PySem
open L2 (atI ixN)
theorem rt_called {n:Nat} {s:FS} {ws:List W} {ds:List D} {S S1:Sto} {r:D} (hd:dats ws=some ds) (e:s (ws.map some ++ List.replicate (n - ws.length) none) []=.rt (.d r) S1):called (bodyF n s) ws S=.ok (.d r) S :=
  called_data hd (by unfold bodyF; rw [e])
theorem ex_called {n:Nat} {s:FS} {ws:List W} {ds:List D} {S S1:Sto} {r:D} {c:Nat} {ρ:List (Option W)} (hd:dats ws=some ds) (e:s (ws.map some ++ List.replicate (n - ws.length) none) []=.exn c r ρ S1):called (bodyF n s) ws S=.exn c r S :=
  called_exn hd (by unfold bodyF; rw [e])
theorem dats_app (ws:List W):∀ r:List D,dats (r.map W.d ++ ws)=(dats ws).map (r ++ ·)
  | []=>by simp
  | x :: r=>by rw [List.map_cons,List.cons_append,dats_d,dats_app ws r,Option.map_map]; rfl
theorem dats_map (r:List D):dats (r.map W.d)=some r:=by
  have:=dats_app [] r
  simpa using this
theorem compL_by {γ:Type} {g:FG} {t:FT} {f:FE} {ρ:List (Option W)} {S:Sto} (h:γ→D) (tt:γ→Bool) (ff:γ→D):∀ (cs:List γ) (acc:List D),acc.length + cs.length≤16777216 →
    (∀ c∈cs,∃ ρ1,g (.d (h c)) ρ S=some ρ1∧t ρ1 S=.ok (tt c) S∧(tt c=true→f ρ1 S=.ok (.d (ff c)) S))→compL g t f ρ (cs.map h) S acc=.ok (acc ++ (cs.filter tt).map ff) S
  | [],acc,_,_=>by simp [compL]
  | c :: cs,acc,hl,hh=>by
    obtain ⟨ρ1,e1,e2,e3⟩:=hh c List.mem_cons_self
    have ih:=fun acc' hl'=>compL_by (g:=g) (t:=t) (f:=f) (ρ:=ρ) (S:=S) h tt ff cs acc' hl' (fun x hx=>hh x (List.mem_cons_of_mem _ hx))
    simp only [List.length_cons] at hl
    rw [List.map_cons]
    unfold compL
    simp only [e1,e2,noX,R.bind]
    cases ht:tt c with
    | false =>
      simp only [if_false,Bool.false_eq_true]
      rw [ih acc (by omega),List.filter_cons_of_neg (by simp [ht])]
    | true =>
      simp only [if_true,e3 ht,noX,R.bind]
      rw [if_pos (by rw [sizeLine_eq]; omega),ih _ (by simp; omega),List.filter_cons_of_pos ht]
      simp
theorem compL_map {γ:Type} {g:FG} {f:FE} {ρ:List (Option W)} {S:Sto} (h:γ→D) (ff:γ→D) (cs:List γ) (hl:cs.length≤16777216)
    (hh:∀ c∈cs,∃ ρ1,g (.d (h c)) ρ S=some ρ1∧f ρ1 S=.ok (.d (ff c)) S):compL g tTrue f ρ (cs.map h) S []=.ok (cs.map ff) S:=by
  have:=compL_by (g:=g) (t:=tTrue) (f:=f) (ρ:=ρ) (S:=S) h (fun _=>true) ff cs [] (by simpa using hl) (fun c hc=>by
    obtain ⟨ρ1,e1,e2⟩:=hh c hc
    exact ⟨ρ1,e1,rfl,fun _=>e2⟩)
  simpa [List.filter_eq_self.mpr] using this
@[simp] theorem bools_map {γ:Type} (p:γ→Bool):∀ cs:List γ,bools (cs.map fun c=>.bl (p c))=some (cs.map p)
  | []=>rfl
  | c :: cs=>by simp [bools,bools_map p cs]
mutual
theorem gd_eq:∀ {k:Nat} {d:D},Gd k d→flatD d=true→(toPy d).canLay0=true∧(toPy d).depth≤k + 1
  | _,.non,_,_=>⟨rfl,by simp [toPy,PyData.depth]⟩
  | _,.bl _,_,_=>⟨rfl,by simp [toPy,PyData.depth]⟩
  | _,.int _,_,_=>⟨rfl,by simp [toPy,PyData.depth]⟩
  | k,.str z,h,_=>by
    have h:∀ c∈z.cps.toList,c < 128:=fun c hc=>plC_lt ((show ∀ c∈z.cps.toList,plC c=true by cases k <;> simpa only [Gd] using h) c hc)
    refine ⟨?_,by simp [toPy,PyData.depth]⟩
    simp only [toPy,PyData.canLay0]
    unfold PyData.strOk
    rw [← Array.all_toList,List.all_eq_true]
    exact fun c hc=>decide_eq_true (Nat.lt_of_lt_of_le (h c hc) (by decide))
  | _,.dct _,_,f=>by simp [flatD] at f
  | _,.ins _ _,_,f=>by simp [flatD] at f
  | _,.scr _,_,f=>by simp [flatD] at f
  | _,.ftp _,_,f=>by simp [flatD] at f
  | _,.cls _,_,f=>by simp [flatD] at f
  | 0,.tup _,h,_=>by simp [Gd] at h
  | 0,.lst _,h,_=>by simp [Gd] at h
  | k + 1,.tup xs,h,f=>by
    obtain ⟨h1,h2⟩:=gds_eq (k:=k) (ds:=xs) (by simpa only [Gd] using h) (by simpa only [flatD] using f)
    exact ⟨h1,by simp only [toPy,PyData.depth]; omega⟩
  | k + 1,.lst xs,h,f=>by
    obtain ⟨h1,h2⟩:=gds_eq (k:=k) (ds:=xs) (by simpa only [Gd] using h) (by simpa only [flatD] using f)
    exact ⟨h1,by simp only [toPy,PyData.depth]; omega⟩
theorem gds_eq:∀ {k:Nat} {ds:List D},Gds k ds→flatDs ds=true→PyData.canLayAll0 (toPys ds)=true∧PyData.depthAll (toPys ds)≤k + 1
  | _,[],_,_=>⟨rfl,by simp [toPys,PyData.depthAll]⟩
  | k,d :: ds,h,f=>by
    simp only [Gds] at h
    simp only [flatDs,Bool.and_eq_true] at f
    obtain ⟨a1,a2⟩:=gd_eq h.1 f.1
    obtain ⟨b1,b2⟩:=gds_eq h.2 f.2
    exact ⟨by simp [toPys,PyData.canLayAll0,a1,b1],by simp only [toPys,PyData.depthAll]; omega⟩
end
theorem gd_eqOk {k:Nat} {d:D} (h:Gd k d) (hk:k≤60) (f:flatD d=true):eqOk d=true:=by
  obtain ⟨h1,h2⟩:=gd_eq h f
  unfold eqOk SeqAt.shaped
  rw [f,h1,decide_eq_true (show (toPy d).depth≤64 by omega)]
  rfl
theorem flat_strs:∀ zs:List Str,flatDs (zs.map D.str)=true
  | []=>rfl
  | z :: zs=>by simp [flatDs,flatD,flat_strs zs]
theorem eqD_str {a b:Str}:eqD (.str a) (.str b)=decide (a=b):=by
  simp only [eqD,toPy,PyData.eqv]
  by_cases h:a=b
  · simp [h]
  · simp [h]
def RS.lp (r:RS) (k:List (Option W)→Sto→RS):RS:=match r with
  | .nx ρ S=>k ρ S
  | .ct ρ S=>k ρ S
  | .bk ρ S=>.nx ρ S
  | r=>r
section
variable {ρ:List (Option W)} {S:Sto} {k:List (Option W)→Sto→RS}
@[simp] theorem lp_nx:RS.lp (.nx ρ S) k=k ρ S:=rfl
@[simp] theorem lp_ct:RS.lp (.ct ρ S) k=k ρ S:=rfl
@[simp] theorem lp_bk:RS.lp (.bk ρ S) k=.nx ρ S:=rfl
@[simp] theorem lp_rt {w:W}:RS.lp (.rt w S) k=.rt w S:=rfl
@[simp] theorem lp_exn {c:Nat} {x:D}:RS.lp (.exn c x ρ S) k=.exn c x ρ S:=rfl
@[simp] theorem lp_err:RS.lp .err k=.err:=rfl
end
@[simp] theorem loop_nil {b:D→List (Option W)→Sto→RS} {ρ:List (Option W)} {S:Sto}:loop b [] ρ S=.nx ρ S:=rfl
@[simp] theorem loop_cons {b:D→List (Option W)→Sto→RS} {ρ:List (Option W)} {S:Sto} {d:D} {ds:List D}:loop b (d :: ds) ρ S=RS.lp (b d ρ S) (loop b ds):=rfl
theorem compL2_by {γ:Type} {g g1:FG} {t t1:FT} {fi1:FI} {f:FE} {vs1:List Nat} {ρ:List (Option W)} {S:Sto} (h:γ→D) (inner:γ→List D):∀ (cs:List γ) (acc:List D),acc.length + (cs.flatMap inner).length≤16777216 →
    (∀ c∈cs,∃ ρ1 es,g (.d (h c)) ρ S=some ρ1∧t ρ1 S=.ok true S∧fi1 ρ1 S=.ok es S∧∀ acc:List D,acc.length + (inner c).length≤16777216→compL g1 t1 f (wipeL ρ1 vs1) es S acc=.ok (acc ++ inner c) S) →
    compL2 g t fi1 g1 t1 f vs1 ρ (cs.map h) S acc=.ok (acc ++ cs.flatMap inner) S
  | [],acc,_,_=>by simp [compL2]
  | c :: cs,acc,hl,hh=>by
    obtain ⟨ρ1,es,e1,e2,e3,e4⟩:=hh c List.mem_cons_self
    rw [List.flatMap_cons,List.length_append] at hl
    have ih:=compL2_by (g:=g) (t:=t) (fi1:=fi1) (g1:=g1) (t1:=t1) (f:=f) (vs1:=vs1) (ρ:=ρ) (S:=S) h inner cs (acc ++ inner c) (by rw [List.length_append]; omega) (fun x hx=>hh x (List.mem_cons_of_mem _ hx))
    rw [List.map_cons]
    unfold compL2
    simp only [e1,e2,e3,noX,R.bind,if_true,e4 acc (by omega)]
    rw [ih,List.flatMap_cons,List.append_assoc]
theorem Dw.push {cs:List Int} {rest S:Sto} {c:Nat} {o:O} (h:Dw cs rest c S) (ho:pln o=true):Dw cs (rest ++ [o]) c (S ++ [o]):=by
  obtain ⟨ls,n,rfl,h1,h2,h3,h4,h5⟩:=h
  exact ⟨ls,n,rfl,h1,h2,h3,h4,by rw [List.all_append,h5]; simp [ho]⟩
theorem Dw.get {cs:List Int} {rest S:Sto} {c j:Nat} (h:Dw cs rest c S):S[j + 1]? = rest[j]?:=by
  obtain ⟨ls,n,rfl,h1⟩:=h
  rfl
theorem Dw.set {cs:List Int} {rest S:Sto} {c j:Nat} {o:O} (h:Dw cs rest c S) (ho:pln o=true):Dw cs (rest.set j o) c (S.set (j + 1) o):=by
  obtain ⟨ls,n,rfl,h1,h2,h3,h4,h5⟩:=h
  refine ⟨ls,n,rfl,h1,h2,h3,h4,?_⟩
  rw [List.all_eq_true] at h5 ⊢
  intro x hx
  rcases List.mem_or_eq_of_mem_set hx with hx | rfl
  · exact h5 x hx
  · exact ho
end Ev
namespace Ev
open PySem
abbrev cl (s:Str):List Nat:=s.cps.toList
theorem cl_app (a b:Str):cl (a ++ b)=cl a ++ cl b:=by
  show (a.cps ++ b.cps).toList=_
  simp
theorem cl_inj {a b:Str} (h:cl a=cl b):a=b:=by
  cases a; cases b
  have:_=_:=Array.ext' h
  exact congrArg Str.mk this
theorem cl_ofString (s:String):cl (Str.ofString s)=s.toList.map Char.toNat:=PyProof.Rows.signs_ofString s
theorem printable:∀ c < 127,32≤c→Unicode.isPrintable c=true:=by decide +kernel
theorem reprChar_pl {c:Nat} (h:plC c=true):Builtin.Str.reprChar 39 c=[c]:=by
  have h:=of_decide_eq_true h
  have hp:=printable c (by omega) (by omega)
  unfold Builtin.Str.reprChar
  have e1:(c == 39)=false:=beq_eq_false_iff_ne.mpr (by omega)
  have e2:(c == 92)=false:=beq_eq_false_iff_ne.mpr (by omega)
  have e3:(c == 10)=false:=beq_eq_false_iff_ne.mpr (by omega)
  have e4:(c == 13)=false:=beq_eq_false_iff_ne.mpr (by omega)
  have e5:(c == 9)=false:=beq_eq_false_iff_ne.mpr (by omega)
  simp only [e1,e2,e3,e4,e5,Bool.or_self,Bool.false_eq_true,if_false,hp,if_true]
theorem repr_str {z:Str} (h:∀ c∈cl z,plC c=true):cl (reprText z)=39 :: (cl z ++ [39]):=by
  have hq:reprQuote z=39:=by
    unfold reprQuote
    have:z.cps.contains 39=false:=by
      rw [← Bool.not_eq_true]
      intro e
      have:39∈cl z:=by simpa using e
      exact absurd (h 39 this) (by decide)
    rw [this]
    rfl
  unfold reprText
  rw [hq]
  show (Array.push _ 39).toList=_
  rw [Array.toList_push,← Array.foldl_toList]
  have:∀ (l:List Nat) (acc:Array Nat),(∀ c∈l,plC c=true)→(l.foldl (fun out c=>out ++ (Builtin.Str.reprChar 39 c).toArray) acc).toList=acc.toList ++ l:=by
    intro l
    induction l with
    | nil=>intro acc _; simp
    | cons c l ih =>
      intro acc hl
      rw [List.foldl_cons,ih _ fun x hx=>hl x (List.mem_cons_of_mem _ hx),reprChar_pl (hl c List.mem_cons_self)]
      simp
  rw [this _ _ h]
  simp
def isDg (c:Nat):Bool:=decide (c=45∨(48≤c∧c≤57))
theorem digits_dg (m:Nat):∀ c∈(Nat.toDigits 10 m).map Char.toNat,isDg c=true:=by
  intro c hc
  obtain ⟨ch,hch,rfl⟩:=List.mem_map.mp hc
  have r:=PyProof.Rows.digit_range (Nat.isDigit_of_mem_toDigits (by decide) (by decide) hch)
  exact decide_eq_true (.inr r)
theorem int_codes (i:Int):(∀ c∈cl (Str.ofString (toString i)),isDg c=true)∧cl (Str.ofString (toString i)) ≠ []:=by
  cases i with
  | ofNat m =>
    have e:=PySem.W.KIN.signs_num m
    refine ⟨fun c hc=>digits_dg m c (by rw [← e]; exact hc),fun z=>?_⟩
    have e':cl (Str.ofString (toString (Int.ofNat m)))=(Nat.toDigits 10 m).map Char.toNat:=e
    rw [e'] at z
    have h:=PySem.toDigits_len_ge 10 m
    rw [List.map_eq_nil_iff.mp z] at h
    exact absurd h (by decide)
  | negSucc m =>
    have e:cl (Str.ofString (toString (Int.negSucc m)))=45 :: (Nat.toDigits 10 (m + 1)).map Char.toNat:=by
      rw [cl_ofString]
      show ("-" ++ Nat.repr (m + 1)).toList.map Char.toNat=_
      rw [String.toList_append,List.map_append,Nat.toList_repr]
      rfl
    rw [e]
    refine ⟨fun c hc=>?_,by simp⟩
    rcases List.mem_cons.mp hc with rfl | hc
    · rfl
    · exact digits_dg _ c hc
theorem int_inj {i j:Int} (h:cl (Str.ofString (toString i))=cl (Str.ofString (toString j))):i=j:=by
  rw [cl_ofString,cl_ofString] at h
  have h2:(toString i).toList=(toString j).toList:=by
    refine List.map_inj_right (fun a b e=>?_) |>.mp h
    exact Char.toNat_inj.mp e
  have h3:toString i=toString j:=String.toList_inj.mp h2
  exact Int.repr_inj.mp h3
mutual
def shL:D→List Nat
  | .non=>[78,111,110,101]
  | .bl true=>[84,114,117,101]
  | .bl false=>[70,97,108,115,101]
  | .int i=>cl (Str.ofString (toString i))
  | .str z=>39 :: (cl z ++ [39])
  | .tup []=>[40,41]
  | .tup (x :: xs)=>40 :: (shL x ++ (if xs.isEmpty then [44,41] else shT xs ++ [41]))
  | .lst []=>[91,93]
  | .lst (x :: xs)=>91 :: (shL x ++ (shT xs ++ [93]))
  | .dct _=>[123,125]
  | _=>[]
def shT:List D→List Nat
  | []=>[]
  | x :: xs=>44 :: 32 :: (shL x ++ shT xs)
end
theorem join_codes:∀ (x:Str) (ts:List Str),cl (Str.join ", " (x :: ts))=cl x ++ ts.flatMap fun t=>44 :: 32 :: cl t
  | x,[]=>by show cl x=_; simp
  | x,y :: ts=>by
    show cl (x ++ ", " ++ Str.join ", " (y :: ts))=_
    rw [cl_app,cl_app,join_codes y ts]
    have:cl (((", ":String):Str))=[44,32]:=by decide +kernel
    rw [this]
    simp
theorem from_codes:∀ (ts:List Str) (k:Nat) (acc:Str),0 < k→cl (textFrom k acc ts)=cl acc ++ ts.flatMap fun t=>44 :: 32 :: cl t
  | [],k,acc,_=>by simp [textFrom]
  | t :: ts,k,acc,h=>by
    unfold textFrom
    rw [from_codes ts (k + 1) _ (Nat.succ_pos _),cl_app,cl_app,if_pos h]
    have:cl (((", ":String):Str))=[44,32]:=by decide +kernel
    rw [this]
    simp
theorem shownAll_eq:∀ xs:List PyData,PyData.shownAll xs=xs.map PyData.shown
  | []=>rfl
  | x :: xs=>by simp [PyData.shownAll,shownAll_eq xs]
theorem toPyRs_eq:∀ xs:List D,toPyRs xs=xs.map toPyR
  | []=>rfl
  | x :: xs=>by simp [toPyRs,toPyRs_eq xs]
mutual
theorem sh_eq:∀ {k:Nat} {d:D},Gd k d→cl (reprD d)=shL d
  | _,.non,_=>by decide +kernel
  | _,.bl true,_=>by decide +kernel
  | _,.bl false,_=>by decide +kernel
  | _,.int i,_=>rfl
  | k,.str z,h=>by
    have h:∀ c∈cl z,plC c=true:=by cases k <;> simpa only [Gd] using h
    exact repr_str h
  | k,.dct kvs,h=>by
    have h:kvs=[]:=by cases k <;> simpa only [Gd] using h
    subst h
    decide +kernel
  | k + 1,.tup [],h=>by decide +kernel
  | k + 1,.tup (x :: xs),h=>by
    obtain ⟨hx,hs⟩:Gd k x∧Gds k xs:=by simpa only [Gd,Gds] using h
    have e1:=sh_eq hx
    have e2:=shs_eq hs
    unfold reprD at e1 ⊢
    simp only [toPyR,PyData.shown,tupleText,toPyRs,PyData.shownAll]
    rw [cl_app,cl_app,join_codes,e1,e2]
    have o:cl (("(":Str))=[40]:=by decide +kernel
    rw [o]
    have hl:(PyData.shownAll (toPyRs xs)).length=xs.length:=by rw [shownAll_eq,toPyRs_eq,List.length_map,List.length_map]
    cases xs with
    | nil =>
      have:cl ((",)":String):Str)=[44,41]:=by decide +kernel
      simp [shL,shT,toPyRs,PyData.shownAll,this]
    | cons y ys =>
      have:cl ((")":String):Str)=[41]:=by decide +kernel
      simp [shL,toPyRs,PyData.shownAll,this]
  | k + 1,.lst [],h=>by decide +kernel
  | k + 1,.lst (x :: xs),h=>by
    obtain ⟨hx,hs⟩:Gd k x∧Gds k xs:=by simpa only [Gd,Gds] using h
    have e1:=sh_eq hx
    have e2:=shs_eq hs
    unfold reprD at e1 ⊢
    simp only [toPyR,PyData.shown,listText,toPyRs,PyData.shownAll,textFrom]
    rw [cl_app,from_codes _ _ _ (by decide),cl_app,cl_app,e1,e2]
    have o:cl (("[":Str))=[91]:=by decide +kernel
    have o2:cl ((if 0 > 0 then ", " else "":String):Str)=[]:=by decide +kernel
    have o3:cl (("]":Str))=[93]:=by decide +kernel
    rw [o,o2,o3]
    simp [shL]
  | 0,.tup _,h=>by simp [Gd] at h
  | 0,.lst _,h=>by simp [Gd] at h
  | 0,.ins _ _,h=>by simp [Gd] at h
  | 0,.scr _,h=>by simp [Gd] at h
  | 0,.ftp _,h=>by simp [Gd] at h
  | 0,.cls _,h=>by simp [Gd] at h
  | k + 1,.ins _ _,h=>by simp [Gd] at h
  | k + 1,.scr _,h=>by simp [Gd] at h
  | k + 1,.ftp _,h=>by simp [Gd] at h
  | k + 1,.cls _,h=>by simp [Gd] at h
theorem shs_eq:∀ {k:Nat} {ds:List D},Gds k ds→((PyData.shownAll (toPyRs ds)).flatMap fun t=>44 :: 32 :: cl t)=shT ds
  | _,[],_=>rfl
  | k,d :: ds,h=>by
    obtain ⟨hx,hs⟩:Gd k d∧Gds k ds:=by simpa only [Gds] using h
    have e1:=sh_eq hx
    unfold reprD at e1
    simp only [toPyRs,PyData.shownAll,List.flatMap_cons,shT]
    rw [e1,shs_eq hs]
    simp
end
def Tm (s:List Nat):Prop:=s=[]∨∃ r,s=44 :: r∨s=41 :: r∨s=93 :: r
def kd:D→Nat
  | .non=>0 | .bl _=>1 | .int _=>2 | .str _=>3 | .tup _=>4 | .lst _=>5 | .dct _=>6 | .ins _ _=>7 | .scr _=>8 | .ftp _=>9 | .cls _=>10 | .kdc _=>11 | .exi _ _ _=>12 | .dkf _=>12
theorem gd_kd {k:Nat} {a:D} (h:Gd k a):kd a≤6:=by
  cases a with
  | ins _ _=>cases k <;> simp [Gd] at h
  | scr _=>cases k <;> simp [Gd] at h
  | ftp _=>cases k <;> simp [Gd] at h
  | cls _=>cases k <;> simp [Gd] at h
  | kdc _=>cases k <;> simp [Gd] at h
  | exi _ _ _=>cases k <;> simp [Gd] at h
  | dkf _=>cases k <;> simp [Gd] at h
  | _=>simp [kd]
theorem head_kd {k l:Nat} {a b:D} (ha:Gd k a) (hb:Gd l b) {s t:List Nat} (h:shL a ++ s=shL b ++ t):kd a=kd b:=by
  have first:∀ {k:Nat} {a:D},Gd k a→∃ c r,shL a=c :: r∧(match kd a with
      | 0=>c=78 | 1=>c=84∨c=70 | 2=>c=45∨(48≤c∧c≤57) | 3=>c=39 | 4=>c=40 | 5=>c=91 | _=>c=123):=by
    intro k a h
    cases a with
    | non=>exact ⟨_,_,rfl,rfl⟩
    | bl b=>cases b; exact ⟨_,_,rfl,.inr rfl⟩; exact ⟨_,_,rfl,.inl rfl⟩
    | int i =>
      obtain ⟨h1,h2⟩:=int_codes i
      cases e:cl (Str.ofString (toString i)) with
      | nil=>exact absurd e h2
      | cons c r =>
        refine ⟨c,r,e,?_⟩
        have:=h1 c (by rw [e]; exact List.mem_cons_self)
        exact (of_decide_eq_true this:c=45∨(48≤c∧c≤57))
    | str z=>exact ⟨_,_,rfl,rfl⟩
    | tup xs=>cases xs; exact ⟨_,_,rfl,rfl⟩; exact ⟨_,_,rfl,rfl⟩
    | lst xs=>cases xs; exact ⟨_,_,rfl,rfl⟩; exact ⟨_,_,rfl,rfl⟩
    | dct _=>exact ⟨_,_,rfl,rfl⟩
    | ins _ _=>cases k <;> simp [Gd] at h
    | scr _=>cases k <;> simp [Gd] at h
    | ftp _=>cases k <;> simp [Gd] at h
    | cls _=>cases k <;> simp [Gd] at h
    | kdc _=>cases k <;> simp [Gd] at h
    | exi _ _ _=>cases k <;> simp [Gd] at h
    | dkf _=>cases k <;> simp [Gd] at h
  obtain ⟨c,r,e1,h1⟩:=first ha
  obtain ⟨c',r',e2,h2⟩:=first hb
  rw [e1,e2] at h
  simp only [List.cons_append,List.cons.injEq] at h
  obtain ⟨rfl,_⟩:=h
  have na:=gd_kd ha
  have nb:=gd_kd hb
  cases a <;> cases b <;> simp only [kd] at h1 h2 na nb ⊢ <;> omega
theorem dg_span:∀ {p q s t:List Nat},(∀ c∈p,isDg c=true)→(∀ c∈q,isDg c=true)→Tm s→Tm t→p ++ s=q ++ t→p=q∧s=t
  | [],[],s,t,_,_,_,_,h=>⟨rfl,h⟩
  | [],c :: q,s,t,_,hq,hs,_,h=>by
    have hc:=hq c List.mem_cons_self
    simp only [List.nil_append,List.cons_append] at h
    rcases hs with rfl | ⟨r,rfl | rfl | rfl⟩
    · cases h
    all_goals
      cases h
      exact absurd hc (by decide)
  | c :: p,[],s,t,hp,_,_,ht,h=>by
    have hc:=hp c List.mem_cons_self
    simp only [List.nil_append,List.cons_append] at h
    rcases ht with rfl | ⟨r,rfl | rfl | rfl⟩
    · cases h
    all_goals
      cases h
      exact absurd hc (by decide)
  | c :: p,c' :: q,s,t,hp,hq,hs,ht,h=>by
    simp only [List.cons_append,List.cons.injEq] at h
    obtain ⟨rfl,h⟩:=h
    obtain ⟨e1,e2⟩:=dg_span (fun x hx=>hp x (List.mem_cons_of_mem _ hx)) (fun x hx=>hq x (List.mem_cons_of_mem _ hx)) hs ht h
    exact ⟨by rw [e1],e2⟩
theorem str_span:∀ {p q s t:List Nat},(∀ c∈p,plC c=true)→(∀ c∈q,plC c=true)→p ++ 39 :: s=q ++ 39 :: t→p=q∧s=t
  | [],[],s,t,_,_,h=>⟨rfl,by simpa using h⟩
  | [],c :: q,s,t,_,hq,h=>by
    simp only [List.nil_append,List.cons_append,List.cons.injEq] at h
    exact absurd (hq c List.mem_cons_self) (by rw [← h.1]; decide)
  | c :: p,[],s,t,hp,_,h=>by
    simp only [List.nil_append,List.cons_append,List.cons.injEq] at h
    exact absurd (hp c List.mem_cons_self) (by rw [h.1]; decide)
  | c :: p,c' :: q,s,t,hp,hq,h=>by
    simp only [List.cons_append,List.cons.injEq] at h
    obtain ⟨rfl,h⟩:=h
    obtain ⟨e1,e2⟩:=str_span (fun x hx=>hp x (List.mem_cons_of_mem _ hx)) (fun x hx=>hq x (List.mem_cons_of_mem _ hx)) h
    exact ⟨by rw [e1],e2⟩
theorem tm_T (xs:List D) (e:Nat) (he:e=41∨e=93) (s:List Nat):Tm (shT xs ++ e :: s):=by
  cases xs with
  | nil=>rcases he with rfl | rfl; exact .inr ⟨s,.inr (.inl rfl)⟩; exact .inr ⟨s,.inr (.inr rfl)⟩
  | cons x xs=>exact .inr ⟨_,.inl rfl⟩
theorem head_no {k:Nat} {a:D} (h:Gd k a) (x:Nat) (hx:x=41∨x=93):shL a ≠ []∧∀ c r,shL a=c :: r→c ≠ x:=by
  cases a with
  | non=>exact ⟨by simp [shL],fun c r e=>by simp [shL] at e; omega⟩
  | bl b=>cases b <;> exact ⟨by simp [shL],fun c r e=>by simp [shL] at e; omega⟩
  | int i =>
    obtain ⟨h1,h2⟩:=int_codes i
    refine ⟨h2,fun c r e=>?_⟩
    have:isDg c=true:=h1 c (by rw [show cl (Str.ofString (toString i))=c :: r from e]; exact List.mem_cons_self)
    have:=of_decide_eq_true this
    omega
  | str z=>exact ⟨by simp [shL],fun c r e=>by simp [shL] at e; omega⟩
  | tup xs=>cases xs <;> exact ⟨by simp [shL],fun c r e=>by simp [shL] at e; omega⟩
  | lst xs=>cases xs <;> exact ⟨by simp [shL],fun c r e=>by simp [shL] at e; omega⟩
  | dct _=>exact ⟨by simp [shL],fun c r e=>by simp [shL] at e; omega⟩
  | ins _ _=>cases k <;> simp [Gd] at h
  | scr _=>cases k <;> simp [Gd] at h
  | ftp _=>cases k <;> simp [Gd] at h
  | cls _=>cases k <;> simp [Gd] at h
  | kdc _=>cases k <;> simp [Gd] at h
  | exi _ _ _=>cases k <;> simp [Gd] at h
  | dkf _=>cases k <;> simp [Gd] at h
theorem head_no41 {k:Nat} {a:D} (h:Gd k a):shL a ≠ []∧∀ c r,shL a=c :: r→c ≠ 41:=head_no h 41 (.inl rfl)
theorem head_no93 {k:Nat} {a:D} (h:Gd k a):shL a ≠ []∧∀ c r,shL a=c :: r→c ≠ 93:=head_no h 93 (.inr rfl)
mutual
theorem sh_inj:∀ {k l:Nat} (a b:D) (s t:List Nat),Gd k a→Gd l b→Tm s→Tm t→shL a ++ s=shL b ++ t→a=b∧s=t
  | k,l,.non,b,s,t,ha,hb,hs,ht,h=>by
    have e:=head_kd ha hb h
    cases b <;> simp [kd] at e
    exact ⟨rfl,by simpa using h⟩
  | k,l,.bl x,b,s,t,ha,hb,hs,ht,h=>by
    have e:=head_kd ha hb h
    cases b <;> simp [kd] at e
    rename_i y
    cases x <;> cases y <;> simp [shL] at h ⊢ <;> exact h
  | k,l,.int i,b,s,t,ha,hb,hs,ht,h=>by
    have e:=head_kd ha hb h
    cases b <;> simp [kd] at e
    rename_i j
    obtain ⟨e1,e2⟩:=dg_span (int_codes i).1 (int_codes j).1 hs ht h
    exact ⟨by rw [int_inj e1],e2⟩
  | k,l,.str z,b,s,t,ha,hb,hs,ht,h=>by
    have e:=head_kd ha hb h
    cases b <;> simp [kd] at e
    rename_i y
    have hz:∀ c∈cl z,plC c=true:=by cases k <;> simpa only [Gd] using ha
    have hy:∀ c∈cl y,plC c=true:=by cases l <;> simpa only [Gd] using hb
    simp only [shL,List.cons_append,List.append_assoc,List.cons.injEq,true_and,List.nil_append] at h
    obtain ⟨e1,e2⟩:=str_span hz hy h
    exact ⟨by rw [cl_inj e1],e2⟩
  | k,l,.dct xs,b,s,t,ha,hb,hs,ht,h=>by
    have e:=head_kd ha hb h
    cases b <;> simp [kd] at e
    rename_i ys
    have h1:xs=[]:=by cases k <;> simpa only [Gd] using ha
    have h2:ys=[]:=by cases l <;> simpa only [Gd] using hb
    subst h1 h2
    exact ⟨rfl,by simpa [shL] using h⟩
  | k,l,.tup xs,b,s,t,ha,hb,hs,ht,h=>by
    have e:=head_kd ha hb h
    cases b <;> simp [kd] at e
    rename_i ys
    cases k with
    | zero=>simp [Gd] at ha
    | succ k =>
      cases l with
      | zero=>simp [Gd] at hb
      | succ l =>
        have ha:Gds k xs:=by simpa only [Gd] using ha
        have hb:Gds l ys:=by simpa only [Gd] using hb
        cases xs with
        | nil =>
          cases ys with
          | nil=>exact ⟨rfl,by simpa [shL] using h⟩
          | cons y ys =>
            exfalso
            simp only [shL,List.cons_append,List.nil_append,List.cons.injEq,true_and,List.append_assoc] at h
            have hy:Gd l y:=(by simpa only [Gds] using hb:Gd l y∧Gds l ys).1
            have:=head_no41 hy
            cases e:shL y with
            | nil=>exact this.1 e
            | cons c r =>
              rw [e] at h
              simp only [List.cons_append,List.cons.injEq] at h
              exact this.2 c r e h.1.symm
        | cons x xs =>
          have hx:Gd k x∧Gds k xs:=by simpa only [Gds] using ha
          cases ys with
          | nil =>
            exfalso
            simp only [shL,List.cons_append,List.nil_append,List.cons.injEq,true_and,List.append_assoc] at h
            have:=head_no41 hx.1
            cases e:shL x with
            | nil=>exact this.1 e
            | cons c r =>
              rw [e] at h
              simp only [List.cons_append,List.cons.injEq] at h
              exact this.2 c r e h.1
          | cons y ys =>
            have hy:Gd l y∧Gds l ys:=by simpa only [Gds] using hb
            simp only [shL,List.cons_append,List.cons.injEq,true_and,List.append_assoc] at h
            have tmx:∀ (zs:List D) (s:List Nat),Tm ((if zs.isEmpty=true then [44,41] else shT zs ++ [41]) ++ s):=fun zs s=>by
              split
              · exact .inr ⟨_,.inl rfl⟩
              · rw [List.append_assoc]; exact tm_T zs 41 (.inl rfl) s
            obtain ⟨rfl,h2⟩:=sh_inj x y _ _ hx.1 hy.1 (tmx xs s) (tmx ys t) h
            clear h
            have h:=h2
            clear h2
            cases xs with
            | nil =>
              cases ys with
              | nil=>exact ⟨rfl,by simpa using h⟩
              | cons z zs=>simp [shT] at h
            | cons w ws =>
              cases ys with
              | nil=>simp [shT] at h
              | cons z zs =>
                simp only [List.isEmpty_cons,Bool.false_eq_true,if_false,List.append_assoc,List.cons_append,List.nil_append] at h
                obtain ⟨e1,e2⟩:=shs_inj (w :: ws) (z :: zs) 41 s t (.inl rfl) hx.2 hy.2 h
                exact ⟨by rw [e1],e2⟩
  | k,l,.lst xs,b,s,t,ha,hb,hs,ht,h=>by
    have e:=head_kd ha hb h
    cases b <;> simp [kd] at e
    rename_i ys
    cases k with
    | zero=>simp [Gd] at ha
    | succ k =>
      cases l with
      | zero=>simp [Gd] at hb
      | succ l =>
        have ha:Gds k xs:=by simpa only [Gd] using ha
        have hb:Gds l ys:=by simpa only [Gd] using hb
        cases xs with
        | nil =>
          cases ys with
          | nil=>exact ⟨rfl,by simpa [shL] using h⟩
          | cons y ys =>
            exfalso
            simp only [shL,List.cons_append,List.nil_append,List.cons.injEq,true_and,List.append_assoc] at h
            have hy:Gd l y:=(by simpa only [Gds] using hb:Gd l y∧Gds l ys).1
            have:=head_no93 hy
            cases e:shL y with
            | nil=>exact this.1 e
            | cons c r =>
              rw [e] at h
              simp only [List.cons_append,List.cons.injEq] at h
              exact this.2 c r e h.1.symm
        | cons x xs =>
          have hx:Gd k x∧Gds k xs:=by simpa only [Gds] using ha
          cases ys with
          | nil =>
            exfalso
            simp only [shL,List.cons_append,List.nil_append,List.cons.injEq,true_and,List.append_assoc] at h
            have:=head_no93 hx.1
            cases e:shL x with
            | nil=>exact this.1 e
            | cons c r =>
              rw [e] at h
              simp only [List.cons_append,List.cons.injEq] at h
              exact this.2 c r e h.1
          | cons y ys =>
            have hy:Gd l y∧Gds l ys:=by simpa only [Gds] using hb
            simp only [shL,List.cons_append,List.cons.injEq,true_and,List.append_assoc,List.nil_append] at h
            obtain ⟨rfl,h2⟩:=sh_inj x y _ _ hx.1 hy.1 (tm_T xs 93 (.inr rfl) s) (tm_T ys 93 (.inr rfl) t) h
            obtain ⟨e1,e2⟩:=shs_inj xs ys 93 s t (.inr rfl) hx.2 hy.2 h2
            exact ⟨by rw [e1],e2⟩
  | k,l,.ins _ _,b,s,t,ha,hb,hs,ht,h=>by cases k <;> simp [Gd] at ha
  | k,l,.scr _,b,s,t,ha,hb,hs,ht,h=>by cases k <;> simp [Gd] at ha
  | k,l,.ftp _,b,s,t,ha,hb,hs,ht,h=>by cases k <;> simp [Gd] at ha
  | k,l,.cls _,b,s,t,ha,hb,hs,ht,h=>by cases k <;> simp [Gd] at ha
theorem shs_inj:∀ {k l:Nat} (xs ys:List D) (e:Nat) (s t:List Nat),(e=41∨e=93)→Gds k xs→Gds l ys→shT xs ++ e :: s=shT ys ++ e :: t→xs=ys∧s=t
  | k,l,[],[],e,s,t,_,_,_,h=>⟨rfl,by simpa [shT] using h⟩
  | k,l,[],y :: ys,e,s,t,he,_,_,h=>by
    simp only [shT,List.nil_append,List.cons_append,List.cons.injEq] at h
    omega
  | k,l,x :: xs,[],e,s,t,he,_,_,h=>by
    simp only [shT,List.nil_append,List.cons_append,List.cons.injEq] at h
    omega
  | k,l,x :: xs,y :: ys,e,s,t,he,ha,hb,h=>by
    have hx:Gd k x∧Gds k xs:=by simpa only [Gds] using ha
    have hy:Gd l y∧Gds l ys:=by simpa only [Gds] using hb
    simp only [shT,List.cons_append,List.cons.injEq,true_and,List.append_assoc] at h
    obtain ⟨rfl,h2⟩:=sh_inj x y _ _ hx.1 hy.1 (tm_T xs e he s) (tm_T ys e he t) h
    obtain ⟨e1,e2⟩:=shs_inj xs ys e s t he hx.2 hy.2 h2
    exact ⟨by rw [e1],e2⟩
end
theorem repr_inj {k l:Nat} {a b:D} (ha:Gd k a) (hb:Gd l b) (h:reprD a=reprD b):a=b:=by
  have e:shL a ++ []=shL b ++ []:=by rw [← sh_eq ha,← sh_eq hb,h]
  exact (sh_inj a b [] [] ha hb (.inl rfl) (.inl rfl) e).1
end Ev
namespace Ev
open PySem
def txt (z:Str):Prop:=∀ c∈z.cps.toList,c < 128
mutual
theorem shL_lt:∀ {k:Nat} {d:D},Gd k d→∀ c∈shL d,c < 128
  | _,.non,_=>by decide
  | _,.bl true,_=>by decide
  | _,.bl false,_=>by decide
  | k,.int i,_=>fun c hc=>by
    have:=(int_codes i).1 c hc
    have:=of_decide_eq_true this
    omega
  | k,.str z,h=>fun c hc=>by
    have hz:∀ c∈z.cps.toList,plC c=true:=by cases k <;> simpa only [Gd] using h
    simp only [shL,List.mem_cons,List.mem_append,List.not_mem_nil,or_false] at hc
    rcases hc with rfl | hc | rfl
    · decide
    · exact plC_lt (hz c hc)
    · decide
  | k,.dct _,_=>by simp [shL]
  | k + 1,.tup [],_=>by decide
  | k + 1,.tup (x :: xs),h=>fun c hc=>by
    obtain ⟨hx,hs⟩:Gd k x∧Gds k xs:=by simpa only [Gd,Gds] using h
    simp only [shL,List.mem_cons,List.mem_append] at hc
    rcases hc with rfl | hc | hc
    · decide
    · exact shL_lt hx c hc
    · split at hc
      · simp at hc; omega
      · rcases List.mem_append.mp hc with hc | hc
        · exact shT_lt hs c hc
        · simp at hc; omega
  | k + 1,.lst [],_=>by decide
  | k + 1,.lst (x :: xs),h=>fun c hc=>by
    obtain ⟨hx,hs⟩:Gd k x∧Gds k xs:=by simpa only [Gd,Gds] using h
    simp only [shL,List.mem_cons,List.mem_append,List.not_mem_nil,or_false] at hc
    rcases hc with rfl | hc | hc | rfl
    · decide
    · exact shL_lt hx c hc
    · exact shT_lt hs c hc
    · decide
  | 0,.tup _,h=>by simp [Gd] at h
  | 0,.lst _,h=>by simp [Gd] at h
  | 0,.ins _ _,h=>by simp [Gd] at h
  | 0,.scr _,h=>by simp [Gd] at h
  | 0,.ftp _,h=>by simp [Gd] at h
  | 0,.cls _,h=>by simp [Gd] at h
  | k + 1,.ins _ _,h=>by simp [Gd] at h
  | k + 1,.scr _,h=>by simp [Gd] at h
  | k + 1,.ftp _,h=>by simp [Gd] at h
  | k + 1,.cls _,h=>by simp [Gd] at h
theorem shT_lt:∀ {k:Nat} {ds:List D},Gds k ds→∀ c∈shT ds,c < 128
  | _,[],_=>by simp [shT]
  | k,d :: ds,h=>fun c hc=>by
    obtain ⟨hx,hs⟩:Gd k d∧Gds k ds:=by simpa only [Gds] using h
    simp only [shT,List.mem_cons,List.mem_append] at hc
    rcases hc with rfl | rfl | hc | hc
    · decide
    · decide
    · exact shL_lt hx c hc
    · exact shT_lt hs c hc
end
theorem loop_inv {b:D→List (Option W)→Sto→RS} (I:Nat→List (Option W)→Sto→Prop) (K lim:Nat) (hb:∀ d c ρ S,I c ρ S→c + K < lim→∃ ρ' S',b d ρ S=.nx ρ' S'∧I (c + K) ρ' S') :
    ∀ (ds:List D) (c:Nat) (ρ:List (Option W)) (S:Sto),I c ρ S→c + K * ds.length < lim→∃ ρ' S' c',loop b ds ρ S=.nx ρ' S'∧I c' ρ' S'
  | [],c,ρ,S,h,_=>⟨ρ,S,c,rfl,h⟩
  | d :: ds,c,ρ,S,h,hc=>by
    rw [List.length_cons,Nat.mul_succ] at hc
    obtain ⟨ρ1,S1,e1,h1⟩:=hb d c ρ S h (by omega)
    obtain ⟨ρ2,S2,c2,e2,h2⟩:=loop_inv I K lim hb ds (c + K) ρ1 S1 h1 (by omega)
    exact ⟨ρ2,S2,c2,by rw [loop_cons,e1,lp_nx,e2],h2⟩
end Ev
namespace Ev
open PySem
open L2 (atI ixN Key)
theorem for_range {p:FS} {g:FG} {ρ:List (Option W)} {S S1:Sto} {fa:FA} {n:Nat} (h:fa ρ S=.ok [.d (.int (n:Int))] S1) (hn:n < 2 ^ 60):sFor (iRange1 fa) g p ρ S=loop (turn g p) ((List.range' 0 n).map fun k:Nat=>D.int (0 + (k:Int))) ρ S1:=by
  have hr:(-(2 ^ 62)≤(n:Int)∧(n:Int) < 2 ^ 62):=by constructor <;> omega
  have er:rangeD 0 ((n:Int)).toNat=(List.range' 0 n).map fun k:Nat=>D.int (0 + (k:Int)):=by
    rw [Int.toNat_natCast,← List.range_eq_range']
    rfl
  rw [e_for,e_range1,h,bind_ok]
  simp only [if_pos hr,st_ok,er]
theorem body_nx {n:Nat} {s:FS} {ws:List W} {S S1:Sto} {ρ:List (Option W)} (e:s (ws.map some ++ List.replicate (n - ws.length) none) S=.nx ρ S1):bodyF n s ws S=.ok (.d .non) S1:=by
  unfold bodyF; rw [e]
theorem body_ex {n:Nat} {s:FS} {ws:List W} {S S1:Sto} {ρ:List (Option W)} {c:Nat} {x:D} (e:s (ws.map some ++ List.replicate (n - ws.length) none) S=.exn c x ρ S1):bodyF n s ws S=.exn c x S1:=by
  unfold bodyF; rw [e]
theorem o_repr {d:D} {S:Sto} (h:showOk d=true):opRepr [.d d] S=.ok (.d (.str (reprD d))) S:=by simp [opRepr,h]
end Ev
namespace K06
open PySem Ev
open L2 (atI ixN)
abbrev alpha:Str:="abcdefghijklmnopqrstuvwxyz"
theorem alpha_list:alpha.cps.toList=(List.range 26).map (· + 97):=by decide +kernel
theorem alpha_len:alpha.length=26:=by decide +kernel
def asc (z:Str):Prop:=∀ c∈z.cps.toList,97≤c∧c≤122
def low (c:Nat):Bool:=decide (c∈alpha.cps.toList)
def isNm (z:Str):Bool:=decide (1≤(z.length:Int)∧(z.length:Int)≤8) && z.cps.toList.all low
theorem low_iff (c:Nat):low c=true ↔ 97≤c∧c≤122:=by
  unfold low
  rw [decide_eq_true_iff,alpha_list]
  simp only [List.mem_map,List.mem_range]
  constructor
  · rintro ⟨a,h,rfl⟩
    omega
  · intro h
    exact ⟨c - 97,by omega,by omega⟩
theorem nm_of {z:Str} (h:asc z) (h1:1≤z.length) (h8:z.length≤8):isNm z=true:=by
  unfold isNm
  rw [Bool.and_eq_true,decide_eq_true_iff,List.all_eq_true]
  exact ⟨by omega,fun c hc=>(low_iff c).mpr (h c hc)⟩
theorem asc_app {a b:Str} (ha:asc a) (hb:asc b):asc (a ++ b):=by
  intro c hc
  have e:(a ++ b).cps.toList=a.cps.toList ++ b.cps.toList:=by
    show (a.cps ++ b.cps).toList=_
    simp
  rw [e] at hc
  rcases List.mem_append.mp hc with h | h
  · exact ha c h
  · exact hb c h
theorem cut_sub {α:Type} {xs:List α} {lo hi:Option Int} {x:α} (h:x∈cut xs lo hi):x∈xs:=List.mem_of_mem_drop (List.mem_of_mem_take h)
theorem cut_len {α:Type} (xs:List α) (lo hi:Option Int):(cut xs lo hi).length≤xs.length:=by
  unfold cut
  rw [List.length_take,List.length_drop]
  omega
theorem asc_cut {z:Str} (h:asc z) (lo hi:Option Int):asc ⟨(cut z.cps.toList lo hi).toArray⟩:=by
  intro c hc
  exact h c (cut_sub (by simpa using hc))
theorem len_app (a b:Str):(a ++ b).length=a.length + b.length:=strLen_append a b
def ltr (r:Int):Str:=⟨#[r.toNat + 97]⟩
theorem letter {r:Int} (h0:0≤r) (h1:r < 26) (S:Sto):opIx (.d (.str alpha)) (.d (.int r)) S=.ok (.d (.str (ltr r))) S∧(ltr r).length=1∧asc (ltr r):=by
  have hl:r.toNat < 26:=by omega
  have hs:alpha.length≤sizeLine:=by rw [alpha_len,sizeLine_eq]; omega
  have e:atI alpha.cps.toList r=some (r.toNat + 97):=by
    unfold atI ixN
    rw [alpha_list]
    simp only [List.length_map,List.length_range]
    rw [if_pos h0,if_pos (by omega)]
    simp [hl]
  refine ⟨?_,rfl,?_⟩
  · simp only [opIx,view]
    rw [if_pos hs,e]
    rfl
  · intro c hc
    simp [ltr] at hc
    omega
theorem stem_loop {cs:List Int} {rest:Sto} {x1 x5 x6 x7 x8:Option W}:∀ (n:Nat) (ds:List D) (c:Nat) (S:Sto) (z:Str) (x4:Option W),ds.length=n→Dw cs rest c S→c + n < 2 ^ 39→z.length + n≤1000→asc z →
    ∃ (z':Str) (S':Sto) (y4:Option W),loop (turn (gN 4) (sSet 3 (fBin opAdd (fVar 3) (fBin opIx (fVar 2) (fApp F__law_next (fCons (fVar 0) (fCons (fC (.int 26)) fNil))))))) ds
      [some (.ref 0),x1,some (.d (.str alpha)),some (.d (.str z)),x4,x5,x6,x7,x8] S =
      .nx [some (.ref 0),x1,some (.d (.str alpha)),some (.d (.str z')),y4,x5,x6,x7,x8] S'∧Dw cs rest (c + n) S'∧z'.length≤z.length + n∧asc z'
  | 0,[],c,S,z,x4,_,h,_,_,ha=>⟨z,S,x4,by simp [loop],h,Nat.le_refl _,ha⟩
  | n + 1,d :: ds,c,S,z,x4,hn,h,hc,hz,ha=>by
    obtain ⟨r,S1,e1,r0,r1,h1⟩:=next_ok (many:=26) h (by omega) (by decide) (by decide)
    obtain ⟨e2,y1,y2⟩:=letter r0 r1 S1
    generalize ltr r=y at e2 y1 y2
    obtain ⟨z',S',y4,e3,h3,l3,a3⟩:=stem_loop (x1:=x1) (x5:=x5) (x6:=x6) (x7:=x7) (x8:=x8) n ds (c + 1) S1 (z ++ y) (some (.d d)) (by simpa using hn) h1 (by omega) (by rw [len_app]; omega) (asc_app ha y2)
    refine ⟨z',S',y4,?_,h3.mono (by omega),by rw [len_app] at l3; omega,a3⟩
    unfold loop
    have e:turn (gN 4) (sSet 3 (fBin opAdd (fVar 3) (fBin opIx (fVar 2) (fApp F__law_next (fCons (fVar 0) (fCons (fC (.int 26)) fNil)))))) d
      [some (.ref 0),x1,some (.d (.str alpha)),some (.d (.str z)),x4,x5,x6,x7,x8] S=.nx [some (.ref 0),x1,some (.d (.str alpha)),some (.d (.str (z ++ y))),some (.d d),x5,x6,x7,x8] S1:=by
      have hs:z.length + y.length≤sizeLine:=by rw [sizeLine_eq]; omega
      simp only [turn,gN,List.set_cons_succ,List.set_cons_zero,sSet,fBin,fVar,List.getElem?_cons_succ,List.getElem?_cons_zero,R.bind,fApp,fCons,fC,fNil,e1,e2,R.st,opAdd]
      rw [if_pos hs]
    rw [e]
    exact e3
theorem six {r:Int} (h0:0≤r) (h1:r < 6) (S:Sto):∃ b:Int,opIx (.d (.lst [.int 1,.int 3,.int 5,.int 7,.int 9,.int 11])) (.d (.int r)) S=.ok (.d (.int b)) S∧1≤b∧b≤11:=by
  obtain rfl | rfl | rfl | rfl | rfl | rfl:r=0∨r=1∨r=2∨r=3∨r=4∨r=5:=by omega
  all_goals exact ⟨_,rfl,by decide,by decide⟩
theorem nodup_by {α:Type} (f:Nat→α) (n:Nat) (h:∀ i j,i < j→j < n→f i ≠ f j):((List.range n).map f).Nodup:=by
  unfold List.Nodup
  rw [List.pairwise_map]
  exact (List.pairwise_lt_range (n:=n)).imp_of_mem fun {a b} _ hb hab=>h a b hab (List.mem_range.mp hb)
theorem names_ok {cs:List Int} {rest S:Sto} {c:Nat} {many:Int} (h:Dw cs rest c S) (hc:c + 20 < 2 ^ 39) (m0:0≤many) (m1:many≤4) :
    ∃ (zs:List Str) (S':Sto),F__law_names [.ref 0,.d (.int many)] S=.ok (.d (.lst (zs.map D.str))) S'∧Dw cs rest (c + 11) S'∧zs.length=many.toNat∧zs.Nodup∧∀ y∈zs,isNm y=true:=by
  suffices q:∃ (zs:List Str) (S':Sto),bodyF 9 s__law_names [.ref 0,.d (.int many)] S=.ok (.d (.lst (zs.map D.str))) S'∧Dw cs rest (c + 11) S'∧zs.length=many.toNat∧zs.Nodup∧∀ y∈zs,isNm y=true by
    obtain ⟨ys,S',e,q⟩:=q
    exact ⟨ys,S',called_draw rfl h e q.1,q⟩
  obtain ⟨r,S1,e1,r0,r1,h1⟩:=next_ok (many:=8) h (by omega) (by decide) (by decide)
  have hr7:r.toNat≤7:=by omega
  obtain ⟨z,S2,y4,e2,h2,l2,a2⟩:=stem_loop (x1:=some (.d (.int many))) (x5:=none) (x6:=none) (x7:=none) (x8:=none) r.toNat (rangeD 0 r.toNat) (c + 1) S1 "" none (range_len _) h1 (by omega) (by show 0 + _≤_; omega) (by intro c hc; revert hc; rw [show ("":Str).cps.toList=[] from rfl]; simp)
  have l2:z.length≤7:=by have:("":Str).length=0:=rfl; omega
  obtain ⟨at_,S3,e3,at0,at1,h3⟩:=next_ok (many:=(z.length:Int) + 1) h2 (by omega) (by omega) (by omega)
  obtain ⟨first,S4,e4,f0,f1,h4⟩:=next_ok (many:=26) h3 (by omega) (by decide) (by decide)
  obtain ⟨i6,S5,e5,i0,i1,h5⟩:=next_ok (many:=6) h4 (by omega) (by decide) (by decide)
  obtain ⟨b,e6,b0,b1⟩:=six i0 i1 S5
  obtain ⟨e7,w1,w2⟩:=letter f0 f1 S5
  generalize ltr first=w at e7 w1 w2
  have hzl:z.length≤sizeLine:=by rw [sizeLine_eq]; omega
  have hrng:(-(2 ^ 62)≤r∧r < 2 ^ 62):=by constructor <;> omega
  have hrngm:(-(2 ^ 62)≤many∧many < 2 ^ 62):=by constructor <;> omega
  have hw8:(repStr w 8).length=8:=by
    show ((List.replicate 8 w.cps.toList).flatten.toArray).size=_
    rw [List.size_toArray,rep_len]
    have:w.cps.toList.length=1:=w1
    omega
  have ha8:asc (repStr w 8):=by
    intro c hc
    have hc:c∈(List.replicate 8 w.cps.toList).flatten:=by simpa [repStr] using hc
    obtain ⟨l,hl,hcl⟩:=List.mem_flatten.mp hc
    rw [List.eq_of_mem_replicate hl] at hcl
    exact w2 c hcl
  have hwl:z.length + (repStr w 8).length≤sizeLine:=by rw [hw8,sizeLine_eq]; omega
  have hwl2:(z ++ repStr w 8).length≤sizeLine:=by rw [len_app]; exact hwl
  generalize hword:(⟨(cut (z ++ repStr w 8).cps.toList none (some 8)).toArray⟩:Str)=word
  have aword:asc word:=by rw [← hword]; exact asc_cut (asc_app a2 ha8) _ _
  have lword:word.length=8:=by
    rw [← hword]
    show (cut (z ++ repStr w 8).cps.toList none (some 8)).toArray.size=8
    rw [List.size_toArray]
    unfold cut
    rw [List.length_take]
    simp only [HT.sIx]
    have:¬ ((8:Int) < 0):=by omega
    simp only [this,if_false]
    have:(z ++ repStr w 8).cps.toList.length=z.length + 8:=by have:=len_app z (repStr w 8); rw [hw8] at this; exact this
    rw [List.length_drop]
    omega
  have lword2:word.length≤sizeLine:=by rw [sizeLine_eq]; omega
  have hm3:many.toNat≤4:=by omega
  have hsz:([]:List D).length + (rangeD 0 many.toNat).length≤sizeLine:=by rw [range_len,sizeLine_eq]; simp; omega
  have hrep:(decide ((2:Int)≤8∧(8:Int)≤1000) && decide (w.length≤1000))=true:=by rw [w1]; decide
  have run:∀ ρ,ρ=[some (.ref 0),some (.d (.int many)),some (.d (.str alpha)),some (.d (.str z)),y4,some (.d (.int at_)),some (.d (.int first)),some (.d (.int b)),some (.d (.str word))] →
      s__law_names [some (.ref 0),some (.d (.int many)),none,none,none,none,none,none,none] S =
      sSeq (sIf (toT (fBin opGt (fVar 7) (fC (.int 5)))) (sRet (fLc (iRange1 (fCons (fVar 1) fNil)) (gN 4) tTrue (eIf (toT (fBin opGt (fVar 7) (fC (.int 7)))) (fSl opSl (fVar 8) (oSome (fVar 4)) oNone) (fSl opSl (fVar 8) oNone (oSome (fBin opSub (fBin opAdd (fVar 4) (fC (.int 9))) (fVar 1))))) [4])) sNext)
        (sRet (fLc (iRange1 (fCons (fVar 1) fNil)) (gN 4) tTrue (fBin opAdd (fBin opAdd (fSl opSl (fVar 3) oNone (oSome (fVar 5))) (fBin opIx (fVar 2) (fBin opMod (fCall (op1 intD) (fCons (fBin opAdd (fVar 6) (fBin opMul (fVar 7) (fVar 4))) fNil)) (fC (.int 26))))) (fSl opSl (fVar 3) (oSome (fVar 5)) oNone)) [4])) ρ S5:=by
    intro ρ hρ
    subst hρ
    unfold s__law_names
    refine (seq_nx (ρ1:=[some (.ref 0),some (.d (.int many)),some (.d (.str alpha)),some (.d (.str "")),none,none,none,none,none]) (S1:=S) ?_).trans ?_
    · simp [sAsg,fTup,fCons,fC,fNil,R.bind,dats,R.st,gT,view,gsCons,gN,gsNil,sizeLine_eq]
    refine (seq_nx (ρ1:=[some (.ref 0),some (.d (.int many)),some (.d (.str alpha)),some (.d (.str z)),y4,none,none,none,none]) (S1:=S2) ?_).trans ?_
    · simp only [sFor,iRange1,fCons,fApp,fVar,fC,fNil,R.bind,List.getElem?_cons_zero,e1,R.st]
      rw [if_pos hrng]
      exact e2
    refine (seq_nx (ρ1:=[some (.ref 0),some (.d (.int many)),some (.d (.str alpha)),some (.d (.str z)),y4,some (.d (.int at_)),some (.d (.int first)),some (.d (.int b)),none]) (S1:=S5) ?_).trans ?_
    · simp [sAsg,fTup,fLst,fCons,fApp,fVar,fC,fNil,fBin,fCall,opLen,op1,view,lenD,(show z.length≤16777216 by omega),opAdd,R.bind,e3,e4,e5,e6,dats,R.st,gT,gsCons,gN,gsNil,sizeLine_eq]
    refine (seq_nx (ρ1:=[some (.ref 0),some (.d (.int many)),some (.d (.str alpha)),some (.d (.str z)),y4,some (.d (.int at_)),some (.d (.int first)),some (.d (.int b)),some (.d (.str word))]) (S1:=S5) ?_)
    · simp only [sSet,fSl,fBin,fVar,List.getElem?_cons_succ,List.getElem?_cons_zero,R.bind,e7,opMul,fC,hrep,if_true,opAdd,oNone,oSome,R.st,List.set_cons_succ,List.set_cons_zero]
      have:(8:Int).toNat=8:=rfl
      rw [this,if_pos hwl]
      simp only [opSl,view]
      rw [if_pos hwl2]
      simp only [hword]
  have wip:∀ x4:Option W,wipeL [some (.ref 0),some (.d (.int many)),some (.d (.str alpha)),some (.d (.str z)),x4,some (.d (.int at_)),some (.d (.int first)),some (.d (.int b)),some (.d (.str word))] [4] =
    [some (.ref 0),some (.d (.int many)),some (.d (.str alpha)),some (.d (.str z)),none,some (.d (.int at_)),some (.d (.int first)),some (.d (.int b)),some (.d (.str word))]:=fun x4=>rfl
  have fin:∀ ys,(s__law_names [some (.ref 0),some (.d (.int many)),none,none,none,none,none,none,none] S=.rt (.d (.lst ys)) S5)→bodyF 9 s__law_names [.ref 0,.d (.int many)] S=.ok (.d (.lst ys)) S5:=fun ys e=>body_rt e
  have cl:∀ (xs:List Nat) (k:Int),0≤k→k≤xs.length→(cut xs none (some k)).length=k.toNat∧(cut xs (some k) none).length=xs.length - k.toNat:=by
    intro xs k h0 h1
    unfold cut
    rw [List.length_take,List.length_drop,List.length_take,List.length_drop]
    simp only [HT.sIx]
    rw [if_neg (by omega)]
    constructor <;> omega
  have go:∀ (f:FE) (zf:Nat→Str),(∀ k,k < many.toNat→f [some (.ref 0),some (.d (.int many)),some (.d (.str alpha)),some (.d (.str z)),some (.d (.int (0 + (k:Int)))),some (.d (.int at_)),some (.d (.int first)),some (.d (.int b)),some (.d (.str word))] S5=.ok (.d (.str (zf k))) S5) →
      fLc (iRange1 (fCons (fVar 1) fNil)) (gN 4) tTrue f [4] [some (.ref 0),some (.d (.int many)),some (.d (.str alpha)),some (.d (.str z)),y4,some (.d (.int at_)),some (.d (.int first)),some (.d (.int b)),some (.d (.str word))] S5=.ok (.d (.lst (((List.range many.toNat).map zf).map D.str))) S5:=by
    intro f zf h
    have q:=compL_map (g:=gN 4) (f:=f) (ρ:=[some (.ref 0),some (.d (.int many)),some (.d (.str alpha)),some (.d (.str z)),none,some (.d (.int at_)),some (.d (.int first)),some (.d (.int b)),some (.d (.str word))]) (S:=S5) (fun k:Nat=>D.int (0 + (k:Int))) (fun k=>.str (zf k)) (List.range many.toNat) (by rw [List.length_range]; omega) (fun k hk=>⟨_,rfl,h k (List.mem_range.mp hk)⟩)
    simp only [fLc,iRange1,fCons,fVar,fNil,R.bind,List.getElem?_cons_succ,List.getElem?_cons_zero]
    rw [if_pos hrngm]
    simp only [R.bind]
    rw [wip]
    have e:rangeD 0 many.toNat=(List.range many.toNat).map fun k:Nat=>D.int (0 + (k:Int)):=rfl
    rw [e,q,List.map_map]
    rfl
  have wl:word.cps.toList.length=8:=lword
  have zl:z.cps.toList.length=z.length:=rfl
  by_cases hb:5 < b
  · by_cases h7:7 < b
    · have q:=go (eIf (toT (fBin opGt (fVar 7) (fC (.int 7)))) (fSl opSl (fVar 8) (oSome (fVar 4)) oNone) (fSl opSl (fVar 8) oNone (oSome (fBin opSub (fBin opAdd (fVar 4) (fC (.int 9))) (fVar 1))))) (fun k=>⟨(cut word.cps.toList (some (0 + (k:Int))) none).toArray⟩) (fun k hk=>by
        simp [eIf,toT,toB,fBin,fVar,fC,R.bind,opGt,opI0,h7,fSl,oSome,oNone,opSl,view,lword2])
      have ln:∀ k,k < many.toNat→(cut word.cps.toList (some (0 + (k:Int))) none).length=8 - k:=fun k hk=>by rw [(cl word.cps.toList (0 + (k:Int)) (by omega) (by omega)).2]; omega
      refine ⟨(List.range many.toNat).map (fun k:Nat=>(⟨(cut word.cps.toList (some (0 + (k:Int))) none).toArray⟩:Str)),S5,fin _ ?_,h5.mono (by omega),(by rw [List.length_map,List.length_range]),nodup_by _ _ fun i j hij hj e=>?_,fun y hy=>?_⟩
      · rw [run _ rfl]
        refine seq_rt ((if_t (S1:=S5) ?_).trans (ret_of q))
        simp [toT,toB,fBin,fVar,fC,R.bind,opGt,opI0,hb]
      · have e1:=ln i (by omega)
        have e2:=ln j hj
        have:(cut word.cps.toList (some (0 + (i:Int))) none).length=(cut word.cps.toList (some (0 + (j:Int))) none).length:=by
          have:=congrArg (fun s:Str=>s.cps.size) e
          simpa using this
        omega
      · obtain ⟨k,hk,rfl⟩:=List.mem_map.mp hy
        have hk:=List.mem_range.mp hk
        have e1:=ln k hk
        have e2:(⟨(cut word.cps.toList (some (0 + (k:Int))) none).toArray⟩:Str).length=8 - k:=by rw [← e1]; exact List.size_toArray
        exact nm_of (asc_cut aword _ _) (by omega) (by omega)
    · have q:=go (eIf (toT (fBin opGt (fVar 7) (fC (.int 7)))) (fSl opSl (fVar 8) (oSome (fVar 4)) oNone) (fSl opSl (fVar 8) oNone (oSome (fBin opSub (fBin opAdd (fVar 4) (fC (.int 9))) (fVar 1))))) (fun k=>⟨(cut word.cps.toList none (some (0 + (k:Int) + 9 - many))).toArray⟩) (fun k hk=>by
        simp [eIf,toT,toB,fBin,fVar,fC,R.bind,opGt,opI0,h7,fSl,oSome,oNone,opSl,view,lword2,opSub,opAdd])
      have ln:∀ k,k < many.toNat→(cut word.cps.toList none (some (0 + (k:Int) + 9 - many))).length=k + 9 - many.toNat:=fun k hk=>by rw [(cl word.cps.toList (0 + (k:Int) + 9 - many) (by omega) (by omega)).1]; omega
      refine ⟨(List.range many.toNat).map (fun k:Nat=>(⟨(cut word.cps.toList none (some (0 + (k:Int) + 9 - many))).toArray⟩:Str)),S5,fin _ ?_,h5.mono (by omega),(by rw [List.length_map,List.length_range]),nodup_by _ _ fun i j hij hj e=>?_,fun y hy=>?_⟩
      · rw [run _ rfl]
        refine seq_rt ((if_t (S1:=S5) ?_).trans (ret_of q))
        simp [toT,toB,fBin,fVar,fC,R.bind,opGt,opI0,hb]
      · have e1:=ln i (by omega)
        have e2:=ln j hj
        have:(cut word.cps.toList none (some (0 + (i:Int) + 9 - many))).length=(cut word.cps.toList none (some (0 + (j:Int) + 9 - many))).length:=by
          have:=congrArg (fun s:Str=>s.cps.size) e
          simpa using this
        omega
      · obtain ⟨k,hk,rfl⟩:=List.mem_map.mp hy
        have hk:=List.mem_range.mp hk
        have e1:=ln k hk
        have e2:(⟨(cut word.cps.toList none (some (0 + (k:Int) + 9 - many))).toArray⟩:Str).length=k + 9 - many.toNat:=by rw [← e1]; exact List.size_toArray
        exact nm_of (asc_cut aword _ _) (by omega) (by omega)
  · have hk0:∀ k:Nat,0≤(first + b * (0 + (k:Int))).fmod 26∧(first + b * (0 + (k:Int))).fmod 26 < 26:=fun k=>⟨Int.fmod_nonneg_of_pos _ (by decide),Int.fmod_lt_of_pos _ (by decide)⟩
    obtain ⟨c1,c2⟩:=cl z.cps.toList at_ at0 (by omega)
    have g1:(⟨(cut z.cps.toList none (some at_)).toArray⟩:Str).length=at_.toNat:=by rw [← c1]; exact List.size_toArray
    have g2:(⟨(cut z.cps.toList (some at_) none).toArray⟩:Str).length=z.length - at_.toNat:=by rw [← zl,← c2]; exact List.size_toArray
    have q:=go (fBin opAdd (fBin opAdd (fSl opSl (fVar 3) oNone (oSome (fVar 5))) (fBin opIx (fVar 2) (fBin opMod (fCall (op1 intD) (fCons (fBin opAdd (fVar 6) (fBin opMul (fVar 7) (fVar 4))) fNil)) (fC (.int 26))))) (fSl opSl (fVar 3) (oSome (fVar 5)) oNone)) (fun k=>((⟨(cut z.cps.toList none (some at_)).toArray⟩:Str) ++ ltr ((first + b * (0 + (k:Int))).fmod 26)) ++ ⟨(cut z.cps.toList (some at_) none).toArray⟩) (fun k hk=>by
      obtain ⟨ey,y1,y2⟩:=letter (hk0 k).1 (hk0 k).2 S5
      have hmul:mulOk b (0 + (k:Int))=true:=decide_eq_true (.inl ⟨by omega,by omega⟩)
      have k1:(⟨(cut z.cps.toList none (some at_)).toArray⟩:Str).length + (ltr ((first + b * (0 + (k:Int))).fmod 26)).length≤sizeLine:=by rw [sizeLine_eq]; omega
      have k2:((⟨(cut z.cps.toList none (some at_)).toArray⟩:Str) ++ ltr ((first + b * (0 + (k:Int))).fmod 26)).length + (⟨(cut z.cps.toList (some at_) none).toArray⟩:Str).length≤sizeLine:=by rw [len_app,sizeLine_eq]; omega
      simp only [fBin,fSl,fVar,fC,fCall,fCons,fNil,op1,view,intD,oNone,oSome,R.bind,List.set_cons_succ,List.set_cons_zero,List.getElem?_cons_succ,List.getElem?_cons_zero,opSl,opMul,hmul,if_true,opAdd,hzl,opMod,opI]
      rw [if_pos (by decide)]
      simp only [R.bind,ey]
      rw [if_pos k1]
      simp only [R.bind]
      rw [if_pos k2])
    refine ⟨(List.range many.toNat).map (fun k:Nat=>((⟨(cut z.cps.toList none (some at_)).toArray⟩:Str) ++ ltr ((first + b * (0 + (k:Int))).fmod 26)) ++ ⟨(cut z.cps.toList (some at_) none).toArray⟩),S5,fin _ ?_,h5.mono (by omega),(by rw [List.length_map,List.length_range]),nodup_by _ _ fun i j hij hj e=>?_,fun y hy=>?_⟩
    · rw [run _ rfl]
      refine (seq_nx (if_f (S1:=S5) ?_)).trans (ret_of q)
      simp [toT,toB,fBin,fVar,fC,R.bind,opGt,opI0,hb]
    · have e:=congrArg (fun s:Str=>s.cps.toList) e
      have ap:∀ a b:Str,(a ++ b).cps.toList=a.cps.toList ++ b.cps.toList:=fun a b=>by
        show (a.cps ++ b.cps).toList=_
        simp
      simp only [ap,ltr] at e
      rw [List.append_cancel_right_eq,List.append_cancel_left_eq] at e
      have hi:=hk0 i
      have hj':=hk0 j
      simp only [List.cons.injEq,and_true] at e
      have e2:(first + b * (0 + (i:Int))).fmod 26=(first + b * (0 + (j:Int))).fmod 26:=by omega
      rw [Int.fmod_eq_emod_of_nonneg _ (by decide),Int.fmod_eq_emod_of_nonneg _ (by decide)] at e2
      have hb5:b≤5:=by omega
      have hj4:j < 4:=by omega
      obtain rfl | rfl | rfl | rfl | rfl:b=1∨b=2∨b=3∨b=4∨b=5:=by omega
      all_goals omega
    · obtain ⟨k,hk,rfl⟩:=List.mem_map.mp hy
      obtain ⟨_,y1,y2⟩:=letter (hk0 k).1 (hk0 k).2 S5
      refine nm_of (asc_app (asc_app (asc_cut a2 _ _) y2) (asc_cut a2 _ _)) ?_ ?_
      all_goals
        rw [len_app,len_app]
        omega
end K06
namespace K06
open PySem Ev
open L2 (atI ixN)
theorem atI_mem {α:Type} {xs:List α} {r:Int} (h0:0≤r) (h1:r < xs.length):∃ x,atI xs r=some x∧x∈xs∧xs[r.toNat]? = some x:=by
  have hl:r.toNat < xs.length:=by omega
  refine ⟨xs[r.toNat],?_,List.getElem_mem hl,List.getElem?_eq_getElem hl⟩
  unfold atI ixN
  rw [if_pos h0,if_pos h1]
  exact List.getElem?_eq_getElem hl
def plS (z:Str):Prop:=∀ c∈z.cps.toList,plC c=true
theorem plS_asc {z:Str} (h:asc z):plS z:=fun c hc=>by
  have:=h c hc
  exact decide_eq_true ⟨by omega,by omega,by omega,by omega⟩
theorem nm_asc {z:Str} (h:isNm z=true):plS z∧z.length≤8:=by
  unfold isNm at h
  rw [Bool.and_eq_true] at h
  have h1:=of_decide_eq_true h.1
  exact ⟨plS_asc fun c hc=>(low_iff c).mp (List.all_eq_true.mp h.2 c hc),by omega⟩
abbrev mkS (p:Str×Int):D:=.tup [.str p.1,.int p.2]
def GoodP (ps:List (Str×Int)):Prop:=∀ p∈ps,isNm p.1=true∧1≤p.2∧p.2≤3
def mulI (m:Int) (is:List Int):Int:=is.foldl (fun m i=>m * (i + 1)) m
structure Okp (ps:List (Str×Int)):Prop where
  good:GoodP ps
  nd:(ps.map (·.1)).Nodup
  l1:1≤ps.length
  l3:ps.length≤3
  few:mulI 1 (ps.map (·.2))≤12
def mostsL:List D:=[.tup [.int 1],.tup [.int 2],.tup [.int 3],.tup [.int 1,.int 1],.tup [.int 1,.int 2],.tup [.int 2,.int 1],.tup [.int 2,.int 2],.tup [.int 1,.int 3],.tup [.int 3,.int 2],.tup [.int 1,.int 1,.int 1],.tup [.int 1,.int 2,.int 1],.tup [.int 1,.int 1,.int 2]]
theorem mosts_mem {d:D} (h:d∈mostsL):∃ is:List Int,d=.tup (is.map D.int)∧1≤is.length∧is.length≤3∧(∀ i∈is,1≤i∧i≤3)∧mulI 1 is≤12:=by
  simp only [mostsL,List.mem_cons,List.not_mem_nil,or_false] at h
  rcases h with rfl | rfl | rfl | rfl | rfl | rfl | rfl | rfl | rfl | rfl | rfl | rfl
  · exact ⟨[1],rfl,by decide⟩
  · exact ⟨[2],rfl,by decide⟩
  · exact ⟨[3],rfl,by decide⟩
  · exact ⟨[1,1],rfl,by decide⟩
  · exact ⟨[1,2],rfl,by decide⟩
  · exact ⟨[2,1],rfl,by decide⟩
  · exact ⟨[2,2],rfl,by decide⟩
  · exact ⟨[1,3],rfl,by decide⟩
  · exact ⟨[3,2],rfl,by decide⟩
  · exact ⟨[1,1,1],rfl,by decide⟩
  · exact ⟨[1,2,1],rfl,by decide⟩
  · exact ⟨[1,1,2],rfl,by decide⟩
theorem zip_mk:∀ (zs:List Str) (is:List Int),zipD (zs.map D.str) (is.map D.int)=(zs.zip is).map mkS
  | [],_=>by simp [zipD]
  | _ :: _,[]=>by simp [zipD]
  | z :: zs,i :: is=>by simp only [List.map_cons,zipD,List.zip_cons_cons,zip_mk zs is]
theorem settings_ok {cs:List Int} {rest S:Sto} {c:Nat} (h:Dw cs rest c S) (hc:c + 30 < 2 ^ 39) :
    ∃ (ps:List (Str×Int)) (S':Sto),F__law_settings [.ref 0] S=.ok (.d (.ftp (ps.map mkS))) S'∧Dw cs rest (c + 12) S'∧Okp ps:=by
  suffices q:∃ (ps:List (Str×Int)) (S':Sto),bodyF 5 s__law_settings [.ref 0] S=.ok (.d (.ftp (ps.map mkS))) S'∧Dw cs rest (c + 12) S'∧Okp ps by
    obtain ⟨ys,S',e,q⟩:=q
    exact ⟨ys,S',called_draw rfl h e q.1,q⟩
  obtain ⟨r,S1,e1,r0,r1,h1⟩:=next_ok (many:=12) h (by omega) (by decide) (by decide)
  obtain ⟨d,e2,d2,_⟩:=atI_mem (xs:=mostsL) r0 (by simpa [mostsL] using r1)
  obtain ⟨is,rfl,l1,l2,pm,few⟩:=mosts_mem d2
  obtain ⟨zs,S2,e3,h2,l3,nd,pz⟩:=names_ok (many:=(is.length:Int)) h1 (by omega) (by omega) (by omega)
  have l3:zs.length=is.length:=by omega
  have e4:=compL_map (g:=gT 2 (gsCons (gN 3) (gsCons (gN 4) gsNil))) (f:=fTup (fCons (fVar 3) (fCons (fVar 4) fNil))) (S:=S2) (ρ:=[some (.ref 0),some (.d (.lst mostsL)),some (.d (.tup (is.map D.int))),none,none]) mkS mkS (zs.zip is) (by rw [List.length_zip]; omega) (fun p hp =>
    ⟨[some (.ref 0),some (.d (.lst mostsL)),some (.d (.tup (is.map D.int))),some (.d (.str p.1)),some (.d (.int p.2))],by simp [gT,view,gsCons,gN,gsNil,mkS],by simp [fTup,fCons,fVar,fNil,R.bind,dats,sizeLine_eq]⟩)
  have m1:(zs.zip is).map (·.1)=zs:=List.map_fst_zip (by omega)
  have m2:(zs.zip is).map (·.2)=is:=List.map_snd_zip (by omega)
  refine ⟨zs.zip is,S2,body_rt (w:=.d (.ftp ((zs.zip is).map mkS))) ?_,h2.mono (by omega),⟨fun p hp=>?_,by rw [m1]; exact nd,by rw [List.length_zip]; omega,by rw [List.length_zip]; omega,by rw [m2]; exact few⟩⟩
  · unfold s__law_settings
    refine (seq_nx (ρ1:=[some (.ref 0),some (.d (.lst mostsL)),none,none,none]) (S1:=S) ?_).trans ?_
    · simp [sSet,fLst,fTup,fCons,fC,fNil,R.bind,dats,R.st,sizeLine_eq,mostsL]
    refine (seq_nx (ρ1:=[some (.ref 0),some (.d (.lst mostsL)),some (.d (.tup (is.map D.int))),none,none]) (S1:=S1) ?_).trans ?_
    · simp [sSet,fBin,fVar,fApp,fCons,fC,fNil,R.bind,e1,opIx,view,e2,R.st]
    refine ret_of ?_
    simp only [fCall,fCons,fNil,fLc,iZip,fApp,fVar,op1,opLen,lenD,view,R.bind,List.getElem?_cons_succ,List.getElem?_cons_zero,List.length_map,e3,pick,if_true,if_false,Bool.false_eq_true,wipeL,List.set_cons_succ,List.set_cons_zero,zip_mk,e4,opTupF]
  · obtain ⟨q1,q2⟩:=List.of_mem_zip (show (p.1,p.2)∈zs.zip is from hp)
    exact ⟨pz _ q1,pm _ q2⟩
theorem plS_of {z:Str} (h:z.cps.toList.all plC=true):plS z:=fun c hc=>List.all_eq_true.mp h c hc
end K06
namespace K06
open PySem Ev
open L2 (atI ixN)
theorem gd_str {k:Nat} {z:Str}:Gd k (.str z) ↔ plS z:=by cases k <;> simp only [Gd] <;> rfl
theorem gd_int {k:Nat} {i:Int}:Gd k (.int i) ↔ i.natAbs≤10 ^ 30 + 100 * k:=by cases k <;> simp only [Gd]
theorem cut_take {α:Type} (xs:List α) (n:Int) (h0:0≤n) (h1:n≤xs.length):cut xs none (some n)=xs.take n.toNat:=by
  unfold cut
  simp only [HT.sIx]
  rw [if_neg (by omega),List.drop_zero,Nat.sub_zero,Nat.min_eq_left (by omega)]
end K06
namespace K06
open PySem Ev
open L2 (atI ixN)
def nmD:D→Bool
  | .str z=>isNm z
  | _=>false
structure Sm (d:D):Prop where
  gd:Gd 50 d
  sz:szD d≤5000
theorem Sm.of_mem {xs:List D} {x:D} (h:Sm (.tup xs)) (hx:x∈xs):Sm x :=
  ⟨(gds_iff.mp (show Gds 49 xs by simpa only [Gd] using h.gd) x hx).mono (by decide),Nat.le_trans (szDs_mem hx) (by have:=h.sz; simp only [szD] at this; omega)⟩
theorem Sm.str {z:Str} (h:Sm (.str z)):z.length≤5000∧plS z:=⟨by have:=h.sz; simp only [szD] at this; omega,gd_str.mp h.gd⟩
theorem Sm.cs {d:D} {P:D→Prop} (h:Sm d) (h1:P .non) (h2:∀ b,P (.bl b)) (h3:∀ i,P (.int i)) (h4:∀ z,P (.str z)) (h5:∀ xs,P (.tup xs)) (h6:∀ xs,P (.lst xs)) (h7:∀ xs,P (.dct xs)):P d:=by
  cases d with
  | ins _ _=>exact absurd h.gd (by simp [Gd])
  | scr _=>exact absurd h.gd (by simp [Gd])
  | ftp _=>exact absurd h.gd (by simp [Gd])
  | cls _=>exact absurd h.gd (by simp [Gd])
  | kdc _=>exact absurd h.gd (by simp [Gd])
  | exi _ _ _=>exact absurd h.gd (by simp [Gd])
  | dkf _=>exact absurd h.gd (by simp [Gd])
  | non=>exact h1
  | bl b=>exact h2 b
  | int i=>exact h3 i
  | str z=>exact h4 z
  | tup xs=>exact h5 xs
  | lst xs=>exact h6 xs
  | dct xs=>exact h7 xs
theorem in_sign {c:Nat} {S:Sto}:opIn (.d (.str ⟨#[c]⟩)) (.d (.str alpha)) S=.ok (.d (.bl (low c))) S:=rfl
theorem is_name_ok {d:D} (h:Sm d) (S:Sto):F_is_name [.d d] S=.ok (.d (.bl (nmD d))) S:=by
  refine rt_called (ds:=[d]) (S1:=[]) rfl ?_
  show s_is_name [some (.d d),none] []=_
  revert h
  cases d with
  | str z =>
    intro h
    have hz:=h.str.1
    have e1:=compL_map (g:=gN 1) (f:=fBin opIn (fVar 1) (fC (.str alpha))) (ρ:=[some (.d (.str z)),none]) (S:=[]) (fun c=>D.str ⟨#[c]⟩) (fun c=>.bl (low c)) z.cps.toList (by show z.length≤_; omega) (fun c hc=>⟨_,rfl,by simp [in_sign]⟩)
    have e2:op1 allD [.d (.lst (z.cps.toList.map fun c=>.bl (low c)))] []=.ok (.d (.bl (z.cps.toList.all low))) []:=by
      simp [op1,allD,Function.comp_def]
    simp only [s_is_name,nmD,isNm]
    by_cases l1:1≤(z.length:Int)
    · by_cases l2:(z.length:Int)≤8
      · simp [o_lenS (z:=z) (S:=[]) (by omega),signs,wipeL,e1,e2,l1,l2]
      · simp [o_lenS (z:=z) (S:=[]) (by omega),l1,l2]
    · simp [o_lenS (z:=z) (S:=[]) (by omega),l1]
  | ins _ _=>intro h; exact absurd h.gd (by simp [Gd])
  | scr _=>intro h; exact absurd h.gd (by simp [Gd])
  | ftp _=>intro h; exact absurd h.gd (by simp [Gd])
  | cls _=>intro h; exact absurd h.gd (by simp [Gd])
  | kdc _=>intro h; exact absurd h.gd (by simp [Gd])
  | exi _ _ _=>intro h; exact absurd h.gd (by simp [Gd])
  | dkf _=>intro h; exact absurd h.gd (by simp [Gd])
  | _=>intro h; simp [s_is_name,nmD]
def amD (lo hi:Int):D→Bool
  | .int i=>decide (lo≤i∧i≤hi)
  | _=>false
theorem is_among_ok {d:D} (h:Sm d) (lo hi:Int) (S:Sto):F_is_among [.d d,.d (.int lo),.d (.int hi)] S=.ok (.d (.bl (amD lo hi d))) S:=by
  refine rt_called (ds:=[d,.int lo,.int hi]) (S1:=[]) rfl ?_
  show s_is_among [some (.d d),some (.d (.int lo)),some (.d (.int hi))] []=_
  revert h
  cases d with
  | int i =>
    intro h
    by_cases l1:lo≤i <;> simp [s_is_among,amD,l1]
  | ins _ _=>intro h; exact absurd h.gd (by simp [Gd])
  | scr _=>intro h; exact absurd h.gd (by simp [Gd])
  | ftp _=>intro h; exact absurd h.gd (by simp [Gd])
  | cls _=>intro h; exact absurd h.gd (by simp [Gd])
  | kdc _=>intro h; exact absurd h.gd (by simp [Gd])
  | exi _ _ _=>intro h; exact absurd h.gd (by simp [Gd])
  | dkf _=>intro h; exact absurd h.gd (by simp [Gd])
  | _=>intro h; simp [s_is_among,amD]
def rowD (n:Nat):D→Bool
  | .tup xs=>decide (xs.length=n)
  | _=>false
theorem is_row_ok {d:D} (h:Sm d) (n:Nat) (S:Sto):F_is_row [.d d,.d (.int n)] S=.ok (.d (.bl (rowD n d))) S:=by
  refine rt_called (ds:=[d,.int n]) (S1:=[]) rfl ?_
  show s_is_row [some (.d d),some (.d (.int n))] []=_
  revert h
  cases d with
  | ins _ _=>intro h; exact absurd h.gd (by simp [Gd])
  | scr _=>intro h; exact absurd h.gd (by simp [Gd])
  | ftp _=>intro h; exact absurd h.gd (by simp [Gd])
  | cls _=>intro h; exact absurd h.gd (by simp [Gd])
  | kdc _=>intro h; exact absurd h.gd (by simp [Gd])
  | exi _ _ _=>intro h; exact absurd h.gd (by simp [Gd])
  | dkf _=>intro h; exact absurd h.gd (by simp [Gd])
  | tup xs=>intro h; simp [s_is_row,rowD]; omega
  | _=>intro h; simp [s_is_row,rowD]
def setOf:D→Option (Str×Int)
  | .tup [.str z,.int i]=>if isNm z=true∧1≤i∧i≤3 then some (z,i) else none
  | _=>none
theorem setOf_some {d:D} {z:Str} {i:Int} (h:setOf d=some (z,i)):d=.tup [.str z,.int i]∧isNm z=true∧1≤i∧i≤3:=by
  unfold setOf at h
  split at h
  · split at h
    · rename_i hh
      cases h
      exact ⟨rfl,hh⟩
    · cases h
  · cases h
theorem setOf_eq (xs:List D) (x y:D) (h:xs=[x,y]):(setOf (.tup xs)).isSome=(nmD x && amD 1 3 y):=by
  subst h
  cases x with
  | str z =>
    cases y with
    | int i =>
      simp only [setOf,nmD,amD]
      by_cases h1:isNm z=true <;> by_cases h2:1≤i <;> by_cases h3:i≤3 <;> simp [h1,h2,h3]
    | _=>simp [setOf,amD]
  | _=>simp [setOf,nmD]
theorem setOf_len {xs:List D} (h:xs.length ≠ 2):setOf (.tup xs)=none:=by
  unfold setOf
  split
  · rename_i e
    cases e
    exact absurd rfl h
  · rfl
theorem is_setting_ok {d:D} (h:Sm d) (S:Sto):F_is_setting [.d d] S=.ok (.d (.bl (setOf d).isSome)) S:=by
  refine rt_called (ds:=[d]) (S1:=[]) rfl ?_
  show s_is_setting [some (.d d)] []=_
  have e1:=is_row_ok h 2 []
  have e1:F_is_row [.d d,.d (.int 2)] []=.ok (.d (.bl (rowD 2 d))) []:=e1
  cases d with
  | tup xs =>
    by_cases hl:xs.length=2
    · match xs,hl,h with
      | [x,y],_,h =>
        have hx:=h.of_mem (x:=x) (by simp)
        have hy:=h.of_mem (x:=y) (by simp)
        rw [setOf_eq _ x y rfl]
        by_cases hn:nmD x=true <;> simp [s_is_setting,e1,rowD,is_name_ok hx,is_among_ok hy,hn]
    · rw [setOf_len hl]
      simp [s_is_setting,e1,rowD,hl]
  | ins _ _=>exact absurd h.gd (by simp [Gd])
  | scr _=>exact absurd h.gd (by simp [Gd])
  | ftp _=>exact absurd h.gd (by simp [Gd])
  | cls _=>exact absurd h.gd (by simp [Gd])
  | kdc _=>exact absurd h.gd (by simp [Gd])
  | exi _ _ _=>exact absurd h.gd (by simp [Gd])
  | dkf _=>exact absurd h.gd (by simp [Gd])
  | _=>simp [s_is_setting,e1,rowD,setOf]
end K06
namespace K06
open PySem Ev
open L2 (atI ixN)
def scan (seen:List Str) (p:Nat):List D→Option Nat
  | []=>none
  | x :: xs=>match setOf x with
    | none=>some p
    | some (z,_)=>if z∈seen then some p else scan (seen ++ [z]) (p + 1) xs
theorem in_strs {z:Str} {zs:List Str} {S:Sto} (hz:plS z) (hs:∀ y∈zs,plS y):opIn (.d (.str z)) (.d (.lst (zs.map D.str))) S=.ok (.d (.bl (decide (z∈zs)))) S:=by
  have g:Gd 50 (.lst (zs.map D.str)):=by
    show Gds 49 _
    refine gds_iff.mpr fun x hx=>?_
    obtain ⟨y,hy,rfl⟩:=List.mem_map.mp hx
    exact gd_str.mpr (hs y hy)
  have o1:=gd_eqOk g (by decide) (show flatDs (zs.map D.str)=true from flat_strs zs)
  have o2:eqOk (.str z)=true:=gd_eqOk (k:=0) (gd_str.mpr hz) (by decide) rfl
  simp only [opIn,view,inD,o1,o2,Bool.and_self,if_true]
  congr 3
  induction zs with
  | nil=>rfl
  | cons y ys ih =>
    rw [List.map_cons,List.any_cons,eqD_str]
    have:=ih (fun x hx=>hs x (List.mem_cons_of_mem _ hx)) (by
      show Gds 49 _
      exact gds_iff.mpr fun x hx=>by
        obtain ⟨w,hw,rfl⟩:=List.mem_map.mp hx
        exact gd_str.mpr (hs w (List.mem_cons_of_mem _ hw))) (gd_eqOk (k:=50) (by
      show Gds 49 _
      exact gds_iff.mpr fun x hx=>by
        obtain ⟨w,hw,rfl⟩:=List.mem_map.mp hx
        exact gd_str.mpr (hs w (List.mem_cons_of_mem _ hw))) (by decide) (show flatDs (ys.map D.str)=true from flat_strs ys))
    rw [this]
    by_cases e:y=z
    · simp [e]
    · have e':¬ z=y:=fun q=>e q.symm
      simp [e,e']
theorem names_of_ok (ps:List (Str×Int)) (hl:ps.length≤1000) (S:Sto):F_names_of [.d (.tup (ps.map mkS))] S=.ok (.d (.lst ((ps.map (·.1)).map D.str))) S:=by
  refine rt_called (ds:=[.tup (ps.map mkS)]) (S1:=[]) rfl ?_
  show s_names_of [some (.d (.tup (ps.map mkS))),none] []=_
  have e1:=compL_map (g:=gN 1) (f:=fBin opIx (fVar 1) (fC (.int 0))) (ρ:=[some (.d (.tup (ps.map mkS))),none]) (S:=[]) mkS (fun p=>.str p.1) ps (by omega) (fun c hc=>⟨_,rfl,by simp⟩)
  simp [s_names_of,wipeL,e1]
theorem take_pre {ps:List (Str×Int)} {ys:List D}:cut (ps.map mkS ++ ys) none (some (ps.length:Int))=ps.map mkS:=by
  rw [cut_take _ _ (by omega) (by rw [List.length_append,List.length_map]; omega)]
  have:((ps.length:Int)).toNat=(ps.map mkS).length:=by simp
  rw [this,List.take_left']
  rfl
abbrev nBody:FS:=(sIf (bOr (bNot (toT (fApp F_is_setting (fCons (fVar 2) fNil)))) (toT (fBin opIn (fBin opIx (fVar 2) (fC (.int 0))) (fApp F_names_of (fCons (fSl opSl (fVar 0) oNone (oSome (fVar 1))) fNil))))) (sRaise 0 (fVar 1)) sNext)
abbrev nTarget (i j:Nat):FG:=gT 2 (gsCons (gN i) (gsCons (gN j) gsNil))
theorem need_loop {xs:List D}:∀ (ys:List D) (ps:List (Str×Int)) (a b:Option W),xs=ps.map mkS ++ ys→GoodP ps→(∀ y∈ys,Sm y)→ps.length + ys.length≤1000 →
    ∃ a' b',loop (turn (nTarget 1 2) nBody) (enumFrom ps.length ys) [some (.d (.tup xs)),a,b] []=(match scan (ps.map (·.1)) ps.length ys with
      | some q=>RS.exn 0 (.int (q:Int)) [some (.d (.tup xs)),a',b'] []
      | none=>.nx [some (.d (.tup xs)),a',b'] [])
  | [],ps,a,b,_,_,_,_=>⟨a,b,by simp [enumFrom,scan]⟩
  | y :: ys,ps,a,b,hx,hp,hs,hl=>by
    have sy:=hs y List.mem_cons_self
    simp only [List.length_cons] at hl
    cases e:setOf y with
    | none =>
      refine ⟨some (.d (.int ps.length)),some (.d y),?_⟩
      simp [enumFrom,scan,e,is_setting_ok sy]
    | some q =>
      obtain ⟨z,i⟩:=q
      obtain ⟨rfl,hz,hi⟩:=setOf_some e
      have e2:=names_of_ok ps (by omega) []
      have e3:opIn (.d (.str z)) (.d (.lst ((ps.map (·.1)).map D.str))) []=.ok (.d (.bl (decide (z∈ps.map (·.1))))) []:=in_strs (nm_asc hz).1 (fun w hw=>by
        obtain ⟨p,hp',rfl⟩:=List.mem_map.mp hw
        exact (nm_asc (hp p hp').1).1)
      have e4:cut xs none (some (ps.length:Int))=ps.map mkS:=by rw [hx]; exact take_pre
      by_cases hm:z∈ps.map (·.1)
      · refine ⟨some (.d (.int ps.length)),some (.d (.tup [.str z,.int i])),?_⟩
        simp only [scan,e,hm,if_true]
        simp only [decide_eq_true hm] at e3
        simp [-List.map_map,enumFrom,is_setting_ok sy,e,e2,e3,e4]
      · obtain ⟨a',b',ih⟩:=need_loop (xs:=xs) ys (ps ++ [(z,i)]) (some (.d (.int ps.length))) (some (.d (.tup [.str z,.int i]))) (by rw [hx]; simp) (fun p hp'=>by
          rcases List.mem_append.mp hp' with h | h
          · exact hp p h
          · simp at h; subst h; exact ⟨hz,hi⟩) (fun w hw=>hs w (List.mem_cons_of_mem _ hw)) (by simp; omega)
        refine ⟨a',b',?_⟩
        simp only [scan,e,hm,if_false]
        simp only [decide_eq_false hm] at e3
        rw [List.length_append,List.map_append] at ih
        simp only [List.length_cons,List.length_nil,List.map_cons,List.map_nil] at ih
        rw [← ih]
        simp [-List.map_map,enumFrom,is_setting_ok sy,e,e2,e3,e4]
def mul (m:Int):List D→Int
  | []=>m
  | x :: xs=>match setOf x with
    | none=>mul m xs
    | some (_,i)=>mul (m * (i + 1)) xs
theorem o_mulI {i j:Int} {S:Sto} (h:-(2 ^ 64) < j∧j < 2 ^ 64):opMul (.d (.int i)) (.d (.int j)) S=.ok (.d (.int (i * j))) S:=by
  have:mulOk i j=true:=decide_eq_true (.inr h)
  simp only [opMul,this,if_true]
def rowsOf:List (Str×Int)→List (List D)→List (List D)
  | [],rs=>rs
  | p :: ps,rs=>rowsOf ps (rs.flatMap fun r=>(List.range (p.2 + 1).toNat).map fun v=>r ++ [.int (v:Int)])
theorem rows_step {γ:Type} (n:Nat) (f:γ→Nat→List D) (rs:List γ):(rs.flatMap fun r=>(List.range n).map fun v=>f r v).length=rs.length * n:=by
  induction rs with
  | nil=>simp
  | cons r rs ih=>rw [List.flatMap_cons,List.length_append,ih,List.length_map,List.length_range,List.length_cons,Nat.succ_mul]; omega
theorem rows_len:∀ (ps:List (Str×Int)) (rs:List (List D)) (m:Int),GoodP ps→(rs.length:Int)=m→((rowsOf ps rs).length:Int)=mul m (ps.map mkS)
  | [],rs,m,_,h=>h
  | p :: ps,rs,m,hp,h=>by
    have hp1:=hp p List.mem_cons_self
    have e:setOf (mkS p)=some (p.1,p.2):=by simp [setOf,hp1]
    rw [List.map_cons,rowsOf,mul,e]
    refine rows_len ps _ _ (fun q hq=>hp q (List.mem_cons_of_mem _ hq)) ?_
    rw [rows_step,← h,Int.natCast_mul]
    congr 1
    omega
end K06
namespace K06
open PySem Ev
open L2 (atI ixN)
abbrev aBody:FS:=(sSet 1 (fLc2 (iLst (fVar 1)) (gN 4) tTrue (iRange1 (fCons (fBin opAdd (fVar 3) (fC (.int 1))) fNil)) (gN 5) tTrue (fTup (fStar (fVar 4) (fCons (fVar 5) fNil))) [4,5] [5]))
@[simp] theorem e_lc2 {fi fi1:FI} {g g1:FG} {t t1:FT} {f:FE} {vs vs1:List Nat} {ρ:List (Option W)} {S:Sto}:fLc2 fi g t fi1 g1 t1 f vs vs1 ρ S=(fi ρ S).bind fun ds S1=>(compL2 g t fi1 g1 t1 f vs1 (wipeL ρ vs) ds S1 []).bind fun ys S2=>.ok (.d (.lst ys)) S2:=rfl
theorem rows_step' {γ δ:Type} (n:Nat) (f:γ→Nat→δ) (rs:List γ):(rs.flatMap fun r=>(List.range n).map fun v=>f r v).length=rs.length * n:=by
  induction rs with
  | nil=>simp
  | cons r rs ih=>rw [List.flatMap_cons,List.length_append,ih,List.length_map,List.length_range,List.length_cons,Nat.succ_mul]; omega
theorem stand_loop {x0:Option W}:∀ (ps:List (Str×Int)) (rs:List (List D)) (a b c d:Option W),GoodP ps→(∀ r∈rs,r.length≤100)→ps.length≤3→rs.length * 4 ^ ps.length≤100000→(∀ r∈rs,r.length + ps.length≤100) →
    ∃ a' b' c' d',loop (turn (nTarget 2 3) aBody) (ps.map mkS) [x0,some (.d (.lst (rs.map D.tup))),a,b,c,d] []=.nx [x0,some (.d (.lst ((rowsOf ps rs).map D.tup))),a',b',c',d'] []
  | [],rs,a,b,c,d,_,_,_,_,_=>⟨a,b,c,d,by simp [rowsOf]⟩
  | p :: ps,rs,a,b,c,d,hp,hr,hl,hk,hr2=>by
    have hp1:=hp p List.mem_cons_self
    have hpow:4 ^ (ps.length + 1)=4 ^ ps.length * 4:=Nat.pow_succ ..
    have h4:1≤4 ^ ps.length:=Nat.one_le_pow _ _ (by decide)
    simp only [List.length_cons] at hl hk hr2
    have hsz:rs.length * 4≤100000:=by
      have:rs.length * 4 * 1≤rs.length * 4 * 4 ^ ps.length:=Nat.mul_le_mul_left _ h4
      rw [hpow] at hk
      have e:rs.length * (4 ^ ps.length * 4)=rs.length * 4 * 4 ^ ps.length:=by rw [Nat.mul_comm (4 ^ ps.length) 4,Nat.mul_assoc]
      omega
    have hn:(p.2 + 1).toNat≤4:=by omega
    have hlen:(rs.flatMap fun r=>(List.range (p.2 + 1).toNat).map fun (v:Nat)=>r ++ [D.int (v:Int)]).length=rs.length * (p.2 + 1).toNat:=rows_step _ _ _
    have hle:rs.length * (p.2 + 1).toNat≤rs.length * 4:=Nat.mul_le_mul_left _ hn
    have inner:∀ r∈rs,∀ (x2 x3:Option W),x3=some (.d (.int p.2))→∀ acc:List D,acc.length + ((List.range (p.2 + 1).toNat).map fun (v:Nat)=>D.tup (r ++ [D.int (v:Int)])).length≤16777216 →
        compL (gN 5) tTrue (fTup (fStar (fVar 4) (fCons (fVar 5) fNil))) [x0,some (.d (.lst (rs.map D.tup))),x2,x3,some (.d (.tup r)),none] (rangeD 0 (p.2 + 1).toNat) [] acc=.ok (acc ++ (List.range (p.2 + 1).toNat).map fun (v:Nat)=>D.tup (r ++ [D.int (v:Int)])) []:=by
      intro r hrr x2 x3 _ acc hacc
      have:=compL_by (g:=gN 5) (t:=tTrue) (f:=fTup (fStar (fVar 4) (fCons (fVar 5) fNil))) (ρ:=[x0,some (.d (.lst (rs.map D.tup))),x2,x3,some (.d (.tup r)),none]) (S:=[]) (fun k:Nat=>D.int (0 + (k:Int))) (fun _=>true) (fun (v:Nat)=>D.tup (r ++ [D.int (v:Int)])) (List.range (p.2 + 1).toNat) acc (by simpa using hacc) (fun k hk=>⟨_,rfl,rfl,fun _=>by
        have hr100:=hr r hrr
        have hd:dats (r.map W.d ++ [.d (.int (k:Int))])=some (r ++ [D.int (k:Int)]):=by
          rw [dats_app]; rfl
        have hs:(r ++ [D.int (k:Int)]).length≤sizeLine:=by rw [sizeLine_eq]; simp; omega
        simp [seqW,seqD,hd]
        simp only [List.length_append,List.length_cons,List.length_nil] at hs
        exact hs⟩)
      rw [List.filter_eq_self.mpr (by simp)] at this
      exact this
    have e1:=compL2_by (g:=gN 4) (t:=tTrue) (fi1:=iRange1 (fCons (fBin opAdd (fVar 3) (fC (.int 1))) fNil)) (g1:=gN 5) (t1:=tTrue) (f:=fTup (fStar (fVar 4) (fCons (fVar 5) fNil))) (vs1:=[5])
      (ρ:=[x0,some (.d (.lst (rs.map D.tup))),some (.d (.str p.1)),some (.d (.int p.2)),none,none]) (S:=[]) D.tup (fun r=>(List.range (p.2 + 1).toNat).map fun (v:Nat)=>D.tup (r ++ [D.int (v:Int)])) rs [] (by
        rw [show (rs.flatMap fun r=>(List.range (p.2 + 1).toNat).map fun (v:Nat)=>D.tup (r ++ [D.int (v:Int)])).length=rs.length * (p.2 + 1).toNat from rows_step' _ _ _]
        simp
        omega) (fun r hrr=>⟨_,rangeD 0 (p.2 + 1).toNat,rfl,rfl,by
          have:-(2 ^ 62)≤p.2 + 1∧p.2 + 1 < 2 ^ 62:=⟨by omega,by omega⟩
          simp
          omega,fun acc hacc=>inner r hrr (some (.d (.str p.1))) _ rfl acc hacc⟩)
    obtain ⟨a',b',c',d',ih⟩:=stand_loop (x0:=x0) ps (rs.flatMap fun r=>(List.range (p.2 + 1).toNat).map fun (v:Nat)=>r ++ [D.int (v:Int)]) (some (.d (.str p.1))) (some (.d (.int p.2))) c d (fun q hq=>hp q (List.mem_cons_of_mem _ hq)) (fun r hr'=>by
        obtain ⟨r0,h0,h1⟩:=List.mem_flatMap.mp hr'
        obtain ⟨v,_,rfl⟩:=List.mem_map.mp h1
        have:=hr2 r0 h0
        simp; omega) (by omega) (by
        rw [hlen]
        have:=Nat.mul_le_mul_right (4 ^ ps.length) hle
        rw [hpow] at hk
        have e:rs.length * (4 ^ ps.length * 4)=rs.length * 4 * 4 ^ ps.length:=by rw [Nat.mul_comm (4 ^ ps.length) 4,Nat.mul_assoc]
        omega) (fun r hr'=>by
        obtain ⟨r0,h0,h1⟩:=List.mem_flatMap.mp hr'
        obtain ⟨v,_,rfl⟩:=List.mem_map.mp h1
        have:=hr2 r0 h0
        simp; omega)
    refine ⟨a',b',c',d',?_⟩
    rw [rowsOf,← ih,List.map_cons,loop_cons]
    have e2:(rs.flatMap fun r=>(List.range (p.2 + 1).toNat).map fun (v:Nat)=>D.tup (r ++ [D.int (v:Int)]))=(rs.flatMap fun r=>(List.range (p.2 + 1).toNat).map fun (v:Nat)=>r ++ [D.int (v:Int)]).map D.tup:=by
      rw [List.map_flatMap]
      simp [Function.comp_def]
    rw [List.nil_append,e2] at e1
    simp [wipeL,e1]
theorem all_standings_ok (ps:List (Str×Int)) (hp:GoodP ps) (hl:ps.length≤3) (S:Sto):F_all_standings [.d (.tup (ps.map mkS))] S=.ok (.d (.lst ((rowsOf ps [[]]).map D.tup))) S:=by
  refine rt_called (ds:=[.tup (ps.map mkS)]) (S1:=[]) rfl ?_
  show s_all_standings [some (.d (.tup (ps.map mkS))),none,none,none,none,none] []=_
  obtain ⟨a,b,c,d,e⟩:=stand_loop (x0:=some (.d (.tup (ps.map mkS)))) ps [[]] none none none none hp (by simp) hl (by
    have:4 ^ ps.length≤4 ^ 3:=Nat.pow_le_pow_right (by decide) hl
    simp; omega) (by simp; omega)
  simp only [List.map_cons,List.map_nil] at e
  simp [s_all_standings,e,sizeLine_eq]
end K06
namespace K06
open PySem Ev
open L2 (atI ixN)
theorem scan_none:∀ {xs:List D} {seen:List Str} {p:Nat},scan seen p xs=none→∃ ps,xs=ps.map mkS∧GoodP ps
  | [],_,_,_=>⟨[],rfl,fun _ h=>nomatch h⟩
  | x :: xs,seen,p,h=>by
    unfold scan at h
    cases e:setOf x with
    | none=>rw [e] at h; simp at h
    | some q =>
      obtain ⟨z,i⟩:=q
      rw [e] at h
      simp only at h
      split at h
      · cases h
      · obtain ⟨ps,rfl,hp⟩:=scan_none h
        obtain ⟨rfl,hz⟩:=setOf_some e
        refine ⟨(z,i) :: ps,rfl,fun q hq=>?_⟩
        rcases List.mem_cons.mp hq with rfl | hq
        · exact hz
        · exact hp q hq
def wrong:D→Option D
  | .tup xs=>if 1≤xs.length∧xs.length≤3 then (match scan [] 0 xs with
      | some q=>some (.int (q:Int))
      | none=>if mul 1 xs≤12 then none else some (.str "many")) else some .non
  | _=>some .non
def needR (d:D) (S:Sto):R W:=match wrong d with
  | none=>.ok (.d d) S
  | some x=>.exn 0 x S
theorem need_ok {d:D} (h:Sm d) (S:Sto):F_need_settings [.d d] S=needR d S:=by
  have go:∀ r,wrong d=some r→(∃ ρ,s_need_settings [some (.d d),none,none] []=.exn 0 r ρ [])→F_need_settings [.d d] S=needR d S:=by
    intro r hr ⟨ρ,e⟩
    unfold needR
    rw [hr]
    exact ex_called (ds:=[d]) rfl e
  have gn:wrong d=none→s_need_settings [some (.d d),none,none] []=.rt (.d d) []→F_need_settings [.d d] S=needR d S:=by
    intro hr e
    unfold needR
    rw [hr]
    exact rt_called (ds:=[d]) rfl e
  cases d with
  | tup xs =>
    by_cases l1:1≤xs.length
    · by_cases l2:xs.length≤3
      · have i1:(1:Int)≤xs.length:=by omega
        have i2:(xs.length:Int)≤3:=by omega
        obtain ⟨a',b',e1⟩:=need_loop (xs:=xs) xs [] none none rfl (fun _ h=>nomatch h) (fun y hy=>h.of_mem hy) (by simp; omega)
        simp only [List.map_nil,List.length_nil] at e1
        cases hs:scan [] 0 xs with
        | some q =>
          rw [hs] at e1
          refine go (.int (q:Int)) (by simp [wrong,l1,l2,hs]) ⟨[some (.d (.tup xs)),a',b'],?_⟩
          simp [s_need_settings,i1,i2,e1]
        | none =>
          rw [hs] at e1
          obtain ⟨ps,hps,hp⟩:=scan_none hs
          have e2:=all_standings_ok ps hp (by rw [hps] at l2; simpa using l2) []
          have e3:=rows_len ps [[]] 1 hp rfl
          rw [← hps] at e2 e3
          by_cases l3:mul 1 xs≤12
          · refine gn (by simp [wrong,l1,l2,hs,l3]) ?_
            have l3':¬ (12 < ((rowsOf ps [[]]).length:Int)):=by omega
            simp [s_need_settings,i1,i2,e1,e2,l3']
          · refine go (.str "many") (by simp [wrong,l1,l2,hs,l3]) ⟨[some (.d (.tup xs)),a',b'],?_⟩
            have l3':(12 < ((rowsOf ps [[]]).length:Int)):=by omega
            simp [s_need_settings,i1,i2,e1,e2,l3']
      · have i1:(1:Int)≤xs.length:=by omega
        have i2:¬ ((xs.length:Int)≤3):=by omega
        refine go .non (by simp [wrong,l1,l2]) ⟨[some (.d (.tup xs)),none,none],?_⟩
        simp [s_need_settings,i1,i2]
    · have i1:¬ ((1:Int)≤xs.length):=by omega
      refine go .non (by simp [wrong,l1]) ⟨[some (.d (.tup xs)),none,none],?_⟩
      simp [s_need_settings,i1]
  | ins _ _=>exact absurd h.gd (by simp [Gd])
  | scr _=>exact absurd h.gd (by simp [Gd])
  | ftp _=>exact absurd h.gd (by simp [Gd])
  | cls _=>exact absurd h.gd (by simp [Gd])
  | kdc _=>exact absurd h.gd (by simp [Gd])
  | exi _ _ _=>exact absurd h.gd (by simp [Gd])
  | dkf _=>exact absurd h.gd (by simp [Gd])
  | _=>exact go .non rfl (by simp [s_need_settings])
theorem mul_of:∀ {ps:List (Str×Int)} (m:Int),GoodP ps→mul m (ps.map mkS)=mulI m (ps.map (·.2))
  | [],m,_=>rfl
  | p :: ps,m,hp=>by
    have hp1:=hp p List.mem_cons_self
    have e:setOf (mkS p)=some (p.1,p.2):=by simp [setOf,hp1]
    rw [List.map_cons,mul,e,List.map_cons]
    exact mul_of (m * (p.2 + 1)) fun q hq=>hp q (List.mem_cons_of_mem _ hq)
theorem scan_ok:∀ {ps:List (Str×Int)} (seen:List Str) (k:Nat),GoodP ps→(seen ++ ps.map (·.1)).Nodup→scan seen k (ps.map mkS)=none
  | [],_,_,_,_=>rfl
  | p :: ps,seen,k,hp,nd=>by
    have hp1:=hp p List.mem_cons_self
    have e:setOf (mkS p)=some (p.1,p.2):=by simp [setOf,hp1]
    rw [List.map_cons,scan,e]
    rw [List.map_cons] at nd
    have hn:p.1 ∉ seen:=fun h=>(List.nodup_append.mp nd).2.2 p.1 h p.1 List.mem_cons_self rfl
    simp only [hn,if_false]
    exact scan_ok (seen ++ [p.1]) (k + 1) (fun q hq=>hp q (List.mem_cons_of_mem _ hq)) (by rw [List.append_assoc]; exact nd)
theorem okp_wrong {ps:List (Str×Int)} (h:Okp ps):wrong (.tup (ps.map mkS))=none:=by
  have e:=scan_ok (ps:=ps) [] 0 h.good (by simpa using h.nd)
  have e2:=mul_of 1 h.good
  have:=h.few
  have:=h.l1
  have:=h.l3
  simp only [wrong,List.length_map,e]
  rw [if_pos ⟨h.l1,h.l3⟩,e2,if_pos h.few]
theorem mkS_gd {p:Str×Int} (h:isNm p.1=true∧1≤p.2∧p.2≤3):Gd 1 (mkS p)∧szD (mkS p)≤11:=by
  obtain ⟨h1,h2,h3⟩:=h
  obtain ⟨a1,a2⟩:=nm_asc h1
  refine ⟨⟨gd_str.mpr a1,gd_int.mpr (by omega),trivial⟩,?_⟩
  simp only [szD,szDs]
  omega
theorem okp_gd {ps:List (Str×Int)} (h:GoodP ps):Gd 2 (.tup (ps.map mkS))∧szD (.tup (ps.map mkS))≤1 + 11 * ps.length:=by
  refine ⟨gds_iff.mpr fun x hx=>?_,?_⟩
  · obtain ⟨p,hp,rfl⟩:=List.mem_map.mp hx
    exact (mkS_gd (h p hp)).1
  · have:szDs (ps.map mkS)≤11 * ps.length:=by
      induction ps with
      | nil=>simp [szDs]
      | cons p ps ih =>
        have h1:=(mkS_gd (h p List.mem_cons_self)).2
        have h2:=ih fun x hx=>h x (List.mem_cons_of_mem _ hx)
        rw [List.map_cons]
        simp only [szDs,List.length_cons] at h1 h2 ⊢
        omega
    simp only [szD]
    omega
theorem okp_sm {ps:List (Str×Int)} (h:Okp ps):Sm (.tup (ps.map mkS)):=⟨(okp_gd h.good).1.mono (by decide),by have:=(okp_gd h.good).2; have:=h.l3; omega⟩
theorem need_good {ps:List (Str×Int)} (h:Okp ps) (S:Sto):F_need_settings [.d (.tup (ps.map mkS))] S=.ok (.d (.tup (ps.map mkS))) S:=by
  rw [need_ok (okp_sm h)]
  unfold needR
  rw [okp_wrong h]
end K06
namespace K06
open PySem Ev
open L2 (atI ixN Key)
inductive Plc where
  | fin
  | act (w:Str) (t:Nat)
  | ask (z:Str) (ts:List Nat)
abbrev iD (n:Nat):D:=.int (n:Int)
def plD:Plc→D
  | .fin=>.tup [.str "end"]
  | .act w t=>.tup [.str "do",.str w,iD t]
  | .ask z ts=>.tup [.str "ask",.str z,.tup (ts.map iD)]
def GoodPl (ps:List (Str×Int)) (n:Nat):Plc→Prop
  | .fin=>True
  | .act w t=>isNm w=true∧t < n
  | .ask z ts=>∃ m:Int,(z,m)∈ps∧(ts.length:Int)=m + 1∧∀ t∈ts,t < n
def Mode (z:Str):Prop:=z = "live" ∨ z = "met" ∨ z = "begin"
end K06
namespace K06
open PySem Ev
open L2 (atI ixN)
theorem gd_nat {k t:Nat} (h:t≤1000):Gd k (iD t):=gd_int.mpr (by omega)
theorem pl_gd {ps:List (Str×Int)} {n:Nat} {q:Plc} (hp:GoodP ps) (hn:n≤1000) (h:GoodPl ps n q):Gd 2 (plD q)∧szD (plD q)≤20:=by
  cases q with
  | fin=>exact ⟨⟨gd_str.mpr (plS_of (by decide +kernel)),trivial⟩,by decide +kernel⟩
  | act w t =>
    obtain ⟨h1,h2⟩:=h
    obtain ⟨a1,a2⟩:=nm_asc h1
    refine ⟨⟨gd_str.mpr (plS_of (by decide +kernel)),gd_str.mpr a1,gd_nat (by omega),trivial⟩,?_⟩
    have:szD (.str "do")=3:=by decide +kernel
    simp only [plD,szD,szDs] at this ⊢
    omega
  | ask z ts =>
    obtain ⟨m,h1,h2,h3⟩:=h
    have hz:=hp _ h1
    obtain ⟨a1,a2⟩:=nm_asc hz.1
    have hz2:=hz.2
    simp only at a1 a2 hz2
    have l:szDs (ts.map iD)=ts.length:=by
      clear h1 h2 h3
      induction ts with
      | nil=>rfl
      | cons t ts ih=>rw [List.map_cons]; simp only [szDs,szD,List.length_cons] at ih ⊢; omega
    refine ⟨⟨gd_str.mpr (plS_of (by decide +kernel)),gd_str.mpr a1,⟨?_,trivial⟩⟩,?_⟩
    · show Gds 0 (ts.map iD)
      refine gds_iff.mpr fun x hx=>?_
      obtain ⟨t,ht,rfl⟩:=List.mem_map.mp hx
      exact gd_nat (by have:=h3 t ht; omega)
    · have:szD (.str "ask")=4:=by decide +kernel
      simp only [plD,szD,szDs,l] at this ⊢
      omega
theorem pl_sm {ps:List (Str×Int)} {n:Nat} {q:Plc} (hp:GoodP ps) (hn:n≤1000) (h:GoodPl ps n q):Sm (plD q):=⟨(pl_gd hp hn h).1.mono (by decide),by have:=(pl_gd hp hn h).2; omega⟩
theorem kv_ps:∀ ps:List (Str×Int),strKV (ps.map mkS)=some (ps.map fun p=>(p.1,D.int p.2))
  | []=>rfl
  | p :: ps=>by simp [strKV,kv_ps ps]
theorem val_ps:∀ {ps:List (Str×Int)} {z:Str} {m:Int},(ps.map (·.1)).Nodup→(z,m)∈ps→valD (dkv (ps.map fun p=>(p.1,D.int p.2))) z=some (.int m)
  | p :: ps,z,m,nd,h=>by
    rw [List.map_cons,List.nodup_cons] at nd
    simp only [dkv,List.map_cons,valD]
    rcases List.mem_cons.mp h with e | h
    · subst e
      simp
    · have:p.1 ≠ z:=fun e=>nd.1 (by rw [e]; exact List.mem_map.mpr ⟨(z,m),h,rfl⟩)
      rw [if_neg this]
      exact val_ps nd.2 h
theorem notin_strs {z:Str} {zs:List Str} {S:Sto} (hz:plS z) (hs:∀ y∈zs,plS y):opNotIn (.d (.str z)) (.d (.lst (zs.map D.str))) S=.ok (.d (.bl (!decide (z∈zs)))) S:=by
  have h:=in_strs (S:=S) hz hs
  unfold opIn at h
  unfold opNotIn
  simp only [view] at h ⊢
  cases e:inD (.str z) (.lst (zs.map D.str)) with
  | none=>rw [e] at h; cases h
  | some k =>
    rw [e] at h
    simp only at h ⊢
    cases h
    rfl
@[simp] theorem o_eqSs {xs:List D} {zs:List Str} {S:Sto}:opEqS (.d (.tup xs)) (.d (.tup (zs.map D.str))) S=match eqSs xs zs with | some b=>.ok (.d (.bl b)) S | none=>.err:=by
  have e:strsOf (zs.map D.str)=some zs:=by
    induction zs with
    | nil=>rfl
    | cons z zs ih=>simp [strsOf,ih]
  simp only [opEqS,e]
  all_goals (cases eqSs xs zs <;> rfl)
theorem is_place_ok {ps:List (Str×Int)} {n:Nat} {q:Plc} (hp:Okp ps) (hn:n≤1000) (h:GoodPl ps n q) (S:Sto):F_is_place [.d (.ftp (ps.map mkS)),.d (plD q),.d (.int (n:Int))] S=.ok (.d (.bl true)) S:=by
  refine rt_called (ds:=[.ftp (ps.map mkS),plD q,.int (n:Int)]) (S1:=[]) rfl ?_
  show s_is_place [some (.d (.ftp (ps.map mkS))),some (.d (plD q)),some (.d (.int (n:Int))),none,none] []=_
  have sm:=pl_sm hp.good hn h
  have er:=is_row_ok sm 3 []
  have er:F_is_row [.d (plD q),.d (.int 3)] []=.ok (.d (.bl (rowD 3 (plD q)))) []:=er
  cases q with
  | fin=>rfl
  | act w t =>
    obtain ⟨h1,h2⟩:=h
    have s1:Sm (.str w):=sm.of_mem (xs:=[.str "do",.str w,iD t]) (by simp)
    have s2:Sm (iD t):=sm.of_mem (xs:=[.str "do",.str w,iD t]) (by simp)
    have e1:=is_name_ok s1 []
    have e2:=is_among_ok s2 0 ((n:Int) - 1) []
    have a1:nmD (.str w)=true:=h1
    have a2:amD 0 ((n:Int) - 1) (iD t)=true:=decide_eq_true ⟨by omega,by omega⟩
    rw [a1] at e1
    rw [a2] at e2
    have ne:eqSs [.str "do",.str w,iD t] ["end"]=some false:=by simp [eqSs,eqS]
    have i2:atI [D.str "do",.str w,iD t] 2=some (iD t):=atI_in (by decide) rfl
    have er:F_is_row [.d (.tup [.str "do",.str w,iD t]),.d (.int 3)] []=.ok (.d (.bl true)) []:=er
    simp [s_is_place,plD,-List.map_cons,ne,er,i2,e1,e2]
  | ask z ts =>
    obtain ⟨m,h1,h2,h3⟩:=h
    have hz:=hp.good _ h1
    have hz1:isNm z=true:=hz.1
    have hz2:1≤m∧m≤3:=hz.2
    have s2:Sm (.tup (ts.map iD)):=sm.of_mem (xs:=[.str "ask",.str z,.tup (ts.map iD)]) (by simp)
    have ne:eqSs [.str "ask",.str z,.tup (ts.map iD)] ["end"]=some false:=by simp [eqSs,eqS]
    have i2:atI [D.str "ask",.str z,.tup (ts.map iD)] 2=some (.tup (ts.map iD)):=atI_in (by decide) rfl
    have er:F_is_row [.d (.tup [.str "ask",.str z,.tup (ts.map iD)]),.d (.int 3)] []=.ok (.d (.bl true)) []:=er
    have en:=names_of_ok ps (by have:=hp.l3; omega) []
    have ei:=notin_strs (z:=z) (zs:=ps.map (·.1)) (S:=[]) (nm_asc hz1).1 (fun y hy=>by
      obtain ⟨p,hp',rfl⟩:=List.mem_map.mp hy
      exact (nm_asc (hp.good p hp').1).1)
    have hin:z∈ps.map (·.1):=List.mem_map.mpr ⟨(z,m),h1,rfl⟩
    rw [decide_eq_true hin] at ei
    have ed:opDictT [.d (.ftp (ps.map mkS))] []=.ok (.d (.dct (dkv (ps.map fun p=>(p.1,D.int p.2))))) []:=by
      simp only [opDictT,kv_ps]
      rw [if_pos]
      rw [List.map_map]
      exact hp.nd
    have ev:opDGetD (.d (.dct (dkv (ps.map fun p=>(p.1,D.int p.2))))) (.d (.str z)) []=.ok (.d (.int m)) []:=by
      simp only [opDGetD,val_ps hp.nd h1]
    have er2:=is_row_ok s2 ts.length []
    rw [show ((ts.length:Nat):Int)=m + 1 from h2] at er2
    have a2:rowD ts.length (.tup (ts.map iD))=true:=by simp [rowD]
    rw [a2] at er2
    have e1:=compL_map (g:=gN 4) (f:=fApp F_is_among (fCons (fVar 4) (fCons (fC (.int 0)) (fCons (fBin opSub (fVar 2) (fC (.int 1))) fNil)))) (ρ:=[some (.d (.ftp (ps.map mkS))),some (.d (.tup [.str "ask",.str z,.tup (ts.map iD)])),some (.d (.int (n:Int))),some (.d (.int m)),none]) (S:=[]) iD (fun _=>.bl true) ts (by omega) (fun t ht=>⟨_,rfl,by
      have s3:Sm (iD t):=s2.of_mem (List.mem_map.mpr ⟨t,ht,rfl⟩)
      have e2:=is_among_ok s3 0 ((n:Int) - 1) []
      have a2:amD 0 ((n:Int) - 1) (iD t)=true:=decide_eq_true ⟨by omega,by have:=h3 t ht; omega⟩
      rw [a2] at e2
      simp [e2]⟩)
    have e2:op1 allD [.d (.lst (ts.map fun _=>.bl true))] []=.ok (.d (.bl true)) []:=by
      have:bools (ts.map fun _=>D.bl true)=some (ts.map fun _=>true):=bools_map (fun _=>true) ts
      simp only [op1,view,allD,this,Option.map_some]
      have:((ts.map fun _=>true).all id)=true:=by simp
      rw [this]
    have co:fCo (fVar 0) [some (.d (.ftp (ps.map mkS))),some (.d (.tup [.str "ask",.str z,.tup (ts.map iD)])),some (.d (.int (n:Int))),none,none] []=.ok (.d (.tup (ps.map mkS))) []:=rfl
    have n1:¬ (("ask":Str) = "do"):=by decide +kernel
    simp [-List.map_map,-List.map_cons,s_is_place,plD,ne,er,i2,en,ei,ed,ev,er2,wipeL,e1,e2,co,n1]
theorem need_places_ok {ps:List (Str×Int)} {qs:List Plc} (hp:Okp ps) (l1:1≤qs.length) (l2:qs.length≤16) (h:∀ q∈qs,GoodPl ps qs.length q) (S:Sto):F_need_places [.d (.ftp (ps.map mkS)),.d (.tup (qs.map plD))] S=.ok (.d .non) S:=by
  refine called_data (ds:=[.ftp (ps.map mkS),.tup (qs.map plD)]) (S1:=[]) rfl ?_
  unfold bodyF
  show (match s_need_places [some (.d (.ftp (ps.map mkS))),some (.d (.tup (qs.map plD))),none,none] [] with
    | .rt w S1=>R.ok w S1
    | .nx _ S1=>.ok (.d .non) S1
    | .exn c x _ S1=>.exn c x S1
    | _=>.err)=_
  have lp:∀ (rs:List Plc) (k:Nat) (a b:Option W),(∀ q∈rs,GoodPl ps qs.length q)→∃ a' b',loop (turn (gT 2 (gsCons (gN 2) (gsCons (gN 3) gsNil))) (sIf (bNot (toT (fApp F_is_place (fCons (fVar 0) (fCons (fVar 3) (fCons (fCall opLen (fCons (fVar 1) fNil)) fNil)))))) (sRaise 2 (fVar 2)) sNext)) (enumFrom k (rs.map plD)) [some (.d (.ftp (ps.map mkS))),some (.d (.tup (qs.map plD))),a,b] []=.nx [some (.d (.ftp (ps.map mkS))),some (.d (.tup (qs.map plD))),a',b'] []:=by
    intro rs
    induction rs with
    | nil=>exact fun k a b _=>⟨a,b,rfl⟩
    | cons r rs ih =>
      intro k a b hr
      obtain ⟨a',b',e⟩:=ih (k + 1) (some (.d (.int (k:Int)))) (some (.d (plD r))) fun q hq=>hr q (List.mem_cons_of_mem _ hq)
      refine ⟨a',b',?_⟩
      have e1:=is_place_ok hp (by omega) (hr r List.mem_cons_self) []
      rw [List.map_cons,enumFrom,loop_cons,← e]
      simp [e1]
  obtain ⟨a',b',e⟩:=lp qs 0 none none h
  have i1:(1:Int)≤qs.length:=by omega
  have i2:(qs.length:Int)≤16:=by omega
  simp [s_need_places,i1,i2,e]
theorem need_modes_ok {ps:List (Str×Int)} {ws:List Str} (hp:Okp ps) (hl:ws.length=ps.length) (h:∀ w∈ws,Mode w) (S:Sto):F_need_modes [.d (.tup (ps.map mkS)),.d (.tup (ws.map D.str))] S=.ok (.d .non) S:=by
  refine called_data (ds:=[.tup (ps.map mkS),.tup (ws.map D.str)]) (S1:=[]) rfl ?_
  unfold bodyF
  show (match s_need_modes [some (.d (.tup (ps.map mkS))),some (.d (.tup (ws.map D.str))),none,none] [] with
    | .rt w S1=>R.ok w S1
    | .nx _ S1=>.ok (.d .non) S1
    | .exn c x _ S1=>.exn c x S1
    | _=>.err)=_
  have lp:∀ (rs:List Str) (k:Nat) (a b:Option W),(∀ w∈rs,Mode w)→∃ a' b',loop (turn (gT 2 (gsCons (gN 2) (gsCons (gN 3) gsNil))) (sIf (bOr (bNot (toT (fIsi .str (fVar 3)))) (toT (fBin (opInT true) (fVar 3) (fC (.tup ((["live","met","begin"]:List Str).map D.str)))))) (sRaise 3 (fVar 2)) sNext)) (enumFrom k (rs.map D.str)) [some (.d (.tup (ps.map mkS))),some (.d (.tup (ws.map D.str))),a,b] []=.nx [some (.d (.tup (ps.map mkS))),some (.d (.tup (ws.map D.str))),a',b'] []:=by
    intro rs
    induction rs with
    | nil=>exact fun k a b _=>⟨a,b,rfl⟩
    | cons r rs ih =>
      intro k a b hr
      obtain ⟨a',b',e⟩:=ih (k + 1) (some (.d (.int (k:Int)))) (some (.d (.str r))) fun q hq=>hr q (List.mem_cons_of_mem _ hq)
      refine ⟨a',b',?_⟩
      have e1:opInT true (.d (.str r)) (.d (.tup [.str "live",.str "met",.str "begin"])) []=.ok (.d (.bl false)) []:=by
        rcases hr r List.mem_cons_self with rfl | rfl | rfl <;> rfl
      rw [show enumFrom k ((r :: rs).map D.str)=.tup [.int (k:Int),.str r] :: enumFrom (k + 1) (rs.map D.str) from rfl,loop_cons,← e]
      simp [e1]
  obtain ⟨a',b',e⟩:=lp ws 0 none none h
  simp only [List.map_cons,List.map_nil] at e
  have sm:Sm (.tup (ws.map D.str)):=by
    have l3:=hp.l3
    have gs:∀ w∈ws,plS w∧w.length≤5:=fun w hw=>by
      rcases h w hw with rfl | rfl | rfl <;> exact ⟨plS_of (by decide +kernel),by decide +kernel⟩
    refine ⟨gds_iff.mpr fun x hx=>?_,?_⟩
    · obtain ⟨w,hw,rfl⟩:=List.mem_map.mp hx
      exact gd_str.mpr (gs w hw).1
    · have:szDs (ws.map D.str)≤6 * ws.length:=by
        clear e lp hl
        induction ws with
        | nil=>simp [szDs]
        | cons w ws ih =>
          have h1:=(gs w List.mem_cons_self).2
          have h2:=ih (fun x hx=>h x (List.mem_cons_of_mem _ hx)) (fun x hx=>gs x (List.mem_cons_of_mem _ hx))
          rw [List.map_cons]
          simp only [szDs,szD,List.length_cons] at h2 ⊢
          omega
      simp only [szD]
      omega
  have er:=is_row_ok sm ps.length []
  have a2:rowD ps.length (.tup (ws.map D.str))=true:=by simp [rowD,hl]
  rw [a2] at er
  simp [s_need_modes,er,e]
abbrev rqD (ps:List (Str×Int)) (qs:List Plc) (ws:List Str):D:=.ins 4 [("settings",.ftp (ps.map mkS)),("places",.tup (qs.map plD)),("modes",.tup (ws.map D.str))]
theorem request_ok {ps:List (Str×Int)} {qs:List Plc} {ws:List Str} (hp:Okp ps) (l1:1≤qs.length) (l2:qs.length≤16) (hq:∀ q∈qs,GoodPl ps qs.length q) (hl:ws.length=ps.length) (hw:∀ w∈ws,Mode w) (S:Sto) :
    F_Request [.d (.ftp (ps.map mkS)),.d (.tup (qs.map plD)),.d (.tup (ws.map D.str))] S=.ok (.d (rqD ps qs ws)) S:=by
  have e1:=fun S=>need_good hp S
  have e2:=fun S=>need_places_ok hp l1 l2 hq S
  have e3:=fun S=>need_modes_ok hp hl hw S
  have run:s_Request___init__ [some (.ref 0),some (.d (.ftp (ps.map mkS))),some (.d (.tup (qs.map plD))),some (.d (.tup (ws.map D.str))),none] [.ins 4 []]=.nx [some (.ref 0),some (.d (.ftp (ps.map mkS))),some (.d (.tup (qs.map plD))),some (.d (.tup (ws.map D.str))),some (.d (.tup (ws.map D.str)))] [.ins 4 [("settings",.d (.ftp (ps.map mkS))),("places",.d (.tup (qs.map plD))),("modes",.d (.tup (ws.map D.str)))]]:=by
    have n1:¬ (("settings":Str) = "places"):=by decide +kernel
    have n2:¬ (("settings":Str) = "modes"):=by decide +kernel
    have n3:¬ (("places":Str) = "modes"):=by decide +kernel
    simp [s_Request___init__,fCo,e1,e2,e3,opIs,isNon,sFldPut,putFW,n1,n2,n3]
  have mk:makeR 4 F_Request___init__ [] [.d (.ftp (ps.map mkS)),.d (.tup (qs.map plD)),.d (.tup (ws.map D.str))] []=.ok (.ref 0) [.ins 4 [("settings",.d (.ftp (ps.map mkS))),("places",.d (.tup (qs.map plD))),("modes",.d (.tup (ws.map D.str)))]]:=by
    have:F_Request___init__ [.ref 0,.d (.ftp (ps.map mkS)),.d (.tup (qs.map plD)),.d (.tup (ws.map D.str))] [.ins 4 []]=.ok (.d .non) [.ins 4 [("settings",.d (.ftp (ps.map mkS))),("places",.d (.tup (qs.map plD))),("modes",.d (.tup (ws.map D.str)))]]:=by
      unfold F_Request___init__ bodyF
      show (match s_Request___init__ [some (.ref 0),some (.d (.ftp (ps.map mkS))),some (.d (.tup (qs.map plD))),some (.d (.tup (ws.map D.str))),none] [.ins 4 []] with
        | .rt w S1=>R.ok w S1
        | .nx _ S1=>.ok (.d .non) S1
        | .exn c x _ S1=>.exn c x S1
        | _=>.err)=_
      rw [run]
    simp [makeR,this,isNon]
  unfold F_Request called
  simp [mk,seenN,seen,datF]
end K06
namespace K06
open PySem Ev
open L2 (atI ixN Key)
def mostOf (ps:List (Str×Int)) (z:Str):Option Int:=(ps.find? fun p=>decide (p.1=z)).map (·.2)
theorem most_mem:∀ {ps:List (Str×Int)} {z:Str} {m:Int},mostOf ps z=some m→(z,m)∈ps
  | p :: ps,z,m,h=>by
    unfold mostOf at h
    by_cases e:p.1=z
    · rw [List.find?_cons_of_pos (by simpa using e)] at h
      cases h
      rw [← e]
      exact List.mem_cons_self
    · rw [List.find?_cons_of_neg (by simpa using e)] at h
      exact List.mem_cons_of_mem _ (most_mem h)
  | [],z,m,h=>by simp [mostOf] at h
theorem most_none:∀ {ps:List (Str×Int)} {z:Str},mostOf ps z=none→z ∉ ps.map (·.1)
  | [],_,_=>by simp
  | p :: ps,z,h=>by
    unfold mostOf at h
    by_cases e:p.1=z
    · rw [List.find?_cons_of_pos (by simpa using e)] at h
      cases h
    · rw [List.find?_cons_of_neg (by simpa using e)] at h
      have:=most_none h
      simp only [List.map_cons,List.mem_cons,not_or]
      exact ⟨fun q=>e q.symm,this⟩
def askB (ps:List (Str×Int)) (n:Int):D→D→Bool
  | .str z,.tup ts=>match mostOf ps z with
    | some m=>decide ((ts.length:Int)=m + 1) && ts.all (amD 0 (n - 1))
    | none=>false
  | _,_=>false
def plB (ps:List (Str×Int)) (n:Int):D→Bool
  | .tup [.str z]=>decide (z = "end")
  | .tup [.str k,x,y]=>if k = "do" then nmD x && amD 0 (n - 1) y else if k = "ask" then askB ps n x y else false
  | _=>false
theorem gd_tup {k:Nat} {xs:List D} (h:Gd k (.tup xs)):∀ x∈xs,∃ j,Gd j x:=by
  cases k with
  | zero=>simp [Gd] at h
  | succ k=>exact fun x hx=>⟨k,gds_iff.mp (by simpa only [Gd] using h) x hx⟩
def strIs (z:Str):D→Bool
  | .str y=>decide (y=z)
  | _=>false
theorem eqS_some {k:Nat} {d:D} (h:Gd k d) (z:Str):eqS d z=some (strIs z d):=by
  cases d with
  | ins _ _=>cases k <;> simp [Gd] at h
  | scr _=>cases k <;> simp [Gd] at h
  | ftp _=>cases k <;> simp [Gd] at h
  | cls _=>cases k <;> simp [Gd] at h
  | kdc _=>cases k <;> simp [Gd] at h
  | exi _ _ _=>cases k <;> simp [Gd] at h
  | dkf _=>cases k <;> simp [Gd] at h
  | _=>rfl
theorem eq_end1 {d:D} {k:Nat} (h:Gd k d):eqSs [d] ["end"]=some (strIs "end" d):=by
  simp only [eqSs,eqS_some h,Option.bind_some,Option.map_some,Bool.and_true]
theorem eq_endN {x y:D} {xs:List D} {k:Nat} (h:Gd k x):eqSs (x :: y :: xs) ["end"]=some false:=by
  simp only [eqSs,eqS_some h,Option.bind_some,Option.map_some,Bool.and_false]
theorem is_place_any {ps:List (Str×Int)} (hp:Okp ps) {d:D} (h:Sm d) (n:Int) (S:Sto):F_is_place [.d (.ftp (ps.map mkS)),.d d,.d (.int n)] S=.ok (.d (.bl (plB ps n d))) S:=by
  refine rt_called (ds:=[.ftp (ps.map mkS),d,.int n]) (S1:=[]) rfl ?_
  show s_is_place [some (.d (.ftp (ps.map mkS))),some (.d d),some (.d (.int n)),none,none] []=_
  have er:=is_row_ok h 3 []
  have er:F_is_row [.d d,.d (.int 3)] []=.ok (.d (.bl (rowD 3 d))) []:=er
  cases d with
  | tup xs =>
    match xs,h,er with
    | [],h,er =>
      have er:F_is_row [.d (.tup []),.d (.int 3)] []=.ok (.d (.bl false)) []:=er
      simp [s_is_place,eqSs,er,plB,-List.map_cons]
    | [x],h,er =>
      obtain ⟨j,gx⟩:=gd_tup h.gd x (by simp)
      have er:F_is_row [.d (.tup [x]),.d (.int 3)] []=.ok (.d (.bl false)) []:=er
      have ee:=eq_end1 gx
      cases x with
      | str z =>
        by_cases hz:z = "end"
        · subst hz
          simp [s_is_place,ee,er,plB,strIs,-List.map_cons]
        · simp [s_is_place,ee,er,plB,strIs,hz,-List.map_cons]
      | _=>simp [s_is_place,ee,er,plB,strIs,-List.map_cons]
    | [x,y],h,er =>
      obtain ⟨j,gx⟩:=gd_tup h.gd x (by simp)
      have er:F_is_row [.d (.tup [x,y]),.d (.int 3)] []=.ok (.d (.bl false)) []:=er
      have ee:=eq_endN (y:=y) (xs:=[]) gx
      simp [s_is_place,ee,er,plB,-List.map_cons]
    | x :: y :: z :: w :: xs,h,er =>
      obtain ⟨j,gx⟩:=gd_tup h.gd x (by simp)
      have er:F_is_row [.d (.tup (x :: y :: z :: w :: xs)),.d (.int 3)] []=.ok (.d (.bl false)) []:=by
        rw [er]; simp [rowD]
      have ee:=eq_endN (y:=y) (xs:=z :: w :: xs) gx
      simp [s_is_place,ee,er,plB,-List.map_cons]
    | [x,y,z],h,er =>
      obtain ⟨j,gx⟩:=gd_tup h.gd x (by simp)
      have er:F_is_row [.d (.tup [x,y,z]),.d (.int 3)] []=.ok (.d (.bl true)) []:=er
      have ee:=eq_endN (y:=y) (xs:=[z]) gx
      have sx:Sm x:=h.of_mem (by simp)
      have sy:Sm y:=h.of_mem (by simp)
      have sz:Sm z:=h.of_mem (by simp)
      have i2:atI [x,y,z] 2=some z:=atI_in (by decide) rfl
      have l3:=hp.l3
      cases x with
      | str k =>
        cases y with
        | str nm =>
          by_cases h1:k = "do"
          · subst h1
            have e1:=is_name_ok sy []
            have e2:=is_among_ok sz 0 (n - 1) []
            cases hn:nmD (.str nm) <;> rw [hn] at e1 <;> simp [s_is_place,ee,er,i2,e1,e2,plB,hn,-List.map_cons]
          · by_cases h2:k = "ask"
            · subst h2
              have en:=names_of_ok ps (by omega) []
              have ei:=notin_strs (z:=nm) (zs:=ps.map (·.1)) (S:=[]) sy.str.2 (fun y hy=>by
                obtain ⟨p,hp',rfl⟩:=List.mem_map.mp hy
                exact (nm_asc (hp.good p hp').1).1)
              have co:fCo (fVar 0) [some (.d (.ftp (ps.map mkS))),some (.d (.tup [.str "ask",.str nm,z])),some (.d (.int n)),none,none] []=.ok (.d (.tup (ps.map mkS))) []:=rfl
              cases hm:mostOf ps nm with
              | none =>
                rw [decide_eq_false (most_none hm)] at ei
                have ea:askB ps n (.str nm) z=false:=by cases z <;> simp [askB,hm]
                simp [-List.map_map,-List.map_cons,s_is_place,ee,er,i2,h1,co,en,ei,plB,ea]
              | some m =>
                have hmem:=most_mem hm
                rw [decide_eq_true (List.mem_map.mpr ⟨(nm,m),hmem,rfl⟩)] at ei
                have hmg:=(hp.good _ hmem).2
                simp only at hmg
                have ed:opDictT [.d (.ftp (ps.map mkS))] []=.ok (.d (.dct (dkv (ps.map fun p=>(p.1,D.int p.2))))) []:=by
                  simp only [opDictT,kv_ps]
                  rw [if_pos]
                  rw [List.map_map]
                  exact hp.nd
                have ev:opDGetD (.d (.dct (dkv (ps.map fun p=>(p.1,D.int p.2))))) (.d (.str nm)) []=.ok (.d (.int m)) []:=by
                  simp only [opDGetD,val_ps hp.nd hmem]
                have er2:=is_row_ok sz (m + 1).toNat []
                rw [show (((m + 1).toNat:Nat):Int)=m + 1 by omega] at er2
                cases z with
                | tup ts =>
                  by_cases hl:(ts.length:Int)=m + 1
                  · have a2:rowD (m + 1).toNat (.tup ts)=true:=by simp only [rowD]; exact decide_eq_true (by omega)
                    rw [a2] at er2
                    have e1:=compL_map (g:=gN 4) (f:=fApp F_is_among (fCons (fVar 4) (fCons (fC (.int 0)) (fCons (fBin opSub (fVar 2) (fC (.int 1))) fNil)))) (ρ:=[some (.d (.ftp (ps.map mkS))),some (.d (.tup [.str "ask",.str nm,.tup ts])),some (.d (.int n)),some (.d (.int m)),none]) (S:=[]) id (fun t=>.bl (amD 0 (n - 1) t)) ts (by omega) (fun t ht=>⟨_,rfl,by simp [is_among_ok (sz.of_mem ht)]⟩)
                    rw [List.map_id] at e1
                    have e2:op1 allD [.d (.lst (ts.map fun t=>.bl (amD 0 (n - 1) t)))] []=.ok (.d (.bl (ts.all (amD 0 (n - 1))))) []:=by
                      have:bools (ts.map fun t=>D.bl (amD 0 (n - 1) t))=some (ts.map fun t=>amD 0 (n - 1) t):=bools_map (fun t=>amD 0 (n - 1) t) ts
                      simp only [op1,view,allD,this,Option.map_some,List.all_map]
                      rfl
                    have ea:askB ps n (.str nm) (.tup ts)=ts.all (amD 0 (n - 1)):=by simp [askB,hm,hl]
                    simp [-List.map_map,-List.map_cons,s_is_place,ee,er,i2,h1,co,en,ei,ed,ev,er2,wipeL,e1,e2,plB,ea]
                  · have a2:rowD (m + 1).toNat (.tup ts)=false:=by simp only [rowD]; exact decide_eq_false (by omega)
                    rw [a2] at er2
                    have ea:askB ps n (.str nm) (.tup ts)=false:=by simp [askB,hm,hl]
                    simp [-List.map_map,-List.map_cons,s_is_place,ee,er,i2,h1,co,en,ei,ed,ev,er2,plB,ea]
                | _ =>
                  simp only [rowD] at er2
                  simp [-List.map_map,-List.map_cons,s_is_place,ee,er,i2,h1,co,en,ei,ed,ev,er2,plB,askB]
            · simp [s_is_place,ee,er,i2,h1,h2,plB,-List.map_cons]
        | ins _ _=>exact absurd sy.gd (by simp [Gd])
        | scr _=>exact absurd sy.gd (by simp [Gd])
        | ftp _=>exact absurd sy.gd (by simp [Gd])
        | cls _=>exact absurd sy.gd (by simp [Gd])
        | kdc _=>exact absurd sy.gd (by simp [Gd])
        | exi _ _ _=>exact absurd sy.gd (by simp [Gd])
        | dkf _=>exact absurd sy.gd (by simp [Gd])
        | _=>simp [s_is_place,ee,er,i2,plB,nmD,askB,-List.map_cons]
      | ins _ _=>exact absurd sx.gd (by simp [Gd])
      | scr _=>exact absurd sx.gd (by simp [Gd])
      | ftp _=>exact absurd sx.gd (by simp [Gd])
      | cls _=>exact absurd sx.gd (by simp [Gd])
      | kdc _=>exact absurd sx.gd (by simp [Gd])
      | exi _ _ _=>exact absurd sx.gd (by simp [Gd])
      | dkf _=>exact absurd sx.gd (by simp [Gd])
      | _=>simp [s_is_place,ee,er,plB,-List.map_cons]
  | ins _ _=>exact absurd h.gd (by simp [Gd])
  | scr _=>exact absurd h.gd (by simp [Gd])
  | ftp _=>exact absurd h.gd (by simp [Gd])
  | cls _=>exact absurd h.gd (by simp [Gd])
  | kdc _=>exact absurd h.gd (by simp [Gd])
  | exi _ _ _=>exact absurd h.gd (by simp [Gd])
  | dkf _=>exact absurd h.gd (by simp [Gd])
  | _=>simp [rowD] at er; simp [s_is_place,er,plB]
end K06
namespace K06
open PySem Ev
open L2 (atI ixN Key)
def firstBad (p:D→Bool):Nat→List D→Option Nat
  | _,[]=>none
  | k,x :: xs=>if p x then firstBad p (k + 1) xs else some k
def plcsW (ps:List (Str×Int)):D→Option D
  | .tup xs=>if 1≤xs.length∧xs.length≤16 then (firstBad (plB ps xs.length) 0 xs).map (fun k=>D.int (k:Int)) else some .non
  | _=>some .non
def modB:D→Bool
  | .str z=>decide (z = "live" ∨ z = "met" ∨ z = "begin")
  | _=>false
def modW (n:Nat):D→Option D
  | .tup xs=>if xs.length=n then (firstBad modB 0 xs).map (fun k=>D.int (k:Int)) else some .non
  | _=>some .non
abbrev npBody:FS:=(sIf (bNot (toT (fApp F_is_place (fCons (fVar 0) (fCons (fVar 3) (fCons (fCall opLen (fCons (fVar 1) fNil)) fNil)))))) (sRaise 2 (fVar 2)) sNext)
theorem np_loop {ps:List (Str×Int)} (hp:Okp ps) {ys:List D}:∀ (xs:List D) (k:Nat) (a b:Option W),(∀ x∈xs,Sm x) →
    ∃ ρ,loop (turn (gT 2 (gsCons (gN 2) (gsCons (gN 3) gsNil))) npBody) (enumFrom k xs) [some (.d (.ftp (ps.map mkS))),some (.d (.tup ys)),a,b] []=(match firstBad (plB ps ys.length) k xs with | none=>.nx ρ [] | some j=>.exn 2 (.int j) ρ [])
  | [],k,a,b,_=>⟨_,rfl⟩
  | x :: xs,k,a,b,h=>by
    have e1:=is_place_any hp (h x List.mem_cons_self) (ys.length:Int) []
    rw [enumFrom,loop_cons]
    by_cases hb:plB ps ys.length x=true
    · obtain ⟨ρ,e⟩:=np_loop hp (ys:=ys) xs (k + 1) (some (.d (.int (k:Int)))) (some (.d x)) fun z hz=>h z (List.mem_cons_of_mem _ hz)
      refine ⟨ρ,?_⟩
      rw [hb] at e1
      simp only [firstBad,hb,if_true]
      rw [← e]
      simp [e1]
    · rw [Bool.not_eq_true] at hb
      rw [hb] at e1
      exact ⟨[some (.d (.ftp (ps.map mkS))),some (.d (.tup ys)),some (.d (.int (k:Int))),some (.d x)],by simp [e1,firstBad,hb]⟩
theorem need_places_any {ps:List (Str×Int)} (hp:Okp ps) {d:D} (h:Sm d) (S:Sto):F_need_places [.d (.ftp (ps.map mkS)),.d d] S=(match plcsW ps d with | none=>.ok (.d .non) S | some x=>.exn 2 x S):=by
  cases d with
  | tup xs =>
    by_cases hl:1≤xs.length∧xs.length≤16
    · obtain ⟨ρ,e⟩:=np_loop hp (ys:=xs) xs 0 none none fun x hx=>h.of_mem hx
      have i1:(1:Int)≤xs.length:=by omega
      have i2:(xs.length:Int)≤16:=by omega
      cases hb:firstBad (plB ps xs.length) 0 xs with
      | none =>
        rw [hb] at e
        have:plcsW ps (.tup xs)=none:=by simp [plcsW,hl,hb]
        rw [this]
        refine called_data (ds:=[.ftp (ps.map mkS),.tup xs]) (S1:=[]) rfl (body_nx (ρ:=ρ) ?_)
        show s_need_places [some (.d (.ftp (ps.map mkS))),some (.d (.tup xs)),none,none] []=_
        simp [s_need_places,i1,i2,e]
      | some j =>
        rw [hb] at e
        have:plcsW ps (.tup xs)=some (.int (j:Int)):=by simp [plcsW,hl,hb]
        rw [this]
        refine called_exn (ds:=[.ftp (ps.map mkS),.tup xs]) (S1:=[]) rfl (body_ex (ρ:=ρ) ?_)
        show s_need_places [some (.d (.ftp (ps.map mkS))),some (.d (.tup xs)),none,none] []=_
        simp [s_need_places,i1,i2,e]
    · have:plcsW ps (.tup xs)=some .non:=by simp only [plcsW,hl,if_false]
      rw [this]
      refine called_exn (ds:=[.ftp (ps.map mkS),.tup xs]) (S1:=[]) rfl (body_ex (ρ:=[some (.d (.ftp (ps.map mkS))),some (.d (.tup xs)),none,none]) ?_)
      show s_need_places [some (.d (.ftp (ps.map mkS))),some (.d (.tup xs)),none,none] []=_
      by_cases i1:(1:Int)≤xs.length
      · have i2:¬ (xs.length:Int)≤16:=by omega
        simp [s_need_places,i1,i2]
      · simp [s_need_places,i1]
  | ins _ _=>exact absurd h.gd (by simp [Gd])
  | scr _=>exact absurd h.gd (by simp [Gd])
  | ftp _=>exact absurd h.gd (by simp [Gd])
  | cls _=>exact absurd h.gd (by simp [Gd])
  | kdc _=>exact absurd h.gd (by simp [Gd])
  | exi _ _ _=>exact absurd h.gd (by simp [Gd])
  | dkf _=>exact absurd h.gd (by simp [Gd])
  | non=>exact called_exn (ds:=[.ftp (ps.map mkS),.non]) (S1:=[]) rfl (body_ex (ρ:=[some (.d (.ftp (ps.map mkS))),some (.d .non),none,none]) (by show s_need_places [some (.d (.ftp (ps.map mkS))),some (.d .non),none,none] []=_; simp [s_need_places]))
  | bl b=>exact called_exn (ds:=[.ftp (ps.map mkS),.bl b]) (S1:=[]) rfl (body_ex (ρ:=[some (.d (.ftp (ps.map mkS))),some (.d (.bl b)),none,none]) (by show s_need_places [some (.d (.ftp (ps.map mkS))),some (.d (.bl b)),none,none] []=_; simp [s_need_places]))
  | int b=>exact called_exn (ds:=[.ftp (ps.map mkS),.int b]) (S1:=[]) rfl (body_ex (ρ:=[some (.d (.ftp (ps.map mkS))),some (.d (.int b)),none,none]) (by show s_need_places [some (.d (.ftp (ps.map mkS))),some (.d (.int b)),none,none] []=_; simp [s_need_places]))
  | str b=>exact called_exn (ds:=[.ftp (ps.map mkS),.str b]) (S1:=[]) rfl (body_ex (ρ:=[some (.d (.ftp (ps.map mkS))),some (.d (.str b)),none,none]) (by show s_need_places [some (.d (.ftp (ps.map mkS))),some (.d (.str b)),none,none] []=_; simp [s_need_places]))
  | lst b=>exact called_exn (ds:=[.ftp (ps.map mkS),.lst b]) (S1:=[]) rfl (body_ex (ρ:=[some (.d (.ftp (ps.map mkS))),some (.d (.lst b)),none,none]) (by show s_need_places [some (.d (.ftp (ps.map mkS))),some (.d (.lst b)),none,none] []=_; simp [s_need_places]))
  | dct b=>exact called_exn (ds:=[.ftp (ps.map mkS),.dct b]) (S1:=[]) rfl (body_ex (ρ:=[some (.d (.ftp (ps.map mkS))),some (.d (.dct b)),none,none]) (by show s_need_places [some (.d (.ftp (ps.map mkS))),some (.d (.dct b)),none,none] []=_; simp [s_need_places]))
abbrev nmBody:FS:=(sIf (bOr (bNot (toT (fIsi .str (fVar 3)))) (toT (fBin (opInT true) (fVar 3) (fC (.tup ((["live","met","begin"]:List Str).map D.str)))))) (sRaise 3 (fVar 2)) sNext)
theorem notin_mode (z:Str):opInT true (.d (.str z)) (.d (.tup [.str "live",.str "met",.str "begin"])) []=.ok (.d (.bl (!modB (.str z)))) []:=by
  have:strsOf [.str "live",.str "met",.str "begin"]=some (["live","met","begin"]:List Str):=rfl
  simp only [opInT,this,if_true,modB,List.mem_cons,List.not_mem_nil,or_false]
theorem nm_loop {q ys:D}:∀ (xs:List D) (k:Nat) (a b:Option W),(∀ x∈xs,Sm x) →
    ∃ ρ,loop (turn (gT 2 (gsCons (gN 2) (gsCons (gN 3) gsNil))) nmBody) (enumFrom k xs) [some (.d q),some (.d ys),a,b] []=(match firstBad modB k xs with | none=>.nx ρ [] | some j=>.exn 3 (.int j) ρ [])
  | [],k,a,b,_=>⟨_,rfl⟩
  | x :: xs,k,a,b,h=>by
    rw [enumFrom,loop_cons]
    have hx:=h x List.mem_cons_self
    by_cases hb:modB x=true
    · obtain ⟨ρ,e⟩:=nm_loop (q:=q) (ys:=ys) xs (k + 1) (some (.d (.int (k:Int)))) (some (.d x)) fun z hz=>h z (List.mem_cons_of_mem _ hz)
      refine ⟨ρ,?_⟩
      simp only [firstBad,hb,if_true]
      rw [← e]
      cases x with
      | str z =>
        have e1:=notin_mode z
        rw [hb] at e1
        simp [e1]
      | _=>cases hb
    · rw [Bool.not_eq_true] at hb
      refine ⟨[some (.d q),some (.d ys),some (.d (.int (k:Int))),some (.d x)],?_⟩
      cases x with
      | str z =>
        have e1:=notin_mode z
        rw [hb] at e1
        simp [e1,firstBad,hb]
      | ins _ _=>exact absurd hx.gd (by simp [Gd])
      | scr _=>exact absurd hx.gd (by simp [Gd])
      | ftp _=>exact absurd hx.gd (by simp [Gd])
      | cls _=>exact absurd hx.gd (by simp [Gd])
      | kdc _=>exact absurd hx.gd (by simp [Gd])
      | exi _ _ _=>exact absurd hx.gd (by simp [Gd])
      | dkf _=>exact absurd hx.gd (by simp [Gd])
      | _=>simp [firstBad,hb]
theorem need_modes_any {q:List D} {d:D} (h:Sm d) (S:Sto):F_need_modes [.d (.tup q),.d d] S=(match modW q.length d with | none=>.ok (.d .non) S | some x=>.exn 3 x S):=by
  have er:=is_row_ok h q.length []
  by_cases hr:rowD q.length d=true
  · rw [hr] at er
    cases d with
    | tup xs =>
      have hl:xs.length=q.length:=by simpa [rowD] using hr
      obtain ⟨ρ,e⟩:=nm_loop (q:=.tup q) (ys:=.tup xs) xs 0 none none fun x hx=>h.of_mem hx
      unfold nmBody at e
      simp only [List.map_cons,List.map_nil] at e
      cases hb:firstBad modB 0 xs with
      | none =>
        rw [hb] at e
        have:modW q.length (.tup xs)=none:=by simp [modW,hl,hb]
        rw [this]
        refine called_data (ds:=[.tup q,.tup xs]) (S1:=[]) rfl (body_nx (ρ:=ρ) ?_)
        show s_need_modes [some (.d (.tup q)),some (.d (.tup xs)),none,none] []=_
        simp [s_need_modes,er,e]
      | some j =>
        rw [hb] at e
        have:modW q.length (.tup xs)=some (.int (j:Int)):=by simp [modW,hl,hb]
        rw [this]
        refine called_exn (ds:=[.tup q,.tup xs]) (S1:=[]) rfl (body_ex (ρ:=ρ) ?_)
        show s_need_modes [some (.d (.tup q)),some (.d (.tup xs)),none,none] []=_
        simp [s_need_modes,er,e]
    | _=>simp [rowD] at hr
  · rw [Bool.not_eq_true] at hr
    rw [hr] at er
    have:modW q.length d=some .non:=by
      cases d with
      | tup xs =>
        have hl:¬ xs.length=q.length:=by simpa [rowD] using hr
        simp [modW,hl]
      | _=>rfl
    rw [this]
    refine called_exn (ds:=[.tup q,d]) (S1:=[]) rfl (body_ex (ρ:=[some (.d (.tup q)),some (.d d),none,none]) ?_)
    show s_need_modes [some (.d (.tup q)),some (.d d),none,none] []=_
    simp [s_need_modes,er]
def wordsD (n:Nat):D→D
  | .non=>.tup (List.replicate n (.str "live"))
  | d=>d
theorem words_sm {n:Nat} {d:D} (hn:n≤3) (h:Sm d):Sm (wordsD n d):=by
  cases d with
  | non =>
    have hg:Gd 0 (.str "live"):=gd_str.mpr (plS_of (by decide +kernel))
    refine ⟨?_,?_⟩
    · show Gds _ _
      exact gds_iff.mpr fun x hx=>by rw [(List.mem_replicate.mp hx).2]; exact hg.mono (by decide)
    · obtain rfl | rfl | rfl | rfl:n=0∨n=1∨n=2∨n=3:=by omega
      all_goals decide +kernel
  | _=>exact h
theorem live_mul {n:Nat} (h1:1≤n) (h3:n≤3) (S:Sto):opMul (.d (.tup [.str "live"])) (.d (.int (n:Int))) S=.ok (.d (.tup (List.replicate n (.str "live")))) S:=by
  obtain rfl | rfl | rfl:n=1∨n=2∨n=3:=by omega
  all_goals rfl
abbrev rqA (ps:List (Str×Int)) (a b:D):D:=.ins 4 [("settings",.ftp (ps.map mkS)),("places",a),("modes",b)]
def rqR (ps:List (Str×Int)) (a b:D) (S:Sto):R W:=match plcsW ps a with
  | some x=>.exn 2 x S
  | none=>match modW ps.length (wordsD ps.length b) with
    | some x=>.exn 3 x S
    | none=>.ok (.d (rqA ps a (wordsD ps.length b))) S
theorem words_run {n:Nat} {b:D} (h1:1≤n) (h3:n≤3) {q:List D} (hq:q.length=n) {ρ:List (Option W)} {S:Sto} {v0 v1 v2 v4:Option W} (hρ:ρ=[v0,v1,v2,some (.d b),v4]) {f:FE} (hf:f ρ S=.ok (.d (.tup q)) S) :
    eIf (toT (fBin opIs (fVar 3) (fC .non))) (fBin opMul (fTup (fCons (fC (.str "live")) fNil)) (fCall opLen (fCons f fNil))) (fVar 3) ρ S=.ok (.d (wordsD n b)) S:=by
  subst hρ hq
  have em:=live_mul h1 h3 S
  cases b with
  | non=>simp [opIs,isNon,hf,em,wordsD,sizeLine_eq,-List.map_cons]
  | _=>simp [opIs,isNon,wordsD]
theorem request_any {ps:List (Str×Int)} (hp:Okp ps) {a b:D} (ha:Sm a) (hb:Sm b) (S:Sto) :
    F_Request [.d (.ftp (ps.map mkS)),.d a,.d b] S=rqR ps a b S:=by
  have e1:=fun S=>need_good hp S
  have e2:=fun S=>need_places_any hp ha S
  have hw:=words_sm hp.l3 hb
  have e3:=fun S=>need_modes_any (q:=ps.map mkS) hw S
  have l1:1≤ps.length:=hp.l1
  have l3:=hp.l3
  have co:fCo (fVar 1) [some (.ref 0),some (.d (.ftp (ps.map mkS))),some (.d a),some (.d b),none] [.ins 4 []]=.ok (.d (.tup (ps.map mkS))) [.ins 4 []]:=rfl
  have ew:=words_run (n:=ps.length) (b:=b) l1 l3 (q:=ps.map mkS) (by simp) (S:=[.ins 4 []]) (v0:=some (.ref 0)) (v1:=some (.d (.ftp (ps.map mkS)))) (v2:=some (.d a)) (v4:=none) rfl (f:=fCo (fVar 1)) co
  simp only [List.length_map] at e3
  have n1:¬ (("settings":Str) = "places"):=by decide +kernel
  have n2:¬ (("settings":Str) = "modes"):=by decide +kernel
  have n3:¬ (("places":Str) = "modes"):=by decide +kernel
  have mk:makeR 4 F_Request___init__ [] [.d (.ftp (ps.map mkS)),.d a,.d b] []=(match plcsW ps a with
    | some x=>.exn 2 x [.ins 4 []]
    | none=>match modW ps.length (wordsD ps.length b) with
      | some x=>.exn 3 x [.ins 4 []]
      | none=>.ok (.ref 0) [.ins 4 [("settings",.d (.ftp (ps.map mkS))),("places",.d a),("modes",.d (wordsD ps.length b))]]):=by
    have run:F_Request___init__ [.ref 0,.d (.ftp (ps.map mkS)),.d a,.d b] [.ins 4 []]=(match plcsW ps a with
      | some x=>.exn 2 x [.ins 4 []]
      | none=>match modW ps.length (wordsD ps.length b) with
        | some x=>.exn 3 x [.ins 4 []]
        | none=>.ok (.d .non) [.ins 4 [("settings",.d (.ftp (ps.map mkS))),("places",.d a),("modes",.d (wordsD ps.length b))]]):=by
      unfold F_Request___init__ bodyF
      show (match s_Request___init__ [some (.ref 0),some (.d (.ftp (ps.map mkS))),some (.d a),some (.d b),none] [.ins 4 []] with
        | .rt w S1=>R.ok w S1
        | .nx _ S1=>.ok (.d .non) S1
        | .exn c x _ S1=>.exn c x S1
        | _=>.err)=_
      have co4:∀ w,fCo (fVar 1) [some (.ref 0),some (.d (.ftp (ps.map mkS))),some (.d a),some (.d b),w] [.ins 4 []]=.ok (.d (.tup (ps.map mkS))) [.ins 4 []]:=fun _=>rfl
      unfold s_Request___init__
      rw [e_seq,show sExpr (fApp F_need_settings (fCons (fCo (fVar 1)) fNil)) [some (.ref 0),some (.d (.ftp (ps.map mkS))),some (.d a),some (.d b),none] [.ins 4 []]=.nx [some (.ref 0),some (.d (.ftp (ps.map mkS))),some (.d a),some (.d b),none] [.ins 4 []] by simp [co4,e1,-List.map_cons],go_nx]
      cases h1:plcsW ps a with
      | some x =>
        have:=e2 [.ins 4 []]
        rw [h1] at this
        simp [this]
      | none =>
        have z2:=e2 [.ins 4 []]
        rw [h1] at z2
        rw [e_seq,show sExpr (fApp F_need_places (fCons (fVar 1) (fCons (fVar 2) fNil))) [some (.ref 0),some (.d (.ftp (ps.map mkS))),some (.d a),some (.d b),none] [.ins 4 []]=.nx [some (.ref 0),some (.d (.ftp (ps.map mkS))),some (.d a),some (.d b),none] [.ins 4 []] by simp [z2],go_nx]
        rw [e_seq,e_set,ew,st_ok,go_nx,show [some (.ref 0),some (.d (.ftp (ps.map mkS))),some (.d a),some (.d b),none].set 4 (some (W.d (wordsD ps.length b)))=[some (.ref 0),some (.d (.ftp (ps.map mkS))),some (.d a),some (.d b),some (W.d (wordsD ps.length b))] from rfl]
        cases h2:modW ps.length (wordsD ps.length b) with
        | some x =>
          have z3:=e3 [.ins 4 []]
          rw [h2] at z3
          simp [co4,z3]
        | none =>
          have z3:=e3 [.ins 4 []]
          rw [h2] at z3
          simp [co4,z3,sFldPut,putFW,n1,n2,n3]
    have run':F_Request___init__ (.ref ([]:Sto).length :: ([.d (.ftp (ps.map mkS)),.d a,.d b] ++ ([]:List D).map W.d)) ([] ++ [.ins 4 []])=_:=run
    unfold makeR
    rw [run']
    cases plcsW ps a with
    | some x=>rfl
    | none =>
      cases modW ps.length (wordsD ps.length b) with
      | some x=>rfl
      | none=>rfl
  unfold F_Request called rqR
  rw [show dats [.d (.ftp (ps.map mkS)),.d a,.d b]=some [.ftp (ps.map mkS),a,b] from rfl]
  simp only [mk]
  cases plcsW ps a with
  | some x=>rfl
  | none =>
    cases modW ps.length (wordsD ps.length b) with
    | some x=>rfl
    | none=>rfl
end K06
namespace K06
open PySem Ev
open L2 (atI ixN Key)
section
variable {S:Sto}
theorem request_d1 (ws:List W) (h2:ws.length=2):F_Request_d1 ws S=F_Request (ws ++ [.d .non]) S:=by
  match ws,h2 with
  | [x,y],_ =>
    unfold F_Request_d1 F_Request called
    have:dats ([x,y] ++ [W.d .non])=(dats [x,y]).map (· ++ [.non]):=by
      cases x <;> cases y <;> rfl
    rw [this]
    cases dats [x,y] with
    | some ds=>rfl
    | none=>rfl
end
theorem bad_none {p:D→Bool}:∀ {xs:List D} {k:Nat},(∀ x∈xs,p x=true)→firstBad p k xs=none
  | [],_,_=>rfl
  | x :: xs,k,h=>by
    unfold firstBad
    rw [if_pos (h x List.mem_cons_self)]
    exact bad_none fun y hy=>h y (List.mem_cons_of_mem _ hy)
theorem plB_good {ps:List (Str×Int)} {n:Nat} {q:Plc} (hp:Okp ps) (hn:n≤1000) (h:GoodPl ps n q):plB ps n (plD q)=true:=by
  have e1:=is_place_ok hp hn h []
  rw [is_place_any hp (pl_sm hp.good hn h) (n:Int) []] at e1
  simpa using e1
theorem plcs_good {ps:List (Str×Int)} {qs:List Plc} (hp:Okp ps) (l1:1≤qs.length) (l2:qs.length≤16) (hq:∀ q∈qs,GoodPl ps qs.length q):plcsW ps (.tup (qs.map plD))=none:=by
  have hl:1≤(qs.map plD).length∧(qs.map plD).length≤16:=by rw [List.length_map]; exact ⟨l1,l2⟩
  simp only [plcsW]
  rw [if_pos hl,bad_none]
  · rfl
  · intro x hx
    obtain ⟨q,hq',rfl⟩:=List.mem_map.mp hx
    rw [List.length_map]
    exact plB_good hp (by omega) (hq q hq')
theorem places_sm {ps:List (Str×Int)} {qs:List Plc} (hp:Okp ps) (hq:∀ q∈qs,GoodPl ps qs.length q) (hN:qs.length≤16):Gd 3 (.tup (qs.map plD))∧szD (.tup (qs.map plD))≤321:=by
  refine ⟨?_,?_⟩
  · show Gds 2 _
    refine gds_iff.mpr fun x hx=>?_
    obtain ⟨q,hq',rfl⟩:=List.mem_map.mp hx
    exact (pl_gd hp.good (by omega) (hq q hq')).1
  · have:∀ rs:List Plc,(∀ q∈rs,GoodPl ps qs.length q)→szDs (rs.map plD)≤20 * rs.length:=by
      intro rs
      induction rs with
      | nil=>intro _; simp [szDs]
      | cons r rs ih =>
        intro h
        have h1:=(pl_gd hp.good (by omega) (h r List.mem_cons_self)).2
        have h2:=ih fun q hq=>h q (List.mem_cons_of_mem _ hq)
        rw [List.map_cons]
        simp only [szDs,List.length_cons]
        omega
    have:=this qs hq
    simp only [szD]
    omega
abbrev lives (n:Nat):List Str:=List.replicate n "live"
theorem request_non {ps:List (Str×Int)} {qs:List Plc} (hp:Okp ps) (l1:1≤qs.length) (l2:qs.length≤16) (hq:∀ q∈qs,GoodPl ps qs.length q) (S:Sto) :
    F_Request_d1 [.d (.ftp (ps.map mkS)),.d (.tup (qs.map plD))] S=.ok (.d (rqD ps qs (lives ps.length))) S:=by
  have hs:=places_sm hp hq l2
  have sm:Sm (.tup (qs.map plD)):=⟨hs.1.mono (by decide),by omega⟩
  rw [request_d1 _ rfl]
  show F_Request [.d (.ftp (ps.map mkS)),.d (.tup (qs.map plD)),.d .non] S=_
  rw [request_any hp sm (b:=.non) ⟨by simp [Gd],by decide⟩ S]
  unfold rqR
  rw [plcs_good hp l1 l2 hq]
  have hw:wordsD ps.length .non=.tup ((lives ps.length).map D.str):=by simp only [wordsD,lives,List.map_replicate]
  have hm:modW ps.length (wordsD ps.length .non)=none:=by
    rw [hw]
    simp only [modW]
    rw [if_pos (by simp),bad_none]
    · rfl
    · intro x hx
      obtain ⟨z,hz,rfl⟩:=List.mem_map.mp hx
      rw [(List.mem_replicate.mp hz).2]
      decide +kernel
  simp only [hm]
  rw [hw]
end K06
namespace K06
open PySem Ev
open L2 (atI ixN)
theorem scan_nd:∀ {ps:List (Str×Int)} {seen:List Str} {k:Nat},GoodP ps→scan seen k (ps.map mkS)=none→seen.Nodup→(seen ++ ps.map (·.1)).Nodup
  | [],seen,k,_,_,h=>by simpa using h
  | p :: ps,seen,k,g,h,hn=>by
    have g1:=g p List.mem_cons_self
    have e:setOf (mkS p)=some (p.1,p.2):=by simp [setOf,g1]
    rw [List.map_cons,scan,e] at h
    simp only at h
    split at h
    · cases h
    · rename_i hz
      have:=scan_nd (fun q hq=>g q (List.mem_cons_of_mem _ hq)) h (by
        rw [List.nodup_append]
        exact ⟨hn,by simp,fun a ha b hb=>by
          rw [List.mem_singleton.mp hb]
          exact fun e=>hz (e ▸ ha)⟩)
      simpa [List.append_assoc] using this
theorem wrong_okp {ps:List (Str×Int)} (h:wrong (.tup (ps.map mkS))=none):Okp ps:=by
  replace h:(if 1≤(ps.map mkS).length∧(ps.map mkS).length≤3 then (match scan [] 0 (ps.map mkS) with
      | some q=>some (.int (q:Int))
      | none=>if mul 1 (ps.map mkS)≤12 then none else some (.str "many")) else some .non)=(none:Option D):=h
  split at h
  · rename_i hl
    split at h
    · cases h
    · rename_i hs
      obtain ⟨ps',e,g⟩:=scan_none hs
      have inj:∀ p q:Str×Int,mkS p=mkS q→p=q:=fun p q e=>by
        simp only [mkS,D.tup.injEq,List.cons.injEq,D.str.injEq,D.int.injEq,and_true] at e
        exact Prod.ext e.1 e.2
      have:ps=ps':=(List.map_inj_right inj).mp e
      subst this
      split at h
      · rename_i hm
        rw [List.length_map] at hl
        rw [mul_of 1 g] at hm
        exact ⟨g,by simpa using scan_nd g hs List.nodup_nil,hl.1,hl.2,hm⟩
      · cases h
  · cases h
end K06
namespace Ev
open PySem
open L2 (atI ixN Key)
end Ev
namespace Ev
open PySem TL
open L2 (atI ixN Key)
mutual
def nb:D→Bool
  | .non=>true | .int _=>true | .str _=>true
  | .tup xs=>nbs xs | .lst xs=>nbs xs
  | _=>false
def nbs:List D→Bool
  | []=>true
  | x :: xs=>nb x && nbs xs
end
mutual
theorem eqv_nb:∀ (a b:D),nb a=true→nb b=true→PyData.eqv (toPy a) (toPy b)=true→a=b
  | .non,b,_,hb,h=>by cases b <;> simp_all [nb,toPy,PyData.eqv]
  | .int i,b,_,hb,h=>by cases b <;> simp_all [nb,toPy,PyData.eqv]
  | .str i,b,_,hb,h=>by cases b <;> simp_all [nb,toPy,PyData.eqv]
  | .tup xs,b,ha,hb,h=>by
    cases b with
    | tup ys=>rw [eqvs_nb xs ys (by simpa [nb] using ha) (by simpa [nb] using hb) (by simpa [toPy,PyData.eqv] using h)]
    | _=>simp_all [nb,toPy,PyData.eqv]
  | .lst xs,b,ha,hb,h=>by
    cases b with
    | lst ys=>rw [eqvs_nb xs ys (by simpa [nb] using ha) (by simpa [nb] using hb) (by simpa [toPy,PyData.eqv] using h)]
    | _=>simp_all [nb,toPy,PyData.eqv]
  | .bl _,_,ha,_,_=>by simp [nb] at ha
  | .dct _,_,ha,_,_=>by simp [nb] at ha
  | .ins _ _,_,ha,_,_=>by simp [nb] at ha
  | .scr _,_,ha,_,_=>by simp [nb] at ha
  | .ftp _,_,ha,_,_=>by simp [nb] at ha
  | .cls _,_,ha,_,_=>by simp [nb] at ha
theorem eqvs_nb:∀ (a b:List D),nbs a=true→nbs b=true→PyData.eqvAll (toPys a) (toPys b)=true→a=b
  | [],[],_,_,_=>rfl
  | [],_ :: _,_,_,h=>by simp [toPys,PyData.eqvAll] at h
  | _ :: _,[],_,_,h=>by simp [toPys,PyData.eqvAll] at h
  | x :: xs,y :: ys,ha,hb,h=>by
    simp only [nbs,Bool.and_eq_true] at ha hb
    simp only [toPys,PyData.eqvAll,Bool.and_eq_true] at h
    rw [eqv_nb x y ha.1 hb.1 h.1,eqvs_nb xs ys ha.2 hb.2 h.2]
end
theorem eqOk_refl {a:D} (h:eqOk a=true):eqD a a=true:=by
  unfold eqOk SeqAt.shaped at h
  simp only [Bool.and_eq_true] at h
  exact PySem.SeqAt.eqv_refl _ h.2.1
theorem eqD_iff {a b:D} (ha:nb a=true) (hb:nb b=true) (h:eqOk a=true):eqD a b=true ↔ a=b :=
  ⟨fun e=>eqv_nb a b ha hb e,fun e=>by subst e; exact eqOk_refl h⟩
theorem nbs_all:∀ {xs:List D},nbs xs=true ↔ ∀ x∈xs,nb x=true
  | []=>by simp [nbs]
  | x :: xs=>by simp [nbs,nbs_all (xs:=xs)]
@[simp] theorem e_fstr {fs:List FE} {ρ:List (Option W)} {S:Sto}:fFStr fs ρ S=(fJs fs Str.empty ρ S).bind fun z S1=>.ok (.d (.str z)) S1:=rfl
@[simp] theorem e_js0 {acc:Str} {ρ:List (Option W)} {S:Sto}:fJs [] acc ρ S=.ok acc S:=rfl
@[simp] theorem e_js1 {f:FE} {fs:List FE} {acc:Str} {ρ:List (Option W)} {S:Sto}:fJs (f :: fs) acc ρ S=(f ρ S).bind fun w S1=>match w with
    | .d (.str y)=>if (acc ++ y).length≤sizeLine then fJs fs (acc ++ y) ρ S1 else .err
    | _=>.err:=rfl
@[simp] theorem e_fmt {f:FE} {ρ:List (Option W)} {S:Sto}:fFmt f ρ S=(f ρ S).bind fun w S1=>match w with
  | .d (.str y)=>if y.length≤sizeLine then .ok (.d (.str y)) S1 else .err
  | .d (.int i)=>if i.natAbs.log2 < 1920 then .ok (.d (.str (toString i))) S1 else .err
  | _=>.err:=rfl
section
variable {f1 f2 f3 f4:FE} {ρ:List (Option W)} {S:Sto} {a b c d:Str}
end
abbrev num (n:Nat):Str:=Str.ofString (toString ((n:Nat):Int))
abbrev sp:Str:=" "
abbrev nl:Str:="\n"
end Ev
namespace Ev
open PySem TL
open L2 (atI ixN Key)
section
variable {o : OpN} {ff : FF} {f g h k : FE} {ρ : List (Option W)} {S S1 S2 S3 S4 : Sto} {w x y z : W}
theorem call1 (e : f ρ S = .ok w S1) : fCall o (fCons f fNil) ρ S = o [w] S1 := by rw [e_call, e_cons, e]; rfl
theorem app1 (e : f ρ S = .ok w S1) : fApp ff (fCons f fNil) ρ S = ff [w] S1 := by rw [e_app, e_cons, e]; rfl
theorem app2 (e : f ρ S = .ok w S1) (e2 : g ρ S1 = .ok x S2) : fApp ff (fCons f (fCons g fNil)) ρ S = ff [w, x] S2 := by rw [e_app, e_cons, e, bind_ok, e_cons, e2]; rfl
theorem app3 (e : f ρ S = .ok w S1) (e2 : g ρ S1 = .ok x S2) (e3 : h ρ S2 = .ok y S3) : fApp ff (fCons f (fCons g (fCons h fNil))) ρ S = ff [w, x, y] S3 := by rw [e_app, e_cons, e, bind_ok, e_cons, e2, bind_ok, e_cons, e3]; rfl
theorem bin2 {op : Op2} (e : f ρ S = .ok w S1) (e2 : g ρ S1 = .ok x S2) : fBin op f g ρ S = op w x S2 := by rw [e_bin, e, bind_ok, e2, bind_ok]
theorem varW {i : Nat} (e : ρ[i]? = some (some w)) : fVar i ρ S = .ok w S := by rw [e_var, e]
end
mutual
theorem nbFlat : ∀ {d : D}, nb d = true → flatD d = true
  | .non, _ => rfl
  | .int _, _ => rfl
  | .str _, _ => rfl
  | .tup xs, h => nbsFlat (d := xs) (by simpa only [nb] using h)
  | .lst xs, h => nbsFlat (d := xs) (by simpa only [nb] using h)
  | .bl _, h => by simp [nb] at h
  | .dct _, h => by simp [nb] at h
  | .ins _ _, h => by simp [nb] at h
  | .scr _, h => by simp [nb] at h
  | .ftp _, h => by simp [nb] at h
  | .cls _, h => by simp [nb] at h
theorem nbsFlat : ∀ {d : List D}, nbs d = true → flatDs d = true
  | [], _ => rfl
  | x :: xs, h => by
    simp only [nbs, Bool.and_eq_true] at h
    simp only [flatDs, nbFlat h.1, nbsFlat h.2, Bool.and_self]
end
theorem gdShow {k : Nat} {d : D} (h : Gd k d) (hk : k ≤ 60) (hz : szD d ≤ 2700) : showOk d = true := by
  obtain ⟨h1, h2, h3, h4, h5⟩ := gd_show (by omega) h
  have := PyData.shown_le 42 (by decide) (toPyR d) h4
  have e := sizeLine_eq
  unfold showOk
  rw [h1, h2, decide_eq_true (show (toPyR d).depth ≤ 64 by omega), decide_eq_true (show (toPyR d).shown.length ≤ sizeLine by omega)]
  rfl
end Ev
namespace K06
open PySem Ev TL
open L2 (atI ixN Key)
section
variable {ps ps' : List (Str × Int)} {qs qs' : List Plc} {ws ws' : List Str}
abbrev rqT (ps : List (Str × Int)) (qs : List Plc) (ws : List Str) : D := .tup [.tup (ps.map mkS), .tup (qs.map plD), .tup (ws.map D.str)]
structure Rq (ps : List (Str × Int)) (qs : List Plc) (ws : List Str) : Prop where
  l1 : 1 ≤ qs.length
  l2 : qs.length ≤ 16
  hq : ∀ q ∈ qs, GoodPl ps qs.length q
  hl : ws.length = ps.length
  hw : ∀ w ∈ ws, Mode w
theorem nb_pl (q : Plc) : nb (plD q) = true := by
  cases q with
  | fin => rfl
  | act w t => rfl
  | ask z ts =>
    simp only [plD, nb, nbs, Bool.and_true, Bool.true_and]
    exact nbs_all.mpr fun x hx => by obtain ⟨t, _, rfl⟩ := List.mem_map.mp hx; rfl
theorem nb_ps : nb (.tup (ps.map mkS)) = true := by
  simp only [nb]
  exact nbs_all.mpr fun x hx => by obtain ⟨p, _, rfl⟩ := List.mem_map.mp hx; rfl
theorem nb_qs : nb (.tup (qs.map plD)) = true := by
  simp only [nb]
  exact nbs_all.mpr fun x hx => by obtain ⟨p, _, rfl⟩ := List.mem_map.mp hx; exact nb_pl p
theorem nb_ws : nb (.tup (ws.map D.str)) = true := by
  simp only [nb]
  exact nbs_all.mpr fun x hx => by obtain ⟨p, _, rfl⟩ := List.mem_map.mp hx; rfl
theorem nb_rq : nb (rqT ps qs ws) = true := by
  have a := nb_ps (ps := ps)
  have b := nb_qs (qs := qs)
  have c := nb_ws (ws := ws)
  simp only [nb] at a b c
  simp only [nb, nbs, a, b, c, Bool.and_self]
theorem modes_gd (hw : ∀ w ∈ ws, Mode w) : Gd 1 (.tup (ws.map D.str)) ∧ szD (.tup (ws.map D.str)) ≤ 6 * ws.length + 1 := by
  have gw : ∀ w ∈ ws, plS w ∧ w.length ≤ 5 := fun w h => by
    rcases hw w h with rfl | rfl | rfl <;> exact ⟨plS_of (by decide +kernel), by decide +kernel⟩
  refine ⟨gds_iff.mpr fun x hx => ?_, ?_⟩
  · obtain ⟨w, h, rfl⟩ := List.mem_map.mp hx
    exact gd_str.mpr (gw w h).1
  · clear hw
    have : szDs (ws.map D.str) ≤ 6 * ws.length := by
      induction ws with
      | nil => simp [szDs]
      | cons q qs ih =>
        have := gw q List.mem_cons_self
        have := ih fun r hr => gw r (List.mem_cons_of_mem _ hr)
        rw [List.map_cons]
        simp only [szDs, szD, List.length_cons]
        omega
    simp only [szD]
    omega
theorem Rq.gds (hp : Okp ps) (a : Rq ps qs ws) : Gds 3 [.tup (ps.map mkS), .tup (qs.map plD), .tup (ws.map D.str)] ∧ szDs [.tup (ps.map mkS), .tup (qs.map plD), .tup (ws.map D.str)] ≤ 1000 := by
  have l3 := hp.l3
  obtain ⟨p1, p2⟩ := okp_gd hp.good
  obtain ⟨q1, q2⟩ := places_sm hp a.hq a.l2
  obtain ⟨w1, w2⟩ := modes_gd a.hw
  have := a.hl
  refine ⟨⟨p1.mono (by decide), q1, w1.mono (by decide), trivial⟩, ?_⟩
  simp only [szDs]
  simp only [szDs, szD] at p2 q2 w2 ⊢
  omega
theorem Rq.ok (hp : Okp ps) (a : Rq ps qs ws) : eqOk (rqT ps qs ws) = true := gd_eqOk (k := 4) (a.gds hp).1 (by decide) (nbFlat nb_rq)
theorem Rq.pair (hp : Okp ps) (a : Rq ps qs ws) : eqOk (.lst [.tup (qs.map plD), .tup (ws.map D.str)]) = true := by
  have g := (a.gds hp).1
  refine gd_eqOk (k := 4) (show Gds 3 _ from g.2) (by decide) (nbFlat ?_)
  have b := nb_qs (qs := qs)
  have c := nb_ws (ws := ws)
  simp only [nb] at b c
  simp only [nb, nbs, b, c, Bool.and_self]
theorem nb_pair : nb (.lst [.tup (qs.map plD), .tup (ws.map D.str)]) = true := by
  have b := nb_qs (qs := qs)
  have c := nb_ws (ws := ws)
  simp only [nb] at b c
  simp only [nb, nbs, b, c, Bool.and_self]
theorem same_eq (hp : Okp ps) (a : Rq ps qs ws) (b : Rq ps qs' ws') : eqD (.lst [.tup (qs.map plD), .tup (ws.map D.str)]) (.lst [.tup (qs'.map plD), .tup (ws'.map D.str)]) = eqD (rqT ps qs ws) (rqT ps qs' ws') := by
  have i1 := eqD_iff (nb_pair (qs := qs) (ws := ws)) (nb_pair (qs := qs') (ws := ws')) (a.pair hp)
  have i2 := eqD_iff (nb_rq (ps := ps) (qs := qs) (ws := ws)) (nb_rq (ps := ps) (qs := qs') (ws := ws')) (a.ok hp)
  rw [Bool.eq_iff_iff, i1, i2]
  simp
abbrev dueM (ps : List (Str × Int)) (qs : List Plc) (ws : List Str) : D := .lst [.tup (ws.map D.str), .tup (qs.map plD), .tup (ps.map mkS)]
theorem Rq.due (hp : Okp ps) (a : Rq ps qs ws) : eqOk (dueM ps qs ws) = true := by
  have g := (a.gds hp).1
  obtain ⟨g1, g2, g3, _⟩ := g
  refine gd_eqOk (k := 4) (show Gds 3 _ from ⟨g3, g2, g1, trivial⟩) (by decide) (nbFlat ?_)
  have a := nb_ps (ps := ps)
  have b := nb_qs (qs := qs)
  have c := nb_ws (ws := ws)
  simp only [nb] at a b c
  simp only [nb, nbs, a, b, c, Bool.and_self]
theorem Rq.due2 (hp : Okp ps) (a : Rq ps qs ws) : eqOk (.lst [.tup (ps.map mkS), .tup (qs.map plD), .tup (ws.map D.str)]) = true := by
  have g := (a.gds hp).1
  refine gd_eqOk (k := 4) (show Gds 3 _ from g) (by decide) (nbFlat ?_)
  have a := nb_ps (ps := ps)
  have b := nb_qs (qs := qs)
  have c := nb_ws (ws := ws)
  simp only [nb] at a b c
  simp only [nb, nbs, a, b, c, Bool.and_self]
theorem b_ne (a b : Bool) (S : Sto) : opNe (.d (.bl a)) (.d (.bl b)) S = .ok (.d (.bl (a != b))) S := by
  cases a <;> cases b <;> rfl
theorem b_eq (a b : Bool) (S : Sto) : opEq (.d (.bl a)) (.d (.bl b)) S = .ok (.d (.bl (a == b))) S := by
  cases a <;> cases b <;> rfl
theorem neL_self {xs : List D} (h : eqOk (.lst xs) = true) (S : Sto) : opNe (.d (.lst xs)) (.d (.lst xs)) S = .ok (.d (.bl false)) S := by
  simp only [opNe, view, h, Bool.and_self, if_true, eqOk_refl h, Bool.not_true]
theorem neT_self {xs : List D} (h : eqOk (.tup xs) = true) (S : Sto) : opNe (.d (.tup xs)) (.d (.tup xs)) S = .ok (.d (.bl false)) S := by
  simp only [opNe, view, h, Bool.and_self, if_true, eqOk_refl h, Bool.not_true]
theorem eqL_self {xs : List D} (h : eqOk (.lst xs) = true) (S : Sto) : opEq (.d (.lst xs)) (.d (.lst xs)) S = .ok (.d (.bl true)) S := by
  simp only [opEq, view, h, Bool.and_self, if_true, eqOk_refl h]
theorem eqT_self {xs : List D} (h : eqOk (.tup xs) = true) (S : Sto) : opEq (.d (.tup xs)) (.d (.tup xs)) S = .ok (.d (.bl true)) S := by
  simp only [opEq, view, h, Bool.and_self, if_true, eqOk_refl h]
theorem rq_set {f : FE} {ρ : List (Option W)} {S S1 : Sto} {a b : D} (h : f ρ S = .ok (.d (rqA ps a b)) S1) : fFld 4 "settings" f ρ S = .ok (.d (.ftp (ps.map mkS))) S1 := by
  simp [fFld, h, List.lookup]
theorem rq_co {f : FE} {ρ : List (Option W)} {S S1 : Sto} {a b : D} (h : f ρ S = .ok (.d (rqA ps a b)) S1) : fCo (fFld 4 "settings" f) ρ S = .ok (.d (.tup (ps.map mkS))) S1 := by
  unfold fCo
  rw [rq_set h]
  rfl
theorem rq_pl {f : FE} {ρ : List (Option W)} {S S1 : Sto} {a b : D} (h : f ρ S = .ok (.d (rqA ps a b)) S1) : fFld 4 "places" f ρ S = .ok (.d a) S1 := by
  have n3 : (("places" : Str) == "settings") = false := by decide +kernel
  simp [fFld, h, List.lookup, n3]
theorem rq_mo {f : FE} {ρ : List (Option W)} {S S1 : Sto} {a b : D} (h : f ρ S = .ok (.d (rqA ps a b)) S1) : fFld 4 "modes" f ρ S = .ok (.d b) S1 := by
  have n1 : (("modes" : Str) == "settings") = false := by decide +kernel
  have n2 : (("modes" : Str) == "places") = false := by decide +kernel
  simp [fFld, h, List.lookup, n1, n2]
theorem eq_run2 (hp : Okp ps) (hp' : Okp ps') (a : Rq ps qs ws) (b : Rq ps' qs' ws') (S : Sto) : F_Request___eq__ [.d (rqD ps qs ws), .d (rqD ps' qs' ws')] S = .ok (.d (.bl (eqD (rqT ps qs ws) (rqT ps' qs' ws')))) S := by
  refine rt_called (ds := [rqD ps qs ws, rqD ps' qs' ws']) (S1 := []) rfl ?_
  show s_Request___eq__ [some (.d (rqD ps qs ws)), some (.d (rqD ps' qs' ws'))] [] = _
  have is1 : fIsiC 4 (fVar 1) [some (.d (rqD ps qs ws)), some (.d (rqD ps' qs' ws'))] [] = .ok (.d (.bl true)) [] := by simp [fIsiC, insOf]
  have tp : ∀ (i : Nat) (ps : List (Str × Int)) (qs : List Plc) (ws : List Str) (ρ : List (Option W)), ρ[i]? = some (some (.d (rqD ps qs ws))) → fTup (fCons (fCo (fFld 4 "settings" (fVar i))) (fCons (fFld 4 "places" (fVar i)) (fCons (fFld 4 "modes" (fVar i)) fNil))) ρ [] = .ok (.d (rqT ps qs ws)) [] := fun i ps qs ws ρ h => by
    have v : fVar i ρ [] = .ok (.d (rqD ps qs ws)) [] := varW h
    rw [e_tup, e_cons, rq_co v, bind_ok, e_cons, rq_pl v, bind_ok, e_cons, rq_mo v, bind_ok, e_nil, bind_ok, bind_ok, bind_ok, bind_ok]
    simp only [dats_d, dats_nil, Option.map_some]
    rw [if_pos (by simp [sizeLine_eq])]
  have oe : opEq (.d (rqT ps qs ws)) (.d (rqT ps' qs' ws')) [] = .ok (.d (.bl (eqD (rqT ps qs ws) (rqT ps' qs' ws')))) [] := by
    simp only [opEq, view, a.ok hp, b.ok hp', Bool.and_self, if_true]
  unfold s_Request___eq__
  rw [e_seq, e_if]
  simp only [e_seq, e_next, e_ret, e_retN, e_expr, e_set, e_if, e_var, e_c, e_bin, e_nil, e_cons, e_call, e_app, e_toT, e_toB, e_band, e_bor, e_bnot, e_eand, e_eor, e_enot, e_eif, e_chain, e_neg, e_oNone, e_oSome, e_sl, e_par2, e_par3, e_asg, e_raise, e_gN, e_gT, e_gsN, e_gsC, e_lst', e_tupl, e_str, e_turn, bind_ok, bind_exn, st_ok, st_exn, go_nx, go_rt, go_exn, noX_ok, o_addI, o_sub, o_lt, o_le, o_gt, o_ge, o_eqI, o_neI, o_eqS, o_neS, o_lenT, o_lenL, o_slT, o_slL, o_ixT, o_ixLi, atI_0, atI_1, o_list, o_list', o_tuple, o_tuple', o_int, o_min, y_d, v_d, dats_nil, dats_d, Option.map_some, Option.bind_some, List.getElem?_cons_zero, List.getElem?_cons_succ, List.set_cons_zero, List.set_cons_succ, List.length_cons, List.length_nil, Bool.not_true, Bool.not_false, Bool.true_and, Bool.false_and, Bool.and_true, Bool.and_false, Bool.false_eq_true, if_true, if_false, decide_true, decide_false, reduceIte, reduceCtorEq, is1, tp 0 ps qs ws [some (.d (rqD ps qs ws)), some (.d (rqD ps' qs' ws'))] rfl, tp 1 ps' qs' ws' [some (.d (rqD ps qs ws)), some (.d (rqD ps' qs' ws'))] rfl, oe]
theorem eqI_run2 (hp : Okp ps) (hp' : Okp ps') (a : Rq ps qs ws) (b : Rq ps' qs' ws') (S : Sto) : opEqI 4 F_Request___eq__ (.d (rqD ps qs ws)) (.d (rqD ps' qs' ws')) S = .ok (.d (.bl (eqD (rqT ps qs ws) (rqT ps' qs' ws')))) S := by
  unfold opEqI
  rw [if_pos (by simp [insOf, othOf]), eq_run2 hp hp' a b S]
theorem neI_run2 (hp : Okp ps) (hp' : Okp ps') (a : Rq ps qs ws) (b : Rq ps' qs' ws') (S : Sto) : opNeI 4 F_Request___eq__ (.d (rqD ps qs ws)) (.d (rqD ps' qs' ws')) S = .ok (.d (.bl (!eqD (rqT ps qs ws) (rqT ps' qs' ws')))) S := by
  unfold opNeI
  rw [if_pos (by simp [insOf, othOf]), eq_run2 hp hp' a b S]
theorem eq_odd {d : D} (h : ∃ ds, dats [W.d (rqD ps qs ws), W.d d] = some ds) (hi : fIsiC 4 (fVar 1) [some (.d (rqD ps qs ws)), some (.d d)] [] = .ok (.d (.bl false)) []) (ho : othOf 4 (.d d) = true) (S : Sto) : opEqI 4 F_Request___eq__ (.d (rqD ps qs ws)) (.d d) S = .ok (.d (.bl false)) S := by
  obtain ⟨ds, hd⟩ := h
  have e : F_Request___eq__ [.d (rqD ps qs ws), .d d] S = .ok (.d (.bl false)) S := by
    refine rt_called (ds := ds) (S1 := []) hd ?_
    show s_Request___eq__ [some (.d (rqD ps qs ws)), some (.d d)] [] = _
    unfold s_Request___eq__
    rw [e_seq, e_if, e_bnot, e_toT, hi, bind_ok, e_toB, bind_ok, st_ok, if_pos (by rfl), e_ret, e_c, st_ok, go_rt]
  unfold opEqI
  rw [if_pos (by simp [insOf, ho]), e]
end
end K06
namespace K06
open PySem Ev TL
open L2 (atI ixN Key)
section
variable {ps : List (Str × Int)} {qs : List Plc} {ws : List Str}
def withR (ps : List (Str × Int)) (a d : D) (S : Sto) : R W := match modW ps.length d with
  | some x => .exn 3 x S
  | none => .ok (.d (rqA ps a d)) S
theorem with_any (hp : Okp ps) (a : Rq ps qs ws) {d : D} (hd : Sm d) (S : Sto) : F_Request_with_modes [.d (rqD ps qs ws), .d d] S = withR ps (.tup (qs.map plD)) d S := by
  let ρ : List (Option W) := [some (.d (rqD ps qs ws)), some (.d d)]
  have v : fVar 0 ρ [] = .ok (.d (rqD ps qs ws)) [] := rfl
  have e0 := need_modes_any (q := ps.map mkS) hd []
  rw [List.length_map] at e0
  unfold withR
  cases h : modW ps.length d with
  | some x =>
    rw [h] at e0
    refine ex_called (ds := [rqD ps qs ws, d]) (S1 := []) (ρ := ρ) rfl ?_
    show s_Request_with_modes ρ [] = _
    unfold s_Request_with_modes
    rw [e_seq, e_expr, app2 (rq_co v) (x := .d d) rfl, e0, st_exn, go_exn]
  | none =>
    rw [h] at e0
    have hne : wordsD ps.length d = d := by
      cases d with
      | non => cases h
      | _ => rfl
    have e1 : F_Request [.d (.ftp (ps.map mkS)), .d (.tup (qs.map plD)), .d d] [] = .ok (.d (rqA ps (.tup (qs.map plD)) d)) [] := by
      have hs := places_sm hp a.hq a.l2
      rw [request_any hp ⟨hs.1.mono (by decide), by omega⟩ hd []]
      unfold rqR
      rw [plcs_good hp a.l1 a.l2 a.hq]
      simp only [hne, h]
    refine rt_called (ds := [rqD ps qs ws, d]) (S1 := []) rfl ?_
    show s_Request_with_modes ρ [] = _
    unfold s_Request_with_modes
    rw [e_seq, e_expr, app2 (rq_co v) (x := .d d) rfl, e0, st_ok, go_nx, e_ret, app3 (rq_set v) (rq_pl v) (y := .d d) rfl, e1, st_ok]
theorem modes_none {ws' : List Str} (hl : ws'.length = ps.length) (hw : ∀ w ∈ ws', Mode w) : modW ps.length (.tup (ws'.map D.str)) = none := by
  simp only [modW]
  rw [if_pos (by rw [List.length_map, hl]), bad_none]
  · rfl
  · intro x hx
    obtain ⟨z, hz, rfl⟩ := List.mem_map.mp hx
    have := hw z hz
    simp only [modB, decide_eq_true_eq]
    exact this
theorem with_good (hp : Okp ps) (a : Rq ps qs ws) {ws' : List Str} (hl : ws'.length = ps.length) (hw : ∀ w ∈ ws', Mode w) (S : Sto) : F_Request_with_modes [.d (rqD ps qs ws), .d (.tup (ws'.map D.str))] S = .ok (.d (rqD ps qs ws')) S := by
  have g := modes_gd hw
  have l3 := hp.l3
  rw [with_any hp a ⟨g.1.mono (by decide), by omega⟩]
  unfold withR
  rw [modes_none hl hw]
theorem rq_meth (S : Sto) : isIns 4 "with_modes" (.d (rqD ps qs ws)) S = true ∧ isIns 4 "keeping" (.d (rqD ps qs ws)) S = true := by
  have n1 : (("with_modes" : Str) == "settings") = false := by decide +kernel
  have n2 : (("with_modes" : Str) == "places") = false := by decide +kernel
  have n3 : (("with_modes" : Str) == "modes") = false := by decide +kernel
  have n4 : (("keeping" : Str) == "settings") = false := by decide +kernel
  have n5 : (("keeping" : Str) == "places") = false := by decide +kernel
  have n6 : (("keeping" : Str) == "modes") = false := by decide +kernel
  simp [isIns, List.lookup, n1, n2, n3, n4, n5, n6]
theorem mtd1y {c : Nat} {m : Str} {ff : FF} {f g : FE} {ρ : List (Option W)} {S S1 S2 : Sto} {w x : W} (hf : f ρ S = .ok w S1) (hi : isIns c m w S1 = true) (hg : g ρ S1 = .ok x S2) : fMtd c m ff f (fCons g fNil) ρ S = ff [w, x] S2 := by
  unfold fMtd
  rw [hf, bind_ok, if_pos hi, e_cons, hg, bind_ok, e_nil, bind_ok, bind_ok]
def kwOk : D → Bool
  | .str _ => true
  | .int _ => true
  | .non => true
  | _ => false
def strOf : D → Str
  | .str z => z
  | _ => ""
abbrev kvD (kv : List (Str × D)) : List (D × D) := kv.map fun p => (D.str p.1, p.2)
def newW (kv : List (Str × D)) (ps : List (Str × Int)) (ws : List Str) : List Str := ((ps.map (·.1)).zip ws).map fun p => strOf ((valF (kvD kv) (.str p.1)).getD (.str p.2))
abbrev nkBody : FS := (sIf (toT (fBin opNotIn (fVar 3) (fVar 2))) (sRaise 16 (fVar 3)) sNext)
abbrev mkBody : FS := (sIf (bOr (bNot (toT (fIsi .str (fVar 4)))) (toT (fBin (opInT true) (fVar 4) (fC (.tup ((["live", "met", "begin"] : List Str).map D.str)))))) (sRaise 3 (fVar 3)) sNext)
theorem nk_loop {names : List Str} (hn : ∀ y ∈ names, plS y) {u v : Option W} : ∀ (kv : List (Str × D)) (a b : Option W), (∀ p ∈ kv, plS p.1) →
    ∃ ρ', loop (turn (gN 3) nkBody) (kv.map fun p => D.str p.1) [u, v, some (.d (.lst (names.map D.str))), a, b] [] = (match kv.find? (fun p => !decide (p.1 ∈ names)) with | none => .nx [u, v, some (.d (.lst (names.map D.str))), ρ', b] [] | some p => .exn 16 (.str p.1) [u, v, some (.d (.lst (names.map D.str))), ρ', b] [])
  | [], a, b, _ => ⟨_, rfl⟩
  | p :: kv, a, b, h => by
    rw [List.map_cons, loop_cons]
    have e1 := notin_strs (h p List.mem_cons_self) hn (S := [])
    by_cases hb : p.1 ∈ names
    · obtain ⟨ρ', e⟩ := nk_loop hn (u := u) (v := v) kv (some (.d (.str p.1))) b fun z hz => h z (List.mem_cons_of_mem _ hz)
      refine ⟨ρ', ?_⟩
      rw [decide_eq_true hb] at e1
      rw [List.find?_cons_of_neg (by simp [hb]), ← e]
      simp [e1]
    · refine ⟨some (.d (.str p.1)), ?_⟩
      rw [decide_eq_false hb] at e1
      rw [List.find?_cons_of_pos (by simp [hb])]
      simp [e1]
theorem mk_loop {u v x : Option W} : ∀ (kv : List (Str × D)) (a b : Option W), (∀ p ∈ kv, kwOk p.2 = true) →
    ∃ a' b', loop (turn (gT 2 (gsCons (gN 3) (gsCons (gN 4) gsNil))) mkBody) (kv.map fun p => D.tup [D.str p.1, p.2]) [u, v, x, a, b] [] = (match kv.find? (fun p => !modB p.2) with | none => .nx [u, v, x, a', b'] [] | some p => .exn 3 (.str p.1) [u, v, x, a', b'] [])
  | [], a, b, _ => ⟨_, _, rfl⟩
  | (k, d) :: kv, a, b, h => by
    rw [List.map_cons, loop_cons]
    have hk := h (k, d) List.mem_cons_self
    by_cases hb : modB d = true
    · obtain ⟨a', b', e⟩ := mk_loop (u := u) (v := v) (x := x) kv (some (.d (.str k))) (some (.d d)) fun z hz => h z (List.mem_cons_of_mem _ hz)
      refine ⟨a', b', ?_⟩
      rw [List.find?_cons_of_neg (by simp [hb]), ← e]
      cases d with
      | str z =>
        have e1 := notin_mode z
        rw [hb] at e1
        simp [e1]
      | _ => cases hb
    · rw [Bool.not_eq_true] at hb
      refine ⟨some (.d (.str k)), some (.d d), ?_⟩
      rw [List.find?_cons_of_pos (by simp [hb])]
      cases d with
      | str z =>
        have e1 := notin_mode z
        rw [hb] at e1
        simp [e1]
      | int _ => simp
      | non => simp
      | _ => cases hk
theorem valF_mem : ∀ {kv : List (Str × D)} {z : Str} {d : D}, valF (kvD kv) (.str z) = some d → ∃ p ∈ kv, p.2 = d
  | [], _, _, h => by cases h
  | p :: kv, z, d, h => by
    simp only [kvD, List.map_cons, valF] at h
    split at h
    · cases h
      exact ⟨p, List.mem_cons_self, rfl⟩
    · obtain ⟨q, hq, e⟩ := valF_mem (kv := kv) h
      exact ⟨q, List.mem_cons_of_mem _ hq, e⟩
theorem zip_strs : ∀ (xs ys : List Str), zipD (xs.map D.str) (ys.map D.str) = (xs.zip ys).map fun p => D.tup [.str p.1, .str p.2]
  | [], _ => by cases ‹List Str› <;> rfl
  | _ :: _, [] => rfl
  | x :: xs, y :: ys => by
    show D.tup [.str x, .str y] :: zipD (xs.map D.str) (ys.map D.str) = D.tup [.str x, .str y] :: (xs.zip ys).map _
    rw [zip_strs xs ys]
theorem kv_zip : ∀ (ks : List Str) (ds : List D), ks.zipWith (fun k d => (D.str k, d)) ds = kvD (ks.zip ds)
  | [], _ => rfl
  | _ :: _, [] => rfl
  | k :: ks, d :: ds => by
    rw [List.zipWith_cons_cons, kv_zip ks ds]
    rfl
def keepR (ps : List (Str × Int)) (qs : List Plc) (ws : List Str) (kv : List (Str × D)) (S : Sto) : R W := match kv.find? (fun p => !decide (p.1 ∈ ps.map (·.1))) with
  | some p => .exn 16 (.str p.1) S
  | none => match kv.find? (fun p => !modB p.2) with
    | some p => .exn 3 (.str p.1) S
    | none => .ok (.d (rqD ps qs (newW kv ps ws))) S
theorem keeping_ok (hp : Okp ps) (a : Rq ps qs ws) {kv : List (Str × D)} (h1 : ∀ p ∈ kv, plS p.1) (h2 : ∀ p ∈ kv, kwOk p.2 = true) (S : Sto) :
    F_Request_keeping [.d (rqD ps qs ws), .d (.dkf (kvD kv))] S = keepR ps qs ws kv S := by
  have l3 := hp.l3
  let names : List Str := ps.map (·.1)
  have hn : ∀ y ∈ names, plS y := fun y hy => by
    obtain ⟨p, hp', rfl⟩ := List.mem_map.mp hy
    exact (nm_asc (hp.good p hp').1).1
  let u : Option W := some (.d (rqD ps qs ws))
  let v : Option W := some (.d (.dkf (kvD kv)))
  let x : Option W := some (.d (.lst (names.map D.str)))
  have v0 : ∀ x y z, fVar 0 [u, v, x, y, z] [] = .ok (.d (rqD ps qs ws)) [] := fun _ _ _ => rfl
  have a1 : sSet 2 (fApp F_names_of (fCons (fCo (fFld 4 "settings" (fVar 0))) fNil)) [u, v, none, none, none] [] = .nx [u, v, x, none, none] [] := by
    rw [e_set, app1 (rq_co (v0 _ _ _)), names_of_ok ps (by omega), st_ok]
    rfl
  obtain ⟨b3, e1⟩ := nk_loop hn (u := u) (v := v) kv none none h1
  have a2 : sFor (iDfK (fVar 1)) (gN 3) nkBody [u, v, x, none, none] [] = loop (turn (gN 3) nkBody) (kv.map fun p => D.str p.1) [u, v, x, none, none] [] := by
    rw [e_for]
    show R.st ((iDfK (fVar 1)) [u, v, x, none, none] []) _ _ = _
    have : iDfK (fVar 1) [u, v, x, none, none] [] = .ok (kv.map fun p => D.str p.1) [] := by
      show R.ok ((kvD kv).map (·.1)) [] = _
      rw [List.map_map]
      rfl
    rw [this]
    rfl
  unfold keepR
  cases f1 : kv.find? (fun p => !decide (p.1 ∈ ps.map (·.1))) with
  | some p =>
    rw [show names = ps.map (·.1) from rfl, f1] at e1
    refine ex_called (ds := [rqD ps qs ws, .dkf (kvD kv)]) (S1 := []) (ρ := [u, v, x, b3, none]) rfl ?_
    show s_Request_keeping [u, v, none, none, none] [] = _
    unfold s_Request_keeping
    rw [e_seq, a1, go_nx, e_seq, a2.trans e1, go_exn]
  | none =>
    rw [show names = ps.map (·.1) from rfl, f1] at e1
    obtain ⟨c3, c4, e2⟩ := mk_loop (u := u) (v := v) (x := x) kv b3 none h2
    have a3 : sFor (iDfI (fVar 1)) (gT 2 (gsCons (gN 3) (gsCons (gN 4) gsNil))) mkBody [u, v, x, b3, none] [] = loop (turn (gT 2 (gsCons (gN 3) (gsCons (gN 4) gsNil))) mkBody) (kv.map fun p => D.tup [D.str p.1, p.2]) [u, v, x, b3, none] [] := by
      rw [e_for]
      have : iDfI (fVar 1) [u, v, x, b3, none] [] = .ok (kv.map fun p => D.tup [D.str p.1, p.2]) [] := by
        show R.ok ((kvD kv).map fun p => D.tup [p.1, p.2]) [] = _
        rw [List.map_map]
        rfl
      rw [this]
      rfl
    cases f2 : kv.find? (fun p => !modB p.2) with
    | some p =>
      rw [f2] at e2
      refine ex_called (ds := [rqD ps qs ws, .dkf (kvD kv)]) (S1 := []) (ρ := [u, v, x, c3, c4]) rfl ?_
      show s_Request_keeping [u, v, none, none, none] [] = _
      unfold s_Request_keeping
      rw [e_seq, a1, go_nx, e_seq, a2.trans e1, go_nx, e_seq, a3.trans e2, go_exn]
    | none =>
      rw [f2] at e2
      have mode : ∀ (z : Str) (w : Str), Mode w → ∃ y, ((valF (kvD kv) (.str z)).getD (.str w)) = .str y ∧ Mode y := fun z w hw => by
        cases hv : valF (kvD kv) (.str z) with
        | none => exact ⟨w, rfl, hw⟩
        | some d =>
          obtain ⟨p, hp1, rfl⟩ := valF_mem hv
          have := List.find?_eq_none.mp f2 p hp1
          have hm : modB p.2 = true := by simpa using this
          cases q : p.2 with
          | str y =>
            rw [q] at hm
            simp only [modB, decide_eq_true_eq] at hm
            exact ⟨y, by rw [Option.getD_some], hm⟩
          | _ => rw [q] at hm; cases hm
      have nl : (newW kv ps ws).length = ps.length := by
        simp only [newW, List.length_map, List.length_zip, a.hl, Nat.min_self]
      have nw : ∀ w ∈ newW kv ps ws, Mode w := fun w hw => by
        obtain ⟨p, hp1, rfl⟩ := List.mem_map.mp hw
        obtain ⟨y, e, hy⟩ := mode p.1 p.2 (a.hw _ (List.of_mem_zip hp1).2)
        rw [e]
        exact hy
      have vm : fFld 4 "modes" (fVar 0) [u, v, x, c3, c4] [] = .ok (.d (.tup (ws.map D.str))) [] := rq_mo (v0 _ _ _)
      have it : iZip false true (fVar 2) (fFld 4 "modes" (fVar 0)) [u, v, x, c3, c4] [] = .ok ((names.zip ws).map fun p => D.tup [.str p.1, .str p.2]) [] := by
        unfold iZip
        rw [varW (w := .d (.lst (names.map D.str))) rfl, bind_ok, vm, bind_ok]
        simp only [pick, view, if_true, if_false, Bool.false_eq_true]
        rw [zip_strs]
      have cp := compL_map (g := gT 2 (gsCons (gN 3) (gsCons (gN 4) gsNil))) (f := fDfGet2 (fVar 1) (fVar 3) (fVar 4)) (ρ := wipeL [u, v, x, c3, c4] [3, 4]) (S := []) (fun p : Str × Str => D.tup [.str p.1, .str p.2]) (fun p => (valF (kvD kv) (.str p.1)).getD (.str p.2)) (names.zip ws)
        (by rw [List.length_zip, List.length_map, a.hl, Nat.min_self]; omega) (fun p hp1 => ⟨[u, v, x, some (.d (.str p.1)), some (.d (.str p.2))], rfl, rfl⟩)
      have cv : ((names.zip ws).map fun p => (valF (kvD kv) (.str p.1)).getD (.str p.2)) = (newW kv ps ws).map D.str := by
        unfold newW
        rw [List.map_map]
        refine List.map_congr_left fun p hp1 => ?_
        obtain ⟨y, e, hy⟩ := mode p.1 p.2 (a.hw _ (List.of_mem_zip hp1).2)
        show _ = D.str (strOf _)
        rw [e]
        rfl
      have lc : fLc (iZip false true (fVar 2) (fFld 4 "modes" (fVar 0))) (gT 2 (gsCons (gN 3) (gsCons (gN 4) gsNil))) tTrue (fDfGet2 (fVar 1) (fVar 3) (fVar 4)) [3, 4] [u, v, x, c3, c4] [] = .ok (.d (.lst ((newW kv ps ws).map D.str))) [] := by
        rw [e_lc, it, bind_ok, cp, bind_ok, cv]
      refine rt_called (ds := [rqD ps qs ws, .dkf (kvD kv)]) (S1 := []) rfl ?_
      show s_Request_keeping [u, v, none, none, none] [] = _
      unfold s_Request_keeping
      rw [e_seq, a1, go_nx, e_seq, a2.trans e1, go_nx, e_seq, a3.trans e2, go_nx, e_ret, mtd1y (w := .d (rqD ps qs ws)) rfl (rq_meth []).1 ((call1 lc).trans o_tuple), with_good hp a nl nw, st_ok]
theorem told_ex6 {act : Sto → R W} {S : Sto} {c : Nat} {x : D} {z : Str} (hc : (c = 3 ∧ z = "modes") ∨ (c = 16 ∧ z = "missing")) (h : act S = .exn c x S) (hE : S.all noEO = true) : F__law_told act S = .ok (.d (.tup [.str z, x])) S := by
  unfold F__law_told bodyF
  show (match s__law_told act [some .fn, none, none] S with
    | .rt w S1 => R.ok w S1
    | .nx _ S1 => .ok (.d .non) S1
    | .exn c x _ S1 => .exn c x S1
    | _ => .err) = _
  rcases hc with ⟨rfl, rfl⟩ | ⟨rfl, rfl⟩ <;> simp [s__law_told, sTryL, catchL, passM, fAct, h, fXf, behindS, clearE, hE, noE, sizeLine_eq]
theorem told_rq6 {act : Sto → R W} {S : Sto} (h : act S = .ok (.d (rqD ps qs ws)) S) : F__law_told act S = .ok (.d (dueM ps qs ws)) S := by
  unfold F__law_told bodyF
  show (match s__law_told act [some .fn, none, none] S with
    | .rt w S1 => R.ok w S1
    | .nx _ S1 => .ok (.d .non) S1
    | .exn c x _ S1 => .exn c x S1
    | _ => .err) = _
  have n1 : (("places" : Str) == "settings") = false := by decide +kernel
  have n2 : (("modes" : Str) == "settings") = false := by decide +kernel
  have n3 : (("modes" : Str) == "places") = false := by decide +kernel
  simp [s__law_told, sTryL, fAct, h, fCo, fFld, List.lookup, n1, n2, n3, sizeLine_eq, -List.map_cons]
theorem fTold_by6 {fl : FE} {ρ : List (Option W)} {S : Sto} {d : D} (hF : S.all noFO = true) (h : ∀ act : Sto → R W, act S = fl (cleanL ρ) S → F__law_told act S = .ok (.d d) S) : fTold F__law_told fl ρ S = .ok (.d d) S := by
  have := h (fun S' => if S'.all noFO = true then fl (cleanL ρ) S' else .err) (by simp only [hF, if_true])
  unfold fTold
  rw [this]
  simp only [noF, hF, Bool.and_self, if_true]
theorem told_with (hp : Okp ps) (a : Rq ps qs ws) {d : D} (hd : Sm d) {S : Sto} (hE : S.all noEO = true) (hF : S.all noFO = true) {f g : FE} {ρ : List (Option W)} (h1 : f (cleanL ρ) S = .ok (.d (rqD ps qs ws)) S) (h2 : g (cleanL ρ) S = .ok (.d d) S) {x : D} (hx : modW ps.length d = some x) :
    fTold F__law_told (fMtd 4 "with_modes" F_Request_with_modes f (fCons g fNil)) ρ S = .ok (.d (.tup [.str "modes", x])) S := by
  refine fTold_by6 hF fun act ha => ?_
  rw [mtd1y h1 (rq_meth S).1 h2, with_any hp a hd] at ha
  unfold withR at ha
  rw [hx] at ha
  exact told_ex6 (.inl ⟨rfl, rfl⟩) ha hE
theorem told_good (hp : Okp ps) (a : Rq ps qs ws) {ws' : List Str} (hl : ws'.length = ps.length) (hw : ∀ w ∈ ws', Mode w) {S : Sto} (hF : S.all noFO = true) {f g : FE} {ρ : List (Option W)} (h1 : f (cleanL ρ) S = .ok (.d (rqD ps qs ws)) S) (h2 : g (cleanL ρ) S = .ok (.d (.tup (ws'.map D.str))) S) :
    fTold F__law_told (fMtd 4 "with_modes" F_Request_with_modes f (fCons g fNil)) ρ S = .ok (.d (dueM ps qs ws')) S := by
  refine fTold_by6 hF fun act ha => ?_
  rw [mtd1y h1 (rq_meth S).1 h2, with_good hp a hl hw] at ha
  exact told_rq6 ha
def keepD (ps : List (Str × Int)) (qs : List Plc) (ws : List Str) (kv : List (Str × D)) : D := match kv.find? (fun p => !decide (p.1 ∈ ps.map (·.1))) with
  | some p => .tup [.str "missing", .str p.1]
  | none => match kv.find? (fun p => !modB p.2) with
    | some p => .tup [.str "modes", .str p.1]
    | none => dueM ps qs (newW kv ps ws)
theorem told_keep (hp : Okp ps) (a : Rq ps qs ws) {ks : List Str} {ds : List D} (hk : ds.length = ks.length) (h1 : ∀ z ∈ ks, plS z) (h2 : ∀ d ∈ ds, kwOk d = true) {S : Sto} (hE : S.all noEO = true) (hF : S.all noFO = true) {f : FE} {fk : FA} {ρ : List (Option W)}
    (h3 : f (cleanL ρ) S = .ok (.d (rqD ps qs ws)) S) (h4 : fk (cleanL ρ) S = .ok (ds.map W.d) S) :
    fTold F__law_told (fMtdW 4 "keeping" ks F_Request_keeping f fk) ρ S = .ok (.d (keepD ps qs ws (ks.zip ds))) S := by
  refine fTold_by6 hF fun act ha => ?_
  have dd : dats (ds.map W.d) = some ds := by
    clear hk h2 h4
    induction ds with
    | nil => rfl
    | cons d ds ih => rw [List.map_cons, dats_d, ih]; rfl
  have kk : kwD ks ds = .dkf (kvD (ks.zip ds)) := by
    unfold kwD
    rw [kv_zip]
  have e : fMtdW 4 "keeping" ks F_Request_keeping f fk (cleanL ρ) S = keepR ps qs ws (ks.zip ds) S := by
    unfold fMtdW
    rw [h3, bind_ok, if_pos (rq_meth S).2, h4, bind_ok, dd]
    show (if ds.length = ks.length then F_Request_keeping [.d (rqD ps qs ws), .d (kwD ks ds)] S else .err) = _
    rw [if_pos hk, kk]
    exact keeping_ok hp a (fun p hp1 => h1 _ (List.of_mem_zip hp1).1) (fun p hp1 => h2 _ (List.of_mem_zip hp1).2) S
  rw [e] at ha
  unfold keepR at ha
  unfold keepD
  split at ha
  · rename_i p h
    exact told_ex6 (.inr ⟨rfl, rfl⟩) ha hE
  · rename_i h
    split at ha
    · exact told_ex6 (.inl ⟨rfl, rfl⟩) ha hE
    · exact told_rq6 ha
end
end K06
namespace K06
open PySem Ev
open L2 (atI ixN)
theorem called_drawM {f : FF} {ws : List W} {cs : List Int} {rest more S S1 : Sto} {c c1 : Nat} {d : D} (hd : dats ws = none) (h : Dw cs rest c S) (e : f ws S = .ok (.d d) S1) (h1 : Dw cs (rest ++ more) c1 S1) : ∃ S2, called f ws S = .ok (.d d) S2 ∧ Dw cs rest c1 S2 := by
  have hl := h.len
  obtain ⟨ls, n, rfl, q1, q2, q3, q4, q5⟩ := h1
  rw [List.all_append, Bool.and_eq_true] at q5
  have h2 : Dw cs rest c1 (.drw cs ls n :: rest) := ⟨ls, n, rfl, q1, q2, q3, q4, q5.1⟩
  refine ⟨_, ?_, h2⟩
  unfold called
  rw [hd]
  simp only [e]
  have t : (O.drw cs ls n :: (rest ++ more)).take S.length = O.drw cs ls n :: rest := by
    rw [hl, List.take_succ_cons, List.take_left']
    rfl
  rw [t, h2.lt]
  have l2 : S.length ≤ (O.drw cs ls n :: (rest ++ more)).length := by rw [hl]; simp
  simp [handOut, refLt, l2]
  omega
theorem far8 {cs : List Int} {rest S : Sto} {c : Nat} {many low : Nat} {x1 x2 x4 x5 x6 x7 x8 x9 x11 x12 x13 x14 x15 : Option W} (h : Dw cs rest c S) (hc : c < 2 ^ 39) (hl : low < many) (hm : many ≤ 1000) :
    ∃ (t : Nat) (S' : Sto), fBin opAdd (fVar 10) (fApp F__law_next (fCons (fVar 0) (fCons (fBin opSub (fVar 3) (fVar 10)) fNil))) [some (.ref 0), x1, x2, some (.d (iD many)), x4, x5, x6, x7, x8, x9, some (.d (iD low)), x11, x12, x13, x14, x15] S = .ok (.d (iD t)) S' ∧ t < many ∧ Dw cs rest (c + 1) S' := by
  obtain ⟨r, S1, e1, r0, r1, h1⟩ := next_ok (many := (many : Int) - low) h (by omega) (by omega) (by omega)
  refine ⟨low + r.toNat, S1, ?_, by omega, h1⟩
  simp [e1]
  omega
theorem tgtA {cs : List Int} {rest S : Sto} {c : Nat} {many near low : Nat} {x1 x2 x4 x5 x6 x7 x8 x11 x12 x13 x14 x15 : Option W} (h : Dw cs rest c S) (hc : c + 1 < 2 ^ 39) (hn : near < many) (hl : low < many) (hm : many ≤ 1000) :
    ∃ (t : Nat) (S' : Sto), eIf (toT (fBin opGt (fApp F__law_next (fCons (fVar 0) (fCons (fC (.int 3)) fNil))) (fC (.int 0)))) (fVar 9) (fBin opAdd (fVar 10) (fApp F__law_next (fCons (fVar 0) (fCons (fBin opSub (fVar 3) (fVar 10)) fNil)))) [some (.ref 0), x1, x2, some (.d (iD many)), x4, x5, x6, x7, x8, some (.d (iD near)), some (.d (iD low)), x11, x12, x13, x14, x15] S = .ok (.d (iD t)) S' ∧ t < many ∧ Dw cs rest (c + 2) S' := by
  obtain ⟨r, S1, e1, r0, r1, h1⟩ := next_ok (many := 3) h (by omega) (by decide) (by decide)
  by_cases hr : 0 < r
  · exact ⟨near, S1, by simp [e1, hr], hn, h1.mono (by omega)⟩
  · obtain ⟨t, S2, e2, t2, h2⟩ := far8 (x1 := x1) (x2 := x2) (x4 := x4) (x5 := x5) (x6 := x6) (x7 := x7) (x8 := x8) (x9 := some (.d (iD near))) (x11 := x11) (x12 := x12) (x13 := x13) (x14 := x14) (x15 := x15) h1 (by omega) hl hm
    refine ⟨t, S2, ?_, t2, h2.mono (by omega)⟩
    rw [← e2]
    simp [e1, hr]
theorem tgtB {cs : List Int} {rest S : Sto} {c : Nat} {many near low : Nat} {x1 x2 x4 x5 x6 x7 x8 x11 x12 x13 x14 x15 : Option W} (h : Dw cs rest c S) (hc : c + 1 < 2 ^ 39) (hn : near < many) (hl : low < many) (hm : many ≤ 1000) :
    ∃ (t : Nat) (S' : Sto), eIf (toT (fBin opEq (fApp F__law_next (fCons (fVar 0) (fCons (fC (.int 3)) fNil))) (fC (.int 0)))) (fVar 9) (fBin opAdd (fVar 10) (fApp F__law_next (fCons (fVar 0) (fCons (fBin opSub (fVar 3) (fVar 10)) fNil)))) [some (.ref 0), x1, x2, some (.d (iD many)), x4, x5, x6, x7, x8, some (.d (iD near)), some (.d (iD low)), x11, x12, x13, x14, x15] S = .ok (.d (iD t)) S' ∧ t < many ∧ Dw cs rest (c + 2) S' := by
  obtain ⟨r, S1, e1, r0, r1, h1⟩ := next_ok (many := 3) h (by omega) (by decide) (by decide)
  by_cases hr : r = 0
  · exact ⟨near, S1, by simp [e1, hr], hn, h1.mono (by omega)⟩
  · obtain ⟨t, S2, e2, t2, h2⟩ := far8 (x1 := x1) (x2 := x2) (x4 := x4) (x5 := x5) (x6 := x6) (x7 := x7) (x8 := x8) (x9 := some (.d (iD near))) (x11 := x11) (x12 := x12) (x13 := x13) (x14 := x14) (x15 := x15) h1 (by omega) hl hm
    refine ⟨t, S2, ?_, t2, h2.mono (by omega)⟩
    rw [← e2]
    simp [e1, hr]
abbrev pCond : FT := bOr (toT (fBin opEq (fVar 8) (fC (.int 0)))) (bAnd (toT (fBin opEq (fVar 7) (fBin opSub (fVar 3) (fC (.int 1))))) (bOr (toT (fBin opEq (fVar 6) (fC (.int 0)))) (toT (fBin opGt (fApp F__law_next (fCons (fVar 0) (fCons (fC (.int 4)) fNil))) (fC (.int 0))))))
theorem cond_ok {cs : List Int} {rest S : Sto} {c : Nat} {many back way k : Int} {x1 x2 x4 x5 x9 x10 x11 x12 x13 x14 x15 : Option W} (h : Dw cs rest c S) (hc : c + 10 < 2 ^ 39) :
    ∃ (b : Bool) (S' : Sto), pCond [some (.ref 0), x1, x2, some (.d (.int many)), x4, x5, some (.d (.int back)), some (.d (.int k)), some (.d (.int way)), x9, x10, x11, x12, x13, x14, x15] S = .ok b S' ∧ Dw cs rest (c + 1) S' := by
  by_cases h1 : way = 0
  · exact ⟨true, S, by simp [h1], h.mono (by omega)⟩
  by_cases h2 : k = many - 1
  · by_cases h3 : back = 0
    · exact ⟨true, S, by simp [h1, h2, h3], h.mono (by omega)⟩
    · obtain ⟨r, S1, e1, r0, r1, h4⟩ := next_ok (many := 4) h (by omega) (by decide) (by decide)
      exact ⟨decide (0 < r), S1, by simp [h1, h2, h3, e1], h4⟩
  · exact ⟨false, S, by simp [h1, h2], h.mono (by omega)⟩
abbrev pEnd : FS := sExpr (fMeth isLstR opApp (fVar 5) (fCons (fTup (fCons (fC (.str "end")) fNil)) fNil))
abbrev pElse : FS := sIf (toT (fBin opLt (fVar 8) (fC (.int 4)))) (sSeq (sSet 11 (fBin opIx (fVar 4) (fApp F__law_next (fCons (fVar 0) (fCons (fC (.int 3)) fNil)))))
  (sExpr (fMeth isLstR opApp (fVar 5) (fCons (fTup (fCons (fC (.str "do")) (fCons (fVar 11) (fCons (eIf (toT (fBin opGt (fApp F__law_next (fCons (fVar 0) (fCons (fC (.int 3)) fNil))) (fC (.int 0)))) (fVar 9) (fBin opAdd (fVar 10) (fApp F__law_next (fCons (fVar 0) (fCons (fBin opSub (fVar 3) (fVar 10)) fNil))))) fNil)))) fNil)))) (sSeq (sAsg (gT 2 (gsCons (gN 12) (gsCons (gN 13) gsNil))) (fBin opIx (fVar 1) (fApp F__law_next (fCons (fVar 0) (fCons (fCall opLen (fCons (fVar 1) fNil)) fNil)))))
  (sSeq (sSet 14 (fLc (iRange1 (fCons (fBin opAdd (fVar 13) (fC (.int 1))) fNil)) (gN 15) tTrue (eIf (toT (fBin opEq (fApp F__law_next (fCons (fVar 0) (fCons (fC (.int 3)) fNil))) (fC (.int 0)))) (fVar 9) (fBin opAdd (fVar 10) (fApp F__law_next (fCons (fVar 0) (fCons (fBin opSub (fVar 3) (fVar 10)) fNil))))) [15]))
  (sExpr (fMeth isLstR opApp (fVar 5) (fCons (fTup (fCons (fC (.str "ask")) (fCons (fVar 12) (fCons (fCall (op1 tupleD) (fCons (fVar 14) fNil)) fNil)))) fNil)))))
abbrev pTurn : FS := (sSeq (sAsg (gT 2 (gsCons (gN 8) (gsCons (gN 9) gsNil))) (fTup (fCons (fApp F__law_next (fCons (fVar 0) (fCons (fC (.int 7)) fNil))) (fCons (fCall opMin2 (fCons (fBin opAdd (fVar 7) (fC (.int 1))) (fCons (fBin opSub (fVar 3) (fC (.int 1))) fNil))) fNil))))
  (sSeq (sSet 10 (fBin opMul (fVar 9) (fBin opSub (fC (.int 1)) (fVar 6)))) (sIf pCond pEnd pElse)))
abbrev plW (q : Plc) : W := .d (plD q)
theorem app_at {cs : List Int} {rest S : Sto} {c : Nat} {ws : List W} {d : D} (h : Dw cs (rest ++ [.lst ws]) c S) (hw : ws.length < 1000) :
    opApp (.ref (rest.length + 1)) [.d d] S = .ok (.d .non) (S.set (rest.length + 1) (.lst (ws ++ [.d d]))) ∧ isLstR (.ref (rest.length + 1)) S = true ∧ (ws.all isD = true → Dw cs (rest ++ [.lst (ws ++ [.d d])]) c (S.set (rest.length + 1) (.lst (ws ++ [.d d])))) := by
  have t : S[rest.length + 1]? = some (.lst ws) := by rw [h.get]; simp
  refine ⟨?_, ?_, fun hp => ?_⟩
  · have : ws.length < sizeLine := by rw [sizeLine_eq]; omega
    simp [opApp, t, this]
  · simp [isLstR, t]
  · have := h.set (j := rest.length) (o := .lst (ws ++ [.d d])) (by simp [pln, List.all_append, hp, isD])
    rw [List.set_append_right _ _ (Nat.le_refl _)] at this
    simpa using this
theorem pl_end {ps : List (Str × Int)} {cs : List Int} {rest S : Sto} {c : Nat} {many k near low : Nat} {back way : Int} {zs : List Str} {qs : List Plc} {x2 x11 x12 x13 x14 x15 : Option W} (hq : qs.length ≤ 100) (h3 : Dw cs (rest ++ [.lst (qs.map plW)]) c S) : ∃ (q : Plc) (S' : Sto) (y8 y9 y10 y11 y12 y13 y14 y15 : Option W), pEnd [some (.ref 0), some (.d (.tup (ps.map mkS))), x2, some (.d (iD many)), some (.d (.lst (zs.map D.str))), some (.ref (rest.length + 1)), some (.d (.int back)), some (.d (.int (0 + (k : Int)))), some (.d (.int way)), some (.d (iD near)), some (.d (iD low)), x11, x12, x13, x14, x15] S = .nx [some (.ref 0), some (.d (.tup (ps.map mkS))), x2, some (.d (iD many)), some (.d (.lst (zs.map D.str))), some (.ref (rest.length + 1)), some (.d (.int back)), some (.d (.int (0 + (k : Int)))), y8, y9, y10, y11, y12, y13, y14, y15] S' ∧ Dw cs (rest ++ [.lst ((qs ++ [q]).map plW)]) (c + 11) S' ∧ GoodPl ps many q := by
  have hall : (qs.map plW).all isD = true := by simp [isD]
  have hlen : (qs.map plW).length < 1000 := by rw [List.length_map]; omega
  have mp : ∀ q : Plc, (qs ++ [q]).map plW = qs.map plW ++ [.d (plD q)] := fun q => by simp
  obtain ⟨e4, e5, h4⟩ := app_at (d := plD .fin) h3 hlen
  refine ⟨.fin, _, some (.d (.int way)), some (.d (iD near)), some (.d (iD low)), x11, x12, x13, x14, x15, ?_, by rw [mp]; exact (h4 hall).mono (by omega), trivial⟩
  have e4 : opApp (.ref (rest.length + 1)) [.d (.tup [.str "end"])] S = _ := e4
  simp [fMeth, e5, e4, sizeLine_eq]
theorem pl_act {ps : List (Str × Int)} {cs : List Int} {rest S : Sto} {c : Nat} {many k near low : Nat} {back way : Int} {zs : List Str} {qs : List Plc} {x2 x11 x12 x13 x14 x15 : Option W} (hp : Okp ps) (hz : zs.length = 3) (hzn : ∀ z ∈ zs, isNm z = true) (hk : k < many) (hm : many ≤ 100) (n1 : near < many) (l1 : low < many) (h4 : way < 4) (hq : qs.length ≤ 100) (h3 : Dw cs (rest ++ [.lst (qs.map plW)]) c S) (hc : c + 15 < 2 ^ 39) : ∃ (q : Plc) (S' : Sto) (y8 y9 y10 y11 y12 y13 y14 y15 : Option W), pElse [some (.ref 0), some (.d (.tup (ps.map mkS))), x2, some (.d (iD many)), some (.d (.lst (zs.map D.str))), some (.ref (rest.length + 1)), some (.d (.int back)), some (.d (.int (0 + (k : Int)))), some (.d (.int way)), some (.d (iD near)), some (.d (iD low)), x11, x12, x13, x14, x15] S = .nx [some (.ref 0), some (.d (.tup (ps.map mkS))), x2, some (.d (iD many)), some (.d (.lst (zs.map D.str))), some (.ref (rest.length + 1)), some (.d (.int back)), some (.d (.int (0 + (k : Int)))), y8, y9, y10, y11, y12, y13, y14, y15] S' ∧ Dw cs (rest ++ [.lst ((qs ++ [q]).map plW)]) (c + 11) S' ∧ GoodPl ps many q := by
  have hall : (qs.map plW).all isD = true := by simp [isD]
  have hlen : (qs.map plW).length < 1000 := by rw [List.length_map]; omega
  have mp : ∀ q : Plc, (qs ++ [q]).map plW = qs.map plW ++ [.d (plD q)] := fun q => by simp
  obtain ⟨r, S3, e5, r0, r1, h5⟩ := next_ok (many := 3) h3 (by omega) (by decide) (by decide)
  obtain ⟨d, hd1, hd2, _⟩ := atI_mem (xs := zs.map D.str) r0 (by rw [List.length_map, hz]; exact r1)
  obtain ⟨z, hz1, rfl⟩ := List.mem_map.mp hd2
  obtain ⟨t, S4, e6, t1, h6⟩ := tgtA (x1 := some (.d (.tup (ps.map mkS)))) (x2 := x2) (x4 := some (.d (.lst (zs.map D.str)))) (x5 := some (.ref (rest.length + 1))) (x6 := some (.d (.int back))) (x7 := some (.d (.int (0 + (k : Int))))) (x8 := some (.d (.int way))) (many := many) (near := near) (low := low) (x11 := some (.d (.str z))) (x12 := x12) (x13 := x13) (x14 := x14) (x15 := x15) h5 (by omega) n1 l1 (by omega)
  obtain ⟨e7, _, h7⟩ := app_at (d := plD (.act z t)) h6 hlen
  have e8 := (app_at (d := plD .fin) h5 hlen).2.1
  refine ⟨.act z t, _, some (.d (.int way)), some (.d (iD near)), some (.d (iD low)), some (.d (.str z)), x12, x13, x14, x15, ?_, by rw [mp]; exact (h7 hall).mono (by omega), hzn z hz1, t1⟩
  have e7 : opApp (.ref (rest.length + 1)) [.d (.tup [.str "do", .str z, iD t])] S4 = _ := e7
  unfold pElse
  rw [e_if]
  simp only [e_toT, e_bin, e_var, List.getElem?_cons_succ, List.getElem?_cons_zero, e_c, bind_ok, o_lt, e_toB, st_ok, decide_eq_true h4, if_true, e_seq, e_set, e_app, e_cons, e_nil, e5, o_ixLi, hd1, go_nx, List.set_cons_succ, List.set_cons_zero, e_expr, fMeth, e8, e_tup, e6, dats_d, dats_nil, Option.map_some, List.length_cons, List.length_nil, e7]
  rw [if_pos (by rw [sizeLine_eq]; decide)]
  simp only [bind_ok, e7, st_ok]
theorem pl_ask {ps : List (Str × Int)} {cs : List Int} {rest S : Sto} {c : Nat} {many k near low : Nat} {back way : Int} {zs : List Str} {qs : List Plc} {x2 x11 x12 x13 x14 x15 : Option W} (hp : Okp ps) (hk : k < many) (hm : many ≤ 100) (n1 : near < many) (l1 : low < many) (h4 : ¬ way < 4) (hq : qs.length ≤ 100) (h3 : Dw cs (rest ++ [.lst (qs.map plW)]) c S) (hc : c + 15 < 2 ^ 39) : ∃ (q : Plc) (S' : Sto) (y8 y9 y10 y11 y12 y13 y14 y15 : Option W), pElse [some (.ref 0), some (.d (.tup (ps.map mkS))), x2, some (.d (iD many)), some (.d (.lst (zs.map D.str))), some (.ref (rest.length + 1)), some (.d (.int back)), some (.d (.int (0 + (k : Int)))), some (.d (.int way)), some (.d (iD near)), some (.d (iD low)), x11, x12, x13, x14, x15] S = .nx [some (.ref 0), some (.d (.tup (ps.map mkS))), x2, some (.d (iD many)), some (.d (.lst (zs.map D.str))), some (.ref (rest.length + 1)), some (.d (.int back)), some (.d (.int (0 + (k : Int)))), y8, y9, y10, y11, y12, y13, y14, y15] S' ∧ Dw cs (rest ++ [.lst ((qs ++ [q]).map plW)]) (c + 11) S' ∧ GoodPl ps many q := by
  have hall : (qs.map plW).all isD = true := by simp [isD]
  have hlen : (qs.map plW).length < 1000 := by rw [List.length_map]; omega
  have mp : ∀ q : Plc, (qs ++ [q]).map plW = qs.map plW ++ [.d (plD q)] := fun q => by simp
  obtain ⟨r, S3, e5, r0, r1, h5⟩ := next_ok (many := (ps.length : Int)) h3 (by omega) (by have := hp.l1; omega) (by have := hp.l3; omega)
  obtain ⟨d, hd1, hd2, _⟩ := atI_mem (xs := ps.map mkS) r0 (by rw [List.length_map]; exact r1)
  obtain ⟨p, hp1, rfl⟩ := List.mem_map.mp hd2
  have hpg := hp.good p hp1
  obtain ⟨ys, S4, e6, h6, l6, p6⟩ := compL_dw (g := gN 15) (f := eIf (toT (fBin opEq (fApp F__law_next (fCons (fVar 0) (fCons (fC (.int 3)) fNil))) (fC (.int 0)))) (fVar 9) (fBin opAdd (fVar 10) (fApp F__law_next (fCons (fVar 0) (fCons (fBin opSub (fVar 3) (fVar 10)) fNil)))))
    (ρ := [some (.ref 0), some (.d (.tup (ps.map mkS))), x2, some (.d (iD many)), some (.d (.lst (zs.map D.str))), some (.ref (rest.length + 1)), some (.d (.int back)), some (.d (.int (0 + (k : Int)))), some (.d (.int way)), some (.d (iD near)), some (.d (iD low)), x11, some (.d (.str p.1)), some (.d (.int p.2)), x14, none]) 2 (fun d => ∃ t : Nat, d = iD t ∧ t < many) (rangeD 0 (p.2 + 1).toNat) [] _ S3 h5 (by rw [range_len, sizeLine_eq]; simp; omega) (by rw [range_len]; omega) (by
      intro d hd c' S' hS hc'
      obtain ⟨t, S4, e6, t1, h6⟩ := tgtB (x1 := some (.d (.tup (ps.map mkS)))) (x2 := x2) (x4 := some (.d (.lst (zs.map D.str)))) (x5 := some (.ref (rest.length + 1))) (x6 := some (.d (.int back))) (x7 := some (.d (.int (0 + (k : Int))))) (x8 := some (.d (.int way))) (many := many) (near := near) (low := low) (x11 := x11) (x12 := some (.d (.str p.1))) (x13 := some (.d (.int p.2))) (x14 := x14) (x15 := some (.d d)) hS (by omega) n1 l1 (by omega)
      exact ⟨_, iD t, S4, rfl, e6, h6, t, rfl, t1⟩)
  obtain ⟨ts, rfl, hts⟩ : ∃ ts : List Nat, ys = ts.map iD ∧ ∀ t ∈ ts, t < many := by
    clear e6 h6 l6
    induction ys with
    | nil => exact ⟨[], rfl, fun _ h => nomatch h⟩
    | cons y ys ih =>
      obtain ⟨t, rfl, ht⟩ := p6 y List.mem_cons_self
      obtain ⟨ts, rfl, hts⟩ := ih fun x hx => p6 x (List.mem_cons_of_mem _ hx)
      refine ⟨t :: ts, rfl, fun x hx => ?_⟩
      rcases List.mem_cons.mp hx with rfl | hx
      · exact ht
      · exact hts x hx
  rw [List.length_map, range_len] at l6
  rw [range_len] at h6
  rw [List.nil_append] at e6
  obtain ⟨e7, e8, h7⟩ := app_at (d := plD (.ask p.1 ts)) h6 hlen
  refine ⟨.ask p.1 ts, _, some (.d (.int way)), some (.d (iD near)), some (.d (iD low)), x11, some (.d (.str p.1)), some (.d (.int p.2)), some (.d (.lst (ts.map iD))), x15, ?_, by rw [mp]; exact (h7 hall).mono (by omega), p.2, hp1, by omega, hts⟩
  have e7 : opApp (.ref (rest.length + 1)) [.d (.tup [.str "ask", .str p.1, .tup (ts.map iD)])] S4 = _ := e7
  have hrng : (-(2 ^ 62) ≤ p.2 + 1 ∧ p.2 + 1 < 2 ^ 62) := by constructor <;> omega
  unfold pElse
  rw [e_if]
  simp only [e_toT, e_bin, e_var, List.getElem?_cons_succ, List.getElem?_cons_zero, e_c, bind_ok, o_lt, e_toB, st_ok, decide_eq_false h4, if_false, Bool.false_eq_true, e_seq, e_set, e_app, e_cons, e_nil, e_call, o_lenT, List.length_map, e5, o_ixT, hd1, go_nx, List.set_cons_succ, List.set_cons_zero, e_asg, e_gT, e_gsC, e_gN, e_gsN, Option.bind_some, List.length_cons, List.length_nil, if_true, e_lc, e_range1, o_addI]
  rw [if_pos hrng]
  simp only [bind_ok, wipeL, List.set_cons_succ, List.set_cons_zero, e6, st_ok, go_nx, e_expr, fMeth, e_var, List.getElem?_cons_succ, List.getElem?_cons_zero, e8, if_true, e_cons, e_tup, e_c, e_call, e_nil, o_tuple, dats_d, dats_nil, Option.map_some, List.length_cons, List.length_nil]
  rw [if_pos (by rw [sizeLine_eq]; decide)]
  simp only [bind_ok, e7, st_ok]
theorem low_set {om : Op2} {ps : List (Str × Int)} {S1 : Sto} {x2 x4 x5 x7 x8 x10 x11 x12 x13 x14 x15 : Option W} {many near low : Nat} {back : Int} (e2 : om (.d (.int (near : Int))) (.d (.int (1 - back))) S1 = .ok (.d (.int (low : Int))) S1) :
    sSet 10 (fBin om (fVar 9) (fBin opSub (fC (.int 1)) (fVar 6))) [some (.ref 0), some (.d (.tup (ps.map mkS))), x2, some (.d (iD many)), x4, x5, some (.d (.int back)), x7, x8, some (.d (iD near)), x10, x11, x12, x13, x14, x15] S1 =
      .nx [some (.ref 0), some (.d (.tup (ps.map mkS))), x2, some (.d (iD many)), x4, x5, some (.d (.int back)), x7, x8, some (.d (iD near)), some (.d (iD low)), x11, x12, x13, x14, x15] S1 := by
  simp [e2]
theorem place_turn {ps : List (Str × Int)} {cs : List Int} {rest S : Sto} {c : Nat} {many k : Nat} {back : Int} {zs : List Str} {qs : List Plc} {x2 x8 x9 x10 x11 x12 x13 x14 x15 : Option W} (hp : Okp ps) (hz : zs.length = 3) (hzn : ∀ z ∈ zs, isNm z = true)
    (hb : back = 0 ∨ back = 1) (hk : k < many) (hm : many ≤ 100) (hq : qs.length ≤ 100) (h : Dw cs (rest ++ [.lst (qs.map plW)]) c S) (hc : c + 20 < 2 ^ 39) :
    ∃ (q : Plc) (S' : Sto) (y8 y9 y10 y11 y12 y13 y14 y15 : Option W), pTurn [some (.ref 0), some (.d (.tup (ps.map mkS))), x2, some (.d (iD many)), some (.d (.lst (zs.map D.str))), some (.ref (rest.length + 1)), some (.d (.int back)), some (.d (.int (0 + (k : Int)))), x8, x9, x10, x11, x12, x13, x14, x15] S =
      .nx [some (.ref 0), some (.d (.tup (ps.map mkS))), x2, some (.d (iD many)), some (.d (.lst (zs.map D.str))), some (.ref (rest.length + 1)), some (.d (.int back)), some (.d (.int (0 + (k : Int)))), y8, y9, y10, y11, y12, y13, y14, y15] S' ∧ Dw cs (rest ++ [.lst ((qs ++ [q]).map plW)]) (c + 13) S' ∧ GoodPl ps many q := by
  obtain ⟨way, S1, e1, w0, w1, h1⟩ := next_ok (many := 7) h (by omega) (by decide) (by decide)
  obtain ⟨near, hnear, n1⟩ : ∃ near : Nat, (if (many : Int) - 1 < (0 + (k : Int)) + 1 then (many : Int) - 1 else (0 + (k : Int)) + 1) = near ∧ near < many := by
    split
    · exact ⟨many - 1, by omega, by omega⟩
    · exact ⟨k + 1, by omega, by omega⟩
  obtain ⟨low, hlow, l1⟩ : ∃ low : Nat, (near : Int) * (1 - back) = low ∧ low < many := by
    rcases hb with rfl | rfl
    · exact ⟨near, by omega, n1⟩
    · exact ⟨0, by omega, by omega⟩
  have e2 := o_mulI (i := (near : Int)) (j := 1 - back) (S := S1) (by rcases hb with rfl | rfl <;> constructor <;> omega)
  rw [hlow] at e2
  obtain ⟨b, S2, e3, h3⟩ := cond_ok (x1 := some (.d (.tup (ps.map mkS)))) (x2 := x2) (x4 := some (.d (.lst (zs.map D.str)))) (x5 := some (.ref (rest.length + 1))) (many := (many : Int)) (back := back) (k := 0 + (k : Int)) (way := way) (x9 := some (.d (iD near))) (x10 := some (.d (iD low))) (x11 := x11) (x12 := x12) (x13 := x13) (x14 := x14) (x15 := x15) h1 (by omega)
  -- up to the test
  have start : pTurn [some (.ref 0), some (.d (.tup (ps.map mkS))), x2, some (.d (iD many)), some (.d (.lst (zs.map D.str))), some (.ref (rest.length + 1)), some (.d (.int back)), some (.d (.int (0 + (k : Int)))), x8, x9, x10, x11, x12, x13, x14, x15] S =
      (if b = true then pEnd else pElse) [some (.ref 0), some (.d (.tup (ps.map mkS))), x2, some (.d (iD many)), some (.d (.lst (zs.map D.str))), some (.ref (rest.length + 1)), some (.d (.int back)), some (.d (.int (0 + (k : Int)))), some (.d (.int way)), some (.d (iD near)), some (.d (iD low)), x11, x12, x13, x14, x15] S2 := by
    unfold pTurn
    rw [e_seq]
    have a1 : sAsg (gT 2 (gsCons (gN 8) (gsCons (gN 9) gsNil))) (fTup (fCons (fApp F__law_next (fCons (fVar 0) (fCons (fC (.int 7)) fNil))) (fCons (fCall opMin2 (fCons (fBin opAdd (fVar 7) (fC (.int 1))) (fCons (fBin opSub (fVar 3) (fC (.int 1))) fNil))) fNil))) [some (.ref 0), some (.d (.tup (ps.map mkS))), x2, some (.d (iD many)), some (.d (.lst (zs.map D.str))), some (.ref (rest.length + 1)), some (.d (.int back)), some (.d (.int (0 + (k : Int)))), x8, x9, x10, x11, x12, x13, x14, x15] S =
      .nx [some (.ref 0), some (.d (.tup (ps.map mkS))), x2, some (.d (iD many)), some (.d (.lst (zs.map D.str))), some (.ref (rest.length + 1)), some (.d (.int back)), some (.d (.int (0 + (k : Int)))), some (.d (.int way)), some (.d (iD near)), x10, x11, x12, x13, x14, x15] S1 := by
      rw [show iD near = D.int (near : Int) from rfl, ← hnear]
      simp [-Int.zero_add, e1, sizeLine_eq]
    rw [a1, go_nx, e_seq]
    have a2 := low_set (ps := ps) (x2 := x2) (x4 := some (.d (.lst (zs.map D.str)))) (x5 := some (.ref (rest.length + 1))) (x7 := some (.d (.int (0 + (k : Int))))) (x8 := some (.d (.int way))) (x10 := x10) (x11 := x11) (x12 := x12) (x13 := x13) (x14 := x14) (x15 := x15) (many := many) e2
    rw [a2, go_nx, e_if, e3, st_ok]
    cases b <;> simp only [if_true, if_false, Bool.false_eq_true]
  rw [start]
  cases b with
  | true =>
    obtain ⟨q, S', y8, y9, y10, y11, y12, y13, y14, y15, e, h', g⟩ := pl_end (ps := ps) (cs := cs) (rest := rest) (many := many) (k := k) (near := near) (low := low) (back := back) (way := way) (zs := zs) (x2 := x2) (x11 := x11) (x12 := x12) (x13 := x13) (x14 := x14) (x15 := x15) hq h3
    refine ⟨q, S', y8, y9, y10, y11, y12, y13, y14, y15, ?_, h'.mono (by omega), g⟩
    simp only [if_true]
    exact e
  | false =>
    by_cases h4 : way < 4
    · obtain ⟨q, S', y8, y9, y10, y11, y12, y13, y14, y15, e, h', g⟩ := pl_act (ps := ps) (cs := cs) (rest := rest) (many := many) (k := k) (near := near) (low := low) (back := back) (way := way) (zs := zs) (x2 := x2) (x11 := x11) (x12 := x12) (x13 := x13) (x14 := x14) (x15 := x15) hp hz hzn hk hm n1 l1 h4 hq h3 (by omega)
      refine ⟨q, S', y8, y9, y10, y11, y12, y13, y14, y15, ?_, h'.mono (by omega), g⟩
      simp only [if_false, Bool.false_eq_true]
      exact e
    · obtain ⟨q, S', y8, y9, y10, y11, y12, y13, y14, y15, e, h', g⟩ := pl_ask (ps := ps) (cs := cs) (rest := rest) (many := many) (k := k) (near := near) (low := low) (back := back) (way := way) (zs := zs) (x2 := x2) (x11 := x11) (x12 := x12) (x13 := x13) (x14 := x14) (x15 := x15) hp hk hm n1 l1 h4 hq h3 (by omega)
      refine ⟨q, S', y8, y9, y10, y11, y12, y13, y14, y15, ?_, h'.mono (by omega), g⟩
      simp only [if_false, Bool.false_eq_true]
      exact e
end K06
namespace K06
open PySem Ev
open L2 (atI ixN)
theorem place_loop {ps : List (Str × Int)} {cs : List Int} {rest : Sto} {many : Nat} {back : Int} {zs : List Str} {x2 : Option W} (hp : Okp ps) (hz : zs.length = 3) (hzn : ∀ z ∈ zs, isNm z = true) (hb : back = 0 ∨ back = 1) (hm : many ≤ 100) :
    ∀ (n k : Nat) (qs : List Plc) (c : Nat) (S : Sto) (x7 x8 x9 x10 x11 x12 x13 x14 x15 : Option W), k + n = many → qs.length = k → (∀ q ∈ qs, GoodPl ps many q) → Dw cs (rest ++ [.lst (qs.map plW)]) c S → c + 13 * n + 20 < 2 ^ 39 →
    ∃ (qs' : List Plc) (S' : Sto) (y7 y8 y9 y10 y11 y12 y13 y14 y15 : Option W), loop (turn (gN 7) pTurn) ((List.range' k n).map fun k : Nat => D.int (0 + (k : Int))) [some (.ref 0), some (.d (.tup (ps.map mkS))), x2, some (.d (iD many)), some (.d (.lst (zs.map D.str))), some (.ref (rest.length + 1)), some (.d (.int back)), x7, x8, x9, x10, x11, x12, x13, x14, x15] S =
      .nx [some (.ref 0), some (.d (.tup (ps.map mkS))), x2, some (.d (iD many)), some (.d (.lst (zs.map D.str))), some (.ref (rest.length + 1)), some (.d (.int back)), y7, y8, y9, y10, y11, y12, y13, y14, y15] S' ∧ Dw cs (rest ++ [.lst (qs'.map plW)]) (c + 13 * n) S' ∧ qs'.length = many ∧ ∀ q ∈ qs', GoodPl ps many q
  | 0, k, qs, c, S, x7, x8, x9, x10, x11, x12, x13, x14, x15, hk, hq, hg, h, hc => ⟨qs, S, x7, x8, x9, x10, x11, x12, x13, x14, x15, rfl, h, by omega, hg⟩
  | n + 1, k, qs, c, S, x7, x8, x9, x10, x11, x12, x13, x14, x15, hk, hq, hg, h, hc => by
    obtain ⟨q, S1, y8, y9, y10, y11, y12, y13, y14, y15, e1, h1, g1⟩ := place_turn (k := k) (x2 := x2) (x8 := x8) (x9 := x9) (x10 := x10) (x11 := x11) (x12 := x12) (x13 := x13) (x14 := x14) (x15 := x15) hp hz hzn hb (by omega) hm (by omega) h (by omega)
    obtain ⟨qs', S2, z7, z8, z9, z10, z11, z12, z13, z14, z15, e2, h2, l2, g2⟩ := place_loop (x2 := x2) hp hz hzn hb hm n (k + 1) (qs ++ [q]) (c + 13) S1 (some (.d (.int (0 + (k : Int))))) y8 y9 y10 y11 y12 y13 y14 y15 (by omega) (by rw [List.length_append, List.length_cons, List.length_nil]; omega) (fun x hx => by
      rcases List.mem_append.mp hx with hx | hx
      · exact hg x hx
      · rw [List.mem_singleton.mp hx]; exact g1) h1 (by omega)
    refine ⟨qs', S2, z7, z8, z9, z10, z11, z12, z13, z14, z15, ?_, h2.mono (by omega), l2, g2⟩
    rw [List.range'_succ, List.map_cons, loop_cons, ← e2]
    have e3 : turn (gN 7) pTurn (D.int (0 + (k : Int))) [some (.ref 0), some (.d (.tup (ps.map mkS))), x2, some (.d (iD many)), some (.d (.lst (zs.map D.str))), some (.ref (rest.length + 1)), some (.d (.int back)), x7, x8, x9, x10, x11, x12, x13, x14, x15] S = _ := e1
    rw [e3, lp_nx]
theorem places_okM {ps : List (Str × Int)} {cs : List Int} {rest S : Sto} {c : Nat} {most : Int} (hp : Okp ps) (h : Dw cs rest c S) (hc : c + 300 < 2 ^ 39) (m1 : 1 ≤ most) (m2 : most ≤ 16) :
    ∃ (qs : List Plc) (S' : Sto), F__law_places [.ref 0, .d (.tup (ps.map mkS)), .d (.int most)] S = .ok (.d (.tup (qs.map plD))) S' ∧ Dw cs rest (c + 250) S' ∧ 1 ≤ qs.length ∧ qs.length ≤ 16 ∧ (∀ q ∈ qs, GoodPl ps qs.length q) ∧ (qs.length : Int) ≤ most := by
  suffices q : ∃ (qs : List Plc) (S' : Sto), s__law_places [some (.ref 0), some (.d (.tup (ps.map mkS))), some (.d (.int most)), none, none, none, none, none, none, none, none, none, none, none, none, none] S = .rt (.d (.tup (qs.map plD))) S' ∧ Dw cs (rest ++ [.lst (qs.map plW)]) (c + 250) S' ∧ 1 ≤ qs.length ∧ qs.length ≤ 16 ∧ (∀ q ∈ qs, GoodPl ps qs.length q) ∧ (qs.length : Int) ≤ most by
    obtain ⟨qs, S1, e, h1, q⟩ := q
    obtain ⟨S2, e2, h2⟩ := called_drawM (f := bodyF 16 s__law_places) (ws := [.ref 0, .d (.tup (ps.map mkS)), .d (.int most)]) rfl h (body_rt e) h1
    exact ⟨qs, S2, e2, h2, q⟩
  obtain ⟨r, S1, e1, r0, r1, h1⟩ := next_ok (many := most) h (by omega) (by omega) (by omega)
  obtain ⟨zs, S2, e2, h2, l2, _, p2⟩ := names_ok (many := 3) h1 (by omega) (by decide) (by decide)
  have h3 := h2.push (o := .lst (([] : List Plc).map plW)) rfl
  obtain ⟨back, S3, e3, b0, b1, h4⟩ := next_ok (many := 2) h3 (by omega) (by decide) (by decide)
  obtain ⟨many, hmany, hm1, hm2⟩ : ∃ many : Nat, 1 + r = (many : Int) ∧ 1 ≤ many ∧ many ≤ 16 := ⟨(1 + r).toNat, by omega, by omega, by omega⟩
  obtain ⟨qs, S4, y7, y8, y9, y10, y11, y12, y13, y14, y15, e4, h5, l5, g5⟩ := place_loop (x2 := some (.d (.int most))) (many := many) hp l2 p2 (show back = 0 ∨ back = 1 by omega) (by omega) many 0 [] _ S3 none none none none none none none none none (by omega) rfl (fun _ h => nomatch h) h4 (by omega)
  have ln := h2.len
  have t5 : S4[rest.length + 1]? = some (.lst (qs.map plW)) := by rw [h5.get]; simp
  have dq : dats (qs.map plW) = some (qs.map plD) := by
    have := dats_map (qs.map plD)
    rw [List.map_map] at this
    exact this
  refine ⟨qs, S4, ?_, h5.mono (by omega), by omega, by omega, by rw [l5]; exact g5, by omega⟩
  unfold s__law_places
  have a1 : sAsg (gT 2 (gsCons (gN 3) (gsCons (gN 4) gsNil))) (fTup (fCons (fBin opAdd (fC (.int 1)) (fApp F__law_next (fCons (fVar 0) (fCons (fVar 2) fNil)))) (fCons (fApp F__law_names (fCons (fVar 0) (fCons (fC (.int 3)) fNil))) fNil))) [some (.ref 0), some (.d (.tup (ps.map mkS))), some (.d (.int most)), none, none, none, none, none, none, none, none, none, none, none, none, none] S =
    .nx [some (.ref 0), some (.d (.tup (ps.map mkS))), some (.d (.int most)), some (.d (iD many)), some (.d (.lst (zs.map D.str))), none, none, none, none, none, none, none, none, none, none, none] S2 := by
    simp [e1, e2, hmany, sizeLine_eq]
  rw [e_seq, a1, go_nx, e_seq]
  have a2 : sPar2 5 6 (fCons (fNewL fNil) (fCons (fApp F__law_next (fCons (fVar 0) (fCons (fC (.int 2)) fNil))) fNil)) [some (.ref 0), some (.d (.tup (ps.map mkS))), some (.d (.int most)), some (.d (iD many)), some (.d (.lst (zs.map D.str))), none, none, none, none, none, none, none, none, none, none, none] S2 =
    .nx [some (.ref 0), some (.d (.tup (ps.map mkS))), some (.d (.int most)), some (.d (iD many)), some (.d (.lst (zs.map D.str))), some (.ref (rest.length + 1)), some (.d (.int back)), none, none, none, none, none, none, none, none, none] S3 := by
    have e3 : nextF [.ref 0, .d (.int 2)] (S2 ++ [.lst []]) = .ok (.d (.int back)) S3 := e3
    simp [fNewL, e3, ln, sizeLine_eq]
  rw [a2, go_nx, e_seq]
  have a3 : sFor (iRange1 (fCons (fVar 3) fNil)) (gN 7) pTurn [some (.ref 0), some (.d (.tup (ps.map mkS))), some (.d (.int most)), some (.d (iD many)), some (.d (.lst (zs.map D.str))), some (.ref (rest.length + 1)), some (.d (.int back)), none, none, none, none, none, none, none, none, none] S3 =
    .nx [some (.ref 0), some (.d (.tup (ps.map mkS))), some (.d (.int most)), some (.d (iD many)), some (.d (.lst (zs.map D.str))), some (.ref (rest.length + 1)), some (.d (.int back)), y7, y8, y9, y10, y11, y12, y13, y14, y15] S4 := by
    exact (for_range (n := many) (S1 := S3) rfl (by omega)).trans e4
  rw [a3, go_nx]
  simp [op1, view, t5, dq, tupleD, seqD]
theorem places_ok {ps : List (Str × Int)} {cs : List Int} {rest S : Sto} {c : Nat} {most : Int} (hp : Okp ps) (h : Dw cs rest c S) (hc : c + 300 < 2 ^ 39) (m1 : 1 ≤ most) (m2 : most ≤ 16) :
    ∃ (qs : List Plc) (S' : Sto), F__law_places [.ref 0, .d (.tup (ps.map mkS)), .d (.int most)] S = .ok (.d (.tup (qs.map plD))) S' ∧ Dw cs rest (c + 250) S' ∧ 1 ≤ qs.length ∧ qs.length ≤ 16 ∧ ∀ q ∈ qs, GoodPl ps qs.length q := by
  obtain ⟨qs, S', a, b, c, d, e, _⟩ := places_okM hp h hc m1 m2
  exact ⟨qs, S', a, b, c, d, e⟩
theorem modes_ok {ps : List (Str × Int)} {cs : List Int} {rest S : Sto} {c : Nat} (hp : Okp ps) (h : Dw cs rest c S) (hc : c + 30 < 2 ^ 39) :
    ∃ (ws : List Str) (S' : Sto), F__law_modes [.ref 0, .d (.tup (ps.map mkS))] S = .ok (.d (.tup (ws.map D.str))) S' ∧ Dw cs rest (c + 3) S' ∧ ws.length = ps.length ∧ ∀ w ∈ ws, Mode w := by
  have l3 := hp.l3
  obtain ⟨ys, S1, e1, h1, l1, p1⟩ := compL_dw (g := gN 2) (f := fBin opIx (fLst (fCons (fC (.str "live")) (fCons (fC (.str "live")) (fCons (fC (.str "met")) (fCons (fC (.str "begin")) fNil))))) (fApp F__law_next (fCons (fVar 0) (fCons (fC (.int 4)) fNil))))
    (ρ := [some (.ref 0), some (.d (.tup (ps.map mkS))), none]) 1 (fun d => ∃ z, d = .str z ∧ Mode z) (ps.map mkS) [] c S h (by rw [List.length_map, sizeLine_eq]; simp; omega) (by rw [List.length_map]; omega) (by
      intro d hd c' S' hS hc'
      obtain ⟨r, S2, e2, r0, r1, h2⟩ := next_ok (many := 4) hS (by omega) (by decide) (by decide)
      obtain rfl | rfl | rfl | rfl : r = 0 ∨ r = 1 ∨ r = 2 ∨ r = 3 := by omega
      · exact ⟨_, .str "live", S2, rfl, by simp [e2, sizeLine_eq], h2, _, rfl, .inl rfl⟩
      · exact ⟨_, .str "live", S2, rfl, by simp [e2, sizeLine_eq], h2, _, rfl, .inl rfl⟩
      · exact ⟨_, .str "met", S2, rfl, by simp [-o_ixLi, e2, sizeLine_eq]; rfl, h2, _, rfl, .inr (.inl rfl)⟩
      · exact ⟨_, .str "begin", S2, rfl, by simp [-o_ixLi, e2, sizeLine_eq]; rfl, h2, _, rfl, .inr (.inr rfl)⟩)
  obtain ⟨ws, rfl, hw⟩ : ∃ ws : List Str, ys = ws.map D.str ∧ ∀ w ∈ ws, Mode w := by
    clear e1 h1 l1
    induction ys with
    | nil => exact ⟨[], rfl, fun _ h => nomatch h⟩
    | cons y ys ih =>
      obtain ⟨t, rfl, ht⟩ := p1 y List.mem_cons_self
      obtain ⟨ts, rfl, hts⟩ := ih fun x hx => p1 x (List.mem_cons_of_mem _ hx)
      refine ⟨t :: ts, rfl, fun x hx => ?_⟩
      rcases List.mem_cons.mp hx with rfl | hx
      · exact ht
      · exact hts x hx
  rw [List.length_map, List.length_map] at l1
  rw [List.length_map] at h1
  rw [List.nil_append] at e1
  have h1 : Dw cs rest (c + 3) S1 := h1.mono (by omega)
  refine ⟨ws, S1, called_draw (f := bodyF 3 s__law_modes) rfl h (body_rt ?_) h1, h1, l1, hw⟩
  show s__law_modes [some (.ref 0), some (.d (.tup (ps.map mkS))), none] S = _
  simp [s__law_modes, wipeL, e1]
end K06
namespace K06
open PySem Ev TL
open L2 (atI ixN Key)
abbrev kr1 : FS := (sSet 1 (fBin opIx (fLst (fCons (fTupF (fCons (fTup (fCons (fC (.str "a")) (fCons (fC (.int 1)) fNil))) (fCons (fTup (fCons (fC (.str "b")) (fCons (fC (.int 2)) fNil))) fNil))) (fCons (fTupF (fCons (fTup (fCons (fC (.str "b")) (fCons (fC (.int 2)) fNil))) (fCons (fTup (fCons (fC (.str "a")) (fCons (fC (.int 1)) fNil))) fNil))) (fCons (fTupF (fCons (fTup (fCons (fC (.str "a")) (fCons (fC (.int 1)) fNil))) (fCons (fTup (fCons (fC (.str "b")) (fCons (fC (.int 1)) fNil))) (fCons (fTup (fCons (fC (.str "self")) (fCons (fC (.int 1)) fNil))) fNil)))) fNil)))) (fApp F__law_next (fCons (fVar 0) (fCons (fC (.int 3)) fNil)))))
abbrev kr2 : FS := (sPar2 2 3 (fCons (fTup (fCons (fTup (fCons (fC (.str "end")) fNil)) fNil)) (fCons (fCall (op1 tupleD) (fCons (fLc (iTupl (fCo (fVar 1))) (gN 4) tTrue (fBin opIx (fLst (fCons (fC (.str "live")) (fCons (fC (.str "met")) (fCons (fC (.str "begin")) fNil)))) (fApp F__law_next (fCons (fVar 0) (fCons (fC (.int 3)) fNil)))) [4]) fNil)) fNil)))
abbrev kr3 : FS := (sSet 4 (fApp F_Request (fCons (fVar 1) (fCons (fVar 2) (fCons (fVar 3) fNil)))))
abbrev kr4 : FS := (sAsg (gT 2 (gsCons (gN 5) (gsCons (gN 6) gsNil))) (fTup (fCons (fLc (iTupl (fCo (fVar 1))) (gT 2 (gsCons (gN 7) (gsCons (gN 8) gsNil))) tTrue (fVar 7) [7, 8]) (fCons (fBin opIx (fLst (fCons (fC (.str "live")) (fCons (fC (.str "met")) (fCons (fC (.str "begin")) fNil)))) (fApp F__law_next (fCons (fVar 0) (fCons (fC (.int 3)) fNil)))) fNil))))
abbrev kr5 : FS := (sSet 9 (fCall (op1 tupleD) (fCons (fLc (iZip false true (fVar 5) (fVar 3)) (gT 2 (gsCons (gN 7) (gsCons (gN 10) gsNil))) tTrue (eIf (toT (fBin opEq (fVar 7) (fC (.str "a")))) (fVar 6) (fVar 10)) [7, 10]) fNil)))
abbrev kr6 : FS := (sIf (toT (fBin opNe (fTold F__law_told (fMtdW 4 "keeping" ["a"] F_Request_keeping (fVar 4) (fCons (fVar 6) fNil))) (fLst (fCons (fVar 9) (fCons (fVar 2) (fCons (fCo (fVar 1)) fNil)))))) (sRet (fC (.bl false))) sNext)
abbrev kr7 : FS := (sSet 11 (fCall (op1 tupleD) (fCons (fLc (iZip false true (fVar 5) (fVar 9)) (gT 2 (gsCons (gN 7) (gsCons (gN 10) gsNil))) tTrue (eIf (toT (fBin opEq (fVar 7) (fC (.str "b")))) (fC (.str "met")) (fVar 10)) [7, 10]) fNil)))
abbrev kr8 : FS := (sIf (toT (fBin opNe (fTold F__law_told (fMtdW 4 "keeping" ["b", "a"] F_Request_keeping (fVar 4) (fCons (fC (.str "met")) (fCons (fVar 6) fNil)))) (fLst (fCons (fVar 11) (fCons (fVar 2) (fCons (fCo (fVar 1)) fNil)))))) (sRet (fC (.bl false))) sNext)
abbrev kr9 : FS := (sIf (bOr (toT (fBin opNe (fTold F__law_told (fMtdW 4 "keeping" [] F_Request_keeping (fVar 4) fNil)) (fLst (fCons (fVar 3) (fCons (fVar 2) (fCons (fCo (fVar 1)) fNil)))))) (toT (fBin opNe (fFld 4 "modes" (fVar 4)) (fVar 3)))) (sRet (fC (.bl false))) sNext)
abbrev kr10 : FS := (sSet 12 (fLst (fCons (fTold F__law_told (fMtdW 4 "keeping" ["a", "c"] F_Request_keeping (fVar 4) (fCons (fC (.str "so")) (fCons (fC (.str "so")) fNil)))) (fCons (fTold F__law_told (fMtdW 4 "keeping" ["b", "a"] F_Request_keeping (fVar 4) (fCons (fC (.int 5)) (fCons (fC (.str "never")) fNil)))) fNil))))
abbrev kr11 : FS := (sRet (eAnd (fBin opEq (fVar 12) (fLst (fCons (fTup (fCons (fC (.str "missing")) (fCons (fC (.str "c")) fNil))) (fCons (fTup (fCons (fC (.str "modes")) (fCons (fC (.str "b")) fNil))) fNil)))) (fBin opEq (fTold F__law_told (fMtdW 4 "keeping" ["a"] F_Request_keeping (fVar 4) (fCons (fC .non) fNil))) (fTup (fCons (fC (.str "modes")) (fCons (fC (.str "a")) fNil))))))
abbrev krAll : FS := (sSeq kr1 (sSeq kr2 (sSeq kr3 (sSeq kr4 (sSeq kr5 (sSeq kr6 (sSeq kr7 (sSeq kr8 (sSeq kr9 (sSeq kr10 kr11))))))))))
def handL : List (List (Str × Int)) := [[("a", 1), ("b", 2)], [("b", 2), ("a", 1)], [("a", 1), ("b", 1), ("self", 1)]]
theorem hand_ok {ps : List (Str × Int)} (h : ps ∈ handL) : Okp ps ∧ ("a" : Str) ∈ ps.map (·.1) ∧ ("b" : Str) ∈ ps.map (·.1) ∧ ¬ ("c" : Str) ∈ ps.map (·.1) := by
  simp only [handL, List.mem_cons, List.not_mem_nil, or_false] at h
  rcases h with rfl | rfl | rfl
  all_goals exact ⟨wrong_okp (by decide +kernel), by decide +kernel, by decide +kernel, by decide +kernel⟩
theorem hand_at {r : Int} (h0 : 0 ≤ r) (h1 : r < 3) : ∃ ps ∈ handL, atI (handL.map fun p => D.ftp (p.map mkS)) r = some (.ftp (ps.map mkS)) := by
  obtain rfl | rfl | rfl : r = 0 ∨ r = 1 ∨ r = 2 := by omega
  · exact ⟨_, List.mem_cons_self, rfl⟩
  · exact ⟨_, List.mem_cons_of_mem _ List.mem_cons_self, rfl⟩
  · exact ⟨_, List.mem_cons_of_mem _ (List.mem_cons_of_mem _ List.mem_cons_self), rfl⟩
abbrev wordsL : List D := [.str "live", .str "met", .str "begin"]
theorem word_at {r : Int} (h0 : 0 ≤ r) (h1 : r < 3) : ∃ w : Str, Mode w ∧ atI wordsL r = some (.str w) := by
  obtain rfl | rfl | rfl : r = 0 ∨ r = 1 ∨ r = 2 := by omega
  · exact ⟨_, .inl rfl, rfl⟩
  · exact ⟨_, .inr (.inl rfl), rfl⟩
  · exact ⟨_, .inr (.inr rfl), rfl⟩
abbrev nextW : FE := fBin opIx (fLst (fCons (fC (.str "live")) (fCons (fC (.str "met")) (fCons (fC (.str "begin")) fNil)))) (fApp F__law_next (fCons (fVar 0) (fCons (fC (.int 3)) fNil)))
theorem next_word {cs : List Int} {rest S : Sto} {c : Nat} (h : Dw cs rest c S) (hc : c + 1 < 2 ^ 39) {ρ : List (Option W)} (h0 : ρ[0]? = some (some (.ref 0))) : ∃ w S', Mode w ∧ nextW ρ S = .ok (.d (.str w)) S' ∧ Dw cs rest (c + 1) S' := by
  obtain ⟨r, S1, e1, r0, r1, h1⟩ := next_ok (many := 3) h (by omega) (by decide) (by decide)
  obtain ⟨w, hw, ew⟩ := word_at r0 r1
  refine ⟨w, S1, hw, ?_, h1⟩
  have l : fLst (fCons (fC (.str "live")) (fCons (fC (.str "met")) (fCons (fC (.str "begin")) fNil))) ρ S = .ok (.d (.lst wordsL)) S := by simp [sizeLine_eq]
  unfold nextW
  rw [bin2 l ((app2 (varW h0) (x := .d (.int 3)) rfl).trans e1), o_ixLi, ew]
section
variable {ps : List (Str × Int)} {qs : List Plc} {ws : List Str} {word : Str}
theorem zip_again {α β : Type} (g : α × β → β) : ∀ (xs : List α) (ys : List β), xs.length = ys.length → xs.zip ((xs.zip ys).map g) = (xs.zip ys).map fun p => (p.1, g p)
  | [], _, _ => rfl
  | _ :: _, [], h => by cases h
  | x :: xs, y :: ys, h => by
    rw [List.zip_cons_cons, List.map_cons, List.map_cons, List.zip_cons_cons, zip_again g xs ys (by simpa using h)]
def exW (z word : Str) (names ws : List Str) : List Str := (names.zip ws).map fun p => if p.1 = z then word else p.2
theorem new_a : newW [("a", .str word)] ps ws = exW "a" word (ps.map (·.1)) ws := by
  refine List.map_congr_left fun p _ => ?_
  simp only [kvD, List.map_cons, List.map_nil, valF]
  by_cases h : p.1 = "a"
  · rw [if_pos h.symm, if_pos h]; rfl
  · rw [if_neg (fun e => h e.symm), if_neg h]; rfl
theorem new_b (hl : ws.length = ps.length) : newW [("b", .str "met"), ("a", .str word)] ps ws = exW "b" "met" (ps.map (·.1)) (exW "a" word (ps.map (·.1)) ws) := by
  have z := zip_again (fun p : Str × Str => if p.1 = "a" then word else p.2) (ps.map (·.1)) ws (by rw [List.length_map, hl])
  unfold exW
  rw [z, List.map_map]
  refine List.map_congr_left fun p _ => ?_
  simp only [kvD, List.map_cons, List.map_nil, valF, Function.comp]
  by_cases h : p.1 = "b"
  · rw [if_pos h.symm, if_pos h]; rfl
  · rw [if_neg (fun e => h e.symm), if_neg h]
    by_cases h : p.1 = "a"
    · rw [if_pos h.symm, if_pos h]; rfl
    · rw [if_neg (fun e => h e.symm), if_neg h]; rfl
theorem new_0 (hl : ws.length = ps.length) : newW [] ps ws = ws := by
  unfold newW
  simp only [kvD, List.map_nil, valF, Option.getD_none, strOf]
  exact List.map_snd_zip (by rw [List.length_map, hl]; exact Nat.le_refl _)
theorem ex_len {z : Str} (hl : ws.length = ps.length) : (exW z word (ps.map (·.1)) ws).length = ps.length := by
  simp only [exW, List.length_map, List.length_zip, hl, Nat.min_self]
theorem ex_mode {z : Str} {names : List Str} (hm : Mode word) (hw : ∀ w ∈ ws, Mode w) : ∀ w ∈ exW z word names ws, Mode w := fun w h => by
  obtain ⟨p, hp, rfl⟩ := List.mem_map.mp h
  by_cases q : p.1 = z
  · simp only [if_pos q]; exact hm
  · simp only [if_neg q]; exact hw _ (List.of_mem_zip hp).2
theorem mode_B (hm : Mode word) : modB (.str word) = true := by
  simp only [modB, decide_eq_true_eq]
  exact hm
theorem ex_run {ρ : List (Option W)} {S : Sto} {i j : Nat} {z : Str} {names : List Str} {fw : FE} (hi : ρ[i]? = some (some (.d (.lst (names.map D.str))))) (hj : ρ[j]? = some (some (.d (.tup (ws.map D.str))))) (hl : names.length ≤ 16777216)
    (hs : ∀ p : Str × Str, ∃ ρ1, gT 2 (gsCons (gN 7) (gsCons (gN 10) gsNil)) (.d (.tup [.str p.1, .str p.2])) (wipeL ρ [7, 10]) S = some ρ1 ∧ ρ1[7]? = some (some (.d (.str p.1))) ∧ ρ1[10]? = some (some (.d (.str p.2))) ∧ fw ρ1 S = .ok (.d (.str word)) S) :
    fCall (op1 tupleD) (fCons (fLc (iZip false true (fVar i) (fVar j)) (gT 2 (gsCons (gN 7) (gsCons (gN 10) gsNil))) tTrue (eIf (toT (fBin opEq (fVar 7) (fC (.str z)))) fw (fVar 10)) [7, 10]) fNil) ρ S = .ok (.d (.tup ((exW z word names ws).map D.str))) S := by
  have it : iZip false true (fVar i) (fVar j) ρ S = .ok ((names.zip ws).map fun p => D.tup [.str p.1, .str p.2]) S := by
    unfold iZip
    rw [varW hi, bind_ok, varW hj, bind_ok]
    simp only [pick, view, if_true, if_false, Bool.false_eq_true]
    rw [zip_strs]
  have cp := compL_map (g := gT 2 (gsCons (gN 7) (gsCons (gN 10) gsNil))) (f := eIf (toT (fBin opEq (fVar 7) (fC (.str z)))) fw (fVar 10)) (ρ := wipeL ρ [7, 10]) (S := S) (fun p : Str × Str => D.tup [.str p.1, .str p.2]) (fun p => D.str (if p.1 = z then word else p.2)) (names.zip ws)
    (by rw [List.length_zip]; omega) (fun p hp1 => by
      obtain ⟨ρ1, e1, e2, e3, e4⟩ := hs p
      refine ⟨ρ1, e1, ?_⟩
      rw [e_eif, e_toT, bin2 (varW e2) (x := .d (.str z)) rfl, o_eqS, bind_ok, e_toB, bind_ok]
      by_cases q : p.1 = z
      · rw [decide_eq_true q, if_pos rfl, e4, if_pos q]
      · rw [decide_eq_false q, if_neg (by simp), varW e3, if_neg q])
  have lc : fLc (iZip false true (fVar i) (fVar j)) (gT 2 (gsCons (gN 7) (gsCons (gN 10) gsNil))) tTrue (eIf (toT (fBin opEq (fVar 7) (fC (.str z)))) fw (fVar 10)) [7, 10] ρ S = .ok (.d (.lst ((exW z word names ws).map D.str))) S := by
    rw [e_lc, it, bind_ok, cp, bind_ok]
    unfold exW
    rw [List.map_map]
    rfl
  exact (call1 lc).trans o_tuple
abbrev finQ : List Plc := [.fin]
abbrev kF (x1 x2 x3 x4 x5 x6 x7 x8 x9 x10 x11 x12 : Option W) : List (Option W) := [some (.ref 0), x1, x2, x3, x4, x5, x6, x7, x8, x9, x10, x11, x12]
theorem pair_ok (z y : Str) (h : (z.cps.toList.all plC && y.cps.toList.all plC) = true) : eqOk (.tup [.str z, .str y]) = true := by
  rw [Bool.and_eq_true] at h
  exact gd_eqOk (k := 1) ⟨gd_str.mpr (plS_of h.1), gd_str.mpr (plS_of h.2), trivial⟩ (by decide) rfl
theorem fin_rq (hp : Okp ps) (hl : ws.length = ps.length) (hw : ∀ w ∈ ws, Mode w) : Rq ps finQ ws := ⟨by decide, by decide, fun q hq => by rw [List.mem_singleton.mp hq]; trivial, hl, hw⟩
theorem kept_ok {cs : List Int} {rest S : Sto} {c : Nat} (h : Dw cs rest c S) (hc : c + 100 < 2 ^ 39) :
    ∃ S', F__law_kept_right [.ref 0] S = .ok (.d (.bl true)) S' ∧ Dw cs rest (c + 10) S' := by
  obtain ⟨r, S1, e1, r0, r1, h1⟩ := next_ok (many := 3) h (by omega) (by decide) (by decide)
  obtain ⟨ps, hm, ea⟩ := hand_at r0 r1
  obtain ⟨hp, ia, ib, ic⟩ := hand_ok hm
  have l3 := hp.l3
  let P : Option W := some (.d (.ftp (ps.map mkS)))
  let Q : Option W := some (.d (.tup (finQ.map plD)))
  have a1 : kr1 (kF none none none none none none none none none none none none) S = .nx (kF P none none none none none none none none none none none) S1 := by
    have l : fLst (fCons (fTupF (fCons (fTup (fCons (fC (.str "a")) (fCons (fC (.int 1)) fNil))) (fCons (fTup (fCons (fC (.str "b")) (fCons (fC (.int 2)) fNil))) fNil))) (fCons (fTupF (fCons (fTup (fCons (fC (.str "b")) (fCons (fC (.int 2)) fNil))) (fCons (fTup (fCons (fC (.str "a")) (fCons (fC (.int 1)) fNil))) fNil))) (fCons (fTupF (fCons (fTup (fCons (fC (.str "a")) (fCons (fC (.int 1)) fNil))) (fCons (fTup (fCons (fC (.str "b")) (fCons (fC (.int 1)) fNil))) (fCons (fTup (fCons (fC (.str "self")) (fCons (fC (.int 1)) fNil))) fNil)))) fNil))) (kF none none none none none none none none none none none none) S = .ok (.d (.lst (handL.map fun p => D.ftp (p.map mkS)))) S := by
      simp [fTupF, sizeLine_eq, handL, mkS]
    unfold kr1
    rw [e_set, bin2 l ((app2 (w := .ref 0) rfl (x := .d (.int 3)) rfl).trans e1), o_ixLi, ea, st_ok]
    rfl
  obtain ⟨ys, S2, e2, h2, y1, y2⟩ := compL_dw (g := gN 4) (f := nextW) (ρ := wipeL (kF P none none none none none none none none none none none) [4]) 1 (fun d => ∃ w, d = .str w ∧ Mode w) (ps.map mkS) [] (c + 1) S1 h1 (by rw [List.length_map, sizeLine_eq]; simp; omega) (by rw [List.length_map]; omega) (by
    intro d hd c' S' hS hc'
    obtain ⟨w, S3, hw, e3, h3⟩ := next_word hS (by omega) (ρ := kF P none none (some (.d d)) none none none none none none none none) rfl
    exact ⟨_, _, S3, rfl, e3, h3, w, rfl, hw⟩)
  obtain ⟨ws, rfl, hw⟩ : ∃ ws : List Str, ys = ws.map D.str ∧ ∀ w ∈ ws, Mode w := by
    clear e2 h2 y1
    induction ys with
    | nil => exact ⟨[], rfl, fun _ h => nomatch h⟩
    | cons y ys ih =>
      obtain ⟨t, rfl, ht⟩ := y2 y List.mem_cons_self
      obtain ⟨ts, rfl, hts⟩ := ih fun x hx => y2 x (List.mem_cons_of_mem _ hx)
      refine ⟨t :: ts, rfl, fun x hx => ?_⟩
      rcases List.mem_cons.mp hx with rfl | hx
      · exact ht
      · exact hts x hx
  rw [List.length_map, List.length_map] at y1
  rw [List.length_map] at h2
  rw [List.nil_append] at e2
  have a := fin_rq hp y1 hw
  let N : Option W := some (.d (.tup (ws.map D.str)))
  have a2 : kr2 (kF P none none none none none none none none none none none) S1 = .nx (kF P Q N none none none none none none none none none) S2 := by
    have l : fLc (iTupl (fCo (fVar 1))) (gN 4) tTrue nextW [4] (kF P none none none none none none none none none none none) S1 = .ok (.d (.lst (ws.map D.str))) S2 := by
      rw [e_lc, show iTupl (fCo (fVar 1)) (kF P none none none none none none none none none none none) S1 = .ok (ps.map mkS) S1 from rfl, bind_ok, e2, bind_ok]
    have q : fTup (fCons (fTup (fCons (fC (.str "end")) fNil)) fNil) (kF P none none none none none none none none none none none) S1 = .ok (.d (.tup (finQ.map plD))) S1 := by
      simp [sizeLine_eq, plD]
    unfold kr2
    rw [e_par2, e_cons, q, bind_ok, e_cons, (call1 l).trans o_tuple, bind_ok, e_nil, bind_ok, bind_ok, st_ok]
    rfl
  let O : Option W := some (.d (rqD ps finQ ws))
  have a3 : kr3 (kF P Q N none none none none none none none none none) S2 = .nx (kF P Q N O none none none none none none none none) S2 := by
    unfold kr3
    rw [e_set, app3 (w := .d (.ftp (ps.map mkS))) (x := .d (.tup (finQ.map plD))) (y := .d (.tup (ws.map D.str))) rfl rfl rfl, request_ok hp a.l1 a.l2 a.hq a.hl a.hw, st_ok]
    rfl
  obtain ⟨word, S3, hm2, e3, h3⟩ := next_word h2 (by omega) (ρ := kF P Q N O none none none none none none none none) rfl
  let names : List Str := ps.map (·.1)
  let M : Option W := some (.d (.lst (names.map D.str)))
  let V : Option W := some (.d (.str word))
  have a4 : kr4 (kF P Q N O none none none none none none none none) S2 = .nx (kF P Q N O M V none none none none none none) S3 := by
    have cp := compL_map (g := gT 2 (gsCons (gN 7) (gsCons (gN 8) gsNil))) (f := fVar 7) (ρ := wipeL (kF P Q N O none none none none none none none none) [7, 8]) (S := S2) mkS (fun p => .str p.1) ps (by omega) (fun p hp1 => ⟨kF P Q N O none none (some (.d (.str p.1))) (some (.d (.int p.2))) none none none none, rfl, rfl⟩)
    have l : fLc (iTupl (fCo (fVar 1))) (gT 2 (gsCons (gN 7) (gsCons (gN 8) gsNil))) tTrue (fVar 7) [7, 8] (kF P Q N O none none none none none none none none) S2 = .ok (.d (.lst (names.map D.str))) S2 := by
      rw [e_lc, show iTupl (fCo (fVar 1)) (kF P Q N O none none none none none none none none) S2 = .ok (ps.map mkS) S2 from rfl, bind_ok, cp, bind_ok]
      show R.ok _ _ = R.ok (W.d (.lst ((ps.map (·.1)).map D.str))) S2
      rw [List.map_map]
      rfl
    unfold nextW at e3
    unfold kr4
    rw [e_asg, e_tup, e_cons, l, bind_ok, e_cons, e3, bind_ok, e_nil, bind_ok, bind_ok, bind_ok]
    simp only [dats_d, dats_nil, Option.map_some]
    rw [if_pos (by simp [sizeLine_eq]), st_ok]
    rfl
  have hE := h3.noE
  have hF := h3.noF
  let w1 := exW "a" word names ws
  let w2 := exW "b" "met" names w1
  let D1 : Option W := some (.d (.tup (w1.map D.str)))
  let D2 : Option W := some (.d (.tup (w2.map D.str)))
  have a5 : kr5 (kF P Q N O M V none none none none none none) S3 = .nx (kF P Q N O M V none none D1 none none none) S3 := by
    unfold kr5
    rw [e_set, ex_run (ws := ws) (names := names) (word := word) rfl rfl (by rw [List.length_map]; omega) (fun p => ⟨kF P Q N O M V (some (.d (.str p.1))) none none (some (.d (.str p.2))) none none, rfl, rfl, rfl, rfl⟩), st_ok]
    rfl
  have a7 : kr7 (kF P Q N O M V none none D1 none none none) S3 = .nx (kF P Q N O M V none none D1 none D2 none) S3 := by
    unfold kr7
    rw [e_set, ex_run (ws := w1) (names := names) (word := "met") rfl rfl (by rw [List.length_map]; omega) (fun p => ⟨kF P Q N O M V (some (.d (.str p.1))) none D1 (some (.d (.str p.2))) none none, rfl, rfl, rfl, rfl⟩), st_ok]
    rfl
  have pa : plS ("a" : Str) := plS_of (by decide +kernel)
  have pb : plS ("b" : Str) := plS_of (by decide +kernel)
  have pc : plS ("c" : Str) := plS_of (by decide +kernel)
  have mb := mode_B hm2
  have mm : modB (.str "met") = true := by decide +kernel
  have ms : modB (.str "so") = false := by decide +kernel
  have due : ∀ (i : Nat) (us : List Str) (ρ : List (Option W)), ρ[1]? = some P → ρ[2]? = some Q → ρ[i]? = some (some (.d (.tup (us.map D.str)))) → fLst (fCons (fVar i) (fCons (fVar 2) (fCons (fCo (fVar 1)) fNil))) ρ S3 = .ok (.d (dueM ps finQ us)) S3 := fun i us ρ h1 h2 hi => by
    have co : fCo (fVar 1) ρ S3 = .ok (.d (.tup (ps.map mkS))) S3 := by
      unfold fCo
      rw [varW h1]
      rfl
    rw [e_lst, e_cons, varW hi, bind_ok, e_cons, varW h2, bind_ok, e_cons, co, bind_ok, e_nil, bind_ok, bind_ok, bind_ok, bind_ok]
    simp only [dats_d, dats_nil, Option.map_some]
    rw [if_pos (by simp [sizeLine_eq])]
  have a6 : kr6 (kF P Q N O M V none none D1 none none none) S3 = .nx (kF P Q N O M V none none D1 none none none) S3 := by
    have t := told_keep hp a (ks := ["a"]) (ds := [.str word]) (f := fVar 4) (fk := fCons (fVar 6) fNil) (ρ := kF P Q N O M V none none D1 none none none) rfl (fun z hz => by
      simp only [List.mem_cons, List.not_mem_nil, or_false] at hz
      rw [hz]; exact pa) (fun d hd => by
      simp only [List.mem_cons, List.not_mem_nil, or_false] at hd
      rw [hd]; rfl) hE hF rfl rfl
    have k : keepD ps finQ ws ((["a"] : List Str).zip [D.str word]) = dueM ps finQ w1 := by
      show keepD ps finQ ws [("a", .str word)] = _
      unfold keepD
      rw [List.find?_cons_of_neg (by simp only [ia, decide_true, Bool.not_true]; simp), List.find?_nil]
      simp only
      rw [List.find?_cons_of_neg (by simp [mb]), List.find?_nil]
      simp only
      rw [new_a]
    rw [k] at t
    have b := fin_rq hp (ex_len (z := "a") (word := word) y1) (ex_mode hm2 hw)
    unfold kr6
    rw [e_if, e_toT, bin2 t (due 9 w1 _ rfl rfl rfl), neL_self (b.due hp), bind_ok, e_toB, st_ok, if_neg (by simp), e_next]
  have a8 : kr8 (kF P Q N O M V none none D1 none D2 none) S3 = .nx (kF P Q N O M V none none D1 none D2 none) S3 := by
    have t := told_keep hp a (ks := ["b", "a"]) (ds := [.str "met", .str word]) (f := fVar 4) (fk := fCons (fC (.str "met")) (fCons (fVar 6) fNil)) (ρ := kF P Q N O M V none none D1 none D2 none) rfl (fun z hz => by
      simp only [List.mem_cons, List.not_mem_nil, or_false] at hz
      rcases hz with rfl | rfl <;> assumption) (fun d hd => by
      simp only [List.mem_cons, List.not_mem_nil, or_false] at hd
      rcases hd with rfl | rfl <;> rfl) hE hF rfl rfl
    have k : keepD ps finQ ws ((["b", "a"] : List Str).zip [D.str "met", D.str word]) = dueM ps finQ w2 := by
      show keepD ps finQ ws [("b", .str "met"), ("a", .str word)] = _
      unfold keepD
      rw [List.find?_cons_of_neg (by simp only [ib, decide_true, Bool.not_true]; simp), List.find?_cons_of_neg (by simp only [ia, decide_true, Bool.not_true]; simp), List.find?_nil]
      simp only
      rw [List.find?_cons_of_neg (by simp [mm]), List.find?_cons_of_neg (by simp [mb]), List.find?_nil]
      simp only
      rw [new_b y1]
    rw [k] at t
    have b := fin_rq hp (ex_len (z := "b") (word := "met") (ex_len (z := "a") (word := word) y1)) (ex_mode (.inr (.inl rfl)) (ex_mode hm2 hw))
    unfold kr8
    rw [e_if, e_toT, bin2 t (due 11 w2 _ rfl rfl rfl), neL_self (b.due hp), bind_ok, e_toB, st_ok, if_neg (by simp), e_next]
  have a9 : kr9 (kF P Q N O M V none none D1 none D2 none) S3 = .nx (kF P Q N O M V none none D1 none D2 none) S3 := by
    have t := told_keep hp a (ks := []) (ds := []) (f := fVar 4) (fk := fNil) (ρ := kF P Q N O M V none none D1 none D2 none) rfl (fun z hz => nomatch hz) (fun d hd => nomatch hd) hE hF rfl rfl
    have k : keepD ps finQ ws (([] : List Str).zip []) = dueM ps finQ ws := by
      show dueM ps finQ (newW [] ps ws) = _
      rw [new_0 y1]
    rw [k] at t
    have f : fFld 4 "modes" (fVar 4) (kF P Q N O M V none none D1 none D2 none) S3 = .ok (.d (.tup (ws.map D.str))) S3 := rq_mo (varW (w := .d (rqD ps finQ ws)) rfl)
    have o : eqOk (.tup (ws.map D.str)) = true := gd_eqOk (modes_gd hw).1 (by decide) (nbFlat nb_ws)
    unfold kr9
    rw [e_if, e_bor, e_toT, bin2 t (due 3 ws _ rfl rfl rfl), neL_self (a.due hp), bind_ok, e_toB, bind_ok, if_neg (by simp), e_toT, bin2 f (x := .d (.tup (ws.map D.str))) rfl, neT_self o, bind_ok, e_toB, st_ok, if_neg (by simp), e_next]
  let T4 : D := .tup [.str "missing", .str "c"]
  let T5 : D := .tup [.str "modes", .str "b"]
  let T6 : D := .tup [.str "modes", .str "a"]
  let L : Option W := some (.d (.lst [T4, T5]))
  have a10 : kr10 (kF P Q N O M V none none D1 none D2 none) S3 = .nx (kF P Q N O M V none none D1 none D2 L) S3 := by
    have t := told_keep hp a (ks := ["a", "c"]) (ds := [.str "so", .str "so"]) (f := fVar 4) (fk := fCons (fC (.str "so")) (fCons (fC (.str "so")) fNil)) (ρ := kF P Q N O M V none none D1 none D2 none) rfl (fun z hz => by
      simp only [List.mem_cons, List.not_mem_nil, or_false] at hz
      rcases hz with rfl | rfl <;> assumption) (fun d hd => by
      simp only [List.mem_cons, List.not_mem_nil, or_false] at hd
      rcases hd with rfl | rfl <;> rfl) hE hF rfl rfl
    have k : keepD ps finQ ws ((["a", "c"] : List Str).zip [D.str "so", D.str "so"]) = T4 := by
      show keepD ps finQ ws [("a", .str "so"), ("c", .str "so")] = _
      unfold keepD
      rw [List.find?_cons_of_neg (by simp only [ia, decide_true, Bool.not_true]; simp), List.find?_cons_of_pos (by simp only [ic, decide_false, Bool.not_false])]
    have t' := told_keep hp a (ks := ["b", "a"]) (ds := [.int 5, .str "never"]) (f := fVar 4) (fk := fCons (fC (.int 5)) (fCons (fC (.str "never")) fNil)) (ρ := kF P Q N O M V none none D1 none D2 none) rfl (fun z hz => by
      simp only [List.mem_cons, List.not_mem_nil, or_false] at hz
      rcases hz with rfl | rfl <;> assumption) (fun d hd => by
      simp only [List.mem_cons, List.not_mem_nil, or_false] at hd
      rcases hd with rfl | rfl <;> rfl) hE hF rfl rfl
    have k' : keepD ps finQ ws ((["b", "a"] : List Str).zip [D.int 5, D.str "never"]) = T5 := by
      show keepD ps finQ ws [("b", .int 5), ("a", .str "never")] = _
      unfold keepD
      rw [List.find?_cons_of_neg (by simp only [ib, decide_true, Bool.not_true]; simp), List.find?_cons_of_neg (by simp only [ia, decide_true, Bool.not_true]; simp), List.find?_nil]
      simp only
      rw [List.find?_cons_of_pos (by simp [modB])]
    rw [k] at t
    rw [k'] at t'
    unfold kr10
    rw [e_set, e_lst, e_cons, t, bind_ok, e_cons, t', bind_ok, e_nil, bind_ok, bind_ok, bind_ok]
    simp only [dats_d, dats_nil, Option.map_some]
    rw [if_pos (by simp [sizeLine_eq]), st_ok]
    rfl
  have a11 : kr11 (kF P Q N O M V none none D1 none D2 L) S3 = .rt (.d (.bl true)) S3 := by
    have t := told_keep hp a (ks := ["a"]) (ds := [.non]) (f := fVar 4) (fk := fCons (fC .non) fNil) (ρ := kF P Q N O M V none none D1 none D2 L) rfl (fun z hz => by
      simp only [List.mem_cons, List.not_mem_nil, or_false] at hz
      rw [hz]; exact pa) (fun d hd => by
      simp only [List.mem_cons, List.not_mem_nil, or_false] at hd
      rw [hd]; rfl) hE hF rfl rfl
    have k : keepD ps finQ ws ((["a"] : List Str).zip [D.non]) = T6 := by
      show keepD ps finQ ws [("a", .non)] = _
      unfold keepD
      rw [List.find?_cons_of_neg (by simp only [ia, decide_true, Bool.not_true]; simp), List.find?_nil]
      simp only
      rw [List.find?_cons_of_pos (by simp [modB])]
    rw [k] at t
    have l : fLst (fCons (fTup (fCons (fC (.str "missing")) (fCons (fC (.str "c")) fNil))) (fCons (fTup (fCons (fC (.str "modes")) (fCons (fC (.str "b")) fNil))) fNil)) (kF P Q N O M V none none D1 none D2 L) S3 = .ok (.d (.lst [T4, T5])) S3 := by
      simp [sizeLine_eq, T4, T5]
    have l6 : fTup (fCons (fC (.str "modes")) (fCons (fC (.str "a")) fNil)) (kF P Q N O M V none none D1 none D2 L) S3 = .ok (.d T6) S3 := by
      simp [sizeLine_eq, T6]
    have o1 : eqOk (.lst [T4, T5]) = true := by decide +kernel
    have o2 : eqOk T6 = true := pair_ok _ _ (by decide +kernel)
    have b1 : fBin opEq (fVar 12) (fLst (fCons (fTup (fCons (fC (.str "missing")) (fCons (fC (.str "c")) fNil))) (fCons (fTup (fCons (fC (.str "modes")) (fCons (fC (.str "b")) fNil))) fNil))) (kF P Q N O M V none none D1 none D2 L) S3 = .ok (.d (.bl true)) S3 := by
      rw [bin2 (w := .d (.lst [T4, T5])) rfl l, eqL_self o1]
    unfold kr11
    rw [e_ret, e_eand, b1]
    simp only [bind_ok, e_toB, if_true]
    rw [bin2 t l6, eqT_self o2, st_ok]
  have run : s__law_kept_right (kF none none none none none none none none none none none none) S = .rt (.d (.bl true)) S3 := by
    show krAll _ _ = _
    unfold krAll
    rw [e_seq, a1, go_nx, e_seq, a2, go_nx, e_seq, a3, go_nx, e_seq, a4, go_nx, e_seq, a5, go_nx, e_seq, a6, go_nx, e_seq, a7, go_nx, e_seq, a8, go_nx, e_seq, a9, go_nx, e_seq, a10, go_nx, a11]
  exact ⟨S3, called_draw rfl h (body_rt run) h3, h3.mono (by omega)⟩
end
end K06
namespace K06
open PySem Ev TL
open L2 (atI ixN Key)
abbrev u1 : FS := (sSet 3 (fApp F__law_settings (fCons (fVar 1) fNil)))
abbrev u2 : FS := (sPar2 4 5 (fCons (fApp F__law_places (fCons (fVar 1) (fCons (fCo (fVar 3)) (fCons (fC (.int 10)) fNil)))) (fCons (fApp F__law_modes (fCons (fVar 1) (fCons (fCo (fVar 3)) fNil))) fNil)))
abbrev u3 : FS := (sSet 6 (fBin opIx (fLst (fCons (fVar 4) (fCons (fApp F__law_places (fCons (fVar 1) (fCons (fCo (fVar 3)) (fCons (fC (.int 4)) fNil)))) fNil))) (fApp F__law_next (fCons (fVar 1) (fCons (fC (.int 2)) fNil)))))
abbrev u4 : FS := (sSet 7 (fBin opIx (fLst (fCons (fVar 5) (fCons (fApp F__law_modes (fCons (fVar 1) (fCons (fCo (fVar 3)) fNil))) fNil))) (fApp F__law_next (fCons (fVar 1) (fCons (fC (.int 2)) fNil)))))
abbrev u5 : FS := (sAsg (gT 2 (gsCons (gN 8) (gsCons (gN 9) gsNil))) (fTup (fCons (fApp F_Request (fCons (fVar 3) (fCons (fVar 4) (fCons (fVar 5) fNil)))) (fCons (fApp F_Request (fCons (fVar 3) (fCons (fVar 6) (fCons (fVar 7) fNil)))) fNil))))
abbrev u6 : FS := (sIf (bOr (toT (fBin opNe (fCall opRepr (fCons (fLenI 4 F_Request___len__ (fVar 8)) fNil)) (fCall opRepr (fCons (fCall opLen (fCons (fVar 4) fNil)) fNil)))) (toT (fBin opNe (fBin (opEqI 4 F_Request___eq__) (fVar 8) (fVar 9)) (fBin opEq (fLst (fCons (fVar 4) (fCons (fVar 5) fNil))) (fLst (fCons (fVar 6) (fCons (fVar 7) fNil))))))) (sRet (fC (.bl false))) sNext)
abbrev u7 : FS := (sIf (bOr (toT (fBin opEq (fBin (opNeI 4 F_Request___eq__) (fVar 8) (fVar 9)) (fBin (opEqI 4 F_Request___eq__) (fVar 8) (fVar 9)))) (bNot (toT (fApp F__law_kept_right (fCons (fVar 1) fNil))))) (sRet (fC (.bl false))) sNext)
abbrev u8 : FS := (sIf (toT (fBin opNe (fLc (iLst (fLst (fCons (fVar 4) (fCons (fVar 5) (fCons (fC .non) (fCons (fC (.int 5)) (fCons (fC (.str "request")) (fCons (fLst (fCons (fCo (fVar 3)) (fCons (fVar 4) (fCons (fVar 5) fNil)))) fNil)))))))) (gN 10) (toT (fBin (opEqI 4 F_Request___eq__) (fVar 8) (fVar 10))) (fVar 10) [10]) (fLst fNil))) (sRet (fC (.bl false))) sNext)
abbrev u9 : FS := (sIf (toT (fBin opNe (fTold F__law_told (fMtd 4 "with_modes" F_Request_with_modes (fVar 8) (fCons (fVar 7) fNil))) (fLst (fCons (fVar 7) (fCons (fVar 4) (fCons (fCo (fVar 3)) fNil)))))) (sRet (fC (.bl false))) sNext)
abbrev u10 : FS := (sSet 11 (fBin opIx (fLst (fCons (fC (.int 5)) (fCons (fC .non) (fCons (fBin opAdd (fVar 5) (fTup (fCons (fC (.str "met")) fNil))) (fCons (fBin opAdd (fSl opSl (fVar 5) oNone (oSome (fNeg (fC (.int 1))))) (fTup (fCons (fC (.str "so")) fNil))) (fCons (fCall (op1 listD) (fCons (fVar 5) fNil)) fNil)))))) (fApp F__law_next (fCons (fVar 1) (fCons (fC (.int 5)) fNil)))))
abbrev u11 : FS := (sSet 12 (fTup (fCons (fC (.str "modes")) (fCons (eIf (bAnd (toT (fIsi .tup (fVar 11))) (toT (fBin opEq (fCall opLen (fCons (fVar 11) fNil)) (fCall opLen (fCons (fVar 5) fNil))))) (fBin opSub (fCall opLen (fCons (fVar 5) fNil)) (fC (.int 1))) (fC .non)) fNil))))
abbrev u12 : FS := (sIf (toT (fBin opNe (fTold F__law_told (fMtd 4 "with_modes" F_Request_with_modes (fVar 8) (fCons (fVar 11) fNil))) (fVar 12))) (sRet (fC (.bl false))) sNext)
abbrev u13 : FS := (sIf (toT (fBin opNe (fLst (fCons (fCo (fFld 4 "settings" (fVar 8))) (fCons (fFld 4 "places" (fVar 8)) (fCons (fFld 4 "modes" (fVar 8)) fNil)))) (fLst (fCons (fCo (fVar 3)) (fCons (fVar 4) (fCons (fVar 5) fNil)))))) (sRet (fC (.bl false))) sNext)
abbrev uAll : FS := (sSeq u1 (sSeq u2 (sSeq u3 (sSeq u4 (sSeq u5 (sSeq u6 (sSeq u7 (sSeq u8 (sSeq u9 (sSeq u10 (sSeq u11 (sSeq u12 u13))))))))))))
abbrev t3 : FS := (sSet 13 (fTup (fCons (fTup (fCons (fC (.str "end")) fNil)) fNil)))
abbrev t4 : FS := (sRet (fBin (opNeI 4 F_Request___eq__) (fApp F_Request_d1 (fCons (fTupF (fCons (fTup (fCons (fC (.str "a")) (fCons (fC (.int 1)) fNil))) fNil)) (fCons (fVar 13) fNil))) (fApp F_Request_d1 (fCons (fTupF (fCons (fTup (fCons (fC (.str "b")) (fCons (fC (.int 1)) fNil))) fNil)) (fCons (fVar 13) fNil)))))
abbrev fr (ns : List Int) (d2 : D) (x3 x4 x5 x6 x7 x8 x9 x10 x11 x12 x13 : Option W) : List (Option W) := [some (.d (.scr ns)), some (.ref 0), some (.d d2), x3, x4, x5, x6, x7, x8, x9, x10, x11, x12, x13]
abbrev Fr (ns : List Int) (ρ : List (Option W)) : Prop := ∃ x2 x3 x4 x5 x6 x7 x8 x9 x10 x11 x12 x13, ρ = [some (.d (.scr ns)), some (.ref 0), x2, x3, x4, x5, x6, x7, x8, x9, x10, x11, x12, x13]
theorem pick2 {α : Type} (P : α → Prop) (f : α → D) {x y : α} (px : P x) (py : P y) {r : Int} (h0 : 0 ≤ r) (h1 : r < 2) : ∃ z, P z ∧ atI [f x, f y] r = some (f z) := by
  obtain rfl | rfl : r = 0 ∨ r = 1 := by omega
  · exact ⟨x, px, rfl⟩
  · exact ⟨y, py, rfl⟩
def badL (ws : List Str) : List D := [.int 5, .non, .tup (ws.map D.str ++ [.str "met"]), .tup (cut (ws.map D.str) none (some (-1)) ++ [.str "so"]), .lst (ws.map D.str)]
def dueX (n : Nat) : D → D
  | .tup xs => if xs.length = n then .int ((n : Int) - 1) else .non
  | _ => .non
theorem word_gd {us : List Str} (hw : ∀ w ∈ us, plS w ∧ w.length ≤ 5) : Gds 49 (us.map D.str) ∧ szDs (us.map D.str) ≤ 6 * us.length := by
  refine ⟨gds_iff.mpr fun x hx => ?_, ?_⟩
  · obtain ⟨w, h, rfl⟩ := List.mem_map.mp hx
    exact gd_str.mpr (hw w h).1
  · induction us with
    | nil => simp [szDs]
    | cons q qs ih =>
      have := hw q List.mem_cons_self
      have := ih fun r hr => hw r (List.mem_cons_of_mem _ hr)
      rw [List.map_cons]
      simp only [szDs, szD, List.length_cons]
      omega
theorem mode_W {w : Str} (h : Mode w) : plS w ∧ w.length ≤ 5 := by
  rcases h with rfl | rfl | rfl <;> exact ⟨plS_of (by decide +kernel), by decide +kernel⟩
theorem sm_words {us : List Str} (hw : ∀ w ∈ us, plS w ∧ w.length ≤ 5) (hl : us.length ≤ 4) : Sm (.tup (us.map D.str)) ∧ Sm (.lst (us.map D.str)) := by
  obtain ⟨a, b⟩ := word_gd hw
  exact ⟨⟨a, by simp only [szD]; omega⟩, ⟨a, by simp only [szD]; omega⟩⟩
theorem bad_modW {ws : List Str} (l1 : 1 ≤ ws.length) (l3 : ws.length ≤ 3) (hw : ∀ w ∈ ws, Mode w) {d : D} (hd : d ∈ badL ws) : Sm d ∧ modW ws.length d = some (dueX ws.length d) := by
  have g : ∀ w ∈ ws, plS w ∧ w.length ≤ 5 := fun w h => mode_W (hw w h)
  have so : plS ("so" : Str) ∧ ("so" : Str).length ≤ 5 := ⟨plS_of (by decide +kernel), by decide +kernel⟩
  have met := mode_W (w := "met") (.inr (.inl rfl))
  have mb : ∀ w ∈ ws, modB (.str w) = true := fun w h => mode_B (hw w h)
  have ms : modB (.str "so") = false := by decide +kernel
  simp only [badL, List.mem_cons, List.not_mem_nil, or_false] at hd
  rcases hd with rfl | rfl | rfl | rfl | rfl
  · exact ⟨⟨by simp [Gd], by simp [szD]⟩, rfl⟩
  · exact ⟨⟨by simp [Gd], by simp [szD]⟩, rfl⟩
  · refine ⟨?_, ?_⟩
    · have := (sm_words (us := ws ++ [("met" : Str)]) (fun w h => by
        rcases List.mem_append.mp h with h | h
        · exact g w h
        · rw [List.mem_singleton.mp h]; exact met) (by simp only [List.length_append, List.length_cons, List.length_nil]; omega)).1
      rwa [List.map_append] at this
    · simp [modW, dueX]
  · match ws, l1, l3, g, mb with
    | [a], _, _, g, mb =>
      refine ⟨(sm_words (us := ["so"]) (fun w h => by rw [List.mem_singleton.mp h]; exact so) (by decide)).1, ?_⟩
      show modW 1 (.tup [.str "so"]) = some (.int 0)
      simp [modW, firstBad, ms]
    | [a, b], _, _, g, mb =>
      have ga := g a (by simp)
      have ma := mb a (by simp)
      refine ⟨(sm_words (us := [a, "so"]) (fun w h => by
        simp only [List.mem_cons, List.not_mem_nil, or_false] at h
        rcases h with rfl | rfl <;> assumption) (by simp)).1, ?_⟩
      show modW 2 (.tup [.str a, .str "so"]) = some (.int 1)
      simp [modW, firstBad, ms, ma]
    | [a, b, c], _, _, g, mb =>
      have ga := g a (by simp)
      have ma := mb a (by simp)
      have gb := g b (by simp)
      have m2 := mb b (by simp)
      refine ⟨(sm_words (us := [a, b, "so"]) (fun w h => by
        simp only [List.mem_cons, List.not_mem_nil, or_false] at h
        rcases h with rfl | rfl | rfl <;> assumption) (by simp)).1, ?_⟩
      show modW 3 (.tup [.str a, .str b, .str "so"]) = some (.int 2)
      simp [modW, firstBad, ms, ma, m2]
  · exact ⟨(sm_words g (by omega)).2, rfl⟩
theorem bad_at {ws : List Str} {r : Int} (h0 : 0 ≤ r) (h1 : r < 5) : ∃ d ∈ badL ws, atI (badL ws) r = some d := by
  obtain rfl | rfl | rfl | rfl | rfl : r = 0 ∨ r = 1 ∨ r = 2 ∨ r = 3 ∨ r = 4 := by omega
  all_goals exact ⟨_, by simp [badL], rfl⟩
theorem due_run {ws : List Str} {d : D} (hd : d ∈ badL ws) {ρ : List (Option W)} {S : Sto} (h11 : ρ[11]? = some (some (.d d))) (h5 : ρ[5]? = some (some (.d (.tup (ws.map D.str))))) :
    eIf (bAnd (toT (fIsi .tup (fVar 11))) (toT (fBin opEq (fCall opLen (fCons (fVar 11) fNil)) (fCall opLen (fCons (fVar 5) fNil))))) (fBin opSub (fCall opLen (fCons (fVar 5) fNil)) (fC (.int 1))) (fC .non) ρ S = .ok (.d (dueX ws.length d)) S := by
  have lw : fCall opLen (fCons (fVar 5) fNil) ρ S = .ok (.d (.int (ws.length : Int))) S := by
    rw [call1 (varW h5), o_lenT, List.length_map]
  have v : fVar 11 ρ S = .ok (.d d) S := varW h11
  have other : (∀ S, fIsi .tup (fVar 11) ρ S = .ok (.d (.bl false)) S) → dueX ws.length d = .non → eIf (bAnd (toT (fIsi .tup (fVar 11))) (toT (fBin opEq (fCall opLen (fCons (fVar 11) fNil)) (fCall opLen (fCons (fVar 5) fNil))))) (fBin opSub (fCall opLen (fCons (fVar 5) fNil)) (fC (.int 1))) (fC .non) ρ S = .ok (.d (dueX ws.length d)) S := fun h e => by
    rw [e_eif, e_band, e_toT, h, bind_ok, e_toB, bind_ok, if_neg (by simp), bind_ok, if_neg (by simp), e_c, e]
  have tup : ∀ xs, d = .tup xs → eIf (bAnd (toT (fIsi .tup (fVar 11))) (toT (fBin opEq (fCall opLen (fCons (fVar 11) fNil)) (fCall opLen (fCons (fVar 5) fNil))))) (fBin opSub (fCall opLen (fCons (fVar 5) fNil)) (fC (.int 1))) (fC .non) ρ S = .ok (.d (dueX ws.length d)) S := fun xs e => by
    subst e
    have is : fIsi .tup (fVar 11) ρ S = .ok (.d (.bl true)) S := by rw [e_isi, v]; rfl
    have lv : fCall opLen (fCons (fVar 11) fNil) ρ S = .ok (.d (.int (xs.length : Int))) S := by rw [call1 v, o_lenT]
    rw [e_eif, e_band, e_toT, is, bind_ok, e_toB, bind_ok, if_pos rfl, e_toT, bin2 lv lw, o_eqI, bind_ok, e_toB, bind_ok]
    by_cases h : xs.length = ws.length
    · rw [if_pos (by simp [h]), bin2 lw (x := .d (.int 1)) rfl, o_sub]
      simp only [dueX, if_pos h]
    · rw [if_neg (by simp; omega), e_c]
      simp only [dueX, if_neg h]
  simp only [badL, List.mem_cons, List.not_mem_nil, or_false] at hd
  rcases hd with rfl | rfl | rfl | rfl | rfl
  · exact other (fun S => by rw [e_isi, varW h11]; rfl) rfl
  · exact other (fun S => by rw [e_isi, varW h11]; rfl) rfl
  · exact tup _ rfl
  · exact tup _ rfl
  · exact other (fun S => by rw [e_isi, varW h11]; rfl) rfl
theorem due_ok {ws : List Str} (l1 : 1 ≤ ws.length) (l3 : ws.length ≤ 3) {d : D} (hd : d ∈ badL ws) : eqOk (.tup [.str "modes", dueX ws.length d]) = true := by
  simp only [badL, List.mem_cons, List.not_mem_nil, or_false] at hd
  have n : eqOk (.tup [.str "modes", .non]) = true := by decide +kernel
  have t : ∀ xs : List D, eqOk (.tup [.str "modes", dueX ws.length (.tup xs)]) = true := fun xs => by
    by_cases h : xs.length = ws.length
    · simp only [dueX, if_pos h]
      exact gd_eqOk (k := 1) ⟨gd_str.mpr (plS_of (by decide +kernel)), gd_int.mpr (by omega), trivial⟩ (by decide) rfl
    · simp only [dueX, if_neg h]
      exact n
  rcases hd with rfl | rfl | rfl | rfl | rfl
  · exact n
  · exact n
  · exact t _
  · exact t _
  · exact n
theorem len_rq {ps : List (Str × Int)} {qs : List Plc} {ws : List Str} (S : Sto) : F_Request___len__ [.d (rqD ps qs ws)] S = .ok (.d (.int qs.length)) S := by
  refine rt_called (ds := [rqD ps qs ws]) (S1 := []) rfl ?_
  show s_Request___len__ [some (.d (rqD ps qs ws))] [] = _
  unfold s_Request___len__
  rw [e_ret, call1 (rq_pl (a := .tup (qs.map plD)) (b := .tup (ws.map D.str)) (varW (w := .d (rqD ps qs ws)) rfl)), o_lenT, List.length_map, st_ok]
theorem lenI_rq {ps : List (Str × Int)} {qs : List Plc} {ws : List Str} (l2 : qs.length ≤ 16) {f : FE} {ρ : List (Option W)} {S : Sto} (hf : f ρ S = .ok (.d (rqD ps qs ws)) S) : fLenI 4 F_Request___len__ f ρ S = .ok (.d (.int qs.length)) S := by
  unfold fLenI
  rw [hf, bind_ok, if_pos (by simp [insOf]), len_rq]
  simp only
  rw [if_pos (by omega)]
theorem turn_ok {ns : List Int} {c : Nat} {d2 : D} {x3 x4 x5 x6 x7 x8 x9 x10 x11 x12 x13 : Option W} {S : Sto} (h : ∃ rest, Dw ns rest c S) (hc : c + 3000 < 2 ^ 39) :
    ∃ ρ' S', uAll (fr ns d2 x3 x4 x5 x6 x7 x8 x9 x10 x11 x12 x13) S = .nx ρ' S' ∧ Fr ns ρ' ∧ ∃ rest, Dw ns rest (c + 1000) S' := by
  obtain ⟨rest, h⟩ := h
  obtain ⟨ps, S1, e1, h1, hp⟩ := settings_ok h (by omega)
  have pl1 := hp.l1
  have pl3 := hp.l3
  obtain ⟨qs, S2, e2, h2, l1, l2, hq⟩ := places_ok (most := 10) hp h1 (by omega) (by decide) (by decide)
  obtain ⟨ws, S3, e3, h3, wl, hw⟩ := modes_ok hp h2 (by omega)
  obtain ⟨qs', S4, e4, h4, l1', l2', hq'⟩ := places_ok (most := 4) hp h3 (by omega) (by decide) (by decide)
  obtain ⟨r, S5, e5, r0, r1, h5⟩ := next_ok (many := 2) h4 (by omega) (by decide) (by decide)
  obtain ⟨qq, ⟨m1, m2, mq⟩, ea⟩ := pick2 (fun q : List Plc => 1 ≤ q.length ∧ q.length ≤ 16 ∧ ∀ z ∈ q, GoodPl ps q.length z) (fun q => D.tup (q.map plD)) (x := qs) (y := qs') ⟨l1, l2, hq⟩ ⟨l1', l2', hq'⟩ r0 r1
  obtain ⟨ws', S6, e6, h6, wl', hw'⟩ := modes_ok hp h5 (by omega)
  obtain ⟨k, S7, e7, k0, k1, h7⟩ := next_ok (many := 2) h6 (by omega) (by decide) (by decide)
  obtain ⟨ww, ⟨nl, nw⟩, eb⟩ := pick2 (fun w : List Str => w.length = ps.length ∧ ∀ z ∈ w, Mode z) (fun w => D.tup (w.map D.str)) (x := ws) (y := ws') ⟨wl, hw⟩ ⟨wl', hw'⟩ k0 k1
  obtain ⟨S8, e8, h8⟩ := kept_ok h7 (by omega)
  obtain ⟨j, S9, e9, j0, j1, h9⟩ := next_ok (many := 5) h8 (by omega) (by decide) (by decide)
  obtain ⟨bad, hb, ec⟩ := bad_at (ws := ws) j0 j1
  obtain ⟨bs, bm⟩ := bad_modW (by omega) (by omega) hw hb
  have bd := due_ok (by omega) (by omega) hb
  have hE8 := h8.noE
  have hF8 := h8.noF
  have hE9 := h9.noE
  have hF9 := h9.noF
  have a : Rq ps qs ws := ⟨l1, l2, hq, wl, hw⟩
  have b : Rq ps qq ww := ⟨m1, m2, mq, nl, nw⟩
  let P : D := .tup (ps.map mkS)
  let V : Option W := some (.d (.ftp (ps.map mkS)))
  let Q : Option W := some (.d (.tup (qs.map plD)))
  let N : Option W := some (.d (.tup (ws.map D.str)))
  let Q' : Option W := some (.d (.tup (qq.map plD)))
  let N' : Option W := some (.d (.tup (ww.map D.str)))
  let A : Option W := some (.d (rqD ps qs ws))
  let B : Option W := some (.d (rqD ps qq ww))
  let X : Option W := some (.d bad)
  let Y : Option W := some (.d (.tup [.str "modes", dueX ws.length bad]))
  let so : List D := [.tup (qs.map plD), .tup (ws.map D.str), .non, .int 5, .str "request", .lst [P, .tup (qs.map plD), .tup (ws.map D.str)]]
  have co : ∀ x4 x5 x6 x7 x8 x9 x10 x11 x12 x13 S, fCo (fVar 3) (fr ns d2 V x4 x5 x6 x7 x8 x9 x10 x11 x12 x13) S = .ok (.d P) S := fun _ _ _ _ _ _ _ _ _ _ _ => rfl
  have l3 : ∀ (i : Nat) (d : D) (ρ : List (Option W)) (S : Sto), ρ[i]? = some (some (.d d)) → ρ[4]? = some Q → ρ[3]? = some V → fLst (fCons (fVar i) (fCons (fVar 4) (fCons (fCo (fVar 3)) fNil))) ρ S = .ok (.d (.lst [d, .tup (qs.map plD), P])) S := fun i d ρ S hi h4 h3 => by
    have cp : fCo (fVar 3) ρ S = .ok (.d P) S := by
      unfold fCo
      rw [varW h3]
      rfl
    rw [e_lst, e_cons, varW hi, bind_ok, e_cons, varW h4, bind_ok, e_cons, cp, bind_ok, e_nil, bind_ok, bind_ok, bind_ok, bind_ok]
    simp only [dats_d, dats_nil, Option.map_some]
    rw [if_pos (by simp [sizeLine_eq])]
  have l2d : ∀ (i j : Nat) (u v : D) (ρ : List (Option W)) (S : Sto), ρ[i]? = some (some (.d u)) → ρ[j]? = some (some (.d v)) → fLst (fCons (fVar i) (fCons (fVar j) fNil)) ρ S = .ok (.d (.lst [u, v])) S := fun i j u v ρ S hu hv => by
    rw [e_lst, e_cons, varW hu, bind_ok, e_cons, varW hv, bind_ok, e_nil, bind_ok, bind_ok, bind_ok]
    simp [sizeLine_eq]
  have a1 : u1 (fr ns d2 x3 x4 x5 x6 x7 x8 x9 x10 x11 x12 x13) S = .nx (fr ns d2 V x4 x5 x6 x7 x8 x9 x10 x11 x12 x13) S1 := by
    unfold u1
    rw [e_set, app1 (w := .ref 0) rfl, e1, st_ok]
    rfl
  have a2 : u2 (fr ns d2 V x4 x5 x6 x7 x8 x9 x10 x11 x12 x13) S1 = .nx (fr ns d2 V Q N x6 x7 x8 x9 x10 x11 x12 x13) S3 := by
    unfold u2
    rw [e_par2, e_cons, app3 (w := .ref 0) (x := .d P) (y := .d (.int 10)) rfl rfl rfl, e2, bind_ok, e_cons, app2 (w := .ref 0) (x := .d P) rfl rfl, e3, bind_ok, e_nil, bind_ok, bind_ok, st_ok]
    rfl
  have a3 : u3 (fr ns d2 V Q N x6 x7 x8 x9 x10 x11 x12 x13) S3 = .nx (fr ns d2 V Q N Q' x7 x8 x9 x10 x11 x12 x13) S5 := by
    have l : fLst (fCons (fVar 4) (fCons (fApp F__law_places (fCons (fVar 1) (fCons (fCo (fVar 3)) (fCons (fC (.int 4)) fNil)))) fNil)) (fr ns d2 V Q N x6 x7 x8 x9 x10 x11 x12 x13) S3 = .ok (.d (.lst [.tup (qs.map plD), .tup (qs'.map plD)])) S4 := by
      rw [e_lst, e_cons, varW (w := .d (.tup (qs.map plD))) rfl, bind_ok, e_cons, app3 (w := .ref 0) (x := .d P) (y := .d (.int 4)) rfl rfl rfl, e4, bind_ok, e_nil, bind_ok, bind_ok, bind_ok]
      simp only [dats_d, dats_nil, Option.map_some]
      rw [if_pos (by simp [sizeLine_eq])]
    unfold u3
    rw [e_set, bin2 l ((app2 (w := .ref 0) (x := .d (.int 2)) rfl rfl).trans e5), o_ixLi, ea, st_ok]
    rfl
  have a4 : u4 (fr ns d2 V Q N Q' x7 x8 x9 x10 x11 x12 x13) S5 = .nx (fr ns d2 V Q N Q' N' x8 x9 x10 x11 x12 x13) S7 := by
    have l : fLst (fCons (fVar 5) (fCons (fApp F__law_modes (fCons (fVar 1) (fCons (fCo (fVar 3)) fNil))) fNil)) (fr ns d2 V Q N Q' x7 x8 x9 x10 x11 x12 x13) S5 = .ok (.d (.lst [.tup (ws.map D.str), .tup (ws'.map D.str)])) S6 := by
      rw [e_lst, e_cons, varW (w := .d (.tup (ws.map D.str))) rfl, bind_ok, e_cons, app2 (w := .ref 0) (x := .d P) rfl rfl, e6, bind_ok, e_nil, bind_ok, bind_ok, bind_ok]
      simp only [dats_d, dats_nil, Option.map_some]
      rw [if_pos (by simp [sizeLine_eq])]
    unfold u4
    rw [e_set, bin2 l ((app2 (w := .ref 0) (x := .d (.int 2)) rfl rfl).trans e7), o_ixLi, eb, st_ok]
    rfl
  have a5 : u5 (fr ns d2 V Q N Q' N' x8 x9 x10 x11 x12 x13) S7 = .nx (fr ns d2 V Q N Q' N' A B x10 x11 x12 x13) S7 := by
    unfold u5
    rw [e_asg, e_tup, e_cons, app3 (w := .d (.ftp (ps.map mkS))) (x := .d (.tup (qs.map plD))) (y := .d (.tup (ws.map D.str))) rfl rfl rfl, request_ok hp a.l1 a.l2 a.hq a.hl a.hw, bind_ok, e_cons, app3 (w := .d (.ftp (ps.map mkS))) (x := .d (.tup (qq.map plD))) (y := .d (.tup (ww.map D.str))) rfl rfl rfl, request_ok hp b.l1 b.l2 b.hq b.hl b.hw, bind_ok, e_nil, bind_ok, bind_ok, bind_ok]
    simp only [dats_d, dats_nil, Option.map_some]
    rw [if_pos (by simp [sizeLine_eq]), st_ok]
    rfl
  have i1 : fBin (opEqI 4 F_Request___eq__) (fVar 8) (fVar 9) (fr ns d2 V Q N Q' N' A B x10 x11 x12 x13) S7 = .ok (.d (.bl (eqD (rqT ps qs ws) (rqT ps qq ww)))) S7 := by
    rw [bin2 (w := .d (rqD ps qs ws)) (x := .d (rqD ps qq ww)) rfl rfl, eqI_run2 hp hp a b]
  have i2 : fBin (opNeI 4 F_Request___eq__) (fVar 8) (fVar 9) (fr ns d2 V Q N Q' N' A B x10 x11 x12 x13) S7 = .ok (.d (.bl (!eqD (rqT ps qs ws) (rqT ps qq ww)))) S7 := by
    rw [bin2 (w := .d (rqD ps qs ws)) (x := .d (rqD ps qq ww)) rfl rfl, neI_run2 hp hp a b]
  have i3 : fBin opEq (fLst (fCons (fVar 4) (fCons (fVar 5) fNil))) (fLst (fCons (fVar 6) (fCons (fVar 7) fNil))) (fr ns d2 V Q N Q' N' A B x10 x11 x12 x13) S7 = .ok (.d (.bl (eqD (rqT ps qs ws) (rqT ps qq ww)))) S7 := by
    rw [bin2 (l2d 4 5 (.tup (qs.map plD)) (.tup (ws.map D.str)) _ _ rfl rfl) (l2d 6 7 (.tup (qq.map plD)) (.tup (ww.map D.str)) _ _ rfl rfl)]
    simp only [opEq, view, a.pair hp, b.pair hp, Bool.and_self, if_true, same_eq hp a b]
  have a6 : u6 (fr ns d2 V Q N Q' N' A B x10 x11 x12 x13) S7 = .nx (fr ns d2 V Q N Q' N' A B x10 x11 x12 x13) S7 := by
    have sh : showOk (.int (qs.length : Int)) = true := gdShow (k := 0) (gd_int.mpr (by omega)) (by decide) (by simp [szD])
    have m1 : fLenI 4 F_Request___len__ (fVar 8) (fr ns d2 V Q N Q' N' A B x10 x11 x12 x13) S7 = .ok (.d (.int qs.length)) S7 := lenI_rq l2 (varW (w := .d (rqD ps qs ws)) rfl)
    have m2 : fCall opLen (fCons (fVar 4) fNil) (fr ns d2 V Q N Q' N' A B x10 x11 x12 x13) S7 = .ok (.d (.int qs.length)) S7 := by
      rw [call1 (w := .d (.tup (qs.map plD))) rfl, o_lenT, List.length_map]
    unfold u6
    rw [e_if, e_bor, e_toT, bin2 ((call1 m1).trans (o_repr sh)) ((call1 m2).trans (o_repr sh)), o_neS, decide_eq_true rfl, Bool.not_true, bind_ok, e_toB, bind_ok, if_neg (by simp), e_toT, bin2 i1 i3, b_ne, bind_ok, e_toB, st_ok, if_neg (by simp), e_next]
  have a7 : u7 (fr ns d2 V Q N Q' N' A B x10 x11 x12 x13) S7 = .nx (fr ns d2 V Q N Q' N' A B x10 x11 x12 x13) S8 := by
    unfold u7
    rw [e_if, e_bor, e_toT, bin2 i2 i1, b_eq, bind_ok, e_toB, bind_ok, if_neg (by cases eqD (rqT ps qs ws) (rqT ps qq ww) <;> decide), e_bnot, e_toT, app1 (w := .ref 0) rfl, e8, bind_ok, e_toB, bind_ok, st_ok, if_neg (by simp), e_next]
  have a8 : u8 (fr ns d2 V Q N Q' N' A B x10 x11 x12 x13) S8 = .nx (fr ns d2 V Q N Q' N' A B x10 x11 x12 x13) S8 := by
    let ρ := fr ns d2 V Q N Q' N' A B x10 x11 x12 x13
    have un : ∀ d ∈ so, opEqI 4 F_Request___eq__ (.d (rqD ps qs ws)) (.d d) S8 = .ok (.d (.bl false)) S8 := fun d hd => by
      simp only [so, List.mem_cons, List.not_mem_nil, or_false] at hd
      rcases hd with rfl | rfl | rfl | rfl | rfl | rfl
      all_goals exact eq_odd ⟨_, rfl⟩ rfl rfl S8
    have c := compL_by (g := gN 10) (t := toT (fBin (opEqI 4 F_Request___eq__) (fVar 8) (fVar 10))) (f := fVar 10) (ρ := wipeL ρ [10]) (S := S8) (fun d => d) (fun _ => false) (fun d => d) so [] (by simp [so]) (fun d hd => by
      refine ⟨(wipeL ρ [10]).set 10 (some (.d d)), rfl, ?_, fun z => by cases z⟩
      rw [e_toT, bin2 (w := .d (rqD ps qs ws)) (x := .d d) rfl rfl, un d hd, bind_ok, e_toB])
    rw [List.map_id'] at c
    have t3 : fLst (fCons (fCo (fVar 3)) (fCons (fVar 4) (fCons (fVar 5) fNil))) ρ S8 = .ok (.d (.lst [P, .tup (qs.map plD), .tup (ws.map D.str)])) S8 := by
      rw [e_lst, e_cons, co, bind_ok, e_cons, varW (w := .d (.tup (qs.map plD))) rfl, bind_ok, e_cons, varW (w := .d (.tup (ws.map D.str))) rfl, bind_ok, e_nil, bind_ok, bind_ok, bind_ok, bind_ok]
      simp only [dats_d, dats_nil, Option.map_some]
      rw [if_pos (by simp [sizeLine_eq])]
    have it : fLst (fCons (fVar 4) (fCons (fVar 5) (fCons (fC .non) (fCons (fC (.int 5)) (fCons (fC (.str "request")) (fCons (fLst (fCons (fCo (fVar 3)) (fCons (fVar 4) (fCons (fVar 5) fNil)))) fNil)))))) ρ S8 = .ok (.d (.lst so)) S8 := by
      rw [e_lst, e_cons, varW (w := .d (.tup (qs.map plD))) rfl, bind_ok, e_cons, varW (w := .d (.tup (ws.map D.str))) rfl, bind_ok, e_cons, e_c, bind_ok, e_cons, e_c, bind_ok, e_cons, e_c, bind_ok, e_cons, t3, bind_ok, e_nil, bind_ok, bind_ok, bind_ok, bind_ok, bind_ok, bind_ok, bind_ok]
      simp only [dats_d, dats_nil, Option.map_some]
      rw [if_pos (by simp [sizeLine_eq])]
    have l : fLc (iLst (fLst (fCons (fVar 4) (fCons (fVar 5) (fCons (fC .non) (fCons (fC (.int 5)) (fCons (fC (.str "request")) (fCons (fLst (fCons (fCo (fVar 3)) (fCons (fVar 4) (fCons (fVar 5) fNil)))) fNil)))))))) (gN 10) (toT (fBin (opEqI 4 F_Request___eq__) (fVar 8) (fVar 10))) (fVar 10) [10] ρ S8 = .ok (.d (.lst [])) S8 := by
      rw [e_lc, e_lst', it, bind_ok]
      simp only
      rw [bind_ok, c, bind_ok]
      simp
    unfold u8
    rw [e_if, e_toT, bin2 l (x := .d (.lst [])) (S2 := S8) (by simp [sizeLine_eq]), show opNe (.d (.lst [])) (.d (.lst [])) S8 = .ok (.d (.bl false)) S8 from rfl, bind_ok, e_toB, st_ok, if_neg (by simp), e_next]
  have a9 : u9 (fr ns d2 V Q N Q' N' A B x10 x11 x12 x13) S8 = .nx (fr ns d2 V Q N Q' N' A B x10 x11 x12 x13) S8 := by
    have t := told_good hp a nl nw hF8 (f := fVar 8) (g := fVar 7) (ρ := fr ns d2 V Q N Q' N' A B x10 x11 x12 x13) rfl rfl
    have d : Rq ps qs ww := ⟨l1, l2, hq, nl, nw⟩
    unfold u9
    rw [e_if, e_toT, bin2 t (l3 7 (.tup (ww.map D.str)) _ _ rfl rfl rfl), neL_self (d.due hp), bind_ok, e_toB, st_ok, if_neg (by simp), e_next]
  have a10 : u10 (fr ns d2 V Q N Q' N' A B x10 x11 x12 x13) S8 = .nx (fr ns d2 V Q N Q' N' A B x10 X x12 x13) S9 := by
    let ρ := fr ns d2 V Q N Q' N' A B x10 x11 x12 x13
    have v5 : fVar 5 ρ S8 = .ok (.d (.tup (ws.map D.str))) S8 := rfl
    have o3 : fBin opAdd (fVar 5) (fTup (fCons (fC (.str "met")) fNil)) ρ S8 = .ok (.d (.tup (ws.map D.str ++ [.str "met"]))) S8 := by
      rw [bin2 v5 (x := .d (.tup [.str "met"])) (S2 := S8) (by simp [sizeLine_eq]), o_addT (by simp only [List.length_map, List.length_cons, List.length_nil]; omega)]
    have cl : (cut (ws.map D.str) none (some (-1))).length ≤ ws.length := by
      have := cut_len (ws.map D.str) none (some (-1))
      rwa [List.length_map] at this
    have o4 : fBin opAdd (fSl opSl (fVar 5) oNone (oSome (fNeg (fC (.int 1))))) (fTup (fCons (fC (.str "so")) fNil)) ρ S8 = .ok (.d (.tup (cut (ws.map D.str) none (some (-1)) ++ [.str "so"]))) S8 := by
      rw [bin2 (w := .d (.tup (cut (ws.map D.str) none (some (-1))))) (S1 := S8) rfl (x := .d (.tup [.str "so"])) (S2 := S8) (by simp [sizeLine_eq]), o_addT (by simp only [List.length_cons, List.length_nil]; omega)]
    have o5 : fCall (op1 listD) (fCons (fVar 5) fNil) ρ S8 = .ok (.d (.lst (ws.map D.str))) S8 := (call1 v5).trans o_list
    have l : fLst (fCons (fC (.int 5)) (fCons (fC .non) (fCons (fBin opAdd (fVar 5) (fTup (fCons (fC (.str "met")) fNil))) (fCons (fBin opAdd (fSl opSl (fVar 5) oNone (oSome (fNeg (fC (.int 1))))) (fTup (fCons (fC (.str "so")) fNil))) (fCons (fCall (op1 listD) (fCons (fVar 5) fNil)) fNil))))) ρ S8 = .ok (.d (.lst (badL ws))) S8 := by
      rw [e_lst, e_cons, e_c, bind_ok, e_cons, e_c, bind_ok, e_cons, o3, bind_ok, e_cons, o4, bind_ok, e_cons, o5, bind_ok, e_nil, bind_ok, bind_ok, bind_ok, bind_ok, bind_ok, bind_ok]
      simp only [dats_d, dats_nil, Option.map_some]
      rw [if_pos (by simp [sizeLine_eq])]
      rfl
    unfold u10
    rw [e_set, bin2 l ((app2 (w := .ref 0) (x := .d (.int 5)) rfl rfl).trans e9), o_ixLi, ec, st_ok]
    rfl
  have a11 : u11 (fr ns d2 V Q N Q' N' A B x10 X x12 x13) S9 = .nx (fr ns d2 V Q N Q' N' A B x10 X Y x13) S9 := by
    have e := due_run (ws := ws) hb (ρ := fr ns d2 V Q N Q' N' A B x10 X x12 x13) (S := S9) rfl rfl
    unfold u11
    rw [e_set, e_tup, e_cons, e_c, bind_ok, e_cons, e, bind_ok, e_nil, bind_ok, bind_ok, bind_ok]
    simp only [dats_d, dats_nil, Option.map_some]
    rw [if_pos (by simp [sizeLine_eq]), st_ok]
    rfl
  have a12 : u12 (fr ns d2 V Q N Q' N' A B x10 X Y x13) S9 = .nx (fr ns d2 V Q N Q' N' A B x10 X Y x13) S9 := by
    have t := told_with hp a bs hE9 hF9 (f := fVar 8) (g := fVar 11) (ρ := fr ns d2 V Q N Q' N' A B x10 X Y x13) rfl rfl (x := dueX ws.length bad) (by rw [← wl]; exact bm)
    unfold u12
    rw [e_if, e_toT, bin2 t (x := .d (.tup [.str "modes", dueX ws.length bad])) rfl, neT_self bd, bind_ok, e_toB, st_ok, if_neg (by simp), e_next]
  have a13 : u13 (fr ns d2 V Q N Q' N' A B x10 X Y x13) S9 = .nx (fr ns d2 V Q N Q' N' A B x10 X Y x13) S9 := by
    have v : fVar 8 (fr ns d2 V Q N Q' N' A B x10 X Y x13) S9 = .ok (.d (rqD ps qs ws)) S9 := rfl
    have o1 : fLst (fCons (fCo (fFld 4 "settings" (fVar 8))) (fCons (fFld 4 "places" (fVar 8)) (fCons (fFld 4 "modes" (fVar 8)) fNil))) (fr ns d2 V Q N Q' N' A B x10 X Y x13) S9 = .ok (.d (.lst [P, .tup (qs.map plD), .tup (ws.map D.str)])) S9 := by
      rw [e_lst, e_cons, rq_co v, bind_ok, e_cons, rq_pl v, bind_ok, e_cons, rq_mo v, bind_ok, e_nil, bind_ok, bind_ok, bind_ok, bind_ok]
      simp only [dats_d, dats_nil, Option.map_some]
      rw [if_pos (by simp [sizeLine_eq])]
    have o2 : fLst (fCons (fCo (fVar 3)) (fCons (fVar 4) (fCons (fVar 5) fNil))) (fr ns d2 V Q N Q' N' A B x10 X Y x13) S9 = .ok (.d (.lst [P, .tup (qs.map plD), .tup (ws.map D.str)])) S9 := by
      rw [e_lst, e_cons, co, bind_ok, e_cons, varW (w := .d (.tup (qs.map plD))) rfl, bind_ok, e_cons, varW (w := .d (.tup (ws.map D.str))) rfl, bind_ok, e_nil, bind_ok, bind_ok, bind_ok, bind_ok]
      simp only [dats_d, dats_nil, Option.map_some]
      rw [if_pos (by simp [sizeLine_eq])]
    unfold u13
    rw [e_if, e_toT, bin2 o1 o2, neL_self (a.due2 hp), bind_ok, e_toB, st_ok, if_neg (by simp), e_next]
  refine ⟨fr ns d2 V Q N Q' N' A B x10 X Y x13, S9, ?_, ⟨_, _, _, _, _, _, _, _, _, _, _, _, rfl⟩, rest, h9.mono (by omega)⟩
  unfold uAll
  rw [e_seq, a1, go_nx, e_seq, a2, go_nx, e_seq, a3, go_nx, e_seq, a4, go_nx, e_seq, a5, go_nx, e_seq, a6, go_nx, e_seq, a7, go_nx, e_seq, a8, go_nx, e_seq, a9, go_nx, e_seq, a10, go_nx, e_seq, a11, go_nx, e_seq, a12, go_nx, a13]
abbrev pA : List (Str × Int) := [("a", 1)]
abbrev pB : List (Str × Int) := [("b", 1)]
theorem fin_non {ps : List (Str × Int)} (hp : Okp ps) : Rq ps finQ (lives ps.length) := fin_rq hp (by simp) (fun w hw => by rw [List.eq_of_mem_replicate hw]; exact .inl rfl)
theorem end_ok {ρ : List (Option W)} {S : Sto} (h13 : ρ[13]? = some (some (.d (.tup (finQ.map plD))))) : t4 ρ S = .rt (.d (.bl true)) S := by
  have ha : Okp pA := wrong_okp (by decide +kernel)
  have hb : Okp pB := wrong_okp (by decide +kernel)
  have a : Rq pA finQ (lives 1) := fin_non ha
  have b : Rq pB finQ (lives 1) := fin_non hb
  have e1 : fApp F_Request_d1 (fCons (fTupF (fCons (fTup (fCons (fC (.str "a")) (fCons (fC (.int 1)) fNil))) fNil)) (fCons (fVar 13) fNil)) ρ S = .ok (.d (rqD pA finQ (lives 1))) S := by
    rw [app2 (w := .d (.ftp (pA.map mkS))) (S1 := S) (by simp [fTupF, sizeLine_eq, mkS]) (varW h13), request_non ha a.l1 a.l2 a.hq S]
    rfl
  have e2 : fApp F_Request_d1 (fCons (fTupF (fCons (fTup (fCons (fC (.str "b")) (fCons (fC (.int 1)) fNil))) fNil)) (fCons (fVar 13) fNil)) ρ S = .ok (.d (rqD pB finQ (lives 1))) S := by
    rw [app2 (w := .d (.ftp (pB.map mkS))) (S1 := S) (by simp [fTupF, sizeLine_eq, mkS]) (varW h13), request_non hb b.l1 b.l2 b.hq S]
    rfl
  have ne : eqD (rqT pA finQ (lives 1)) (rqT pB finQ (lives 1)) = false := by
    cases h : eqD (rqT pA finQ (lives 1)) (rqT pB finQ (lives 1)) with
    | false => rfl
    | true =>
      have := (eqD_iff (nb_rq (ps := pA) (qs := finQ) (ws := lives 1)) (nb_rq (ps := pB) (qs := finQ) (ws := lives 1)) (a.ok ha)).mp h
      have q : (("a" : Str) = "b") := by simpa [mkS] using this
      exact absurd q (by decide +kernel)
  unfold t4
  rw [e_ret, bin2 e1 e2, neI_run2 ha hb a b, ne, st_ok]
  rfl
theorem plain (ns : List Int) (hl : ns.length ≤ 63) : ∃ S', bodyF 14 s_law [.d (.scr ns)] [] = .ok (.d (.bl true)) S' := by
  have h0 : Dw ns [] 0 [.drw ns (great ns) 0] := ⟨_, _, rfl, hl, Nat.le_trans (List.length_filter_le _ _) hl, by decide, by decide, rfl⟩
  obtain ⟨m, hm, hm2⟩ : ∃ m : Nat, (3 + if (8 : Int) < ns.length then 8 else (ns.length : Int)) = (m : Int) ∧ m ≤ 13 := by
    split
    · exact ⟨11, by omega, by omega⟩
    · exact ⟨3 + ns.length, by omega, by omega⟩
  obtain ⟨ρ', S', c', e1, hf, _⟩ := loop_inv (b := turn (gN 2) uAll) (fun c ρ S => Fr ns ρ ∧ ∃ rest, Dw ns rest c S) 3000 (2 ^ 39) (fun d c ρ S ⟨hr, h⟩ hc => by
    obtain ⟨x2, x3, x4, x5, x6, x7, x8, x9, x10, x11, x12, x13, rfl⟩ := hr
    obtain ⟨ρ', S', e, f, rest, h'⟩ := turn_ok (d2 := d) (x3 := x3) (x4 := x4) (x5 := x5) (x6 := x6) (x7 := x7) (x8 := x8) (x9 := x9) (x10 := x10) (x11 := x11) (x12 := x12) (x13 := x13) h hc
    exact ⟨ρ', S', e, f, rest, h'.mono (by omega)⟩) ((List.range' 0 m).map fun k : Nat => D.int (0 + (k : Int))) 0 [some (.d (.scr ns)), some (.ref 0), none, none, none, none, none, none, none, none, none, none, none, none] [.drw ns (great ns) 0] ⟨⟨_, _, _, _, _, _, _, _, _, _, _, _, rfl⟩, [], h0⟩ (by
      rw [List.length_map, List.length_range']
      omega)
  obtain ⟨x2, x3, x4, x5, x6, x7, x8, x9, x10, x11, x12, x13, rfl⟩ := hf
  refine ⟨S', body_rt ?_⟩
  show s_law [some (.d (.scr ns)), none, none, none, none, none, none, none, none, none, none, none, none, none] [] = _
  have e2 : begunF [.d (.scr ns)] [] = .ok (.ref 0) [.drw ns (great ns) 0] := by simp [begunF, hl]
  have e3 : opLen [.d (.scr ns)] [.drw ns (great ns) 0] = .ok (.d (.int ns.length)) [.drw ns (great ns) 0] := rfl
  unfold s_law
  have a1 : sSet 1 (fApp F__law_begun (fCons (fVar 0) fNil)) [some (.d (.scr ns)), none, none, none, none, none, none, none, none, none, none, none, none, none] [] = .nx [some (.d (.scr ns)), some (.ref 0), none, none, none, none, none, none, none, none, none, none, none, none] [.drw ns (great ns) 0] := by
    simp [e2]
  have a2 := (for_range (p := uAll) (g := gN 2) (fa := fCons (fBin opAdd (fC (.int 3)) (fCall opMin2 (fCons (fCall opLen (fCons (fVar 0) fNil)) (fCons (fC (.int 8)) fNil)))) fNil) (ρ := [some (.d (.scr ns)), some (.ref 0), none, none, none, none, none, none, none, none, none, none, none, none]) (S := [.drw ns (great ns) 0]) (n := m) (S1 := [.drw ns (great ns) 0]) (by
    simp only [e_cons, e_bin, e_c, e_call, e_var, e_nil, List.getElem?_cons_zero, bind_ok, e3, o_min, o_addI, hm]) (by omega)).trans e1
  have a3 : t3 [some (.d (.scr ns)), some (.ref 0), x2, x3, x4, x5, x6, x7, x8, x9, x10, x11, x12, x13] S' = .nx [some (.d (.scr ns)), some (.ref 0), x2, x3, x4, x5, x6, x7, x8, x9, x10, x11, x12, some (.d (.tup (finQ.map plD)))] S' := by
    simp [t3, sizeLine_eq, plD]
  rw [e_seq, a1, go_nx, e_seq]
  rw [a2, go_nx, e_seq]
  unfold t3 at a3
  rw [a3, go_nx]
  exact end_ok rfl
end K06
namespace Ev
open PySem PySem.Spec L2
section
variable {X : Cx} {F : Fx} {Wsh : WX} {o i e : Expr} {f g : FE} {pos apos cpos : Pos}
end
end Ev
namespace Ev
open PySem PySem.Spec L2
open Ob (RcOp lexAt)
mutual
def rcP (fI : Int → Int → Bool) (fN : Nat → Nat → Bool) : PyData → PyData → Bool
  | .int i, .int j => fI i j
  | .tuple xs, .tuple ys => rcPs fI fN xs ys
  | _, _ => false
def rcPs (fI : Int → Int → Bool) (fN : Nat → Nat → Bool) : List PyData → List PyData → Bool
  | [], ys => fN 0 ys.length
  | x :: xs, [] => fN (xs.length + 1) 0
  | x :: xs, y :: ys => if PyData.eqv x y = true then rcPs fI fN xs ys else rcP fI fN x y
end
mutual
def cOk : PyData → PyData → Bool
  | .int _, .int _ => true
  | .tuple xs, .tuple ys => cOks xs ys
  | _, _ => false
def cOks : List PyData → List PyData → Bool
  | [], _ => true
  | _ :: _, [] => true
  | x :: xs, y :: ys => (PyData.eqv x y || cOk x y) && cOks xs ys
end
structure OpK (op : CmpOp) (fI : Int → Int → Bool) (fN : Nat → Nat → Bool) : Prop where
  int : ∀ (A : Around) (s : Shared) (a b : Int) (t u : Tok), RcOp op A s (.int a t) (.int b u) (fI a b)
  tup : ∀ {A : Around} {s : Shared} {l b : Addr} {items items2 : Array Value} {e r : Nat → Bool}, s.heap.IsTuple l items → s.heap.IsTuple b items2 → A.units < cLine →
    (∀ j (h1 : j < items.size) (h2 : j < items2.size), SeqAt.EqAt A.in1 s items[j] items2[j] (e j)) →
    (∀ j (h1 : j < items.size) (h2 : j < items2.size), e j = false → RcOp op A.in1 s items[j] items2[j] (r j)) →
    RcOp op A s (.ref l) (.ref b) (lexAt e r (fN items.size items2.size) 0 (min items.size items2.size))
  suc : ∀ m n, fN (m + 1) (n + 1) = fN m n
section
variable {op : CmpOp} {fI : Int → Int → Bool} {fN : Nat → Nat → Bool}
def rAt (fI : Int → Int → Bool) (fN : Nat → Nat → Bool) (xs ys : List PyData) (j : Nat) : Bool := match xs[j]?, ys[j]? with
  | some x, some y => rcP fI fN x y
  | _, _ => false
theorem lexAt_shift {e r e' r' : Nat → Bool} {z : Bool} (he : ∀ i, e (i + 1) = e' i) (hr : ∀ i, r (i + 1) = r' i) : ∀ k i, lexAt e r z (i + 1) k = lexAt e' r' z i k
  | 0, i => rfl
  | k + 1, i => by
    rw [Ob.lexAt_succ, Ob.lexAt_succ, he, hr, lexAt_shift he hr k (i + 1)]
theorem lex_rcs (hs : ∀ m n, fN (m + 1) (n + 1) = fN m n) : ∀ xs ys : List PyData, lexAt (SeqAt.pairEq xs ys) (rAt fI fN xs ys) (fN xs.length ys.length) 0 (min xs.length ys.length) = rcPs fI fN xs ys
  | [], ys => by simp [rcPs, Ob.lexAt_zero]
  | x :: xs, [] => by simp [rcPs, Ob.lexAt_zero]
  | x :: xs, y :: ys => by
    rw [List.length_cons, List.length_cons, Nat.succ_min_succ, Ob.lexAt_succ, hs]
    have h0 : SeqAt.pairEq (x :: xs) (y :: ys) 0 = PyData.eqv x y := rfl
    rw [h0, rcPs]
    by_cases h : PyData.eqv x y = true
    · rw [if_pos h, if_pos h, lexAt_shift (e' := SeqAt.pairEq xs ys) (r' := rAt fI fN xs ys) (fun i => rfl) (fun i => rfl)]
      exact lex_rcs hs xs ys
    · rw [if_neg h, if_neg h]
      rfl
mutual
theorem rc_reads (O : OpK op fI fN) : ∀ (da db : PyData) (A : Around) (s : Shared) (a b : Value) (as bs : List Addr), Reads s.heap a da as → Reads s.heap b db bs → da.canLay0 = true → db.canLay0 = true → cOk da db = true →
    A.units + min da.depth db.depth < cLine → RcOp op A s a b (rcP fI fN da db)
  | .int i, .int j, A, s, _, _, _, _, .int _ t, .int _ u, _, _, _, _ => O.int A s i j t u
  | .tuple xs, .tuple ys, A, s, _, _, _, _, .tuple (vs := va) h1 h2 h3 h4, .tuple (vs := vb) k1 k2 k3 k4, ha, hb, hc, hu => by
    have hu' : A.in1.units + min (PyData.depthAll xs) (PyData.depthAll ys) < cLine := by
      simp only [PyData.depth, Around.in1_units] at hu ⊢
      omega
    have la : va.size = xs.length := by rw [← Array.length_toList]; exact readsAll_len h4
    have lb : vb.size = ys.length := by rw [← Array.length_toList]; exact readsAll_len k4
    have R := O.tup (A := A) (s := s) (e := SeqAt.pairEq xs ys) (r := rAt fI fN xs ys) ⟨_, h1, h2, _, h3⟩ ⟨_, k1, k2, _, k3⟩ (by simp only [PyData.depth] at hu; omega)
      (fun j q1 q2 => by
        have := SeqAt.eqAt_readsAll xs ys A.in1 s va.toList vb.toList _ _ h4 k4 ha hb hu' j (by simpa using q1) (by simpa using q2)
        simpa using this)
      (fun j q1 q2 hne => by
        have := rc_readsAll O xs ys A.in1 s va.toList vb.toList _ _ h4 k4 ha hb (by simpa [cOk] using hc) hu' j (by simpa using q1) (by simpa using q2) hne
        simpa using this)
    rw [la, lb, lex_rcs O.suc] at R
    exact R
  | .none, _, _, _, _, _, _, _, _, _, _, _, hc, _ => by simp [cOk] at hc
  | .bool _, _, _, _, _, _, _, _, _, _, _, _, hc, _ => by simp [cOk] at hc
  | .str _, _, _, _, _, _, _, _, _, _, _, _, hc, _ => by simp [cOk] at hc
  | .list _, _, _, _, _, _, _, _, _, _, _, _, hc, _ => by simp [cOk] at hc
  | .dict _, _, _, _, _, _, _, _, _, _, _, _, hc, _ => by simp [cOk] at hc
  | .int _, .none, _, _, _, _, _, _, _, _, _, _, hc, _ => by simp [cOk] at hc
  | .int _, .bool _, _, _, _, _, _, _, _, _, _, _, hc, _ => by simp [cOk] at hc
  | .int _, .str _, _, _, _, _, _, _, _, _, _, _, hc, _ => by simp [cOk] at hc
  | .int _, .list _, _, _, _, _, _, _, _, _, _, _, hc, _ => by simp [cOk] at hc
  | .int _, .tuple _, _, _, _, _, _, _, _, _, _, _, hc, _ => by simp [cOk] at hc
  | .int _, .dict _, _, _, _, _, _, _, _, _, _, _, hc, _ => by simp [cOk] at hc
  | .tuple _, .none, _, _, _, _, _, _, _, _, _, _, hc, _ => by simp [cOk] at hc
  | .tuple _, .bool _, _, _, _, _, _, _, _, _, _, _, hc, _ => by simp [cOk] at hc
  | .tuple _, .int _, _, _, _, _, _, _, _, _, _, _, hc, _ => by simp [cOk] at hc
  | .tuple _, .str _, _, _, _, _, _, _, _, _, _, _, hc, _ => by simp [cOk] at hc
  | .tuple _, .list _, _, _, _, _, _, _, _, _, _, _, hc, _ => by simp [cOk] at hc
  | .tuple _, .dict _, _, _, _, _, _, _, _, _, _, _, hc, _ => by simp [cOk] at hc
theorem rc_readsAll (O : OpK op fI fN) : ∀ (xs ys : List PyData) (A : Around) (s : Shared) (vs ws : List Value) (as bs : List Addr), ReadsAll s.heap vs xs as → ReadsAll s.heap ws ys bs → PyData.canLayAll0 xs = true → PyData.canLayAll0 ys = true → cOks xs ys = true →
    A.units + min (PyData.depthAll xs) (PyData.depthAll ys) < cLine → ∀ j (h1 : j < vs.length) (h2 : j < ws.length), SeqAt.pairEq xs ys j = false → RcOp op A s vs[j] ws[j] (rAt fI fN xs ys j)
  | [], _, _, _, _, _, _, _, ra, _, _, _, _, _, j, h1, _, _ => by cases ra; exact absurd h1 (Nat.not_lt_zero _)
  | _ :: _, [], _, _, _, _, _, _, _, rb, _, _, _, _, j, _, h2, _ => by cases rb; exact absurd h2 (Nat.not_lt_zero _)
  | x :: xs, y :: ys, A, s, _, _, _, _, ra, rb, ha, hb, hc, hu, j, h1, h2, hne => by
    have ha' : x.canLay0 = true ∧ PyData.canLayAll0 xs = true := by simpa [PyData.canLayAll0] using ha
    have hb' : y.canLay0 = true ∧ PyData.canLayAll0 ys = true := by simpa [PyData.canLayAll0] using hb
    have hc' : (PyData.eqv x y || cOk x y) = true ∧ cOks xs ys = true := by simpa only [cOks, Bool.and_eq_true] using hc
    have d1 : A.units + min x.depth y.depth < cLine := by
      simp only [PyData.depthAll] at hu
      omega
    have d2 : A.units + min (PyData.depthAll xs) (PyData.depthAll ys) < cLine := by
      simp only [PyData.depthAll] at hu
      omega
    cases ra with
    | cons r rs =>
      cases rb with
      | cons r' rs' =>
        cases j with
        | zero =>
          have he : PyData.eqv x y = false := hne
          have hk : cOk x y = true := by
            have := hc'.1
            rw [he, Bool.false_or] at this
            exact this
          exact rc_reads O x y A s _ _ _ _ r r' ha'.1 hb'.1 hk d1
        | succ j => exact rc_readsAll O xs ys A s _ _ _ _ rs rs' ha'.2 hb'.2 hc'.2 d2 j (Nat.lt_of_succ_lt_succ h1) (Nat.lt_of_succ_lt_succ h2) hne
theorem readsAll_len {h : Heap} : ∀ {vs : List Value} {xs : List PyData} {as : List Addr}, ReadsAll h vs xs as → vs.length = xs.length
  | _, _, _, .nil => rfl
  | _, _, _, .cons r rs => by simp [readsAll_len rs]
end
end
section
variable {X : Cx} {F : Fx} {op : CmpOp} {fI : Int → Int → Bool} {fN : Nat → Nat → Bool}
end
end Ev
namespace Ev
open PySem
def kCls : NestedKey → Nat
  | .none => 0 | .text _ => 1 | .num _ => 2 | .tup _ => 3
def cI (i j : Int) : Ordering := if i < j then .lt else if j < i then .gt else .eq
mutual
def cmpN : NestedKey → NestedKey → Ordering
  | .num i, .num j => cI i j
  | .tup xs, .tup ys => cmpNs xs ys
  | a, b => cI (kCls a) (kCls b)
def cmpNs : List NestedKey → List NestedKey → Ordering
  | [], [] => .eq
  | [], _ :: _ => .lt
  | _ :: _, [] => .gt
  | x :: xs, y :: ys => (cmpN x y).then (cmpNs xs ys)
end
def ltN (a b : NestedKey) : Bool := decide (cmpN a b = .lt)
def ltNs (a b : List NestedKey) : Bool := decide (cmpNs a b = .lt)
theorem cI_swap (i j : Int) : cI j i = (cI i j).swap := by
  unfold cI
  by_cases h1 : i < j
  · have h2 : ¬ j < i := by omega
    simp [h1, h2]
  · by_cases h2 : j < i <;> simp [h1, h2]
theorem cI_then {i j k : Int} (h1 : cI i j ≠ .gt) (h2 : cI j k ≠ .gt) : cI i k = (cI i j).then (cI j k) := by
  unfold cI at *
  by_cases a1 : i < j
  · rw [if_pos a1]
    by_cases b1 : j < k
    · rw [if_pos (by omega)]; rfl
    · by_cases b2 : k < j
      · rw [if_neg b1, if_pos b2] at h2; exact absurd rfl h2
      · rw [if_pos (by omega)]; rfl
  · by_cases a2 : j < i
    · rw [if_neg a1, if_pos a2] at h1; exact absurd rfl h1
    · obtain rfl : i = j := by omega
      rw [if_neg a1, if_neg a2]; rfl
theorem then_swap (a b : Ordering) : (a.then b).swap = a.swap.then b.swap := by cases a <;> cases b <;> rfl
mutual
theorem cmpN_swap : ∀ a b : NestedKey, cmpN b a = (cmpN a b).swap
  | .num i, .num j => by simp only [cmpN]; exact cI_swap i j
  | .tup xs, .tup ys => by simp only [cmpN]; exact cmpNs_swap xs ys
  | .none, b => by cases b <;> simp only [cmpN] <;> exact cI_swap _ _
  | .text _, b => by cases b <;> simp only [cmpN] <;> exact cI_swap _ _
  | .num _, .none => by simp only [cmpN]; exact cI_swap _ _
  | .num _, .text _ => by simp only [cmpN]; exact cI_swap _ _
  | .num _, .tup _ => by simp only [cmpN]; exact cI_swap _ _
  | .tup _, .none => by simp only [cmpN]; exact cI_swap _ _
  | .tup _, .text _ => by simp only [cmpN]; exact cI_swap _ _
  | .tup _, .num _ => by simp only [cmpN]; exact cI_swap _ _
theorem cmpNs_swap : ∀ a b : List NestedKey, cmpNs b a = (cmpNs a b).swap
  | [], [] => rfl
  | [], _ :: _ => rfl
  | _ :: _, [] => rfl
  | x :: xs, y :: ys => by simp only [cmpNs, cmpN_swap x y, cmpNs_swap xs ys, then_swap]
end
theorem then_gt {a b : Ordering} (h : a.then b ≠ .gt) : a ≠ .gt ∧ (a = .eq → b ≠ .gt) := by cases a <;> cases b <;> simp_all [Ordering.then]
mutual
theorem cmpN_then : ∀ a b c : NestedKey, cmpN a b ≠ .gt → cmpN b c ≠ .gt → cmpN a c = (cmpN a b).then (cmpN b c)
  | .num i, .num j, .num k, h1, h2 => by simp only [cmpN] at *; exact cI_then h1 h2
  | .tup xs, .tup ys, .tup zs, h1, h2 => by simp only [cmpN] at *; exact cmpNs_then xs ys zs h1 h2
  | .none, b, c, h1, h2 => by cases b <;> cases c <;> simp [cmpN, kCls, cI] at *
  | .text _, b, c, h1, h2 => by cases b <;> cases c <;> simp [cmpN, kCls, cI] at *
  | .num _, .none, c, h1, h2 => by simp [cmpN, kCls, cI] at h1
  | .num _, .text _, c, h1, h2 => by simp [cmpN, kCls, cI] at h1
  | .num i, .num j, .none, h1, h2 => by simp [cmpN, kCls, cI] at h2
  | .num i, .num j, .text _, h1, h2 => by simp [cmpN, kCls, cI] at h2
  | .num i, .num j, .tup _, h1, h2 => by
    have e1 : cmpN (.num i) (.tup ‹_›) = .lt := by simp [cmpN, kCls, cI]
    have e2 : cmpN (.num j) (.tup ‹_›) = .lt := by simp [cmpN, kCls, cI]
    rw [e1, e2]
    cases h : cmpN (.num i) (.num j) with
    | lt => rfl
    | eq => rfl
    | gt => exact absurd h h1
  | .num _, .tup _, .none, h1, h2 => by simp [cmpN, kCls, cI] at h2
  | .num _, .tup _, .text _, h1, h2 => by simp [cmpN, kCls, cI] at h2
  | .num _, .tup _, .num _, h1, h2 => by simp [cmpN, kCls, cI] at h2
  | .num i, .tup ys, .tup zs, h1, h2 => by
    have e1 : cmpN (.num i) (.tup zs) = .lt := by simp [cmpN, kCls, cI]
    have e2 : cmpN (.num i) (.tup ys) = .lt := by simp [cmpN, kCls, cI]
    rw [e1, e2]
    rfl
  | .tup _, .none, c, h1, h2 => by simp [cmpN, kCls, cI] at h1
  | .tup _, .text _, c, h1, h2 => by simp [cmpN, kCls, cI] at h1
  | .tup _, .num _, c, h1, h2 => by simp [cmpN, kCls, cI] at h1
  | .tup _, .tup _, .none, h1, h2 => by simp [cmpN, kCls, cI] at h2
  | .tup _, .tup _, .text _, h1, h2 => by simp [cmpN, kCls, cI] at h2
  | .tup _, .tup _, .num _, h1, h2 => by simp [cmpN, kCls, cI] at h2
theorem cmpNs_then : ∀ a b c : List NestedKey, cmpNs a b ≠ .gt → cmpNs b c ≠ .gt → cmpNs a c = (cmpNs a b).then (cmpNs b c)
  | [], [], [], _, _ => rfl
  | [], [], _ :: _, _, _ => rfl
  | [], _ :: _, [], _, h => by simp [cmpNs] at h
  | [], _ :: _, _ :: _, _, _ => rfl
  | _ :: _, [], _, h, _ => by simp [cmpNs] at h
  | _ :: _, _ :: _, [], _, h => by simp [cmpNs] at h
  | x :: xs, y :: ys, z :: zs, h1, h2 => by
    simp only [cmpNs] at *
    obtain ⟨a1, a2⟩ := then_gt h1
    obtain ⟨b1, b2⟩ := then_gt h2
    have e := cmpN_then x y z a1 b1
    rw [e]
    cases ex : cmpN x y with
    | gt => exact absurd ex a1
    | lt => rfl
    | eq =>
      cases ey : cmpN y z with
      | gt => exact absurd ey b1
      | lt =>
        show Ordering.lt = Ordering.then (cmpNs xs ys) .lt
        cases h : cmpNs xs ys with
        | lt => rfl
        | eq => rfl
        | gt => exact absurd h (a2 ex)
      | eq => exact cmpNs_then xs ys zs (a2 ex) (b2 ey)
end
theorem ltN_false {a b : NestedKey} : ltN b a = false ↔ cmpN a b ≠ .gt := by
  unfold ltN
  rw [decide_eq_false_iff_not, cmpN_swap a b]
  cases cmpN a b <;> simp [Ordering.swap]
theorem swoN : SrtO.Swo ltN := by
  refine ⟨fun x y h => ?_, fun x y z h1 h2 => ?_⟩
  · have h := of_decide_eq_true h
    rw [ltN_false, h]
    simp
  · rw [ltN_false] at *
    rw [cmpN_then x y z h1 h2]
    cases e1 : cmpN x y with
    | gt => exact absurd e1 h1
    | lt => simp [Ordering.then]
    | eq => simpa [Ordering.then] using h2
theorem ltN_nn {i j : Int} : ltN (.num i) (.num j) = decide (i < j) := by
  unfold ltN
  simp only [cmpN, cI]
  by_cases h : i < j
  · simp [h]
  · by_cases h2 : j < i <;> simp [h, h2]
theorem ltN_tt {xs ys : List NestedKey} : ltN (.tup xs) (.tup ys) = ltNs xs ys := by
  unfold ltN ltNs
  rw [show cmpN (.tup xs) (.tup ys) = cmpNs xs ys by simp only [cmpN]]
mutual
def numK : NestedKey → Bool
  | .num _ => true
  | .tup ks => numKs ks
  | _ => false
def numKs : List NestedKey → Bool
  | [] => true
  | k :: ks => numK k && numKs ks
end
mutual
theorem cmpN_eq : ∀ a b : NestedKey, numK a = true → numK b = true → cmpN a b = .eq → a = b
  | .num i, .num j, _, _, h => by
    simp only [cmpN, cI] at h
    by_cases h1 : i < j
    · simp [h1] at h
    · by_cases h2 : j < i
      · simp [h1, h2] at h
      · congr 1
        omega
  | .tup xs, .tup ys, ha, hb, h => by
    simp only [cmpN] at h
    rw [cmpNs_eq xs ys (by simpa [numK] using ha) (by simpa [numK] using hb) h]
  | .num _, .tup _, _, _, h => by simp [cmpN, kCls, cI] at h
  | .tup _, .num _, _, _, h => by simp [cmpN, kCls, cI] at h
  | .none, _, h, _, _ => by simp [numK] at h
  | .text _, _, h, _, _ => by simp [numK] at h
  | .num _, .none, _, h, _ => by simp [numK] at h
  | .num _, .text _, _, h, _ => by simp [numK] at h
  | .tup _, .none, _, h, _ => by simp [numK] at h
  | .tup _, .text _, _, h, _ => by simp [numK] at h
theorem cmpNs_eq : ∀ a b : List NestedKey, numKs a = true → numKs b = true → cmpNs a b = .eq → a = b
  | [], [], _, _, _ => rfl
  | [], _ :: _, _, _, h => by simp [cmpNs] at h
  | _ :: _, [], _, _, h => by simp [cmpNs] at h
  | x :: xs, y :: ys, ha, hb, h => by
    simp only [numKs, Bool.and_eq_true] at ha hb
    simp only [cmpNs] at h
    have hx : cmpN x y = .eq := by cases e : cmpN x y <;> rw [e] at h <;> simp_all [Ordering.then]
    rw [hx] at h
    rw [cmpN_eq x y ha.1 hb.1 hx, cmpNs_eq xs ys ha.2 hb.2 h]
end
theorem ltN_self (a : NestedKey) : ltN a a = false := swoN.refl a
theorem cmpN_self (a : NestedKey) : cmpN a a = .eq := by
  have h1 := of_decide_eq_false (ltN_self a)
  have h2 := ltN_false.mp (ltN_self a)
  cases e : cmpN a a <;> simp_all
theorem ltNs_cons {x y : NestedKey} {xs ys : List NestedKey} (hx : numK x = true) (hy : numK y = true) : ltNs (x :: xs) (y :: ys) = if x = y then ltNs xs ys else ltN x y := by
  unfold ltNs ltN
  rw [show cmpNs (x :: xs) (y :: ys) = (cmpN x y).then (cmpNs xs ys) by simp only [cmpNs]]
  by_cases h : x = y
  · rw [if_pos h, h, cmpN_self]
    rfl
  · rw [if_neg h]
    have : cmpN x y ≠ .eq := fun e => h (cmpN_eq x y hx hy e)
    cases e : cmpN x y with
    | lt => rfl
    | gt => rfl
    | eq => exact absurd e this
mutual
def keyD : D → NestedKey
  | .int i => .num i
  | .tup xs => .tup (keyDs xs)
  | _ => .none
def keyDs : List D → List NestedKey
  | [] => []
  | x :: xs => keyD x :: keyDs xs
end
mutual
def numD : D → Bool
  | .int _ => true
  | .tup xs => numDs xs
  | _ => false
def numDs : List D → Bool
  | [] => true
  | x :: xs => numD x && numDs xs
end
mutual
theorem numD_K : ∀ {d : D}, numD d = true → numK (keyD d) = true
  | .int _, _ => by simp [keyD, numK]
  | .tup xs, h => by simp only [keyD, numK]; exact numDs_K (by simpa [numD] using h)
  | .non, h => by simp [numD] at h
  | .bl _, h => by simp [numD] at h
  | .str _, h => by simp [numD] at h
  | .lst _, h => by simp [numD] at h
  | .dct _, h => by simp [numD] at h
  | .ins _ _, h => by simp [numD] at h
  | .scr _, h => by simp [numD] at h
  | .ftp _, h => by simp [numD] at h
  | .cls _, h => by simp [numD] at h
  | .kdc _, h => by simp [numD] at h
  | .exi _ _ _, h => by simp [numD] at h
  | .dkf _, h => by simp [numD] at h
theorem numDs_K : ∀ {ds : List D}, numDs ds = true → numKs (keyDs ds) = true
  | [], _ => by simp [keyDs, numKs]
  | x :: xs, h => by
    simp only [numDs, Bool.and_eq_true] at h
    simp only [keyDs, numKs, numD_K h.1, numDs_K h.2, Bool.and_self]
end
mutual
theorem keyD_inj : ∀ {a b : D}, numD a = true → numD b = true → keyD a = keyD b → a = b
  | .int i, .int j, _, _, h => by simp only [keyD, NestedKey.num.injEq] at h; rw [h]
  | .tup xs, .tup ys, ha, hb, h => by
    simp only [keyD, NestedKey.tup.injEq] at h
    rw [keyDs_inj (by simpa [numD] using ha) (by simpa [numD] using hb) h]
  | .int _, .tup _, _, _, h => by simp [keyD] at h
  | .tup _, .int _, _, _, h => by simp [keyD] at h
  | .non, _, h, _, _ => by simp [numD] at h
  | .bl _, _, h, _, _ => by simp [numD] at h
  | .str _, _, h, _, _ => by simp [numD] at h
  | .lst _, _, h, _, _ => by simp [numD] at h
  | .dct _, _, h, _, _ => by simp [numD] at h
  | .ins _ _, _, h, _, _ => by simp [numD] at h
  | .scr _, _, h, _, _ => by simp [numD] at h
  | .ftp _, _, h, _, _ => by simp [numD] at h
  | .cls _, _, h, _, _ => by simp [numD] at h
  | .kdc _, _, h, _, _ => by simp [numD] at h
  | .exi _ _ _, _, h, _, _ => by simp [numD] at h
  | .dkf _, _, h, _, _ => by simp [numD] at h
  | .int _, .non, _, h, _ => by simp [numD] at h
  | .int _, .bl _, _, h, _ => by simp [numD] at h
  | .int _, .str _, _, h, _ => by simp [numD] at h
  | .int _, .lst _, _, h, _ => by simp [numD] at h
  | .int _, .dct _, _, h, _ => by simp [numD] at h
  | .int _, .ins _ _, _, h, _ => by simp [numD] at h
  | .int _, .scr _, _, h, _ => by simp [numD] at h
  | .int _, .ftp _, _, h, _ => by simp [numD] at h
  | .int _, .cls _, _, h, _ => by simp [numD] at h
  | .int _, .kdc _, _, h, _ => by simp [numD] at h
  | .int _, .exi _ _ _, _, h, _ => by simp [numD] at h
  | .int _, .dkf _, _, h, _ => by simp [numD] at h
  | .tup _, .non, _, h, _ => by simp [numD] at h
  | .tup _, .bl _, _, h, _ => by simp [numD] at h
  | .tup _, .str _, _, h, _ => by simp [numD] at h
  | .tup _, .lst _, _, h, _ => by simp [numD] at h
  | .tup _, .dct _, _, h, _ => by simp [numD] at h
  | .tup _, .ins _ _, _, h, _ => by simp [numD] at h
  | .tup _, .scr _, _, h, _ => by simp [numD] at h
  | .tup _, .ftp _, _, h, _ => by simp [numD] at h
  | .tup _, .cls _, _, h, _ => by simp [numD] at h
  | .tup _, .kdc _, _, h, _ => by simp [numD] at h
  | .tup _, .exi _ _ _, _, h, _ => by simp [numD] at h
  | .tup _, .dkf _, _, h, _ => by simp [numD] at h
theorem keyDs_inj : ∀ {a b : List D}, numDs a = true → numDs b = true → keyDs a = keyDs b → a = b
  | [], [], _, _, _ => rfl
  | [], _ :: _, _, _, h => by simp [keyDs] at h
  | _ :: _, [], _, _, h => by simp [keyDs] at h
  | x :: xs, y :: ys, ha, hb, h => by
    simp only [numDs, Bool.and_eq_true] at ha hb
    simp only [keyDs, List.cons.injEq] at h
    rw [keyD_inj ha.1 hb.1 h.1, keyDs_inj ha.2 hb.2 h.2]
end
mutual
theorem nest_reads {h : Heap} : ∀ {d : D} {v : Value} {as : List Addr}, numD d = true → Reads h v (toPy d) as → NestedIs h (keyD d) v
  | .int i, _, _, _, .int _ t => by simp only [keyD]; exact .int _ t
  | .tup xs, _, _, hn, .tuple h1 h2 h3 h4 => by
    simp only [keyD]
    exact .tup h1 h2 h3 (nest_readsAll (by simpa [numD] using hn) h4)
  | .non, _, _, hn, _ => by simp [numD] at hn
  | .bl _, _, _, hn, _ => by simp [numD] at hn
  | .str _, _, _, hn, _ => by simp [numD] at hn
  | .lst _, _, _, hn, _ => by simp [numD] at hn
  | .dct _, _, _, hn, _ => by simp [numD] at hn
  | .ins _ _, _, _, hn, _ => by simp [numD] at hn
  | .scr _, _, _, hn, _ => by simp [numD] at hn
  | .ftp _, _, _, hn, _ => by simp [numD] at hn
  | .cls _, _, _, hn, _ => by simp [numD] at hn
  | .kdc _, _, _, hn, _ => by simp [numD] at hn
  | .exi _ _ _, _, _, hn, _ => by simp [numD] at hn
  | .dkf _, _, _, hn, _ => by simp [numD] at hn
theorem nest_readsAll {h : Heap} : ∀ {ds : List D} {vs : List Value} {as : List Addr}, numDs ds = true → ReadsAll h vs (toPys ds) as → NestedAll h (keyDs ds) vs
  | [], _, _, _, .nil => by simp only [keyDs]; exact .nil
  | d :: ds, _, _, hn, .cons r rs => by
    simp only [numDs, Bool.and_eq_true] at hn
    simp only [keyDs]
    exact .cons (nest_reads hn.1 r) (nest_readsAll hn.2 rs)
end
mutual
theorem eqv_key : ∀ {a b : D}, numD a = true → numD b = true → PyData.eqv (toPy a) (toPy b) = decide (keyD a = keyD b)
  | .int i, .int j, _, _ => by
    simp only [toPy, PyData.eqv, keyD, NestedKey.num.injEq]
    by_cases h : i = j <;> simp [h]
  | .tup xs, .tup ys, ha, hb => by
    simp only [toPy, PyData.eqv, keyD, NestedKey.tup.injEq]
    exact eqvs_key (by simpa [numD] using ha) (by simpa [numD] using hb)
  | .int _, .tup _, _, _ => by simp [toPy, PyData.eqv, keyD]
  | .tup _, .int _, _, _ => by simp [toPy, PyData.eqv, keyD]
  | .non, _, h, _ => by simp [numD] at h
  | .bl _, _, h, _ => by simp [numD] at h
  | .str _, _, h, _ => by simp [numD] at h
  | .lst _, _, h, _ => by simp [numD] at h
  | .dct _, _, h, _ => by simp [numD] at h
  | .ins _ _, _, h, _ => by simp [numD] at h
  | .scr _, _, h, _ => by simp [numD] at h
  | .ftp _, _, h, _ => by simp [numD] at h
  | .cls _, _, h, _ => by simp [numD] at h
  | .kdc _, _, h, _ => by simp [numD] at h
  | .exi _ _ _, _, h, _ => by simp [numD] at h
  | .dkf _, _, h, _ => by simp [numD] at h
  | .int _, .non, _, h => by simp [numD] at h
  | .int _, .bl _, _, h => by simp [numD] at h
  | .int _, .str _, _, h => by simp [numD] at h
  | .int _, .lst _, _, h => by simp [numD] at h
  | .int _, .dct _, _, h => by simp [numD] at h
  | .int _, .ins _ _, _, h => by simp [numD] at h
  | .int _, .scr _, _, h => by simp [numD] at h
  | .int _, .ftp _, _, h => by simp [numD] at h
  | .int _, .cls _, _, h => by simp [numD] at h
  | .int _, .kdc _, _, h => by simp [numD] at h
  | .int _, .exi _ _ _, _, h => by simp [numD] at h
  | .int _, .dkf _, _, h => by simp [numD] at h
  | .tup _, .non, _, h => by simp [numD] at h
  | .tup _, .bl _, _, h => by simp [numD] at h
  | .tup _, .str _, _, h => by simp [numD] at h
  | .tup _, .lst _, _, h => by simp [numD] at h
  | .tup _, .dct _, _, h => by simp [numD] at h
  | .tup _, .ins _ _, _, h => by simp [numD] at h
  | .tup _, .scr _, _, h => by simp [numD] at h
  | .tup _, .ftp _, _, h => by simp [numD] at h
  | .tup _, .cls _, _, h => by simp [numD] at h
  | .tup _, .kdc _, _, h => by simp [numD] at h
  | .tup _, .exi _ _ _, _, h => by simp [numD] at h
  | .tup _, .dkf _, _, h => by simp [numD] at h
theorem eqvs_key : ∀ {a b : List D}, numDs a = true → numDs b = true → PyData.eqvAll (toPys a) (toPys b) = decide (keyDs a = keyDs b)
  | [], [], _, _ => by simp [toPys, PyData.eqvAll, keyDs]
  | [], _ :: _, _, _ => by simp [toPys, PyData.eqvAll, keyDs]
  | _ :: _, [], _, _ => by simp [toPys, PyData.eqvAll, keyDs]
  | x :: xs, y :: ys, ha, hb => by
    simp only [numDs, Bool.and_eq_true] at ha hb
    simp only [toPys, PyData.eqvAll, keyDs, List.cons.injEq, eqv_key ha.1 hb.1, eqvs_key ha.2 hb.2]
    by_cases h1 : keyD x = keyD y <;> by_cases h2 : keyDs xs = keyDs ys <;> simp [h1, h2]
end
abbrev ltI : Int → Int → Bool := fun a b => decide (a < b)
abbrev ltL : Nat → Nat → Bool := fun m n => decide (m < n)
mutual
theorem rc_key : ∀ {a b : D}, numD a = true → numD b = true → cOk (toPy a) (toPy b) = true → rcP ltI ltL (toPy a) (toPy b) = ltN (keyD a) (keyD b)
  | .int i, .int j, _, _, _ => by simp [toPy, rcP, keyD, ltN_nn]
  | .tup xs, .tup ys, ha, hb, hc => by
    simp only [toPy, rcP, keyD, ltN_tt]
    exact rcs_key (by simpa [numD] using ha) (by simpa [numD] using hb) (by simpa [toPy, cOk] using hc)
  | .int _, .tup _, _, _, hc => by simp [toPy, cOk] at hc
  | .tup _, .int _, _, _, hc => by simp [toPy, cOk] at hc
  | .non, _, h, _, _ => by simp [numD] at h
  | .bl _, _, h, _, _ => by simp [numD] at h
  | .str _, _, h, _, _ => by simp [numD] at h
  | .lst _, _, h, _, _ => by simp [numD] at h
  | .dct _, _, h, _, _ => by simp [numD] at h
  | .ins _ _, _, h, _, _ => by simp [numD] at h
  | .scr _, _, h, _, _ => by simp [numD] at h
  | .ftp _, _, h, _, _ => by simp [numD] at h
  | .cls _, _, h, _, _ => by simp [numD] at h
  | .kdc _, _, h, _, _ => by simp [numD] at h
  | .exi _ _ _, _, h, _, _ => by simp [numD] at h
  | .dkf _, _, h, _, _ => by simp [numD] at h
  | .int _, .non, _, h, _ => by simp [numD] at h
  | .int _, .bl _, _, h, _ => by simp [numD] at h
  | .int _, .str _, _, h, _ => by simp [numD] at h
  | .int _, .lst _, _, h, _ => by simp [numD] at h
  | .int _, .dct _, _, h, _ => by simp [numD] at h
  | .int _, .ins _ _, _, h, _ => by simp [numD] at h
  | .int _, .scr _, _, h, _ => by simp [numD] at h
  | .int _, .ftp _, _, h, _ => by simp [numD] at h
  | .int _, .cls _, _, h, _ => by simp [numD] at h
  | .int _, .kdc _, _, h, _ => by simp [numD] at h
  | .int _, .exi _ _ _, _, h, _ => by simp [numD] at h
  | .int _, .dkf _, _, h, _ => by simp [numD] at h
  | .tup _, .non, _, h, _ => by simp [numD] at h
  | .tup _, .bl _, _, h, _ => by simp [numD] at h
  | .tup _, .str _, _, h, _ => by simp [numD] at h
  | .tup _, .lst _, _, h, _ => by simp [numD] at h
  | .tup _, .dct _, _, h, _ => by simp [numD] at h
  | .tup _, .ins _ _, _, h, _ => by simp [numD] at h
  | .tup _, .scr _, _, h, _ => by simp [numD] at h
  | .tup _, .ftp _, _, h, _ => by simp [numD] at h
  | .tup _, .cls _, _, h, _ => by simp [numD] at h
  | .tup _, .kdc _, _, h, _ => by simp [numD] at h
  | .tup _, .exi _ _ _, _, h, _ => by simp [numD] at h
  | .tup _, .dkf _, _, h, _ => by simp [numD] at h
theorem rcs_key : ∀ {a b : List D}, numDs a = true → numDs b = true → cOks (toPys a) (toPys b) = true → rcPs ltI ltL (toPys a) (toPys b) = ltNs (keyDs a) (keyDs b)
  | [], [], _, _, _ => rfl
  | [], y :: ys, _, _, _ => by simp [toPys, rcPs, keyDs, ltNs, cmpNs]
  | _ :: _, [], _, _, _ => by simp [toPys, rcPs, keyDs, ltNs, cmpNs]
  | x :: xs, y :: ys, ha, hb, hc => by
    simp only [numDs, Bool.and_eq_true] at ha hb
    simp only [toPys, cOks, Bool.and_eq_true] at hc
    simp only [toPys, rcPs, keyDs, eqv_key ha.1 hb.1]
    rw [rcs_key ha.2 hb.2 hc.2, ltNs_cons (numD_K ha.1) (numD_K hb.1)]
    by_cases h1 : keyD x = keyD y
    · rw [if_pos (decide_eq_true h1), if_pos h1]
    · have hk : cOk (toPy x) (toPy y) = true := by
        have := hc.1
        rw [eqv_key ha.1 hb.1, decide_eq_false h1, Bool.false_or] at this
        exact this
      rw [if_neg (by simp [h1]), if_neg h1, rc_key ha.1 hb.1 hk]
end
end Ev
namespace Ev
open PySem PySem.Spec PyProof.Rows L2
structure NK (h : Heap) (k : NestedKey) (a : Addr) : Prop where
  nest : NestedIs h k (.ref a)
  deep : k.depth ≤ 8
  nums : numK k = true
theorem NK.same {h : Heap} {j k : NestedKey} {a : Addr} (x : NK h j a) (y : NK h k a) : j = k := NestedIs.inj _ _ _ x.nest y.nest
theorem NK.stay {h h' : Heap} {k : NestedKey} {a : Addr} (x : NK h k a) (keep : ∀ b o, h.get? b = some o → h'.get? b = some o) : NK h' k a :=
  ⟨NestedIs.at (fun b o _ _ e _ => keep b o e) k _ x.nest, x.deep, x.nums⟩
theorem NK.but {h h' : Heap} {k : NestedKey} {a b : Addr} (x : NK h k a) {o : Obj} {es : Array (Int × Value)} {ep : Nat} {t : SetTable} (at' : h.get? b = some o) (dat : o.data = .set es ep t) (sm : Heap.SameBut b h h') : NK h' k a := by
  refine ⟨NestedIs.at (fun c oc vs n hc hd => ?_) k _ x.nest, x.deep, x.nums⟩
  rw [sm.2 c ?_]
  · exact hc
  · rintro rfl
    rw [at'] at hc
    cases hc
    rw [dat] at hd
    cases hd
section
variable {P : Program} {w : World}
def Answ (P : Program) (w : World) (f : Value → Sem Bool) (b : Bool) (s : Shared) (v : Value) : Prop :=
  ∀ (A : Around) (E : Value → Shared → Prop) (Q : Bool → Shared → Prop), Q b s → wpAny (model P w) A (f v) Q E s
mutual
theorem no_class : ∀ (k : NestedKey) (v : Value) (n : Nat) (s : Shared), NestedIs s.heap k v → k.depth ≤ n → Answ P w (ofAClassStatement n) false s v
  | .none, _, n, s, x, _ => by cases x; intro A E Q q; cases n <;> exact wpAny_pure q
  | .num i, _, n, s, x, _ => by cases x <;> (intro A E Q q; cases n <;> exact wpAny_pure q)
  | .text y, _, n, s, x, _ => by cases x; intro A E Q q; cases n <;> exact wpAny_pure q
  | .tup ks, _, 0, s, x, hn => by simp [NestedKey.depth] at hn
  | .tup ks, _, n + 1, s, x, hn => by
    cases x with
    | @tup a o vs m _ hg hc hd hk =>
      simp only [NestedKey.depth] at hn
      have each := no_classes ks _ n s hk (by omega)
      intro A E Q q
      unfold ofAClassStatement
      have ty : s.TypeIs (.ref a) "tuple" := ⟨o, hg, hc⟩
      refine wpAny_bind (wpAny_typeOf ty ?_)
      have tt : (("tuple" : String) == "tuple") = true := by decide
      simp only [tt, if_true]
      refine wpAny_bind (wpAny_pure ?_)
      simp only [Bool.not_true, Bool.false_eq_true, if_false]
      refine wpAny_bind (wpAny_seqItems hg hd (wpAny_bind ?_))
      show wpAny _ A (forIn vs _ _) _ E s
      rw [← Array.forIn_toList]
      refine wpAny_forIn_list _ (fun left st sx => sx = s ∧ st.1 = none ∧ ∀ u ∈ left, Answ P w (ofAClassStatement n) false s u) _ ?_ ?_ _ _ ⟨rfl, rfl, each⟩
      · rintro u left st sx ⟨rfl, _, all⟩
        refine wpAny_bind (all u List.mem_cons_self _ _ _ ?_)
        simp only [Bool.false_eq_true, if_false]
        exact wpAny_pure ⟨rfl, rfl, fun y hy => all y (List.mem_cons_of_mem _ hy)⟩
      · rintro ⟨b1, b2⟩ sx ⟨rfl, e, _⟩
        cases (show b1 = none from e)
        exact wpAny_pure q
theorem no_classes : ∀ (ks : List NestedKey) (vs : List Value) (n : Nat) (s : Shared), NestedAll s.heap ks vs → NestedKey.depthAll ks ≤ n → ∀ v ∈ vs, Answ P w (ofAClassStatement n) false s v
  | [], _, n, s, x, _, v, hv => by cases x; cases hv
  | k :: ks, _, n, s, x, hn, v, hv => by
    cases x with
    | cons x1 x2 =>
      simp only [NestedKey.depthAll] at hn
      cases hv with
      | head => exact no_class k _ n s x1 (by omega)
      | tail _ hv => exact no_classes ks _ n s x2 (by omega) v hv
end
mutual
theorem by_value : ∀ (k : NestedKey) (v : Value) (n : Nat) (s : Shared), numK k = true → NestedIs s.heap k v → k.depth ≤ n → Answ P w (hashByValue n) true s v
  | .none, _, n, s, g, x, _ => by simp [numK] at g
  | .num i, _, n, s, _, x, _ => by cases x <;> (intro A E Q q; cases n <;> exact wpAny_pure q)
  | .text y, _, n, s, g, x, _ => by simp [numK] at g
  | .tup ks, _, 0, s, _, x, hn => by simp [NestedKey.depth] at hn
  | .tup ks, _, n + 1, s, g, x, hn => by
    cases x with
    | @tup a o vs m _ hg hc hd hk =>
      simp only [NestedKey.depth] at hn
      have each := by_values ks _ n s (by simpa [numK] using g) hk (by omega)
      intro A E Q q
      unfold hashByValue
      have ty : s.TypeIs (.ref a) "tuple" := ⟨o, hg, hc⟩
      refine wpAny_bind (wpAny_specialOf ty F.slot_tuple_hash.lookup ?_)
      refine wpAny_bind (m := seqItems? (.ref a)) (wpAny_seqItems hg hd (wpAny_bind ?_))
      show wpAny _ A (forIn vs _ _) _ E s
      rw [← Array.forIn_toList]
      refine wpAny_forIn_list _ (fun left st sx => sx = s ∧ st.1 = none ∧ ∀ u ∈ left, Answ P w (hashByValue n) true s u) _ ?_ ?_ _ _ ⟨rfl, rfl, each⟩
      · rintro u left st sx ⟨rfl, _, all⟩
        refine wpAny_bind (all u List.mem_cons_self _ _ _ ?_)
        simp only [Bool.not_true, Bool.false_eq_true, if_false]
        exact wpAny_pure ⟨rfl, rfl, fun y hy => all y (List.mem_cons_of_mem _ hy)⟩
      · rintro ⟨b1, b2⟩ sx ⟨rfl, e, _⟩
        cases (show b1 = none from e)
        exact wpAny_pure q
theorem by_values : ∀ (ks : List NestedKey) (vs : List Value) (n : Nat) (s : Shared), numKs ks = true → NestedAll s.heap ks vs → NestedKey.depthAll ks ≤ n → ∀ v ∈ vs, Answ P w (hashByValue n) true s v
  | [], _, n, s, _, x, _, v, hv => by cases x; cases hv
  | k :: ks, _, n, s, g, x, hn, v, hv => by
    cases x with
    | cons x1 x2 =>
      simp only [NestedKey.depthAll] at hn
      simp only [numKs, Bool.and_eq_true] at g
      cases hv with
      | head => exact by_value k _ n s g.1 x1 (by omega)
      | tail _ hv => exact by_values ks _ n s g.2 x2 (by omega) v hv
end
variable {A : Around} {E : Value → Shared → Prop} {s : Shared}
end
abbrev Rows := List (Addr × NestedKey)
def rowsN (w : World) (L : Rows) : List (Int × Value) := L.map fun e => (e.2.hash w, .ref e.1)
structure SetN (w : World) (h : Heap) (a : Addr) (L : Rows) (es : Array (Int × Value)) (ep : Nat) (t : SetTable) : Prop where
  obj : ∃ o, h.get? a = some o ∧ o.ExactSet ∧ o.data = .set es ep t
  rows : es.toList = rowsN w L
  tab : TabOk t (L.map fun e => e.2.hash w)
  once : (L.map Prod.snd).Nodup
  keys : ∀ e ∈ L, NK h e.2 e.1
  flat : t.plain = true
  ord : w.params.followText "set-order" = true ∨ t.led = true
  room : 5 * L.length < 3 * t.mask
  few : L.length < 64
theorem rowsN_len {w : World} {L : Rows} {es : Array (Int × Value)} (h : es.toList = rowsN w L) : es.size = L.length := by
  simpa [rowsN] using congrArg List.length h
theorem rowsN_at {w : World} {L : Rows} {es : Array (Int × Value)} (h : es.toList = rowsN w L) {i : Nat} {e : Addr × NestedKey} (hi : L[i]? = some e) : es[i]? = some (e.2.hash w, Value.ref e.1) := by
  rw [← Array.getElem?_toList, h, rowsN, List.getElem?_map, hi]
  rfl
section
variable {P : Program} {w : World} {A : Around} {E : Value → Shared → Prop} {s : Shared} {a : Addr} {L : Rows} {es : Array (Int × Value)} {ep : Nat} {t : SetTable}
theorem fits_of {n : Nat} (h1 : t.place.size = n) (h2 : t.dummies = #[]) (h3 : n ≤ t.mask) : t.fits n = true := by
  simp [SetTable.fits, SetTable.fill, h1, h2, h3]
theorem SetN.fits (R : SetN w s.heap a L es ep t) : t.fits es.size = true := by
  have e1 := R.tab.sz
  have e2 := R.room
  have e3 := rowsN_len R.rows
  simp only [List.length_map] at e1
  exact fits_of (by omega) R.tab.dm (by omega)
end
end Ev
namespace Ev
open PySem PySem.Spec PyProof.Rows L2
theorem rowsN_order {w : World} {L : Rows} {es : Array (Int × Value)} (h : es.toList = rowsN w L) : ∀ is : List Nat, (∀ i ∈ is, i < L.length) →
    is.filterMap (fun i => es[i]?) = rowsN w (is.filterMap fun i => L[i]?) ∧ (is.filterMap fun i => L[i]?).map (fun e => e.2.hash w) = is.map fun i => (es.map (·.1)).getD i 0
  | [], _ => ⟨rfl, rfl⟩
  | i :: is, hi => by
    obtain ⟨e1, e2⟩ := rowsN_order h is fun j hj => hi j (List.mem_cons_of_mem _ hj)
    obtain ⟨e, he⟩ : ∃ e, L[i]? = some e := ⟨_, List.getElem?_eq_getElem (hi i List.mem_cons_self)⟩
    have r := rowsN_at h he
    rw [List.filterMap_cons_some r, List.filterMap_cons_some he, e1]
    refine ⟨rfl, ?_⟩
    rw [List.map_cons, List.map_cons, e2]
    congr 1
    simp [Array.getD_eq_getD_getElem?, Array.getElem?_map, r]
theorem pick_all {α : Type} (l : List α) : (List.range l.length).filterMap (fun i => l[i]?) = l := by
  induction l with
  | nil => rfl
  | cons x l ih =>
    rw [List.length_cons, List.range_succ_eq_map, List.filterMap_cons_some (by rfl), List.filterMap_map]
    refine congrArg (x :: ·) (Eq.trans ?_ ih)
    rfl
section
variable {P : Program} {w : World} {A : Around} {E : Value → Shared → Prop} {s : Shared} {a : Addr} {L : Rows} {es : Array (Int × Value)} {ep : Nat} {t : SetTable}
theorem laid {o : Obj} (g1 : s.heap.get? a = some o) (g2 : o.ExactSet) (g3 : o.data = .set es ep t) (rows : es.toList = rowsN w L) (psz : t.place.size = es.size) (nod : t.dummies = #[]) (small : es.size ≤ t.mask)
    (once : (L.map Prod.snd).Nodup) (keys : ∀ e ∈ L, NK s.heap e.2 e.1) (flat : t.plain = true) (ord : w.params.followText "set-order" = true ∨ t.led = true) (few : L.length < 64) {want M : Nat}
    (m1 : SetTable.sizeAbove want - 1 = M) (m2 : MaskOk M) (m3 : SetTable.sizeAbove want ≤ 128) (m4 : 5 * L.length < 3 * M) {Q : Unit → Shared → Prop}
    (q : ∀ h' L' es' ep' t', Heap.SameBut a s.heap h' → SetN w h' a L' es' ep' t' → L'.Perm L → Q () { s with heap := h' }) : wpAny (model P w) A (setRelay a want) Q E s := by
  have len := rowsN_len rows
  obtain ⟨t', os, e1, e2, e3, e4, e5, e6, _⟩ := relaid_ok t (hs := es.map (·.1)) m1 m2 (by simp only [Array.size_map]; omega)
  simp only [Array.size_map, len] at e2
  obtain ⟨r1, r2⟩ := rowsN_order rows os.toList fun i hi => List.mem_range.mp (e2.mem_iff.mp hi)
  have pm : (os.toList.filterMap fun i => L[i]?).Perm L := by
    have := e2.filterMap fun i => L[i]?
    rwa [pick_all] at this
  rw [← r2] at e3
  generalize (os.toList.filterMap fun i => L[i]?) = L' at r1 e3 pm
  have r1' : (os.filterMap (es[·]?)).toList = rowsN w L' := by
    rw [Array.toList_filterMap]
    exact r1
  have sz : (os.filterMap (es[·]?)).size = es.size := by
    rw [rowsN_len r1', pm.length_eq, len]
  rw [setRelay_eq]
  refine wpAny_bind (wpAny_setState_of g1 g3 (fits_of psz nod small) ?_)
  dsimp only
  refine wp_if_neg (by rw [sizeLine_eq]; omega) ?_
  try refine wpAny_bind (wpAny_pure ?_)
  rw [e1]
  refine wpAny_bind (wp_if_neg (by simp [sz]) ?_)
  try refine wpAny_bind (wpAny_pure ?_)
  refine wpAny_pure (wpAny_storeSet_of g1 g3 ?_ (by rw [sz, len, sizeLine_eq]; omega))
  have sm : Heap.SameBut a s.heap (s.heap.update a (Obj.putSet (os.filterMap (es[·]?)) t')) := Heap.SameBut.update ..
  exact q _ L' _ (ep + 1) t' sm { obj := ⟨_, store_at g1 g3, ⟨g2.1, g2.2.1, g2.2.2⟩, rfl⟩, rows := r1', tab := e3, once := (pm.map Prod.snd).nodup_iff.mpr once, keys := fun e he => (keys e (pm.mem_iff.mp he)).but g1 g3 sm, flat := e6.trans flat, ord := e5 ▸ ord, room := by rw [pm.length_eq, e4]; exact m4, few := by rw [pm.length_eq]; exact few } pm
end
end Ev
set_option maxHeartbeats 3200000
namespace Ev
open PySem PySem.Spec PyProof.Rows L2
structure Met (ks : Rows) (i : Nat) (L : Rows) : Prop where
  sub : ∀ e ∈ L, e ∈ ks.take i
  all : ∀ e ∈ ks.take i, e.2 ∈ L.map Prod.snd
  len : L.length ≤ i
theorem Met.none (ks : Rows) : Met ks 0 [] := ⟨fun _ h => by simp at h, fun _ h => by simp at h, Nat.le_refl _⟩
theorem take_one {α : Type} {l : List α} {i : Nat} {x : α} (h : l[i]? = some x) : l.take (i + 1) = l.take i ++ [x] := by simp [List.take_succ, h]
theorem Met.old {ks L : Rows} {i : Nat} {x : Addr × NestedKey} (m : Met ks i L) (h : ks[i]? = some x) (hx : x.2 ∈ L.map Prod.snd) : Met ks (i + 1) L := by
  constructor
  · intro e he
    rw [take_one h]
    exact List.mem_append.mpr (.inl (m.sub e he))
  · intro e he
    rw [take_one h] at he
    rcases List.mem_append.mp he with z | z
    · exact m.all e z
    · cases List.mem_singleton.mp z
      exact hx
  · have := m.len
    omega
theorem Met.new {ks L L' : Rows} {i : Nat} {x : Addr × NestedKey} (m : Met ks i L) (h : ks[i]? = some x) (pm : L'.Perm (x :: L)) : Met ks (i + 1) L' := by
  constructor
  · intro e he
    rw [take_one h]
    cases pm.mem_iff.mp he with
    | head => exact List.mem_append.mpr (.inr (List.mem_singleton.mpr rfl))
    | tail _ z => exact List.mem_append.mpr (.inl (m.sub e z))
  · intro e he
    rw [take_one h] at he
    refine (pm.map Prod.snd).mem_iff.mpr ?_
    rcases List.mem_append.mp he with z | z
    · exact List.mem_cons_of_mem _ (m.all e z)
    · cases List.mem_singleton.mp z
      exact List.mem_cons_self
  · have := m.len
    rw [pm.length_eq, List.length_cons]
    omega
section
variable {P : Program} {w : World} {A : Around} {E : Value → Shared → Prop} {s : Shared}
end
end Ev
set_option maxHeartbeats 1000000
namespace Ev
open PySem PySem.Spec PyProof.Rows L2
def headD : D → Option Bool
  | .tup (.int _ :: _) => some true
  | .tup (.tup _ :: _) => some false
  | _ => none
structure Ordb (ds : List D) : Prop where
  num : ∀ d ∈ ds, numD d = true
  head : ∃ b, ∀ d ∈ ds, headD d = some b
  cmp : ∀ x ∈ ds, ∀ y ∈ ds, cOk (toPy x) (toPy y) = true
  shp : ∀ d ∈ ds, SeqAt.shaped (toPy d) = true
mutual
theorem reads_stay {h h' : Heap} (keep : ∀ b o, h.get? b = some o → o.cls = .type "tuple" → h'.get? b = some o) : ∀ {d : D} {v : Value} {as : List Addr}, numD d = true → Reads h v (toPy d) as → Reads h' v (toPy d) as
  | .int i, _, _, _, .int _ t => .int _ t
  | .tup xs, _, _, hn, .tuple h1 h2 h3 h4 => .tuple (keep _ _ h1 h2) h2 h3 (readsAll_stay keep (by simpa [numD] using hn) h4)
  | .non, _, _, hn, _ => by simp [numD] at hn
  | .bl _, _, _, hn, _ => by simp [numD] at hn
  | .str _, _, _, hn, _ => by simp [numD] at hn
  | .lst _, _, _, hn, _ => by simp [numD] at hn
  | .dct _, _, _, hn, _ => by simp [numD] at hn
  | .ins _ _, _, _, hn, _ => by simp [numD] at hn
  | .scr _, _, _, hn, _ => by simp [numD] at hn
  | .ftp _, _, _, hn, _ => by simp [numD] at hn
  | .cls _, _, _, hn, _ => by simp [numD] at hn
  | .kdc _, _, _, hn, _ => by simp [numD] at hn
  | .exi _ _ _, _, _, hn, _ => by simp [numD] at hn
  | .dkf _, _, _, hn, _ => by simp [numD] at hn
theorem readsAll_stay {h h' : Heap} (keep : ∀ b o, h.get? b = some o → o.cls = .type "tuple" → h'.get? b = some o) : ∀ {ds : List D} {vs : List Value} {as : List Addr}, numDs ds = true → ReadsAll h vs (toPys ds) as → ReadsAll h' vs (toPys ds) as
  | [], _, _, _, .nil => .nil
  | d :: ds, _, _, hn, .cons r rs => by
    simp only [numDs, Bool.and_eq_true] at hn
    exact .cons (reads_stay keep hn.1 r) (readsAll_stay keep hn.2 rs)
end
section
variable {P : Program} {w : World} {A : Around} {E : Value → Shared → Prop} {s : Shared}
def Holds (key : Value → NestedKey) (h : Heap) (ds : List D) (v : Value) : Prop := ∃ d ∈ ds, ∃ as, Reads h v (toPy d) as ∧ key v = keyD d
end
end Ev
namespace Ev
open PySem PySem.Spec PyProof.Rows L2
section
variable {P : Program} {w : World} {A : Around} {E : Value → Shared → Prop} {s : Shared}
end
end Ev
namespace Ev
open PySem PySem.Spec PyProof.Rows L2
def SetN0 (w : World) (a : Addr) (L : Rows) (h : Heap) : Prop := ∃ (es : Array (Int × Value)) (ep : Nat) (t : SetTable), (∃ o, h.get? a = some o ∧ o.ExactSet ∧ o.data = .set es ep t) ∧ es.toList = rowsN w L ∧
  TabOk t (L.map fun e => e.2.hash w) ∧ (L.map Prod.snd).Nodup ∧ t.plain = true ∧ (w.params.followText "set-order" = true ∨ t.led = true) ∧ 5 * L.length < 3 * t.mask ∧ L.length < 64
theorem SetN.bare {w : World} {h : Heap} {a : Addr} {L : Rows} {es : Array (Int × Value)} {ep : Nat} {t : SetTable} (R : SetN w h a L es ep t) : SetN0 w a L h :=
  ⟨es, ep, t, R.obj, R.rows, R.tab, R.once, R.flat, R.ord, R.room, R.few⟩
section
variable {X : Cx}
end
mutual
theorem num_flat : ∀ {d : D}, numD d = true → flatD d = true
  | .int _, _ => by simp [flatD]
  | .tup xs, h => by simp only [flatD]; exact nums_flat (by simpa [numD] using h)
  | .non, h => by simp [numD] at h
  | .bl _, h => by simp [numD] at h
  | .str _, h => by simp [numD] at h
  | .lst _, h => by simp [numD] at h
  | .dct _, h => by simp [numD] at h
  | .ins _ _, h => by simp [numD] at h
  | .scr _, h => by simp [numD] at h
  | .ftp _, h => by simp [numD] at h
  | .cls _, h => by simp [numD] at h
  | .kdc _, h => by simp [numD] at h
  | .exi _ _ _, h => by simp [numD] at h
  | .dkf _, h => by simp [numD] at h
theorem nums_flat : ∀ {ds : List D}, numDs ds = true → flatDs ds = true
  | [], _ => by simp [flatDs]
  | d :: ds, h => by
    simp only [numDs, Bool.and_eq_true] at h
    simp only [flatDs, num_flat h.1, nums_flat h.2, Bool.and_self]
end
section
variable {X : Cx} {F : Fx} {Wsh : WX} {e : Expr} {f : FE}
end
end Ev
namespace Ev
open PySem PySem.Spec L2
structure MDefK (K : PySem.W.Frag) (C : Addr) (x qual : Str) (st : Stmt) (kws : List (Str × V)) (f : Addr) (fd : FuncData) : Prop where
  fk : FunD K x qual (defArgs st) (defBody st) (defScope st) [] kws f fd
  me : Meth K C x f
theorem MDefK.fn {K : PySem.W.Frag} {C : Addr} {x qual : Str} {st : Stmt} {kws : List (Str × V)} {f : Addr} {fd : FuncData} (M : MDefK K C x qual st kws f fd) : FunD K x qual (defArgs st) (defBody st) (defScope st) [] [] f fd := by
  obtain ⟨oc, od, dV, kV, doc, pm, an, cdv, ct, osl, e, lk, hcd, hD, _⟩ := M.fk.ex
  exact ⟨⟨oc, od, dV, kV, doc, pm, an, cdv, ct, osl, e, lk, hcd, hD, .inl rfl⟩, M.fk.kp⟩
end Ev
namespace Ev
open PySem PySem.Spec L2 PyProof.Rows
section
variable {l : PySem.W.OpenLaw} {n k : Nat} {q : Program} {loose : List Str} {XP : (Str → Option Value) → Heap → Prop} {YP : World → Heap → Prop} {d : DefRec} {x : Str}
theorem walk_NX (noImp : importsNone q = true) (most : l.most = some n) (few : n ≤ sizeLine) (nodef : d.params.defaults = []) (hr : Room k callerA)
    (all : ∀ (w : World) (mg : Str → Option Value) (fa : Addr) (h : Heap), YP w h → h.Ns mainGlobals mg → mg d.name = some (.ref fa) → ∃ K : PySem.W.Frag, K.In h ∧ LawAtN l w K k n x mg fa h) :
    PySem.W.WalkO q loose XP YP l.row.toRowW d [] (fun f vs => PySem.call f vs) := by
  apply Att.attach_callB most nodef
  intro w s₀ s1 mg mb fa o pm cd doc a vs ns g y ho hd hcd hmg hobj hints hlen hbits hg
  obtain ⟨K, KX, fd, cts, sp, tA, hb, hsp, hF⟩ := all w mg fa _ y g.T.g hmg
  exact law_callN KX g.T.g g.T.b g.T.builtins g.T.nolimit hg tA g.T.bmain hobj hints (Nat.le_trans hlen few) hr (let ⟨mm, z, _⟩ := (g.T.seer noImp).mods; ⟨mm, z⟩) hF hb fun H st => hsp H a ns hlen st
end
theorem lookup_at {α β : Type} [BEq α] [LawfulBEq α] : ∀ {l : List (α × β)} {i : Nat} {s : α} {p : β}, (l.map (·.1)).Nodup → l[i]? = some (s, p) → l.lookup s = some p
  | [], _, _, _, _, h => by simp at h
  | (t, q) :: l, 0, s, p, _, h => by
    simp only [List.getElem?_cons_zero, Option.some.injEq, Prod.mk.injEq] at h
    obtain ⟨rfl, rfl⟩ := h
    simp [List.lookup]
  | (t, q) :: l, i + 1, s, p, nd, h => by
    rw [List.getElem?_cons_succ] at h
    rw [List.map_cons, List.nodup_cons] at nd
    have ne : (s == t) = false := by
      rw [beq_eq_false_iff_ne]
      exact fun e => nd.1 (by rw [← e]; exact List.mem_map_of_mem (f := (·.1)) (List.mem_of_getElem? h))
    rw [List.lookup_cons, ne]
    exact lookup_at nd.2 h
def aK (tb : List (Str × (PySem.W.Frag → Addr))) (K : PySem.W.Frag) (s : Str) : Addr := match tb.lookup s with
  | some p => p K
  | none => 0
theorem aK_at {tb : List (Str × (PySem.W.Frag → Addr))} (nd : (tb.map (·.1)).Nodup) (K : PySem.W.Frag) (i : Nat) {s : Str} {p : PySem.W.Frag → Addr} (h : tb[i]? = some (s, p)) : aK tb K s = p K := by
  unfold aK
  rw [lookup_at nd h]
section
variable {P : Program} {w : World} {K : PySem.W.Frag} {mg : Str → Option Value} {h : Heap} {x qual : Str} {st : Stmt} {f : Addr} {fd : FuncData}
theorem fd_eq {params : Arguments} {body : List Stmt} {scope : Scope} {dvs : List V} {kws : List (Str × V)} (F : FunD K x qual params body scope dvs kws f fd) : fd = fdAt K f := by
  obtain ⟨oc, od, dV, kV, doc, pm, an, cdv, ct, osl, _, lk, _⟩ := F.ex
  unfold fdAt
  rw [lk]
theorem fun_hx (F : FunD K x qual (defArgs st) (defBody st) (defScope st) [] [] f fd) : Fun K x qual st f (fdAt K f) := by
  have e := fd_eq F
  obtain ⟨oc, od, dV, kV, doc, pm, an, cdv, ct, osl, e1, lk, hc, hD, _⟩ := F.ex
  rw [← e]
  rcases hD with ⟨_, rfl⟩ | ⟨z, _⟩
  · exact ⟨⟨oc, od, kV, doc, pm, an, cdv, ct, osl, e1, lk, hc⟩, F.kp⟩
  · exact absurd rfl z
theorem def_hx {ps : List Str} (F : ∃ fd, FunD K x x (defArgs st) (defBody st) (defScope st) [] [] (He.ga K x) fd) (X : K.In h) (G : h.Ns mainGlobals mg) (c : (He.Fa.glo x).ok K = true)
    (b : ∀ (kV doc pm : Value) (an : Option Addr) (cdv ct : Value) (us : List Value), us.length = ps.length → bindArgs (PySem.W.fnOf x x (defArgs st) (defBody st) (defScope st) .none kV doc pm an cdv ct) ⟨us, []⟩ = pure (ps.zip us)) :
    Def K mg x st ps (He.ga K x) (fdAt K (He.ga K x)) := by
  obtain ⟨fd, F⟩ := F
  exact ⟨fun_hx F, He.glo_ok X G c, (fun_hx F).binds b⟩
theorem fun_hx_eq (F : ∃ fd, FunD K x qual (defArgs st) (defBody st) (defScope st) [] [] f fd) : ∃ (oc : Value) (od : Option Addr) (kV doc pm : Value) (an : Option Addr) (cdv ct : Value) (osl : Array (Option Value)),
    fdAt K f = PySem.W.fnOf x qual (defArgs st) (defBody st) (defScope st) .none kV doc pm an cdv ct ∧ K.lookup f = some ⟨oc, od, .func (fdAt K f), osl⟩ ∧ PySem.W.codeIn K cdv qual = true := by
  obtain ⟨fd, F⟩ := F
  exact (fun_hx F).ex
theorem lam_hx {y : Str} (F : ∃ fd, FunD K y y (defArgs st) (defBody st) (defScope st) [] [] (He.ga K y) fd) :
    ∃ (oc : Value) (od : Option Addr) (kV doc pm : Value) (an : Option Addr) (ct : Value) (osl : Array (Option Value)), fdAt K (He.ga K y) = PySem.W.fnOf y y (defArgs st) (defBody st) (defScope st) .none kV doc pm an (.ref (He.codeOf K (y, none))) ct ∧
      K.lookup (He.ga K y) = some ⟨oc, od, .func (PySem.W.fnOf y y (defArgs st) (defBody st) (defScope st) .none kV doc pm an (.ref (He.codeOf K (y, none))) ct), osl⟩ ∧ PySem.W.codeIn K (.ref (He.codeOf K (y, none))) y = true := by
  obtain ⟨oc, od, kV, doc, pm, an, cdv, ct, osl, e, lk, hc⟩ := fun_hx_eq F
  obtain ⟨c, rfl⟩ := He.codeIn_ref hc
  rw [e] at lk
  have ec : He.codeOf K (y, none) = c := He.codeOf_eq (p := (y, none)) lk rfl
  rw [ec]
  exact ⟨oc, od, kV, doc, pm, an, ct, osl, e, lk, hc⟩
section
variable {C : Addr} {ps : List Str}
theorem mdef_hx (F : ∃ fd, FunD K x qual (defArgs st) (defBody st) (defScope st) [] [] (He.ma K C x) fd) (me : Meth K C x (He.ma K C x))
    (b : ∀ (kV doc pm : Value) (an : Option Addr) (cdv ct : Value) (us : List Value), us.length = ps.length → bindArgs (PySem.W.fnOf x qual (defArgs st) (defBody st) (defScope st) .none kV doc pm an cdv ct) ⟨us, []⟩ = pure (ps.zip us)) :
    MDef K C x qual st ps [] (He.ma K C x) (fdAt K (He.ma K C x)) := by
  obtain ⟨fd, F⟩ := F
  have e := fd_eq F
  rw [← e]
  exact ⟨F, me, F.bindsN b⟩
theorem mdef_hxD {dvs : List V} (F : ∃ fd, FunD K x qual (defArgs st) (defBody st) (defScope st) dvs [] (He.ma K C x) fd) (me : Meth K C x (He.ma K C x)) (hne : dvs ≠ [])
    (b : ∀ (T : Addr) (kV doc pm : Value) (an : Option Addr) (cdv ct : Value) (us its : List Value), us.length = ps.length → its.length = dvs.length →
      ∃ k, bindArgs (PySem.W.fnOf x qual (defArgs st) (defBody st) (defScope st) (.ref T) kV doc pm an cdv ct) ⟨us, []⟩ = seqItems? (.ref T) >>= k ∧ k (some its.toArray) = pure (ps.zip (us ++ its.drop dvs.length))) :
    MDef K C x qual st ps dvs (He.ma K C x) (fdAt K (He.ma K C x)) := by
  obtain ⟨fd, F⟩ := F
  have e := fd_eq F
  rw [← e]
  refine ⟨F, me, ?_⟩
  obtain ⟨ds, v, bd⟩ := FunD.binds1 F ps.length dvs.length hne (by omega) b
  rw [List.drop_length] at v
  cases v
  exact bd
end
theorem isB_ok {C : Addr} (cl : Cls K C) (c : isB K C = true) : IsC K C := by
  obtain ⟨c1, c⟩ := He.ba c
  obtain ⟨c2, c⟩ := He.ba c
  obtain ⟨c3, c⟩ := He.ba c
  obtain ⟨c4, c⟩ := He.ba c
  obtain ⟨c5, c6⟩ := He.ba c
  exact ⟨cl, He.eqO_ok c1, He.eqO_ok c2, of_decide_eq_true c3, of_decide_eq_true c4, of_decide_eq_true c5, fun T hT => of_decide_eq_true (List.all_eq_true.mp c6 T hT)⟩
theorem neB_ok {C : Addr} (c : neB K C = true) : NeM K C := by
  obtain ⟨c1, c2⟩ := He.ba c
  exact ⟨He.eqO_ok c1, of_decide_eq_true c2⟩
theorem eqB_ok {C : Addr} (me : Meth K C "__eq__" (He.ma K C "__eq__")) (c : eqB K C = true) : EqM K C (He.ma K C "__eq__") := ⟨me.1, me.2, fun T hT => of_decide_eq_true (List.all_eq_true.mp c T hT)⟩
theorem gtup_hx {zs : List Str} (X : K.In h) (G : h.Ns mainGlobals mg) (c : (He.Fa.glo x).ok K = true) (t : He.tupB K x (zs.map He.Dv.str) = true) : GTup K mg x zs := by
  unfold He.tupB at t
  have g := He.glo_ok X G c
  cases q : K.lookup (He.ga K x) with
  | none => rw [q] at t; cases t
  | some o =>
    obtain ⟨oc, od, dt, osl⟩ := o
    rw [q] at t
    cases oc with
    | type c =>
      cases dt with
      | seq its n =>
        obtain ⟨h1, h2⟩ := He.ba (show (decide (c = "tuple") && (decide (its.size ≤ sizeLine) && He.relAll ((zs.map He.Dv.str).map (He.Dv.v K)) its.toList)) = true from t)
        obtain ⟨h3, h4⟩ := He.ba h2
        have v := He.relAll_ok h4
        rw [List.map_map] at v
        exact ⟨_, _, its, n, g, q, congrArg Value.type (of_decide_eq_true h1), rfl, of_decide_eq_true h3, v⟩
      | _ => cases t
    | _ => cases dt <;> cases t
theorem cellB_ok {cc C : Addr} (c : cellB K cc C = true) : ∃ cl cld csl, K.lookup cc = some ⟨cl, cld, .cell (some (.ref C)), csl⟩ := by
  unfold cellB at c
  split at c
  · rename_i a b D e lk
    have : D = C := beq_iff_eq.mp c
    subst this
    exact ⟨_, _, _, lk⟩
  · cases c
theorem fileB_ok {cd : Value} (c : fileB K P cd = true) : ∃ cda, cd = .ref cda ∧ ∃ (ccl : Value) (cdd : Option Addr) (vs : Array Value) (ccs : Array (Option Value)) (file : Str) (tf : Tok), K.lookup cda = some ⟨ccl, cdd, .fields vs, ccs⟩ ∧ vs[2]? = some (.str file tf) ∧ ((P.main.file : Str) == file) = true := by
  unfold fileB at c
  split at c
  · split at c
    · split at c
      · exact ⟨_, rfl, _, _, _, _, _, _, by assumption, by assumption, c⟩
      · cases c
    · cases c
  · cases c
theorem exObs_ok {st : Stmt} (e : exObs K x = exVal st) : ∃ (oc : Value) (od : Option Addr) (osl : Array (Option Value)) (qual : Str) (doc pm : Value) (an : Option Addr) (cdv ct : Value),
    fdAt K (exI K x) = PySem.W.ksFn "__init__" qual (defArgs st) (defBody st) (defScope st) .none .none doc pm an cdv ct (exC K x) ∧ K.lookup (exI K x) = some ⟨oc, od, .func (fdAt K (exI K x)), osl⟩ := by
  unfold exObs at e
  cases q : K.lookup (exI K x) with
  | none => rw [q] at e; cases e
  | some o =>
    obtain ⟨oc, od, dt, osl⟩ := o
    rw [q] at e
    cases dt with
    | func fd =>
      have ef : fdAt K (exI K x) = fd := by
        unfold fdAt
        rw [q]
      have ec : exC K x = match fd.closure with | (_, c) :: _ => c | _ => 0 := by
        unfold exC
        rw [ef] <;> rfl
      obtain ⟨n1, n2, n3, n4, n5, n6, n7, n8, n9, n10, n11, n12, n13, n14, n15⟩ := fd
      have e2 : (some (n1, n3, n4, n5, n6, n7.map (·.1), n8, n9, n15) : ExV) = (some ("__init__", defArgs st, .stmts (defBody st), defScope st, mainGlobals, ["__class__"], .none, .none, builtinsNs) : ExV) := e
      simp only [Option.some.injEq, Prod.mk.injEq] at e2
      obtain ⟨h1, h2, h3, h4, h5, h6, h7, h8, h9⟩ := e2
      subst h1 h2 h3 h4 h5 h7 h8 h9
      match n7, h6 with
      | [(y, c)], h6 =>
        rw [List.map_cons, List.map_nil, List.cons.injEq] at h6
        obtain ⟨rfl, _⟩ := h6
        rw [ef]
        refine ⟨oc, od, osl, n2, n10, n11, n12, n13, n14, ?_, rfl⟩
        rw [ec]
    | _ => cases e
theorem exTxt_hx {fl : Str} {bn nw ini : String} {tl : List Value} {st : Stmt} {txt : Str} {j : Nat} {a1 a2 p0 p1 p2 p3 p4 p5 q1 q2 q3 q4 : Pos} (Bs : EvX.Base bn nw ini tl) (X : K.In h) (G : h.Ns mainGlobals mg) (c : exB P fl bn nw ini tl x K = true) (e : exObs K x = exVal st)
    (hA : defArgs st = EvX.iA fl a1 a2) (hB : defBody st = EvX.iB fl txt j p0 p1 p2 p3 p4 p5 q1 q2 q3 q4) (hS : defScope st = EvX.iS fl)
    (bi : ∀ (qual : Str) (doc pm : Value) (an : Option Addr) (cdv ct : Value) (cc : Addr) (a b : Value), bindArgs (PySem.W.ksFn "__init__" qual (EvX.iA fl a1 a2) (EvX.iB fl txt j p0 p1 p2 p3 p4 p5 q1 q2 q3 q4) (EvX.iS fl) .none .none doc pm an cdv ct cc) ⟨[a, b], []⟩ = pure [(("self" : Str), a), (fl, b)])
    (ev : ∀ env : Env, ∃ pl : Sem Bool, eval (.Call (.Attribute (.Call (.Name "super" p0) [] [] p1) "__init__" p2) [.Constant (.str txt) j p3] [] p4) env = (do
      let ov ← attributeBase (.Call (.Name "super" p0) [] [] p1) "__init__" env (eval (.Call (.Name "super" p0) [] [] p1) env)
      standAt p2.atName
      let (f, first) ← holding [ov] (getMethod ov "__init__" pl)
      callWith p4 f first (backTo p4 (starEach [.Constant (.str txt) j p3] env)) []))
    (top : (P.main.scope.names.lookup ("super" : Str)).isSome = false) (n1 : fl ≠ "self") (n2 : fl ≠ "__class__") (n3 : fl ≠ "super") (nd : (fl == ("__debug__" : Str)) = false) :
    EvX.ExTxt P K mg x fl (He.ga K x) (exI K x) (exC K x) := by
  obtain ⟨c1, c⟩ := He.ba c
  obtain ⟨c2, c⟩ := He.ba c
  obtain ⟨c3, c⟩ := He.ba c
  obtain ⟨c4, c⟩ := He.ba c
  obtain ⟨c5, c⟩ := He.ba c
  obtain ⟨c6, c⟩ := He.ba c
  obtain ⟨c7, c⟩ := He.ba c
  obtain ⟨c8, c⟩ := He.ba c
  obtain ⟨c9, c⟩ := He.ba c
  obtain ⟨c10, c⟩ := He.ba c
  obtain ⟨c11, c⟩ := He.ba c
  obtain ⟨c12, c⟩ := He.ba c
  obtain ⟨c13, c⟩ := He.ba c
  obtain ⟨c14, c⟩ := He.ba c
  obtain ⟨c15, c⟩ := He.ba c
  obtain ⟨c16, c⟩ := He.ba c
  obtain ⟨c17, c⟩ := He.ba c
  obtain ⟨c18, c⟩ := He.ba c
  obtain ⟨c19, c⟩ := He.ba c
  obtain ⟨c20, c⟩ := He.ba c
  obtain ⟨c21, c22⟩ := He.ba c
  obtain ⟨oc, od, osl, qual, doc, pm, an, cdv, ct, ef, lk⟩ := exObs_ok e
  rw [ef] at c19 c20
  obtain ⟨cda, rfl, ccl, cdd, vs, ccs, file, tf, hcode, hvs, hfile⟩ := fileB_ok c20
  rw [hA, hB, hS] at ef
  rw [ef] at lk
  have cls : ∃ nm q N bs bm sn sub ab col dd k0 k1 k2 k3 k5, K.lookup (He.ga K x) = some (excClassObj nm q (He.ga K x) N bs bm true sn sub ab col dd k0 k1 k2 k3 k5 nw) ∧ PySem.W.excTail tl bm = true ∧ PySem.W.alongIn K "__init__" bm = some (some (.builtin ini)) := by
    obtain ⟨nm, N, q, bs, bm, hd, sn, sub, ab, col, dd, k0, k1, k2, k3, k5, hg, _⟩ := PySem.W.excInit_of X c1
    have lo : ∃ o, K.lookup (He.ga K x) = some o := by
      cases z : K.lookup (He.ga K x) with
      | none =>
        unfold PySem.W.excInitIn at c1
        rw [z] at c1
        cases c1
      | some o => exact ⟨o, rfl⟩
    obtain ⟨o, ho⟩ := lo
    have eo := (X _ _ ho).symm.trans hg
    have ho : K.lookup (He.ga K x) = some (excClassObj nm q (He.ga K x) N bs bm hd sn sub ab col dd k0 k1 k2 k3 k5 nw) := by rw [ho]; exact eo
    have hc : PySem.W.clsIn K (He.ga K x) = some { name := nm, bases := bs, mro := .ref (He.ga K x) :: bm, ns := N, qualname := q, hasDict := hd, slotNames := sn, subclasses := sub, abstract := ab, collection := col, hasDel := false } := by
      unfold PySem.W.clsIn
      rw [ho] <;> rfl
    unfold PySem.W.excOver at c2
    unfold PySem.W.hasDictIn at c14
    rw [hc] at c2 c3 c14
    simp only [Option.any_some] at c2 c3 c14
    have c14 : hd = true := c14
    subst c14
    exact ⟨nm, q, N, bs, bm, sn, sub, ab, col, dd, k0, k1, k2, k3, k5, ho, (He.ba (show ((He.ga K x == He.ga K x) && PySem.W.excTail tl bm) = true from c2)).2, He.eqO_ok c3⟩
  obtain ⟨nm, q, N, bs, bm, sn, sub, ab, col, dd, k0, k1, k2, k3, k5, hcl, r1, r2⟩ := cls
  exact {
    gC := PySem.W.mg_of X G (He.eqO_ok c22), cls := ⟨bn, nw, ini, tl, nm, q, N, bs, bm, sn, sub, ab, col, dd, k0, k1, k2, k3, k5, Bs, of_decide_eq_true c4, hcl, r1, r2⟩, sa := He.eqO_ok c5, ga := He.eqO_ok c6, gg := He.eqO_ok c7, noN := He.eqO_ok c8,
    iC := He.eqO_ok c9, tC := of_decide_eq_true c10, kC := c11, exC := of_decide_eq_true c12, tyC := of_decide_eq_true c13, hdC := c14, te := of_decide_eq_true c15, ms := of_decide_eq_true c16, tp := He.eqO_ok c17, su := PySem.W.mg_none_of X G (He.eqO_ok c18),
    fn := ⟨oc, od, qual, doc, pm, an, ct, osl, txt, j, a1, a2, p0, p1, p2, p3, p4, p5, q1, q2, q3, q4, cda, lk, c19, fun a b => bi qual doc pm an (.ref cda) ct (exC K x) a b, ev, ccl, cdd, vs, ccs, file, tf, hcode, hvs, hfile⟩, cell := cellB_ok c21, top := top, n1 := n1, n2 := n2, n3 := n3, nd := nd }
end
theorem SaysZ.tabAt {fa : List He.Fa} {fn : List He.DefD} {tf : List He.Defn} {ex : PySem.W.Frag → Bool} {xs : List Str} {xv : List ExV} {h : Heap} {K : PySem.W.Frag} (c : SaysZ fa fn tf ex xs xv h K) (X : K.In h) {p : He.Defn} (hp : p ∈ tf) : TabAt K h (He.cT K p) :=
  ⟨(c.tab p hp).2.2, (c.tab p hp).2.1, PySem.W.codeHd_of_K X (c.tab p hp).1⟩
theorem SaysZ.ex_ {fa : List He.Fa} {fn : List He.DefD} {tf : List He.Defn} {exs : List (PySem.W.Frag → Bool)} {xs : List Str} {xv : List ExV} {h : Heap} {K : PySem.W.Frag} (c : SaysZ fa fn tf (fun K => exs.all fun f => f K) xs xv h K) (i : Nat) {f : PySem.W.Frag → Bool} (e : exs[i]? = some f := by rfl) : f K = true :=
  List.all_eq_true.mp c.more f (List.mem_of_getElem? e)
theorem SaysZ.x_ {fa : List He.Fa} {fn : List He.DefD} {tf : List He.Defn} {ex : PySem.W.Frag → Bool} {xs : List Str} {xv : List ExV} {h : Heap} {K : PySem.W.Frag} (c : SaysZ fa fn tf ex xs xv h K) (i : Nat) {x : Str} {v : ExV} (e : xs[i]? = some x := by rfl) (ev : xv[i]? = some v := by rfl) : exObs K x = v := by
  have e2 : (xs.map (exObs K))[i]? = xv[i]? := by rw [c.exo]
  rw [List.getElem?_map, e, ev] at e2
  exact Option.some.inj e2
end Ev
namespace Ev
open PySem PySem.Spec L2 PyProof.Rows
section
variable {K : PySem.W.Frag} {C : Addr} {x qual sn pd : Str} {st : Stmt}
theorem mdefW_hx (F : ∃ fd, FunD K x qual (defArgs st) (defBody st) (defScope st) [] [] (He.ma K C x) fd) (me : Meth K C x (He.ma K C x)) (ar : ∃ p1 p2, defArgs st = kwA sn pd p1 p2) :
    MDefW K C x qual st sn pd (He.ma K C x) (fdAt K (He.ma K C x)) := by
  obtain ⟨fd, F⟩ := F
  exact ⟨fun_hx F, me, ar⟩
end
end Ev
set_option maxHeartbeats 4000000
namespace K06
open PySem PySem.Spec L2 Ev PyProof.Rows
def hdAt0 : List (Str × (PySem.W.Frag → Addr)) := [("is_among", fun K => He.ga K "is_among"),
  ("is_name", fun K => He.ga K "is_name"),
  ("is_row", fun K => He.ga K "is_row"),
  ("is_setting", fun K => He.ga K "is_setting"),
  ("names_of", fun K => He.ga K "names_of"),
  ("all_standings", fun K => He.ga K "all_standings"),
  ("need_settings", fun K => He.ga K "need_settings"),
  ("is_place", fun K => He.ga K "is_place"),
  ("need_places", fun K => He.ga K "need_places"),
  ("need_modes", fun K => He.ga K "need_modes"),
  ("Request.__init__", fun K => He.ma K (He.ga K "Request") "__init__"),
  ("Request.__len__", fun K => He.ma K (He.ga K "Request") "__len__"),
  ("Request.__eq__", fun K => He.ma K (He.ga K "Request") "__eq__"),
  ("Request.with_modes", fun K => He.ma K (He.ga K "Request") "with_modes"),
  ("Request.keeping", fun K => He.ma K (He.ga K "Request") "keeping"),
  ("_law_begun", fun K => He.ga K "_law_begun"),
  ("_law_next", fun K => He.ga K "_law_next"),
  ("_law_names", fun K => He.ga K "_law_names"),
  ("_law_settings", fun K => He.ga K "_law_settings"),
  ("_law_places", fun K => He.ga K "_law_places"),
  ("_law_modes", fun K => He.ga K "_law_modes"),
  ("_law_told", fun K => He.ga K "_law_told"),
  ("_law_kept_right", fun K => He.ga K "_law_kept_right"),
  ("law", fun K => He.ga K "law"),
  ("_law_kept_right.code", fun K => He.codeOf K ("_law_kept_right", none)),
  ("_law_kept_right.table", fun K => (He.cT K ("_law_kept_right", none)).2),
  ("law.code", fun K => He.codeOf K ("law", none)),
  ("law.table", fun K => (He.cT K ("law", none)).2),
  ("BadSettings.__init__", fun K => exI K "BadSettings"),
  ("BadSettings.__class__", fun K => exC K "BadSettings")]
def hdAt1 : List (Str × (PySem.W.Frag → Addr)) := [("BadPlaces.__init__", fun K => exI K "BadPlaces"),
  ("BadPlaces.__class__", fun K => exC K "BadPlaces"),
  ("BadModes.__init__", fun K => exI K "BadModes"),
  ("BadModes.__class__", fun K => exC K "BadModes"),
  ("Missing.__init__", fun K => exI K "Missing"),
  ("Missing.__class__", fun K => exC K "Missing")]
def hdAt : List (Str × (PySem.W.Frag → Addr)) := hdAt0 ++ hdAt1
theorem hdAt_nd : (hdAt.map (·.1)).Nodup := by decide +kernel
theorem facts (plain : ∀ ns : List Int, ns.length ≤ 63 → ∃ S1, bodyF 14 s_law [.d (.scr ns)] [] = .ok (.d (.bl true)) S1) {w : World} {K : PySem.W.Frag} {h : Heap} {mg : Str → Option Value} {fa : Addr} (X : K.In h) (G : h.Ns mainGlobals mg) (hfa : mg "law" = some (.ref fa))
    (c : SaysZ hdFacts hdDefs hdTabs hdEx_ hdXs hdXv h K) : LawAtN PySem.Challenge.rw_midswitch_k06_requests_asked w K 67 63 "script" mg fa h := by
  have ef := hfa.symm.trans (He.glo_ok X G (c.d.fact 23 (f := .glo "law") rfl))
  have ef2 : fa = He.ga K "law" := by injection ef with ef; injection ef
  clear ef
  subst ef2
  let a : Str → Addr := aK hdAt K
  let d : Str → FuncData := fun s => fdAt K (aK hdAt K s)
  let F : Fx := { K := K, cls := ⟨fun n => ([He.ga K "BadSettings", 0, He.ga K "BadPlaces", He.ga K "BadModes", He.ga K "Request", 0, 0, 0, 0, 0, 0, 0, 0, 0, 0, 0, He.ga K "Missing"] : List Addr).getD n 0, w⟩, fld := fun n => ([("place" : Str), ("" : Str), ("place" : Str), ("place" : Str), ("" : Str), ("" : Str), ("" : Str), ("" : Str), ("" : Str), ("" : Str), ("" : Str), ("" : Str), ("" : Str), ("" : Str), ("" : Str), ("" : Str), ("name" : Str)] : List Str).getD n "", T := [((He.cT K ("_law_kept_right", none)).2, lamName__law_kept_right), ((He.cT K ("law", none)).2, lamName_law)] }
  have T : Txt RwP w F mg a d := {
    hw := rfl
    f_is_among := by
      show Def K mg "is_among" st_is_among P_is_among (aK hdAt K "is_among") (fdAt K (aK hdAt K "is_among"))
      rw [aK_at hdAt_nd K 0 (s := "is_among") rfl]
      exact def_hx (c.d.def_ 0 rfl) X G (c.d.fact 0 (f := .glo "is_among") rfl) (fun _ _ _ _ _ _ us hl => match us, hl with | [_, _, _], _ => rfl)
    f_is_name := by
      show Def K mg "is_name" st_is_name P_is_name (aK hdAt K "is_name") (fdAt K (aK hdAt K "is_name"))
      rw [aK_at hdAt_nd K 1 (s := "is_name") rfl]
      exact def_hx (c.d.def_ 1 rfl) X G (c.d.fact 1 (f := .glo "is_name") rfl) (fun _ _ _ _ _ _ us hl => match us, hl with | [_], _ => rfl)
    f_is_row := by
      show Def K mg "is_row" st_is_row P_is_row (aK hdAt K "is_row") (fdAt K (aK hdAt K "is_row"))
      rw [aK_at hdAt_nd K 2 (s := "is_row") rfl]
      exact def_hx (c.d.def_ 2 rfl) X G (c.d.fact 2 (f := .glo "is_row") rfl) (fun _ _ _ _ _ _ us hl => match us, hl with | [_, _], _ => rfl)
    f_is_setting := by
      show Def K mg "is_setting" st_is_setting P_is_setting (aK hdAt K "is_setting") (fdAt K (aK hdAt K "is_setting"))
      rw [aK_at hdAt_nd K 3 (s := "is_setting") rfl]
      exact def_hx (c.d.def_ 3 rfl) X G (c.d.fact 3 (f := .glo "is_setting") rfl) (fun _ _ _ _ _ _ us hl => match us, hl with | [_], _ => rfl)
    f_names_of := by
      show Def K mg "names_of" st_names_of P_names_of (aK hdAt K "names_of") (fdAt K (aK hdAt K "names_of"))
      rw [aK_at hdAt_nd K 4 (s := "names_of") rfl]
      exact def_hx (c.d.def_ 4 rfl) X G (c.d.fact 4 (f := .glo "names_of") rfl) (fun _ _ _ _ _ _ us hl => match us, hl with | [_], _ => rfl)
    f_all_standings := by
      show Def K mg "all_standings" st_all_standings P_all_standings (aK hdAt K "all_standings") (fdAt K (aK hdAt K "all_standings"))
      rw [aK_at hdAt_nd K 5 (s := "all_standings") rfl]
      exact def_hx (c.d.def_ 5 rfl) X G (c.d.fact 5 (f := .glo "all_standings") rfl) (fun _ _ _ _ _ _ us hl => match us, hl with | [_], _ => rfl)
    f_need_settings := by
      show Def K mg "need_settings" st_need_settings P_need_settings (aK hdAt K "need_settings") (fdAt K (aK hdAt K "need_settings"))
      rw [aK_at hdAt_nd K 6 (s := "need_settings") rfl]
      exact def_hx (c.d.def_ 6 rfl) X G (c.d.fact 6 (f := .glo "need_settings") rfl) (fun _ _ _ _ _ _ us hl => match us, hl with | [_], _ => rfl)
    f_is_place := by
      show Def K mg "is_place" st_is_place P_is_place (aK hdAt K "is_place") (fdAt K (aK hdAt K "is_place"))
      rw [aK_at hdAt_nd K 7 (s := "is_place") rfl]
      exact def_hx (c.d.def_ 7 rfl) X G (c.d.fact 7 (f := .glo "is_place") rfl) (fun _ _ _ _ _ _ us hl => match us, hl with | [_, _, _], _ => rfl)
    f_need_places := by
      show Def K mg "need_places" st_need_places P_need_places (aK hdAt K "need_places") (fdAt K (aK hdAt K "need_places"))
      rw [aK_at hdAt_nd K 8 (s := "need_places") rfl]
      exact def_hx (c.d.def_ 8 rfl) X G (c.d.fact 8 (f := .glo "need_places") rfl) (fun _ _ _ _ _ _ us hl => match us, hl with | [_, _], _ => rfl)
    f_need_modes := by
      show Def K mg "need_modes" st_need_modes P_need_modes (aK hdAt K "need_modes") (fdAt K (aK hdAt K "need_modes"))
      rw [aK_at hdAt_nd K 9 (s := "need_modes") rfl]
      exact def_hx (c.d.def_ 9 rfl) X G (c.d.fact 9 (f := .glo "need_modes") rfl) (fun _ _ _ _ _ _ us hl => match us, hl with | [_, _], _ => rfl)
    m_Request___init__ := by
      show MDef K (He.ga K "Request") "__init__" "Request.__init__" st_Request___init__ P_Request___init__ [.non] (aK hdAt K "Request.__init__") (fdAt K (aK hdAt K "Request.__init__"))
      rw [aK_at hdAt_nd K 10 (s := "Request.__init__") rfl]
      exact mdef_hxD (c.d.def_ 10 rfl) (He.meth_ok (c.d.fact 10 (f := .meth "Request" "__init__") rfl)) (by simp) fun _ _ _ _ _ _ _ us its hl hi => match us, hl, its, hi with | [_, _, _, _], _, [_], _ => ⟨_, rfl, rfl⟩
    m_Request___len__ := by
      show MDef K (He.ga K "Request") "__len__" "Request.__len__" st_Request___len__ P_Request___len__ [] (aK hdAt K "Request.__len__") (fdAt K (aK hdAt K "Request.__len__"))
      rw [aK_at hdAt_nd K 11 (s := "Request.__len__") rfl]
      exact mdef_hx (c.d.def_ 11 rfl) (He.meth_ok (c.d.fact 11 (f := .meth "Request" "__len__") rfl)) (fun _ _ _ _ _ _ us hl => match us, hl with | [_], _ => rfl)
    m_Request___eq__ := by
      show MDef K (He.ga K "Request") "__eq__" "Request.__eq__" st_Request___eq__ P_Request___eq__ [] (aK hdAt K "Request.__eq__") (fdAt K (aK hdAt K "Request.__eq__"))
      rw [aK_at hdAt_nd K 12 (s := "Request.__eq__") rfl]
      exact mdef_hx (c.d.def_ 12 rfl) (He.meth_ok (c.d.fact 12 (f := .meth "Request" "__eq__") rfl)) (fun _ _ _ _ _ _ us hl => match us, hl with | [_, _], _ => rfl)
    m_Request_with_modes := by
      show MDef K (He.ga K "Request") "with_modes" "Request.with_modes" st_Request_with_modes P_Request_with_modes [] (aK hdAt K "Request.with_modes") (fdAt K (aK hdAt K "Request.with_modes"))
      rw [aK_at hdAt_nd K 13 (s := "Request.with_modes") rfl]
      exact mdef_hx (c.d.def_ 13 rfl) (He.meth_ok (c.d.fact 13 (f := .meth "Request" "with_modes") rfl)) (fun _ _ _ _ _ _ us hl => match us, hl with | [_, _], _ => rfl)
    m_Request_keeping := by
      show MDefW K (He.ga K "Request") "keeping" "Request.keeping" st_Request_keeping "self" "modes" (aK hdAt K "Request.keeping") (fdAt K (aK hdAt K "Request.keeping"))
      rw [aK_at hdAt_nd K 14 (s := "Request.keeping") rfl]
      exact mdefW_hx (c.d.def_ 14 rfl) (He.meth_ok (c.d.fact 14 (f := .meth "Request" "keeping") rfl)) ⟨_, _, rfl⟩
    f__law_begun := by
      show Def K mg "_law_begun" st__law_begun P__law_begun (aK hdAt K "_law_begun") (fdAt K (aK hdAt K "_law_begun"))
      rw [aK_at hdAt_nd K 15 (s := "_law_begun") rfl]
      exact def_hx (c.d.def_ 15 rfl) X G (c.d.fact 15 (f := .glo "_law_begun") rfl) (fun _ _ _ _ _ _ us hl => match us, hl with | [_], _ => rfl)
    f__law_next := by
      show Def K mg "_law_next" st__law_next P__law_next (aK hdAt K "_law_next") (fdAt K (aK hdAt K "_law_next"))
      rw [aK_at hdAt_nd K 16 (s := "_law_next") rfl]
      exact def_hx (c.d.def_ 16 rfl) X G (c.d.fact 16 (f := .glo "_law_next") rfl) (fun _ _ _ _ _ _ us hl => match us, hl with | [_, _], _ => rfl)
    f__law_names := by
      show Def K mg "_law_names" st__law_names P__law_names (aK hdAt K "_law_names") (fdAt K (aK hdAt K "_law_names"))
      rw [aK_at hdAt_nd K 17 (s := "_law_names") rfl]
      exact def_hx (c.d.def_ 17 rfl) X G (c.d.fact 17 (f := .glo "_law_names") rfl) (fun _ _ _ _ _ _ us hl => match us, hl with | [_, _], _ => rfl)
    f__law_settings := by
      show Def K mg "_law_settings" st__law_settings P__law_settings (aK hdAt K "_law_settings") (fdAt K (aK hdAt K "_law_settings"))
      rw [aK_at hdAt_nd K 18 (s := "_law_settings") rfl]
      exact def_hx (c.d.def_ 18 rfl) X G (c.d.fact 18 (f := .glo "_law_settings") rfl) (fun _ _ _ _ _ _ us hl => match us, hl with | [_], _ => rfl)
    f__law_places := by
      show Def K mg "_law_places" st__law_places P__law_places (aK hdAt K "_law_places") (fdAt K (aK hdAt K "_law_places"))
      rw [aK_at hdAt_nd K 19 (s := "_law_places") rfl]
      exact def_hx (c.d.def_ 19 rfl) X G (c.d.fact 19 (f := .glo "_law_places") rfl) (fun _ _ _ _ _ _ us hl => match us, hl with | [_, _, _], _ => rfl)
    f__law_modes := by
      show Def K mg "_law_modes" st__law_modes P__law_modes (aK hdAt K "_law_modes") (fdAt K (aK hdAt K "_law_modes"))
      rw [aK_at hdAt_nd K 20 (s := "_law_modes") rfl]
      exact def_hx (c.d.def_ 20 rfl) X G (c.d.fact 20 (f := .glo "_law_modes") rfl) (fun _ _ _ _ _ _ us hl => match us, hl with | [_, _], _ => rfl)
    f__law_told := by
      show Def K mg "_law_told" st__law_told P__law_told (aK hdAt K "_law_told") (fdAt K (aK hdAt K "_law_told"))
      rw [aK_at hdAt_nd K 21 (s := "_law_told") rfl]
      exact def_hx (c.d.def_ 21 rfl) X G (c.d.fact 21 (f := .glo "_law_told") rfl) (fun _ _ _ _ _ _ us hl => match us, hl with | [_], _ => rfl)
    f__law_kept_right := by
      show Def K mg "_law_kept_right" st__law_kept_right P__law_kept_right (aK hdAt K "_law_kept_right") (fdAt K (aK hdAt K "_law_kept_right"))
      rw [aK_at hdAt_nd K 22 (s := "_law_kept_right") rfl]
      exact def_hx (c.d.def_ 22 rfl) X G (c.d.fact 22 (f := .glo "_law_kept_right") rfl) (fun _ _ _ _ _ _ us hl => match us, hl with | [_], _ => rfl)
    f_law := by
      show Def K mg "law" st_law P_law (aK hdAt K "law") (fdAt K (aK hdAt K "law"))
      rw [aK_at hdAt_nd K 23 (s := "law") rfl]
      exact def_hx (c.d.def_ 23 rfl) X G (c.d.fact 23 (f := .glo "law") rfl) (fun _ _ _ _ _ _ us hl => match us, hl with | [_], _ => rfl)
    cl_Request := He.cls_ok (c.d.fact 25 (f := .cls "Request") rfl)
    g_Request := He.glo_ok X G (c.d.fact 24 (f := .glo "Request") rfl)
    mk_Request := by
      show Mk K (He.ga K "Request") (aK hdAt K "Request.__init__")
      rw [aK_at hdAt_nd K 10 (s := "Request.__init__") rfl]
      exact He.mkr_ok (c.d.fact 26 (f := .mkr "Request") rfl)
    is_Request := isB_ok (He.cls_ok (c.d.fact 25 (f := .cls "Request") rfl)) (c.ex_ 0 rfl)
    ne_Request := neB_ok (c.ex_ 1 rfl)
    eq_Request := by
      show EqM K (He.ga K "Request") (aK hdAt K "Request.__eq__")
      rw [aK_at hdAt_nd K 12 (s := "Request.__eq__") rfl]
      exact eqB_ok (He.meth_ok (c.d.fact 12 (f := .meth "Request" "__eq__") rfl)) (c.ex_ 2 rfl)
    nf_Request_settings := He.noat_ok (c.d.fact 27 (f := .noat "Request" "settings") rfl)
    nf_Request_places := He.noat_ok (c.d.fact 28 (f := .noat "Request" "places") rfl)
    nf_Request_modes := He.noat_ok (c.d.fact 29 (f := .noat "Request" "modes") rfl)
    n_all := He.free_ok X G (c.d.fact 30 (f := .free "all") rfl)
    n_bool := He.free_ok X G (c.d.fact 31 (f := .free "bool") rfl)
    n_dict := He.free_ok X G (c.d.fact 32 (f := .free "dict") rfl)
    n_enumerate := He.free_ok X G (c.d.fact 33 (f := .free "enumerate") rfl)
    n_int := He.free_ok X G (c.d.fact 34 (f := .free "int") rfl)
    n_isinstance := He.free_ok X G (c.d.fact 35 (f := .free "isinstance") rfl)
    n_len := He.free_ok X G (c.d.fact 36 (f := .free "len") rfl)
    n_list := He.free_ok X G (c.d.fact 37 (f := .free "list") rfl)
    n_min := He.free_ok X G (c.d.fact 38 (f := .free "min") rfl)
    n_range := He.free_ok X G (c.d.fact 39 (f := .free "range") rfl)
    n_repr := He.free_ok X G (c.d.fact 40 (f := .free "repr") rfl)
    n_str := He.free_ok X G (c.d.fact 41 (f := .free "str") rfl)
    n_tuple := He.free_ok X G (c.d.fact 42 (f := .free "tuple") rfl)
    n_zip := He.free_ok X G (c.d.fact 43 (f := .free "zip") rfl)
    g_ASK := He.str_ok X G (c.d.fact 44 (f := .str "ASK" "ask") rfl)
    g_DO := He.str_ok X G (c.d.fact 45 (f := .str "DO" "do") rfl)
    g_LETTERS := He.str_ok X G (c.d.fact 46 (f := .str "LETTERS" "abcdefghijklmnopqrstuvwxyz") rfl)
    g_LIVE := He.str_ok X G (c.d.fact 47 (f := .str "LIVE" "live") rfl)
    g_MOST_PLACES := He.int_ok X G (c.d.fact 48 (f := .int "MOST_PLACES" 16) rfl)
    g_MOST_SETTINGS := He.int_ok X G (c.d.fact 49 (f := .int "MOST_SETTINGS" 3) rfl)
    g_MOST_STANDINGS := He.int_ok X G (c.d.fact 50 (f := .int "MOST_STANDINGS" 12) rfl)
    g_MOST_VALUE := He.int_ok X G (c.d.fact 51 (f := .int "MOST_VALUE" 3) rfl)
    g_END := gtup_hx X G (c.d.fact 52 (f := .glo "END") rfl) (c.ex_ 3 rfl)
    g_MODES := gtup_hx X G (c.d.fact 53 (f := .glo "MODES") rfl) (c.ex_ 4 rfl)
    l__law_kept_right := by
      show ∃ (oc : Value) (od : Option Addr) (kV doc pm : Value) (an : Option Addr) (ct : Value) (osl : Array (Option Value)), fdAt K (aK hdAt K "_law_kept_right") = PySem.W.fnOf "_law_kept_right" "_law_kept_right" (defArgs st__law_kept_right) (defBody st__law_kept_right) (defScope st__law_kept_right) .none kV doc pm an (.ref (aK hdAt K "_law_kept_right.code")) ct ∧ K.lookup (aK hdAt K "_law_kept_right") = some ⟨oc, od, .func (PySem.W.fnOf "_law_kept_right" "_law_kept_right" (defArgs st__law_kept_right) (defBody st__law_kept_right) (defScope st__law_kept_right) .none kV doc pm an (.ref (aK hdAt K "_law_kept_right.code")) ct), osl⟩ ∧ PySem.W.codeIn K (.ref (aK hdAt K "_law_kept_right.code")) "_law_kept_right" = true
      rw [aK_at hdAt_nd K 22 (s := "_law_kept_right") rfl, aK_at hdAt_nd K 24 (s := "_law_kept_right.code") rfl]
      exact lam_hx (c.d.def_ 22 rfl)
    l_law := by
      show ∃ (oc : Value) (od : Option Addr) (kV doc pm : Value) (an : Option Addr) (ct : Value) (osl : Array (Option Value)), fdAt K (aK hdAt K "law") = PySem.W.fnOf "law" "law" (defArgs st_law) (defBody st_law) (defScope st_law) .none kV doc pm an (.ref (aK hdAt K "law.code")) ct ∧ K.lookup (aK hdAt K "law") = some ⟨oc, od, .func (PySem.W.fnOf "law" "law" (defArgs st_law) (defBody st_law) (defScope st_law) .none kV doc pm an (.ref (aK hdAt K "law.code")) ct), osl⟩ ∧ PySem.W.codeIn K (.ref (aK hdAt K "law.code")) "law" = true
      rw [aK_at hdAt_nd K 23 (s := "law") rfl, aK_at hdAt_nd K 26 (s := "law.code") rfl]
      exact lam_hx (c.d.def_ 23 rfl)
    y0 := rfl
    x0 := by
      show PySem.EvX.ExTxt RwP K mg "BadSettings" "place" (He.ga K "BadSettings") (aK hdAt K "BadSettings.__init__") (aK hdAt K "BadSettings.__class__")
      rw [aK_at hdAt_nd K 28 (s := "BadSettings.__init__") rfl, aK_at hdAt_nd K 29 (s := "BadSettings.__class__") rfl]
      exact exTxt_hx (st := inClass (topH 3) 0) PySem.EvX.base_ValueError X G (c.ex_ 5 rfl) (c.x_ 0 rfl rfl) rfl rfl rfl (fun _ _ _ _ _ _ _ _ _ => rfl) (fun _ => ⟨_, rfl⟩) (by decide +kernel) (by decide +kernel) (by decide +kernel) (by decide +kernel) (by decide +kernel)
    y2 := rfl
    x2 := by
      show PySem.EvX.ExTxt RwP K mg "BadPlaces" "place" (He.ga K "BadPlaces") (aK hdAt K "BadPlaces.__init__") (aK hdAt K "BadPlaces.__class__")
      rw [aK_at hdAt_nd K 30 (s := "BadPlaces.__init__") rfl, aK_at hdAt_nd K 31 (s := "BadPlaces.__class__") rfl]
      exact exTxt_hx (st := inClass (topH 4) 0) PySem.EvX.base_ValueError X G (c.ex_ 6 rfl) (c.x_ 1 rfl rfl) rfl rfl rfl (fun _ _ _ _ _ _ _ _ _ => rfl) (fun _ => ⟨_, rfl⟩) (by decide +kernel) (by decide +kernel) (by decide +kernel) (by decide +kernel) (by decide +kernel)
    y3 := rfl
    x3 := by
      show PySem.EvX.ExTxt RwP K mg "BadModes" "place" (He.ga K "BadModes") (aK hdAt K "BadModes.__init__") (aK hdAt K "BadModes.__class__")
      rw [aK_at hdAt_nd K 32 (s := "BadModes.__init__") rfl, aK_at hdAt_nd K 33 (s := "BadModes.__class__") rfl]
      exact exTxt_hx (st := inClass (topH 5) 0) PySem.EvX.base_ValueError X G (c.ex_ 7 rfl) (c.x_ 2 rfl rfl) rfl rfl rfl (fun _ _ _ _ _ _ _ _ _ => rfl) (fun _ => ⟨_, rfl⟩) (by decide +kernel) (by decide +kernel) (by decide +kernel) (by decide +kernel) (by decide +kernel)
    y16 := rfl
    x16 := by
      show PySem.EvX.ExTxt RwP K mg "Missing" "name" (He.ga K "Missing") (aK hdAt K "Missing.__init__") (aK hdAt K "Missing.__class__")
      rw [aK_at hdAt_nd K 34 (s := "Missing.__init__") rfl, aK_at hdAt_nd K 35 (s := "Missing.__class__") rfl]
      exact exTxt_hx (st := inClass (topH 6) 0) PySem.EvX.base_LookupError X G (c.ex_ 8 rfl) (c.x_ 3 rfl rfl) rfl rfl rfl (fun _ _ _ _ _ _ _ _ _ => rfl) (fun _ => ⟨_, rfl⟩) (by decide +kernel) (by decide +kernel) (by decide +kernel) (by decide +kernel) (by decide +kernel)
    ne16_3 := He.exm_ok (c.d.fact 54 (f := .exm "Missing" "BadModes" false) rfl) }
  refine ⟨d "law", [He.cT K ("_law_kept_right", none), He.cT K ("law", none)], spF F 1 (bodyF 14 s_law), fun p hp => ?_, ?_, fun H a ns hl st => ?_, fun base kb gb tb sb => ?_⟩
  · obtain ⟨q, hq, rfl⟩ := List.mem_map.mp (show p ∈ hdTabs.map (He.cT K) from hp)
    exact c.tabAt X hq
  · have e := fun_hx_eq (K := K) (x := "law") (qual := "law") (st := st_law) (f := He.ga K "law") (c.d.def_ 23 rfl)
    obtain ⟨oc, od, kV, doc, pm, an, cdv, ct, osl, e, _, _⟩ := e
    show ∀ (s : Shared) (u : Value), BindsTo s (fdAt K (aK hdAt K "law")) ⟨[u], []⟩ [("script", u)]
    rw [aK_at hdAt_nd K 23 (s := "law") rfl]
    rw [show fdAt K (He.ga K "law") = _ from e]
    exact fun s u => .of_eq rfl
  · obtain ⟨rs, rd⟩ := startN_rel (F := F) rfl st
    obtain ⟨S', e⟩ := plain ns hl
    refine ⟨rfl, [], [], [], [.d (.scr ns)], rs, .cons rd .nil, ?_⟩
    rw [e]
    intro ι' H' v x rs' rv
    cases rv
    rfl
  · have q := ok_law (w := w) (base := base) T {
      hxa := rfl
      h0 := rfl
      hsys := sb
      tb__law_kept_right := by
        show LamX.TabB base mg (aK hdAt K "_law_kept_right.code") (aK hdAt K "_law_kept_right.table")
        rw [aK_at hdAt_nd K 24 (s := "_law_kept_right.code") rfl, aK_at hdAt_nd K 25 (s := "_law_kept_right.table") rfl]
        exact tb (He.cT K ("_law_kept_right", none)) (by simp)
      mT__law_kept_right := by
        show (aK hdAt K "_law_kept_right.table", lamName__law_kept_right) ∈ ([((He.cT K ("_law_kept_right", none)).2, lamName__law_kept_right), ((He.cT K ("law", none)).2, lamName_law)] : List (Addr × Str))
        rw [aK_at hdAt_nd K 25 (s := "_law_kept_right.table") rfl]
        simp
      uT__law_kept_right := by
        intro p hp hq
        have hq : p.1 = aK hdAt K "_law_kept_right.table" := hq
        rw [aK_at hdAt_nd K 25 (s := "_law_kept_right.table") rfl] at hq
        have hp : p ∈ ([((He.cT K ("_law_kept_right", none)).2, lamName__law_kept_right), ((He.cT K ("law", none)).2, lamName_law)] : List (Addr × Str)) := hp
        have dT := of_decide_eq_true (c.ex_ 9 rfl)
        simp only [hdTabs, List.map_cons, List.map_nil, List.nodup_cons, List.mem_cons, List.not_mem_nil, or_false, not_or, not_false_eq_true, List.nodup_nil, and_true] at dT
        simp only [List.mem_cons, List.not_mem_nil, or_false] at hp
        rcases hp with rfl | rfl
        · rfl
        · simp only at hq; simp_all
      tb_law := by
        show LamX.TabB base mg (aK hdAt K "law.code") (aK hdAt K "law.table")
        rw [aK_at hdAt_nd K 26 (s := "law.code") rfl, aK_at hdAt_nd K 27 (s := "law.table") rfl]
        exact tb (He.cT K ("law", none)) (by simp)
      mT_law := by
        show (aK hdAt K "law.table", lamName_law) ∈ ([((He.cT K ("_law_kept_right", none)).2, lamName__law_kept_right), ((He.cT K ("law", none)).2, lamName_law)] : List (Addr × Str))
        rw [aK_at hdAt_nd K 27 (s := "law.table") rfl]
        simp
      uT_law := by
        intro p hp hq
        have hq : p.1 = aK hdAt K "law.table" := hq
        rw [aK_at hdAt_nd K 27 (s := "law.table") rfl] at hq
        have hp : p ∈ ([((He.cT K ("_law_kept_right", none)).2, lamName__law_kept_right), ((He.cT K ("law", none)).2, lamName_law)] : List (Addr × Str)) := hp
        have dT := of_decide_eq_true (c.ex_ 9 rfl)
        simp only [hdTabs, List.map_cons, List.map_nil, List.nodup_cons, List.mem_cons, List.not_mem_nil, or_false, not_or, not_false_eq_true, List.nodup_nil, and_true] at dT
        simp only [List.mem_cons, List.not_mem_nil, or_false] at hp
        rcases hp with rfl | rfl
        · simp only at hq; simp_all
        · rfl }
    have q : FnG true RwP w K mg base 67 (aK hdAt K "law") (d "law") P_law (spF F 1 (bodyF 14 s_law)) := q
    rw [aK_at hdAt_nd K 23 (s := "law") rfl] at q
    exact q
end K06
open PySem PySem.W PySem.Calls PyProof.Rows
set_option maxHeartbeats 0 in
theorem PySem.Challenge.cw_midswitch_k06_requests_asked_holds : PySem.Challenge.rw_midswitch_k06_requests_asked.Holds := by
  w_on; o_law
  refine HandSHeadRun.head_any (r := OpenLaw.row PySem.Challenge.rw_midswitch_k06_requests_asked) (q := K06.RwV) (H := K06.hdHook) (ob := K06.hdOb) (M := 20000) (loose := K06.hdLoose) (d := HandSHeadRun.topDef (OpenLaw.row PySem.Challenge.rw_midswitch_k06_requests_asked).prog 43) (kwd := []) K06.hdOb_eq
    (by kernel_rfl) (fun s => by kernel_rfl) K06.hdRun (by kernel_rfl) (by kernel_rfl) (by kernel_rfl) (by rfl) (by first | assumption | decide +kernel) (by decide +kernel) ⟨rfl, rfl, rfl, rfl, rfl, by decide +kernel⟩ ?hw ?hc
  case hw => w_witness2
  case hc =>
    refine Ev.walk_NX (l := PySem.Challenge.rw_midswitch_k06_requests_asked) (n := 63) (k := 67) (x := "script") (by decide +kernel) rfl (by decide) (by kernel_rfl) ⟨rfl, by decide, by decide⟩ ?F
    intro w mg fa h Y G hmg0
    obtain ⟨K, KX, c⟩ := Y
    have hmg : mg ("law" : PySem.Str) = some (.ref fa) := by
      have e : (HandSHeadRun.topDef (OpenLaw.row PySem.Challenge.rw_midswitch_k06_requests_asked).prog 43).name = ("law":PySem.Str):=by kernel_rfl
      rw [← e]
      exact hmg0
    exact ⟨K,KX,K06.facts K06.plain KX G hmg c⟩
