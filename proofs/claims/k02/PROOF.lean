import PyProof.Rows.All
import Wide.All
import OpenK.AllK
import Wide.FinOn
import HandS.Head0
import HandS.Head1
import HandS.Head2
import HandS.HeadHook4
import HandS.Words
import KE.KExcInit
import HandS.ForMost
import HandS.ForExc
import HandS.Lambda
import HandS.IsInst
import HandS.Deep
import HandS.Walk
import HandS.Wide
import HandS.TupAny
import HandS.TupLe
import HandS.Star
import KE.KeyNested
import HandS.TupMul
import PyProof.ReprRoads
import HandS.Style
import KE.KExcSuper
import PyProof.ExcBaseAll.OverflowError
import PyProof.ExcBaseAll.LookupError
import KE.GoesEnum
import KE.GoesZip
import HandS.Small
import KE.KRevSl
import HandS.MakeKwOnly
import KE.KDictPairs
import PyProof.EqKinds
import PyProof.FactsAll.dict_1
import KE.KDictZip
import HandS.MakeKw
import HandS.ClsMeth
import HandS.CallLocal
import HandS.FStr
import KE.KUnpackStar
import HandS.ExcValue
import HandS.SortOrd
import HandS.TupSets
import KE.KDictKeyed
import HandS.TryOnly
import OpenK.KMeth
import OpenK.KOps
import PyProof.InstNe
import HandS.EndTab
import KE.KNestM
import HandS.GenList
import KE.KIntText
import PySem.Challenge.RW_midswitch_k02_standings_listed
set_option Elab.async false
set_option linter.all false
set_option maxRecDepth 100000
set_option autoImplicit false
set_option maxHeartbeats 1000000
namespace Ev
open PySem PySem.Spec L2 PyProof.Rows
def fdAt (K:PySem.W.Frag) (f:Addr):FuncData:=match K.lookup f with
  | some ⟨_,_,.func fd,_⟩=>fd
  | _=>default
def exI (K:PySem.W.Frag) (x:Str):Addr:=He.ma K (He.ga K x) "__init__"
def exC (K:PySem.W.Frag) (x:Str):Addr:=match (fdAt K (exI K x)).closure with
  | (_,c) :: _=>c
  | _=>0
abbrev ExV:Type:=Option (Str×Arguments×FuncBody×Scope×Addr×List Str×Value×Value×Addr)
def exObs (K:PySem.W.Frag) (x:Str):ExV:=match K.lookup (exI K x) with
  | some ⟨_,_,.func fd,_⟩=>some (fd.name,fd.params,fd.body,fd.scope,fd.globals,fd.closure.map (·.1),fd.defaults,fd.kwdefaults,fd.builtins)
  | _=>none
abbrev AlZ:Type:=He.AlD×(Bool×List ExV)
def obsZ (as:List Addr) (fa:List He.Fa) (fn:List He.DefD) (tf:List He.Defn) (ex:PySem.W.Frag→Bool) (xs:List Str) (g:Addr→Option Obj):AlZ :=
  (He.obsD fa fn (He.frT g as),(ex (He.frT g as) && He.tabsB g tf (He.frT g as),xs.map (exObs (He.frT g as))))
structure SaysZ (fa:List He.Fa) (fn:List He.DefD) (tf:List He.Defn) (ex:PySem.W.Frag→Bool) (xs:List Str) (xv:List ExV) (h:Heap) (K:PySem.W.Frag):Prop where
  d:He.SaysD fa fn K
  more:ex K=true
  exo:xs.map (exObs K)=xv
  tab:∀ p∈tf,PySem.W.codeHdIn K (He.cT K p).1 (He.cT K p).2=true∧K.lookup (He.cT K p).2=none∧h.get? (He.cT K p).2=some { cls:=.none,data:=.fields #[] }
def hookZ (as:List Addr) (fa:List He.Fa) (fn:List He.DefD) (tf:List He.Defn) (ex:PySem.W.Frag→Bool) (xs:List Str) (xv:List ExV):PySem.W.Hook where
  α:=AlZ
  obs:=fun s=>obsZ as fa fn tf ex xs s.heap.get?
  val:=fun _=>(He.valD fn,(true,xv))
  says:=fun _ h=>∃ K:PySem.W.Frag,K.In h∧SaysZ fa fn tf ex xs xv h K
  of:=fun _ s e=>by
    have e1:He.obsD fa fn (He.frT s.heap.get? as)=He.valD fn:=congrArg (fun z:AlZ=>z.1) e
    have e2:(ex (He.frT s.heap.get? as) && He.tabsB s.heap.get? tf (He.frT s.heap.get? as))=true:=congrArg (fun z:AlZ=>z.2.1) e
    have e3:xs.map (exObs (He.frT s.heap.get? as))=xv:=congrArg (fun z:AlZ=>z.2.2) e
    obtain ⟨h1,h2⟩:=He.ba e2
    refine ⟨_,He.frT_in,e1,h1,e3,fun p hp=>?_⟩
    obtain ⟨h3,h4⟩:=He.ba (List.all_eq_true.mp h2 p hp)
    cases q:s.heap.get? (He.cT (He.frT s.heap.get? as) p).2 with
    | none=>rw [q] at h4; cases h4
    | some o =>
      rw [q] at h4
      exact ⟨h3,He.frT_none q h4,by rw [He.emptyTab_eq h4]⟩
  keeps:=fun _ _ _ ⟨K,hK,c⟩ k=>⟨K,PySem.W.Frag.In.keeps hK k,⟨c.d,c.more,c.exo,fun p hp=>⟨(c.tab p hp).1,(c.tab p hp).2.1,k _ _ (c.tab p hp).2.2⟩⟩⟩
theorem obsZ_eq {as:List Addr} {fa:List He.Fa} {fn:List He.DefD} {tf:List He.Defn} {ex:PySem.W.Frag→Bool} {xs:List Str} {xv:List ExV} {g:Addr→Option Obj} {s:Shared} (h:∀ a,g a=s.heap.get? a):obsZ as fa fn tf ex xs g=(hookZ as fa fn tf ex xs xv).obs s:=by
  have e:g=s.heap.get?:=funext h
  rw [e] <;> rfl
end Ev
set_option maxHeartbeats 4000000
namespace K02
open PySem PySem.Spec L2 Ev PyProof.Rows
def topH (i:Nat):Stmt:=PySem.Challenge.pw_midswitch_k02_standings_listed.main.body.getD i (.Pass ⟨0,0,0,0⟩)
abbrev RwR:PySem.W.OpenRow:=PySem.W.OpenLaw.row PySem.Challenge.rw_midswitch_k02_standings_listed
abbrev RwP:Program:=(PySem.Challenge.rw_midswitch_k02_standings_listed).prog
abbrev RwV:Program:=PySem.W.view RwR.prog [16]
def hdLoose0:List Str:=["is_among",
  "is_row",
  "all_standings",
  "standings",
  "is_standing",
  "_law_begun",
  "_law_next",
  "_law_names",
  "_law_settings",
  "_law_odd",
  "_law_bent",
  "_law_is_whole",
  "_law_is_name",
  "_law_standings"]
def hdLoose:List Str:=hdLoose0
def hdDefs0:List He.DefD:=[⟨("is_among",none),"is_among","is_among",defArgs (topH 1),defBody (topH 1),defScope (topH 1),[],[]⟩,
  ⟨("is_row",none),"is_row","is_row",defArgs (topH 2),defBody (topH 2),defScope (topH 2),[],[]⟩,
  ⟨("all_standings",none),"all_standings","all_standings",defArgs (topH 3),defBody (topH 3),defScope (topH 3),[],[]⟩,
  ⟨("standings",none),"standings","standings",defArgs (topH 4),defBody (topH 4),defScope (topH 4),[],[]⟩,
  ⟨("is_standing",none),"is_standing","is_standing",defArgs (topH 5),defBody (topH 5),defScope (topH 5),[],[]⟩,
  ⟨("_law_begun",none),"_law_begun","_law_begun",defArgs (topH 7),defBody (topH 7),defScope (topH 7),[],[]⟩,
  ⟨("_law_next",none),"_law_next","_law_next",defArgs (topH 8),defBody (topH 8),defScope (topH 8),[],[]⟩,
  ⟨("_law_names",none),"_law_names","_law_names",defArgs (topH 9),defBody (topH 9),defScope (topH 9),[],[]⟩,
  ⟨("_law_settings",none),"_law_settings","_law_settings",defArgs (topH 10),defBody (topH 10),defScope (topH 10),[],[]⟩,
  ⟨("_law_odd",none),"_law_odd","_law_odd",defArgs (topH 11),defBody (topH 11),defScope (topH 11),[],[]⟩,
  ⟨("_law_bent",none),"_law_bent","_law_bent",defArgs (topH 12),defBody (topH 12),defScope (topH 12),[],[]⟩,
  ⟨("_law_standings",none),"_law_standings","_law_standings",defArgs (topH 15),defBody (topH 15),defScope (topH 15),[],[]⟩,
  ⟨("law",none),"law","law",defArgs (topH 16),defBody (topH 16),defScope (topH 16),[],[]⟩]
def hdDefs:List He.DefD:=hdDefs0
def hdFacts0:List He.Fa:=[.glo "is_among",
  .glo "is_row",
  .glo "all_standings",
  .glo "standings",
  .glo "is_standing",
  .glo "_law_begun",
  .glo "_law_next",
  .glo "_law_names",
  .glo "_law_settings",
  .glo "_law_odd",
  .glo "_law_bent",
  .glo "_law_standings",
  .glo "law",
  .free "all",
  .free "bool",
  .free "int",
  .free "isinstance",
  .free "len",
  .free "list",
  .free "min",
  .free "range",
  .free "repr",
  .free "str",
  .free "tuple",
  .free "zip"]
def hdFacts:List He.Fa:=hdFacts0
def hdTabs:List He.Defn:=[]
def hdEx0:List (PySem.W.Frag→Bool):=[]
def hdEx:List (PySem.W.Frag→Bool):=hdEx0
def hdXs:List Str:=[]
def hdXv:List ExV:=[]
def hdAs:List Addr:=List.range' 0 8192
abbrev hdEx_:PySem.W.Frag→Bool:=fun K=>hdEx.all fun f=>f K
abbrev hdHook:PySem.W.Hook:=hookZ hdAs hdFacts hdDefs hdTabs hdEx_ hdXs hdXv
def hdOb (s:PySem.W.SharedT):AlZ:=obsZ hdAs hdFacts hdDefs hdTabs hdEx_ hdXs (HandSHeadRun.getT s)
theorem hdOb_eq (s:PySem.W.SharedT):hdOb s=hdHook.obs s.abs:=obsZ_eq (HandSHeadRun.getT_eq s)
set_option maxHeartbeats 0 in
theorem hdRun (w:World):HandSHeadRun.RunEq RwR RwV hdHook hdOb 20000 hdLoose w:=by
  intro os
  kernel_rfl
end K02
set_option maxHeartbeats 1000000
namespace Ev
open PySem PySem.Spec L2
inductive D where
  | non | bl (b:Bool) | int (i:Int) | str (x:Str)
  | tup (xs:List D) | lst (xs:List D) | dct (kvs:List (D×D))
  | ins (c:Nat) (fs:List (Str×D)) | scr (ns:List Int) | ftp (xs:List D) | cls (c:Nat)
  /-- a dict whose keys are nested tuples; an exception with its class and field -/
  | kdc (kvs:List (D×D)) | exi (c:Nat) (f:Str) (x:D) | dkf (kvs:List (D×D))
  deriving Inhabited
inductive W where
  | d (x:D) | ref (i:Nat) | exc (c:Nat) (x:D) | fn
  deriving Inhabited
inductive O where
  | lst (xs:List W) | dct (kvs:List (Key×W)) | drw (cells left:List Int) (at_:Int) | ins (c:Nat) (fs:List (Str×W)) | tup (xs:List W) | kd (kvs:List (D×W))
  deriving Inhabited
abbrev Sto:=List O
abbrev Loc:=List (Option W)
inductive R (α:Type) where
  | ok (a:α) (S:Sto)
  | exn (c:Nat) (x:D) (S:Sto)
  | err
  deriving Inhabited
def R.bind {α β:Type} (r:R α) (k:α→Sto→R β):R β:=match r with
  | .ok a S=>k a S
  | .exn c x S=>.exn c x S
  | .err=>.err
abbrev FE:=Loc→Sto→R W
abbrev FA:=Loc→Sto→R (List W)
abbrev FT:=Loc→Sto→R Bool
inductive RS where
  | nx (ρ:Loc) (S:Sto) | rt (w:W) (S:Sto) | bk (ρ:Loc) (S:Sto) | ct (ρ:Loc) (S:Sto)
  | exn (c:Nat) (x:D) (ρ:Loc) (S:Sto)
  | err
  deriving Inhabited
abbrev FS:=Loc→Sto→RS
def plainT (o:Obj):Prop:=o.cls=.type "tuple" ∧ o.dict=none∧∃ its n,o.data=.seq its n
mutual
def nkD:D→NestedKey
  | .int i=>.num i
  | .str x=>.text x
  | .tup xs=>.tup (nkDs xs)
  | _=>.none
def nkDs:List D→List NestedKey
  | []=>[]
  | x :: xs=>nkD x :: nkDs xs
end
mutual
def nkOk:D→Bool
  | .non=>true
  | .int _=>true
  | .str _=>true
  | .tup xs=>nkOks xs
  | _=>false
def nkOks:List D→Bool
  | []=>true
  | x :: xs=>nkOk x && nkOks xs
end
def keyT (d:D):Bool:=nkOk d && decide ((nkD d).depth≤8) && (match d with
  | .tup _=>true
  | _=>false)
abbrev KEnt:=NestedKey×Addr×Value
def entK (w:World) (x:KEnt):DictEntry:=⟨x.1.hash w,.ref x.2.1,x.2.2⟩
def Kd (w:World) (a:Addr) (o:Obj) (xs:List KEnt):Prop :=
  xs.length≤sizeLine∧(a == sysModules)=false∧o.ExactDict∧(∃ es ep,o.data=.dict es ep∧es.toList=xs.map (entK w))∧(xs.map (·.1)).Nodup
def kdO (w:World) (a:Addr) (o:Obj) (xs:List KEnt):HO:=.ext fun h=>h.get? a=some o∧Kd w a o xs
def exO (cls:Value) (dd a:Addr):HO:=.ext fun h=>∃ (oe:Obj) (vs:Array Value),h.get? a=some oe∧Zc cls (some dd) oe∧oe.data=.fields vs∧vs[1]? = some .none∧vs[2]? = some .none
theorem kd_data {w:World} {a:Addr} {o:Obj} {xs:List KEnt} (h:Kd w a o xs):∀ vs,o.data ≠ .fields vs:=fun vs e=>by
  obtain ⟨_,_,_,⟨es,ep,hd,_⟩,_⟩:=h
  rw [hd] at e
  cases e
structure Cl where
  fn:Nat→Addr
  w:World
instance:CoeFun Cl (fun _=>Nat→Addr):=⟨Cl.fn⟩
section
variable (K:PySem.W.Frag) (cls:Cl) (H:Hp) (ex:List Addr)
mutual
inductive Rep:D→V→Prop
  | non:Rep .non .non
  | bl (b:Bool):Rep (.bl b) (.bl b)
  | int (i:Int):Rep (.int i) (.int i)
  | str (x:Str):Rep (.str x) (.str x)
  | tup {a:Addr} {vs:List V} {ds:List D}:a ∉ ex→H a=some (.tup vs)→Reps ds vs→Rep (.tup ds) (.ref a)
  | tupK {a:Addr} {vs:List V} {ds:List D} {o:Obj} {its:Array Value} {n:Nat}:K.lookup a=some o→o.cls=.type "tuple" → o.data=.seq its n→its.size≤sizeLine→Vals vs its.toList→Reps ds vs→Rep (.tup ds) (.ref a)
  | tupF {a:Addr} {vs:List V} {ds:List D} {o:Obj}:a ∉ ex→H a=some (.frz o (.tup vs))→Reps ds vs→Rep (.tup ds) (.ref a)
  | ftp {a:Addr} {vs:List V} {ds:List D} {o:Obj}:a ∉ ex→H a=some (.frz o (.tup vs))→plainT o→Reps ds vs→Rep (.ftp ds) (.ref a)
  | lst {a:Addr} {vs:List V} {ds:List D}:a ∉ ex→H a=some (.lst vs)→Reps ds vs→Rep (.lst ds) (.ref a)
  | scr {a:Addr} {u:HO} {ns:List Int}:a ∉ ex→H a=some u→(u=.lst (ns.map V.int)∨∃ o,u=.frz o (.lst (ns.map V.int)))→Rep (.scr ns) (.ref a)
  | scrK {a:Addr} {ns:List Int} {o:Obj} {its:Array Value} {n:Nat}:K.lookup a=some o→o.cls=.type "list" → o.dict=none→o.data=.seq its n→its.size≤sizeLine→Vals (ns.map V.int) its.toList→Rep (.scr ns) (.ref a)
  | dK {a:Addr} {kvs:List (Key×V)} {ds:List (D×D)}:a ∉ ex→H a=some (.dK kvs)→RepK ds kvs→Rep (.dct ds) (.ref a)
  | ins {a dx:Addr} {c:Nat} {fs:List (Str×V)} {ds:List (Str×D)}:a ∉ ex→H a=some (.ins (cls c) dx fs)→RepF ds fs→Rep (.ins c ds) (.ref a)
  | cls (c:Nat):Rep (.cls c) (.ref (cls c))
  | kdc {a:Addr} {o:Obj} {xs:List KEnt} {ds:List (D×D)}:a ∉ ex→H a=some (kdO cls.w a o xs)→RepN ds xs→Rep (.kdc ds) (.ref a)
  | dkf {a:Addr} {o:Obj} {kvs:List (Key×V)} {ds:List (D×D)}:a ∉ ex→H a=some (.frz o (.dK kvs))→RepK ds kvs→Rep (.dkf ds) (.ref a)
  | exi {a dd:Addr} {c:Nat} {f:Str} {x:D} {v:V}:a ∉ ex→H a=some (exO (.ref (cls c)) dd a)→dd ∉ ex→H dd=some (.xd [(f,v)])→Rep x v→Rep (.exi c f x) (.ref a)
inductive Reps:List D→List V→Prop
  | nil:Reps [] []
  | cons {d:D} {v:V} {ds:List D} {vs:List V}:Rep d v→Reps ds vs→Reps (d :: ds) (v :: vs)
inductive RepK:List (D×D)→List (Key×V)→Prop
  | nil:RepK [] []
  | int {i:Int} {d:D} {v:V} {ds:List (D×D)} {vs:List (Key×V)}:Rep d v→RepK ds vs→RepK ((.int i,d) :: ds) ((.inl i,v) :: vs)
  | str {x:Str} {d:D} {v:V} {ds:List (D×D)} {vs:List (Key×V)}:Rep d v→RepK ds vs→RepK ((.str x,d) :: ds) ((.inr x,v) :: vs)
inductive RepN:List (D×D)→List KEnt→Prop
  | nil:RepN [] []
  | cons {k d:D} {b:Addr} {v:V} {u:Value} {ds:List (D×D)} {xs:List KEnt}:keyT k=true→Rep k (.ref b)→Rep d v→RelV v u→RepN ds xs→RepN ((k,d) :: ds) ((nkD k,b,u) :: xs)
inductive RepF:List (Str×D)→List (Str×V)→Prop
  | nil:RepF [] []
  | cons {x:Str} {d:D} {v:V} {ds:List (Str×D)} {vs:List (Str×V)}:Rep d v→RepF ds vs→RepF ((x,d) :: ds) ((x,v) :: vs)
end
end
abbrev Ads:=List (Addr×List Addr)
def flat (ι:Ads):List Addr:=ι.flatMap fun p=>p.1 :: p.2
theorem mem_flat {ι:Ads} {i:Nat} {p:Addr×List Addr} (h:ι[i]? = some p):p.1∈flat ι :=
  List.mem_flatMap.mpr ⟨p,List.mem_iff_getElem?.mpr ⟨i,h⟩,List.mem_cons_self⟩
theorem mem_flat2 {ι:Ads} {i:Nat} {p:Addr×List Addr} {a:Addr} (h:ι[i]? = some p) (ha:a∈p.2):a∈flat ι :=
  List.mem_flatMap.mpr ⟨p,List.mem_iff_getElem?.mpr ⟨i,h⟩,List.mem_cons_of_mem _ ha⟩
def notTbl (o:HO):Prop:=∀ ps,o ≠ .tbl ps
structure Ext (ι:Ads) (H:Hp) (ι':Ads) (H':Hp):Prop where
  at_:∀ (i:Nat) (p:Addr×List Addr),ι[i]? = some p→∃ p',ι'[i]? = some p'∧p'.1=p.1
  sub:∀ b∈flat ι',b∈flat ι∨H b=none
  dom:∀ b,H' b=none→H b=none
  keep:∀ b o,b ∉ flat ι→H b=some o→notTbl o→H' b=some o
theorem Ext.refl (ι:Ads) (H:Hp):Ext ι H ι H:=⟨fun _ p h=>⟨p,h,rfl⟩,fun _ h=>.inl h,fun _ h=>h,fun _ _ _ h _=>h⟩
theorem Ext.notin {ι ι':Ads} {H H':Hp} (x:Ext ι H ι' H') {a:Addr} (h:a ∉ flat ι) (n:H a ≠ none):a ∉ flat ι':=fun q=>by
  rcases x.sub a q with z | z
  · exact h z
  · exact n z
theorem Ext.trans {ι ι1 ι2:Ads} {H H1 H2:Hp} (x:Ext ι H ι1 H1) (y:Ext ι1 H1 ι2 H2):Ext ι H ι2 H2:=by
  refine ⟨fun i p h=>?_,fun b h=>?_,fun b h=>x.dom b (y.dom b h),fun b o nb h nt=>?_⟩
  · obtain ⟨p1,h1,e1⟩:=x.at_ i p h
    obtain ⟨p2,h2,e2⟩:=y.at_ i p1 h1
    exact ⟨p2,h2,e2.trans e1⟩
  · rcases y.sub b h with z | z
    · exact x.sub b z
    · exact .inr (x.dom b z)
  · exact y.keep b o (x.notin nb (by rw [h]; simp)) (x.keep b o nb h nt) nt
theorem nt_tup {vs:List V}:notTbl (.tup vs):=fun _ h=>nomatch h
theorem nt_lst {vs:List V}:notTbl (.lst vs):=fun _ h=>nomatch h
theorem nt_frz {o:Obj} {u:HO}:notTbl (.frz o u):=fun _ h=>nomatch h
theorem nt_dK {vs:List (Key×V)}:notTbl (.dK vs):=fun _ h=>nomatch h
theorem nt_ins {C dx:Addr} {fs:List (Str×V)}:notTbl (.ins C dx fs):=fun _ h=>nomatch h
theorem nt_ext {φ:Heap→Prop}:notTbl (.ext φ):=fun _ h=>nomatch h
theorem nt_kd {w:World} {a:Addr} {o:Obj} {xs:List KEnt}:notTbl (kdO w a o xs):=nt_ext
theorem nt_exO {cls:Value} {dd a:Addr}:notTbl (exO cls dd a):=nt_ext
theorem nt_xd {fs:List (Str×V)}:notTbl (.xd fs):=fun _ h=>nomatch h
section
variable {K:PySem.W.Frag} {cls:Cl} {H H':Hp} {ι ι':Ads} {B:List Addr}
structure ExtW (B:List Addr) (ι:Ads) (H:Hp) (ι':Ads) (H':Hp):Prop where
  sub:∀ b∈flat ι',b∈flat ι∨H b=none
  keep:∀ b o,b ∉ B ++ flat ι→H b=some o→notTbl o→H' b=some o
theorem notB {a:Addr} (h:a ∉ B ++ flat ι):a ∉ flat ι:=fun z=>h (List.mem_append_right _ z)
theorem Ext.toW (x:Ext ι H ι' H'):ExtW B ι H ι' H':=⟨x.sub,fun b o n h nt=>x.keep b o (notB n) h nt⟩
theorem ExtW.notinB (x:ExtW B ι H ι' H') {a:Addr} (h:a ∉ B ++ flat ι) (n:H a ≠ none):a ∉ B ++ flat ι':=fun q=>by
  rcases List.mem_append.mp q with z | z
  · exact h (List.mem_append_left _ z)
  · rcases x.sub a z with y | y
    · exact h (List.mem_append_right _ y)
    · exact n y
theorem ExtW.trans {ι1:Ads} {H1:Hp} (d:∀ b,H1 b=none→H b=none) (x:ExtW B ι H ι1 H1) (y:ExtW B ι1 H1 ι' H'):ExtW B ι H ι' H':=by
  refine ⟨fun b h=>?_,fun b o nb h nt=>?_⟩
  · rcases y.sub b h with z | z
    · exact x.sub b z
    · exact .inr (d b z)
  · exact y.keep b o (x.notinB nb (by rw [h]; simp)) (x.keep b o nb h nt) nt
mutual
theorem Rep.extW (x:ExtW B ι H ι' H'):∀ {d:D} {v:V},Rep K cls H (B ++ flat ι) d v→Rep K cls H' (B ++ flat ι') d v
  | _,_,.non=>.non
  | _,_,.bl b=>.bl b
  | _,_,.int i=>.int i
  | _,_,.str i=>.str i
  | _,_,.tup n h r=>.tup (x.notinB n (by rw [h]; simp)) (x.keep _ _ n h nt_tup) (Reps.extW x r)
  | _,_,.tupK h1 h2 h3 h4 h5 r=>.tupK h1 h2 h3 h4 h5 (Reps.extW x r)
  | _,_,.tupF n h r=>.tupF (x.notinB n (by rw [h]; simp)) (x.keep _ _ n h nt_frz) (Reps.extW x r)
  | _,_,.ftp n h p r=>.ftp (x.notinB n (by rw [h]; simp)) (x.keep _ _ n h nt_frz) p (Reps.extW x r)
  | _,_,.lst n h r=>.lst (x.notinB n (by rw [h]; simp)) (x.keep _ _ n h nt_lst) (Reps.extW x r)
  | _,_,.scr n h q=>.scr (x.notinB n (by rw [h]; simp)) (x.keep _ _ n h (by rcases q with rfl | ⟨o,rfl⟩; exact nt_lst; exact nt_frz)) q
  | _,_,.scrK h1 h2 h3 h4 h5 h6=>.scrK h1 h2 h3 h4 h5 h6
  | _,_,.dK n h r=>.dK (x.notinB n (by rw [h]; simp)) (x.keep _ _ n h nt_dK) (RepK.extW x r)
  | _,_,.ins n h r=>.ins (x.notinB n (by rw [h]; simp)) (x.keep _ _ n h nt_ins) (RepF.extW x r)
  | _,_,.cls c=>.cls c
  | _,_,.kdc n h r=>.kdc (x.notinB n (by rw [h]; simp)) (x.keep _ _ n h nt_kd) (RepN.extW x r)
  | _,_,.dkf n h r=>.dkf (x.notinB n (by rw [h]; simp)) (x.keep _ _ n h nt_frz) (RepK.extW x r)
  | _,_,.exi n h m g r=>.exi (x.notinB n (by rw [h]; simp)) (x.keep _ _ n h nt_exO) (x.notinB m (by rw [g]; simp)) (x.keep _ _ m g nt_xd) (Rep.extW x r)
theorem Reps.extW (x:ExtW B ι H ι' H'):∀ {d:List D} {v:List V},Reps K cls H (B ++ flat ι) d v→Reps K cls H' (B ++ flat ι') d v
  | _,_,.nil=>.nil
  | _,_,.cons r t=>.cons (Rep.extW x r) (Reps.extW x t)
theorem RepK.extW (x:ExtW B ι H ι' H'):∀ {d:List (D×D)} {v:List (Key×V)},RepK K cls H (B ++ flat ι) d v→RepK K cls H' (B ++ flat ι') d v
  | _,_,.nil=>.nil
  | _,_,.int r t=>.int (Rep.extW x r) (RepK.extW x t)
  | _,_,.str r t=>.str (Rep.extW x r) (RepK.extW x t)
theorem RepN.extW (x:ExtW B ι H ι' H'):∀ {d:List (D×D)} {v:List KEnt},RepN K cls H (B ++ flat ι) d v→RepN K cls H' (B ++ flat ι') d v
  | _,_,.nil=>.nil
  | _,_,.cons hk r q e t=>.cons hk (Rep.extW x r) (Rep.extW x q) e (RepN.extW x t)
theorem RepF.extW (x:ExtW B ι H ι' H'):∀ {d:List (Str×D)} {v:List (Str×V)},RepF K cls H (B ++ flat ι) d v→RepF K cls H' (B ++ flat ι') d v
  | _,_,.nil=>.nil
  | _,_,.cons r t=>.cons (Rep.extW x r) (RepF.extW x t)
end
theorem Rep.ext (x:Ext ι H ι' H') {d:D} {v:V} (r:Rep K cls H (B ++ flat ι) d v):Rep K cls H' (B ++ flat ι') d v:=Rep.extW x.toW r
theorem Reps.ext (x:Ext ι H ι' H') {d:List D} {v:List V} (r:Reps K cls H (B ++ flat ι) d v):Reps K cls H' (B ++ flat ι') d v:=Reps.extW x.toW r
end
section
variable {K:PySem.W.Frag} {cls:Cl} {H:Hp} {e e':List Addr}
mutual
theorem Rep.sub (x:∀ a∈e',H a ≠ none→a∈e):∀ {d:D} {v:V},Rep K cls H e d v→Rep K cls H e' d v
  | _,_,.non=>.non
  | _,_,.bl b=>.bl b
  | _,_,.int i=>.int i
  | _,_,.str i=>.str i
  | _,_,.tup n h r=>.tup (fun z=>n (x _ z (by rw [h]; simp))) h (Reps.sub x r)
  | _,_,.tupK h1 h2 h3 h4 h5 r=>.tupK h1 h2 h3 h4 h5 (Reps.sub x r)
  | _,_,.tupF n h r=>.tupF (fun z=>n (x _ z (by rw [h]; simp))) h (Reps.sub x r)
  | _,_,.ftp n h p r=>.ftp (fun z=>n (x _ z (by rw [h]; simp))) h p (Reps.sub x r)
  | _,_,.lst n h r=>.lst (fun z=>n (x _ z (by rw [h]; simp))) h (Reps.sub x r)
  | _,_,.scr n h q=>.scr (fun z=>n (x _ z (by rw [h]; simp))) h q
  | _,_,.scrK h1 h2 h3 h4 h5 h6=>.scrK h1 h2 h3 h4 h5 h6
  | _,_,.dK n h r=>.dK (fun z=>n (x _ z (by rw [h]; simp))) h (RepK.sub x r)
  | _,_,.ins n h r=>.ins (fun z=>n (x _ z (by rw [h]; simp))) h (RepF.sub x r)
  | _,_,.cls c=>.cls c
  | _,_,.kdc n h r=>.kdc (fun z=>n (x _ z (by rw [h]; simp))) h (RepN.sub x r)
  | _,_,.dkf n h r=>.dkf (fun z=>n (x _ z (by rw [h]; simp))) h (RepK.sub x r)
  | _,_,.exi n h m g r=>.exi (fun z=>n (x _ z (by rw [h]; simp))) h (fun z=>m (x _ z (by rw [g]; simp))) g (Rep.sub x r)
theorem Reps.sub (x:∀ a∈e',H a ≠ none→a∈e):∀ {d:List D} {v:List V},Reps K cls H e d v→Reps K cls H e' d v
  | _,_,.nil=>.nil
  | _,_,.cons r t=>.cons (Rep.sub x r) (Reps.sub x t)
theorem RepK.sub (x:∀ a∈e',H a ≠ none→a∈e):∀ {d:List (D×D)} {v:List (Key×V)},RepK K cls H e d v→RepK K cls H e' d v
  | _,_,.nil=>.nil
  | _,_,.int r t=>.int (Rep.sub x r) (RepK.sub x t)
  | _,_,.str r t=>.str (Rep.sub x r) (RepK.sub x t)
theorem RepN.sub (x:∀ a∈e',H a ≠ none→a∈e):∀ {d:List (D×D)} {v:List KEnt},RepN K cls H e d v→RepN K cls H e' d v
  | _,_,.nil=>.nil
  | _,_,.cons hk r q z t=>.cons hk (Rep.sub x r) (Rep.sub x q) z (RepN.sub x t)
theorem RepF.sub (x:∀ a∈e',H a ≠ none→a∈e):∀ {d:List (Str×D)} {v:List (Str×V)},RepF K cls H e d v→RepF K cls H e' d v
  | _,_,.nil=>.nil
  | _,_,.cons r t=>.cons (Rep.sub x r) (RepF.sub x t)
end
end
end Ev
namespace Ev
open PySem PySem.Spec L2
structure Fx where
  K:PySem.W.Frag
  cls:Cl
  fld:Nat→Str
  T:List (Addr×Str)
  /-- the exception that is handled,and its own dict -/
  xa:Option (Addr×Addr):=none
  /-- the function that was handed over,its code object,the name of this,what it has captured -/
  lam:Option (Addr×Addr×Str×Loc×L2.St):=none
section
variable (F:Fx) (H:Hp) (B:List Addr) (ι:Ads)
abbrev RD:=Rep F.K F.cls H (B ++ flat ι)
abbrev RDs:=Reps F.K F.cls H (B ++ flat ι)
def RC (K:PySem.W.Frag) (cls:Cl) (H:Hp) (B:List Addr) (ι:Ads):W→V→Prop
  | .d x,v=>Rep K cls H (B ++ flat ι) x v
  | .ref i,v=>∃ p,ι[i]? = some p∧v=.ref p.1
  | _,_=>False
def RCL (K:PySem.W.Frag) (cls:Cl) (H:Hp) (B:List Addr) (ι:Ads):Option W→Option V→Prop
  | none,_=>True
  | some w,some v=>RC K cls H B ι w v
  | some _,none=>False
def ExT (cls:Value) (dd a:Addr):HO:=.ext fun h=>∃ (oe:Obj) (vs:Array Value),h.get? a=some oe∧Zc cls (some dd) oe∧oe.data=.fields vs
def XAt (c:Nat) (a dd:Addr):Prop:=F.xa=some (a,dd)∨(H a=some (ExT (.ref (F.cls c)) dd a)∧a ∉ B ++ flat ι)
def RW:W→V→Prop
  | .d x,v=>RD F H B ι x v
  | .ref i,v=>∃ p,ι[i]? = some p∧v=.ref p.1
  | .exc c x,v=>∃ a dd u,XAt F H B ι c a dd∧v=.ref a∧H dd=some (.xd [(F.fld c,u)])∧dd ∉ flat ι∧RD F H B ι x u
  | .fn,v=>∃ a c q ρL σL,F.lam=some (a,c,q,ρL,σL)∧v=.ref a∧H c=some (LamX.CodeO c q)∧c ∉ flat ι∧Paired (RCL F.K F.cls H B ι) ρL σL
abbrev RWs:List W→List V→Prop:=Paired (RW F H B ι)
abbrev RWF:List (Str×W)→List (Str×V)→Prop:=Paired fun p q=>p.1=q.1∧RW F H B ι p.2 q.2
abbrev RWK:List (Key×W)→List (Key×V)→Prop:=Paired fun p q=>p.1=q.1∧RW F H B ι p.2 q.2
def sCells:Str:="cells"
def sLeft:Str:="left"
def sAt:Str:="at"
abbrev RWN:List (D×W)→List KEnt→Prop:=Paired fun q x=>keyT q.1=true∧x.1=nkD q.1∧RD F H B ι q.1 (.ref x.2.1)∧∃ v,RelV v x.2.2∧RW F H B ι q.2 v
def RO:O→Addr×List Addr→Prop
  | .lst ws,p=>p.2=[]∧∃ vs,H p.1=some (.lst vs)∧RWs F H B ι ws vs
  | .tup ws,p=>p.2=[]∧∃ vs,H p.1=some (.tup vs)∧RWs F H B ι ws vs
  | .kd kvs,p=>p.2=[]∧∃ o xs,H p.1=some (kdO F.cls.w p.1 o xs)∧RWN F H B ι kvs xs
  | .dct kvs,p=>p.2=[]∧∃ vs,H p.1=some (.dK vs)∧RWK F H B ι kvs vs
  | .drw cs ls n,p=>∃ aC aL,p.2=[aC,aL]∧H p.1=some (.dK [(.inr sCells,.ref aC),(.inr sLeft,.ref aL),(.inr sAt,.int n)])∧H aC=some (.lst (cs.map V.int))∧H aL=some (.lst (ls.map V.int))
  | .ins c fs,p=>p.2=[]∧∃ dx vs,H p.1=some (.ins (F.cls c) dx vs)∧RWF F H B ι fs vs
def RL:Option W→Option V→Prop
  | none,_=>True
  | some w,some v=>RW F H B ι w v
  | some _,none=>False
def TabA (T:List (Addr×Str)) (H:Hp):Prop:=LamX.Tabs T H∧∀ b ps,H b=some (.tbl ps)→∃ q,(b,q)∈T
structure RelS (S:Sto):Prop where
  nd:(flat ι).Nodup
  len:ι.length=S.length
  obj:∀ (i:Nat) (p:Addr×List Addr) (o:O),ι[i]? = some p→S[i]? = some o→RO F H B ι o p
  tab:TabA F.T H
  bs:∀ b∈B,H b ≠ none
  dis:∀ b∈B,b ∉ flat ι
structure Rel (ρ:Loc) (S:Sto) (σ:L2.St):Prop extends RelS F H B ι S where
  loc:Paired (RL F H B ι) ρ σ
def RX (c:Nat) (x:D) (cv:Value) (d:Option Addr):Prop :=
  cv=.ref (F.cls c)∧∃ a v,d=some a∧H a=some (.xd [(F.fld c,v)])∧a ∉ flat ι∧RD F H B ι x v
end
section
variable {F:Fx} {H H':Hp} {B:List Addr} {ι ι':Ads}
theorem pImp {α β:Type} {A C:α→β→Prop} (f:∀ a b,A a b→C a b):∀ {l:List α} {m:List β},Paired A l m→Paired C l m
  | _,_,.nil=>.nil
  | _,_,.cons r t=>.cons (f _ _ r) (pImp f t)
theorem RC.ext (x:Ext ι H ι' H'):∀ {w:W} {v:V},RC F.K F.cls H B ι w v→RC F.K F.cls H' B ι' w v
  | .d _,_,h=>Rep.ext x h
  | .ref _,_,⟨p,h,e⟩=>by
    obtain ⟨p',h',e'⟩:=x.at_ _ p h
    exact ⟨p',h',by rw [e,e']⟩
theorem RCL.ext (x:Ext ι H ι' H'):∀ {w:Option W} {v:Option V},RCL F.K F.cls H B ι w v→RCL F.K F.cls H' B ι' w v
  | none,_,_=>trivial
  | some _,some _,h=>RC.ext x h
theorem nt_exT {cls:Value} {dd a:Addr}:notTbl (ExT cls dd a):=fun _ h=>nomatch h
theorem XAt.ext (x:Ext ι H ι' H') {c:Nat} {a dd:Addr}:XAt F H B ι c a dd→XAt F H' B ι' c a dd
  | .inl h=>.inl h
  | .inr ⟨h1,h2⟩=>.inr ⟨x.keep _ _ (fun z=>h2 (List.mem_append_right _ z)) h1 nt_exT,fun z=>by
      rcases List.mem_append.mp z with y | y
      · exact h2 (List.mem_append_left _ y)
      · exact x.notin (fun z=>h2 (List.mem_append_right _ z)) (by rw [h1]; simp) y⟩
theorem RW.ext (x:Ext ι H ι' H'):∀ {w:W} {v:V},RW F H B ι w v→RW F H' B ι' w v
  | .d _,_,h=>Rep.ext x h
  | .ref _,_,⟨p,h,e⟩=>by
    obtain ⟨p',h',e'⟩:=x.at_ _ p h
    exact ⟨p',h',by rw [e,e']⟩
  | .exc _ _,_,⟨a,dd,u,h1,h2,h3,h4,h5⟩=>⟨a,dd,u,h1.ext x,h2,x.keep _ _ h4 h3 nt_xd,x.notin h4 (by rw [h3]; simp),Rep.ext x h5⟩
  | .fn,_,⟨a,c,q,ρL,σL,h1,h2,h3,h4,h5⟩=>⟨a,c,q,ρL,σL,h1,h2,x.keep _ _ h4 h3 LamX.codeO_ne,x.notin h4 (by rw [h3]; simp),pImp (fun _ _ r=>RCL.ext x r) h5⟩
theorem RWs.ext (x:Ext ι H ι' H') {ws:List W} {vs:List V} (h:RWs F H B ι ws vs):RWs F H' B ι' ws vs:=pImp (fun _ _ r=>RW.ext x r) h
theorem RWN.ext (x:Ext ι H ι' H') {ws:List (D×W)} {xs:List KEnt} (h:RWN F H B ι ws xs):RWN F H' B ι' ws xs:=pImp (fun _ _ r=>by
  obtain ⟨h1,h2,h3,v,h4,h5⟩:=r
  exact ⟨h1,h2,Rep.ext x h3,v,h4,RW.ext x h5⟩) h
theorem RL.ext (x:Ext ι H ι' H'):∀ {w:Option W} {v:Option V},RL F H B ι w v→RL F H' B ι' w v
  | none,_,_=>trivial
  | some _,some _,h=>RW.ext x h
theorem RX.ext (x:Ext ι H ι' H') {c:Nat} {d:D} {cv:Value} {od:Option Addr} (h:RX F H B ι c d cv od):RX F H' B ι' c d cv od:=by
  obtain ⟨e,a,v,e2,h1,n,r⟩:=h
  exact ⟨e,a,v,e2,x.keep _ _ n h1 nt_xd,x.notin n (by rw [h1]; simp),r.ext x⟩
theorem RO.ext (x:Ext ι H ι' H') {o:O} {p:Addr×List Addr} (e:∀ a,a=p.1∨a∈p.2→H' a=H a) (h:RO F H B ι o p):RO F H' B ι' o p:=by
  cases o with
  | lst ws=>obtain ⟨h0,vs,h1,r⟩:=h; exact ⟨h0,vs,by rw [e _ (.inl rfl)]; exact h1,RWs.ext x r⟩
  | tup ws=>obtain ⟨h0,vs,h1,r⟩:=h; exact ⟨h0,vs,by rw [e _ (.inl rfl)]; exact h1,RWs.ext x r⟩
  | kd ws=>obtain ⟨h0,o,vs,h1,r⟩:=h; exact ⟨h0,o,vs,by rw [e _ (.inl rfl)]; exact h1,RWN.ext x r⟩
  | dct ws=>obtain ⟨h0,vs,h1,r⟩:=h; exact ⟨h0,vs,by rw [e _ (.inl rfl)]; exact h1,pImp (fun _ _ q=>⟨q.1,RW.ext x q.2⟩) r⟩
  | ins c fs=>obtain ⟨h0,dx,vs,h1,r⟩:=h; exact ⟨h0,dx,vs,by rw [e _ (.inl rfl)]; exact h1,pImp (fun _ _ q=>⟨q.1,RW.ext x q.2⟩) r⟩
  | drw cs ls n=>obtain ⟨aC,aL,h0,h1,h2,h3⟩:=h; exact ⟨aC,aL,h0,by rw [e _ (.inl rfl)]; exact h1,by rw [e _ (.inr (by rw [h0]; simp))]; exact h2,by rw [e _ (.inr (by rw [h0]; simp))]; exact h3⟩
theorem RO.tracked {o:O} {p:Addr×List Addr} (h:RO F H B ι o p) {a:Addr} (ha:a=p.1∨a∈p.2):H a ≠ none:=by
  cases o with
  | lst ws =>
    obtain ⟨h0,vs,h1,r⟩:=h
    rcases ha with rfl | ha
    · rw [h1]; simp
    · rw [h0] at ha; simp at ha
  | tup ws =>
    obtain ⟨h0,vs,h1,r⟩:=h
    rcases ha with rfl | ha
    · rw [h1]; simp
    · rw [h0] at ha; simp at ha
  | kd ws =>
    obtain ⟨h0,o,vs,h1,r⟩:=h
    rcases ha with rfl | ha
    · rw [h1]; simp
    · rw [h0] at ha; simp at ha
  | dct ws =>
    obtain ⟨h0,vs,h1,r⟩:=h
    rcases ha with rfl | ha
    · rw [h1]; simp
    · rw [h0] at ha; simp at ha
  | ins c fs =>
    obtain ⟨h0,dx,vs,h1,r⟩:=h
    rcases ha with rfl | ha
    · rw [h1]; simp
    · rw [h0] at ha; simp at ha
  | drw cs ls n =>
    obtain ⟨aC,aL,h0,h1,h2,h3⟩:=h
    rcases ha with rfl | ha
    · rw [h1]; simp
    · rw [h0] at ha
      simp at ha
      rcases ha with rfl | rfl
      · rw [h2]; simp
      · rw [h3]; simp
def NoC (H:Hp) (A:Addr):Prop:=∀ c q,H A ≠ some (LamX.CodeO c q)
theorem noC1 {u:HO} (n:∀ φ,u ≠ .ext φ):∀ c q,u ≠ LamX.CodeO c q:=fun _ _ z=>n _ z
theorem noC_of {H:Hp} {A:Addr} {u:HO} (h:H A=some u) (n:∀ φ,u ≠ .ext φ):NoC H A:=fun c q z=>n _ (Option.some.inj (h.symm.trans z))
theorem kdO_code {w:World} {a:Addr} {o:Obj} {xs:List KEnt} {c:Addr} {q:Str}:kdO w a o xs ≠ LamX.CodeO c q:=fun z=>by
  unfold kdO LamX.CodeO at z
  have e:=HO.ext.inj z
  let oc:Obj:={ cls:=.none,data:=.fields #[.none,.str q 0] }
  let fr:Obj:={ cls:=.none,data:=.freed }
  let h:Heap:={ objs:=(Array.replicate c fr).push oc }
  have hp:h.objs[c]? = some oc:=by
    have:=Array.getElem?_push_size (xs:=Array.replicate c fr) (x:=oc)
    rw [Array.size_replicate] at this
    exact this
  have hc:h.get? c=some oc:=by
    unfold Heap.get?
    rw [hp]
  have hk:=congrFun e h
  simp only [eq_iff_iff] at hk
  obtain ⟨h1,kd⟩:=hk.mpr ⟨oc,_,0,hc,rfl,rfl⟩
  by_cases ac:a=c
  · subst ac
    rw [hc] at h1
    exact kd_data kd _ (by rw [← Option.some.inj h1])
  · have:h.get? a=none:=by
      unfold Heap.get?
      simp only [h,Array.getElem?_push,Array.size_replicate]
      rw [if_neg (fun z=>ac z)]
      by_cases l:a < c
      · simp [l,fr]
      · simp [l]
    rw [this] at h1
    cases h1
theorem RO.ntbl {o:O} {p:Addr×List Addr} (h:RO F H B ι o p) {a:Addr} (ha:a=p.1∨a∈p.2) {u:HO} (e:H a=some u):notTbl u∧∀ c q,u ≠ LamX.CodeO c q:=by
  cases o with
  | lst ws =>
    obtain ⟨h0,vs,h1,r⟩:=h
    rcases ha with rfl | ha
    · rw [h1] at e; cases e; exact ⟨nt_lst,noC1 fun _ z=>nomatch z⟩
    · rw [h0] at ha; simp at ha
  | tup ws =>
    obtain ⟨h0,vs,h1,r⟩:=h
    rcases ha with rfl | ha
    · rw [h1] at e; cases e; exact ⟨nt_tup,noC1 fun _ z=>nomatch z⟩
    · rw [h0] at ha; simp at ha
  | kd ws =>
    obtain ⟨h0,o,vs,h1,r⟩:=h
    rcases ha with rfl | ha
    · rw [h1] at e; cases e; exact ⟨nt_kd,fun c q=>kdO_code⟩
    · rw [h0] at ha; simp at ha
  | dct ws =>
    obtain ⟨h0,vs,h1,r⟩:=h
    rcases ha with rfl | ha
    · rw [h1] at e; cases e; exact ⟨nt_dK,noC1 fun _ z=>nomatch z⟩
    · rw [h0] at ha; simp at ha
  | ins c fs =>
    obtain ⟨h0,dx,vs,h1,r⟩:=h
    rcases ha with rfl | ha
    · rw [h1] at e; cases e; exact ⟨nt_ins,noC1 fun _ z=>nomatch z⟩
    · rw [h0] at ha; simp at ha
  | drw cs ls n =>
    obtain ⟨aC,aL,h0,h1,h2,h3⟩:=h
    rcases ha with rfl | ha
    · rw [h1] at e; cases e; exact ⟨nt_dK,noC1 fun _ z=>nomatch z⟩
    · rw [h0] at ha
      simp at ha
      rcases ha with rfl | rfl
      · rw [h2] at e; cases e; exact ⟨nt_lst,noC1 fun _ z=>nomatch z⟩
      · rw [h3] at e; cases e; exact ⟨nt_lst,noC1 fun _ z=>nomatch z⟩
theorem RelS.at_some {S:Sto} (r:RelS F H B ι S) {i:Nat} {p:Addr×List Addr} (h:ι[i]? = some p):∃ o,S[i]? = some o∧RO F H B ι o p:=by
  have hl:i < ι.length:=(List.getElem?_eq_some_iff.mp h).1
  rw [r.len] at hl
  exact ⟨S[i],List.getElem?_eq_getElem hl,r.obj i p _ h (List.getElem?_eq_getElem hl)⟩
theorem RelS.mem_flat {S:Sto} (r:RelS F H B ι S) {a:Addr} (h:a∈flat ι):∃ (i:Nat) (p:Addr×List Addr) (o:O),ι[i]? = some p∧S[i]? = some o∧RO F H B ι o p∧(a=p.1∨a∈p.2):=by
  obtain ⟨p,hp,ha⟩:=List.mem_flatMap.mp h
  obtain ⟨i,hi⟩:=List.mem_iff_getElem?.mp hp
  obtain ⟨o,h1,ho⟩:=r.at_some hi
  exact ⟨i,p,o,hi,h1,ho,List.mem_cons.mp ha⟩
theorem RelS.mem_some {S:Sto} (r:RelS F H B ι S) {a:Addr} (h:a∈flat ι):H a ≠ none:=by
  obtain ⟨_,_,_,_,_,ho,ha⟩:=r.mem_flat h
  exact ho.tracked ha
theorem RelS.fresh {S:Sto} (r:RelS F H B ι S) {p:Addr} (h:H p=none):p ∉ B ++ flat ι:=fun q=>by
  rcases List.mem_append.mp q with z | z
  · exact r.bs p z h
  · exact r.mem_some z h
theorem RelS.stay {S:Sto} (r:RelS F H B ι S) (x:Ext ι H ι H') (k:∀ a∈flat ι,H' a=H a) (t:TabA F.T H'):RelS F H' B ι S :=
  ⟨r.nd,r.len,fun i p o h1 h2=>(r.obj i p o h1 h2).ext x (fun a ha=>k a (by rcases ha with rfl | ha; exact Ev.mem_flat h1; exact Ev.mem_flat2 h1 ha)),t,fun b hb z=>r.bs b hb (x.dom b z),r.dis⟩
theorem Rel.stay {ρ:Loc} {S:Sto} {σ:L2.St} (r:Rel F H B ι ρ S σ) (x:Ext ι H ι H') (k:∀ a∈flat ι,H' a=H a) (t:TabA F.T H'):Rel F H' B ι ρ S σ :=
  ⟨r.toRelS.stay x k t,pImp (fun _ _ q=>RL.ext x q) r.loc⟩
theorem Ext.new {p:Addr} {o:HO} (h:H p=none):Ext ι H ι (upd H p o) :=
  ⟨fun _ p h=>⟨p,h,rfl⟩,fun _ z=>.inl z,fun b q=>by
    by_cases e:b=p
    · rw [e]; exact h
    · rw [upd_ne e] at q; exact q,fun b u _ q _=>by rw [upd_ne (ne_of_none q h)]; exact q⟩
theorem tabs_new {T:List (Addr×Str)} {p:Addr} {o:HO} (t:TabA T H) (h:H p=none) (nt:notTbl o):TabA T (upd H p o):=⟨t.1.ext fun b u e=>by rw [upd_ne (ne_of_none e h)]; exact e,fun b ps e=>by
  by_cases z:b=p
  · rw [z,upd_same] at e; exact absurd (Option.some.inj e) (nt ps)
  · rw [upd_ne z] at e; exact t.2 b ps e⟩
theorem Rel.new {ρ:Loc} {S:Sto} {σ:L2.St} (r:Rel F H B ι ρ S σ) {p:Addr} {o:HO} (h:H p=none) (nt:notTbl o:=by first | exact nt_tup | exact nt_lst | exact nt_xd | exact nt_dK | exact nt_ins):Rel F (upd H p o) B ι ρ S σ :=
  r.stay (Ext.new h) (fun a ha=>upd_ne fun e=>r.mem_some ha (e ▸ h)) (tabs_new r.tab h nt)
end
section
variable (F:Fx) (Wsh:WX) (B:List Addr) (ρ:Loc) (σ:L2.St)
def Cont {α:Type} (ι:Ads) (H:Hp) (r:R α) (k:α→Sto→Ads→Hp→Prop):Prop:=match r with
  | .ok a S=>∀ ι' H',Ext ι H ι' H'→Rel F H' B ι' ρ S σ→k a S ι' H'
  | .exn c x S=>∀ ι' H' cv d,Ext ι H ι' H'→Rel F H' B ι' ρ S σ→RX F H' B ι' c x cv d→Wsh cv d σ H'
  | .err=>False
end
section
variable {F:Fx} {Wsh:WX} {B:List Addr} {ρ:Loc} {σ:L2.St} {ι:Ads} {H:Hp}
theorem Cont.mono {α:Type} {r:R α} {k k':α→Sto→Ads→Hp→Prop} (h:Cont F Wsh B ρ σ ι H r k) (f:∀ a S ι' H',r=.ok a S→Ext ι H ι' H'→Rel F H' B ι' ρ S σ→k a S ι' H'→k' a S ι' H'):Cont F Wsh B ρ σ ι H r k':=by
  cases r with
  | ok a S=>exact fun ι' H' x r=>f _ _ _ _ rfl x r (h ι' H' x r)
  | exn c x S=>exact h
  | err=>exact h
theorem Cont.ext {α:Type} {r:R α} {k:α→Sto→Ads→Hp→Prop} {ι':Ads} {H':Hp} (h:Cont F Wsh B ρ σ ι H r k) (x:Ext ι H ι' H'):Cont F Wsh B ρ σ ι' H' r k:=by
  cases r with
  | ok a S=>exact fun ι2 H2 y r=>h ι2 H2 (x.trans y) r
  | exn c d S=>exact fun ι2 H2 cv od y r q=>h ι2 H2 cv od (x.trans y) r q
  | err=>exact h
theorem Cont.bind {α β:Type} {r:R α} {f:α→Sto→R β} {k:β→Sto→Ads→Hp→Prop} (h:Cont F Wsh B ρ σ ι H (r.bind f) k) :
    Cont F Wsh B ρ σ ι H r fun a S ι' H'=>Cont F Wsh B ρ σ ι' H' (f a S) k:=by
  cases r with
  | ok a S=>exact fun ι' H' x _=>Cont.ext (show Cont F Wsh B ρ σ ι H (f a S) k from h) x
  | exn c d S=>exact h
  | err=>exact h
theorem Cont.here {α:Type} {S:Sto} {a:α} {k:α→Sto→Ads→Hp→Prop} (c:Cont F Wsh B ρ σ ι H (.ok a S) k) (r:Rel F H B ι ρ S σ):k a S ι H:=c ι H (Ext.refl _ _) r
end
section
variable (F:Fx) (Wsh:WX)
def tR (f:FE):TE:=fun σ H Q=>∃ B ι ρ S,Rel F H B ι ρ S σ∧Cont F Wsh B ρ σ ι H (f ρ S) fun w _ ι' H'=>∀ v,RW F H' B ι' w v→Q v H'
def tRA (f:FA):TA:=fun σ H Q=>∃ B ι ρ S,Rel F H B ι ρ S σ∧Cont F Wsh B ρ σ ι H (f ρ S) fun ws _ ι' H'=>∀ vs,RWs F H' B ι' ws vs→Q vs H'
def tRT (f:FT):TT:=fun σ H Q=>∃ B ι ρ S,Rel F H B ι ρ S σ∧Cont F Wsh B ρ σ ι H (f ρ S) fun b _ _ H'=>Q b H'
end
section
variable {X:Cx} {F:Fx} {Wsh:WX}
theorem peImp {e:Expr} {t t':TE} (h:PE X e t) (f:∀ σ H Q,t' σ H Q→t σ H Q):PE X e t':=⟨fun pins s σ H Q I q=>h.run pins s σ H Q I (f σ H Q q)⟩
theorem ptImp {e:Expr} {t t':TT} (h:PT X e t) (f:∀ σ H Q,t' σ H Q→t σ H Q):PT X e t':=⟨fun pins s σ H Q I q=>h.run pins s σ H Q I (f σ H Q q)⟩
theorem paImp {e:List Expr} {t t':TA} (h:PA X e t) (f:∀ σ H Q,t' σ H Q→t σ H Q):PA X e t':=⟨fun pos pins s σ H Q I q=>h.run pos pins s σ H Q I (f σ H Q q)⟩
theorem psImp {e:Stmt} {t t':TS} (h:PS X e t) (f:∀ D σ H,t' D σ H→t D σ H):PS X e t':=⟨fun pins s σ H D I q=>h.run pins s σ H D I (f D σ H q)⟩
theorem pssImp {e:List Stmt} {t t':TS} (h:PSs X e t) (f:∀ D σ H,t' D σ H→t D σ H):PSs X e t':=⟨fun pins s σ H D I q=>h.run pins s σ H D I (f D σ H q)⟩
variable {σ:L2.St} {H:Hp} {B:List Addr} {ι:Ads} {ρ:Loc} {S:Sto}
theorem tR_step {f:FE} {β:Type} {g:W→Sto→R β} {k:β→Sto→Ads→Hp→Prop} {Q:VK} (r:Rel F H B ι ρ S σ) (c:Cont F Wsh B ρ σ ι H ((f ρ S).bind g) k)
    (h:∀ w v S' ι' H',Ext ι H ι' H'→Rel F H' B ι' ρ S' σ→RW F H' B ι' w v→Cont F Wsh B ρ σ ι' H' (g w S') k→Q v H'):tR F Wsh f σ H Q :=
  ⟨B,ι,ρ,S,r,c.bind.mono fun w S' ι' H' _ x r' q v rv=>h w v S' ι' H' x r' rv q⟩
theorem tRA_step {f:FA} {β:Type} {g:List W→Sto→R β} {k:β→Sto→Ads→Hp→Prop} {Q:List V→Hp→Prop} (r:Rel F H B ι ρ S σ) (c:Cont F Wsh B ρ σ ι H ((f ρ S).bind g) k)
    (h:∀ ws vs S' ι' H',Ext ι H ι' H'→Rel F H' B ι' ρ S' σ→RWs F H' B ι' ws vs→Cont F Wsh B ρ σ ι' H' (g ws S') k→Q vs H'):tRA F Wsh f σ H Q :=
  ⟨B,ι,ρ,S,r,c.bind.mono fun w S' ι' H' _ x r' q v rv=>h w v S' ι' H' x r' rv q⟩
theorem tRT_step {f:FT} {β:Type} {g:Bool→Sto→R β} {k:β→Sto→Ads→Hp→Prop} {Q:Bool→Hp→Prop} (r:Rel F H B ι ρ S σ) (c:Cont F Wsh B ρ σ ι H ((f ρ S).bind g) k)
    (h:∀ b S' ι' H',Ext ι H ι' H'→Rel F H' B ι' ρ S' σ→Cont F Wsh B ρ σ ι' H' (g b S') k→Q b H'):tRT F Wsh f σ H Q :=
  ⟨B,ι,ρ,S,r,c.bind.mono fun w S' ι' H' _ x r' q=>h w S' ι' H' x r' q⟩
end
section
variable {X:Cx} {F:Fx} {Wsh:WX}
def fVar (i:Nat):FE:=fun ρ S=>match ρ[i]? with | some (some w)=>.ok w S | _=>.err
theorem pAt {α β:Type} {A:α→β→Prop}:∀ {l:List α} {m:List β} {i:Nat} {a:α},Paired A l m→l[i]? = some a→∃ b,m[i]? = some b∧A a b
  | _,_,_,_,.nil,e=>by simp at e
  | _,_,0,_,.cons r _,e=>by simp at e; subst e; exact ⟨_,by simp,r⟩
  | _,_,i + 1,a,.cons _ t,e=>by
    obtain ⟨u,h1,h2⟩:=pAt (i:=i) (a:=a) t (by simpa using e)
    exact ⟨u,by simpa using h1,h2⟩
theorem r_var {i:Nat} {x:Str} {pos:Pos} (h:PE X (.Name x pos) (tVar i)):PE X (.Name x pos) (tR F Wsh (fVar i)):=peImp h fun σ H Q ⟨B,ι,ρ,S,r,c⟩=>by
  unfold fVar at c
  split at c
  · rename_i w e
    obtain ⟨b,hb,hr⟩:=pAt r.loc e
    cases b with
    | none=>exact hr.elim
    | some v=>exact ⟨v,hb,c.here r v hr⟩
  · exact c.elim
def fC (d:D):FE:=fun _ S=>.ok (.d d) S
theorem r_const {e:Expr} {v:V} {d:D} (h:PE X e (tC v)) (r:∀ H B ι,RD F H B ι d v):PE X e (tR F Wsh (fC d)):=peImp h fun σ H Q ⟨B,ι,ρ,S,rl,c⟩=>c.here rl v (r H B ι)
theorem r_int {i:Int} {j:Nat} {pos:Pos}:PE X (.Constant (.int i) j pos) (tR F Wsh (fC (.int i))):=r_const pe_int fun _ _ _=>.int i
theorem r_bl {b:Bool} {j:Nat} {pos:Pos}:PE X (.Constant (.bool b) j pos) (tR F Wsh (fC (.bl b))):=r_const pe_bl fun _ _ _=>.bl b
theorem r_non {j:Nat} {pos:Pos}:PE X (.Constant .none j pos) (tR F Wsh (fC .non)):=r_const pe_non fun _ _ _=>.non
theorem r_str {x:Str} {j:Nat} {pos:Pos}:PE X (.Constant (.str x) j pos) (tR F Wsh (fC (.str x))):=r_const pe_str fun _ _ _=>.str x
abbrev Op2:=W→W→Sto→R W
def fBin (op:Op2) (f g:FE):FE:=fun ρ S=>(f ρ S).bind fun x S1=>(g ρ S1).bind fun y S2=>op x y S2
def OpOk (F:Fx) (op:Op2) (r:R2):Prop:=∀ (Wsh:WX) (B:List Addr) (ι:Ads) (ρ:Loc) (S:Sto) (σ:L2.St) (H:Hp) (wx wy:W) (x y:V) (Q:VK),Rel F H B ι ρ S σ→RW F H B ι wx x→RW F H B ι wy y →
  Cont F Wsh B ρ σ ι H (op wx wy S) (fun w _ ι' H'=>∀ v,RW F H' B ι' w v→Q v H')→r x y H Q
theorem two {f g:FE} {op:Op2} {r:R2} (o:OpOk F op r) {σ:L2.St} {H:Hp} {Q:VK} (h:tR F Wsh (fBin op f g) σ H Q) :
    (tR F Wsh f) σ H fun x H1=>(tR F Wsh g) σ H1 fun y H2=>r x y H2 Q:=by
  obtain ⟨B,ι,ρ,S,rl,c⟩:=h
  refine tR_step rl c fun wx x S1 ι1 H1 x1 rl1 rx c1=>?_
  refine tR_step rl1 c1 fun wy y S2 ι2 H2 x2 rl2 ry c2=>?_
  exact o Wsh B ι2 ρ S2 σ H2 wx wy x y Q rl2 (rx.ext x2) ry c2
theorem r_bin {op:Operator} {a b:Expr} {f g:FE} {r:R2} {o:Op2} {pos:Pos} (ho:OpR X (binaryOp op) r) (ok:OpOk F o r) (ha:PE X a (tR F Wsh f)) (hb:PE X b (tR F Wsh g)):PE X (.BinOp a op b pos) (tR F Wsh (fBin o f g)) :=
  peImp (pe_op ho ha hb) fun σ H Q h=>two ok h
def fNil:FA:=fun _ S=>.ok [] S
def fCons (f:FE) (g:FA):FA:=fun ρ S=>(f ρ S).bind fun x S1=>(g ρ S1).bind fun xs S2=>.ok (x :: xs) S2
theorem r_nil:PA X [] (tRA F Wsh fNil):=paImp pa_nil fun σ H Q ⟨B,ι,ρ,S,r,c⟩=>c.here r [] .nil
theorem r_cons {e:Expr} {es:List Expr} {f:FE} {g:FA} (ha:PE X e (tR F Wsh f)) (hr:PA X es (tRA F Wsh g)) (hs:starEach (e :: es) X.env=(false,eval e X.env) :: starEach es X.env:=by rfl):PA X (e :: es) (tRA F Wsh (fCons f g)) :=
  paImp (pa_cons ha hr hs) fun σ H Q ⟨B,ι,ρ,S,r,c⟩=>by
    refine tR_step r c fun w v S1 ι1 H1 x1 r1 rv c1=>?_
    refine tRA_step r1 c1 fun ws vs S2 ι2 H2 x2 r2 rvs c2=>?_
    exact c2.here r2 _ (.cons (rv.ext x2) rvs)
abbrev OpN:=List W→Sto→R W
def fCall (op:OpN) (f:FA):FE:=fun ρ S=>(f ρ S).bind op
abbrev RN:=List V→Hp→VK→Prop
def OpNOk (F:Fx) (op:OpN) (r:RN):Prop:=∀ (Wsh:WX) (B:List Addr) (ι:Ads) (ρ:Loc) (S:Sto) (σ:L2.St) (H:Hp) (ws:List W) (vs:List V) (Q:VK),Rel F H B ι ρ S σ→RWs F H B ι ws vs →
  Cont F Wsh B ρ σ ι H (op ws S) (fun w _ ι' H'=>∀ v,RW F H' B ι' w v→Q v H')→r vs H Q
theorem many {f:FA} {op:OpN} {r:RN} (o:OpNOk F op r) {σ:L2.St} {H:Hp} {Q:VK} (h:tR F Wsh (fCall op f) σ H Q):(tRA F Wsh f) σ H fun xs H1=>r xs H1 Q:=by
  obtain ⟨B,ι,ρ,S,rl,c⟩:=h
  refine tRA_step rl c fun ws vs S1 ι1 H1 x1 rl1 rx c1=>?_
  exact o Wsh B ι1 ρ S1 σ H1 ws vs Q rl1 rx c1
end
end Ev
namespace Ev
open PySem PySem.Spec L2
section
variable {K:PySem.W.Frag} {cls:Cl} {H:Hp} {ex:List Addr}
theorem reps_paired:∀ {ds:List D} {vs:List V},Reps K cls H ex ds vs→Paired (Rep K cls H ex) ds vs
  | _,_,.nil=>.nil
  | _,_,.cons r t=>.cons r (reps_paired t)
theorem reps_len {ds:List D} {vs:List V} (h:Reps K cls H ex ds vs):ds.length=vs.length:=Paired.length (reps_paired h)
theorem reps_at {ds:List D} {vs:List V} (h:Reps K cls H ex ds vs) {i:Nat} {d:D} (e:ds[i]? = some d):∃ v,vs[i]? = some v∧Rep K cls H ex d v:=pAt (reps_paired h) e
theorem reps_app:∀ {ds es:List D} {vs us:List V},Reps K cls H ex ds vs→Reps K cls H ex es us→Reps K cls H ex (ds ++ es) (vs ++ us)
  | _,_,_,_,.nil,s=>s
  | _,_,_,_,.cons r t,s=>.cons r (reps_app t s)
theorem reps_drop:∀ (n:Nat) {ds:List D} {vs:List V},Reps K cls H ex ds vs→Reps K cls H ex (ds.drop n) (vs.drop n)
  | 0,_,_,h=>by simpa using h
  | n + 1,_,_,.nil=>by simpa using Reps.nil
  | n + 1,_,_,.cons r t=>by simpa using reps_drop n t
theorem reps_take:∀ (n:Nat) {ds:List D} {vs:List V},Reps K cls H ex ds vs→Reps K cls H ex (ds.take n) (vs.take n)
  | 0,_,_,h=>by simpa using Reps.nil
  | n + 1,_,_,.nil=>by simpa using Reps.nil
  | n + 1,_,_,.cons r t=>by simpa using Reps.cons r (reps_take n t)
theorem reps_rev:∀ {ds:List D} {vs:List V},Reps K cls H ex ds vs→Reps K cls H ex ds.reverse vs.reverse
  | _,_,.nil=>.nil
  | _,_,.cons r t=>by simpa using reps_app (reps_rev t) (.cons r .nil)
theorem rep_sqT {ds:List D} {v:V} (h:Rep K cls H ex (.tup ds) v):∃ a vs,v=.ref a∧SqT K H a vs∧Reps K cls H ex ds vs:=by
  cases h with
  | tup n e r=>exact ⟨_,_,rfl,SqT.of e,r⟩
  | tupK h1 h2 h3 h4 h5 r=>exact ⟨_,_,rfl,.inr ⟨_,_,_,h1,h2,h3,h4,h5⟩,r⟩
  | tupF n e r=>exact ⟨_,_,rfl,.inl (.inr ⟨_,e⟩),r⟩
theorem rep_lst {ds:List D} {v:V} (h:Rep K cls H ex (.lst ds) v):∃ a vs,v=.ref a∧H a=some (.lst vs)∧Reps K cls H ex ds vs∧a ∉ ex:=by
  cases h with
  | lst n e r=>exact ⟨_,_,rfl,e,r,n⟩
end
mutual
def toPy:D→PyData
  | .non=>.none | .bl b=>.bool b | .int i=>.int i | .str x=>.str x
  | .tup xs=>.tuple (toPys xs) | .lst xs=>.list (toPys xs)
  | .dct _=>.none | .ins _ _=>.none | .scr _=>.none | .ftp _=>.none | .cls _=>.none | .kdc _=>.none | .exi _ _ _=>.none | .dkf _=>.none
def toPys:List D→List PyData
  | []=>[]
  | x :: xs=>toPy x :: toPys xs
end
mutual
def flatD:D→Bool
  | .non=>true | .bl _=>true | .int _=>true | .str _=>true
  | .tup xs=>flatDs xs | .lst xs=>flatDs xs
  | .dct _=>false | .ins _ _=>false | .scr _=>false | .ftp _=>false | .cls _=>false | .kdc _=>false | .exi _ _ _=>false | .dkf _=>false
def flatDs:List D→Bool
  | []=>true
  | x :: xs=>flatD x && flatDs xs
end
section
variable {K:PySem.W.Frag} {cls:Cl} {H:Hp} {ex:List Addr}
mutual
theorem rep_dp:∀ {d:D} {v:V},flatD d=true→Rep K cls H ex d v→Dp K H v (toPy d)
  | _,_,_,.non=>.non
  | _,_,_,.bl b=>.bl b
  | _,_,_,.int i=>.int i
  | _,_,_,.str i=>.str i
  | .tup ds,_,f,.tup n h r=>.tup (SqT.of h) (reps_dp (by simpa [flatD] using f) r)
  | .tup ds,_,f,.tupK h1 h2 h3 h4 h5 r=>.tup (.inr ⟨_,_,_,h1,h2,h3,h4,h5⟩) (reps_dp (by simpa [flatD] using f) r)
  | .tup ds,_,f,.tupF n h r=>.tup (.inl (.inr ⟨_,h⟩)) (reps_dp (by simpa [flatD] using f) r)
  | _,_,f,.ftp _ _ _ _=>by simp [flatD] at f
  | .lst ds,_,f,.lst n h r=>.lst (SqL.of h) (reps_dp (by simpa [flatD] using f) r)
  | _,_,f,.dK _ _ _=>by simp [flatD] at f
  | _,_,f,.ins _ _ _=>by simp [flatD] at f
  | _,_,f,.cls _=>by simp [flatD] at f
  | _,_,f,.kdc _ _ _=>by simp [flatD] at f
  | _,_,f,.exi _ _ _ _ _=>by simp [flatD] at f
  | _,_,f,.dkf _ _ _=>by simp [flatD] at f
  | _,_,f,.scr _ _ _=>by simp [flatD] at f
  | _,_,f,.scrK _ _ _ _ _ _=>by simp [flatD] at f
theorem reps_dp:∀ {ds:List D} {vs:List V},flatDs ds=true→Reps K cls H ex ds vs→DpAll K H vs (toPys ds)
  | _,_,_,.nil=>.nil
  | _,_,f,.cons r t=>by
    have f':=Bool.and_eq_true_iff.mp (by simpa [flatDs] using f)
    exact .cons (rep_dp f'.1 r) (reps_dp f'.2 t)
end
end
def eqOk (d:D):Bool:=flatD d && SeqAt.shaped (toPy d)
def eqD (a b:D):Bool:=PyData.eqv (toPy a) (toPy b)
def dats:List W→Option (List D)
  | []=>some []
  | .d x :: ws=>(dats ws).map (x :: ·)
  | .ref _ :: _=>none
  | .exc _ _ :: _=>none
  | .fn :: _=>none
def view (S:Sto):W→Option D
  | .d x=>some x
  | .ref i=>match S[i]? with
    | some (.lst ws)=>(dats ws).map .lst
    | _=>none
  | .exc _ _=>none
  | .fn=>none
section
variable {F:Fx} {H:Hp} {B:List Addr} {ι:Ads}
theorem dats_reps:∀ {ws:List W} {vs:List V} {ds:List D},dats ws=some ds→RWs F H B ι ws vs→RDs F H B ι ds vs
  | [],_,ds,e,.nil=>by simp [dats] at e; subst e; exact .nil
  | .d x :: ws,_,ds,e,.cons r t=>by
    simp only [dats,Option.map_eq_some_iff] at e
    obtain ⟨es,e1,rfl⟩:=e
    exact .cons r (dats_reps e1 t)
  | .ref _ :: _,_,_,e,_=>by simp [dats] at e
  | .exc _ _ :: _,_,_,e,_=>by simp [dats] at e
  | .fn :: _,_,_,e,_=>by simp [dats] at e
theorem view_dp {S:Sto} (r:RelS F H B ι S) {w:W} {v:V} {d:D} (rw:RW F H B ι w v) (e:view S w=some d) (f:flatD d=true):Dp F.K H v (toPy d):=by
  cases w with
  | d x=>simp [view] at e; subst e; exact rep_dp f rw
  | exc _ _=>simp [view] at e
  | fn=>simp [view] at e
  | ref i =>
    obtain ⟨p,hp,rfl⟩:=rw
    obtain ⟨o,ho,ro⟩:=r.at_some hp
    simp only [view,ho] at e
    cases o with
    | lst ws =>
      simp only [Option.map_eq_some_iff] at e
      obtain ⟨ds,e1,rfl⟩:=e
      obtain ⟨_,vs,h1,rv⟩:=ro
      exact .lst (SqL.of h1) (reps_dp (by simpa [flatD] using f) (dats_reps e1 rv))
    | tup _=>simp at e
    | kd _=>simp at e
    | dct _=>simp at e
    | drw _ _ _=>simp at e
    | ins _ _=>simp at e
end
def opEq:Op2:=fun x y S=>match x,y with
  | .d (.str a),.d (.str b)=>.ok (.d (.bl (decide (a=b)))) S
  | _,_=>match view S x,view S y with
    | some a,some b=>if eqOk a && eqOk b then .ok (.d (.bl (eqD a b))) S else .err
    | _,_=>.err
def rEqEv (K:PySem.W.Frag):R2:=fun x y H Q=>rEq x y H Q∨rEqD K x y H Q
def opNe:Op2:=fun x y S=>match x,y with
  | .d (.str a),.d (.str b)=>.ok (.d (.bl (!decide (a=b)))) S
  | _,_=>match view S x,view S y with
    | some a,some b=>if eqOk a && eqOk b then .ok (.d (.bl (!eqD a b))) S else .err
    | _,_=>.err
def rNeEv (K:PySem.W.Frag):R2:=fun x y H Q=>rNe x y H Q∨rNeD K x y H Q
section
variable {F:Fx}
theorem ok_eq:OpOk F opEq (rEqEv F.K):=by
  intro Wsh B ι ρ S σ H wx wy x y Q rl rx ry c
  unfold opEq at c
  split at c
  · rename_i a b
    cases rx; cases ry
    refine .inl ⟨rfl,?_⟩
    have e:decide (V.str a=V.str b)=decide (a=b):=by simp
    rw [e]
    exact c.here rl _ (.bl _)
  refine .inr ?_
  split at c
  · rename_i a b ea eb
    split at c
    · rename_i h
      have h1:=Bool.and_eq_true_iff.mp h
      have ha:=Bool.and_eq_true_iff.mp h1.1
      have hb:=Bool.and_eq_true_iff.mp h1.2
      exact ⟨toPy a,toPy b,view_dp rl.toRelS rx ea ha.1,view_dp rl.toRelS ry eb hb.1,ha.2,hb.2,c.here rl _ (.bl _)⟩
    · exact c.elim
  · exact c.elim
theorem ok_ne:OpOk F opNe (rNeEv F.K):=by
  intro Wsh B ι ρ S σ H wx wy x y Q rl rx ry c
  unfold opNe at c
  split at c
  · rename_i a b
    cases rx; cases ry
    refine .inl ⟨rfl,?_⟩
    have e:decide (V.str a=V.str b)=decide (a=b):=by simp
    rw [e]
    exact c.here rl _ (.bl _)
  refine .inr ?_
  split at c
  · rename_i a b ea eb
    split at c
    · rename_i h
      have h1:=Bool.and_eq_true_iff.mp h
      have ha:=Bool.and_eq_true_iff.mp h1.1
      have hb:=Bool.and_eq_true_iff.mp h1.2
      exact ⟨toPy a,toPy b,view_dp rl.toRelS rx ea ha.1,view_dp rl.toRelS ry eb hb.1,ha.2,hb.2,c.here rl _ (.bl _)⟩
    · exact c.elim
  · exact c.elim
def opI (ok:Int→Int→Bool) (g:Int→Int→D):Op2:=fun x y S=>match x,y with
  | .d (.int i),.d (.int j)=>if ok i j then .ok (.d (g i j)) S else .err
  | _,_=>.err
theorem ok_I {C:Int→Int→Prop} {ok:Int→Int→Bool} {g:Int→Int→D} {gv:Int→Int→V} (hC:∀ i j,ok i j=true→C i j) (hg:∀ i j H B ι,RD F H B ι (g i j) (gv i j)):OpOk F (opI ok g) (rI C gv):=by
  intro Wsh B ι ρ S σ H wx wy x y Q rl rx ry c
  unfold opI at c
  split at c
  · rename_i i j
    cases rx; cases ry
    split at c
    · rename_i h
      exact ⟨i,j,rfl,rfl,hC i j h,c.here rl _ (hg i j H B ι)⟩
    · exact c.elim
  · exact c.elim
def opI0 (g:Int→Int→D):Op2:=fun x y S=>match x,y with
  | .d (.int i),.d (.int j)=>.ok (.d (g i j)) S
  | _,_=>.err
theorem ok_I0 {g:Int→Int→D} {gv:Int→Int→V} (hg:∀ i j H B ι,RD F H B ι (g i j) (gv i j)):OpOk F (opI0 g) (rI0 gv):=by
  intro Wsh B ι ρ S σ H wx wy x y Q rl rx ry c
  unfold opI0 at c
  split at c
  · rename_i i j
    cases rx; cases ry
    exact ⟨i,j,rfl,rfl,c.here rl _ (hg i j H B ι)⟩
  · exact c.elim
end
end Ev
namespace Ev
open PySem PySem.Spec L2
section
variable {X:Cx} {F:Fx} {Wsh:WX} {a b e:Expr} {f g:FE} {pos:Pos}
def toB:W→Sto→R Bool
  | .d (.bl b),S=>.ok b S
  | _,_=>.err
def toT (f:FE):FT:=fun ρ S=>(f ρ S).bind toB
theorem toB_ok {ι:Ads} {ρ:Loc} {σ:L2.St} {H:Hp} {B:List Addr} {w:W} {v:V} {S:Sto} {Q:Bool→Hp→Prop} (rl:Rel F H B ι ρ S σ) (rv:RW F H B ι w v) (c:Cont F Wsh B ρ σ ι H (toB w S) fun b _ _ H'=>Q b H'):∃ k,v=.bl k∧Q k H:=by
  unfold toB at c
  split at c
  · cases rv
    exact ⟨_,rfl,c.here rl⟩
  · exact c.elim
theorem test_of {σ:L2.St} {H:Hp} {Q:Bool→Hp→Prop} (h:tRT F Wsh (toT f) σ H Q):tR F Wsh f σ H fun x H'=>∃ k,x=.bl k∧Q k H':=by
  obtain ⟨B,ι,ρ,S,rl,c⟩:=h
  exact tR_step rl c fun w v S1 ι1 H1 x1 rl1 rv c1=>toB_ok rl1 rv c1
theorem r_test (h:PE X e (tR F Wsh f)) (he:∀ whole,isTrue e X.env whole=(do let v ← whole; standAt e.pos; holding [v] (truthy v)):=by intro _; rfl):PT X e (tRT F Wsh (toT f)) :=
  ptImp (pt_val h he) fun σ H Q q=>test_of q
theorem r_cmp {op:CmpOp} {r:R2} {o:Op2} (ho:OpR X (compareOp op) r) (ok:OpOk F o r) (ha:PE X a (tR F Wsh f)) (hb:PE X b (tR F Wsh g)) (hm:behindInMarks op b=false):PE X (.Compare a [op] [b] pos) (tR F Wsh (fBin o f g)) :=
  peImp (pe_cmpR ho ha hb hm) fun σ H Q h=>two ok h
theorem r_cmpT {op:CmpOp} {r:R2} {o:Op2} (ho:OpR X (compareOp op) r) (ok:OpOk F o r) (ha:PE X a (tR F Wsh f)) (hb:PE X b (tR F Wsh g)) (hm:behindInMarks op b=false):PT X (.Compare a [op] [b] pos) (tRT F Wsh (toT (fBin o f g))) :=
  ptImp (pt_cmpR ho ha hb hm) fun σ H Q h=>two ok (test_of h)
def fChain (o o':Op2) (f g h:FE):FE:=fun ρ S=>(f ρ S).bind fun x S1=>(g ρ S1).bind fun y S2=>(o x y S2).bind fun z S3=>(toB z S3).bind fun k S4 =>
  if k=true then (h ρ S4).bind fun u S5=>o' y u S5 else .ok (.d (.bl false)) S4
def BoolOp2 (o:Op2):Prop:=∀ x y S,o x y S=.err∨∃ k,o x y S=.ok (.d (.bl k)) S
theorem chain_of {r r':R2} {o o':Op2} {h:FE} (bo:BoolOp2 o) (ok:OpOk F o r) (ok':OpOk F o' r') {σ:L2.St} {H:Hp} {Q:VK} (q:tR F Wsh (fChain o o' f g h) σ H Q) :
    tChain r r' (tR F Wsh f) (tR F Wsh g) (tR F Wsh h) σ H Q:=by
  obtain ⟨B,ι,ρ,S,rl,c⟩:=q
  refine tR_step rl c fun wx x S1 ι1 H1 x1 rl1 rx c1=>?_
  refine tR_step rl1 c1 fun wy y S2 ι2 H2 x2 rl2 ry c2=>?_
  rcases bo wx wy S2 with e | ⟨k,e⟩
  · rw [e] at c2
    exact (show False from c2).elim
  refine ok Wsh B ι2 ρ S2 σ H2 wx wy x y _ rl2 (rx.ext x2) ry ?_
  rw [e] at c2 ⊢
  intro ι3 H3 x3 rl3 v rv
  cases rv
  refine ⟨k,rfl,?_⟩
  have c3:Cont F Wsh B ρ σ ι3 H3 (if k=true then (h ρ S2).bind fun u S5=>o' wy u S5 else .ok (.d (.bl false)) S2) (fun w _ ι' H'=>∀ v,RW F H' B ι' w v→Q v H'):=Cont.ext c2 x3
  split
  · rename_i hk
    rw [if_pos hk] at c3
    refine tR_step rl3 c3 fun wu u S4 ι4 H4 x4 rl4 ru c4=>?_
    exact ok' Wsh B ι4 ρ S4 σ H4 wy wu y u Q rl4 ((ry.ext x3).ext x4) ru c4
  · rename_i hk
    rw [if_neg hk] at c3
    exact c3.here rl3 _ (.bl false)
theorem r_chain {op op':CmpOp} {r r':R2} {o o':Op2} {h:FE} {c:Expr} (bo:BoolOp2 o) (ho:OpR X (compareOp op) r) (ok:OpOk F o r) (ho':OpR X (compareOp op') r') (ok':OpOk F o' r') (ha:PE X a (tR F Wsh f)) (hb:PE X b (tR F Wsh g)) (hc:PE X c (tR F Wsh h))
    (hm:lastMarks [op,op'] [b,c]=false:=by with_unfolding_all rfl):PE X (.Compare a [op,op'] [b,c] pos) (tR F Wsh (fChain o o' f g h)) :=
  peImp (pe_chain ho ho' ha hb hc hm) fun σ H Q q=>chain_of bo ok ok' q
def bAnd (f g:FT):FT:=fun ρ S=>(f ρ S).bind fun k S1=>if k=true then g ρ S1 else .ok false S1
def bOr (f g:FT):FT:=fun ρ S=>(f ρ S).bind fun k S1=>if k=true then .ok true S1 else g ρ S1
def bNot (f:FT):FT:=fun ρ S=>(f ρ S).bind fun k S1=>.ok (!k) S1
variable {tf tg:FT} {rest:List Expr}
theorem pwImp {t t':TT} (h:PW X e t) (f:∀ σ H Q,t' σ H Q→t σ H Q):PW X e t':=⟨fun wh pins s σ H Q I q=>h.run wh pins s σ H Q I (f σ H Q q)⟩
theorem r_and (ha:PT X a (tRT F Wsh tf)) (hb:PW X (.BoolOp .And (b :: rest) pos) (tRT F Wsh tg)):PW X (.BoolOp .And (a :: b :: rest) pos) (tRT F Wsh (bAnd tf tg)) :=
  pwImp (pw_and ha hb) fun σ H Q ⟨B,ι,ρ,S,rl,c⟩=>by
    refine tRT_step rl c fun k S1 ι1 H1 x1 rl1 c1=>?_
    split
    · rename_i hk
      rw [if_pos hk] at c1
      exact ⟨B,ι1,ρ,S1,rl1,c1⟩
    · rename_i hk
      rw [if_neg hk] at c1
      exact c1.here rl1
theorem r_or (ha:PT X a (tRT F Wsh tf)) (hb:PW X (.BoolOp .Or (b :: rest) pos) (tRT F Wsh tg)):PW X (.BoolOp .Or (a :: b :: rest) pos) (tRT F Wsh (bOr tf tg)) :=
  pwImp (pw_or ha hb) fun σ H Q ⟨B,ι,ρ,S,rl,c⟩=>by
    refine tRT_step rl c fun k S1 ι1 H1 x1 rl1 c1=>?_
    split
    · rename_i hk
      rw [if_pos hk] at c1
      exact c1.here rl1
    · rename_i hk
      rw [if_neg hk] at c1
      exact ⟨B,ι1,ρ,S1,rl1,c1⟩
theorem r_not (ha:PT X a (tRT F Wsh tf)):PT X (.UnaryOp .Not a pos) (tRT F Wsh (bNot tf)) :=
  ptImp (pt_not ha) fun σ H Q ⟨B,ι,ρ,S,rl,c⟩=>tRT_step rl c fun k S1 ι1 H1 x1 rl1 c1=>c1.here rl1
def eAnd (f g:FE):FE:=fun ρ S=>(f ρ S).bind fun w S1=>(toB w S1).bind fun k S2=>if k=true then g ρ S2 else .ok (.d (.bl false)) S2
def eOr (f g:FE):FE:=fun ρ S=>(f ρ S).bind fun w S1=>(toB w S1).bind fun k S2=>if k=true then .ok (.d (.bl true)) S2 else g ρ S2
def eNot (f:FE):FE:=fun ρ S=>(f ρ S).bind fun w S1=>(toB w S1).bind fun k S2=>.ok (.d (.bl (!k))) S2
theorem toB_inv {β:Type} {ι:Ads} {ρ:Loc} {σ:L2.St} {H:Hp} {B:List Addr} {w:W} {v:V} {S:Sto} {h:Bool→Sto→R β} {Q:β→Sto→Ads→Hp→Prop} (rv:RW F H B ι w v) (c:Cont F Wsh B ρ σ ι H ((toB w S).bind h) Q):∃ k,v=.bl k∧Cont F Wsh B ρ σ ι H (h k S) Q:=by
  unfold toB at c
  split at c
  · cases rv
    exact ⟨_,rfl,c⟩
  · exact (show False from c).elim
theorem r_eand (ha:PE X a (tR F Wsh f)) (hb:PE X (.BoolOp .And (b :: rest) pos) (tR F Wsh g)):PE X (.BoolOp .And (a :: b :: rest) pos) (tR F Wsh (eAnd f g)) :=
  peImp (pe_and ha hb) fun σ H Q ⟨B,ι,ρ,S,rl,c⟩=>by
    refine tR_step rl c fun w v S1 ι1 H1 x1 rl1 rv c1=>?_
    obtain ⟨k,e,c2⟩:=toB_inv rv c1
    refine ⟨k,e,?_⟩
    split
    · rename_i hk
      rw [if_pos hk] at c2
      exact ⟨B,ι1,ρ,S1,rl1,c2⟩
    · rename_i hk
      rw [if_neg hk] at c2
      exact c2.here rl1 _ (.bl _)
theorem r_enot (ha:PE X a (tR F Wsh f)):PE X (.UnaryOp .Not a pos) (tR F Wsh (eNot f)) :=
  peImp (pe_not ha) fun σ H Q ⟨B,ι,ρ,S,rl,c⟩=>by
    refine tR_step rl c fun w v S1 ι1 H1 x1 rl1 rv c1=>?_
    obtain ⟨k,e,c2⟩:=toB_inv rv c1
    exact ⟨k,e,c2.here rl1 _ (.bl _)⟩
def eIf (t:FT) (f g:FE):FE:=fun ρ S=>(t ρ S).bind fun k S1=>if k=true then f ρ S1 else g ρ S1
theorem r_if {c:Expr} (hc:PT X c (tRT F Wsh tf)) (ha:PE X a (tR F Wsh f)) (hb:PE X b (tR F Wsh g)):PE X (.IfExp c a b pos) (tR F Wsh (eIf tf f g)) :=
  peImp (pe_ifExp hc ha hb) fun σ H Q ⟨B,ι,ρ,S,rl,c⟩=>by
    refine tRT_step rl c fun k S1 ι1 H1 x1 rl1 c1=>?_
    split
    · rename_i hk
      rw [if_pos hk] at c1
      exact ⟨B,ι1,ρ,S1,rl1,c1⟩
    · rename_i hk
      rw [if_neg hk] at c1
      exact ⟨B,ι1,ρ,S1,rl1,c1⟩
end
section
variable {F:Fx}
def opLt:Op2:=opI0 fun i j=>.bl (decide (i < j))
def opLe:Op2:=opI0 fun i j=>.bl (decide (i≤j))
def opGt:Op2:=opI0 fun i j=>.bl (decide (j < i))
def opGe:Op2:=opI0 fun i j=>.bl (decide (j≤i))
theorem ok_le:OpOk F opLe (rI0 fun i j=>.bl (decide (i≤j))):=ok_I0 fun _ _ _ _ _=>.bl _
theorem ok_gt:OpOk F opGt (rI0 fun i j=>.bl (decide (j < i))):=ok_I0 fun _ _ _ _ _=>.bl _
theorem ok_ge:OpOk F opGe (rI0 fun i j=>.bl (decide (j≤i))):=ok_I0 fun _ _ _ _ _=>.bl _
theorem bo_I0 {g:Int→Int→Bool}:BoolOp2 (opI0 fun i j=>.bl (g i j)):=fun x y S=>by
  unfold opI0
  split
  · exact .inr ⟨_,rfl⟩
  · exact .inl rfl
def opSub:Op2:=opI0 fun i j=>.int (i - j)
theorem ok_sub:OpOk F opSub (rI0 fun i j=>.int (i - j)):=ok_I0 fun _ _ _ _ _=>.int _
def opFDiv:Op2:=opI (fun _ j=>decide (j ≠ 0∧j.natAbs < 1073741824)) fun i j=>.int (i.fdiv j)
theorem ok_fdiv:OpOk F opFDiv (rI CDivN fun i j=>.int (i.fdiv j)):=ok_I (fun _ j h=>(of_decide_eq_true h:j ≠ 0∧j.natAbs < 1073741824)) fun _ _ _ _ _=>.int _
def opMod:Op2:=opI (fun _ j=>decide (j ≠ 0)) fun i j=>.int (i.fmod j)
theorem ok_mod:OpOk F opMod (rI (fun _ j=>j ≠ 0) fun i j=>.int (i.fmod j)):=ok_I (fun _ _ h=>of_decide_eq_true h) fun _ _ _ _ _=>.int _
def opPow:Op2:=opI (fun i j=>decide (0≤j∧j≤1000000∧i.natAbs < 2 ^ 64)) fun i j=>.int (i ^ j.toNat)
theorem ok_pow:OpOk F opPow (rI CPow fun i j=>.int (i ^ j.toNat)):=ok_I (fun i j h=>(of_decide_eq_true h:0≤j∧j≤1000000∧i.natAbs < 2 ^ 64)) fun _ _ _ _ _=>.int _
def inD:D→D→Option Bool
  | .str a,.str z=>match a.cps.toList with
    | [c]=>some (decide (c∈z.cps.toList))
    | _=>none
  | x,.lst ys=>if eqOk x && eqOk (.lst ys) then some (ys.any fun y=>eqD y x) else none
  | _,_=>none
def opIn:Op2:=fun x y S=>match view S x,view S y with
  | some a,some b=>match inD a b with
    | some k=>.ok (.d (.bl k)) S
    | none=>.err
  | _,_=>.err
def rInEv (K:PySem.W.Frag):R2:=fun x y H Q=>(∃ (c:Nat) (z:Str),x=.str ⟨#[c]⟩∧y=.str z∧Q (.bl (decide (c∈z.cps.toList))) H)∨rInD K x y H Q
theorem view_str {S:Sto} {w:W} {x:Str} (e:view S w=some (.str x)):w=.d (.str x):=by
  cases w with
  | d y=>simp [view] at e; rw [e]
  | exc _ _=>simp [view] at e
  | fn=>simp [view] at e
  | ref i =>
    simp only [view] at e
    split at e
    · simp at e
    · simp at e
theorem any_toPys (x:D):∀ ys:List D,(toPys ys).any (fun z=>PyData.eqv z (toPy x))=ys.any fun y=>eqD y x
  | []=>rfl
  | y :: ys=>by
    show (PyData.eqv (toPy y) (toPy x) || (toPys ys).any _)=(eqD y x || _)
    rw [any_toPys x ys]
    rfl
theorem one_sign {a:Str} {c:Nat} (h:a.cps.toList=[c]):a=⟨#[c]⟩:=by
  obtain ⟨arr⟩:=a
  obtain ⟨l⟩:=arr
  simp at h
  subst h
  rfl
theorem in_cases {S:Sto} {H:Hp} {B:List Addr} {ι:Ads} {wx wy:W} {x y:V} {a b:D} {k:Bool} (rl:RelS F H B ι S) (rx:RW F H B ι wx x) (ry:RW F H B ι wy y) (ea:view S wx=some a) (eb:view S wy=some b) (e:inD a b=some k) :
    (∃ (c:Nat) (z:Str),x=.str ⟨#[c]⟩∧y=.str z∧k=decide (c∈z.cps.toList)) ∨
    ∃ d ds,Dp F.K H x d∧Dp F.K H y (.list ds)∧SeqAt.shaped d=true∧SeqAt.shaped (.list ds)=true∧k=ds.any fun z=>PyData.eqv z d:=by
  unfold inD at e
  split at e
  · rename_i a z
    have h1:=view_str ea
    have h2:=view_str eb
    subst h1; subst h2
    cases rx; cases ry
    split at e
    · rename_i c hc
      rw [one_sign hc]
      exact .inl ⟨c,z,rfl,rfl,(Option.some.inj e).symm⟩
    · cases e
  · rename_i x1 ys
    split at e
    · rename_i h
      have h1:=Bool.and_eq_true_iff.mp h
      have ha:=Bool.and_eq_true_iff.mp h1.1
      have hb:=Bool.and_eq_true_iff.mp h1.2
      refine .inr ⟨toPy a,toPys ys,view_dp rl rx ea ha.1,view_dp rl ry eb hb.1,ha.2,hb.2,?_⟩
      rw [any_toPys]
      exact (Option.some.inj e).symm
    · cases e
  · cases e
theorem ok_in:OpOk F opIn (rInEv F.K):=by
  intro Wsh B ι ρ S σ H wx wy x y Q rl rx ry c
  unfold opIn at c
  split at c
  · rename_i a b ea eb
    split at c
    · rename_i k hk
      rcases in_cases rl.toRelS rx ry ea eb hk with ⟨cc,z,e1,e2,rfl⟩ | ⟨d,ds,h1,h2,h3,h4,rfl⟩
      · exact .inl ⟨cc,z,e1,e2,c.here rl _ (.bl _)⟩
      · exact .inr ⟨d,ds,h1,h2,h3,h4,c.here rl _ (.bl _)⟩
    · exact c.elim
  · exact c.elim
theorem or_in {X:Cx} (hu:X.A.units + 65 < cLine) (hK:X.K=F.K):OpR X (compareOp .In) (rInEv F.K):=by rw [← hK]; exact OpR.or op_in_sign (op_inD hu)
end
end Ev
namespace Ev
open PySem PySem.Spec L2
section
variable {F:Fx}
theorem new_tup {H:Hp} {B:List Addr} {ι:Ads} {ρ:Loc} {S:Sto} {σ:L2.St} (rl:Rel F H B ι ρ S σ) {ds:List D} {vs:List V} (r:RDs F H B ι ds vs) {p:Addr} (hp:H p=none):RD F (upd H p (.tup vs)) B ι (.tup ds) (.ref p) :=
  .tup (rl.fresh hp) upd_same (r.ext (Ext.new hp))
theorem new_lst {H:Hp} {B:List Addr} {ι:Ads} {ρ:Loc} {S:Sto} {σ:L2.St} (rl:Rel F H B ι ρ S σ) {ds:List D} {vs:List V} (r:RDs F H B ι ds vs) {p:Addr} (hp:H p=none):RD F (upd H p (.lst vs)) B ι (.lst ds) (.ref p) :=
  .lst (rl.fresh hp) upd_same (r.ext (Ext.new hp))
def opAdd:Op2:=fun x y S=>match x,y with
  | .d (.int i),.d (.int j)=>.ok (.d (.int (i + j))) S
  | .d (.str a),.d (.str b)=>if a.length + b.length≤sizeLine then .ok (.d (.str (a ++ b))) S else .err
  | .d (.tup xs),.d (.tup ys)=>if xs.length + ys.length≤sizeLine then .ok (.d (.tup (xs ++ ys))) S else .err
  | .d (.lst xs),.d (.lst ys)=>if xs.length + ys.length≤sizeLine then .ok (.d (.lst (xs ++ ys))) S else .err
  | _,_=>.err
def rAddEv (K:PySem.W.Frag):R2:=fun x y H Q=>(rI0 (fun i j=>.int (i + j))) x y H Q∨(∃ i j,x=.str i∧y=.str j∧i.length + j.length≤sizeLine∧Q (.str (i ++ j)) H)∨rCatA K x y H Q∨rCat x y H Q
theorem ok_add:OpOk F opAdd (rAddEv F.K):=by
  intro Wsh B ι ρ S σ H wx wy x y Q rl rx ry c
  unfold opAdd at c
  split at c
  · cases rx; cases ry
    exact .inl ⟨_,_,rfl,rfl,c.here rl _ (.int _)⟩
  · cases rx; cases ry
    split at c
    · rename_i h
      exact .inr (.inl ⟨_,_,rfl,rfl,h,c.here rl _ (.str _)⟩)
    · exact c.elim
  · rename_i xs ys
    split at c
    · rename_i h
      obtain ⟨a,vs,rfl,h1,r1⟩:=rep_sqT rx
      obtain ⟨b,us,rfl,h2,r2⟩:=rep_sqT ry
      refine .inr (.inr (.inl ⟨a,b,vs,us,rfl,rfl,h1,h2,by rw [← reps_len r1,← reps_len r2]; exact h,fun e=>?_,fun e e2=>?_,fun _ _ p hp=>?_⟩))
      · have:xs=[]:=List.length_eq_zero_iff.mp (by rw [reps_len r1,e]; rfl)
        subst this
        exact c.here rl _ (by simpa using ry)
      · have:ys=[]:=List.length_eq_zero_iff.mp (by rw [reps_len r2,e2]; rfl)
        subst this
        exact c.here rl _ (by simpa using rx)
      · exact c ι _ (Ext.new hp) (rl.new hp) _ (new_tup rl (reps_app r1 r2) hp)
    · exact c.elim
  · split at c
    · rename_i h
      obtain ⟨a,vs,rfl,h1,r1,_⟩:=rep_lst rx
      obtain ⟨b,us,rfl,h2,r2,_⟩:=rep_lst ry
      exact .inr (.inr (.inr ⟨a,b,vs,us,rfl,rfl,h1,h2,by rw [← reps_len r1,← reps_len r2]; exact h,fun p hp=>c ι _ (Ext.new hp) (rl.new hp) _ (new_lst rl (reps_app r1 r2) hp)⟩))
    · exact c.elim
  · exact c.elim
theorem or_add {X:Cx} (hK:X.K=F.K):OpR X (binaryOp .Add) (rAddEv F.K):=by rw [← hK]; exact OpR.or op_add (OpR.or op_add_str (OpR.or op_catA op_cat))
def mulOk (i j:Int):Bool:=decide ((-(2 ^ 64) < i∧i < 2 ^ 64)∨(-(2 ^ 64) < j∧j < 2 ^ 64))
theorem mulOk_of {i j:Int} (h:mulOk i j=true):CMul i j:=(of_decide_eq_true h:(-(2 ^ 64) < i∧i < 2 ^ 64)∨(-(2 ^ 64) < j∧j < 2 ^ 64))
def repStr (x:Str) (n:Nat):Str:=⟨(List.replicate n x.cps.toList).flatten.toArray⟩
def opMul:Op2:=fun x y S=>match x,y with
  | .d (.int i),.d (.int j)=>if mulOk i j then .ok (.d (.int (i * j))) S else .err
  | .d (.str a),.d (.int j)=>if decide (2≤j∧j≤1000) && decide (a.length≤1000) then .ok (.d (.str (repStr a j.toNat))) S else .err
  | .d (.tup xs),.d (.int j)=>if decide (2≤j∧j≤1000) && decide (1≤xs.length∧xs.length≤1000) then .ok (.d (.tup (List.replicate j.toNat xs).flatten)) S
      else if decide (j=1) then .ok (.d (.tup xs)) S else .err
  | _,_=>.err
def rMulS:R2:=fun x y H Q=>∃ a j,x=.str a∧y=.int j∧(2≤j∧j≤1000)∧a.length≤1000∧Q (.str (repStr a j.toNat)) H
theorem foldl_cps (x:Array Nat):∀ (n:Nat) (acc:Array Nat),(List.replicate n x).foldl (· ++ ·) acc=acc ++ (List.replicate n x.toList).flatten.toArray
  | 0,acc=>by simp
  | n + 1,acc=>by
    rw [List.replicate_succ,List.foldl_cons,foldl_cps x n,List.replicate_succ,List.flatten_cons,Array.append_assoc]
    congr 1
    simp
theorem rep_len {α:Type} (l:List α):∀ n:Nat,((List.replicate n l).flatten).length=n * l.length
  | 0=>by simp
  | n + 1=>by rw [List.replicate_succ,List.flatten_cons,List.length_append,rep_len l n,Nat.succ_mul,Nat.add_comm]
theorem or_mulS {X:Cx}:OpR X (binaryOp .Mult) rMulS:=by
  intro pins s σ H x y v u Q I rx ry h
  obtain ⟨a,j,rfl,rfl,⟨h1,h2⟩,h4,q⟩:=h
  obtain ⟨t,rfl⟩:=rx
  obtain ⟨t',rfl⟩:=ry
  have hz:a.length * j.toNat≤1000 * 1000:=Nat.mul_le_mul h4 (by omega)
  refine PySem.P.mul_str (by
      have z1:decide (j < -(2 ^ 63:Int))=false:=decide_eq_false (by omega)
      have z2:decide (j ≥ (2 ^ 63:Int))=false:=decide_eq_false (by omega)
      rw [z1,z2]
      rfl) (fun _ _=>?_) (fun _ _=>?_) ?_
  · intro z
    have e:(1000:Int)≤(2 ^ 63 - 1) / j:=(Int.le_ediv_iff_mul_le (by omega)).mpr (by omega)
    omega
  · unfold Builtin.Str.tooLong
    rw [sizeLine_eq]
    exact decide_eq_false (by omega)
  · by_cases h3:1≤a.length
    case neg =>
      have ha:a.cps = #[]:=Array.eq_empty_of_size_eq_zero (show a.cps.size=0 by have:a.length=a.cps.size:=rfl; omega)
      have ea:repStr a j.toNat=a:=by
        cases a
        simp only at ha
        subst ha
        unfold repStr
        simp
      rw [if_neg (by omega),if_pos (by
          have e2:(a.length == 0)=true:=by simp; omega
          simp [e2])]
      exact ⟨.str a,H,I,⟨_,rfl⟩,by rw [ea] at q; exact q⟩
    rw [if_neg (by omega),if_neg (by
      have e1:(j == 1)=false:=by simp; omega
      have e2:(a.length == 0)=false:=by simp; omega
      simp [e1,e2])]
    have e:(⟨(List.replicate j.toNat a.cps).foldl (· ++ ·) #[]⟩:Str)=repStr a j.toNat:=by
      unfold repStr
      rw [foldl_cps]
      simp
    rw [e]
    have hz2:(repStr a j.toNat).length≤sizeLine:=by
      have z:(repStr a j.toNat).length=j.toNat * a.length:=by
        show ((List.replicate j.toNat a.cps.toList).flatten.toArray).size=_
        rw [List.size_toArray]
        exact rep_len _ _
      rw [z,sizeLine_eq,Nat.mul_comm]
      omega
    dsimp only [Made.post]
    exact ⟨hz2,.str (repStr a j.toNat),H,I.tok _,⟨_,rfl⟩,q⟩
theorem reps_flat {H:Hp} {B:List Addr} {ι:Ads} {ds:List D} {vs:List V} (r:RDs F H B ι ds vs):∀ n:Nat,RDs F H B ι (List.replicate n ds).flatten (List.replicate n vs).flatten
  | 0=>.nil
  | n + 1=>by
    rw [List.replicate_succ,List.replicate_succ,List.flatten_cons,List.flatten_cons]
    exact reps_app r (reps_flat r n)
theorem tuple_mul1 (l:Addr) (items:Array Value) (n:Nat) (dd:Option Addr) (sl:Array (Option Value)) (u:Tok) :
    Meets (Builtin.«tuple.__mul__» ⟨[.ref l,.int 1 u],[]⟩) (fun _ R s=>s.heap.get? l=some { cls:=.type "tuple",dict:=dd,data:=.seq items n,slots:=sl }∧R (.ok (.ret (Value.ref l))) s) :=
  .of_wp fun prog w A R s h=>by
    obtain ⟨hp,g,d,tk,os⟩:=s
    obtain ⟨hl,h⟩:=h
    have f1:=AutoSeq1.idx_int
    wp_walk using AutoSeq1.wpAny_loadPart' hl
    exact ⟨_,rfl,h⟩
def rRepT1 (K:PySem.W.Frag):R2:=fun x y H Q=>∃ l xs,x=.ref l∧y=.int 1∧SqT K H l xs∧Q (.ref l) H
theorem op_repT1 {X:Cx}:OpR X (binaryOp .Mult) (rRepT1 X.K):=by
  intro pins s σ H x y v u Q I rx ry h
  obtain ⟨l,xs,rfl,rfl,hT,q⟩:=h
  cases rx
  obtain ⟨t,rfl⟩:=ry
  obtain ⟨its,r,⟨⟨cls,dd,data,sl⟩,ho,hc,n,hd⟩,hs⟩:=I.tuple hT
  simp only at hc hd
  subst hc hd
  refine wpAny_binaryOp_repeat_ref (T:="tuple") (U:="int") (by decide) ⟨_,ho,rfl⟩ (fun s'=>typeIs_int s' 1 t) noFill_tuple_mul F.fills_int_mul F.slot_int_rmul repeat_tuple F.slot_int_index.lookup
    (call_meets F.slot_int_rmul (typeIs_int s 1 t) F.entry_int_rmul (F.args_int_rmul_2 _ _) (int_rmul_tuple 1 t l its.toArray n dd sl)
      ⟨ho,rfl,⟨_,ho,rfl⟩,call_meets F.slot_tuple_mul ⟨_,ho,rfl⟩ F.entry_tuple_mul (F.args_tuple_mul_2 _ _) (tuple_mul1 l its.toArray n dd sl t) ⟨ho,?_⟩⟩)
  exact ⟨.ref l,H,I,rfl,q⟩
def rMulEv (K:PySem.W.Frag):R2:=fun x y H Q=>rI CMul (fun i j=>.int (i * j)) x y H Q∨rMulS x y H Q∨rRepT K x y H Q∨rRepT1 K x y H Q
theorem ok_mul:OpOk F opMul (rMulEv F.K):=by
  intro Wsh B ι ρ S σ H wx wy x y Q rl rx ry c
  unfold opMul at c
  split at c
  · cases rx; cases ry
    split at c
    · rename_i h
      exact .inl ⟨_,_,rfl,rfl,mulOk_of h,c.here rl _ (.int _)⟩
    · exact c.elim
  · cases rx; cases ry
    split at c
    · rename_i h
      have h1:=Bool.and_eq_true_iff.mp h
      exact .inr (.inl ⟨_,_,rfl,rfl,of_decide_eq_true h1.1,of_decide_eq_true h1.2,c.here rl _ (.str _)⟩)
    · exact c.elim
  · cases ry
    split at c
    · rename_i h
      have h1:=Bool.and_eq_true_iff.mp h
      have h2:=of_decide_eq_true h1.1
      have h3:=of_decide_eq_true h1.2
      obtain ⟨a,vs,rfl,hq,r1⟩:=rep_sqT rx
      have hl:=reps_len r1
      refine .inr (.inr (.inl ⟨a,_,vs,rfl,rfl,hq,?_,h2.1,h2.2,by omega,fun p hp=>c ι _ (Ext.new hp) (rl.new hp) _ (new_tup rl (reps_flat r1 _) hp)⟩))
      intro e
      rw [e] at hl
      simp at hl
      rw [hl] at h3
      simp at h3
    · split at c
      · rename_i h1
        have h1:=of_decide_eq_true h1
        subst h1
        obtain ⟨a,vs,rfl,hq,r1⟩:=rep_sqT rx
        exact .inr (.inr (.inr ⟨a,vs,rfl,rfl,hq,c.here rl _ rx⟩))
      · exact c.elim
  · exact c.elim
theorem or_mul {X:Cx} (hK:X.K=F.K):OpR X (binaryOp .Mult) (rMulEv F.K):=by rw [← hK]; exact OpR.or op_mul (OpR.or or_mulS (OpR.or op_repT op_repT1))
def opIx:Op2:=fun x y S=>match view S x,y with
  | some (.lst xs),.d (.int i)=>match atI xs i with
    | some d=>.ok (.d d) S
    | none=>.err
  | some (.tup xs),.d (.int i)=>match atI xs i with
    | some d=>.ok (.d d) S
    | none=>.err
  | some (.str z),.d (.int i)=>if z.length≤sizeLine then (match atI z.cps.toList i with
    | some c=>.ok (.d (.str ⟨#[c]⟩)) S
    | none=>.err) else .err
  | _,_=>.err
theorem reps_atI {H:Hp} {B:List Addr} {ι:Ads} {ds:List D} {vs:List V} (r:RDs F H B ι ds vs) {i:Int} {d:D} (e:atI ds i=some d):∃ v,atI vs i=some v∧RD F H B ι d v:=by
  unfold atI at e ⊢
  rw [← reps_len r]
  cases q:ixN ds.length i with
  | none=>rw [q] at e; cases e
  | some j =>
    rw [q] at e
    exact reps_at r e
theorem view_lst {S:Sto} {H:Hp} {B:List Addr} {ι:Ads} {w:W} {v:V} {ds:List D} (rl:RelS F H B ι S) (r:RW F H B ι w v) (e:view S w=some (.lst ds)):∃ a vs,v=.ref a∧H a=some (.lst vs)∧RDs F H B ι ds vs:=by
  cases w with
  | d x =>
    simp [view] at e
    subst e
    obtain ⟨a,vs,h1,h2,h3,_⟩:=rep_lst r
    exact ⟨a,vs,h1,h2,h3⟩
  | exc _ _=>simp [view] at e
  | fn=>simp [view] at e
  | ref i =>
    obtain ⟨p,hp,rfl⟩:=r
    obtain ⟨o,ho,ro⟩:=rl.at_some hp
    simp only [view,ho] at e
    cases o with
    | lst ws =>
      simp only [Option.map_eq_some_iff] at e
      obtain ⟨es,e1,e2⟩:=e
      cases e2
      obtain ⟨_,vs,h1,rv⟩:=ro
      exact ⟨_,vs,rfl,h1,dats_reps e1 rv⟩
    | dct _=>simp at e
    | drw _ _ _=>simp at e
    | ins _ _=>simp at e
    | tup _=>simp at e
    | kd _=>simp at e
theorem view_tup {S:Sto} {H:Hp} {B:List Addr} {ι:Ads} {w:W} {v:V} {ds:List D} (rl:RelS F H B ι S) (r:RW F H B ι w v) (e:view S w=some (.tup ds)):∃ a vs,v=.ref a∧SqT F.K H a vs∧RDs F H B ι ds vs:=by
  cases w with
  | d x =>
    simp [view] at e
    subst e
    exact rep_sqT r
  | exc _ _=>simp [view] at e
  | fn=>simp [view] at e
  | ref i =>
    simp only [view] at e
    split at e
    · simp at e
    · simp at e
theorem ok_ix:OpOk F opIx (rIx F.K):=by
  intro Wsh B ι ρ S σ H wx wy x y Q rl rx ry c
  unfold opIx at c
  split at c
  · rename_i xs i e
    split at c
    · rename_i d hd
      obtain ⟨a,vs,rfl,h1,r1⟩:=view_lst rl.toRelS rx e
      obtain ⟨v,h2,r2⟩:=reps_atI r1 hd
      cases ry
      exact .inl ⟨a,vs,_,v,rfl,rfl,SqL.of h1,h2,c.here rl _ r2⟩
    · exact c.elim
  · rename_i xs i e
    split at c
    · rename_i d hd
      obtain ⟨a,vs,rfl,h1,r1⟩:=view_tup rl.toRelS rx e
      obtain ⟨v,h2,r2⟩:=reps_atI r1 hd
      cases ry
      exact .inr (.inl ⟨a,vs,_,v,rfl,rfl,h1,h2,c.here rl _ r2⟩)
    · exact c.elim
  · rename_i z i e
    have h1:=view_str e
    subst h1
    cases rx; cases ry
    split at c
    · rename_i hz
      split at c
      · rename_i cc hc
        exact .inr (.inr ⟨z,_,cc,rfl,rfl,hz,hc,c.here rl _ (.str _)⟩)
      · exact c.elim
    · exact c.elim
  · exact c.elim
section
variable {X:Cx} {Wsh:WX} {a b e:Expr} {f g:FE} {pos:Pos}
theorem r_ix (hK:X.K=F.K) (ha:PE X a (tR F Wsh f)) (hb:PE X b (tR F Wsh g)) (hs:PlainIx b):PE X (.Subscript a b pos) (tR F Wsh (fBin opIx f g)) :=
  peImp (pe_ix (r:=rIx F.K) (by rw [← hK]; exact ix_seq) ha hb hs) fun σ H Q h=>two ok_ix h
abbrev FO:=Loc→Sto→R (Option Int)
def oNone:FO:=fun _ S=>.ok none S
def oSome (f:FE):FO:=fun ρ S=>(f ρ S).bind fun w S1=>match w with
  | .d (.int i)=>.ok (some i) S1
  | _=>.err
def tRO (F:Fx) (Wsh:WX) (f:FO):TO:=fun σ H Q=>∃ B ι ρ S,Rel F H B ι ρ S σ∧Cont F Wsh B ρ σ ι H (f ρ S) fun o _ _ H'=>Q o H'
theorem poImp {o:Option Expr} {t t':TO} (h:PO X o t) (f:∀ σ H Q,t' σ H Q→t σ H Q):PO X o t':=⟨fun pins s σ H Q I q=>h.run pins s σ H Q I (f σ H Q q)⟩
theorem ro_none:PO X none (tRO F Wsh oNone):=poImp po_none fun σ H Q ⟨B,ι,ρ,S,rl,c⟩=>c.here rl
theorem ro_some (h:PE X e (tR F Wsh f)):PO X (some e) (tRO F Wsh (oSome f)):=poImp (po_some h) fun σ H Q ⟨B,ι,ρ,S,rl,c⟩=>by
  refine tR_step rl c fun w v S1 ι1 H1 x1 rl1 rv c1=>?_
  split at c1
  · cases rv
    exact ⟨_,rfl,c1.here rl1⟩
  · exact (show False from c1).elim
def cut {α:Type} (xs:List α) (lo hi:Option Int):List α:=(xs.drop (HT.sIx xs.length 0 lo)).take (HT.sIx xs.length xs.length hi - HT.sIx xs.length 0 lo)
abbrev OpSl:=W→Option Int→Option Int→Sto→R W
def opSl:OpSl:=fun x lo hi S=>match view S x with
  | some (.lst xs)=>.ok (.d (.lst (cut xs lo hi))) S
  | some (.tup xs)=>.ok (.d (.tup (cut xs lo hi))) S
  | some (.str z)=>if z.length≤sizeLine then .ok (.d (.str ⟨(cut z.cps.toList lo hi).toArray⟩)) S else .err
  | _=>.err
def fSl (op:OpSl) (f:FE) (lo hi:FO):FE:=fun ρ S=>(f ρ S).bind fun x S1=>(lo ρ S1).bind fun l S2=>(hi ρ S2).bind fun h S3=>op x l h S3
end
end
end Ev
namespace Ev
open PySem PySem.Spec L2
section
variable {F:Fx} {X:Cx} {Wsh:WX} {a b e:Expr} {es:List Expr} {f g:FE} {fa:FA} {pos p2:Pos}
def rSlEv (K:PySem.W.Frag):V→Option Int→Option Int→Hp→VK→Prop:=fun x lo hi H Q=>rSlL K x lo hi H Q∨rSlA K x lo hi H Q∨rSlS x lo hi H Q
theorem reps_cut {H:Hp} {B:List Addr} {ι:Ads} {ds:List D} {vs:List V} (r:RDs F H B ι ds vs) (lo hi:Option Int):RDs F H B ι (cut ds lo hi) (cutV vs lo hi):=by
  unfold cut cutV
  rw [reps_len r]
  exact reps_take _ (reps_drop _ r)
theorem cut_all {α:Type} (xs:List α) {lo hi:Option Int} (h:HT.sIx xs.length 0 lo=0∧HT.sIx xs.length xs.length hi=xs.length):cut xs lo hi=xs:=by
  unfold cut
  rw [h.1,h.2]
  simp
theorem ok_sl {B:List Addr} {ι:Ads} {ρ:Loc} {S:Sto} {σ:L2.St} {H:Hp} {w:W} {x:V} {lo hi:Option Int} {Q:VK} (rl:Rel F H B ι ρ S σ) (rx:RW F H B ι w x)
    (c:Cont F Wsh B ρ σ ι H (opSl w lo hi S) (fun w _ ι' H'=>∀ v,RW F H' B ι' w v→Q v H')):rSlEv F.K x lo hi H Q:=by
  unfold opSl at c
  split at c
  · rename_i xs e
    obtain ⟨a,vs,rfl,h1,r1⟩:=view_lst rl.toRelS rx e
    exact .inl ⟨a,vs,rfl,SqL.of h1,fun p hp=>c ι _ (Ext.new hp) (rl.new hp) _ (new_lst rl (reps_cut r1 lo hi) hp)⟩
  · rename_i xs e
    obtain ⟨a,vs,rfl,h1,r1⟩:=view_tup rl.toRelS rx e
    refine .inr (.inl ⟨a,vs,rfl,h1,fun h=>?_,fun _ p hp=>c ι _ (Ext.new hp) (rl.new hp) _ (new_tup rl (reps_cut r1 lo hi) hp)⟩)
    refine c.here rl _ ?_
    rw [← reps_len r1] at h
    rw [cut_all xs h]
    cases w with
    | d y=>simp [view] at e; subst e; exact rx
    | exc _ _=>simp [view] at e
    | fn=>simp [view] at e
    | ref i =>
      simp only [view] at e
      split at e <;> simp at e
  · rename_i z e
    have h1:=view_str e
    subst h1
    cases rx
    split at c
    · rename_i hz
      exact .inr (.inr ⟨z,rfl,hz,c.here rl _ (.str _)⟩)
    · exact c.elim
  · exact c.elim
theorem r_sl {lo hi:Option Expr} {fl fh:FO} (hK:X.K=F.K) (ha:PE X a (tR F Wsh f)) (hl:PO X lo (tRO F Wsh fl)) (hh:PO X hi (tRO F Wsh fh)):PE X (.Subscript a (.Slice lo hi none p2) pos) (tR F Wsh (fSl opSl f fl fh)) :=
  peImp (pe_slice (r:=rSlEv F.K) (by rw [← hK]; exact SlR.or sl_list (SlR.or sl_tupA sl_str)) ha hl hh) fun σ H Q ⟨B,ι,ρ,S,rl,c⟩=>by
    refine tR_step rl c fun w v S1 ι1 H1 x1 rl1 rv c1=>?_
    refine ⟨B,ι1,ρ,S1,rl1,c1.bind.mono fun l S2 ι2 H2 _ x2 rl2 c2=>?_⟩
    refine ⟨B,ι2,ρ,S2,rl2,c2.bind.mono fun h S3 ι3 H3 _ x3 rl3 c3=>?_⟩
    exact ok_sl rl3 ((rv.ext x2).ext x3) c3
def fTup (g:FA):FE:=fun ρ S=>(g ρ S).bind fun ws S1=>match dats ws with
  | some ds=>if ds.length≤sizeLine then .ok (.d (.tup ds)) S1 else .err
  | none=>.err
def fLst (g:FA):FE:=fun ρ S=>(g ρ S).bind fun ws S1=>match dats ws with
  | some ds=>if ds.length≤sizeLine then .ok (.d (.lst ds)) S1 else .err
  | none=>.err
theorem r_tup {x1:Nat} (h:PA X es (tRA F Wsh fa)):PE X (.Tuple es x1 pos) (tR F Wsh (fTup fa)):=peImp (pe_tup h) fun σ H Q ⟨B,ι,ρ,S,rl,c⟩=>by
  refine tRA_step rl c fun ws vs S1 ι1 H1 x1 rl1 rv c1=>?_
  split at c1
  · rename_i ds e
    have r:=dats_reps e rv
    split at c1
    · rename_i hz
      exact ⟨by rw [← reps_len r]; exact hz,fun p hp=>c1 ι1 _ (Ext.new hp) (rl1.new hp) _ (new_tup rl1 r hp)⟩
    · exact (show False from c1).elim
  · exact (show False from c1).elim
theorem r_lst (h:PA X es (tRA F Wsh fa)):PE X (.List es pos) (tR F Wsh (fLst fa)):=peImp (pe_lst h) fun σ H Q ⟨B,ι,ρ,S,rl,c⟩=>by
  refine tRA_step rl c fun ws vs S1 ι1 H1 x1 rl1 rv c1=>?_
  split at c1
  · rename_i ds e
    have r:=dats_reps e rv
    split at c1
    · rename_i hz
      exact ⟨by rw [← reps_len r]; exact hz,fun p hp=>c1 ι1 _ (Ext.new hp) (rl1.new hp) _ (new_lst rl1 r hp)⟩
    · exact (show False from c1).elim
  · exact (show False from c1).elim
def seqD:D→Option (List D)
  | .tup xs=>some xs
  | .lst xs=>some xs
  | _=>none
def seqW (S:Sto) (w:W):Option (List D):=(view S w).bind seqD
theorem seqW_sq {S:Sto} {H:Hp} {B:List Addr} {ι:Ads} {w:W} {v:V} {ds:List D} (rl:RelS F H B ι S) (r:RW F H B ι w v) (e:seqW S w=some ds):∃ a vs,v=.ref a∧(SqL F.K H a vs∨SqT F.K H a vs)∧RDs F H B ι ds vs:=by
  unfold seqW at e
  cases q:view S w with
  | none=>rw [q] at e; cases e
  | some d =>
    rw [q] at e
    cases d with
    | tup xs =>
      cases e
      obtain ⟨a,vs,h1,h2,h3⟩:=view_tup rl r q
      exact ⟨a,vs,h1,.inr h2,h3⟩
    | lst xs =>
      cases e
      obtain ⟨a,vs,h1,h2,h3⟩:=view_lst rl r q
      exact ⟨a,vs,h1,.inl (SqL.of h2),h3⟩
    | _=>cases e
theorem reps_rws {H:Hp} {B:List Addr} {ι:Ads}:∀ {ds:List D} {vs:List V},RDs F H B ι ds vs→RWs F H B ι (ds.map W.d) vs
  | _,_,.nil=>.nil
  | _,_,.cons r t=>.cons r (reps_rws t)
theorem rws_app {H:Hp} {B:List Addr} {ι:Ads}:∀ {ws zs:List W} {vs us:List V},RWs F H B ι ws vs→RWs F H B ι zs us→RWs F H B ι (ws ++ zs) (vs ++ us)
  | _,_,_,_,.nil,s=>s
  | _,_,_,_,.cons r t,s=>.cons r (rws_app t s)
def fStar (f:FE) (g:FA):FA:=fun ρ S=>(f ρ S).bind fun x S1=>match seqW S1 x with
  | some ds=>(g ρ S1).bind fun xs S2=>.ok (ds.map W.d ++ xs) S2
  | none=>.err
theorem r_star (hK:X.K=F.K) {sp:Pos} (he:PE X e (tR F Wsh f)) (hr:PA X es (tRA F Wsh fa)) (hs:starEach (.Starred e sp :: es) X.env=(true,eval e X.env) :: starEach es X.env:=by rfl):PA X (.Starred e sp :: es) (tRA F Wsh (fStar f fa)) :=
  paImp (StX.pa_star he hr hs) fun σ H Q ⟨B,ι,ρ,S,rl,c⟩=>by
    refine tR_step rl c fun w v S1 ι1 H1 x1 rl1 rv c1=>?_
    split at c1
    · rename_i ds e
      obtain ⟨a,vs,rfl,h1,r1⟩:=seqW_sq rl1.toRelS rv e
      refine ⟨a,vs,rfl,by rw [hK]; exact h1.symm,?_⟩
      refine tRA_step rl1 c1 fun ws us S2 ι2 H2 x2 rl2 ru c2=>?_
      exact c2.here rl2 _ (rws_app (reps_rws (r1.ext x2)) ru)
    · exact (show False from c1).elim
def op1 (h:D→Option D):OpN:=fun ws S=>match ws with
  | [w]=>match view S w with
    | some d=>match h d with
      | some r=>.ok (.d r) S
      | none=>.err
    | none=>.err
  | _=>.err
theorem r_callB {id:String} {x:Str} {p:Pos} {r:RN} {o:OpN} (hc:CallR X (.builtin id) r) (ok:OpNOk F o r) (hg:Gl X x) (hm:X.mg x=none) (hv:bootBuiltins x=some (.builtin id)) (ha:PA X (e :: es) (tRA F Wsh fa)) (hn:x ≠ "__name__":=by decide) (hdb:(x == ("__debug__":Str))=false:=by decide)
    (he:starEach (e :: es) X.env=(false,eval e X.env) :: starEach es X.env:=by rfl) (hpl:(backTo pos (starEach es X.env)).any (·.1)=false:=by rfl):PE X (.Call (.Name x p) (e :: es) [] pos) (tR F Wsh (fCall o fa)) :=
  peImp (pe_callB hc hg hm hv ha hn hdb he hpl) fun σ H Q h=>many ok h
theorem r_callTy {id:String} {x:Str} {p:Pos} {r:RN} {o:OpN} (hc:CallR X (.type id) r) (ok:OpNOk F o r) (hg:Gl X x) (hm:X.mg x=none) (hv:bootBuiltins x=some (.type id)) (ha:PA X (e :: es) (tRA F Wsh fa)) (hn:x ≠ "__name__":=by decide) (hdb:(x == ("__debug__":Str))=false:=by decide)
    (he:starEach (e :: es) X.env=(false,eval e X.env) :: starEach es X.env:=by rfl) (hpl:(backTo pos (starEach es X.env)).any (·.1)=false:=by rfl):PE X (.Call (.Name x p) (e :: es) [] pos) (tR F Wsh (fCall o fa)) :=
  peImp (pe_callTy hc hg hm hv ha hn hdb he hpl) fun σ H Q h=>many ok h
theorem one_arg {H:Hp} {B:List Addr} {ι:Ads} {w:W} {vs:List V} (r:RWs F H B ι [w] vs):∃ v,vs=[v]∧RW F H B ι w v:=by
  cases r with
  | cons a t=>cases t; exact ⟨_,rfl,a⟩
theorem two_args {H:Hp} {B:List Addr} {ι:Ads} {w z:W} {vs:List V} (r:RWs F H B ι [w,z] vs):∃ v u,vs=[v,u]∧RW F H B ι w v∧RW F H B ι z u:=by
  cases r with
  | cons a t=>cases t with
    | cons b t=>cases t; exact ⟨_,_,rfl,a,b⟩
def lenD:D→Option D
  | .str z=>if z.length≤sizeLine then some (.int z.length) else none
  | .tup xs=>some (.int xs.length)
  | .lst xs=>some (.int xs.length)
  | .scr ns=>some (.int ns.length)
  | _=>none
def opLen:OpN:=op1 lenD
def rLenEv (K:PySem.W.Frag):RN:=fun xs H Q=>(∃ p ys,xs=[.ref p]∧(SqL K H p ys∨SqT K H p ys)∧Q (.int ys.length) H)∨∃ z,xs=[.str z]∧z.length≤sizeLine∧Q (.int z.length) H
theorem cr_len (hK:X.K=F.K):CallR X (.builtin "len") (rLenEv F.K):=by rw [← hK]; exact CallR.or call_len_seq call_len_str
theorem view_scr {S:Sto} {w:W} {ns:List Int} (e:view S w=some (.scr ns)):w=.d (.scr ns):=by
  cases w with
  | d y=>simp [view] at e; rw [e]
  | exc _ _=>simp [view] at e
  | fn=>simp [view] at e
  | ref i =>
    simp only [view] at e
    split at e
    · simp at e
    · simp at e
theorem ok_len:OpNOk F opLen (rLenEv F.K):=by
  intro Wsh B ι ρ S σ H ws vs Q rl rw c
  unfold opLen op1 at c
  split at c
  · rename_i w
    obtain ⟨v,rfl,rv⟩:=one_arg rw
    split at c
    · rename_i d hd
      split at c
      · rename_i r hr
        cases d with
        | str z =>
          have h1:=view_str hd
          subst h1
          cases rv
          simp only [lenD] at hr
          split at hr
          · rename_i hz
            cases hr
            exact .inr ⟨z,rfl,hz,c.here rl _ (.int _)⟩
          · cases hr
        | tup xs =>
          cases hr
          obtain ⟨a,us,rfl,h1,r1⟩:=view_tup rl.toRelS rv hd
          refine .inl ⟨a,us,rfl,.inr h1,?_⟩
          rw [← reps_len r1]
          exact c.here rl _ (.int _)
        | lst xs =>
          cases hr
          obtain ⟨a,us,rfl,h1,r1⟩:=view_lst rl.toRelS rv hd
          refine .inl ⟨a,us,rfl,.inl (SqL.of h1),?_⟩
          rw [← reps_len r1]
          exact c.here rl _ (.int _)
        | scr ns =>
          cases hr
          have h1:=view_scr hd
          subst h1
          cases rv with
          | scr n h q =>
            refine .inl ⟨_,ns.map V.int,rfl,.inl (.inl (by rcases q with rfl | ⟨o,rfl⟩; exact .inl h; exact .inr ⟨_,h⟩)),?_⟩
            rw [List.length_map]
            exact c.here rl _ (.int _)
          | scrK h1 h2 h3 h4 h5 h6 =>
            refine .inl ⟨_,ns.map V.int,rfl,.inl (.inr ⟨_,_,_,h1,h2,h3,h4,h5,h6⟩),?_⟩
            rw [List.length_map]
            exact c.here rl _ (.int _)
        | _=>cases hr
      · exact c.elim
    · exact c.elim
  · exact c.elim
end
end Ev
namespace Ev
open PySem PySem.Spec L2
inductive Ty where
  | non | bl | int | str | tup | lst | dct
  deriving DecidableEq
def Ty.nm:Ty→String
  | .non=>"NoneType" | .bl=>"bool" | .int=>"int" | .str=>"str" | .tup=>"tuple" | .lst=>"list" | .dct=>"dict"
def Ty.sub (a b:Ty):Bool:=decide (a=b) || (decide (a=.bl) && decide (b=.int))
theorem kit_sub {K:PySem.W.Frag} (a b:Ty) (h:b ≠ .non):PySem.W.kitOne K (.type a.nm) (.type b.nm)=some (a.sub b):=by
  refine kit_ty ?_
  cases a <;> cases b <;> first | exact absurd rfl h | decide +kernel
def tyD:D→Option Ty
  | .non=>some .non | .bl _=>some .bl | .int _=>some .int | .str _=>some .str | .tup _=>some .tup | .lst _=>some .lst | .dct _=>some .dct
  | .scr _=>none | .ins _ _=>none | .ftp _=>none | .cls _=>none | .exi _ _ _=>none | .dkf _=>none | .kdc _=>none
def tyW (S:Sto):W→Option Ty
  | .d x=>tyD x
  | .ref i=>match S[i]? with
    | some (.lst _)=>some .lst
    | some (.dct _)=>some .dct
    | some (.tup _)=>some .tup
    | some (.kd _)=>none
    | some (.drw _ _ _)=>some .dct
    | some (.ins _ _)=>none
    | none=>none
  | .exc _ _=>none
  | .fn=>none
section
variable {F:Fx} {X:Cx} {Wsh:WX} {a b e:Expr} {es:List Expr} {f g:FE} {fa:FA} {pos p p2:Pos}
theorem tyW_tyX {S:Sto} {H:Hp} {B:List Addr} {ι:Ads} {w:W} {v:V} {t:Ty} (rl:RelS F H B ι S) (r:RW F H B ι w v) (e:tyW S w=some t):TyX F.K H v (.type t.nm):=by
  cases w with
  | d x =>
    simp only [tyW] at e
    cases r with
    | non=>cases e; exact .base .non
    | bl b=>cases e; exact .base (.bl b)
    | int i=>cases e; exact .base (.int i)
    | str z=>cases e; exact .base (.str z)
    | tup n h _=>cases e; exact .base (.tup h)
    | tupK h1 h2 _ _ _ _=>cases e; exact .kTuple h1 h2
    | tupF n h _=>cases e; exact .fTuple h
    | ftp n h _ _=>cases e
    | lst n h _=>cases e; exact .base (.lst h)
    | scr n h q=>cases e
    | scrK _ _ _ _ _ _=>cases e
    | dK n h _=>cases e; exact .base (.dK h)
    | ins n h _=>cases e
    | cls _=>cases e
    | kdc _ _ _=>cases e
    | exi _ _ _ _ _=>cases e
    | dkf _ _ _=>cases e
  | exc _ _=>simp [tyW] at e
  | fn=>simp [tyW] at e
  | ref i =>
    obtain ⟨p,hp,rfl⟩:=r
    obtain ⟨o,ho,ro⟩:=rl.at_some hp
    simp only [tyW,ho] at e
    cases o with
    | lst ws=>cases e; obtain ⟨_,vs,h1,_⟩:=ro; exact .base (.lst h1)
    | dct ws=>cases e; obtain ⟨_,vs,h1,_⟩:=ro; exact .base (.dK h1)
    | ins _ _=>cases e
    | kd _=>cases e
    | tup ws=>cases e; obtain ⟨_,vs,h1,_⟩:=ro; exact .base (.tup h1)
    | drw _ _ _=>cases e; obtain ⟨_,_,_,h1,_⟩:=ro; exact .base (.dK h1)
def fIsi (T:Ty) (f:FE):FE:=fun ρ S=>(f ρ S).bind fun w S1=>match tyW S1 w with
  | some t=>.ok (.d (.bl (t.sub T))) S1
  | none=>.err
theorem r_isi {T:Ty} {x:Str} (hK:X.K=F.K) (hT:T ≠ .non) (hgi:Gl X "isinstance") (hmi:X.mg "isinstance" = none) (hg:Gl X x) (hm:X.mg x=none) (hv:bootBuiltins x=some (.type T.nm)) (he:PE X e (tR F Wsh f))
    (hn:x ≠ "__name__":=by decide) (hd:(x == ("__debug__":Str))=false:=by decide)
    (hs:starEach [e,.Name x p2] X.env=(false,eval e X.env) :: starEach [.Name x p2] X.env:=by rfl):PE X (.Call (.Name "isinstance" p) [e,.Name x p2] [] pos) (tR F Wsh (fIsi T f)) :=
  peImp (pe_callB call_isi hgi hmi (by decide +kernel) (pa_cons he (pa_cons (pe_bltn (v:=.ty T.nm) hg hm hv rfl hn hd) pa_nil) hs) (by decide) (by decide) hs) fun σ H Q ⟨B,ι,ρ,S,rl,c⟩=>by
    refine tR_step rl c fun w v S1 ι1 H1 x1 rl1 rv c1=>?_
    split at c1
    · rename_i t ht
      refine ⟨v,.ty T.nm,.type t.nm,.type T.nm,_,rfl,.ty _,by rw [hK]; exact tyW_tyX rl1.toRelS rv ht,kit_sub t T hT,c1.here rl1 _ (.bl _)⟩
    · exact (show False from c1).elim
def bools:List D→Option (List Bool)
  | []=>some []
  | .bl b :: xs=>(bools xs).map (b :: ·)
  | _ :: _=>none
theorem bools_reps {H:Hp} {B:List Addr} {ι:Ads}:∀ {ds:List D} {vs:List V} {bs:List Bool},bools ds=some bs→RDs F H B ι ds vs→vs=bs.map V.bl
  | [],_,_,e,.nil=>by simp [bools] at e; subst e; rfl
  | d :: ds,_,_,e,.cons r t=>by
    cases d with
    | bl b =>
      simp only [bools,Option.map_eq_some_iff] at e
      obtain ⟨cs,e1,rfl⟩:=e
      cases r
      rw [bools_reps e1 t]
      rfl
    | _=>simp [bools] at e
def nums:List D→Option (List Int)
  | []=>some []
  | .int b :: xs=>(nums xs).map (b :: ·)
  | _ :: _=>none
def allD:D→Option D
  | .lst xs=>(bools xs).map fun bs=>.bl (bs.all id)
  | _=>none
theorem op1_ok {h:D→Option D} {r:RN} (k:∀ (Wsh:WX) (B:List Addr) (ι:Ads) (ρ:Loc) (S:Sto) (σ:L2.St) (H:Hp) (w:W) (v:V) (d y:D) (Q:VK),Rel F H B ι ρ S σ→RW F H B ι w v→view S w=some d→h d=some y →
    Cont F Wsh B ρ σ ι H (.ok (.d y) S) (fun w _ ι' H'=>∀ v,RW F H' B ι' w v→Q v H')→r [v] H Q):OpNOk F (op1 h) r:=by
  intro Wsh B ι ρ S σ H ws vs Q rl rw c
  unfold op1 at c
  split at c
  · rename_i w
    obtain ⟨v,rfl,rv⟩:=one_arg rw
    split at c
    · rename_i d hd
      split at c
      · rename_i y hy
        exact k Wsh B ι ρ S σ H w v d y Q rl rv hd hy c
      · exact c.elim
    · exact c.elim
  · exact c.elim
theorem ok_all:OpNOk F (op1 allD) (rAll F.K):=op1_ok fun Wsh B ι ρ S σ H w v d y Q rl rv hd hy c=>by
  cases d with
  | lst xs =>
    simp only [allD,Option.map_eq_some_iff] at hy
    obtain ⟨bs,hb,rfl⟩:=hy
    obtain ⟨a,vs,rfl,h1,r1⟩:=view_lst rl.toRelS rv hd
    rw [bools_reps hb r1] at h1
    exact ⟨a,bs,rfl,SqL.of h1,c.here rl _ (.bl _)⟩
  | _=>simp [allD] at hy
def listD (d:D):Option D:=(seqD d).map .lst
def tupleD (d:D):Option D:=(seqD d).map .tup
theorem seqD_sq {S:Sto} {H:Hp} {B:List Addr} {ι:Ads} {w:W} {v:V} {d:D} {ds:List D} (rl:RelS F H B ι S) (r:RW F H B ι w v) (e:view S w=some d) (e2:seqD d=some ds):∃ a vs,v=.ref a∧RDs F H B ι ds vs∧((SqL F.K H a vs∧d=.lst ds)∨(SqT F.K H a vs∧d=.tup ds)):=by
  cases d with
  | tup xs =>
    cases e2
    obtain ⟨a,vs,h1,h2,h3⟩:=view_tup rl r e
    exact ⟨a,vs,h1,h3,.inr ⟨h2,rfl⟩⟩
  | lst xs =>
    cases e2
    obtain ⟨a,vs,h1,h2,h3⟩:=view_lst rl r e
    exact ⟨a,vs,h1,h3,.inl ⟨SqL.of h2,rfl⟩⟩
  | _=>cases e2
theorem ok_list:OpNOk F (op1 listD) (fun xs H Q=>∃ p ys,xs=[.ref p]∧(SqL F.K H p ys∨SqT F.K H p ys)∧∀ l,H l=none→Q (.ref l) (upd H l (.lst ys))):=op1_ok fun Wsh B ι ρ S σ H w v d y Q rl rv hd hy c=>by
  simp only [listD,Option.map_eq_some_iff] at hy
  obtain ⟨ds,hs,rfl⟩:=hy
  obtain ⟨a,vs,rfl,r1,h⟩:=seqD_sq rl.toRelS rv hd hs
  exact ⟨a,vs,rfl,h.elim (fun z=>.inl z.1) (fun z=>.inr z.1),fun p hp=>c ι _ (Ext.new hp) (rl.new hp) _ (new_lst rl r1 hp)⟩
theorem view_data {S:Sto} {w:W} {ds:List D} (e:view S w=some (.tup ds)):w=.d (.tup ds):=by
  cases w with
  | d y=>simp [view] at e; rw [e]
  | exc _ _=>simp [view] at e
  | fn=>simp [view] at e
  | ref i =>
    simp only [view] at e
    split at e
    · simp at e
    · simp at e
theorem ok_tuple:OpNOk F (op1 tupleD) (fun xs H Q=>∃ p ys,xs=[.ref p]∧((SqL F.K H p ys∧∀ l,H l=none→Q (.ref l) (upd H l (.tup ys)))∨(SqT F.K H p ys∧Q (.ref p) H))):=op1_ok fun Wsh B ι ρ S σ H w v d y Q rl rv hd hy c=>by
  simp only [tupleD,Option.map_eq_some_iff] at hy
  obtain ⟨ds,hs,rfl⟩:=hy
  obtain ⟨a,vs,rfl,r1,h⟩:=seqD_sq rl.toRelS rv hd hs
  rcases h with ⟨h,e⟩ | ⟨h,e⟩
  · exact ⟨a,vs,rfl,.inl ⟨h,fun p hp=>c ι _ (Ext.new hp) (rl.new hp) _ (new_tup rl r1 hp)⟩⟩
  · subst e
    have:=view_data hd
    subst this
    exact ⟨a,vs,rfl,.inr ⟨h,c.here rl _ rv⟩⟩
def intD:D→Option D
  | .int i=>some (.int i)
  | .bl b=>some (.int (if b then 1 else 0))
  | _=>none
theorem view_int {S:Sto} {w:W} {i:Int} (e:view S w=some (.int i)):w=.d (.int i):=by
  cases w with
  | d y=>simp [view] at e; rw [e]
  | exc _ _=>simp [view] at e
  | fn=>simp [view] at e
  | ref i =>
    simp only [view] at e
    split at e
    · simp at e
    · simp at e
theorem view_bl {S:Sto} {w:W} {i:Bool} (e:view S w=some (.bl i)):w=.d (.bl i):=by
  cases w with
  | d y=>simp [view] at e; rw [e]
  | exc _ _=>simp [view] at e
  | fn=>simp [view] at e
  | ref i =>
    simp only [view] at e
    split at e
    · simp at e
    · simp at e
theorem ok_int:OpNOk F (op1 intD) (fun xs H Q=>(∃ i,xs=[.int i]∧Q (.int i) H)∨∃ k,xs=[.bl k]∧Q (.int (if k then 1 else 0)) H):=op1_ok fun Wsh B ι ρ S σ H w v d y Q rl rv hd hy c=>by
  cases d with
  | int i =>
    cases hy
    have:=view_int hd
    subst this
    cases rv
    exact .inl ⟨i,rfl,c.here rl _ (.int _)⟩
  | bl b =>
    cases hy
    have:=view_bl hd
    subst this
    cases rv
    exact .inr ⟨b,rfl,c.here rl _ (.int _)⟩
  | _=>simp [intD] at hy
def opMin2:OpN:=fun ws S=>match ws with
  | [.d (.int i),.d (.int j)]=>.ok (.d (.int (if j < i then j else i))) S
  | _=>.err
theorem ok_min2:OpNOk F opMin2 (fun xs H Q=>∃ i j,xs=[.int i,.int j]∧Q (.int (if j < i then j else i)) H):=by
  intro Wsh B ι ρ S σ H ws vs Q rl rw c
  unfold opMin2 at c
  split at c
  · obtain ⟨v,u,rfl,r1,r2⟩:=two_args rw
    cases r1; cases r2
    exact ⟨_,_,rfl,c.here rl _ (.int _)⟩
  · exact c.elim
end
end Ev
namespace Ev
open PySem PySem.Spec L2
section
variable {X:Cx} {F:Fx} {Wsh:WX}
theorem pSet {α β:Type} {A:α→β→Prop} {a:α} {b:β} (r:A a b):∀ (i:Nat) {l:List α} {m:List β},Paired A l m→Paired A (l.set i a) (m.set i b)
  | _,_,_,.nil=>.nil
  | 0,_,_,.cons _ t=>.cons r t
  | i + 1,_,_,.cons q t=>.cons q (pSet r i t)
theorem Rel.set {H:Hp} {B:List Addr} {ι:Ads} {ρ:Loc} {S:Sto} {σ:L2.St} (r:Rel F H B ι ρ S σ) {w:W} {v:V} (i:Nat) (rv:RW F H B ι w v):Rel F H B ι (ρ.set i (some w)) S (σ.set i (some v)) :=
  ⟨r.toRelS,pSet (A:=RL F H B ι) (a:=some w) (b:=some v) rv i r.loc⟩
abbrev FG:=W→Loc→Sto→Option Loc
def GRel (F:Fx) (g:FG) (sl:List Nat) (t:TG):Prop:=∀ (B:List Addr) (ι:Ads) (ρ:Loc) (S:Sto) (σ:L2.St) (H:Hp) (w:W) (v:V) (ρ':Loc) (Q:L2.St→Hp→Prop),Rel F H B ι ρ S σ→RW F H B ι w v→g w ρ S=some ρ' →
  (∀ σ',Rel F H B ι ρ' S σ'→(∀ vs,(∀ i∈sl,i∈vs)→wipe σ' vs=wipe σ vs)→Q σ' H)→t v σ H Q
def GOk (X:Cx) (F:Fx) (tg:Expr) (g:FG) (sl:List Nat):Prop:=∃ t,PG X tg t∧GRel F g sl t
theorem wipe_out1 {i:Nat} {x:Option V} {σ:L2.St}:∀ {vs:List Nat},i ∉ vs→wipe (σ.set i x) vs=(wipe σ vs).set i x
  | [],_=>rfl
  | v :: vs,h=>by
    unfold wipe
    have h1:i ∉ vs:=fun z=>h (List.mem_cons_of_mem _ z)
    have h2:i ≠ v:=fun z=>h (z ▸ List.mem_cons_self)
    rw [wipe_out1 h1,List.set_comm _ _ (h2)]
theorem wipe_set {i:Nat} {x:Option V} {σ:L2.St}:∀ {vs:List Nat},i∈vs→wipe (σ.set i x) vs=wipe σ vs
  | v :: vs,h=>by
    unfold wipe
    by_cases e:i∈vs
    · rw [wipe_set e]
    · have e2:i=v:=by
        rcases List.mem_cons.mp h with z | z
        · exact z
        · exact absurd z e
      subst e2
      rw [wipe_out1 e]
      rw [List.set_set]
def gN (i:Nat):FG:=fun w ρ _=>some (ρ.set i (some w))
theorem gr_name {i:Nat}:GRel F (gN i) [i] (gName i):=fun B ι ρ S σ H w v ρ' Q r rv e q=>by
  simp only [gN,Option.some.injEq] at e
  subst e
  exact q _ (r.set i rv) fun vs h=>wipe_set (h i (by simp))
abbrev FGs:=List D→Loc→Sto→Option Loc
def GsRel (F:Fx) (g:FGs) (sl:List Nat) (t:TGs):Prop:=∀ (B:List Addr) (ι:Ads) (ρ:Loc) (S:Sto) (σ:L2.St) (H:Hp) (ds:List D) (vs:List V) (ρ':Loc) (Q:L2.St→Hp→Prop),Rel F H B ι ρ S σ→RDs F H B ι ds vs→g ds ρ S=some ρ' →
  (∀ σ',Rel F H B ι ρ' S σ'→(∀ vs,(∀ i∈sl,i∈vs)→wipe σ' vs=wipe σ vs)→Q σ' H)→t vs σ H Q
def gsNil:FGs:=fun ds ρ _=>match ds with | []=>some ρ | _=>none
def gsCons (g:FG) (gs:FGs):FGs:=fun ds ρ S=>match ds with
  | d :: ds=>(g (.d d) ρ S).bind fun ρ1=>gs ds ρ1 S
  | []=>none
theorem grs_nil:GsRel F gsNil [] gNil:=fun B ι ρ S σ H ds vs ρ' Q r rv e q=>by
  unfold gsNil at e
  split at e
  · cases rv
    cases e
    exact ⟨rfl,q _ r fun _ _=>rfl⟩
  · cases e
theorem grs_cons {g:FG} {gs:FGs} {sl sls:List Nat} {t:TG} {u:TGs} (ht:GRel F g sl t) (hu:GsRel F gs sls u):GsRel F (gsCons g gs) (sl ++ sls) (gCons t u):=fun B ι ρ S σ H ds vs ρ' Q r rv e q=>by
  unfold gsCons at e
  split at e
  · cases rv with
    | cons r1 rt =>
      rw [Option.bind_eq_some_iff] at e
      obtain ⟨ρ1,e1,e2⟩:=e
      exact ⟨_,_,rfl,ht B ι ρ S σ H (.d _) _ ρ1 _ r r1 e1 fun σ1 rl1 w1=>hu B ι ρ1 S σ1 H _ _ ρ' Q rl1 rt e2 fun σ2 rl2 w2=>q σ2 rl2 fun vs hv=>(w2 vs fun i hi=>hv i (List.mem_append_right _ hi)).trans (w1 vs fun i hi=>hv i (List.mem_append_left _ hi))⟩
  · cases e
def gT (n:Nat) (gs:FGs):FG:=fun w ρ S=>match view S w with
  | some (.tup ds)=>if ds.length=n then gs ds ρ S else none
  | _=>none
theorem gr_tup {n:Nat} {gs:FGs} {sl:List Nat} {t:TGs} {K:PySem.W.Frag} (hK:K=F.K) (ht:GsRel F gs sl t):GRel F (gT n gs) sl (gTup K n t):=fun B ι ρ S σ H w v ρ' Q r rv e q=>by
  subst hK
  unfold gT at e
  split at e
  · rename_i ds hd
    split at e
    · rename_i hl
      obtain ⟨a,vs,rfl,h1,r1⟩:=view_tup r.toRelS rv hd
      exact ⟨a,vs,rfl,h1,by rw [← reps_len r1]; exact hl,ht B ι ρ S σ H ds vs ρ' Q r r1 e q⟩
    · cases e
  · cases e
theorem go_mk {tg:Expr} {g:FG} {sl:List Nat} {t:TG} (p:PG X tg t) (h:GRel F g sl t):GOk X F tg g sl:=⟨t,p,h⟩
def SCont (F:Fx) (Wsh:WX) (B:List Addr) (ι:Ads) (H:Hp) (D:Ends) (r:RS):Prop:=match r with
  | .nx ρ S=>∀ ι' H' σ',Ext ι H ι' H'→Rel F H' B ι' ρ S σ'→D.nx σ' H'
  | .bk ρ S=>∀ ι' H' σ',Ext ι H ι' H'→Rel F H' B ι' ρ S σ'→D.bk σ' H'
  | .ct ρ S=>∀ ι' H' σ',Ext ι H ι' H'→Rel F H' B ι' ρ S σ'→D.ct σ' H'
  | .rt w S=>∀ ι' H' v,Ext ι H ι' H'→RelS F H' B ι' S→RW F H' B ι' w v→D.rt v H'
  | .exn c x ρ S=>∀ ι' H' σ' cv d,Ext ι H ι' H'→Rel F H' B ι' ρ S σ'→RX F H' B ι' c x cv d→Wsh cv d σ' H'
  | .err=>False
def tS (F:Fx) (Wsh:WX) (g:FS):TS:=fun D σ H=>∃ B ι ρ S,Rel F H B ι ρ S σ∧SCont F Wsh B ι H D (g ρ S)
variable {B:List Addr} {ι:Ads} {H:Hp} {D:Ends} {ρ:Loc} {S:Sto} {σ:L2.St}
theorem SCont.ext {r:RS} {ι':Ads} {H':Hp} (h:SCont F Wsh B ι H D r) (x:Ext ι H ι' H'):SCont F Wsh B ι' H' D r:=by
  cases r with
  | nx ρ S=>exact fun ι2 H2 σ2 y r=>h ι2 H2 σ2 (x.trans y) r
  | bk ρ S=>exact fun ι2 H2 σ2 y r=>h ι2 H2 σ2 (x.trans y) r
  | ct ρ S=>exact fun ι2 H2 σ2 y r=>h ι2 H2 σ2 (x.trans y) r
  | rt w S=>exact fun ι2 H2 v y r rv=>h ι2 H2 v (x.trans y) r rv
  | exn c d ρ S=>exact fun ι2 H2 σ2 cv od y r q=>h ι2 H2 σ2 cv od (x.trans y) r q
  | err=>exact h
def R.st {α:Type} (r:R α) (ρ:Loc) (k:α→Sto→RS):RS:=match r with
  | .ok a S=>k a S
  | .exn c x S=>.exn c x ρ S
  | .err=>.err
theorem SCont.bind {α:Type} {r:R α} {k:α→Sto→RS} (h:SCont F Wsh B ι H D (r.st ρ k)):Cont F Wsh B ρ σ ι H r fun a S ι' H'=>SCont F Wsh B ι' H' D (k a S):=by
  cases r with
  | ok a S=>exact fun ι' H' x _=>SCont.ext (show SCont F Wsh B ι H D (k a S) from h) x
  | exn c d S=>exact fun ι' H' cv od x rl q=>h ι' H' σ cv od x rl q
  | err=>exact h
theorem tS_step {f:FE} {k:W→Sto→RS} {Q:VK} (r:Rel F H B ι ρ S σ) (c:SCont F Wsh B ι H D ((f ρ S).st ρ k))
    (h:∀ w v S' ι' H',Ext ι H ι' H'→Rel F H' B ι' ρ S' σ→RW F H' B ι' w v→SCont F Wsh B ι' H' D (k w S')→Q v H'):tR F Wsh f σ H Q :=
  ⟨B,ι,ρ,S,r,c.bind.mono fun w S' ι' H' _ x r' q v rv=>h w v S' ι' H' x r' rv q⟩
theorem tS_stepA {f:FA} {k:List W→Sto→RS} {Q:List V→Hp→Prop} (r:Rel F H B ι ρ S σ) (c:SCont F Wsh B ι H D ((f ρ S).st ρ k))
    (h:∀ ws vs S' ι' H',Ext ι H ι' H'→Rel F H' B ι' ρ S' σ→RWs F H' B ι' ws vs→SCont F Wsh B ι' H' D (k ws S')→Q vs H'):tRA F Wsh f σ H Q :=
  ⟨B,ι,ρ,S,r,c.bind.mono fun w S' ι' H' _ x r' q v rv=>h w v S' ι' H' x r' rv q⟩
theorem tS_stepT {f:FT} {k:Bool→Sto→RS} {Q:Bool→Hp→Prop} (r:Rel F H B ι ρ S σ) (c:SCont F Wsh B ι H D ((f ρ S).st ρ k))
    (h:∀ b S' ι' H',Ext ι H ι' H'→Rel F H' B ι' ρ S' σ→SCont F Wsh B ι' H' D (k b S')→Q b H'):tRT F Wsh f σ H Q :=
  ⟨B,ι,ρ,S,r,c.bind.mono fun w S' ι' H' _ x r' q=>h w S' ι' H' x r' q⟩
theorem SCont.nx_here (c:SCont F Wsh B ι H D (.nx ρ S)) (r:Rel F H B ι ρ S σ):D.nx σ H:=c ι H σ (Ext.refl _ _) r
def sSeq (f g:FS):FS:=fun ρ S=>match f ρ S with
  | .nx ρ1 S1=>g ρ1 S1
  | r=>r
def sNext:FS:=fun ρ S=>.nx ρ S
theorem r_pnil:PSs X [] (tS F Wsh sNext):=pssImp pss_nil fun D σ H ⟨B,ι,ρ,S,rl,c⟩=>c.nx_here rl
theorem r_pcons {st:Stmt} {rest:List Stmt} {f g:FS} (h1:PS X st (tS F Wsh f)) (h2:PSs X rest (tS F Wsh g)):PSs X (st :: rest) (tS F Wsh (sSeq f g)) :=
  pssImp (pss_cons h1 h2) fun D σ H ⟨B,ι,ρ,S,rl,c⟩=>by
    refine ⟨B,ι,ρ,S,rl,?_⟩
    unfold sSeq at c
    revert c
    cases f ρ S with
    | nx ρ1 S1=>exact fun c ι' H' σ' x r=>⟨B,ι',ρ1,S1,r,SCont.ext (show SCont F Wsh B ι H D (g ρ1 S1) from c) x⟩
    | bk _ _=>exact fun c=>c
    | ct _ _=>exact fun c=>c
    | rt _ _=>exact fun c=>c
    | exn _ _ _ _=>exact fun c=>c
    | err=>exact fun c=>c
theorem r_pone {st:Stmt} {f:FS} (h1:PS X st (tS F Wsh f)):PSs X [st] (tS F Wsh f):=pss_one h1
variable {e:Expr} {f g:FE} {pos:Pos}
def sBreak:FS:=fun ρ S=>.bk ρ S
def sCont:FS:=fun ρ S=>.ct ρ S
def sRet (f:FE):FS:=fun ρ S=>(f ρ S).st ρ fun w S1=>.rt w S1
theorem r_ret (he:PE X e (tR F Wsh f)):PS X (.Return (some e) pos) (tS F Wsh (sRet f)):=psImp (ps_ret he) fun D σ H ⟨B,ι,ρ,S,rl,c⟩ =>
  tS_step rl c fun w v S1 ι1 H1 x1 rl1 rv c1=>c1 ι1 H1 v (Ext.refl _ _) rl1.toRelS rv
def sRetN:FS:=fun _ S=>.rt (.d .non) S
def sExpr (f:FE):FS:=fun ρ S=>(f ρ S).st ρ fun _ S1=>.nx ρ S1
theorem r_expr (he:PE X e (tR F Wsh f)) (hs:swapsWith e none pos.line X.env=pure false:=by rfl):PS X (.Expr e pos) (tS F Wsh (sExpr f)):=psImp (ps_expr he hs) fun D σ H ⟨B,ι,ρ,S,rl,c⟩ =>
  tS_step rl c fun w v S1 ι1 H1 x1 rl1 rv c1=>c1.nx_here rl1
def sSet (i:Nat) (f:FE):FS:=fun ρ S=>(f ρ S).st ρ fun w S1=>.nx (ρ.set i (some w)) S1
theorem r_set {i:Nat} {x:Str} {pos':Pos} (hN:X.N.Nodup) (hi:X.N[i]? = some x) (hx:L2.Loc X.env.scope x) (he:PE X e (tR F Wsh f)) (hs:swapsWith e (some (.Name x pos')) pos.line X.env=pure false:=by rfl)
    (hf:X.fn x=true∨X.env.scope.names.lookup x=some .local:=by first | exact .inl rfl | exact .inr rfl | assumption):PS X (.Assign [.Name x pos'] e pos) (tS F Wsh (sSet i f)):=psImp (ps_set hN hi hx he hs hf) fun D σ H ⟨B,ι,ρ,S,rl,c⟩ =>
  tS_step rl c fun w v S1 ι1 H1 x1 rl1 rv c1=>c1.nx_here (rl1.set i rv)
def sAsg (g:FG) (f:FE):FS:=fun ρ S=>(f ρ S).st ρ fun w S1=>match g w ρ S1 with
  | some ρ'=>.nx ρ' S1
  | none=>.err
theorem r_asg {tg:Expr} {gf:FG} {sl:List Nat} (he:PE X e (tR F Wsh f)) (hg:GOk X F tg gf sl) (hs:swapsWithSole [tg] e pos.line X.env=pure false:=by rfl) (hw:swappedStores [tg] e X.env=pure none:=by rfl)
    (h1:(assignEach [tg] X.env).map (·.2)=[assign tg X.env]:=by rfl):PS X (.Assign [tg] e pos) (tS F Wsh (sAsg gf f)):=by
  obtain ⟨t,pt,ht⟩:=hg
  refine psImp (ps_asg he pt hs hw h1) fun D σ H ⟨B,ι,ρ,S,rl,c⟩=>tS_step rl c fun w v S1 ι1 H1 x1 rl1 rv c1=>?_
  split at c1
  · rename_i ρ' hρ
    exact ht B ι1 ρ S1 σ H1 w v ρ' D.nx rl1 rv hρ fun σ' r _=>c1.nx_here r
  · exact (show False from c1).elim
def sPar2 (i j:Nat) (f:FA):FS:=fun ρ S=>(f ρ S).st ρ fun ws S1=>match ws with
  | [v,w]=>.nx ((ρ.set i (some v)).set j (some w)) S1
  | _=>.err
theorem r_par2 {i j:Nat} {x y:Str} {a b:Expr} {fa:FA} {px py pt:Pos} {kt k2:Nat} {pt2:Pos} (hc:X.calm=true) (hN:X.N.Nodup) (hi:X.N[i]? = some x) (hj:X.N[j]? = some y) (hij:i ≠ j)
    (hx:X.env.scope.names.lookup x=some .local) (hy:X.env.scope.names.lookup y=some .local) (ha:PA X [a,b] (tRA F Wsh fa))
    (hw:swappedStores [.Tuple [.Name x px,.Name y py] kt pt] (.Tuple [a,b] k2 pt2) X.env=pure (some [x,y]))
    (hs:swapsWithSole [.Tuple [.Name x px,.Name y py] kt pt] (.Tuple [a,b] k2 pt2) pos.line X.env=pure false:=by rfl) :
    PS X (.Assign [.Tuple [.Name x px,.Name y py] kt pt] (.Tuple [a,b] k2 pt2) pos) (tS F Wsh (sPar2 i j fa)):=psImp (ps_par hc hN hi hj hij hx hy ha hw hs) fun D σ H ⟨B,ι,ρ,S,rl,c⟩ =>
  tS_stepA rl c fun ws vs S1 ι1 H1 x1 rl1 rv c1=>by
    split at c1
    · obtain ⟨v,u,rfl,r1,r2⟩:=two_args rv
      exact ⟨v,u,rfl,c1.nx_here ((rl1.set i r1).set j r2)⟩
    · exact (show False from c1).elim
def sPar3 (i j l:Nat) (f:FA):FS:=fun ρ S=>(f ρ S).st ρ fun ws S1=>match ws with
  | [u,v,w]=>.nx (((ρ.set i (some u)).set j (some v)).set l (some w)) S1
  | _=>.err
def sIf (t:FT) (f g:FS):FS:=fun ρ S=>(t ρ S).st ρ fun k S1=>if k=true then f ρ S1 else g ρ S1
theorem r_sif {c:Expr} {a b:List Stmt} {t:FT} {f g:FS} (hc:PT X c (tRT F Wsh t)) (ha:PSs X a (tS F Wsh f)) (hb:PSs X b (tS F Wsh g)):PS X (.If c a b pos) (tS F Wsh (sIf t f g)):=psImp (ps_if hc ha hb) fun D σ H ⟨B,ι,ρ,S,rl,c⟩ =>
  tS_stepT rl c fun k S1 ι1 H1 x1 rl1 c1=>by
    split
    · rename_i hk
      rw [if_pos hk] at c1
      exact ⟨B,ι1,ρ,S1,rl1,c1⟩
    · rename_i hk
      rw [if_neg hk] at c1
      exact ⟨B,ι1,ρ,S1,rl1,c1⟩
end
end Ev
namespace Ev
open PySem PySem.Spec L2
def WalkD (F:Fx) (B:List Addr) (ι:Ads) (H:Hp) (J:It) (ds:List D):Prop :=
  ∃ (G:Hp→Prop) (Y:Nat→Hp→V→Hp→Prop),Walk J ds.length G Y∧(∀ ι' H',ExtW B ι H ι' H'→G H') ∧
    ∀ (i:Nat) (B':List Addr) (ι':Ads) (H':Hp) (S':Sto) (x:V) (H2:Hp),i < ds.length→ExtW B' ι H ι' H'→(∀ a∈B',a∈B∨H a=none)→RelS F H' B' ι' S'→Y i H' x H2 →
      (H2=H'∨∃ p vs,H' p=none∧H2=upd H' p (.tup vs))∧∃ d,ds[i]? = some d∧RD F H2 B' ι' d x
abbrev FI:=Loc→Sto→R (List D)
def tRI (F:Fx) (Wsh:WX) (f:FI):TI:=fun σ H Rr=>∃ B ι ρ S,Rel F H B ι ρ S σ∧Cont F Wsh B ρ σ ι H (f ρ S) fun ds _ ι' H'=>∀ J,WalkD F B ι' H' J ds→Rr J H'
section
variable {X:Cx} {F:Fx} {Wsh:WX} {tg e:Expr} {f g:FE} {fa:FA} {pos p:Pos}
theorem piImp {it:Expr} {t t':TI} (h:PI X tg it t) (f:∀ σ H Q,t' σ H Q→t σ H Q):PI X tg it t':=⟨fun pins s σ H Q I q=>h.run pins s σ H Q I (f σ H Q q)⟩
theorem sq_keepT {H H':Hp} {B:List Addr} {ι ι':Ads} {ds:List D} {v:V} (h:RD F H B ι (.tup ds) v):∃ a vs,v=.ref a∧SqT F.K H a vs∧RDs F H B ι ds vs∧∀ ι' H',ExtW B ι H ι' H'→SqT F.K H' a vs:=by
  cases h with
  | tup n e r=>exact ⟨_,_,rfl,SqT.of e,r,fun ι' H' x=>SqT.of (x.keep _ _ n e nt_tup)⟩
  | tupK h1 h2 h3 h4 h5 r=>exact ⟨_,_,rfl,.inr ⟨_,_,_,h1,h2,h3,h4,h5⟩,r,fun _ _ _=>.inr ⟨_,_,_,h1,h2,h3,h4,h5⟩⟩
  | tupF n e r=>exact ⟨_,_,rfl,.inl (.inr ⟨_,e⟩),r,fun ι' H' x=>.inl (.inr ⟨_,x.keep _ _ n e nt_frz⟩)⟩
theorem sq_keepL {H:Hp} {B:List Addr} {ι:Ads} {ds:List D} {v:V} (h:RD F H B ι (.lst ds) v):∃ a vs,v=.ref a∧SqL F.K H a vs∧RDs F H B ι ds vs∧∀ ι' H',ExtW B ι H ι' H'→SqL F.K H' a vs:=by
  cases h with
  | lst n e r=>exact ⟨_,_,rfl,SqL.of e,r,fun ι' H' x=>SqL.of (x.keep _ _ n e nt_lst)⟩
theorem subB {B B':List Addr} {ι:Ads} {H:Hp} (h:∀ a∈B',a∈B∨H a=none):∀ a∈B' ++ flat ι,H a ≠ none→a∈B ++ flat ι:=fun a ha n=>by
  rcases List.mem_append.mp ha with z | z
  · rcases h a z with q | q
    · exact List.mem_append_left _ q
    · exact absurd q n
  · exact List.mem_append_right _ z
theorem walkD_at {B:List Addr} {ι:Ads} {H:Hp} {J:It} {ds:List D} {vs:List V} {G:Hp→Prop} (w:Walk J vs.length G (YAt vs)) (r:RDs F H B ι ds vs) (g:∀ ι' H',ExtW B ι H ι' H'→G H'):WalkD F B ι H J ds:=by
  refine ⟨G,YAt vs,by rw [reps_len r]; exact w,g,fun i B' ι' H' S' x H2 hi ex hB rl y=>?_⟩
  obtain ⟨e1,e2⟩:=y
  refine ⟨.inl e1,ds[i],List.getElem?_eq_getElem hi,?_⟩
  obtain ⟨v,hv,rv⟩:=reps_at r (List.getElem?_eq_getElem hi)
  rw [e2] at hv
  cases hv
  rw [e1]
  exact Rep.extW ex (Rep.sub (subB hB) rv)
def iLst (f:FE):FI:=fun ρ S=>(f ρ S).bind fun w S1=>match w with
  | .d (.lst ds)=>.ok ds S1
  | _=>.err
def iTupl (f:FE):FI:=fun ρ S=>(f ρ S).bind fun w S1=>match w with
  | .d (.tup ds)=>.ok ds S1
  | _=>.err
theorem ri_lst (hK:X.K=F.K) (he:PE X e (tR F Wsh f)):PI X tg e (tRI F Wsh (iLst f)):=piImp (pi_list he) fun σ H Q ⟨B,ι,ρ,S,rl,c⟩=>by
  refine tR_step rl c fun w v S1 ι1 H1 x1 rl1 rv c1=>?_
  split at c1
  · obtain ⟨a,vs,rfl,h1,r1,k⟩:=sq_keepL rv
    refine ⟨a,rfl,⟨vs,by rw [hK]; exact h1⟩,c1.here rl1 _ ?_⟩
    rw [hK]
    exact walkD_at walk_list r1 k
  · exact (show False from c1).elim
theorem ri_tup (hK:X.K=F.K) (he:PE X e (tR F Wsh f)):PI X tg e (tRI F Wsh (iTupl f)):=piImp (pi_tup he) fun σ H Q ⟨B,ι,ρ,S,rl,c⟩=>by
  refine tR_step rl c fun w v S1 ι1 H1 x1 rl1 rv c1=>?_
  split at c1
  · obtain ⟨a,vs,rfl,h1,r1,k⟩:=sq_keepT (H':=H1) (ι':=ι1) rv
    refine ⟨a,rfl,⟨vs,by rw [hK]; exact h1⟩,c1.here rl1 _ ?_⟩
    rw [hK]
    exact walkD_at walk_tup r1 k
  · exact (show False from c1).elim
def signs (z:Str):List D:=z.cps.toList.map fun c=>.str ⟨#[c]⟩
def iStr (f:FE):FI:=fun ρ S=>(f ρ S).bind fun w S1=>match w with
  | .d (.str z)=>.ok (signs z) S1
  | _=>.err
def rangeD (lo:Int) (n:Nat):List D:=(List.range n).map fun (k:Nat)=>.int (lo + (k:Int))
theorem walkD_range {B:List Addr} {ι:Ads} {H:Hp} (lo:Int) (n:Nat):WalkD F B ι H (Itr lo n) (rangeD lo n):=by
  have hl:(rangeD lo n).length=n:=by simp [rangeD]
  refine ⟨_,_,by rw [hl]; exact walk_range,fun _ _ _=>trivial,fun i B' ι' H' S' x H2 hi ex hB rl2 y=>?_⟩
  obtain ⟨e1,rfl⟩:=y
  rw [hl] at hi
  refine ⟨.inl e1,.int (lo + i),?_,.int _⟩
  unfold rangeD
  rw [List.getElem?_map,List.getElem?_range hi]
  rfl
def iRange1 (f:FA):FI:=fun ρ S=>(f ρ S).bind fun ws S1=>match ws with
  | [.d (.int j)]=>if -(2 ^ 62)≤j∧j < 2 ^ 62 then .ok (rangeD 0 j.toNat) S1 else .err
  | _=>.err
theorem ri_range1 {a:Expr} (hg:Gl X "range") (hm:X.mg "range" = none) (ha:PA X [a] (tRA F Wsh fa)) (hs:starEach [a] X.env=[(false,eval a X.env)]:=by rfl):PI X tg (.Call (.Name "range" p) [a] [] pos) (tRI F Wsh (iRange1 fa)) :=
  piImp (pi_range1 hg hm ha hs) fun σ H Q ⟨B,ι,ρ,S,rl,c⟩=>by
    refine tRA_step rl c fun ws vs S1 ι1 H1 x1 rl1 rv c1=>?_
    split at c1
    · obtain ⟨v,rfl,r1⟩:=one_arg rv
      cases r1
      split at c1
      · rename_i h
        exact ⟨_,rfl,h.1,h.2,c1.here rl1 _ (walkD_range 0 _)⟩
      · exact (show False from c1).elim
    · exact (show False from c1).elim
def loop (body:D→Loc→Sto→RS):List D→Loc→Sto→RS
  | [],ρ,S=>.nx ρ S
  | d :: ds,ρ,S=>match body d ρ S with
    | .nx ρ1 S1=>loop body ds ρ1 S1
    | .ct ρ1 S1=>loop body ds ρ1 S1
    | .bk ρ1 S1=>.nx ρ1 S1
    | r=>r
def turn (g:FG) (f:FS):D→Loc→Sto→RS:=fun d ρ S=>match g (.d d) ρ S with
  | some ρ1=>f ρ1 S
  | none=>.err
def sFor (fi:FI) (g:FG) (f:FS):FS:=fun ρ S=>(fi ρ S).st ρ fun ds S1=>loop (turn g f) ds ρ S1
theorem RelS.walked {H H2:Hp} {B:List Addr} {ι:Ads} {ρ:Loc} {S:Sto} {σ:L2.St} (r:Rel F H B ι ρ S σ) (h:H2=H∨∃ p vs,H p=none∧H2=upd H p (.tup vs)):Rel F H2 B ι ρ S σ∧Ext ι H ι H2:=by
  rcases h with rfl | ⟨p,o,hp,rfl⟩
  · exact ⟨r,Ext.refl _ _⟩
  · exact ⟨r.new hp,Ext.new hp⟩
theorem r_for {iter:Expr} {body:List Stmt} {fi:FI} {gf:FG} {sl:List Nat} {fb:FS} (hp:PassesOwn (model X.prog X.w) X.A X.env X.xe) (hc:X.calm=true) (hi:PI X tg iter (tRI F Wsh fi)) (hg:GOk X F tg gf sl) (hb:PSs X body (tS F Wsh fb)) (hs:∀ x,foldedSetIterable iter X.env x=pure x:=by intro _; rfl) :
    PS X (.For tg iter body [] pos) (tS F Wsh (sFor fi gf fb)):=by
  obtain ⟨t,pt,ht⟩:=hg
  refine psImp (ps_for hp hc hi pt hb hs) fun D σ H ⟨B,ι,ρ,S,rl,c⟩=>?_
  refine ⟨B,ι,ρ,S,rl,?_⟩
  refine (SCont.bind (σ:=σ) c).mono fun ds S1 ι1 H1 _ x1 rl1 c1 J wd=>?_
  obtain ⟨G,Y,w,hG,hY⟩:=wd
  refine for_it w (fun i σ2 H2=>∃ ι2 ρ2 S2,Ext ι1 H1 ι2 H2∧Rel F H2 B ι2 ρ2 S2 σ2∧SCont F Wsh B ι2 H2 D (loop (turn gf fb) (ds.drop i) ρ2 S2)) ⟨ι1,ρ,S1,Ext.refl _ _,rl1,by simpa using c1⟩ (fun i σ2 H2 _ ⟨ι2,_,_,x2,_,_⟩=>hG ι2 H2 x2.toW) ?_ ?_
  · rintro i x σ2 H2 H3 hi ⟨ι2,ρ2,S2,x2,rl2,c2⟩ y
    obtain ⟨hn,d,hd,rd⟩:=hY i B ι2 H2 S2 x H3 hi x2.toW (fun a ha=>.inl ha) rl2.toRelS y
    obtain ⟨rl3,x3⟩:=RelS.walked rl2 hn
    have hdr:ds.drop i=d :: ds.drop (i + 1):=by
      rw [List.drop_eq_getElem_cons hi]
      rw [List.getElem?_eq_getElem hi] at hd
      rw [Option.some.inj hd]
    rw [hdr] at c2
    simp only [loop,turn] at c2
    cases hgd:gf (.d d) ρ2 S2 with
    | none=>rw [hgd] at c2; exact (show False from c2).elim
    | some ρ3 =>
      rw [hgd] at c2
      refine ht B ι2 ρ2 S2 σ2 H3 (.d d) x ρ3 _ rl3 rd hgd fun σ3 rl4 _=>⟨B,ι2,ρ3,S2,rl4,?_⟩
      have c3:=SCont.ext c2 x3
      revert c3
      simp only []
      cases fb ρ3 S2 with
      | nx ρ4 S4=>exact fun c3 ι4 H4 σ4 x4 rl5=>⟨ι4,ρ4,S4,(x2.trans x3).trans x4,rl5,SCont.ext (show SCont F Wsh B ι2 H3 D (loop (turn gf fb) (ds.drop (i + 1)) ρ4 S4) from c3) x4⟩
      | ct ρ4 S4=>exact fun c3 ι4 H4 σ4 x4 rl5=>⟨ι4,ρ4,S4,(x2.trans x3).trans x4,rl5,SCont.ext (show SCont F Wsh B ι2 H3 D (loop (turn gf fb) (ds.drop (i + 1)) ρ4 S4) from c3) x4⟩
      | bk ρ4 S4=>exact fun c3 ι4 H4 σ4 x4 rl5=>c3 ι4 H4 σ4 x4 rl5
      | rt w4 S4=>exact fun c3=>c3
      | exn c4 d4 ρ4 S4=>exact fun c3=>c3
      | err=>exact fun c3=>c3
  · rintro σ2 H2 ⟨ι2,ρ2,S2,x2,rl2,c2⟩
    rw [List.drop_length] at c2
    exact SCont.nx_here (show SCont F Wsh B ι2 H2 D (.nx ρ2 S2) from c2) rl2
def loopW (t:FT) (body:FS):Nat→Loc→Sto→RS
  | 0,_,_=>.err
  | n + 1,ρ,S=>(t ρ S).st ρ fun k S1=>if k=true then (match body ρ S1 with
    | .nx ρ1 S2=>loopW t body n ρ1 S2
    | .ct ρ1 S2=>loopW t body n ρ1 S2
    | .bk ρ1 S2=>.nx ρ1 S2
    | r=>r) else .nx ρ S1
theorem r_while {cnd:Expr} {body:List Stmt} {t:FT} {fb:FS} (n:Nat) (hp:PassesOwn (model X.prog X.w) X.A X.env X.xe) (hc:PT X cnd (tRT F Wsh t)) (hb:PSs X body (tS F Wsh fb)) :
    PS X (.While cnd body [] pos) (tS F Wsh (loopW t fb n)):=by
  refine psImp (ps_while hp hc hb) fun D σ H ⟨B,ι,ρ,S,rl,c⟩=>?_
  refine ⟨fun m σ2 H2=>∃ ι2 ρ2 S2,Rel F H2 B ι2 ρ2 S2 σ2∧SCont F Wsh B ι2 H2 D (loopW t fb m ρ2 S2),⟨n,ι,ρ,S,rl,c⟩,?_⟩
  rintro m σ2 H2 ⟨ι2,ρ2,S2,rl2,c2⟩
  cases m with
  | zero=>exact (show False from c2).elim
  | succ m =>
    refine tS_stepT rl2 c2 fun k S3 ι3 H3 x3 rl3 c3=>?_
    split
    · rename_i hk
      rw [if_pos hk] at c3
      refine ⟨fun σ4 H4=>∃ ι4 ρ4 S4,Rel F H4 B ι4 ρ4 S4 σ4∧SCont F Wsh B ι4 H4 D (loopW t fb m ρ4 S4),fun σ4 H4 h4=>⟨m,Nat.lt_succ_self m,h4⟩,B,ι3,ρ2,S3,rl3,?_⟩
      revert c3
      cases fb ρ2 S3 with
      | nx ρ4 S4=>exact fun c3 ι4 H4 σ4 x4 rl5=>⟨ι4,ρ4,S4,rl5,SCont.ext (show SCont F Wsh B ι3 H3 D (loopW t fb m ρ4 S4) from c3) x4⟩
      | ct ρ4 S4=>exact fun c3 ι4 H4 σ4 x4 rl5=>⟨ι4,ρ4,S4,rl5,SCont.ext (show SCont F Wsh B ι3 H3 D (loopW t fb m ρ4 S4) from c3) x4⟩
      | bk ρ4 S4=>exact fun c3 ι4 H4 σ4 x4 rl5=>c3 ι4 H4 σ4 x4 rl5
      | rt w4 S4=>exact fun c3=>c3
      | exn c4 d4 ρ4 S4=>exact fun c3=>c3
      | err=>exact fun c3=>c3
    · rename_i hk
      rw [if_neg hk] at c3
      exact c3.nx_here rl3
end
end Ev
namespace Ev
open PySem PySem.Spec L2
section
variable {K:PySem.W.Frag} {cls:Cl} {H:Hp} {ex:List Addr} {A:Addr} {o:HO}
theorem ne_ex {a:Addr} (h:A∈ex) (n:a ∉ ex):a ≠ A:=fun e=>n (e ▸ h)
mutual
theorem Rep.updE (x:A∈ex):∀ {d:D} {v:V},Rep K cls H ex d v→Rep K cls (upd H A o) ex d v
  | _,_,.non=>.non
  | _,_,.bl b=>.bl b
  | _,_,.int i=>.int i
  | _,_,.str i=>.str i
  | _,_,.tup n h r=>.tup n (by rw [upd_ne (ne_ex x n)]; exact h) (Reps.updE x r)
  | _,_,.tupK h1 h2 h3 h4 h5 r=>.tupK h1 h2 h3 h4 h5 (Reps.updE x r)
  | _,_,.tupF n h r=>.tupF n (by rw [upd_ne (ne_ex x n)]; exact h) (Reps.updE x r)
  | _,_,.ftp n h p r=>.ftp n (by rw [upd_ne (ne_ex x n)]; exact h) p (Reps.updE x r)
  | _,_,.lst n h r=>.lst n (by rw [upd_ne (ne_ex x n)]; exact h) (Reps.updE x r)
  | _,_,.scr n h q=>.scr n (by rw [upd_ne (ne_ex x n)]; exact h) q
  | _,_,.scrK h1 h2 h3 h4 h5 h6=>.scrK h1 h2 h3 h4 h5 h6
  | _,_,.dK n h r=>.dK n (by rw [upd_ne (ne_ex x n)]; exact h) (RepK.updE x r)
  | _,_,.ins n h r=>.ins n (by rw [upd_ne (ne_ex x n)]; exact h) (RepF.updE x r)
  | _,_,.cls c=>.cls c
  | _,_,.kdc n h r=>.kdc n (by rw [upd_ne (ne_ex x n)]; exact h) (RepN.updE x r)
  | _,_,.dkf n h r=>.dkf n (by rw [upd_ne (ne_ex x n)]; exact h) (RepK.updE x r)
  | _,_,.exi n h m g r=>.exi n (by rw [upd_ne (ne_ex x n)]; exact h) m (by rw [upd_ne (ne_ex x m)]; exact g) (Rep.updE x r)
theorem Reps.updE (x:A∈ex):∀ {d:List D} {v:List V},Reps K cls H ex d v→Reps K cls (upd H A o) ex d v
  | _,_,.nil=>.nil
  | _,_,.cons r t=>.cons (Rep.updE x r) (Reps.updE x t)
theorem RepK.updE (x:A∈ex):∀ {d:List (D×D)} {v:List (Key×V)},RepK K cls H ex d v→RepK K cls (upd H A o) ex d v
  | _,_,.nil=>.nil
  | _,_,.int r t=>.int (Rep.updE x r) (RepK.updE x t)
  | _,_,.str r t=>.str (Rep.updE x r) (RepK.updE x t)
theorem RepN.updE (x:A∈ex):∀ {d:List (D×D)} {v:List KEnt},RepN K cls H ex d v→RepN K cls (upd H A o) ex d v
  | _,_,.nil=>.nil
  | _,_,.cons k r q e t=>.cons k (Rep.updE x r) (Rep.updE x q) e (RepN.updE x t)
theorem RepF.updE (x:A∈ex):∀ {d:List (Str×D)} {v:List (Str×V)},RepF K cls H ex d v→RepF K cls (upd H A o) ex d v
  | _,_,.nil=>.nil
  | _,_,.cons r t=>.cons (Rep.updE x r) (RepF.updE x t)
end
end
section
variable {F:Fx} {H:Hp} {B:List Addr} {ι:Ads} {A:Addr} {o:HO}
theorem RC.updE (x:A∈B ++ flat ι):∀ {w:W} {v:V},RC F.K F.cls H B ι w v→RC F.K F.cls (upd H A o) B ι w v
  | .d _,_,h=>Rep.updE x h
  | .ref _,_,h=>h
theorem RCL.updE (x:A∈B ++ flat ι):∀ {w:Option W} {v:Option V},RCL F.K F.cls H B ι w v→RCL F.K F.cls (upd H A o) B ι w v
  | none,_,_=>trivial
  | some _,some _,h=>RC.updE x h
theorem RW.updE (x:A∈B ++ flat ι) (n:¬ ∃ fs,H A=some (.xd fs)) (n2:NoC H A):∀ {w:W} {v:V},RW F H B ι w v→RW F (upd H A o) B ι w v
  | .d _,_,h=>Rep.updE x h
  | .ref _,_,h=>h
  | .exc _ _,_,⟨a,dd,u,h1,h2,h3,h4,h5⟩=>⟨a,dd,u,h1.imp_right fun q=>⟨by rw [upd_ne (fun z=>q.2 (by rw [z]; exact x))]; exact q.1,q.2⟩,h2,by rw [upd_ne (fun z=>n ⟨_,by rw [← z]; exact h3⟩)]; exact h3,h4,Rep.updE x h5⟩
  | .fn,_,⟨a,c,q,ρL,σL,h1,h2,h3,h4,h5⟩=>⟨a,c,q,ρL,σL,h1,h2,by rw [upd_ne (fun z=>n2 _ _ (by rw [← z]; exact h3))]; exact h3,h4,pImp (fun _ _ r=>RCL.updE x r) h5⟩
theorem RO.updE (x:A∈B ++ flat ι) (nx:¬ ∃ fs,H A=some (.xd fs)) (n2:NoC H A) {ob:O} {p:Addr×List Addr} (n:∀ a,a=p.1∨a∈p.2→a ≠ A) (h:RO F H B ι ob p):RO F (upd H A o) B ι ob p:=by
  cases ob with
  | lst ws=>obtain ⟨h0,vs,h1,r⟩:=h; exact ⟨h0,vs,by rw [upd_ne (n _ (.inl rfl))]; exact h1,pImp (fun _ _ q=>RW.updE x nx n2 q) r⟩
  | kd ws=>obtain ⟨h0,o,vs,h1,r⟩:=h; exact ⟨h0,o,vs,by rw [upd_ne (n _ (.inl rfl))]; exact h1,pImp (fun _ _ q=>⟨q.1,q.2.1,Rep.updE x q.2.2.1,q.2.2.2.elim fun v t=>⟨v,t.1,RW.updE x nx n2 t.2⟩⟩) r⟩
  | tup ws=>obtain ⟨h0,vs,h1,r⟩:=h; exact ⟨h0,vs,by rw [upd_ne (n _ (.inl rfl))]; exact h1,pImp (fun _ _ q=>RW.updE x nx n2 q) r⟩
  | dct ws=>obtain ⟨h0,vs,h1,r⟩:=h; exact ⟨h0,vs,by rw [upd_ne (n _ (.inl rfl))]; exact h1,pImp (fun _ _ q=>⟨q.1,RW.updE x nx n2 q.2⟩) r⟩
  | ins c fs=>obtain ⟨h0,dx,vs,h1,r⟩:=h; exact ⟨h0,dx,vs,by rw [upd_ne (n _ (.inl rfl))]; exact h1,pImp (fun _ _ q=>⟨q.1,RW.updE x nx n2 q.2⟩) r⟩
  | drw cs ls m=>obtain ⟨aC,aL,h0,h1,h2,h3⟩:=h; exact ⟨aC,aL,h0,by rw [upd_ne (n _ (.inl rfl))]; exact h1,by rw [upd_ne (n _ (.inr (by rw [h0]; simp)))]; exact h2,by rw [upd_ne (n _ (.inr (by rw [h0]; simp)))]; exact h3⟩
theorem RL.updE (x:A∈B ++ flat ι) (nx:¬ ∃ fs,H A=some (.xd fs)) (n2:NoC H A):∀ {w:Option W} {v:Option V},RL F H B ι w v→RL F (upd H A o) B ι w v
  | none,_,_=>trivial
  | some _,some _,h=>RW.updE x nx n2 h
theorem tabs_upd {T:List (Addr×Str)} {us us':List V} (t:TabA T H) (h:H A=some (.lst us)):TabA T (upd H A (.lst us')):=by
  refine ⟨fun p hp=>?_,fun b ps e=>?_⟩
  · obtain ⟨ps,h1,h2,h3⟩:=t.1 p hp
    refine ⟨ps,?_,h2,fun pos cv hc=>?_⟩
    · rw [upd_ne]
      · exact h1
      · intro e; rw [e,h] at h1; cases h1
    · obtain ⟨c,e1,e2⟩:=h3 pos cv hc
      refine ⟨c,e1,?_⟩
      rw [upd_ne]
      · exact e2
      · intro e; rw [e,h] at e2; cases e2
  · by_cases z:b=A
    · rw [z,upd_same] at e; cases e
    · rw [upd_ne z] at e; exact t.2 b ps e
theorem Rel.grow {ρ:Loc} {S:Sto} {σ:L2.St} {us us':List V} (r:Rel F H B ι ρ S σ) (hB:A∈B) (hA:A ∉ flat ι) (h:H A=some (.lst us)):Rel F (upd H A (.lst us')) B ι ρ S σ:=by
  have hx:A∈B ++ flat ι:=List.mem_append_left _ hB
  have nx:¬ ∃ fs,H A=some (.xd fs):=fun ⟨fs,z⟩=>by rw [h] at z; cases z
  have n2:NoC H A:=noC_of h fun _ z=>nomatch z
  refine ⟨⟨r.nd,r.len,fun i p ob h1 h2=>(r.obj i p ob h1 h2).updE hx nx n2 fun a ha e=>?_,tabs_upd r.tab h,fun b hb=>?_,r.dis⟩,pImp (fun _ _ q=>RL.updE hx nx n2 q) r.loc⟩
  · subst e
    rcases ha with z | z
    · exact hA (z ▸ mem_flat h1)
    · exact hA (mem_flat2 h1 z)
  · by_cases e:b=A
    · rw [e,upd_same]; simp
    · rw [upd_ne e]; exact r.bs b hb
theorem RC.sub {B':List Addr} (x:∀ a∈B' ++ flat ι,H a ≠ none→a∈B ++ flat ι):∀ {w:W} {v:V},RC F.K F.cls H B ι w v→RC F.K F.cls H B' ι w v
  | .d _,_,h=>Rep.sub x h
  | .ref _,_,h=>h
theorem RCL.sub {B':List Addr} (x:∀ a∈B' ++ flat ι,H a ≠ none→a∈B ++ flat ι):∀ {w:Option W} {v:Option V},RCL F.K F.cls H B ι w v→RCL F.K F.cls H B' ι w v
  | none,_,_=>trivial
  | some _,some _,h=>RC.sub x h
theorem RW.sub {B':List Addr} (x:∀ a∈B' ++ flat ι,H a ≠ none→a∈B ++ flat ι):∀ {w:W} {v:V},RW F H B ι w v→RW F H B' ι w v
  | .d _,_,h=>Rep.sub x h
  | .ref _,_,h=>h
  | .exc _ _,_,⟨a,dd,u,h1,h2,h3,h4,h5⟩=>⟨a,dd,u,h1.imp_right fun q=>⟨q.1,fun z=>q.2 (x _ z (by rw [q.1]; simp))⟩,h2,h3,h4,Rep.sub x h5⟩
  | .fn,_,⟨a,c,q,ρL,σL,h1,h2,h3,h4,h5⟩=>⟨a,c,q,ρL,σL,h1,h2,h3,h4,pImp (fun _ _ r=>RCL.sub x r) h5⟩
theorem RO.sub {B':List Addr} (x:∀ a∈B' ++ flat ι,H a ≠ none→a∈B ++ flat ι) {ob:O} {p:Addr×List Addr} (h:RO F H B ι ob p):RO F H B' ι ob p:=by
  cases ob with
  | lst ws=>obtain ⟨h0,vs,h1,r⟩:=h; exact ⟨h0,vs,h1,pImp (fun _ _ q=>RW.sub x q) r⟩
  | tup ws=>obtain ⟨h0,vs,h1,r⟩:=h; exact ⟨h0,vs,h1,pImp (fun _ _ q=>RW.sub x q) r⟩
  | kd ws=>obtain ⟨h0,o,vs,h1,r⟩:=h; exact ⟨h0,o,vs,h1,pImp (fun _ _ q=>⟨q.1,q.2.1,Rep.sub x q.2.2.1,q.2.2.2.elim fun v t=>⟨v,t.1,RW.sub x t.2⟩⟩) r⟩
  | dct ws=>obtain ⟨h0,vs,h1,r⟩:=h; exact ⟨h0,vs,h1,pImp (fun _ _ q=>⟨q.1,RW.sub x q.2⟩) r⟩
  | ins c fs=>obtain ⟨h0,dx,vs,h1,r⟩:=h; exact ⟨h0,dx,vs,h1,pImp (fun _ _ q=>⟨q.1,RW.sub x q.2⟩) r⟩
  | drw cs ls m=>exact h
theorem RL.sub {B':List Addr} (x:∀ a∈B' ++ flat ι,H a ≠ none→a∈B ++ flat ι):∀ {w:Option W} {v:Option V},RL F H B ι w v→RL F H B' ι w v
  | none,_,_=>trivial
  | some _,some _,h=>RW.sub x h
theorem Rel.sub {B':List Addr} {ρ:Loc} {S:Sto} {σ:L2.St} (r:Rel F H B ι ρ S σ) (x:∀ a∈B' ++ flat ι,H a ≠ none→a∈B ++ flat ι) (b:∀ a∈B',H a ≠ none) (dis:∀ a∈B',a ∉ flat ι):Rel F H B' ι ρ S σ :=
  ⟨⟨r.nd,r.len,fun i p ob h1 h2=>(r.obj i p ob h1 h2).sub x,r.tab,b,dis⟩,pImp (fun _ _ q=>RL.sub x q) r.loc⟩
end
def wipeL (ρ:Loc):List Nat→Loc
  | []=>ρ
  | v :: vs=>(wipeL ρ vs).set v none
section
variable {X:Cx} {F:Fx} {Wsh:WX} {tg e:Expr} {f g:FE} {fa:FA} {pos p:Pos} {B:List Addr} {ι:Ads} {H:Hp} {ρ:Loc} {S:Sto} {σ:L2.St}
theorem rl_none {i:Nat}:∀ {ρ:Loc} {σ:L2.St},Paired (RL F H B ι) ρ σ→Paired (RL F H B ι) (ρ.set i none) (σ.set i none):=fun h=>pSet (A:=RL F H B ι) (a:=none) (b:=none) trivial i h
theorem paired_wipe:∀ (vs:List Nat) {ρ:Loc} {σ:L2.St},Paired (RL F H B ι) ρ σ→Paired (RL F H B ι) (wipeL ρ vs) (wipe σ vs)
  | [],_,_,h=>h
  | v :: vs,_,_,h=>rl_none (paired_wipe vs h)
theorem Rel.wipe (r:Rel F H B ι ρ S σ) (vs:List Nat):Rel F H B ι (wipeL ρ vs) S (L2.wipe σ vs):=⟨r.toRelS,paired_wipe vs r.loc⟩
abbrev W0:WX:=fun _ _ _ _=>False
def noX {α:Type} (r:R α):R α:=match r with
  | .exn _ _ _=>.err
  | r=>r
theorem Cont.noX {α:Type} {r:R α} {k:α→Sto→Ads→Hp→Prop} (c:Cont F Wsh B ρ σ ι H (noX r) k):Cont F W0 B ρ σ ι H r k:=by
  cases r with
  | ok a S=>exact c
  | exn _ _ _=>exact (show False from c).elim
  | err=>exact c
abbrev TestsOk (X:Cx) (F:Fx) (ifs:List Expr) (t:FT):Prop:=PTs X ifs (tRT F W0 t)
def tTrue:FT:=fun _ S=>.ok true S
theorem rt_nil:TestsOk X F [] tTrue:=⟨fun pins s σ H Q I ⟨B,ι,ρ,S,rl,c⟩=>pts_nil.run pins s σ H Q I (c.here rl)⟩
theorem rt_one {c:Expr} {t:FT} (h:PT X c (tRT F W0 t)):TestsOk X F [c] t:=pts_one h
def compL (g:FG) (t:FT) (f:FE) (ρ:Loc):List D→Sto→List D→R (List D)
  | [],S,acc=>.ok acc S
  | d :: ds,S,acc=>match g (.d d) ρ S with
    | none=>.err
    | some ρ1=>(noX (t ρ1 S)).bind fun k S1=>if k=true then (noX (f ρ1 S1)).bind fun w S2=>(match w with
        | .d y=>if acc.length < sizeLine then compL g t f ρ ds S2 (acc ++ [y]) else .err
        | _=>.err) else compL g t f ρ ds S1 acc
def fLc (fi:FI) (g:FG) (t:FT) (f:FE) (vs:List Nat):FE:=fun ρ S=>(fi ρ S).bind fun ds S1=>(compL g t f (wipeL ρ vs) ds S1 []).bind fun ys S2=>.ok (.d (.lst ys)) S2
theorem wipe_wipe {σ:L2.St}:∀ vs:List Nat,L2.wipe (L2.wipe σ vs) vs=L2.wipe σ vs
  | []=>rfl
  | v :: vs=>by
    show (L2.wipe ((L2.wipe σ vs).set v none) vs).set v none=(L2.wipe σ vs).set v none
    by_cases e:v∈vs
    · rw [wipe_set e,wipe_wipe vs]
    · rw [wipe_out1 e,wipe_wipe vs,List.set_set]
theorem lc_of {fi:FI} {gf:FG} {sl:List Nat} {t:FT} {fe:FE} {vs:List Nat} {tgr:TG} {tt:TT} {te:TE}
    (hg:GRel F gf sl tgr)
    (hsl:∀ i∈sl,i∈vs) (htt:∀ σ H Q,tRT F W0 t σ H Q→tt σ H Q) (hte:∀ σ H Q,tR F W0 fe σ H Q→te σ H Q) {Q:VK} {σ:L2.St} {H:Hp} (h:tR F Wsh (fLc fi gf t fe vs) σ H Q):tLc (tRI F Wsh fi) tgr tt te vs σ H Q:=by
  obtain ⟨B,ι,ρ,S,rl,c⟩:=h
  refine ⟨B,ι,ρ,S,rl,c.bind.mono fun ds S1 ι1 H1 _ x1 rl1 c1 J wd D hD=>?_⟩
  obtain ⟨G,Y,w,hG,hY⟩:=wd
  have hDf:=rl1.toRelS.fresh hD
  have hDB:D ∉ B:=fun z=>hDf (List.mem_append_left _ z)
  have hDι:D ∉ flat ι1:=fun z=>hDf (List.mem_append_right _ z)
  have toBig:∀ {ι2:Ads} {H2:Hp} {ρ2:Loc} {S2:Sto} {σ2:L2.St},Rel F H2 (B ++ [D]) ι2 ρ2 S2 σ2→Rel F H2 B ι2 ρ2 S2 σ2:=fun {ι2 H2 ρ2 S2 σ2} r=>r.sub (fun a ha _=>by
    rcases List.mem_append.mp ha with z | z
    · exact List.mem_append_left _ (List.mem_append_left _ z)
    · exact List.mem_append_right _ z) (fun a ha=>r.bs a (List.mem_append_left _ ha)) fun a ha=>r.dis a (List.mem_append_left _ ha)
  have rl0:Rel F (upd H1 D (.lst [])) (B ++ [D]) ι1 ρ S1 σ:=by
    have r0:=rl1.new (o:=.lst []) hD
    refine ⟨⟨r0.nd,r0.len,fun i p ob h1 h2=>?_,r0.tab,fun b hb=>?_,fun b hb=>?_⟩,?_⟩
    · refine ((rl1.obj i p ob h1 h2).sub (B':=B ++ [D]) fun a ha n=>?_).ext (Ext.new hD) fun a ha=>upd_ne fun e=>?_
      · rcases List.mem_append.mp ha with z | z
        · rcases List.mem_append.mp z with z | z
          · exact List.mem_append_left _ z
          · simp at z; rw [z,hD] at n; exact absurd rfl n
        · exact List.mem_append_right _ z
      · rw [e] at ha
        rcases ha with z | z
        · exact hDι (z ▸ mem_flat h1)
        · exact hDι (mem_flat2 h1 z)
    · rcases List.mem_append.mp hb with z | z
      · exact r0.bs b z
      · simp at z; rw [z,upd_same]; simp
    · rcases List.mem_append.mp hb with z | z
      · exact rl1.dis b z
      · simp at z; rw [z]; exact hDι
    · refine pImp (fun a b q=>?_) rl1.loc
      refine RL.ext (Ext.new hD) (RL.sub (B':=B ++ [D]) (fun a ha n=>?_) q)
      rcases List.mem_append.mp ha with z | z
      · rcases List.mem_append.mp z with z | z
        · exact List.mem_append_left _ z
        · simp at z; rw [z,hD] at n; exact absurd rfl n
      · exact List.mem_append_right _ z
  refine lc_it w (fun i H2=>∃ ι2 S2 acc us,Ext ι1 H1 ι2 H2∧Rel F H2 (B ++ [D]) ι2 (wipeL ρ vs) S2 (L2.wipe σ vs)∧Rel F H2 (B ++ [D]) ι2 ρ S2 σ∧H2 D=some (.lst us)∧D ∉ flat ι2∧RDs F H2 (B ++ [D]) ι2 acc us ∧
      Cont F Wsh B ρ σ ι1 H1 ((compL gf t fe (wipeL ρ vs) (ds.drop i) S2 acc).bind fun ys S2=>.ok (.d (.lst ys)) S2) (fun w _ ι' H'=>∀ v,RW F H' B ι' w v→Q v H'))
    ⟨ι1,S1,[],[],Ext.new hD,rl0.wipe vs,rl0,upd_same,hDι,.nil,by simpa using c1⟩ (fun i H2 _ ⟨ι2,_,_,_,x2,_⟩=>hG ι2 H2 x2.toW) ?_ ?_
  · rintro i x H2 H3 hi ⟨ι2,S2,acc,us,x2,rl2,rlσ,hus,hD2,racc,c2⟩ y
    obtain ⟨hn,d,hd,rd⟩:=hY i (B ++ [D]) ι2 H2 S2 x H3 hi x2.toW (fun a ha=>by
      rcases List.mem_append.mp ha with z | z
      · exact .inl z
      · simp at z; exact .inr (z ▸ hD)) rl2.toRelS y
    obtain ⟨rl3,x3⟩:=RelS.walked rl2 hn
    obtain ⟨rlσ3,_⟩:=RelS.walked rlσ hn
    have hus3:H3 D=some (.lst us):=x3.keep _ _ hD2 hus nt_lst
    have hdr:ds.drop i=d :: ds.drop (i + 1):=by
      rw [List.drop_eq_getElem_cons hi]
      rw [List.getElem?_eq_getElem hi] at hd
      rw [Option.some.inj hd]
    rw [hdr] at c2
    simp only [compL] at c2
    cases hgd:gf (.d d) (wipeL ρ vs) S2 with
    | none=>rw [hgd] at c2; exact (show False from c2).elim
    | some ρ3 =>
      rw [hgd] at c2
      refine hg (B ++ [D]) ι2 (wipeL ρ vs) S2 (L2.wipe σ vs) H3 (.d d) x ρ3 _ rl3 rd hgd fun σ3 rl4 hw=>⟨?_,?_⟩
      · have e1:=hw vs hsl
        rw [wipe_wipe] at e1
        exact e1
      · refine htt _ _ _ ⟨B ++ [D],ι2,ρ3,S2,rl4,?_⟩
        revert c2
        simp only []
        generalize ht:t ρ3 S2=rt
        cases rt with
        | err=>exact fun c3=>(show False from c3).elim
        | exn _ _ _=>exact fun c3=>(show False from c3).elim
        | ok k S4 =>
          intro c3 ι4 H4 x4 rl5
          have c4:Cont F Wsh B ρ σ ι1 H1 ((if k=true then (noX (fe ρ3 S4)).bind fun w S2=>(match w with
              | .d y=>if acc.length < sizeLine then compL gf t fe (wipeL ρ vs) (ds.drop (i + 1)) S2 (acc ++ [y]) else .err
              | _=>.err) else compL gf t fe (wipeL ρ vs) (ds.drop (i + 1)) S4 acc).bind fun ys S2=>.ok (.d (.lst ys)) S2) (fun w _ ι' H'=>∀ v,RW F H' B ι' w v→Q v H'):=c3
          have hus4:H4 D=some (.lst us):=x4.keep _ _ hD2 hus3 nt_lst
          have hD4:D ∉ flat ι4:=x4.notin hD2 (by rw [hus3]; simp)
          have rlσ4:Rel F H4 (B ++ [D]) ι4 ρ S4 σ:=⟨rl5.toRelS,pImp (fun _ _ q=>RL.ext x4 q) rlσ3.loc⟩
          split
          · rename_i hk
            rw [if_pos hk] at c4
            refine hte _ _ _ ⟨B ++ [D],ι4,ρ3,S4,rl5,?_⟩
            revert c4
            generalize hfe:fe ρ3 S4=rf
            cases rf with
            | err=>exact fun c4=>(show False from c4).elim
            | exn _ _ _=>exact fun c4=>(show False from c4).elim
            | ok wy S5 =>
              intro c4 ι5 H5 x5 rl6 v rv
              have hus5:H5 D=some (.lst us):=x5.keep _ _ hD4 hus4 nt_lst
              have hD5:D ∉ flat ι5:=x5.notin hD4 (by rw [hus4]; simp)
              cases wy with
              | ref _=>exact (show False from c4).elim
              | exc _ _=>exact (show False from c4).elim
              | fn=>exact (show False from c4).elim
              | d yd =>
                have c5:Cont F Wsh B ρ σ ι1 H1 ((if acc.length < sizeLine then compL gf t fe (wipeL ρ vs) (ds.drop (i + 1)) S5 (acc ++ [yd]) else .err).bind fun ys S2=>.ok (.d (.lst ys)) S2) (fun w _ ι' H'=>∀ v,RW F H' B ι' w v→Q v H'):=c4
                by_cases hz:acc.length < sizeLine
                · rw [if_pos hz] at c5
                  have racc5:RDs F H5 (B ++ [D]) ι5 acc us:=Reps.ext (x3.trans (x4.trans x5)) racc
                  have hDB':D∈B ++ [D]:=by simp
                  have hDx:D∈(B ++ [D]) ++ flat ι5:=List.mem_append_left _ hDB'
                  have xg:Ext ι1 H1 ι5 (upd H5 D (.lst (us ++ [v]))):=by
                    have x15:=x2.trans (x3.trans (x4.trans x5))
                    refine ⟨x15.at_,x15.sub,fun b hb=>?_,fun b ob nb hb nt=>?_⟩
                    · by_cases e:b=D
                      · rw [e]; exact hD
                      · rw [upd_ne e] at hb; exact x15.dom b hb
                    · rw [upd_ne (ne_of_none hb hD)]; exact x15.keep b ob nb hb nt
                  have rlσ5:Rel F H5 (B ++ [D]) ι5 ρ S5 σ:=⟨rl6.toRelS,pImp (fun _ _ q=>RL.ext (x4.trans x5) q) rlσ3.loc⟩
                  refine ⟨us,hus5,by rw [← reps_len racc5]; exact hz,ι5,S5,acc ++ [yd],us ++ [v],xg,(rlσ5.wipe vs).grow hDB' hD5 hus5,rlσ5.grow hDB' hD5 hus5,upd_same,hD5,
                    reps_app (Reps.updE hDx racc5) (.cons (Rep.updE hDx rv) .nil),c5⟩
                · rw [if_neg hz] at c5
                  exact (show False from c5).elim
          · rename_i hk
            rw [if_neg hk] at c4
            exact ⟨ι4,S4,acc,us,x2.trans (x3.trans x4),rlσ4.wipe vs,rlσ4,hus4,hD4,Reps.ext (x3.trans x4) racc,c4⟩
  · rintro H2 ⟨ι2,S2,acc,us,x2,rl2,rlσ,hus,hD2,racc,c2⟩
    rw [List.drop_length] at c2
    have c3:Cont F Wsh B ρ σ ι1 H1 (.ok (W.d (.lst acc)) S2) (fun w _ ι' H'=>∀ v,RW F H' B ι' w v→Q v H'):=c2
    refine c3 ι2 H2 x2 (toBig rlσ) _ ?_
    refine .lst (fun z=>?_) hus (Reps.sub (fun a ha _=>?_) racc)
    · rcases List.mem_append.mp z with q | q
      · exact hDB q
      · exact hD2 q
    · rcases List.mem_append.mp ha with z | z
      · exact List.mem_append_left _ (List.mem_append_left _ z)
      · exact List.mem_append_right _ z
theorem r_lc {elt tg iter:Expr} {ifs:List Expr} {scope:Scope} {own:List (Str×Nat)} {pos:Pos} {fi:FI} {gf:FG} {sl:List Nat} {t:FT} {fe:FE} {tgr:TG} (hc:X.calm=true) (hN:X.N.Nodup) (hi:PI X tg iter (tRI F Wsh fi)) (ok:BlkOk X.N X.env.scope scope own)
    (hr:GRel F gf sl tgr) (hsl:∀ i∈sl,i∈own.map (·.2))
    (hg:∀ (s:Shared) (H:Hp) (C:Addr) (cl:List (Str×Addr)) (fp:List Addr),PG (X.blk s H scope (compEnvC scope cl C X.env) fp) tg tgr) (ht:∀ (s:Shared) (H:Hp) (C:Addr) (cl:List (Str×Addr)) (fp:List Addr),TestsOk (X.blk s H scope (compEnvC scope cl C X.env) fp) F ifs t)
    (he:∀ (s:Shared) (H:Hp) (C:Addr) (cl:List (Str×Addr)) (fp:List Addr),PE (X.blk s H scope (compEnvC scope cl C X.env) fp) elt (tR F W0 fe)) (hs:∀ x,foldedSetIterable iter X.env x=pure x:=by intro _; rfl) :
    PE X (.ListComp elt [⟨tg,iter,ifs,0⟩] scope pos) (tR F Wsh (fLc fi gf t fe (own.map (·.2)))) :=
  peImp (pe_lc hc hN hi ok hg ht he hs) fun σ H Q h=>lc_of hr hsl (fun _ _ _ q=>q) (fun _ _ _ q=>q) h
end
end Ev
namespace Ev
open PySem PySem.Spec L2
open PyProof.Rows (envOfC)
abbrev FF:=List W→Sto→R W
section
variable (F:Fx)
def CCont (B:List Addr) (ι:Ads) (H:Hp) (Q:VK) (E:XK) (r:R W):Prop:=match r with
  | .ok w S=>∀ ι' H' v,Ext ι H ι' H'→RelS F H' B ι' S→RW F H' B ι' w v→Q v H'
  | .exn c x S=>∀ ι' H' cv d,Ext ι H ι' H'→RelS F H' B ι' S→RX F H' B ι' c x cv d→E cv d H'
  | .err=>False
def spF (n:Nat) (f:FF):Sp:=fun vs H Q E=>vs.length=n∧∃ B ι S ws,RelS F H B ι S∧RWs F H B ι ws vs∧CCont F B ι H Q E (f ws S)
end
structure FnG (gd:Bool) (P:Program) (w:World) (K:PySem.W.Frag) (mg:Str→Option Value) (base:Heap) (k:Nat) (f:Addr) (fd:FuncData) (ps:List Str) (sp:Sp):Prop where
  len:∀ vs H Q E,sp vs H Q E→vs.length=ps.length
  run:∀ (A:Around) (outer:List Env) (s:Shared) (H:Hp) (args:Args) (us:List Value) (vs:List V) (Q:VK) (E:XK),Room k A→(gd=true→A.guards=some [])→Env0 P w K mg base A outer s H→BindsTo s fd args (ps.zip us)→Vals vs us→sp vs H Q E →
    codeAny (model P w) A (.call (.ref f) args) (CR (L2.CX P w) outer P w H s Q E) s
section
variable {gd:Bool} {P:Program} {w:World} {K:PySem.W.Frag} {mg:Str→Option Value} {base:Heap} {k:Nat} {f:Addr} {fd:FuncData} {ps:List Str} {sp sp':Sp}
theorem FnG.imp (G:FnG gd P w K mg base k f fd ps sp) (h:∀ vs H Q E,sp' vs H Q E→sp vs H Q E):FnG gd P w K mg base k f fd ps sp' :=
  ⟨fun vs H Q E q=>G.len vs H Q E (h _ _ _ _ q),fun A outer s H args us vs Q E hr hg he hb hv hs=>G.run A outer s H args us vs Q E hr hg he hb hv (h _ _ _ _ hs)⟩
theorem FnG.mono {j:Nat} (G:FnG gd P w K mg base j f fd ps sp) (h:j≤k):FnG gd P w K mg base k f fd ps sp:=⟨G.len,fun A outer s H args us vs Q E hr=>G.run A outer s H args us vs Q E (hr.mono h)⟩
theorem fnG_of {name qual:Str} {params:Arguments} {body:List Stmt} {scope:Scope} {dV kV doc pm cdv ct oc:Value} {an od:Option Addr} {osl:Array (Option Value)} {N:List Str}
    (lk:K.lookup f=some ⟨oc,od,.func (PySem.W.fnOf name qual params body scope dV kV doc pm an cdv ct),osl⟩) (hcd:PySem.W.codeIn K cdv qual=true) (S:FnScope N ps scope)
    (len:∀ vs H Q E,sp vs H Q E→vs.length=ps.length)
    (hbody:∀ (A:Around) (outer:List Env) (s:Shared) (H:Hp) (vs:List V) (Q:VK) (E:XK),Room k (A.deeper (envOfC qual scope s.heap.objs.size f cdv))→(gd=true→A.guards=some [])→sp vs H Q E →
      ∃ t,PSs (cxOf (L2.CX P w) P w K mg base N qual scope f cdv A outer s H E) body t∧t { nx:=fun _ H'=>Q .non H',rt:=Q } (L2.start N vs) H) :
    FnG gd P w K mg base (k + 1) f (PySem.W.fnOf name qual params body scope dV kV doc pm an cdv ct) ps sp:=by
  refine ⟨len,fun A outer s H args us vs Q E room hgd e0 bnd rel hsp=>?_⟩
  have el:=len _ _ _ _ hsp
  have old:=fun (b:Addr) (o:Obj) (e:base.get? b=some o)=>(e0.bs b o e).1
  have hin:K.In s.heap:=e0.mod.kin.keeps old
  have hlim:s.heap.NoLimit:=e0.mod.nolimit.keeps old
  have kinds:∀ q∈ps.zip us,scope.names.lookup q.1=some .local ∨
      (scope.names.lookup q.1=some .cell∧((cellsFrom (s.heap.objs.size + 1) scope.names []).lookup q.1).isSome=true):=by
    rintro ⟨n,v⟩ hq
    cases S.par n (List.of_mem_zip hq).1 with
    | inl z=>exact .inl z
    | inr z=>exact .inr ⟨z,PySem.W.cellsFrom_some _ _ _ (.inl z)⟩
  apply codeAny_call_function room.depth (hin _ _ lk) rfl S.co S.gen rfl (PySem.W.codeRec_of hin hcd)
  apply bnd
  apply wpAny_newFunctionEnv_cells S.kind kinds
  intro env henv s1 ic
  subst henv
  refine ⟨hlim.keeps ic.toInCall.keep,codeAny_func ?_⟩
  obtain ⟨t,hps,ht⟩:=hbody A outer s H vs Q E (room.deeper _) hgd hsp
  have J:=inv_start (CX:=L2.CX P w) (E:=E) S room.hd e0 el rel ic
  refine wpAny_mono (hps.run [] s1 (L2.start N vs) H _ J ht) (fun fl s' hs=>?_) (fun _ _ z=>z)
  rcases fl with _ | _ | _ | u
  · obtain ⟨σ',H',J',q⟩:=hs
    exact ⟨V.non,H',J'.os,J'.bare,J'.base,J'.hok,rfl,q⟩
  · exact hs.choose_spec.choose_spec.2.elim
  · exact hs.choose_spec.choose_spec.2.elim
  · obtain ⟨v,σ',H',J',rv,q⟩:=hs
    exact ⟨v,H',J'.os,J'.bare,J'.base,J'.hok,rv,q⟩
def bodyF (n:Nat) (g:FS):FF:=fun ws S=>match g (ws.map some ++ List.replicate (n - ws.length) none) S with
  | .rt w S1=>.ok w S1
  | .nx _ S1=>.ok (.d .non) S1
  | .exn c x _ S1=>.exn c x S1
  | _=>.err
theorem start_rel {F:Fx} {H:Hp} {B:List Addr} {ι:Ads}:∀ {ws:List W} {vs:List V} (m:Nat),RWs F H B ι ws vs→Paired (RL F H B ι) (ws.map some ++ List.replicate m none) (vs.map some ++ List.replicate m none)
  | _,_,m,.nil=>by
    show Paired _ (List.replicate m none) (List.replicate m none)
    induction m with
    | zero=>exact .nil
    | succ m ih=>exact .cons trivial ih
  | _,_,m,.cons r t=>.cons r (start_rel m t)
theorem def_ok {F:Fx} {x qual:Str} {st:Stmt} {N:List Str} {g:FS} (Fn:Fun F.K x qual st f fd) (S:FnScope N ps (defScope st))
    (hb:∀ (cdv:Value) (A:Around) (outer:List Env) (s:Shared) (H:Hp) (E:XK),Room k (A.deeper (envOfC qual (defScope st) s.heap.objs.size f cdv))→(gd=true→A.guards=some []) →
      PSs (cxOf (L2.CX P w) P w F.K mg base N qual (defScope st) f cdv A outer s H E) (defBody st) (tS F (fun cls d _ H=>E cls d H) g)) :
    FnG gd P w F.K mg base (k + 1) f fd ps (spF F ps.length (bodyF N.length g)):=by
  obtain ⟨oc,od,kV,doc,pm,an,cdv,ct,osl,rfl,lk,hcd⟩:=Fn.ex
  refine fnG_of lk hcd S (fun vs H Q E h=>h.1) fun A outer s H vs Q E hr hg hsp=>⟨_,hb cdv A outer s H E hr hg,?_⟩
  obtain ⟨hl,B,ι,S0,ws,rs,rw,c⟩:=hsp
  have hlw:ws.length=vs.length:=Paired.length rw
  refine ⟨B,ι,ws.map some ++ List.replicate (N.length - ws.length) none,S0,⟨rs,?_⟩,?_⟩
  · unfold L2.start
    rw [hlw]
    exact start_rel _ rw
  · unfold bodyF at c
    revert c
    cases g (ws.map some ++ List.replicate (N.length - ws.length) none) S0 with
    | nx ρ S1=>exact fun c ι' H' σ' x r=>c ι' H' .non x r.toRelS .non
    | rt w S1=>exact fun c ι' H' v x r rv=>c ι' H' v x r rv
    | exn cc d ρ S1=>exact fun c ι' H' σ' cv od x r rx=>c ι' H' cv od x r.toRelS rx
    | bk _ _=>exact fun c=>(show False from c).elim
    | ct _ _=>exact fun c=>(show False from c).elim
    | err=>exact fun c=>(show False from c).elim
end
theorem paired_all {α β:Type} {P:α→Prop} {A C:α→β→Prop}:∀ {l:List α} {m:List β},(∀ a∈l,P a)→(∀ a b,P a→A a b→C a b)→Paired A l m→Paired C l m
  | _,_,_,_,.nil=>.nil
  | _,_,h,f,.cons r t=>.cons (f _ _ (h _ (by simp)) r) (paired_all (fun a ha=>h a (List.mem_cons_of_mem _ ha)) f t)
def refLt (n:Nat):W→Bool
  | .d _=>true
  | .ref i=>decide (i < n)
  | .exc _ _=>false
  | .fn=>false
def objLt (n:Nat):O→Bool
  | .lst ws=>ws.all (refLt n)
  | .tup ws=>ws.all (refLt n)
  | .kd kvs=>kvs.all fun p=>refLt n p.2
  | .dct kvs=>kvs.all fun p=>refLt n p.2
  | .drw _ _ _=>true
  | .ins _ fs=>fs.all fun p=>refLt n p.2
def datF:List (Str×W)→Option (List (Str×D))
  | []=>some []
  | (f,.d x) :: fs=>(datF fs).map ((f,x) :: ·)
  | _ :: _=>none
def seen (S:Sto):W→Option D
  | .ref i=>match S[i]? with
    | some (.ins c fs)=>(datF fs).map (.ins c)
    | _=>view S (.ref i)
  | w=>view S w
def dpD (g:W→Option D):List W→Option (List D)
  | []=>some []
  | w :: ws=>match g w,dpD g ws with
    | some d,some ds=>some (d :: ds)
    | _,_=>none
def dpF (g:W→Option D):List (Str×W)→Option (List (Str×D))
  | []=>some []
  | (f,w) :: ws=>match g w,dpF g ws with
    | some d,some ds=>some ((f,d) :: ds)
    | _,_=>none
def dpN (g:W→Option D):List (D×W)→Option (List (D×D))
  | []=>some []
  | (k,w) :: ws=>match g w,dpN g ws with
    | some d,some ds=>some ((k,d) :: ds)
    | _,_=>none
def keyA:Key→D
  | .inl i=>.int i
  | .inr x=>.str x
def dpK (g:W→Option D):List (Key×W)→Option (List (D×D))
  | []=>some []
  | (k,w) :: ws=>match g w,dpK g ws with
    | some d,some ds=>some ((keyA k,d) :: ds)
    | _,_=>none
def deep (n:Nat) (S:Sto):Nat→W→Option D
  | 0,_=>none
  | _ + 1,.d x=>some x
  | f + 1,.ref i=>if i < n then none else match S[i]? with
    | some (.lst ws)=>(dpD (deep n S f) ws).map .lst
    | some (.tup ws)=>(dpD (deep n S f) ws).map .tup
    | some (.ins c fs)=>(dpF (deep n S f) fs).map (.ins c)
    | some (.kd kvs)=>(dpN (deep n S f) kvs).map .kdc
    | some (.dct kvs)=>(dpK (deep n S f) kvs).map .dct
    | _=>none
  | _ + 1,_=>none
def seenN (n:Nat) (S:Sto) (w:W):Option D:=match seen S w with
  | some d=>some d
  | none=>deep n S 6 w
theorem seenN_of {n:Nat} {S:Sto} {w:W} {d:D} (h:seen S w=some d):seenN n S w=some d:=by simp [seenN,h]
def handOut (n:Nat) (S:Sto) (w:W):Option W:=if refLt n w then some w else (seenN n S w).map W.d
def called (f:FF):FF:=fun ws S=>match dats ws with
  | some _=>(match f ws [] with
    | .ok w S1=>(match seenN 0 S1 w with
      | some d=>.ok (.d d) S
      | none=>.err)
    | .exn c x _=>.exn c x S
    | .err=>.err)
  | none=>(match f ws S with
    | .ok w S1=>if (S1.take S.length).all (objLt S.length) && decide (S.length≤S1.length) then (match handOut S.length S1 w with
      | some w2=>.ok w2 (S1.take S.length)
      | none=>.err) else .err
    | .exn c x S1=>if (S1.take S.length).all (objLt S.length) && decide (S.length≤S1.length) then .exn c x (S1.take S.length) else .err
    | .err=>.err)
section
variable {F:Fx} {H H':Hp} {B:List Addr} {ι ι':Ads}
theorem dats_data:∀ {ws:List W} {ds:List D},dats ws=some ds→ws=ds.map W.d
  | [],_,e=>by simp [dats] at e; subst e; rfl
  | .d x :: ws,_,e=>by
    simp only [dats,Option.map_eq_some_iff] at e
    obtain ⟨es,e1,rfl⟩:=e
    rw [dats_data e1]
    rfl
  | .ref _ :: _,_,e=>by simp [dats] at e
  | .exc _ _ :: _,_,e=>by simp [dats] at e
  | .fn :: _,_,e=>by simp [dats] at e
theorem flat_take (n:Nat):∀ a∈flat (ι.take n),a∈flat ι:=fun a ha=>by
  obtain ⟨p,hp,h⟩:=List.mem_flatMap.mp ha
  exact List.mem_flatMap.mpr ⟨p,List.mem_of_mem_take hp,h⟩
theorem view_out {S:Sto} {w:W} {v:V} {d:D} {C:List Addr} (rs:RelS F H B ι S) (rw:RW F H B ι w v) (e:view S w=some d) (hw:∀ i p,w=.ref i→ι[i]? = some p→p.1 ∉ C) (hC:∀ a∈C,H a ≠ none→a∈B ++ flat ι):Rep F.K F.cls H C d v:=by
  cases w with
  | d x =>
    simp [view] at e
    subst e
    exact Rep.sub hC rw
  | exc _ _=>simp [view] at e
  | fn=>simp [view] at e
  | ref i =>
    obtain ⟨p,hp,rfl⟩:=rw
    obtain ⟨o,ho,ro⟩:=rs.at_some hp
    simp only [view,ho] at e
    cases o with
    | lst ws =>
      simp only [Option.map_eq_some_iff] at e
      obtain ⟨es,e1,rfl⟩:=e
      obtain ⟨_,vs,h1,rv⟩:=ro
      exact .lst (hw i p rfl hp) h1 (Reps.sub hC (dats_reps e1 rv))
    | tup _=>simp at e
    | kd _=>simp at e
    | dct _=>simp at e
    | drw _ _ _=>simp at e
    | ins _ _=>simp at e
theorem datF_reps:∀ {fs:List (Str×W)} {vs:List (Str×V)} {ds:List (Str×D)},datF fs=some ds→RWF F H B ι fs vs→RepF F.K F.cls H (B ++ flat ι) ds vs
  | [],_,ds,e,.nil=>by simp [datF] at e; subst e; exact .nil
  | (f,.d x) :: fs,(g,v) :: vs,ds,e,.cons r t=>by
    simp only [datF,Option.map_eq_some_iff] at e
    obtain ⟨es,e1,rfl⟩:=e
    obtain ⟨rfl,r⟩:=r
    exact .cons r (datF_reps e1 t)
  | (_,.ref _) :: _,_,_,e,_=>by simp [datF] at e
  | (_,.exc _ _) :: _,_,_,e,_=>by simp [datF] at e
  | (_,.fn) :: _,_,_,e,_=>by simp [datF] at e
theorem seen_out {S:Sto} {w:W} {v:V} {d:D} {C:List Addr} (rs:RelS F H B ι S) (rw:RW F H B ι w v) (e:seen S w=some d) (hw:∀ i p,w=.ref i→ι[i]? = some p→p.1 ∉ C) (hC:∀ a∈C,H a ≠ none→a∈B ++ flat ι):Rep F.K F.cls H C d v:=by
  cases w with
  | ref i =>
    obtain ⟨p,hp,ev⟩:=id rw
    obtain ⟨o,ho,ro⟩:=rs.at_some hp
    cases o with
    | ins c fs =>
      simp only [seen,ho,Option.map_eq_some_iff] at e
      obtain ⟨es,e1,rfl⟩:=e
      obtain ⟨_,dx,vs,h1,rv⟩:=ro
      subst ev
      exact .ins (hw i p rfl hp) h1 (RepF.sub hC (datF_reps e1 rv))
    | lst ws=>exact view_out rs rw (by simpa only [seen,ho] using e) hw hC
    | tup ws=>exact view_out rs rw (by simpa only [seen,ho] using e) hw hC
    | kd ws=>exact view_out rs rw (by simpa only [seen,ho] using e) hw hC
    | dct ws=>exact view_out rs rw (by simpa only [seen,ho] using e) hw hC
    | drw _ _ _=>exact view_out rs rw (by simpa only [seen,ho] using e) hw hC
  | d x=>exact view_out rs rw e hw hC
  | exc _ _=>exact view_out rs rw e hw hC
  | fn=>exact view_out rs rw e hw hC
theorem dpD_reps {C:List Addr} {g:W→Option D} (hg:∀ w v d,g w=some d→RW F H B ι w v→Rep F.K F.cls H C d v):∀ {ws:List W} {vs:List V} {ds:List D},dpD g ws=some ds→RWs F H B ι ws vs→Reps F.K F.cls H C ds vs
  | [],_,_,e,.nil=>by simp [dpD] at e; subst e; exact .nil
  | w :: ws,_,_,e,.cons r t=>by
    unfold dpD at e
    split at e
    · rename_i d ds e1 e2
      cases e
      exact .cons (hg _ _ _ e1 r) (dpD_reps hg e2 t)
    · cases e
theorem dpF_reps {C:List Addr} {g:W→Option D} (hg:∀ w v d,g w=some d→RW F H B ι w v→Rep F.K F.cls H C d v):∀ {ws:List (Str×W)} {vs:List (Str×V)} {ds:List (Str×D)},dpF g ws=some ds→RWF F H B ι ws vs→RepF F.K F.cls H C ds vs
  | [],_,_,e,.nil=>by simp [dpF] at e; subst e; exact .nil
  | (f,w) :: ws,(f',v) :: vs,_,e,.cons r t=>by
    unfold dpF at e
    split at e
    · rename_i d ds e1 e2
      cases e
      obtain ⟨r1,r2⟩:=r
      dsimp only at r1 r2
      subst r1
      exact .cons (hg _ _ _ e1 r2) (dpF_reps hg e2 t)
    · cases e
theorem dpN_reps {C:List Addr} {g:W→Option D} (hC:∀ a∈C,H a ≠ none→a∈B ++ flat ι) (hg:∀ w v d,g w=some d→RW F H B ι w v→Rep F.K F.cls H C d v):∀ {ws:List (D×W)} {vs:List KEnt} {ds:List (D×D)},dpN g ws=some ds→RWN F H B ι ws vs→RepN F.K F.cls H C ds vs
  | [],_,_,e,.nil=>by simp [dpN] at e; subst e; exact .nil
  | (k,w) :: ws,(k',b,u) :: vs,_,e,.cons r t=>by
    unfold dpN at e
    split at e
    · rename_i d ds e1 e2
      cases e
      obtain ⟨r1,r2,r3,v,r4,r5⟩:=r
      dsimp only at r1 r2 r3 r4 r5
      subst r2
      exact .cons r1 (Rep.sub hC r3) (hg _ _ _ e1 r5) r4 (dpN_reps hC hg e2 t)
    · cases e
theorem dpK_reps {C:List Addr} {g:W→Option D} (hg:∀ w v d,g w=some d→RW F H B ι w v→Rep F.K F.cls H C d v):∀ {ws:List (Key×W)} {vs:List (Key×V)} {ds:List (D×D)},dpK g ws=some ds→RWK F H B ι ws vs→RepK F.K F.cls H C ds vs
  | [],_,_,e,.nil=>by simp [dpK] at e; subst e; exact .nil
  | (k,w) :: ws,(k',v) :: vs,_,e,.cons r t=>by
    unfold dpK at e
    split at e
    · rename_i d ds e1 e2
      cases e
      obtain ⟨r1,r2⟩:=r
      dsimp only at r1 r2
      subst r1
      cases k with
      | inl i=>exact .int (hg _ _ _ e1 r2) (dpK_reps hg e2 t)
      | inr x=>exact .str (hg _ _ _ e1 r2) (dpK_reps hg e2 t)
    · cases e
theorem deep_out {S:Sto} {n:Nat} {C:List Addr} (rs:RelS F H B ι S) (hw:∀ i p,n≤i→ι[i]? = some p→p.1 ∉ C) (hC:∀ a∈C,H a ≠ none→a∈B ++ flat ι):∀ (f:Nat) (w:W) (v:V) (d:D),deep n S f w=some d→RW F H B ι w v→Rep F.K F.cls H C d v
  | 0,_,_,_,e,_=>by simp [deep] at e
  | f + 1,.d x,v,d,e,r=>by
    simp only [deep,Option.some.injEq] at e
    subst e
    exact Rep.sub hC r
  | f + 1,.exc _ _,v,d,e,r=>by simp [deep] at e
  | f + 1,.fn,v,d,e,r=>by simp [deep] at e
  | f + 1,.ref i,v,d,e,r=>by
    obtain ⟨p,hp,rfl⟩:=r
    obtain ⟨o,ho,ro⟩:=rs.at_some hp
    simp only [deep,ho] at e
    split at e
    · cases e
    · rename_i hi
      have hn:=hw i p (Nat.le_of_not_lt hi) hp
      have ih:=deep_out rs hw hC f
      cases o with
      | lst ws =>
        simp only [Option.map_eq_some_iff] at e
        obtain ⟨ds,e1,rfl⟩:=e
        obtain ⟨_,vs,h1,rv⟩:=ro
        exact .lst hn h1 (dpD_reps ih e1 rv)
      | tup ws =>
        simp only [Option.map_eq_some_iff] at e
        obtain ⟨ds,e1,rfl⟩:=e
        obtain ⟨_,vs,h1,rv⟩:=ro
        exact .tup hn h1 (dpD_reps ih e1 rv)
      | ins c fs =>
        simp only [Option.map_eq_some_iff] at e
        obtain ⟨ds,e1,rfl⟩:=e
        obtain ⟨_,dx,vs,h1,rv⟩:=ro
        exact .ins hn h1 (dpF_reps ih e1 rv)
      | kd kvs =>
        simp only [Option.map_eq_some_iff] at e
        obtain ⟨ds,e1,rfl⟩:=e
        obtain ⟨_,oo,vs,h1,rv⟩:=ro
        exact .kdc hn h1 (dpN_reps hC ih e1 rv)
      | dct kvs =>
        simp only [Option.map_eq_some_iff] at e
        obtain ⟨ds,e1,rfl⟩:=e
        obtain ⟨_,vs,h1,rv⟩:=ro
        exact .dK hn h1 (dpK_reps ih e1 rv)
      | drw _ _ _=>simp at e
theorem seenN_out {S:Sto} {n:Nat} {w:W} {v:V} {d:D} {C:List Addr} (rs:RelS F H B ι S) (rw:RW F H B ι w v) (e:seenN n S w=some d) (h1:∀ i p,w=.ref i→ι[i]? = some p→p.1 ∉ C) (hw:∀ i p,n≤i→ι[i]? = some p→p.1 ∉ C) (hC:∀ a∈C,H a ≠ none→a∈B ++ flat ι):Rep F.K F.cls H C d v:=by
  unfold seenN at e
  split at e
  · rename_i d' e'
    cases e
    exact seen_out rs rw e' h1 hC
  · exact deep_out rs hw hC 6 w v d e rw
theorem rx_out {c:Nat} {x:D} {cv:Value} {d:Option Addr} {B':List Addr} {ι2:Ads} (h:RX F H B ι c x cv d) (n:∀ a o,H a=some (.xd o)→a ∉ flat ι2) (hC:∀ a∈B' ++ flat ι2,H a ≠ none→a∈B ++ flat ι):RX F H B' ι2 c x cv d:=by
  obtain ⟨e,a,v,e2,h1,_,r⟩:=h
  exact ⟨e,a,v,e2,h1,n a _ h1,Rep.sub hC r⟩
theorem not_xd {S:Sto} (r:RelS F H B ι S) (a:Addr) (o:List (Str×V)) (h:H a=some (.xd o)):a ∉ flat ι:=fun z=>by
  obtain ⟨i,p,ob,h1,h2,ro,ha⟩:=r.mem_flat z
  cases ob with
  | lst ws =>
    obtain ⟨h0,vs,e,_⟩:=ro
    rcases ha with rfl | ha
    · rw [e] at h; cases h
    · rw [h0] at ha; simp at ha
  | tup ws =>
    obtain ⟨h0,vs,e,_⟩:=ro
    rcases ha with rfl | ha
    · rw [e] at h; cases h
    · rw [h0] at ha; simp at ha
  | kd ws =>
    obtain ⟨h0,_,vs,e,_⟩:=ro
    rcases ha with rfl | ha
    · rw [e] at h; cases h
    · rw [h0] at ha; simp at ha
  | dct ws =>
    obtain ⟨h0,vs,e,_⟩:=ro
    rcases ha with rfl | ha
    · rw [e] at h; cases h
    · rw [h0] at ha; simp at ha
  | ins c fs =>
    obtain ⟨h0,dx,vs,e,_⟩:=ro
    rcases ha with rfl | ha
    · rw [e] at h; cases h
    · rw [h0] at ha; simp at ha
  | drw _ _ _ =>
    obtain ⟨aC,aL,h0,e,e2,e3⟩:=ro
    rcases ha with rfl | ha
    · rw [e] at h; cases h
    · rw [h0] at ha
      simp at ha
      rcases ha with rfl | rfl
      · rw [e2] at h; cases h
      · rw [e3] at h; cases h
theorem away {S S1:Sto} (rs:RelS F H B ι S) (x:Ext [] H ι' H') (r1:RelS F H' (B ++ flat ι) ι' S1):Ext ι H ι H'∧RelS F H' B ι S:=by
  have ex:Ext ι H ι H':=⟨fun _ p h=>⟨p,h,rfl⟩,fun _ z=>.inl z,x.dom,fun b o _ h nt=>x.keep b o (fun z=>by simp [flat] at z) h nt⟩
  refine ⟨ex,rs.stay ex (fun a ha=>?_) r1.tab⟩
  obtain ⟨i,p,ob,h1,h2,ro,hap⟩:=rs.mem_flat ha
  cases q:H a with
  | none=>exact absurd q (ro.tracked hap)
  | some u=>rw [x.keep a u (fun z=>by simp [flat] at z) q (ro.ntbl hap q).1]
theorem cut_store {S1:Sto} {n:Nat} (r:RelS F H B ι S1) (hc:(S1.take n).all (objLt n)=true):RelS F H B (ι.take n) (S1.take n):=by
  have hsub:∀ a∈B ++ flat (ι.take n),H a ≠ none→a∈B ++ flat ι:=fun a ha _=>by
    rcases List.mem_append.mp ha with z | z
    · exact List.mem_append_left _ z
    · exact List.mem_append_right _ (flat_take n a z)
  have rwSub:∀ {w:W} {v:V},refLt n w=true→RW F H B ι w v→RW F H B (ι.take n) w v:=fun {w v} h r=>by
    cases w with
    | d x=>exact Rep.sub hsub r
    | exc _ _=>simp [refLt] at h
    | fn=>simp [refLt] at h
    | ref i =>
      obtain ⟨p,hp,e⟩:=r
      have hi:i < n:=by simpa [refLt] using h
      exact ⟨p,by rw [List.getElem?_take_of_lt hi]; exact hp,e⟩
  refine ⟨?_,by rw [List.length_take,List.length_take,r.len],fun i p o h1 h2=>?_,r.tab,r.bs,fun b hb z=>r.dis b hb (flat_take n b z)⟩
  · have e:flat ι=flat (ι.take n) ++ flat (ι.drop n):=by
      unfold flat
      rw [← List.flatMap_append,List.take_append_drop]
    have nd:=r.nd
    rw [e] at nd
    exact (List.nodup_append.mp nd).1
  · have hi:i < n:=by
      have:=(List.getElem?_eq_some_iff.mp h1).1
      rw [List.length_take] at this
      omega
    have h1':ι[i]? = some p:=by rw [List.getElem?_take_of_lt hi] at h1; exact h1
    have h2':S1[i]? = some o:=by rw [List.getElem?_take_of_lt hi] at h2; exact h2
    have ho:objLt n o=true:=List.all_eq_true.mp hc o (List.mem_iff_getElem?.mpr ⟨i,h2⟩)
    have ro:=r.obj i p o h1' h2'
    cases o with
    | lst ws =>
      obtain ⟨h0,vs,e,rv⟩:=ro
      exact ⟨h0,vs,e,paired_all (List.all_eq_true.mp (by simpa [objLt] using ho)) (fun _ _ a b=>rwSub a b) rv⟩
    | kd ws =>
      obtain ⟨h0,oo,vs,e,rv⟩:=ro
      exact ⟨h0,oo,vs,e,paired_all (P:=fun p:D×W=>refLt n p.2=true) (List.all_eq_true.mp (by simpa [objLt] using ho)) (fun _ _ a q=>⟨q.1,q.2.1,Rep.sub hsub q.2.2.1,q.2.2.2.elim fun v t=>⟨v,t.1,rwSub a t.2⟩⟩) rv⟩
    | tup ws =>
      obtain ⟨h0,vs,e,rv⟩:=ro
      exact ⟨h0,vs,e,paired_all (List.all_eq_true.mp (by simpa [objLt] using ho)) (fun _ _ a b=>rwSub a b) rv⟩
    | dct ws =>
      obtain ⟨h0,vs,e,rv⟩:=ro
      exact ⟨h0,vs,e,paired_all (P:=fun p:Key×W=>refLt n p.2=true) (List.all_eq_true.mp (by simpa [objLt] using ho)) (fun _ _ a b=>⟨b.1,rwSub a b.2⟩) rv⟩
    | ins c fs =>
      obtain ⟨h0,dx,vs,e,rv⟩:=ro
      exact ⟨h0,dx,vs,e,paired_all (P:=fun p:Str×W=>refLt n p.2=true) (List.all_eq_true.mp (by simpa [objLt] using ho)) (fun _ _ a b=>⟨b.1,rwSub a b.2⟩) rv⟩
    | drw _ _ _=>exact ro
theorem sp_called {n:Nat} {f:FF} {vs:List V} {Q:VK} {E:XK} (h:spF F n (called f) vs H Q E):spF F n f vs H Q E:=by
  obtain ⟨hl,B,ι,S,ws,rs,rw,c⟩:=h
  refine ⟨hl,?_⟩
  unfold called at c
  split at c
  · rename_i ds hd
    have ew:=dats_data hd
    refine ⟨B ++ flat ι,[],[],ws,⟨by simp [flat],rfl,fun i p o h1=>by simp at h1,rs.tab,fun b hb=>?_,fun b _ z=>by simp [flat] at z⟩,?_,?_⟩
    · rcases List.mem_append.mp hb with z | z
      · exact rs.bs b z
      · exact rs.mem_some z
    · subst ew
      have r:=dats_reps hd rw
      have r':RDs F H (B ++ flat ι) [] ds vs:=by
        refine Reps.sub (fun a ha _=>?_) r
        simpa [flat] using ha
      exact reps_rws r'
    · revert c
      cases f ws [] with
      | err=>exact fun c=>c
      | ok w S1 =>
        intro c ι' H' v x r1 rv
        obtain ⟨ex,rs'⟩:=away rs x r1
        simp only at c
        cases hv:seenN 0 S1 w with
        | none=>rw [hv] at c; exact (show False from c).elim
        | some d =>
          rw [hv] at c
          refine c ι H' v ex rs' (seenN_out (C:=B ++ flat ι) r1 rv hv (fun i p _ hp z=>r1.dis _ z (mem_flat hp)) (fun i p _ hp z=>r1.dis _ z (mem_flat hp)) fun a ha _=>List.mem_append_left _ ha)
      | exn cc d S1 =>
        intro c ι' H' cv od x r1 rx
        obtain ⟨ex,rs'⟩:=away rs x r1
        exact c ι H' cv od ex rs' (rx_out rx (fun a o h=>not_xd rs' a o h) fun a ha _=>List.mem_append_left _ ha)
  · refine ⟨B,ι,S,ws,rs,rw,?_⟩
    revert c
    have cutE:∀ {ι':Ads} {H':Hp},S.length≤ι'.length→Ext ι H ι' H'→Ext ι H (ι'.take S.length) H':=fun {ι' H'} hle x =>
      ⟨fun i p h=>by
        obtain ⟨p',h1,h2⟩:=x.at_ i p h
        have hi:i < S.length:=by rw [← rs.len]; exact (List.getElem?_eq_some_iff.mp h).1
        exact ⟨p',by rw [List.getElem?_take_of_lt hi]; exact h1,h2⟩,fun b hb=>x.sub b (flat_take _ b hb),x.dom,x.keep⟩
    cases f ws S with
    | err=>exact fun c=>c
    | ok w S1 =>
      intro c ι' H' v x r1 rv
      simp only at c
      split at c
      · rename_i hc
        have h1:=Bool.and_eq_true_iff.mp hc
        have hle:S.length≤S1.length:=of_decide_eq_true h1.2
        have rc:=cut_store (n:=S.length) r1 h1.1
        have ex:=cutE (by rw [r1.len]; exact hle) x
        cases ho:handOut S.length S1 w with
        | none=>rw [ho] at c; exact (show False from c).elim
        | some w2 =>
          rw [ho] at c
          refine c _ H' v ex rc ?_
          unfold handOut at ho
          have hsub:∀ a∈B ++ flat (ι'.take S.length),H' a ≠ none→a∈B ++ flat ι':=fun a ha _=>by
            rcases List.mem_append.mp ha with z | z
            · exact List.mem_append_left _ z
            · exact List.mem_append_right _ (flat_take _ a z)
          split at ho
          · rename_i hlt
            cases ho
            cases w with
            | d y=>exact Rep.sub hsub rv
            | exc _ _=>simp [refLt] at hlt
            | fn=>simp [refLt] at hlt
            | ref i =>
              obtain ⟨p,hp,e⟩:=rv
              have hi:i < S.length:=by simpa [refLt] using hlt
              exact ⟨p,by rw [List.getElem?_take_of_lt hi]; exact hp,e⟩
          · rename_i hlt
            simp only [Option.map_eq_some_iff] at ho
            obtain ⟨d,hd,rfl⟩:=ho
            have hfar:∀ i p,S.length≤i→ι'[i]? = some p→p.1 ∉ B ++ flat (ι'.take S.length):=fun i p hi hp z=>by
              rcases List.mem_append.mp z with q | q
              · exact r1.dis _ q (mem_flat hp)
              · have e:flat ι'=flat (ι'.take S.length) ++ flat (ι'.drop S.length):=by
                  unfold flat
                  rw [← List.flatMap_append,List.take_append_drop]
                have nd:=r1.nd
                rw [e] at nd
                have hmem:p.1∈flat (ι'.drop S.length):=by
                  refine mem_flat (i:=i - S.length) ?_
                  rw [List.getElem?_drop,Nat.add_sub_cancel' hi]
                  exact hp
                exact (List.nodup_append.mp nd).2.2 p.1 q p.1 hmem rfl
            refine seenN_out (C:=B ++ flat (ι'.take S.length)) r1 rv hd (fun i p hw hp z=>?_) hfar hsub
            subst hw
            exact hfar i p (Nat.le_of_not_lt (by simpa [refLt] using hlt)) hp z
      · exact (show False from c).elim
    | exn cc d S1 =>
      intro c ι' H' cv od x r1 rx
      simp only at c
      split at c
      · rename_i hc
        have h1:=Bool.and_eq_true_iff.mp hc
        have hle:S.length≤S1.length:=of_decide_eq_true h1.2
        have rc:=cut_store (n:=S.length) r1 h1.1
        have ex:=cutE (by rw [r1.len]; exact hle) x
        refine c _ H' cv od ex rc (rx_out rx (fun a o h=>not_xd rc a o h) fun a ha _=>?_)
        rcases List.mem_append.mp ha with z | z
        · exact List.mem_append_left _ z
        · exact List.mem_append_right _ (flat_take _ a z)
      · exact (show False from c).elim
def fApp (f:FF) (g:FA):FE:=fun ρ S=>(g ρ S).bind f
variable {X:Cx} {Wsh:WX} {e:Expr} {es:List Expr} {fa:FA} {pos p:Pos}
theorem r_call {gd:Bool} {k n:Nat} {f:Addr} {fd:FuncData} {ps:List Str} {ff:FF} {x:Str} (G:FnG gd X.prog X.w X.K X.mg X.base k f fd ps (spF F n ff)) (hgd:gd=true→X.A.guards=some []) (hn:ps.length=n) (hr:Room k X.A) (hg:Gl X x) (hm:X.mg x=some (.ref f)) (hk:PySem.W.keepIn X.K (.ref f)=true) (hb:Binds X.K fd ps []) (tk:Takes X Wsh)
    (ha:PA X (e :: es) (tRA F Wsh fa)) (hl:(e :: es).length=n) (hdb:(x == ("__debug__":Str))=false:=by decide) (he:starEach (e :: es) X.env=(false,eval e X.env) :: starEach es X.env:=by rfl) (hpl:(backTo pos (starEach es X.env)).any (·.1)=false:=by rfl)
    (hlen:∀ ρ S ws S',fa ρ S=.ok ws S'→ws.length=n) :
    PE X (.Call (.Name x p) (e :: es) [] pos) (tR F Wsh (fApp ff fa)):=by
  refine ⟨fun pins s σ H Q I h=>?_⟩
  obtain ⟨B,ι,ρ,S,rl,c⟩:=h
  refine wpAny_Call_Name_kw (ld_glob I hg hm ?_ hdb)
  refine PySem.W.callWith_K (h₀:=X.base) I.ok.mod.kin hk (thn (ha.run pos pins s σ H (fun vs H1=>spF F n ff vs H1 Q (WE Wsh σ)) I ?_) fun us s1 hh=>?_) he hpl
  · refine ⟨B,ι,ρ,S,rl,c.bind.mono fun ws S1 ι1 H1 ef x1 rl1 c1 vs rv=>⟨?_,B,ι1,S1,ws,rl1.toRelS,rv,?_⟩⟩
    · rw [← Paired.length rv]
      exact hlen ρ S ws S1 ef
    · revert c1
      cases ff ws S1 with
      | ok w S2=>exact fun c1 ι' H' v x r rv=>c1 ι' H' x ⟨r,pImp (fun _ _ q=>RL.ext x q) rl1.loc⟩ v rv
      | exn cc d S2=>exact fun c1 ι' H' cv od x r rx=>c1 ι' H' cv od x ⟨r,pImp (fun _ _ q=>RL.ext x q) rl1.loc⟩ rx
      | err=>exact fun c1=>c1
  · obtain ⟨vs,H1,I1,r1,hsp⟩:=hh
    refine ⟨I1.kIn,?_⟩
    have hlu:us.length=ps.length:=by rw [← r1.length]; exact G.len _ _ _ _ hsp
    have bnd:=hb s1 us I1.kIn (by simpa using hlu)
    rw [List.append_nil] at bnd
    refine wpAny_call (codeAny_mono (G.run X.A X.stack s1 H1 ⟨us,[]⟩ us vs Q (WE Wsh σ) hr hgd I1.env0 bnd r1 hsp) fun r s' hq=>?_)
    cases r with
    | error ex=>exact passAt tk σ pins H1 s1 ex s' I1 hq
    | ok fl =>
      cases fl with
      | ret u=>exact I1.after hq
      | next=>exact (show False from hq).elim
      | brk=>exact (show False from hq).elim
      | cont=>exact (show False from hq).elim
end
end Ev
namespace PySem
namespace EvX
open PySem.W PySem.Calls PyProof.Rows PySem.HandSPX
open Builtin Builtin.ObjectAttr
structure Base (bn nw ini:String) (tl:List Value):Prop where
  kx:KxsFacts bn ini
  eb:ExcBaseFacts bn nw ini tl
  ps:∀ self,refuseLoop self "__setattr__" tl=pure ()
  ob:tl.contains (.type "object")=true
  ne:tl ≠ []
section
variable {prog:Program} {w:World} {A:Around} {R:Result→Shared→Prop} {hh:Heap} {gg:Array GenState} {dd:Drawn} {tt:Nat} {oo:OsState} {bn nw ini:String} {tl:List Value}
end
def iA (fl:Str) (p1 p2:Pos):Arguments:={ posonlyargs:=[],args:=[{ arg:="self",annotation:=none,pos:=p1 },{ arg:=fl,annotation:=none,pos:=p2 }],vararg:=none,kwonlyargs:=[],kw_defaults:=[],kwarg:=none,defaults:=[] }
def iB (fl txt:Str) (j:Nat) (p0 p1 p2 p3 p4 p5 q1 q2 q3 q4:Pos):List Stmt :=
  [.Expr (.Call (.Attribute (.Call (.Name "super" p0) [] [] p1) "__init__" p2) [.Constant (.str txt) j p3] [] p4) p5,.Assign [.Attribute (.Name "self" q1) fl q2] (.Name fl q3) q4]
def iS (fl:Str):Scope:={ kind:=.function,names:=[(PySem.Str.ofString "self",.local),(fl,.local),(PySem.Str.ofString "__class__",.free),(PySem.Str.ofString "super",.globalImplicit)],isGenerator:=false,isCoroutine:=false,more:=[] }
structure ExTxt (P:Program) (K:Frag) (mg:Str→Option Value) (x fl:Str) (C fI cc:Addr):Prop where
  gC:mg x=some (.ref C)
  cls:∃ bn nw ini tl nm q N bs bm sn sub ab col dd k0 k1 k2 k3 k5,Base bn nw ini tl∧subIn K (.ref C) (.type bn)=some true∧K.lookup C=some (excClassObj nm q C N bs bm true sn sub ab col dd k0 k1 k2 k3 k5 nw)∧excTail tl bm=true∧alongIn K "__init__" bm=some (some (.builtin ini))
  sa:findIn K (.ref C) "__setattr__" = some (some (.builtin "object.__setattr__"))
  ga:findIn K (.ref C) "__getattribute__" = some (some (.builtin "BaseException.__getattribute__"))
  gg:findIn K (.ref C) "__getattr__" = some none
  noN:findIn K (.ref C) fl=some none
  iC:findIn K (.ref C) "__init__" = some (some (.ref fI))
  tC:typeIn K (.ref fI)=some (.type "function")
  kC:keepIn K (.ref C)=true
  exC:subIn K (.ref C) (.type "BaseException")=some true
  tyC:typeIn K (.ref C)=some (.type "type")
  hdC:hasDictIn K C=true
  te:exmOne K (.ref C) (.ref C)=some true
  ms:mroIn K C (.ref C)=some true
  tp:nsIn K cStatics "thirdparty.any" = some none
  su:mg "super" = none
  fn:∃ (oc:Value) (od:Option Addr) (qual:Str) (doc pm:Value) (an:Option Addr) (ct:Value) (osl:Array (Option Value)) (txt:Str) (j:Nat) (a1 a2 p0 p1 p2 p3 p4 p5 q1 q2 q3 q4:Pos) (cda:Addr),
    K.lookup fI=some ⟨oc,od,.func (ksFn "__init__" qual (iA fl a1 a2) (iB fl txt j p0 p1 p2 p3 p4 p5 q1 q2 q3 q4) (iS fl) .none .none doc pm an (.ref cda) ct cc),osl⟩∧codeIn K (.ref cda) qual=true ∧
    (∀ a b,bindArgs (ksFn "__init__" qual (iA fl a1 a2) (iB fl txt j p0 p1 p2 p3 p4 p5 q1 q2 q3 q4) (iS fl) .none .none doc pm an (.ref cda) ct cc) ⟨[a,b],[]⟩=pure [(("self":Str),a),(fl,b)]) ∧
    (∀ env:Env,∃ pl:Sem Bool,eval (.Call (.Attribute (.Call (.Name "super" p0) [] [] p1) "__init__" p2) [.Constant (.str txt) j p3] [] p4) env=(do
      let ov ← attributeBase (.Call (.Name "super" p0) [] [] p1) "__init__" env (eval (.Call (.Name "super" p0) [] [] p1) env)
      standAt p2.atName
      let (f,first) ← holding [ov] (getMethod ov "__init__" pl)
      callWith p4 f first (backTo p4 (starEach [.Constant (.str txt) j p3] env)) []))∧∃ (ccl:Value) (cdd:Option Addr) (vs:Array Value) (ccs:Array (Option Value)) (file:Str) (tf:Tok),K.lookup cda=some ⟨ccl,cdd,.fields vs,ccs⟩∧vs[2]? = some (.str file tf)∧((P.main.file:Str) == file)=true
  cell:∃ cl cld csl,K.lookup cc=some ⟨cl,cld,.cell (some (.ref C)),csl⟩
  top:(P.main.scope.names.lookup ("super":Str)).isSome=false
  n1:fl ≠ "self"
  n2:fl ≠ "__class__"
  n3:fl ≠ "super"
  nd:(fl == ("__debug__":Str))=false
structure InitEnd (h h':Heap) (x C dx:Addr) (fl:Str) (v:Value):Prop where
  keep:∀ b o,b ≠ x→h.get? b=some o→h'.get? b=some o
  obj:∃ t1,h'.get? x=some { cls:=.ref C,dict:=some dx,data:=.fields #[.ref t1,.none,.none,.none,.bool false,.none] }
  dbig:h.objs.size≤dx
  dne:dx ≠ x
  ns:h'.Ns1 dx (fun y=>if y=fl then some v else none)
section
variable {prog:Program} {w:World} {A:Around} {E:Value→Shared→Prop} {R:Result→Shared→Prop} {s:Shared} {K:Frag} {mg mb:Str→Option Value} {C fI cc:Addr} {xn fl:Str}
structure OwnMade (h h':Heap) (e C d:Addr) (fl:Str) (v:Value):Prop where
  keep:∀ b o,h.get? b=some o→h'.get? b=some o
  new:h.objs.size≤e
  obj:∃ oe vs,h'.get? e=some oe∧oe.cls=.ref C∧oe.dict=some d∧oe.data=.fields vs∧vs[1]? = some .none
  dbig:h.objs.size≤d
  dne:d ≠ e
  ns:h'.Ns1 d (fun y=>if y=fl then some v else none)
end
end EvX
end PySem
namespace Ev
open PySem PySem.Spec L2
open PySem.EvX (ExTxt)
section
variable {X:Cx} {F:Fx} {Wsh:WX} {xn fl:Str} {C fI cc:Addr}
def sRaise (c:Nat) (f:FE):FS:=fun ρ S=>(f ρ S).st ρ fun w S1=>match w with
  | .d x=>.exn c x ρ S1
  | _=>.err
def withX (F:Fx) (a dd:Addr):Fx:={ F with xa:=some (a,dd) }
variable {H:Hp} {B:List Addr} {ι:Ads}
end
end Ev
namespace Ev
open PySem PySem.Spec L2
mutual
def toPyR:D→PyData
  | .non=>.none | .bl b=>.bool b | .int i=>.int i | .str x=>.str x
  | .tup xs=>.tuple (toPyRs xs) | .lst xs=>.list (toPyRs xs)
  | .dct _=>.dict [] | .ins _ _=>.none | .scr _=>.none | .ftp _=>.none | .cls _=>.none | .kdc _=>.none | .exi _ _ _=>.none | .dkf _=>.none
def toPyRs:List D→List PyData
  | []=>[]
  | x :: xs=>toPyR x :: toPyRs xs
end
mutual
def showD:D→Bool
  | .non=>true | .bl _=>true | .int _=>true | .str _=>true
  | .tup xs=>showDs xs | .lst xs=>showDs xs
  | .dct kvs=>kvs.isEmpty | .ins _ _=>false | .scr _=>false | .ftp _=>false | .cls _=>false | .kdc _=>false | .exi _ _ _=>false | .dkf _=>false
def showDs:List D→Bool
  | []=>true
  | x :: xs=>showD x && showDs xs
end
def showOk (d:D):Bool:=showD d && (toPyR d).showable && decide ((toPyR d).depth≤64) && decide ((toPyR d).shown.length≤sizeLine)
def reprD (d:D):Str:=(toPyR d).shown
section
variable {X:Cx} {pins:List (Addr×Obj)} {σ:L2.St} {H:Hp} {s:Shared} {F:Fx} {ex:List Addr}
theorem tracked_ne (I:L2.Inv X pins σ H s) (hsys:∃ o,X.base.get? sysModules=some o) {a:Addr} {u:HO} (e:H a=some u):a ≠ sysModules:=fun z=>by
  obtain ⟨o,ho⟩:=hsys
  have:=(I.bs _ o ho).2
  rw [z,this] at e
  cases e
mutual
theorem rep_reads (I:L2.Inv X pins σ H s) (hK:X.K=F.K) (hsys:∃ o,X.base.get? sysModules=some o):∀ {d:D} {v:V} {u:Value},showD d=true→Rep F.K F.cls H ex d v→RelV v u→∃ as,Reads s.heap u (toPyR d) as∧sysModules ∉ as
  | _,_,_,_,.non,r=>by cases r; exact ⟨_,.none,by simp⟩
  | _,_,_,_,.bl b,r=>by cases r; exact ⟨_,.bool b,by simp⟩
  | _,_,_,_,.int i,r=>by obtain ⟨t,rfl⟩:=r; exact ⟨_,.int i t,by simp⟩
  | _,_,_,_,.str i,r=>by obtain ⟨t,rfl⟩:=r; exact ⟨_,.str i t,by simp⟩
  | .tup ds,_,_,f,.tup n h rr,r=>by
    cases r
    obtain ⟨its,rv,⟨o,ho,hc,m,hd⟩,_⟩:=I.tuple (SqT.of h)
    obtain ⟨as,hr,hn⟩:=reps_reads I hK hsys (by simpa [showD] using f) rr rv
    exact ⟨_,.tuple ho hc hd hr,hn⟩
  | .tup ds,_,_,f,.tupK h1 h2 h3 h4 h5 rr,r=>by
    cases r
    obtain ⟨its,rv,⟨o,ho,hc,m,hd⟩,_⟩:=I.tuple (xs:=_) (by rw [hK]; exact .inr ⟨_,_,_,h1,h2,h3,h4,h5⟩)
    obtain ⟨as,hr,hn⟩:=reps_reads I hK hsys (by simpa [showD] using f) rr rv
    exact ⟨_,.tuple ho hc hd hr,hn⟩
  | .tup ds,_,_,f,.tupF n h rr,r=>by
    cases r
    obtain ⟨its,rv,⟨o,ho,hc,m,hd⟩,_⟩:=I.tuple (.inl (.inr ⟨_,h⟩))
    obtain ⟨as,hr,hn⟩:=reps_reads I hK hsys (by simpa [showD] using f) rr rv
    exact ⟨_,.tuple ho hc hd hr,hn⟩
  | .lst ds,_,_,f,.lst n h rr,r=>by
    cases r
    obtain ⟨its,rv,⟨o,m,ho,hc,_,hd⟩,_⟩:=I.list (SqL.of h)
    obtain ⟨as,hr,hn⟩:=reps_reads I hK hsys (by simpa [showD] using f) rr rv
    refine ⟨_,.list ho hc hd hr,fun z=>?_⟩
    rcases List.mem_cons.mp z with q | q
    · exact tracked_ne I hsys h q.symm
    · exact hn q
  | .dct kvs,_,_,f,.dK n h rr,r=>by
    cases r
    have hk:kvs=[]:=by simpa [showD] using f
    subst hk
    cases rr
    obtain ⟨_,_,vs,kv,o,es,ep,e1,e2,e3,e4⟩:=dk_of I.hok h
    cases kv
    have es0:es.toList=[]:=by
      have z:=e4.2.1
      cases q:es.toList with
      | nil=>rfl
      | cons a l=>rw [q] at z; cases z
    refine ⟨_,.dict (kvs:=[]) e1 e2.1 e3 (by rw [es0]; exact .nil) (by rw [es0]; exact .nil),fun z=>?_⟩
    simp at z
    exact tracked_ne I hsys h z.symm
  | _,_,_,f,.ins _ _ _,_=>by simp [showD] at f
  | _,_,_,f,.scr _ _ _,_=>by simp [showD] at f
  | _,_,_,f,.scrK _ _ _ _ _ _,_=>by simp [showD] at f
  | _,_,_,f,.ftp _ _ _ _,_=>by simp [showD] at f
  | _,_,_,f,.cls _,_=>by simp [showD] at f
  | _,_,_,f,.kdc _ _ _,_=>by simp [showD] at f
  | _,_,_,f,.exi _ _ _ _ _,_=>by simp [showD] at f
  | _,_,_,f,.dkf _ _ _,_=>by simp [showD] at f
theorem reps_reads (I:L2.Inv X pins σ H s) (hK:X.K=F.K) (hsys:∃ o,X.base.get? sysModules=some o):∀ {ds:List D} {vs:List V} {us:List Value},showDs ds=true→Reps F.K F.cls H ex ds vs→Vals vs us→∃ as,ReadsAll s.heap us (toPyRs ds) as∧sysModules ∉ as
  | _,_,_,_,.nil,r=>by cases r; exact ⟨_,.nil,by simp⟩
  | _,_,_,f,.cons h t,r=>by
    cases r with
    | cons r1 r2 =>
      have f':=Bool.and_eq_true_iff.mp (by simpa [showDs] using f)
      obtain ⟨as,q1,n1⟩:=rep_reads I hK hsys f'.1 h r1
      obtain ⟨bs,q2,n2⟩:=reps_reads I hK hsys f'.2 t r2
      exact ⟨_,.cons q1 q2,fun z=>(List.mem_append.mp z).elim n1 n2⟩
end
end
section
variable {X:Cx} {F:Fx} {Wsh:WX}
def rReprEv (F:Fx):RN:=fun xs H Q=>∃ x d ex,xs=[x]∧Rep F.K F.cls H ex d x∧showOk d=true∧Q (.str (reprD d)) H
theorem cr_repr (hK:X.K=F.K) (hg:X.A.guards=some []) (hu:X.A.units + 66 < cLine) (hsys:∃ o,X.base.get? sysModules=some o):CallR X (.builtin "repr") (rReprEv F):=by
  intro pins s σ H xs us Q I r h
  obtain ⟨x,d,ex,rfl,rp,ok,q⟩:=h
  cases r with
  | cons rx rn =>
    rename_i u us'
    cases rn
    simp only [showOk,Bool.and_eq_true,decide_eq_true_eq] at ok
    obtain ⟨⟨⟨o1,o2⟩,o3⟩,o4⟩:=ok
    obtain ⟨as,rd,hn⟩:=rep_reads I hK hsys o1 rp rx
    have fin:∀ h' (k:∀ b o,s.heap.get? b=some o→h'.get? b=some o) uu tk,EP X pins σ Q (.str (reprD d) uu) { s with heap:=h',toks:=tk }:=fun h' k uu tk=>⟨.str _,H,I.kept (t':=tk) k,⟨_,rfl⟩,q⟩
    unfold reprD at fin
    revert fin
    generalize toPyR d=py at rd o2 o3 o4
    cases rd with
    | none=>exact fun fin=>PySem.P.repr_of_none (fin s.heap (fun _ _ e=>e) _ _)
    | bool b=>exact fun fin=>PySem.P.repr_of_bool (fin s.heap (fun _ _ e=>e) _ _)
    | int i t=>exact fun fin=>PySem.P.repr_of_int (by simpa [PyData.showable] using o2) (fin s.heap (fun _ _ e=>e) _ _)
    | str y t=>exact fun fin=>PySem.P.repr_of_str (fin s.heap (fun _ _ e=>e) _ _) o4
    | list a1 a2 a3 a4=>exact fun fin=>repr_of_reads' (.list a1 a2 a3 a4) o2 (fun _=>hn) hg (by omega) (fun _ _ e=>e) (fun h' uu tk k=>fin h' k uu tk) o4
    | tuple a1 a2 a3 a4=>exact fun fin=>repr_of_reads' (.tuple a1 a2 a3 a4) o2 (fun _=>hn) hg (by omega) (fun _ _ e=>e) (fun h' uu tk k=>fin h' k uu tk) o4
    | dict a1 a2 a3 a4 a5=>exact fun fin=>repr_of_reads' (.dict a1 a2 a3 a4 a5) o2 (fun _=>hn) hg (by omega) (fun _ _ e=>e) (fun h' uu tk k=>fin h' k uu tk) o4
def opRepr:OpN:=fun ws S=>match ws with
  | [.d d]=>if showOk d then .ok (.d (.str (reprD d))) S else .err
  | _=>.err
theorem ok_repr:OpNOk F opRepr (rReprEv F):=by
  intro Wsh B ι ρ S σ H ws vs Q rl rw c
  unfold opRepr at c
  split at c
  · rename_i d
    obtain ⟨v,rfl,rv⟩:=one_arg rw
    split at c
    · rename_i hk
      exact ⟨v,d,_,rfl,rv,hk,c.here rl _ (.str _)⟩
    · exact c.elim
  · exact c.elim
end
end Ev
namespace PySem
namespace EvE
open PySem.Calls PyProof.Rows
section
variable {prog:Program} {w:World} {A:Around} {E:Value→Shared→Prop} {s:Shared}
end
end EvE
end PySem
namespace Ev
open PySem PySem.Spec L2
section
variable {X:Cx} {F:Fx} {Wsh:WX} {e:Expr} {f:FE} {pos p tpos:Pos} {elts:List Expr} {kk:Nat}
def enumFrom:Nat→List D→List D
  | _,[]=>[]
  | n,d :: ds=>.tup [.int n,d] :: enumFrom (n + 1) ds
theorem walkD_pair {B:List Addr} {ι:Ads} {H:Hp} {J:It} {ds:List D} {n:Nat} {G:Hp→Prop} {xs ys:Nat→Option V} (hn:ds.length=n) (w:Walk J n G (YPair xs ys)) (g:∀ ι' H',ExtW B ι H ι' H'→G H')
    (h:∀ i,i < n→∃ a b,ds[i]? = some (.tup [a,b])∧(∀ x,xs i=some x→RD F H B ι a x)∧(∀ y,ys i=some y→RD F H B ι b y)):WalkD F B ι H J ds:=by
  subst hn
  refine ⟨G,_,w,g,fun i B' ι' H' S' x H2 hi ex hB rl y=>?_⟩
  obtain ⟨T,u,v,rfl,hT,rfl,hu,hv⟩:=y
  obtain ⟨a,b,e,h1,h2⟩:=h i hi
  refine ⟨.inr ⟨T,_,hT,rfl⟩,_,e,.tup (rl.fresh hT) upd_same ?_⟩
  have ra:=Rep.ext (Ext.new (o:=.tup [u,v]) hT) (Rep.extW ex (Rep.sub (subB hB) (h1 u hu)))
  have rb:=Rep.ext (Ext.new (o:=.tup [u,v]) hT) (Rep.extW ex (Rep.sub (subB hB) (h2 v hv)))
  exact .cons ra (.cons rb .nil)
def iEnumL (f:FE):FI:=fun ρ S=>(f ρ S).bind fun w S1=>match w with
  | .d (.lst ds)=>.ok (enumFrom 0 ds) S1
  | _=>.err
def iEnumT (f:FE):FI:=fun ρ S=>(f ρ S).bind fun w S1=>match w with
  | .d (.tup ds)=>.ok (enumFrom 0 ds) S1
  | _=>.err
end
end Ev
namespace Ev
open PySem PySem.Spec L2
def sqB (k:Bool) (K:PySem.W.Frag) (H:Hp) (a:Addr) (xs:List V):Prop:=if k then SqT K H a xs else SqL K H a xs
def itB (k:Bool) (h:Heap) (it a:Addr) (i:Nat):Prop:=if k then h.IsTupleIter it a i else h.IsListIter it a i
def seqB (k:Bool) (h:Heap) (a:Addr) (items:Array Value):Prop:=if k then h.IsTuple a items else h.IsList a items
def itO (k:Bool) (a:Addr):Obj:=if k then { cls:=.type "tuple_iterator",data:=.fields #[.ref a,.int 0 0] } else { cls:=.type "list_iterator",data:=.fields #[.ref a,.int 0 0] }
theorem beginsB (k:Bool) (a:Addr) (items:Array Value):Begins (.ref a) (itO k a) fun h=>seqB k h a items:=by
  cases k with
  | true=>exact begins_tuple a items
  | false=>exact begins_list a items
theorem itB_new {k:Bool} {h:Heap} {it a:Addr} (e:h.get? it=some (itO k a)):itB k h it a 0:=by
  cases k with
  | true=>exact ⟨_,e,rfl,rfl⟩
  | false=>exact ⟨_,e,rfl,rfl⟩
theorem itB_at {k:Bool} {h h':Heap} {it a:Addr} {i:Nat} (x:itB k h it a i) (f:∀ o,h.get? it=some o→h'.get? it=some o):itB k h' it a i:=by
  cases k with
  | true=>obtain ⟨o,e,r⟩:=(show h.IsTupleIter it a i from x); exact ⟨o,f o e,r⟩
  | false=>exact (show h.IsListIter it a i from x).at f
theorem itB_obj {k:Bool} {h:Heap} {it a:Addr} {i:Nat} (x:itB k h it a i):∃ o vs,h.get? it=some o∧o.data=.fields vs:=by
  cases k with
  | true=>obtain ⟨o,e,_,r⟩:=(show h.IsTupleIter it a i from x); exact ⟨o,_,e,r⟩
  | false=>obtain ⟨o,e,_,r⟩:=(show h.IsListIter it a i from x); exact ⟨o,_,e,r⟩
theorem seqB_obj {k:Bool} {h:Heap} {a:Addr} {its:Array Value} (x:seqB k h a its):∃ o n,h.get? a=some o∧o.data=.seq its n:=by
  cases k with
  | true=>obtain ⟨o,e,_,n,r⟩:=(show h.IsTuple a its from x); exact ⟨o,n,e,r⟩
  | false=>obtain ⟨o,e,_,n,r⟩:=(show h.IsList a its from x); exact ⟨o,n,e,r⟩
theorem seq_it_ne {k:Bool} {h:Heap} {it a:Addr} {i:Nat} {its:Array Value} (x:itB k h it a i) (y:seqB k h a its):a ≠ it:=fun e=>by
  obtain ⟨o,vs,h1,h2⟩:=itB_obj x
  obtain ⟨o',n,h3,h4⟩:=seqB_obj y
  rw [e,h1] at h3
  cases h3
  rw [h2] at h4
  cases h4
theorem drawsB (k:Bool) {prog:Program} {w:World} {A:Around} (hh:A.handled=none) (it a:Addr) (hne:a ≠ it) (items:Array Value) :
    Draws prog w A it [it,a] items.size (fun i v=>items[i]? = some v) (fun i h=>itB k h it a i∧seqB k h a items):=by
  cases k with
  | true=>exact Draws.tuple hh it a hne items
  | false=>exact Draws.list hh it a hne items
section
variable {X:Cx} {pins:List (Addr×Obj)} {σ:L2.St} {H:Hp} {s:Shared}
theorem sqB_in {k:Bool} {a:Addr} {xs:List V} (I:L2.Inv X pins σ H s) (h:sqB k X.K H a xs):∃ its:List Value,Vals xs its∧seqB k s.heap a its.toArray:=by
  cases k with
  | true=>obtain ⟨its,rv,p,_⟩:=I.tuple h; exact ⟨its,rv,p⟩
  | false=>obtain ⟨its,rv,p,_⟩:=I.list h; exact ⟨its,rv,p.isList⟩
theorem sqB_inj {k:Bool} {a:Addr} {xs ys:List V} (I:L2.Inv X pins σ H s) (h:sqB k X.K H a xs) (h':sqB k X.K H a ys):xs=ys:=by
  cases k with
  | true=>exact I.tuple_inj h h'
  | false=>exact I.list_inj h h'
end
def ItzB (k1 k2:Bool) (K:PySem.W.Frag) (a b:Addr):It :=
  ⟨fun i H=>∃ (xs ys:List V) (x y:V),sqB k1 K H a xs∧sqB k2 K H b ys∧xs[i]? = some x∧ys[i]? = some y,
   fun i H v H'=>∃ T x y,v=.ref T∧H T=none∧H'=upd H T (.tup [x,y])∧(∀ xs,sqB k1 K H a xs→xs[i]? = some x)∧∀ ys,sqB k2 K H b ys→ys[i]? = some y,
   fun i H=>∃ xs ys:List V,sqB k1 K H a xs∧sqB k2 K H b ys∧i=min xs.length ys.length⟩
theorem turn_zipB {P:Program} {w:World} {K:PySem.W.Frag} {elts:List Expr} {kk:Nat} {tpos:Pos} {k1 k2:Bool} {a b z TI TO i1 i2:Addr} (Sp:ZipSep2 z TI TO i1 i2 [i1,a] [i2,b]) :
    Turn P w K (.Tuple elts kk tpos) (ItzB k1 k2 K a b) [z,TI,TO,i1,i2] z (fun i h=>IsZip h z TI TO .none∧IsTupOf2 h TI (.ref i1) (.ref i2)∧(∃ x y,IsTupOf2 h TO x y)∧itB k1 h i1 a i∧itB k2 h i2 b i) where
  mem:=by simp
  obj:=fun i h st c hc=>by
    obtain ⟨hz,hTI,⟨x,y,hTO⟩,h1,h2⟩:=st
    obtain ⟨o1,v1,e1,d1⟩:=itB_obj h1
    obtain ⟨o2,v2,e2,d2⟩:=itB_obj h2
    rcases (by simpa using hc:c=z∨c=TI∨c=TO∨c=i1∨c=i2) with rfl | rfl | rfl | rfl | rfl
    · exact ⟨_,hz,fun v q=>nomatch q⟩
    · exact ⟨_,hTI,fun v q=>nomatch q⟩
    · exact ⟨_,hTO,fun v q=>nomatch q⟩
    · exact ⟨o1,e1,fun v q=>by rw [d1] at q; cases q⟩
    · exact ⟨o2,e2,fun v q=>by rw [d2] at q; cases q⟩
  keep:=fun i h h' st k=>by
    obtain ⟨hz,hTI,⟨x,y,hTO⟩,h1,h2⟩:=st
    exact ⟨k z (by simp) _ hz,k TI (by simp) _ hTI,⟨x,y,k TO (by simp) _ hTO⟩,itB_at h1 fun o q=>k i1 (by simp) o q,itB_at h2 fun o q=>k i2 (by simp) o q⟩
  item:=by
    intro X hP hw hK hc i pins s σ H E I hf st hgo
    subst hP hw hK
    obtain ⟨hz,hTI,⟨x0,y0,hTO⟩,h1,h2⟩:=st
    obtain ⟨xs,ys,x,y,hqx,hqy,hx,hy⟩:=hgo
    obtain ⟨its,rv,p⟩:=sqB_in I hqx
    obtain ⟨its2,rv2,p2⟩:=sqB_in I hqy
    obtain ⟨u,hu,ru⟩:=rv.get hx
    obtain ⟨u2,hu2,ru2⟩:=rv2.get hy
    have hzl:z < s.heap.objs.size:=Heap.lt_size hz
    have l1:i < its.toArray.size:=by have:=(List.getElem?_eq_some_iff.mp hu).1; simpa using this
    have l2:i < its2.toArray.size:=by have:=(List.getElem?_eq_some_iff.mp hu2).1; simpa using this
    refine wpAny_pyNext_zipD2_item Sp (drawsB k1 (A:=X.A.in1) (I.ok.hd hc) i1 a (seq_it_ne h1 p) its.toArray) (drawsB k2 (A:=X.A.in1) (I.ok.hd hc) i2 b (seq_it_ne h2 p2) its2.toArray) hz hTI hTO ⟨h1,p⟩ ⟨h2,p2⟩ l1 l2 fun v1 v2 h' tk hv1 hv2 z' TO' st1 st2 hT hsz hk=>?_
    have e1:v1=u:=by
      have q:its[i]? = some v1:=by simpa using hv1
      rw [hu] at q
      exact (Option.some.inj q).symm
    have e2:v2=u2:=by
      have q:its2[i]? = some v2:=by simpa using hv2
      rw [hu2] at q
      exact (Option.some.inj q).symm
    subst e1
    subst e2
    refine ⟨_,rfl,wpAny_letOwnedTupleGo_zip (s:={ s with heap:=h',toks:=tk }) z' fun h'' z'' sb=>?_⟩
    have hT2:h''.get? s.heap.objs.size=some { cls:=.type "tuple",data:=.seq #[v1,v2] }:=(sb.2 _ (Nat.ne_of_gt hzl)).trans hT
    have new:ObjOk X.prog X.w (upd H s.heap.objs.size (.tup [x,y])) h'' s.heap.objs.size (.tup [x,y]) :=
      ⟨by show 2≤sizeLine; decide,[v1,v2],.cons ru (.cons ru2 .nil),⟨_,hT2,rfl,_,rfl⟩⟩
    have I1:L2.Inv X pins σ (upd H s.heap.objs.size (.tup [x,y])) { s with heap:=h'',toks:=tk } :=
      I.turnedNew (ch:=[z,TI,TO,i1,i2]) (fun c ob hb q=>(sb.2 c (fun e=>hb (by simp [e]))).trans (hk c ob (fun e=>hb (by simp [e])) (fun e=>hb (by simp [e])) (fun e=>hb (by simp [e])) (fun e=>hb (by simp [e])) q)) hf (Nat.le_refl _) new
    have nz:∀ c∈[TI,TO,i1,i2],c ≠ z:=fun c hm e=>by
      subst e
      rcases (by simpa using hm:c=TI∨c=TO∨c=i1∨c=i2) with q | q | q | q
      · exact Sp.TIz q.symm
      · exact Sp.TOz q.symm
      · exact Sp.zf1 (by simp [q])
      · exact Sp.zf2 (by simp [q])
    refine ⟨.ref s.heap.objs.size,_,I1,rfl,⟨_,x,y,rfl,I.hok.fresh (Nat.le_refl _),rfl,fun q hq=>by rw [sqB_inj I hq hqx]; exact hx,fun q hq=>by rw [sqB_inj I hq hqy]; exact hy⟩,⟨z'',?_,⟨v1,v2,?_⟩,?_,?_⟩,fun c hm=>?_⟩
    · have q:h'.get? TI=some _:=hk TI _ Sp.TIz Sp.TITO Sp.TIi1 Sp.TIi2 hTI
      exact (sb.2 TI (nz TI (by simp))).trans q
    · exact (sb.2 TO (nz TO (by simp))).trans TO'
    · exact itB_at st1.1 fun o q=>(sb.2 i1 (nz i1 (by simp))).trans q
    · exact itB_at st2.1 fun o q=>(sb.2 i2 (nz i2 (by simp))).trans q
    · have hc':c < s.heap.objs.size:=by
        obtain ⟨o1,w1,q1,_⟩:=itB_obj h1
        obtain ⟨o2,w2,q2,_⟩:=itB_obj h2
        rcases (by simpa using hm:c=z∨c=TI∨c=TO∨c=i1∨c=i2) with rfl | rfl | rfl | rfl | rfl
        · exact hzl
        · exact Heap.lt_size hTI
        · exact Heap.lt_size hTO
        · exact Heap.lt_size q1
        · exact Heap.lt_size q2
      rw [upd_ne (Nat.ne_of_lt hc')]
      exact (hf c hm).1
  done:=by
    intro X hP hw hK hc i pins s σ H E I hf st hstop
    subst hP hw hK
    obtain ⟨hz,hTI,⟨x0,y0,hTO⟩,h1,h2⟩:=st
    obtain ⟨xs,ys,hqx,hqy,hi⟩:=hstop
    obtain ⟨its,rv,p⟩:=sqB_in I hqx
    obtain ⟨its2,rv2,p2⟩:=sqB_in I hqy
    have l1:xs.length=its.toArray.size:=by rw [rv.length]; simp
    have l2:ys.length=its2.toArray.size:=by rw [rv2.length]; simp
    refine wpAny_pyNext_zipD2_end Sp (drawsB k1 (A:=X.A.in1) (I.ok.hd hc) i1 a (seq_it_ne h1 p) its.toArray) (drawsB k2 (A:=X.A.in1) (I.ok.hd hc) i2 b (seq_it_ne h2 p2) its2.toArray) hz hTI hTO ⟨h1,p⟩ ⟨h2,p2⟩ (by omega) (by omega) (by omega) fun h' tk hk=>⟨rfl,I.turnedL (t':=tk) (ch:=[z,TI,TO,i1,i2]) (fun c o hb q=>hk c o (fun e=>hb (by simp [e])) (fun e=>hb (by simp [e])) (fun e=>hb (by simp [e])) (fun e=>hb (by simp [e])) q) hf⟩
  self:=fun A i s Q E st h=>wpAny_pyIter_zip st.1 h
theorem walk_zipB {k1 k2:Bool} {K:PySem.W.Frag} {a b:Addr} {xs ys:List V}:Walk (ItzB k1 k2 K a b) (min xs.length ys.length) (fun H=>sqB k1 K H a xs∧sqB k2 K H b ys) (YPair (fun i=>xs[i]?) (fun i=>ys[i]?)):=by
  refine ⟨fun i _ hi q=>?_,fun _ q=>⟨xs,ys,q.1,q.2,rfl⟩,fun i H v H' _ q y=>?_⟩
  · have h1:i < xs.length:=by omega
    have h2:i < ys.length:=by omega
    exact ⟨xs,ys,xs[i],ys[i],q.1,q.2,by simp [h1],by simp [h2]⟩
  · obtain ⟨T,x,z,h1,h2,h3,h4,h5⟩:=y
    exact ⟨T,x,z,h1,h2,h3,h4 xs q.1,h5 ys q.2⟩
section
variable {X:Cx} {F:Fx} {Wsh:WX} {e e2:Expr} {f g:FE} {pos p tpos:Pos} {elts:List Expr} {kk:Nat} {k1 k2:Bool}
def iZipB (k1 k2:Bool) (K:PySem.W.Frag) (ta:TA):TI:=fun σ H R=>ta σ H fun vs H1=>∃ a b xs ys,vs=[.ref a,.ref b]∧sqB k1 K H1 a xs∧sqB k2 K H1 b ys∧R (ItzB k1 k2 K a b) H1
theorem pi_zipB {ta:TA} (hg:Gl X "zip") (hm:X.mg "zip" = none) (ha:PA X [e,e2] ta) (hs:starEach [e,e2] X.env=(false,eval e X.env) :: starEach [e2] X.env:=by rfl) (hpl:(backTo pos (starEach [e2] X.env)).any (·.1)=false:=by rfl) :
    PI X (.Tuple elts kk tpos) (.Call (.Name "zip" p) [e,e2] [] pos) (iZipB k1 k2 X.K ta):=by
  refine ⟨fun pins s σ H R I h=>?_⟩
  refine PyProof.Rows.Call_ (ld_blt I hg hm PyProof.Rows.boot_zip (PyProof.Rows.callWith_type1 (thn (ha.run pos pins s σ H _ I h) fun us s1 hh=>?_) hs hpl))
  obtain ⟨vs,H1,I1,r1,a,b,xs,ys,ex,hqx,hqy,q⟩:=hh
  subst ex
  cases r1 with
  | cons r rr=>cases rr with
    | cons r' rr =>
      cases rr
      cases r
      cases r'
      obtain ⟨its,rv,p1⟩:=sqB_in I1 hqx
      obtain ⟨its2,rv2,p2⟩:=sqB_in I1 hqy
      have la:a < s1.heap.objs.size:=by obtain ⟨_,_,z,_⟩:=seqB_obj p1; exact Heap.lt_size z
      have lb:b < s1.heap.objs.size:=by obtain ⟨_,_,z,_⟩:=seqB_obj p2; exact Heap.lt_size z
      refine zip_begins2 (beginsB k1 a its.toArray) (beginsB k2 b its2.toArray) p1 p2 fun h' hz hTI hTO h1 h2 hsz hk=>wpAny_pyIter_zip hz ?_
      have I2:L2.Inv X pins σ H1 { s1 with heap:=h' }:=I1.kept (t':=s1.toks) hk
      refine ⟨s1.heap.objs.size + 4,[s1.heap.objs.size + 4,s1.heap.objs.size + 2,s1.heap.objs.size + 3,s1.heap.objs.size,s1.heap.objs.size + 1],_,_,H1,rfl,I2,turn_zipB (k1:=k1) (k2:=k2) (zip_sep2 (fp1:=[a]) (fp2:=[b]) (by simpa using la) (by simpa using lb)),⟨hz,hTI,⟨_,_,hTO⟩,itB_new h1,itB_new h2⟩,fun c hc=>?_,q⟩
      have hle:s1.heap.objs.size≤c:=by
        rcases (by simpa using hc:c=s1.heap.objs.size + 4∨c=s1.heap.objs.size + 2∨c=s1.heap.objs.size + 3∨c=s1.heap.objs.size∨c=s1.heap.objs.size + 1) with z | z | z | z | z
        · rw [z]; exact Nat.le_add_right _ _
        · rw [z]; exact Nat.le_add_right _ _
        · rw [z]; exact Nat.le_add_right _ _
        · rw [z]; exact Nat.le_refl _
        · rw [z]; exact Nat.le_add_right _ _
      exact I1.fpOk hle (I1.hok.fresh hle)
def zipD:List D→List D→List D
  | x :: xs,y :: ys=>.tup [x,y] :: zipD xs ys
  | _,_=>[]
theorem zipD_len:∀ (xs ys:List D),(zipD xs ys).length=min xs.length ys.length
  | [],_=>by simp [zipD]
  | _ :: _,[]=>by simp [zipD]
  | x :: xs,y :: ys=>by
    simp only [zipD,List.length_cons,zipD_len xs ys]
    omega
theorem zipD_at:∀ (xs ys:List D) (i:Nat) (x y:D),xs[i]? = some x→ys[i]? = some y→(zipD xs ys)[i]? = some (.tup [x,y])
  | [],_,_,_,_,h,_=>by simp at h
  | _ :: _,[],_,_,_,_,h=>by simp at h
  | x :: xs,y :: ys,0,u,v,h,h'=>by simp at h h'; subst h; subst h'; simp [zipD]
  | x :: xs,y :: ys,i + 1,u,v,h,h'=>by
    have:=zipD_at xs ys i u v (by simpa using h) (by simpa using h')
    simpa [zipD] using this
def pick (k:Bool):W→Option (List D)
  | .d (.tup ds)=>if k then some ds else none
  | .d (.lst ds)=>if k then none else some ds
  | _=>none
theorem pick_sq {k:Bool} {w:W} {ds:List D} {v:V} {H:Hp} {B:List Addr} {ι:Ads} (e:pick k w=some ds) (r:RW F H B ι w v):∃ a vs,v=.ref a∧sqB k F.K H a vs∧RDs F H B ι ds vs∧∀ ι' H',ExtW B ι H ι' H'→sqB k F.K H' a vs:=by
  unfold pick at e
  split at e
  · split at e
    · rename_i hk
      cases e
      subst hk
      obtain ⟨a,vs,h1,h2,h3,h4⟩:=sq_keepT (H':=H) (ι':=ι) r
      exact ⟨a,vs,h1,h2,h3,h4⟩
    · cases e
  · split at e
    · cases e
    · rename_i hk
      cases e
      have hk':k=false:=by simpa using hk
      subst hk'
      obtain ⟨a,vs,h1,h2,h3,h4⟩:=sq_keepL r
      exact ⟨a,vs,h1,h2,h3,h4⟩
  · cases e
def iZip (k1 k2:Bool) (f g:FE):FI:=fun ρ S=>(f ρ S).bind fun x S1=>(g ρ S1).bind fun y S2=>match pick k1 x,pick k2 y with
  | some xs,some ys=>.ok (zipD xs ys) S2
  | _,_=>.err
theorem ri_zip (hK:X.K=F.K) (hg:Gl X "zip") (hm:X.mg "zip" = none) (he:PE X e (tR F Wsh f)) (he2:PE X e2 (tR F Wsh g)) (hs:starEach [e,e2] X.env=(false,eval e X.env) :: starEach [e2] X.env:=by rfl) (hs2:starEach [e2] X.env=[(false,eval e2 X.env)]:=by rfl) (hpl:(backTo pos (starEach [e2] X.env)).any (·.1)=false:=by rfl) :
    PI X (.Tuple elts kk tpos) (.Call (.Name "zip" p) [e,e2] [] pos) (tRI F Wsh (iZip k1 k2 f g)) :=
  piImp (pi_zipB (k1:=k1) (k2:=k2) hg hm (pa_cons he (pa_cons he2 pa_nil hs2) hs) hs hpl) fun σ H Q ⟨B,ι,ρ,S,rl,c⟩=>by
    refine tR_step rl c fun wx x S1 ι1 H1 x1 rl1 rx c1=>?_
    refine tR_step rl1 c1 fun wy y S2 ι2 H2 x2 rl2 ry c2=>?_
    split at c2
    · rename_i xs ys ex ey
      obtain ⟨a,vs,rfl,h1,r1,g1⟩:=pick_sq ex (rx.ext x2)
      obtain ⟨b,us,rfl,h2,r2,g2⟩:=pick_sq ey ry
      refine ⟨a,b,vs,us,rfl,by rw [hK]; exact h1,by rw [hK]; exact h2,c2.here rl2 _ ?_⟩
      rw [hK]
      refine walkD_pair (n:=min vs.length us.length) (by rw [zipD_len,reps_len r1,reps_len r2]) walk_zipB (fun ι' H' q=>⟨g1 ι' H' q,g2 ι' H' q⟩) fun i hi=>?_
      have i1:i < xs.length:=by rw [reps_len r1]; omega
      have i2:i < ys.length:=by rw [reps_len r2]; omega
      refine ⟨xs[i],ys[i],zipD_at xs ys i _ _ (List.getElem?_eq_getElem i1) (List.getElem?_eq_getElem i2),fun u hu=>?_,fun u hu=>?_⟩
      · obtain ⟨v,hv,rv⟩:=reps_at r1 (List.getElem?_eq_getElem i1)
        have hu':vs[i]? = some u:=hu
        rw [hu'] at hv
        cases hv
        exact rv
      · obtain ⟨v,hv,rv⟩:=reps_at r2 (List.getElem?_eq_getElem i2)
        have hu':us[i]? = some u:=hu
        rw [hu'] at hv
        cases hv
        exact rv
    · exact (show False from c2).elim
end
end Ev
namespace Ev
open PySem PySem.Spec L2
def compL2 (g:FG) (t:FT) (fi1:FI) (g1:FG) (t1:FT) (f:FE) (vs1:List Nat) (ρ:Loc):List D→Sto→List D→R (List D)
  | [],S,acc=>.ok acc S
  | d :: ds,S,acc=>match g (.d d) ρ S with
    | none=>.err
    | some ρ1=>(noX (t ρ1 S)).bind fun k S1=>if k=true then (noX (fi1 ρ1 S1)).bind fun es S2=>(compL g1 t1 f (wipeL ρ1 vs1) es S2 acc).bind fun acc' S3=>compL2 g t fi1 g1 t1 f vs1 ρ ds S3 acc'
        else compL2 g t fi1 g1 t1 f vs1 ρ ds S1 acc
def fLc2 (fi:FI) (g:FG) (t:FT) (fi1:FI) (g1:FG) (t1:FT) (f:FE) (vs vs1:List Nat):FE:=fun ρ S=>(fi ρ S).bind fun ds S1=>(compL2 g t fi1 g1 t1 f vs1 (wipeL ρ vs) ds S1 []).bind fun ys S2=>.ok (.d (.lst ys)) S2
section
variable {X:Cx} {F:Fx} {Wsh:WX}
theorem R_bind_assoc {α β γ:Type} (r:R α) (f:α→Sto→R β) (g:β→Sto→R γ):(r.bind f).bind g=r.bind fun a S=>(f a S).bind g:=by
  cases r <;> rfl
theorem in_of {gf:FG} {sl:List Nat} {t:FT} {fe:FE} {vs1:List Nat} {tgr:TG} {tt:TT} {te:TE}
    (hg:GRel F gf sl tgr) (hsl:∀ i∈sl,i∈vs1) (htt:∀ σ H Q,tRT F W0 t σ H Q→tt σ H Q) (hte:∀ σ H Q,tR F W0 fe σ H Q→te σ H Q)
    {B:List Addr} {D:Addr} {ι1 ι4:Ads} {H1 H4:Hp} {ρ ρ3:Loc} {σ σ3:L2.St} {S4:Sto} {acc:List Ev.D} {us:List V} {es:List Ev.D} {J:It} {rest:List Ev.D→Sto→R W} {k:W→Sto→Ads→Hp→Prop} {Nx:Hp→Prop}
    (wd:WalkD F (B ++ [D]) ι4 H4 J es) (hD:H1 D=none) (x4:Ext ι1 H1 ι4 H4) (rl:Rel F H4 (B ++ [D]) ι4 ρ3 S4 σ3) (rlσ:Rel F H4 (B ++ [D]) ι4 ρ S4 σ) (hus:H4 D=some (.lst us)) (hDn:D ∉ flat ι4) (racc:RDs F H4 (B ++ [D]) ι4 acc us)
    (c:Cont F Wsh B ρ σ ι1 H1 ((compL gf t fe (wipeL ρ3 vs1) es S4 acc).bind rest) k)
    (hNx:∀ ι H S acc us,Ext ι1 H1 ι H→Rel F H (B ++ [D]) ι ρ S σ→H D=some (.lst us)→D ∉ flat ι→RDs F H (B ++ [D]) ι acc us→Cont F Wsh B ρ σ ι1 H1 (rest acc S) k→Nx H) :
    ∃ W1:Nat→Nat→Hp→Prop,(∃ m,W1 0 m H4)∧∀ j k H,W1 j k H →
      (J.stop j H∧Nx H)∨(J.go j H∧∃ Nx1:Hp→Prop,(∀ H',Nx1 H'→∃ k',k' < k∧W1 (j + 1) k' H')∧∀ x H',J.yld j H x H'→tgr x (wipe σ3 vs1) H' fun σ5 H5=>wipe σ5 vs1=wipe σ3 vs1∧tt σ5 H5 fun b H6 =>
        if b=true then te σ5 H6 fun y H7=>∃ acc,H7 D=some (.lst acc)∧acc.length < sizeLine∧Nx1 (upd H7 D (.lst (acc ++ [y]))) else Nx1 H6):=by
  obtain ⟨G,Y,w,hG,hY⟩:=wd
  let Pv:Nat→Hp→Prop:=fun i H2=>∃ ι2 S2 acc us,Ext ι1 H1 ι2 H2∧ExtW (B ++ [D]) ι4 H4 ι2 H2∧(∀ b,H2 b=none→H4 b=none)∧Rel F H2 (B ++ [D]) ι2 (wipeL ρ3 vs1) S2 (L2.wipe σ3 vs1)∧Rel F H2 (B ++ [D]) ι2 ρ S2 σ∧H2 D=some (.lst us)∧D ∉ flat ι2∧RDs F H2 (B ++ [D]) ι2 acc us ∧
      Cont F Wsh B ρ σ ι1 H1 ((compL gf t fe (wipeL ρ3 vs1) (es.drop i) S2 acc).bind rest) k
  refine ⟨fun i m H=>m=es.length - i∧i≤es.length∧Pv i H,⟨es.length,by simp,Nat.zero_le _,ι4,S4,acc,us,x4,(Ext.refl _ _).toW,fun _ h=>h,rl.wipe vs1,rlσ,hus,hDn,racc,by simpa using c⟩,?_⟩
  rintro i m H2 ⟨rfl,hi,p⟩
  obtain ⟨ι2,S2,acc,us,x2,xw,dm,rl2,rlσ,hus,hD2,racc,c2⟩:=p
  have q:=hG ι2 H2 xw
  by_cases hlt:i < es.length
  · refine .inr ⟨w.goes i H2 hlt q,Pv (i + 1),fun H' p'=>⟨es.length - (i + 1),by omega,rfl,hlt,p'⟩,fun x H3 y=>?_⟩
    have y:=w.yields i H2 x H3 hlt q y
    obtain ⟨hn,d,hd,rd⟩:=hY i (B ++ [D]) ι2 H2 S2 x H3 hlt xw (fun a ha=>.inl ha) rl2.toRelS y
    obtain ⟨rl3,x3⟩:=RelS.walked rl2 hn
    obtain ⟨rlσ3,_⟩:=RelS.walked rlσ hn
    have hus3:H3 D=some (.lst us):=x3.keep _ _ hD2 hus nt_lst
    have hdr:es.drop i=d :: es.drop (i + 1):=by
      rw [List.drop_eq_getElem_cons hlt]
      rw [List.getElem?_eq_getElem hlt] at hd
      rw [Option.some.inj hd]
    rw [hdr] at c2
    simp only [compL] at c2
    have dt:∀ {Ha Hb Hc:Hp},(∀ b,Hb b=none→Ha b=none)→(∀ b,Hc b=none→Hb b=none)→∀ b,Hc b=none→Ha b=none:=fun f g b h=>f b (g b h)
    cases hgd:gf (.d d) (wipeL ρ3 vs1) S2 with
    | none=>rw [hgd] at c2; exact (show False from c2).elim
    | some ρ5 =>
      rw [hgd] at c2
      refine hg (B ++ [D]) ι2 (wipeL ρ3 vs1) S2 (L2.wipe σ3 vs1) H3 (.d d) x ρ5 _ rl3 rd hgd fun σ5 rl4 hw=>⟨?_,?_⟩
      · have e1:=hw vs1 hsl
        rw [wipe_wipe] at e1
        exact e1
      · refine htt _ _ _ ⟨B ++ [D],ι2,ρ5,S2,rl4,?_⟩
        revert c2
        simp only []
        generalize ht:t ρ5 S2=rt
        cases rt with
        | err=>exact fun c3=>(show False from c3).elim
        | exn _ _ _=>exact fun c3=>(show False from c3).elim
        | ok k S4 =>
          intro c3 ι6 H6 x6 rl6
          have c4:Cont F Wsh B ρ σ ι1 H1 ((if k=true then (noX (fe ρ5 S4)).bind fun w S2=>(match w with
              | .d y=>if acc.length < sizeLine then compL gf t fe (wipeL ρ3 vs1) (es.drop (i + 1)) S2 (acc ++ [y]) else .err
              | _=>.err) else compL gf t fe (wipeL ρ3 vs1) (es.drop (i + 1)) S4 acc).bind rest) _:=c3
          have hus4:H6 D=some (.lst us):=x6.keep _ _ hD2 hus3 nt_lst
          have hD4:D ∉ flat ι6:=x6.notin hD2 (by rw [hus3]; simp)
          have x36:=x3.trans x6
          have rlσ4:Rel F H6 (B ++ [D]) ι6 ρ S4 σ:=⟨rl6.toRelS,pImp (fun _ _ q=>RL.ext x36 q) rlσ.loc⟩
          have rlw4:Rel F H6 (B ++ [D]) ι6 (wipeL ρ3 vs1) S4 (L2.wipe σ3 vs1):=⟨rl6.toRelS,pImp (fun _ _ q=>RL.ext x36 q) rl2.loc⟩
          split
          · rename_i hk
            rw [if_pos hk] at c4
            refine hte _ _ _ ⟨B ++ [D],ι6,ρ5,S4,rl6,?_⟩
            revert c4
            generalize hfe:fe ρ5 S4=rf
            cases rf with
            | err=>exact fun c4=>(show False from c4).elim
            | exn _ _ _=>exact fun c4=>(show False from c4).elim
            | ok wy S5 =>
              intro c4 ι7 H7 x7 rl7 v rv
              have hus5:H7 D=some (.lst us):=x7.keep _ _ hD4 hus4 nt_lst
              have hD5:D ∉ flat ι7:=x7.notin hD4 (by rw [hus4]; simp)
              cases wy with
              | ref _=>exact (show False from c4).elim
              | exc _ _=>exact (show False from c4).elim
              | fn=>exact (show False from c4).elim
              | d yd =>
                have c5:Cont F Wsh B ρ σ ι1 H1 ((if acc.length < sizeLine then compL gf t fe (wipeL ρ3 vs1) (es.drop (i + 1)) S5 (acc ++ [yd]) else .err).bind rest) _:=c4
                by_cases hz:acc.length < sizeLine
                · rw [if_pos hz] at c5
                  have x37:=x36.trans x7
                  have racc5:RDs F H7 (B ++ [D]) ι7 acc us:=Reps.ext x37 racc
                  have hDB':D∈B ++ [D]:=by simp
                  have hDx:D∈(B ++ [D]) ++ flat ι7:=List.mem_append_left _ hDB'
                  have x17:=x2.trans x37
                  have xg:Ext ι1 H1 ι7 (upd H7 D (.lst (us ++ [v]))):=by
                    refine ⟨x17.at_,x17.sub,fun b hb=>?_,fun b ob nb hb nt=>?_⟩
                    · by_cases e:b=D
                      · rw [e]; exact hD
                      · rw [upd_ne e] at hb; exact x17.dom b hb
                    · rw [upd_ne (ne_of_none hb hD)]; exact x17.keep b ob nb hb nt
                  have xw7:ExtW (B ++ [D]) ι4 H4 ι7 H7:=xw.trans dm x37.toW
                  have xwg:ExtW (B ++ [D]) ι4 H4 ι7 (upd H7 D (.lst (us ++ [v]))):=⟨xw7.sub,fun b ob nb hb nt=>by
                    rw [upd_ne (fun e=>nb (List.mem_append_left _ (by rw [e]; exact hDB')))]; exact xw7.keep b ob nb hb nt⟩
                  have rlσ5:Rel F H7 (B ++ [D]) ι7 ρ S5 σ:=⟨rl7.toRelS,pImp (fun _ _ q=>RL.ext x37 q) rlσ.loc⟩
                  have rlw5:Rel F H7 (B ++ [D]) ι7 (wipeL ρ3 vs1) S5 (L2.wipe σ3 vs1):=⟨rl7.toRelS,pImp (fun _ _ q=>RL.ext x37 q) rl2.loc⟩
                  refine ⟨us,hus5,by rw [← reps_len racc5]; exact hz,ι7,S5,acc ++ [yd],us ++ [v],xg,xwg,?_,rlw5.grow hDB' hD5 hus5,rlσ5.grow hDB' hD5 hus5,upd_same,hD5,
                    reps_app (Reps.updE hDx racc5) (.cons (Rep.updE hDx rv) .nil),c5⟩
                  intro b hb
                  by_cases e:b=D
                  · rw [e,upd_same] at hb; cases hb
                  · rw [upd_ne e] at hb; exact dm b (x37.dom b hb)
                · rw [if_neg hz] at c5
                  exact (show False from c5).elim
          · rename_i hk
            rw [if_neg hk] at c4
            exact ⟨ι6,S4,acc,us,x2.trans x36,xw.trans dm x36.toW,fun b hb=>dm b (x36.dom b hb),rlw4,rlσ4,hus4,hD4,Reps.ext x36 racc,c4⟩
  · have e:i=es.length:=by omega
    subst e
    refine .inl ⟨w.stops H2 q,?_⟩
    rw [List.drop_length] at c2
    exact hNx ι2 H2 S2 acc us x2 rlσ hus hD2 racc c2
theorem lc2_of {fi fi1:FI} {gf gf1:FG} {sl sl1:List Nat} {t t1:FT} {fe:FE} {vs vs1:List Nat} {tgr tgr1:TG}
    (hg:GRel F gf sl tgr) (hsl:∀ i∈sl,i∈vs) (hg1:GRel F gf1 sl1 tgr1) (hsl1:∀ i∈sl1,i∈vs1) {Q:VK} {σ:L2.St} {H:Hp}
    (h:tR F Wsh (fLc2 fi gf t fi1 gf1 t1 fe vs vs1) σ H Q):tLc2 (tRI F Wsh fi) tgr (tRT F W0 t) (tRI F W0 fi1) tgr1 (tRT F W0 t1) (tR F W0 fe) vs vs1 σ H Q:=by
  obtain ⟨B,ι,ρ,S,rl,c⟩:=h
  refine ⟨B,ι,ρ,S,rl,c.bind.mono fun ds S1 ι1 H1 _ x1 rl1 c1 J wd D hD=>?_⟩
  obtain ⟨G,Y,w,hG,hY⟩:=wd
  have hDf:=rl1.toRelS.fresh hD
  have hDB:D ∉ B:=fun z=>hDf (List.mem_append_left _ z)
  have hDι:D ∉ flat ι1:=fun z=>hDf (List.mem_append_right _ z)
  have toBig:∀ {ι2:Ads} {H2:Hp} {ρ2:Loc} {S2:Sto} {σ2:L2.St},Rel F H2 (B ++ [D]) ι2 ρ2 S2 σ2→Rel F H2 B ι2 ρ2 S2 σ2:=fun {ι2 H2 ρ2 S2 σ2} r=>r.sub (fun a ha _=>by
    rcases List.mem_append.mp ha with z | z
    · exact List.mem_append_left _ (List.mem_append_left _ z)
    · exact List.mem_append_right _ z) (fun a ha=>r.bs a (List.mem_append_left _ ha)) fun a ha=>r.dis a (List.mem_append_left _ ha)
  have rl0:Rel F (upd H1 D (.lst [])) (B ++ [D]) ι1 ρ S1 σ:=by
    have r0:=rl1.new (o:=.lst []) hD
    refine ⟨⟨r0.nd,r0.len,fun i p ob h1 h2=>?_,r0.tab,fun b hb=>?_,fun b hb=>?_⟩,?_⟩
    · refine ((rl1.obj i p ob h1 h2).sub (B':=B ++ [D]) fun a ha n=>?_).ext (Ext.new hD) fun a ha=>upd_ne fun e=>?_
      · rcases List.mem_append.mp ha with z | z
        · rcases List.mem_append.mp z with z | z
          · exact List.mem_append_left _ z
          · simp at z; rw [z,hD] at n; exact absurd rfl n
        · exact List.mem_append_right _ z
      · rw [e] at ha
        rcases ha with z | z
        · exact hDι (z ▸ mem_flat h1)
        · exact hDι (mem_flat2 h1 z)
    · rcases List.mem_append.mp hb with z | z
      · exact r0.bs b z
      · simp at z; rw [z,upd_same]; simp
    · rcases List.mem_append.mp hb with z | z
      · exact rl1.dis b z
      · simp at z; rw [z]; exact hDι
    · refine pImp (fun a b q=>?_) rl1.loc
      refine RL.ext (Ext.new hD) (RL.sub (B':=B ++ [D]) (fun a ha n=>?_) q)
      rcases List.mem_append.mp ha with z | z
      · rcases List.mem_append.mp z with z | z
        · exact List.mem_append_left _ z
        · simp at z; rw [z,hD] at n; exact absurd rfl n
      · exact List.mem_append_right _ z
  let Pv:Nat→Hp→Prop:=fun i H2=>∃ ι2 S2 acc us,Ext ι1 H1 ι2 H2∧Rel F H2 (B ++ [D]) ι2 ρ S2 σ∧H2 D=some (.lst us)∧D ∉ flat ι2∧RDs F H2 (B ++ [D]) ι2 acc us ∧
      Cont F Wsh B ρ σ ι1 H1 ((compL2 gf t fi1 gf1 t1 fe vs1 (wipeL ρ vs) (ds.drop i) S2 acc).bind fun ys S2=>.ok (.d (.lst ys)) S2) (fun w _ ι' H'=>∀ v,RW F H' B ι' w v→Q v H')
  refine ⟨fun i m H=>m=ds.length - i∧i≤ds.length∧Pv i H,⟨ds.length,by simp,Nat.zero_le _,ι1,S1,[],[],Ext.new hD,rl0,upd_same,hDι,.nil,by simpa using c1⟩,?_⟩
  rintro i m H2 ⟨rfl,hi,p⟩
  obtain ⟨ι2,S2,acc,us,x2,rlσ,hus,hD2,racc,c2⟩:=p
  have q:=hG ι2 H2 x2.toW
  by_cases hlt:i < ds.length
  · refine .inr ⟨w.goes i H2 hlt q,Pv (i + 1),fun H' p'=>⟨ds.length - (i + 1),by omega,rfl,hlt,p'⟩,fun x H3 y=>?_⟩
    have y:=w.yields i H2 x H3 hlt q y
    obtain ⟨hn,d,hd,rd⟩:=hY i (B ++ [D]) ι2 H2 S2 x H3 hlt x2.toW (fun a ha=>by
      rcases List.mem_append.mp ha with z | z
      · exact .inl z
      · simp at z; exact .inr (z ▸ hD)) rlσ.toRelS y
    obtain ⟨rlσ3,x3⟩:=RelS.walked rlσ hn
    have hus3:H3 D=some (.lst us):=x3.keep _ _ hD2 hus nt_lst
    have hdr:ds.drop i=d :: ds.drop (i + 1):=by
      rw [List.drop_eq_getElem_cons hlt]
      rw [List.getElem?_eq_getElem hlt] at hd
      rw [Option.some.inj hd]
    rw [hdr] at c2
    simp only [compL2] at c2
    cases hgd:gf (.d d) (wipeL ρ vs) S2 with
    | none=>rw [hgd] at c2; exact (show False from c2).elim
    | some ρ3 =>
      rw [hgd] at c2
      refine hg (B ++ [D]) ι2 (wipeL ρ vs) S2 (L2.wipe σ vs) H3 (.d d) x ρ3 _ (rlσ3.wipe vs) rd hgd fun σ3 rl4 hw=>⟨?_,?_⟩
      · have e1:=hw vs hsl
        rw [wipe_wipe] at e1
        exact e1
      · refine ⟨B ++ [D],ι2,ρ3,S2,rl4,?_⟩
        revert c2
        simp only []
        generalize ht:t ρ3 S2=rt
        cases rt with
        | err=>exact fun c3=>(show False from c3).elim
        | exn _ _ _=>exact fun c3=>(show False from c3).elim
        | ok k S4 =>
          intro c3 ι4 H4 x4 rl5
          have c4:Cont F Wsh B ρ σ ι1 H1 ((if k=true then (noX (fi1 ρ3 S4)).bind fun es S2=>(compL gf1 t1 fe (wipeL ρ3 vs1) es S2 acc).bind fun acc' S3=>compL2 gf t fi1 gf1 t1 fe vs1 (wipeL ρ vs) (ds.drop (i + 1)) S3 acc'
            else compL2 gf t fi1 gf1 t1 fe vs1 (wipeL ρ vs) (ds.drop (i + 1)) S4 acc).bind fun ys S2=>.ok (.d (.lst ys)) S2) (fun w _ ι' H'=>∀ v,RW F H' B ι' w v→Q v H'):=c3
          have x34:=x3.trans x4
          have hus4:H4 D=some (.lst us):=x4.keep _ _ hD2 hus3 nt_lst
          have hD4:D ∉ flat ι4:=x4.notin hD2 (by rw [hus3]; simp)
          split
          · rename_i hk
            rw [if_pos hk] at c4
            refine ⟨B ++ [D],ι4,ρ3,S4,rl5,?_⟩
            revert c4
            generalize hfi:fi1 ρ3 S4=rf
            cases rf with
            | err=>exact fun c4=>(show False from c4).elim
            | exn _ _ _=>exact fun c4=>(show False from c4).elim
            | ok es S5 =>
              intro c4 ι5 H5 x5 rl6 J1 wd1
              have c5:Cont F Wsh B ρ σ ι1 H1 (((compL gf1 t1 fe (wipeL ρ3 vs1) es S5 acc).bind fun acc' S3=>compL2 gf t fi1 gf1 t1 fe vs1 (wipeL ρ vs) (ds.drop (i + 1)) S3 acc').bind fun ys S2=>.ok (.d (.lst ys)) S2) (fun w _ ι' H'=>∀ v,RW F H' B ι' w v→Q v H'):=c4
              rw [R_bind_assoc] at c5
              have x35:=x34.trans x5
              have hus5:H5 D=some (.lst us):=x5.keep _ _ hD4 hus4 nt_lst
              have hD5:D ∉ flat ι5:=x5.notin hD4 (by rw [hus4]; simp)
              have rlσ5:Rel F H5 (B ++ [D]) ι5 ρ S5 σ:=⟨rl6.toRelS,pImp (fun _ _ q=>RL.ext x35 q) rlσ.loc⟩
              exact in_of hg1 hsl1 (fun _ _ _ q=>q) (fun _ _ _ q=>q) wd1 hD (x2.trans x35) rl6 rlσ5 hus5 hD5 (Reps.ext x35 racc) c5 fun ι6 H6 S6 acc6 us6 x6 rl7 hus6 hD6 racc6 c6=>⟨ι6,S6,acc6,us6,x6,rl7,hus6,hD6,racc6,c6⟩
          · rename_i hk
            rw [if_neg hk] at c4
            exact ⟨ι4,S4,acc,us,x2.trans x34,⟨rl5.toRelS,pImp (fun _ _ q=>RL.ext x34 q) rlσ.loc⟩,hus4,hD4,Reps.ext x34 racc,c4⟩
  · have e:i=ds.length:=by omega
    subst e
    refine .inl ⟨w.stops H2 q,?_⟩
    rw [List.drop_length] at c2
    have c3:Cont F Wsh B ρ σ ι1 H1 (.ok (W.d (.lst acc)) S2) (fun w _ ι' H'=>∀ v,RW F H' B ι' w v→Q v H'):=c2
    refine c3 ι2 H2 x2 (toBig rlσ) _ ?_
    refine .lst (fun z=>?_) hus (Reps.sub (fun a ha _=>?_) racc)
    · rcases List.mem_append.mp z with q | q
      · exact hDB q
      · exact hD2 q
    · rcases List.mem_append.mp ha with z | z
      · exact List.mem_append_left _ (List.mem_append_left _ z)
      · exact List.mem_append_right _ z
theorem r_setLc2 {i:Nat} {y:Str} {py:Pos} {elt tg iter tg1 iter1:Expr} {ifs ifs1:List Expr} {scope:Scope} {own:List (Str×Nat)} {vs1:List Nat} {pos spos:Pos} {fi fi1:FI} {gf gf1:FG} {sl sl1:List Nat} {t t1:FT} {fe:FE} {tgr tgr1:TG} (hc:X.calm=true) (hN:X.N.Nodup) (hy:X.N[i]? = some y) (hyl:X.env.scope.names.lookup y=some .local)
    (hsw:swapsWith (.ListComp elt [⟨tg,iter,ifs,0⟩,⟨tg1,iter1,ifs1,0⟩] scope pos) (some (.Name y py)) spos.line X.env=pure true) (hi:PI X tg iter (tRI F Wsh fi)) (ok:BlkOk X.N X.env.scope scope own) (hv:∀ i∈vs1,i∈own.map (·.2))
    (hr:GRel F gf sl tgr) (hsl:∀ i∈sl,i∈own.map (·.2)) (hr1:GRel F gf1 sl1 tgr1) (hsl1:∀ i∈sl1,i∈vs1)
    (hg:∀ (s:Shared) (H:Hp) (C:Addr) (cl:List (Str×Addr)) (fp:List Addr),PG (X.blk s H scope (compEnvC scope cl C X.env) fp) tg tgr) (ht:∀ (s:Shared) (H:Hp) (C:Addr) (cl:List (Str×Addr)) (fp:List Addr),TestsOk (X.blk s H scope (compEnvC scope cl C X.env) fp) F ifs t)
    (hi1:∀ (s:Shared) (H:Hp) (C:Addr) (cl:List (Str×Addr)) (fp:List Addr),PI (X.blk s H scope (compEnvC scope cl C X.env) fp) tg1 iter1 (tRI F W0 fi1))
    (hg1:∀ (s:Shared) (H:Hp) (C:Addr) (cl:List (Str×Addr)) (fp:List Addr),PG (X.blk s H scope (compEnvC scope cl C X.env) fp) tg1 tgr1) (ht1:∀ (s:Shared) (H:Hp) (C:Addr) (cl:List (Str×Addr)) (fp:List Addr),TestsOk (X.blk s H scope (compEnvC scope cl C X.env) fp) F ifs1 t1)
    (he:∀ (s:Shared) (H:Hp) (C:Addr) (cl:List (Str×Addr)) (fp:List Addr),PE (X.blk s H scope (compEnvC scope cl C X.env) fp) elt (tR F W0 fe)) (hs:∀ x,foldedSetIterable iter X.env x=pure x:=by intro _; rfl) (hs1:∀ env x,foldedSetIterable iter1 env x=pure x:=by intro _ _; rfl) :
    PS X (.Assign [.Name y py] (.ListComp elt [⟨tg,iter,ifs,0⟩,⟨tg1,iter1,ifs1,0⟩] scope pos) spos) (tS F Wsh (sSet i (fLc2 fi gf t fi1 gf1 t1 fe (own.map (·.2)) vs1))) :=
  psImp (ps_setLc2 hc hN hy hyl hsw hi ok hv hg ht hi1 hg1 ht1 he hs hs1) fun D σ H ⟨B,ι,ρ,S,rl,c⟩=>by
    refine lc2_of hr hsl hr1 hsl1 ?_
    exact tS_step rl c fun w v S1 ι1 H1 x1 rl1 rv c1=>c1.nx_here (rl1.set i rv)
end
end Ev
namespace Ev
open PySem PySem.Spec L2
theorem flat_cons (p:Addr×List Addr) (ι:Ads):flat (p :: ι)=(p.1 :: p.2) ++ flat ι:=rfl
theorem flat_app (ι κ:Ads):flat (ι ++ κ)=flat ι ++ flat κ:=by simp [flat]
theorem flat_apart:∀ {ι:Ads} {i j:Nat} {p q:Addr×List Addr} {a:Addr},(flat ι).Nodup→ι[i]? = some p→ι[j]? = some q→i ≠ j→(a=p.1∨a∈p.2)→(a=q.1∨a∈q.2)→False
  | [],_,_,_,_,_,_,h,_,_,_,_=>by simp at h
  | r :: ι,0,0,_,_,_,_,_,_,n,_,_=>absurd rfl n
  | r :: ι,0,j + 1,p,q,a,nd,h1,h2,_,ha,hb=>by
    simp at h1 h2; subst h1
    rw [flat_cons,List.nodup_append] at nd
    exact nd.2.2 a (List.mem_cons.mpr ha) a (List.mem_flatMap.mpr ⟨q,List.mem_iff_getElem?.mpr ⟨j,h2⟩,List.mem_cons.mpr hb⟩) rfl
  | r :: ι,i + 1,0,p,q,a,nd,h1,h2,_,ha,hb=>by
    simp at h1 h2; subst h2
    rw [flat_cons,List.nodup_append] at nd
    exact nd.2.2 a (List.mem_cons.mpr hb) a (List.mem_flatMap.mpr ⟨p,List.mem_iff_getElem?.mpr ⟨i,h1⟩,List.mem_cons.mpr ha⟩) rfl
  | r :: ι,i + 1,j + 1,p,q,a,nd,h1,h2,n,ha,hb=>by
    rw [flat_cons,List.nodup_append] at nd
    exact flat_apart nd.2.1 (by simpa using h1) (by simpa using h2) (fun e=>n (by rw [e])) ha hb
section
variable {F:Fx} {H:Hp} {B:List Addr} {ι:Ads} {S:Sto} {A:Addr} {u:HO}
theorem Ext.upd_in (h:A∈flat ι) (n:H A ≠ none):Ext ι H ι (upd H A u) :=
  ⟨fun _ p h=>⟨p,h,rfl⟩,fun _ z=>.inl z,fun b q=>by
    by_cases e:b=A
    · rw [e,upd_same] at q; cases q
    · rw [upd_ne e] at q; exact q,fun b o nb q _=>by rw [upd_ne (fun e=>nb (by rw [e]; exact h))]; exact q⟩
theorem tabs_in {T:List (Addr×Str)} (t:TabA T H) {o:HO} (h:H A=some o) (n:notTbl o∧∀ c q,o ≠ LamX.CodeO c q) (nt:notTbl u):TabA T (upd H A u):=by
  refine ⟨fun p hp=>?_,fun b ps e=>?_⟩
  · obtain ⟨ps,h1,h2,h3⟩:=t.1 p hp
    refine ⟨ps,?_,h2,fun pos cv hc=>?_⟩
    · rw [upd_ne]
      · exact h1
      · intro e; rw [e,h] at h1; exact n.1 _ (Option.some.inj h1)
    · obtain ⟨c,e1,e2⟩:=h3 pos cv hc
      refine ⟨c,e1,?_⟩
      rw [upd_ne]
      · exact e2
      · intro e; rw [e,h] at e2; exact n.2 _ _ (Option.some.inj e2)
  · by_cases z:b=A
    · rw [z,upd_same] at e; exact absurd (Option.some.inj e) (nt ps)
    · rw [upd_ne z] at e; exact t.2 b ps e
theorem RO.nxd {o:O} {p:Addr×List Addr} (h:RO F H B ι o p) {a:Addr} (ha:a=p.1∨a∈p.2):¬ ∃ fs,H a=some (.xd fs):=by
  rintro ⟨fs,e⟩
  cases o with
  | lst ws =>
    obtain ⟨h0,vs,h1,r⟩:=h
    rcases ha with rfl | ha
    · rw [h1] at e; cases e
    · rw [h0] at ha; simp at ha
  | tup ws =>
    obtain ⟨h0,vs,h1,r⟩:=h
    rcases ha with rfl | ha
    · rw [h1] at e; cases e
    · rw [h0] at ha; simp at ha
  | kd ws =>
    obtain ⟨h0,_,vs,h1,r⟩:=h
    rcases ha with rfl | ha
    · rw [h1] at e; cases e
    · rw [h0] at ha; simp at ha
  | dct ws =>
    obtain ⟨h0,vs,h1,r⟩:=h
    rcases ha with rfl | ha
    · rw [h1] at e; cases e
    · rw [h0] at ha; simp at ha
  | ins c fs =>
    obtain ⟨h0,dx,vs,h1,r⟩:=h
    rcases ha with rfl | ha
    · rw [h1] at e; cases e
    · rw [h0] at ha; simp at ha
  | drw cs ls n =>
    obtain ⟨aC,aL,h0,h1,h2,h3⟩:=h
    rcases ha with rfl | ha
    · rw [h1] at e; cases e
    · rw [h0] at ha
      simp at ha
      rcases ha with rfl | rfl
      · rw [h2] at e; cases e
      · rw [h3] at e; cases e
theorem RelS.put {i:Nat} {p:Addr×List Addr} {o o':O} (r:RelS F H B ι S) (hi:ι[i]? = some p) (ho:S[i]? = some o) (hA:A=p.1∨A∈p.2) (new:RO F (upd H A u) B ι o' p) (nt:notTbl u:=by first | exact nt_tup | exact nt_lst | exact nt_xd | exact nt_dK | exact nt_ins) :
    RelS F (upd H A u) B ι (S.set i o')∧Ext ι H ι (upd H A u):=by
  have ro:=r.obj i p o hi ho
  have hm:A∈flat ι:=by
    rcases hA with rfl | z
    · exact Ev.mem_flat hi
    · exact Ev.mem_flat2 hi z
  have hn:H A ≠ none:=ro.tracked hA
  obtain ⟨w,hw⟩:∃ w,H A=some w:=by
    cases e:H A with
    | none=>exact absurd e hn
    | some w=>exact ⟨w,rfl⟩
  have x:Ext ι H ι (upd H A u):=Ext.upd_in hm hn
  refine ⟨⟨r.nd,by rw [List.length_set]; exact r.len,fun j q ob h1 h2=>?_,tabs_in r.tab hw (ro.ntbl hA hw) nt,fun b hb=>?_,r.dis⟩,x⟩
  · by_cases e:i=j
    · subst e
      rw [hi] at h1
      cases h1
      have hl:i < S.length:=(List.getElem?_eq_some_iff.mp ho).1
      rw [List.getElem?_set_self hl] at h2
      cases h2
      exact new
    · rw [List.getElem?_set_ne e] at h2
      exact (r.obj j q ob h1 h2).updE (List.mem_append_right _ hm) (ro.nxd hA) (fun c q z=>(ro.ntbl hA z).2 c q rfl) fun a ha z=>flat_apart (a:=A) r.nd hi h1 e hA (z ▸ ha)
  · by_cases e:b=A
    · rw [e,upd_same]; simp
    · rw [upd_ne e]; exact r.bs b hb
theorem Rel.put {ρ:Loc} {σ:L2.St} {i:Nat} {p:Addr×List Addr} {o o':O} (r:Rel F H B ι ρ S σ) (hi:ι[i]? = some p) (ho:S[i]? = some o) (hA:A=p.1∨A∈p.2) (new:RO F (upd H A u) B ι o' p) (nt:notTbl u:=by first | exact nt_tup | exact nt_lst | exact nt_xd | exact nt_dK | exact nt_ins) :
    Rel F (upd H A u) B ι ρ (S.set i o') σ∧Ext ι H ι (upd H A u):=by
  obtain ⟨h1,x⟩:=r.toRelS.put hi ho hA new nt
  exact ⟨⟨h1,pImp (fun _ _ q=>RL.ext x q) r.loc⟩,x⟩
theorem Ext.push (h:H A=none):Ext ι H (ι ++ [(A,[])]) (upd H A u) :=
  ⟨fun i p h=>⟨p,by rw [List.getElem?_append_left (List.getElem?_eq_some_iff.mp h).1]; exact h,rfl⟩,fun b z=>by
    rw [flat_app] at z
    rcases List.mem_append.mp z with q | q
    · exact .inl q
    · simp [flat] at q; rw [q]; exact .inr h,(Ext.new (ι:=ι) h).dom,(Ext.new (ι:=ι) h).keep⟩
theorem RelS.push {o':O} (r:RelS F H B ι S) (h:H A=none) (new:RO F (upd H A u) B (ι ++ [(A,[])]) o' (A,[])) (nt:notTbl u:=by first | exact nt_tup | exact nt_lst | exact nt_xd | exact nt_dK | exact nt_ins):RelS F (upd H A u) B (ι ++ [(A,[])]) (S ++ [o']):=by
  have hf:=r.fresh h
  have hB:A ∉ B:=fun z=>hf (List.mem_append_left _ z)
  have hι:A ∉ flat ι:=fun z=>hf (List.mem_append_right _ z)
  have fl:flat (ι ++ [(A,[])])=flat ι ++ [A]:=by rw [flat_app]; simp [flat]
  refine ⟨?_,by simp [r.len],fun j q ob h1 h2=>?_,tabs_new r.tab h nt,fun b hb=>?_,fun b hb=>?_⟩
  · rw [fl,List.nodup_append]
    refine ⟨r.nd,by simp,fun a ha b hb e=>?_⟩
    simp at hb
    exact hι (by rw [← hb,← e]; exact ha)
  · by_cases e:j < ι.length
    · rw [List.getElem?_append_left e] at h1
      rw [List.getElem?_append_left (by rw [← r.len]; exact e)] at h2
      exact (r.obj j q ob h1 h2).ext (Ext.push h) fun a ha=>upd_ne fun z=>hι (by
        rw [← z]
        rcases ha with rfl | ha
        · exact Ev.mem_flat h1
        · exact Ev.mem_flat2 h1 ha)
    · have hl:j=ι.length:=by
        have:=(List.getElem?_eq_some_iff.mp h1).1
        simp at this
        omega
      subst hl
      rw [List.getElem?_append_right (Nat.le_refl _)] at h1
      rw [List.getElem?_append_right (by rw [r.len]; exact Nat.le_refl _),r.len] at h2
      simp at h1 h2
      subst h1 h2
      exact new
  · by_cases e:b=A
    · rw [e,upd_same]; simp
    · rw [upd_ne e]; exact r.bs b hb
  · rw [fl]
    intro z
    rcases List.mem_append.mp z with q | q
    · exact r.dis b hb q
    · simp at q; exact hB (q ▸ hb)
theorem Rel.push {ρ:Loc} {σ:L2.St} {o':O} (r:Rel F H B ι ρ S σ) (h:H A=none) (new:RO F (upd H A u) B (ι ++ [(A,[])]) o' (A,[])) (nt:notTbl u:=by first | exact nt_tup | exact nt_lst | exact nt_xd | exact nt_dK | exact nt_ins):Rel F (upd H A u) B (ι ++ [(A,[])]) ρ (S ++ [o']) σ :=
  ⟨r.toRelS.push h new nt,pImp (fun _ _ q=>RL.ext (Ext.push h) q) r.loc⟩
end
theorem paired_len {α β:Type} {A:α→β→Prop}:∀ {l:List α} {m:List β},Paired A l m→l.length=m.length
  | _,_,.nil=>rfl
  | _,_,.cons _ t=>by simp [paired_len t]
theorem paired_app {α β:Type} {A:α→β→Prop}:∀ {l l':List α} {m m':List β},Paired A l m→Paired A l' m'→Paired A (l ++ l') (m ++ m')
  | _,_,_,_,.nil,h=>h
  | _,_,_,_,.cons r t,h=>.cons r (paired_app t h)
section
variable {X:Cx} {F:Fx} {Wsh:WX} {es:List Expr} {e o tg:Expr} {f g:FE} {fa:FA} {pos p apos:Pos}
def fNewL (g:FA):FE:=fun ρ S=>(g ρ S).bind fun ws S1=>if ws.length≤sizeLine then .ok (.ref S1.length) (S1 ++ [.lst ws]) else .err
theorem new_ref {H:Hp} {B:List Addr} {ι:Ads} {ρ:Loc} {S:Sto} {σ:L2.St} {ws:List W} {vs:List V} {a:Addr} {Q:VK} (rl:Rel F H B ι ρ S σ) (rv:RWs F H B ι ws vs) (h:H a=none)
    (c:Cont F Wsh B ρ σ ι H (.ok (.ref S.length) (S ++ [.lst ws])) (fun w _ ι' H'=>∀ v,RW F H' B ι' w v→Q v H')):Q (.ref a) (upd H a (.lst vs)):=by
  have x:Ext ι H (ι ++ [(a,[])]) (upd H a (.lst vs)):=Ext.push h
  refine c _ _ x (rl.push h ⟨rfl,vs,upd_same,RWs.ext x rv⟩) _ ⟨(a,[]),?_,rfl⟩
  rw [List.getElem?_append_right (by rw [rl.len]; exact Nat.le_refl _),rl.len]
  simp
theorem r_newL (h:PA X es (tRA F Wsh fa)):PE X (.List es pos) (tR F Wsh (fNewL fa)):=peImp (pe_lst h) fun σ H Q ⟨B,ι,ρ,S,rl,c⟩=>by
  refine tRA_step rl c fun ws vs S1 ι1 H1 x1 rl1 rv c1=>?_
  split at c1
  · rename_i hz
    exact ⟨by rw [← paired_len rv]; exact hz,fun p hp=>new_ref rl1 rv hp c1⟩
  · exact (show False from c1).elim
def opApp (w:W) (ws:List W) (S:Sto):R W:=match w,ws with
  | .ref i,[y]=>match S[i]? with
    | some (.lst xs)=>if xs.length < sizeLine then .ok (.d .non) (S.set i (.lst (xs ++ [y]))) else .err
    | _=>.err
  | _,_=>.err
def isLstR (w:W) (S:Sto):Bool:=match w with
  | .ref i=>match S[i]? with
    | some (.lst _)=>true
    | _=>false
  | .d (.lst _)=>true
  | _=>false
def fMeth (chk:W→Sto→Bool) (op:W→List W→Sto→R W) (f:FE) (fa:FA):FE:=fun ρ S=>(f ρ S).bind fun w S1=>if chk w S1=true then (fa ρ S1).bind fun ws S2=>op w ws S2 else .err
theorem RelS.at_ref {H:Hp} {B:List Addr} {ι:Ads} {S:Sto} {i:Nat} {v:V} {o:O} (r:RelS F H B ι S) (rv:RW F H B ι (.ref i) v) (ho:S[i]? = some o):∃ p,ι[i]? = some p∧v=.ref p.1∧RO F H B ι o p:=by
  obtain ⟨p,hp,e⟩:=rv
  exact ⟨p,hp,e,r.obj i p o hp ho⟩
theorem isLst_ty {H:Hp} {B:List Addr} {ι:Ads} {S:Sto} {w:W} {v:V} (r:RelS F H B ι S) (rv:RW F H B ι w v) (h:isLstR w S=true):tyV F.K "list" v H:=by
  unfold isLstR at h
  split at h
  · split at h
    · rename_i i ws e
      obtain ⟨p,hp,rfl,_,vs,h1,_⟩:=r.at_ref rv e
      exact .inl ⟨rfl,_,SqL.of h1⟩
    · cases h
  · obtain ⟨a,vs,rfl,h1,_⟩:=sq_keepL rv
    exact .inl ⟨rfl,_,h1⟩
  · cases h
theorem r_append (hK:X.K=F.K) (ho:PE X o (tR F Wsh f)) (ha:PA X [e] (tRA F Wsh fa)) (hbase:attributeBase o "append" X.env (eval o X.env)=eval o X.env:=by rfl)
    (hfew:((backTo pos (starEach [e] X.env)).all (fun x=>!x.1) && (backToKw pos (keywordEach [] X.env)).all (fun x=>x.1.isSome)
      && decide ([e].length + ([]:List Keyword).length + (if ([]:List Keyword).isEmpty then 0 else 1) < 30))=true:=by rfl)
    (hline:(apos.endLine == pos.line)=true:=by rfl) (hs:starEach [e] X.env=(false,eval e X.env) :: starEach [] X.env:=by rfl) :
    PE X (.Call (.Attribute o "append" apos) [e] [] pos) (tR F Wsh (fMeth isLstR opApp f fa)) :=
  peImp (pe_bm PySem.F.plainAttrs_list PySem.F.slot_list_append PySem.F.type_list_append mt_append ho ha hbase hfew hline hs rfl) fun σ H Q ⟨B,ι,ρ,S,rl,c⟩=>by
    refine tR_step rl c fun w v S1 ι1 H1 x1 rl1 rv c1=>?_
    split at c1
    · rename_i hk
      refine ⟨by rw [hK]; exact isLst_ty rl1.toRelS rv hk,?_⟩
      refine tRA_step rl1 c1 fun ws vs S2 ι2 H2 x2 rl2 rvs c2=>?_
      unfold opApp at c2
      split at c2
      · rename_i i y
        split at c2
        · rename_i xs e
          split at c2
          · rename_i hz
            obtain ⟨u,rfl,ru⟩:=one_arg rvs
            obtain ⟨p,hp,rfl,h0,us,h1,rus⟩:=rl2.toRelS.at_ref (RW.ext x2 rv) e
            have hm:p.1∈B ++ flat ι2:=List.mem_append_right _ (mem_flat hp)
            have nx:¬ ∃ fs,H2 p.1=some (.xd fs):=fun ⟨fs,z⟩=>by rw [h1] at z; cases z
            have n2:NoC H2 p.1:=noC_of h1 fun _ z=>nomatch z
            obtain ⟨rl3,x3⟩:=rl2.put (A:=p.1) (u:=.lst (us ++ [u])) (o':=.lst (xs ++ [y])) hp e (.inl rfl) ⟨h0,us ++ [u],upd_same,paired_app (pImp (fun _ _ q=>RW.updE hm nx n2 q) rus) (.cons (RW.updE hm nx n2 ru) .nil)⟩
            exact ⟨p.1,us,u,rfl,rfl,h1,by rw [← paired_len rus]; exact hz,c2 _ _ x3 rl3 _ .non⟩
          · exact (show False from c2).elim
        · exact (show False from c2).elim
      · exact (show False from c2).elim
    · exact (show False from c1).elim
def loopR (g:FG) (f:FS) (i:Nat):Nat→Nat→Loc→Sto→RS
  | 0,_,_,_=>.err
  | n + 1,k,ρ,S=>match S[i]? with
    | some (.lst ws)=>(match ws[k]? with
      | none=>.nx ρ S
      | some w=>(match g w ρ S with
        | none=>.err
        | some ρ1=>(match f ρ1 S with
          | .nx ρ2 S2=>loopR g f i n (k + 1) ρ2 S2
          | .ct ρ2 S2=>loopR g f i n (k + 1) ρ2 S2
          | .bk ρ2 S2=>.nx ρ2 S2
          | r=>r)))
    | _=>.err
def sForR (n:Nat) (fe:FE) (g:FG) (f:FS):FS:=fun ρ S=>(fe ρ S).st ρ fun w S1=>match w with
  | .ref i=>loopR g f i n 0 ρ S1
  | _=>.err
theorem r_forR {iter:Expr} {body:List Stmt} {fe:FE} {gf:FG} {sl:List Nat} {fb:FS} (n:Nat) (hK:X.K=F.K) (hp:PassesOwn (model X.prog X.w) X.A X.env X.xe) (hc:X.calm=true) (he:PE X iter (tR F Wsh fe)) (hg:GOk X F tg gf sl) (hb:PSs X body (tS F Wsh fb)) (hs:∀ x,foldedSetIterable iter X.env x=pure x:=by intro _; rfl) :
    PS X (.For tg iter body [] pos) (tS F Wsh (sForR n fe gf fb)):=by
  obtain ⟨t,pt,ht⟩:=hg
  refine psImp (ps_for hp hc (pi_list he) pt hb hs) fun D σ H ⟨B,ι,ρ,S,rl,c⟩=>?_
  refine tS_step rl c fun w v S1 ι1 H1 x1 rl1 rv c1=>?_
  cases w with
  | d _=>exact (show False from c1).elim
  | exc _ _=>exact (show False from c1).elim
  | fn=>exact (show False from c1).elim
  | ref i =>
    have c1:SCont F Wsh B ι1 H1 D (loopR gf fb i n 0 ρ S1):=c1
    obtain ⟨p,hpi,rfl⟩:=rv
    have look:∀ {k m:Nat} {ι2:Ads} {H2:Hp} {ρ2:Loc} {S2:Sto} {σ2:L2.St},Ext ι1 H1 ι2 H2→Rel F H2 B ι2 ρ2 S2 σ2→SCont F Wsh B ι2 H2 D (loopR gf fb i m k ρ2 S2) →
        ∃ ws vs m',m=m' + 1∧S2[i]? = some (.lst ws)∧H2 p.1=some (.lst vs)∧RWs F H2 B ι2 ws vs:=fun {k m ι2 H2 ρ2 S2 σ2} x2 rl2 c2=>by
      cases m with
      | zero=>exact (show False from c2).elim
      | succ m =>
        obtain ⟨p2,hp2,e2⟩:=x2.at_ i p hpi
        obtain ⟨o2,ho2,ro2⟩:=rl2.toRelS.at_some hp2
        unfold loopR at c2
        rw [ho2] at c2
        cases o2 with
        | lst ws =>
          obtain ⟨_,vs,h1,r⟩:=ro2
          rw [e2] at h1
          exact ⟨ws,vs,m,rfl,ho2,h1,r⟩
        | tup _=>exact (show False from c2).elim
        | kd _=>exact (show False from c2).elim
        | dct _=>exact (show False from c2).elim
        | drw _ _ _=>exact (show False from c2).elim
        | ins _ _=>exact (show False from c2).elim
    obtain ⟨ws0,vs0,_,_,_,h0,_⟩:=look (Ext.refl _ _) rl1 c1
    refine ⟨p.1,rfl,⟨vs0,SqL.of h0⟩,?_⟩
    refine ⟨fun k m σ2 H2=>∃ ι2 ρ2 S2,Ext ι1 H1 ι2 H2∧Rel F H2 B ι2 ρ2 S2 σ2∧SCont F Wsh B ι2 H2 D (loopR gf fb i m k ρ2 S2),⟨n,ι1,ρ,S1,Ext.refl _ _,rl1,c1⟩,?_⟩
    rintro k m σ2 H2 ⟨ι2,ρ2,S2,x2,rl2,c2⟩
    obtain ⟨ws,vs,m',rfl,e2,h2,r2⟩:=look x2 rl2 c2
    unfold loopR at c2
    rw [e2] at c2
    simp only [] at c2
    cases hk:ws[k]? with
    | none =>
      rw [hk] at c2
      refine .inl ⟨⟨vs,SqL.of h2,?_⟩,SCont.nx_here (show SCont F Wsh B ι2 H2 D (.nx ρ2 S2) from c2) rl2⟩
      rw [← paired_len r2]
      exact List.getElem?_eq_none_iff.mp hk
    | some w =>
      rw [hk] at c2
      simp only [] at c2
      obtain ⟨y,hy,ry⟩:=pAt r2 hk
      refine .inr ⟨⟨vs,y,SqL.of h2,hy⟩,fun σ3 H3=>∃ ι2 ρ2 S2,Ext ι1 H1 ι2 H3∧Rel F H3 B ι2 ρ2 S2 σ3∧SCont F Wsh B ι2 H3 D (loopR gf fb i m' (k + 1) ρ2 S2),fun σ3 H3 h3=>⟨m',Nat.lt_succ_self _,h3⟩,?_⟩
      rintro x H3 ⟨rfl,hx⟩
      have hx:=hx vs (SqL.of h2)
      rw [hy] at hx
      cases hx
      cases hgd:gf w ρ2 S2 with
      | none=>rw [hgd] at c2; exact (show False from c2).elim
      | some ρ3 =>
        rw [hgd] at c2
        refine ht B ι2 ρ2 S2 σ2 H3 w y ρ3 _ rl2 ry hgd fun σ3 rl4 _=>⟨B,ι2,ρ3,S2,rl4,?_⟩
        revert c2
        simp only []
        cases fb ρ3 S2 with
        | nx ρ4 S4=>exact fun c3 ι4 H4 σ4 x4 rl5=>⟨ι4,ρ4,S4,x2.trans x4,rl5,SCont.ext (show SCont F Wsh B ι2 H3 D (loopR gf fb i m' (k + 1) ρ4 S4) from c3) x4⟩
        | ct ρ4 S4=>exact fun c3 ι4 H4 σ4 x4 rl5=>⟨ι4,ρ4,S4,x2.trans x4,rl5,SCont.ext (show SCont F Wsh B ι2 H3 D (loopR gf fb i m' (k + 1) ρ4 S4) from c3) x4⟩
        | bk ρ4 S4=>exact fun c3 ι4 H4 σ4 x4 rl5=>c3 ι4 H4 σ4 x4 rl5
        | rt w4 S4=>exact fun c3=>c3
        | exn c4 d4 ρ4 S4=>exact fun c3=>c3
        | err=>exact fun c3=>c3
end
end Ev
namespace Ev
open PySem PySem.Spec L2
open PyProof.Rows (envOfC)
def cleanL (ρ:Loc):Loc:=ρ.map fun w=>match w with
  | some (.exc _ _)=>none
  | some .fn=>none
  | w=>w
section
variable {F:Fx} {H:Hp} {B:List Addr} {ι:Ads} {a c:Addr} {q:Str} {ρL:Loc} {σL:L2.St}
theorem captured:∀ {ρ:Loc} {σ:L2.St},Paired (RL F H B ι) ρ σ→Paired (RCL F.K F.cls H B ι) (cleanL ρ) σ
  | _,_,.nil=>.nil
  | some (.d x) :: _,some v :: _,.cons q t=>.cons q (captured t)
  | some (.ref x) :: _,some v :: _,.cons q t=>.cons q (captured t)
  | some (.exc _ _) :: _,_ :: _,.cons q t=>.cons trivial (captured t)
  | some .fn :: _,_ :: _,.cons q t=>.cons trivial (captured t)
  | none :: _,_ :: _,.cons q t=>.cons trivial (captured t)
end
section
variable {X:Cx} {F:Fx}
end
end Ev
namespace Ev
open PySem PySem.Spec L2
def keyOf:W→Option Key
  | .d (.int i)=>some (.inl i)
  | .d (.str z)=>some (.inr z)
  | _=>none
def valW (kvs:List (Key×W)) (k:Key):Option W:=match kvs with
  | []=>none
  | p :: r=>if p.1=k then some p.2 else valW r k
def putW (kvs:List (Key×W)) (k:Key) (w:W):List (Key×W):=if (kvs.any fun p=>decide (p.1=k))=true then kvs.map (fun p=>if p.1=k then (p.1,w) else p) else kvs ++ [(k,w)]
section
variable {F:Fx} {H:Hp} {B:List Addr} {ι:Ads}
theorem keyOf_rel {w:W} {v:V} {k:Key} (e:keyOf w=some k) (r:RW F H B ι w v):v=kV k:=by
  unfold keyOf at e
  split at e
  · cases e; cases r; rfl
  · cases e; cases r; rfl
  · cases e
theorem valW_rel {k:Key}:∀ {ws:List (Key×W)} {vs:List (Key×V)} {w:W},RWK F H B ι ws vs→valW ws k=some w→∃ v,valV vs k=some v∧RW F H B ι w v
  | _,_,_,.nil,e=>by simp [valW] at e
  | p :: _,q :: _,w,.cons r t,e=>by
    unfold valW at e
    split at e
    · rename_i hk
      cases e
      exact ⟨q.2,valV_pos (by rw [← r.1]; exact hk),r.2⟩
    · rename_i hk
      obtain ⟨v,h1,h2⟩:=valW_rel t e
      exact ⟨v,by rw [valV_neg (by rw [← r.1]; exact hk)]; exact h1,h2⟩
theorem any_rel {k:Key}:∀ {ws:List (Key×W)} {vs:List (Key×V)},RWK F H B ι ws vs→(ws.any fun p=>decide (p.1=k))=(vs.any fun p=>decide (p.1=k))
  | _,_,.nil=>rfl
  | p :: _,q :: _,.cons r t=>by simp only [List.any_cons,any_rel t,r.1]
theorem map_rel {k:Key} {w:W} {v:V} (rw:RW F H B ι w v):∀ {ws:List (Key×W)} {vs:List (Key×V)},RWK F H B ι ws vs→RWK F H B ι (ws.map fun p=>if p.1=k then (p.1,w) else p) (vs.map fun p=>if p.1=k then (p.1,v) else p)
  | _,_,.nil=>.nil
  | p :: _,q :: _,.cons r t=>by
    refine .cons ?_ (map_rel rw t)
    have e0:p.1=q.1:=r.1
    by_cases e:q.1=k
    · have e1:p.1=k:=e0.trans e
      simp only [e,e1,if_true]
      exact ⟨trivial,rw⟩
    · have e1:¬ p.1=k:=fun z=>e (e0.symm.trans z)
      simp only [e,e1,if_false]
      exact r
theorem putW_rel {k:Key} {w:W} {v:V} (rw:RW F H B ι w v) {ws:List (Key×W)} {vs:List (Key×V)} (r:RWK F H B ι ws vs):RWK F H B ι (putW ws k w) (putK vs k v):=by
  unfold putW putK
  rw [any_rel r]
  split
  · exact map_rel rw r
  · exact paired_app r (.cons ⟨rfl,rw⟩ .nil)
end
def opDGet:Op2:=fun x y S=>match x,keyOf y with
  | .ref i,some k=>match S[i]? with
    | some (.dct kvs)=>(match valW kvs k with
      | some w=>.ok w S
      | none=>.err)
    | _=>.err
  | _,_=>.err
section
variable {X:Cx} {F:Fx} {Wsh:WX} {o i e a:Expr} {f g h:FE} {fa:FA} {pos pos' p2:Pos}
theorem r_dget (hu:X.A.units + 1 < cLine) (ho:PE X o (tR F Wsh f)) (hi:PE X i (tR F Wsh g)) (hs:NoSl i):PE X (.Subscript o i pos) (tR F Wsh (fBin opDGet f g)) :=
  peImp (pe_dget hu ho hi hs) fun σ H Q ⟨B,ι,ρ,S,rl,c⟩=>by
    refine tR_step rl c fun wx x S1 ι1 H1 x1 rl1 rx c1=>?_
    refine tR_step rl1 c1 fun wy y S2 ι2 H2 x2 rl2 ry c2=>?_
    unfold opDGet at c2
    split at c2
    · rename_i j k hk
      split at c2
      · rename_i kvs e
        split at c2
        · rename_i w hw
          obtain ⟨p,hp,rfl,_,vs,h1,r1⟩:=rl2.toRelS.at_ref (RW.ext x2 rx) e
          obtain ⟨v,h2,r2⟩:=valW_rel r1 hw
          refine ⟨p.1,v,rfl,?_,c2.here rl2 v r2⟩
          rw [keyOf_rel hk ry,← h2]
          exact DGet.k h1
        · exact (show False from c2).elim
      · exact (show False from c2).elim
    · exact (show False from c2).elim
def sDPutF (f g h:FE):FS:=fun ρ S=>(h ρ S).st ρ fun w S1=>(f ρ S1).st ρ fun x S2=>(g ρ S2).st ρ fun y S3=>match x,keyOf y with
  | .ref j,some k=>match S3[j]? with
    | some (.dct kvs)=>if kvs.length < sizeLine then .nx ρ (S3.set j (.dct (putW kvs k w))) else .err
    | _=>.err
  | _,_=>.err
theorem r_dput (hu:X.A.units + 1 < cLine) (ho:PE X o (tR F Wsh f)) (hi:PE X i (tR F Wsh g)) (hv:PE X e (tR F Wsh h)) (hs:swapsWith e (some (.Subscript o i pos')) pos.line X.env=pure false:=by rfl) :
    PS X (.Assign [.Subscript o i pos'] e pos) (tS F Wsh (sDPutF f g h)):=psImp (ps_dput hu ho hi hv hs) fun D σ H ⟨B,ι,ρ,S,rl,c⟩=>by
    refine tS_step rl c fun w v S1 ι1 H1 x1 rl1 rv c1=>?_
    refine tS_step rl1 c1 fun wx x S2 ι2 H2 x2 rl2 rx c2=>?_
    refine tS_step rl2 c2 fun wy y S3 ι3 H3 x3 rl3 ry c3=>?_
    split at c3
    · rename_i j k hk
      split at c3
      · rename_i kvs e
        split at c3
        · rename_i hz
          obtain ⟨p,hp,rfl,h0,vs,h1,r1⟩:=rl3.toRelS.at_ref (RW.ext x3 rx) e
          have rv3:=RW.ext x3 (RW.ext x2 rv)
          have hm:p.1∈B ++ flat ι3:=List.mem_append_right _ (mem_flat hp)
          have nx:¬ ∃ fs,H3 p.1=some (.xd fs):=fun ⟨fs,z⟩=>by rw [h1] at z; cases z
          have n2:NoC H3 p.1:=noC_of h1 fun _ z=>nomatch z
          obtain ⟨rl4,x4⟩:=rl3.put (A:=p.1) (u:=.dK (putK vs k v)) (o':=.dct (putW kvs k w)) hp e (.inl rfl) ⟨h0,_,upd_same,pImp (fun _ _ q=>⟨q.1,RW.updE hm nx n2 q.2⟩) (putW_rel rv3 r1)⟩
          refine ⟨p.1,_,rfl,.inl ⟨vs,k,h1,keyOf_rel hk ry,by rw [← paired_len r1]; exact hz,rfl⟩,c3 _ _ _ x4 rl4⟩
        · exact (show False from c3).elim
      · exact (show False from c3).elim
    · exact (show False from c3).elim
def sLPutF (f g h:FE):FS:=fun ρ S=>(h ρ S).st ρ fun w S1=>(f ρ S1).st ρ fun x S2=>(g ρ S2).st ρ fun y S3=>match x,y with
  | .ref j,.d (.int n)=>match S3[j]? with
    | some (.lst ws)=>(match ixN ws.length n with
      | some m=>.nx ρ (S3.set j (.lst (ws.set m w)))
      | none=>.err)
    | _=>.err
  | _,_=>.err
theorem r_lput (ho:PE X o (tR F Wsh f)) (hi:PE X i (tR F Wsh g)) (hv:PE X e (tR F Wsh h)) (hs:swapsWithSole [.Subscript o i pos'] e pos.line X.env=pure false:=by rfl) (hw:swappedStores [.Subscript o i pos'] e X.env=pure none:=by rfl)
    (h1:(assignEach [.Subscript o i pos'] X.env).map (·.2)=[assign (.Subscript o i pos') X.env]:=by rfl)
    (ha:∀ v,assign (.Subscript o i pos') X.env v=(do
      let ov ← holding [v] (eval o X.env)
      let iv ← holding [v,ov] (eval i X.env)
      standAt pos'
      holding [v,ov,iv] (setItem ov iv v)
      release [v,ov,iv] []):=by intro _; rfl) :
    PS X (.Assign [.Subscript o i pos'] e pos) (tS F Wsh (sLPutF f g h)):=psImp (ps_asg hv (pg_sub ho hi set_list ha) hs hw h1) fun D σ H ⟨B,ι,ρ,S,rl,c⟩=>by
    refine tS_step rl c fun w v S1 ι1 H1 x1 rl1 rv c1=>?_
    refine tS_step rl1 c1 fun wx x S2 ι2 H2 x2 rl2 rx c2=>?_
    refine tS_step rl2 c2 fun wy y S3 ι3 H3 x3 rl3 ry c3=>?_
    split at c3
    · rename_i j n
      split at c3
      · rename_i ws e
        split at c3
        · rename_i m hm'
          obtain ⟨p,hp,rfl,h0,vs,h1,r1⟩:=rl3.toRelS.at_ref (RW.ext x3 rx) e
          have rv3:=RW.ext x3 (RW.ext x2 rv)
          have hm:p.1∈B ++ flat ι3:=List.mem_append_right _ (mem_flat hp)
          have nx:¬ ∃ fs,H3 p.1=some (.xd fs):=fun ⟨fs,z⟩=>by rw [h1] at z; cases z
          have n2:NoC H3 p.1:=noC_of h1 fun _ z=>nomatch z
          obtain ⟨rl4,x4⟩:=rl3.put (A:=p.1) (u:=.lst (vs.set m v)) (o':=.lst (ws.set m w)) hp e (.inl rfl) ⟨h0,_,upd_same,pImp (fun _ _ q=>RW.updE hm nx n2 q) (pSet rv3 m r1)⟩
          cases ry
          refine ⟨p.1,vs,n,m,rfl,rfl,h1,by rw [← paired_len r1]; exact hm',c3 _ _ _ x4 rl4⟩
        · exact (show False from c3).elim
      · exact (show False from c3).elim
    · exact (show False from c3).elim
def opSlR:OpSl:=fun x lo hi S=>match x with
  | .ref j=>match S[j]? with
    | some (.lst ws)=>.ok (.ref S.length) (S ++ [.lst (cut ws lo hi)])
    | _=>.err
  | _=>.err
theorem paired_take {α β:Type} {A:α→β→Prop}:∀ (n:Nat) {l:List α} {m:List β},Paired A l m→Paired A (l.take n) (m.take n)
  | 0,_,_,_=>by simp only [List.take_zero]; exact .nil
  | _ + 1,_,_,.nil=>by simp only [List.take_nil]; exact .nil
  | n + 1,_,_,.cons r t=>.cons r (paired_take n t)
theorem paired_drop {α β:Type} {A:α→β→Prop}:∀ (n:Nat) {l:List α} {m:List β},Paired A l m→Paired A (l.drop n) (m.drop n)
  | 0,_,_,h=>h
  | _ + 1,_,_,.nil=>by simp only [List.drop_nil]; exact .nil
  | n + 1,_,_,.cons _ t=>paired_drop n t
theorem r_slR {lo hi:Option Expr} {fl fh:FO} (hK:X.K=F.K) (ha:PE X a (tR F Wsh f)) (hl:PO X lo (tRO F Wsh fl)) (hh:PO X hi (tRO F Wsh fh)):PE X (.Subscript a (.Slice lo hi none p2) pos) (tR F Wsh (fSl opSlR f fl fh)) :=
  peImp (pe_slice (r:=rSlL F.K) (by rw [← hK]; exact sl_list) ha hl hh) fun σ H Q ⟨B,ι,ρ,S,rl,c⟩=>by
    refine tR_step rl c fun w v S1 ι1 H1 x1 rl1 rv c1=>?_
    refine ⟨B,ι1,ρ,S1,rl1,c1.bind.mono fun l S2 ι2 H2 _ x2 rl2 c2=>?_⟩
    refine ⟨B,ι2,ρ,S2,rl2,c2.bind.mono fun hh S3 ι3 H3 _ x3 rl3 c3=>?_⟩
    have rv3:=(RW.ext x3 (RW.ext x2 rv))
    unfold opSlR at c3
    split at c3
    · split at c3
      · rename_i j ws e
        obtain ⟨p,hp,rfl,h0,vs,h1,r1⟩:=rl3.toRelS.at_ref rv3 e
        refine ⟨p.1,vs,rfl,SqL.of h1,fun q hq=>new_ref rl3 (ws:=cut ws l hh) ?_ hq c3⟩
        unfold cut cutV
        rw [paired_len r1]
        exact paired_take _ (paired_drop _ r1)
      · exact (show False from c3).elim
    · exact (show False from c3).elim
def rEqE (K:PySem.W.Frag):R2:=fun x y H Q=>∃ a b xs,x=.ref a∧y=.ref b∧SqT K H a xs∧SqT K H b []∧Q (.bl xs.isEmpty) H
theorem op_eqE (hu:X.A.units < cLine):OpR X (compareOp .Eq) (rEqE X.K):=by
  intro pins s σ H x y v u Q I rx ry h
  obtain ⟨a,b,xs,rfl,rfl,h1,h2,q⟩:=h
  cases rx; cases ry
  obtain ⟨its,r,ht,hz⟩:=I.tuple h1
  obtain ⟨its2,r2,ht2,hz2⟩:=I.tuple h2
  cases r2
  refine SeqAt.eq_tupleAt (e:=fun _=>true) ht ht2 hu (fun j _ h2=>absurd h2 (by simp)) ⟨.bl xs.isEmpty,H,I,?_,q⟩
  have hl:=r.length
  cases r with
  | nil=>rfl
  | cons _ _=>simp [RelV]
def opEqE:Op2:=fun x y S=>match x,y with
  | .d (.tup xs),.d (.tup [])=>.ok (.d (.bl xs.isEmpty)) S
  | _,_=>.err
theorem ok_eqE:OpOk F opEqE (rEqE F.K):=by
  intro Wsh B ι ρ S σ H wx wy x y Q rl rx ry c
  unfold opEqE at c
  split at c
  · rename_i xs
    obtain ⟨a,vs,rfl,h1,r1,_⟩:=sq_keepT (H':=H) (ι':=ι) rx
    obtain ⟨b,us,rfl,h2,r2,_⟩:=sq_keepT (H':=H) (ι':=ι) ry
    cases r2
    refine ⟨a,b,vs,rfl,rfl,h1,h2,?_⟩
    have e:vs.isEmpty=xs.isEmpty:=by cases r1 <;> rfl
    rw [e]
    exact c.here rl _ (.bl _)
  · exact (show False from c).elim
theorem or_eqE (hu:X.A.units < cLine) (hK:X.K=F.K):OpR X (compareOp .Eq) (rEqE F.K):=by rw [← hK]; exact op_eqE hu
end
end Ev
namespace PySem.EvR
open PySem PySem.Spec PyProof.Rows
section
variable {prog:Program} {w:World} {A:Around} {E:Value→Shared→Prop} {s:Shared}
theorem adjustB (n:Nat):Builtin.Slice.sliceAdjust none none (-1) (n:Int)=((n:Int) - 1,-1):=by
  unfold Builtin.Slice.sliceAdjust
  simp
theorem placesB (n:Nat):Builtin.Slice.slicePlaces ((n:Int) - 1) (-1) (-1)=n:=by
  unfold Builtin.Slice.slicePlaces
  simp only [show ¬ ((-1:Int) > 0) by omega,if_false,Int.neg_neg,Int.ediv_one]
  split <;> omega
theorem appliedB {sl:Addr} {vs:Value} {n:Nat} {Q:Int×Int×Nat→Shared→Prop} (hs:s.heap.IsSliceOf sl .none .none vs) (ps:IsPart vs (some (-1)))
    (h:Q ((n:Int) - 1,-1,n) s):wpAny (model prog w) A (Builtin.Slice.sliceApplied (.ref sl) (pure (n:Int))) Q E s:=by
  obtain ⟨os,hos,hcs,hds⟩:=id hs
  unfold Builtin.Slice.sliceApplied Builtin.Slice.sliceFields
  refine wpAny_bind (wpAny_bind (wpAny_field hos hds (x:=.none) rfl (wpAny_bind (wpAny_field hos hds (x:=.none) rfl (wpAny_bind (wpAny_field hos hds (x:=vs) rfl (wpAny_pure ?_)))))))
  refine wpAny_bind (HT.slicePart_ ps ?_)
  show wpAny _ _ (if ((-1:Int) == 0)=true then _ else _) _ _ s
  rw [if_neg (by decide)]
  refine wpAny_bind (HT.slicePart_ IsPart.none (wpAny_bind (HT.slicePart_ IsPart.none (wpAny_bind (wpAny_pure ?_)))))
  show wpAny _ _ (match Builtin.Slice.sliceAdjust none none (-1) (n:Int) with | (lo,hi)=>pure (lo,(-1:Int),Builtin.Slice.slicePlaces lo hi (-1))) _ _ s
  rw [adjustB n]
  show wpAny _ _ (pure ((n:Int) - 1,(-1:Int),Builtin.Slice.slicePlaces ((n:Int) - 1) (-1) (-1))) _ _ s
  rw [placesB]
  exact wpAny_pure h
theorem pickB (xs:List Value):((List.range xs.length).filterMap fun (m:Nat)=>xs.toArray[(((xs.length:Int) - 1) + (m:Int) * (-1)).toNat]?).toArray=xs.reverse.toArray:=by
  have h1:∀ (l:List Nat),(∀ m∈l,m < xs.length)→l.filterMap (fun (m:Nat)=>xs.toArray[(((xs.length:Int) - 1) + (m:Int) * (-1)).toNat]?)=l.filterMap (fun m=>xs.reverse.toArray[m]?):=by
    intro l
    induction l with
    | nil=>intro _; rfl
    | cons m l ih =>
      intro hm
      have h2:m < xs.length:=hm m (by simp)
      have e:xs.toArray[(((xs.length:Int) - 1) + (m:Int) * (-1)).toNat]? = xs.reverse.toArray[m]?:=by
        rw [List.getElem?_toArray,List.getElem?_toArray,List.getElem?_reverse h2]
        congr 1
        omega
      rw [List.filterMap_cons,List.filterMap_cons,e,ih fun m hl=>hm m (List.mem_cons_of_mem _ hl)]
  rw [h1 _ fun m hm=>List.mem_range.mp hm]
  have h:=PySem.W.krv_all xs.reverse.toArray
  rw [show xs.reverse.toArray.size=xs.length by simp] at h
  rw [h]
theorem getItem_tuple_back {t sl:Addr} {xs:List Value} {vs:Value} {Q:Value→Shared→Prop} (ht:IsTup s.heap t xs.toArray) (hs:s.heap.IsSliceOf sl .none .none vs) (ps:IsPart vs (some (-1)))
    (h:Q (.ref s.heap.objs.size) { s with heap:=s.heap.push { cls:=.type "tuple",data:=.seq xs.reverse.toArray } })
    (hsz:xs.length≤sizeLine):wpAny (model prog w) A (getItem (.ref t) (.ref sl)) Q E s:=by
  have fits:sizeOk (.seq xs.reverse.toArray):=by
    show xs.reverse.toArray.size≤sizeLine
    simpa using hsz
  obtain ⟨os,hos,hcs,hds⟩:=id hs
  have isSl:s.TypeIs (.ref sl) "slice":=⟨os,hos,hcs⟩
  unfold getItem
  try with_reducible refine wpAny_holding ?_
  first | refine wpAny_bind (wpAny_pure ?_) | skip
  refine wpAny_bind (wpAny_sequenceKey ht.typeIs (by decide) ?_)
  refine wpAny_bind (wpAny_callSpecial?_slot (name:=Str.ofString "__getitem__") ht.typeIs PyProof.Rows.slot_tuple_getitem
    (wpAny_call_entry PyProof.Rows.slot_tuple_getitem ht.typeIs entry_tuple_getitem ?_ (args_tuple_getitem _ _)))
  show wpAny _ _ (Builtin.Tuple.tupleItemsOf (.ref t) >>= _) _ _ s
  refine wpAny_bind (tupleItemsOf_ ht ?_)
  refine wpAny_bind (wpAny_typeOf isSl ?_)
  rw [if_pos (by decide)]
  refine wpAny_bind (appliedB hs ps ?_)
  show wpAny _ _ (if ((((xs.toArray.size:Nat):Int) - 1) == 0 && (-1:Int) == 1 && xs.toArray.size == xs.toArray.size)=true then _ else _) _ _ s
  rw [if_neg (by simp),List.size_toArray,pickB]
  first
    | exact wpAny_bind (m:=Builtin.Tuple.tupleExact _) (wpAny_newObj_type (wpAny_pure ⟨_,rfl,wpAny_pure h⟩) fits)
    | exact wpAny_bind (m:=Builtin.Tuple.tupleExact _) (wpAny_newObj_type (wpAny_bind (wpAny_pure (wpAny_pure ⟨_,rfl,wpAny_pure h⟩))) fits)
    | exact wpAny_bind (wpAny_bind (m:=Builtin.Tuple.tupleExact _) (wpAny_newObj_type (wpAny_pure (wpAny_pure ⟨_,rfl,wpAny_pure h⟩)) fits))
    | exact wpAny_bind (wpAny_bind (m:=Builtin.Tuple.tupleExact _) (wpAny_newObj_type (wpAny_pure ⟨_,rfl,wpAny_pure h⟩) fits))
end
end PySem.EvR
namespace Ev
open PySem PySem.Spec L2
section
variable {X:Cx} {F:Fx} {Wsh:WX} {e:Expr} {f:FE}
def tBack (K:PySem.W.Frag) (te:TE):TE:=fun σ H Q=>te σ H fun x H1=>∃ a xs,x=.ref a∧SqT K H1 a xs∧∀ p,H1 p=none→Q (.ref p) (upd H1 p (.tup xs.reverse))
theorem pe_back {te:TE} {k:Nat} {p1 p2 p3 pos:Pos} (he:PE X e te):PE X (.Subscript e (.Slice none none (some (.UnaryOp .USub (.Constant (.int 1) k p1) p2)) p3) pos) (tBack X.K te):=by
  constructor
  intro pins s σ H Q I h
  apply PyProof.Rows.Subscript_
  refine thn (he.run pins s σ H _ I h) ?_
  rintro v s1 ⟨x,H1,I1,r1,a,xs,rfl,hx,q⟩
  cases r1
  have step:PO X (some (.UnaryOp .USub (.Constant (.int 1) k p1) p2)) (tPart (tUn (rU fun i=>.int (-i)) (tC (.int 1)))):=po_some (pe_un un_neg pe_int)
  apply wpAny_Slice
  refine thn (po_none.run pins s1 σ H1 (fun o Hy=>o=none∧Hy=H1) I1 ⟨rfl,rfl⟩) ?_
  rintro vl s2 ⟨l,H2,I2,pl,rfl,rfl⟩
  refine thn (po_none.run pins s2 σ H2 (fun o Hy=>o=none∧Hy=H2) I2 ⟨rfl,rfl⟩) ?_
  rintro vu s3 ⟨u,H3,I3,pu,rfl,rfl⟩
  refine thn (step.run pins s3 σ H3 (fun o Hy=>o=some (-1)∧Hy=H3) I3 ⟨1,rfl,-1,rfl,rfl,rfl⟩) ?_
  rintro vs s4 ⟨o,H4,I4,ps,rfl,rfl⟩
  have I5:=I4.kept (t':=s4.toks) (h':=s4.heap.push { cls:=.type "slice",data:=.fields #[vl,vu,vs] }) fun b ob z=>Heap.get?_push_of_some _ z
  obtain ⟨its,r,ht,hz⟩:=I5.tuple hx
  have hlen:=r.length
  cases pl
  cases pu
  show wpAny (model X.prog X.w) X.A (PyProof.Rows.subscriptTail e (.Slice none none (some (.UnaryOp .USub (.Constant (.int 1) k p1) p2)) p3) (.ref a) (.ref s4.heap.objs.size)) (EP X pins σ Q) X.xe _
  refine PyProof.Rows.tail_any (ops:=[.ref a,.ref s4.heap.objs.size]) ht.typeIs (PyProof.Rows.slot_tuple_getitem.lookup) ?_ (by with_unfolding_all rfl)
  refine EvR.getItem_tuple_back ht (Heap.IsSliceOf.new _ .none .none vs) ps ?_ (by omega)
  refine ⟨.ref _,_,I5.laid (t':=s4.toks) (o:=.tup xs.reverse) (fun b ob z=>Heap.get?_push_of_some _ z) (Nat.le_refl _) ?_,rfl,q _ (I5.hok.fresh (Nat.le_refl _))⟩
  exact ⟨by rw [List.length_reverse]; exact hz,_,r.reverse,PyProof.Rows.IsTup.new _ _⟩
def fBack (f:FE):FE:=fun ρ S=>(f ρ S).bind fun w S1=>match w with
  | .d (.tup ds)=>.ok (.d (.tup ds.reverse)) S1
  | _=>.err
theorem r_back {k:Nat} {p1 p2 p3 pos:Pos} (hK:X.K=F.K) (he:PE X e (tR F Wsh f)):PE X (.Subscript e (.Slice none none (some (.UnaryOp .USub (.Constant (.int 1) k p1) p2)) p3) pos) (tR F Wsh (fBack f)) :=
  peImp (pe_back he) fun σ H Q ⟨B,ι,ρ,S,rl,c⟩=>by
    refine tR_step rl c fun w v S1 ι1 H1 x1 rl1 rv c1=>?_
    split at c1
    · obtain ⟨a,vs,rfl,h1,r1,_⟩:=sq_keepT (H':=H1) (ι':=ι1) rv
      exact ⟨a,vs,rfl,by rw [hK]; exact h1,fun p hp=>c1 ι1 _ (Ext.new hp) (rl1.new hp) _ (new_tup rl1 (reps_rev r1) hp)⟩
    · exact (show False from c1).elim
end
end Ev
namespace Ev
open PySem PySem.Spec L2
section
variable {X:Cx} {F:Fx} {Wsh:WX} {a b e:Expr} {f g:FE} {fa:FA} {pos p:Pos} {k:Nat}
theorem un65 (hr:Room k X.A):X.A.units + 65 < cLine:=by have:=hr.un; omega
theorem un66A {j:Nat} {A:Around} (hr:Room j A):A.units + 66 < cLine:=by have:=hr.un; omega
theorem un1 (hr:Room k X.A):X.A.units + 1 < cLine:=by have:=hr.un; omega
theorem un0 (hr:Room k X.A):X.A.units < cLine:=by have:=hr.un; omega
theorem or_eq (hr:Room k X.A) (hK:X.K=F.K):OpR X (compareOp .Eq) (rEqEv F.K):=by rw [← hK]; exact OpR.or op_eq (op_eqD hr.units)
theorem or_ne (hr:Room k X.A) (hK:X.K=F.K):OpR X (compareOp .NotEq) (rNeEv F.K):=by rw [← hK]; exact OpR.or op_ne (op_neD hr.units)
def fNeg (f:FE):FE:=fun ρ S=>(f ρ S).bind fun w S1=>match w with
  | .d (.int i)=>.ok (.d (.int (-i))) S1
  | _=>.err
theorem r_neg (he:PE X e (tR F Wsh f)):PE X (.UnaryOp .USub e pos) (tR F Wsh (fNeg f)):=peImp (pe_un un_neg he) fun σ H Q ⟨B,ι,ρ,S,rl,c⟩=>by
  refine tR_step rl c fun w v S1 ι1 H1 x1 rl1 rv c1=>?_
  split at c1
  · cases rv
    exact ⟨_,rfl,c1.here rl1 _ (.int _)⟩
  · exact (show False from c1).elim
theorem r_dnil:PE X (.Dict [] [] pos) (tR F Wsh (fC (.dct []))):=peImp pe_dnewK fun σ H Q ⟨B,ι,ρ,S,rl,c⟩ p hp =>
  c ι _ (Ext.new hp) (rl.new hp) _ (.dK (rl.fresh hp) upd_same .nil)
theorem len_nil:∀ ρ S ws S',fNil ρ S=.ok ws S'→ws.length=0:=fun ρ S ws S' e=>by
  cases e; rfl
theorem len_cons {n:Nat} {f:FE} {g:FA} (h:∀ ρ S ws S',g ρ S=.ok ws S'→ws.length=n):∀ ρ S ws S',fCons f g ρ S=.ok ws S'→ws.length=n + 1:=fun ρ S ws S' e=>by
  unfold fCons at e
  cases h1:f ρ S with
  | err=>rw [h1] at e; cases e
  | exn _ _ _=>rw [h1] at e; cases e
  | ok w S1 =>
    rw [h1] at e
    simp only [R.bind] at e
    cases h2:g ρ S1 with
    | err=>rw [h2] at e; cases e
    | exn _ _ _=>rw [h2] at e; cases e
    | ok ws2 S2 =>
      rw [h2] at e
      cases e
      rw [List.length_cons,h _ _ _ _ h2]
end
structure Def (K:PySem.W.Frag) (mg:Str→Option Value) (x:Str) (st:Stmt) (ps:List Str) (f:Addr) (fd:FuncData):Prop where
  fn:Fun K x x st f fd
  g:mg x=some (.ref f)
  b:Binds K fd ps []
section
variable {X:Cx} {F:Fx} {Wsh:WX} {e:Expr} {es:List Expr} {fa:FA} {pos p:Pos}
theorem q_call {gd:Bool} {k j n:Nat} {f:Addr} {fd:FuncData} {ps:List Str} {st:Stmt} {ff:FF} {x:Str} (Df:Def X.K X.mg x st ps f fd) (G:FnG gd X.prog X.w X.K X.mg X.base k f fd ps (spF F n ff)) (hgd:gd=true→X.A.guards=some []) (hr:Room j X.A) (hg:Gl X x) (tk:Takes X Wsh)
    (ha:PA X (e :: es) (tRA F Wsh fa)) (hlen:∀ ρ S ws S',fa ρ S=.ok ws S'→ws.length=n) (hjk:k≤j:=by first | decide | omega) (hn:ps.length=n:=by rfl) (hl:(e :: es).length=n:=by rfl) (hdb:(x == ("__debug__":Str))=false:=by decide) (he:starEach (e :: es) X.env=(false,eval e X.env) :: starEach es X.env:=by rfl) (hpl:(backTo pos (starEach es X.env)).any (·.1)=false:=by rfl) :
    PE X (.Call (.Name x p) (e :: es) [] pos) (tR F Wsh (fApp ff fa)):=r_call G hgd hn (hr.mono hjk) hg Df.g Df.fn.kp Df.b tk ha hl hdb he hpl hlen
end
end Ev
namespace Ev
open PySem PySem.Spec L2
section
variable {X:Cx} {F:Fx} {Wsh:WX} {tg e:Expr} {f g:FE} {fa:FA} {pos p tpos:Pos} {B:List Addr} {ι:Ads} {H:Hp} {ρ:Loc} {S:Sto} {σ:L2.St} {elts:List Expr} {kk:Nat}
end
end Ev
namespace Ev
open PySem PySem.Spec L2
def own (p:Addr×List Addr) (a:Addr):Prop:=a=p.1∨a∈p.2
theorem mem_set {ι:Ads} {i:Nat} {q:Addr×List Addr} {a:Addr} (h:a∈flat (ι.set i q)):own q a∨∃ (j:Nat) (r:Addr×List Addr),j ≠ i∧ι[j]? = some r∧own r a:=by
  obtain ⟨p,hp,ha⟩:=List.mem_flatMap.mp h
  obtain ⟨j,hj⟩:=List.mem_iff_getElem?.mp hp
  by_cases e:i=j
  · subst e
    have hl:i < (ι.set i q).length:=(List.getElem?_eq_some_iff.mp hj).1
    rw [List.length_set] at hl
    rw [List.getElem?_set_self hl] at hj
    cases hj
    exact .inl (List.mem_cons.mp ha)
  · rw [List.getElem?_set_ne e] at hj
    exact .inr ⟨j,p,fun z=>e z.symm,hj,List.mem_cons.mp ha⟩
theorem own_flat {ι:Ads} {i:Nat} {p:Addr×List Addr} {a:Addr} (hi:ι[i]? = some p) (h:own p a):a∈flat ι:=by
  rcases h with rfl | h
  · exact mem_flat hi
  · exact mem_flat2 hi h
theorem nodup_set:∀ {ι:Ads} {i:Nat} {q:Addr×List Addr},(flat ι).Nodup→(q.1 :: q.2).Nodup→(∀ a,own q a→∀ (j:Nat) r,j ≠ i→ι[j]? = some r→¬ own r a)→(flat (ι.set i q)).Nodup
  | [],_,_,nd,_,_=>by simpa [flat] using nd
  | p :: ι,0,q,nd,nq,dj=>by
    rw [flat_cons,List.nodup_append] at nd
    show (flat (q :: ι)).Nodup
    rw [flat_cons,List.nodup_append]
    refine ⟨nq,nd.2.1,fun a ha b hb e=>?_⟩
    subst e
    obtain ⟨r,hr,hra⟩:=List.mem_flatMap.mp hb
    obtain ⟨j,hj⟩:=List.mem_iff_getElem?.mp hr
    exact dj a (List.mem_cons.mp ha) (j + 1) r (by simp) (by simpa using hj) (List.mem_cons.mp hra)
  | p :: ι,i + 1,q,nd,nq,dj=>by
    rw [flat_cons,List.nodup_append] at nd
    show (flat (p :: ι.set i q)).Nodup
    rw [flat_cons,List.nodup_append]
    refine ⟨nd.1,nodup_set nd.2.1 nq fun a ha j r hj hr=>dj a ha (j + 1) r (by simpa using hj) (by simpa using hr),fun a ha b hb e=>?_⟩
    subst e
    rcases mem_set hb with z | ⟨j,r,_,hr,z⟩
    · exact dj a z 0 p (by simp) (by simp) (List.mem_cons.mp ha)
    · exact nd.2.2 a ha a (own_flat hr z) rfl
theorem own_nodup:∀ {ι:Ads} {i:Nat} {p:Addr×List Addr},(flat ι).Nodup→ι[i]? = some p→(p.1 :: p.2).Nodup
  | [],_,_,_,h=>by simp at h
  | p :: ι,0,_,nd,h=>by
    rw [flat_cons,List.nodup_append] at nd
    simp at h; subst h
    exact nd.1
  | p :: ι,i + 1,_,nd,h=>by
    rw [flat_cons,List.nodup_append] at nd
    exact own_nodup nd.2.1 (by simpa using h)
def intW (ns:List Int):List W:=ns.map fun i=>.d (.int i)
def expl (cs ls:List Int) (n:Int):Sto:=[.dct [(.inr sCells,.ref 1),(.inr sLeft,.ref 2),(.inr sAt,.d (.int n))],.lst (intW cs),.lst (intW ls)]
def drop0:List Int→List Int
  | []=>[]
  | x :: xs=>if x=0 then drop0 xs else x :: xs
def cellAt (cs:List Int) (n:Int):Int:=if cs=[] then 5 else cs.getD ((n * n + n.fdiv 2).fmod cs.length).toNat 0
def blendAt (cs:List Int) (n many:Int):Int:=((((cellAt cs n * 40692 + n * 65539 + 7001 * n * n).fmod 2147483399 * 48271 + 1013 * n).fmod 2147483647).fdiv 13).fmod many
def nextR (cs ls:List Int) (n many:Int):Int×List Int×Int:=match drop0 ls with
  | x :: xs=>(x.fmod many,x.fdiv many :: xs,n)
  | []=>(blendAt cs (n + 1) many,[],n + 1)
def nextC (cs ls:List Int) (n many:Int):Bool:=decide (0 < many∧many < 1073741824∧0≤n∧n < 2 ^ 40∧ls.length≤63∧cs.length≤63)
def nextF:FF:=fun ws S=>match ws with
  | [.ref i,.d (.int many)]=>match S[i]? with
    | some (.drw cs ls n)=>if nextC cs ls n many=true then .ok (.d (.int (nextR cs ls n many).1)) (S.set i (.drw cs (nextR cs ls n many).2.1 (nextR cs ls n many).2.2)) else .err
    | _=>.err
  | _=>.err
def NextOk (f:FF):Prop:=∀ cs ls n many,nextC cs ls n many=true→∃ S2 y,f [.ref 0,.d (.int many)] (expl cs ls n)=.ok (.d (.int (nextR cs ls n many).1)) S2 ∧
  S2[0]? = some (.dct [(.inr sCells,.ref 1),(.inr sLeft,.ref y),(.inr sAt,.d (.int (nextR cs ls n many).2.2))])∧S2[1]? = some (.lst (intW cs))∧S2[y]? = some (.lst (intW (nextR cs ls n many).2.1))∧y ≠ 0∧y ≠ 1
section
variable {F:Fx} {H:Hp} {B:List Addr} {ι:Ads}
theorem intW_rel:∀ ns:List Int,RWs F H B ι (intW ns) (ns.map V.int)
  | []=>.nil
  | n :: ns=>.cons (.int n) (intW_rel ns)
theorem intW_inv:∀ {ns:List Int} {vs:List V},RWs F H B ι (intW ns) vs→vs=ns.map V.int
  | [],_,.nil=>rfl
  | n :: ns,_,.cons r t=>by
    have h:Rep F.K F.cls H (B ++ flat ι) (.int n) _:=r
    cases h
    rw [intW_inv t]
    rfl
theorem sp_next {f:FF} (hf:NextOk f) {vs:List V} {Q:VK} {E:XK} (h:spF F 2 nextF vs H Q E):spF F 2 f vs H Q E:=by
  obtain ⟨hl,B,ι,S,ws,rs,rw,c⟩:=h
  refine ⟨hl,?_⟩
  unfold nextF at c
  split at c
  · rename_i i many
    split at c
    · rename_i cs ls n hS
      split at c
      · rename_i hc
        obtain ⟨v1,v2,rfl,r1,r2⟩:=two_args rw
        obtain ⟨p,hp,rfl,ro⟩:=rs.at_ref r1 hS
        obtain ⟨aC,aL,e2,hD,hC,hL⟩:=ro
        have h2:Rep F.K F.cls H (B ++ flat ι) (.int many) v2:=r2
        cases h2
        obtain ⟨S2,y,ef,e0,e1,ey,y0,y1⟩:=hf cs ls n many hc
        have ndp:=own_nodup rs.nd hp
        rw [e2] at ndp
        have n1:p.1 ≠ aC:=fun z=>by simp [z] at ndp
        have n2:p.1 ≠ aL:=fun z=>by simp [z] at ndp
        have n3:aC ≠ aL:=fun z=>by simp [z] at ndp
        have fp:p.1∈flat ι:=mem_flat hp
        have fC:aC∈flat ι:=mem_flat2 hp (by rw [e2]; simp)
        have fL:aL∈flat ι:=mem_flat2 hp (by rw [e2]; simp)
        let B':=(B ++ flat ι).filter fun x=>decide (x ≠ p.1∧x ≠ aC∧x ≠ aL)
        let ι':Ads:=[(p.1,[]),(aC,[]),(aL,[])]
        have fl':flat ι'=[p.1,aC,aL]:=by simp [flat,ι']
        have inB:∀ a,a∈B' ↔ a∈B ++ flat ι∧a ≠ p.1∧a ≠ aC∧a ≠ aL:=fun a=>by
          show a∈(B ++ flat ι).filter (fun x=>decide (x ≠ p.1∧x ≠ aC∧x ≠ aL)) ↔ _
          rw [List.mem_filter,decide_eq_true_iff]
        have sub':∀ a∈flat ι',a∈flat ι:=fun a ha=>by
          rw [fl'] at ha
          simp at ha
          rcases ha with rfl | rfl | rfl
          · exact fp
          · exact fC
          · exact fL
        have other:∀ (j:Nat) r a,j ≠ i→ι[j]? = some r→own r a→a∈B':=fun j r a hj hr ha=>by
          have q:∀ b,own p b→a ≠ b:=fun b hb z=>flat_apart (a:=a) rs.nd hr hp hj ha (z ▸ hb)
          exact (inB a).mpr ⟨List.mem_append_right _ (own_flat hr ha),q _ (.inl rfl),q _ (.inr (by rw [e2]; simp)),q _ (.inr (by rw [e2]; simp))⟩
        have rel':RelS F H B' ι' (expl cs ls n):=by
          refine ⟨by rw [fl']; simp [n1,n2,n3],rfl,fun j q ob h1 h2=>?_,rs.tab,fun b hb=>?_,fun b hb z=>?_⟩
          · match j,h1,h2 with
            | 0,h1,h2 =>
              cases h1; cases h2
              exact ⟨rfl,_,hD,.cons ⟨rfl,(aC,[]),rfl,rfl⟩ (.cons ⟨rfl,(aL,[]),rfl,rfl⟩ (.cons ⟨rfl,.int n⟩ .nil))⟩
            | 1,h1,h2 =>
              cases h1; cases h2
              exact ⟨rfl,_,hC,intW_rel cs⟩
            | 2,h1,h2 =>
              cases h1; cases h2
              exact ⟨rfl,_,hL,intW_rel ls⟩
            | j + 3,h1,h2=>simp [ι'] at h1
          · rcases List.mem_append.mp ((inB b).mp hb).1 with z | z
            · exact rs.bs b z
            · exact rs.mem_some z
          · rw [fl'] at z
            have:=((inB b).mp hb).2
            simp at z
            rcases z with z | z | z
            · exact this.1 z
            · exact this.2.1 z
            · exact this.2.2 z
        refine ⟨B',ι',expl cs ls n,[.ref 0,.d (.int many)],rel',.cons ⟨(p.1,[]),rfl,rfl⟩ (.cons (.int many) .nil),?_⟩
        rw [ef]
        intro ι2 H2 v x r3 rv
        obtain ⟨q0,hq0,z0⟩:=x.at_ 0 (p.1,[]) rfl
        obtain ⟨q1,hq1,z1⟩:=x.at_ 1 (aC,[]) rfl
        have z0:q0.1=p.1:=z0
        have z1:q1.1=aC:=z1
        have hly:y < ι2.length:=by rw [r3.len]; exact (List.getElem?_eq_some_iff.mp ey).1
        obtain ⟨qy,hqy⟩:∃ qy,ι2[y]? = some qy:=⟨_,List.getElem?_eq_getElem hly⟩
        obtain ⟨_,us,hu,ru⟩:=r3.obj 0 q0 _ hq0 e0
        obtain ⟨_,us1,hu1,ru1⟩:=r3.obj 1 q1 _ hq1 e1
        obtain ⟨_,usy,huy,ruy⟩:=r3.obj y qy _ hqy ey
        rw [z0] at hu
        rw [z1] at hu1
        have eu1:=intW_inv ru1
        have euy:=intW_inv ruy
        subst eu1 euy
        have eu:us=[(.inr sCells,.ref aC),(.inr sLeft,.ref qy.1),(.inr sAt,.int (nextR cs ls n many).2.2)]:=by
          cases ru with
          | @cons a b _ _ ra ta=>cases ta with
            | @cons a2 b2 _ _ rb tb=>cases tb with
              | @cons a3 b3 _ _ rc tc =>
                cases tc
                obtain ⟨k1,pp,g1,g2⟩:=ra
                obtain ⟨k2,pq,g3,g4⟩:=rb
                obtain ⟨k3,g5⟩:=rc
                obtain ⟨b11,b12⟩:=b
                obtain ⟨b21,b22⟩:=b2
                obtain ⟨b31,b32⟩:=b3
                simp only at k1 k2 k3 g2 g4 g5
                rw [hq1] at g1
                rw [hqy] at g3
                cases g1; cases g3
                have g6:Rep F.K F.cls H2 (B' ++ flat ι2) (.int (nextR cs ls n many).2.2) b32:=g5
                cases g6
                subst k1 k2 k3 g2 g4
                rw [z1]
        subst eu
        have fy:qy.1∈flat ι2:=mem_flat hqy
        have ny:∀ a∈B',a ≠ qy.1:=fun a ha z=>r3.dis a ha (z ▸ fy)
        have f0:p.1∈flat ι2:=z0 ▸ mem_flat hq0
        have f1:aC∈flat ι2:=z1 ▸ mem_flat hq1
        have m1:p.1 ≠ qy.1:=fun z=>flat_apart (a:=qy.1) r3.nd hq0 hqy (fun w=>y0 w.symm) (.inl (by rw [z0,z])) (.inl rfl)
        have m2:aC ≠ qy.1:=fun z=>flat_apart (a:=qy.1) r3.nd hq1 hqy (fun w=>y1 w.symm) (.inl (by rw [z1,z])) (.inl rfl)
        have yin:qy.1∈flat ι∨H qy.1=none:=by
          rcases x.sub _ fy with z | z
          · exact .inl (sub' _ z)
          · exact .inr z
        have ownq:∀ a,own (p.1,[aC,qy.1]) a→a=p.1∨a=aC∨a=qy.1:=fun a ha=>by
          rcases ha with z | z
          · exact .inl z
          · simp at z; exact .inr z
        have hi:i < ι.length:=(List.getElem?_eq_some_iff.mp hp).1
        have x3:Ext ι H (ι.set i (p.1,[aC,qy.1])) H2:=by
          refine ⟨fun j q hj=>?_,fun b hb=>?_,x.dom,fun b o nb hb nt=>x.keep b o (fun z=>nb (sub' b z)) hb nt⟩
          · by_cases e:i=j
            · subst e
              rw [hp] at hj
              cases hj
              exact ⟨_,List.getElem?_set_self hi,rfl⟩
            · exact ⟨q,by rw [List.getElem?_set_ne e]; exact hj,rfl⟩
          · rcases mem_set hb with z | ⟨j,r,_,hr,z⟩
            · rcases ownq b z with rfl | rfl | rfl
              · exact .inl fp
              · exact .inl fC
              · exact yin
            · exact .inl (own_flat hr z)
        refine c _ H2 v x3 ⟨?_,by rw [List.length_set,List.length_set]; exact rs.len,fun j q ob h1 h2=>?_,r3.tab,fun b hb z=>rs.bs b hb (x.dom b z),fun b hb z=>?_⟩ ?_
        · refine nodup_set rs.nd (by simp [n1,m1,m2]) fun a ha j r hj hr z=>?_
          have hb:=other j r a hj hr z
          have:=((inB a).mp hb).2
          rcases ownq a ha with e | e | e
          · exact this.1 e
          · exact this.2.1 e
          · exact ny a hb e
        · by_cases e:i=j
          · subst e
            rw [List.getElem?_set_self hi] at h1
            rw [List.getElem?_set_self (by rw [← rs.len]; exact hi)] at h2
            cases h1; cases h2
            exact ⟨aC,qy.1,rfl,hu,hu1,huy⟩
          · rw [List.getElem?_set_ne e] at h1
            rw [List.getElem?_set_ne e] at h2
            have ro:=rs.obj j q ob h1 h2
            refine ro.ext x3 fun a ha=>?_
            have hb:=other j q a (fun z=>e z.symm) h1 ha
            cases hq:H a with
            | none=>exact absurd hq (ro.tracked ha)
            | some u =>
              refine x.keep a u (fun z=>?_) hq (ro.ntbl ha hq).1
              rw [fl'] at z
              have:=((inB a).mp hb).2
              simp at z
              rcases z with z | z | z
              · exact this.1 z
              · exact this.2.1 z
              · exact this.2.2 z
        · have hbι:=rs.dis b hb
          rcases mem_set z with w | ⟨j,r,_,hr,w⟩
          · rcases ownq b w with rfl | rfl | rfl
            · exact hbι fp
            · exact hbι fC
            · exact ny _ ((inB _).mpr ⟨List.mem_append_left _ hb,fun z=>hbι (z ▸ fp),fun z=>hbι (z ▸ fC),fun z=>hbι (z ▸ fL)⟩) rfl
          · exact hbι (own_flat hr w)
        · have g7:Rep F.K F.cls H2 (B' ++ flat ι2) (.int (nextR cs ls n many).1) v:=rv
          cases g7
          exact .int _
      · exact (show False from c).elim
    · exact (show False from c).elim
  · exact (show False from c).elim
end
end Ev
namespace Ev
open PySem PySem.Spec L2
def intD' (ns:List Int):List D:=ns.map D.int
theorem dats_intW:∀ ns:List Int,dats (intW ns)=some (intD' ns)
  | []=>rfl
  | n :: ns=>by
    show (dats (intW ns)).map (D.int n :: ·)=_
    rw [dats_intW ns]
    rfl
theorem flat_ints:∀ ns:List Int,flatDs (intD' ns)=true
  | []=>rfl
  | n :: ns=>by
    show (flatD (.int n) && flatDs (intD' ns))=true
    rw [flat_ints ns]; rfl
theorem lay_ints:∀ ns:List Int,PyData.canLayAll0 (toPys (intD' ns))=true
  | []=>rfl
  | n :: ns=>by
    show (PyData.canLay0 (.int n) && PyData.canLayAll0 (toPys (intD' ns)))=true
    rw [lay_ints ns]; rfl
theorem depth_ints:∀ ns:List Int,PyData.depthAll (toPys (intD' ns))≤1
  | []=>by decide
  | n :: ns=>by
    have:=depth_ints ns
    show PyData.depthAll (PyData.int n :: toPys (intD' ns))≤1
    simp only [PyData.depthAll,PyData.depth]
    omega
theorem eqOk_ints (ns:List Int):eqOk (.lst (intD' ns))=true:=by
  have h:=depth_ints ns
  unfold eqOk SeqAt.shaped
  simp only [flatD,flat_ints,toPy,PyData.canLay0,lay_ints,Bool.true_and,Bool.and_true,PyData.depth,decide_eq_true_eq]
  omega
theorem eqD_ints (ns:List Int):eqD (.lst (intD' ns)) (.lst [])=ns.isEmpty:=by
  cases ns <;> rfl
def sDraw:FS:=(sSeq (loopW (bAnd (toT (fBin opNe (fBin opDGet (fVar 0) (fC (.str "left"))) (fLst fNil))) (toT (fBin opEq (fBin opIx (fBin opDGet (fVar 0) (fC (.str "left"))) (fC (.int 0))) (fC (.int 0))))) (sDPutF (fVar 0) (fC (.str "left")) (fSl opSlR (fBin opDGet (fVar 0) (fC (.str "left"))) (oSome (fC (.int 1))) oNone)) 100)
  (sSeq (sIf (toT (fBin opNe (fBin opDGet (fVar 0) (fC (.str "left"))) (fLst fNil))) (sSeq (sSet 2 (fBin opIx (fBin opDGet (fVar 0) (fC (.str "left"))) (fC (.int 0))))
  (sSeq (sLPutF (fBin opDGet (fVar 0) (fC (.str "left"))) (fC (.int 0)) (fBin opFDiv (fVar 2) (fVar 1)))
  (sRet (fBin opMod (fCall (op1 intD) (fCons (fVar 2) fNil)) (fVar 1))))) sNext)
  (sSeq (sPar2 3 4 (fCons (fBin opAdd (fBin opDGet (fVar 0) (fC (.str "at"))) (fC (.int 1))) (fCons (fBin opDGet (fVar 0) (fC (.str "cells"))) fNil)))
  (sSeq (sDPutF (fVar 0) (fC (.str "at")) (fVar 3))
  (sSeq (sSet 5 (eIf (toT (fBin opNe (fVar 4) (fLst fNil))) (fCall (op1 intD) (fCons (fBin opIx (fVar 4) (fBin opMod (fCall (op1 intD) (fCons (fBin opAdd (fBin opMul (fVar 3) (fVar 3)) (fBin opFDiv (fVar 3) (fC (.int 2)))) fNil)) (fCall opLen (fCons (fVar 4) fNil)))) fNil)) (fC (.int 5))))
  (sSeq (sSet 6 (fBin opMod (fCall (op1 intD) (fCons (fBin opAdd (fBin opAdd (fBin opMul (fVar 5) (fC (.int 40692))) (fBin opMul (fVar 3) (fC (.int 65539)))) (fBin opMul (fBin opMul (fC (.int 7001)) (fVar 3)) (fVar 3))) fNil)) (fC (.int 2147483399))))
  (sRet (fBin opMod (fCall (op1 intD) (fCons (fBin opFDiv (fBin opMod (fCall (op1 intD) (fCons (fBin opAdd (fBin opMul (fVar 6) (fC (.int 48271))) (fBin opMul (fC (.int 1013)) (fVar 3))) fNil)) (fC (.int 2147483647))) (fC (.int 13))) fNil)) (fVar 1)))))))))
structure StN (cs ls:List Int) (n:Int) (y:Nat) (S:Sto):Prop where
  m:S[0]? = some (.dct [(.inr sCells,.ref 1),(.inr sLeft,.ref y),(.inr sAt,.d (.int n))])
  c:S[1]? = some (.lst (intW cs))
  l:S[y]? = some (.lst (intW ls))
  y0:y ≠ 0
  y1:y ≠ 1
section
variable {cs ls:List Int} {n:Int} {y:Nat} {S:Sto} {ρ:Loc}
theorem k1:¬ ((.inr sCells:Key)=.inr "left"):=by decide +kernel
theorem k2:¬ ((.inr sCells:Key)=.inr "at"):=by decide +kernel
theorem k3:¬ ((.inr sLeft:Key)=.inr "at"):=by decide +kernel
theorem k4:(.inr sLeft:Key)=.inr "left":=by decide +kernel
theorem k5:(.inr sAt:Key)=.inr "at":=by decide +kernel
theorem k6:(.inr sCells:Key)=.inr "cells":=by decide +kernel
theorem k7:¬ ((.inr sAt:Key)=.inr "left"):=by decide +kernel
theorem var_of {i:Nat} {w:W} (h:ρ[i]? = some (some w)):fVar i ρ S=.ok w S:=by
  unfold fVar; rw [h]
theorem getL (st:StN cs ls n y S) (h:ρ[0]? = some (some (.ref 0))):fBin opDGet (fVar 0) (fC (.str "left")) ρ S=.ok (.ref y) S:=by
  unfold fBin
  rw [var_of h]
  simp only [R.bind,fC,opDGet,keyOf,st.m,valW,if_neg k1,if_pos k4]
theorem getC (st:StN cs ls n y S) (h:ρ[0]? = some (some (.ref 0))):fBin opDGet (fVar 0) (fC (.str "cells")) ρ S=.ok (.ref 1) S:=by
  unfold fBin
  rw [var_of h]
  simp only [R.bind,fC,opDGet,keyOf,st.m,valW,if_pos k6]
theorem getA (st:StN cs ls n y S) (h:ρ[0]? = some (some (.ref 0))):fBin opDGet (fVar 0) (fC (.str "at")) ρ S=.ok (.d (.int n)) S:=by
  unfold fBin
  rw [var_of h]
  simp only [R.bind,fC,opDGet,keyOf,st.m,valW,if_neg k2,if_neg k3,if_pos k5]
theorem viewL {i:Nat} {ns:List Int} (h:S[i]? = some (.lst (intW ns))):view S (.ref i)=some (.lst (intD' ns)):=by
  simp only [view,h,dats_intW,Option.map_some]
theorem viewD {x:D}:view S (.d x)=some x:=rfl
theorem nil_of:fLst fNil ρ S=.ok (.d (.lst [])) S:=by
  simp only [fLst,fNil,R.bind,dats,List.length_nil,Nat.zero_le,if_true]
theorem ne_nil {i:Nat} {ns:List Int} {f:FE} (hf:f ρ S=.ok (.ref i) S) (h:S[i]? = some (.lst (intW ns))):toT (fBin opNe f (fLst fNil)) ρ S=.ok (!ns.isEmpty) S:=by
  unfold toT fBin
  rw [hf]
  simp only [R.bind,nil_of,opNe,viewL h,viewD,eqOk_ints,eqD_ints,show eqOk (.lst [])=true from eqOk_ints [],Bool.and_self,if_true,toB]
theorem head_of {x:Int} (st:StN cs (x :: ls) n y S) (h:ρ[0]? = some (some (.ref 0))):fBin opIx (fBin opDGet (fVar 0) (fC (.str "left"))) (fC (.int 0)) ρ S=.ok (.d (.int x)) S:=by
  show ((fBin opDGet (fVar 0) (fC (.str "left")) ρ S).bind fun x S1=>(fC (.int 0) ρ S1).bind fun y S2=>opIx x y S2)=_
  rw [getL st h]
  simp only [R.bind,fC,opIx,viewL st.l,intD',List.map_cons,atI,ixN,List.length_cons]
  simp
theorem is0_of {x:Int} (st:StN cs (x :: ls) n y S) (h:ρ[0]? = some (some (.ref 0))):toT (fBin opEq (fBin opIx (fBin opDGet (fVar 0) (fC (.str "left"))) (fC (.int 0))) (fC (.int 0))) ρ S=.ok (decide (x=0)) S:=by
  show ((((fBin opIx (fBin opDGet (fVar 0) (fC (.str "left"))) (fC (.int 0))) ρ S).bind fun x S1=>(fC (.int 0) ρ S1).bind fun y S2=>opEq x y S2).bind toB)=_
  rw [head_of st h]
  simp only [R.bind,fC,opEq,view]
  have e:eqOk (.int x)=true:=by unfold eqOk; simp [flatD,toPy,SeqAt.shaped,PyData.canLay0,PyData.depth]
  have e0:eqOk (.int 0)=true:=by unfold eqOk; simp [flatD,toPy,SeqAt.shaped,PyData.canLay0,PyData.depth]
  simp only [e,e0,Bool.and_self,if_true,toB,eqD,toPy,PyData.eqv]
  congr 1
theorem skip_of (hn:ρ[0]? = some (some (.ref 0))):∀ (ls:List Int) (k y:Nat) (S:Sto),ls.length < k→StN cs ls n y S →
    ∃ y' S',loopW (bAnd (toT (fBin opNe (fBin opDGet (fVar 0) (fC (.str "left"))) (fLst fNil))) (toT (fBin opEq (fBin opIx (fBin opDGet (fVar 0) (fC (.str "left"))) (fC (.int 0))) (fC (.int 0))))) (sDPutF (fVar 0) (fC (.str "left")) (fSl opSlR (fBin opDGet (fVar 0) (fC (.str "left"))) (oSome (fC (.int 1))) oNone)) k ρ S=.nx ρ S'∧StN cs (drop0 ls) n y' S'
  | [],0,_,_,h,_=>by simp at h
  | [],k + 1,y,S,_,st=>by
    refine ⟨y,S,?_,st⟩
    unfold loopW
    have e:bAnd (toT (fBin opNe (fBin opDGet (fVar 0) (fC (.str "left"))) (fLst fNil))) (toT (fBin opEq (fBin opIx (fBin opDGet (fVar 0) (fC (.str "left"))) (fC (.int 0))) (fC (.int 0)))) ρ S=.ok false S:=by
      unfold bAnd
      rw [ne_nil (getL st hn) st.l]
      rfl
    rw [e]
    rfl
  | x :: ls,0,_,_,h,_=>by simp at h
  | x :: ls,k + 1,y,S,h,st=>by
    have e:bAnd (toT (fBin opNe (fBin opDGet (fVar 0) (fC (.str "left"))) (fLst fNil))) (toT (fBin opEq (fBin opIx (fBin opDGet (fVar 0) (fC (.str "left"))) (fC (.int 0))) (fC (.int 0)))) ρ S=.ok (decide (x=0)) S:=by
      unfold bAnd
      rw [ne_nil (getL st hn) st.l]
      simp only [R.bind,List.isEmpty_cons,Bool.not_false,if_true]
      exact is0_of st hn
    by_cases hx:x=0
    · have st2:StN cs ls n S.length ((S ++ [O.lst (intW ls)]).set 0 (O.dct [(.inr sCells,.ref 1),(.inr sLeft,.ref S.length),(.inr sAt,.d (.int n))])):=by
        have l0:0 < S.length:=(List.getElem?_eq_some_iff.mp st.m).1
        have l1:1 < S.length:=(List.getElem?_eq_some_iff.mp st.c).1
        refine ⟨List.getElem?_set_self (by simp),?_,?_,by omega,by omega⟩
        · rw [List.getElem?_set_ne (by omega),List.getElem?_append_left l1]; exact st.c
        · rw [List.getElem?_set_ne (by omega),List.getElem?_append_right (Nat.le_refl _)]; simp
      obtain ⟨y',S',e1,e2⟩:=skip_of hn ls k S.length _ (by simp at h; omega) st2
      refine ⟨y',S',?_,by unfold drop0; rw [if_pos hx]; exact e2⟩
      unfold loopW
      rw [e,← e1]
      have eb:sDPutF (fVar 0) (fC (.str "left")) (fSl opSlR (fBin opDGet (fVar 0) (fC (.str "left"))) (oSome (fC (.int 1))) oNone) ρ S=.nx ρ ((S ++ [O.lst (intW ls)]).set 0 (O.dct [(.inr sCells,.ref 1),(.inr sLeft,.ref S.length),(.inr sAt,.d (.int n))])):=by
        have l0:0 < S.length:=(List.getElem?_eq_some_iff.mp st.m).1
        have ecut:cut (intW (x :: ls)) (some 1) none=intW ls:=by
          unfold cut
          simp [intW,HT.sIx]
          rw [List.take_of_length_le (by simp)]
        have esl:fSl opSlR (fBin opDGet (fVar 0) (fC (.str "left"))) (oSome (fC (.int 1))) oNone ρ S=.ok (.ref S.length) (S ++ [.lst (intW ls)]):=by
          unfold fSl
          rw [getL st hn]
          simp only [R.bind,oSome,fC,oNone,opSlR,st.l,ecut]
        unfold sDPutF
        rw [esl]
        simp only [R.st]
        rw [var_of hn]
        simp only [R.st,fC,keyOf]
        have e0:(S ++ [O.lst (intW ls)])[0]? = some (.dct [(.inr sCells,.ref 1),(.inr sLeft,.ref y),(.inr sAt,.d (.int n))]):=by
          rw [List.getElem?_append_left l0]; exact st.m
        rw [e0]
        simp only [List.length_cons,List.length_nil]
        rw [if_pos (by rw [sizeLine_eq]; omega)]
        have ep:putW [(.inr sCells,.ref 1),(.inr sLeft,.ref y),(.inr sAt,.d (.int n))] (.inr "left") (.ref S.length)=[(.inr sCells,.ref 1),(.inr sLeft,.ref S.length),(.inr sAt,.d (.int n))]:=by
          unfold putW
          simp only [List.any_cons,List.any_nil,List.map_cons,List.map_nil,k1,k4,k7,decide_true,decide_false,Bool.or_true,Bool.true_or,Bool.false_or,if_true,if_false]
        rw [ep]
      simp only [R.st,hx,decide_true,if_true]
      subst hx
      rw [eb]
    · refine ⟨y,S,?_,by unfold drop0; rw [if_neg hx]; exact st⟩
      unfold loopW
      rw [e]
      simp only [R.st,hx,decide_false]
      rfl
theorem int1 {f:FE} {i:Int} {S S1:Sto} (h:f ρ S=.ok (.d (.int i)) S1):fCall (op1 intD) (fCons f fNil) ρ S=.ok (.d (.int i)) S1:=by
  unfold fCall fCons fNil
  rw [h]
  rfl
theorem len1 {f:FE} {i:Nat} {ns:List Int} (h:f ρ S=.ok (.ref i) S) (hl:S[i]? = some (.lst (intW ns))):fCall opLen (fCons f fNil) ρ S=.ok (.d (.int ns.length)) S:=by
  unfold fCall fCons fNil
  rw [h]
  simp only [R.bind,opLen,op1,viewL hl,lenD,intD',List.length_map]
theorem bin_of {o:Op2} {f g:FE} {x y z:W} {S S1 S2 S3:Sto} (hf:f ρ S=.ok x S1) (hg:g ρ S1=.ok y S2) (ho:o x y S2=.ok z S3):fBin o f g ρ S=.ok z S3:=by
  unfold fBin
  rw [hf]
  simp only [R.bind,hg,ho]
theorem o_add {i j:Int}:opAdd (.d (.int i)) (.d (.int j)) S=.ok (.d (.int (i + j))) S:=rfl
theorem o_mulL {i j:Int} (h:-(2 ^ 64) < i∧i < 2 ^ 64):opMul (.d (.int i)) (.d (.int j)) S=.ok (.d (.int (i * j))) S:=by
  simp only [opMul,mulOk,h,and_self,true_or,decide_true,if_true]
theorem o_mulR {i j:Int} (h:-(2 ^ 64) < j∧j < 2 ^ 64):opMul (.d (.int i)) (.d (.int j)) S=.ok (.d (.int (i * j))) S:=by
  simp only [opMul,mulOk,h,and_self,or_true,decide_true,if_true]
theorem o_fdiv {i j:Int} (h:0 < j∧j < 1073741824):opFDiv (.d (.int i)) (.d (.int j)) S=.ok (.d (.int (i.fdiv j))) S:=by
  simp only [opFDiv,opI]
  rw [if_pos (decide_eq_true ⟨by omega,by omega⟩)]
theorem o_mod {i j:Int} (h:j ≠ 0):opMod (.d (.int i)) (.d (.int j)) S=.ok (.d (.int (i.fmod j))) S:=by
  simp only [opMod,opI]
  rw [if_pos (decide_eq_true h)]
theorem o_ixL {i:Nat} {ns:List Int} {k:Int} (h:S[i]? = some (.lst (intW ns))) (h0:0≤k) (h1:k < ns.length):opIx (.ref i) (.d (.int k)) S=.ok (.d (.int (ns.getD k.toNat 0))) S:=by
  have hl:k.toNat < ns.length:=by omega
  simp only [opIx,viewL h,atI,ixN,intD',List.length_map,h0,h1,if_true,Option.bind_some,List.getElem?_map]
  rw [List.getElem?_eq_getElem hl]
  simp [List.getD,List.getElem?_eq_getElem hl]
theorem seq_nx {f g:FS} {ρ ρ1:Loc} {S S1:Sto} (h:f ρ S=.nx ρ1 S1):sSeq f g ρ S=g ρ1 S1:=by unfold sSeq; rw [h]
theorem seq_rt {f g:FS} {ρ:Loc} {S S1:Sto} {w:W} (h:f ρ S=.rt w S1):sSeq f g ρ S=.rt w S1:=by unfold sSeq; rw [h]
theorem set_of {f:FE} {ρ:Loc} {S S1:Sto} {w:W} {i:Nat} (h:f ρ S=.ok w S1):sSet i f ρ S=.nx (ρ.set i (some w)) S1:=by unfold sSet; rw [h]; rfl
theorem ret_of {f:FE} {ρ:Loc} {S S1:Sto} {w:W} (h:f ρ S=.ok w S1):sRet f ρ S=.rt w S1:=by unfold sRet; rw [h]; rfl
theorem if_t {t:FT} {f g:FS} {ρ:Loc} {S S1:Sto} (h:t ρ S=.ok true S1):sIf t f g ρ S=f ρ S1:=by unfold sIf; rw [h]; rfl
theorem if_f {t:FT} {f g:FS} {ρ:Loc} {S S1:Sto} (h:t ρ S=.ok false S1):sIf t f g ρ S=g ρ S1:=by unfold sIf; rw [h]; rfl
theorem eif_t {t:FT} {f g:FE} {ρ:Loc} {S S1:Sto} (h:t ρ S=.ok true S1):eIf t f g ρ S=f ρ S1:=by unfold eIf; rw [h]; rfl
theorem eif_f {t:FT} {f g:FE} {ρ:Loc} {S S1:Sto} (h:t ρ S=.ok false S1):eIf t f g ρ S=g ρ S1:=by unfold eIf; rw [h]; rfl
theorem par2_of {f:FA} {ρ:Loc} {S S1:Sto} {v w:W} {i j:Nat} (h:f ρ S=.ok [v,w] S1):sPar2 i j f ρ S=.nx ((ρ.set i (some v)).set j (some w)) S1:=by unfold sPar2; rw [h]; rfl
theorem cons_of {f:FE} {g:FA} {ρ:Loc} {S S1 S2:Sto} {w:W} {ws:List W} (h:f ρ S=.ok w S1) (h2:g ρ S1=.ok ws S2):fCons f g ρ S=.ok (w :: ws) S2:=by
  unfold fCons; rw [h]; simp only [R.bind,h2]
theorem body_rt {g:FS} {n:Nat} {ws:List W} {S S1:Sto} {w:W} (h:g (ws.map some ++ List.replicate (n - ws.length) none) S=.rt w S1):bodyF n g ws S=.ok w S1:=by unfold bodyF; rw [h]
theorem draw_ok:NextOk (bodyF 7 sDraw):=by
  intro cs ls n many hc
  have hc:=of_decide_eq_true hc
  obtain ⟨m0,m1,n0,n1,l0,l1⟩:=hc
  have st0:StN cs ls n 2 (expl cs ls n):=⟨rfl,rfl,rfl,by decide,by decide⟩
  obtain ⟨y,S,e1,st⟩:=skip_of (ρ:=[some (.ref 0),some (.d (.int many)),none,none,none,none,none]) rfl ls 100 2 _ (by omega) st0
  cases hd:drop0 ls with
  | cons x xs =>
    rw [hd] at st
    have eN:nextR cs ls n many=(x.fmod many,x.fdiv many :: xs,n):=by unfold nextR; rw [hd]
    rw [eN]
    have ly:y < S.length:=(List.getElem?_eq_some_iff.mp st.l).1
    have z0:=st.y0
    have z1:=st.y1
    refine ⟨S.set y (.lst (intW (x.fdiv many :: xs))),y,body_rt ?_,?_,?_,?_,st.y0,st.y1⟩
    · refine (seq_nx e1).trans (seq_rt ?_)
      refine (if_t (ne_nil (getL st rfl) st.l)).trans ?_
      refine (seq_nx (set_of (head_of st rfl))).trans ?_
      have ep:sLPutF (fBin opDGet (fVar 0) (fC (.str "left"))) (fC (.int 0)) (fBin opFDiv (fVar 2) (fVar 1)) [some (.ref 0),some (.d (.int many)),some (.d (.int x)),none,none,none,none] S=.nx [some (.ref 0),some (.d (.int many)),some (.d (.int x)),none,none,none,none] (S.set y (.lst (intW (x.fdiv many :: xs)))):=by
        unfold sLPutF
        rw [bin_of (ρ:=[some (.ref 0),some (.d (.int many)),some (.d (.int x)),none,none,none,none]) (S:=S) (S1:=S) (S2:=S) (x:=.d (.int x)) (y:=.d (.int many)) rfl rfl (o_fdiv ⟨m0,m1⟩)]
        simp only [R.st]
        rw [getL st rfl]
        simp only [R.st,fC,st.l]
        have ei:ixN (intW (x :: xs)).length 0=some 0:=by
          unfold ixN
          rw [if_pos (Int.le_refl _),if_pos (by simp [intW])]
          rfl
        rw [ei]
        rfl
      refine (seq_nx ep).trans (ret_of ?_)
      exact bin_of (x:=.d (.int x)) (y:=.d (.int many)) (int1 rfl) rfl (o_mod (by omega))
    · rw [List.getElem?_set_ne (by omega)]; exact st.m
    · rw [List.getElem?_set_ne (by omega)]; exact st.c
    · exact List.getElem?_set_self ly
  | nil =>
    rw [hd] at st
    have eN:nextR cs ls n many=(blendAt cs (n + 1) many,[],n + 1):=by unfold nextR; rw [hd]
    rw [eN]
    have l00:0 < S.length:=(List.getElem?_eq_some_iff.mp st.m).1
    have z0:=st.y0
    have z1:=st.y1
    generalize hS2:S.set 0 (O.dct [(.inr sCells,.ref 1),(.inr sLeft,.ref y),(.inr sAt,.d (.int (n + 1)))])=S2
    have st2:StN cs [] (n + 1) y S2:=by
      subst hS2
      refine ⟨List.getElem?_set_self l00,?_,?_,z0,z1⟩
      · rw [List.getElem?_set_ne (by omega)]; exact st.c
      · rw [List.getElem?_set_ne (by omega)]; exact st.l
    refine ⟨S2,y,body_rt ?_,st2.m,st2.c,st2.l,z0,z1⟩
    refine (seq_nx e1).trans ?_
    refine (seq_nx (if_f (ne_nil (getL st rfl) st.l))).trans ?_
    refine (seq_nx (par2_of (cons_of (bin_of (getA st rfl) rfl o_add) (cons_of (getC st rfl) rfl)))).trans ?_
    have ed:sDPutF (fVar 0) (fC (.str "at")) (fVar 3) [some (.ref 0),some (.d (.int many)),none,some (.d (.int (n + 1))),some (.ref 1),none,none] S=.nx [some (.ref 0),some (.d (.int many)),none,some (.d (.int (n + 1))),some (.ref 1),none,none] S2:=by
      unfold sDPutF
      rw [var_of (i:=3) rfl]
      simp only [R.st]
      rw [var_of (i:=0) rfl]
      simp only [R.st,fC,keyOf,st.m,List.length_cons,List.length_nil]
      rw [if_pos (by rw [sizeLine_eq]; omega),← hS2]
      have ep:putW [(.inr sCells,.ref 1),(.inr sLeft,.ref y),(.inr sAt,.d (.int n))] (.inr "at") (.d (.int (n + 1)))=[(.inr sCells,.ref 1),(.inr sLeft,.ref y),(.inr sAt,.d (.int (n + 1)))]:=by
        unfold putW
        simp only [List.any_cons,List.any_nil,List.map_cons,List.map_nil,k2,k3,k5,decide_true,decide_false,Bool.or_true,Bool.true_or,Bool.false_or,if_true,if_false]
      rw [ep]
    refine (seq_nx ed).trans ?_
    have ec:eIf (toT (fBin opNe (fVar 4) (fLst fNil))) (fCall (op1 intD) (fCons (fBin opIx (fVar 4) (fBin opMod (fCall (op1 intD) (fCons (fBin opAdd (fBin opMul (fVar 3) (fVar 3)) (fBin opFDiv (fVar 3) (fC (.int 2)))) fNil)) (fCall opLen (fCons (fVar 4) fNil)))) fNil)) (fC (.int 5))
        [some (.ref 0),some (.d (.int many)),none,some (.d (.int (n + 1))),some (.ref 1),none,none] S2=.ok (.d (.int (cellAt cs (n + 1)))) S2:=by
      unfold cellAt
      have et:=ne_nil (ρ:=[some (.ref 0),some (.d (.int many)),none,some (.d (.int (n + 1))),some (.ref 1),none,none]) (var_of (i:=4) (w:=.ref 1) rfl) st2.c
      by_cases hcs:cs=[]
      · rw [if_pos hcs]
        subst hcs
        exact (eif_f et).trans rfl
      · rw [if_neg hcs]
        have ht:(!cs.isEmpty)=true:=by cases cs <;> simp_all
        rw [ht] at et
        refine (eif_t et).trans ?_
        have hl:0 < cs.length:=by cases cs <;> simp_all
        have hne:(cs.length:Int) ≠ 0:=by omega
        refine int1 (bin_of (var_of (i:=4) (w:=.ref 1) rfl) (bin_of (int1 (bin_of (bin_of (var_of (i:=3) rfl) (var_of (i:=3) rfl) (o_mulL ⟨by omega,by omega⟩)) (bin_of (var_of (i:=3) rfl) rfl (o_fdiv ⟨by omega,by omega⟩)) o_add)) (len1 (var_of (i:=4) rfl) st2.c) (o_mod hne)) (o_ixL st2.c ?_ ?_))
        · exact Int.fmod_nonneg_of_pos _ (by omega)
        · exact Int.fmod_lt_of_pos _ (by omega)
    refine (seq_nx (set_of ec)).trans ?_
    refine (seq_nx (set_of (bin_of (int1 (bin_of (bin_of (bin_of (var_of (i:=5) rfl) rfl (o_mulR ⟨by omega,by omega⟩)) (bin_of (var_of (i:=3) rfl) rfl (o_mulR ⟨by omega,by omega⟩)) o_add) (bin_of (bin_of rfl (var_of (i:=3) rfl) (o_mulL ⟨by omega,by omega⟩)) (var_of (i:=3) rfl) (o_mulR ⟨by omega,by omega⟩)) o_add)) rfl (o_mod (by omega))))).trans ?_
    refine ret_of ?_
    exact bin_of (int1 (bin_of (bin_of (int1 (bin_of (bin_of (var_of (i:=6) rfl) rfl (o_mulR ⟨by omega,by omega⟩)) (bin_of rfl (var_of (i:=3) rfl) (o_mulL ⟨by omega,by omega⟩)) o_add)) rfl (o_mod (by omega))) rfl (o_fdiv ⟨by omega,by omega⟩))) (var_of (i:=1) rfl) (o_mod (by omega))
end
end Ev
namespace Ev
open PySem PySem.Spec L2
section
variable {F:Fx} {H:Hp} {B:List Addr} {ι:Ads} {p:Addr}
theorem flat_one (p:Addr):flat (ι ++ [(p,[])])=flat ι ++ [p]:=by rw [flat_app]; simp [flat]
theorem adopt_sub (p:Addr):∀ a∈B ++ flat (ι ++ [(p,[])]),H a ≠ none→a∈(B ++ [p]) ++ flat ι:=fun a ha _=>by
  rw [flat_one] at ha
  simp only [List.mem_append] at ha ⊢
  rcases ha with z | z | z
  · exact .inl (.inl z)
  · exact .inr z
  · exact .inl (.inr z)
theorem RC.adopt:∀ {w:W} {v:V},RC F.K F.cls H (B ++ [p]) ι w v→RC F.K F.cls H B (ι ++ [(p,[])]) w v
  | .d _,_,h=>Rep.sub (adopt_sub p) h
  | .ref _,_,⟨q,h,e⟩=>⟨q,by rw [List.getElem?_append_left (List.getElem?_eq_some_iff.mp h).1]; exact h,e⟩
theorem RCL.adopt:∀ {w:Option W} {v:Option V},RCL F.K F.cls H (B ++ [p]) ι w v→RCL F.K F.cls H B (ι ++ [(p,[])]) w v
  | none,_,_=>trivial
  | some _,some _,h=>RC.adopt h
theorem RW.adopt (nx:¬ ∃ fs,H p=some (.xd fs)) (n2:NoC H p):∀ {w:W} {v:V},RW F H (B ++ [p]) ι w v→RW F H B (ι ++ [(p,[])]) w v
  | .d _,_,h=>Rep.sub (adopt_sub p) h
  | .ref _,_,⟨q,h,e⟩=>⟨q,by rw [List.getElem?_append_left (List.getElem?_eq_some_iff.mp h).1]; exact h,e⟩
  | .exc _ _,_,⟨a,dd,u,h1,h2,h3,h4,h5⟩=>⟨a,dd,u,h1.imp_right fun q=>⟨q.1,fun z=>q.2 (by
      rw [flat_one] at z
      simp only [List.mem_append,List.mem_singleton] at z ⊢
      rcases z with y | y | y
      · exact .inl (.inl y)
      · exact .inr y
      · exact .inl (.inr y))⟩,h2,h3,fun z=>by
      rw [flat_one] at z
      rcases List.mem_append.mp z with y | y
      · exact h4 y
      · simp at y; exact nx ⟨_,y ▸ h3⟩,Rep.sub (adopt_sub p) h5⟩
  | .fn,_,⟨a,c,q,ρL,σL,h1,h2,h3,h4,h5⟩=>⟨a,c,q,ρL,σL,h1,h2,h3,fun z=>by
      rw [flat_one] at z
      rcases List.mem_append.mp z with y | y
      · exact h4 y
      · simp at y; exact n2 _ _ (y ▸ h3),pImp (fun _ _ r=>RCL.adopt r) h5⟩
theorem RO.adopt (nx:¬ ∃ fs,H p=some (.xd fs)) (n2:NoC H p) {o:O} {q:Addr×List Addr} (h:RO F H (B ++ [p]) ι o q):RO F H B (ι ++ [(p,[])]) o q:=by
  cases o with
  | lst ws=>obtain ⟨z,vs,e,r⟩:=h; exact ⟨z,vs,e,pImp (fun _ _ q=>RW.adopt nx n2 q) r⟩
  | tup ws=>obtain ⟨z,vs,e,r⟩:=h; exact ⟨z,vs,e,pImp (fun _ _ q=>RW.adopt nx n2 q) r⟩
  | kd ws=>obtain ⟨z,o,vs,e,r⟩:=h; exact ⟨z,o,vs,e,pImp (fun _ _ q=>⟨q.1,q.2.1,Rep.sub (adopt_sub p) q.2.2.1,q.2.2.2.elim fun v t=>⟨v,t.1,RW.adopt nx n2 t.2⟩⟩) r⟩
  | dct ws=>obtain ⟨z,vs,e,r⟩:=h; exact ⟨z,vs,e,pImp (fun _ _ q=>⟨q.1,RW.adopt nx n2 q.2⟩) r⟩
  | ins c fs=>obtain ⟨z,dx,vs,e,r⟩:=h; exact ⟨z,dx,vs,e,pImp (fun _ _ q=>⟨q.1,RW.adopt nx n2 q.2⟩) r⟩
  | drw _ _ _=>exact h
theorem RL.adopt (nx:¬ ∃ fs,H p=some (.xd fs)) (n2:NoC H p):∀ {w:Option W} {v:Option V},RL F H (B ++ [p]) ι w v→RL F H B (ι ++ [(p,[])]) w v
  | none,_,_=>trivial
  | some _,some _,h=>RW.adopt nx n2 h
theorem Rel.adopt {ρ:Loc} {S:Sto} {σ:L2.St} {o:O} (r:Rel F H (B ++ [p]) ι ρ S σ) (hB:p ∉ B) (nx:¬ ∃ fs,H p=some (.xd fs)) (n2:NoC H p) (new:RO F H B (ι ++ [(p,[])]) o (p,[])):Rel F H B (ι ++ [(p,[])]) ρ (S ++ [o]) σ:=by
  have hι:p ∉ flat ι:=r.dis p (by simp)
  refine ⟨⟨?_,by simp [r.len],fun j q ob h1 h2=>?_,r.tab,fun b hb=>r.bs b (List.mem_append_left _ hb),fun b hb=>?_⟩,pImp (fun _ _ q=>RL.adopt nx n2 q) r.loc⟩
  · rw [flat_one,List.nodup_append]
    refine ⟨r.nd,by simp,fun a ha b hb e=>?_⟩
    simp at hb
    exact hι (by rw [← hb,← e]; exact ha)
  · by_cases e:j < ι.length
    · rw [List.getElem?_append_left e] at h1
      rw [List.getElem?_append_left (by rw [← r.len]; exact e)] at h2
      exact (r.obj j q ob h1 h2).adopt nx n2
    · have hl:j=ι.length:=by
        have:=(List.getElem?_eq_some_iff.mp h1).1
        simp at this
        omega
      subst hl
      rw [List.getElem?_append_right (Nat.le_refl _)] at h1
      rw [List.getElem?_append_right (by rw [r.len]; exact Nat.le_refl _),r.len] at h2
      simp at h1 h2
      subst h1 h2
      exact new
  · rw [flat_one]
    intro z
    rcases List.mem_append.mp z with q | q
    · exact r.dis b (List.mem_append_left _ hb) q
    · simp at q; exact hB (q ▸ hb)
theorem adopt_ext {ι1:Ads} {H1:Hp} (hp:H1 p=none) (x:Ext ι1 H1 ι H):Ext ι1 H1 (ι ++ [(p,[])]) H :=
  ⟨fun i q h=>by
    obtain ⟨q',h1,h2⟩:=x.at_ i q h
    exact ⟨q',by rw [List.getElem?_append_left (List.getElem?_eq_some_iff.mp h1).1]; exact h1,h2⟩,fun b hb=>by
    rw [flat_one] at hb
    rcases List.mem_append.mp hb with z | z
    · exact x.sub b z
    · simp at z; exact .inr (z ▸ hp),x.dom,x.keep⟩
end
def fLcN (fi:FI) (g:FG) (t:FT) (f:FE) (vs:List Nat):FE:=fun ρ S=>(fi ρ S).bind fun ds S1=>(compL g t f (wipeL ρ vs) ds S1 []).bind fun ys S2=>.ok (.ref S2.length) (S2 ++ [.lst (ys.map W.d)])
section
variable {X:Cx} {F:Fx} {Wsh:WX} {tg e:Expr} {f g:FE} {fa:FA} {pos p:Pos} {B:List Addr} {ι:Ads} {H:Hp} {ρ:Loc} {S:Sto} {σ:L2.St}
theorem lcN_of {fi:FI} {gf:FG} {sl:List Nat} {t:FT} {fe:FE} {vs:List Nat} {tgr:TG} {tt:TT} {te:TE}
    (hg:GRel F gf sl tgr)
    (hsl:∀ i∈sl,i∈vs) (htt:∀ σ H Q,tRT F W0 t σ H Q→tt σ H Q) (hte:∀ σ H Q,tR F W0 fe σ H Q→te σ H Q) {Q:VK} {σ:L2.St} {H:Hp} (h:tR F Wsh (fLcN fi gf t fe vs) σ H Q):tLc (tRI F Wsh fi) tgr tt te vs σ H Q:=by
  obtain ⟨B,ι,ρ,S,rl,c⟩:=h
  refine ⟨B,ι,ρ,S,rl,c.bind.mono fun ds S1 ι1 H1 _ x1 rl1 c1 J wd D hD=>?_⟩
  obtain ⟨G,Y,w,hG,hY⟩:=wd
  have hDf:=rl1.toRelS.fresh hD
  have hDB:D ∉ B:=fun z=>hDf (List.mem_append_left _ z)
  have hDι:D ∉ flat ι1:=fun z=>hDf (List.mem_append_right _ z)
  have toBig:∀ {ι2:Ads} {H2:Hp} {ρ2:Loc} {S2:Sto} {σ2:L2.St},Rel F H2 (B ++ [D]) ι2 ρ2 S2 σ2→Rel F H2 B ι2 ρ2 S2 σ2:=fun {ι2 H2 ρ2 S2 σ2} r=>r.sub (fun a ha _=>by
    rcases List.mem_append.mp ha with z | z
    · exact List.mem_append_left _ (List.mem_append_left _ z)
    · exact List.mem_append_right _ z) (fun a ha=>r.bs a (List.mem_append_left _ ha)) fun a ha=>r.dis a (List.mem_append_left _ ha)
  have rl0:Rel F (upd H1 D (.lst [])) (B ++ [D]) ι1 ρ S1 σ:=by
    have r0:=rl1.new (o:=.lst []) hD
    refine ⟨⟨r0.nd,r0.len,fun i p ob h1 h2=>?_,r0.tab,fun b hb=>?_,fun b hb=>?_⟩,?_⟩
    · refine ((rl1.obj i p ob h1 h2).sub (B':=B ++ [D]) fun a ha n=>?_).ext (Ext.new hD) fun a ha=>upd_ne fun e=>?_
      · rcases List.mem_append.mp ha with z | z
        · rcases List.mem_append.mp z with z | z
          · exact List.mem_append_left _ z
          · simp at z; rw [z,hD] at n; exact absurd rfl n
        · exact List.mem_append_right _ z
      · rw [e] at ha
        rcases ha with z | z
        · exact hDι (z ▸ mem_flat h1)
        · exact hDι (mem_flat2 h1 z)
    · rcases List.mem_append.mp hb with z | z
      · exact r0.bs b z
      · simp at z; rw [z,upd_same]; simp
    · rcases List.mem_append.mp hb with z | z
      · exact rl1.dis b z
      · simp at z; rw [z]; exact hDι
    · refine pImp (fun a b q=>?_) rl1.loc
      refine RL.ext (Ext.new hD) (RL.sub (B':=B ++ [D]) (fun a ha n=>?_) q)
      rcases List.mem_append.mp ha with z | z
      · rcases List.mem_append.mp z with z | z
        · exact List.mem_append_left _ z
        · simp at z; rw [z,hD] at n; exact absurd rfl n
      · exact List.mem_append_right _ z
  refine lc_it w (fun i H2=>∃ ι2 S2 acc us,Ext ι1 H1 ι2 H2∧Rel F H2 (B ++ [D]) ι2 (wipeL ρ vs) S2 (L2.wipe σ vs)∧Rel F H2 (B ++ [D]) ι2 ρ S2 σ∧H2 D=some (.lst us)∧D ∉ flat ι2∧RDs F H2 (B ++ [D]) ι2 acc us ∧
      Cont F Wsh B ρ σ ι1 H1 ((compL gf t fe (wipeL ρ vs) (ds.drop i) S2 acc).bind fun ys S2=>.ok (.ref S2.length) (S2 ++ [.lst (ys.map W.d)])) (fun w _ ι' H'=>∀ v,RW F H' B ι' w v→Q v H'))
    ⟨ι1,S1,[],[],Ext.new hD,rl0.wipe vs,rl0,upd_same,hDι,.nil,by simpa using c1⟩ (fun i H2 _ ⟨ι2,_,_,_,x2,_⟩=>hG ι2 H2 x2.toW) ?_ ?_
  · rintro i x H2 H3 hi ⟨ι2,S2,acc,us,x2,rl2,rlσ,hus,hD2,racc,c2⟩ y
    obtain ⟨hn,d,hd,rd⟩:=hY i (B ++ [D]) ι2 H2 S2 x H3 hi x2.toW (fun a ha=>by
      rcases List.mem_append.mp ha with z | z
      · exact .inl z
      · simp at z; exact .inr (z ▸ hD)) rl2.toRelS y
    obtain ⟨rl3,x3⟩:=RelS.walked rl2 hn
    obtain ⟨rlσ3,_⟩:=RelS.walked rlσ hn
    have hus3:H3 D=some (.lst us):=x3.keep _ _ hD2 hus nt_lst
    have hdr:ds.drop i=d :: ds.drop (i + 1):=by
      rw [List.drop_eq_getElem_cons hi]
      rw [List.getElem?_eq_getElem hi] at hd
      rw [Option.some.inj hd]
    rw [hdr] at c2
    simp only [compL] at c2
    cases hgd:gf (.d d) (wipeL ρ vs) S2 with
    | none=>rw [hgd] at c2; exact (show False from c2).elim
    | some ρ3 =>
      rw [hgd] at c2
      refine hg (B ++ [D]) ι2 (wipeL ρ vs) S2 (L2.wipe σ vs) H3 (.d d) x ρ3 _ rl3 rd hgd fun σ3 rl4 hw=>⟨?_,?_⟩
      · have e1:=hw vs hsl
        rw [wipe_wipe] at e1
        exact e1
      · refine htt _ _ _ ⟨B ++ [D],ι2,ρ3,S2,rl4,?_⟩
        revert c2
        simp only []
        generalize ht:t ρ3 S2=rt
        cases rt with
        | err=>exact fun c3=>(show False from c3).elim
        | exn _ _ _=>exact fun c3=>(show False from c3).elim
        | ok k S4 =>
          intro c3 ι4 H4 x4 rl5
          have c4:Cont F Wsh B ρ σ ι1 H1 ((if k=true then (noX (fe ρ3 S4)).bind fun w S2=>(match w with
              | .d y=>if acc.length < sizeLine then compL gf t fe (wipeL ρ vs) (ds.drop (i + 1)) S2 (acc ++ [y]) else .err
              | _=>.err) else compL gf t fe (wipeL ρ vs) (ds.drop (i + 1)) S4 acc).bind fun ys S2=>.ok (.ref S2.length) (S2 ++ [.lst (ys.map W.d)])) (fun w _ ι' H'=>∀ v,RW F H' B ι' w v→Q v H'):=c3
          have hus4:H4 D=some (.lst us):=x4.keep _ _ hD2 hus3 nt_lst
          have hD4:D ∉ flat ι4:=x4.notin hD2 (by rw [hus3]; simp)
          have rlσ4:Rel F H4 (B ++ [D]) ι4 ρ S4 σ:=⟨rl5.toRelS,pImp (fun _ _ q=>RL.ext x4 q) rlσ3.loc⟩
          split
          · rename_i hk
            rw [if_pos hk] at c4
            refine hte _ _ _ ⟨B ++ [D],ι4,ρ3,S4,rl5,?_⟩
            revert c4
            generalize hfe:fe ρ3 S4=rf
            cases rf with
            | err=>exact fun c4=>(show False from c4).elim
            | exn _ _ _=>exact fun c4=>(show False from c4).elim
            | ok wy S5 =>
              intro c4 ι5 H5 x5 rl6 v rv
              have hus5:H5 D=some (.lst us):=x5.keep _ _ hD4 hus4 nt_lst
              have hD5:D ∉ flat ι5:=x5.notin hD4 (by rw [hus4]; simp)
              cases wy with
              | ref _=>exact (show False from c4).elim
              | exc _ _=>exact (show False from c4).elim
              | fn=>exact (show False from c4).elim
              | d yd =>
                have c5:Cont F Wsh B ρ σ ι1 H1 ((if acc.length < sizeLine then compL gf t fe (wipeL ρ vs) (ds.drop (i + 1)) S5 (acc ++ [yd]) else .err).bind fun ys S2=>.ok (.ref S2.length) (S2 ++ [.lst (ys.map W.d)])) (fun w _ ι' H'=>∀ v,RW F H' B ι' w v→Q v H'):=c4
                by_cases hz:acc.length < sizeLine
                · rw [if_pos hz] at c5
                  have racc5:RDs F H5 (B ++ [D]) ι5 acc us:=Reps.ext (x3.trans (x4.trans x5)) racc
                  have hDB':D∈B ++ [D]:=by simp
                  have hDx:D∈(B ++ [D]) ++ flat ι5:=List.mem_append_left _ hDB'
                  have xg:Ext ι1 H1 ι5 (upd H5 D (.lst (us ++ [v]))):=by
                    have x15:=x2.trans (x3.trans (x4.trans x5))
                    refine ⟨x15.at_,x15.sub,fun b hb=>?_,fun b ob nb hb nt=>?_⟩
                    · by_cases e:b=D
                      · rw [e]; exact hD
                      · rw [upd_ne e] at hb; exact x15.dom b hb
                    · rw [upd_ne (ne_of_none hb hD)]; exact x15.keep b ob nb hb nt
                  have rlσ5:Rel F H5 (B ++ [D]) ι5 ρ S5 σ:=⟨rl6.toRelS,pImp (fun _ _ q=>RL.ext (x4.trans x5) q) rlσ3.loc⟩
                  refine ⟨us,hus5,by rw [← reps_len racc5]; exact hz,ι5,S5,acc ++ [yd],us ++ [v],xg,(rlσ5.wipe vs).grow hDB' hD5 hus5,rlσ5.grow hDB' hD5 hus5,upd_same,hD5,
                    reps_app (Reps.updE hDx racc5) (.cons (Rep.updE hDx rv) .nil),c5⟩
                · rw [if_neg hz] at c5
                  exact (show False from c5).elim
          · rename_i hk
            rw [if_neg hk] at c4
            exact ⟨ι4,S4,acc,us,x2.trans (x3.trans x4),rlσ4.wipe vs,rlσ4,hus4,hD4,Reps.ext (x3.trans x4) racc,c4⟩
  · rintro H2 ⟨ι2,S2,acc,us,x2,rl2,rlσ,hus,hD2,racc,c2⟩
    rw [List.drop_length] at c2
    have c3:Cont F Wsh B ρ σ ι1 H1 (.ok (W.ref S2.length) (S2 ++ [.lst (acc.map W.d)])) (fun w _ ι' H'=>∀ v,RW F H' B ι' w v→Q v H'):=c2
    have nx:¬ ∃ fs,H2 D=some (.xd fs):=fun ⟨fs,z⟩=>by rw [hus] at z; cases z
    have n2:NoC H2 D:=noC_of hus fun _ z=>nomatch z
    refine c3 (ι2 ++ [(D,[])]) H2 (adopt_ext hD x2) (rlσ.adopt hDB nx n2 ⟨rfl,us,hus,reps_rws (Reps.sub (adopt_sub D) racc)⟩) _ ⟨(D,[]),?_,rfl⟩
    rw [List.getElem?_append_right (by rw [rlσ.len]; exact Nat.le_refl _),rlσ.len]
    simp
theorem r_lcN {elt tg iter:Expr} {ifs:List Expr} {scope:Scope} {own:List (Str×Nat)} {pos:Pos} {fi:FI} {gf:FG} {sl:List Nat} {t:FT} {fe:FE} {tgr:TG} (hc:X.calm=true) (hN:X.N.Nodup) (hi:PI X tg iter (tRI F Wsh fi)) (ok:BlkOk X.N X.env.scope scope own)
    (hr:GRel F gf sl tgr) (hsl:∀ i∈sl,i∈own.map (·.2))
    (hg:∀ (s:Shared) (H:Hp) (C:Addr) (cl:List (Str×Addr)) (fp:List Addr),PG (X.blk s H scope (compEnvC scope cl C X.env) fp) tg tgr) (ht:∀ (s:Shared) (H:Hp) (C:Addr) (cl:List (Str×Addr)) (fp:List Addr),TestsOk (X.blk s H scope (compEnvC scope cl C X.env) fp) F ifs t)
    (he:∀ (s:Shared) (H:Hp) (C:Addr) (cl:List (Str×Addr)) (fp:List Addr),PE (X.blk s H scope (compEnvC scope cl C X.env) fp) elt (tR F W0 fe)) (hs:∀ x,foldedSetIterable iter X.env x=pure x:=by intro _; rfl) :
    PE X (.ListComp elt [⟨tg,iter,ifs,0⟩] scope pos) (tR F Wsh (fLcN fi gf t fe (own.map (·.2)))) :=
  peImp (pe_lc hc hN hi ok hg ht he hs) fun σ H Q h=>lcN_of hr hsl (fun _ _ _ q=>q) (fun _ _ _ q=>q) h
theorem sq_keepS {H:Hp} {B:List Addr} {ι:Ads} {ns:List Int} {v:V} (h:RD F H B ι (.scr ns) v):∃ a,v=.ref a∧SqL F.K H a (ns.map V.int)∧∀ ι' H',ExtW B ι H ι' H'→SqL F.K H' a (ns.map V.int):=by
  cases h with
  | scr n e q =>
    rcases q with rfl | ⟨o,rfl⟩
    · exact ⟨_,rfl,.inl (.inl e),fun ι' H' x=>.inl (.inl (x.keep _ _ n e nt_lst))⟩
    · exact ⟨_,rfl,.inl (.inr ⟨_,e⟩),fun ι' H' x=>.inl (.inr ⟨_,x.keep _ _ n e nt_frz⟩)⟩
  | scrK h1 h2 h3 h4 h5 h6=>exact ⟨_,rfl,.inr ⟨_,_,_,h1,h2,h3,h4,h5,h6⟩,fun _ _ _=>.inr ⟨_,_,_,h1,h2,h3,h4,h5,h6⟩⟩
def iScr (f:FE):FI:=fun ρ S=>(f ρ S).bind fun w S1=>match w with
  | .d (.scr ns)=>.ok (intD' ns) S1
  | _=>.err
theorem reps_ints:∀ ns:List Int,RDs F H B ι (intD' ns) (ns.map V.int)
  | []=>.nil
  | n :: ns=>.cons (.int n) (reps_ints ns)
theorem ri_scr (hK:X.K=F.K) (he:PE X e (tR F Wsh f)):PI X tg e (tRI F Wsh (iScr f)):=piImp (pi_list he) fun σ H Q ⟨B,ι,ρ,S,rl,c⟩=>by
  refine tR_step rl c fun w v S1 ι1 H1 x1 rl1 rv c1=>?_
  split at c1
  · rename_i ns
    obtain ⟨a,rfl,h1,k⟩:=sq_keepS rv
    refine ⟨a,rfl,⟨_,by rw [hK]; exact h1⟩,c1.here rl1 _ ?_⟩
    rw [hK]
    exact walkD_at walk_list (reps_ints ns) k
  · exact (show False from c1).elim
def opListN:OpN:=fun ws S=>match ws with
  | [.d (.scr ns)]=>.ok (.ref S.length) (S ++ [.lst (intW ns)])
  | _=>.err
theorem ok_listN:OpNOk F opListN (fun xs H Q=>∃ p ys,xs=[.ref p]∧(SqL F.K H p ys∨SqT F.K H p ys)∧∀ l,H l=none→Q (.ref l) (upd H l (.lst ys))):=by
  intro Wsh B ι ρ S σ H ws vs Q rl rw c
  unfold opListN at c
  split at c
  · rename_i ns
    obtain ⟨v,rfl,rv⟩:=one_arg rw
    obtain ⟨a,rfl,h1,_⟩:=sq_keepS rv
    exact ⟨a,_,rfl,.inl h1,fun l hl=>new_ref rl (intW_rel ns) hl c⟩
  · exact (show False from c).elim
end
end Ev
namespace Ev
open PySem PySem.Spec L2
section
variable {F:Fx} {H:Hp} {B:List Addr} {ι:Ads} {ρ:Loc} {S:Sto} {σ:L2.St} {A:Addr}
theorem Rel.growD {u:HO} {kvs:List (Key×V)} (r:Rel F H B ι ρ S σ) (hB:A∈B) (hA:A ∉ flat ι) (h:H A=some (.dK kvs)) (nt:notTbl u):Rel F (upd H A u) B ι ρ S σ:=by
  have hx:A∈B ++ flat ι:=List.mem_append_left _ hB
  have nx:¬ ∃ fs,H A=some (.xd fs):=fun ⟨fs,z⟩=>by rw [h] at z; cases z
  have n2:NoC H A:=noC_of h fun _ z=>nomatch z
  refine ⟨⟨r.nd,r.len,fun i p ob h1 h2=>(r.obj i p ob h1 h2).updE hx nx n2 fun a ha e=>?_,tabs_in r.tab h ⟨nt_dK,noC1 fun _ z=>nomatch z⟩ nt,fun b hb=>?_,r.dis⟩,pImp (fun _ _ q=>RL.updE hx nx n2 q) r.loc⟩
  · subst e
    rcases ha with z | z
    · exact hA (z ▸ mem_flat h1)
    · exact hA (mem_flat2 h1 z)
  · by_cases e:b=A
    · rw [e,upd_same]; simp
    · rw [upd_ne e]; exact r.bs b hb
theorem Rel.aside {u:HO} (r:Rel F H B ι ρ S σ) (hD:H A=none) (nt:notTbl u):Rel F (upd H A u) (B ++ [A]) ι ρ S σ:=by
  have hDf:=r.toRelS.fresh hD
  have hDι:A ∉ flat ι:=fun z=>hDf (List.mem_append_right _ z)
  have r0:=r.new (o:=u) hD nt
  have sb:∀ a∈(B ++ [A]) ++ flat ι,H a ≠ none→a∈B ++ flat ι:=fun a ha n=>by
    rcases List.mem_append.mp ha with z | z
    · rcases List.mem_append.mp z with z | z
      · exact List.mem_append_left _ z
      · simp at z; rw [z,hD] at n; exact absurd rfl n
    · exact List.mem_append_right _ z
  refine ⟨⟨r0.nd,r0.len,fun i p ob h1 h2=>?_,r0.tab,fun b hb=>?_,fun b hb=>?_⟩,?_⟩
  · refine ((r.obj i p ob h1 h2).sub (B':=B ++ [A]) sb).ext (Ext.new hD) fun a ha=>upd_ne fun e=>?_
    rw [e] at ha
    rcases ha with z | z
    · exact hDι (z ▸ mem_flat h1)
    · exact hDι (mem_flat2 h1 z)
  · rcases List.mem_append.mp hb with z | z
    · exact r0.bs b z
    · simp at z; rw [z,upd_same]; simp
  · rcases List.mem_append.mp hb with z | z
    · exact r.dis b z
    · simp at z; rw [z]; exact hDι
  · exact pImp (fun a b q=>RL.ext (Ext.new hD) (RL.sub (B':=B ++ [A]) sb q)) r.loc
end
def fDisp3 (a b c:Str) (f g h:FE):FE:=fun ρ S=>(noX (f ρ S)).bind fun x S1=>(noX (g ρ S1)).bind fun y S2=>(noX (h ρ S2)).bind fun z S3=>.ok (.ref S3.length) (S3 ++ [.dct [(.inr a,x),(.inr b,y),(.inr c,z)]])
theorem merge3 {a b c:Str} (hab:a ≠ b) (hac:a ≠ c) (hbc:b ≠ c) (x y z:V):mergeK [] [((.inr a:Key),x),(.inr b,y),(.inr c,z)]=[(.inr a,x),(.inr b,y),(.inr c,z)]:=by
  have h1:¬ (a=b):=hab
  have h2:¬ (a=c):=hac
  have h3:¬ (b=c):=hbc
  simp [mergeK,putK,h1,h2,h3]
section
variable {X:Cx} {F:Fx} {Wsh:WX} {e1 e2 e3:Expr} {f g h:FE} {pos q1 q2 q3:Pos} {j1 j2 j3:Nat}
theorem r_disp3 {a b c:Str} (hab:a ≠ b) (hac:a ≠ c) (hbc:b ≠ c) (hf:PE X e1 (tR F W0 f)) (hg:PE X e2 (tR F W0 g)) (hh:PE X e3 (tR F W0 h)) :
    PE X (.Dict [some (.Constant (.str a) j1 q1),some (.Constant (.str b) j2 q2),some (.Constant (.str c) j3 q3)] [e1,e2,e3] pos) (tR F Wsh (fDisp3 a b c f g h)) :=
  peImp (pe_disp (pps_cons pe_str hf (pps_cons pe_str hg (pps_cons pe_str hh pps_nil))) rfl rfl (by simp) (by simp)) fun σ H Q ⟨B,ι,ρ,S,rl,cn⟩ p hp=>by
    show tR F W0 f σ (upd H p (.dK [])) fun x H1=>tR F W0 g σ H1 fun y H2=>tR F W0 h σ H2 fun z H3=>H3 p=some (.dK [])∧∃ kvs:List (Key×V),[(V.str a,x),(V.str b,y),(V.str c,z)]=kvs.map (fun kv=>(kV kv.1,kv.2))∧kvs.length≤15∧Q (.ref p) (upd H3 p (.dK (mergeK [] kvs)))
    have hpB:p ∉ B:=fun z=>rl.toRelS.fresh hp (List.mem_append_left _ z)
    have rl0:Rel F (upd H p (.dK [])) (B ++ [p]) ι ρ S σ:=rl.aside hp nt_dK
    unfold fDisp3 at cn
    revert cn
    refine fun cn=>⟨B ++ [p],ι,ρ,S,rl0,?_⟩
    revert cn
    cases f ρ S with
    | err=>exact fun cn=>(show False from cn).elim
    | exn _ _ _=>exact fun cn=>(show False from cn).elim
    | ok x S1 =>
      intro cn ι1 H1 x1 rl1 vx rx
      refine ⟨B ++ [p],ι1,ρ,S1,rl1,?_⟩
      replace cn:Cont F Wsh B ρ σ ι H ((noX (g ρ S1)).bind fun y S2=>(noX (h ρ S2)).bind fun z S3=>.ok (.ref S3.length) (S3 ++ [.dct [(.inr a,x),(.inr b,y),(.inr c,z)]])) (fun w _ ι' H'=>∀ v,RW F H' B ι' w v→Q v H'):=cn
      revert cn
      cases g ρ S1 with
      | err=>exact fun cn=>(show False from cn).elim
      | exn _ _ _=>exact fun cn=>(show False from cn).elim
      | ok y S2 =>
        intro cn ι2 H2 x2 rl2 vy ry
        refine ⟨B ++ [p],ι2,ρ,S2,rl2,?_⟩
        replace cn:Cont F Wsh B ρ σ ι H ((noX (h ρ S2)).bind fun z S3=>.ok (.ref S3.length) (S3 ++ [.dct [(.inr a,x),(.inr b,y),(.inr c,z)]])) (fun w _ ι' H'=>∀ v,RW F H' B ι' w v→Q v H'):=cn
        revert cn
        cases h ρ S2 with
        | err=>exact fun cn=>(show False from cn).elim
        | exn _ _ _=>exact fun cn=>(show False from cn).elim
        | ok z S3 =>
          intro cn ι3 H3 x3 rl3 vz rz
          replace cn:Cont F Wsh B ρ σ ι H (.ok (.ref S3.length) (S3 ++ [.dct [(.inr a,x),(.inr b,y),(.inr c,z)]])) (fun w _ ι' H'=>∀ v,RW F H' B ι' w v→Q v H'):=cn
          have x03:=x1.trans (x2.trans x3)
          have hp0:p ∉ flat ι:=rl0.dis p (by simp)
          have hp3:p ∉ flat ι3:=rl3.dis p (by simp)
          have hpd:H3 p=some (.dK []):=x03.keep _ _ hp0 upd_same nt_dK
          have hpm:p∈(B ++ [p]) ++ flat ι3:=List.mem_append_left _ (by simp)
          have nx:¬ ∃ fs,H3 p=some (.xd fs):=fun ⟨fs,z⟩=>by rw [hpd] at z; cases z
          have n2:NoC H3 p:=noC_of hpd fun _ z=>nomatch z
          refine ⟨hpd,[(.inr a,vx),(.inr b,vy),(.inr c,vz)],rfl,by simp,?_⟩
          rw [merge3 hab hac hbc]
          have rl4:=rl3.growD (u:=.dK [(.inr a,vx),(.inr b,vy),(.inr c,vz)]) (by simp) hp3 hpd nt_dK
          have nx':¬ ∃ fs,(upd H3 p (.dK [((.inr a:Key),vx),(.inr b,vy),(.inr c,vz)])) p=some (.xd fs):=fun ⟨fs,z⟩=>by rw [upd_same] at z; cases z
          have n2':NoC (upd H3 p (.dK [((.inr a:Key),vx),(.inr b,vy),(.inr c,vz)])) p:=noC_of upd_same fun _ z=>nomatch z
          have rx3:=RW.adopt nx' n2' (RW.updE (o:=.dK [((.inr a:Key),vx),(.inr b,vy),(.inr c,vz)]) hpm nx n2 (RW.ext (x2.trans x3) rx))
          have ry3:=RW.adopt nx' n2' (RW.updE (o:=.dK [((.inr a:Key),vx),(.inr b,vy),(.inr c,vz)]) hpm nx n2 (RW.ext x3 ry))
          have rz3:=RW.adopt nx' n2' (RW.updE (o:=.dK [((.inr a:Key),vx),(.inr b,vy),(.inr c,vz)]) hpm nx n2 rz)
          have xh:Ext ι H (ι3 ++ [(p,[])]) (upd H3 p (.dK [((.inr a:Key),vx),(.inr b,vy),(.inr c,vz)])):=by
            refine adopt_ext hp ⟨x03.at_,fun b hb=>?_,fun b hb=>?_,fun b o nb hb nt=>?_⟩
            · rcases x03.sub b hb with w | w
              · exact .inl w
              · by_cases e:b=p
                · exact .inr (e ▸ hp)
                · rw [upd_ne e] at w; exact .inr w
            · by_cases e:b=p
              · rw [e]; exact hp
              · rw [upd_ne e] at hb
                have:=x03.dom b hb
                rw [upd_ne e] at this
                exact this
            · have e:b ≠ p:=ne_of_none hb hp
              rw [upd_ne e]
              exact x03.keep b o nb (by rw [upd_ne e]; exact hb) nt
          refine cn _ _ xh (rl4.adopt hpB nx' n2' ⟨rfl,_,upd_same,.cons ⟨rfl,rx3⟩ (.cons ⟨rfl,ry3⟩ (.cons ⟨rfl,rz3⟩ .nil))⟩) _ ⟨(p,[]),?_,rfl⟩
          rw [List.getElem?_append_right (by rw [rl3.len]; exact Nat.le_refl _),rl3.len]
          simp
end
def great (ns:List Int):List Int:=ns.filter fun i=>decide (10 ^ 18≤i)
def begunF:FF:=fun ws S=>match ws with
  | [.d (.scr ns)]=>if ns.length≤63 then .ok (.ref S.length) (S ++ [.drw ns (great ns) 0]) else .err
  | _=>.err
def BegunOk (f:FF):Prop:=∀ ns:List Int,ns.length≤63→f [.d (.scr ns)] []=.ok (.ref 2) [.lst (intW ns),.lst (intW (great ns)),.dct [(.inr sCells,.ref 0),(.inr sLeft,.ref 1),(.inr sAt,.d (.int 0))]]
theorem sp_begun {F:Fx} {H:Hp} {f:FF} (hf:BegunOk f) {vs:List V} {Q:VK} {E:XK} (h:spF F 1 begunF vs H Q E):spF F 1 f vs H Q E:=by
  obtain ⟨hl,B,ι,S,ws,rs,rw,c⟩:=h
  refine ⟨hl,?_⟩
  unfold begunF at c
  split at c
  · rename_i ns
    split at c
    · rename_i hn
      obtain ⟨v,rfl,rv⟩:=one_arg rw
      refine ⟨B ++ flat ι,[],[],[.d (.scr ns)],⟨by simp [flat],rfl,fun i p o h1=>by simp at h1,rs.tab,fun b hb=>?_,fun b _ z=>by simp [flat] at z⟩,.cons ?_ .nil,?_⟩
      · rcases List.mem_append.mp hb with z | z
        · exact rs.bs b z
        · exact rs.mem_some z
      · exact Rep.sub (fun a ha _=>by simpa [flat] using ha) (show RD F H B ι (.scr ns) v from rv)
      · rw [hf ns hn]
        intro ι2 H2 u x r3 ru
        have hlen:ι2.length=3:=r3.len
        obtain ⟨q0,hq0⟩:∃ q,ι2[0]? = some q:=⟨_,List.getElem?_eq_getElem (by omega)⟩
        obtain ⟨q1,hq1⟩:∃ q,ι2[1]? = some q:=⟨_,List.getElem?_eq_getElem (by omega)⟩
        obtain ⟨q2,hq2⟩:∃ q,ι2[2]? = some q:=⟨_,List.getElem?_eq_getElem (by omega)⟩
        obtain ⟨_,us0,hu0,ru0⟩:=r3.obj 0 q0 _ hq0 rfl
        obtain ⟨_,us1,hu1,ru1⟩:=r3.obj 1 q1 _ hq1 rfl
        obtain ⟨_,us2,hu2,ru2⟩:=r3.obj 2 q2 _ hq2 rfl
        have eu0:=intW_inv ru0
        have eu1:=intW_inv ru1
        subst eu0 eu1
        have eu2:us2=[(.inr sCells,.ref q0.1),(.inr sLeft,.ref q1.1),(.inr sAt,.int 0)]:=by
          cases ru2 with
          | @cons a b _ _ ra ta=>cases ta with
            | @cons a2 b2 _ _ rb tb=>cases tb with
              | @cons a3 b3 _ _ rc tc =>
                cases tc
                obtain ⟨k1,pp,g1,g2⟩:=ra
                obtain ⟨k2,pq,g3,g4⟩:=rb
                obtain ⟨k3,g5⟩:=rc
                obtain ⟨b11,b12⟩:=b
                obtain ⟨b21,b22⟩:=b2
                obtain ⟨b31,b32⟩:=b3
                simp only at k1 k2 k3 g2 g4 g5
                rw [hq0] at g1
                rw [hq1] at g3
                cases g1; cases g3
                have g6:Rep F.K F.cls H2 ((B ++ flat ι) ++ flat ι2) (.int 0) b32:=g5
                cases g6
                subst k1 k2 k3 g2 g4
                rfl
        subst eu2
        obtain ⟨qq,hqq,eu⟩:=ru
        rw [hq2] at hqq
        cases hqq
        subst eu
        have f0:q0.1∈flat ι2:=mem_flat hq0
        have f1:q1.1∈flat ι2:=mem_flat hq1
        have f2:q2.1∈flat ι2:=mem_flat hq2
        have new:∀ b∈flat ι2,H b=none:=fun b hb=>by
          rcases x.sub b hb with z | z
          · simp [flat] at z
          · exact z
        have away:∀ b∈flat ι2,b ∉ B ++ flat ι:=fun b hb z=>r3.dis b z hb
        have n01:q0.1 ≠ q1.1:=fun z=>flat_apart (a:=q0.1) r3.nd hq0 hq1 (by decide) (.inl rfl) (.inl z)
        have n02:q2.1 ≠ q0.1:=fun z=>flat_apart (a:=q2.1) r3.nd hq2 hq0 (by decide) (.inl rfl) (.inl z)
        have n12:q2.1 ≠ q1.1:=fun z=>flat_apart (a:=q2.1) r3.nd hq2 hq1 (by decide) (.inl rfl) (.inl z)
        have fl:flat (ι ++ [(q2.1,[q0.1,q1.1])])=flat ι ++ [q2.1,q0.1,q1.1]:=by rw [flat_app]; simp [flat]
        have own3:∀ b∈[q2.1,q0.1,q1.1],b∈flat ι2:=fun b hb=>by
          simp at hb
          rcases hb with rfl | rfl | rfl
          · exact f2
          · exact f0
          · exact f1
        have x3:Ext ι H (ι ++ [(q2.1,[q0.1,q1.1])]) H2:=by
          refine ⟨fun i p hi=>⟨p,by rw [List.getElem?_append_left (List.getElem?_eq_some_iff.mp hi).1]; exact hi,rfl⟩,fun b hb=>?_,x.dom,fun b o _ hb nt=>x.keep b o (fun z=>by simp [flat] at z) hb nt⟩
          rw [fl] at hb
          rcases List.mem_append.mp hb with z | z
          · exact .inl z
          · exact .inr (new b (own3 b z))
        refine c _ H2 _ x3 ⟨?_,by simp [rs.len],fun j q ob h1 h2=>?_,r3.tab,fun b hb z=>rs.bs b hb (x.dom b z),fun b hb z=>?_⟩ ⟨(q2.1,[q0.1,q1.1]),?_,rfl⟩
        · rw [fl,List.nodup_append]
          refine ⟨rs.nd,by simp [n01,n02,n12],fun a ha b hb e=>?_⟩
          subst e
          exact away a (own3 a hb) (List.mem_append_right _ ha)
        · by_cases e:j < ι.length
          · rw [List.getElem?_append_left e] at h1
            rw [List.getElem?_append_left (by rw [← rs.len]; exact e)] at h2
            have ro:=rs.obj j q ob h1 h2
            refine ro.ext x3 fun a ha=>?_
            cases hq:H a with
            | none=>exact absurd hq (ro.tracked ha)
            | some u=>exact x.keep a u (fun z=>by simp [flat] at z) hq (ro.ntbl ha hq).1
          · have hl:j=ι.length:=by
              have:=(List.getElem?_eq_some_iff.mp h1).1
              simp at this
              omega
            subst hl
            rw [List.getElem?_append_right (Nat.le_refl _)] at h1
            rw [List.getElem?_append_right (by rw [rs.len]; exact Nat.le_refl _),rs.len] at h2
            simp at h1 h2
            subst h1 h2
            exact ⟨q0.1,q1.1,rfl,hu2,hu0,hu1⟩
        · rw [fl] at z
          rcases List.mem_append.mp z with w | w
          · exact rs.dis b hb w
          · exact away b (own3 b w) (List.mem_append_left _ hb)
        · rw [List.getElem?_append_right (by rw [rs.len]; exact Nat.le_refl _),rs.len]
          simp
    · exact (show False from c).elim
  · exact (show False from c).elim
def sBegun:FS:=sRet (fDisp3 "cells" "left" "at" (fCall opListN (fCons (fVar 0) fNil)) (fLcN (iScr (fVar 0)) (gN 1) (toT (fBin opGe (fVar 1) (fBin opPow (fC (.int 10)) (fC (.int 18))))) (fVar 1) [1]) (fC (.int 0)))
theorem comp_great (ρ:Loc) (hρ:ρ.length=2) (S:Sto):∀ (ns acc:List Int),acc.length + ns.length < sizeLine →
    compL (gN 1) (toT (fBin opGe (fVar 1) (fBin opPow (fC (.int 10)) (fC (.int 18))))) (fVar 1) ρ (intD' ns) S (intD' acc)=.ok (intD' (acc ++ great ns)) S
  | [],acc,_=>by
    show R.ok (intD' acc) S=_
    rw [show great []=[] from rfl,List.append_nil]
  | x :: ns,acc,h=>by
    have hv:(ρ.set 1 (some (.d (.int x))))[1]? = some (some (.d (.int x))):=List.getElem?_set_self (by omega)
    have et:toT (fBin opGe (fVar 1) (fBin opPow (fC (.int 10)) (fC (.int 18)))) (ρ.set 1 (some (.d (.int x)))) S=.ok (decide (10 ^ 18≤x)) S:=by
      unfold toT
      rw [bin_of (var_of hv) (bin_of (x:=.d (.int 10)) (y:=.d (.int 18)) (z:=.d (.int (10 ^ 18))) (S1:=S) (S2:=S) (S3:=S) rfl rfl (by rfl)) (show opGe (.d (.int x)) (.d (.int (10 ^ 18))) S=.ok (.d (.bl (decide (10 ^ 18≤x)))) S from rfl)]
      rfl
    rw [show intD' (x :: ns)=D.int x :: intD' ns from rfl]
    simp only [compL,gN]
    rw [et]
    simp only [noX,R.bind]
    by_cases hx:(10:Int) ^ 18≤x
    · rw [if_pos (decide_eq_true hx),var_of hv]
      simp only [noX,R.bind]
      rw [if_pos (by simp [intD']; simp at h; omega)]
      have e:intD' acc ++ [D.int x]=intD' (acc ++ [x]):=by simp [intD']
      rw [e,comp_great ρ hρ S ns (acc ++ [x]) (by simp at h ⊢; omega)]
      have:great (x :: ns)=x :: great ns:=by simp only [great,List.filter_cons]; rw [if_pos (decide_eq_true hx)]
      rw [this]
      simp
    · rw [if_neg (by simpa using hx),comp_great ρ hρ S ns acc (by simp at h; omega)]
      have:great (x :: ns)=great ns:=by simp only [great,List.filter_cons]; rw [if_neg (by simpa using hx)]
      rw [this]
theorem begun_ok:BegunOk (bodyF 2 sBegun):=by
  intro ns hn
  refine body_rt (ret_of ?_)
  have e1:fCall opListN (fCons (fVar 0) fNil) [some (.d (.scr ns)),none] []=.ok (.ref 0) [.lst (intW ns)]:=rfl
  have e2:fLcN (iScr (fVar 0)) (gN 1) (toT (fBin opGe (fVar 1) (fBin opPow (fC (.int 10)) (fC (.int 18))))) (fVar 1) [1] [some (.d (.scr ns)),none] [.lst (intW ns)]=.ok (.ref 1) [.lst (intW ns),.lst (intW (great ns))]:=by
    show ((compL (gN 1) (toT (fBin opGe (fVar 1) (fBin opPow (fC (.int 10)) (fC (.int 18))))) (fVar 1) [some (.d (.scr ns)),none] (intD' ns) [.lst (intW ns)] (intD' [])).bind fun ys S2=>R.ok (W.ref S2.length) (S2 ++ [O.lst (ys.map W.d)]))=_
    rw [comp_great _ rfl _ ns [] (by rw [sizeLine_eq]; simp; omega)]
    simp [R.bind,intD',intW,Function.comp_def]
  show fDisp3 _ _ _ _ _ _ [some (.d (.scr ns)),none] []=_
  unfold fDisp3
  rw [e1]
  simp only [noX,R.bind]
  rw [e2]
  rfl
end Ev
namespace Ev
open PySem PySem.Spec L2
open PyProof.Rows (envOfC)
section
variable {F:Fx} {H:Hp} {B:List Addr} {ι:Ads} {ex:List Addr}
end
section
variable {X:Cx} {F:Fx} {Wsh:WX} {es:List Expr} {e o:Expr} {f g fo fe:FE} {fa:FA} {pos pos' p apos:Pos} {c:Nat} {fl m:Str}
end
end Ev
namespace Ev
open PySem PySem.Spec L2
open PyProof.Rows (IsTup)
section
variable {X:Cx} {F:Fx} {Wsh:WX} {es:List Expr} {e o i a b:Expr} {f g:FE} {fa:FA} {pos p p2:Pos}
def fCo (f:FE):FE:=fun ρ S=>(f ρ S).bind fun w S1=>match w with
  | .d (.ftp xs)=>.ok (.d (.tup xs)) S1
  | w=>.ok w S1
theorem r_co (he:PE X e (tR F Wsh f)):PE X e (tR F Wsh (fCo f)):=peImp he fun σ H Q ⟨B,ι,ρ,S,rl,c0⟩=>by
  refine tR_step rl c0 fun w v S1 ι1 H1 x1 rl1 rv c1=>?_
  cases w with
  | d x =>
    cases x with
    | ftp xs =>
      cases rv with
      | ftp n h p r=>exact c1.here rl1 _ (.tupF n h r)
    | _=>exact c1.here rl1 _ rv
  | _=>exact c1.here rl1 _ rv
def opTupF:OpN:=fun ws S=>match ws with
  | [w]=>(match view S w with
    | some (.lst xs)=>.ok (.d (.ftp xs)) S
    | _=>.err)
  | _=>.err
def rTupF (K:PySem.W.Frag):RN:=fun xs H Q=>∃ q ys,xs=[.ref q]∧SqL K H q ys∧∀ l ob,H l=none→plainT ob→Q (.ref l) (upd H l (.frz ob (.tup ys)))
theorem call_tupF (hK:X.K=F.K):CallR X (.type "tuple") (rTupF F.K):=by
  rw [← hK]
  intro pins s σ H xs us Q I r ⟨q,ys,e1,hq,k⟩
  subst e1
  obtain ⟨u,rfl,rx⟩:=vals1 r
  cases rx
  obtain ⟨its,rv,pl,hz⟩:=I.list hq
  have hlen:its.toArray.size≤sizeLine:=by rw [List.size_toArray,← rv.length]; exact hz
  refine call_tuple_list pl.isList (fun h' kp=>?_) hlen
  have I1:L2.Inv X pins σ H { s with heap:=h' }:=I.kept (t':=s.toks) kp
  let ob:Obj:={ cls:=.type "tuple",data:=.seq its.toArray }
  have ok:ObjOk X.prog X.w (upd H h'.objs.size (.frz ob (.tup ys))) (h'.push ob) h'.objs.size (.frz ob (.tup ys)):=⟨Heap.get?_push_size _ rfl,hz,its,rv,PyProof.Rows.IsTup.new _ _⟩
  exact ⟨.ref h'.objs.size,_,I1.laid (t':=s.toks) (fun b o e=>Heap.get?_push_of_some _ e) (Nat.le_refl _) ok,rfl,k _ ob (I1.hok.fresh (Nat.le_refl _)) ⟨rfl,rfl,_,_,rfl⟩⟩
theorem ok_tupF:OpNOk F opTupF (rTupF F.K):=by
  intro Wsh B ι ρ S σ H ws vs Q rl rw c
  unfold opTupF at c
  split at c
  · split at c
    · rename_i w xs hv
      obtain ⟨v,rfl,rv⟩:=one_arg rw
      obtain ⟨q,us,rfl,h1,r1⟩:=view_lst rl.toRelS rv hv
      refine ⟨q,us,rfl,SqL.of h1,fun l ob hl hp=>c ι _ (Ext.new hl) (rl.new hl nt_frz) _ (.ftp (rl.fresh hl) upd_same hp (r1.ext (Ext.new hl)))⟩
    · exact c.elim
  · exact c.elim
def valD (kvs:List (D×D)) (z:Str):Option D:=match kvs with
  | []=>none
  | (.str k,v) :: r=>if k=z then some v else valD r z
  | _ :: r=>valD r z
end
end Ev
namespace Ev
open PySem PySem.Spec L2 PySem.SeqAt
def eqS:D→Str→Option Bool
  | .str y,z=>some (decide (y=z))
  | .non,_=>some false
  | .bl _,_=>some false
  | .int _,_=>some false
  | .tup _,_=>some false
  | .lst _,_=>some false
  | .dct _,_=>some false
  | _,_=>none
def eqSs:List D→List Str→Option Bool
  | [],[]=>some true
  | [],_ :: _=>some false
  | _ :: _,[]=>some false
  | x :: xs,z :: zs=>(eqS x z).bind fun b=>(eqSs xs zs).map (b && ·)
def strsOf:List D→Option (List Str)
  | []=>some []
  | .str z :: xs=>(strsOf xs).map (z :: ·)
  | _ :: _=>none
def opEqS:Op2:=fun x y S=>match x,y with
  | .d (.tup xs),.d (.tup ys)=>(match strsOf ys with
    | some zs=>(match eqSs xs zs with
      | some b=>.ok (.d (.bl b)) S
      | none=>.err)
    | none=>.err)
  | _,_=>.err
section
variable {X:Cx} {F:Fx} {pins:List (Addr×Obj)} {σ:L2.St} {H:Hp} {s:Shared} {ex:List Addr}
end
end Ev
namespace Ev
open PySem PySem.Spec L2 PySem.SeqAt
section
variable {prog:Program} {w:World} {A:Around} {E:Value→Shared→Prop} {s:Shared} {zz ti tt ia ib tu:Addr} {fa fb:List Addr} {na nb i:Nat} {Pa Pb:Nat→Value→Prop} {Sa Sb:Nat→Heap→Prop} {fl:Bool} {ou:Obj}
end
section
variable {X:Cx} {F:Fx} {Wsh:WX} {e e2:Expr} {f g:FE} {pos pos2 p p2:Pos} {k1 k2:Bool} {ta:TA}
end
end Ev
namespace Ev
open PySem PySem.Spec L2
section
variable {X:Cx} {F:Fx} {Wsh:WX} {es:List Expr} {e o i a b:Expr} {f g:FE} {fa:FA} {pos p p2 apos:Pos}
structure MDef (K:PySem.W.Frag) (C:Addr) (x qual:Str) (st:Stmt) (ps:List Str) (dvs:List V) (f:Addr) (fd:FuncData):Prop where
  fn:FunD K x qual (defArgs st) (defBody st) (defScope st) dvs [] f fd
  me:Meth K C x f
  b:Binds K fd ps []
end
end Ev
namespace Ev
open PySem PySem.Spec L2 PyProof.Rows
section
variable {X:Cx} {F:Fx} {Wsh:WX} {es:List Expr} {e:Expr} {f:FE} {fa fk:FA} {pos p kpos:Pos} {c:Nat} {nm:Option Str} {kws:List Keyword}
end
end Ev
namespace Ev
open PySem PySem.Spec L2 ClX StX
open PyProof.Rows (envOfC)
section
variable {F:Fx}
structure CDef (K:PySem.W.Frag) (C:Addr) (m qual:Str) (st:Stmt) (ps:List Str) (pv:Str) (f:Addr) (fd:FuncData):Prop where
  fn:Fun K m qual st f fd
  rd:∃ mc p,CRead K C mc∧CMet K C mc m p f
  b:∀ us rest:List Value,us.length=ps.length→bindArgs fd ⟨us ++ rest,[]⟩=(newTuple rest >>= fun t=>pure (ps.zip us ++ [(pv,t)]))
variable {X:Cx} {Wsh:WX} {e:Expr} {es:List Expr} {fa:FA} {pos p apos:Pos} {c:Nat} {x m qual:Str}
end
end Ev
namespace Ev
open PySem PySem.Spec L2 PyProof.Rows
open PySem.EvX (ExTxt)
inductive HdL (X:Cx) (n:Str):List ExceptHandler→List (Value×(Addr→Value→Option Addr→TS))→Prop
  | nil:HdL X n [] []
  | cons {x:Str} {c:Value} {ts:Addr→Value→Option Addr→TS} {s₀:Stmt} {ss:List Stmt} {np hp:Pos} {hds:List ExceptHandler} {l:List (Value×(Addr→Value→Option Addr→TS))} (hx:Names X x c)
      (run:∀ (a:Addr) (oe:Obj) (cv:Value) (dx:Option Addr) (pn:List (Addr×Obj)),Zc cv dx oe→(∃ vs,oe.data=.fields vs)→PSs (X.suite a ((a,oe) :: pn)) (s₀ :: ss) (ts a cv dx)) (rest:HdL X n hds l) :
      HdL X n (.ExceptHandler (some (.Name x np)) (some n) (s₀ :: ss) hp :: hds) ((c,ts) :: l)
section
variable {X:Cx} {n:Str} {i:Nat} {body:List Stmt} {h₀:ExceptHandler} {hds:List ExceptHandler} {l:List (Value×(Addr→Value→Option Addr→TS))} {pos:Pos} {tb:WX→TS} {Wo:WX}
end
abbrev Clause:=Nat×(Nat→Option Bool)×FS
inductive HdF (X:Cx) (F:Fx) (n:Str):List ExceptHandler→List Clause→Prop
  | nil:HdF X F n [] []
  | cons {x:Str} {c:Nat} {m:Nat→Option Bool} {fs:FS} {s₀:Stmt} {ss:List Stmt} {np hp:Pos} {hds:List ExceptHandler} {l:List Clause} (hx:Names X x (.ref (F.cls c)))
      (same:PySem.W.exmOne X.K (.ref (F.cls c)) (.ref (F.cls c))=some true) (other:∀ c',m c'=some false→PySem.W.exmOne X.K (.ref (F.cls c')) (.ref (F.cls c))=some false)
      (run:∀ (a:Addr) (oe:Obj) (dd:Addr) (pn:List (Addr×Obj)),Zc (.ref (F.cls c)) (some dd) oe→(∃ vs,oe.data=.fields vs)→PSs (X.suite a ((a,oe) :: pn)) (s₀ :: ss) (tS (withX F a dd) W0 fs)) (rest:HdF X F n hds l) :
      HdF X F n (.ExceptHandler (some (.Name x np)) (some n) (s₀ :: ss) hp :: hds) ((c,m,fs) :: l)
section
variable {X:Cx} {F:Fx} {Wsh:WX}
end
end Ev
namespace Ev
open PySem PySem.Spec L2
section
variable {X:Cx} {F:Fx} {Wsh:WX}
end
end Ev
namespace Ev
open PySem PySem.Spec L2
def opMulL:Op2:=fun x y S=>match x,y with
  | .d (.lst xs),.d (.int k)=>if 0≤k∧k≤1000∧xs.length≤1000 then .ok (.d (.lst (List.replicate k.toNat xs).flatten)) S else .err
  | _,_=>.err
section
variable {K:PySem.W.Frag} {cls:Cl} {H:Hp} {ex:List Addr}
theorem reps_rep {ds:List D} {vs:List V} (h:Reps K cls H ex ds vs):∀ n:Nat,Reps K cls H ex (List.replicate n ds).flatten (List.replicate n vs).flatten
  | 0=>.nil
  | n + 1=>by
    rw [List.replicate_succ,List.replicate_succ,List.flatten_cons,List.flatten_cons]
    exact reps_app h (reps_rep h n)
end
theorem ok_mulL {F:Fx}:OpOk F opMulL rRep:=by
  intro Wsh B ι ρ S σ H wx wy x y Q rl rx ry c
  unfold opMulL at c
  split at c
  · rename_i xs k
    cases ry
    split at c
    · rename_i h
      obtain ⟨a,vs,rfl,h1,r1,n1⟩:=rep_lst rx
      refine ⟨a,k,vs,rfl,rfl,h1,by omega,by omega,?_,fun p hp=>?_⟩
      · rw [← reps_len r1]
        have:xs.length * k.toNat≤1000 * 1000:=Nat.mul_le_mul h.2.2 (by omega)
        have:sizeLine=16777216:=rfl
        omega
      · exact c ι _ (Ext.new hp) (rl.new hp) _ (.lst (rl.fresh hp) upd_same (Reps.ext (Ext.new hp) (reps_rep r1 _)))
    · exact c.elim
  · exact c.elim
end Ev
namespace Ev
open PySem PySem.Spec L2
section
variable {X:Cx} {F:Fx} {Wsh:WX} {o e:Expr} {f g:FE} {fa:FA} {pos apos p:Pos}
def fFmt (f:FE):FE:=fun ρ S=>(f ρ S).bind fun w S1=>match w with
  | .d (.str y)=>if y.length≤sizeLine then .ok (.d (.str y)) S1 else .err
  | .d (.int i)=>if i.natAbs.log2 < 1920 then .ok (.d (.str (toString i))) S1 else .err
  | _=>.err
def fJs:List FE→Str→Loc→Sto→R Str
  | [],acc,_,S=>.ok acc S
  | f :: fs,acc,ρ,S=>(f ρ S).bind fun w S1=>match w with
    | .d (.str y)=>if (acc ++ y).length≤sizeLine then fJs fs (acc ++ y) ρ S1 else .err
    | _=>.err
def fFStr (fs:List FE):FE:=fun ρ S=>(fJs fs Str.empty ρ S).bind fun z S1=>.ok (.d (.str z)) S1
end
end Ev
namespace Ev
open PySem PySem.Spec L2
section
variable {X:Cx} {F:Fx} {Wsh:WX} {tg e:Expr} {f g:FE} {fa:FA} {pos p:Pos}
end
end Ev
namespace Ev
open PySem PySem.Spec L2
structure EqM (K:PySem.W.Frag) (C f:Addr):Prop where
  at_:PySem.W.findIn K (.ref C) "__eq__" = some (some (.ref f))
  fn:PySem.W.isFn K (.ref f)=true
  sub:∀ T∈(["NoneType","bool","int","str","tuple","list","dict"]:List String),PySem.W.subIn K (.type T) (.ref C)=some false
section
variable {X:Cx} {F:Fx}
end
end Ev
namespace Ev
open PySem PySem.Spec L2 PyProof.Rows
section
variable {prog:Program} {w:World} {A:Around} {E:Value→Shared→Prop} {s:Shared}
end
section
variable {X:Cx} {F:Fx} {Wsh:WX} {e:Expr} {f:FE}
end
end Ev
namespace Ev
open PySem PySem.Spec L2
structure IsC (K:PySem.W.Frag) (C:Addr):Prop where
  cl:Cls K C
  ca:PySem.W.findIn K (.ref C) "__class__" = some (some (.builtin "object.__class__"))
  cg:PySem.W.specialIn K (.builtin "object.__class__") "__get__" = some (some (.builtin "getset_descriptor.__get__"))
  ct:PySem.W.takesIn K (.builtin "object.__class__")=some true
  co:PySem.W.mroIn K C (.type "object")=some true
  same:PySem.W.kitOne K (.ref C) (.ref C)=some true
  not_:∀ T∈(["NoneType","bool","int","str","tuple","list","dict"]:List String),PySem.W.kitOne K (.type T) (.ref C)=some false
section
variable {X:Cx} {F:Fx} {Wsh:WX} {e:Expr} {f:FE} {pos p p2:Pos}
end
end Ev
namespace Ev
open PySem PySem.Spec L2
section
variable {X:Cx} {F:Fx}
end
section
variable {X:Cx} {F:Fx} {Wsh:WX} {fa:FA} {es:List Expr} {pos:Pos}
end
end Ev
namespace Ev
open PySem PySem.Spec L2
section
variable {X:Cx} {F:Fx} {Wsh:WX} {o i e:Expr} {f g:FE} {pos apos cpos:Pos}
end
end Ev
namespace Ev
open PySem PySem.Spec L2
open Ob (RcOp lexAt)
mutual
def rcP (fI:Int→Int→Bool) (fN:Nat→Nat→Bool):PyData→PyData→Bool
  | .int i,.int j=>fI i j
  | .tuple xs,.tuple ys=>rcPs fI fN xs ys
  | _,_=>false
def rcPs (fI:Int→Int→Bool) (fN:Nat→Nat→Bool):List PyData→List PyData→Bool
  | [],ys=>fN 0 ys.length
  | x :: xs,[]=>fN (xs.length + 1) 0
  | x :: xs,y :: ys=>if PyData.eqv x y=true then rcPs fI fN xs ys else rcP fI fN x y
end
mutual
def cOk:PyData→PyData→Bool
  | .int _,.int _=>true
  | .tuple xs,.tuple ys=>cOks xs ys
  | _,_=>false
def cOks:List PyData→List PyData→Bool
  | [],_=>true
  | _ :: _,[]=>true
  | x :: xs,y :: ys=>(PyData.eqv x y || cOk x y) && cOks xs ys
end
structure OpK (op:CmpOp) (fI:Int→Int→Bool) (fN:Nat→Nat→Bool):Prop where
  int:∀ (A:Around) (s:Shared) (a b:Int) (t u:Tok),RcOp op A s (.int a t) (.int b u) (fI a b)
  tup:∀ {A:Around} {s:Shared} {l b:Addr} {items items2:Array Value} {e r:Nat→Bool},s.heap.IsTuple l items→s.heap.IsTuple b items2→A.units < cLine →
    (∀ j (h1:j < items.size) (h2:j < items2.size),SeqAt.EqAt A.in1 s items[j] items2[j] (e j)) →
    (∀ j (h1:j < items.size) (h2:j < items2.size),e j=false→RcOp op A.in1 s items[j] items2[j] (r j)) →
    RcOp op A s (.ref l) (.ref b) (lexAt e r (fN items.size items2.size) 0 (min items.size items2.size))
  suc:∀ m n,fN (m + 1) (n + 1)=fN m n
section
variable {op:CmpOp} {fI:Int→Int→Bool} {fN:Nat→Nat→Bool}
def rAt (fI:Int→Int→Bool) (fN:Nat→Nat→Bool) (xs ys:List PyData) (j:Nat):Bool:=match xs[j]?,ys[j]? with
  | some x,some y=>rcP fI fN x y
  | _,_=>false
theorem lexAt_shift {e r e' r':Nat→Bool} {z:Bool} (he:∀ i,e (i + 1)=e' i) (hr:∀ i,r (i + 1)=r' i):∀ k i,lexAt e r z (i + 1) k=lexAt e' r' z i k
  | 0,i=>rfl
  | k + 1,i=>by
    rw [Ob.lexAt_succ,Ob.lexAt_succ,he,hr,lexAt_shift he hr k (i + 1)]
theorem lex_rcs (hs:∀ m n,fN (m + 1) (n + 1)=fN m n):∀ xs ys:List PyData,lexAt (SeqAt.pairEq xs ys) (rAt fI fN xs ys) (fN xs.length ys.length) 0 (min xs.length ys.length)=rcPs fI fN xs ys
  | [],ys=>by simp [rcPs,Ob.lexAt_zero]
  | x :: xs,[]=>by simp [rcPs,Ob.lexAt_zero]
  | x :: xs,y :: ys=>by
    rw [List.length_cons,List.length_cons,Nat.succ_min_succ,Ob.lexAt_succ,hs]
    have h0:SeqAt.pairEq (x :: xs) (y :: ys) 0=PyData.eqv x y:=rfl
    rw [h0,rcPs]
    by_cases h:PyData.eqv x y=true
    · rw [if_pos h,if_pos h,lexAt_shift (e':=SeqAt.pairEq xs ys) (r':=rAt fI fN xs ys) (fun i=>rfl) (fun i=>rfl)]
      exact lex_rcs hs xs ys
    · rw [if_neg h,if_neg h]
      rfl
mutual
theorem rc_reads (O:OpK op fI fN):∀ (da db:PyData) (A:Around) (s:Shared) (a b:Value) (as bs:List Addr),Reads s.heap a da as→Reads s.heap b db bs→da.canLay0=true→db.canLay0=true→cOk da db=true →
    A.units + min da.depth db.depth < cLine→RcOp op A s a b (rcP fI fN da db)
  | .int i,.int j,A,s,_,_,_,_,.int _ t,.int _ u,_,_,_,_=>O.int A s i j t u
  | .tuple xs,.tuple ys,A,s,_,_,_,_,.tuple (vs:=va) h1 h2 h3 h4,.tuple (vs:=vb) k1 k2 k3 k4,ha,hb,hc,hu=>by
    have hu':A.in1.units + min (PyData.depthAll xs) (PyData.depthAll ys) < cLine:=by
      simp only [PyData.depth,Around.in1_units] at hu ⊢
      omega
    have la:va.size=xs.length:=by rw [← Array.length_toList]; exact readsAll_len h4
    have lb:vb.size=ys.length:=by rw [← Array.length_toList]; exact readsAll_len k4
    have R:=O.tup (A:=A) (s:=s) (e:=SeqAt.pairEq xs ys) (r:=rAt fI fN xs ys) ⟨_,h1,h2,_,h3⟩ ⟨_,k1,k2,_,k3⟩ (by simp only [PyData.depth] at hu; omega)
      (fun j q1 q2=>by
        have:=SeqAt.eqAt_readsAll xs ys A.in1 s va.toList vb.toList _ _ h4 k4 ha hb hu' j (by simpa using q1) (by simpa using q2)
        simpa using this)
      (fun j q1 q2 hne=>by
        have:=rc_readsAll O xs ys A.in1 s va.toList vb.toList _ _ h4 k4 ha hb (by simpa [cOk] using hc) hu' j (by simpa using q1) (by simpa using q2) hne
        simpa using this)
    rw [la,lb,lex_rcs O.suc] at R
    exact R
  | .none,_,_,_,_,_,_,_,_,_,_,_,hc,_=>by simp [cOk] at hc
  | .bool _,_,_,_,_,_,_,_,_,_,_,_,hc,_=>by simp [cOk] at hc
  | .str _,_,_,_,_,_,_,_,_,_,_,_,hc,_=>by simp [cOk] at hc
  | .list _,_,_,_,_,_,_,_,_,_,_,_,hc,_=>by simp [cOk] at hc
  | .dict _,_,_,_,_,_,_,_,_,_,_,_,hc,_=>by simp [cOk] at hc
  | .int _,.none,_,_,_,_,_,_,_,_,_,_,hc,_=>by simp [cOk] at hc
  | .int _,.bool _,_,_,_,_,_,_,_,_,_,_,hc,_=>by simp [cOk] at hc
  | .int _,.str _,_,_,_,_,_,_,_,_,_,_,hc,_=>by simp [cOk] at hc
  | .int _,.list _,_,_,_,_,_,_,_,_,_,_,hc,_=>by simp [cOk] at hc
  | .int _,.tuple _,_,_,_,_,_,_,_,_,_,_,hc,_=>by simp [cOk] at hc
  | .int _,.dict _,_,_,_,_,_,_,_,_,_,_,hc,_=>by simp [cOk] at hc
  | .tuple _,.none,_,_,_,_,_,_,_,_,_,_,hc,_=>by simp [cOk] at hc
  | .tuple _,.bool _,_,_,_,_,_,_,_,_,_,_,hc,_=>by simp [cOk] at hc
  | .tuple _,.int _,_,_,_,_,_,_,_,_,_,_,hc,_=>by simp [cOk] at hc
  | .tuple _,.str _,_,_,_,_,_,_,_,_,_,_,hc,_=>by simp [cOk] at hc
  | .tuple _,.list _,_,_,_,_,_,_,_,_,_,_,hc,_=>by simp [cOk] at hc
  | .tuple _,.dict _,_,_,_,_,_,_,_,_,_,_,hc,_=>by simp [cOk] at hc
theorem rc_readsAll (O:OpK op fI fN):∀ (xs ys:List PyData) (A:Around) (s:Shared) (vs ws:List Value) (as bs:List Addr),ReadsAll s.heap vs xs as→ReadsAll s.heap ws ys bs→PyData.canLayAll0 xs=true→PyData.canLayAll0 ys=true→cOks xs ys=true →
    A.units + min (PyData.depthAll xs) (PyData.depthAll ys) < cLine→∀ j (h1:j < vs.length) (h2:j < ws.length),SeqAt.pairEq xs ys j=false→RcOp op A s vs[j] ws[j] (rAt fI fN xs ys j)
  | [],_,_,_,_,_,_,_,ra,_,_,_,_,_,j,h1,_,_=>by cases ra; exact absurd h1 (Nat.not_lt_zero _)
  | _ :: _,[],_,_,_,_,_,_,_,rb,_,_,_,_,j,_,h2,_=>by cases rb; exact absurd h2 (Nat.not_lt_zero _)
  | x :: xs,y :: ys,A,s,_,_,_,_,ra,rb,ha,hb,hc,hu,j,h1,h2,hne=>by
    have ha':x.canLay0=true∧PyData.canLayAll0 xs=true:=by simpa [PyData.canLayAll0] using ha
    have hb':y.canLay0=true∧PyData.canLayAll0 ys=true:=by simpa [PyData.canLayAll0] using hb
    have hc':(PyData.eqv x y || cOk x y)=true∧cOks xs ys=true:=by simpa only [cOks,Bool.and_eq_true] using hc
    have d1:A.units + min x.depth y.depth < cLine:=by
      simp only [PyData.depthAll] at hu
      omega
    have d2:A.units + min (PyData.depthAll xs) (PyData.depthAll ys) < cLine:=by
      simp only [PyData.depthAll] at hu
      omega
    cases ra with
    | cons r rs =>
      cases rb with
      | cons r' rs' =>
        cases j with
        | zero =>
          have he:PyData.eqv x y=false:=hne
          have hk:cOk x y=true:=by
            have:=hc'.1
            rw [he,Bool.false_or] at this
            exact this
          exact rc_reads O x y A s _ _ _ _ r r' ha'.1 hb'.1 hk d1
        | succ j=>exact rc_readsAll O xs ys A s _ _ _ _ rs rs' ha'.2 hb'.2 hc'.2 d2 j (Nat.lt_of_succ_lt_succ h1) (Nat.lt_of_succ_lt_succ h2) hne
theorem readsAll_len {h:Heap}:∀ {vs:List Value} {xs:List PyData} {as:List Addr},ReadsAll h vs xs as→vs.length=xs.length
  | _,_,_,.nil=>rfl
  | _,_,_,.cons r rs=>by simp [readsAll_len rs]
end
end
section
variable {X:Cx} {F:Fx} {op:CmpOp} {fI:Int→Int→Bool} {fN:Nat→Nat→Bool}
end
end Ev
namespace Ev
open PySem
def kCls:NestedKey→Nat
  | .none=>0 | .text _=>1 | .num _=>2 | .tup _=>3
def cI (i j:Int):Ordering:=if i < j then .lt else if j < i then .gt else .eq
mutual
def cmpN:NestedKey→NestedKey→Ordering
  | .num i,.num j=>cI i j
  | .tup xs,.tup ys=>cmpNs xs ys
  | a,b=>cI (kCls a) (kCls b)
def cmpNs:List NestedKey→List NestedKey→Ordering
  | [],[]=>.eq
  | [],_ :: _=>.lt
  | _ :: _,[]=>.gt
  | x :: xs,y :: ys=>(cmpN x y).then (cmpNs xs ys)
end
def ltN (a b:NestedKey):Bool:=decide (cmpN a b=.lt)
def ltNs (a b:List NestedKey):Bool:=decide (cmpNs a b=.lt)
theorem cI_swap (i j:Int):cI j i=(cI i j).swap:=by
  unfold cI
  by_cases h1:i < j
  · have h2:¬ j < i:=by omega
    simp [h1,h2]
  · by_cases h2:j < i <;> simp [h1,h2]
theorem cI_then {i j k:Int} (h1:cI i j ≠ .gt) (h2:cI j k ≠ .gt):cI i k=(cI i j).then (cI j k):=by
  unfold cI at *
  by_cases a1:i < j
  · rw [if_pos a1]
    by_cases b1:j < k
    · rw [if_pos (by omega)]; rfl
    · by_cases b2:k < j
      · rw [if_neg b1,if_pos b2] at h2; exact absurd rfl h2
      · rw [if_pos (by omega)]; rfl
  · by_cases a2:j < i
    · rw [if_neg a1,if_pos a2] at h1; exact absurd rfl h1
    · obtain rfl:i=j:=by omega
      rw [if_neg a1,if_neg a2]; rfl
theorem then_swap (a b:Ordering):(a.then b).swap=a.swap.then b.swap:=by cases a <;> cases b <;> rfl
mutual
theorem cmpN_swap:∀ a b:NestedKey,cmpN b a=(cmpN a b).swap
  | .num i,.num j=>by simp only [cmpN]; exact cI_swap i j
  | .tup xs,.tup ys=>by simp only [cmpN]; exact cmpNs_swap xs ys
  | .none,b=>by cases b <;> simp only [cmpN] <;> exact cI_swap _ _
  | .text _,b=>by cases b <;> simp only [cmpN] <;> exact cI_swap _ _
  | .num _,.none=>by simp only [cmpN]; exact cI_swap _ _
  | .num _,.text _=>by simp only [cmpN]; exact cI_swap _ _
  | .num _,.tup _=>by simp only [cmpN]; exact cI_swap _ _
  | .tup _,.none=>by simp only [cmpN]; exact cI_swap _ _
  | .tup _,.text _=>by simp only [cmpN]; exact cI_swap _ _
  | .tup _,.num _=>by simp only [cmpN]; exact cI_swap _ _
theorem cmpNs_swap:∀ a b:List NestedKey,cmpNs b a=(cmpNs a b).swap
  | [],[]=>rfl
  | [],_ :: _=>rfl
  | _ :: _,[]=>rfl
  | x :: xs,y :: ys=>by simp only [cmpNs,cmpN_swap x y,cmpNs_swap xs ys,then_swap]
end
theorem then_gt {a b:Ordering} (h:a.then b ≠ .gt):a ≠ .gt∧(a=.eq→b ≠ .gt):=by cases a <;> cases b <;> simp_all [Ordering.then]
mutual
theorem cmpN_then:∀ a b c:NestedKey,cmpN a b ≠ .gt→cmpN b c ≠ .gt→cmpN a c=(cmpN a b).then (cmpN b c)
  | .num i,.num j,.num k,h1,h2=>by simp only [cmpN] at *; exact cI_then h1 h2
  | .tup xs,.tup ys,.tup zs,h1,h2=>by simp only [cmpN] at *; exact cmpNs_then xs ys zs h1 h2
  | .none,b,c,h1,h2=>by cases b <;> cases c <;> simp [cmpN,kCls,cI] at *
  | .text _,b,c,h1,h2=>by cases b <;> cases c <;> simp [cmpN,kCls,cI] at *
  | .num _,.none,c,h1,h2=>by simp [cmpN,kCls,cI] at h1
  | .num _,.text _,c,h1,h2=>by simp [cmpN,kCls,cI] at h1
  | .num i,.num j,.none,h1,h2=>by simp [cmpN,kCls,cI] at h2
  | .num i,.num j,.text _,h1,h2=>by simp [cmpN,kCls,cI] at h2
  | .num i,.num j,.tup _,h1,h2=>by
    have e1:cmpN (.num i) (.tup ‹_›)=.lt:=by simp [cmpN,kCls,cI]
    have e2:cmpN (.num j) (.tup ‹_›)=.lt:=by simp [cmpN,kCls,cI]
    rw [e1,e2]
    cases h:cmpN (.num i) (.num j) with
    | lt=>rfl
    | eq=>rfl
    | gt=>exact absurd h h1
  | .num _,.tup _,.none,h1,h2=>by simp [cmpN,kCls,cI] at h2
  | .num _,.tup _,.text _,h1,h2=>by simp [cmpN,kCls,cI] at h2
  | .num _,.tup _,.num _,h1,h2=>by simp [cmpN,kCls,cI] at h2
  | .num i,.tup ys,.tup zs,h1,h2=>by
    have e1:cmpN (.num i) (.tup zs)=.lt:=by simp [cmpN,kCls,cI]
    have e2:cmpN (.num i) (.tup ys)=.lt:=by simp [cmpN,kCls,cI]
    rw [e1,e2]
    rfl
  | .tup _,.none,c,h1,h2=>by simp [cmpN,kCls,cI] at h1
  | .tup _,.text _,c,h1,h2=>by simp [cmpN,kCls,cI] at h1
  | .tup _,.num _,c,h1,h2=>by simp [cmpN,kCls,cI] at h1
  | .tup _,.tup _,.none,h1,h2=>by simp [cmpN,kCls,cI] at h2
  | .tup _,.tup _,.text _,h1,h2=>by simp [cmpN,kCls,cI] at h2
  | .tup _,.tup _,.num _,h1,h2=>by simp [cmpN,kCls,cI] at h2
theorem cmpNs_then:∀ a b c:List NestedKey,cmpNs a b ≠ .gt→cmpNs b c ≠ .gt→cmpNs a c=(cmpNs a b).then (cmpNs b c)
  | [],[],[],_,_=>rfl
  | [],[],_ :: _,_,_=>rfl
  | [],_ :: _,[],_,h=>by simp [cmpNs] at h
  | [],_ :: _,_ :: _,_,_=>rfl
  | _ :: _,[],_,h,_=>by simp [cmpNs] at h
  | _ :: _,_ :: _,[],_,h=>by simp [cmpNs] at h
  | x :: xs,y :: ys,z :: zs,h1,h2=>by
    simp only [cmpNs] at *
    obtain ⟨a1,a2⟩:=then_gt h1
    obtain ⟨b1,b2⟩:=then_gt h2
    have e:=cmpN_then x y z a1 b1
    rw [e]
    cases ex:cmpN x y with
    | gt=>exact absurd ex a1
    | lt=>rfl
    | eq =>
      cases ey:cmpN y z with
      | gt=>exact absurd ey b1
      | lt =>
        show Ordering.lt=Ordering.then (cmpNs xs ys) .lt
        cases h:cmpNs xs ys with
        | lt=>rfl
        | eq=>rfl
        | gt=>exact absurd h (a2 ex)
      | eq=>exact cmpNs_then xs ys zs (a2 ex) (b2 ey)
end
theorem ltN_false {a b:NestedKey}:ltN b a=false ↔ cmpN a b ≠ .gt:=by
  unfold ltN
  rw [decide_eq_false_iff_not,cmpN_swap a b]
  cases cmpN a b <;> simp [Ordering.swap]
theorem swoN:SrtO.Swo ltN:=by
  refine ⟨fun x y h=>?_,fun x y z h1 h2=>?_⟩
  · have h:=of_decide_eq_true h
    rw [ltN_false,h]
    simp
  · rw [ltN_false] at *
    rw [cmpN_then x y z h1 h2]
    cases e1:cmpN x y with
    | gt=>exact absurd e1 h1
    | lt=>simp [Ordering.then]
    | eq=>simpa [Ordering.then] using h2
theorem ltN_nn {i j:Int}:ltN (.num i) (.num j)=decide (i < j):=by
  unfold ltN
  simp only [cmpN,cI]
  by_cases h:i < j
  · simp [h]
  · by_cases h2:j < i <;> simp [h,h2]
theorem ltN_tt {xs ys:List NestedKey}:ltN (.tup xs) (.tup ys)=ltNs xs ys:=by
  unfold ltN ltNs
  rw [show cmpN (.tup xs) (.tup ys)=cmpNs xs ys by simp only [cmpN]]
mutual
def numK:NestedKey→Bool
  | .num _=>true
  | .tup ks=>numKs ks
  | _=>false
def numKs:List NestedKey→Bool
  | []=>true
  | k :: ks=>numK k && numKs ks
end
mutual
theorem cmpN_eq:∀ a b:NestedKey,numK a=true→numK b=true→cmpN a b=.eq→a=b
  | .num i,.num j,_,_,h=>by
    simp only [cmpN,cI] at h
    by_cases h1:i < j
    · simp [h1] at h
    · by_cases h2:j < i
      · simp [h1,h2] at h
      · congr 1
        omega
  | .tup xs,.tup ys,ha,hb,h=>by
    simp only [cmpN] at h
    rw [cmpNs_eq xs ys (by simpa [numK] using ha) (by simpa [numK] using hb) h]
  | .num _,.tup _,_,_,h=>by simp [cmpN,kCls,cI] at h
  | .tup _,.num _,_,_,h=>by simp [cmpN,kCls,cI] at h
  | .none,_,h,_,_=>by simp [numK] at h
  | .text _,_,h,_,_=>by simp [numK] at h
  | .num _,.none,_,h,_=>by simp [numK] at h
  | .num _,.text _,_,h,_=>by simp [numK] at h
  | .tup _,.none,_,h,_=>by simp [numK] at h
  | .tup _,.text _,_,h,_=>by simp [numK] at h
theorem cmpNs_eq:∀ a b:List NestedKey,numKs a=true→numKs b=true→cmpNs a b=.eq→a=b
  | [],[],_,_,_=>rfl
  | [],_ :: _,_,_,h=>by simp [cmpNs] at h
  | _ :: _,[],_,_,h=>by simp [cmpNs] at h
  | x :: xs,y :: ys,ha,hb,h=>by
    simp only [numKs,Bool.and_eq_true] at ha hb
    simp only [cmpNs] at h
    have hx:cmpN x y=.eq:=by cases e:cmpN x y <;> rw [e] at h <;> simp_all [Ordering.then]
    rw [hx] at h
    rw [cmpN_eq x y ha.1 hb.1 hx,cmpNs_eq xs ys ha.2 hb.2 h]
end
theorem ltN_self (a:NestedKey):ltN a a=false:=swoN.refl a
theorem cmpN_self (a:NestedKey):cmpN a a=.eq:=by
  have h1:=of_decide_eq_false (ltN_self a)
  have h2:=ltN_false.mp (ltN_self a)
  cases e:cmpN a a <;> simp_all
theorem ltNs_cons {x y:NestedKey} {xs ys:List NestedKey} (hx:numK x=true) (hy:numK y=true):ltNs (x :: xs) (y :: ys)=if x=y then ltNs xs ys else ltN x y:=by
  unfold ltNs ltN
  rw [show cmpNs (x :: xs) (y :: ys)=(cmpN x y).then (cmpNs xs ys) by simp only [cmpNs]]
  by_cases h:x=y
  · rw [if_pos h,h,cmpN_self]
    rfl
  · rw [if_neg h]
    have:cmpN x y ≠ .eq:=fun e=>h (cmpN_eq x y hx hy e)
    cases e:cmpN x y with
    | lt=>rfl
    | gt=>rfl
    | eq=>exact absurd e this
mutual
def keyD:D→NestedKey
  | .int i=>.num i
  | .tup xs=>.tup (keyDs xs)
  | _=>.none
def keyDs:List D→List NestedKey
  | []=>[]
  | x :: xs=>keyD x :: keyDs xs
end
mutual
def numD:D→Bool
  | .int _=>true
  | .tup xs=>numDs xs
  | _=>false
def numDs:List D→Bool
  | []=>true
  | x :: xs=>numD x && numDs xs
end
mutual
theorem numD_K:∀ {d:D},numD d=true→numK (keyD d)=true
  | .int _,_=>by simp [keyD,numK]
  | .tup xs,h=>by simp only [keyD,numK]; exact numDs_K (by simpa [numD] using h)
  | .non,h=>by simp [numD] at h
  | .bl _,h=>by simp [numD] at h
  | .str _,h=>by simp [numD] at h
  | .lst _,h=>by simp [numD] at h
  | .dct _,h=>by simp [numD] at h
  | .ins _ _,h=>by simp [numD] at h
  | .scr _,h=>by simp [numD] at h
  | .ftp _,h=>by simp [numD] at h
  | .cls _,h=>by simp [numD] at h
  | .kdc _,h=>by simp [numD] at h
  | .exi _ _ _,h=>by simp [numD] at h
  | .dkf _,h=>by simp [numD] at h
theorem numDs_K:∀ {ds:List D},numDs ds=true→numKs (keyDs ds)=true
  | [],_=>by simp [keyDs,numKs]
  | x :: xs,h=>by
    simp only [numDs,Bool.and_eq_true] at h
    simp only [keyDs,numKs,numD_K h.1,numDs_K h.2,Bool.and_self]
end
mutual
theorem keyD_inj:∀ {a b:D},numD a=true→numD b=true→keyD a=keyD b→a=b
  | .int i,.int j,_,_,h=>by simp only [keyD,NestedKey.num.injEq] at h; rw [h]
  | .tup xs,.tup ys,ha,hb,h=>by
    simp only [keyD,NestedKey.tup.injEq] at h
    rw [keyDs_inj (by simpa [numD] using ha) (by simpa [numD] using hb) h]
  | .int _,.tup _,_,_,h=>by simp [keyD] at h
  | .tup _,.int _,_,_,h=>by simp [keyD] at h
  | .non,_,h,_,_=>by simp [numD] at h
  | .bl _,_,h,_,_=>by simp [numD] at h
  | .str _,_,h,_,_=>by simp [numD] at h
  | .lst _,_,h,_,_=>by simp [numD] at h
  | .dct _,_,h,_,_=>by simp [numD] at h
  | .ins _ _,_,h,_,_=>by simp [numD] at h
  | .scr _,_,h,_,_=>by simp [numD] at h
  | .ftp _,_,h,_,_=>by simp [numD] at h
  | .cls _,_,h,_,_=>by simp [numD] at h
  | .kdc _,_,h,_,_=>by simp [numD] at h
  | .exi _ _ _,_,h,_,_=>by simp [numD] at h
  | .dkf _,_,h,_,_=>by simp [numD] at h
  | .int _,.non,_,h,_=>by simp [numD] at h
  | .int _,.bl _,_,h,_=>by simp [numD] at h
  | .int _,.str _,_,h,_=>by simp [numD] at h
  | .int _,.lst _,_,h,_=>by simp [numD] at h
  | .int _,.dct _,_,h,_=>by simp [numD] at h
  | .int _,.ins _ _,_,h,_=>by simp [numD] at h
  | .int _,.scr _,_,h,_=>by simp [numD] at h
  | .int _,.ftp _,_,h,_=>by simp [numD] at h
  | .int _,.cls _,_,h,_=>by simp [numD] at h
  | .int _,.kdc _,_,h,_=>by simp [numD] at h
  | .int _,.exi _ _ _,_,h,_=>by simp [numD] at h
  | .int _,.dkf _,_,h,_=>by simp [numD] at h
  | .tup _,.non,_,h,_=>by simp [numD] at h
  | .tup _,.bl _,_,h,_=>by simp [numD] at h
  | .tup _,.str _,_,h,_=>by simp [numD] at h
  | .tup _,.lst _,_,h,_=>by simp [numD] at h
  | .tup _,.dct _,_,h,_=>by simp [numD] at h
  | .tup _,.ins _ _,_,h,_=>by simp [numD] at h
  | .tup _,.scr _,_,h,_=>by simp [numD] at h
  | .tup _,.ftp _,_,h,_=>by simp [numD] at h
  | .tup _,.cls _,_,h,_=>by simp [numD] at h
  | .tup _,.kdc _,_,h,_=>by simp [numD] at h
  | .tup _,.exi _ _ _,_,h,_=>by simp [numD] at h
  | .tup _,.dkf _,_,h,_=>by simp [numD] at h
theorem keyDs_inj:∀ {a b:List D},numDs a=true→numDs b=true→keyDs a=keyDs b→a=b
  | [],[],_,_,_=>rfl
  | [],_ :: _,_,_,h=>by simp [keyDs] at h
  | _ :: _,[],_,_,h=>by simp [keyDs] at h
  | x :: xs,y :: ys,ha,hb,h=>by
    simp only [numDs,Bool.and_eq_true] at ha hb
    simp only [keyDs,List.cons.injEq] at h
    rw [keyD_inj ha.1 hb.1 h.1,keyDs_inj ha.2 hb.2 h.2]
end
mutual
theorem nest_reads {h:Heap}:∀ {d:D} {v:Value} {as:List Addr},numD d=true→Reads h v (toPy d) as→NestedIs h (keyD d) v
  | .int i,_,_,_,.int _ t=>by simp only [keyD]; exact .int _ t
  | .tup xs,_,_,hn,.tuple h1 h2 h3 h4=>by
    simp only [keyD]
    exact .tup h1 h2 h3 (nest_readsAll (by simpa [numD] using hn) h4)
  | .non,_,_,hn,_=>by simp [numD] at hn
  | .bl _,_,_,hn,_=>by simp [numD] at hn
  | .str _,_,_,hn,_=>by simp [numD] at hn
  | .lst _,_,_,hn,_=>by simp [numD] at hn
  | .dct _,_,_,hn,_=>by simp [numD] at hn
  | .ins _ _,_,_,hn,_=>by simp [numD] at hn
  | .scr _,_,_,hn,_=>by simp [numD] at hn
  | .ftp _,_,_,hn,_=>by simp [numD] at hn
  | .cls _,_,_,hn,_=>by simp [numD] at hn
  | .kdc _,_,_,hn,_=>by simp [numD] at hn
  | .exi _ _ _,_,_,hn,_=>by simp [numD] at hn
  | .dkf _,_,_,hn,_=>by simp [numD] at hn
theorem nest_readsAll {h:Heap}:∀ {ds:List D} {vs:List Value} {as:List Addr},numDs ds=true→ReadsAll h vs (toPys ds) as→NestedAll h (keyDs ds) vs
  | [],_,_,_,.nil=>by simp only [keyDs]; exact .nil
  | d :: ds,_,_,hn,.cons r rs=>by
    simp only [numDs,Bool.and_eq_true] at hn
    simp only [keyDs]
    exact .cons (nest_reads hn.1 r) (nest_readsAll hn.2 rs)
end
mutual
theorem eqv_key:∀ {a b:D},numD a=true→numD b=true→PyData.eqv (toPy a) (toPy b)=decide (keyD a=keyD b)
  | .int i,.int j,_,_=>by
    simp only [toPy,PyData.eqv,keyD,NestedKey.num.injEq]
    by_cases h:i=j <;> simp [h]
  | .tup xs,.tup ys,ha,hb=>by
    simp only [toPy,PyData.eqv,keyD,NestedKey.tup.injEq]
    exact eqvs_key (by simpa [numD] using ha) (by simpa [numD] using hb)
  | .int _,.tup _,_,_=>by simp [toPy,PyData.eqv,keyD]
  | .tup _,.int _,_,_=>by simp [toPy,PyData.eqv,keyD]
  | .non,_,h,_=>by simp [numD] at h
  | .bl _,_,h,_=>by simp [numD] at h
  | .str _,_,h,_=>by simp [numD] at h
  | .lst _,_,h,_=>by simp [numD] at h
  | .dct _,_,h,_=>by simp [numD] at h
  | .ins _ _,_,h,_=>by simp [numD] at h
  | .scr _,_,h,_=>by simp [numD] at h
  | .ftp _,_,h,_=>by simp [numD] at h
  | .cls _,_,h,_=>by simp [numD] at h
  | .kdc _,_,h,_=>by simp [numD] at h
  | .exi _ _ _,_,h,_=>by simp [numD] at h
  | .dkf _,_,h,_=>by simp [numD] at h
  | .int _,.non,_,h=>by simp [numD] at h
  | .int _,.bl _,_,h=>by simp [numD] at h
  | .int _,.str _,_,h=>by simp [numD] at h
  | .int _,.lst _,_,h=>by simp [numD] at h
  | .int _,.dct _,_,h=>by simp [numD] at h
  | .int _,.ins _ _,_,h=>by simp [numD] at h
  | .int _,.scr _,_,h=>by simp [numD] at h
  | .int _,.ftp _,_,h=>by simp [numD] at h
  | .int _,.cls _,_,h=>by simp [numD] at h
  | .int _,.kdc _,_,h=>by simp [numD] at h
  | .int _,.exi _ _ _,_,h=>by simp [numD] at h
  | .int _,.dkf _,_,h=>by simp [numD] at h
  | .tup _,.non,_,h=>by simp [numD] at h
  | .tup _,.bl _,_,h=>by simp [numD] at h
  | .tup _,.str _,_,h=>by simp [numD] at h
  | .tup _,.lst _,_,h=>by simp [numD] at h
  | .tup _,.dct _,_,h=>by simp [numD] at h
  | .tup _,.ins _ _,_,h=>by simp [numD] at h
  | .tup _,.scr _,_,h=>by simp [numD] at h
  | .tup _,.ftp _,_,h=>by simp [numD] at h
  | .tup _,.cls _,_,h=>by simp [numD] at h
  | .tup _,.kdc _,_,h=>by simp [numD] at h
  | .tup _,.exi _ _ _,_,h=>by simp [numD] at h
  | .tup _,.dkf _,_,h=>by simp [numD] at h
theorem eqvs_key:∀ {a b:List D},numDs a=true→numDs b=true→PyData.eqvAll (toPys a) (toPys b)=decide (keyDs a=keyDs b)
  | [],[],_,_=>by simp [toPys,PyData.eqvAll,keyDs]
  | [],_ :: _,_,_=>by simp [toPys,PyData.eqvAll,keyDs]
  | _ :: _,[],_,_=>by simp [toPys,PyData.eqvAll,keyDs]
  | x :: xs,y :: ys,ha,hb=>by
    simp only [numDs,Bool.and_eq_true] at ha hb
    simp only [toPys,PyData.eqvAll,keyDs,List.cons.injEq,eqv_key ha.1 hb.1,eqvs_key ha.2 hb.2]
    by_cases h1:keyD x=keyD y <;> by_cases h2:keyDs xs=keyDs ys <;> simp [h1,h2]
end
abbrev ltI:Int→Int→Bool:=fun a b=>decide (a < b)
abbrev ltL:Nat→Nat→Bool:=fun m n=>decide (m < n)
mutual
theorem rc_key:∀ {a b:D},numD a=true→numD b=true→cOk (toPy a) (toPy b)=true→rcP ltI ltL (toPy a) (toPy b)=ltN (keyD a) (keyD b)
  | .int i,.int j,_,_,_=>by simp [toPy,rcP,keyD,ltN_nn]
  | .tup xs,.tup ys,ha,hb,hc=>by
    simp only [toPy,rcP,keyD,ltN_tt]
    exact rcs_key (by simpa [numD] using ha) (by simpa [numD] using hb) (by simpa [toPy,cOk] using hc)
  | .int _,.tup _,_,_,hc=>by simp [toPy,cOk] at hc
  | .tup _,.int _,_,_,hc=>by simp [toPy,cOk] at hc
  | .non,_,h,_,_=>by simp [numD] at h
  | .bl _,_,h,_,_=>by simp [numD] at h
  | .str _,_,h,_,_=>by simp [numD] at h
  | .lst _,_,h,_,_=>by simp [numD] at h
  | .dct _,_,h,_,_=>by simp [numD] at h
  | .ins _ _,_,h,_,_=>by simp [numD] at h
  | .scr _,_,h,_,_=>by simp [numD] at h
  | .ftp _,_,h,_,_=>by simp [numD] at h
  | .cls _,_,h,_,_=>by simp [numD] at h
  | .kdc _,_,h,_,_=>by simp [numD] at h
  | .exi _ _ _,_,h,_,_=>by simp [numD] at h
  | .dkf _,_,h,_,_=>by simp [numD] at h
  | .int _,.non,_,h,_=>by simp [numD] at h
  | .int _,.bl _,_,h,_=>by simp [numD] at h
  | .int _,.str _,_,h,_=>by simp [numD] at h
  | .int _,.lst _,_,h,_=>by simp [numD] at h
  | .int _,.dct _,_,h,_=>by simp [numD] at h
  | .int _,.ins _ _,_,h,_=>by simp [numD] at h
  | .int _,.scr _,_,h,_=>by simp [numD] at h
  | .int _,.ftp _,_,h,_=>by simp [numD] at h
  | .int _,.cls _,_,h,_=>by simp [numD] at h
  | .int _,.kdc _,_,h,_=>by simp [numD] at h
  | .int _,.exi _ _ _,_,h,_=>by simp [numD] at h
  | .int _,.dkf _,_,h,_=>by simp [numD] at h
  | .tup _,.non,_,h,_=>by simp [numD] at h
  | .tup _,.bl _,_,h,_=>by simp [numD] at h
  | .tup _,.str _,_,h,_=>by simp [numD] at h
  | .tup _,.lst _,_,h,_=>by simp [numD] at h
  | .tup _,.dct _,_,h,_=>by simp [numD] at h
  | .tup _,.ins _ _,_,h,_=>by simp [numD] at h
  | .tup _,.scr _,_,h,_=>by simp [numD] at h
  | .tup _,.ftp _,_,h,_=>by simp [numD] at h
  | .tup _,.cls _,_,h,_=>by simp [numD] at h
  | .tup _,.kdc _,_,h,_=>by simp [numD] at h
  | .tup _,.exi _ _ _,_,h,_=>by simp [numD] at h
  | .tup _,.dkf _,_,h,_=>by simp [numD] at h
theorem rcs_key:∀ {a b:List D},numDs a=true→numDs b=true→cOks (toPys a) (toPys b)=true→rcPs ltI ltL (toPys a) (toPys b)=ltNs (keyDs a) (keyDs b)
  | [],[],_,_,_=>rfl
  | [],y :: ys,_,_,_=>by simp [toPys,rcPs,keyDs,ltNs,cmpNs]
  | _ :: _,[],_,_,_=>by simp [toPys,rcPs,keyDs,ltNs,cmpNs]
  | x :: xs,y :: ys,ha,hb,hc=>by
    simp only [numDs,Bool.and_eq_true] at ha hb
    simp only [toPys,cOks,Bool.and_eq_true] at hc
    simp only [toPys,rcPs,keyDs,eqv_key ha.1 hb.1]
    rw [rcs_key ha.2 hb.2 hc.2,ltNs_cons (numD_K ha.1) (numD_K hb.1)]
    by_cases h1:keyD x=keyD y
    · rw [if_pos (decide_eq_true h1),if_pos h1]
    · have hk:cOk (toPy x) (toPy y)=true:=by
        have:=hc.1
        rw [eqv_key ha.1 hb.1,decide_eq_false h1,Bool.false_or] at this
        exact this
      rw [if_neg (by simp [h1]),if_neg h1,rc_key ha.1 hb.1 hk]
end
end Ev
namespace Ev
open PySem PySem.Spec PyProof.Rows L2
structure NK (h:Heap) (k:NestedKey) (a:Addr):Prop where
  nest:NestedIs h k (.ref a)
  deep:k.depth≤8
  nums:numK k=true
theorem NK.same {h:Heap} {j k:NestedKey} {a:Addr} (x:NK h j a) (y:NK h k a):j=k:=NestedIs.inj _ _ _ x.nest y.nest
theorem NK.stay {h h':Heap} {k:NestedKey} {a:Addr} (x:NK h k a) (keep:∀ b o,h.get? b=some o→h'.get? b=some o):NK h' k a :=
  ⟨NestedIs.at (fun b o _ _ e _=>keep b o e) k _ x.nest,x.deep,x.nums⟩
theorem NK.but {h h':Heap} {k:NestedKey} {a b:Addr} (x:NK h k a) {o:Obj} {es:Array (Int×Value)} {ep:Nat} {t:SetTable} (at':h.get? b=some o) (dat:o.data=.set es ep t) (sm:Heap.SameBut b h h'):NK h' k a:=by
  refine ⟨NestedIs.at (fun c oc vs n hc hd=>?_) k _ x.nest,x.deep,x.nums⟩
  rw [sm.2 c ?_]
  · exact hc
  · rintro rfl
    rw [at'] at hc
    cases hc
    rw [dat] at hd
    cases hd
section
variable {P:Program} {w:World}
def Answ (P:Program) (w:World) (f:Value→Sem Bool) (b:Bool) (s:Shared) (v:Value):Prop :=
  ∀ (A:Around) (E:Value→Shared→Prop) (Q:Bool→Shared→Prop),Q b s→wpAny (model P w) A (f v) Q E s
mutual
theorem no_class:∀ (k:NestedKey) (v:Value) (n:Nat) (s:Shared),NestedIs s.heap k v→k.depth≤n→Answ P w (ofAClassStatement n) false s v
  | .none,_,n,s,x,_=>by cases x; intro A E Q q; cases n <;> exact wpAny_pure q
  | .num i,_,n,s,x,_=>by cases x <;> (intro A E Q q; cases n <;> exact wpAny_pure q)
  | .text y,_,n,s,x,_=>by cases x; intro A E Q q; cases n <;> exact wpAny_pure q
  | .tup ks,_,0,s,x,hn=>by simp [NestedKey.depth] at hn
  | .tup ks,_,n + 1,s,x,hn=>by
    cases x with
    | @tup a o vs m _ hg hc hd hk =>
      simp only [NestedKey.depth] at hn
      have each:=no_classes ks _ n s hk (by omega)
      intro A E Q q
      unfold ofAClassStatement
      have ty:s.TypeIs (.ref a) "tuple":=⟨o,hg,hc⟩
      refine wpAny_bind (wpAny_typeOf ty ?_)
      have tt:(("tuple":String) == "tuple")=true:=by decide
      simp only [tt,if_true]
      refine wpAny_bind (wpAny_pure ?_)
      simp only [Bool.not_true,Bool.false_eq_true,if_false]
      refine wpAny_bind (wpAny_seqItems hg hd (wpAny_bind ?_))
      show wpAny _ A (forIn vs _ _) _ E s
      rw [← Array.forIn_toList]
      refine wpAny_forIn_list _ (fun left st sx=>sx=s∧st.1=none∧∀ u∈left,Answ P w (ofAClassStatement n) false s u) _ ?_ ?_ _ _ ⟨rfl,rfl,each⟩
      · rintro u left st sx ⟨rfl,_,all⟩
        refine wpAny_bind (all u List.mem_cons_self _ _ _ ?_)
        simp only [Bool.false_eq_true,if_false]
        exact wpAny_pure ⟨rfl,rfl,fun y hy=>all y (List.mem_cons_of_mem _ hy)⟩
      · rintro ⟨b1,b2⟩ sx ⟨rfl,e,_⟩
        cases (show b1=none from e)
        exact wpAny_pure q
theorem no_classes:∀ (ks:List NestedKey) (vs:List Value) (n:Nat) (s:Shared),NestedAll s.heap ks vs→NestedKey.depthAll ks≤n→∀ v∈vs,Answ P w (ofAClassStatement n) false s v
  | [],_,n,s,x,_,v,hv=>by cases x; cases hv
  | k :: ks,_,n,s,x,hn,v,hv=>by
    cases x with
    | cons x1 x2 =>
      simp only [NestedKey.depthAll] at hn
      cases hv with
      | head=>exact no_class k _ n s x1 (by omega)
      | tail _ hv=>exact no_classes ks _ n s x2 (by omega) v hv
end
mutual
theorem by_value:∀ (k:NestedKey) (v:Value) (n:Nat) (s:Shared),numK k=true→NestedIs s.heap k v→k.depth≤n→Answ P w (hashByValue n) true s v
  | .none,_,n,s,g,x,_=>by simp [numK] at g
  | .num i,_,n,s,_,x,_=>by cases x <;> (intro A E Q q; cases n <;> exact wpAny_pure q)
  | .text y,_,n,s,g,x,_=>by simp [numK] at g
  | .tup ks,_,0,s,_,x,hn=>by simp [NestedKey.depth] at hn
  | .tup ks,_,n + 1,s,g,x,hn=>by
    cases x with
    | @tup a o vs m _ hg hc hd hk =>
      simp only [NestedKey.depth] at hn
      have each:=by_values ks _ n s (by simpa [numK] using g) hk (by omega)
      intro A E Q q
      unfold hashByValue
      have ty:s.TypeIs (.ref a) "tuple":=⟨o,hg,hc⟩
      refine wpAny_bind (wpAny_specialOf ty F.slot_tuple_hash.lookup ?_)
      refine wpAny_bind (m:=seqItems? (.ref a)) (wpAny_seqItems hg hd (wpAny_bind ?_))
      show wpAny _ A (forIn vs _ _) _ E s
      rw [← Array.forIn_toList]
      refine wpAny_forIn_list _ (fun left st sx=>sx=s∧st.1=none∧∀ u∈left,Answ P w (hashByValue n) true s u) _ ?_ ?_ _ _ ⟨rfl,rfl,each⟩
      · rintro u left st sx ⟨rfl,_,all⟩
        refine wpAny_bind (all u List.mem_cons_self _ _ _ ?_)
        simp only [Bool.not_true,Bool.false_eq_true,if_false]
        exact wpAny_pure ⟨rfl,rfl,fun y hy=>all y (List.mem_cons_of_mem _ hy)⟩
      · rintro ⟨b1,b2⟩ sx ⟨rfl,e,_⟩
        cases (show b1=none from e)
        exact wpAny_pure q
theorem by_values:∀ (ks:List NestedKey) (vs:List Value) (n:Nat) (s:Shared),numKs ks=true→NestedAll s.heap ks vs→NestedKey.depthAll ks≤n→∀ v∈vs,Answ P w (hashByValue n) true s v
  | [],_,n,s,_,x,_,v,hv=>by cases x; cases hv
  | k :: ks,_,n,s,g,x,hn,v,hv=>by
    cases x with
    | cons x1 x2 =>
      simp only [NestedKey.depthAll] at hn
      simp only [numKs,Bool.and_eq_true] at g
      cases hv with
      | head=>exact by_value k _ n s g.1 x1 (by omega)
      | tail _ hv=>exact by_values ks _ n s g.2 x2 (by omega) v hv
end
variable {A:Around} {E:Value→Shared→Prop} {s:Shared}
end
abbrev Rows:=List (Addr×NestedKey)
def rowsN (w:World) (L:Rows):List (Int×Value):=L.map fun e=>(e.2.hash w,.ref e.1)
structure SetN (w:World) (h:Heap) (a:Addr) (L:Rows) (es:Array (Int×Value)) (ep:Nat) (t:SetTable):Prop where
  obj:∃ o,h.get? a=some o∧o.ExactSet∧o.data=.set es ep t
  rows:es.toList=rowsN w L
  tab:TabOk t (L.map fun e=>e.2.hash w)
  once:(L.map Prod.snd).Nodup
  keys:∀ e∈L,NK h e.2 e.1
  flat:t.plain=true
  ord:w.params.followText "set-order" = true∨t.led=true
  room:5 * L.length < 3 * t.mask
  few:L.length < 64
theorem rowsN_len {w:World} {L:Rows} {es:Array (Int×Value)} (h:es.toList=rowsN w L):es.size=L.length:=by
  simpa [rowsN] using congrArg List.length h
theorem rowsN_at {w:World} {L:Rows} {es:Array (Int×Value)} (h:es.toList=rowsN w L) {i:Nat} {e:Addr×NestedKey} (hi:L[i]? = some e):es[i]? = some (e.2.hash w,Value.ref e.1):=by
  rw [← Array.getElem?_toList,h,rowsN,List.getElem?_map,hi]
  rfl
section
variable {P:Program} {w:World} {A:Around} {E:Value→Shared→Prop} {s:Shared} {a:Addr} {L:Rows} {es:Array (Int×Value)} {ep:Nat} {t:SetTable}
theorem fits_of {n:Nat} (h1:t.place.size=n) (h2:t.dummies = #[]) (h3:n≤t.mask):t.fits n=true:=by
  simp [SetTable.fits,SetTable.fill,h1,h2,h3]
theorem SetN.fits (R:SetN w s.heap a L es ep t):t.fits es.size=true:=by
  have e1:=R.tab.sz
  have e2:=R.room
  have e3:=rowsN_len R.rows
  simp only [List.length_map] at e1
  exact fits_of (by omega) R.tab.dm (by omega)
end
end Ev
namespace Ev
open PySem PySem.Spec PyProof.Rows L2
theorem rowsN_order {w:World} {L:Rows} {es:Array (Int×Value)} (h:es.toList=rowsN w L):∀ is:List Nat,(∀ i∈is,i < L.length) →
    is.filterMap (fun i=>es[i]?)=rowsN w (is.filterMap fun i=>L[i]?)∧(is.filterMap fun i=>L[i]?).map (fun e=>e.2.hash w)=is.map fun i=>(es.map (·.1)).getD i 0
  | [],_=>⟨rfl,rfl⟩
  | i :: is,hi=>by
    obtain ⟨e1,e2⟩:=rowsN_order h is fun j hj=>hi j (List.mem_cons_of_mem _ hj)
    obtain ⟨e,he⟩:∃ e,L[i]? = some e:=⟨_,List.getElem?_eq_getElem (hi i List.mem_cons_self)⟩
    have r:=rowsN_at h he
    rw [List.filterMap_cons_some r,List.filterMap_cons_some he,e1]
    refine ⟨rfl,?_⟩
    rw [List.map_cons,List.map_cons,e2]
    congr 1
    simp [Array.getD_eq_getD_getElem?,Array.getElem?_map,r]
theorem pick_all {α:Type} (l:List α):(List.range l.length).filterMap (fun i=>l[i]?)=l:=by
  induction l with
  | nil=>rfl
  | cons x l ih =>
    rw [List.length_cons,List.range_succ_eq_map,List.filterMap_cons_some (by rfl),List.filterMap_map]
    refine congrArg (x :: ·) (Eq.trans ?_ ih)
    rfl
section
variable {P:Program} {w:World} {A:Around} {E:Value→Shared→Prop} {s:Shared} {a:Addr} {L:Rows} {es:Array (Int×Value)} {ep:Nat} {t:SetTable}
theorem laid {o:Obj} (g1:s.heap.get? a=some o) (g2:o.ExactSet) (g3:o.data=.set es ep t) (rows:es.toList=rowsN w L) (psz:t.place.size=es.size) (nod:t.dummies = #[]) (small:es.size≤t.mask)
    (once:(L.map Prod.snd).Nodup) (keys:∀ e∈L,NK s.heap e.2 e.1) (flat:t.plain=true) (ord:w.params.followText "set-order" = true∨t.led=true) (few:L.length < 64) {want M:Nat}
    (m1:SetTable.sizeAbove want - 1=M) (m2:MaskOk M) (m3:SetTable.sizeAbove want≤128) (m4:5 * L.length < 3 * M) {Q:Unit→Shared→Prop}
    (q:∀ h' L' es' ep' t',Heap.SameBut a s.heap h'→SetN w h' a L' es' ep' t'→L'.Perm L→Q () { s with heap:=h' }):wpAny (model P w) A (setRelay a want) Q E s:=by
  have len:=rowsN_len rows
  obtain ⟨t',os,e1,e2,e3,e4,e5,e6,_⟩:=relaid_ok t (hs:=es.map (·.1)) m1 m2 (by simp only [Array.size_map]; omega)
  simp only [Array.size_map,len] at e2
  obtain ⟨r1,r2⟩:=rowsN_order rows os.toList fun i hi=>List.mem_range.mp (e2.mem_iff.mp hi)
  have pm:(os.toList.filterMap fun i=>L[i]?).Perm L:=by
    have:=e2.filterMap fun i=>L[i]?
    rwa [pick_all] at this
  rw [← r2] at e3
  generalize (os.toList.filterMap fun i=>L[i]?)=L' at r1 e3 pm
  have r1':(os.filterMap (es[·]?)).toList=rowsN w L':=by
    rw [Array.toList_filterMap]
    exact r1
  have sz:(os.filterMap (es[·]?)).size=es.size:=by
    rw [rowsN_len r1',pm.length_eq,len]
  rw [setRelay_eq]
  refine wpAny_bind (wpAny_setState_of g1 g3 (fits_of psz nod small) ?_)
  dsimp only
  refine wp_if_neg (by rw [sizeLine_eq]; omega) ?_
  try refine wpAny_bind (wpAny_pure ?_)
  rw [e1]
  refine wpAny_bind (wp_if_neg (by simp [sz]) ?_)
  try refine wpAny_bind (wpAny_pure ?_)
  refine wpAny_pure (wpAny_storeSet_of g1 g3 ?_ (by rw [sz,len,sizeLine_eq]; omega))
  have sm:Heap.SameBut a s.heap (s.heap.update a (Obj.putSet (os.filterMap (es[·]?)) t')):=Heap.SameBut.update ..
  exact q _ L' _ (ep + 1) t' sm { obj:=⟨_,store_at g1 g3,⟨g2.1,g2.2.1,g2.2.2⟩,rfl⟩,rows:=r1',tab:=e3,once:=(pm.map Prod.snd).nodup_iff.mpr once,keys:=fun e he=>(keys e (pm.mem_iff.mp he)).but g1 g3 sm,flat:=e6.trans flat,ord:=e5 ▸ ord,room:=by rw [pm.length_eq,e4]; exact m4,few:=by rw [pm.length_eq]; exact few } pm
end
end Ev
set_option maxHeartbeats 3200000
namespace Ev
open PySem PySem.Spec PyProof.Rows L2
structure Met (ks:Rows) (i:Nat) (L:Rows):Prop where
  sub:∀ e∈L,e∈ks.take i
  all:∀ e∈ks.take i,e.2∈L.map Prod.snd
  len:L.length≤i
theorem Met.none (ks:Rows):Met ks 0 []:=⟨fun _ h=>by simp at h,fun _ h=>by simp at h,Nat.le_refl _⟩
theorem take_one {α:Type} {l:List α} {i:Nat} {x:α} (h:l[i]? = some x):l.take (i + 1)=l.take i ++ [x]:=by simp [List.take_succ,h]
theorem Met.old {ks L:Rows} {i:Nat} {x:Addr×NestedKey} (m:Met ks i L) (h:ks[i]? = some x) (hx:x.2∈L.map Prod.snd):Met ks (i + 1) L:=by
  constructor
  · intro e he
    rw [take_one h]
    exact List.mem_append.mpr (.inl (m.sub e he))
  · intro e he
    rw [take_one h] at he
    rcases List.mem_append.mp he with z | z
    · exact m.all e z
    · cases List.mem_singleton.mp z
      exact hx
  · have:=m.len
    omega
theorem Met.new {ks L L':Rows} {i:Nat} {x:Addr×NestedKey} (m:Met ks i L) (h:ks[i]? = some x) (pm:L'.Perm (x :: L)):Met ks (i + 1) L':=by
  constructor
  · intro e he
    rw [take_one h]
    cases pm.mem_iff.mp he with
    | head=>exact List.mem_append.mpr (.inr (List.mem_singleton.mpr rfl))
    | tail _ z=>exact List.mem_append.mpr (.inl (m.sub e z))
  · intro e he
    rw [take_one h] at he
    refine (pm.map Prod.snd).mem_iff.mpr ?_
    rcases List.mem_append.mp he with z | z
    · exact List.mem_cons_of_mem _ (m.all e z)
    · cases List.mem_singleton.mp z
      exact List.mem_cons_self
  · have:=m.len
    rw [pm.length_eq,List.length_cons]
    omega
section
variable {P:Program} {w:World} {A:Around} {E:Value→Shared→Prop} {s:Shared}
end
end Ev
set_option maxHeartbeats 1000000
namespace Ev
open PySem PySem.Spec PyProof.Rows L2
def headD:D→Option Bool
  | .tup (.int _ :: _)=>some true
  | .tup (.tup _ :: _)=>some false
  | _=>none
structure Ordb (ds:List D):Prop where
  num:∀ d∈ds,numD d=true
  head:∃ b,∀ d∈ds,headD d=some b
  cmp:∀ x∈ds,∀ y∈ds,cOk (toPy x) (toPy y)=true
  shp:∀ d∈ds,SeqAt.shaped (toPy d)=true
mutual
theorem reads_stay {h h':Heap} (keep:∀ b o,h.get? b=some o→o.cls=.type "tuple" → h'.get? b=some o):∀ {d:D} {v:Value} {as:List Addr},numD d=true→Reads h v (toPy d) as→Reads h' v (toPy d) as
  | .int i,_,_,_,.int _ t=>.int _ t
  | .tup xs,_,_,hn,.tuple h1 h2 h3 h4=>.tuple (keep _ _ h1 h2) h2 h3 (readsAll_stay keep (by simpa [numD] using hn) h4)
  | .non,_,_,hn,_=>by simp [numD] at hn
  | .bl _,_,_,hn,_=>by simp [numD] at hn
  | .str _,_,_,hn,_=>by simp [numD] at hn
  | .lst _,_,_,hn,_=>by simp [numD] at hn
  | .dct _,_,_,hn,_=>by simp [numD] at hn
  | .ins _ _,_,_,hn,_=>by simp [numD] at hn
  | .scr _,_,_,hn,_=>by simp [numD] at hn
  | .ftp _,_,_,hn,_=>by simp [numD] at hn
  | .cls _,_,_,hn,_=>by simp [numD] at hn
  | .kdc _,_,_,hn,_=>by simp [numD] at hn
  | .exi _ _ _,_,_,hn,_=>by simp [numD] at hn
  | .dkf _,_,_,hn,_=>by simp [numD] at hn
theorem readsAll_stay {h h':Heap} (keep:∀ b o,h.get? b=some o→o.cls=.type "tuple" → h'.get? b=some o):∀ {ds:List D} {vs:List Value} {as:List Addr},numDs ds=true→ReadsAll h vs (toPys ds) as→ReadsAll h' vs (toPys ds) as
  | [],_,_,_,.nil=>.nil
  | d :: ds,_,_,hn,.cons r rs=>by
    simp only [numDs,Bool.and_eq_true] at hn
    exact .cons (reads_stay keep hn.1 r) (readsAll_stay keep hn.2 rs)
end
section
variable {P:Program} {w:World} {A:Around} {E:Value→Shared→Prop} {s:Shared}
def Holds (key:Value→NestedKey) (h:Heap) (ds:List D) (v:Value):Prop:=∃ d∈ds,∃ as,Reads h v (toPy d) as∧key v=keyD d
end
end Ev
namespace Ev
open PySem PySem.Spec PyProof.Rows L2
section
variable {P:Program} {w:World} {A:Around} {E:Value→Shared→Prop} {s:Shared}
end
end Ev
namespace Ev
open PySem PySem.Spec PyProof.Rows L2
def SetN0 (w:World) (a:Addr) (L:Rows) (h:Heap):Prop:=∃ (es:Array (Int×Value)) (ep:Nat) (t:SetTable),(∃ o,h.get? a=some o∧o.ExactSet∧o.data=.set es ep t)∧es.toList=rowsN w L ∧
  TabOk t (L.map fun e=>e.2.hash w)∧(L.map Prod.snd).Nodup∧t.plain=true∧(w.params.followText "set-order" = true∨t.led=true)∧5 * L.length < 3 * t.mask∧L.length < 64
theorem SetN.bare {w:World} {h:Heap} {a:Addr} {L:Rows} {es:Array (Int×Value)} {ep:Nat} {t:SetTable} (R:SetN w h a L es ep t):SetN0 w a L h :=
  ⟨es,ep,t,R.obj,R.rows,R.tab,R.once,R.flat,R.ord,R.room,R.few⟩
section
variable {X:Cx}
end
mutual
theorem num_flat:∀ {d:D},numD d=true→flatD d=true
  | .int _,_=>by simp [flatD]
  | .tup xs,h=>by simp only [flatD]; exact nums_flat (by simpa [numD] using h)
  | .non,h=>by simp [numD] at h
  | .bl _,h=>by simp [numD] at h
  | .str _,h=>by simp [numD] at h
  | .lst _,h=>by simp [numD] at h
  | .dct _,h=>by simp [numD] at h
  | .ins _ _,h=>by simp [numD] at h
  | .scr _,h=>by simp [numD] at h
  | .ftp _,h=>by simp [numD] at h
  | .cls _,h=>by simp [numD] at h
  | .kdc _,h=>by simp [numD] at h
  | .exi _ _ _,h=>by simp [numD] at h
  | .dkf _,h=>by simp [numD] at h
theorem nums_flat:∀ {ds:List D},numDs ds=true→flatDs ds=true
  | [],_=>by simp [flatDs]
  | d :: ds,h=>by
    simp only [numDs,Bool.and_eq_true] at h
    simp only [flatDs,num_flat h.1,nums_flat h.2,Bool.and_self]
end
section
variable {X:Cx} {F:Fx} {Wsh:WX} {e:Expr} {f:FE}
end
end Ev
namespace Ev
open PySem PySem.Spec L2
structure MDefK (K:PySem.W.Frag) (C:Addr) (x qual:Str) (st:Stmt) (kws:List (Str×V)) (f:Addr) (fd:FuncData):Prop where
  fk:FunD K x qual (defArgs st) (defBody st) (defScope st) [] kws f fd
  me:Meth K C x f
theorem MDefK.fn {K:PySem.W.Frag} {C:Addr} {x qual:Str} {st:Stmt} {kws:List (Str×V)} {f:Addr} {fd:FuncData} (M:MDefK K C x qual st kws f fd):FunD K x qual (defArgs st) (defBody st) (defScope st) [] [] f fd:=by
  obtain ⟨oc,od,dV,kV,doc,pm,an,cdv,ct,osl,e,lk,hcd,hD,_⟩:=M.fk.ex
  exact ⟨⟨oc,od,dV,kV,doc,pm,an,cdv,ct,osl,e,lk,hcd,hD,.inl rfl⟩,M.fk.kp⟩
end Ev
namespace Ev
open PySem PySem.Spec L2
section
variable {X:Cx} {F:Fx} {Wsh:WX} {o e:Expr} {f g:FE} {fa:FA} {pos apos:Pos}
end
end Ev
namespace Ev
open PySem PySem.Spec L2
section
variable {X:Cx} {F:Fx} {Wsh:WX}
end
end Ev
namespace Ev
open PySem PySem.Spec L2
section
variable {prog:Program} {w:World} {A:Around} {E:Value→Shared→Prop} {s:Shared} {z TI TO i1 i2:Addr} {fp1 fp2:List Addr} {n1 n2 i:Nat} {P1 P2:Nat→Value→Prop} {St1 St2:Nat→Heap→Prop} {a1 a2 f0:Value} {f1:Bool}
end
section
variable {X:Cx} {F:Fx} {Wsh:WX} {e e2:Expr} {f g:FE} {pos p tpos:Pos} {x:Str} {k1 k2:Bool}
end
end Ev
namespace Ev
open PySem PySem.Spec L2
open PyProof.Rows (envOfC)
section
variable {X:Cx} {F:Fx} {Wsh:WX}
end
end Ev
namespace Ev
open PySem PySem.Spec PyProof.Rows L2
section
variable {X:Cx}
end
section
variable {X:Cx} {F:Fx} {Wsh:WX} {e:Expr} {f:FE}
end
end Ev
namespace Ev
open PySem PySem.Spec L2 PyProof.Rows
section
variable {X:Cx} {F:Fx} {Wsh:WX} {es:List Expr} {e:Expr} {f:FE} {fa fk:FA} {pos p kpos:Pos} {c:Nat} {nm:Option Str} {kws:List Keyword}
end
end Ev
namespace Ev
open PySem PySem.Spec L2
section
variable {X:Cx} {F:Fx} {Wsh:WX}
end
section
variable {prog:Program} {w:World} {A:Around} {E:Value→Shared→Prop} {s:Shared} {K:PySem.W.Frag} {x C L f:Addr} {h₀:Heap} {mm:Str→Option Value} {ox:Obj} {od:Option Obj} {b tb:Value}
end
structure NeM (K:PySem.W.Frag) (C:Addr):Prop where
  ne:PySem.W.findIn K (.ref C) "__ne__" = some (some (.builtin "object.__ne__"))
  ob:PySem.W.mroIn K C (.type "object")=some true
section
variable {X:Cx} {F:Fx} {Wsh:WX}
end
end Ev
namespace Ev
open PySem PySem.Spec L2 ClX StX
open PyProof.Rows (envOfC)
structure MDefS (K:PySem.W.Frag) (C:Addr) (m qual:Str) (st:Stmt) (ps:List Str) (pv:Str) (f:Addr) (fd:FuncData):Prop where
  fn:Fun K m qual st f fd
  me:Meth K C m f
  b:∀ us rest:List Value,us.length=ps.length→bindArgs fd ⟨us ++ rest,[]⟩=(newTuple rest >>= fun t=>pure (ps.zip us ++ [(pv,t)]))
section
variable {F:Fx}
variable {X:Cx} {Wsh:WX} {o e:Expr} {es:List Expr} {fo:FE} {fa:FA} {pos apos:Pos} {c:Nat} {m:Str}
end
end Ev
namespace Ev
open PySem PySem.Spec PyProof.Rows L2
section
variable {P:Program} {w:World} {A:Around} {E:Value→Shared→Prop} {s:Shared}
end
section
variable {X:Cx}
variable {F:Fx} {Wsh:WX} {e:Expr} {f:FE}
end
end Ev
namespace Ev
open PySem PySem.Spec L2 PyProof.Rows
structure Start (K:PySem.W.Frag) (H:Hp) (a t:Addr) (ns:List Int):Prop where
  tab:H t=some (.tbl #[])
  one:∀ b ps,H b=some (.tbl ps)→b=t
  scr:(∃ o,H a=some (.frz o (.lst (ns.map V.int))))∨∃ (o:Obj) (its:Array Value) (n:Nat),K.lookup a=some o∧o.cls=.type "list" ∧ o.dict=none∧o.data=.seq its n∧its.size≤sizeLine∧Vals (ns.map V.int) its.toList
end Ev
namespace Ev
open PySem PySem.Spec L2 PyProof.Rows
section
variable {P:Program} {K:PySem.W.Frag} {mg:Str→Option Value} {h:Heap}
end
end Ev
namespace Ev
open PySem PySem.Spec L2 PyProof.Rows
structure Start0 (K:PySem.W.Frag) (H:Hp) (a:Addr) (ns:List Int):Prop where
  none:∀ b ps,H b ≠ some (.tbl ps)
  scr:(∃ o,H a=some (.frz o (.lst (ns.map V.int))))∨∃ (o:Obj) (its:Array Value) (n:Nat),K.lookup a=some o∧o.cls=.type "list" ∧ o.dict=.none∧o.data=.seq its n∧its.size≤sizeLine∧Vals (ns.map V.int) its.toList
theorem start0_rel {F:Fx} {H:Hp} {a:Addr} {ns:List Int} (hT:F.T=[]) (s:Start0 F.K H a ns):RelS F H [] [] []∧RD F H [] [] (.scr ns) (.ref a):=by
  refine ⟨⟨by simp [flat],rfl,fun i p o h1=>by simp at h1,⟨fun p hp=>?_,fun b ps e=>absurd e (s.none b ps)⟩,fun b hb=>by simp at hb,fun b hb=>by simp at hb⟩,?_⟩
  · rw [hT] at hp
    cases hp
  · rcases s.scr with ⟨o,e⟩ | ⟨o,its,n,h1,h2,h3,h4,h5,h6⟩
    · exact .scr (by simp [flat]) e (.inr ⟨o,rfl⟩)
    · exact .scrK h1 h2 h3 h4 h5 h6
theorem law_call0 {P:Program} {w:World} {K:PySem.W.Frag} {mg mb:Str→Option Value} {k:Nat} {fa a:Addr} {fd:FuncData} {x:Str} {sp:Sp} {s1:Shared} {vs:List Value} {ns:List Int}
    (kin:K.In s1.heap) (glo:s1.heap.Ns mainGlobals mg) (blt:s1.heap.Ns builtinsNs mb) (boot:∀ x:Str,x ≠ "__name__" → mb x=bootBuiltins x) (lim:s1.heap.NoLimit) (gens:s1.gens = #[])
    (scr:s1.heap.get? a=some { cls:=.type "list",data:=.seq vs.toArray }) (hi:IntsAre vs ns) (hl:ns.length≤sizeLine) (hr:Room k callerA)
    (sys:∃ mm,s1.heap.Ns sysModules mm) (G:∀ base:Heap,K.In base→base.Ns mainGlobals mg→(∃ o,base.get? sysModules=some o)→FnG true P w K mg base k fa fd [x] sp) (bind:∀ (s:Shared) (u:Value),BindsTo s fd ⟨[u],[]⟩ [(x,u)])
    (told:∀ H:Hp,Start0 K H a ns→sp [.ref a] H (fun v _=>v=.bl true) fun _ _ _=>False) :
    codeAny (model P w) callerA (.call (.ref fa) ⟨[.ref a],[]⟩) (fun r s'=>r=.ok (.ret (.bool true))∧OldK s1.heap s'.heap∧s'.os=s1.os∧AllBare s'.gens) s1:=by
  have rv:=vals_ints hi
  have lenV:=hi.length
  have core:∀ H:Hp,Start0 K H a ns→(∀ b,H b=.none∨∃ o xs,H b=some (.frz o (.lst xs)))→HOk P w H s1.heap→(∀ b,H b ≠ .none→b=a)→(H a ≠ .none→K.lookup a=.none) →
      codeAny (model P w) callerA (.call (.ref fa) ⟨[.ref a],[]⟩) (fun r s'=>r=.ok (.ret (.bool true))∧OldK s1.heap s'.heap∧s'.os=s1.os∧AllBare s'.gens) s1:=by
    intro H st kinds ok few noK
    have left:∀ {b:Addr} {o:Obj},s1.heap.get? b=some o→(∀ us n,o.data ≠ .seq us n)→H b=.none:=by
      intro b o e h1
      cases q:H b with
      | none=>rfl
      | some u =>
        have z:=few b (by rw [q]; simp)
        rw [z,scr] at e; cases e; exact (h1 _ _ rfl).elim
    have names:∀ {b:Addr} {m:Str→Option Value},s1.heap.Ns b m→(hidT s1.heap H).Ns b m:=by
      rintro b m ⟨o,es,ep,e,d,r⟩
      exact ⟨o,es,ep,hidT_get e (left e (fun _ _ z=>by rw [d] at z; cases z)),d,r⟩
    have kin':K.In (hidT s1.heap H):=by
      intro b o e
      refine hidT_get (kin b o e) ?_
      cases q:H b with
      | none=>rfl
      | some u =>
        have z:=few b (by rw [q]; simp)
        rw [z] at e q; rw [noK (by rw [q]; simp)] at e; cases e
    have lim':(hidT s1.heap H).NoLimit:=by
      obtain ⟨mc,h1,h2⟩:=lim
      exact ⟨mc,names h1,h2⟩
    have e0:Env0 P w K mg (hidT s1.heap H) callerA [] s1 H:=⟨rfl,⟨kin',names glo,⟨mb,names blt,boot⟩,lim'⟩,fun b o e=>of_hidT e,Nat.le_of_eq (hidT_size _ _),trivial,fun b hb=>absurd (show b∈([]:List Addr) from hb) (by simp),ok,.of_eq gens⟩
    have sys':∃ o,(hidT s1.heap H).get? sysModules=some o:=by
      obtain ⟨mm,z⟩:=sys
      obtain ⟨o,es,ep,e,_⟩:=names z
      exact ⟨o,e⟩
    refine codeAny_mono ((G _ kin' (names glo) sys').run callerA [] s1 H ⟨[.ref a],[]⟩ [.ref a] [.ref a] _ _ hr (fun _=>rfl) e0 (bind s1 (.ref a)) (.cons rfl .nil) (told H st)) ?_
    rintro (e | fl) s2 h
    · obtain ⟨_,_,_,_,_,_,_,_,_,_,_,_,_,z⟩:=h
    · cases fl with
      | ret u =>
        obtain ⟨v,H2,os,bare,un,ok2,rv2,q⟩:=h
        have q:v=.bl true:=q
        subst q
        obtain rfl:u=Value.bool true:=rv2
        have same:∀ b o,s1.heap.get? b=some o→s2.heap.get? b=some o:=by
          intro b o e
          rcases kinds b with z | ⟨ob,xs,z⟩
          · exact un.keep b o e z (fun y=>absurd (show b∈([]:List Addr) from y) (by simp)) (by simp)
          · obtain ⟨e1,_⟩:=ok b _ z
            obtain ⟨e2,_⟩:=ok2 b _ (un.frzs b ob _ z)
            rw [e] at e1; cases e1
            exact e2
        exact ⟨rfl,⟨fun b o e=>.inl (same b o e),fun b o e=>⟨o,same b o e⟩⟩,os,bare⟩
      | _=>exact (show False from h).elim
  cases hk:K.lookup a with
  | some o =>
    have e:=kin a o hk
    rw [scr] at e
    cases e
    exact core (fun _=>.none) ⟨fun b ps z=>(nomatch z),.inr ⟨_,vs.toArray,_,hk,rfl,rfl,rfl,by rw [List.size_toArray,lenV]; exact hl,by simpa using rv⟩⟩ (fun b=>.inl rfl) (fun b u z=>(nomatch z)) (fun b z=>absurd rfl z) fun z=>absurd rfl z
  | none =>
    refine core (fun b=>if b=a then some (.frz { cls:=.type "list",data:=.seq vs.toArray } (.lst (ns.map V.int))) else .none)
      ⟨fun b ps z=>?_,.inl ⟨_,if_pos rfl⟩⟩ (fun b=>?_) (fun b u z=>?_) (fun b z=>?_) fun _=>hk
    · by_cases h1:b=a
      · exact absurd ((if_pos h1).symm.trans z) (by simp)
      · exact absurd ((if_neg h1).symm.trans z) (by simp)
    · by_cases h1:b=a
      · exact .inr ⟨_,_,if_pos h1⟩
      · exact .inl (if_neg h1)
    · by_cases h1:b=a
      · cases (if_pos h1).symm.trans z
        rw [h1]
        exact ⟨scr,by rw [List.length_map]; exact hl,vs,_,rv,scr⟩
      · exact absurd ((if_neg h1).symm.trans z) (by simp)
    · by_cases h1:b=a
      · exact h1
      · exact absurd (if_neg h1) z
def LawAt0 (l:PySem.W.OpenLaw) (w:World) (K:PySem.W.Frag) (k n:Nat) (x:Str) (mg:Str→Option Value) (fa:Addr) (h:Heap):Prop :=
  ∃ (fd:FuncData) (sp:Sp),(∀ (s:Shared) (u:Value),BindsTo s fd ⟨[u],[]⟩ [(x,u)]) ∧
    (∀ (H:Hp) (a:Addr) (ns:List Int),ns.length≤n→Start0 K H a ns→sp [.ref a] H (fun v _=>v=.bl true) fun _ _ _=>False) ∧
    ∀ base:Heap,K.In base→base.Ns mainGlobals mg→(∃ o,base.get? sysModules=some o)→FnG true l.prog w K mg base k fa fd [x] sp
end Ev
namespace Ev
open PySem PySem.Spec L2 PyProof.Rows
section
variable {P:Program} {K:PySem.W.Frag} {mg:Str→Option Value} {h:Heap}
end
end Ev
namespace Ev
open PySem PySem.Spec L2 PyProof.Rows
structure StartN (K:PySem.W.Frag) (H:Hp) (a:Addr) (ts:List Addr) (ns:List Int):Prop where
  tab:∀ t∈ts,H t=some (.tbl #[])
  one:∀ b ps,H b=some (.tbl ps)→b∈ts
  scr:(∃ o,H a=some (.frz o (.lst (ns.map V.int))))∨∃ (o:Obj) (its:Array Value) (n:Nat),K.lookup a=some o∧o.cls=.type "list" ∧ o.dict=none∧o.data=.seq its n∧its.size≤sizeLine∧Vals (ns.map V.int) its.toList
structure TabAt (K:PySem.W.Frag) (h:Heap) (p:Addr×Addr):Prop where
  t:h.get? p.2=some { cls:=.none,data:=.fields #[] }
  k:K.lookup p.2=none
  c:PySem.W.CodeHd h p.1 p.2
end Ev
namespace GG
open PySem PySem.Spec PyProof.Rows GenW L2
structure Nap (S C:Addr) (v:Value) (s s':Shared):Prop where
  os:s'.os=s.os
  bare:AllBare s'.gens
  rest:∀ b o,b ≠ S→b ≠ C→s.heap.get? b=some o→s'.heap.get? b=some o
  here:∃ o,s'.heap.get? C=some o∧∀ v,o.data ≠ .cell v
  own:∀ acc c,s.heap.get? S=some (lstObj acc c)→∃ c',s'.heap.get? S=some (lstObj (acc.push v) c')
def Awk (X:Cx) (S C:Addr) (ys:List V) (σ:L2.St) (H:Hp) (s:Shared):Prop:=∃ oC,GI X S [(C,oC)] ys σ H s
def Same (C:Addr) (s s':Shared):Prop:=∀ o,s.heap.get? C=some o→s'.heap.get? C=some o
structure Far (X:Cx) (S C:Addr):Prop where
  pS:∀ p∈X.pn,p.1 ≠ S
  pC:∀ p∈X.pn,p.1 ≠ C
  ne:C ≠ S
  aS:Apart X S
  aC:Apart X C
section
variable {X:Cx} {S C:Addr} {ys:List V} {σ:L2.St} {H:Hp} {s s':Shared} {x:V} {v:Value}
theorem Awk.atS (h:Awk X S C ys σ H s):H S=none∧∃ acc c,Vals ys acc.toList∧s.heap.get? S=some (lstObj acc c):=by
  obtain ⟨oC,acc,c,r,I⟩:=h
  obtain ⟨p1,p2,_⟩:=I.pin (S,lstObj acc c) (List.mem_append_right _ List.mem_cons_self)
  exact ⟨p2,acc,c,r,p1⟩
theorem Awk.atC (h:Awk X S C ys σ H s):H C=none∧∃ o,s.heap.get? C=some o:=by
  obtain ⟨oC,acc,c,r,I⟩:=h
  obtain ⟨p1,p2,_⟩:=I.pin (C,oC) (List.mem_append_right _ (List.mem_cons_of_mem _ List.mem_cons_self))
  exact ⟨p2,oC,p1⟩
theorem Awk.inv (h:Awk X S C ys σ H s):Inv X [] σ H s:=by
  obtain ⟨oC,acc,c,r,I⟩:=h
  exact I.pins_of fun p hp=>absurd hp (by simp)
theorem Awk.woken (f:Far X S C) (h:Awk X S C ys σ H s) (rv:RelV x v) (z:Nap S C v s s'):Awk X S C (ys ++ [x]) σ H s':=by
  have base:=h.inv
  obtain ⟨oC,acc,c,r,I⟩:=h
  obtain ⟨eS,nS,S1,S2,_⟩:=I.pin (S,lstObj acc c) (List.mem_append_right _ List.mem_cons_self)
  obtain ⟨eC,nC,C1,C2,_⟩:=I.pin (C,oC) (List.mem_append_right _ (List.mem_cons_of_mem _ List.mem_cons_self))
  obtain ⟨z1,z2,z3,⟨oD,eD,dD⟩,z4⟩:=z
  obtain ⟨c2,eS2⟩:=z4 acc c eS
  have tS:∀ b u,H b=some u→b ≠ S:=fun b u q e=>by rw [e] at q; rw [show H S=none from nS] at q; cases q
  have tC:∀ b u,H b=some u→b ≠ C:=fun b u q e=>by rw [e] at q; rw [show H C=none from nC] at q; cases q
  have out:∀ b,b ∉ [S,C]→b ≠ S∧b ≠ C:=fun b hb=>⟨fun e=>hb (by simp [e]),fun e=>hb (by simp [e])⟩
  obtain ⟨hh,g2,d2,t2,o2⟩:=s'
  have eo:o2=s.os:=z1
  subst eo
  have keep:∀ b o,b ∉ [S,C]→s.heap.get? b=some o→hh.get? b=some o:=fun b o hb q=>z3 b o (out b hb).1 (out b hb).2 q
  have J:Inv X [] σ H { s with heap:=hh,gens:=g2,drawn:=d2,toks:=t2 }:=by
    refine base.step (g':=g2) (t':=t2) (d':=d2) (ch:=[S,C]) (fun b hb=>?_) (fun b o _ _ hc q _=>keep b o hc q) (fun b o _ _ hc q _=>⟨o.slots,keep b o hc q⟩) (fun _ _ _ _ n=>n)
      (fun b o hc q=>⟨o,keep b o hc q⟩) (fun _ _ q=>q) (fun _ _ _ q=>q) (fun b ps q=>⟨#[],by rw [q]; simp⟩) (fun m hm=>?_) (fun b u q=>?_) z2
    · rcases List.mem_cons.mp hb with e | e
      · subst e
        exact ⟨.inr f.aS.1,f.aS.2.1,f.aS.2.2,fun p hp=>f.pS p (by simpa using hp)⟩
      · rw [List.mem_singleton.mp e]
        exact ⟨.inr f.aC.1,f.aC.2.1,f.aC.2.2,fun p hp=>f.pC p (by simpa using hp)⟩
    · obtain ⟨o,es,ep,ho,q⟩:=hm
      exact ⟨o,es,ep,z3 _ o (Ne.symm S1) (Ne.symm C1) ho,q⟩
    · refine (base.hok b u q).stay (fun a w hw y=>?_) (fun _ y=>y) fun _ _ y=>y
      rcases hw with e | e
      · rw [e] at y ⊢; exact z3 b w (tS b u q) (tC b u q) y
      · exact z3 a w (tS a _ e) (tC a _ e) y
  refine ⟨oD,acc.push v,c2,?_,J.pins_of fun p hp=>?_⟩
  · rw [Array.toList_push]
    exact r.append (.cons rv .nil)
  · rcases List.mem_cons.mp hp with e | e
    · rw [e]; exact ⟨eS2,nS,S1,S2,fun _ q=>nomatch q⟩
    · rw [List.mem_singleton.mp e]; exact ⟨eD,nC,C1,C2,dD⟩
theorem Awk.turned {it:Addr} {h':Heap} {tk:Nat} (f:Far X S C) (h:Awk X S C ys σ H s) (k:∀ b o,b ≠ it→s.heap.get? b=some o→h'.get? b=some o) (hn:H it=none) (hL:it ≠ X.env.locals) (h1:it∈X.ex∨X.s_0.heap.objs.size≤it)
    (h2:∀ x c,X.env.cells.lookup x=some c→c ≠ it) (h3:∀ p∈X.pn,p.1 ≠ it) (iS:it ≠ S) (iC:it ≠ C):Awk X S C ys σ H { s with heap:=h',toks:=tk }:=by
  obtain ⟨oC,acc,c,r,I⟩:=h
  refine ⟨oC,acc,c,r,I.turned k hn hL h1 h2 fun p hp=>?_⟩
  rcases List.mem_append.mp hp with e | e
  · exact h3 p e
  · rcases List.mem_cons.mp e with e | e
    · rw [e]; exact Ne.symm iS
    · rw [List.mem_singleton.mp e]; exact Ne.symm iC
def YG (X:Cx) (S C:Addr):Protocol:=fun n s₀ v s kap=>∃ ys x σ H,n + 1 + ys.length=sizeLine∧RelV x v∧Awk X S C ys σ H s∧Same C s₀ s∧∀ s',Nap S C v s s'→kap (.send .none) s'
end
section
variable {X:Cx} {S C:Addr} {A:Around} {R:GenEnd} {fs:List Frame} {it:Addr} {xs:List V} {St:Nat→Heap→Prop} {σ:L2.St} {H:Hp}
abbrev yfC (it:Addr):Code:=.builtin "proto.yield_from" ⟨[.ref it,.bool false,.none],[]⟩
theorem seg_from (f:Far X S C) (hp:∀ p∈X.pn,p.1 ≠ it) (hex:it∈X.ex∨X.s_0.heap.objs.size≤it) (hL:it ≠ X.env.locals) (hc:∀ x c,X.env.cells.lookup x=some c→c ≠ it) (iS:it ≠ S) (iC:it ≠ C) (hH:H it=none) (q:QIt X H it xs St)
    (ho:(A.over (yfC it) fs).handled=none) (hsp:splitAtGen fs=none) (hgd:fs.any Frame.guarded=false) (hle:xs.length≤sizeLine)
    (fin:∀ (n:Nat) (s₀ s:Shared),n + xs.length=sizeLine→Awk X S C xs σ H s→Same C s₀ s→Seg (model X.prog X.w) A R (YG X S C) n s₀ (yfC it) (.pure (.done (.ret .none))) fs s) :
    ∀ (r j n:Nat) (s₀ s:Shared),j + r=xs.length→n + j=sizeLine→Awk X S C (xs.take j) σ H s→Same C s₀ s→St j s.heap→Seg (model X.prog X.w) A R (YG X S C) n s₀ (yfC it) ((model X.prog X.w).den (yfC it)) fs s:=by
  obtain ⟨T,kind,noClose,noGen⟩:=q.ty
  intro r
  induction r with
  | zero =>
    intro j n s₀ s hj hn aw sm st
    obtain rfl:j=xs.length:=by omega
    rw [List.take_length] at aw
    rw [den_yf]
    unfold Builtin.«proto.yield_from»
    try dsimp only
    refine seg_bind (wpAny_pure ?_)
    try dsimp only
    refine seg_bind (wpAny_attempt (wpAny_holding ?_))
    rw [if_neg (by simp),if_pos (show (Value.none == Value.none)=true from rfl)]
    refine wpAny_bind (wpAny_rule (wpAny_bind (q.done _ s _ _ ho st fun e h' tk hS hk=>?_)))
    obtain ⟨a,o,vs,rfl,hoa,cl,dat,h5⟩:=hS
    try dsimp only
    refine seg_bind (wpAny_endsTurn hoa cl ?_)
    try dsimp only
    rw [if_pos rfl]
    first
      | refine seg_bind (wpAny_rule ?_)
      | (rw [if_neg (by simp)]; refine seg_bind (wpAny_rule ?_))
      | (rw [if_neg (by simp)]; refine seg_bind (wpAny_pure ?_); refine seg_bind (wpAny_rule ?_))
    refine seg_bind (wpAny_field hoa dat h5 ?_)
    exact fin n s₀ _ hn (aw.turned f hk hH hL hex hc hp iS iC) fun o e=>hk C o (Ne.symm iC) (sm o e)
  | succ r ih =>
    intro j n s₀ s hj hn aw sm st
    have jl:j < xs.length:=by omega
    obtain ⟨x,hx⟩:∃ x,xs[j]? = some x:=⟨xs[j],List.getElem?_eq_getElem jl⟩
    obtain ⟨n,rfl⟩:∃ m,n=m + 1:=⟨n - 1,by omega⟩
    rw [den_yf]
    unfold Builtin.«proto.yield_from»
    try dsimp only
    refine seg_bind (wpAny_pure ?_)
    try dsimp only
    refine seg_bind (wpAny_attempt (wpAny_holding ?_))
    rw [if_neg (by simp),if_pos (show (Value.none == Value.none)=true from rfl)]
    refine wpAny_bind (wpAny_rule (wpAny_bind (q.item _ j x s _ _ ho hx st fun v h' tk rv st2 hk=>?_)))
    have aw2:=aw.turned (tk:=tk) f hk hH hL hex hc hp iS iC
    obtain ⟨oi,g1,g2⟩:=kind (j + 1) h' st2
    refine wpAny_pure ?_
    try dsimp only
    refine seg_bind (wpAny_typeOf (T:=T) ⟨oi,g1,g2⟩ ?_)
    try dsimp only
    first
      | (refine seg_bind (wpAny_of_eq noClose ?_); refine seg_bind (wpAny_pure ?_))
      | refine seg_bind (wpAny_bind (wpAny_of_eq noClose (wpAny_pure ?_)))
      | refine seg_bind (wpAny_of_eq noClose ?_)
    try dsimp only
    refine seg_bind (wpAny_sleptOver g1 g2 noGen ?_)
    refine seg_yield hsp rfl hgd ⟨xs.take j,x,σ,H,?_,rv,aw2,fun o e=>hk C o (Ne.symm iC) (sm o e),fun s2 z=>?_⟩
    · rw [List.length_take]; omega
    obtain ⟨nS,_⟩:=aw2.atS
    obtain ⟨nC,_⟩:=aw2.atC
    have aw3:=aw2.woken f rv z
    have st3:St (j + 1) s2.heap:=q.frame (j + 1) h' s2.heap st2 fun b o hb e=>by
      refine z.rest b o (fun m=>?_) (fun m=>?_) e
      · rcases hb with y | y
        · exact iS (y.symm.trans m)
        · exact y (by rw [m]; exact nS)
      · rcases hb with y | y
        · exact iC (y.symm.trans m)
        · exact y (by rw [m]; exact nC)
    obtain ⟨oj,k1,k2⟩:=kind (j + 1) s2.heap st3
    have et:xs.take j ++ [x]=xs.take (j + 1):=by
      rw [List.take_add_one,hx]; rfl
    rw [et] at aw3
    show Seg _ _ _ _ n s2 _ (Builtin.Generator.sleptOver (.ref it) false >>= fun _=>_) fs s2
    refine seg_bind (wpAny_sleptOver k1 k2 noGen ?_)
    try dsimp only
    refine seg_bind (wpAny_pure ?_)
    exact seg_again (plainId_quiet plain_yf _) (ih (j + 1) n s2 s2 (by omega) (by omega) aw3 (fun _ e=>e) st3)
end
section
variable {X:Cx} {S C:Addr} {A:Around} {R:GenEnd} {σ:L2.St} {H:Hp} {e:Expr} {yp pos:Pos} {t:TYf}
theorem seg_yfSt {c:Code} {fs:List Frame} {K:Flow→Sem PySem.Fin} {J:Value→Sem PySem.Fin} {gd:Bool→Bool} {lv:List Value→List Value} {s₀ s:Shared} {Z:List V→Hp→Prop} (he:YfE X e t) (hc:X.A.handled=none) (hi:interactive X.env=false) (f:Far X S C)
    (over:A.over c fs=X.A) (split:splitAtGen fs=none) (guard:fs.any Frame.guarded=false) (hg:gd false=false) (aw:Awk X S C [] σ H s) (sm:Same C s₀ s) (ht:t σ H fun xs H1=>xs.length≤sizeLine∧Z xs H1)
    (ok:∀ (n:Nat) (xs:List V) (s₀ s:Shared) (H1:Hp),n + xs.length=sizeLine→Awk X S C xs σ H1 s→Same C s₀ s→Z xs H1→Seg (model X.prog X.w) A R (YG X S C) n s₀ c (K .next) fs s)
    (exc:∀ (n:Nat) (s₀:Shared) (x:Value) (s:Shared),X.xe x s→Seg (model X.prog X.w) A R (YG X S C) n s₀ c (J x) fs s) :
    Seg (model X.prog X.w) A R (YG X S C) sizeLine s₀ c ((exec (.Expr (.YieldFrom e yp) pos) X.env).wrap K J gd lv) fs s:=by
  rw [exec_Expr X.env _ pos hi rfl]
  show Seg _ _ _ _ sizeLine s₀ c (.at pos fun _=>((eval e X.env >>= fun v=>(standAt yp >>= fun _=>yieldFrom X.env v)) >>= fun x=>dropValue (.YieldFrom e yp) pos x).wrap K J gd lv) fs s
  refine seg_at (segw_bind2 ?_)
  obtain ⟨oC,acc,cc,r,I⟩:=aw
  have sC:s.heap.get? C=some oC:=(I.pin (C,oC) (List.mem_append_right _ (List.mem_cons_of_mem _ List.mem_cons_self))).1
  rw [over]
  refine wpAny_mono (he.run _ s σ H _ I ht) (fun v s1 hv=>?_) fun x s' hx=>exc sizeLine s₀ x s' hx
  obtain ⟨T,hT,noCo,hit⟩:=hv
  refine seg_at ?_
  show Seg _ _ _ _ sizeLine s₀ c ((yieldFrom X.env v).wrap (fun b=>(dropValue (.YieldFrom e yp) pos b).wrap K J gd lv) J gd lv) fs s1
  unfold yieldFrom
  refine seg_bind_wrap (wpAny_typeOf hT ?_)
  rw [if_neg (by rw [noCo]; simp)]
  refine seg_bind_wrap (wpAny_holding ?_)
  rw [over]
  refine wpAny_mono hit (fun u s2 hu=>?_) fun x s' hx=>exc sizeLine s₀ x s' hx
  obtain ⟨it,H1,xs,St,rfl,I2,q1,q2,q3,q4,q5,q6,q7,hle,hz⟩:=hu
  have iS:it ≠ S:=fun z=>q5 (S,lstObj acc cc) (List.mem_append_right _ List.mem_cons_self) z.symm
  have iC:it ≠ C:=fun z=>q5 (C,oC) (List.mem_append_right _ (List.mem_cons_of_mem _ List.mem_cons_self)) z.symm
  have sC2:s2.heap.get? C=some oC:=(I2.pin (C,oC) (List.mem_append_right _ (List.mem_cons_of_mem _ List.mem_cons_self))).1
  have sm2:Same C s₀ s2:=fun o eo=>by
    have:=sm o eo
    rw [sC] at this
    rw [sC2,this]
  refine seg_call fun p=>?_
  refine seg_from (xs:=xs) (St:=St) (H:=H1) f (fun p hp=>q5 p (List.mem_append_left _ hp)) q1 q2 q3 iS iC q4 q7 ?_ ?_ ?_ hle (fun n' s₀' s' hn' aw' sm'=>?_) xs.length 0 sizeLine s₀ s2 (Nat.zero_add _) (Nat.add_zero _) ⟨oC,acc,cc,by rw [List.take_zero]; exact r,I2⟩ sm2 q6
  · show (A.over c fs).handled=none
    rw [over]; exact hc
  · show (splitAtGen fs).map _=none
    rw [split]; rfl
  · show (gd false || fs.any Frame.guarded)=false
    rw [hg,guard]; rfl
  · exact seg_leaf (.ok (.ret .none)) (ok n' xs s₀' s' H1 hn' aw' sm' hz)
theorem seg_yfBody {s₀ s:Shared} {Z:List V→Hp→Prop} {F:Nat→Shared→Shared→Prop} (he:YfE X e t) (hc:X.A.handled=none) (hi:interactive X.env=false) (f:Far X S C) (over:A.over (.func [.Expr (.YieldFrom e yp) pos] X.env) []=X.A)
    (aw:Awk X S C [] σ H s) (sm:Same C s₀ s) (ht:t σ H fun xs H1=>xs.length≤sizeLine∧Z xs H1)
    (ok:∀ (n:Nat) (xs:List V) (s₀ s:Shared) (H1:Hp),n + xs.length=sizeLine→Awk X S C xs σ H1 s→Same C s₀ s→Z xs H1→R n s₀ (.ok (.ret .none)) s)
    (exc:∀ (x:Value) (s:Shared),X.xe x s→wpAny (model X.prog X.w) X.A (leaving X.env x) (fun _ _=>False) (fun _ _=>False) s) :
    Seg (model X.prog X.w) A R (YG X S C) sizeLine s₀ (.func [.Expr (.YieldFrom e yp) pos] X.env) ((model X.prog X.w).den (.func [.Expr (.YieldFrom e yp) pos] X.env)) [] s:=by
  refine seg_func (seg_execs_cons ?_)
  refine seg_yfSt (Z:=Z) he hc hi f over rfl rfl rfl aw sm ht (fun n xs s₁ s' H1 hn aw' sm' hz=>?_) (fun n s₁ x s' hx=>?_)
  · exact seg_execs_nil (seg_end (.ok (.ret .none)) (ok n xs s₁ s' H1 hn aw' sm' hz))
  · refine seg_wrap ?_
    rw [over]
    exact wpAny_mono (exc x s' hx) (fun _ _ z=>z.elim) fun _ _ z=>z.elim
end
abbrev noEx:XK:=fun _ _ _=>False
def FG (P:Program) (w:World) (outer:List Env) (H:Hp) (s:Shared) (S C:Addr) (Z:List V→Hp→Prop) (s₀ s1:Shared):Prop :=
  Same C s₀ s1∧∃ H' ys acc c,s1.os=s.os∧AllBare s1.gens∧Un (frs outer) [] H H' s.heap s1.heap∧HOk P w H' s1.heap∧H' S=none∧H' C=none∧s1.heap.get? S=some (lstObj acc c)∧Vals ys acc.toList∧ys.length≤sizeLine∧Z ys H'
def RG (P:Program) (w:World) (outer:List Env) (H:Hp) (s:Shared) (S C:Addr) (Z:List V→Hp→Prop):GenEnd:=fun n s₀ r s1=>((r=.ok (.ret .none)∨r=.ok .next)∧FG P w outer H s S C Z s₀ s1)∨∃ e,r=.error e∧False
def YI (s:Shared) (S C a:Addr) (g:Nat):Protocol:=fun n s₀ v s1 kap =>
  s1.os=s.os∧AllBare s1.gens∧s1.heap.NoLimit∧s1.heap.IsGen a g∧Same C s₀ s1∧(∃ (acc:Array Value) (c:Nat),s1.heap.get? S=some (lstObj acc c)∧n + 1 + acc.size=sizeLine)∧∀ s',Nap S C v s1 s'→kap (.send .none) s'
def GNew (P:Program) (w:World) (k:Nat) (outer:List Env) (H:Hp) (s:Shared) (Z:List V→Hp→Prop) (u:Value) (s':Shared):Prop :=
  ∃ (a:Addr) (g:Nat) (c:Code),u=.ref a∧s.heap.objs.size≤a∧a < s'.heap.objs.size∧s'.heap.IsGen a g∧s'.gens[g]? = some (.fresh c)∧s'.os=s.os∧AllBare s'.gens∧s'.heap.NoLimit∧(∀ b o,s.heap.get? b=some o→s'.heap.get? b=some o) ∧
    ∀ (A:Around) (S C:Addr) (oC:Obj) (s2:Shared),Room k A→A.frames=some outer→s'.heap.objs.size≤S→s'.heap.objs.size≤C→C ≠ S→(∀ b o,s'.heap.get? b=some o→s2.heap.get? b=some o)→(∃ c,s2.heap.get? S=some (lstObj #[] c)) →
      s2.heap.get? C=some oC→(∀ v,oC.data ≠ .cell v)→s2.os=s.os→AllBare s2.gens→Seg (model P w) A (RG P w outer H s S C Z) (YI s S C a g) sizeLine s2 c ((model P w).den c) [] s2
theorem int0 {scope:Scope} {qual:Str} {L f:Addr} {cd:Value} (h:scope.kind=.function):interactive (envOfC qual scope L f cd)=false:=by
  simp [interactive,envOfC,newEnv,h]
theorem gen_new {P:Program} {w:World} {K:PySem.W.Frag} {mg:Str→Option Value} {base:Heap} {k:Nat} {f:Addr} {name qual:Str} {params:Arguments} {e:Expr} {yp pos:Pos} {scope:Scope} {dV kV doc pm cdv ct oc:Value} {an od:Option Addr}
    {osl:Array (Option Value)} {N ps:List Str} {t:TYf} (lk:K.lookup f=some ⟨oc,od,.func (PySem.W.fnOf name qual params [.Expr (.YieldFrom e yp) pos] scope dV kV doc pm an cdv ct),osl⟩) (hcd:PySem.W.codeIn K cdv qual=true) (G:GScope N ps scope)
    (he:∀ (A:Around) (outer:List Env) (s:Shared) (H:Hp) (pn:List (Addr×Obj)),Room k (A.deeper (envOfC qual scope s.heap.objs.size f cdv))→YfE (gcxOf P w K mg base N qual scope f cdv A outer s H noEx pn) e t)
    {A:Around} {outer:List Env} {s:Shared} {H:Hp} {args:Args} {us:List Value} {vs:List V} {Z:List V→Hp→Prop} (hr:Room (k + 1) A) (e0:Env0 P w K mg base A outer s H) (hb:BindsTo s (PySem.W.fnOf name qual params [.Expr (.YieldFrom e yp) pos] scope dV kV doc pm an cdv ct) args (ps.zip us)) (r:Vals vs us)
    (hl:vs.length=ps.length) (ht:t (start N vs) H fun xs H1=>xs.length≤sizeLine∧Z xs H1) :
    codeAny (model P w) A (.call (.ref f) args) (fun r s'=>match r with | .ok (.ret u)=>GNew P w (k + 1) outer H s Z u s' | _=>False) s:=by
  have kin:K.In s.heap:=e0.mod.kin.keeps fun b o e=>(e0.bs b o e).1
  have lim:s.heap.NoLimit:=e0.mod.nolimit.keeps fun b o e=>(e0.bs b o e).1
  have kinds:∀ y∈ps.zip us,scope.names.lookup y.1=some .local∨(scope.names.lookup y.1=some .cell∧((cellsFrom (s.heap.objs.size + 1) scope.names []).lookup y.1).isSome=true):=fun ⟨n,v⟩ hy=>(G.par n (List.of_mem_zip hy).1).imp id fun q=>⟨q,PySem.W.cellsFrom_some _ _ _ (.inl q)⟩
  refine codeAny_call_generator hr.depth (kin _ _ lk) rfl G.co G.gen rfl (PySem.W.codeRec_of kin hcd) (hb _ _ _ _ (wpAny_newFunctionEnv_cells G.kind kinds fun env eenv s1 x=>?_))
  subst eenv
  have lim1:s1.heap.NoLimit:=lim.keeps x.toInCall.keep
  refine ⟨lim1,?_⟩
  obtain ⟨h1,tk,es1,hk1⟩:=x.done
  have os1:s1.os=s.os:=by rw [es1]
  have gen1:s1.gens=s.gens:=by rw [es1]
  have lt1:s.heap.objs.size < s1.heap.objs.size:=x.toInCall.ns.lt
  have kp1:∀ b o,s.heap.get? b=some o→s1.heap.get? b=some o:=x.toInCall.keep
  have main:∀ (go:Obj) (nm qn:Value) (tk2:Nat),go.cls=.type "generator" → go.data=.fields #[.int s1.gens.size 0,nm,qn]→go.slots = #[]→(∀ h:Heap,(h.push go).get? h.objs.size=some go) →
      GNew P w (k + 1) outer H s Z (.ref s1.heap.objs.size) { s1 with gens:=s1.gens.push (.fresh (.func [.Expr (.YieldFrom e yp) pos] (envOfC qual scope s.heap.objs.size f cdv))),toks:=tk2,heap:=s1.heap.push go }:=by
    intro go nm qn tk2 gc gd gs gp
    have isG:∀ h:Heap,h.get? s1.heap.objs.size=some go→h.IsGen s1.heap.objs.size s1.gens.size:=fun h e=>⟨go,nm,qn,e,gc,gd,gs⟩
    refine ⟨s1.heap.objs.size,s1.gens.size,_,rfl,Nat.le_of_lt lt1,?_,isG _ (gp _),Array.getElem?_push_size ..,os1,?_,lim1.keeps fun b o e=>Heap.get?_push_of_some _ e,fun b o e=>Heap.get?_push_of_some _ (kp1 b o e),?_⟩
    · show _ < (s1.heap.push _).objs.size
      rw [Heap.size_push]; exact Nat.lt_succ_self _
    · exact AllBare.push (by rw [gen1]; exact e0.bare) rfl
    intro Aw S C oC s2 rw' fr hS hC ne kp2 ⟨cS,eS⟩ eC dC os2 ba2
    have e0w:Env0 P w K mg base Aw outer s H:=⟨fr,e0.mod,e0.bs,e0.bsz,e0.funs,e0.frf,e0.hok,e0.bare⟩
    have I1:Inv (gcxOf P w K mg base N qual scope f cdv Aw outer s H noEx []) [] (start N vs) H s1:=inv_startG G rw'.hd e0w hl r x
    have I2:Inv (gcxOf P w K mg base N qual scope f cdv Aw outer s H noEx []) [] (start N vs) H s2 :=
      I1.call' (ch:=[]) (os2.trans os1.symm) (Un.kept fun b o e=>kp2 b o (Heap.get?_push_of_some _ e)) (I1.hok.kept fun b o e=>kp2 b o (Heap.get?_push_of_some _ e)) ba2 fun b z=>by simp at z
    have sz:∀ {b:Addr},(s1.heap.push go).objs.size≤b→s1.heap.objs.size < b:=fun {b} h=>by
      rw [Heap.size_push] at h
      exact h
    have eG:s2.heap.get? s1.heap.objs.size=some go:=kp2 _ _ (gp _)
    have young:∀ b,s1.heap.objs.size≤b→H b=none∧b ≠ s.heap.objs.size∧b ∉ frs outer∧s.heap.objs.size≤b∧∀ y c,(cellsFrom (s.heap.objs.size + 1) scope.names []).lookup y=some c→c ≠ b:=fun b hb=>by
      refine ⟨I1.hok.fresh hb,Nat.ne_of_gt (Nat.lt_of_lt_of_le lt1 hb),I1.nofs hb,Nat.le_trans (Nat.le_of_lt lt1) hb,fun y c e z=>?_⟩
      obtain ⟨v,ob,ho,_⟩:=I1.cell y c e
      have q:=Heap.lt_size ho
      rw [z] at q
      exact absurd (Nat.lt_of_lt_of_le q hb) (Nat.lt_irrefl _)
    have yS:=young S (Nat.le_of_lt (sz hS))
    have yC:=young C (Nat.le_of_lt (sz hC))
    have yG:=young s1.heap.objs.size (Nat.le_refl _)
    let Xg:=gcxOf P w K mg base N qual scope f cdv Aw outer s H noEx [(s1.heap.objs.size,go)]
    have far:Far Xg S C:=⟨fun p hp=>by rw [List.mem_singleton.mp hp]; exact Nat.ne_of_lt (sz hS),fun p hp=>by rw [List.mem_singleton.mp hp]; exact Nat.ne_of_lt (sz hC),ne,⟨yS.2.2.2.1,yS.2.1,yS.2.2.2.2⟩,⟨yC.2.2.2.1,yC.2.1,yC.2.2.2.2⟩⟩
    have aw:Awk Xg S C [] (start N vs) H s2:=by
      refine ⟨oC,#[],cS,.nil,Inv.pinnedG I2 fun p hp=>?_⟩
      rcases List.mem_append.mp hp with z | z
      · rw [List.mem_singleton.mp z]
        exact ⟨eG,yG.1,yG.2.1,yG.2.2.1,fun v q=>by rw [gd] at q; cases q⟩
      · rcases List.mem_cons.mp z with z | z
        · rw [z]; exact ⟨eS,yS.1,yS.2.1,yS.2.2.1,fun v q=>by cases q⟩
        · rw [List.mem_singleton.mp z]; exact ⟨eC,yC.1,yC.2.1,yC.2.2.1,dC⟩
    have pinG:∀ {ys:List V} {s':Shared} {σ':L2.St} {H':Hp},Awk Xg S C ys σ' H' s'→s'.heap.IsGen s1.heap.objs.size s1.gens.size:=fun {ys s' σ' H'} ⟨o,acc,cc,_,J⟩=>isG _ (J.pin (s1.heap.objs.size,go) (List.mem_append_left _ (List.mem_singleton.mpr rfl))).1
    refine seg_imp (R:=RG P w outer H s S C Z) (Y:=YG Xg S C) (fun _ _ _ _ h=>h) (fun n s₀ v s3 kap kap' hkk hY=>?_) sizeLine ?_
    · obtain ⟨ys,xx,σ',H',hn,rv,hI,sm,h3⟩:=hY
      obtain ⟨_,acc,cc,ra,ea⟩:=hI.atS
      have J:=hI.inv
      have len:acc.size=ys.length:=by
        have e1:=ra.length
        have e2:acc.toList.length=acc.size:=by simp
        omega
      exact ⟨J.os,J.bare,J.nolimit,pinG hI,sm,⟨acc,cc,ea,by rw [len]; exact hn⟩,fun s' z=>hkk _ _ (h3 s' z)⟩
    · refine seg_yfBody (X:=Xg) (Z:=Z) (F:=fun _ _ _=>True) (he Aw outer s H _ (rw'.deeper _)) rw'.hd (int0 G.kind) far over_func aw (fun _ e=>e) ht (fun n xs s₀ s' H1 hn aw' sm' hz=>?_) (fun x s' hx=>?_)
      · obtain ⟨nS,acc,cc,ra,ea⟩:=aw'.atS
        obtain ⟨nC,_⟩:=aw'.atC
        have J:=aw'.inv
        exact .inl ⟨.inl rfl,sm',H1,xs,acc,cc,J.os,J.bare,J.base,J.hok,nS,nC,ea,ra,by omega,hz⟩
      · refine wpAny_mono (show wpAny (model P w) (Aw.deeper (envOfC qual scope s.heap.objs.size f cdv)) (leaving (envOfC qual scope s.heap.objs.size f cdv) x) (fun _ s''=>CX P w outer H s noEx x s''∧∀ p∈[(s1.heap.objs.size,go)],s''.heap.get? p.1=some p.2) (fun _ _=>False) s' from hx) (fun _ s'' q=>?_) fun _ _ z=>z
        obtain ⟨⟨_,_,_,_,_,_,_,_,_,_,_,_,z⟩,_⟩:=q
        exact z
  exact main _ _ _ _ rfl rfl rfl fun h=>Heap.get?_push_size _ rfl
section
variable {P:Program} {w:World} {outer:List Env} {H:Hp} {sc:Shared} {Z:List V→Hp→Prop} {A:Around} {R:Result→Shared→Prop} {S C a:Addr} {g:Nat} {y:Str} {p1 p2 pos:Pos} {iter:Expr} {scope:Scope} {ce:Env}
theorem ns_nc {h:Heap} {C:Addr} {m:Str→Option Value} (n:h.Ns C m):∃ o,h.get? C=some o∧∀ v,o.data ≠ .cell v:=by
  obtain ⟨o,es,ep,ho,hd,_⟩:=n
  exact ⟨o,ho,fun v q=>by rw [hd] at q; cases q⟩
theorem comp_drain (hh:A.handled=none) (hd:A.depth < recursionLimit) (Sa:S ≠ a) (Sc:S ≠ cStatics) (Ca:C ≠ a) (Cc:C ≠ cStatics) (CS:C ≠ S) (cL:ce.locals=C) (ck:ce.scope.kind=.function) (cy:ce.kindOf y=some .local) (dbg:(y == ("__debug__":Str))=false)
    (fin:∀ s' acc c H' ys m,s'.heap.get? S=some (lstObj acc c)→Vals ys acc.toList→ys.length≤sizeLine→s'.os=sc.os→AllBare s'.gens→Un (frs outer) [] H H' sc.heap s'.heap→HOk P w H' s'.heap→H' S=none→H' C=none→s'.heap.Ns C m→Z ys H'→R (.ok .next) s')
    (m:Nat) (s:Shared) (hg:s.heap.IsGen a g) (hl:s.heap.NoLimit) (hn:∃ mm,s.heap.Ns C mm) (hgo:∃ gs,s.gens[g]? = some gs∧gs.Goes (model P w) A.in1 (RG P w outer H sc S C Z) (YI sc S C a g) m (.send .none) (s.setGen g .running)) :
    codeAny (model P w) A (.compLoop (.ListComp (.Name y p1) [⟨.Name y p2,iter,[],0⟩] scope pos) 0 (.ref a) (.ref S) ce) R s:=by
  refine compLoop_any (fun m s=>s.heap.IsGen a g∧s.heap.NoLimit∧(∃ mm,s.heap.Ns C mm)∧∃ gs,s.gens[g]? = some gs∧gs.Goes (model P w) A.in1 (RG P w outer H sc S C Z) (YI sc S C a g) m (.send .none) (s.setGen g .running)) (fun n s ⟨hg,hl,⟨mm,ns⟩,gs,hgs,hgo⟩=>?_) m ⟨hg,hl,hn,hgo⟩
  have hgl:g < s.gens.size:=(Array.getElem?_eq_some_iff.mp hgs).1
  refine wpAny_gsz (n:=g + 1) hgl (next_genG (A:=A) (F:=fun _ s₀ s₁=>FG P w outer H sc S C Z s₀ s₁) (Er:=fun _ _=>False) hh hl hd hg hgs hgo (fun v s₁ gs' hb hv=>?_) (fun s₁ hp h' hk=>?_) fun e s₁ he=>he.elim)
  · intro hsz
    obtain ⟨os1,ba1,li1,ig1,sm1,⟨acc,c,eS,hacc⟩,hk⟩:=hv
    have ns1:s₁.heap.Ns C mm:=ns.at fun o e=>sm1 o e
    cases n with
    | zero =>
      obtain ⟨oC,eC,dC⟩:=ns_nc ns1
      refine False.elim (hk { s₁ with heap:=s₁.heap.update S (Obj.mapSeq (·.push v)) } ⟨rfl,ba1,fun b o b1 b2 e=>(Heap.get?_update_other _ _ (Ne.symm b1)).trans e,⟨oC,(Heap.get?_update_other _ _ (Ne.symm CS)).trans eC,dC⟩,fun acc2 c2 e=>?_⟩)
      rw [eS] at e
      cases e
      exact ⟨_,Heap.get?_update_self _ eS rfl⟩
    | succ n =>
      have acc1:acc.size < sizeLine:=by omega
      refine wpAny_pure ?_
      refine wpAny_assign_Name (wpAny_storeName_local cy (cL ▸ ns1) (fun h2 ns2 sb2=>?_) (by rw [ck]; rfl))
      rw [cL] at ns2 sb2
      refine wpAny_tests_nil ?_
      rw [if_pos rfl]
      refine wpAny_Name (wpAny_loadName_local ck cy (cL.symm ▸ ns2) (show (if y=y then some v else mm y)=some v by simp) ?_) dbg
      have eS2:h2.get? S=some (lstObj acc c):=(sb2.2 S (Ne.symm CS)).trans eS
      refine append_at (its:=acc) (n:=c) (x:=v) eS2 (fun h3 sb3 eS3=>?_) (Nat.le_of_lt acc1)
      have ns3:=ns2.sameBut sb3 CS
      have nap:∀ s5:Shared,s5.heap=h3→s5.os=s₁.os→AllBare s5.gens→Nap S C v s₁ s5:=fun s5 e5 o5 hG=>by
        obtain ⟨oC,eC,dC⟩:=ns_nc ns3
        refine ⟨o5,hG,fun b o b1 b2 e=>by rw [e5]; exact (sb3.2 b b1).trans ((sb2.2 b b2).trans e),⟨oC,by rw [e5]; exact eC,dC⟩,fun acc2 c2 e=>?_⟩
        rw [eS] at e
        cases e
        exact ⟨_,by rw [e5]; exact eS3⟩
      have gsz:g < s₁.gens.size:=by
        have q:(s₁.setGen g gs').gens.size=s₁.gens.size:=setGen_size _ _ _
        have h2:g + 1≤(s₁.setGen g gs').gens.size:=hsz
        omega
      refine ⟨n,Nat.lt_succ_self n,?_,?_,⟨_,ns3⟩,gs',setGen_at gsz,?_⟩
      · obtain ⟨o,nm,qn,ho,q⟩:=ig1
        exact ⟨o,nm,qn,(sb3.2 a (Ne.symm Sa)).trans ((sb2.2 a (Ne.symm Ca)).trans ho),q⟩
      · obtain ⟨mc,q1,q2⟩:=li1
        exact ⟨mc,q1.at fun o e=>(sb3.2 _ (Ne.symm Sc)).trans ((sb2.2 _ (Ne.symm Cc)).trans e),q2⟩
      · refine hk _ (nap _ rfl rfl ?_)
        exact allBare_setGen (s:=s₁.setGen g gs') (x:=.running) (allBare_setGen ba1 hb) rfl
  · intro hsz
    obtain ⟨sm1,H',ys,acc,c,os1,ba1,un,hok,nS,nC,eS,rv,le,hz⟩:=hp
    exact fin _ acc c H' ys mm (hk _ _ eS) rv le os1 (allBare_setGen ba1 rfl) (un.trans (Un.kept hk)) (hok.kept hk) nS nC ((ns.at fun o e=>sm1 o e).keeps hk) hz
end
section
variable {prog:Program} {w:World} {A:Around} {E:Value→Shared→Prop} {s:Shared}
theorem lst_item {it t:Addr} {i:Nat} {xs:Array Value} {x:Value} {Q:Option Value→Shared→Prop} (hit:s.heap.IsListIter it t i) (ht:s.heap.IsList t xs) (hx:xs[i]? = some x)
    (hQ:∀ h',h'.IsListIter it t (i + 1)→Heap.SameBut it s.heap h'→Q (some x) { s with heap:=h' }):wpAny (model prog w) A (callSpecial? (.ref it) "__next__") Q E s:=by
  obtain ⟨o,e1,e2,e3⟩:=id hit
  obtain ⟨p,f1,_,nl,f3⟩:=ht
  refine wpAny_callSpecial?_slot (name:=Str.ofString "__next__") hit.typeIs slot_listiter_next (wpAny_call_entry slot_listiter_next hit.typeIs entry_listiter_next ?_ (args_listiter_next _))
  show wpAny _ _ (field (.ref it) 0 >>= _) _ _ s
  refine wpAny_bind (wpAny_field e1 e3 (x:=.ref t) rfl ?_)
  show wpAny _ _ (if (Value.ref t == Value.none)=true then _ else _) _ _ s
  rw [if_neg (by simp)]
  show wpAny _ _ (field (.ref it) 1 >>= _) _ _ s
  refine wpAny_bind (wpAny_field e1 e3 (x:=.int i 0) rfl ?_)
  show wpAny _ _ (seqItems? (.ref t) >>= _) _ _ s
  refine wpAny_bind (wpAny_seqItems f1 f3 ?_)
  simp only [Int.toNat_natCast,hx]
  refine wpAny_bind (wpAny_setField e1 e3 (by simp) (wpAny_pure ⟨x,rfl,hQ _ ?_ (Heap.SameBut.update ..)⟩))
  exact ⟨_,Heap.get?_update_self _ e1 (Obj.isFreed_of_fields (Obj.data_mapFields e3 _)),(Obj.cls_mapFields ..).trans e2,by rw [Obj.data_mapFields e3]; simp [rawInt]⟩
theorem lst_end {it t:Addr} {i:Nat} {xs:Array Value} {Q:Option Value→Shared→Prop} (hh:A.handled=none) (hit:s.heap.IsListIter it t i) (ht:s.heap.IsList t xs) (hx:xs[i]? = none)
    (hE:∀ e h',StopX e h'→Heap.ExtBut it s.heap h'→E e { s with heap:=h' }):wpAny (model prog w) A (callSpecial? (.ref it) "__next__") Q E s:=by
  obtain ⟨o,e1,e2,e3⟩:=id hit
  obtain ⟨p,f1,_,nl,f3⟩:=ht
  refine wpAny_callSpecial?_slot (name:=Str.ofString "__next__") hit.typeIs slot_listiter_next (wpAny_call_entry slot_listiter_next hit.typeIs entry_listiter_next ?_ (args_listiter_next _))
  show wpAny _ _ (field (.ref it) 0 >>= _) _ _ s
  refine wpAny_bind (wpAny_field e1 e3 (x:=.ref t) rfl ?_)
  show wpAny _ _ (if (Value.ref t == Value.none)=true then _ else _) _ _ s
  rw [if_neg (by simp)]
  show wpAny _ _ (field (.ref it) 1 >>= _) _ _ s
  refine wpAny_bind (wpAny_field e1 e3 (x:=.int i 0) rfl ?_)
  show wpAny _ _ (seqItems? (.ref t) >>= _) _ _ s
  refine wpAny_bind (wpAny_seqItems f1 f3 ?_)
  simp only [Int.toNat_natCast,hx]
  refine wpAny_bind (wpAny_rule (wpAny_bind (wpAny_setField e1 e3 (by simp) ?_)))
  show wpAny _ _ (newExc (.type "StopIteration") [] >>= _) _ _ _
  refine wpAny_bind ?_
  simp only [newExc,newTuple]
  refine wpAny_bind (wpAny_newObj_type ?_ (by size_fits))
  refine wpAny_bind (m:=firstArgMember _ _) (wpAny_of_eq (a:=Value.none) (by first | rfl | (simp only [firstArgMember]; rfl)) (wpAny_newObj_type ?_ (by size_fits)))
  simp only [raiseNew]
  refine wpAny_bind (wpAny_handled ?_)
  first | rw [show A.in1.handled=none from hh] | rw [hh]
  refine wpAny_bind (wpAny_pure (wpAny_throw (hE _ _ ⟨_,_,_,rfl,Heap.get?_push_size _ rfl,rfl,rfl,?_⟩ (((Heap.SameBut.update ..).extBut.push _).push _))))
  first
    | rfl
    | (rw [Array.getElem?_append_left (by decide)]; rfl)
    | kernel_rfl
end
def tYfLst (te:TE):TYf:=fun σ H Q=>te σ H fun x H1=>∃ a xs,x=.ref a∧H1 a=some (.lst xs)∧Q xs H1
theorem close_lst:typeLookup (.type "list_iterator") "close" = pure none:=by rw [typeLookup_type,builtinLookup_eq_fast]; kernel_rfl
theorem yf_lst {X:Cx} {e:Expr} {te:TE} (he:PE X e te):YfE X e (tYfLst te):=by
  refine ⟨fun pins s σ H Q I h=>thn (he.run pins s σ H _ I h) fun v s1 ⟨x,H1,I1,r1,a,xs,ex,ha,hq⟩=>?_⟩
  subst ex
  obtain rfl:v=Value.ref a:=r1
  obtain ⟨hlen,its,nl,rits,et⟩:=(show ObjOk X.prog X.w H1 s1.heap a (.lst xs) from I1.hok a _ ha)
  have ht:s1.heap.IsList a its.toArray:=⟨_,et,rfl,_,rfl⟩
  refine ⟨"list",ht.typeIs,by decide,wpAny_pyIter_list ht ?_⟩
  have old:∀ b o,s1.heap.get? b=some o→b ≠ s1.heap.objs.size:=fun b o e=>Nat.ne_of_lt (Heap.lt_size e)
  have kp:∀ b o,s1.heap.get? b=some o→(s1.heap.push { cls:=.type "list_iterator",data:=.fields #[.ref a,.int 0 0] }).get? b=some o:=fun b o e=>Heap.get?_push_of_some _ e
  refine ⟨s1.heap.objs.size,H1,xs,fun j h=>h.IsListIter s1.heap.objs.size a j∧h.IsList a its.toArray,rfl,I1.kept (t':=s1.toks) kp,.inr I1.sz,Nat.ne_of_gt I1.lt,fun y c hy=>?_,I1.hok.fresh (Nat.le_refl _),fun p hp=>old p.1 _ (I1.pin p hp).1,
    ⟨⟨_,Heap.get?_push_size _ rfl,rfl,rfl⟩,ht.push _⟩,⟨⟨"list_iterator",fun j h q=>?_,close_lst,by decide⟩,fun j h h' q hk=>?_,fun A' j x s2 Q' E' hA hx q hQ=>?_,fun A' s2 Q' E' hA q hE=>?_⟩,hq⟩
  · obtain ⟨v,o,ho,_⟩:=I1.cell y c hy
    exact old c o ho
  · obtain ⟨⟨o,ho,hc,_⟩,_⟩:=q
    exact ⟨o,ho,hc⟩
  · obtain ⟨⟨o,ho,r⟩,o2,ho2,r2⟩:=q
    exact ⟨⟨o,hk _ o (.inl rfl) ho,r⟩,o2,hk _ o2 (.inr (by rw [ha]; simp)) ho2,r2⟩
  · obtain ⟨q1,q2⟩:=q
    obtain ⟨u,hu,ru⟩:=rits.get hx
    have hne:a ≠ s1.heap.objs.size:=Nat.ne_of_lt (Heap.lt_size et)
    exact lst_item q1 q2 (x:=u) (by simpa using hu) fun h' q1' hs=>hQ u h' s2.toks ru ⟨q1',q2.extBut hs.extBut hne⟩ fun b o hb eb=>hs.extBut b o hb eb
  · obtain ⟨q1,q2⟩:=q
    have none':its.toArray[xs.length]? = none:=by
      have e:=rits.length
      have e2:its[xs.length]? = none:=List.getElem?_eq_none_iff.mpr (by omega)
      simpa using e2
    exact lst_end hA q1 q2 none' fun e h' hS hk=>hE e h' s2.toks hS fun b o hb eb=>hk b o hb eb
section
variable {X:Cx} {k:Nat} {f:Addr} {name qual gn:Str} {params:Arguments} {e ea:Expr} {es:List Expr} {yp spos:Pos} {gsc:Scope} {dV kV doc pm cdv ct oc:Value} {an od:Option Addr} {osl:Array (Option Value)} {N ps:List Str} {t:TYf} {ta:TA} {p pos pos' p1 p2:Pos} {y:Str} {scope:Scope} {own:List (Str×Nat)}
def tLcG (N:List Str) (n:Nat) (t:TYf) (ta:TA):TE:=fun σ H Q=>ta σ H fun vs H1=>vs.length=n∧t (start N vs) H1 fun xs H2=>xs.length≤sizeLine∧∀ D,H2 D=none→Q (.ref D) (upd H2 D (.lst xs))
theorem pe_lcG (lk:X.K.lookup f=some ⟨oc,od,.func (PySem.W.fnOf name qual params [.Expr (.YieldFrom e yp) spos] gsc dV kV doc pm an cdv ct),osl⟩) (hcd:PySem.W.codeIn X.K cdv qual=true) (G:GScope N ps gsc)
    (he:∀ (A:Around) (outer:List Env) (s:Shared) (H:Hp) (pn:List (Addr×Obj)),Room k (A.deeper (envOfC qual gsc s.heap.objs.size f cdv))→YfE (gcxOf X.prog X.w X.K X.mg X.base N qual gsc f cdv A outer s H noEx pn) e t)
    (hb:Binds X.K (PySem.W.fnOf name qual params [.Expr (.YieldFrom e yp) spos] gsc dV kV doc pm an cdv ct) ps []) (hr:Room (k + 2) X.A) (hg:Gl X gn) (hm:X.mg gn=some (.ref f)) (hk:PySem.W.keepIn X.K (.ref f)=true) (ha:PA X (ea :: es) ta)
    (ok:BlkOk X.N X.env.scope scope own) (hy:scope.names.lookup y=some .local) (hdb:(gn == ("__debug__":Str))=false) (dby:(y == ("__debug__":Str))=false)
    (hs:∀ x,foldedSetIterable (.Call (.Name gn p) (ea :: es) [] pos') X.env x=pure x:=by intro _; rfl) (hst:starEach (ea :: es) X.env=(false,eval ea X.env) :: starEach es X.env:=by rfl) (hpl:(backTo pos' (starEach es X.env)).any (·.1)=false:=by rfl) :
    PE X (.ListComp (.Name y p1) [⟨.Name y p2,.Call (.Name gn p) (ea :: es) [] pos',[],0⟩] scope pos) (tLcG N ps.length t ta):=by
  refine ⟨fun pins s σ H Q I h=>?_⟩
  rw [eval_ListComp]
  have free:∀ z∈scope.names,z.2=.free→∃ c,X.env.cells.lookup z.1=some c:=fun z hz e=>by
    rcases ok.free z hz e with q | q
    · exact I.ok.has _ (.inl q)
    · exact I.ok.has _ (.inr q)
  refine wpAny_comprehension_free (use:=none) rfl hs (closure_ok free) ok.kind (fun z hz e=>by rw [ok.uniq z hz,e]) ?_
  refine wpAny_Call_Name_kw (ld_glob I hg hm ?_ hdb)
  refine PySem.W.callWith_K (h₀:=X.base) I.ok.mod.kin hk (thn (ha.run pos' pins s σ H _ I h) fun us s1 ⟨vs,H1,I1,r,hl,q⟩=>⟨I1.kIn,?_⟩) hst hpl
  have hul:(us ++ []).length=ps.length:=by rw [List.append_nil,← r.length]; exact hl
  have bnd:=hb s1 us I1.kIn hul
  rw [List.append_nil] at bnd
  refine wpAny_call (codeAny_mono (gen_new (k:=k) (A:=X.A) (outer:=X.stack) (H:=H1) (args:=⟨us,[]⟩) lk hcd G he (hr.mono (by omega)) I1.env0 bnd r hl q) fun r s2 hq=>?_)
  cases r with
  | error _=>exact hq.elim
  | ok fl =>
    cases fl with
    | next=>exact hq.elim
    | brk=>exact hq.elim
    | cont=>exact hq.elim
    | ret u =>
      obtain ⟨a,g,c,rfl,a1,a2,ig,hgs,os2,ba2,li2,kp,wake⟩:=hq
      refine wpAny_pyIter_gen ig (wpAny_newObj_type (newEnv_comp ?_) (by show 0≤sizeLine; decide))
      generalize hS:s2.heap.objs.size=S
      generalize hs3:({ s2 with heap:=s2.heap.push { cls:=.type "list",data:=.seq ([]:List Value).toArray } }:Shared)=s3
      have h3:s3.heap=s2.heap.push { cls:=.type "list",data:=.seq ([]:List Value).toArray }:=by rw [← hs3]
      have z3:s3.heap.objs.size=S + 1:=by rw [h3,Heap.size_push,hS]
      have eS3:s3.heap.get? S=some (lstObj #[] 0):=by
        rw [h3,← hS]
        exact Heap.get?_push_size _ rfl
      have kp3:∀ b o,s2.heap.get? b=some o→s3.heap.get? b=some o:=fun b o e=>by rw [h3]; exact Heap.get?_push_of_some _ e
      show codeAny _ _ (.compStart (.ListComp (.Name y p1) [⟨.Name y p2,.Call (.Name gn p) (ea :: es) [] pos',[],0⟩] scope pos) 0 (.ref a) (.ref S) (compEnvC scope (cellsFrom (s3.heap.objs.size + 1) scope.names (cloFrom X.env.cells scope.names [])) s3.heap.objs.size X.env)) (compPost (model X.prog X.w) X.A X.xe none (EP X pins σ Q) (.ref S) s3.heap.objs.size) { s3 with heap:=pushCells (s3.heap.push { cls:=.type "dict",data:=.dict #[] }) scope.names }
      generalize hC:s3.heap.objs.size=C
      generalize hs4:({ s3 with heap:=pushCells (s3.heap.push { cls:=.type "dict",data:=.dict #[] }) scope.names }:Shared)=s4
      have eC4:s4.heap.get? C=some { cls:=.type "dict",data:=.dict #[] }:=by
        rw [← hs4,← hC]
        exact pushCells_keeps _ _ _ _ (Heap.get?_push_size _ rfl)
      have kp4:∀ b o,s3.heap.get? b=some o→s4.heap.get? b=some o:=fun b o e=>by rw [← hs4]; exact pushCells_keeps _ _ _ _ (Heap.get?_push_of_some _ e)
      have kp24:∀ b o,s2.heap.get? b=some o→s4.heap.get? b=some o:=fun b o e=>kp4 b o (kp3 b o e)
      have ns4:s4.heap.Ns C fun _=>none:=by
        rw [← hs4,← hC]
        exact Heap.Ns.keeps (Heap.Ns.new ..) fun b o e=>pushCells_keeps _ _ _ _ e
      have CS:C ≠ S:=by rw [← hC,z3]; exact Nat.succ_ne_self S
      have Sa:S ≠ a:=by rw [← hS]; exact Nat.ne_of_gt a2
      have Ca:C ≠ a:=by rw [← hC,z3,← hS]; exact Nat.ne_of_gt (Nat.lt_succ_of_lt a2)
      have cst:cStatics < s2.heap.objs.size:=let ⟨_,hn,_⟩:=li2; hn.lt
      have Sc:S ≠ cStatics:=by rw [← hS]; exact Nat.ne_of_gt cst
      have Cc:C ≠ cStatics:=by rw [← hC,z3,← hS]; exact Nat.ne_of_gt (Nat.lt_succ_of_lt cst)
      have hsz:s1.heap.objs.size≤s2.heap.objs.size:=Nat.le_trans a1 (Nat.le_of_lt a2)
      have ig4:s4.heap.IsGen a g:=ig.keeps kp24
      have os4:s4.os=s2.os:=by rw [← hs4,← hs3]
      have g4:s4.gens=s2.gens:=by rw [← hs4,← hs3]
      generalize hce:compEnvC scope (cellsFrom (C + 1) scope.names (cloFrom X.env.cells scope.names [])) C X.env=ce
      have loop:codeAny (model X.prog X.w) X.A (.compLoop (.ListComp (.Name y p1) [⟨.Name y p2,.Call (.Name gn p) (ea :: es) [] pos',[],0⟩] scope pos) 0 (.ref a) (.ref S) ce) (compPost (model X.prog X.w) X.A X.xe none (EP X pins σ Q) (.ref S) C) s4:=by
        refine comp_drain (P:=X.prog) (w:=X.w) (outer:=X.stack) (H:=H1) (sc:=s1) (Z:=fun xs H2=>∀ D,H2 D=none→Q (.ref D) (upd H2 D (.lst xs))) hr.hd hr.depth Sa Sc Ca Cc CS (by rw [← hce]; rfl) (by rw [← hce]; exact ok.kind) (by rw [← hce]; exact lookup_relabel_local hy) dby
          (fun s' acc c2 H' ys m eS rv le os ba un hok nS nC ns hz=>?_) sizeLine s4 ig4 (li2.keeps kp24) ⟨_,ns4⟩ ⟨.fresh c,by rw [g4]; exact hgs,rfl,?_⟩
        · refine ⟨m,ns,fun h2 sb=>?_⟩
          have I':=I1.drained (Nat.le_trans hsz (Nat.le_of_eq hS)) le eS rv ExOk.nil os ba un hok nS
          have nC':(upd H' S (.lst ys)) C=none:=by rw [upd_ne CS]; exact nC
          obtain ⟨f0,f1,f2,f3,f4,f5⟩:=I1.fpOk (b:=C) (by rw [← hC,z3,← hS]; exact Nat.le_succ_of_le hsz) nC'
          exact ⟨.ref S,upd H' S (.lst ys),I'.turned (t':=s'.toks) (fun b o hb e=>(sb.2 b hb).trans e) f0 f1 f3 f4 f5,rfl,hz S nS⟩
        · refine wake X.A.in1 S C _ (s4.setGen g .running) (hr.mono (by omega):Room (k + 1 + 1) X.A).in1 I1.ok.frames (Nat.le_of_eq hS) (by rw [← hC,z3,← hS]; exact Nat.le_succ _) CS kp24 ⟨0,kp4 _ _ eS3⟩ eC4 (fun v q=>by cases q) (os4.trans os2) ?_
          exact allBare_setGen (by rw [g4]; exact ba2) rfl
      exact codeAny_compStart_list loop (wpAny_pyIter_gen ig4 loop)
end
end GG
namespace Ev
open PySem PySem.Spec L2 GG
open PyProof.Rows (envOfC)
def yfE (b:List Stmt):Expr:=match b with
  | [.Expr (.YieldFrom e _) _]=>e
  | _=>.Name "" ⟨0,0,0,0⟩
section
variable {X:Cx} {F:Fx} {Wsh:WX} {ea:Expr} {es:List Expr} {fa:FA} {p pos pos' p1 p2:Pos} {y x:Str} {scope:Scope} {own:List (Str×Nat)}
def fLcG (m:Nat) (fe:FE) (fa:FA):FE:=fun ρ S=>(fa ρ S).bind fun ws S1=>(noX (fe (ws.map some ++ List.replicate (m - ws.length) none) S1)).bind fun w S2=>match w with
  | .d (.lst ds)=>if ds.length≤sizeLine then .ok (.d (.lst ds)) S2 else .err
  | _=>.err
theorem r_lcG {k j n:Nat} {f:Addr} {fd:FuncData} {ps N:List Str} {st:Stmt} {fe:FE} (Df:Def X.K X.mg x st ps f fd) (hbd:∃ yp spos,defBody st=[.Expr (.YieldFrom (yfE (defBody st)) yp) spos]) (G:GScope N ps (defScope st))
    (he:∀ (cdv:Value) (A:Around) (outer:List Env) (s:Shared) (H:Hp) (pn:List (Addr×Obj)),Room k (A.deeper (envOfC x (defScope st) s.heap.objs.size f cdv))→PE (gcxOf X.prog X.w X.K X.mg X.base N x (defScope st) f cdv A outer s H noEx pn) (yfE (defBody st)) (tR F W0 fe))
    (hr:Room j X.A) (hg:Gl X x) (ha:PA X (ea :: es) (tRA F Wsh fa)) (ok:BlkOk X.N X.env.scope scope own) (hy:scope.names.lookup y=some .local) (hlen:∀ ρ S ws S',fa ρ S=.ok ws S'→ws.length=n) (hn:ps.length=n:=by rfl) (hjk:k + 2≤j:=by first | decide | omega) (hdb:(x == ("__debug__":Str))=false:=by decide) (dby:(y == ("__debug__":Str))=false:=by decide)
    (hs:∀ v,foldedSetIterable (.Call (.Name x p) (ea :: es) [] pos') X.env v=pure v:=by intro _; rfl) (hst:starEach (ea :: es) X.env=(false,eval ea X.env) :: starEach es X.env:=by rfl) (hpl:(backTo pos' (starEach es X.env)).any (·.1)=false:=by rfl) :
    PE X (.ListComp (.Name y p1) [⟨.Name y p2,.Call (.Name x p) (ea :: es) [] pos',[],0⟩] scope pos) (tR F Wsh (fLcG N.length fe fa)):=by
  obtain ⟨yp,spos,hb⟩:=hbd
  have kp:=Df.fn.kp
  have bb:=Df.b
  obtain ⟨oc,od,kV,doc,pm,an,cdv,ct,osl,efd,lk,hcd⟩:=Df.fn.ex
  subst efd
  generalize yfE (defBody st)=e at hb he
  rw [hb] at lk bb
  refine peImp (pe_lcG (k:=k) (N:=N) (ps:=ps) (t:=tYfLst (tR F W0 fe)) lk hcd G (fun A outer s H pn hr=>yf_lst (he cdv A outer s H pn hr)) bb (hr.mono hjk) hg Df.g kp ha ok hy hdb dby hs hst hpl) fun σ H Q ⟨B,ι,ρ,S,rl,c⟩=>?_
  refine ⟨B,ι,ρ,S,rl,c.bind.mono fun ws S1 ι1 H1 ef x1 rl1 c1 vs rvs=>?_⟩
  have hw:=hlen ρ S ws S1 ef
  have hlv:ws.length=vs.length:=Paired.length rvs
  have rg:Rel F H1 B ι1 (ws.map some ++ List.replicate (N.length - ws.length) none) S1 (L2.start N vs):=by
    refine ⟨rl1.toRelS,?_⟩
    unfold L2.start
    rw [hlv]
    exact start_rel _ rvs
  refine ⟨by rw [← hlv,hw,hn],B,ι1,_,S1,rg,?_⟩
  revert c1
  cases fe (ws.map some ++ List.replicate (N.length - ws.length) none) S1 with
  | err=>exact fun c1=>(show False from c1).elim
  | exn _ _ _=>exact fun c1=>(show False from c1).elim
  | ok w S2 =>
    cases w with
    | d d =>
      cases d with
      | lst ds =>
        intro c1 ι2 H2 x2 r2 v rv
        have rv':RD F H2 B ι2 (.lst ds) v:=rv
        obtain ⟨a,us,rfl,ha2,rus,_⟩:=rep_lst rv'
        have c2:Cont F Wsh B ρ σ ι1 H1 (if ds.length≤sizeLine then R.ok (W.d (D.lst ds)) S2 else .err) (fun w _ ι' H'=>∀ v,RW F H' B ι' w v→Q v H'):=c1
        by_cases hle:ds.length≤sizeLine
        · rw [if_pos hle] at c2
          refine ⟨a,us,rfl,ha2,by rw [← reps_len rus]; exact hle,fun q hq=>?_⟩
          have rc:Rel F H2 B ι2 ρ S2 σ:=⟨r2.toRelS,pImp (fun _ _ q=>RL.ext x2 q) rl1.loc⟩
          exact c2 ι2 _ (x2.trans (Ext.new hq)) (rc.new hq nt_lst) _ (new_lst rc rus hq)
        · rw [if_neg hle] at c2
          exact (show False from c2).elim
      | _=>exact fun c1=>(show False from c1).elim
    | _=>exact fun c1=>(show False from c1).elim
end
end Ev
namespace Ev
open PySem PySem.Spec L2
section
variable {F:Fx}
def opBool:OpN:=fun ws S=>match ws with
  | [.d (.int i)]=>.ok (.d (.bl (i != 0))) S
  | [.d (.bl b)]=>.ok (.d (.bl b)) S
  | _=>.err
theorem ok_bool1:OpNOk F opBool (fun xs H Q=>(∃ i,xs=[.int i]∧Q (.bl (i != 0)) H)∨∃ k,xs=[.bl k]∧Q (.bl k) H):=by
  intro Wsh B ι ρ S σ H ws vs Q rl rw c
  unfold opBool at c
  split at c
  · rename_i i
    obtain ⟨v,rfl,rv⟩:=one_arg rw
    cases (show RD F H B ι (.int i) v from rv)
    exact .inl ⟨i,rfl,c.here rl _ (.bl _)⟩
  · rename_i b
    obtain ⟨v,rfl,rv⟩:=one_arg rw
    cases (show RD F H B ι (.bl b) v from rv)
    exact .inr ⟨b,rfl,c.here rl _ (.bl _)⟩
  · exact (show False from c).elim
end
end Ev
set_option maxHeartbeats 4000000
namespace K02
open PySem PySem.Spec L2 Ev
open PyProof.Rows (envOfC)
def top (i:Nat):Stmt:=PySem.Challenge.pw_midswitch_k02_standings_listed.main.body.getD i (.Pass ⟨0,0,0,0⟩)
abbrev st_is_among:Stmt:=top 1
abbrev N_is_among:List Str:=["thing","least","most"]
abbrev P_is_among:List Str:=["thing","least","most"]
abbrev st_is_row:Stmt:=top 2
abbrev N_is_row:List Str:=["thing","many"]
abbrev P_is_row:List Str:=["thing","many"]
abbrev st_all_standings:Stmt:=top 3
abbrev N_all_standings:List Str:=["settings","found","name","most","row","value"]
abbrev P_all_standings:List Str:=["settings"]
abbrev st_standings:Stmt:=top 4
abbrev N_standings:List Str:=["settings"]
abbrev P_standings:List Str:=["settings"]
abbrev st_is_standing:Stmt:=top 5
abbrev N_is_standing:List Str:=["settings","thing","value","setting"]
abbrev P_is_standing:List Str:=["settings","thing"]
abbrev st__law_begun:Stmt:=top 7
abbrev N__law_begun:List Str:=["script","cell"]
abbrev P__law_begun:List Str:=["script"]
abbrev st__law_next:Stmt:=top 8
abbrev N__law_next:List Str:=["m","many","rest","at","lot","cell","blend"]
abbrev P__law_next:List Str:=["m","many"]
abbrev st__law_names:Stmt:=top 9
abbrev N__law_names:List Str:=["m","many","letters","stem","k","at","first","by","word"]
abbrev P__law_names:List Str:=["m","many"]
abbrev st__law_settings:Stmt:=top 10
abbrev N__law_settings:List Str:=["m","mosts","some","name","most"]
abbrev P__law_settings:List Str:=["m"]
abbrev st__law_odd:Stmt:=top 11
abbrev N__law_odd:List Str:=["m","some"]
abbrev P__law_odd:List Str:=["m"]
abbrev st__law_bent:Stmt:=top 12
abbrev N__law_bent:List Str:=["m","thing","at","way"]
abbrev P__law_bent:List Str:=["m","thing"]
abbrev st__law_standings:Stmt:=top 15
abbrev N__law_standings:List Str:=["spots","rows","name","most","further","row","value"]
abbrev P__law_standings:List Str:=["spots"]
abbrev st_law:Stmt:=top 16
abbrev N_law:List Str:=["script","m","turn","spots","rows","again","row","some","value","one","thing"]
abbrev P_law:List Str:=["script"]
def s_is_among:FS:=(sRet (eAnd (fIsi .int (fVar 0)) (eAnd (eNot (fIsi .bl (fVar 0))) (fChain opLe opLe (fVar 1) (fVar 0) (fVar 2)))))
def F_is_among:FF:=called (bodyF 3 s_is_among)
def s_is_row:FS:=(sRet (eAnd (fIsi .tup (fVar 0)) (fBin opEq (fCall opLen (fCons (fVar 0) fNil)) (fVar 1))))
def F_is_row:FF:=called (bodyF 2 s_is_row)
def s_all_standings:FS:=(sSeq (sSet 1 (fLst (fCons (fTup fNil) fNil)))
  (sSeq (sFor (iTupl (fVar 0)) (gT 2 (gsCons (gN 2) (gsCons (gN 3) gsNil))) (sSet 1 (fLc2 (iLst (fVar 1)) (gN 4) tTrue (iRange1 (fCons (fBin opAdd (fVar 3) (fC (.int 1))) fNil)) (gN 5) tTrue (fTup (fStar (fVar 4) (fCons (fVar 5) fNil))) [4,5] [5])))
  (sRet (fVar 1))))
def F_all_standings:FF:=called (bodyF 6 s_all_standings)
def s_standings:FE:=(fApp F_all_standings (fCons (fVar 0) fNil))
def s_is_standing:FS:=(sSeq (sIf (bNot (toT (fApp F_is_row (fCons (fVar 1) (fCons (fCall opLen (fCons (fVar 0) fNil)) fNil))))) (sRet (fC (.bl false))) sNext)
  (sRet (fCall (op1 allD) (fCons (fLc (iZip true true (fVar 1) (fVar 0)) (gT 2 (gsCons (gN 2) (gsCons (gN 3) gsNil))) tTrue (fApp F_is_among (fCons (fVar 2) (fCons (fC (.int 0)) (fCons (fBin opIx (fVar 3) (fC (.int 1))) fNil)))) [2,3]) fNil))))
def F_is_standing:FF:=called (bodyF 4 s_is_standing)
def s__law_begun:FS:=(sRet (fDisp3 "cells" "left" "at" (fCall opListN (fCons (fVar 0) fNil)) (fLcN (iScr (fVar 0)) (gN 1) (toT (fBin opGe (fVar 1) (fBin opPow (fC (.int 10)) (fC (.int 18))))) (fVar 1) [1]) (fC (.int 0))))
abbrev F__law_begun:FF:=begunF
def s__law_next:FS:=(sSeq (loopW (bAnd (toT (fBin opNe (fBin opDGet (fVar 0) (fC (.str "left"))) (fLst fNil))) (toT (fBin opEq (fBin opIx (fBin opDGet (fVar 0) (fC (.str "left"))) (fC (.int 0))) (fC (.int 0))))) (sDPutF (fVar 0) (fC (.str "left")) (fSl opSlR (fBin opDGet (fVar 0) (fC (.str "left"))) (oSome (fC (.int 1))) oNone)) 100)
  (sSeq (sIf (toT (fBin opNe (fBin opDGet (fVar 0) (fC (.str "left"))) (fLst fNil))) (sSeq (sSet 2 (fBin opIx (fBin opDGet (fVar 0) (fC (.str "left"))) (fC (.int 0))))
  (sSeq (sLPutF (fBin opDGet (fVar 0) (fC (.str "left"))) (fC (.int 0)) (fBin opFDiv (fVar 2) (fVar 1)))
  (sRet (fBin opMod (fCall (op1 intD) (fCons (fVar 2) fNil)) (fVar 1))))) sNext)
  (sSeq (sPar2 3 4 (fCons (fBin opAdd (fBin opDGet (fVar 0) (fC (.str "at"))) (fC (.int 1))) (fCons (fBin opDGet (fVar 0) (fC (.str "cells"))) fNil)))
  (sSeq (sDPutF (fVar 0) (fC (.str "at")) (fVar 3))
  (sSeq (sSet 5 (eIf (toT (fBin opNe (fVar 4) (fLst fNil))) (fCall (op1 intD) (fCons (fBin opIx (fVar 4) (fBin opMod (fCall (op1 intD) (fCons (fBin opAdd (fBin opMul (fVar 3) (fVar 3)) (fBin opFDiv (fVar 3) (fC (.int 2)))) fNil)) (fCall opLen (fCons (fVar 4) fNil)))) fNil)) (fC (.int 5))))
  (sSeq (sSet 6 (fBin opMod (fCall (op1 intD) (fCons (fBin opAdd (fBin opAdd (fBin opMul (fVar 5) (fC (.int 40692))) (fBin opMul (fVar 3) (fC (.int 65539)))) (fBin opMul (fBin opMul (fC (.int 7001)) (fVar 3)) (fVar 3))) fNil)) (fC (.int 2147483399))))
  (sRet (fBin opMod (fCall (op1 intD) (fCons (fBin opFDiv (fBin opMod (fCall (op1 intD) (fCons (fBin opAdd (fBin opMul (fVar 6) (fC (.int 48271))) (fBin opMul (fC (.int 1013)) (fVar 3))) fNil)) (fC (.int 2147483647))) (fC (.int 13))) fNil)) (fVar 1)))))))))
abbrev F__law_next:FF:=nextF
def s__law_names:FS:=(sSeq (sAsg (gT 2 (gsCons (gN 2) (gsCons (gN 3) gsNil))) (fTup (fCons (fC (.str "abcdefghijklmnopqrstuvwxyz")) (fCons (fC (.str "")) fNil))))
  (sSeq (sFor (iRange1 (fCons (fApp F__law_next (fCons (fVar 0) (fCons (fC (.int 8)) fNil))) fNil)) (gN 4) (sSet 3 (fBin opAdd (fVar 3) (fBin opIx (fVar 2) (fApp F__law_next (fCons (fVar 0) (fCons (fC (.int 26)) fNil)))))))
  (sSeq (sAsg (gT 3 (gsCons (gN 5) (gsCons (gN 6) (gsCons (gN 7) gsNil)))) (fTup (fCons (fApp F__law_next (fCons (fVar 0) (fCons (fBin opAdd (fCall opLen (fCons (fVar 3) fNil)) (fC (.int 1))) fNil))) (fCons (fApp F__law_next (fCons (fVar 0) (fCons (fC (.int 26)) fNil))) (fCons (fBin opIx (fLst (fCons (fC (.int 1)) (fCons (fC (.int 3)) (fCons (fC (.int 5)) (fCons (fC (.int 7)) (fCons (fC (.int 9)) (fCons (fC (.int 11)) fNil))))))) (fApp F__law_next (fCons (fVar 0) (fCons (fC (.int 6)) fNil)))) fNil)))))
  (sSeq (sSet 8 (fSl opSl (fBin opAdd (fVar 3) (fBin opMul (fBin opIx (fVar 2) (fVar 6)) (fC (.int 8)))) oNone (oSome (fC (.int 8)))))
  (sSeq (sIf (toT (fBin opGt (fVar 7) (fC (.int 5)))) (sRet (fLc (iRange1 (fCons (fVar 1) fNil)) (gN 4) tTrue (eIf (toT (fBin opGt (fVar 7) (fC (.int 7)))) (fSl opSl (fVar 8) (oSome (fVar 4)) oNone) (fSl opSl (fVar 8) oNone (oSome (fBin opSub (fBin opAdd (fVar 4) (fC (.int 9))) (fVar 1))))) [4])) sNext)
  (sRet (fLc (iRange1 (fCons (fVar 1) fNil)) (gN 4) tTrue (fBin opAdd (fBin opAdd (fSl opSl (fVar 3) oNone (oSome (fVar 5))) (fBin opIx (fVar 2) (fBin opMod (fCall (op1 intD) (fCons (fBin opAdd (fVar 6) (fBin opMul (fVar 7) (fVar 4))) fNil)) (fC (.int 26))))) (fSl opSl (fVar 3) (oSome (fVar 5)) oNone)) [4])))))))
def F__law_names:FF:=called (bodyF 9 s__law_names)
def s__law_settings:FS:=(sSeq (sSet 1 (fLst (fCons (fTup (fCons (fC (.int 1)) fNil)) (fCons (fTup (fCons (fC (.int 2)) fNil)) (fCons (fTup (fCons (fC (.int 3)) fNil)) (fCons (fTup (fCons (fC (.int 1)) (fCons (fC (.int 1)) fNil))) (fCons (fTup (fCons (fC (.int 1)) (fCons (fC (.int 2)) fNil))) (fCons (fTup (fCons (fC (.int 2)) (fCons (fC (.int 1)) fNil))) (fCons (fTup (fCons (fC (.int 2)) (fCons (fC (.int 2)) fNil))) (fCons (fTup (fCons (fC (.int 1)) (fCons (fC (.int 3)) fNil))) (fCons (fTup (fCons (fC (.int 3)) (fCons (fC (.int 2)) fNil))) (fCons (fTup (fCons (fC (.int 1)) (fCons (fC (.int 1)) (fCons (fC (.int 1)) fNil)))) (fCons (fTup (fCons (fC (.int 1)) (fCons (fC (.int 2)) (fCons (fC (.int 1)) fNil)))) (fCons (fTup (fCons (fC (.int 1)) (fCons (fC (.int 1)) (fCons (fC (.int 2)) fNil)))) fNil))))))))))))))
  (sSeq (sSet 2 (fBin opIx (fVar 1) (fApp F__law_next (fCons (fVar 0) (fCons (fC (.int 12)) fNil)))))
  (sRet (fCall opTupF (fCons (fLc (iZip false true (fApp F__law_names (fCons (fVar 0) (fCons (fCall opLen (fCons (fVar 2) fNil)) fNil))) (fVar 2)) (gT 2 (gsCons (gN 3) (gsCons (gN 4) gsNil))) tTrue (fTup (fCons (fVar 3) (fCons (fVar 4) fNil))) [3,4]) fNil)))))
def F__law_settings:FF:=called (bodyF 5 s__law_settings)
def s__law_odd:FS:=(sSeq (sSet 1 (fLst (fCons (fC .non) (fCons (fC (.int 0)) (fCons (fC (.int 1)) (fCons (fC (.int 2)) (fCons (fC (.int 4)) (fCons (fNeg (fC (.int 1))) (fCons (fC (.int 100)) (fCons (fC (.bl true)) (fCons (fC (.bl false)) (fCons (fC (.str "")) (fCons (fC (.str "a")) (fCons (fC (.str "abcdefghi")) (fCons (fC (.str "A")) (fCons (fC (.str "end")) (fCons (fC (.str "live")) (fCons (fTup fNil) (fCons (fTup (fCons (fTup fNil) fNil)) (fCons (fTup (fCons (fC (.str "a")) (fCons (fC (.int 1)) fNil))) fNil))))))))))))))))))))
  (sRet (fBin opIx (fBin opAdd (fVar 1) (fLst (fCons (fLst fNil) (fCons (fC (.dct [])) (fCons (fBin opPow (fC (.int 10)) (fC (.int 30))) (fCons (fTup (fCons (fC (.str "end")) fNil)) (fCons (fTup (fCons (fTup (fCons (fC (.str "end")) fNil)) fNil)) (fCons (fC (.str "begin")) (fCons (fC (.str "a1")) (fCons (fTup (fCons (fC (.str "do")) (fCons (fC (.str "a")) (fCons (fC (.int 0)) fNil)))) fNil)))))))))) (fApp F__law_next (fCons (fVar 0) (fCons (fC (.int 26)) fNil))))))
def F__law_odd:FF:=called (bodyF 2 s__law_odd)
def s__law_bent (rec:FF):FS:=(sSeq (sIf (bAnd (toT (fIsi .str (fVar 1))) (toT (fBin opEq (fApp F__law_next (fCons (fVar 0) (fCons (fC (.int 2)) fNil))) (fC (.int 0))))) (sRet (fBin opIx (fLst (fCons (fBin opAdd (fVar 1) (fC (.str "b"))) (fCons (fSl opSl (fVar 1) (oSome (fC (.int 1))) oNone) (fCons (fBin opAdd (fVar 1) (fC (.str "A"))) (fCons (fBin opAdd (fVar 1) (fC (.str " "))) (fCons (fBin opMul (fVar 1) (fC (.int 2))) (fCons (fBin opAdd (fVar 1) (fC (.str "1"))) fNil))))))) (fApp F__law_next (fCons (fVar 0) (fCons (fC (.int 6)) fNil))))) sNext)
  (sSeq (sIf (bAnd (toT (fIsi .int (fVar 1))) (bAnd (bNot (toT (fIsi .bl (fVar 1)))) (toT (fBin opEq (fApp F__law_next (fCons (fVar 0) (fCons (fC (.int 2)) fNil))) (fC (.int 0)))))) (sRet (fBin opAdd (fVar 1) (fBin opIx (fLst (fCons (fC (.int 1)) (fCons (fNeg (fC (.int 1))) (fCons (fC (.int 3)) (fCons (fNeg (fC (.int 3))) (fCons (fC (.int 100)) (fCons (fNeg (fC (.int 100))) fNil))))))) (fApp F__law_next (fCons (fVar 0) (fCons (fC (.int 6)) fNil)))))) sNext)
  (sSeq (sIf (bOr (bNot (toT (fIsi .tup (fVar 1)))) (bOr (toT (fBin opEqE (fVar 1) (fTup fNil))) (toT (fBin opEq (fApp F__law_next (fCons (fVar 0) (fCons (fC (.int 6)) fNil))) (fC (.int 0)))))) (sRet (fApp F__law_odd (fCons (fVar 0) fNil))) sNext)
  (sSeq (sPar2 2 3 (fCons (fApp F__law_next (fCons (fVar 0) (fCons (fCall opLen (fCons (fVar 1) fNil)) fNil))) (fCons (fApp F__law_next (fCons (fVar 0) (fCons (fC (.int 11)) fNil))) fNil)))
  (sSeq (sIf (toT (fBin opEq (fVar 3) (fC (.int 0)))) (sRet (fBin opAdd (fSl opSl (fVar 1) oNone (oSome (fVar 2))) (fSl opSl (fVar 1) (oSome (fBin opAdd (fVar 2) (fC (.int 1)))) oNone))) sNext)
  (sSeq (sIf (toT (fBin opEq (fVar 3) (fC (.int 1)))) (sRet (fBin opAdd (fVar 1) (fSl opSl (fVar 1) (oSome (fVar 2)) (oSome (fBin opAdd (fVar 2) (fC (.int 1))))))) sNext)
  (sSeq (sIf (toT (fBin opEq (fVar 3) (fC (.int 2)))) (sRet (fCall (op1 listD) (fCons (fVar 1) fNil))) sNext)
  (sSeq (sIf (toT (fBin opEq (fVar 3) (fC (.int 3)))) (sRet (fBin opAdd (fBin opAdd (fSl opSl (fVar 1) oNone (oSome (fVar 2))) (fTup (fCons (fApp F__law_odd (fCons (fVar 0) fNil)) fNil))) (fSl opSl (fVar 1) (oSome (fVar 2)) oNone))) sNext)
  (sSeq (sIf (toT (fBin opEq (fVar 3) (fC (.int 4)))) (sRet (fBack (fVar 1))) sNext)
  (sRet (fBin opAdd (fBin opAdd (fSl opSl (fVar 1) oNone (oSome (fVar 2))) (fTup (fCons (fApp rec (fCons (fVar 0) (fCons (fBin opIx (fVar 1) (fVar 2)) fNil))) fNil))) (fSl opSl (fVar 1) (oSome (fBin opAdd (fVar 2) (fC (.int 1)))) oNone))))))))))))
def B__law_bent:Nat→FF
  | 0=>fun _ _=>.err
  | n + 1=>called (bodyF 4 (s__law_bent (B__law_bent n)))
abbrev F__law_bent:FF:=B__law_bent 8
def s__law_standings:FS:=(sSeq (sSet 1 (fLst (fCons (fTup fNil) fNil)))
  (sSeq (sFor (iTupl (fVar 0)) (gT 2 (gsCons (gN 2) (gsCons (gN 3) gsNil))) (sSeq (sSet 4 (fNewL fNil))
  (sSeq (sFor (iLst (fCall (op1 listD) (fCons (fVar 1) fNil))) (gN 5) (sFor (iRange1 (fCons (fBin opAdd (fVar 3) (fC (.int 1))) fNil)) (gN 6) (sExpr (fMeth isLstR opApp (fVar 4) (fCons (fBin opAdd (fVar 5) (fTup (fCons (fVar 6) fNil))) fNil)))))
  (sSet 1 (fVar 4)))))
  (sRet (fVar 1))))
def F__law_standings:FF:=called (bodyF 7 s__law_standings)
def s_law:FS:=(sSeq (sSet 1 (fApp F__law_begun (fCons (fVar 0) fNil)))
  (sSeq (sFor (iRange1 (fCons (fBin opAdd (fC (.int 3)) (fCall opMin2 (fCons (fCall opLen (fCons (fVar 0) fNil)) (fCons (fC (.int 9)) fNil)))) fNil)) (gN 2) (sSeq (sSet 3 (fApp F__law_settings (fCons (fVar 1) fNil)))
  (sSeq (sSet 4 (fApp F__law_standings (fCons (fCo (fVar 3)) fNil)))
  (sSeq (sIf (toT (fBin opNe (fLc (iRange1 (fCons (fC (.int 2)) fNil)) (gN 5) tTrue (fCall opRepr (fCons (fLcG 1 s_standings (fCons (fCo (fVar 3)) fNil)) fNil)) [5]) (fBin opMulL (fLst (fCons (fCall opRepr (fCons (fVar 4) fNil)) fNil)) (fC (.int 2))))) (sRet (fC (.bl false))) sNext)
  (sSeq (sSet 6 (fBin opIx (fVar 4) (fApp F__law_next (fCons (fVar 1) (fCons (fCall opLen (fCons (fVar 4) fNil)) fNil)))))
  (sSeq (sSet 7 (fNewL (fCons (fVar 6) (fCons (fApp F__law_bent (fCons (fVar 1) (fCons (fVar 6) fNil))) (fCons (fApp F__law_bent (fCons (fVar 1) (fCons (fVar 6) fNil))) (fCons (fBin opAdd (fVar 6) (fTup (fCons (fC (.int 0)) fNil))) (fCons (fSl opSl (fVar 6) (oSome (fC (.int 1))) oNone) (fCons (fCall (op1 listD) (fCons (fVar 6) fNil)) (fCons (fApp F__law_odd (fCons (fVar 1) fNil)) fNil)))))))))
  (sSeq (sExpr (fMeth isLstR opApp (fVar 7) (fCons (fCall (op1 tupleD) (fCons (fLc (iTupl (fVar 6)) (gN 8) tTrue (fBin opAdd (fVar 8) (fC (.int 1))) [8]) fNil)) fNil)))
  (sSeq (sExpr (fMeth isLstR opApp (fVar 7) (fCons (fCall (op1 tupleD) (fCons (fLc (iTupl (fCo (fVar 3))) (gN 9) tTrue (fBin opIx (fVar 9) (fC (.int 1))) [9]) fNil)) fNil)))
  (sSeq (sExpr (fMeth isLstR opApp (fVar 7) (fCons (fCall (op1 tupleD) (fCons (fLc (iTupl (fVar 6)) (gN 8) tTrue (fCall opBool (fCons (fVar 8) fNil)) [8]) fNil)) fNil)))
  (sForR 100 (fVar 7) (gN 10) (sIf (toT (fBin opNe (fCall opRepr (fCons (fApp F_is_standing (fCons (fCo (fVar 3)) (fCons (fVar 10) fNil))) fNil)) (fCall opRepr (fCons (fBin opIn (fCall opRepr (fCons (fVar 10) fNil)) (fLc (iLst (fVar 4)) (gN 9) tTrue (fCall opRepr (fCons (fVar 9) fNil)) [9])) fNil)))) (sRet (fC (.bl false))) sNext)))))))))))
  (sRet (fC (.bl true)))))
structure Txt (P:Program) (w:World) (F:Fx) (mg:Str→Option Value) (a:Str→Addr) (d:Str→FuncData):Prop where
  hw:w=F.cls.w
  f_is_among:Def F.K mg "is_among" st_is_among P_is_among (a "is_among") (d "is_among")
  f_is_row:Def F.K mg "is_row" st_is_row P_is_row (a "is_row") (d "is_row")
  f_all_standings:Def F.K mg "all_standings" st_all_standings P_all_standings (a "all_standings") (d "all_standings")
  f_standings:Def F.K mg "standings" st_standings P_standings (a "standings") (d "standings")
  f_is_standing:Def F.K mg "is_standing" st_is_standing P_is_standing (a "is_standing") (d "is_standing")
  f__law_begun:Def F.K mg "_law_begun" st__law_begun P__law_begun (a "_law_begun") (d "_law_begun")
  f__law_next:Def F.K mg "_law_next" st__law_next P__law_next (a "_law_next") (d "_law_next")
  f__law_names:Def F.K mg "_law_names" st__law_names P__law_names (a "_law_names") (d "_law_names")
  f__law_settings:Def F.K mg "_law_settings" st__law_settings P__law_settings (a "_law_settings") (d "_law_settings")
  f__law_odd:Def F.K mg "_law_odd" st__law_odd P__law_odd (a "_law_odd") (d "_law_odd")
  f__law_bent:Def F.K mg "_law_bent" st__law_bent P__law_bent (a "_law_bent") (d "_law_bent")
  f__law_standings:Def F.K mg "_law_standings" st__law_standings P__law_standings (a "_law_standings") (d "_law_standings")
  f_law:Def F.K mg "law" st_law P_law (a "law") (d "law")
  n_all:mg "all" = none
  n_bool:mg "bool" = none
  n_int:mg "int" = none
  n_isinstance:mg "isinstance" = none
  n_len:mg "len" = none
  n_list:mg "list" = none
  n_min:mg "min" = none
  n_range:mg "range" = none
  n_repr:mg "repr" = none
  n_str:mg "str" = none
  n_tuple:mg "tuple" = none
  n_zip:mg "zip" = none
structure Lm (F:Fx) (mg:Str→Option Value) (base:Heap) (a:Str→Addr):Prop where
  hxa:F.xa=none
  h0:F.lam=none
  hsys:∃ o,base.get? sysModules=some o
section
variable {P:Program} {w:World} {F:Fx} {mg:Str→Option Value} {base:Heap} {a:Str→Addr} {d:Str→FuncData}
theorem sc_is_among:FnScope N_is_among P_is_among (defScope st_is_among):=⟨rfl,rfl,rfl,by decide +kernel,rfl,by decide +kernel,by decide +kernel⟩
theorem ok_is_among (T:Txt P w F mg a d):FnG false P w F.K mg base 2 (a "is_among") (d "is_among") P_is_among (spF F 3 (bodyF 3 s_is_among)):=by
  refine def_ok (k:=1) (N:=N_is_among) T.f_is_among.fn sc_is_among fun cdv A outer s H E hr hg=>?_
  have tk:=takes_of (X:=cxOf (L2.CX P w) P w F.K mg base N_is_among "is_among" (defScope st_is_among) (a "is_among") cdv A outer s H E) (E:=E) rfl rfl rfl rfl
  have po:=passes_of (X:=cxOf (L2.CX P w) P w F.K mg base N_is_among "is_among" (defScope st_is_among) (a "is_among") cdv A outer s H E) rfl
  have nd:(cxOf (L2.CX P w) P w F.K mg base N_is_among "is_among" (defScope st_is_among) (a "is_among") cdv A outer s H E).N.Nodup:=sc_is_among.nd
  exact (r_pone (r_ret (r_eand (r_isi (T:=.int) rfl (by decide) rfl T.n_isinstance rfl T.n_int (by decide +kernel) (r_var (pv 0))) (r_eand (r_enot (r_isi (T:=.bl) rfl (by decide) rfl T.n_isinstance rfl T.n_bool (by decide +kernel) (r_var (pv 0)))) (pe_one (r_chain bo_I0 op_le ok_le op_le ok_le (r_var (pv 1)) (r_var (pv 0)) (r_var (pv 2))))))))
theorem c_is_among (T:Txt P w F mg a d):FnG false P w F.K mg base 2 (a "is_among") (d "is_among") P_is_among (spF F 3 F_is_among):=(ok_is_among T).imp fun _ _ _ _ h=>sp_called h
theorem sc_is_row:FnScope N_is_row P_is_row (defScope st_is_row):=⟨rfl,rfl,rfl,by decide +kernel,rfl,by decide +kernel,by decide +kernel⟩
theorem ok_is_row (T:Txt P w F mg a d):FnG false P w F.K mg base 2 (a "is_row") (d "is_row") P_is_row (spF F 2 (bodyF 2 s_is_row)):=by
  refine def_ok (k:=1) (N:=N_is_row) T.f_is_row.fn sc_is_row fun cdv A outer s H E hr hg=>?_
  have tk:=takes_of (X:=cxOf (L2.CX P w) P w F.K mg base N_is_row "is_row" (defScope st_is_row) (a "is_row") cdv A outer s H E) (E:=E) rfl rfl rfl rfl
  have po:=passes_of (X:=cxOf (L2.CX P w) P w F.K mg base N_is_row "is_row" (defScope st_is_row) (a "is_row") cdv A outer s H E) rfl
  have nd:(cxOf (L2.CX P w) P w F.K mg base N_is_row "is_row" (defScope st_is_row) (a "is_row") cdv A outer s H E).N.Nodup:=sc_is_row.nd
  exact (r_pone (r_ret (r_eand (r_isi (T:=.tup) rfl (by decide) rfl T.n_isinstance rfl T.n_tuple (by decide +kernel) (r_var (pv 0))) (pe_one (r_cmp (or_eq hr rfl) ok_eq (r_callB (cr_len rfl) ok_len rfl T.n_len (by decide +kernel) (r_cons (r_var (pv 0)) r_nil)) (r_var (pv 1)) (nomark _))))))
theorem c_is_row (T:Txt P w F mg a d):FnG false P w F.K mg base 2 (a "is_row") (d "is_row") P_is_row (spF F 2 F_is_row):=(ok_is_row T).imp fun _ _ _ _ h=>sp_called h
theorem sc_all_standings:FnScope N_all_standings P_all_standings (defScope st_all_standings):=⟨rfl,rfl,rfl,by decide +kernel,rfl,by decide +kernel,by decide +kernel⟩
theorem ok_all_standings (T:Txt P w F mg a d):FnG false P w F.K mg base 2 (a "all_standings") (d "all_standings") P_all_standings (spF F 1 (bodyF 6 s_all_standings)):=by
  refine def_ok (k:=1) (N:=N_all_standings) T.f_all_standings.fn sc_all_standings fun cdv A outer s H E hr hg=>?_
  have tk:=takes_of (X:=cxOf (L2.CX P w) P w F.K mg base N_all_standings "all_standings" (defScope st_all_standings) (a "all_standings") cdv A outer s H E) (E:=E) rfl rfl rfl rfl
  have po:=passes_of (X:=cxOf (L2.CX P w) P w F.K mg base N_all_standings "all_standings" (defScope st_all_standings) (a "all_standings") cdv A outer s H E) rfl
  have nd:(cxOf (L2.CX P w) P w F.K mg base N_all_standings "all_standings" (defScope st_all_standings) (a "all_standings") cdv A outer s H E).N.Nodup:=sc_all_standings.nd
  exact (r_pcons (r_set (i:=1) nd rfl (.inl rfl) (r_lst (r_cons (r_tup r_nil) r_nil)))
  (r_pcons (r_for po rfl (ri_tup rfl (r_var (pv 0))) (go_mk (sl:=[2,3]) (pg_tup rfl (pgs_cons (pg_name (i:=2) nd rfl (.inl rfl)) (pgs_cons (pg_name (i:=3) nd rfl (.inr rfl)) pgs_nil))) (gr_tup rfl (grs_cons gr_name (grs_cons gr_name grs_nil)))) (r_pone (r_setLc2 (i:=1) (own:=[("row",4),("value",5)]) (vs1:=[5]) (sl:=[4]) (sl1:=[5]) (gf:=(gN 4)) (gf1:=(gN 5)) rfl nd rfl rfl rfl (ri_lst rfl (r_var (pv 1))) (show BlkOk N_all_standings (defScope st_all_standings) _ [("row",4),("value",5)] from ⟨rfl,by decide +kernel,by decide +kernel,by decide +kernel,by decide +kernel⟩) (by decide) gr_name (by decide) gr_name (by decide) (fun _ _ _ _ _=>(pg_name (i:=4) nd rfl (.inl rfl))) (fun _ _ _ _ _=>rt_nil) (fun _ _ _ _ _=>(ri_range1 rfl T.n_range (r_cons (r_bin (or_add rfl) ok_add (r_var (pv 3)) r_int) r_nil))) (fun _ _ _ _ _=>(pg_name (i:=5) nd rfl (.inl rfl))) (fun _ _ _ _ _=>rt_nil) (fun _ _ _ _ _=>(r_tup (r_star rfl (r_var (pv 4)) (r_cons (r_var (pv 5)) r_nil)))))))
  (r_pone (r_ret (r_var (pv 1))))))
theorem c_all_standings (T:Txt P w F mg a d):FnG false P w F.K mg base 2 (a "all_standings") (d "all_standings") P_all_standings (spF F 1 F_all_standings):=(ok_all_standings T).imp fun _ _ _ _ h=>sp_called h
theorem sc_standings:GScope N_standings P_standings (defScope st_standings):=⟨rfl,rfl,rfl,by decide +kernel,rfl,by decide +kernel,by decide +kernel⟩
theorem c_standings (T:Txt P w F mg a d):∀ (cdv:Value) (A:Around) (outer:List Env) (s:Shared) (H:Hp) (pn:List (Addr×Obj)),Room 3 (A.deeper (envOfC "standings" (defScope st_standings) s.heap.objs.size (a "standings") cdv))→PE (gcxOf P w F.K mg base N_standings "standings" (defScope st_standings) (a "standings") cdv A outer s H GG.noEx pn) (yfE (defBody st_standings)) (tR F W0 s_standings):=fun cdv A outer s H pn hr=>by
  have nd:(gcxOf P w F.K mg base N_standings "standings" (defScope st_standings) (a "standings") cdv A outer s H GG.noEx pn).N.Nodup:=sc_standings.nd
  exact (q_call T.f_all_standings (c_all_standings T) (fun z=>Bool.noConfusion z) hr rfl LamX.takes0 (r_cons (r_var (pv 0)) r_nil) (len_cons len_nil))
theorem sc_is_standing:FnScope N_is_standing P_is_standing (defScope st_is_standing):=⟨rfl,rfl,rfl,by decide +kernel,rfl,by decide +kernel,by decide +kernel⟩
theorem ok_is_standing (T:Txt P w F mg a d):FnG false P w F.K mg base 4 (a "is_standing") (d "is_standing") P_is_standing (spF F 2 (bodyF 4 s_is_standing)):=by
  refine def_ok (k:=3) (N:=N_is_standing) T.f_is_standing.fn sc_is_standing fun cdv A outer s H E hr hg=>?_
  have tk:=takes_of (X:=cxOf (L2.CX P w) P w F.K mg base N_is_standing "is_standing" (defScope st_is_standing) (a "is_standing") cdv A outer s H E) (E:=E) rfl rfl rfl rfl
  have po:=passes_of (X:=cxOf (L2.CX P w) P w F.K mg base N_is_standing "is_standing" (defScope st_is_standing) (a "is_standing") cdv A outer s H E) rfl
  have nd:(cxOf (L2.CX P w) P w F.K mg base N_is_standing "is_standing" (defScope st_is_standing) (a "is_standing") cdv A outer s H E).N.Nodup:=sc_is_standing.nd
  exact (r_pcons (r_sif (r_not (r_test (q_call T.f_is_row (c_is_row T) (fun z=>Bool.noConfusion z) hr rfl tk (r_cons (r_var (pv 1)) (r_cons (r_callB (cr_len rfl) ok_len rfl T.n_len (by decide +kernel) (r_cons (r_var (pv 0)) r_nil)) r_nil)) (len_cons (len_cons len_nil))))) (r_pone (r_ret r_bl)) r_pnil)
  (r_pone (r_ret (r_callB (cr_all rfl) ok_all rfl T.n_all (by decide +kernel) (r_cons (r_lc (own:=[("value",2),("setting",3)]) (sl:=[2,3]) (gf:=(gT 2 (gsCons (gN 2) (gsCons (gN 3) gsNil)))) rfl nd (ri_zip (k1:=true) (k2:=true) rfl rfl T.n_zip (r_var (pv 1)) (r_var (pv 0))) (show BlkOk N_is_standing (defScope st_is_standing) _ [("value",2),("setting",3)] from ⟨rfl,by decide +kernel,by decide +kernel,by decide +kernel,by decide +kernel⟩) (gr_tup rfl (grs_cons gr_name (grs_cons gr_name grs_nil))) (by decide) (fun _ _ _ _ _=>(pg_tup rfl (pgs_cons (pg_name (i:=2) nd rfl (.inl rfl)) (pgs_cons (pg_name (i:=3) nd rfl (.inl rfl)) pgs_nil)))) (fun _ _ _ _ _=>rt_nil) (fun _ _ _ _ _=>(q_call T.f_is_among (c_is_among T) (fun z=>Bool.noConfusion z) hr rfl LamX.takes0 (r_cons (r_var (pv 2)) (r_cons r_int (r_cons (r_ix rfl (r_var (pv 3)) r_int (fun _ _=>rfl)) r_nil))) (len_cons (len_cons (len_cons len_nil)))))) r_nil)))))
theorem c_is_standing (T:Txt P w F mg a d):FnG false P w F.K mg base 4 (a "is_standing") (d "is_standing") P_is_standing (spF F 2 F_is_standing):=(ok_is_standing T).imp fun _ _ _ _ h=>sp_called h
theorem sc__law_begun:FnScope N__law_begun P__law_begun (defScope st__law_begun):=⟨rfl,rfl,rfl,by decide +kernel,rfl,by decide +kernel,by decide +kernel⟩
theorem ok__law_begun (T:Txt P w F mg a d):FnG false P w F.K mg base 2 (a "_law_begun") (d "_law_begun") P__law_begun (spF F 1 (bodyF 2 s__law_begun)):=by
  refine def_ok (k:=1) (N:=N__law_begun) T.f__law_begun.fn sc__law_begun fun cdv A outer s H E hr hg=>?_
  have tk:=takes_of (X:=cxOf (L2.CX P w) P w F.K mg base N__law_begun "_law_begun" (defScope st__law_begun) (a "_law_begun") cdv A outer s H E) (E:=E) rfl rfl rfl rfl
  have po:=passes_of (X:=cxOf (L2.CX P w) P w F.K mg base N__law_begun "_law_begun" (defScope st__law_begun) (a "_law_begun") cdv A outer s H E) rfl
  have nd:(cxOf (L2.CX P w) P w F.K mg base N__law_begun "_law_begun" (defScope st__law_begun) (a "_law_begun") cdv A outer s H E).N.Nodup:=sc__law_begun.nd
  exact (r_pone (r_ret (r_disp3 (by decide +kernel) (by decide +kernel) (by decide +kernel) (r_callTy call_list_of ok_listN rfl T.n_list (by decide +kernel) (r_cons (r_var (pv 0)) r_nil)) (r_lcN (own:=[("cell",1)]) (sl:=[1]) (gf:=(gN 1)) rfl nd (ri_scr rfl (r_var (pv 0))) (show BlkOk N__law_begun (defScope st__law_begun) _ [("cell",1)] from ⟨rfl,by decide +kernel,by decide +kernel,by decide +kernel,by decide +kernel⟩) gr_name (by decide) (fun _ _ _ _ _=>(pg_name (i:=1) nd rfl (.inl rfl))) (fun _ _ _ _ _=>(rt_one (r_cmpT op_ge ok_ge (r_var (pv 1)) (r_bin op_pow ok_pow r_int r_int) (nomark _)))) (fun _ _ _ _ _=>(r_var (pv 1)))) r_int)))
theorem c__law_begun (T:Txt P w F mg a d):FnG false P w F.K mg base 2 (a "_law_begun") (d "_law_begun") P__law_begun (spF F 1 F__law_begun):=(ok__law_begun T).imp fun _ _ _ _ h=>sp_begun begun_ok h
theorem sc__law_next:FnScope N__law_next P__law_next (defScope st__law_next):=⟨rfl,rfl,rfl,by decide +kernel,rfl,by decide +kernel,by decide +kernel⟩
theorem ok__law_next (T:Txt P w F mg a d):FnG false P w F.K mg base 2 (a "_law_next") (d "_law_next") P__law_next (spF F 2 (bodyF 7 s__law_next)):=by
  refine def_ok (k:=1) (N:=N__law_next) T.f__law_next.fn sc__law_next fun cdv A outer s H E hr hg=>?_
  have tk:=takes_of (X:=cxOf (L2.CX P w) P w F.K mg base N__law_next "_law_next" (defScope st__law_next) (a "_law_next") cdv A outer s H E) (E:=E) rfl rfl rfl rfl
  have po:=passes_of (X:=cxOf (L2.CX P w) P w F.K mg base N__law_next "_law_next" (defScope st__law_next) (a "_law_next") cdv A outer s H E) rfl
  have nd:(cxOf (L2.CX P w) P w F.K mg base N__law_next "_law_next" (defScope st__law_next) (a "_law_next") cdv A outer s H E).N.Nodup:=sc__law_next.nd
  exact (r_pcons (r_while 100 po (PW.pt (r_and (r_cmpT (or_ne hr rfl) ok_ne (r_dget (un1 hr) (r_var (pv 0)) r_str (fun _ _=>rfl)) (r_lst r_nil) (nomark _)) (pw_and1 (r_cmpT (or_eq hr rfl) ok_eq (r_ix rfl (r_dget (un1 hr) (r_var (pv 0)) r_str (fun _ _=>rfl)) r_int (fun _ _=>rfl)) r_int (nomark _))))) (r_pone (r_dput (un1 hr) (r_var (pv 0)) r_str (r_slR rfl (r_dget (un1 hr) (r_var (pv 0)) r_str (fun _ _=>rfl)) (ro_some r_int) ro_none))))
  (r_pcons (r_sif (r_cmpT (or_ne hr rfl) ok_ne (r_dget (un1 hr) (r_var (pv 0)) r_str (fun _ _=>rfl)) (r_lst r_nil) (nomark _)) (r_pcons (r_set (i:=2) nd rfl (.inl rfl) (r_ix rfl (r_dget (un1 hr) (r_var (pv 0)) r_str (fun _ _=>rfl)) r_int (fun _ _=>rfl)))
  (r_pcons (r_lput (r_dget (un1 hr) (r_var (pv 0)) r_str (fun _ _=>rfl)) r_int (r_bin op_fdivN ok_fdiv (r_var (pv 2)) (r_var (pv 1))))
  (r_pone (r_ret (r_bin op_modN ok_mod (r_callTy call_int1 ok_int rfl T.n_int (by decide +kernel) (r_cons (r_var (pv 2)) r_nil)) (r_var (pv 1))))))) r_pnil)
  (r_pcons (r_par2 (i:=3) (j:=4) rfl nd rfl rfl (by decide) rfl rfl (r_cons (r_bin (or_add rfl) ok_add (r_dget (un1 hr) (r_var (pv 0)) r_str (fun _ _=>rfl)) r_int) (r_cons (r_dget (un1 hr) (r_var (pv 0)) r_str (fun _ _=>rfl)) r_nil)) rfl)
  (r_pcons (r_dput (un1 hr) (r_var (pv 0)) r_str (r_var (pv 3)))
  (r_pcons (r_set (i:=5) nd rfl (.inl rfl) (r_if (r_cmpT (or_ne hr rfl) ok_ne (r_var (pv 4)) (r_lst r_nil) (nomark _)) (r_callTy call_int1 ok_int rfl T.n_int (by decide +kernel) (r_cons (r_ix rfl (r_var (pv 4)) (r_bin op_modN ok_mod (r_callTy call_int1 ok_int rfl T.n_int (by decide +kernel) (r_cons (r_bin (or_add rfl) ok_add (r_bin (or_mul rfl) ok_mul (r_var (pv 3)) (r_var (pv 3))) (r_bin op_fdivN ok_fdiv (r_var (pv 3)) r_int)) r_nil)) (r_callB (cr_len rfl) ok_len rfl T.n_len (by decide +kernel) (r_cons (r_var (pv 4)) r_nil))) (fun _ _=>rfl)) r_nil)) r_int))
  (r_pcons (r_set (i:=6) nd rfl (.inl rfl) (r_bin op_modN ok_mod (r_callTy call_int1 ok_int rfl T.n_int (by decide +kernel) (r_cons (r_bin (or_add rfl) ok_add (r_bin (or_add rfl) ok_add (r_bin (or_mul rfl) ok_mul (r_var (pv 5)) r_int) (r_bin (or_mul rfl) ok_mul (r_var (pv 3)) r_int)) (r_bin (or_mul rfl) ok_mul (r_bin (or_mul rfl) ok_mul r_int (r_var (pv 3))) (r_var (pv 3)))) r_nil)) r_int))
  (r_pone (r_ret (r_bin op_modN ok_mod (r_callTy call_int1 ok_int rfl T.n_int (by decide +kernel) (r_cons (r_bin op_fdivN ok_fdiv (r_bin op_modN ok_mod (r_callTy call_int1 ok_int rfl T.n_int (by decide +kernel) (r_cons (r_bin (or_add rfl) ok_add (r_bin (or_mul rfl) ok_mul (r_var (pv 6)) r_int) (r_bin (or_mul rfl) ok_mul r_int (r_var (pv 3)))) r_nil)) r_int) r_int) r_nil)) (r_var (pv 1)))))))))))
theorem c__law_next (T:Txt P w F mg a d):FnG false P w F.K mg base 2 (a "_law_next") (d "_law_next") P__law_next (spF F 2 F__law_next):=(ok__law_next T).imp fun _ _ _ _ h=>sp_next draw_ok h
theorem sc__law_names:FnScope N__law_names P__law_names (defScope st__law_names):=⟨rfl,rfl,rfl,by decide +kernel,rfl,by decide +kernel,by decide +kernel⟩
theorem ok__law_names (T:Txt P w F mg a d):FnG false P w F.K mg base 4 (a "_law_names") (d "_law_names") P__law_names (spF F 2 (bodyF 9 s__law_names)):=by
  refine def_ok (k:=3) (N:=N__law_names) T.f__law_names.fn sc__law_names fun cdv A outer s H E hr hg=>?_
  have tk:=takes_of (X:=cxOf (L2.CX P w) P w F.K mg base N__law_names "_law_names" (defScope st__law_names) (a "_law_names") cdv A outer s H E) (E:=E) rfl rfl rfl rfl
  have po:=passes_of (X:=cxOf (L2.CX P w) P w F.K mg base N__law_names "_law_names" (defScope st__law_names) (a "_law_names") cdv A outer s H E) rfl
  have nd:(cxOf (L2.CX P w) P w F.K mg base N__law_names "_law_names" (defScope st__law_names) (a "_law_names") cdv A outer s H E).N.Nodup:=sc__law_names.nd
  exact (r_pcons (r_asg (r_tup (r_cons r_str (r_cons r_str r_nil))) (go_mk (sl:=[2,3]) (pg_tup rfl (pgs_cons (pg_name (i:=2) nd rfl (.inr rfl)) (pgs_cons (pg_name (i:=3) nd rfl (.inr rfl)) pgs_nil))) (gr_tup rfl (grs_cons gr_name (grs_cons gr_name grs_nil)))))
  (r_pcons (r_for po rfl (ri_range1 rfl T.n_range (r_cons (q_call T.f__law_next (c__law_next T) (fun z=>Bool.noConfusion z) hr rfl tk (r_cons (r_var (pv 0)) (r_cons r_int r_nil)) (len_cons (len_cons len_nil))) r_nil)) (go_mk (sl:=[4]) (pg_name (i:=4) nd rfl (.inl rfl)) gr_name) (r_pone (r_set (i:=3) nd rfl (.inr rfl) (r_bin (or_add rfl) ok_add (r_var (pv 3)) (r_ix rfl (r_var (pv 2)) (q_call T.f__law_next (c__law_next T) (fun z=>Bool.noConfusion z) hr rfl tk (r_cons (r_var (pv 0)) (r_cons r_int r_nil)) (len_cons (len_cons len_nil))) (fun _ _=>rfl))))))
  (r_pcons (r_asg (r_tup (r_cons (q_call T.f__law_next (c__law_next T) (fun z=>Bool.noConfusion z) hr rfl tk (r_cons (r_var (pv 0)) (r_cons (r_bin (or_add rfl) ok_add (r_callB (cr_len rfl) ok_len rfl T.n_len (by decide +kernel) (r_cons (r_var (pv 3)) r_nil)) r_int) r_nil)) (len_cons (len_cons len_nil))) (r_cons (q_call T.f__law_next (c__law_next T) (fun z=>Bool.noConfusion z) hr rfl tk (r_cons (r_var (pv 0)) (r_cons r_int r_nil)) (len_cons (len_cons len_nil))) (r_cons (r_ix rfl (r_lst (r_cons r_int (r_cons r_int (r_cons r_int (r_cons r_int (r_cons r_int (r_cons r_int r_nil))))))) (q_call T.f__law_next (c__law_next T) (fun z=>Bool.noConfusion z) hr rfl tk (r_cons (r_var (pv 0)) (r_cons r_int r_nil)) (len_cons (len_cons len_nil))) (fun _ _=>rfl)) r_nil)))) (go_mk (sl:=[5,6,7]) (pg_tup rfl (pgs_cons (pg_name (i:=5) nd rfl (.inr rfl)) (pgs_cons (pg_name (i:=6) nd rfl (.inr rfl)) (pgs_cons (pg_name (i:=7) nd rfl (.inr rfl)) pgs_nil)))) (gr_tup rfl (grs_cons gr_name (grs_cons gr_name (grs_cons gr_name grs_nil))))))
  (r_pcons (r_set (i:=8) nd rfl (.inr rfl) (r_sl rfl (r_bin (or_add rfl) ok_add (r_var (pv 3)) (r_bin (or_mul rfl) ok_mul (r_ix rfl (r_var (pv 2)) (r_var (pv 6)) (fun _ _=>rfl)) r_int)) ro_none (ro_some r_int)))
  (r_pcons (r_sif (r_cmpT op_gt ok_gt (r_var (pv 7)) r_int (nomark _)) (r_pone (r_ret (r_lc (own:=[("k",4)]) (sl:=[4]) (gf:=(gN 4)) rfl nd (ri_range1 rfl T.n_range (r_cons (r_var (pv 1)) r_nil)) (show BlkOk N__law_names (defScope st__law_names) _ [("k",4)] from ⟨rfl,by decide +kernel,by decide +kernel,by decide +kernel,by decide +kernel⟩) gr_name (by decide) (fun _ _ _ _ _=>(pg_name (i:=4) nd rfl (.inl rfl))) (fun _ _ _ _ _=>rt_nil) (fun _ _ _ _ _=>(r_if (r_cmpT op_gt ok_gt (r_var (pv 7)) r_int (nomark _)) (r_sl rfl (r_var (pv 8)) (ro_some (r_var (pv 4))) ro_none) (r_sl rfl (r_var (pv 8)) ro_none (ro_some (r_bin op_sub ok_sub (r_bin (or_add rfl) ok_add (r_var (pv 4)) r_int) (r_var (pv 1)))))))))) r_pnil)
  (r_pone (r_ret (r_lc (own:=[("k",4)]) (sl:=[4]) (gf:=(gN 4)) rfl nd (ri_range1 rfl T.n_range (r_cons (r_var (pv 1)) r_nil)) (show BlkOk N__law_names (defScope st__law_names) _ [("k",4)] from ⟨rfl,by decide +kernel,by decide +kernel,by decide +kernel,by decide +kernel⟩) gr_name (by decide) (fun _ _ _ _ _=>(pg_name (i:=4) nd rfl (.inl rfl))) (fun _ _ _ _ _=>rt_nil) (fun _ _ _ _ _=>(r_bin (or_add rfl) ok_add (r_bin (or_add rfl) ok_add (r_sl rfl (r_var (pv 3)) ro_none (ro_some (r_var (pv 5)))) (r_ix rfl (r_var (pv 2)) (r_bin op_modN ok_mod (r_callTy call_int1 ok_int rfl T.n_int (by decide +kernel) (r_cons (r_bin (or_add rfl) ok_add (r_var (pv 6)) (r_bin (or_mul rfl) ok_mul (r_var (pv 7)) (r_var (pv 4)))) r_nil)) r_int) (fun _ _=>rfl))) (r_sl rfl (r_var (pv 3)) (ro_some (r_var (pv 5))) ro_none)))))))))))
theorem c__law_names (T:Txt P w F mg a d):FnG false P w F.K mg base 4 (a "_law_names") (d "_law_names") P__law_names (spF F 2 F__law_names):=(ok__law_names T).imp fun _ _ _ _ h=>sp_called h
theorem sc__law_settings:FnScope N__law_settings P__law_settings (defScope st__law_settings):=⟨rfl,rfl,rfl,by decide +kernel,rfl,by decide +kernel,by decide +kernel⟩
theorem ok__law_settings (T:Txt P w F mg a d):FnG false P w F.K mg base 6 (a "_law_settings") (d "_law_settings") P__law_settings (spF F 1 (bodyF 5 s__law_settings)):=by
  refine def_ok (k:=5) (N:=N__law_settings) T.f__law_settings.fn sc__law_settings fun cdv A outer s H E hr hg=>?_
  have tk:=takes_of (X:=cxOf (L2.CX P w) P w F.K mg base N__law_settings "_law_settings" (defScope st__law_settings) (a "_law_settings") cdv A outer s H E) (E:=E) rfl rfl rfl rfl
  have po:=passes_of (X:=cxOf (L2.CX P w) P w F.K mg base N__law_settings "_law_settings" (defScope st__law_settings) (a "_law_settings") cdv A outer s H E) rfl
  have nd:(cxOf (L2.CX P w) P w F.K mg base N__law_settings "_law_settings" (defScope st__law_settings) (a "_law_settings") cdv A outer s H E).N.Nodup:=sc__law_settings.nd
  exact (r_pcons (r_set (i:=1) nd rfl (.inl rfl) (r_lst (r_cons (r_tup (r_cons r_int r_nil)) (r_cons (r_tup (r_cons r_int r_nil)) (r_cons (r_tup (r_cons r_int r_nil)) (r_cons (r_tup (r_cons r_int (r_cons r_int r_nil))) (r_cons (r_tup (r_cons r_int (r_cons r_int r_nil))) (r_cons (r_tup (r_cons r_int (r_cons r_int r_nil))) (r_cons (r_tup (r_cons r_int (r_cons r_int r_nil))) (r_cons (r_tup (r_cons r_int (r_cons r_int r_nil))) (r_cons (r_tup (r_cons r_int (r_cons r_int r_nil))) (r_cons (r_tup (r_cons r_int (r_cons r_int (r_cons r_int r_nil)))) (r_cons (r_tup (r_cons r_int (r_cons r_int (r_cons r_int r_nil)))) (r_cons (r_tup (r_cons r_int (r_cons r_int (r_cons r_int r_nil)))) r_nil))))))))))))))
  (r_pcons (r_set (i:=2) nd rfl (.inl rfl) (r_ix rfl (r_var (pv 1)) (q_call T.f__law_next (c__law_next T) (fun z=>Bool.noConfusion z) hr rfl tk (r_cons (r_var (pv 0)) (r_cons r_int r_nil)) (len_cons (len_cons len_nil))) (fun _ _=>rfl)))
  (r_pone (r_ret (r_callTy (call_tupF rfl) ok_tupF rfl T.n_tuple (by decide +kernel) (r_cons (r_lc (own:=[("name",3),("most",4)]) (sl:=[3,4]) (gf:=(gT 2 (gsCons (gN 3) (gsCons (gN 4) gsNil)))) rfl nd (ri_zip (k1:=false) (k2:=true) rfl rfl T.n_zip (q_call T.f__law_names (c__law_names T) (fun z=>Bool.noConfusion z) hr rfl tk (r_cons (r_var (pv 0)) (r_cons (r_callB (cr_len rfl) ok_len rfl T.n_len (by decide +kernel) (r_cons (r_var (pv 2)) r_nil)) r_nil)) (len_cons (len_cons len_nil))) (r_var (pv 2))) (show BlkOk N__law_settings (defScope st__law_settings) _ [("name",3),("most",4)] from ⟨rfl,by decide +kernel,by decide +kernel,by decide +kernel,by decide +kernel⟩) (gr_tup rfl (grs_cons gr_name (grs_cons gr_name grs_nil))) (by decide) (fun _ _ _ _ _=>(pg_tup rfl (pgs_cons (pg_name (i:=3) nd rfl (.inl rfl)) (pgs_cons (pg_name (i:=4) nd rfl (.inl rfl)) pgs_nil)))) (fun _ _ _ _ _=>rt_nil) (fun _ _ _ _ _=>(r_tup (r_cons (r_var (pv 3)) (r_cons (r_var (pv 4)) r_nil))))) r_nil))))))
theorem c__law_settings (T:Txt P w F mg a d):FnG false P w F.K mg base 6 (a "_law_settings") (d "_law_settings") P__law_settings (spF F 1 F__law_settings):=(ok__law_settings T).imp fun _ _ _ _ h=>sp_called h
theorem sc__law_odd:FnScope N__law_odd P__law_odd (defScope st__law_odd):=⟨rfl,rfl,rfl,by decide +kernel,rfl,by decide +kernel,by decide +kernel⟩
theorem ok__law_odd (T:Txt P w F mg a d):FnG false P w F.K mg base 4 (a "_law_odd") (d "_law_odd") P__law_odd (spF F 1 (bodyF 2 s__law_odd)):=by
  refine def_ok (k:=3) (N:=N__law_odd) T.f__law_odd.fn sc__law_odd fun cdv A outer s H E hr hg=>?_
  have tk:=takes_of (X:=cxOf (L2.CX P w) P w F.K mg base N__law_odd "_law_odd" (defScope st__law_odd) (a "_law_odd") cdv A outer s H E) (E:=E) rfl rfl rfl rfl
  have po:=passes_of (X:=cxOf (L2.CX P w) P w F.K mg base N__law_odd "_law_odd" (defScope st__law_odd) (a "_law_odd") cdv A outer s H E) rfl
  have nd:(cxOf (L2.CX P w) P w F.K mg base N__law_odd "_law_odd" (defScope st__law_odd) (a "_law_odd") cdv A outer s H E).N.Nodup:=sc__law_odd.nd
  exact (r_pcons (r_set (i:=1) nd rfl (.inl rfl) (r_lst (r_cons r_non (r_cons r_int (r_cons r_int (r_cons r_int (r_cons r_int (r_cons (r_neg r_int) (r_cons r_int (r_cons r_bl (r_cons r_bl (r_cons r_str (r_cons r_str (r_cons r_str (r_cons r_str (r_cons r_str (r_cons r_str (r_cons (r_tup r_nil) (r_cons (r_tup (r_cons (r_tup r_nil) r_nil)) (r_cons (r_tup (r_cons r_str (r_cons r_int r_nil))) r_nil))))))))))))))))))))
  (r_pone (r_ret (r_ix rfl (r_bin (or_add rfl) ok_add (r_var (pv 1)) (r_lst (r_cons (r_lst r_nil) (r_cons r_dnil (r_cons (r_bin op_pow ok_pow r_int r_int) (r_cons (r_tup (r_cons r_str r_nil)) (r_cons (r_tup (r_cons (r_tup (r_cons r_str r_nil)) r_nil)) (r_cons r_str (r_cons r_str (r_cons (r_tup (r_cons r_str (r_cons r_str (r_cons r_int r_nil)))) r_nil)))))))))) (q_call T.f__law_next (c__law_next T) (fun z=>Bool.noConfusion z) hr rfl tk (r_cons (r_var (pv 0)) (r_cons r_int r_nil)) (len_cons (len_cons len_nil))) (fun _ _=>rfl)))))
theorem c__law_odd (T:Txt P w F mg a d):FnG false P w F.K mg base 4 (a "_law_odd") (d "_law_odd") P__law_odd (spF F 1 F__law_odd):=(ok__law_odd T).imp fun _ _ _ _ h=>sp_called h
theorem sc__law_bent:FnScope N__law_bent P__law_bent (defScope st__law_bent):=⟨rfl,rfl,rfl,by decide +kernel,rfl,by decide +kernel,by decide +kernel⟩
theorem ok__law_bent (T:Txt P w F mg a d):∀ n:Nat,FnG false P w F.K mg base (5 + n) (a "_law_bent") (d "_law_bent") P__law_bent (spF F 2 (B__law_bent n))
  | 0=>⟨fun vs H Q E h=>h.1,fun A outer s H args us vs Q E _ _ _ _ _ h=>by
    obtain ⟨_,B,ι,S,ws,_,_,c⟩:=h
    exact (show False from c).elim⟩
  | n + 1=>by
    have hrec:=ok__law_bent T n
    refine FnG.imp (def_ok (k:=5 + n) (N:=N__law_bent) (g:=s__law_bent (B__law_bent n)) T.f__law_bent.fn sc__law_bent fun cdv A outer s H E hr hg=>?_) fun _ _ _ _ h=>sp_called h
    have tk:=takes_of (X:=cxOf (L2.CX P w) P w F.K mg base N__law_bent "_law_bent" (defScope st__law_bent) (a "_law_bent") cdv A outer s H E) (E:=E) rfl rfl rfl rfl
    have po:=passes_of (X:=cxOf (L2.CX P w) P w F.K mg base N__law_bent "_law_bent" (defScope st__law_bent) (a "_law_bent") cdv A outer s H E) rfl
    have nd:(cxOf (L2.CX P w) P w F.K mg base N__law_bent "_law_bent" (defScope st__law_bent) (a "_law_bent") cdv A outer s H E).N.Nodup:=sc__law_bent.nd
    exact (r_pcons (r_sif (PW.pt (r_and (r_test (r_isi (T:=.str) rfl (by decide) rfl T.n_isinstance rfl T.n_str (by decide +kernel) (r_var (pv 1)))) (pw_and1 (r_cmpT (or_eq hr rfl) ok_eq (q_call T.f__law_next (c__law_next T) (fun z=>Bool.noConfusion z) hr rfl tk (r_cons (r_var (pv 0)) (r_cons r_int r_nil)) (len_cons (len_cons len_nil))) r_int (nomark _))))) (r_pone (r_ret (r_ix rfl (r_lst (r_cons (r_bin (or_add rfl) ok_add (r_var (pv 1)) r_str) (r_cons (r_sl rfl (r_var (pv 1)) (ro_some r_int) ro_none) (r_cons (r_bin (or_add rfl) ok_add (r_var (pv 1)) r_str) (r_cons (r_bin (or_add rfl) ok_add (r_var (pv 1)) r_str) (r_cons (r_bin (or_mul rfl) ok_mul (r_var (pv 1)) r_int) (r_cons (r_bin (or_add rfl) ok_add (r_var (pv 1)) r_str) r_nil))))))) (q_call T.f__law_next (c__law_next T) (fun z=>Bool.noConfusion z) hr rfl tk (r_cons (r_var (pv 0)) (r_cons r_int r_nil)) (len_cons (len_cons len_nil))) (fun _ _=>rfl)))) r_pnil)
  (r_pcons (r_sif (PW.pt (r_and (r_test (r_isi (T:=.int) rfl (by decide) rfl T.n_isinstance rfl T.n_int (by decide +kernel) (r_var (pv 1)))) (r_and (r_not (r_test (r_isi (T:=.bl) rfl (by decide) rfl T.n_isinstance rfl T.n_bool (by decide +kernel) (r_var (pv 1))))) (pw_and1 (r_cmpT (or_eq hr rfl) ok_eq (q_call T.f__law_next (c__law_next T) (fun z=>Bool.noConfusion z) hr rfl tk (r_cons (r_var (pv 0)) (r_cons r_int r_nil)) (len_cons (len_cons len_nil))) r_int (nomark _)))))) (r_pone (r_ret (r_bin (or_add rfl) ok_add (r_var (pv 1)) (r_ix rfl (r_lst (r_cons r_int (r_cons (r_neg r_int) (r_cons r_int (r_cons (r_neg r_int) (r_cons r_int (r_cons (r_neg r_int) r_nil))))))) (q_call T.f__law_next (c__law_next T) (fun z=>Bool.noConfusion z) hr rfl tk (r_cons (r_var (pv 0)) (r_cons r_int r_nil)) (len_cons (len_cons len_nil))) (fun _ _=>rfl))))) r_pnil)
  (r_pcons (r_sif (PW.pt (r_or (r_not (r_test (r_isi (T:=.tup) rfl (by decide) rfl T.n_isinstance rfl T.n_tuple (by decide +kernel) (r_var (pv 1))))) (r_or (r_cmpT (or_eqE (un0 hr) rfl) ok_eqE (r_var (pv 1)) (r_tup r_nil) (nomark _)) (pw_or1 (r_cmpT (or_eq hr rfl) ok_eq (q_call T.f__law_next (c__law_next T) (fun z=>Bool.noConfusion z) hr rfl tk (r_cons (r_var (pv 0)) (r_cons r_int r_nil)) (len_cons (len_cons len_nil))) r_int (nomark _)))))) (r_pone (r_ret (q_call T.f__law_odd (c__law_odd T) (fun z=>Bool.noConfusion z) hr rfl tk (r_cons (r_var (pv 0)) r_nil) (len_cons len_nil)))) r_pnil)
  (r_pcons (r_par2 (i:=2) (j:=3) rfl nd rfl rfl (by decide) rfl rfl (r_cons (q_call T.f__law_next (c__law_next T) (fun z=>Bool.noConfusion z) hr rfl tk (r_cons (r_var (pv 0)) (r_cons (r_callB (cr_len rfl) ok_len rfl T.n_len (by decide +kernel) (r_cons (r_var (pv 1)) r_nil)) r_nil)) (len_cons (len_cons len_nil))) (r_cons (q_call T.f__law_next (c__law_next T) (fun z=>Bool.noConfusion z) hr rfl tk (r_cons (r_var (pv 0)) (r_cons r_int r_nil)) (len_cons (len_cons len_nil))) r_nil)) rfl)
  (r_pcons (r_sif (r_cmpT (or_eq hr rfl) ok_eq (r_var (pv 3)) r_int (nomark _)) (r_pone (r_ret (r_bin (or_add rfl) ok_add (r_sl rfl (r_var (pv 1)) ro_none (ro_some (r_var (pv 2)))) (r_sl rfl (r_var (pv 1)) (ro_some (r_bin (or_add rfl) ok_add (r_var (pv 2)) r_int)) ro_none)))) r_pnil)
  (r_pcons (r_sif (r_cmpT (or_eq hr rfl) ok_eq (r_var (pv 3)) r_int (nomark _)) (r_pone (r_ret (r_bin (or_add rfl) ok_add (r_var (pv 1)) (r_sl rfl (r_var (pv 1)) (ro_some (r_var (pv 2))) (ro_some (r_bin (or_add rfl) ok_add (r_var (pv 2)) r_int)))))) r_pnil)
  (r_pcons (r_sif (r_cmpT (or_eq hr rfl) ok_eq (r_var (pv 3)) r_int (nomark _)) (r_pone (r_ret (r_callTy call_list_of ok_list rfl T.n_list (by decide +kernel) (r_cons (r_var (pv 1)) r_nil)))) r_pnil)
  (r_pcons (r_sif (r_cmpT (or_eq hr rfl) ok_eq (r_var (pv 3)) r_int (nomark _)) (r_pone (r_ret (r_bin (or_add rfl) ok_add (r_bin (or_add rfl) ok_add (r_sl rfl (r_var (pv 1)) ro_none (ro_some (r_var (pv 2)))) (r_tup (r_cons (q_call T.f__law_odd (c__law_odd T) (fun z=>Bool.noConfusion z) hr rfl tk (r_cons (r_var (pv 0)) r_nil) (len_cons len_nil)) r_nil))) (r_sl rfl (r_var (pv 1)) (ro_some (r_var (pv 2))) ro_none)))) r_pnil)
  (r_pcons (r_sif (r_cmpT (or_eq hr rfl) ok_eq (r_var (pv 3)) r_int (nomark _)) (r_pone (r_ret (r_back rfl (r_var (pv 1))))) r_pnil)
  (r_pone (r_ret (r_bin (or_add rfl) ok_add (r_bin (or_add rfl) ok_add (r_sl rfl (r_var (pv 1)) ro_none (ro_some (r_var (pv 2)))) (r_tup (r_cons (q_call T.f__law_bent hrec (fun z=>Bool.noConfusion z) hr rfl tk (r_cons (r_var (pv 0)) (r_cons (r_ix rfl (r_var (pv 1)) (r_var (pv 2)) (fun _ _=>rfl)) r_nil)) (len_cons (len_cons len_nil))) r_nil))) (r_sl rfl (r_var (pv 1)) (ro_some (r_bin (or_add rfl) ok_add (r_var (pv 2)) r_int)) ro_none)))))))))))))
theorem c__law_bent (T:Txt P w F mg a d):FnG false P w F.K mg base 13 (a "_law_bent") (d "_law_bent") P__law_bent (spF F 2 F__law_bent):=ok__law_bent T 8
theorem sc__law_standings:FnScope N__law_standings P__law_standings (defScope st__law_standings):=⟨rfl,rfl,rfl,by decide +kernel,rfl,by decide +kernel,by decide +kernel⟩
theorem ok__law_standings (T:Txt P w F mg a d):FnG false P w F.K mg base 2 (a "_law_standings") (d "_law_standings") P__law_standings (spF F 1 (bodyF 7 s__law_standings)):=by
  refine def_ok (k:=1) (N:=N__law_standings) T.f__law_standings.fn sc__law_standings fun cdv A outer s H E hr hg=>?_
  have tk:=takes_of (X:=cxOf (L2.CX P w) P w F.K mg base N__law_standings "_law_standings" (defScope st__law_standings) (a "_law_standings") cdv A outer s H E) (E:=E) rfl rfl rfl rfl
  have po:=passes_of (X:=cxOf (L2.CX P w) P w F.K mg base N__law_standings "_law_standings" (defScope st__law_standings) (a "_law_standings") cdv A outer s H E) rfl
  have nd:(cxOf (L2.CX P w) P w F.K mg base N__law_standings "_law_standings" (defScope st__law_standings) (a "_law_standings") cdv A outer s H E).N.Nodup:=sc__law_standings.nd
  exact (r_pcons (r_set (i:=1) nd rfl (.inl rfl) (r_lst (r_cons (r_tup r_nil) r_nil)))
  (r_pcons (r_for po rfl (ri_tup rfl (r_var (pv 0))) (go_mk (sl:=[2,3]) (pg_tup rfl (pgs_cons (pg_name (i:=2) nd rfl (.inl rfl)) (pgs_cons (pg_name (i:=3) nd rfl (.inl rfl)) pgs_nil))) (gr_tup rfl (grs_cons gr_name (grs_cons gr_name grs_nil)))) (r_pcons (r_set (i:=4) nd rfl (.inl rfl) (r_newL r_nil))
  (r_pcons (r_for po rfl (ri_lst rfl (r_callTy call_list_of ok_list rfl T.n_list (by decide +kernel) (r_cons (r_var (pv 1)) r_nil))) (go_mk (sl:=[5]) (pg_name (i:=5) nd rfl (.inl rfl)) gr_name) (r_pone (r_for po rfl (ri_range1 rfl T.n_range (r_cons (r_bin (or_add rfl) ok_add (r_var (pv 3)) r_int) r_nil)) (go_mk (sl:=[6]) (pg_name (i:=6) nd rfl (.inl rfl)) gr_name) (r_pone (r_expr (r_append rfl (r_var (pv 4)) (r_cons (r_bin (or_add rfl) ok_add (r_var (pv 5)) (r_tup (r_cons (r_var (pv 6)) r_nil))) r_nil)))))))
  (r_pone (r_set (i:=1) nd rfl (.inl rfl) (r_var (pv 4)))))))
  (r_pone (r_ret (r_var (pv 1))))))
theorem c__law_standings (T:Txt P w F mg a d):FnG false P w F.K mg base 2 (a "_law_standings") (d "_law_standings") P__law_standings (spF F 1 F__law_standings):=(ok__law_standings T).imp fun _ _ _ _ h=>sp_called h
theorem sc_law:FnScope N_law P_law (defScope st_law):=⟨rfl,rfl,rfl,by decide +kernel,rfl,by decide +kernel,by decide +kernel⟩
theorem ok_law (T:Txt P w F mg a d) (L:Lm F mg base a):FnG true P w F.K mg base 15 (a "law") (d "law") P_law (spF F 1 (bodyF 11 s_law)):=by
  refine def_ok (k:=14) (N:=N_law) T.f_law.fn sc_law fun cdv A outer s H E hr hg=>?_
  have tk:=takes_of (X:=cxOf (L2.CX P w) P w F.K mg base N_law "law" (defScope st_law) (a "law") cdv A outer s H E) (E:=E) rfl rfl rfl rfl
  have po:=passes_of (X:=cxOf (L2.CX P w) P w F.K mg base N_law "law" (defScope st_law) (a "law") cdv A outer s H E) rfl
  have nd:(cxOf (L2.CX P w) P w F.K mg base N_law "law" (defScope st_law) (a "law") cdv A outer s H E).N.Nodup:=sc_law.nd
  exact (r_pcons (r_set (i:=1) nd rfl (.inl rfl) (q_call T.f__law_begun (c__law_begun T) (fun z=>Bool.noConfusion z) hr rfl tk (r_cons (r_var (pv 0)) r_nil) (len_cons len_nil)))
  (r_pcons (r_for po rfl (ri_range1 rfl T.n_range (r_cons (r_bin (or_add rfl) ok_add r_int (r_callB (call_min2 rfl) ok_min2 rfl T.n_min (by decide +kernel) (r_cons (r_callB (cr_len rfl) ok_len rfl T.n_len (by decide +kernel) (r_cons (r_var (pv 0)) r_nil)) (r_cons r_int r_nil)))) r_nil)) (go_mk (sl:=[2]) (pg_name (i:=2) nd rfl (.inl rfl)) gr_name) (r_pcons (r_set (i:=3) nd rfl (.inr rfl) (q_call T.f__law_settings (c__law_settings T) (fun z=>Bool.noConfusion z) hr rfl tk (r_cons (r_var (pv 1)) r_nil) (len_cons len_nil)))
  (r_pcons (r_set (i:=4) nd rfl (.inl rfl) (q_call T.f__law_standings (c__law_standings T) (fun z=>Bool.noConfusion z) hr rfl tk (r_cons (r_co (r_var (pv 3))) r_nil) (len_cons len_nil)))
  (r_pcons (r_sif (r_cmpT (or_ne hr rfl) ok_ne (r_lc (own:=[("again",5)]) (sl:=[5]) (gf:=(gN 5)) rfl nd (ri_range1 rfl T.n_range (r_cons r_int r_nil)) (show BlkOk N_law (defScope st_law) _ [("again",5)] from ⟨rfl,by decide +kernel,by decide +kernel,by decide +kernel,by decide +kernel⟩) gr_name (by decide) (fun _ _ _ _ _=>(pg_name (i:=5) nd rfl (.inl rfl))) (fun _ _ _ _ _=>rt_nil) (fun _ _ _ _ _=>(r_callB (cr_repr rfl (hg rfl) (have z:=un66A hr; z) L.hsys) ok_repr rfl T.n_repr (by decide +kernel) (r_cons (r_lcG T.f_standings ⟨_,_,rfl⟩ sc_standings (c_standings T) hr rfl (r_cons (r_co (r_var (pv 3))) r_nil) (show BlkOk N_law { kind:=.function,names:=_,isGenerator:=false,isCoroutine:=false } _ [("row",6)] from ⟨rfl,by decide +kernel,by decide +kernel,(fun y hy z=>absurd z ((show ∀ q∈Scope.names _,q.2 ≠ NameKind.free by decide +kernel) y hy)),by decide +kernel⟩) rfl (len_cons len_nil)) r_nil)))) (r_bin op_rep ok_mulL (r_lst (r_cons (r_callB (cr_repr rfl (hg rfl) (have z:=un66A hr; z) L.hsys) ok_repr rfl T.n_repr (by decide +kernel) (r_cons (r_var (pv 4)) r_nil)) r_nil)) r_int) (nomark _)) (r_pone (r_ret r_bl)) r_pnil)
  (r_pcons (r_set (i:=6) nd rfl (.inl rfl) (r_ix rfl (r_var (pv 4)) (q_call T.f__law_next (c__law_next T) (fun z=>Bool.noConfusion z) hr rfl tk (r_cons (r_var (pv 1)) (r_cons (r_callB (cr_len rfl) ok_len rfl T.n_len (by decide +kernel) (r_cons (r_var (pv 4)) r_nil)) r_nil)) (len_cons (len_cons len_nil))) (fun _ _=>rfl)))
  (r_pcons (r_set (i:=7) nd rfl (.inl rfl) (r_newL (r_cons (r_var (pv 6)) (r_cons (q_call T.f__law_bent (c__law_bent T) (fun z=>Bool.noConfusion z) hr rfl tk (r_cons (r_var (pv 1)) (r_cons (r_var (pv 6)) r_nil)) (len_cons (len_cons len_nil))) (r_cons (q_call T.f__law_bent (c__law_bent T) (fun z=>Bool.noConfusion z) hr rfl tk (r_cons (r_var (pv 1)) (r_cons (r_var (pv 6)) r_nil)) (len_cons (len_cons len_nil))) (r_cons (r_bin (or_add rfl) ok_add (r_var (pv 6)) (r_tup (r_cons r_int r_nil))) (r_cons (r_sl rfl (r_var (pv 6)) (ro_some r_int) ro_none) (r_cons (r_callTy call_list_of ok_list rfl T.n_list (by decide +kernel) (r_cons (r_var (pv 6)) r_nil)) (r_cons (q_call T.f__law_odd (c__law_odd T) (fun z=>Bool.noConfusion z) hr rfl tk (r_cons (r_var (pv 1)) r_nil) (len_cons len_nil)) r_nil)))))))))
  (r_pcons (r_expr (r_append rfl (r_var (pv 7)) (r_cons (r_callTy call_tuple_of ok_tuple rfl T.n_tuple (by decide +kernel) (r_cons (r_lc (own:=[("value",8)]) (sl:=[8]) (gf:=(gN 8)) rfl nd (ri_tup rfl (r_var (pv 6))) (show BlkOk N_law (defScope st_law) _ [("value",8)] from ⟨rfl,by decide +kernel,by decide +kernel,by decide +kernel,by decide +kernel⟩) gr_name (by decide) (fun _ _ _ _ _=>(pg_name (i:=8) nd rfl (.inl rfl))) (fun _ _ _ _ _=>rt_nil) (fun _ _ _ _ _=>(r_bin (or_add rfl) ok_add (r_var (pv 8)) r_int))) r_nil)) r_nil)))
  (r_pcons (r_expr (r_append rfl (r_var (pv 7)) (r_cons (r_callTy call_tuple_of ok_tuple rfl T.n_tuple (by decide +kernel) (r_cons (r_lc (own:=[("one",9)]) (sl:=[9]) (gf:=(gN 9)) rfl nd (ri_tup rfl (r_co (r_var (pv 3)))) (show BlkOk N_law (defScope st_law) _ [("one",9)] from ⟨rfl,by decide +kernel,by decide +kernel,by decide +kernel,by decide +kernel⟩) gr_name (by decide) (fun _ _ _ _ _=>(pg_name (i:=9) nd rfl (.inl rfl))) (fun _ _ _ _ _=>rt_nil) (fun _ _ _ _ _=>(r_ix rfl (r_var (pv 9)) r_int (fun _ _=>rfl)))) r_nil)) r_nil)))
  (r_pcons (r_expr (r_append rfl (r_var (pv 7)) (r_cons (r_callTy call_tuple_of ok_tuple rfl T.n_tuple (by decide +kernel) (r_cons (r_lc (own:=[("value",8)]) (sl:=[8]) (gf:=(gN 8)) rfl nd (ri_tup rfl (r_var (pv 6))) (show BlkOk N_law (defScope st_law) _ [("value",8)] from ⟨rfl,by decide +kernel,by decide +kernel,by decide +kernel,by decide +kernel⟩) gr_name (by decide) (fun _ _ _ _ _=>(pg_name (i:=8) nd rfl (.inl rfl))) (fun _ _ _ _ _=>rt_nil) (fun _ _ _ _ _=>(r_callTy call_bool1 ok_bool1 rfl T.n_bool (by decide +kernel) (r_cons (r_var (pv 8)) r_nil)))) r_nil)) r_nil)))
  (r_pone (r_forR 100 rfl po rfl (r_var (pv 7)) (go_mk (sl:=[10]) (pg_name (i:=10) nd rfl (.inl rfl)) gr_name) (r_pone (r_sif (r_cmpT (or_ne hr rfl) ok_ne (r_callB (cr_repr rfl (hg rfl) (have z:=un66A hr; z) L.hsys) ok_repr rfl T.n_repr (by decide +kernel) (r_cons (q_call T.f_is_standing (c_is_standing T) (fun z=>Bool.noConfusion z) hr rfl tk (r_cons (r_co (r_var (pv 3))) (r_cons (r_var (pv 10)) r_nil)) (len_cons (len_cons len_nil))) r_nil)) (r_callB (cr_repr rfl (hg rfl) (have z:=un66A hr; z) L.hsys) ok_repr rfl T.n_repr (by decide +kernel) (r_cons (r_cmp (or_in (un65 hr) rfl) ok_in (r_callB (cr_repr rfl (hg rfl) (have z:=un66A hr; z) L.hsys) ok_repr rfl T.n_repr (by decide +kernel) (r_cons (r_var (pv 10)) r_nil)) (r_lc (own:=[("one",9)]) (sl:=[9]) (gf:=(gN 9)) rfl nd (ri_lst rfl (r_var (pv 4))) (show BlkOk N_law (defScope st_law) _ [("one",9)] from ⟨rfl,by decide +kernel,by decide +kernel,by decide +kernel,by decide +kernel⟩) gr_name (by decide) (fun _ _ _ _ _=>(pg_name (i:=9) nd rfl (.inl rfl))) (fun _ _ _ _ _=>rt_nil) (fun _ _ _ _ _=>(r_callB (cr_repr rfl (hg rfl) (have z:=un66A hr; z) L.hsys) ok_repr rfl T.n_repr (by decide +kernel) (r_cons (r_var (pv 9)) r_nil)))) rfl) r_nil)) (nomark _)) (r_pone (r_ret r_bl)) r_pnil)))))))))))))
  (r_pone (r_ret r_bl))))
end
end K02
set_option maxHeartbeats 1000000
namespace Ev
open PySem
def isD:W→Bool
  | .d _=>true
  | _=>false
def pln:O→Bool
  | .lst ws=>ws.all isD
  | .dct kvs=>kvs.all fun p=>isD p.2
  | .ins _ fs=>fs.all fun p=>isD p.2
  | _=>false
def Dw (cs:List Int) (rest:Sto) (c:Nat) (S:Sto):Prop:=∃ ls n,S=.drw cs ls n :: rest∧cs.length≤63∧ls.length≤63∧0≤n∧n≤(c:Int)∧rest.all pln=true
theorem Dw.mono {cs:List Int} {rest S:Sto} {c c':Nat} (h:Dw cs rest c S) (l:c≤c'):Dw cs rest c' S:=by
  obtain ⟨ls,n,e,h1,h2,h3,h4,h5⟩:=h
  exact ⟨ls,n,e,h1,h2,h3,by omega,h5⟩
theorem drop0_sub:∀ ls:List Int,(drop0 ls).length≤ls.length
  | []=>Nat.le_refl _
  | x :: ls=>by
    unfold drop0
    split
    · exact Nat.le_succ_of_le (drop0_sub ls)
    · exact Nat.le_refl _
theorem next_ok {cs:List Int} {rest S:Sto} {c:Nat} {many:Int} (h:Dw cs rest c S) (hc:c < 2 ^ 39) (hm:0 < many) (hm2:many < 1073741824) :
    ∃ (r:Int) (S':Sto),nextF [.ref 0,.d (.int many)] S=.ok (.d (.int r)) S'∧0≤r∧r < many∧Dw cs rest (c + 1) S':=by
  obtain ⟨ls,n,rfl,h1,h2,h3,h4,h5⟩:=h
  have hC:nextC cs ls n many=true:=decide_eq_true ⟨hm,hm2,h3,by omega,h2,h1⟩
  refine ⟨(nextR cs ls n many).1,.drw cs (nextR cs ls n many).2.1 (nextR cs ls n many).2.2 :: rest,?_,?_,?_,?_⟩
  · simp only [nextF,List.getElem?_cons_zero,hC,if_true,List.set_cons_zero]
  · unfold nextR
    split
    · exact Int.fmod_nonneg_of_pos _ hm
    · exact Int.fmod_nonneg_of_pos _ hm
  · unfold nextR
    split
    · exact Int.fmod_lt_of_pos _ hm
    · exact Int.fmod_lt_of_pos _ hm
  · have hd:=drop0_sub ls
    refine ⟨_,_,rfl,h1,?_,?_,?_,h5⟩
    · unfold nextR
      split
      · rename_i x xs e
        rw [e] at hd
        simp only [List.length_cons] at hd ⊢
        omega
      · simp
    · unfold nextR
      split
      · exact h3
      · simp only; omega
    · unfold nextR
      split
      · simp only; omega
      · simp only; omega
theorem pln_lt {n:Nat} {o:O} (h:pln o=true):objLt n o=true:=by
  cases o with
  | lst ws =>
    simp only [pln,List.all_eq_true] at h
    simp only [objLt,List.all_eq_true]
    intro w hw
    have:=h w hw
    cases w <;> simp_all [isD,refLt]
  | dct kvs =>
    simp only [pln,List.all_eq_true] at h
    simp only [objLt,List.all_eq_true]
    intro p hp
    have:=h p hp
    obtain ⟨k,w⟩:=p
    cases w <;> simp_all [isD,refLt]
  | drw _ _ _=>simp [pln] at h
  | ins _ fs =>
    simp only [pln,List.all_eq_true] at h
    simp only [objLt,List.all_eq_true]
    intro p hp
    have:=h p hp
    obtain ⟨k,w⟩:=p
    cases w <;> simp_all [isD,refLt]
  | tup _=>simp [pln] at h
  | kd _=>simp [pln] at h
theorem Dw.len {cs:List Int} {rest S:Sto} {c:Nat} (h:Dw cs rest c S):S.length=rest.length + 1:=by
  obtain ⟨ls,n,rfl,_⟩:=h
  rfl
theorem Dw.lt {cs:List Int} {rest S:Sto} {c n:Nat} (h:Dw cs rest c S):S.all (objLt n)=true:=by
  obtain ⟨ls,k,rfl,_,_,_,_,h5⟩:=h
  rw [List.all_cons]
  simp only [objLt,Bool.true_and,List.all_eq_true]
  exact fun o ho=>pln_lt (List.all_eq_true.mp h5 o ho)
theorem called_draw {f:FF} {ws:List W} {cs:List Int} {rest S S1:Sto} {c c1:Nat} {d:D} (hd:dats ws=none) (h:Dw cs rest c S) (e:f ws S=.ok (.d d) S1) (h1:Dw cs rest c1 S1):called f ws S=.ok (.d d) S1:=by
  unfold called
  rw [hd]
  simp only [e]
  have l:S.length=S1.length:=by rw [h.len,h1.len]
  have t:S1.take S.length=S1:=by rw [l,List.take_length]
  rw [t,h1.lt,l]
  simp [handOut,refLt]
theorem called_data {f:FF} {ws:List W} {ds:List D} {S S1:Sto} {d:D} (hd:dats ws=some ds) (e:f ws []=.ok (.d d) S1):called f ws S=.ok (.d d) S:=by
  unfold called
  rw [hd]
  simp only [e,seenN,seen,view]
theorem range_len (n:Nat):(rangeD 0 n).length=n:=by simp [rangeD]
mutual
def szD:D→Nat
  | .str z=>z.length + 1
  | .tup xs=>1 + szDs xs
  | .lst xs=>1 + szDs xs
  | _=>1
def szDs:List D→Nat
  | []=>0
  | x :: xs=>szD x + szDs xs
end
theorem szDs_app:∀ xs ys:List D,szDs (xs ++ ys)=szDs xs + szDs ys
  | [],ys=>by simp [szDs]
  | x :: xs,ys=>by simp [szDs,szDs_app xs ys]; omega
theorem szD_pos:∀ d:D,1≤szD d
  | .non=>Nat.le_refl _ | .bl _=>Nat.le_refl _ | .int _=>Nat.le_refl _
  | .str _=>by simp [szD]
  | .tup _=>by simp [szD]
  | .lst _=>by simp [szD]
  | .dct _=>Nat.le_refl _ | .ins _ _=>Nat.le_refl _ | .scr _=>Nat.le_refl _ | .ftp _=>Nat.le_refl _ | .cls _=>Nat.le_refl _ | .kdc _=>Nat.le_refl _ | .exi _ _ _=>Nat.le_refl _ | .dkf _=>Nat.le_refl _
theorem szDs_len:∀ xs:List D,xs.length≤szDs xs
  | []=>Nat.le_refl _
  | x :: xs=>by
    have:=szDs_len xs
    have:=szD_pos x
    simp only [szDs,List.length_cons]
    omega
theorem szDs_mem:∀ {xs:List D} {x:D},x∈xs→szD x≤szDs xs
  | y :: ys,x,h=>by
    simp only [szDs]
    rcases List.mem_cons.mp h with rfl | h
    · omega
    · have:=szDs_mem h
      omega
theorem szDs_take:∀ (n:Nat) (xs:List D),szDs (xs.take n) + szDs (xs.drop n)=szDs xs
  | 0,xs=>by simp [szDs]
  | n + 1,[]=>by simp [szDs]
  | n + 1,x :: xs=>by
    have:=szDs_take n xs
    simp only [List.take_succ_cons,List.drop_succ_cons,szDs]
    omega
theorem szDs_drop1 (n:Nat) (xs:List D) (x:D) (h:xs[n]? = some x):szDs (xs.take n) + szD x + szDs (xs.drop (n + 1))=szDs xs:=by
  have h1:=szDs_take n xs
  have hl:n < xs.length:=(List.getElem?_eq_some_iff.mp h).1
  have h2:xs.drop n=x :: xs.drop (n + 1):=by
    rw [List.drop_eq_getElem_cons hl]
    rw [List.getElem?_eq_getElem hl] at h
    cases h
    rfl
  rw [h2] at h1
  simp only [szDs] at h1
  omega
theorem szDs_rev:∀ xs:List D,szDs xs.reverse=szDs xs
  | []=>rfl
  | x :: xs=>by simp [szDs,szDs_app,szDs_rev xs]; omega
def plC (c:Nat):Bool:=decide (32≤c∧c < 127∧c ≠ 39∧c ≠ 92)
theorem plC_lt {c:Nat} (h:plC c=true):c < 128:=by
  have:=of_decide_eq_true h
  omega
mutual
def Gd:Nat→D→Prop
  | _,.non=>True
  | _,.bl _=>True
  | k,.int i=>i.natAbs≤10 ^ 30 + 100 * k
  | _,.str z=>∀ c∈z.cps.toList,plC c=true
  | _,.dct kvs=>kvs=[]
  | k + 1,.tup xs=>Gds k xs
  | k + 1,.lst xs=>Gds k xs
  | _,_=>False
def Gds:Nat→List D→Prop
  | _,[]=>True
  | k,x :: xs=>Gd k x∧Gds k xs
end
theorem gds_iff {k:Nat}:∀ {xs:List D},Gds k xs ↔ ∀ x∈xs,Gd k x
  | []=>by simp [Gds]
  | x :: xs=>by simp [Gds,gds_iff (xs:=xs)]
mutual
theorem Gd.up:∀ {k:Nat} {d:D},Gd k d→Gd (k + 1) d
  | 0,.non,_=>by simp [Gd]
  | 0,.bl _,_=>by simp [Gd]
  | 0,.int i,h=>by simp only [Gd] at h ⊢; omega
  | 0,.str z,h=>by simp only [Gd] at h ⊢; exact h
  | 0,.dct kvs,h=>by simp only [Gd] at h ⊢; exact h
  | 0,.tup _,h=>by simp [Gd] at h
  | 0,.lst _,h=>by simp [Gd] at h
  | 0,.ins _ _,h=>by simp [Gd] at h
  | 0,.scr _,h=>by simp [Gd] at h
  | 0,.ftp _,h=>by simp [Gd] at h
  | 0,.cls _,h=>by simp [Gd] at h
  | k + 1,.non,_=>by simp [Gd]
  | k + 1,.bl _,_=>by simp [Gd]
  | k + 1,.int i,h=>by simp only [Gd] at h ⊢; omega
  | k + 1,.str z,h=>by simp only [Gd] at h ⊢; exact h
  | k + 1,.dct kvs,h=>by simp only [Gd] at h ⊢; exact h
  | k + 1,.tup xs,h=>by simp only [Gd] at h ⊢; exact Gds.up h
  | k + 1,.lst xs,h=>by simp only [Gd] at h ⊢; exact Gds.up h
  | k + 1,.ins _ _,h=>by simp [Gd] at h
  | k + 1,.scr _,h=>by simp [Gd] at h
  | k + 1,.ftp _,h=>by simp [Gd] at h
  | k + 1,.cls _,h=>by simp [Gd] at h
theorem Gds.up:∀ {k:Nat} {ds:List D},Gds k ds→Gds (k + 1) ds
  | _,[],_=>by simp [Gds]
  | k,d :: ds,h=>by simp only [Gds] at h ⊢; exact ⟨Gd.up h.1,Gds.up h.2⟩
end
theorem Gd.mono {k k':Nat} {d:D} (h:Gd k d) (l:k≤k'):Gd k' d:=by
  obtain ⟨m,rfl⟩:=Nat.exists_eq_add_of_le l
  clear l
  induction m with
  | zero=>exact h
  | succ m ih=>exact Gd.up ih
theorem Gds.mono {k k':Nat} {d:List D} (h:Gds k d) (l:k≤k'):Gds k' d:=gds_iff.mpr fun x hx=>(gds_iff.mp h x hx).mono l
theorem log40 {n:Nat} (h:n < 10 ^ 40):n.log2 < 133:=by
  by_cases h0:n=0
  · subst h0; decide
  · refine (Nat.log2_lt h0).mpr (Nat.lt_of_lt_of_le h (by decide))
mutual
theorem gd_show:∀ {k:Nat} {d:D},k≤1000→Gd k d→showD d=true∧(toPyR d).showable=true∧(toPyR d).depth≤k + 1∧(toPyR d).leavesShort 42=true∧(toPyR d).weight + 1≤140 * szD d
  | _,.non,_,_=>⟨rfl,rfl,by simp [toPyR,PyData.depth],rfl,by simp [toPyR,PyData.weight,szD]⟩
  | _,.bl _,_,_=>⟨rfl,rfl,by simp [toPyR,PyData.depth],rfl,by simp [toPyR,PyData.weight,szD]⟩
  | k,.int i,hk,h=>by
    have h:i.natAbs≤10 ^ 30 + 100 * k:=by cases k <;> simpa only [Gd] using h
    have h:i.natAbs < 10 ^ 40:=by omega
    have hl:=log40 h
    refine ⟨rfl,?_,by simp [toPyR,PyData.depth],?_,?_⟩
    · simp only [toPyR,PyData.showable,decide_eq_true_eq]; omega
    · simp only [toPyR,PyData.leavesShort,PyData.shown]
      have:=int_text_length_le10 (k:=40) (by decide) h
      have e:(Str.ofString (toString i)).length=(toString i).length:=by
        first
          | exact PySem.ofString_length _
          | simp
      exact decide_eq_true (by rw [e]; omega)
    · simp only [toPyR,PyData.weight,szD]
      split <;> omega
  | k,.str z,_,h=>by
    have h:∀ c∈z.cps.toList,c < 128:=fun c hc=>plC_lt ((show ∀ c∈z.cps.toList,plC c=true by cases k <;> simpa only [Gd] using h) c hc)
    refine ⟨rfl,rfl,by simp [toPyR,PyData.depth],?_,?_⟩
    · simp only [toPyR,PyData.leavesShort,List.all_eq_true,decide_eq_true_eq]
      exact fun c hc=>Nat.lt_of_lt_of_le (h c hc) (by decide)
    · simp only [toPyR,PyData.weight,szD]
      have:z.length=z.cps.size:=rfl
      omega
  | k,.dct kvs,_,h=>by
    have h:kvs=[]:=by cases k <;> simpa only [Gd] using h
    subst h
    exact ⟨rfl,rfl,by simp [toPyR,PyData.depth,PyData.depthKv],rfl,by simp [toPyR,PyData.weight,PyData.weightKv,szD]⟩
  | k + 1,.tup xs,hk,h=>by
    obtain ⟨h1,h2,h3,h4,h5⟩:=gds_show (k:=k) (ds:=xs) (by omega) (by simpa only [Gd] using h)
    refine ⟨h1,h2,?_,h4,?_⟩
    · simp only [toPyR,PyData.depth]; omega
    · simp only [toPyR,PyData.weight,szD]; omega
  | k + 1,.lst xs,hk,h=>by
    obtain ⟨h1,h2,h3,h4,h5⟩:=gds_show (k:=k) (ds:=xs) (by omega) (by simpa only [Gd] using h)
    refine ⟨h1,h2,?_,h4,?_⟩
    · simp only [toPyR,PyData.depth]; omega
    · simp only [toPyR,PyData.weight,szD]; omega
  | 0,.tup _,_,h=>by simp [Gd] at h
  | 0,.lst _,_,h=>by simp [Gd] at h
  | 0,.ins _ _,_,h=>by simp [Gd] at h
  | 0,.scr _,_,h=>by simp [Gd] at h
  | 0,.ftp _,_,h=>by simp [Gd] at h
  | 0,.cls _,_,h=>by simp [Gd] at h
  | k + 1,.ins _ _,_,h=>by simp [Gd] at h
  | k + 1,.scr _,_,h=>by simp [Gd] at h
  | k + 1,.ftp _,_,h=>by simp [Gd] at h
  | k + 1,.cls _,_,h=>by simp [Gd] at h
theorem gds_show:∀ {k:Nat} {ds:List D},k≤1000→Gds k ds→showDs ds=true∧PyData.showableAll (toPyRs ds)=true∧PyData.depthAll (toPyRs ds)≤k + 1∧PyData.leavesShortAll 42 (toPyRs ds)=true∧PyData.weightAll (toPyRs ds)≤140 * szDs ds
  | _,[],_,_=>⟨rfl,rfl,by simp [toPyRs,PyData.depthAll],rfl,by simp [toPyRs,PyData.weightAll]⟩
  | k,d :: ds,hk,h=>by
    simp only [Gds] at h
    obtain ⟨a1,a2,a3,a4,a5⟩:=gd_show hk h.1
    obtain ⟨h1,h2,h3,h4,h5⟩:=gds_show hk h.2
    refine ⟨by simp [showDs,a1,h1],by simp [toPyRs,PyData.showableAll,a2,h2],?_,by simp [toPyRs,PyData.leavesShortAll,a4,h4],?_⟩
    · simp only [toPyRs,PyData.depthAll]; omega
    · simp only [toPyRs,PyData.weightAll,szDs]; omega
end
theorem gd_showOk {k:Nat} {d:D} (h:Gd k d) (hk:k≤60) (hz:szD d≤2000):showOk d=true:=by
  obtain ⟨h1,h2,h3,h4,h5⟩:=gd_show (by omega) h
  have:=PyData.shown_le 42 (by decide) (toPyR d) h4
  have e:=sizeLine_eq
  unfold showOk
  rw [h1,h2,decide_eq_true (show (toPyR d).depth≤64 by omega),decide_eq_true (show (toPyR d).shown.length≤sizeLine by omega)]
  rfl
end Ev
namespace Ev
open PySem
open L2 (atI ixN)
section
variable {α β:Type} {a:α} {S S1:Sto} {ρ:Loc} {c:Nat} {x:D}
@[simp] theorem bind_ok {k:α→Sto→R β}:R.bind (.ok a S) k=k a S:=rfl
@[simp] theorem bind_exn {k:α→Sto→R β}:R.bind (.exn c x S) k=.exn c x S:=rfl
@[simp] theorem bind_err {k:α→Sto→R β}:R.bind .err k=.err:=rfl
@[simp] theorem st_ok {k:α→Sto→RS}:R.st (.ok a S) ρ k=k a S:=rfl
@[simp] theorem st_exn {k:α→Sto→RS}:R.st (.exn c x S) ρ k=.exn c x ρ S:=rfl
@[simp] theorem st_err {k:α→Sto→RS}:R.st .err ρ k=.err:=rfl
@[simp] theorem noX_ok:noX (.ok a S)=.ok a S:=rfl
@[simp] theorem noX_err:noX (.err:R α)=.err:=rfl
end
def RS.go (r:RS) (g:FS):RS:=match r with
  | .nx ρ S=>g ρ S
  | r=>r
section
variable {f g h:FE} {fa:FA} {t u:FT} {p q:FS} {ρ:Loc} {S:Sto} {i j:Nat} {op:Op2}
@[simp] theorem go_nx:RS.go (.nx ρ S) p=p ρ S:=rfl
@[simp] theorem go_rt {w:W}:RS.go (.rt w S) p=.rt w S:=rfl
@[simp] theorem go_exn {c:Nat} {x:D}:RS.go (.exn c x ρ S) p=.exn c x ρ S:=rfl
@[simp] theorem go_bk:RS.go (.bk ρ S) p=.bk ρ S:=rfl
@[simp] theorem go_ct:RS.go (.ct ρ S) p=.ct ρ S:=rfl
@[simp] theorem go_err:RS.go .err p=.err:=rfl
@[simp] theorem e_seq:sSeq p q ρ S=RS.go (p ρ S) q:=rfl
@[simp] theorem e_next:sNext ρ S=.nx ρ S:=rfl
@[simp] theorem e_ret:sRet f ρ S=(f ρ S).st ρ fun w S1=>.rt w S1:=rfl
@[simp] theorem e_retN:sRetN ρ S=.rt (.d .non) S:=rfl
@[simp] theorem e_expr:sExpr f ρ S=(f ρ S).st ρ fun _ S1=>.nx ρ S1:=rfl
@[simp] theorem e_set:sSet i f ρ S=(f ρ S).st ρ fun w S1=>.nx (ρ.set i (some w)) S1:=rfl
@[simp] theorem e_if:sIf t p q ρ S=(t ρ S).st ρ fun k S1=>if k=true then p ρ S1 else q ρ S1:=rfl
@[simp] theorem e_brk:sBreak ρ S=.bk ρ S:=rfl
@[simp] theorem e_cnt:sCont ρ S=.ct ρ S:=rfl
@[simp] theorem e_var:fVar i ρ S=match ρ[i]? with | some (some w)=>.ok w S | _=>.err:=rfl
@[simp] theorem e_c {d:D}:fC d ρ S=.ok (.d d) S:=rfl
@[simp] theorem e_bin:fBin op f g ρ S=(f ρ S).bind fun x S1=>(g ρ S1).bind fun y S2=>op x y S2:=rfl
@[simp] theorem e_nil:fNil ρ S=.ok [] S:=rfl
@[simp] theorem e_cons:fCons f fa ρ S=(f ρ S).bind fun x S1=>(fa ρ S1).bind fun xs S2=>.ok (x :: xs) S2:=rfl
@[simp] theorem e_call {o:OpN}:fCall o fa ρ S=(fa ρ S).bind o:=rfl
@[simp] theorem e_app {o:FF}:fApp o fa ρ S=(fa ρ S).bind o:=rfl
@[simp] theorem e_toT:toT f ρ S=(f ρ S).bind toB:=rfl
@[simp] theorem e_toB {b:Bool}:toB (.d (.bl b)) S=.ok b S:=rfl
@[simp] theorem e_band:bAnd t u ρ S=(t ρ S).bind fun k S1=>if k=true then u ρ S1 else .ok false S1:=rfl
@[simp] theorem e_bor:bOr t u ρ S=(t ρ S).bind fun k S1=>if k=true then .ok true S1 else u ρ S1:=rfl
@[simp] theorem e_bnot:bNot t ρ S=(t ρ S).bind fun k S1=>.ok (!k) S1:=rfl
@[simp] theorem e_eand:eAnd f g ρ S=(f ρ S).bind fun w S1=>(toB w S1).bind fun k S2=>if k=true then g ρ S2 else .ok (.d (.bl false)) S2:=rfl
@[simp] theorem e_eor:eOr f g ρ S=(f ρ S).bind fun w S1=>(toB w S1).bind fun k S2=>if k=true then .ok (.d (.bl true)) S2 else g ρ S2:=rfl
@[simp] theorem e_enot:eNot f ρ S=(f ρ S).bind fun w S1=>(toB w S1).bind fun k S2=>.ok (.d (.bl (!k))) S2:=rfl
@[simp] theorem e_eif:eIf t f g ρ S=(t ρ S).bind fun k S1=>if k=true then f ρ S1 else g ρ S1:=rfl
@[simp] theorem e_chain {o o':Op2}:fChain o o' f g h ρ S=(f ρ S).bind fun x S1=>(g ρ S1).bind fun y S2=>(o x y S2).bind fun z S3=>(toB z S3).bind fun k S4 =>
  if k=true then (h ρ S4).bind fun u S5=>o' y u S5 else .ok (.d (.bl false)) S4:=rfl
@[simp] theorem e_tup:fTup fa ρ S=(fa ρ S).bind fun ws S1=>match dats ws with
  | some ds=>if ds.length≤sizeLine then .ok (.d (.tup ds)) S1 else .err
  | none=>.err:=rfl
@[simp] theorem e_lst:fLst fa ρ S=(fa ρ S).bind fun ws S1=>match dats ws with
  | some ds=>if ds.length≤sizeLine then .ok (.d (.lst ds)) S1 else .err
  | none=>.err:=rfl
@[simp] theorem e_star:fStar f fa ρ S=(f ρ S).bind fun x S1=>match seqW S1 x with
  | some ds=>(fa ρ S1).bind fun xs S2=>.ok (ds.map W.d ++ xs) S2
  | none=>.err:=rfl
@[simp] theorem e_neg:fNeg f ρ S=(f ρ S).bind fun w S1=>match w with
  | .d (.int i)=>.ok (.d (.int (-i))) S1
  | _=>.err:=rfl
@[simp] theorem e_back:fBack f ρ S=(f ρ S).bind fun w S1=>match w with
  | .d (.tup ds)=>.ok (.d (.tup ds.reverse)) S1
  | _=>.err:=rfl
@[simp] theorem e_isi {T:Ty}:fIsi T f ρ S=(f ρ S).bind fun w S1=>match tyW S1 w with
  | some t=>.ok (.d (.bl (t.sub T))) S1
  | none=>.err:=rfl
@[simp] theorem e_oNone:oNone ρ S=.ok none S:=rfl
@[simp] theorem e_oSome:oSome f ρ S=(f ρ S).bind fun w S1=>match w with
  | .d (.int i)=>.ok (some i) S1
  | _=>.err:=rfl
@[simp] theorem e_sl {o:OpSl} {lo hi:FO}:fSl o f lo hi ρ S=(f ρ S).bind fun x S1=>(lo ρ S1).bind fun l S2=>(hi ρ S2).bind fun h S3=>o x l h S3:=rfl
@[simp] theorem e_par2:sPar2 i j fa ρ S=(fa ρ S).st ρ fun ws S1=>match ws with
  | [v,w]=>.nx ((ρ.set i (some v)).set j (some w)) S1
  | _=>.err:=rfl
@[simp] theorem e_par3 {l:Nat}:sPar3 i j l fa ρ S=(fa ρ S).st ρ fun ws S1=>match ws with
  | [u,v,w]=>.nx (((ρ.set i (some u)).set j (some v)).set l (some w)) S1
  | _=>.err:=rfl
@[simp] theorem e_asg {g:FG}:sAsg g f ρ S=(f ρ S).st ρ fun w S1=>match g w ρ S1 with
  | some ρ'=>.nx ρ' S1
  | none=>.err:=rfl
@[simp] theorem e_raise {c:Nat}:sRaise c f ρ S=(f ρ S).st ρ fun w S1=>match w with
  | .d x=>.exn c x ρ S1
  | _=>.err:=rfl
@[simp] theorem e_for {fi:FI} {g:FG}:sFor fi g p ρ S=(fi ρ S).st ρ fun ds S1=>loop (turn g p) ds ρ S1:=rfl
@[simp] theorem e_turn {g:FG} {d:D}:turn g p d ρ S=match g (.d d) ρ S with
  | some ρ1=>p ρ1 S
  | none=>.err:=rfl
@[simp] theorem e_gN {w:W}:gN i w ρ S=some (ρ.set i (some w)):=rfl
@[simp] theorem e_gT {n:Nat} {gs:FGs} {ds:List D}:gT n gs (.d (.tup ds)) ρ S=if ds.length=n then gs ds ρ S else none:=rfl
@[simp] theorem e_gsN:gsNil [] ρ S=some ρ:=rfl
@[simp] theorem e_gsC {g:FG} {gs:FGs} {d:D} {ds:List D}:gsCons g gs (d :: ds) ρ S=(g (.d d) ρ S).bind fun ρ1=>gs ds ρ1 S:=rfl
@[simp] theorem e_lc {fi:FI} {g:FG} {vs:List Nat}:fLc fi g t f vs ρ S=(fi ρ S).bind fun ds S1=>(compL g t f (wipeL ρ vs) ds S1 []).bind fun ys S2=>.ok (.d (.lst ys)) S2:=rfl
@[simp] theorem e_lst':iLst f ρ S=(f ρ S).bind fun w S1=>match w with
  | .d (.lst ds)=>.ok ds S1
  | _=>.err:=rfl
@[simp] theorem e_tupl:iTupl f ρ S=(f ρ S).bind fun w S1=>match w with
  | .d (.tup ds)=>.ok ds S1
  | _=>.err:=rfl
@[simp] theorem e_str:iStr f ρ S=(f ρ S).bind fun w S1=>match w with
  | .d (.str z)=>.ok (signs z) S1
  | _=>.err:=rfl
@[simp] theorem e_range1:iRange1 fa ρ S=(fa ρ S).bind fun ws S1=>match ws with
  | [.d (.int j)]=>if -(2 ^ 62)≤j∧j < 2 ^ 62 then .ok (rangeD 0 j.toNat) S1 else .err
  | _=>.err:=rfl
@[simp] theorem e_enumT:iEnumT f ρ S=(f ρ S).bind fun w S1=>match w with
  | .d (.tup ds)=>.ok (enumFrom 0 ds) S1
  | _=>.err:=rfl
@[simp] theorem e_enumL:iEnumL f ρ S=(f ρ S).bind fun w S1=>match w with
  | .d (.lst ds)=>.ok (enumFrom 0 ds) S1
  | _=>.err:=rfl
end
section
variable {S:Sto} {i j:Int} {z y:Str} {xs ys ds:List D}
@[simp] theorem o_addI:opAdd (.d (.int i)) (.d (.int j)) S=.ok (.d (.int (i + j))) S:=rfl
theorem o_addS (h:z.length + y.length≤16777216):opAdd (.d (.str z)) (.d (.str y)) S=.ok (.d (.str (z ++ y))) S:=by
  show (if z.length + y.length≤sizeLine then _ else _)=_
  rw [if_pos (by rw [sizeLine_eq]; exact h)]
theorem o_addT (h:xs.length + ys.length≤16777216):opAdd (.d (.tup xs)) (.d (.tup ys)) S=.ok (.d (.tup (xs ++ ys))) S:=by
  show (if xs.length + ys.length≤sizeLine then _ else _)=_
  rw [if_pos (by rw [sizeLine_eq]; exact h)]
@[simp] theorem o_sub:opSub (.d (.int i)) (.d (.int j)) S=.ok (.d (.int (i - j))) S:=rfl
@[simp] theorem o_lt:opLt (.d (.int i)) (.d (.int j)) S=.ok (.d (.bl (decide (i < j)))) S:=rfl
@[simp] theorem o_le:opLe (.d (.int i)) (.d (.int j)) S=.ok (.d (.bl (decide (i≤j)))) S:=rfl
@[simp] theorem o_gt:opGt (.d (.int i)) (.d (.int j)) S=.ok (.d (.bl (decide (j < i)))) S:=rfl
@[simp] theorem o_ge:opGe (.d (.int i)) (.d (.int j)) S=.ok (.d (.bl (decide (j≤i)))) S:=rfl
theorem eqOk_int (x:Int):eqOk (.int x)=true:=by unfold eqOk; simp [flatD,toPy,SeqAt.shaped,PyData.canLay0,PyData.depth]
@[simp] theorem o_eqI:opEq (.d (.int i)) (.d (.int j)) S=.ok (.d (.bl (decide (i=j)))) S:=by
  simp only [opEq,view,eqOk_int,Bool.and_self,if_true,eqD,toPy,PyData.eqv]
  congr 1
@[simp] theorem o_neI:opNe (.d (.int i)) (.d (.int j)) S=.ok (.d (.bl (!decide (i=j)))) S:=by
  simp only [opNe,view,eqOk_int,Bool.and_self,if_true,eqD,toPy,PyData.eqv]
  congr 1
@[simp] theorem o_eqS:opEq (.d (.str z)) (.d (.str y)) S=.ok (.d (.bl (decide (z=y)))) S:=rfl
@[simp] theorem o_neS:opNe (.d (.str z)) (.d (.str y)) S=.ok (.d (.bl (!decide (z=y)))) S:=rfl
@[simp] theorem o_lenT:opLen [.d (.tup xs)] S=.ok (.d (.int xs.length)) S:=rfl
@[simp] theorem o_lenL:opLen [.d (.lst xs)] S=.ok (.d (.int xs.length)) S:=rfl
@[simp] theorem o_slT {lo hi:Option Int}:opSl (.d (.tup xs)) lo hi S=.ok (.d (.tup (cut xs lo hi))) S:=rfl
@[simp] theorem o_slL {lo hi:Option Int}:opSl (.d (.lst xs)) lo hi S=.ok (.d (.lst (cut xs lo hi))) S:=rfl
theorem o_slS {lo hi:Option Int} (h:z.length≤16777216):opSl (.d (.str z)) lo hi S=.ok (.d (.str ⟨(cut z.cps.toList lo hi).toArray⟩)) S:=by
  have h:z.length≤sizeLine:=by rw [sizeLine_eq]; exact h
  simp only [opSl,view,h,if_true]
theorem atI_in {α:Type} {xs:List α} {r:Int} {x:α} (h0:0≤r) (h:xs[r.toNat]? = some x):atI xs r=some x:=by
  have hl:r.toNat < xs.length:=(List.getElem?_eq_some_iff.mp h).1
  unfold atI ixN
  rw [if_pos h0,if_pos (by omega)]
  exact h
@[simp] theorem o_ixT:opIx (.d (.tup xs)) (.d (.int i)) S=match atI xs i with | some d=>.ok (.d d) S | none=>.err:=rfl
@[simp] theorem o_ixLi:opIx (.d (.lst xs)) (.d (.int i)) S=match atI xs i with | some d=>.ok (.d d) S | none=>.err:=rfl
@[simp] theorem atI_0 {α:Type} {x:α} {xs:List α}:atI (x :: xs) 0=some x:=by
  apply atI_in (by decide); rfl
@[simp] theorem atI_1 {α:Type} {x y:α} {xs:List α}:atI (x :: y :: xs) 1=some y:=by
  apply atI_in (by decide); rfl
@[simp] theorem o_eqE {xs:List D}:opEqE (.d (.tup xs)) (.d (.tup [])) S=.ok (.d (.bl xs.isEmpty)) S:=rfl
@[simp] theorem o_list:op1 listD [.d (.tup xs)] S=.ok (.d (.lst xs)) S:=rfl
@[simp] theorem o_list':op1 listD [.d (.lst xs)] S=.ok (.d (.lst xs)) S:=rfl
@[simp] theorem o_tuple:op1 tupleD [.d (.lst xs)] S=.ok (.d (.tup xs)) S:=rfl
@[simp] theorem o_tuple':op1 tupleD [.d (.tup xs)] S=.ok (.d (.tup xs)) S:=rfl
@[simp] theorem o_int:op1 intD [.d (.int i)] S=.ok (.d (.int i)) S:=rfl
@[simp] theorem o_min:opMin2 [.d (.int i),.d (.int j)] S=.ok (.d (.int (if j < i then j else i))) S:=rfl
@[simp] theorem y_d {x:D}:tyW S (.d x)=tyD x:=rfl
@[simp] theorem v_d {x:D}:view S (.d x)=some x:=rfl
@[simp] theorem dats_nil:dats []=some []:=rfl
@[simp] theorem dats_d {x:D} {ws:List W}:dats (.d x :: ws)=(dats ws).map (x :: ·):=rfl
@[simp] theorem dats_ref {i:Nat} {ws:List W}:dats (.ref i :: ws)=none:=rfl
@[simp] theorem t_non:tyD .non=some .non:=rfl
@[simp] theorem t_bl {b:Bool}:tyD (.bl b)=some .bl:=rfl
@[simp] theorem t_int {i:Int}:tyD (.int i)=some .int:=rfl
@[simp] theorem t_str {z:Str}:tyD (.str z)=some .str:=rfl
@[simp] theorem t_tup {xs:List D}:tyD (.tup xs)=some .tup:=rfl
@[simp] theorem t_lst {xs:List D}:tyD (.lst xs)=some .lst:=rfl
@[simp] theorem t_dct {xs:List (D×D)}:tyD (.dct xs)=some .dct:=rfl
@[simp] theorem sub_e {a b:Ty}:a.sub b=(decide (a=b) || (decide (a=.bl) && decide (b=.int))):=rfl
end
end Ev
namespace Ev
open PySem
open L2 (atI ixN)
theorem rt_called {n:Nat} {s:FS} {ws:List W} {ds:List D} {S S1:Sto} {r:D} (hd:dats ws=some ds) (e:s (ws.map some ++ List.replicate (n - ws.length) none) []=.rt (.d r) S1):called (bodyF n s) ws S=.ok (.d r) S :=
  called_data hd (by unfold bodyF; rw [e])
theorem dats_app (ws:List W):∀ r:List D,dats (r.map W.d ++ ws)=(dats ws).map (r ++ ·)
  | []=>by simp
  | x :: r=>by rw [List.map_cons,List.cons_append,dats_d,dats_app ws r,Option.map_map]; rfl
theorem dats_map (r:List D):dats (r.map W.d)=some r:=by
  have:=dats_app [] r
  simpa using this
theorem compL_by {γ:Type} {g:FG} {t:FT} {f:FE} {ρ:List (Option W)} {S:Sto} (h:γ→D) (tt:γ→Bool) (ff:γ→D):∀ (cs:List γ) (acc:List D),acc.length + cs.length≤16777216 →
    (∀ c∈cs,∃ ρ1,g (.d (h c)) ρ S=some ρ1∧t ρ1 S=.ok (tt c) S∧(tt c=true→f ρ1 S=.ok (.d (ff c)) S))→compL g t f ρ (cs.map h) S acc=.ok (acc ++ (cs.filter tt).map ff) S
  | [],acc,_,_=>by simp [compL]
  | c :: cs,acc,hl,hh=>by
    obtain ⟨ρ1,e1,e2,e3⟩:=hh c List.mem_cons_self
    have ih:=fun acc' hl'=>compL_by (g:=g) (t:=t) (f:=f) (ρ:=ρ) (S:=S) h tt ff cs acc' hl' (fun x hx=>hh x (List.mem_cons_of_mem _ hx))
    simp only [List.length_cons] at hl
    rw [List.map_cons]
    unfold compL
    simp only [e1,e2,noX,R.bind]
    cases ht:tt c with
    | false =>
      simp only [if_false,Bool.false_eq_true]
      rw [ih acc (by omega),List.filter_cons_of_neg (by simp [ht])]
    | true =>
      simp only [if_true,e3 ht,noX,R.bind]
      rw [if_pos (by rw [sizeLine_eq]; omega),ih _ (by simp; omega),List.filter_cons_of_pos ht]
      simp
theorem compL_map {γ:Type} {g:FG} {f:FE} {ρ:List (Option W)} {S:Sto} (h:γ→D) (ff:γ→D) (cs:List γ) (hl:cs.length≤16777216)
    (hh:∀ c∈cs,∃ ρ1,g (.d (h c)) ρ S=some ρ1∧f ρ1 S=.ok (.d (ff c)) S):compL g tTrue f ρ (cs.map h) S []=.ok (cs.map ff) S:=by
  have:=compL_by (g:=g) (t:=tTrue) (f:=f) (ρ:=ρ) (S:=S) h (fun _=>true) ff cs [] (by simpa using hl) (fun c hc=>by
    obtain ⟨ρ1,e1,e2⟩:=hh c hc
    exact ⟨ρ1,e1,rfl,fun _=>e2⟩)
  simpa [List.filter_eq_self.mpr] using this
@[simp] theorem bools_map {γ:Type} (p:γ→Bool):∀ cs:List γ,bools (cs.map fun c=>.bl (p c))=some (cs.map p)
  | []=>rfl
  | c :: cs=>by simp [bools,bools_map p cs]
mutual
theorem gd_eq:∀ {k:Nat} {d:D},Gd k d→flatD d=true→(toPy d).canLay0=true∧(toPy d).depth≤k + 1
  | _,.non,_,_=>⟨rfl,by simp [toPy,PyData.depth]⟩
  | _,.bl _,_,_=>⟨rfl,by simp [toPy,PyData.depth]⟩
  | _,.int _,_,_=>⟨rfl,by simp [toPy,PyData.depth]⟩
  | k,.str z,h,_=>by
    have h:∀ c∈z.cps.toList,c < 128:=fun c hc=>plC_lt ((show ∀ c∈z.cps.toList,plC c=true by cases k <;> simpa only [Gd] using h) c hc)
    refine ⟨?_,by simp [toPy,PyData.depth]⟩
    simp only [toPy,PyData.canLay0]
    unfold PyData.strOk
    rw [← Array.all_toList,List.all_eq_true]
    exact fun c hc=>decide_eq_true (Nat.lt_of_lt_of_le (h c hc) (by decide))
  | _,.dct _,_,f=>by simp [flatD] at f
  | _,.ins _ _,_,f=>by simp [flatD] at f
  | _,.scr _,_,f=>by simp [flatD] at f
  | _,.ftp _,_,f=>by simp [flatD] at f
  | _,.cls _,_,f=>by simp [flatD] at f
  | 0,.tup _,h,_=>by simp [Gd] at h
  | 0,.lst _,h,_=>by simp [Gd] at h
  | k + 1,.tup xs,h,f=>by
    obtain ⟨h1,h2⟩:=gds_eq (k:=k) (ds:=xs) (by simpa only [Gd] using h) (by simpa only [flatD] using f)
    exact ⟨h1,by simp only [toPy,PyData.depth]; omega⟩
  | k + 1,.lst xs,h,f=>by
    obtain ⟨h1,h2⟩:=gds_eq (k:=k) (ds:=xs) (by simpa only [Gd] using h) (by simpa only [flatD] using f)
    exact ⟨h1,by simp only [toPy,PyData.depth]; omega⟩
theorem gds_eq:∀ {k:Nat} {ds:List D},Gds k ds→flatDs ds=true→PyData.canLayAll0 (toPys ds)=true∧PyData.depthAll (toPys ds)≤k + 1
  | _,[],_,_=>⟨rfl,by simp [toPys,PyData.depthAll]⟩
  | k,d :: ds,h,f=>by
    simp only [Gds] at h
    simp only [flatDs,Bool.and_eq_true] at f
    obtain ⟨a1,a2⟩:=gd_eq h.1 f.1
    obtain ⟨b1,b2⟩:=gds_eq h.2 f.2
    exact ⟨by simp [toPys,PyData.canLayAll0,a1,b1],by simp only [toPys,PyData.depthAll]; omega⟩
end
theorem flat_strs:∀ zs:List Str,flatDs (zs.map D.str)=true
  | []=>rfl
  | z :: zs=>by simp [flatDs,flatD,flat_strs zs]
theorem eqD_str {a b:Str}:eqD (.str a) (.str b)=decide (a=b):=by
  simp only [eqD,toPy,PyData.eqv]
  by_cases h:a=b
  · simp [h]
  · simp [h]
def RS.lp (r:RS) (k:List (Option W)→Sto→RS):RS:=match r with
  | .nx ρ S=>k ρ S
  | .ct ρ S=>k ρ S
  | .bk ρ S=>.nx ρ S
  | r=>r
section
variable {ρ:List (Option W)} {S:Sto} {k:List (Option W)→Sto→RS}
@[simp] theorem lp_nx:RS.lp (.nx ρ S) k=k ρ S:=rfl
@[simp] theorem lp_ct:RS.lp (.ct ρ S) k=k ρ S:=rfl
@[simp] theorem lp_bk:RS.lp (.bk ρ S) k=.nx ρ S:=rfl
@[simp] theorem lp_rt {w:W}:RS.lp (.rt w S) k=.rt w S:=rfl
@[simp] theorem lp_exn {c:Nat} {x:D}:RS.lp (.exn c x ρ S) k=.exn c x ρ S:=rfl
@[simp] theorem lp_err:RS.lp .err k=.err:=rfl
end
@[simp] theorem loop_nil {b:D→List (Option W)→Sto→RS} {ρ:List (Option W)} {S:Sto}:loop b [] ρ S=.nx ρ S:=rfl
@[simp] theorem loop_cons {b:D→List (Option W)→Sto→RS} {ρ:List (Option W)} {S:Sto} {d:D} {ds:List D}:loop b (d :: ds) ρ S=RS.lp (b d ρ S) (loop b ds):=rfl
theorem compL2_by {γ:Type} {g g1:FG} {t t1:FT} {fi1:FI} {f:FE} {vs1:List Nat} {ρ:List (Option W)} {S:Sto} (h:γ→D) (inner:γ→List D):∀ (cs:List γ) (acc:List D),acc.length + (cs.flatMap inner).length≤16777216 →
    (∀ c∈cs,∃ ρ1 es,g (.d (h c)) ρ S=some ρ1∧t ρ1 S=.ok true S∧fi1 ρ1 S=.ok es S∧∀ acc:List D,acc.length + (inner c).length≤16777216→compL g1 t1 f (wipeL ρ1 vs1) es S acc=.ok (acc ++ inner c) S) →
    compL2 g t fi1 g1 t1 f vs1 ρ (cs.map h) S acc=.ok (acc ++ cs.flatMap inner) S
  | [],acc,_,_=>by simp [compL2]
  | c :: cs,acc,hl,hh=>by
    obtain ⟨ρ1,es,e1,e2,e3,e4⟩:=hh c List.mem_cons_self
    rw [List.flatMap_cons,List.length_append] at hl
    have ih:=compL2_by (g:=g) (t:=t) (fi1:=fi1) (g1:=g1) (t1:=t1) (f:=f) (vs1:=vs1) (ρ:=ρ) (S:=S) h inner cs (acc ++ inner c) (by rw [List.length_append]; omega) (fun x hx=>hh x (List.mem_cons_of_mem _ hx))
    rw [List.map_cons]
    unfold compL2
    simp only [e1,e2,e3,noX,R.bind,if_true,e4 acc (by omega)]
    rw [ih,List.flatMap_cons,List.append_assoc]
theorem Dw.push {cs:List Int} {rest S:Sto} {c:Nat} {o:O} (h:Dw cs rest c S) (ho:pln o=true):Dw cs (rest ++ [o]) c (S ++ [o]):=by
  obtain ⟨ls,n,rfl,h1,h2,h3,h4,h5⟩:=h
  exact ⟨ls,n,rfl,h1,h2,h3,h4,by rw [List.all_append,h5]; simp [ho]⟩
theorem Dw.get {cs:List Int} {rest S:Sto} {c j:Nat} (h:Dw cs rest c S):S[j + 1]? = rest[j]?:=by
  obtain ⟨ls,n,rfl,h1⟩:=h
  rfl
theorem Dw.set {cs:List Int} {rest S:Sto} {c j:Nat} {o:O} (h:Dw cs rest c S) (ho:pln o=true):Dw cs (rest.set j o) c (S.set (j + 1) o):=by
  obtain ⟨ls,n,rfl,h1,h2,h3,h4,h5⟩:=h
  refine ⟨ls,n,rfl,h1,h2,h3,h4,?_⟩
  rw [List.all_eq_true] at h5 ⊢
  intro x hx
  rcases List.mem_or_eq_of_mem_set hx with hx | rfl
  · exact h5 x hx
  · exact ho
end Ev
namespace Ev
open PySem
abbrev cl (s:Str):List Nat:=s.cps.toList
theorem cl_app (a b:Str):cl (a ++ b)=cl a ++ cl b:=by
  show (a.cps ++ b.cps).toList=_
  simp
theorem cl_inj {a b:Str} (h:cl a=cl b):a=b:=by
  cases a; cases b
  have:_=_:=Array.ext' h
  exact congrArg Str.mk this
theorem cl_ofString (s:String):cl (Str.ofString s)=s.toList.map Char.toNat:=PyProof.Rows.signs_ofString s
theorem printable:∀ c < 127,32≤c→Unicode.isPrintable c=true:=by decide +kernel
theorem reprChar_pl {c:Nat} (h:plC c=true):Builtin.Str.reprChar 39 c=[c]:=by
  have h:=of_decide_eq_true h
  have hp:=printable c (by omega) (by omega)
  unfold Builtin.Str.reprChar
  have e1:(c == 39)=false:=beq_eq_false_iff_ne.mpr (by omega)
  have e2:(c == 92)=false:=beq_eq_false_iff_ne.mpr (by omega)
  have e3:(c == 10)=false:=beq_eq_false_iff_ne.mpr (by omega)
  have e4:(c == 13)=false:=beq_eq_false_iff_ne.mpr (by omega)
  have e5:(c == 9)=false:=beq_eq_false_iff_ne.mpr (by omega)
  simp only [e1,e2,e3,e4,e5,Bool.or_self,Bool.false_eq_true,if_false,hp,if_true]
theorem repr_str {z:Str} (h:∀ c∈cl z,plC c=true):cl (reprText z)=39 :: (cl z ++ [39]):=by
  have hq:reprQuote z=39:=by
    unfold reprQuote
    have:z.cps.contains 39=false:=by
      rw [← Bool.not_eq_true]
      intro e
      have:39∈cl z:=by simpa using e
      exact absurd (h 39 this) (by decide)
    rw [this]
    rfl
  unfold reprText
  rw [hq]
  show (Array.push _ 39).toList=_
  rw [Array.toList_push,← Array.foldl_toList]
  have:∀ (l:List Nat) (acc:Array Nat),(∀ c∈l,plC c=true)→(l.foldl (fun out c=>out ++ (Builtin.Str.reprChar 39 c).toArray) acc).toList=acc.toList ++ l:=by
    intro l
    induction l with
    | nil=>intro acc _; simp
    | cons c l ih =>
      intro acc hl
      rw [List.foldl_cons,ih _ fun x hx=>hl x (List.mem_cons_of_mem _ hx),reprChar_pl (hl c List.mem_cons_self)]
      simp
  rw [this _ _ h]
  simp
def isDg (c:Nat):Bool:=decide (c=45∨(48≤c∧c≤57))
theorem digits_dg (m:Nat):∀ c∈(Nat.toDigits 10 m).map Char.toNat,isDg c=true:=by
  intro c hc
  obtain ⟨ch,hch,rfl⟩:=List.mem_map.mp hc
  have r:=PyProof.Rows.digit_range (Nat.isDigit_of_mem_toDigits (by decide) (by decide) hch)
  exact decide_eq_true (.inr r)
theorem int_codes (i:Int):(∀ c∈cl (Str.ofString (toString i)),isDg c=true)∧cl (Str.ofString (toString i)) ≠ []:=by
  cases i with
  | ofNat m =>
    have e:=PySem.W.KIN.signs_num m
    refine ⟨fun c hc=>digits_dg m c (by rw [← e]; exact hc),fun z=>?_⟩
    have e':cl (Str.ofString (toString (Int.ofNat m)))=(Nat.toDigits 10 m).map Char.toNat:=e
    rw [e'] at z
    have h:=PySem.toDigits_len_ge 10 m
    rw [List.map_eq_nil_iff.mp z] at h
    exact absurd h (by decide)
  | negSucc m =>
    have e:cl (Str.ofString (toString (Int.negSucc m)))=45 :: (Nat.toDigits 10 (m + 1)).map Char.toNat:=by
      rw [cl_ofString]
      show ("-" ++ Nat.repr (m + 1)).toList.map Char.toNat=_
      rw [String.toList_append,List.map_append,Nat.toList_repr]
      rfl
    rw [e]
    refine ⟨fun c hc=>?_,by simp⟩
    rcases List.mem_cons.mp hc with rfl | hc
    · rfl
    · exact digits_dg _ c hc
theorem int_inj {i j:Int} (h:cl (Str.ofString (toString i))=cl (Str.ofString (toString j))):i=j:=by
  rw [cl_ofString,cl_ofString] at h
  have h2:(toString i).toList=(toString j).toList:=by
    refine List.map_inj_right (fun a b e=>?_) |>.mp h
    exact Char.toNat_inj.mp e
  have h3:toString i=toString j:=String.toList_inj.mp h2
  exact Int.repr_inj.mp h3
mutual
def shL:D→List Nat
  | .non=>[78,111,110,101]
  | .bl true=>[84,114,117,101]
  | .bl false=>[70,97,108,115,101]
  | .int i=>cl (Str.ofString (toString i))
  | .str z=>39 :: (cl z ++ [39])
  | .tup []=>[40,41]
  | .tup (x :: xs)=>40 :: (shL x ++ (if xs.isEmpty then [44,41] else shT xs ++ [41]))
  | .lst []=>[91,93]
  | .lst (x :: xs)=>91 :: (shL x ++ (shT xs ++ [93]))
  | .dct _=>[123,125]
  | _=>[]
def shT:List D→List Nat
  | []=>[]
  | x :: xs=>44 :: 32 :: (shL x ++ shT xs)
end
theorem join_codes:∀ (x:Str) (ts:List Str),cl (Str.join ", " (x :: ts))=cl x ++ ts.flatMap fun t=>44 :: 32 :: cl t
  | x,[]=>by show cl x=_; simp
  | x,y :: ts=>by
    show cl (x ++ ", " ++ Str.join ", " (y :: ts))=_
    rw [cl_app,cl_app,join_codes y ts]
    have:cl (((", ":String):Str))=[44,32]:=by decide +kernel
    rw [this]
    simp
theorem from_codes:∀ (ts:List Str) (k:Nat) (acc:Str),0 < k→cl (textFrom k acc ts)=cl acc ++ ts.flatMap fun t=>44 :: 32 :: cl t
  | [],k,acc,_=>by simp [textFrom]
  | t :: ts,k,acc,h=>by
    unfold textFrom
    rw [from_codes ts (k + 1) _ (Nat.succ_pos _),cl_app,cl_app,if_pos h]
    have:cl (((", ":String):Str))=[44,32]:=by decide +kernel
    rw [this]
    simp
theorem shownAll_eq:∀ xs:List PyData,PyData.shownAll xs=xs.map PyData.shown
  | []=>rfl
  | x :: xs=>by simp [PyData.shownAll,shownAll_eq xs]
theorem toPyRs_eq:∀ xs:List D,toPyRs xs=xs.map toPyR
  | []=>rfl
  | x :: xs=>by simp [toPyRs,toPyRs_eq xs]
mutual
theorem sh_eq:∀ {k:Nat} {d:D},Gd k d→cl (reprD d)=shL d
  | _,.non,_=>by decide +kernel
  | _,.bl true,_=>by decide +kernel
  | _,.bl false,_=>by decide +kernel
  | _,.int i,_=>rfl
  | k,.str z,h=>by
    have h:∀ c∈cl z,plC c=true:=by cases k <;> simpa only [Gd] using h
    exact repr_str h
  | k,.dct kvs,h=>by
    have h:kvs=[]:=by cases k <;> simpa only [Gd] using h
    subst h
    decide +kernel
  | k + 1,.tup [],h=>by decide +kernel
  | k + 1,.tup (x :: xs),h=>by
    obtain ⟨hx,hs⟩:Gd k x∧Gds k xs:=by simpa only [Gd,Gds] using h
    have e1:=sh_eq hx
    have e2:=shs_eq hs
    unfold reprD at e1 ⊢
    simp only [toPyR,PyData.shown,tupleText,toPyRs,PyData.shownAll]
    rw [cl_app,cl_app,join_codes,e1,e2]
    have o:cl (("(":Str))=[40]:=by decide +kernel
    rw [o]
    have hl:(PyData.shownAll (toPyRs xs)).length=xs.length:=by rw [shownAll_eq,toPyRs_eq,List.length_map,List.length_map]
    cases xs with
    | nil =>
      have:cl ((",)":String):Str)=[44,41]:=by decide +kernel
      simp [shL,shT,toPyRs,PyData.shownAll,this]
    | cons y ys =>
      have:cl ((")":String):Str)=[41]:=by decide +kernel
      simp [shL,toPyRs,PyData.shownAll,this]
  | k + 1,.lst [],h=>by decide +kernel
  | k + 1,.lst (x :: xs),h=>by
    obtain ⟨hx,hs⟩:Gd k x∧Gds k xs:=by simpa only [Gd,Gds] using h
    have e1:=sh_eq hx
    have e2:=shs_eq hs
    unfold reprD at e1 ⊢
    simp only [toPyR,PyData.shown,listText,toPyRs,PyData.shownAll,textFrom]
    rw [cl_app,from_codes _ _ _ (by decide),cl_app,cl_app,e1,e2]
    have o:cl (("[":Str))=[91]:=by decide +kernel
    have o2:cl ((if 0 > 0 then ", " else "":String):Str)=[]:=by decide +kernel
    have o3:cl (("]":Str))=[93]:=by decide +kernel
    rw [o,o2,o3]
    simp [shL]
  | 0,.tup _,h=>by simp [Gd] at h
  | 0,.lst _,h=>by simp [Gd] at h
  | 0,.ins _ _,h=>by simp [Gd] at h
  | 0,.scr _,h=>by simp [Gd] at h
  | 0,.ftp _,h=>by simp [Gd] at h
  | 0,.cls _,h=>by simp [Gd] at h
  | k + 1,.ins _ _,h=>by simp [Gd] at h
  | k + 1,.scr _,h=>by simp [Gd] at h
  | k + 1,.ftp _,h=>by simp [Gd] at h
  | k + 1,.cls _,h=>by simp [Gd] at h
theorem shs_eq:∀ {k:Nat} {ds:List D},Gds k ds→((PyData.shownAll (toPyRs ds)).flatMap fun t=>44 :: 32 :: cl t)=shT ds
  | _,[],_=>rfl
  | k,d :: ds,h=>by
    obtain ⟨hx,hs⟩:Gd k d∧Gds k ds:=by simpa only [Gds] using h
    have e1:=sh_eq hx
    unfold reprD at e1
    simp only [toPyRs,PyData.shownAll,List.flatMap_cons,shT]
    rw [e1,shs_eq hs]
    simp
end
def Tm (s:List Nat):Prop:=s=[]∨∃ r,s=44 :: r∨s=41 :: r∨s=93 :: r
def kd:D→Nat
  | .non=>0 | .bl _=>1 | .int _=>2 | .str _=>3 | .tup _=>4 | .lst _=>5 | .dct _=>6 | .ins _ _=>7 | .scr _=>8 | .ftp _=>9 | .cls _=>10 | .kdc _=>11 | .exi _ _ _=>12 | .dkf _=>12
theorem gd_kd {k:Nat} {a:D} (h:Gd k a):kd a≤6:=by
  cases a with
  | ins _ _=>cases k <;> simp [Gd] at h
  | scr _=>cases k <;> simp [Gd] at h
  | ftp _=>cases k <;> simp [Gd] at h
  | cls _=>cases k <;> simp [Gd] at h
  | kdc _=>cases k <;> simp [Gd] at h
  | exi _ _ _=>cases k <;> simp [Gd] at h
  | dkf _=>cases k <;> simp [Gd] at h
  | _=>simp [kd]
theorem head_kd {k l:Nat} {a b:D} (ha:Gd k a) (hb:Gd l b) {s t:List Nat} (h:shL a ++ s=shL b ++ t):kd a=kd b:=by
  have first:∀ {k:Nat} {a:D},Gd k a→∃ c r,shL a=c :: r∧(match kd a with
      | 0=>c=78 | 1=>c=84∨c=70 | 2=>c=45∨(48≤c∧c≤57) | 3=>c=39 | 4=>c=40 | 5=>c=91 | _=>c=123):=by
    intro k a h
    cases a with
    | non=>exact ⟨_,_,rfl,rfl⟩
    | bl b=>cases b; exact ⟨_,_,rfl,.inr rfl⟩; exact ⟨_,_,rfl,.inl rfl⟩
    | int i =>
      obtain ⟨h1,h2⟩:=int_codes i
      cases e:cl (Str.ofString (toString i)) with
      | nil=>exact absurd e h2
      | cons c r =>
        refine ⟨c,r,e,?_⟩
        have:=h1 c (by rw [e]; exact List.mem_cons_self)
        exact (of_decide_eq_true this:c=45∨(48≤c∧c≤57))
    | str z=>exact ⟨_,_,rfl,rfl⟩
    | tup xs=>cases xs; exact ⟨_,_,rfl,rfl⟩; exact ⟨_,_,rfl,rfl⟩
    | lst xs=>cases xs; exact ⟨_,_,rfl,rfl⟩; exact ⟨_,_,rfl,rfl⟩
    | dct _=>exact ⟨_,_,rfl,rfl⟩
    | ins _ _=>cases k <;> simp [Gd] at h
    | scr _=>cases k <;> simp [Gd] at h
    | ftp _=>cases k <;> simp [Gd] at h
    | cls _=>cases k <;> simp [Gd] at h
    | kdc _=>cases k <;> simp [Gd] at h
    | exi _ _ _=>cases k <;> simp [Gd] at h
    | dkf _=>cases k <;> simp [Gd] at h
  obtain ⟨c,r,e1,h1⟩:=first ha
  obtain ⟨c',r',e2,h2⟩:=first hb
  rw [e1,e2] at h
  simp only [List.cons_append,List.cons.injEq] at h
  obtain ⟨rfl,_⟩:=h
  have na:=gd_kd ha
  have nb:=gd_kd hb
  cases a <;> cases b <;> simp only [kd] at h1 h2 na nb ⊢ <;> omega
theorem dg_span:∀ {p q s t:List Nat},(∀ c∈p,isDg c=true)→(∀ c∈q,isDg c=true)→Tm s→Tm t→p ++ s=q ++ t→p=q∧s=t
  | [],[],s,t,_,_,_,_,h=>⟨rfl,h⟩
  | [],c :: q,s,t,_,hq,hs,_,h=>by
    have hc:=hq c List.mem_cons_self
    simp only [List.nil_append,List.cons_append] at h
    rcases hs with rfl | ⟨r,rfl | rfl | rfl⟩
    · cases h
    all_goals
      cases h
      exact absurd hc (by decide)
  | c :: p,[],s,t,hp,_,_,ht,h=>by
    have hc:=hp c List.mem_cons_self
    simp only [List.nil_append,List.cons_append] at h
    rcases ht with rfl | ⟨r,rfl | rfl | rfl⟩
    · cases h
    all_goals
      cases h
      exact absurd hc (by decide)
  | c :: p,c' :: q,s,t,hp,hq,hs,ht,h=>by
    simp only [List.cons_append,List.cons.injEq] at h
    obtain ⟨rfl,h⟩:=h
    obtain ⟨e1,e2⟩:=dg_span (fun x hx=>hp x (List.mem_cons_of_mem _ hx)) (fun x hx=>hq x (List.mem_cons_of_mem _ hx)) hs ht h
    exact ⟨by rw [e1],e2⟩
theorem str_span:∀ {p q s t:List Nat},(∀ c∈p,plC c=true)→(∀ c∈q,plC c=true)→p ++ 39 :: s=q ++ 39 :: t→p=q∧s=t
  | [],[],s,t,_,_,h=>⟨rfl,by simpa using h⟩
  | [],c :: q,s,t,_,hq,h=>by
    simp only [List.nil_append,List.cons_append,List.cons.injEq] at h
    exact absurd (hq c List.mem_cons_self) (by rw [← h.1]; decide)
  | c :: p,[],s,t,hp,_,h=>by
    simp only [List.nil_append,List.cons_append,List.cons.injEq] at h
    exact absurd (hp c List.mem_cons_self) (by rw [h.1]; decide)
  | c :: p,c' :: q,s,t,hp,hq,h=>by
    simp only [List.cons_append,List.cons.injEq] at h
    obtain ⟨rfl,h⟩:=h
    obtain ⟨e1,e2⟩:=str_span (fun x hx=>hp x (List.mem_cons_of_mem _ hx)) (fun x hx=>hq x (List.mem_cons_of_mem _ hx)) h
    exact ⟨by rw [e1],e2⟩
theorem tm_T (xs:List D) (e:Nat) (he:e=41∨e=93) (s:List Nat):Tm (shT xs ++ e :: s):=by
  cases xs with
  | nil=>rcases he with rfl | rfl; exact .inr ⟨s,.inr (.inl rfl)⟩; exact .inr ⟨s,.inr (.inr rfl)⟩
  | cons x xs=>exact .inr ⟨_,.inl rfl⟩
theorem head_no {k:Nat} {a:D} (h:Gd k a) (x:Nat) (hx:x=41∨x=93):shL a ≠ []∧∀ c r,shL a=c :: r→c ≠ x:=by
  cases a with
  | non=>exact ⟨by simp [shL],fun c r e=>by simp [shL] at e; omega⟩
  | bl b=>cases b <;> exact ⟨by simp [shL],fun c r e=>by simp [shL] at e; omega⟩
  | int i =>
    obtain ⟨h1,h2⟩:=int_codes i
    refine ⟨h2,fun c r e=>?_⟩
    have:isDg c=true:=h1 c (by rw [show cl (Str.ofString (toString i))=c :: r from e]; exact List.mem_cons_self)
    have:=of_decide_eq_true this
    omega
  | str z=>exact ⟨by simp [shL],fun c r e=>by simp [shL] at e; omega⟩
  | tup xs=>cases xs <;> exact ⟨by simp [shL],fun c r e=>by simp [shL] at e; omega⟩
  | lst xs=>cases xs <;> exact ⟨by simp [shL],fun c r e=>by simp [shL] at e; omega⟩
  | dct _=>exact ⟨by simp [shL],fun c r e=>by simp [shL] at e; omega⟩
  | ins _ _=>cases k <;> simp [Gd] at h
  | scr _=>cases k <;> simp [Gd] at h
  | ftp _=>cases k <;> simp [Gd] at h
  | cls _=>cases k <;> simp [Gd] at h
  | kdc _=>cases k <;> simp [Gd] at h
  | exi _ _ _=>cases k <;> simp [Gd] at h
  | dkf _=>cases k <;> simp [Gd] at h
theorem head_no41 {k:Nat} {a:D} (h:Gd k a):shL a ≠ []∧∀ c r,shL a=c :: r→c ≠ 41:=head_no h 41 (.inl rfl)
theorem head_no93 {k:Nat} {a:D} (h:Gd k a):shL a ≠ []∧∀ c r,shL a=c :: r→c ≠ 93:=head_no h 93 (.inr rfl)
mutual
theorem sh_inj:∀ {k l:Nat} (a b:D) (s t:List Nat),Gd k a→Gd l b→Tm s→Tm t→shL a ++ s=shL b ++ t→a=b∧s=t
  | k,l,.non,b,s,t,ha,hb,hs,ht,h=>by
    have e:=head_kd ha hb h
    cases b <;> simp [kd] at e
    exact ⟨rfl,by simpa using h⟩
  | k,l,.bl x,b,s,t,ha,hb,hs,ht,h=>by
    have e:=head_kd ha hb h
    cases b <;> simp [kd] at e
    rename_i y
    cases x <;> cases y <;> simp [shL] at h ⊢ <;> exact h
  | k,l,.int i,b,s,t,ha,hb,hs,ht,h=>by
    have e:=head_kd ha hb h
    cases b <;> simp [kd] at e
    rename_i j
    obtain ⟨e1,e2⟩:=dg_span (int_codes i).1 (int_codes j).1 hs ht h
    exact ⟨by rw [int_inj e1],e2⟩
  | k,l,.str z,b,s,t,ha,hb,hs,ht,h=>by
    have e:=head_kd ha hb h
    cases b <;> simp [kd] at e
    rename_i y
    have hz:∀ c∈cl z,plC c=true:=by cases k <;> simpa only [Gd] using ha
    have hy:∀ c∈cl y,plC c=true:=by cases l <;> simpa only [Gd] using hb
    simp only [shL,List.cons_append,List.append_assoc,List.cons.injEq,true_and,List.nil_append] at h
    obtain ⟨e1,e2⟩:=str_span hz hy h
    exact ⟨by rw [cl_inj e1],e2⟩
  | k,l,.dct xs,b,s,t,ha,hb,hs,ht,h=>by
    have e:=head_kd ha hb h
    cases b <;> simp [kd] at e
    rename_i ys
    have h1:xs=[]:=by cases k <;> simpa only [Gd] using ha
    have h2:ys=[]:=by cases l <;> simpa only [Gd] using hb
    subst h1 h2
    exact ⟨rfl,by simpa [shL] using h⟩
  | k,l,.tup xs,b,s,t,ha,hb,hs,ht,h=>by
    have e:=head_kd ha hb h
    cases b <;> simp [kd] at e
    rename_i ys
    cases k with
    | zero=>simp [Gd] at ha
    | succ k =>
      cases l with
      | zero=>simp [Gd] at hb
      | succ l =>
        have ha:Gds k xs:=by simpa only [Gd] using ha
        have hb:Gds l ys:=by simpa only [Gd] using hb
        cases xs with
        | nil =>
          cases ys with
          | nil=>exact ⟨rfl,by simpa [shL] using h⟩
          | cons y ys =>
            exfalso
            simp only [shL,List.cons_append,List.nil_append,List.cons.injEq,true_and,List.append_assoc] at h
            have hy:Gd l y:=(by simpa only [Gds] using hb:Gd l y∧Gds l ys).1
            have:=head_no41 hy
            cases e:shL y with
            | nil=>exact this.1 e
            | cons c r =>
              rw [e] at h
              simp only [List.cons_append,List.cons.injEq] at h
              exact this.2 c r e h.1.symm
        | cons x xs =>
          have hx:Gd k x∧Gds k xs:=by simpa only [Gds] using ha
          cases ys with
          | nil =>
            exfalso
            simp only [shL,List.cons_append,List.nil_append,List.cons.injEq,true_and,List.append_assoc] at h
            have:=head_no41 hx.1
            cases e:shL x with
            | nil=>exact this.1 e
            | cons c r =>
              rw [e] at h
              simp only [List.cons_append,List.cons.injEq] at h
              exact this.2 c r e h.1
          | cons y ys =>
            have hy:Gd l y∧Gds l ys:=by simpa only [Gds] using hb
            simp only [shL,List.cons_append,List.cons.injEq,true_and,List.append_assoc] at h
            have tmx:∀ (zs:List D) (s:List Nat),Tm ((if zs.isEmpty=true then [44,41] else shT zs ++ [41]) ++ s):=fun zs s=>by
              split
              · exact .inr ⟨_,.inl rfl⟩
              · rw [List.append_assoc]; exact tm_T zs 41 (.inl rfl) s
            obtain ⟨rfl,h2⟩:=sh_inj x y _ _ hx.1 hy.1 (tmx xs s) (tmx ys t) h
            clear h
            have h:=h2
            clear h2
            cases xs with
            | nil =>
              cases ys with
              | nil=>exact ⟨rfl,by simpa using h⟩
              | cons z zs=>simp [shT] at h
            | cons w ws =>
              cases ys with
              | nil=>simp [shT] at h
              | cons z zs =>
                simp only [List.isEmpty_cons,Bool.false_eq_true,if_false,List.append_assoc,List.cons_append,List.nil_append] at h
                obtain ⟨e1,e2⟩:=shs_inj (w :: ws) (z :: zs) 41 s t (.inl rfl) hx.2 hy.2 h
                exact ⟨by rw [e1],e2⟩
  | k,l,.lst xs,b,s,t,ha,hb,hs,ht,h=>by
    have e:=head_kd ha hb h
    cases b <;> simp [kd] at e
    rename_i ys
    cases k with
    | zero=>simp [Gd] at ha
    | succ k =>
      cases l with
      | zero=>simp [Gd] at hb
      | succ l =>
        have ha:Gds k xs:=by simpa only [Gd] using ha
        have hb:Gds l ys:=by simpa only [Gd] using hb
        cases xs with
        | nil =>
          cases ys with
          | nil=>exact ⟨rfl,by simpa [shL] using h⟩
          | cons y ys =>
            exfalso
            simp only [shL,List.cons_append,List.nil_append,List.cons.injEq,true_and,List.append_assoc] at h
            have hy:Gd l y:=(by simpa only [Gds] using hb:Gd l y∧Gds l ys).1
            have:=head_no93 hy
            cases e:shL y with
            | nil=>exact this.1 e
            | cons c r =>
              rw [e] at h
              simp only [List.cons_append,List.cons.injEq] at h
              exact this.2 c r e h.1.symm
        | cons x xs =>
          have hx:Gd k x∧Gds k xs:=by simpa only [Gds] using ha
          cases ys with
          | nil =>
            exfalso
            simp only [shL,List.cons_append,List.nil_append,List.cons.injEq,true_and,List.append_assoc] at h
            have:=head_no93 hx.1
            cases e:shL x with
            | nil=>exact this.1 e
            | cons c r =>
              rw [e] at h
              simp only [List.cons_append,List.cons.injEq] at h
              exact this.2 c r e h.1
          | cons y ys =>
            have hy:Gd l y∧Gds l ys:=by simpa only [Gds] using hb
            simp only [shL,List.cons_append,List.cons.injEq,true_and,List.append_assoc,List.nil_append] at h
            obtain ⟨rfl,h2⟩:=sh_inj x y _ _ hx.1 hy.1 (tm_T xs 93 (.inr rfl) s) (tm_T ys 93 (.inr rfl) t) h
            obtain ⟨e1,e2⟩:=shs_inj xs ys 93 s t (.inr rfl) hx.2 hy.2 h2
            exact ⟨by rw [e1],e2⟩
  | k,l,.ins _ _,b,s,t,ha,hb,hs,ht,h=>by cases k <;> simp [Gd] at ha
  | k,l,.scr _,b,s,t,ha,hb,hs,ht,h=>by cases k <;> simp [Gd] at ha
  | k,l,.ftp _,b,s,t,ha,hb,hs,ht,h=>by cases k <;> simp [Gd] at ha
  | k,l,.cls _,b,s,t,ha,hb,hs,ht,h=>by cases k <;> simp [Gd] at ha
theorem shs_inj:∀ {k l:Nat} (xs ys:List D) (e:Nat) (s t:List Nat),(e=41∨e=93)→Gds k xs→Gds l ys→shT xs ++ e :: s=shT ys ++ e :: t→xs=ys∧s=t
  | k,l,[],[],e,s,t,_,_,_,h=>⟨rfl,by simpa [shT] using h⟩
  | k,l,[],y :: ys,e,s,t,he,_,_,h=>by
    simp only [shT,List.nil_append,List.cons_append,List.cons.injEq] at h
    omega
  | k,l,x :: xs,[],e,s,t,he,_,_,h=>by
    simp only [shT,List.nil_append,List.cons_append,List.cons.injEq] at h
    omega
  | k,l,x :: xs,y :: ys,e,s,t,he,ha,hb,h=>by
    have hx:Gd k x∧Gds k xs:=by simpa only [Gds] using ha
    have hy:Gd l y∧Gds l ys:=by simpa only [Gds] using hb
    simp only [shT,List.cons_append,List.cons.injEq,true_and,List.append_assoc] at h
    obtain ⟨rfl,h2⟩:=sh_inj x y _ _ hx.1 hy.1 (tm_T xs e he s) (tm_T ys e he t) h
    obtain ⟨e1,e2⟩:=shs_inj xs ys e s t he hx.2 hy.2 h2
    exact ⟨by rw [e1],e2⟩
end
theorem repr_inj {k l:Nat} {a b:D} (ha:Gd k a) (hb:Gd l b) (h:reprD a=reprD b):a=b:=by
  have e:shL a ++ []=shL b ++ []:=by rw [← sh_eq ha,← sh_eq hb,h]
  exact (sh_inj a b [] [] ha hb (.inl rfl) (.inl rfl) e).1
end Ev
namespace Ev
open PySem
def txt (z:Str):Prop:=∀ c∈z.cps.toList,c < 128
mutual
theorem shL_lt:∀ {k:Nat} {d:D},Gd k d→∀ c∈shL d,c < 128
  | _,.non,_=>by decide
  | _,.bl true,_=>by decide
  | _,.bl false,_=>by decide
  | k,.int i,_=>fun c hc=>by
    have:=(int_codes i).1 c hc
    have:=of_decide_eq_true this
    omega
  | k,.str z,h=>fun c hc=>by
    have hz:∀ c∈z.cps.toList,plC c=true:=by cases k <;> simpa only [Gd] using h
    simp only [shL,List.mem_cons,List.mem_append,List.not_mem_nil,or_false] at hc
    rcases hc with rfl | hc | rfl
    · decide
    · exact plC_lt (hz c hc)
    · decide
  | k,.dct _,_=>by simp [shL]
  | k + 1,.tup [],_=>by decide
  | k + 1,.tup (x :: xs),h=>fun c hc=>by
    obtain ⟨hx,hs⟩:Gd k x∧Gds k xs:=by simpa only [Gd,Gds] using h
    simp only [shL,List.mem_cons,List.mem_append] at hc
    rcases hc with rfl | hc | hc
    · decide
    · exact shL_lt hx c hc
    · split at hc
      · simp at hc; omega
      · rcases List.mem_append.mp hc with hc | hc
        · exact shT_lt hs c hc
        · simp at hc; omega
  | k + 1,.lst [],_=>by decide
  | k + 1,.lst (x :: xs),h=>fun c hc=>by
    obtain ⟨hx,hs⟩:Gd k x∧Gds k xs:=by simpa only [Gd,Gds] using h
    simp only [shL,List.mem_cons,List.mem_append,List.not_mem_nil,or_false] at hc
    rcases hc with rfl | hc | hc | rfl
    · decide
    · exact shL_lt hx c hc
    · exact shT_lt hs c hc
    · decide
  | 0,.tup _,h=>by simp [Gd] at h
  | 0,.lst _,h=>by simp [Gd] at h
  | 0,.ins _ _,h=>by simp [Gd] at h
  | 0,.scr _,h=>by simp [Gd] at h
  | 0,.ftp _,h=>by simp [Gd] at h
  | 0,.cls _,h=>by simp [Gd] at h
  | k + 1,.ins _ _,h=>by simp [Gd] at h
  | k + 1,.scr _,h=>by simp [Gd] at h
  | k + 1,.ftp _,h=>by simp [Gd] at h
  | k + 1,.cls _,h=>by simp [Gd] at h
theorem shT_lt:∀ {k:Nat} {ds:List D},Gds k ds→∀ c∈shT ds,c < 128
  | _,[],_=>by simp [shT]
  | k,d :: ds,h=>fun c hc=>by
    obtain ⟨hx,hs⟩:Gd k d∧Gds k ds:=by simpa only [Gds] using h
    simp only [shT,List.mem_cons,List.mem_append] at hc
    rcases hc with rfl | rfl | hc | hc
    · decide
    · decide
    · exact shL_lt hx c hc
    · exact shT_lt hs c hc
end
theorem repr_txt {k:Nat} {d:D} (h:Gd k d):txt (reprD d):=fun c hc=>shL_lt h c (by rw [← sh_eq h]; exact hc)
theorem txt_eqOk {z:Str} (h:txt z):eqOk (.str z)=true:=by
  unfold eqOk SeqAt.shaped
  have:(toPy (.str z)).canLay0=true:=by
    simp only [toPy,PyData.canLay0]
    unfold PyData.strOk
    rw [← Array.all_toList,List.all_eq_true]
    exact fun c hc=>decide_eq_true (Nat.lt_of_lt_of_le (h c hc) (by decide))
  rw [this]
  rfl
theorem txts_eqOk {zs:List Str} (h:∀ z∈zs,txt z):eqOk (.lst (zs.map D.str))=true:=by
  unfold eqOk SeqAt.shaped
  have a:∀ zs:List Str,(∀ z∈zs,txt z)→PyData.canLayAll0 (toPys (zs.map D.str))=true∧PyData.depthAll (toPys (zs.map D.str))≤1:=by
    intro zs
    induction zs with
    | nil=>exact fun _=>⟨rfl,by simp [toPys,PyData.depthAll]⟩
    | cons z zs ih =>
      intro h
      obtain ⟨i1,i2⟩:=ih fun x hx=>h x (List.mem_cons_of_mem _ hx)
      have:(toPy (.str z)).canLay0=true:=by
        simp only [toPy,PyData.canLay0]
        unfold PyData.strOk
        rw [← Array.all_toList,List.all_eq_true]
        exact fun c hc=>decide_eq_true (Nat.lt_of_lt_of_le (h z List.mem_cons_self c hc) (by decide))
      rw [List.map_cons]
      refine ⟨by simp [toPys,PyData.canLayAll0,this,i1],?_⟩
      simp only [toPys,PyData.depthAll,toPy,PyData.depth] at i2 ⊢
      omega
  obtain ⟨a1,a2⟩:=a zs h
  have f:flatD (.lst (zs.map D.str))=true:=flat_strs zs
  have c:(toPy (.lst (zs.map D.str))).canLay0=true:=a1
  have d:(toPy (.lst (zs.map D.str))).depth≤64:=by
    simp only [toPy,PyData.depth]
    omega
  rw [f,c,decide_eq_true d]
  rfl
theorem in_txts {z:Str} {zs:List Str} {S:Sto} (hz:txt z) (hs:∀ y∈zs,txt y):opIn (.d (.str z)) (.d (.lst (zs.map D.str))) S=.ok (.d (.bl (decide (z∈zs)))) S:=by
  simp only [opIn,view,inD,txt_eqOk hz,txts_eqOk hs,Bool.and_self,if_true]
  congr 3
  clear hs
  induction zs with
  | nil=>rfl
  | cons y ys ih =>
    rw [List.map_cons,List.any_cons,eqD_str,ih]
    by_cases e:y=z
    · simp [e]
    · have e':¬ z=y:=fun q=>e q.symm
      simp [e,e']
theorem loopR_same {g:FG} {f:FS} {i:Nat} {ws:List W} {S:Sto} (P:List (Option W)→Prop) (hS:S[i]? = some (.lst ws)) (h:∀ w∈ws,∀ ρ,P ρ→∃ ρ1 ρ2,g w ρ S=some ρ1∧f ρ1 S=.nx ρ2 S∧P ρ2) :
    ∀ (n k:Nat) (ρ:List (Option W)),P ρ→ws.length < n + k→k≤ws.length→∃ ρ',loopR g f i n k ρ S=.nx ρ' S∧P ρ'
  | 0,k,ρ,hp,hk,h2=>by omega
  | n + 1,k,ρ,hp,hk,h2=>by
    unfold loopR
    rw [hS]
    cases e:ws[k]? with
    | none=>exact ⟨ρ,by simp only [e],hp⟩
    | some w =>
      obtain ⟨ρ1,ρ2,e1,e2,p2⟩:=h w (List.mem_of_getElem? e) ρ hp
      simp only [e,e1,e2]
      exact loopR_same P hS h n (k + 1) ρ2 p2 (by omega) (List.getElem?_eq_some_iff.mp e).1
theorem loop_inv {b:D→List (Option W)→Sto→RS} (I:Nat→List (Option W)→Sto→Prop) (K lim:Nat) (hb:∀ d c ρ S,I c ρ S→c + K < lim→∃ ρ' S',b d ρ S=.nx ρ' S'∧I (c + K) ρ' S') :
    ∀ (ds:List D) (c:Nat) (ρ:List (Option W)) (S:Sto),I c ρ S→c + K * ds.length < lim→∃ ρ' S' c',loop b ds ρ S=.nx ρ' S'∧I c' ρ' S'
  | [],c,ρ,S,h,_=>⟨ρ,S,c,rfl,h⟩
  | d :: ds,c,ρ,S,h,hc=>by
    rw [List.length_cons,Nat.mul_succ] at hc
    obtain ⟨ρ1,S1,e1,h1⟩:=hb d c ρ S h (by omega)
    obtain ⟨ρ2,S2,c2,e2,h2⟩:=loop_inv I K lim hb ds (c + K) ρ1 S1 h1 (by omega)
    exact ⟨ρ2,S2,c2,by rw [loop_cons,e1,lp_nx,e2],h2⟩
end Ev
namespace Ev
open PySem
open L2 (atI ixN Key)
theorem for_range {p:FS} {g:FG} {ρ:List (Option W)} {S S1:Sto} {fa:FA} {n:Nat} (h:fa ρ S=.ok [.d (.int (n:Int))] S1) (hn:n < 2 ^ 60):sFor (iRange1 fa) g p ρ S=loop (turn g p) ((List.range' 0 n).map fun k:Nat=>D.int (0 + (k:Int))) ρ S1:=by
  have hr:(-(2 ^ 62)≤(n:Int)∧(n:Int) < 2 ^ 62):=by constructor <;> omega
  have er:rangeD 0 ((n:Int)).toNat=(List.range' 0 n).map fun k:Nat=>D.int (0 + (k:Int)):=by
    rw [Int.toNat_natCast,← List.range_eq_range']
    rfl
  rw [e_for,e_range1,h,bind_ok]
  simp only [if_pos hr,st_ok,er]
theorem o_repr {d:D} {S:Sto} (h:showOk d=true):opRepr [.d d] S=.ok (.d (.str (reprD d))) S:=by simp [opRepr,h]
end Ev
namespace K02
open PySem Ev
open L2 (atI ixN)
abbrev alpha:Str:="abcdefghijklmnopqrstuvwxyz"
theorem alpha_list:alpha.cps.toList=(List.range 26).map (· + 97):=by decide +kernel
theorem alpha_len:alpha.length=26:=by decide +kernel
def asc (z:Str):Prop:=∀ c∈z.cps.toList,97≤c∧c≤122
def low (c:Nat):Bool:=decide (c∈alpha.cps.toList)
def isNm (z:Str):Bool:=decide (1≤(z.length:Int)∧(z.length:Int)≤8) && z.cps.toList.all low
theorem low_iff (c:Nat):low c=true ↔ 97≤c∧c≤122:=by
  unfold low
  rw [decide_eq_true_iff,alpha_list]
  simp only [List.mem_map,List.mem_range]
  constructor
  · rintro ⟨a,h,rfl⟩
    omega
  · intro h
    exact ⟨c - 97,by omega,by omega⟩
theorem nm_of {z:Str} (h:asc z) (h1:1≤z.length) (h8:z.length≤8):isNm z=true:=by
  unfold isNm
  rw [Bool.and_eq_true,decide_eq_true_iff,List.all_eq_true]
  exact ⟨by omega,fun c hc=>(low_iff c).mpr (h c hc)⟩
theorem asc_app {a b:Str} (ha:asc a) (hb:asc b):asc (a ++ b):=by
  intro c hc
  have e:(a ++ b).cps.toList=a.cps.toList ++ b.cps.toList:=by
    show (a.cps ++ b.cps).toList=_
    simp
  rw [e] at hc
  rcases List.mem_append.mp hc with h | h
  · exact ha c h
  · exact hb c h
theorem cut_sub {α:Type} {xs:List α} {lo hi:Option Int} {x:α} (h:x∈cut xs lo hi):x∈xs:=List.mem_of_mem_drop (List.mem_of_mem_take h)
theorem cut_len {α:Type} (xs:List α) (lo hi:Option Int):(cut xs lo hi).length≤xs.length:=by
  unfold cut
  rw [List.length_take,List.length_drop]
  omega
theorem asc_cut {z:Str} (h:asc z) (lo hi:Option Int):asc ⟨(cut z.cps.toList lo hi).toArray⟩:=by
  intro c hc
  exact h c (cut_sub (by simpa using hc))
theorem len_app (a b:Str):(a ++ b).length=a.length + b.length:=strLen_append a b
def ltr (r:Int):Str:=⟨#[r.toNat + 97]⟩
theorem letter {r:Int} (h0:0≤r) (h1:r < 26) (S:Sto):opIx (.d (.str alpha)) (.d (.int r)) S=.ok (.d (.str (ltr r))) S∧(ltr r).length=1∧asc (ltr r):=by
  have hl:r.toNat < 26:=by omega
  have hs:alpha.length≤sizeLine:=by rw [alpha_len,sizeLine_eq]; omega
  have e:atI alpha.cps.toList r=some (r.toNat + 97):=by
    unfold atI ixN
    rw [alpha_list]
    simp only [List.length_map,List.length_range]
    rw [if_pos h0,if_pos (by omega)]
    simp [hl]
  refine ⟨?_,rfl,?_⟩
  · simp only [opIx,view]
    rw [if_pos hs,e]
    rfl
  · intro c hc
    simp [ltr] at hc
    omega
theorem stem_loop {cs:List Int} {rest:Sto} {x1 x5 x6 x7 x8:Option W}:∀ (n:Nat) (ds:List D) (c:Nat) (S:Sto) (z:Str) (x4:Option W),ds.length=n→Dw cs rest c S→c + n < 2 ^ 39→z.length + n≤1000→asc z →
    ∃ (z':Str) (S':Sto) (y4:Option W),loop (turn (gN 4) (sSet 3 (fBin opAdd (fVar 3) (fBin opIx (fVar 2) (fApp F__law_next (fCons (fVar 0) (fCons (fC (.int 26)) fNil))))))) ds
      [some (.ref 0),x1,some (.d (.str alpha)),some (.d (.str z)),x4,x5,x6,x7,x8] S =
      .nx [some (.ref 0),x1,some (.d (.str alpha)),some (.d (.str z')),y4,x5,x6,x7,x8] S'∧Dw cs rest (c + n) S'∧z'.length≤z.length + n∧asc z'
  | 0,[],c,S,z,x4,_,h,_,_,ha=>⟨z,S,x4,by simp [loop],h,Nat.le_refl _,ha⟩
  | n + 1,d :: ds,c,S,z,x4,hn,h,hc,hz,ha=>by
    obtain ⟨r,S1,e1,r0,r1,h1⟩:=next_ok (many:=26) h (by omega) (by decide) (by decide)
    obtain ⟨e2,y1,y2⟩:=letter r0 r1 S1
    generalize ltr r=y at e2 y1 y2
    obtain ⟨z',S',y4,e3,h3,l3,a3⟩:=stem_loop (x1:=x1) (x5:=x5) (x6:=x6) (x7:=x7) (x8:=x8) n ds (c + 1) S1 (z ++ y) (some (.d d)) (by simpa using hn) h1 (by omega) (by rw [len_app]; omega) (asc_app ha y2)
    refine ⟨z',S',y4,?_,h3.mono (by omega),by rw [len_app] at l3; omega,a3⟩
    unfold loop
    have e:turn (gN 4) (sSet 3 (fBin opAdd (fVar 3) (fBin opIx (fVar 2) (fApp F__law_next (fCons (fVar 0) (fCons (fC (.int 26)) fNil)))))) d
      [some (.ref 0),x1,some (.d (.str alpha)),some (.d (.str z)),x4,x5,x6,x7,x8] S=.nx [some (.ref 0),x1,some (.d (.str alpha)),some (.d (.str (z ++ y))),some (.d d),x5,x6,x7,x8] S1:=by
      have hs:z.length + y.length≤sizeLine:=by rw [sizeLine_eq]; omega
      simp only [turn,gN,List.set_cons_succ,List.set_cons_zero,sSet,fBin,fVar,List.getElem?_cons_succ,List.getElem?_cons_zero,R.bind,fApp,fCons,fC,fNil,e1,e2,R.st,opAdd]
      rw [if_pos hs]
    rw [e]
    exact e3
theorem six {r:Int} (h0:0≤r) (h1:r < 6) (S:Sto):∃ b:Int,opIx (.d (.lst [.int 1,.int 3,.int 5,.int 7,.int 9,.int 11])) (.d (.int r)) S=.ok (.d (.int b)) S∧1≤b∧b≤11:=by
  obtain rfl | rfl | rfl | rfl | rfl | rfl:r=0∨r=1∨r=2∨r=3∨r=4∨r=5:=by omega
  all_goals exact ⟨_,rfl,by decide,by decide⟩
theorem nodup_by {α:Type} (f:Nat→α) (n:Nat) (h:∀ i j,i < j→j < n→f i ≠ f j):((List.range n).map f).Nodup:=by
  unfold List.Nodup
  rw [List.pairwise_map]
  exact (List.pairwise_lt_range (n:=n)).imp_of_mem fun {a b} _ hb hab=>h a b hab (List.mem_range.mp hb)
theorem names_ok {cs:List Int} {rest S:Sto} {c:Nat} {many:Int} (h:Dw cs rest c S) (hc:c + 20 < 2 ^ 39) (m0:0≤many) (m1:many≤5) :
    ∃ (zs:List Str) (S':Sto),F__law_names [.ref 0,.d (.int many)] S=.ok (.d (.lst (zs.map D.str))) S'∧Dw cs rest (c + 11) S'∧zs.length=many.toNat∧zs.Nodup∧∀ y∈zs,isNm y=true:=by
  suffices q:∃ (zs:List Str) (S':Sto),bodyF 9 s__law_names [.ref 0,.d (.int many)] S=.ok (.d (.lst (zs.map D.str))) S'∧Dw cs rest (c + 11) S'∧zs.length=many.toNat∧zs.Nodup∧∀ y∈zs,isNm y=true by
    obtain ⟨ys,S',e,q⟩:=q
    exact ⟨ys,S',called_draw rfl h e q.1,q⟩
  obtain ⟨r,S1,e1,r0,r1,h1⟩:=next_ok (many:=8) h (by omega) (by decide) (by decide)
  have hr7:r.toNat≤7:=by omega
  obtain ⟨z,S2,y4,e2,h2,l2,a2⟩:=stem_loop (x1:=some (.d (.int many))) (x5:=none) (x6:=none) (x7:=none) (x8:=none) r.toNat (rangeD 0 r.toNat) (c + 1) S1 "" none (range_len _) h1 (by omega) (by show 0 + _≤_; omega) (by intro c hc; revert hc; rw [show ("":Str).cps.toList=[] from rfl]; simp)
  have l2:z.length≤7:=by have:("":Str).length=0:=rfl; omega
  obtain ⟨at_,S3,e3,at0,at1,h3⟩:=next_ok (many:=(z.length:Int) + 1) h2 (by omega) (by omega) (by omega)
  obtain ⟨first,S4,e4,f0,f1,h4⟩:=next_ok (many:=26) h3 (by omega) (by decide) (by decide)
  obtain ⟨i6,S5,e5,i0,i1,h5⟩:=next_ok (many:=6) h4 (by omega) (by decide) (by decide)
  obtain ⟨b,e6,b0,b1⟩:=six i0 i1 S5
  obtain ⟨e7,w1,w2⟩:=letter f0 f1 S5
  generalize ltr first=w at e7 w1 w2
  have hzl:z.length≤sizeLine:=by rw [sizeLine_eq]; omega
  have hrng:(-(2 ^ 62)≤r∧r < 2 ^ 62):=by constructor <;> omega
  have hrngm:(-(2 ^ 62)≤many∧many < 2 ^ 62):=by constructor <;> omega
  have hw8:(repStr w 8).length=8:=by
    show ((List.replicate 8 w.cps.toList).flatten.toArray).size=_
    rw [List.size_toArray,rep_len]
    have:w.cps.toList.length=1:=w1
    omega
  have ha8:asc (repStr w 8):=by
    intro c hc
    have hc:c∈(List.replicate 8 w.cps.toList).flatten:=by simpa [repStr] using hc
    obtain ⟨l,hl,hcl⟩:=List.mem_flatten.mp hc
    rw [List.eq_of_mem_replicate hl] at hcl
    exact w2 c hcl
  have hwl:z.length + (repStr w 8).length≤sizeLine:=by rw [hw8,sizeLine_eq]; omega
  have hwl2:(z ++ repStr w 8).length≤sizeLine:=by rw [len_app]; exact hwl
  generalize hword:(⟨(cut (z ++ repStr w 8).cps.toList none (some 8)).toArray⟩:Str)=word
  have aword:asc word:=by rw [← hword]; exact asc_cut (asc_app a2 ha8) _ _
  have lword:word.length=8:=by
    rw [← hword]
    show (cut (z ++ repStr w 8).cps.toList none (some 8)).toArray.size=8
    rw [List.size_toArray]
    unfold cut
    rw [List.length_take]
    simp only [HT.sIx]
    have:¬ ((8:Int) < 0):=by omega
    simp only [this,if_false]
    have:(z ++ repStr w 8).cps.toList.length=z.length + 8:=by have:=len_app z (repStr w 8); rw [hw8] at this; exact this
    rw [List.length_drop]
    omega
  have lword2:word.length≤sizeLine:=by rw [sizeLine_eq]; omega
  have hm3:many.toNat≤5:=by omega
  have hsz:([]:List D).length + (rangeD 0 many.toNat).length≤sizeLine:=by rw [range_len,sizeLine_eq]; simp; omega
  have hrep:(decide ((2:Int)≤8∧(8:Int)≤1000) && decide (w.length≤1000))=true:=by rw [w1]; decide
  have run:∀ ρ,ρ=[some (.ref 0),some (.d (.int many)),some (.d (.str alpha)),some (.d (.str z)),y4,some (.d (.int at_)),some (.d (.int first)),some (.d (.int b)),some (.d (.str word))] →
      s__law_names [some (.ref 0),some (.d (.int many)),none,none,none,none,none,none,none] S =
      sSeq (sIf (toT (fBin opGt (fVar 7) (fC (.int 5)))) (sRet (fLc (iRange1 (fCons (fVar 1) fNil)) (gN 4) tTrue (eIf (toT (fBin opGt (fVar 7) (fC (.int 7)))) (fSl opSl (fVar 8) (oSome (fVar 4)) oNone) (fSl opSl (fVar 8) oNone (oSome (fBin opSub (fBin opAdd (fVar 4) (fC (.int 9))) (fVar 1))))) [4])) sNext)
        (sRet (fLc (iRange1 (fCons (fVar 1) fNil)) (gN 4) tTrue (fBin opAdd (fBin opAdd (fSl opSl (fVar 3) oNone (oSome (fVar 5))) (fBin opIx (fVar 2) (fBin opMod (fCall (op1 intD) (fCons (fBin opAdd (fVar 6) (fBin opMul (fVar 7) (fVar 4))) fNil)) (fC (.int 26))))) (fSl opSl (fVar 3) (oSome (fVar 5)) oNone)) [4])) ρ S5:=by
    intro ρ hρ
    subst hρ
    unfold s__law_names
    refine (seq_nx (ρ1:=[some (.ref 0),some (.d (.int many)),some (.d (.str alpha)),some (.d (.str "")),none,none,none,none,none]) (S1:=S) ?_).trans ?_
    · simp [sAsg,fTup,fCons,fC,fNil,R.bind,dats,R.st,gT,view,gsCons,gN,gsNil,sizeLine_eq]
    refine (seq_nx (ρ1:=[some (.ref 0),some (.d (.int many)),some (.d (.str alpha)),some (.d (.str z)),y4,none,none,none,none]) (S1:=S2) ?_).trans ?_
    · simp only [sFor,iRange1,fCons,fApp,fVar,fC,fNil,R.bind,List.getElem?_cons_zero,e1,R.st]
      rw [if_pos hrng]
      exact e2
    refine (seq_nx (ρ1:=[some (.ref 0),some (.d (.int many)),some (.d (.str alpha)),some (.d (.str z)),y4,some (.d (.int at_)),some (.d (.int first)),some (.d (.int b)),none]) (S1:=S5) ?_).trans ?_
    · simp [sAsg,fTup,fLst,fCons,fApp,fVar,fC,fNil,fBin,fCall,opLen,op1,view,lenD,(show z.length≤16777216 by omega),opAdd,R.bind,e3,e4,e5,e6,dats,R.st,gT,gsCons,gN,gsNil,sizeLine_eq]
    refine (seq_nx (ρ1:=[some (.ref 0),some (.d (.int many)),some (.d (.str alpha)),some (.d (.str z)),y4,some (.d (.int at_)),some (.d (.int first)),some (.d (.int b)),some (.d (.str word))]) (S1:=S5) ?_)
    · simp only [sSet,fSl,fBin,fVar,List.getElem?_cons_succ,List.getElem?_cons_zero,R.bind,e7,opMul,fC,hrep,if_true,opAdd,oNone,oSome,R.st,List.set_cons_succ,List.set_cons_zero]
      have:(8:Int).toNat=8:=rfl
      rw [this,if_pos hwl]
      simp only [opSl,view]
      rw [if_pos hwl2]
      simp only [hword]
  have wip:∀ x4:Option W,wipeL [some (.ref 0),some (.d (.int many)),some (.d (.str alpha)),some (.d (.str z)),x4,some (.d (.int at_)),some (.d (.int first)),some (.d (.int b)),some (.d (.str word))] [4] =
    [some (.ref 0),some (.d (.int many)),some (.d (.str alpha)),some (.d (.str z)),none,some (.d (.int at_)),some (.d (.int first)),some (.d (.int b)),some (.d (.str word))]:=fun x4=>rfl
  have fin:∀ ys,(s__law_names [some (.ref 0),some (.d (.int many)),none,none,none,none,none,none,none] S=.rt (.d (.lst ys)) S5)→bodyF 9 s__law_names [.ref 0,.d (.int many)] S=.ok (.d (.lst ys)) S5:=fun ys e=>body_rt e
  have cl:∀ (xs:List Nat) (k:Int),0≤k→k≤xs.length→(cut xs none (some k)).length=k.toNat∧(cut xs (some k) none).length=xs.length - k.toNat:=by
    intro xs k h0 h1
    unfold cut
    rw [List.length_take,List.length_drop,List.length_take,List.length_drop]
    simp only [HT.sIx]
    rw [if_neg (by omega)]
    constructor <;> omega
  have go:∀ (f:FE) (zf:Nat→Str),(∀ k,k < many.toNat→f [some (.ref 0),some (.d (.int many)),some (.d (.str alpha)),some (.d (.str z)),some (.d (.int (0 + (k:Int)))),some (.d (.int at_)),some (.d (.int first)),some (.d (.int b)),some (.d (.str word))] S5=.ok (.d (.str (zf k))) S5) →
      fLc (iRange1 (fCons (fVar 1) fNil)) (gN 4) tTrue f [4] [some (.ref 0),some (.d (.int many)),some (.d (.str alpha)),some (.d (.str z)),y4,some (.d (.int at_)),some (.d (.int first)),some (.d (.int b)),some (.d (.str word))] S5=.ok (.d (.lst (((List.range many.toNat).map zf).map D.str))) S5:=by
    intro f zf h
    have q:=compL_map (g:=gN 4) (f:=f) (ρ:=[some (.ref 0),some (.d (.int many)),some (.d (.str alpha)),some (.d (.str z)),none,some (.d (.int at_)),some (.d (.int first)),some (.d (.int b)),some (.d (.str word))]) (S:=S5) (fun k:Nat=>D.int (0 + (k:Int))) (fun k=>.str (zf k)) (List.range many.toNat) (by rw [List.length_range]; omega) (fun k hk=>⟨_,rfl,h k (List.mem_range.mp hk)⟩)
    simp only [fLc,iRange1,fCons,fVar,fNil,R.bind,List.getElem?_cons_succ,List.getElem?_cons_zero]
    rw [if_pos hrngm]
    simp only [R.bind]
    rw [wip]
    have e:rangeD 0 many.toNat=(List.range many.toNat).map fun k:Nat=>D.int (0 + (k:Int)):=rfl
    rw [e,q,List.map_map]
    rfl
  have wl:word.cps.toList.length=8:=lword
  have zl:z.cps.toList.length=z.length:=rfl
  by_cases hb:5 < b
  · by_cases h7:7 < b
    · have q:=go (eIf (toT (fBin opGt (fVar 7) (fC (.int 7)))) (fSl opSl (fVar 8) (oSome (fVar 4)) oNone) (fSl opSl (fVar 8) oNone (oSome (fBin opSub (fBin opAdd (fVar 4) (fC (.int 9))) (fVar 1))))) (fun k=>⟨(cut word.cps.toList (some (0 + (k:Int))) none).toArray⟩) (fun k hk=>by
        simp [eIf,toT,toB,fBin,fVar,fC,R.bind,opGt,opI0,h7,fSl,oSome,oNone,opSl,view,lword2])
      have ln:∀ k,k < many.toNat→(cut word.cps.toList (some (0 + (k:Int))) none).length=8 - k:=fun k hk=>by rw [(cl word.cps.toList (0 + (k:Int)) (by omega) (by omega)).2]; omega
      refine ⟨(List.range many.toNat).map (fun k:Nat=>(⟨(cut word.cps.toList (some (0 + (k:Int))) none).toArray⟩:Str)),S5,fin _ ?_,h5.mono (by omega),(by rw [List.length_map,List.length_range]),nodup_by _ _ fun i j hij hj e=>?_,fun y hy=>?_⟩
      · rw [run _ rfl]
        refine seq_rt ((if_t (S1:=S5) ?_).trans (ret_of q))
        simp [toT,toB,fBin,fVar,fC,R.bind,opGt,opI0,hb]
      · have e1:=ln i (by omega)
        have e2:=ln j hj
        have:(cut word.cps.toList (some (0 + (i:Int))) none).length=(cut word.cps.toList (some (0 + (j:Int))) none).length:=by
          have:=congrArg (fun s:Str=>s.cps.size) e
          simpa using this
        omega
      · obtain ⟨k,hk,rfl⟩:=List.mem_map.mp hy
        have hk:=List.mem_range.mp hk
        have e1:=ln k hk
        have e2:(⟨(cut word.cps.toList (some (0 + (k:Int))) none).toArray⟩:Str).length=8 - k:=by rw [← e1]; exact List.size_toArray
        exact nm_of (asc_cut aword _ _) (by omega) (by omega)
    · have q:=go (eIf (toT (fBin opGt (fVar 7) (fC (.int 7)))) (fSl opSl (fVar 8) (oSome (fVar 4)) oNone) (fSl opSl (fVar 8) oNone (oSome (fBin opSub (fBin opAdd (fVar 4) (fC (.int 9))) (fVar 1))))) (fun k=>⟨(cut word.cps.toList none (some (0 + (k:Int) + 9 - many))).toArray⟩) (fun k hk=>by
        simp [eIf,toT,toB,fBin,fVar,fC,R.bind,opGt,opI0,h7,fSl,oSome,oNone,opSl,view,lword2,opSub,opAdd])
      have ln:∀ k,k < many.toNat→(cut word.cps.toList none (some (0 + (k:Int) + 9 - many))).length=k + 9 - many.toNat:=fun k hk=>by rw [(cl word.cps.toList (0 + (k:Int) + 9 - many) (by omega) (by omega)).1]; omega
      refine ⟨(List.range many.toNat).map (fun k:Nat=>(⟨(cut word.cps.toList none (some (0 + (k:Int) + 9 - many))).toArray⟩:Str)),S5,fin _ ?_,h5.mono (by omega),(by rw [List.length_map,List.length_range]),nodup_by _ _ fun i j hij hj e=>?_,fun y hy=>?_⟩
      · rw [run _ rfl]
        refine seq_rt ((if_t (S1:=S5) ?_).trans (ret_of q))
        simp [toT,toB,fBin,fVar,fC,R.bind,opGt,opI0,hb]
      · have e1:=ln i (by omega)
        have e2:=ln j hj
        have:(cut word.cps.toList none (some (0 + (i:Int) + 9 - many))).length=(cut word.cps.toList none (some (0 + (j:Int) + 9 - many))).length:=by
          have:=congrArg (fun s:Str=>s.cps.size) e
          simpa using this
        omega
      · obtain ⟨k,hk,rfl⟩:=List.mem_map.mp hy
        have hk:=List.mem_range.mp hk
        have e1:=ln k hk
        have e2:(⟨(cut word.cps.toList none (some (0 + (k:Int) + 9 - many))).toArray⟩:Str).length=k + 9 - many.toNat:=by rw [← e1]; exact List.size_toArray
        exact nm_of (asc_cut aword _ _) (by omega) (by omega)
  · have hk0:∀ k:Nat,0≤(first + b * (0 + (k:Int))).fmod 26∧(first + b * (0 + (k:Int))).fmod 26 < 26:=fun k=>⟨Int.fmod_nonneg_of_pos _ (by decide),Int.fmod_lt_of_pos _ (by decide)⟩
    obtain ⟨c1,c2⟩:=cl z.cps.toList at_ at0 (by omega)
    have g1:(⟨(cut z.cps.toList none (some at_)).toArray⟩:Str).length=at_.toNat:=by rw [← c1]; exact List.size_toArray
    have g2:(⟨(cut z.cps.toList (some at_) none).toArray⟩:Str).length=z.length - at_.toNat:=by rw [← zl,← c2]; exact List.size_toArray
    have q:=go (fBin opAdd (fBin opAdd (fSl opSl (fVar 3) oNone (oSome (fVar 5))) (fBin opIx (fVar 2) (fBin opMod (fCall (op1 intD) (fCons (fBin opAdd (fVar 6) (fBin opMul (fVar 7) (fVar 4))) fNil)) (fC (.int 26))))) (fSl opSl (fVar 3) (oSome (fVar 5)) oNone)) (fun k=>((⟨(cut z.cps.toList none (some at_)).toArray⟩:Str) ++ ltr ((first + b * (0 + (k:Int))).fmod 26)) ++ ⟨(cut z.cps.toList (some at_) none).toArray⟩) (fun k hk=>by
      obtain ⟨ey,y1,y2⟩:=letter (hk0 k).1 (hk0 k).2 S5
      have hmul:mulOk b (0 + (k:Int))=true:=decide_eq_true (.inl ⟨by omega,by omega⟩)
      have k1:(⟨(cut z.cps.toList none (some at_)).toArray⟩:Str).length + (ltr ((first + b * (0 + (k:Int))).fmod 26)).length≤sizeLine:=by rw [sizeLine_eq]; omega
      have k2:((⟨(cut z.cps.toList none (some at_)).toArray⟩:Str) ++ ltr ((first + b * (0 + (k:Int))).fmod 26)).length + (⟨(cut z.cps.toList (some at_) none).toArray⟩:Str).length≤sizeLine:=by rw [len_app,sizeLine_eq]; omega
      simp only [fBin,fSl,fVar,fC,fCall,fCons,fNil,op1,view,intD,oNone,oSome,R.bind,List.set_cons_succ,List.set_cons_zero,List.getElem?_cons_succ,List.getElem?_cons_zero,opSl,opMul,hmul,if_true,opAdd,hzl,opMod,opI]
      rw [if_pos (by decide)]
      simp only [R.bind,ey]
      rw [if_pos k1]
      simp only [R.bind]
      rw [if_pos k2])
    refine ⟨(List.range many.toNat).map (fun k:Nat=>((⟨(cut z.cps.toList none (some at_)).toArray⟩:Str) ++ ltr ((first + b * (0 + (k:Int))).fmod 26)) ++ ⟨(cut z.cps.toList (some at_) none).toArray⟩),S5,fin _ ?_,h5.mono (by omega),(by rw [List.length_map,List.length_range]),nodup_by _ _ fun i j hij hj e=>?_,fun y hy=>?_⟩
    · rw [run _ rfl]
      refine (seq_nx (if_f (S1:=S5) ?_)).trans (ret_of q)
      simp [toT,toB,fBin,fVar,fC,R.bind,opGt,opI0,hb]
    · have e:=congrArg (fun s:Str=>s.cps.toList) e
      have ap:∀ a b:Str,(a ++ b).cps.toList=a.cps.toList ++ b.cps.toList:=fun a b=>by
        show (a.cps ++ b.cps).toList=_
        simp
      simp only [ap,ltr] at e
      rw [List.append_cancel_right_eq,List.append_cancel_left_eq] at e
      have hi:=hk0 i
      have hj':=hk0 j
      simp only [List.cons.injEq,and_true] at e
      have e2:(first + b * (0 + (i:Int))).fmod 26=(first + b * (0 + (j:Int))).fmod 26:=by omega
      rw [Int.fmod_eq_emod_of_nonneg _ (by decide),Int.fmod_eq_emod_of_nonneg _ (by decide)] at e2
      have hb5:b≤5:=by omega
      have hj4:j < 5:=by omega
      obtain rfl | rfl | rfl | rfl | rfl:b=1∨b=2∨b=3∨b=4∨b=5:=by omega
      all_goals omega
    · obtain ⟨k,hk,rfl⟩:=List.mem_map.mp hy
      obtain ⟨_,y1,y2⟩:=letter (hk0 k).1 (hk0 k).2 S5
      refine nm_of (asc_app (asc_app (asc_cut a2 _ _) y2) (asc_cut a2 _ _)) ?_ ?_
      all_goals
        rw [len_app,len_app]
        omega
end K02
namespace K02
open PySem Ev
open L2 (atI ixN)
theorem atI_mem {α:Type} {xs:List α} {r:Int} (h0:0≤r) (h1:r < xs.length):∃ x,atI xs r=some x∧x∈xs∧xs[r.toNat]? = some x:=by
  have hl:r.toNat < xs.length:=by omega
  refine ⟨xs[r.toNat],?_,List.getElem_mem hl,List.getElem?_eq_getElem hl⟩
  unfold atI ixN
  rw [if_pos h0,if_pos h1]
  exact List.getElem?_eq_getElem hl
def plS (z:Str):Prop:=∀ c∈z.cps.toList,plC c=true
theorem plS_app {a b:Str} (ha:plS a) (hb:plS b):plS (a ++ b):=by
  intro c hc
  have e:(a ++ b).cps.toList=a.cps.toList ++ b.cps.toList:=by
    show (a.cps ++ b.cps).toList=_
    simp
  rw [e] at hc
  rcases List.mem_append.mp hc with h | h
  · exact ha c h
  · exact hb c h
theorem plS_cut {z:Str} (h:plS z) (lo hi:Option Int):plS ⟨(cut z.cps.toList lo hi).toArray⟩:=by
  intro c hc
  exact h c (cut_sub (by simpa using hc))
abbrev mkS (p:Str×Int):D:=.tup [.str p.1,.int p.2]
def GoodP (ps:List (Str×Int)):Prop:=∀ p∈ps,isNm p.1=true∧1≤p.2∧p.2≤3
def mulI (m:Int) (is:List Int):Int:=is.foldl (fun m i=>m * (i + 1)) m
structure Okp (ps:List (Str×Int)):Prop where
  good:GoodP ps
  nd:(ps.map (·.1)).Nodup
  l1:1≤ps.length
  l3:ps.length≤3
  few:mulI 1 (ps.map (·.2))≤12
def mostsL:List D:=[.tup [.int 1],.tup [.int 2],.tup [.int 3],.tup [.int 1,.int 1],.tup [.int 1,.int 2],.tup [.int 2,.int 1],.tup [.int 2,.int 2],.tup [.int 1,.int 3],.tup [.int 3,.int 2],.tup [.int 1,.int 1,.int 1],.tup [.int 1,.int 2,.int 1],.tup [.int 1,.int 1,.int 2]]
theorem mosts_mem {d:D} (h:d∈mostsL):∃ is:List Int,d=.tup (is.map D.int)∧1≤is.length∧is.length≤3∧(∀ i∈is,1≤i∧i≤3)∧mulI 1 is≤12:=by
  simp only [mostsL,List.mem_cons,List.not_mem_nil,or_false] at h
  rcases h with rfl | rfl | rfl | rfl | rfl | rfl | rfl | rfl | rfl | rfl | rfl | rfl
  · exact ⟨[1],rfl,by decide⟩
  · exact ⟨[2],rfl,by decide⟩
  · exact ⟨[3],rfl,by decide⟩
  · exact ⟨[1,1],rfl,by decide⟩
  · exact ⟨[1,2],rfl,by decide⟩
  · exact ⟨[2,1],rfl,by decide⟩
  · exact ⟨[2,2],rfl,by decide⟩
  · exact ⟨[1,3],rfl,by decide⟩
  · exact ⟨[3,2],rfl,by decide⟩
  · exact ⟨[1,1,1],rfl,by decide⟩
  · exact ⟨[1,2,1],rfl,by decide⟩
  · exact ⟨[1,1,2],rfl,by decide⟩
theorem zip_mk:∀ (zs:List Str) (is:List Int),zipD (zs.map D.str) (is.map D.int)=(zs.zip is).map mkS
  | [],_=>by simp [zipD]
  | _ :: _,[]=>by simp [zipD]
  | z :: zs,i :: is=>by simp only [List.map_cons,zipD,List.zip_cons_cons,zip_mk zs is]
theorem settings_ok {cs:List Int} {rest S:Sto} {c:Nat} (h:Dw cs rest c S) (hc:c + 30 < 2 ^ 39) :
    ∃ (ps:List (Str×Int)) (S':Sto),F__law_settings [.ref 0] S=.ok (.d (.ftp (ps.map mkS))) S'∧Dw cs rest (c + 12) S'∧Okp ps:=by
  suffices q:∃ (ps:List (Str×Int)) (S':Sto),bodyF 5 s__law_settings [.ref 0] S=.ok (.d (.ftp (ps.map mkS))) S'∧Dw cs rest (c + 12) S'∧Okp ps by
    obtain ⟨ys,S',e,q⟩:=q
    exact ⟨ys,S',called_draw rfl h e q.1,q⟩
  obtain ⟨r,S1,e1,r0,r1,h1⟩:=next_ok (many:=12) h (by omega) (by decide) (by decide)
  obtain ⟨d,e2,d2,_⟩:=atI_mem (xs:=mostsL) r0 (by simpa [mostsL] using r1)
  obtain ⟨is,rfl,l1,l2,pm,few⟩:=mosts_mem d2
  obtain ⟨zs,S2,e3,h2,l3,nd,pz⟩:=names_ok (many:=(is.length:Int)) h1 (by omega) (by omega) (by omega)
  have l3:zs.length=is.length:=by omega
  have e4:=compL_map (g:=gT 2 (gsCons (gN 3) (gsCons (gN 4) gsNil))) (f:=fTup (fCons (fVar 3) (fCons (fVar 4) fNil))) (S:=S2) (ρ:=[some (.ref 0),some (.d (.lst mostsL)),some (.d (.tup (is.map D.int))),none,none]) mkS mkS (zs.zip is) (by rw [List.length_zip]; omega) (fun p hp =>
    ⟨[some (.ref 0),some (.d (.lst mostsL)),some (.d (.tup (is.map D.int))),some (.d (.str p.1)),some (.d (.int p.2))],by simp [gT,view,gsCons,gN,gsNil,mkS],by simp [fTup,fCons,fVar,fNil,R.bind,dats,sizeLine_eq]⟩)
  have m1:(zs.zip is).map (·.1)=zs:=List.map_fst_zip (by omega)
  have m2:(zs.zip is).map (·.2)=is:=List.map_snd_zip (by omega)
  refine ⟨zs.zip is,S2,body_rt (w:=.d (.ftp ((zs.zip is).map mkS))) ?_,h2.mono (by omega),⟨fun p hp=>?_,by rw [m1]; exact nd,by rw [List.length_zip]; omega,by rw [List.length_zip]; omega,by rw [m2]; exact few⟩⟩
  · unfold s__law_settings
    refine (seq_nx (ρ1:=[some (.ref 0),some (.d (.lst mostsL)),none,none,none]) (S1:=S) ?_).trans ?_
    · simp [sSet,fLst,fTup,fCons,fC,fNil,R.bind,dats,R.st,sizeLine_eq,mostsL]
    refine (seq_nx (ρ1:=[some (.ref 0),some (.d (.lst mostsL)),some (.d (.tup (is.map D.int))),none,none]) (S1:=S1) ?_).trans ?_
    · simp [sSet,fBin,fVar,fApp,fCons,fC,fNil,R.bind,e1,opIx,view,e2,R.st]
    refine ret_of ?_
    simp only [fCall,fCons,fNil,fLc,iZip,fApp,fVar,op1,opLen,lenD,view,R.bind,List.getElem?_cons_succ,List.getElem?_cons_zero,List.length_map,e3,pick,if_true,if_false,Bool.false_eq_true,wipeL,List.set_cons_succ,List.set_cons_zero,zip_mk,e4,opTupF]
  · obtain ⟨q1,q2⟩:=List.of_mem_zip (show (p.1,p.2)∈zs.zip is from hp)
    exact ⟨pz _ q1,pm _ q2⟩
theorem plS_of {z:Str} (h:z.cps.toList.all plC=true):plS z:=fun c hc=>List.all_eq_true.mp h c hc
theorem gstr {k:Nat} {z:Str} (h:z.cps.toList.all plC=true):Gd k (.str z):=by
  cases k <;> simp only [Gd] <;> exact plS_of h
end K02
namespace K02
open PySem Ev
open L2 (atI ixN)
theorem gd_str {k:Nat} {z:Str}:Gd k (.str z) ↔ plS z:=by cases k <;> simp only [Gd] <;> rfl
theorem gd_int {k:Nat} {i:Int}:Gd k (.int i) ↔ i.natAbs≤10 ^ 30 + 100 * k:=by cases k <;> simp only [Gd]
theorem cut_take {α:Type} (xs:List α) (n:Int) (h0:0≤n) (h1:n≤xs.length):cut xs none (some n)=xs.take n.toNat:=by
  unfold cut
  simp only [HT.sIx]
  rw [if_neg (by omega),List.drop_zero,Nat.sub_zero,Nat.min_eq_left (by omega)]
theorem cut_drop {α:Type} (xs:List α) (n:Int) (h0:0≤n):cut xs (some n) none=xs.drop n.toNat:=by
  unfold cut
  simp only [HT.sIx]
  rw [if_neg (by omega)]
  by_cases h:n.toNat≤xs.length
  · rw [Nat.min_eq_left h,List.take_of_length_le (by rw [List.length_drop]; omega)]
  · rw [Nat.min_eq_right (by omega),List.drop_eq_nil_of_le (Nat.le_refl _),List.drop_eq_nil_of_le (by omega)]
    simp
theorem cut_one {α:Type} (xs:List α) (n:Int) (x:α) (h0:0≤n) (h:xs[n.toNat]? = some x):cut xs (some n) (some (n + 1))=[x]:=by
  have hl:n.toNat < xs.length:=(List.getElem?_eq_some_iff.mp h).1
  unfold cut
  simp only [HT.sIx]
  rw [if_neg (by omega),if_neg (by omega),Nat.min_eq_left (by omega),Nat.min_eq_left (by omega),show (n + 1).toNat - n.toNat=1 by omega,List.drop_eq_getElem_cons hl]
  rw [List.getElem?_eq_getElem hl] at h
  cases h
  rfl
theorem gds_cut {k:Nat} {xs:List D} (h:Gds k xs):∀ n,Gds k (xs.take n)∧Gds k (xs.drop n):=fun n =>
  ⟨gds_iff.mpr fun x hx=>gds_iff.mp h x (List.mem_of_mem_take hx),gds_iff.mpr fun x hx=>gds_iff.mp h x (List.mem_of_mem_drop hx)⟩
theorem gds_app {k:Nat} {xs ys:List D} (h:Gds k xs) (h':Gds k ys):Gds k (xs ++ ys) :=
  gds_iff.mpr fun x hx=>(List.mem_append.mp hx).elim (gds_iff.mp h x) (gds_iff.mp h' x)
end K02
namespace K02
open PySem Ev
open L2 (atI ixN)
structure Sm (d:D):Prop where
  gd:Gd 50 d
  sz:szD d≤5000
theorem Sm.of_mem {xs:List D} {x:D} (h:Sm (.tup xs)) (hx:x∈xs):Sm x :=
  ⟨(gds_iff.mp (show Gds 49 xs by simpa only [Gd] using h.gd) x hx).mono (by decide),Nat.le_trans (szDs_mem hx) (by have:=h.sz; simp only [szD] at this; omega)⟩
theorem Sm.str {z:Str} (h:Sm (.str z)):z.length≤5000∧plS z:=⟨by have:=h.sz; simp only [szD] at this; omega,gd_str.mp h.gd⟩
theorem Sm.cs {d:D} {P:D→Prop} (h:Sm d) (h1:P .non) (h2:∀ b,P (.bl b)) (h3:∀ i,P (.int i)) (h4:∀ z,P (.str z)) (h5:∀ xs,P (.tup xs)) (h6:∀ xs,P (.lst xs)) (h7:∀ xs,P (.dct xs)):P d:=by
  cases d with
  | ins _ _=>exact absurd h.gd (by simp [Gd])
  | scr _=>exact absurd h.gd (by simp [Gd])
  | ftp _=>exact absurd h.gd (by simp [Gd])
  | cls _=>exact absurd h.gd (by simp [Gd])
  | kdc _=>exact absurd h.gd (by simp [Gd])
  | exi _ _ _=>exact absurd h.gd (by simp [Gd])
  | dkf _=>exact absurd h.gd (by simp [Gd])
  | non=>exact h1
  | bl b=>exact h2 b
  | int i=>exact h3 i
  | str z=>exact h4 z
  | tup xs=>exact h5 xs
  | lst xs=>exact h6 xs
  | dct xs=>exact h7 xs
def amD (lo hi:Int):D→Bool
  | .int i=>decide (lo≤i∧i≤hi)
  | _=>false
theorem is_among_ok {d:D} (h:Sm d) (lo hi:Int) (S:Sto):F_is_among [.d d,.d (.int lo),.d (.int hi)] S=.ok (.d (.bl (amD lo hi d))) S:=by
  refine rt_called (ds:=[d,.int lo,.int hi]) (S1:=[]) rfl ?_
  show s_is_among [some (.d d),some (.d (.int lo)),some (.d (.int hi))] []=_
  revert h
  cases d with
  | int i =>
    intro h
    by_cases l1:lo≤i <;> simp [s_is_among,amD,l1]
  | ins _ _=>intro h; exact absurd h.gd (by simp [Gd])
  | scr _=>intro h; exact absurd h.gd (by simp [Gd])
  | ftp _=>intro h; exact absurd h.gd (by simp [Gd])
  | cls _=>intro h; exact absurd h.gd (by simp [Gd])
  | kdc _=>intro h; exact absurd h.gd (by simp [Gd])
  | exi _ _ _=>intro h; exact absurd h.gd (by simp [Gd])
  | dkf _=>intro h; exact absurd h.gd (by simp [Gd])
  | _=>intro h; simp [s_is_among,amD]
def rowD (n:Nat):D→Bool
  | .tup xs=>decide (xs.length=n)
  | _=>false
theorem is_row_ok {d:D} (h:Sm d) (n:Nat) (S:Sto):F_is_row [.d d,.d (.int n)] S=.ok (.d (.bl (rowD n d))) S:=by
  refine rt_called (ds:=[d,.int n]) (S1:=[]) rfl ?_
  show s_is_row [some (.d d),some (.d (.int n))] []=_
  revert h
  cases d with
  | ins _ _=>intro h; exact absurd h.gd (by simp [Gd])
  | scr _=>intro h; exact absurd h.gd (by simp [Gd])
  | ftp _=>intro h; exact absurd h.gd (by simp [Gd])
  | cls _=>intro h; exact absurd h.gd (by simp [Gd])
  | kdc _=>intro h; exact absurd h.gd (by simp [Gd])
  | exi _ _ _=>intro h; exact absurd h.gd (by simp [Gd])
  | dkf _=>intro h; exact absurd h.gd (by simp [Gd])
  | tup xs=>intro h; simp [s_is_row,rowD]; omega
  | _=>intro h; simp [s_is_row,rowD]
def setOf:D→Option (Str×Int)
  | .tup [.str z,.int i]=>if isNm z=true∧1≤i∧i≤3 then some (z,i) else none
  | _=>none
end K02
namespace K02
open PySem Ev
open L2 (atI ixN)
abbrev nTarget (i j:Nat):FG:=gT 2 (gsCons (gN i) (gsCons (gN j) gsNil))
def mul (m:Int):List D→Int
  | []=>m
  | x :: xs=>match setOf x with
    | none=>mul m xs
    | some (_,i)=>mul (m * (i + 1)) xs
def rowsOf:List (Str×Int)→List (List D)→List (List D)
  | [],rs=>rs
  | p :: ps,rs=>rowsOf ps (rs.flatMap fun r=>(List.range (p.2 + 1).toNat).map fun v=>r ++ [.int (v:Int)])
theorem rows_step {γ:Type} (n:Nat) (f:γ→Nat→List D) (rs:List γ):(rs.flatMap fun r=>(List.range n).map fun v=>f r v).length=rs.length * n:=by
  induction rs with
  | nil=>simp
  | cons r rs ih=>rw [List.flatMap_cons,List.length_append,ih,List.length_map,List.length_range,List.length_cons,Nat.succ_mul]; omega
theorem rows_len:∀ (ps:List (Str×Int)) (rs:List (List D)) (m:Int),GoodP ps→(rs.length:Int)=m→((rowsOf ps rs).length:Int)=mul m (ps.map mkS)
  | [],rs,m,_,h=>h
  | p :: ps,rs,m,hp,h=>by
    have hp1:=hp p List.mem_cons_self
    have e:setOf (mkS p)=some (p.1,p.2):=by simp [setOf,hp1]
    rw [List.map_cons,rowsOf,mul,e]
    refine rows_len ps _ _ (fun q hq=>hp q (List.mem_cons_of_mem _ hq)) ?_
    rw [rows_step,← h,Int.natCast_mul]
    congr 1
    omega
end K02
namespace K02
open PySem Ev
open L2 (atI ixN)
abbrev aBody:FS:=(sSet 1 (fLc2 (iLst (fVar 1)) (gN 4) tTrue (iRange1 (fCons (fBin opAdd (fVar 3) (fC (.int 1))) fNil)) (gN 5) tTrue (fTup (fStar (fVar 4) (fCons (fVar 5) fNil))) [4,5] [5]))
@[simp] theorem e_lc2 {fi fi1:FI} {g g1:FG} {t t1:FT} {f:FE} {vs vs1:List Nat} {ρ:List (Option W)} {S:Sto}:fLc2 fi g t fi1 g1 t1 f vs vs1 ρ S=(fi ρ S).bind fun ds S1=>(compL2 g t fi1 g1 t1 f vs1 (wipeL ρ vs) ds S1 []).bind fun ys S2=>.ok (.d (.lst ys)) S2:=rfl
theorem rows_step' {γ δ:Type} (n:Nat) (f:γ→Nat→δ) (rs:List γ):(rs.flatMap fun r=>(List.range n).map fun v=>f r v).length=rs.length * n:=by
  induction rs with
  | nil=>simp
  | cons r rs ih=>rw [List.flatMap_cons,List.length_append,ih,List.length_map,List.length_range,List.length_cons,Nat.succ_mul]; omega
theorem stand_loop {x0:Option W}:∀ (ps:List (Str×Int)) (rs:List (List D)) (a b c d:Option W),GoodP ps→(∀ r∈rs,r.length≤100)→ps.length≤3→rs.length * 4 ^ ps.length≤100000→(∀ r∈rs,r.length + ps.length≤100) →
    ∃ a' b' c' d',loop (turn (nTarget 2 3) aBody) (ps.map mkS) [x0,some (.d (.lst (rs.map D.tup))),a,b,c,d] []=.nx [x0,some (.d (.lst ((rowsOf ps rs).map D.tup))),a',b',c',d'] []
  | [],rs,a,b,c,d,_,_,_,_,_=>⟨a,b,c,d,by simp [rowsOf]⟩
  | p :: ps,rs,a,b,c,d,hp,hr,hl,hk,hr2=>by
    have hp1:=hp p List.mem_cons_self
    have hpow:4 ^ (ps.length + 1)=4 ^ ps.length * 4:=Nat.pow_succ ..
    have h4:1≤4 ^ ps.length:=Nat.one_le_pow _ _ (by decide)
    simp only [List.length_cons] at hl hk hr2
    have hsz:rs.length * 4≤100000:=by
      have:rs.length * 4 * 1≤rs.length * 4 * 4 ^ ps.length:=Nat.mul_le_mul_left _ h4
      rw [hpow] at hk
      have e:rs.length * (4 ^ ps.length * 4)=rs.length * 4 * 4 ^ ps.length:=by rw [Nat.mul_comm (4 ^ ps.length) 4,Nat.mul_assoc]
      omega
    have hn:(p.2 + 1).toNat≤4:=by omega
    have hlen:(rs.flatMap fun r=>(List.range (p.2 + 1).toNat).map fun (v:Nat)=>r ++ [D.int (v:Int)]).length=rs.length * (p.2 + 1).toNat:=rows_step _ _ _
    have hle:rs.length * (p.2 + 1).toNat≤rs.length * 4:=Nat.mul_le_mul_left _ hn
    have inner:∀ r∈rs,∀ (x2 x3:Option W),x3=some (.d (.int p.2))→∀ acc:List D,acc.length + ((List.range (p.2 + 1).toNat).map fun (v:Nat)=>D.tup (r ++ [D.int (v:Int)])).length≤16777216 →
        compL (gN 5) tTrue (fTup (fStar (fVar 4) (fCons (fVar 5) fNil))) [x0,some (.d (.lst (rs.map D.tup))),x2,x3,some (.d (.tup r)),none] (rangeD 0 (p.2 + 1).toNat) [] acc=.ok (acc ++ (List.range (p.2 + 1).toNat).map fun (v:Nat)=>D.tup (r ++ [D.int (v:Int)])) []:=by
      intro r hrr x2 x3 _ acc hacc
      have:=compL_by (g:=gN 5) (t:=tTrue) (f:=fTup (fStar (fVar 4) (fCons (fVar 5) fNil))) (ρ:=[x0,some (.d (.lst (rs.map D.tup))),x2,x3,some (.d (.tup r)),none]) (S:=[]) (fun k:Nat=>D.int (0 + (k:Int))) (fun _=>true) (fun (v:Nat)=>D.tup (r ++ [D.int (v:Int)])) (List.range (p.2 + 1).toNat) acc (by simpa using hacc) (fun k hk=>⟨_,rfl,rfl,fun _=>by
        have hr100:=hr r hrr
        have hd:dats (r.map W.d ++ [.d (.int (k:Int))])=some (r ++ [D.int (k:Int)]):=by
          rw [dats_app]; rfl
        have hs:(r ++ [D.int (k:Int)]).length≤sizeLine:=by rw [sizeLine_eq]; simp; omega
        simp [seqW,seqD,hd]
        simp only [List.length_append,List.length_cons,List.length_nil] at hs
        exact hs⟩)
      rw [List.filter_eq_self.mpr (by simp)] at this
      exact this
    have e1:=compL2_by (g:=gN 4) (t:=tTrue) (fi1:=iRange1 (fCons (fBin opAdd (fVar 3) (fC (.int 1))) fNil)) (g1:=gN 5) (t1:=tTrue) (f:=fTup (fStar (fVar 4) (fCons (fVar 5) fNil))) (vs1:=[5])
      (ρ:=[x0,some (.d (.lst (rs.map D.tup))),some (.d (.str p.1)),some (.d (.int p.2)),none,none]) (S:=[]) D.tup (fun r=>(List.range (p.2 + 1).toNat).map fun (v:Nat)=>D.tup (r ++ [D.int (v:Int)])) rs [] (by
        rw [show (rs.flatMap fun r=>(List.range (p.2 + 1).toNat).map fun (v:Nat)=>D.tup (r ++ [D.int (v:Int)])).length=rs.length * (p.2 + 1).toNat from rows_step' _ _ _]
        simp
        omega) (fun r hrr=>⟨_,rangeD 0 (p.2 + 1).toNat,rfl,rfl,by
          have:-(2 ^ 62)≤p.2 + 1∧p.2 + 1 < 2 ^ 62:=⟨by omega,by omega⟩
          simp
          omega,fun acc hacc=>inner r hrr (some (.d (.str p.1))) _ rfl acc hacc⟩)
    obtain ⟨a',b',c',d',ih⟩:=stand_loop (x0:=x0) ps (rs.flatMap fun r=>(List.range (p.2 + 1).toNat).map fun (v:Nat)=>r ++ [D.int (v:Int)]) (some (.d (.str p.1))) (some (.d (.int p.2))) c d (fun q hq=>hp q (List.mem_cons_of_mem _ hq)) (fun r hr'=>by
        obtain ⟨r0,h0,h1⟩:=List.mem_flatMap.mp hr'
        obtain ⟨v,_,rfl⟩:=List.mem_map.mp h1
        have:=hr2 r0 h0
        simp; omega) (by omega) (by
        rw [hlen]
        have:=Nat.mul_le_mul_right (4 ^ ps.length) hle
        rw [hpow] at hk
        have e:rs.length * (4 ^ ps.length * 4)=rs.length * 4 * 4 ^ ps.length:=by rw [Nat.mul_comm (4 ^ ps.length) 4,Nat.mul_assoc]
        omega) (fun r hr'=>by
        obtain ⟨r0,h0,h1⟩:=List.mem_flatMap.mp hr'
        obtain ⟨v,_,rfl⟩:=List.mem_map.mp h1
        have:=hr2 r0 h0
        simp; omega)
    refine ⟨a',b',c',d',?_⟩
    rw [rowsOf,← ih,List.map_cons,loop_cons]
    have e2:(rs.flatMap fun r=>(List.range (p.2 + 1).toNat).map fun (v:Nat)=>D.tup (r ++ [D.int (v:Int)]))=(rs.flatMap fun r=>(List.range (p.2 + 1).toNat).map fun (v:Nat)=>r ++ [D.int (v:Int)]).map D.tup:=by
      rw [List.map_flatMap]
      simp [Function.comp_def]
    rw [List.nil_append,e2] at e1
    simp [wipeL,e1]
theorem all_standings_ok (ps:List (Str×Int)) (hp:GoodP ps) (hl:ps.length≤3) (S:Sto):F_all_standings [.d (.tup (ps.map mkS))] S=.ok (.d (.lst ((rowsOf ps [[]]).map D.tup))) S:=by
  refine rt_called (ds:=[.tup (ps.map mkS)]) (S1:=[]) rfl ?_
  show s_all_standings [some (.d (.tup (ps.map mkS))),none,none,none,none,none] []=_
  obtain ⟨a,b,c,d,e⟩:=stand_loop (x0:=some (.d (.tup (ps.map mkS)))) ps [[]] none none none none hp (by simp) hl (by
    have:4 ^ ps.length≤4 ^ 3:=Nat.pow_le_pow_right (by decide) hl
    simp; omega) (by simp; omega)
  simp only [List.map_cons,List.map_nil] at e
  simp [s_all_standings,e,sizeLine_eq]
end K02
namespace K02
open PySem Ev
open L2 (atI ixN)
theorem mul_of:∀ {ps:List (Str×Int)} (m:Int),GoodP ps→mul m (ps.map mkS)=mulI m (ps.map (·.2))
  | [],m,_=>rfl
  | p :: ps,m,hp=>by
    have hp1:=hp p List.mem_cons_self
    have e:setOf (mkS p)=some (p.1,p.2):=by simp [setOf,hp1]
    rw [List.map_cons,mul,e,List.map_cons]
    exact mul_of (m * (p.2 + 1)) fun q hq=>hp q (List.mem_cons_of_mem _ hq)
end K02
namespace K02
open PySem Ev
open L2 (atI ixN Key)
inductive Plc where
  | fin
  | act (w:Str) (t:Nat)
  | ask (z:Str) (ts:List Nat)
end K02
namespace K02
open PySem Ev
open L2 (atI ixN)
@[simp] theorem o_eqSs {xs:List D} {zs:List Str} {S:Sto}:opEqS (.d (.tup xs)) (.d (.tup (zs.map D.str))) S=match eqSs xs zs with | some b=>.ok (.d (.bl b)) S | none=>.err:=by
  have e:strsOf (zs.map D.str)=some zs:=by
    induction zs with
    | nil=>rfl
    | cons z zs ih=>simp [strsOf,ih]
  simp only [opEqS,e]
  all_goals (cases eqSs xs zs <;> rfl)
end K02
namespace K02
open PySem Ev
open L2 (atI ixN)
def fitB:List (Str×Int)→List D→Bool
  | [],[]=>true
  | p :: ps,x :: xs=>amD 0 p.2 x && fitB ps xs
  | _,_=>false
theorem fit_len:∀ {ps:List (Str×Int)} {xs:List D},fitB ps xs=true→xs.length=ps.length
  | [],[],_=>rfl
  | p :: ps,x :: xs,h=>by
    simp only [fitB,Bool.and_eq_true] at h
    simp only [List.length_cons,fit_len h.2]
  | [],_ :: _,h=>by simp [fitB] at h
  | _ :: _,[],h=>by simp [fitB] at h
def stD (ps:List (Str×Int)):D→Bool
  | .tup xs=>fitB ps xs
  | _=>false
theorem zip_ps:∀ (xs:List D) (ps:List (Str×Int)),zipD xs (ps.map mkS)=(xs.zip ps).map fun q=>.tup [q.1,mkS q.2]
  | [],_=>by simp [zipD]
  | _ :: _,[]=>by simp [zipD]
  | x :: xs,p :: ps=>by rw [List.map_cons,zipD,zip_ps xs ps,List.zip_cons_cons,List.map_cons]
theorem fit_all:∀ (xs:List D) (ps:List (Str×Int)),xs.length=ps.length→((xs.zip ps).map fun q=>amD 0 q.2.2 q.1).all id=fitB ps xs
  | [],[],_=>rfl
  | x :: xs,p :: ps,h=>by
    have:=fit_all xs ps (by simpa using h)
    simp only [List.zip_cons_cons,List.map_cons,List.all_cons,fitB,id,this]
theorem is_standing_ok {ps:List (Str×Int)} (hp:Okp ps) {d:D} (h:Sm d) (S:Sto):F_is_standing [.d (.tup (ps.map mkS)),.d d] S=.ok (.d (.bl (stD ps d))) S:=by
  refine rt_called (ds:=[.tup (ps.map mkS),d]) (S1:=[]) rfl ?_
  show s_is_standing [some (.d (.tup (ps.map mkS))),some (.d d),none,none] []=_
  have er:=is_row_ok h ps.length []
  cases d with
  | tup xs =>
    by_cases hl:xs.length=ps.length
    · have l3:=hp.l3
      have a1:rowD ps.length (.tup xs)=true:=by simp [rowD,hl]
      rw [a1] at er
      have e1:=compL_map (g:=gT 2 (gsCons (gN 2) (gsCons (gN 3) gsNil))) (f:=fApp F_is_among (fCons (fVar 2) (fCons (fC (.int 0)) (fCons (fBin opIx (fVar 3) (fC (.int 1))) fNil)))) (ρ:=[some (.d (.tup (ps.map mkS))),some (.d (.tup xs)),none,none]) (S:=[]) (fun q:D×(Str×Int)=>D.tup [q.1,mkS q.2]) (fun q=>.bl (amD 0 q.2.2 q.1)) (xs.zip ps) (by rw [List.length_zip]; omega) (fun q hq=>by
        have s1:Sm q.1:=h.of_mem (List.of_mem_zip (show (q.1,q.2)∈xs.zip ps from hq)).1
        exact ⟨[some (.d (.tup (ps.map mkS))),some (.d (.tup xs)),some (.d q.1),some (.d (mkS q.2))],by simp,by simp [is_among_ok s1]⟩)
      have e2:op1 allD [.d (.lst ((xs.zip ps).map fun q=>.bl (amD 0 q.2.2 q.1)))] []=.ok (.d (.bl (fitB ps xs))) []:=by
        have:bools ((xs.zip ps).map fun q=>D.bl (amD 0 q.2.2 q.1))=some ((xs.zip ps).map fun q=>amD 0 q.2.2 q.1):=bools_map (fun q:D×(Str×Int)=>amD 0 q.2.2 q.1) _
        simp only [op1,view,allD,this,Option.map_some,fit_all xs ps hl]
      simp [s_is_standing,er,iZip,pick,zip_ps,wipeL,e1,e2,stD]
    · have a1:rowD ps.length (.tup xs)=false:=by simp [rowD,hl]
      rw [a1] at er
      have:fitB ps xs=false:=by
        cases e:fitB ps xs with
        | false=>rfl
        | true=>exact absurd (fit_len e) hl
      simp [s_is_standing,er,stD,this]
  | ins _ _=>exact absurd h.gd (by simp [Gd])
  | scr _=>exact absurd h.gd (by simp [Gd])
  | ftp _=>exact absurd h.gd (by simp [Gd])
  | cls _=>exact absurd h.gd (by simp [Gd])
  | kdc _=>exact absurd h.gd (by simp [Gd])
  | exi _ _ _=>exact absurd h.gd (by simp [Gd])
  | dkf _=>exact absurd h.gd (by simp [Gd])
  | _=>simp [rowD] at er; simp [s_is_standing,er,stD]
theorem am_iff {hi:Int} {x:D}:amD 0 hi x=true ↔ ∃ v:Nat,x=.int (v:Int)∧v < (hi + 1).toNat:=by
  cases x with
  | int i =>
    simp only [amD,decide_eq_true_eq]
    constructor
    · exact fun h=>⟨i.toNat,by rw [Int.toNat_of_nonneg h.1],by omega⟩
    · rintro ⟨v,e,h⟩
      cases e
      omega
  | _=>simp [amD]
theorem mem_rows:∀ {ps:List (Str×Int)} {rs:List (List D)} {r:List D},r∈rowsOf ps rs ↔ ∃ r0∈rs,∃ xs,r=r0 ++ xs∧fitB ps xs=true
  | [],rs,r=>by
    simp only [rowsOf]
    constructor
    · exact fun h=>⟨r,h,[],by simp,rfl⟩
    · rintro ⟨r0,h,xs,rfl,e⟩
      cases xs with
      | nil=>simpa using h
      | cons x xs=>simp [fitB] at e
  | p :: ps,rs,r=>by
    rw [rowsOf,mem_rows]
    constructor
    · rintro ⟨r1,h1,xs,rfl,e⟩
      obtain ⟨r0,h0,h2⟩:=List.mem_flatMap.mp h1
      obtain ⟨v,hv,rfl⟩:=List.mem_map.mp h2
      refine ⟨r0,h0,.int (v:Int) :: xs,by simp,?_⟩
      simp only [fitB,e,Bool.and_true]
      exact am_iff.mpr ⟨v,rfl,List.mem_range.mp hv⟩
    · rintro ⟨r0,h0,xs,rfl,e⟩
      cases xs with
      | nil=>simp [fitB] at e
      | cons x xs =>
        simp only [fitB,Bool.and_eq_true] at e
        obtain ⟨v,rfl,hv⟩:=am_iff.mp e.1
        exact ⟨r0 ++ [.int (v:Int)],List.mem_flatMap.mpr ⟨r0,h0,List.mem_map.mpr ⟨v,List.mem_range.mpr hv,rfl⟩⟩,xs,by simp,e.2⟩
theorem mem_rows0 {ps:List (Str×Int)} {r:List D}:r∈rowsOf ps [[]] ↔ fitB ps r=true:=by
  rw [mem_rows]
  constructor
  · rintro ⟨r0,h0,xs,rfl,e⟩
    rw [List.mem_singleton.mp h0]
    exact e
  · exact fun h=>⟨[],List.mem_singleton.mpr rfl,r,rfl,h⟩
theorem app_end {S0:Sto} {acc:List W} {w:W} (h:acc.length < 16777216):opApp (.ref S0.length) [w] (S0 ++ [.lst acc])=.ok (.d .non) (S0 ++ [.lst (acc ++ [w])])∧isLstR (.ref S0.length) (S0 ++ [.lst acc])=true:=by
  have t:(S0 ++ [O.lst acc])[S0.length]? = some (.lst acc):=by simp
  have h:acc.length < sizeLine:=by rw [sizeLine_eq]; exact h
  constructor
  · simp only [opApp,t,h,if_true]
    rw [List.set_append_right _ _ (Nat.le_refl _)]
    simp
  · simp [isLstR,t]
abbrev vBody:FS:=sExpr (fMeth isLstR opApp (fVar 4) (fCons (fBin opAdd (fVar 5) (fTup (fCons (fVar 6) fNil))) fNil))
theorem vals_loop {S0:Sto} {r:List D} {x0 x1 x2 x3:Option W} (hr:r.length≤1000):∀ (vs:List Nat) (acc:List W) (x6:Option W),acc.length + vs.length < 16777216 →
    ∃ y6,loop (turn (gN 6) vBody) (vs.map fun k:Nat=>D.int (0 + (k:Int))) [x0,x1,x2,x3,some (.ref S0.length),some (.d (.tup r)),x6] (S0 ++ [.lst acc])=.nx [x0,x1,x2,x3,some (.ref S0.length),some (.d (.tup r)),y6] (S0 ++ [.lst (acc ++ vs.map fun v:Nat=>.d (.tup (r ++ [D.int (v:Int)])))])
  | [],acc,x6,_=>⟨x6,by simp⟩
  | v :: vs,acc,x6,h=>by
    simp only [List.length_cons] at h
    obtain ⟨y6,ih⟩:=vals_loop (S0:=S0) (x0:=x0) (x1:=x1) (x2:=x2) (x3:=x3) hr vs (acc ++ [.d (.tup (r ++ [D.int (v:Int)]))]) (some (.d (.int (0 + (v:Int))))) (by rw [List.length_append,List.length_cons,List.length_nil]; omega)
    refine ⟨y6,?_⟩
    obtain ⟨e1,e2⟩:=app_end (S0:=S0) (acc:=acc) (w:=.d (.tup (r ++ [D.int (v:Int)]))) (by omega)
    have e3:=o_addT (xs:=r) (ys:=[D.int (v:Int)]) (S:=S0 ++ [.lst acc]) (by rw [List.length_cons,List.length_nil]; omega)
    rw [List.map_cons,loop_cons]
    have e4:turn (gN 6) vBody (D.int (0 + (v:Int))) [x0,x1,x2,x3,some (.ref S0.length),some (.d (.tup r)),x6] (S0 ++ [.lst acc])=.nx [x0,x1,x2,x3,some (.ref S0.length),some (.d (.tup r)),some (.d (.int (0 + (v:Int))))] (S0 ++ [.lst (acc ++ [.d (.tup (r ++ [D.int (v:Int)]))])]):=by
      simp [fMeth,e1,e2,e3,sizeLine_eq]
    rw [e4,lp_nx,ih]
    simp
abbrev rBody:FS:=sFor (iRange1 (fCons (fBin opAdd (fVar 3) (fC (.int 1))) fNil)) (gN 6) vBody
theorem rws_loop {S0:Sto} {m:Int} {x0 x1 x2:Option W} (h1:1≤m) (h3:m≤3):∀ (rs:List (List D)) (acc:List W) (x5 x6:Option W),acc.length + 4 * rs.length < 16777216→(∀ r∈rs,r.length≤1000) →
    ∃ y5 y6,loop (turn (gN 5) rBody) (rs.map D.tup) [x0,x1,x2,some (.d (.int m)),some (.ref S0.length),x5,x6] (S0 ++ [.lst acc])=.nx [x0,x1,x2,some (.d (.int m)),some (.ref S0.length),y5,y6] (S0 ++ [.lst (acc ++ (rs.flatMap fun r=>(List.range (m + 1).toNat).map fun v:Nat=>r ++ [D.int (v:Int)]).map fun r=>.d (.tup r))])
  | [],acc,x5,x6,_,_=>⟨x5,x6,by simp⟩
  | r :: rs,acc,x5,x6,h,hr=>by
    simp only [List.length_cons] at h
    obtain ⟨n,hn,hn4⟩:∃ n:Nat,m + 1=(n:Int)∧n≤4:=⟨(m + 1).toNat,by omega,by omega⟩
    obtain ⟨y6,e1⟩:=vals_loop (S0:=S0) (r:=r) (x0:=x0) (x1:=x1) (x2:=x2) (x3:=some (.d (.int m))) (hr r List.mem_cons_self) (List.range' 0 n) acc x6 (by rw [List.length_range']; omega)
    obtain ⟨z5,z6,ih⟩:=rws_loop (S0:=S0) (m:=m) (x0:=x0) (x1:=x1) (x2:=x2) h1 h3 rs (acc ++ (List.range' 0 n).map fun v:Nat=>.d (.tup (r ++ [D.int (v:Int)]))) (some (.d (.tup r))) y6 (by rw [List.length_append,List.length_map,List.length_range']; omega) fun x hx=>hr x (List.mem_cons_of_mem _ hx)
    refine ⟨z5,z6,?_⟩
    rw [List.map_cons,loop_cons]
    have e2:turn (gN 5) rBody (D.tup r) [x0,x1,x2,some (.d (.int m)),some (.ref S0.length),x5,x6] (S0 ++ [.lst acc])=rBody [x0,x1,x2,some (.d (.int m)),some (.ref S0.length),some (.d (.tup r)),x6] (S0 ++ [.lst acc]):=rfl
    have e3:rBody [x0,x1,x2,some (.d (.int m)),some (.ref S0.length),some (.d (.tup r)),x6] (S0 ++ [.lst acc])=_:=(for_range (n:=n) (S1:=S0 ++ [.lst acc]) (by simp [hn]) (by omega)).trans e1
    rw [e2,e3,lp_nx,ih]
    have e4:(m + 1).toNat=n:=by omega
    rw [e4,List.flatMap_cons,List.map_append,List.append_assoc,List.map_map,List.range_eq_range']
    rfl
abbrev oBody:FS:=sSeq (sSet 4 (fNewL fNil)) (sSeq (sFor (iLst (fCall (op1 listD) (fCons (fVar 1) fNil))) (gN 5) rBody) (sSet 1 (fVar 4)))
theorem out_loop {x0:Option W}:∀ (ps:List (Str×Int)) (rs:List (List D)) (w:W) (S:Sto) (x2 x3 x4 x5 x6:Option W),GoodP ps→view S w=some (.lst (rs.map D.tup))→(∀ r∈rs,r.length + ps.length≤1000)→rs.length * 4 ^ ps.length≤100000 →
    ∃ w' S' y2 y3 y4 y5 y6,loop (turn (nTarget 2 3) oBody) (ps.map mkS) [x0,some w,x2,x3,x4,x5,x6] S=.nx [x0,some w',y2,y3,y4,y5,y6] S'∧view S' w'=some (.lst ((rowsOf ps rs).map D.tup))
  | [],rs,w,S,x2,x3,x4,x5,x6,_,hv,_,_=>⟨w,S,x2,x3,x4,x5,x6,rfl,hv⟩
  | p :: ps,rs,w,S,x2,x3,x4,x5,x6,hp,hv,hr,hk=>by
    have hp1:=hp p List.mem_cons_self
    simp only [List.length_cons] at hr hk
    have hpow:4 ^ (ps.length + 1)=4 ^ ps.length * 4:=Nat.pow_succ ..
    have h4:1≤4 ^ ps.length:=Nat.one_le_pow _ _ (by decide)
    have ha:rs.length * (4 ^ ps.length * 4)=rs.length * 4 * 4 ^ ps.length:=by rw [Nat.mul_comm (4 ^ ps.length) 4,Nat.mul_assoc]
    have hsz:rs.length * 4≤100000:=by
      have:rs.length * 4 * 1≤rs.length * 4 * 4 ^ ps.length:=Nat.mul_le_mul_left _ h4
      rw [hpow] at hk
      omega
    obtain ⟨y5,y6,e1⟩:=rws_loop (S0:=S) (m:=p.2) (x0:=x0) (x1:=some w) (x2:=some (.d (.str p.1))) hp1.2.1 hp1.2.2 rs [] x5 x6 (by rw [List.length_nil]; omega) (fun r h=>by have:=hr r h; omega)
    rw [List.nil_append] at e1
    have hv2:∀ rs':List (List D),view (S ++ [.lst (rs'.map fun r=>.d (.tup r))]) (.ref S.length)=some (.lst (rs'.map D.tup)):=fun rs'=>by
      have:=dats_map (rs'.map D.tup)
      rw [List.map_map] at this
      have this:dats (rs'.map fun r=>.d (.tup r))=some (rs'.map D.tup):=this
      simp [view,this]
    have hlen:(rs.flatMap fun r=>(List.range (p.2 + 1).toNat).map fun (v:Nat)=>r ++ [D.int (v:Int)]).length=rs.length * (p.2 + 1).toNat:=rows_step _ _ _
    have hle:rs.length * (p.2 + 1).toNat≤rs.length * 4:=Nat.mul_le_mul_left _ (by omega)
    have hr':∀ r∈(rs.flatMap fun r=>(List.range (p.2 + 1).toNat).map fun (v:Nat)=>r ++ [D.int (v:Int)]),r.length + ps.length≤1000:=fun r h=>by
      obtain ⟨r0,h0,h1⟩:=List.mem_flatMap.mp h
      obtain ⟨v,_,rfl⟩:=List.mem_map.mp h1
      have:=hr r0 h0
      simp only [List.length_append,List.length_cons,List.length_nil]
      omega
    obtain ⟨w',S',z2,z3,z4,z5,z6,ih,iv⟩:=out_loop (x0:=x0) ps _ (.ref S.length) _ (some (.d (.str p.1))) (some (.d (.int p.2))) (some (.ref S.length)) y5 y6 (fun q hq=>hp q (List.mem_cons_of_mem _ hq)) (hv2 _) hr' (by
      rw [hlen]
      have:=Nat.mul_le_mul_right (4 ^ ps.length) hle
      rw [hpow] at hk
      omega)
    refine ⟨w',S',z2,z3,z4,z5,z6,?_,iv⟩
    rw [List.map_cons,loop_cons]
    have hv3:view (S ++ [.lst []]) w=some (.lst (rs.map D.tup)):=by
      cases w with
      | ref i =>
        simp only [view] at hv ⊢
        cases e:S[i]? with
        | none=>rw [e] at hv; cases hv
        | some o =>
          rw [List.getElem?_append_left (List.getElem?_eq_some_iff.mp e).1,e]
          rw [e] at hv
          exact hv
      | d x=>exact hv
      | exc _ _=>exact hv
      | fn=>exact hv
    have e2:turn (nTarget 2 3) oBody (mkS p) [x0,some w,x2,x3,x4,x5,x6] S=.nx [x0,some (.ref S.length),some (.d (.str p.1)),some (.d (.int p.2)),some (.ref S.length),y5,y6] (S ++ [.lst ((rs.flatMap fun r=>(List.range (p.2 + 1).toNat).map fun (v:Nat)=>r ++ [D.int (v:Int)]).map fun r=>.d (.tup r))]):=by
      have t:turn (nTarget 2 3) oBody (mkS p) [x0,some w,x2,x3,x4,x5,x6] S=oBody [x0,some w,some (.d (.str p.1)),some (.d (.int p.2)),x4,x5,x6] S:=by simp
      rw [t]
      have a1:sSet 4 (fNewL fNil) [x0,some w,some (.d (.str p.1)),some (.d (.int p.2)),x4,x5,x6] S=.nx [x0,some w,some (.d (.str p.1)),some (.d (.int p.2)),some (.ref S.length),x5,x6] (S ++ [.lst []]):=by
        simp [fNewL,sizeLine_eq]
      have a2:sFor (iLst (fCall (op1 listD) (fCons (fVar 1) fNil))) (gN 5) rBody [x0,some w,some (.d (.str p.1)),some (.d (.int p.2)),some (.ref S.length),x5,x6] (S ++ [.lst []])=.nx [x0,some w,some (.d (.str p.1)),some (.d (.int p.2)),some (.ref S.length),y5,y6] (S ++ [.lst ((rs.flatMap fun r=>(List.range (p.2 + 1).toNat).map fun (v:Nat)=>r ++ [D.int (v:Int)]).map fun r=>.d (.tup r))]):=by
        rw [e_for]
        have:iLst (fCall (op1 listD) (fCons (fVar 1) fNil)) [x0,some w,some (.d (.str p.1)),some (.d (.int p.2)),some (.ref S.length),x5,x6] (S ++ [.lst []])=.ok (rs.map D.tup) (S ++ [.lst []]):=by
          simp [op1,hv3,listD,seqD]
        rw [this,st_ok]
        exact e1
      unfold oBody
      rw [e_seq,a1,go_nx,e_seq,a2,go_nx]
      simp
    rw [e2,lp_nx,ih]
theorem law_standings_ok (ps:List (Str×Int)) (hp:GoodP ps) (hl:ps.length≤3) (S:Sto):F__law_standings [.d (.tup (ps.map mkS))] S=.ok (.d (.lst ((rowsOf ps [[]]).map D.tup))) S:=by
  obtain ⟨w',S',y2,y3,y4,y5,y6,e,v⟩:=out_loop (x0:=some (.d (.tup (ps.map mkS)))) ps [[]] (.d (.lst [.tup []])) [] none none none none none hp rfl (by simp; omega) (by
    have:4 ^ ps.length≤4 ^ 3:=Nat.pow_le_pow_right (by decide) hl
    simp; omega)
  have run:s__law_standings [some (.d (.tup (ps.map mkS))),none,none,none,none,none,none] []=.rt w' S':=by
    unfold s__law_standings
    have a1:sSet 1 (fLst (fCons (fTup fNil) fNil)) [some (.d (.tup (ps.map mkS))),none,none,none,none,none,none] []=.nx [some (.d (.tup (ps.map mkS))),some (.d (.lst [.tup []])),none,none,none,none,none] []:=by
      simp [sizeLine_eq]
    have a2:sFor (iTupl (fVar 0)) (nTarget 2 3) oBody [some (.d (.tup (ps.map mkS))),some (.d (.lst [.tup []])),none,none,none,none,none] []=_:=e
    rw [e_seq,a1,go_nx,e_seq,a2,go_nx]
    simp
  have hs:seen S' w'=some (.lst ((rowsOf ps [[]]).map D.tup)):=by
    cases w' with
    | ref i =>
      simp only [seen]
      simp only [view] at v
      cases e:S'[i]? with
      | none=>rw [e] at v; cases v
      | some o =>
        rw [e] at v
        cases o with
        | lst ws=>simp only [view,e]; exact v
        | dct _=>cases v
        | drw _ _ _=>cases v
        | ins _ _=>cases v
        | tup _=>cases v
        | kd _=>cases v
    | d x=>exact v
    | exc _ _=>exact v
    | fn=>exact v
  have e2:bodyF 7 s__law_standings [.d (.tup (ps.map mkS))] []=.ok w' S':=by
    unfold bodyF
    show (match s__law_standings [some (.d (.tup (ps.map mkS))),none,none,none,none,none,none] [] with
      | .rt w S1=>R.ok w S1
      | .nx _ S1=>.ok (.d .non) S1
      | .exn c x _ S1=>.exn c x S1
      | _=>.err)=_
    rw [run]
  unfold F__law_standings called
  simp [e2,seenN_of (n:=0) hs]
end K02
namespace K02
open PySem Ev
open L2 (atI ixN Key)
def oddL:List D:=[.non,.int 0,.int 1,.int 2,.int 4,.int (-1),.int 100,.bl true,.bl false,.str "",.str "a",.str "abcdefghi",.str "A",.str "end",.str "live",.tup [],.tup [.tup []],.tup [.str "a",.int 1],
  .lst [],.dct [],.int (10 ^ 30),.tup [.str "end"],.tup [.tup [.str "end"]],.str "begin",.str "a1",.tup [.str "do",.str "a",.int 0]]
theorem odd_gd:∀ d∈oddL,Gd 2 d∧szD d≤10:=by
  intro d hd
  simp only [oddL,List.mem_cons,List.not_mem_nil,or_false] at hd
  have st:∀ {k:Nat} {z:Str},z.cps.toList.all plC=true→Gd k (.str z):=fun h=>gstr h
  rcases hd with rfl | rfl | rfl | rfl | rfl | rfl | rfl | rfl | rfl | rfl | rfl | rfl | rfl | rfl | rfl | rfl | rfl | rfl | rfl | rfl | rfl | rfl | rfl | rfl | rfl | rfl
  all_goals first
    | exact ⟨trivial,by decide +kernel⟩
    | exact ⟨st (by decide +kernel),by decide +kernel⟩
    | exact ⟨show _≤_ by decide +kernel,by decide +kernel⟩
    | exact ⟨show _=_ from rfl,by decide +kernel⟩
    | exact ⟨⟨trivial,trivial⟩,by decide +kernel⟩
    | exact ⟨⟨st (by decide +kernel),show _≤_ by decide +kernel,trivial⟩,by decide +kernel⟩
    | exact ⟨⟨st (by decide +kernel),trivial⟩,by decide +kernel⟩
    | exact ⟨⟨⟨st (by decide +kernel),trivial⟩,trivial⟩,by decide +kernel⟩
    | exact ⟨⟨st (by decide +kernel),st (by decide +kernel),show _≤_ by decide +kernel,trivial⟩,by decide +kernel⟩
theorem odd_okM {cs:List Int} {rest S:Sto} {c:Nat} (h:Dw cs rest c S) (hc:c + 1 < 2 ^ 39) :
    ∃ (d:D) (S':Sto),F__law_odd [.ref 0] S=.ok (.d d) S'∧Dw cs rest (c + 1) S'∧d∈oddL:=by
  obtain ⟨r,S1,e1,r0,r1,h1⟩:=next_ok (many:=26) h (by omega) (by decide) (by decide)
  obtain ⟨d,e2,d2,_⟩:=atI_mem (xs:=oddL) r0 (by simpa [oddL] using r1)
  refine ⟨d,S1,called_draw rfl h (body_rt ?_) h1,h1,d2⟩
  unfold s__law_odd
  refine (seq_nx (ρ1:=[some (.ref 0),some (.d (.lst (oddL.take 18)))]) (S1:=S) ?_).trans (ret_of ?_)
  · simp [sSet,fLst,fTup,fNeg,fCons,fC,fNil,R.bind,dats,R.st,sizeLine_eq,oddL]
  · have e3:fBin opAdd (fVar 1) (fLst (fCons (fLst fNil) (fCons (fC (.dct [])) (fCons (fBin opPow (fC (.int 10)) (fC (.int 30))) (fCons (fTup (fCons (fC (.str "end")) fNil)) (fCons (fTup (fCons (fTup (fCons (fC (.str "end")) fNil)) fNil)) (fCons (fC (.str "begin")) (fCons (fC (.str "a1")) (fCons (fTup (fCons (fC (.str "do")) (fCons (fC (.str "a")) (fCons (fC (.int 0)) fNil)))) fNil)))))))))
      [some (.ref 0),some (.d (.lst (oddL.take 18)))] S=.ok (.d (.lst oddL)) S:=by
      simp [fBin,fVar,fLst,fTup,fCons,fC,fNil,R.bind,dats,sizeLine_eq,oddL,opAdd,opPow,opI]
    refine bin_of e3 (y:=.d (.int r)) (S2:=S1) ?_ ?_
    · simp [fApp,fCons,fC,fNil,fVar,R.bind,e1]
    · simp [opIx,view,e2]
theorem odd_ok {cs:List Int} {rest S:Sto} {c:Nat} (h:Dw cs rest c S) (hc:c + 1 < 2 ^ 39) :
    ∃ (d:D) (S':Sto),F__law_odd [.ref 0] S=.ok (.d d) S'∧Dw cs rest (c + 1) S'∧Gd 2 d∧szD d≤10:=by
  obtain ⟨d,S1,e,h1,m⟩:=odd_okM h hc
  exact ⟨d,S1,e,h1,odd_gd d m⟩
end K02
namespace K02
open PySem Ev
open L2 (atI ixN Key)
theorem texts6 {z:Str} {r:Int} (hz:z.length≤1000) (ha:plS z) (h0:0≤r) (h1:r < 6) (S:Sto) :
    ∃ z':Str,opIx (.d (.lst [.str (z ++ "b"),.str ⟨(cut z.cps.toList (some 1) none).toArray⟩,.str (z ++ "A"),.str (z ++ " "),.str (repStr z 2),.str (z ++ "1")])) (.d (.int r)) S=.ok (.d (.str z')) S∧plS z'∧z'.length≤2 * z.length + 1:=by
  have a1:∀ x:Str,x.length=1→plS x→plS (z ++ x)∧(z ++ x).length≤2 * z.length + 1:=fun x hx ax=>⟨plS_app ha ax,by rw [len_app]; omega⟩
  have a2:plS (repStr z 2)∧(repStr z 2).length≤2 * z.length + 1:=by
    constructor
    · intro c hc
      have hc:c∈(List.replicate 2 z.cps.toList).flatten:=by simpa [repStr] using hc
      obtain ⟨l,hl,hcl⟩:=List.mem_flatten.mp hc
      rw [List.eq_of_mem_replicate hl] at hcl
      exact ha c hcl
    · show ((List.replicate 2 z.cps.toList).flatten.toArray).size≤_
      rw [List.size_toArray,rep_len]
      have:z.cps.toList.length=z.length:=rfl
      omega
  have a3:plS ⟨(cut z.cps.toList (some 1) none).toArray⟩∧(⟨(cut z.cps.toList (some 1) none).toArray⟩:Str).length≤2 * z.length + 1:=by
    refine ⟨plS_cut ha _ _,?_⟩
    show (cut z.cps.toList (some 1) none).toArray.size≤_
    rw [List.size_toArray]
    have:=cut_len z.cps.toList (some 1) none
    have:z.cps.toList.length=z.length:=rfl
    omega
  obtain rfl | rfl | rfl | rfl | rfl | rfl:r=0∨r=1∨r=2∨r=3∨r=4∨r=5:=by omega
  · exact ⟨_,rfl,a1 "b" rfl (plS_of (by decide +kernel))⟩
  · exact ⟨_,rfl,a3⟩
  · exact ⟨_,rfl,a1 "A" rfl (plS_of (by decide +kernel))⟩
  · exact ⟨_,rfl,a1 " " rfl (plS_of (by decide +kernel))⟩
  · exact ⟨_,rfl,a2⟩
  · exact ⟨_,rfl,a1 "1" rfl (plS_of (by decide +kernel))⟩
theorem nums6 {r:Int} (h0:0≤r) (h1:r < 6) (S:Sto):∃ b:Int,opIx (.d (.lst [.int 1,.int (-1),.int 3,.int (-3),.int 100,.int (-100)])) (.d (.int r)) S=.ok (.d (.int b)) S∧-100≤b∧b≤100:=by
  obtain rfl | rfl | rfl | rfl | rfl | rfl:r=0∨r=1∨r=2∨r=3∨r=4∨r=5:=by omega
  all_goals exact ⟨_,rfl,by decide,by decide⟩
mutual
def strB:D→Bool
  | .str z=>decide (z.length≤1000)
  | .tup xs=>strBs xs
  | _=>true
def strBs:List D→Bool
  | []=>true
  | x :: xs=>strB x && strBs xs
end
theorem strBs_mem:∀ {xs:List D} {x:D},strBs xs=true→x∈xs→strB x=true
  | y :: ys,x,h,hx=>by
    simp only [strBs,Bool.and_eq_true] at h
    rcases List.mem_cons.mp hx with rfl | hx
    · exact h.1
    · exact strBs_mem h.2 hx
mutual
theorem strB_of:∀ {d:D},szD d≤1000→strB d=true
  | .str z,h=>by simp only [szD] at h; exact decide_eq_true (by omega)
  | .tup xs,h=>strBs_of (by simp only [szD] at h; omega)
  | .non,_=>rfl | .bl _,_=>rfl | .int _,_=>rfl | .lst _,_=>rfl | .dct _,_=>rfl | .ins _ _,_=>rfl | .scr _,_=>rfl | .ftp _,_=>rfl | .cls _,_=>rfl | .kdc _,_=>rfl | .exi _ _ _,_=>rfl | .dkf _,_=>rfl
theorem strBs_of:∀ {xs:List D},szDs xs≤1000→strBs xs=true
  | [],_=>rfl
  | x :: xs,h=>by
    simp only [szDs] at h
    simp only [strBs,strB_of (show szD x≤1000 by omega),strBs_of (show szDs xs≤1000 by omega),Bool.and_self]
end
def partD:D→Nat
  | .str z=>z.length + 1
  | .tup xs=>xs.foldr (fun x m=>max (szD x) m) 0
  | _=>0
theorem part_mem:∀ {xs:List D} {x:D},x∈xs→szD x≤partD (.tup xs)
  | y :: ys,x,h=>by
    simp only [partD,List.foldr_cons]
    rcases List.mem_cons.mp h with rfl | h
    · exact Nat.le_max_left _ _
    · exact Nat.le_trans (part_mem h) (Nat.le_max_right _ _)
theorem part_le:∀ d:D,partD d≤szD d
  | .str z=>by simp [partD,szD]
  | .tup xs=>by
    have:∀ xs:List D,partD (.tup xs)≤szDs xs:=by
      intro xs
      induction xs with
      | nil=>simp [partD,szDs]
      | cons x xs ih =>
        simp only [partD,List.foldr_cons,szDs] at ih ⊢
        omega
    have:=this xs
    simp only [szD]
    omega
  | .non=>Nat.zero_le _ | .bl _=>Nat.zero_le _ | .int _=>Nat.zero_le _ | .lst _=>Nat.zero_le _ | .dct _=>Nat.zero_le _ | .ins _ _=>Nat.zero_le _ | .scr _=>Nat.zero_le _ | .ftp _=>Nat.zero_le _ | .cls _=>Nat.zero_le _ | .kdc _=>Nat.zero_le _ | .exi _ _ _=>Nat.zero_le _ | .dkf _=>Nat.zero_le _
def BentE (k m e:Nat) (d:D):Prop:=Gd (k + 3) d∧szD d≤m + e + 10
theorem bent_okE {cs:List Int} {rest:Sto}:∀ (n k e:Nat) (d:D) (c:Nat) (S:Sto),k < n→Gd k d→szD d≤2000→strB d=true→partD d≤e→Dw cs rest c S→c + 10 * n < 2 ^ 39 →
    ∃ (d':D) (S':Sto),B__law_bent n [.ref 0,.d d] S=.ok (.d d') S'∧Dw cs rest (c + 10 * n) S'∧BentE k (szD d) e d'
  | 0,k,e,d,c,S,hk,_,_,_,_,_,_=>by omega
  | n + 1,k,e,d,c,S,hk,hg,hz,hs,he,h,hc=>by
    suffices q:∃ (d':D) (S':Sto),s__law_bent (B__law_bent n) [some (.ref 0),some (.d d),none,none] S=.rt (.d d') S'∧Dw cs rest (c + 10 * (n + 1)) S'∧BentE k (szD d) e d' by
      obtain ⟨d',S',e,q⟩:=q
      exact ⟨d',S',called_draw (f:=bodyF 4 (s__law_bent (B__law_bent n))) rfl h (body_rt e) q.1,q⟩
    have odd:∀ (c1:Nat) (S1:Sto),Dw cs rest c1 S1→c1≤c + 3→∃ (d':D) (S':Sto),F__law_odd [.ref 0] S1=.ok (.d d') S'∧Dw cs rest (c + 10 * (n + 1)) S'∧BentE k (szD d) e d':=by
      intro c1 S1 h1 hc1
      obtain ⟨d',S2,e2,h2,g2,z2⟩:=odd_ok h1 (by omega)
      exact ⟨d',S2,e2,h2.mono (by omega),g2.mono (by omega),by omega⟩
    unfold s__law_bent
    cases d with
    | str z =>
      have ha:plS z:=gd_str.mp hg
      have hz1:z.length≤1000:=of_decide_eq_true hs
      simp only [partD] at he
      obtain ⟨b,S1,e1,b0,b1,h1⟩:=next_ok (many:=2) h (by omega) (by decide) (by decide)
      by_cases hb:b=0
      · subst hb
        obtain ⟨r,S2,e2,r0,r1,h2⟩:=next_ok (many:=6) h1 (by omega) (by decide) (by decide)
        obtain ⟨z',e3,a3,l3⟩:=texts6 (by omega) ha r0 r1 S2
        refine ⟨.str z',S2,?_,h2.mono (by omega),gd_str.mpr a3,by simp only [szD]; omega⟩
        have q1:∀ x:Str,x.length=1→opAdd (.d (.str z)) (.d (.str x)) S1=.ok (.d (.str (z ++ x))) S1:=fun x hx=>o_addS (by omega)
        have q3:opMul (.d (.str z)) (.d (.int 2)) S1=.ok (.d (.str (repStr z 2))) S1:=by
          show (if decide ((2:Int)≤2∧(2:Int)≤1000) && decide (z.length≤1000) then _ else _)=_
          rw [decide_eq_true (show z.length≤1000 by omega)]
          rfl
        have q2:=o_slS (z:=z) (lo:=some 1) (hi:=none) (S:=S1) (by omega)
        simp [e1,q1 "b" rfl,q1 "A" rfl,q1 " " rfl,q1 "1" rfl,q2,q3,e2,-o_ixLi,e3,sizeLine_eq]
      · obtain ⟨d',S2,e2,h2,p2⟩:=odd (c + 1) S1 h1 (by omega)
        exact ⟨d',S2,by simp [e1,hb,e2],h2,p2⟩
    | int i =>
      have hi:=gd_int.mp hg
      obtain ⟨b,S1,e1,b0,b1,h1⟩:=next_ok (many:=2) h (by omega) (by decide) (by decide)
      by_cases hb:b=0
      · subst hb
        obtain ⟨r,S2,e2,r0,r1,h2⟩:=next_ok (many:=6) h1 (by omega) (by decide) (by decide)
        obtain ⟨z',e3,a3,l3⟩:=nums6 r0 r1 S2
        refine ⟨.int (i + z'),S2,?_,h2.mono (by omega),?_,by simp only [szD]; omega⟩
        · simp [e1,e2,-o_ixLi,e3,sizeLine_eq]
        · refine gd_int.mpr ?_
          omega
      · obtain ⟨d',S2,e2,h2,p2⟩:=odd (c + 1) S1 h1 (by omega)
        exact ⟨d',S2,by simp [e1,hb,e2],h2,p2⟩
    | tup xs =>
      obtain ⟨k,rfl⟩:∃ k',k=k' + 1:=by cases k with
        | zero=>simp [Gd] at hg
        | succ k=>exact ⟨k,rfl⟩
      have hgx:Gds k xs:=by simpa only [Gd] using hg
      have hzx:szDs xs≤1999:=by simp only [szD] at hz; omega
      have hl:=szDs_len xs
      by_cases hx:xs.isEmpty
      · obtain ⟨d',S2,e2,h2,p2⟩:=odd c S h (by omega); exact ⟨d',S2,by simp [hx,e2],h2,p2⟩
      have hx:xs.isEmpty=false:=by simpa using hx
      have hpos:0 < xs.length:=List.length_pos_iff.mpr (by intro e; rw [e] at hx; simp at hx)
      obtain ⟨b,S1,e1,b0,b1,h1⟩:=next_ok (many:=6) h (by omega) (by decide) (by decide)
      by_cases hb:b=0
      · subst hb
        obtain ⟨d',S2,e2,h2,p2⟩:=odd (c + 1) S1 h1 (by omega)
        exact ⟨d',S2,by simp [hx,e1,e2],h2,p2⟩
      obtain ⟨at_,S2,e2,a0,a1,h2⟩:=next_ok (many:=(xs.length:Int)) h1 (by omega) (by omega) (by omega)
      obtain ⟨way,S3,e3,w0,w1,h3⟩:=next_ok (many:=11) h2 (by omega) (by decide) (by decide)
      obtain ⟨x,hx1,hx2,hx3⟩:=atI_mem (xs:=xs) a0 a1
      have c1:=cut_take xs at_ a0 (by omega)
      have c2:=cut_drop xs (at_ + 1) (by omega)
      have c3:=cut_drop xs at_ a0
      have c4:=cut_one xs at_ x a0 hx3
      have t1:(at_ + 1).toNat=at_.toNat + 1:=by omega
      have z1:=szDs_drop1 at_.toNat xs x hx3
      have z2:=szDs_take at_.toNat xs
      have pe:=Nat.le_trans (part_mem hx2) he
      have gx:Gd k x:=gds_iff.mp hgx x hx2
      have g1:=gds_cut hgx at_.toNat
      have g2:=gds_cut hgx (at_.toNat + 1)
      have hadd:∀ (ys zs:List D) (S:Sto),ys.length + zs.length≤5000→opAdd (.d (.tup ys)) (.d (.tup zs)) S=.ok (.d (.tup (ys ++ zs))) S:=fun ys zs S hh=>o_addT (by omega)
      have l1:(xs.take at_.toNat).length≤1999:=by rw [List.length_take]; omega
      have l2:(xs.drop at_.toNat).length≤1999:=by rw [List.length_drop]; omega
      have l3:(xs.drop (at_.toNat + 1)).length≤1999:=by rw [List.length_drop]; omega
      have gt:∀ ys:List D,Gds k ys→Gd (k + 1 + 3) (.tup ys):=fun ys hy=>by simpa only [Gd] using Gds.mono hy (by omega)
      have gt3:∀ ys:List D,Gds (k + 3) ys→Gd (k + 1 + 3) (.tup ys):=fun ys hy=>by
        show Gd (k + 3 + 1) (.tup ys)
        simpa only [Gd] using hy
      have fin:∀ (d':D) (c':Nat) (S':Sto),s__law_bent (B__law_bent n) [some (.ref 0),some (.d (.tup xs)),none,none] S=.rt (.d d') S'→Dw cs rest c' S'→c'≤c + 10 * (n + 1)→Gd (k + 1 + 3) d'→szD d'≤szD (.tup xs) + e + 10→∃ (d':D) (S':Sto),s__law_bent (B__law_bent n) [some (.ref 0),some (.d (.tup xs)),none,none] S=.rt (.d d') S'∧Dw cs rest (c + 10 * (n + 1)) S'∧BentE (k + 1) (szD (.tup xs)) e d' :=
        fun d' c' S' e hS hc' hg hz=>⟨d',S',e,hS.mono hc',hg,hz⟩
      refine Exists.imp (fun _ q=>q) (?_:∃ (d':D) (S':Sto),s__law_bent (B__law_bent n) [some (.ref 0),some (.d (.tup xs)),none,none] S=.rt (.d d') S'∧Dw cs rest (c + 10 * (n + 1)) S'∧BentE (k + 1) (szD (.tup xs)) e d')
      by_cases w:way=0
      · subst w
        refine fin (.tup (xs.take at_.toNat ++ xs.drop (at_.toNat + 1))) _ S3 ?_ h3 (by omega) (gt _ (gds_app g1.1 g2.2)) ?_
        · simp [s__law_bent,hx,e1,hb,e2,e3,c1,c2,t1,hadd _ _ S3 (show (xs.take at_.toNat).length + (xs.drop (at_.toNat + 1)).length≤5000 by omega)]
        · simp only [szD,szDs_app]; omega
      by_cases w1:way=1
      · subst w1
        refine fin (.tup (xs ++ [x])) _ S3 ?_ h3 (by omega) (gt _ (gds_app hgx ⟨gx,trivial⟩)) ?_
        · simp [s__law_bent,hx,e1,hb,e2,e3,c4,hadd xs [x] S3 (by simp only [List.length_cons,List.length_nil]; omega)]
        · simp only [szD,szDs_app,szDs]; omega
      by_cases w2:way=2
      · subst w2
        refine fin (.lst xs) _ S3 ?_ h3 (by omega) ?_ (by simp only [szD]; omega)
        · simp [s__law_bent,hx,e1,hb,e2,e3]
        · show Gd (k + 3 + 1) (.lst xs)
          simpa only [Gd] using Gds.mono hgx (by omega)
      by_cases w3:way=3
      · subst w3
        obtain ⟨d',S4,e4,h4,g4,z4⟩:=odd_ok h3 (by omega)
        refine fin (.tup (xs.take at_.toNat ++ [d'] ++ xs.drop at_.toNat)) _ S4 ?_ h4 (by omega) (gt3 _ (gds_app (gds_app (Gds.mono g1.1 (by omega)) ⟨g4.mono (by omega),trivial⟩) (Gds.mono g1.2 (by omega)))) ?_
        · have q1:=hadd (xs.take at_.toNat) [d'] S4 (by simp only [List.length_cons,List.length_nil]; omega)
          have q2:=hadd (xs.take at_.toNat ++ [d']) (xs.drop at_.toNat) S4 (by simp only [List.length_append,List.length_cons,List.length_nil]; omega)
          simp [-List.append_assoc,s__law_bent,hx,e1,hb,e2,e3,c1,c3,e4,q1,q2,sizeLine_eq]
        · simp only [szD,szDs_app,szDs]; omega
      by_cases w4:way=4
      · subst w4
        refine fin (.tup xs.reverse) _ S3 ?_ h3 (by omega) (gt _ (gds_iff.mpr fun y hy=>gds_iff.mp hgx y (List.mem_reverse.mp hy))) (by simp only [szD,szDs_rev]; omega)
        · simp [s__law_bent,hx,e1,hb,e2,e3]
      have zx:=szDs_mem hx2
      obtain ⟨d',S4,e4,h4,g4,z4⟩:=bent_okE (rest:=rest) (cs:=cs) n k e x _ S3 (by omega) gx (by omega) (strBs_mem hs hx2) (Nat.le_trans (part_le x) pe) h3 (by omega)
      refine fin (.tup (xs.take at_.toNat ++ [d'] ++ xs.drop (at_.toNat + 1))) _ S4 ?_ h4 (by omega) (gt3 _ (gds_app (gds_app (Gds.mono g1.1 (by omega)) ⟨g4.mono (by omega),trivial⟩) (Gds.mono g2.2 (by omega)))) ?_
      · have q1:=hadd (xs.take at_.toNat) [d'] S4 (by simp only [List.length_cons,List.length_nil]; omega)
        have q2:=hadd (xs.take at_.toNat ++ [d']) (xs.drop (at_.toNat + 1)) S4 (by simp only [List.length_append,List.length_cons,List.length_nil]; omega)
        simp [-List.append_assoc,s__law_bent,hx,e1,hb,e2,e3,w,w1,w2,w3,w4,c1,c2,t1,hx1,e4,q1,q2,sizeLine_eq]
      · simp only [szD,szDs_app,szDs]; omega
    | non=>obtain ⟨d',S2,e2,h2,p2⟩:=odd c S h (by omega); exact ⟨d',S2,by simp [e2],h2,p2⟩
    | bl b=>obtain ⟨d',S2,e2,h2,p2⟩:=odd c S h (by omega); exact ⟨d',S2,by simp [e2],h2,p2⟩
    | lst xs=>obtain ⟨d',S2,e2,h2,p2⟩:=odd c S h (by omega); exact ⟨d',S2,by simp [e2],h2,p2⟩
    | dct xs=>obtain ⟨d',S2,e2,h2,p2⟩:=odd c S h (by omega); exact ⟨d',S2,by simp [e2],h2,p2⟩
    | ins _ _=>cases k <;> simp [Gd] at hg
    | scr _=>cases k <;> simp [Gd] at hg
    | ftp _=>cases k <;> simp [Gd] at hg
    | cls _=>cases k <;> simp [Gd] at hg
    | kdc _=>cases k <;> simp [Gd] at hg
    | exi _ _ _=>cases k <;> simp [Gd] at hg
    | dkf _=>cases k <;> simp [Gd] at hg
def BentOk (k m:Nat) (d:D):Prop:=Gd (k + 3) d∧szD d≤2 * m + 10
theorem bent_ok {cs:List Int} {rest:Sto} (n k:Nat) (d:D) (c:Nat) (S:Sto) (h1:k < n) (h2:Gd k d) (h3:szD d≤1000) (h4:Dw cs rest c S) (h5:c + 10 * n < 2 ^ 39) :
    ∃ (d':D) (S':Sto),B__law_bent n [.ref 0,.d d] S=.ok (.d d') S'∧Dw cs rest (c + 10 * n) S'∧BentOk k (szD d) d':=by
  obtain ⟨d',S',e,h,g,z⟩:=bent_okE n k (szD d) d c S h1 h2 (by omega) (strB_of h3) (part_le d) h4 h5
  exact ⟨d',S',e,h,g,by omega⟩
end K02
namespace Ev
open PySem
open L2 (atI ixN Key)
end Ev
namespace Ev
open PySem TL
open L2 (atI ixN Key)
mutual
def nb:D→Bool
  | .non=>true | .int _=>true | .str _=>true
  | .tup xs=>nbs xs | .lst xs=>nbs xs
  | _=>false
def nbs:List D→Bool
  | []=>true
  | x :: xs=>nb x && nbs xs
end
mutual
theorem eqv_nb:∀ (a b:D),nb a=true→nb b=true→PyData.eqv (toPy a) (toPy b)=true→a=b
  | .non,b,_,hb,h=>by cases b <;> simp_all [nb,toPy,PyData.eqv]
  | .int i,b,_,hb,h=>by cases b <;> simp_all [nb,toPy,PyData.eqv]
  | .str i,b,_,hb,h=>by cases b <;> simp_all [nb,toPy,PyData.eqv]
  | .tup xs,b,ha,hb,h=>by
    cases b with
    | tup ys=>rw [eqvs_nb xs ys (by simpa [nb] using ha) (by simpa [nb] using hb) (by simpa [toPy,PyData.eqv] using h)]
    | _=>simp_all [nb,toPy,PyData.eqv]
  | .lst xs,b,ha,hb,h=>by
    cases b with
    | lst ys=>rw [eqvs_nb xs ys (by simpa [nb] using ha) (by simpa [nb] using hb) (by simpa [toPy,PyData.eqv] using h)]
    | _=>simp_all [nb,toPy,PyData.eqv]
  | .bl _,_,ha,_,_=>by simp [nb] at ha
  | .dct _,_,ha,_,_=>by simp [nb] at ha
  | .ins _ _,_,ha,_,_=>by simp [nb] at ha
  | .scr _,_,ha,_,_=>by simp [nb] at ha
  | .ftp _,_,ha,_,_=>by simp [nb] at ha
  | .cls _,_,ha,_,_=>by simp [nb] at ha
theorem eqvs_nb:∀ (a b:List D),nbs a=true→nbs b=true→PyData.eqvAll (toPys a) (toPys b)=true→a=b
  | [],[],_,_,_=>rfl
  | [],_ :: _,_,_,h=>by simp [toPys,PyData.eqvAll] at h
  | _ :: _,[],_,_,h=>by simp [toPys,PyData.eqvAll] at h
  | x :: xs,y :: ys,ha,hb,h=>by
    simp only [nbs,Bool.and_eq_true] at ha hb
    simp only [toPys,PyData.eqvAll,Bool.and_eq_true] at h
    rw [eqv_nb x y ha.1 hb.1 h.1,eqvs_nb xs ys ha.2 hb.2 h.2]
end
theorem eqOk_refl {a:D} (h:eqOk a=true):eqD a a=true:=by
  unfold eqOk SeqAt.shaped at h
  simp only [Bool.and_eq_true] at h
  exact PySem.SeqAt.eqv_refl _ h.2.1
@[simp] theorem e_fstr {fs:List FE} {ρ:List (Option W)} {S:Sto}:fFStr fs ρ S=(fJs fs Str.empty ρ S).bind fun z S1=>.ok (.d (.str z)) S1:=rfl
@[simp] theorem e_js0 {acc:Str} {ρ:List (Option W)} {S:Sto}:fJs [] acc ρ S=.ok acc S:=rfl
@[simp] theorem e_js1 {f:FE} {fs:List FE} {acc:Str} {ρ:List (Option W)} {S:Sto}:fJs (f :: fs) acc ρ S=(f ρ S).bind fun w S1=>match w with
    | .d (.str y)=>if (acc ++ y).length≤sizeLine then fJs fs (acc ++ y) ρ S1 else .err
    | _=>.err:=rfl
@[simp] theorem e_fmt {f:FE} {ρ:List (Option W)} {S:Sto}:fFmt f ρ S=(f ρ S).bind fun w S1=>match w with
  | .d (.str y)=>if y.length≤sizeLine then .ok (.d (.str y)) S1 else .err
  | .d (.int i)=>if i.natAbs.log2 < 1920 then .ok (.d (.str (toString i))) S1 else .err
  | _=>.err:=rfl
section
variable {f1 f2 f3 f4:FE} {ρ:List (Option W)} {S:Sto} {a b c d:Str}
end
abbrev num (n:Nat):Str:=Str.ofString (toString ((n:Nat):Int))
abbrev sp:Str:=" "
abbrev nl:Str:="\n"
end Ev
namespace Ev
open PySem TL
open L2 (atI ixN Key)
section
variable {o : OpN} {ff : FF} {f g h k : FE} {ρ : List (Option W)} {S S1 S2 S3 S4 : Sto} {w x y z : W}
theorem call1 (e : f ρ S = .ok w S1) : fCall o (fCons f fNil) ρ S = o [w] S1 := by rw [e_call, e_cons, e]; rfl
theorem app1 (e : f ρ S = .ok w S1) : fApp ff (fCons f fNil) ρ S = ff [w] S1 := by rw [e_app, e_cons, e]; rfl
theorem app2 (e : f ρ S = .ok w S1) (e2 : g ρ S1 = .ok x S2) : fApp ff (fCons f (fCons g fNil)) ρ S = ff [w, x] S2 := by rw [e_app, e_cons, e, bind_ok, e_cons, e2]; rfl
theorem bin2 {op : Op2} (e : f ρ S = .ok w S1) (e2 : g ρ S1 = .ok x S2) : fBin op f g ρ S = op w x S2 := by rw [e_bin, e, bind_ok, e2, bind_ok]
theorem varW {i : Nat} (e : ρ[i]? = some (some w)) : fVar i ρ S = .ok w S := by rw [e_var, e]
theorem meth1 {chk : W → Sto → Bool} {op : W → List W → Sto → R W} (e : f ρ S = .ok w S1) (hc : chk w S1 = true) (e2 : g ρ S1 = .ok x S2) : fMeth chk op f (fCons g fNil) ρ S = op w [x] S2 := by
  unfold fMeth
  rw [e, bind_ok, if_pos hc, e_cons, e2]
  rfl
end
mutual
theorem nbFlat : ∀ {d : D}, nb d = true → flatD d = true
  | .non, _ => rfl
  | .int _, _ => rfl
  | .str _, _ => rfl
  | .tup xs, h => nbsFlat (d := xs) (by simpa only [nb] using h)
  | .lst xs, h => nbsFlat (d := xs) (by simpa only [nb] using h)
  | .bl _, h => by simp [nb] at h
  | .dct _, h => by simp [nb] at h
  | .ins _ _, h => by simp [nb] at h
  | .scr _, h => by simp [nb] at h
  | .ftp _, h => by simp [nb] at h
  | .cls _, h => by simp [nb] at h
theorem nbsFlat : ∀ {d : List D}, nbs d = true → flatDs d = true
  | [], _ => rfl
  | x :: xs, h => by
    simp only [nbs, Bool.and_eq_true] at h
    simp only [flatDs, nbFlat h.1, nbsFlat h.2, Bool.and_self]
end
end Ev
namespace K02
open PySem Ev TL
open L2 (atI ixN Key)
abbrev ls1 : FS := (sSet 3 (fApp F__law_settings (fCons (fVar 1) fNil)))
abbrev ls2 : FS := (sSet 4 (fApp F__law_standings (fCons (fCo (fVar 3)) fNil)))
abbrev ls3 : FS := (sIf (toT (fBin opNe (fLc (iRange1 (fCons (fC (.int 2)) fNil)) (gN 5) tTrue (fCall opRepr (fCons (fLcG 1 s_standings (fCons (fCo (fVar 3)) fNil)) fNil)) [5]) (fBin opMulL (fLst (fCons (fCall opRepr (fCons (fVar 4) fNil)) fNil)) (fC (.int 2))))) (sRet (fC (.bl false))) sNext)
abbrev ls4 : FS := (sSet 6 (fBin opIx (fVar 4) (fApp F__law_next (fCons (fVar 1) (fCons (fCall opLen (fCons (fVar 4) fNil)) fNil)))))
abbrev ls5 : FS := (sSet 7 (fNewL (fCons (fVar 6) (fCons (fApp F__law_bent (fCons (fVar 1) (fCons (fVar 6) fNil))) (fCons (fApp F__law_bent (fCons (fVar 1) (fCons (fVar 6) fNil))) (fCons (fBin opAdd (fVar 6) (fTup (fCons (fC (.int 0)) fNil))) (fCons (fSl opSl (fVar 6) (oSome (fC (.int 1))) oNone) (fCons (fCall (op1 listD) (fCons (fVar 6) fNil)) (fCons (fApp F__law_odd (fCons (fVar 1) fNil)) fNil)))))))))
abbrev ls6 : FS := (sExpr (fMeth isLstR opApp (fVar 7) (fCons (fCall (op1 tupleD) (fCons (fLc (iTupl (fVar 6)) (gN 8) tTrue (fBin opAdd (fVar 8) (fC (.int 1))) [8]) fNil)) fNil)))
abbrev ls7 : FS := (sExpr (fMeth isLstR opApp (fVar 7) (fCons (fCall (op1 tupleD) (fCons (fLc (iTupl (fCo (fVar 3))) (gN 9) tTrue (fBin opIx (fVar 9) (fC (.int 1))) [9]) fNil)) fNil)))
abbrev ls8 : FS := (sExpr (fMeth isLstR opApp (fVar 7) (fCons (fCall (op1 tupleD) (fCons (fLc (iTupl (fVar 6)) (gN 8) tTrue (fCall opBool (fCons (fVar 8) fNil)) [8]) fNil)) fNil)))
abbrev ls9 : FS := (sForR 100 (fVar 7) (gN 10) (sIf (toT (fBin opNe (fCall opRepr (fCons (fApp F_is_standing (fCons (fCo (fVar 3)) (fCons (fVar 10) fNil))) fNil)) (fCall opRepr (fCons (fBin opIn (fCall opRepr (fCons (fVar 10) fNil)) (fLc (iLst (fVar 4)) (gN 9) tTrue (fCall opRepr (fCons (fVar 9) fNil)) [9])) fNil)))) (sRet (fC (.bl false))) sNext))
abbrev lsAll : FS := (sSeq ls1 (sSeq ls2 (sSeq ls3 (sSeq ls4 (sSeq ls5 (sSeq ls6 (sSeq ls7 (sSeq ls8 ls9))))))))
abbrev lsF (ns : List Int) (x2 x3 x4 x5 x6 x7 x8 x9 x10 : Option W) : List (Option W) := [some (.d (.scr ns)), some (.ref 0), x2, x3, x4, x5, x6, x7, x8, x9, x10]
abbrev stR (ps : List (Str × Int)) : D := .lst ((rowsOf ps [[]]).map D.tup)
abbrev seD (ps : List (Str × Int)) : D := .ftp (ps.map mkS)
structure Thg (d : D) : Prop where
  gd : Gd 20 d
  sz : szD d ≤ 40
theorem Thg.sm {d : D} (h : Thg d) : Sm d := ⟨h.gd.mono (by decide), by have := h.sz; omega⟩
theorem Thg.show {d : D} (h : Thg d) : showOk d = true := gd_showOk h.gd (by decide) (by have := h.sz; omega)
section
variable {ps : List (Str × Int)} {ns : List Int} {S : Sto} {ρ : List (Option W)} {x2 x5 x6 x7 x8 x9 x10 : Option W} {xs : List D}
theorem ints_of : ∀ {ps : List (Str × Int)} {xs : List D}, GoodP ps → fitB ps xs = true → ∃ vs : List Nat, xs = vs.map (fun v : Nat => D.int v) ∧ (∀ v ∈ vs, v ≤ 3) ∧ vs.length = ps.length
  | [], [], _, _ => ⟨[], rfl, by simp, rfl⟩
  | p :: ps, x :: xs, hp, h => by
    simp only [fitB, Bool.and_eq_true] at h
    obtain ⟨v, rfl, hv⟩ := am_iff.mp h.1
    have hp1 := hp p List.mem_cons_self
    obtain ⟨vs, rfl, h2, h3⟩ := ints_of (fun q hq => hp q (List.mem_cons_of_mem _ hq)) h.2
    refine ⟨v :: vs, rfl, ?_, by simp [h3]⟩
    intro u hu
    rcases List.mem_cons.mp hu with rfl | hu
    · omega
    · exact h2 u hu
  | [], _ :: _, _, h => by simp [fitB] at h
  | _ :: _, [], _, h => by simp [fitB] at h
theorem nat_gds {k : Nat} (vs : List Nat) (h : ∀ v ∈ vs, v ≤ 100) : Gds k (vs.map fun v : Nat => D.int v) := gds_iff.mpr fun d hd => by
  obtain ⟨v, hv, rfl⟩ := List.mem_map.mp hd
  have := h v hv
  exact gd_int.mpr (by omega)
theorem int_sz {α : Type} (f : α → Int) : ∀ l : List α, szDs (l.map fun v => D.int (f v)) = l.length
  | [] => rfl
  | v :: l => by
    rw [List.map_cons, List.length_cons]
    simp only [szDs, szD, int_sz f l]
    omega
theorem szs_le {n : Nat} : ∀ {l : List D}, (∀ d ∈ l, szD d ≤ n) → szDs l ≤ n * l.length
  | [], _ => by simp [szDs]
  | d :: l, h => by
    have a := h d List.mem_cons_self
    have b := szs_le fun x hx => h x (List.mem_cons_of_mem _ hx)
    simp only [szDs, List.length_cons, Nat.mul_add]
    omega
theorem bl_show (b : Bool) : showOk (.bl b) = true := gd_showOk (k := 0) (d := .bl b) (by cases b <;> simp [Gd]) (by decide) (by simp [szD])
theorem row_tg {xs : List D} (hp : Okp ps) (h : fitB ps xs = true) : Gd 1 (.tup xs) ∧ szD (.tup xs) ≤ 4 := by
  obtain ⟨vs, rfl, h2, h3⟩ := ints_of hp.good h
  have := hp.l3
  refine ⟨show Gds 0 _ from nat_gds vs fun v hv => by have := h2 v hv; omega, ?_⟩
  rw [szD, int_sz]
  omega
theorem few12 (hp : Okp ps) : (rowsOf ps [[]]).length ≤ 12 := by
  have e3 := rows_len ps [[]] 1 hp.good rfl
  rw [mul_of 1 hp.good] at e3
  have := hp.few
  omega
theorem rows_show (hp : Okp ps) : showOk (stR ps) = true := by
  refine gd_showOk (k := 2) (show Gds 1 _ from gds_iff.mpr fun d hd => ?_) (by decide) ?_
  · obtain ⟨r, hr, rfl⟩ := List.mem_map.mp hd
    exact (row_tg hp (mem_rows0.mp hr)).1
  · have := szs_le (n := 4) (l := (rowsOf ps [[]]).map D.tup) fun d hd => by
      obtain ⟨r, hr, rfl⟩ := List.mem_map.mp hd
      exact (row_tg hp (mem_rows0.mp hr)).2
    have f := few12 hp
    rw [List.length_map] at this
    simp only [szD]
    omega
theorem lcG_rows (hp : Okp ps) (h : fCo (fVar 3) ρ S = .ok (.d (.tup (ps.map mkS))) S) : fLcG 1 s_standings (fCons (fCo (fVar 3)) fNil) ρ S = .ok (.d (stR ps)) S := by
  have fa : fCons (fCo (fVar 3)) fNil ρ S = .ok [.d (.tup (ps.map mkS))] S := by
    rw [e_cons, h, bind_ok, e_nil]
    rfl
  have e : s_standings [some (.d (.tup (ps.map mkS)))] S = .ok (.d (stR ps)) S := by
    show fApp F_all_standings (fCons (fVar 0) fNil) [some (.d (.tup (ps.map mkS)))] S = _
    rw [app1 (w := .d (.tup (ps.map mkS))) rfl]
    exact all_standings_ok ps hp.good hp.l3 S
  unfold fLcG
  rw [fa, bind_ok]
  show (noX (s_standings [some (.d (.tup (ps.map mkS)))] S)).bind _ = _
  rw [e, noX_ok, bind_ok]
  simp only
  rw [if_pos (by have := few12 hp; rw [List.length_map, sizeLine_eq]; omega)]
theorem txR (hp : Okp ps) : ∀ z ∈ [reprD (stR ps), reprD (stR ps)], txt z := by
  have g : Gd 2 (stR ps) := show Gds 1 _ from gds_iff.mpr fun d hd => by
    obtain ⟨r, hr, rfl⟩ := List.mem_map.mp hd
    exact (row_tg hp (mem_rows0.mp hr)).1
  intro z hz
  simp only [List.mem_cons, List.not_mem_nil, or_false, or_self] at hz
  subst hz
  exact repr_txt g
theorem st3 (hp : Okp ps) : ls3 (lsF ns x2 (some (.d (seD ps))) (some (.d (stR ps))) x5 x6 x7 x8 x9 x10) S = .nx (lsF ns x2 (some (.d (seD ps))) (some (.d (stR ps))) x5 x6 x7 x8 x9 x10) S := by
  let ρ0 := lsF ns x2 (some (.d (seD ps))) (some (.d (stR ps))) x5 x6 x7 x8 x9 x10
  let ρ1 := lsF ns x2 (some (.d (seD ps))) (some (.d (stR ps))) none x6 x7 x8 x9 x10
  have rp := fun S => o_repr (S := S) (rows_show hp)
  have it : iRange1 (fCons (fC (.int 2)) fNil) ρ0 S = .ok (([0, 1] : List Int).map D.int) S := rfl
  have cl : compL (gN 5) tTrue (fCall opRepr (fCons (fLcG 1 s_standings (fCons (fCo (fVar 3)) fNil)) fNil)) ρ1 (([0, 1] : List Int).map D.int) S [] = .ok (([0, 1] : List Int).map fun _ => D.str (reprD (stR ps))) S :=
    compL_map (g := gN 5) D.int (fun _ => D.str (reprD (stR ps))) [0, 1] (by decide) fun c _ => ⟨lsF ns x2 (some (.d (seD ps))) (some (.d (stR ps))) (some (.d (.int c))) x6 x7 x8 x9 x10, rfl, by
      rw [call1 (lcG_rows hp rfl), rp]⟩
  have l : fLc (iRange1 (fCons (fC (.int 2)) fNil)) (gN 5) tTrue (fCall opRepr (fCons (fLcG 1 s_standings (fCons (fCo (fVar 3)) fNil)) fNil)) [5] ρ0 S = .ok (.d (.lst ([reprD (stR ps), reprD (stR ps)].map D.str))) S := by
    unfold fLc
    rw [it, bind_ok]
    show (compL _ _ _ ρ1 _ S []).bind _ = _
    rw [cl, bind_ok]
    rfl
  have r : fBin opMulL (fLst (fCons (fCall opRepr (fCons (fVar 4) fNil)) fNil)) (fC (.int 2)) ρ0 S = .ok (.d (.lst ([reprD (stR ps), reprD (stR ps)].map D.str))) S := by
    have e : fLst (fCons (fCall opRepr (fCons (fVar 4) fNil)) fNil) ρ0 S = .ok (.d (.lst [.str (reprD (stR ps))])) S := by
      rw [e_lst, e_cons, call1 (w := .d (stR ps)) rfl, rp, bind_ok, e_nil]
      simp only [bind_ok, dats_d, dats_nil, Option.map_some]
      rw [if_pos (by simp [sizeLine_eq])]
    rw [bin2 e (x := .d (.int 2)) rfl]
    rfl
  have o := txts_eqOk (txR hp)
  show sIf _ _ _ ρ0 S = _
  rw [e_if, e_toT, bin2 l r]
  simp only [opNe, view, o, Bool.and_self, if_true, eqOk_refl o, Bool.not_true, bind_ok, e_toB, st_ok]
  rw [if_neg (by simp), e_next]
abbrev lsB : FS := (sIf (toT (fBin opNe (fCall opRepr (fCons (fApp F_is_standing (fCons (fCo (fVar 3)) (fCons (fVar 10) fNil))) fNil)) (fCall opRepr (fCons (fBin opIn (fCall opRepr (fCons (fVar 10) fNil)) (fLc (iLst (fVar 4)) (gN 9) tTrue (fCall opRepr (fCons (fVar 9) fNil)) [9])) fNil)))) (sRet (fC (.bl false))) sNext)
theorem thing_ok {d : D} (hp : Okp ps) (hd : Thg d) : lsB (lsF ns x2 (some (.d (seD ps))) (some (.d (stR ps))) x5 x6 x7 x8 x9 (some (.d d))) S = .nx (lsF ns x2 (some (.d (seD ps))) (some (.d (stR ps))) x5 x6 x7 x8 x9 (some (.d d))) S := by
  let ρ0 := lsF ns x2 (some (.d (seD ps))) (some (.d (stR ps))) x5 x6 x7 x8 x9 (some (.d d))
  let ρ1 := lsF ns x2 (some (.d (seD ps))) (some (.d (stR ps))) x5 x6 x7 x8 none (some (.d d))
  have rsh : ∀ r ∈ rowsOf ps [[]], Gd 1 (.tup r) ∧ showOk (.tup r) = true := fun r hr => by
    have := row_tg hp (mem_rows0.mp hr)
    exact ⟨this.1, gd_showOk this.1 (by decide) (by omega)⟩
  have f12 := few12 hp
  have cl : compL (gN 9) tTrue (fCall opRepr (fCons (fVar 9) fNil)) ρ1 ((rowsOf ps [[]]).map D.tup) S [] = .ok ((rowsOf ps [[]]).map fun r => D.str (reprD (.tup r))) S :=
    compL_map (g := gN 9) D.tup (fun r => D.str (reprD (.tup r))) (rowsOf ps [[]]) (by omega) fun r hr => ⟨lsF ns x2 (some (.d (seD ps))) (some (.d (stR ps))) x5 x6 x7 x8 (some (.d (.tup r))) (some (.d d)), rfl, by
      rw [call1 (w := .d (.tup r)) rfl, o_repr (rsh r hr).2]⟩
  have l : fLc (iLst (fVar 4)) (gN 9) tTrue (fCall opRepr (fCons (fVar 9) fNil)) [9] ρ0 S = .ok (.d (.lst (((rowsOf ps [[]]).map fun r => reprD (.tup r)).map D.str))) S := by
    unfold fLc
    rw [show iLst (fVar 4) ρ0 S = .ok ((rowsOf ps [[]]).map D.tup) S from rfl, bind_ok]
    show (compL _ _ _ ρ1 _ S []).bind _ = _
    rw [cl, bind_ok, List.map_map]
    rfl
  have ei := in_txts (z := reprD d) (zs := (rowsOf ps [[]]).map fun r => reprD (.tup r)) (S := S) (repr_txt hd.gd) (fun y hy => by
    obtain ⟨r, hr, rfl⟩ := List.mem_map.mp hy
    exact repr_txt (rsh r hr).1)
  have eq : decide (reprD d ∈ (rowsOf ps [[]]).map fun r => reprD (.tup r)) = stD ps d := by
    cases e : stD ps d with
    | true =>
      have : ∃ xs, d = .tup xs ∧ fitB ps xs = true := by
        cases d with
        | tup xs => exact ⟨xs, rfl, e⟩
        | _ => cases e
      obtain ⟨xs, rfl, hf⟩ := this
      exact decide_eq_true (List.mem_map.mpr ⟨xs, mem_rows0.mpr hf, rfl⟩)
    | false =>
      refine decide_eq_false fun h => ?_
      obtain ⟨r, hr, er⟩ := List.mem_map.mp h
      have ed := repr_inj hd.gd (rsh r hr).1 er.symm
      rw [ed] at e
      have : fitB ps r = false := e
      rw [mem_rows0.mp hr] at this
      cases this
  rw [eq] at ei
  have a : fCall opRepr (fCons (fApp F_is_standing (fCons (fCo (fVar 3)) (fCons (fVar 10) fNil))) fNil) ρ0 S = .ok (.d (.str (reprD (.bl (stD ps d))))) S := by
    rw [call1 ((app2 (w := .d (.tup (ps.map mkS))) (x := .d d) rfl rfl).trans (is_standing_ok hp hd.sm S)), o_repr (bl_show _)]
  have b : fCall opRepr (fCons (fBin opIn (fCall opRepr (fCons (fVar 10) fNil)) (fLc (iLst (fVar 4)) (gN 9) tTrue (fCall opRepr (fCons (fVar 9) fNil)) [9])) fNil) ρ0 S = .ok (.d (.str (reprD (.bl (stD ps d))))) S := by
    rw [call1 ((bin2 ((call1 (w := .d d) rfl).trans (o_repr hd.show)) l).trans ei), o_repr (bl_show _)]
  show sIf _ _ _ ρ0 S = _
  rw [e_if, e_toT, bin2 a b, o_neS, bind_ok, e_toB, st_ok, if_neg (by simp), e_next]
end
end K02
namespace K02
open PySem Ev TL
open L2 (atI ixN Key)
theorem dw_tail {cs : List Int} {rest S : Sto} {o : O} {c : Nat} (h : Dw cs (rest ++ [o]) c S) : ∃ S0, S = S0 ++ [o] ∧ S0.length = rest.length + 1 ∧ Dw cs rest c S0 := by
  obtain ⟨ls, n, rfl, h1, h2, h3, h4, h5⟩ := h
  rw [List.all_append, Bool.and_eq_true] at h5
  exact ⟨.drw cs ls n :: rest, rfl, rfl, ls, n, rfl, h1, h2, h3, h4, h5.1⟩
theorem pln_ds (l : List D) : pln (.lst (l.map W.d)) = true := by
  simp [pln, isD]
theorem app_tail {S0 : Sto} {acc : List D} {x : D} (h : acc.length < 1000) : opApp (.ref S0.length) [.d x] (S0 ++ [.lst (acc.map W.d)]) = .ok (.d .non) (S0 ++ [.lst ((acc ++ [x]).map W.d)]) ∧ isLstR (.ref S0.length) (S0 ++ [.lst (acc.map W.d)]) = true := by
  have q := app_end (S0 := S0) (acc := acc.map W.d) (w := .d x) (by rw [List.length_map]; omega)
  rw [List.map_append]
  exact q
theorem push02 {ρ : List (Option W)} {cs : List Int} {rest S : Sto} {acc : List D} {x : D} {c i : Nat} {f : FE} (hi : ρ[i]? = some (some (.ref (rest.length + 1)))) (h : Dw cs (rest ++ [.lst (acc.map W.d)]) c S) (e : f ρ S = .ok (.d x) S) (hl : acc.length < 1000) :
    ∃ S2, sExpr (fMeth isLstR opApp (fVar i) (fCons f fNil)) ρ S = .nx ρ S2 ∧ Dw cs (rest ++ [.lst ((acc ++ [x]).map W.d)]) c S2 := by
  obtain ⟨S0, rfl, l0, d0⟩ := dw_tail h
  have q := app_tail (S0 := S0) (acc := acc) (x := x) hl
  rw [l0] at q
  refine ⟨S0 ++ [.lst ((acc ++ [x]).map W.d)], ?_, d0.push (pln_ds _)⟩
  rw [e_expr, meth1 (varW hi) q.2 e, q.1, st_ok]
section
variable {ps : List (Str × Int)} {ns : List Int} {S : Sto} {ρ : List (Option W)} {x2 x5 x6 x7 x8 x9 x10 : Option W} {vs : List Nat}
structure Fl (d : D) : Prop where
  gd : Gd 0 d
  sz : szD d = 1
theorem fl_i {i : Int} (h : i.natAbs ≤ 1000) : Fl (.int i) := ⟨gd_int.mpr (by omega), by simp [szD]⟩
theorem fl_b {b : Bool} : Fl (.bl b) := ⟨by cases b <;> simp [Gd], by simp [szD]⟩
theorem fl_sz : ∀ {xs : List D}, (∀ x ∈ xs, Fl x) → szDs xs = xs.length
  | [], _ => by simp [szDs]
  | x :: xs, h => by
    have a := (h x List.mem_cons_self).sz
    have b := fl_sz fun y hy => h y (List.mem_cons_of_mem _ hy)
    simp only [szDs, List.length_cons]
    omega
theorem fl_tup {xs : List D} (h : ∀ x ∈ xs, Fl x) (l : xs.length ≤ 10) : Thg (.tup xs) :=
  ⟨(show Gd 1 (.tup xs) from show Gds 0 xs from gds_iff.mpr fun x hx => (h x hx).gd).mono (by decide), by have := fl_sz h; simp only [szD]; omega⟩
theorem fl_lst {xs : List D} (h : ∀ x ∈ xs, Fl x) (l : xs.length ≤ 10) : Thg (.lst xs) :=
  ⟨(show Gd 1 (.lst xs) from show Gds 0 xs from gds_iff.mpr fun x hx => (h x hx).gd).mono (by decide), by have := fl_sz h; simp only [szD]; omega⟩
theorem fit_zs : ∀ ps : List (Str × Int), GoodP ps → fitB ps (ps.map fun _ => .int 0) = true
  | [], _ => rfl
  | p :: ps, h => by
    have h1 := h p List.mem_cons_self
    simp only [List.map_cons, fitB, fit_zs ps fun q hq => h q (List.mem_cons_of_mem _ hq), Bool.and_true]
    exact decide_eq_true ⟨by omega, by omega⟩
abbrev rwD (vs : List Nat) : D := .tup (vs.map fun v : Nat => D.int v)
theorem up_ok (hl : vs.length ≤ 1000) (hr : ρ[6]? = some (some (.d (rwD vs)))) (hs : ∀ v : Nat, ∃ ρ1, gN 8 (.d (.int (v : Int))) (wipeL ρ [8]) S = some ρ1 ∧ ρ1[8]? = some (some (.d (.int (v : Int))))) :
    fCall (op1 tupleD) (fCons (fLc (iTupl (fVar 6)) (gN 8) tTrue (fBin opAdd (fVar 8) (fC (.int 1))) [8]) fNil) ρ S = .ok (.d (.tup (vs.map fun v : Nat => D.int ((v : Int) + 1)))) S := by
  have cl : compL (gN 8) tTrue (fBin opAdd (fVar 8) (fC (.int 1))) (wipeL ρ [8]) (vs.map fun v : Nat => D.int (v : Int)) S [] = .ok (vs.map fun v : Nat => D.int ((v : Int) + 1)) S :=
    compL_map (g := gN 8) (fun v : Nat => D.int (v : Int)) (fun v : Nat => D.int ((v : Int) + 1)) vs (by omega) fun v _ => by
      obtain ⟨ρ1, e1, e2⟩ := hs v
      exact ⟨ρ1, e1, by rw [bin2 (varW e2) (x := .d (.int 1)) rfl]; rfl⟩
  have it : iTupl (fVar 6) ρ S = .ok (vs.map fun v : Nat => D.int (v : Int)) S := by
    unfold iTupl
    rw [varW hr]
    rfl
  have l : fLc (iTupl (fVar 6)) (gN 8) tTrue (fBin opAdd (fVar 8) (fC (.int 1))) [8] ρ S = .ok (.d (.lst (vs.map fun v : Nat => D.int ((v : Int) + 1)))) S := by
    unfold fLc
    rw [it, bind_ok, cl, bind_ok]
  rw [call1 l]
  rfl
theorem bool_ok (hl : vs.length ≤ 1000) (hr : ρ[6]? = some (some (.d (rwD vs)))) (hs : ∀ v : Nat, ∃ ρ1, gN 8 (.d (.int (v : Int))) (wipeL ρ [8]) S = some ρ1 ∧ ρ1[8]? = some (some (.d (.int (v : Int))))) :
    fCall (op1 tupleD) (fCons (fLc (iTupl (fVar 6)) (gN 8) tTrue (fCall opBool (fCons (fVar 8) fNil)) [8]) fNil) ρ S = .ok (.d (.tup (vs.map fun v : Nat => D.bl ((v : Int) != 0)))) S := by
  have cl : compL (gN 8) tTrue (fCall opBool (fCons (fVar 8) fNil)) (wipeL ρ [8]) (vs.map fun v : Nat => D.int (v : Int)) S [] = .ok (vs.map fun v : Nat => D.bl ((v : Int) != 0)) S :=
    compL_map (g := gN 8) (fun v : Nat => D.int (v : Int)) (fun v : Nat => D.bl ((v : Int) != 0)) vs (by omega) fun v _ => by
      obtain ⟨ρ1, e1, e2⟩ := hs v
      exact ⟨ρ1, e1, by rw [call1 (varW e2)]; rfl⟩
  have it : iTupl (fVar 6) ρ S = .ok (vs.map fun v : Nat => D.int (v : Int)) S := by
    unfold iTupl
    rw [varW hr]
    rfl
  have l : fLc (iTupl (fVar 6)) (gN 8) tTrue (fCall opBool (fCons (fVar 8) fNil)) [8] ρ S = .ok (.d (.lst (vs.map fun v : Nat => D.bl ((v : Int) != 0)))) S := by
    unfold fLc
    rw [it, bind_ok, cl, bind_ok]
  rw [call1 l]
  rfl
theorem most_ok (hl : ps.length ≤ 3) (hr : fCo (fVar 3) ρ S = .ok (.d (.tup (ps.map mkS))) S) (hs : ∀ p : Str × Int, ∃ ρ1, gN 9 (.d (mkS p)) (wipeL ρ [9]) S = some ρ1 ∧ ρ1[9]? = some (some (.d (mkS p)))) :
    fCall (op1 tupleD) (fCons (fLc (iTupl (fCo (fVar 3))) (gN 9) tTrue (fBin opIx (fVar 9) (fC (.int 1))) [9]) fNil) ρ S = .ok (.d (.tup (ps.map fun p => D.int p.2))) S := by
  have cl : compL (gN 9) tTrue (fBin opIx (fVar 9) (fC (.int 1))) (wipeL ρ [9]) (ps.map mkS) S [] = .ok (ps.map fun p => D.int p.2) S :=
    compL_map (g := gN 9) mkS (fun p => D.int p.2) ps (by omega) fun p _ => by
      obtain ⟨ρ1, e1, e2⟩ := hs p
      exact ⟨ρ1, e1, by rw [bin2 (varW e2) (x := .d (.int 1)) rfl]; rfl⟩
  have it : iTupl (fCo (fVar 3)) ρ S = .ok (ps.map mkS) S := by
    unfold iTupl
    rw [hr]
    rfl
  have l : fLc (iTupl (fCo (fVar 3))) (gN 9) tTrue (fBin opIx (fVar 9) (fC (.int 1))) [9] ρ S = .ok (.d (.lst (ps.map fun p => D.int p.2))) S := by
    unfold fLc
    rw [it, bind_ok, cl, bind_ok]
  rw [call1 l]
  rfl
theorem seven_ok (hp : Okp ps) (hl : vs.length ≤ 3) (hv : ∀ v ∈ vs, v ≤ 3) {rest : Sto} {c : Nat} (h : Dw ns rest c S) (hc : c + 200 < 2 ^ 39) :
    ∃ (l : List D) (S' : Sto), ls5 (lsF ns x2 (some (.d (seD ps))) (some (.d (stR ps))) x5 (some (.d (rwD vs))) x7 x8 x9 x10) S = .nx (lsF ns x2 (some (.d (seD ps))) (some (.d (stR ps))) x5 (some (.d (rwD vs))) (some (.ref (rest.length + 1))) x8 x9 x10) S' ∧
      Dw ns (rest ++ [.lst (l.map W.d)]) (c + 161) S' ∧ l.length = 7 ∧ ∀ d ∈ l, Thg d := by
  let ρ0 := lsF ns x2 (some (.d (seD ps))) (some (.d (stR ps))) x5 (some (.d (rwD vs))) x7 x8 x9 x10
  have fl : ∀ x ∈ vs.map (fun v : Nat => D.int v), Fl x := fun x hx => by
    obtain ⟨v, q, rfl⟩ := List.mem_map.mp hx
    have := hv v q
    exact fl_i (by omega)
  have lv : (vs.map fun v : Nat => D.int v).length = vs.length := List.length_map ..
  have g0 : Gd 1 (rwD vs) := show Gds 0 _ from gds_iff.mpr fun x hx => (fl x hx).gd
  have z0 : szD (rwD vs) ≤ 4 := by
    have := fl_sz fl
    simp only [szD]
    omega
  obtain ⟨b1, S1, e1, h1, g1, z1⟩ := bent_ok (n := 8) (k := 1) (d := rwD vs) _ S (by decide) g0 (by omega) h (by omega)
  obtain ⟨b2, S2, e2, h2, g2, z2⟩ := bent_ok (n := 8) (k := 1) (d := rwD vs) _ S1 (by decide) g0 (by omega) h1 (by omega)
  obtain ⟨od, S3, e3, h3, g3, z3⟩ := odd_ok h2 (by omega)
  have c6 : ∀ S, fVar 6 ρ0 S = .ok (.d (rwD vs)) S := fun _ => rfl
  have c1 : ∀ S, fVar 1 ρ0 S = .ok (.ref 0) S := fun _ => rfl
  have f1 : fApp F__law_bent (fCons (fVar 1) (fCons (fVar 6) fNil)) ρ0 S = .ok (.d b1) S1 := (app2 (c1 S) (c6 S)).trans e1
  have f2 : fApp F__law_bent (fCons (fVar 1) (fCons (fVar 6) fNil)) ρ0 S1 = .ok (.d b2) S2 := (app2 (c1 _) (c6 _)).trans e2
  have f3 : fBin opAdd (fVar 6) (fTup (fCons (fC (.int 0)) fNil)) ρ0 S2 = .ok (.d (.tup ((vs.map fun v : Nat => D.int v) ++ [.int 0]))) S2 := by
    have q : fTup (fCons (fC (.int 0)) fNil) ρ0 S2 = .ok (.d (.tup [.int 0])) S2 := rfl
    rw [bin2 (c6 _) q, o_addT (by rw [lv, List.length_cons, List.length_nil]; omega)]
  have f4 : fSl opSl (fVar 6) (oSome (fC (.int 1))) oNone ρ0 S2 = .ok (.d (.tup (cut (vs.map fun v : Nat => D.int v) (some 1) none))) S2 := rfl
  have f5 : fCall (op1 listD) (fCons (fVar 6) fNil) ρ0 S2 = .ok (.d (.lst (vs.map fun v : Nat => D.int v))) S2 := rfl
  have f6 : fApp F__law_odd (fCons (fVar 1) fNil) ρ0 S2 = .ok (.d od) S3 := (app1 (c1 _)).trans e3
  refine ⟨[rwD vs, b1, b2, .tup ((vs.map fun v : Nat => D.int v) ++ [.int 0]), .tup (cut (vs.map fun v : Nat => D.int v) (some 1) none), .lst (vs.map fun v : Nat => D.int v), od], S3 ++ [.lst ([rwD vs, b1, b2, .tup ((vs.map fun v : Nat => D.int v) ++ [.int 0]), .tup (cut (vs.map fun v : Nat => D.int v) (some 1) none), .lst (vs.map fun v : Nat => D.int v), od].map W.d)], ?_, (h3.mono (by omega)).push (pln_ds _), rfl, ?_⟩
  · have e : fNewL (fCons (fVar 6) (fCons (fApp F__law_bent (fCons (fVar 1) (fCons (fVar 6) fNil))) (fCons (fApp F__law_bent (fCons (fVar 1) (fCons (fVar 6) fNil))) (fCons (fBin opAdd (fVar 6) (fTup (fCons (fC (.int 0)) fNil))) (fCons (fSl opSl (fVar 6) (oSome (fC (.int 1))) oNone) (fCons (fCall (op1 listD) (fCons (fVar 6) fNil)) (fCons (fApp F__law_odd (fCons (fVar 1) fNil)) fNil))))))) ρ0 S
        = .ok (.ref S3.length) (S3 ++ [.lst ([rwD vs, b1, b2, .tup ((vs.map fun v : Nat => D.int v) ++ [.int 0]), .tup (cut (vs.map fun v : Nat => D.int v) (some 1) none), .lst (vs.map fun v : Nat => D.int v), od].map W.d)]) := by
      unfold fNewL
      simp only [e_cons, e_nil, c6, f1, f2, f3, f4, f5, f6, bind_ok]
      rw [if_pos (by simp [sizeLine_eq])]
      rfl
    rw [h3.len] at e
    show sSet 7 _ ρ0 S = _
    rw [e_set, e, st_ok]
    rfl
  · intro d hd
    simp only [List.mem_cons, List.not_mem_nil, or_false] at hd
    rcases hd with rfl | rfl | rfl | rfl | rfl | rfl | rfl
    · exact fl_tup fl (by omega)
    · exact ⟨g1.mono (by decide), by omega⟩
    · exact ⟨g2.mono (by decide), by omega⟩
    · refine fl_tup (fun x hx => ?_) (by rw [List.length_append, lv, List.length_cons, List.length_nil]; omega)
      rcases List.mem_append.mp hx with hx | hx
      · exact fl x hx
      · rw [List.mem_singleton.mp hx]
        exact fl_i (by decide)
    · refine fl_tup (fun x hx => fl x (cut_sub hx)) ?_
      have := cut_len (vs.map fun v : Nat => D.int (v : Int)) (some 1) none
      omega
    · exact fl_lst fl (by omega)
    · exact ⟨g3.mono (by decide), by omega⟩
end
end K02
namespace K02
open PySem Ev TL
open L2 (atI ixN Key)
def Fr (ns : List Int) (ρ : List (Option W)) : Prop := ∃ x2 x3 x4 x5 x6 x7 x8 x9 x10, ρ = lsF ns x2 x3 x4 x5 x6 x7 x8 x9 x10
section
variable {ps : List (Str × Int)} {ns : List Int} {S : Sto} {c : Nat} {x2 x3 x4 x5 x6 x7 x8 x9 x10 : Option W}
theorem asked_ok (hp : Okp ps) {r : Option W} {j : Nat} {l : List D} (hS : S[j]? = some (.lst (l.map W.d))) (hl : l.length ≤ 50) (ht : ∀ d ∈ l, Thg d) :
    ∃ y10, ls9 (lsF ns x2 (some (.d (seD ps))) (some (.d (stR ps))) x5 x6 (some (.ref j)) x8 x9 x10) S = .nx (lsF ns x2 (some (.d (seD ps))) (some (.d (stR ps))) x5 x6 (some (.ref j)) x8 x9 y10) S := by
  have q := loopR_same (g := gN 10) (f := lsB) (S := S) (fun ρ => ∃ y, ρ = lsF ns x2 (some (.d (seD ps))) (some (.d (stR ps))) x5 x6 (some (.ref j)) x8 x9 y) hS (fun w hw ρ hρ => by
    obtain ⟨y, rfl⟩ := hρ
    obtain ⟨d, hd, rfl⟩ := List.mem_map.mp hw
    exact ⟨lsF ns x2 (some (.d (seD ps))) (some (.d (stR ps))) x5 x6 (some (.ref j)) x8 x9 (some (.d d)), _, rfl, thing_ok hp (ht d hd), _, rfl⟩) 100 0 (lsF ns x2 (some (.d (seD ps))) (some (.d (stR ps))) x5 x6 (some (.ref j)) x8 x9 x10) ⟨_, rfl⟩ (by rw [List.length_map]; omega) (by omega)
  obtain ⟨ρ', e, y, rfl⟩ := q
  exact ⟨y, e⟩
theorem turn_ok (h : ∃ rest, Dw ns rest c S) (hc : c + 2000 < 2 ^ 39) : ∃ ρ' S', lsAll (lsF ns x2 x3 x4 x5 x6 x7 x8 x9 x10) S = .nx ρ' S' ∧ Fr ns ρ' ∧ ∃ rest, Dw ns rest (c + 1000) S' := by
  obtain ⟨rest, h⟩ := h
  obtain ⟨ps, S1, e1, h1, hp⟩ := settings_ok h (by omega)
  have e2 := law_standings_ok ps hp.good hp.l3 S1
  have f12 := few12 hp
  have hpos : 1 ≤ (rowsOf ps [[]]).length := List.length_pos_of_mem (mem_rows0.mpr (fit_zs ps hp.good))
  obtain ⟨r, S2, e4, r0, r1, h2⟩ := next_ok (many := ((rowsOf ps [[]]).length : Int)) h1 (by omega) (by omega) (by omega)
  obtain ⟨row, i4, row2, _⟩ := atI_mem (xs := (rowsOf ps [[]]).map D.tup) r0 (by rw [List.length_map]; exact r1)
  obtain ⟨xs, hxs, rfl⟩ := List.mem_map.mp row2
  obtain ⟨vs, rfl, hv, hl⟩ := ints_of hp.good (mem_rows0.mp hxs)
  have l3 := hp.l3
  let se : Option W := some (.d (seD ps))
  let st : Option W := some (.d (stR ps))
  let rw6 : Option W := some (.d (rwD vs))
  have a1 : ls1 (lsF ns x2 x3 x4 x5 x6 x7 x8 x9 x10) S = .nx (lsF ns x2 se x4 x5 x6 x7 x8 x9 x10) S1 := by
    show sSet 3 _ _ S = _
    rw [e_set, app1 (w := .ref 0) rfl, e1, st_ok]
    rfl
  have a2 : ls2 (lsF ns x2 se x4 x5 x6 x7 x8 x9 x10) S1 = .nx (lsF ns x2 se st x5 x6 x7 x8 x9 x10) S1 := by
    show sSet 4 _ _ S1 = _
    rw [e_set, app1 (w := .d (.tup (ps.map mkS))) rfl, e2, st_ok]
    rfl
  have a3 := st3 (ns := ns) (S := S1) (x2 := x2) (x5 := x5) (x6 := x6) (x7 := x7) (x8 := x8) (x9 := x9) (x10 := x10) hp
  have a4 : ls4 (lsF ns x2 se st x5 x6 x7 x8 x9 x10) S1 = .nx (lsF ns x2 se st x5 rw6 x7 x8 x9 x10) S2 := by
    have ln : fCall opLen (fCons (fVar 4) fNil) (lsF ns x2 se st x5 x6 x7 x8 x9 x10) S1 = .ok (.d (.int ((rowsOf ps [[]]).length : Int))) S1 := by
      rw [call1 (w := .d (stR ps)) rfl]
      show (R.ok (W.d (.int (((rowsOf ps [[]]).map D.tup).length : Int))) S1) = _
      rw [List.length_map]
    have nx : fApp F__law_next (fCons (fVar 1) (fCons (fCall opLen (fCons (fVar 4) fNil)) fNil)) (lsF ns x2 se st x5 x6 x7 x8 x9 x10) S1 = .ok (.d (.int r)) S2 := (app2 (w := .ref 0) rfl ln).trans e4
    show sSet 6 _ _ S1 = _
    rw [e_set, bin2 (w := .d (stR ps)) rfl nx]
    have ix : opIx (.d (stR ps)) (.d (.int r)) S2 = .ok (.d (rwD vs)) S2 := by
      simp [i4]
    rw [ix, st_ok]
    rfl
  obtain ⟨l, S3, a5, h3, ll, lt⟩ := seven_ok (ns := ns) (ps := ps) (x2 := x2) (x5 := x5) (x7 := x7) (x8 := x8) (x9 := x9) (x10 := x10) hp (vs := vs) (by omega) hv h2 (by omega)
  let rf : Option W := some (.ref (rest.length + 1))
  have fs : ∀ i : Int, i.natAbs ≤ 1000 → Fl (.int i) := fun i h => fl_i h
  obtain ⟨S4, a6, h4⟩ := push02 (ρ := lsF ns x2 se st x5 rw6 rf x8 x9 x10) (i := 7) rfl h3 (up_ok (S := S3) (ρ := lsF ns x2 se st x5 rw6 rf x8 x9 x10) (vs := vs) (by omega) rfl fun v => ⟨lsF ns x2 se st x5 rw6 rf (some (.d (.int v))) x9 x10, rfl, rfl⟩) (by omega)
  obtain ⟨S5, a7, h5⟩ := push02 (ρ := lsF ns x2 se st x5 rw6 rf x8 x9 x10) (i := 7) rfl h4 (most_ok (S := S4) (ps := ps) (ρ := lsF ns x2 se st x5 rw6 rf x8 x9 x10) hp.l3 rfl fun p => ⟨lsF ns x2 se st x5 rw6 rf x8 (some (.d (mkS p))) x10, rfl, rfl⟩) (by rw [List.length_append, List.length_cons, List.length_nil]; omega)
  obtain ⟨S6, a8, h6⟩ := push02 (ρ := lsF ns x2 se st x5 rw6 rf x8 x9 x10) (i := 7) rfl h5 (bool_ok (S := S5) (ρ := lsF ns x2 se st x5 rw6 rf x8 x9 x10) (vs := vs) (by omega) rfl fun v => ⟨lsF ns x2 se st x5 rw6 rf (some (.d (.int v))) x9 x10, rfl, rfl⟩) (by simp only [List.length_append, List.length_cons, List.length_nil]; omega)
  have lv : ∀ f : Nat → D, (vs.map f).length = vs.length := fun f => List.length_map ..
  have ht : ∀ d ∈ ((l ++ [.tup (vs.map fun v : Nat => D.int ((v : Int) + 1))]) ++ [.tup (ps.map fun p => D.int p.2)]) ++ [.tup (vs.map fun v : Nat => D.bl ((v : Int) != 0))], Thg d := by
    intro d hd
    simp only [List.mem_append, List.mem_cons, List.not_mem_nil, or_false] at hd
    rcases hd with ((hd | rfl) | rfl) | rfl
    · exact lt d hd
    · refine fl_tup (fun x hx => ?_) (by rw [List.length_map]; omega)
      obtain ⟨v, q, rfl⟩ := List.mem_map.mp hx
      have := hv v q
      exact fl_i (by omega)
    · refine fl_tup (fun x hx => ?_) (by rw [List.length_map]; omega)
      obtain ⟨p, q, rfl⟩ := List.mem_map.mp hx
      have := hp.good p q
      exact fl_i (by omega)
    · refine fl_tup (fun x hx => ?_) (by rw [List.length_map]; omega)
      obtain ⟨v, q, rfl⟩ := List.mem_map.mp hx
      exact fl_b
  obtain ⟨S0, e0, l0, _⟩ := dw_tail h6
  have hS : S6[rest.length + 1]? = some (.lst ((((l ++ [D.tup (vs.map fun v : Nat => D.int ((v : Int) + 1))]) ++ [D.tup (ps.map fun p => D.int p.2)]) ++ [D.tup (vs.map fun v : Nat => D.bl ((v : Int) != 0))]).map W.d)) := by
    rw [e0, ← l0]
    simp
  obtain ⟨y10, a9⟩ := asked_ok (ns := ns) (x2 := x2) (x5 := x5) (x6 := rw6) (x8 := x8) (x9 := x9) (x10 := x10) (r := none) hp hS (by simp only [List.length_append, List.length_cons, List.length_nil]; omega) ht
  have b3 : ls3 (lsF ns x2 se st x5 x6 x7 x8 x9 x10) S1 = .nx (lsF ns x2 se st x5 x6 x7 x8 x9 x10) S1 := a3
  have b5 : ls5 (lsF ns x2 se st x5 rw6 x7 x8 x9 x10) S2 = .nx (lsF ns x2 se st x5 rw6 rf x8 x9 x10) S3 := a5
  have b6 : ls6 (lsF ns x2 se st x5 rw6 rf x8 x9 x10) S3 = .nx (lsF ns x2 se st x5 rw6 rf x8 x9 x10) S4 := a6
  have b7 : ls7 (lsF ns x2 se st x5 rw6 rf x8 x9 x10) S4 = .nx (lsF ns x2 se st x5 rw6 rf x8 x9 x10) S5 := a7
  have b8 : ls8 (lsF ns x2 se st x5 rw6 rf x8 x9 x10) S5 = .nx (lsF ns x2 se st x5 rw6 rf x8 x9 x10) S6 := a8
  have b9 : ls9 (lsF ns x2 se st x5 rw6 rf x8 x9 x10) S6 = .nx (lsF ns x2 se st x5 rw6 rf x8 x9 y10) S6 := a9
  refine ⟨lsF ns x2 se st x5 rw6 rf x8 x9 y10, S6, ?_, ⟨_, _, _, _, _, _, _, _, _, rfl⟩, _, h6.mono (by omega)⟩
  unfold lsAll
  rw [e_seq, a1, go_nx, e_seq, a2, go_nx, e_seq, b3, go_nx, e_seq, a4, go_nx, e_seq, b5, go_nx, e_seq, b6, go_nx, e_seq, b7, go_nx, e_seq, b8, go_nx, b9]
end
end K02
namespace K02
open PySem Ev TL
open L2 (atI ixN Key)
theorem plain (ns : List Int) (hl : ns.length ≤ 63) : ∃ S', bodyF 11 s_law [.d (.scr ns)] [] = .ok (.d (.bl true)) S' := by
  have h0 : Dw ns [] 0 [.drw ns (great ns) 0] := ⟨_, _, rfl, hl, Nat.le_trans (List.length_filter_le _ _) hl, by decide, by decide, rfl⟩
  obtain ⟨m, hm, hm2⟩ : ∃ m : Nat, (3 + if (9 : Int) < ns.length then 9 else (ns.length : Int)) = (m : Int) ∧ m ≤ 12 := by
    split
    · exact ⟨12, by omega, by omega⟩
    · exact ⟨3 + ns.length, by omega, by omega⟩
  obtain ⟨ρ', S', c', e1, hf, _⟩ := loop_inv (b := turn (gN 2) lsAll) (fun c ρ S => Fr ns ρ ∧ ∃ rest, Dw ns rest c S) 2000 (2 ^ 39) (fun d c ρ S ⟨hr, h⟩ hc => by
    obtain ⟨x2, x3, x4, x5, x6, x7, x8, x9, x10, rfl⟩ := hr
    obtain ⟨ρ', S', e, f, rest, h'⟩ := turn_ok (x2 := some (.d d)) (x3 := x3) (x4 := x4) (x5 := x5) (x6 := x6) (x7 := x7) (x8 := x8) (x9 := x9) (x10 := x10) h hc
    exact ⟨ρ', S', e, f, rest, h'.mono (by omega)⟩) ((List.range' 0 m).map fun k : Nat => D.int (0 + (k : Int))) 0 (lsF ns none none none none none none none none none) [.drw ns (great ns) 0] ⟨⟨_, _, _, _, _, _, _, _, _, rfl⟩, [], h0⟩ (by
      rw [List.length_map, List.length_range']
      omega)
  refine ⟨S', body_rt ?_⟩
  show s_law [some (.d (.scr ns)), none, none, none, none, none, none, none, none, none, none] [] = _
  have e2 : begunF [.d (.scr ns)] [] = .ok (.ref 0) [.drw ns (great ns) 0] := by simp [begunF, hl]
  have e3 : opLen [.d (.scr ns)] [.drw ns (great ns) 0] = .ok (.d (.int ns.length)) [.drw ns (great ns) 0] := rfl
  unfold s_law
  have a1 : sSet 1 (fApp F__law_begun (fCons (fVar 0) fNil)) [some (.d (.scr ns)), none, none, none, none, none, none, none, none, none, none] [] = .nx (lsF ns none none none none none none none none none) [.drw ns (great ns) 0] := by
    simp [e2]
  have a2 := (for_range (p := lsAll) (g := gN 2) (fa := fCons (fBin opAdd (fC (.int 3)) (fCall opMin2 (fCons (fCall opLen (fCons (fVar 0) fNil)) (fCons (fC (.int 9)) fNil)))) fNil) (ρ := lsF ns none none none none none none none none none) (S := [.drw ns (great ns) 0]) (n := m) (S1 := [.drw ns (great ns) 0]) (by
    simp only [e_cons, e_bin, e_c, e_call, e_var, e_nil, List.getElem?_cons_zero, bind_ok, e3, o_min, o_addI, hm]) (by omega)).trans e1
  rw [e_seq, a1, go_nx, e_seq]
  rw [a2, go_nx]
  rfl
end K02
namespace Ev
open PySem PySem.Spec L2 PyProof.Rows
section
variable {l : PySem.W.OpenLaw} {n k : Nat} {q : Program} {loose : List Str} {XP : (Str → Option Value) → Heap → Prop} {YP : World → Heap → Prop} {d : DefRec} {x : Str}
theorem walk_0X (noImp : importsNone q = true) (most : l.most = some n) (few : n ≤ sizeLine) (nodef : d.params.defaults = []) (hr : Room k callerA)
    (all : ∀ (w : World) (mg : Str → Option Value) (fa : Addr) (h : Heap), YP w h → h.Ns mainGlobals mg → mg d.name = some (.ref fa) → ∃ K : PySem.W.Frag, K.In h ∧ LawAt0 l w K k n x mg fa h) :
    PySem.W.WalkO q loose XP YP l.row.toRowW d [] (fun f vs => PySem.call f vs) := by
  apply Att.attach_callB most nodef
  intro w s₀ s1 mg mb fa o pm cd doc a vs ns g y ho hd hcd hmg hobj hints hlen hbits hg
  obtain ⟨K, KX, fd, sp, hb, hsp, hF⟩ := all w mg fa _ y g.T.g hmg
  exact law_call0 KX g.T.g g.T.b g.T.builtins g.T.nolimit hg hobj hints (Nat.le_trans hlen few) hr (let ⟨mm, z, _⟩ := (g.T.seer noImp).mods; ⟨mm, z⟩) hF hb fun H st => hsp H a ns hlen st
end
theorem lookup_at {α β : Type} [BEq α] [LawfulBEq α] : ∀ {l : List (α × β)} {i : Nat} {s : α} {p : β}, (l.map (·.1)).Nodup → l[i]? = some (s, p) → l.lookup s = some p
  | [], _, _, _, _, h => by simp at h
  | (t, q) :: l, 0, s, p, _, h => by
    simp only [List.getElem?_cons_zero, Option.some.injEq, Prod.mk.injEq] at h
    obtain ⟨rfl, rfl⟩ := h
    simp [List.lookup]
  | (t, q) :: l, i + 1, s, p, nd, h => by
    rw [List.getElem?_cons_succ] at h
    rw [List.map_cons, List.nodup_cons] at nd
    have ne : (s == t) = false := by
      rw [beq_eq_false_iff_ne]
      exact fun e => nd.1 (by rw [← e]; exact List.mem_map_of_mem (f := (·.1)) (List.mem_of_getElem? h))
    rw [List.lookup_cons, ne]
    exact lookup_at nd.2 h
def aK (tb : List (Str × (PySem.W.Frag → Addr))) (K : PySem.W.Frag) (s : Str) : Addr := match tb.lookup s with
  | some p => p K
  | none => 0
theorem aK_at {tb : List (Str × (PySem.W.Frag → Addr))} (nd : (tb.map (·.1)).Nodup) (K : PySem.W.Frag) (i : Nat) {s : Str} {p : PySem.W.Frag → Addr} (h : tb[i]? = some (s, p)) : aK tb K s = p K := by
  unfold aK
  rw [lookup_at nd h]
section
variable {P : Program} {w : World} {K : PySem.W.Frag} {mg : Str → Option Value} {h : Heap} {x qual : Str} {st : Stmt} {f : Addr} {fd : FuncData}
theorem fd_eq {params : Arguments} {body : List Stmt} {scope : Scope} {dvs : List V} {kws : List (Str × V)} (F : FunD K x qual params body scope dvs kws f fd) : fd = fdAt K f := by
  obtain ⟨oc, od, dV, kV, doc, pm, an, cdv, ct, osl, _, lk, _⟩ := F.ex
  unfold fdAt
  rw [lk]
theorem fun_hx (F : FunD K x qual (defArgs st) (defBody st) (defScope st) [] [] f fd) : Fun K x qual st f (fdAt K f) := by
  have e := fd_eq F
  obtain ⟨oc, od, dV, kV, doc, pm, an, cdv, ct, osl, e1, lk, hc, hD, _⟩ := F.ex
  rw [← e]
  rcases hD with ⟨_, rfl⟩ | ⟨z, _⟩
  · exact ⟨⟨oc, od, kV, doc, pm, an, cdv, ct, osl, e1, lk, hc⟩, F.kp⟩
  · exact absurd rfl z
theorem def_hx {ps : List Str} (F : ∃ fd, FunD K x x (defArgs st) (defBody st) (defScope st) [] [] (He.ga K x) fd) (X : K.In h) (G : h.Ns mainGlobals mg) (c : (He.Fa.glo x).ok K = true)
    (b : ∀ (kV doc pm : Value) (an : Option Addr) (cdv ct : Value) (us : List Value), us.length = ps.length → bindArgs (PySem.W.fnOf x x (defArgs st) (defBody st) (defScope st) .none kV doc pm an cdv ct) ⟨us, []⟩ = pure (ps.zip us)) :
    Def K mg x st ps (He.ga K x) (fdAt K (He.ga K x)) := by
  obtain ⟨fd, F⟩ := F
  exact ⟨fun_hx F, He.glo_ok X G c, (fun_hx F).binds b⟩
theorem fun_hx_eq (F : ∃ fd, FunD K x qual (defArgs st) (defBody st) (defScope st) [] [] f fd) : ∃ (oc : Value) (od : Option Addr) (kV doc pm : Value) (an : Option Addr) (cdv ct : Value) (osl : Array (Option Value)),
    fdAt K f = PySem.W.fnOf x qual (defArgs st) (defBody st) (defScope st) .none kV doc pm an cdv ct ∧ K.lookup f = some ⟨oc, od, .func (fdAt K f), osl⟩ ∧ PySem.W.codeIn K cdv qual = true := by
  obtain ⟨fd, F⟩ := F
  exact (fun_hx F).ex
section
variable {C : Addr} {ps : List Str}
end
end
end Ev
set_option maxHeartbeats 4000000
namespace K02
open PySem PySem.Spec L2 Ev PyProof.Rows
def hdAt0 : List (Str × (PySem.W.Frag → Addr)) := [("is_among", fun K => He.ga K "is_among"),
  ("is_row", fun K => He.ga K "is_row"),
  ("all_standings", fun K => He.ga K "all_standings"),
  ("standings", fun K => He.ga K "standings"),
  ("is_standing", fun K => He.ga K "is_standing"),
  ("_law_begun", fun K => He.ga K "_law_begun"),
  ("_law_next", fun K => He.ga K "_law_next"),
  ("_law_names", fun K => He.ga K "_law_names"),
  ("_law_settings", fun K => He.ga K "_law_settings"),
  ("_law_odd", fun K => He.ga K "_law_odd"),
  ("_law_bent", fun K => He.ga K "_law_bent"),
  ("_law_standings", fun K => He.ga K "_law_standings"),
  ("law", fun K => He.ga K "law")]
def hdAt : List (Str × (PySem.W.Frag → Addr)) := hdAt0
theorem hdAt_nd : (hdAt.map (·.1)).Nodup := by decide +kernel
theorem facts (plain : ∀ ns : List Int, ns.length ≤ 63 → ∃ S1, bodyF 11 s_law [.d (.scr ns)] [] = .ok (.d (.bl true)) S1) {w : World} {K : PySem.W.Frag} {h : Heap} {mg : Str → Option Value} {fa : Addr} (X : K.In h) (G : h.Ns mainGlobals mg) (hfa : mg "law" = some (.ref fa))
    (c : SaysZ hdFacts hdDefs hdTabs hdEx_ hdXs hdXv h K) : LawAt0 PySem.Challenge.rw_midswitch_k02_standings_listed w K 15 63 "script" mg fa h := by
  have ef := hfa.symm.trans (He.glo_ok X G (c.d.fact 12 (f := .glo "law") rfl))
  have ef2 : fa = He.ga K "law" := by injection ef with ef; injection ef
  clear ef
  subst ef2
  let a : Str → Addr := aK hdAt K
  let d : Str → FuncData := fun s => fdAt K (aK hdAt K s)
  let F : Fx := { K := K, cls := ⟨fun n => ([] : List Addr).getD n 0, w⟩, fld := fun n => ([] : List Str).getD n "", T := [] }
  have T : Txt RwP w F mg a d := {
    hw := rfl
    f_is_among := by
      show Def K mg "is_among" st_is_among P_is_among (aK hdAt K "is_among") (fdAt K (aK hdAt K "is_among"))
      rw [aK_at hdAt_nd K 0 (s := "is_among") rfl]
      exact def_hx (c.d.def_ 0 rfl) X G (c.d.fact 0 (f := .glo "is_among") rfl) (fun _ _ _ _ _ _ us hl => match us, hl with | [_, _, _], _ => rfl)
    f_is_row := by
      show Def K mg "is_row" st_is_row P_is_row (aK hdAt K "is_row") (fdAt K (aK hdAt K "is_row"))
      rw [aK_at hdAt_nd K 1 (s := "is_row") rfl]
      exact def_hx (c.d.def_ 1 rfl) X G (c.d.fact 1 (f := .glo "is_row") rfl) (fun _ _ _ _ _ _ us hl => match us, hl with | [_, _], _ => rfl)
    f_all_standings := by
      show Def K mg "all_standings" st_all_standings P_all_standings (aK hdAt K "all_standings") (fdAt K (aK hdAt K "all_standings"))
      rw [aK_at hdAt_nd K 2 (s := "all_standings") rfl]
      exact def_hx (c.d.def_ 2 rfl) X G (c.d.fact 2 (f := .glo "all_standings") rfl) (fun _ _ _ _ _ _ us hl => match us, hl with | [_], _ => rfl)
    f_standings := by
      show Def K mg "standings" st_standings P_standings (aK hdAt K "standings") (fdAt K (aK hdAt K "standings"))
      rw [aK_at hdAt_nd K 3 (s := "standings") rfl]
      exact def_hx (c.d.def_ 3 rfl) X G (c.d.fact 3 (f := .glo "standings") rfl) (fun _ _ _ _ _ _ us hl => match us, hl with | [_], _ => rfl)
    f_is_standing := by
      show Def K mg "is_standing" st_is_standing P_is_standing (aK hdAt K "is_standing") (fdAt K (aK hdAt K "is_standing"))
      rw [aK_at hdAt_nd K 4 (s := "is_standing") rfl]
      exact def_hx (c.d.def_ 4 rfl) X G (c.d.fact 4 (f := .glo "is_standing") rfl) (fun _ _ _ _ _ _ us hl => match us, hl with | [_, _], _ => rfl)
    f__law_begun := by
      show Def K mg "_law_begun" st__law_begun P__law_begun (aK hdAt K "_law_begun") (fdAt K (aK hdAt K "_law_begun"))
      rw [aK_at hdAt_nd K 5 (s := "_law_begun") rfl]
      exact def_hx (c.d.def_ 5 rfl) X G (c.d.fact 5 (f := .glo "_law_begun") rfl) (fun _ _ _ _ _ _ us hl => match us, hl with | [_], _ => rfl)
    f__law_next := by
      show Def K mg "_law_next" st__law_next P__law_next (aK hdAt K "_law_next") (fdAt K (aK hdAt K "_law_next"))
      rw [aK_at hdAt_nd K 6 (s := "_law_next") rfl]
      exact def_hx (c.d.def_ 6 rfl) X G (c.d.fact 6 (f := .glo "_law_next") rfl) (fun _ _ _ _ _ _ us hl => match us, hl with | [_, _], _ => rfl)
    f__law_names := by
      show Def K mg "_law_names" st__law_names P__law_names (aK hdAt K "_law_names") (fdAt K (aK hdAt K "_law_names"))
      rw [aK_at hdAt_nd K 7 (s := "_law_names") rfl]
      exact def_hx (c.d.def_ 7 rfl) X G (c.d.fact 7 (f := .glo "_law_names") rfl) (fun _ _ _ _ _ _ us hl => match us, hl with | [_, _], _ => rfl)
    f__law_settings := by
      show Def K mg "_law_settings" st__law_settings P__law_settings (aK hdAt K "_law_settings") (fdAt K (aK hdAt K "_law_settings"))
      rw [aK_at hdAt_nd K 8 (s := "_law_settings") rfl]
      exact def_hx (c.d.def_ 8 rfl) X G (c.d.fact 8 (f := .glo "_law_settings") rfl) (fun _ _ _ _ _ _ us hl => match us, hl with | [_], _ => rfl)
    f__law_odd := by
      show Def K mg "_law_odd" st__law_odd P__law_odd (aK hdAt K "_law_odd") (fdAt K (aK hdAt K "_law_odd"))
      rw [aK_at hdAt_nd K 9 (s := "_law_odd") rfl]
      exact def_hx (c.d.def_ 9 rfl) X G (c.d.fact 9 (f := .glo "_law_odd") rfl) (fun _ _ _ _ _ _ us hl => match us, hl with | [_], _ => rfl)
    f__law_bent := by
      show Def K mg "_law_bent" st__law_bent P__law_bent (aK hdAt K "_law_bent") (fdAt K (aK hdAt K "_law_bent"))
      rw [aK_at hdAt_nd K 10 (s := "_law_bent") rfl]
      exact def_hx (c.d.def_ 10 rfl) X G (c.d.fact 10 (f := .glo "_law_bent") rfl) (fun _ _ _ _ _ _ us hl => match us, hl with | [_, _], _ => rfl)
    f__law_standings := by
      show Def K mg "_law_standings" st__law_standings P__law_standings (aK hdAt K "_law_standings") (fdAt K (aK hdAt K "_law_standings"))
      rw [aK_at hdAt_nd K 11 (s := "_law_standings") rfl]
      exact def_hx (c.d.def_ 11 rfl) X G (c.d.fact 11 (f := .glo "_law_standings") rfl) (fun _ _ _ _ _ _ us hl => match us, hl with | [_], _ => rfl)
    f_law := by
      show Def K mg "law" st_law P_law (aK hdAt K "law") (fdAt K (aK hdAt K "law"))
      rw [aK_at hdAt_nd K 12 (s := "law") rfl]
      exact def_hx (c.d.def_ 12 rfl) X G (c.d.fact 12 (f := .glo "law") rfl) (fun _ _ _ _ _ _ us hl => match us, hl with | [_], _ => rfl)
    n_all := He.free_ok X G (c.d.fact 13 (f := .free "all") rfl)
    n_bool := He.free_ok X G (c.d.fact 14 (f := .free "bool") rfl)
    n_int := He.free_ok X G (c.d.fact 15 (f := .free "int") rfl)
    n_isinstance := He.free_ok X G (c.d.fact 16 (f := .free "isinstance") rfl)
    n_len := He.free_ok X G (c.d.fact 17 (f := .free "len") rfl)
    n_list := He.free_ok X G (c.d.fact 18 (f := .free "list") rfl)
    n_min := He.free_ok X G (c.d.fact 19 (f := .free "min") rfl)
    n_range := He.free_ok X G (c.d.fact 20 (f := .free "range") rfl)
    n_repr := He.free_ok X G (c.d.fact 21 (f := .free "repr") rfl)
    n_str := He.free_ok X G (c.d.fact 22 (f := .free "str") rfl)
    n_tuple := He.free_ok X G (c.d.fact 23 (f := .free "tuple") rfl)
    n_zip := He.free_ok X G (c.d.fact 24 (f := .free "zip") rfl) }
  refine ⟨d "law", spF F 1 (bodyF 11 s_law), ?_, fun H a ns hl st => ?_, fun base kb gb sb => ?_⟩
  · have e := fun_hx_eq (K := K) (x := "law") (qual := "law") (st := st_law) (f := He.ga K "law") (c.d.def_ 12 rfl)
    obtain ⟨oc, od, kV, doc, pm, an, cdv, ct, osl, e, _, _⟩ := e
    show ∀ (s : Shared) (u : Value), BindsTo s (fdAt K (aK hdAt K "law")) ⟨[u], []⟩ [("script", u)]
    rw [aK_at hdAt_nd K 12 (s := "law") rfl]
    rw [show fdAt K (He.ga K "law") = _ from e]
    exact fun s u => .of_eq rfl
  · obtain ⟨rs, rd⟩ := start0_rel (F := F) rfl st
    obtain ⟨S', e⟩ := plain ns hl
    refine ⟨rfl, [], [], [], [.d (.scr ns)], rs, .cons rd .nil, ?_⟩
    rw [e]
    intro ι' H' v x rs' rv
    cases rv
    rfl
  · have q := ok_law (w := w) (base := base) T {
      hxa := rfl
      h0 := rfl
      hsys := sb }
    have q : FnG true RwP w K mg base 15 (aK hdAt K "law") (d "law") P_law (spF F 1 (bodyF 11 s_law)) := q
    rw [aK_at hdAt_nd K 12 (s := "law") rfl] at q
    exact q
end K02
open PySem PySem.W PySem.Calls PyProof.Rows
set_option maxHeartbeats 0 in
theorem PySem.Challenge.cw_midswitch_k02_standings_listed_holds : PySem.Challenge.rw_midswitch_k02_standings_listed.Holds := by
  w_on; o_law
  refine HandSHeadRun.head_any (r := OpenLaw.row PySem.Challenge.rw_midswitch_k02_standings_listed) (q := K02.RwV) (H := K02.hdHook) (ob := K02.hdOb) (M := 20000) (loose := K02.hdLoose) (d := HandSHeadRun.topDef (OpenLaw.row PySem.Challenge.rw_midswitch_k02_standings_listed).prog 16) (kwd := []) K02.hdOb_eq
    (by kernel_rfl) (fun s => by kernel_rfl) K02.hdRun (by kernel_rfl) (by kernel_rfl) (by kernel_rfl) (by rfl) (by first | assumption | decide +kernel) (by decide +kernel) ⟨rfl, rfl, rfl, rfl, rfl, by decide +kernel⟩ ?hw ?hc
  case hw => w_witness2
  case hc =>
    refine Ev.walk_0X (l := PySem.Challenge.rw_midswitch_k02_standings_listed) (n := 63) (k := 15) (x := "script") (by decide +kernel) rfl (by decide) (by kernel_rfl) ⟨rfl, by decide, by decide⟩ ?F
    intro w mg fa h Y G hmg0
    obtain ⟨K, KX, c⟩ := Y
    have hmg : mg ("law" : PySem.Str) = some (.ref fa) := by
      have e : (HandSHeadRun.topDef (OpenLaw.row PySem.Challenge.rw_midswitch_k02_standings_listed).prog 16).name = ("law":PySem.Str):=by kernel_rfl
      rw [← e]
      exact hmg0
    exact ⟨K,KX,K02.facts K02.plain KX G hmg c⟩
