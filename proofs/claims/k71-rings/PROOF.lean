import PyProof.Rows.All
import Wide.All
import OpenK.AllK
import Wide.FinOn
import KE.KStateDown
import HandS.Base
import HandS.Call
import HandS.Words
import HandS.Head0
import HandS.Head1
import HandS.Head2
import HandS.HeadEnd
import HandS.HeadHook1
import HandS.HeadHook2
import HandS.HeadHook3
import HandS.ForMost
import HandS.ForExc
import HandS.Lambda
import HandS.ExcInit
import HandS.TupAny
import HandS.Style
import HandS.Deep
import HandS.Flow
import HandS.SortInts
import HandS.CallSlots
import HandS.ExcOwn
import HandS.ExcField
import HandS.TryMany
import HandS.ExcCtx
import HandS.SuiteRaise
import HandS.RaiseFrom
import HandS.WordsExc
import HandS.IsInst
import KE.KOpsOwn
import HandS.ExcIs
import HandS.Conv
import HandS.Strs
import HandS.NoneIn
import HandS.OwnEq
import HandS.RaiseMore
import PyProof.StrOps2
import PyProof.InstNe
import HandS.More
import HandS.Defaults
import KE.KDictPairs
import PyProof.Rows.StrMeet
import HandS.IterVal
import HandS.DictComp
import PyProof.FactsAll.dict_keyiterator_1
import HandS.DictEq
import KE.DataMinMax
import PyProof.ListMulRight
import HandS.Iter
import HandS.FStr
import HandS.Star
import KE.SortKeyHeap
import HandS.SortKw
import HandS.HeadWalk
import HandS.Set
import HandS.Zip
import KE.SortData
import KE.DataCmp
import KE.KExcIs
import HandS.Zip0
import HandS.Wide
import HandS.ClsMeth
import HandS.TupSets
import PySem.Challenge.RW_fullseats_k71_rings_of_logs
set_option Elab.async false
set_option linter.all false
set_option maxRecDepth 100000
set_option maxHeartbeats 4000000
namespace L71
open PySem PySem.W PySem.Calls PyProof.Rows HandSHeadRun
set_option maxHeartbeats 0 in
theorem e_0 : ((PySem.W.OpenLaw.row PySem.Challenge.rw_fullseats_k71_rings_of_logs).wellSaid = true → (PySem.W.OpenLaw.row PySem.Challenge.rw_fullseats_k71_rings_of_logs).Holds) → PySem.Challenge.rw_fullseats_k71_rings_of_logs.Holds := by intro h; w_on; o_law; exact h (by assumption)
set_option maxHeartbeats 0 in
theorem e_8 : (PySem.W.OpenLaw.row PySem.Challenge.rw_fullseats_k71_rings_of_logs).prog.bare := ⟨rfl,rfl,rfl,rfl,rfl,by decide +kernel⟩
set_option maxHeartbeats 0 in
theorem e_1 : opening (OpenLaw.row PySem.Challenge.rw_fullseats_k71_rings_of_logs).prog = plainProg (OpenLaw.row PySem.Challenge.rw_fullseats_k71_rings_of_logs).prog.main.scope.names := by kernel_rfl
set_option maxHeartbeats 0 in
theorem e_2 : ∀ s : Shared, fenceModules? (OpenLaw.row PySem.Challenge.rw_fullseats_k71_rings_of_logs).prog s = some s := fun s => by kernel_rfl
set_option maxHeartbeats 0 in
theorem e_3 : defOf (view (OpenLaw.row PySem.Challenge.rw_fullseats_k71_rings_of_logs).prog [23]) (OpenLaw.row PySem.Challenge.rw_fullseats_k71_rings_of_logs).name = some ((HandSHeadRun.topDef (OpenLaw.row PySem.Challenge.rw_fullseats_k71_rings_of_logs).prog 23), []) := by kernel_rfl
set_option maxHeartbeats 0 in
theorem e_4 : (OpenLaw.row PySem.Challenge.rw_fullseats_k71_rings_of_logs).prog.theDef (OpenLaw.row PySem.Challenge.rw_fullseats_k71_rings_of_logs).name = some ((HandSHeadRun.topDef (OpenLaw.row PySem.Challenge.rw_fullseats_k71_rings_of_logs).prog 23).params, (HandSHeadRun.topDef (OpenLaw.row PySem.Challenge.rw_fullseats_k71_rings_of_logs).prog 23).body, (HandSHeadRun.topDef (OpenLaw.row PySem.Challenge.rw_fullseats_k71_rings_of_logs).prog 23).scope) := by kernel_rfl
set_option maxHeartbeats 0 in
theorem e_5 : kwWritten? (HandSHeadRun.topDef (OpenLaw.row PySem.Challenge.rw_fullseats_k71_rings_of_logs).prog 23).params.kwonlyargs (HandSHeadRun.topDef (OpenLaw.row PySem.Challenge.rw_fullseats_k71_rings_of_logs).prog 23).params.kw_defaults = some [] := by kernel_rfl
set_option maxHeartbeats 0 in
theorem e_6 : (chainsOk (view (OpenLaw.row PySem.Challenge.rw_fullseats_k71_rings_of_logs).prog [23]) && opensWell (OpenLaw.row PySem.Challenge.rw_fullseats_k71_rings_of_logs).prog && (frees (OpenLaw.row PySem.Challenge.rw_fullseats_k71_rings_of_logs).toRowW && (OpenLaw.row PySem.Challenge.rw_fullseats_k71_rings_of_logs).within.isEmpty)) = true := by decide +kernel
set_option maxHeartbeats 0 in
theorem e_7 : (OpenLaw.row PySem.Challenge.rw_fullseats_k71_rings_of_logs).toRowW.promised := by w_witness2
end L71
namespace DL
open PySem L2
abbrev Ck:Type:=PySem.W.Frag→Bool
inductive Pl where
 | gl (x:Str) | me (c m:Str) | st (c m:Str)
def stP (K:PySem.W.Frag) (c m:Str):Addr:=match PySem.W.findCls K (.ref (He.ga K c)) (.type "type") m with
 | some (.get _ (.ref p) _ _)=>p
 | _=>0
def stF (K:PySem.W.Frag) (c m:Str):Addr:=match PySem.W.recIn K (stP K c m) "staticmethod" with
 | some (.ref f :: _)=>f
 | _=>0
def Pl.ad (K:PySem.W.Frag):Pl→Addr
 | .gl x=>He.ga K x
 | .me c m=>He.ma K (He.ga K c) m
 | .st c m=>stF K c m
structure Dd where
 pl:Pl
 name:Str
 qual:Str
 st:Stmt
def fnO (K:PySem.W.Frag) (a:Addr):He.FnW:=match K.lookup a with
 | some ⟨_,_,.func fd,_⟩=>some (fd.name,fd.qualname,fd.params,fd.body,fd.scope,fd.globals,fd.closure,fd.builtins)
 | _=>none
def Dd.val (d:Dd):He.FnW:=some (d.name,d.qual,defArgs d.st,.stmts (defBody d.st),defScope d.st,mainGlobals,[],builtinsNs)
def isNon:Value→Bool
 | .none=>true
 | _=>false
def Dd.ok (K:PySem.W.Frag) (d:Dd):Bool:=PySem.W.keepIn K (.ref (d.pl.ad K)) && (match K.lookup (d.pl.ad K) with
 | some ⟨_,_,.func fd,_⟩=>PySem.W.codeIn K fd.code d.qual && isNon fd.defaults
 | _=>false)
def refsC (o:Obj):List Addr:=match o.data with
 | .seq its _=>its.toList.flatMap He.refV
 | .dict es _=>es.toList.flatMap fun e=>He.refV e.val
 | .func fd=>He.refV fd.code ++ He.refV fd.defaults
 | .cls cd=>cd.ns :: cd.mro.flatMap He.refV
 | .fields vs=>match o.cls with
  | .type t=>if t = "staticmethod" then vs.toList.flatMap He.refV else []
  | _=>[]
 | _=>[]
def freshA (seen:List Addr):List Addr→List Addr→List Addr
 | [],acc=>acc.reverse
 | a :: r,acc=>if seen.contains a || acc.contains a then freshA seen r acc else freshA seen r (a :: acc)
def growC (g:Addr→Option Obj):Nat→List Addr→List Addr→List Addr
 | 0,seen,_=>seen
 | n + 1,seen,new=>match freshA seen (new.flatMap fun a=>match g a with
   | some o=>refsC o
   | none=>[]) [] with
  | l=>growC g n (seen ++ l) l
def asC (g:Addr→Option Obj) (n:Nat):List Addr:=cStatics :: growC g n [mainGlobals] [mainGlobals]
abbrev Ob:Type:=Bool × List He.FnW × List He.FnW
def obsF (cs:List (List Ck)) (ds:List Dd) (es:List He.DefD) (K:PySem.W.Frag):Ob:=((cs.all fun l=>l.all fun c=>c K) && ((ds.all fun d=>d.ok K) && es.all fun d=>d.ok K),ds.map fun d=>fnO K (d.pl.ad K),es.map fun d=>He.fnW K d.at_)
def valF (ds:List Dd) (es:List He.DefD):Ob:=(true,ds.map Dd.val,es.map He.DefD.val)
def SaysF (cs:List (List Ck)) (ds:List Dd) (es:List He.DefD) (K:PySem.W.Frag):Prop:=obsF cs ds es K=valF ds es
def hookF (n:Nat) (cs:List (List Ck)) (ds:List Dd) (es:List He.DefD):PySem.W.Hook where
 α:=Ob
 obs:=fun s=>obsF cs ds es (He.frG s.heap.get? (asC s.heap.get? n))
 val:=fun _=>valF ds es
 says:=fun _ h=>∃ K:PySem.W.Frag,K.In h ∧ SaysF cs ds es K
 of:=fun _ _ e=>⟨_,He.frG_in,e⟩
 keeps:=fun _ _ _ ⟨K,hK,c⟩ k=>⟨K,PySem.W.Frag.In.keeps hK k,c⟩
def obF (n:Nat) (cs:List (List Ck)) (ds:List Dd) (es:List He.DefD) (s:PySem.W.SharedT):Ob:=obsF cs ds es (He.frG (HandSHeadRun.getT s) (asC (HandSHeadRun.getT s) n))
def ckSeI (c:Str):Ck:=fun K=>match PySem.W.findCls K (.ref (He.ga K c)) (.type "type") "__init__" with
 | some (.val (.builtin z))=>decide (z = "ValueError.__init__")
 | _=>false
def ckX (c:Str):Ck:=fun K=>match K.lookup (He.ga K c) with
 | some ⟨.type t,_,.cls ⟨_,_,.ref z :: bm,_,_,hd,_,_,_,_,del⟩,⟨[_,_,_,_,some (.builtin nw),_]⟩⟩=>decide (t = "type") && (decide (z=He.ga K c) && (PySem.HandSPX.refsVE bm && (hd && (!del && decide (nw = "ValueError.__new__")))))
 | _=>false
end DL
namespace DL
open PySem L2
end DL
namespace DL
open PySem L2
def tabK (K:PySem.W.Frag) (cd:Value):Option Addr:=match cd with
 | .ref c=>match K.lookup c with
  | some ⟨_,_,.fields vs,_⟩=>match vs[11]? with
   | some (Value.ref P)=>some P
   | _=>none
  | _=>none
 | _=>none
end DL
namespace L71
open PySem L2 DL
def top (i:Nat):Stmt:=PySem.Challenge.pw_fullseats_k71_rings_of_logs.main.body.getD i (.Pass ⟨0,0,0,0⟩)
abbrev s_x_NoJoin:Stmt:=inClass (top 4) 0
abbrev s_x_NoMeeting:Stmt:=inClass (top 3) 0
abbrev s_zH:Stmt:=top 6
abbrev s_zR:Stmt:=top 7
abbrev s_zD:Stmt:=inClass (top 8) 0
abbrev s_zI:Stmt:=inClass (top 8) 2
abbrev s_zA:Stmt:=inClass (top 8) 4
abbrev s_zL:Stmt:=top 9
abbrev s_zB:Stmt:=top 10
abbrev s_zE:Stmt:=top 11
abbrev s_zO:Stmt:=top 12
abbrev s_zQ:Stmt:=top 13
abbrev s_zF:Stmt:=top 15
abbrev s_zJ:Stmt:=top 16
abbrev s_zP:Stmt:=top 17
abbrev s_zC:Stmt:=top 18
abbrev s_zG:Stmt:=top 19
abbrev s_zK:Stmt:=top 20
abbrev s_zM:Stmt:=top 21
abbrev s_zN:Stmt:=top 22
abbrev s_law:Stmt:=top 23
def cks_0:List Ck:=[
 fun K=>decide (PySem.W.nsIn K mainGlobals "Run" = some (some (.ref (He.ga K "Run")))),
 fun K=>PySem.W.plainGet K (He.ga K "Run") Str.empty,
 fun K=>PySem.W.hasDictIn K (He.ga K "Run"),
 fun K=>PySem.W.plainOver K (He.ga K "Run"),
 fun K=>decide (PySem.W.findIn K (.ref (He.ga K "Run")) "__setattr__" = some (some (.builtin "object.__setattr__"))),
 fun K=>PySem.W.makesIn K (He.ga K "Run"),
 fun K=>PySem.W.keepIn K (.ref (He.ga K "Run")),
 fun K=>decide (PySem.W.findIn K (.ref (He.ga K "Run")) "rows" = some none),
 fun K=>decide (PySem.W.nsIn K mainGlobals "abs" = some none),
 fun K=>decide (PySem.W.nsIn K mainGlobals "any" = some none),
 fun K=>decide (PySem.W.nsIn K mainGlobals "enumerate" = some none),
 fun K=>decide (PySem.W.nsIn K mainGlobals "int" = some none),
 fun K=>decide (PySem.W.nsIn K mainGlobals "len" = some none),
 fun K=>decide (PySem.W.nsIn K mainGlobals "list" = some none),
 fun K=>decide (PySem.W.nsIn K mainGlobals "min" = some none),
 fun K=>decide (PySem.W.nsIn K mainGlobals "range" = some none),
 fun K=>decide (PySem.W.nsIn K mainGlobals "set" = some none),
 fun K=>decide (PySem.W.nsIn K mainGlobals "tuple" = some none),
 fun K=>decide (PySem.W.nsIn K mainGlobals "machines_of" = some (some (.ref (He.ga K "machines_of")))),
 fun K=>decide (PySem.W.nsIn K mainGlobals "times" = some (some (.ref (He.ga K "times")))),
 fun K=>decide (PySem.W.findIn K (.ref (He.ga K "Run")) "__init__" = some (some (.ref (He.ma K (He.ga K "Run") "__init__")))),
 fun K=>PySem.W.isFn K (.ref (He.ma K (He.ga K "Run") "__init__")),
 fun K=>decide (PySem.W.findIn K (.ref (He.ga K "Run")) "__len__" = some (some (.ref (He.ma K (He.ga K "Run") "__len__")))),
 fun K=>PySem.W.isFn K (.ref (He.ma K (He.ga K "Run") "__len__")),
 fun K=>decide (PySem.W.findIn K (.ref (He.ga K "Run")) "__getitem__" = some (some (.ref (He.ma K (He.ga K "Run") "__getitem__")))),
 fun K=>PySem.W.isFn K (.ref (He.ma K (He.ga K "Run") "__getitem__")),
 fun K=>decide (PySem.W.nsIn K mainGlobals "check_log" = some (some (.ref (He.ga K "check_log")))),
 fun K=>decide (PySem.W.nsIn K mainGlobals "check_meeting" = some (some (.ref (He.ga K "check_meeting")))),
 fun K=>decide (PySem.W.nsIn K mainGlobals "all_meetings" = some (some (.ref (He.ga K "all_meetings")))),
 fun K=>decide (PySem.W.nsIn K mainGlobals "is_ready" = some (some (.ref (He.ga K "is_ready"))))]
def cks_1:List Ck:=[
 fun K=>decide (PySem.W.nsIn K mainGlobals "joined" = some (some (.ref (He.ga K "joined")))),
 fun K=>decide (PySem.W.nsIn K mainGlobals "_law_cell_at" = some (some (.ref (He.ga K "_law_cell_at")))),
 fun K=>decide (PySem.W.nsIn K mainGlobals "_law_mixed" = some (some (.ref (He.ga K "_law_mixed")))),
 fun K=>decide (PySem.W.nsIn K mainGlobals "_law_row" = some (some (.ref (He.ga K "_law_row")))),
 fun K=>decide (PySem.W.nsIn K mainGlobals "_law_machines" = some (some (.ref (He.ga K "_law_machines")))),
 fun K=>decide (PySem.W.nsIn K mainGlobals "_law_meeting" = some (some (.ref (He.ga K "_law_meeting")))),
 fun K=>decide (PySem.W.nsIn K mainGlobals "_law_links" = some (some (.ref (He.ga K "_law_links")))),
 fun K=>decide (PySem.W.nsIn K mainGlobals "_law_logs" = some (some (.ref (He.ga K "_law_logs")))),
 fun K=>decide (PySem.W.nsIn K mainGlobals "_law_join" = some (some (.ref (He.ga K "_law_join")))),
 fun K=>decide (PySem.W.nsIn K mainGlobals "law" = some (some (.ref (He.ga K "law")))),
 fun K=>decide (PySem.W.nsIn K mainGlobals "NoJoin" = some (some (.ref (He.ga K "NoJoin")))),
 fun K=>decide (PySem.W.nsIn K mainGlobals "NoMeeting" = some (some (.ref (He.ga K "NoMeeting")))),
 fun K=>decide (PySem.W.nsIn K mainGlobals "SeatsError" = some (some (.ref (He.ga K "SeatsError")))),
 fun K=>PySem.W.readsIn K (He.ga K "SeatsError") (.type "type"),
 fun K=>decide (PySem.W.specialIn K (.ref (He.ga K "SeatsError")) "__getattribute__" = some (some (.builtin "type.__getattribute__"))),
 ckSeI "SeatsError",
 fun K=>decide (PySem.W.subIn K (.ref (He.ga K "NoJoin")) (.type "BaseException")=some true),
 fun K=>PySem.W.hasDictIn K (He.ga K "NoJoin"),
 fun K=>decide (PySem.W.typeIn K (.ref (He.ga K "NoJoin"))=some (.type "type")),
 fun K=>decide (PySem.W.subIn K (.ref (He.ga K "NoJoin")) (.ref (He.ga K "NoJoin"))=some true),
 fun K=>decide (PySem.W.subIn K (.ref (He.ga K "NoMeeting")) (.ref (He.ga K "NoJoin"))=some false),
 fun K=>decide (PySem.W.findIn K (.ref (He.ga K "NoJoin")) "__setattr__" = some (some (.builtin "object.__setattr__"))),
 fun K=>decide (PySem.W.subIn K (.ref (He.ga K "NoJoin")) (.type "BaseException")=some true),
 fun K=>decide (PySem.W.typeIn K (.ref (He.ga K "NoJoin"))=some (.type "type")),
 fun K=>PySem.W.keepIn K (.ref (He.ga K "NoJoin")),
 fun K=>decide (PySem.W.findIn K (.ref (He.ga K "NoJoin")) "__init__" = some (some (.ref (He.ma K (He.ga K "NoJoin") "__init__")))),
 fun K=>decide (PySem.W.typeIn K (.ref (He.ma K (He.ga K "NoJoin") "__init__"))=some (.type "function")),
 fun K=>decide (PySem.W.findIn K (.ref (He.ga K "NoMeeting")) "__setattr__" = some (some (.builtin "object.__setattr__"))),
 fun K=>decide (PySem.W.subIn K (.ref (He.ga K "NoMeeting")) (.type "BaseException")=some true),
 fun K=>decide (PySem.W.typeIn K (.ref (He.ga K "NoMeeting"))=some (.type "type"))]
def cks_2:List Ck:=[
 fun K=>PySem.W.keepIn K (.ref (He.ga K "NoMeeting")),
 fun K=>decide (PySem.W.findIn K (.ref (He.ga K "NoMeeting")) "place" = some none),
 fun K=>decide (PySem.W.findIn K (.ref (He.ga K "NoMeeting")) "__init__" = some (some (.ref (He.ma K (He.ga K "NoMeeting") "__init__")))),
 fun K=>decide (PySem.W.typeIn K (.ref (He.ma K (He.ga K "NoMeeting") "__init__"))=some (.type "function")),
 ckX "NoJoin",
 ckX "NoMeeting"]
def cks:List (List Ck):=[cks_0,cks_1,cks_2]
def dds:List Dd:=[
 ⟨.gl "machines_of", "machines_of", "machines_of", s_zH⟩,
 ⟨.gl "times", "times", "times", s_zR⟩,
 ⟨.me "Run" "__init__", "__init__", "Run.__init__", s_zD⟩,
 ⟨.me "Run" "__len__", "__len__", "Run.__len__", s_zI⟩,
 ⟨.me "Run" "__getitem__", "__getitem__", "Run.__getitem__", s_zA⟩,
 ⟨.gl "check_log", "check_log", "check_log", s_zL⟩,
 ⟨.gl "check_meeting", "check_meeting", "check_meeting", s_zB⟩,
 ⟨.gl "all_meetings", "all_meetings", "all_meetings", s_zE⟩,
 ⟨.gl "is_ready", "is_ready", "is_ready", s_zO⟩,
 ⟨.gl "joined", "joined", "joined", s_zQ⟩,
 ⟨.gl "_law_cell_at", "_law_cell_at", "_law_cell_at", s_zF⟩,
 ⟨.gl "_law_mixed", "_law_mixed", "_law_mixed", s_zJ⟩,
 ⟨.gl "_law_row", "_law_row", "_law_row", s_zP⟩,
 ⟨.gl "_law_machines", "_law_machines", "_law_machines", s_zC⟩,
 ⟨.gl "_law_meeting", "_law_meeting", "_law_meeting", s_zG⟩,
 ⟨.gl "_law_links", "_law_links", "_law_links", s_zK⟩,
 ⟨.gl "_law_logs", "_law_logs", "_law_logs", s_zM⟩,
 ⟨.gl "_law_join", "_law_join", "_law_join", s_zN⟩,
 ⟨.gl "law", "law", "law", s_law⟩,
 ⟨.me "NoJoin" "__init__", "__init__", "NoJoin.__init__", s_x_NoJoin⟩,
 ⟨.me "NoMeeting" "__init__", "__init__", "NoMeeting.__init__", s_x_NoMeeting⟩]
def ees:List He.DefD:=[]
def lns_0:List Str:=["_wall", "SeatsError", "NoMeeting", "NoJoin", "machines_of", "times", "Run", "check_log", "check_meeting", "all_meetings", "is_ready", "joined", "_law_cell_at", "_law_mixed", "_law_row", "_law_machines", "_law_meeting", "_law_links", "_law_logs", "_law_join"]
def lns:List Str:=lns_0
abbrev RR:PySem.W.OpenRow:=PySem.W.OpenLaw.row PySem.Challenge.rw_fullseats_k71_rings_of_logs
abbrev hk:PySem.W.Hook:=hookF 6 cks dds ees
end L71
namespace L71
open PySem PySem.W PySem.Calls PyProof.Rows DL
set_option maxHeartbeats 0 in
theorem run (w:World):HandSHeadRun.RunEq RR (PySem.W.view RR.prog [23]) hk (obF 6 cks dds ees) 20000 lns w:=by
 intro os
 kernel_rfl
end L71
namespace DL
open PySem L2
inductive D where
 | non | bl (b:Bool) | int (i:Int) | str (x:Str)
 | tup (xs:List D) | lst (xs:List D)
 | dic (kvs:List (Key × D))
 | obj (c:Str) (fs:List (Str × D))
 | oid (k:Nat)
 | scr (ns:List Int)
 | exc (c:Str) (fs:List (Str × D))
inductive Cell where
 | dead
 | lst (xs:List D) | dic (kvs:List (Key × D)) | obj (c:Str) (fs:List (Str × D))
 | ldc (kvs:List (Key × D))
 | tbl (nm:Str)
structure Exc where
 c:Str
 fs:List (Str × D)
structure G where
 K:PySem.W.Frag
 mg:Str→Option Value
abbrev Ad:=List (Option Addr)
def Liv (A:Ad) (a:Addr):Prop:=some a ∈ A
theorem Liv.ix {A:Ad} {a:Addr} (h:Liv A a):∃ k:Nat,A[k]?=some (some a):=by
 obtain ⟨k,hk,e⟩:=List.getElem_of_mem h
 exact ⟨k,by rw [List.getElem?_eq_getElem hk,e]⟩
theorem Liv.of {A:Ad} {a:Addr} {k:Nat} (h:A[k]?=some (some a)):Liv A a:=List.mem_of_getElem? h
def KT (K:PySem.W.Frag) (a:Addr) (xs:List V):Prop :=
 ∃ (o:Obj) (its:Array Value) (n:Nat),K.lookup a=some o ∧ o.cls=.type "tuple" ∧ o.data=.seq its n ∧ its.size ≤ sizeLine ∧ Vals xs its.toList
def KL (K:PySem.W.Frag) (a:Addr) (xs:List V):Prop :=
 ∃ (o:Obj) (its:Array Value) (n:Nat),K.lookup a=some o ∧ o.cls=.type "list" ∧ o.dict=none ∧ o.data=.seq its n ∧ its.size ≤ sizeLine ∧ Vals xs its.toList
mutual
inductive Dp (g:G) (A:Ad) (B:Addr→Prop) (H:Hp):V→D→Prop
 | non:Dp g A B H .non .non
 | bl (b:Bool):Dp g A B H (.bl b) (.bl b)
 | int (i:Int):Dp g A B H (.int i) (.int i)
 | str (x:Str):Dp g A B H (.str x) (.str x)
 | tup {a:Addr} {vs:List V} {ds:List D}:¬ B a→H a=some (.tup vs)→DpL g A B H vs ds→Dp g A B H (.ref a) (.tup ds)
 | tupK {a:Addr} {vs:List V} {ds:List D}:KT g.K a vs→DpL g A B H vs ds→Dp g A B H (.ref a) (.tup ds)
 | lst {a:Addr} {vs:List V} {ds:List D}:¬ B a→H a=some (.lst vs)→DpL g A B H vs ds→Dp g A B H (.ref a) (.lst ds)
 | dic {a:Addr} {vs:List (Key × V)} {ds:List (Key × D)}:¬ B a→Rd H a (.dK vs)→DpK g A B H vs ds→Dp g A B H (.ref a) (.dic ds)
 | obj {a C dx:Addr} {c:Str} {vs:List (Str × V)} {fs:List (Str × D)}:¬ B a→H a=some (.ins C dx vs)→g.mg c=some (.ref C)→DpF g A B H vs fs→Dp g A B H (.ref a) (.obj c fs)
 | oid {a:Addr} {k:Nat}:A[k]?=some (some a)→Dp g A B H (.ref a) (.oid k)
 | ded {v:V} {k:Nat}:A[k]?=some none→Dp g A B H v (.oid k)
 | scr {a:Addr} {ns:List Int}:¬ B a→Rd H a (.lst (ns.map V.int))→Dp g A B H (.ref a) (.scr ns)
 | scrK {a:Addr} {ns:List Int}:KL g.K a (ns.map V.int)→Dp g A B H (.ref a) (.scr ns)
 | exc {a C dx:Addr} {c:Str} {vs:List (Str × V)} {fs:List (Str × D)}:¬ B a→H a=some (exo a C (some dx))→¬ B dx→H dx=some (exd dx vs)→g.mg c=some (.ref C)→DpF g A B H vs fs→Dp g A B H (.ref a) (.exc c fs)
 | exc0 {a C:Addr} {c:Str}:¬ B a→H a=some (exo a C none)→g.mg c=some (.ref C)→Dp g A B H (.ref a) (.exc c [])
inductive DpL (g:G) (A:Ad) (B:Addr→Prop) (H:Hp):List V→List D→Prop
 | nil:DpL g A B H [] []
 | cons {v:V} {vs:List V} {d:D} {ds:List D}:Dp g A B H v d→DpL g A B H vs ds→DpL g A B H (v :: vs) (d :: ds)
inductive DpK (g:G) (A:Ad) (B:Addr→Prop) (H:Hp):List (Key × V)→List (Key × D)→Prop
 | nil:DpK g A B H [] []
 | cons {k:Key} {v:V} {vs:List (Key × V)} {d:D} {ds:List (Key × D)}:Dp g A B H v d→DpK g A B H vs ds→DpK g A B H ((k,v) :: vs) ((k,d) :: ds)
inductive DpF (g:G) (A:Ad) (B:Addr→Prop) (H:Hp):List (Str × V)→List (Str × D)→Prop
 | nil:DpF g A B H [] []
 | cons {k:Str} {v:V} {vs:List (Str × V)} {d:D} {ds:List (Str × D)}:Dp g A B H v d→DpF g A B H vs ds→DpF g A B H ((k,v) :: vs) ((k,d) :: ds)
end
structure Stp (A:Ad) (B:Addr→Prop) (H:Hp) (A':Ad) (B':Addr→Prop) (H':Hp):Prop where
 keep:∀ a o,H a=some o→¬ Liv A a→H' a=some o
 old:∀ a o,H a=some o→¬ Liv A a→(B' a ↔ B a)
 new:∀ a,Liv A' a→Liv A a ∨ H a=none
 ids:∀ (k:Nat) (x:Option Addr),A[k]?=some x→A'[k]?=some x ∨ A'[k]?=some none
 trk:∀ a o,H a=some o→∃ o',H' a=some o'
 frz:∀ a o u,H a=some (.frz o u)→H' a=some (.frz o u)
theorem Stp.refl (A:Ad) (B:Addr→Prop) (H:Hp):Stp A B H A B H:=⟨fun _ _ h _=>h,fun _ _ _ _=>Iff.rfl,fun _ h=>.inl h,fun _ _ h=>.inl h,fun _ o h=>⟨o,h⟩,fun _ _ _ h=>h⟩
theorem frz_upd {H:Hp} {p:Addr} {x:HO} (hp:∀ o u,H p ≠ some (.frz o u)) (a:Addr) (o:Obj) (u:HO) (h:H a=some (.frz o u)):upd H p x a=some (.frz o u):=by
 rw [upd_ne (fun z=>hp o u (by rw [← z]; exact h))]; exact h
theorem frz_none {H:Hp} {p:Addr} (hp:H p=none):∀ o u,H p ≠ some (.frz o u):=fun o u e=>by rw [hp] at e; cases e
theorem frz_not {H:Hp} {a:Addr} {w:HO} (h:H a=some w) (nf:∀ o u,w ≠ .frz o u:=by intro _ _ z; cases z):∀ o u,H a ≠ some (.frz o u):=fun o u e=>nf o u (by rw [h] at e; exact Option.some.inj e)
theorem Stp.trans {A A1 A2:Ad} {B B1 B2:Addr→Prop} {H H1 H2:Hp} (s:Stp A B H A1 B1 H1) (t:Stp A1 B1 H1 A2 B2 H2):Stp A B H A2 B2 H2:=by
 have nl:∀ a o,H a=some o→¬ Liv A a→¬ Liv A1 a:=fun a o h n z=>by
  rcases s.new a z with z | z
  · exact n z
  · rw [z] at h; cases h
 refine ⟨fun a o h n=>t.keep a o (s.keep a o h n) (nl a o h n),fun a o h n=>(t.old a o (s.keep a o h n) (nl a o h n)).trans (s.old a o h n),fun a z=>?_,fun k x h=>?_,fun a o h=>?_,fun a o u h=>t.frz a o u (s.frz a o u h)⟩
 · rcases t.new a z with z | z
   · exact s.new a z
   · cases q:H a with
     | none=>exact .inr rfl
     | some o =>
      by_cases n:Liv A a
      · exact .inl n
      · have:=s.keep a o q n
        rw [z] at this; cases this
 · rcases s.ids k x h with e | e
   · exact t.ids k x e
   · rcases t.ids k none e with e | e
     · exact .inr e
     · exact .inr e
 · obtain ⟨o',e⟩:=s.trk a o h
   exact t.trk a o' e
theorem Rd.up {H H':Hp} {a:Addr} {u:HO} (h:Rd H a u) (k:∀ o,H a=some o→H' a=some o):Rd H' a u:=by
 rcases h with h | ⟨o,h⟩
 · exact .inl (k _ h)
 · exact .inr ⟨o,k _ h⟩
theorem Rd.some {H:Hp} {a:Addr} {u:HO} (h:Rd H a u):∃ o,H a=some o:=by
 rcases h with h | ⟨o,h⟩
 · exact ⟨_,h⟩
 · exact ⟨_,h⟩
section
variable {g:G} {A A':Ad} {B B':Addr→Prop} {H H':Hp}
structure Mv (A:Ad) (B:Addr→Prop) (H:Hp) (A':Ad) (B':Addr→Prop) (H':Hp):Prop where
 cell:∀ a o,¬ B a→H a=some o→H' a=some o ∧ ¬ B' a
 ids:∀ (k:Nat) (x:Option Addr),A[k]?=some x→A'[k]?=some x ∨ A'[k]?=some none
 frz:∀ a o u,H a=some (.frz o u)→H' a=some (.frz o u)
structure Mv0 (A:Ad) (B:Addr→Prop) (H:Hp) (A':Ad) (B':Addr→Prop) (H':Hp):Prop where
 cell:∀ a o,¬ B a→H a=some o→H' a=some o ∧ ¬ B' a
 ids:∀ (k:Nat) (x:Option Addr),A[k]?=some x→A'[k]?=some x ∨ A'[k]?=some none
mutual
theorem Dp.mv0 (m:Mv0 A B H A' B' H'):∀ (d:D) (v:V),Dp g A B H v d→Dp g A' B' H' v d
 | .non,_,h=>by cases h; exact .non
 | .bl b,_,h=>by cases h; exact .bl b
 | .int i,_,h=>by cases h; exact .int i
 | .str x,_,h=>by cases h; exact .str x
 | .tup ds,_,h=>by
  cases h with
  | tup n r l=>exact .tup (m.cell _ _ n r).2 (m.cell _ _ n r).1 (DpL.mv0 m ds _ l)
  | tupK k l=>exact .tupK k (DpL.mv0 m ds _ l)
 | .lst ds,_,h=>by
  cases h with
  | lst n r l=>exact .lst (m.cell _ _ n r).2 (m.cell _ _ n r).1 (DpL.mv0 m ds _ l)
 | .scr ns,_,h=>by
  cases h with
  | scr n r =>
   obtain ⟨o,e⟩:=Rd.some r
   exact .scr (m.cell _ o n e).2 (Rd.up r fun o e=>(m.cell _ o n e).1)
  | scrK k=>exact .scrK k
 | .exc c fs,_,h=>by
  cases h with
  | exc n r n2 r2 q l=>exact .exc (m.cell _ _ n r).2 (m.cell _ _ n r).1 (m.cell _ _ n2 r2).2 (m.cell _ _ n2 r2).1 q (DpF.mv0 m fs _ l)
  | exc0 n r q=>exact .exc0 (m.cell _ _ n r).2 (m.cell _ _ n r).1 q
 | .dic ds,_,h=>by
  cases h with
  | dic n r l =>
   obtain ⟨o,e⟩:=Rd.some r
   exact .dic (m.cell _ o n e).2 (Rd.up r fun o e=>(m.cell _ o n e).1) (DpK.mv0 m ds _ l)
 | .obj c fs,_,h=>by
  cases h with
  | obj n r q l=>exact .obj (m.cell _ _ n r).2 (m.cell _ _ n r).1 q (DpF.mv0 m fs _ l)
 | .oid k,_,h=>by
  cases h with
  | oid e =>
   rcases m.ids k _ e with e | e
   · exact .oid e
   · exact .ded e
  | ded e =>
   rcases m.ids k _ e with e | e
   · exact .ded e
   · exact .ded e
theorem DpL.mv0 (m:Mv0 A B H A' B' H'):∀ (ds:List D) (vs:List V),DpL g A B H vs ds→DpL g A' B' H' vs ds
 | [],_,h=>by cases h; exact .nil
 | d :: ds,_,h=>by
  cases h with
  | cons h1 h2=>exact .cons (Dp.mv0 m d _ h1) (DpL.mv0 m ds _ h2)
theorem DpK.mv0 (m:Mv0 A B H A' B' H'):∀ (ds:List (Key × D)) (vs:List (Key × V)),DpK g A B H vs ds→DpK g A' B' H' vs ds
 | [],_,h=>by cases h; exact .nil
 | (k,d) :: ds,_,h=>by
  cases h with
  | cons h1 h2=>exact .cons (Dp.mv0 m d _ h1) (DpK.mv0 m ds _ h2)
theorem DpF.mv0 (m:Mv0 A B H A' B' H'):∀ (ds:List (Str × D)) (vs:List (Str × V)),DpF g A B H vs ds→DpF g A' B' H' vs ds
 | [],_,h=>by cases h; exact .nil
 | (k,d) :: ds,_,h=>by
  cases h with
  | cons h1 h2=>exact .cons (Dp.mv0 m d _ h1) (DpF.mv0 m ds _ h2)
end
theorem Mv.m0 (m:Mv A B H A' B' H'):Mv0 A B H A' B' H':=⟨m.cell,m.ids⟩
theorem Dp.mv (m:Mv A B H A' B' H') (d:D) (v:V) (h:Dp g A B H v d):Dp g A' B' H' v d:=Dp.mv0 m.m0 d v h
theorem DpL.mv (m:Mv A B H A' B' H') (d:List D) (v:List V) (h:DpL g A B H v d):DpL g A' B' H' v d:=DpL.mv0 m.m0 d v h
theorem DpK.mv (m:Mv A B H A' B' H') (d:List (Key × D)) (v:List (Key × V)) (h:DpK g A B H v d):DpK g A' B' H' v d:=DpK.mv0 m.m0 d v h
theorem DpF.mv (m:Mv A B H A' B' H') (d:List (Str × D)) (v:List (Str × V)) (h:DpF g A B H v d):DpF g A' B' H' v d:=DpF.mv0 m.m0 d v h
end
def codeK (g:G) (nm:Str):Option Value:=match g.mg nm with
 | some (.ref f)=>match g.K.lookup f with
  | some ⟨_,_,.func fd,_⟩=>some fd.code
  | _=>none
 | _=>none
def TabD (g:G) (B:Addr→Prop) (H:Hp) (a:Addr) (nm:Str):Prop :=
 ∃ cd ps,codeK g nm=some cd ∧ tabK g.K cd=some a ∧ H a=some (.tbl ps) ∧ TriplesOk ps.toList ∧ ∀ (pos:Pos) (cv:Value),codeAmong pos ps.toList=some cv→∃ c,cv=.ref c ∧ ¬ B c ∧ H c=some (LamX.CodeO c (nm ++ ".<locals>.<lambda>"))
def CellOk (g:G) (A:Ad) (B:Addr→Prop) (H:Hp) (a:Addr):Cell→Prop
 | .dead=>False
 | .lst ds=>∃ vs,H a=some (.lst vs) ∧ DpL g A B H vs ds
 | .dic ds=>∃ vs,H a=some (.dK vs) ∧ DpK g A B H vs ds
 | .obj c fs=>∃ C dx vs,H a=some (.ins C dx vs) ∧ g.mg c=some (.ref C) ∧ DpF g A B H vs fs
 | .ldc ds=>∃ o vs,H a=some (.frz o (.dK vs)) ∧ DpK g A B H vs ds
 | .tbl nm=>TabD g B H a nm
structure Wo (g:G) (A:Ad) (B:Addr→Prop) (H:Hp) (ω:List Cell):Prop where
 len:A.length=ω.length
 inj:∀ (i j:Nat) (a:Addr),A[i]?=some (some a)→A[j]?=some (some a)→i=j
 liv:∀ a,Liv A a→B a
 bnd:∀ a,B a→∃ o,H a=some o
 cell:∀ (k:Nat) (c:Cell),ω[k]?=some c→(c=.dead ∧ A[k]?=some none) ∨ ∃ a,A[k]?=some (some a) ∧ CellOk g A B H a c
abbrev XP:=Addr × Value × Option Addr
def XOk (g:G) (A:Ad) (B:Addr→Prop) (H:Hp) (cls:Value) (dd:Option Addr) (x:Exc):Prop :=
 g.mg x.c=some cls ∧ ((∃ d vs,dd=some d ∧ ¬ B d ∧ H d=some (.xd vs) ∧ DpF g A B H vs x.fs) ∨ (dd=none ∧ x.fs=[]))
theorem XOk.mv0 {g:G} {A A':Ad} {B B':Addr→Prop} {H H':Hp} {cls:Value} {dd:Option Addr} {x:Exc} (m:Mv0 A B H A' B' H') (h:XOk g A B H cls dd x):XOk g A' B' H' cls dd x:=by
 obtain ⟨h1,⟨d,vs,h2,h3,h4,h5⟩ | h⟩:=h
 · exact ⟨h1,.inl ⟨d,vs,h2,(m.cell d _ h3 h4).2,(m.cell d _ h3 h4).1,DpF.mv0 m _ _ h5⟩⟩
 · exact ⟨h1,.inr h⟩
theorem XOk.mv {g:G} {A A':Ad} {B B':Addr→Prop} {H H':Hp} {cls:Value} {dd:Option Addr} {x:Exc} (m:Mv A B H A' B' H') (h:XOk g A B H cls dd x):XOk g A' B' H' cls dd x:=h.mv0 m.m0
inductive Sl where
 | no | fz (d:D) | ow (ds:List D) | ex (p:XP) (x:Exc)
abbrev Rho:=List Sl
section
variable {g:G} {A A':Ad} {B B':Addr→Prop} {H H' H0:Hp} {ω:List Cell} {σ:St} {ρ:Rho}
theorem Wo.nb (w:Wo g A B H ω) {p:Addr} (h:H p=none):¬ B p:=fun z=>by
 obtain ⟨o,e⟩:=w.bnd p z
 rw [h] at e; cases e
theorem Wo.nl (w:Wo g A B H ω) {p:Addr} (h:¬ B p):¬ Liv A p:=fun z=>h (w.liv p z)
theorem Stp.mv (s:Stp A B H A' B' H') (hl:∀ a,Liv A a→B a):Mv A B H A' B' H' :=
 ⟨fun a o n e=>⟨s.keep a o e fun z=>n (hl a z),fun z=>n ((s.old a o e fun z=>n (hl a z)).mp z)⟩,s.ids,s.frz⟩
theorem Wo.mv (w:Wo g A B H ω) (s:Stp A B H A' B' H'):Mv A B H A' B' H':=s.mv w.liv
def SlOk (g:G) (H0:Hp) (A:Ad) (B:Addr→Prop) (H:Hp) (x:Option (Option V)):Sl→Prop
 | .no=>True
 | .fz d=>∃ v,x=some (some v) ∧ Dp g A B H v d
 | .ex p y=>x=some (some (.ref p.1)) ∧ XOk g A B H p.2.1 p.2.2 y
 | .ow ds=>∃ p vs,x=some (some (.ref p)) ∧ H p=some (.lst vs) ∧ DpL g A B H vs ds ∧ B p ∧ ¬ Liv A p ∧ H0 p=none
structure Slots (g:G) (H0:Hp) (A:Ad) (B:Addr→Prop) (H:Hp) (σ:St) (ρ:Rho):Prop where
 len:ρ.length=σ.length
 val:∀ (i:Nat) (s:Sl),ρ[i]?=some s→SlOk g H0 A B H σ[i]? s
 own:∀ (i j:Nat) (ds es:List D) (p:Addr),ρ[i]?=some (.ow ds)→ρ[j]?=some (.ow es)→σ[i]?=some (some (.ref p))→σ[j]?=some (some (.ref p))→i=j
theorem SlOk.up {x:Option (Option V)} {s:Sl} (w:Wo g A B H ω) (t:Stp A B H A' B' H') (h:SlOk g H0 A B H x s):SlOk g H0 A' B' H' x s:=by
 cases s with
 | no=>trivial
 | ex p y=>exact ⟨h.1,h.2.mv (w.mv t)⟩
 | fz d =>
  obtain ⟨v,e,h⟩:=h
  exact ⟨v,e,Dp.mv (w.mv t) d v h⟩
 | ow ds =>
  obtain ⟨p,vs,e,hp,l,b,nl,h0⟩:=h
  refine ⟨p,vs,e,t.keep p _ hp nl,DpL.mv (w.mv t) ds vs l,(t.old p _ hp nl).mpr b,fun z=>?_,h0⟩
  rcases t.new p z with z | z
  · exact nl z
  · rw [z] at hp; cases hp
theorem Slots.up (h:Slots g H0 A B H σ ρ) (w:Wo g A B H ω) (t:Stp A B H A' B' H'):Slots g H0 A' B' H' σ ρ :=
 ⟨h.len,fun i s e=>(h.val i s e).up w t,h.own⟩
end
inductive R (α:Type) where
 | val (a:α) (ω:List Cell)
 | exc (x:Exc) (ω:List Cell)
abbrev M (α:Type):=Rho→List Cell→Option (R α)
def M.pure {α:Type} (a:α):M α:=fun _ ω=>some (.val a ω)
def M.bind {α β:Type} (f:M α) (k:α→M β):M β:=fun ρ ω =>
 match f ρ ω with
 | none=>none
 | some (.exc x ω')=>some (.exc x ω')
 | some (.val a ω')=>k a ρ ω'
abbrev Rl (β α:Type):=G→Ad→(Addr→Prop)→Hp→β→α→Prop
abbrev rD:Rl V D:=Dp
abbrev rL:Rl (List V) (List D):=DpL
abbrev rB:Rl Bool Bool:=fun _ _ _ _ b c=>b=c
def ResOk {β α:Type} (g:G) (rel:Rl β α) (W:WX) (σ:St) (A:Ad) (B:Addr→Prop) (H:Hp) (Q:β→Hp→Prop):R α→Prop
 | .val a ω'=>∀ v A' B' H',Stp A B H A' B' H'→Wo g A' B' H' ω'→rel g A' B' H' v a→Q v H'
 | .exc x ω'=>∀ cls dd A' B' H',Stp A B H A' B' H'→Wo g A' B' H' ω'→XOk g A' B' H' cls dd x→W cls dd σ H'
theorem ResOk.up {β α:Type} {g:G} {rel:Rl β α} {W:WX} {σ:St} {A A1:Ad} {B B1:Addr→Prop} {H H1:Hp} {Q:β→Hp→Prop} {r:R α} (h:ResOk g rel W σ A B H Q r) (s:Stp A B H A1 B1 H1):ResOk g rel W σ A1 B1 H1 Q r:=by
 cases r with
 | val a ω'=>exact fun v A' B' H' t=>h v A' B' H' (s.trans t)
 | exc x ω'=>exact fun cls dd A' B' H' t=>h cls dd A' B' H' (s.trans t)
structure Fm (g:G) (H0:Hp) (A:Ad) (B:Addr→Prop) (H:Hp) (ω:List Cell) (σ:St) (ρ:Rho):Prop where
 wo:Wo g A B H ω
 sl:Slots g H0 A B H σ ρ
def tM {β α:Type} (g:G) (rel:Rl β α) (W:WX) (f:M α):St→Hp→(β→Hp→Prop)→Prop:=fun σ H Q =>
 ∃ H0 A B ρ ω r,Fm g H0 A B H ω σ ρ ∧ f ρ ω=some r ∧ ResOk g rel W σ A B H Q r
section
variable {α β γ δ:Type} {g:G} {W:WX} {A A':Ad} {B B':Addr→Prop} {H H' H0:Hp} {ω ω':List Cell} {σ:St} {ρ:Rho}
theorem Fm.up (h:Fm g H0 A B H ω σ ρ) (t:Stp A B H A' B' H') (w:Wo g A' B' H' ω'):Fm g H0 A' B' H' ω' σ ρ:=⟨w,h.sl.up h.wo t⟩
theorem tM_bind {rel:Rl β α} {rel2:Rl δ γ} {f:M α} {k:α→M γ} {Q:δ→Hp→Prop} {r:R γ} (h:Fm g H0 A B H ω σ ρ) (e:(f.bind k) ρ ω=some r) (res:ResOk g rel2 W σ A B H Q r) :
  tM g rel W f σ H (fun v H1=>∃ A1 B1 ω1 a,Stp A B H A1 B1 H1 ∧ Fm g H0 A1 B1 H1 ω1 σ ρ ∧ rel g A1 B1 H1 v a ∧ k a ρ ω1=some r ∧ ResOk g rel2 W σ A1 B1 H1 Q r):=by
 unfold M.bind at e
 cases q:f ρ ω with
 | none=>rw [q] at e; cases e
 | some z =>
  rw [q] at e
  cases z with
  | exc x ω' =>
   have e':some (R.exc x ω')=some r:=e
   cases e'
   exact ⟨H0,A,B,ρ,ω,_,h,q,res⟩
  | val a ω' =>
   have e':k a ρ ω'=some r:=e
   refine ⟨H0,A,B,ρ,ω,_,h,q,fun v A1 B1 H1 t w rl=>⟨A1,B1,ω',a,t,h.up t w,rl,e',res.up t⟩⟩
theorem tM_mono {rel:Rl β α} {f:M α} {Q Q':β→Hp→Prop} (h:tM g rel W f σ H Q) (i:∀ v H',Q v H'→Q' v H'):tM g rel W f σ H Q':=by
 obtain ⟨H0,A,B,ρ,ω,r,fm,e,res⟩:=h
 refine ⟨H0,A,B,ρ,ω,r,fm,e,?_⟩
 cases r with
 | val a ω'=>exact fun v A' B' H' t w rl=>i v H' (res v A' B' H' t w rl)
 | exc x ω'=>exact res
end
theorem _root_.L2.PE.dl {X:Cx} {e:Expr} {t t':TE} (h:PE X e t) (i:∀ σ H Q,t' σ H Q→t σ H Q):PE X e t':=⟨fun pins s σ H Q I q=>h.run pins s σ H Q I (i σ H Q q)⟩
theorem _root_.L2.PT.dl {X:Cx} {e:Expr} {t t':TT} (h:PT X e t) (i:∀ σ H Q,t' σ H Q→t σ H Q):PT X e t':=⟨fun pins s σ H Q I q=>h.run pins s σ H Q I (i σ H Q q)⟩
theorem _root_.L2.PW.dl {X:Cx} {e:Expr} {t t':TT} (h:PW X e t) (i:∀ σ H Q,t' σ H Q→t σ H Q):PW X e t':=⟨fun wh pins s σ H Q I q=>h.run wh pins s σ H Q I (i σ H Q q)⟩
theorem _root_.L2.PA.dl {X:Cx} {es:List Expr} {t t':TA} (h:PA X es t) (i:∀ σ H Q,t' σ H Q→t σ H Q):PA X es t':=⟨fun pos pins s σ H Q I q=>h.run pos pins s σ H Q I (i σ H Q q)⟩
theorem _root_.L2.PS.dl {X:Cx} {st:Stmt} {t t':TS} (h:PS X st t) (i:∀ D σ H,t' D σ H→t D σ H):PS X st t':=⟨fun pins s σ H D I q=>h.run pins s σ H D I (i D σ H q)⟩
theorem _root_.L2.PSs.dl {X:Cx} {st:List Stmt} {t t':TS} (h:PSs X st t) (i:∀ D σ H,t' D σ H→t D σ H):PSs X st t':=⟨fun pins s σ H D I q=>h.run pins s σ H D I (i D σ H q)⟩
end DL
namespace DL
open PySem L2
def rW:Rl V D:=fun g A B H v d=>Dp g A B H v d ∨ ∃ p vs ds,v=.ref p ∧ d=.lst ds ∧ H p=some (.lst vs) ∧ DpL g A B H vs ds ∧ ¬ Liv A p
def Vw (g:G) (A:Ad) (B:Addr→Prop) (H:Hp) (v:V):D→Prop
 | .non=>v=.non
 | .bl b=>v=.bl b
 | .int i=>v=.int i
 | .str x=>v=.str x
 | .tup ds=>Dp g A B H v (.tup ds)
 | .lst ds=>∃ a vs,v=.ref a ∧ H a=some (.lst vs) ∧ DpL g A B H vs ds
 | .dic ds=>∃ a vs,v=.ref a ∧ Rd H a (.dK vs) ∧ DpK g A B H vs ds
 | .obj c fs=>∃ a C dx vs,v=.ref a ∧ H a=some (.ins C dx vs) ∧ g.mg c=some (.ref C) ∧ DpF g A B H vs fs
 | .oid _=>False
 | .scr ns=>∃ a,v=.ref a ∧ SqL g.K H a (ns.map V.int)
 | .exc c fs=>Dp g A B H v (.exc c fs)
theorem Dp.seq {g:G} {A:Ad} {B:Addr→Prop} {H:Hp} {v:V} {ds:List D} (h:Dp g A B H v (.tup ds)):∃ a vs,v=.ref a ∧ SqT g.K H a vs ∧ DpL g A B H vs ds:=by
 cases h with
 | tup n r l=>exact ⟨_,_,rfl,SqT.of r,l⟩
 | tupK k l=>exact ⟨_,_,rfl,.inr k,l⟩
def view (ω:List Cell):D→Option D
 | .oid k=>match ω[k]? with
  | some (.lst ds)=>some (.lst ds)
  | some (.dic ds)=>some (.dic ds)
  | some (.obj c fs)=>some (.obj c fs)
  | some (.ldc ds)=>some (.dic ds)
  | _=>none
 | d=>some d
section
variable {g:G} {A A':Ad} {B B':Addr→Prop} {H H':Hp} {ω:List Cell} {v:V} {d d':D}
theorem rW.up (w:Wo g A B H ω) (t:Stp A B H A' B' H') (h:rW g A B H v d):rW g A' B' H' v d:=by
 rcases h with h | ⟨p,vs,ds,e1,e2,hp,l,nl⟩
 · exact .inl (Dp.mv (w.mv t) d v h)
 · refine .inr ⟨p,vs,ds,e1,e2,t.keep p _ hp nl,DpL.mv (w.mv t) ds vs l,fun z=>?_⟩
   rcases t.new p z with z | z
   · exact nl z
   · rw [z] at hp; cases hp
theorem Vw.of (h:Dp g A B H v d) (w:Wo g A B H ω) (e:view ω d=some d'):Vw g A B H v d':=by
 cases h with
 | non=>cases e; rfl
 | bl b=>cases e; rfl
 | int b=>cases e; rfl
 | str b=>cases e; rfl
 | tup n r l=>cases e; exact .tup n r l
 | tupK k l=>cases e; exact .tupK k l
 | lst n r l=>cases e; exact ⟨_,_,rfl,r,l⟩
 | dic n r l=>cases e; exact ⟨_,_,rfl,r,l⟩
 | obj n r q l=>cases e; exact ⟨_,_,_,_,rfl,r,q,l⟩
 | scr n r=>cases e; exact ⟨_,rfl,.inl r⟩
 | scrK k=>cases e; exact ⟨_,rfl,.inr k⟩
 | exc n r n2 r2 q l=>cases e; exact .exc n r n2 r2 q l
 | exc0 n r q=>cases e; exact .exc0 n r q
 | @oid a k ha =>
  unfold view at e
  cases q:ω[k]? with
  | none=>simp only [q] at e; cases e
  | some c =>
   simp only [q] at e
   rcases w.cell k c q with ⟨rfl,z⟩ | ⟨b,hb,ok⟩
   · cases e
   · rw [ha] at hb; cases hb
     cases c with
     | dead=>cases e
     | lst ds =>
      cases e
      obtain ⟨vs,h1,h2⟩:=ok
      exact ⟨_,vs,rfl,h1,h2⟩
     | dic ds =>
      cases e
      obtain ⟨vs,h1,h2⟩:=ok
      exact ⟨_,vs,rfl,.inl h1,h2⟩
     | obj c fs =>
      cases e
      obtain ⟨C,dx,vs,h1,h2,h3⟩:=ok
      exact ⟨_,C,dx,vs,rfl,h1,h2,h3⟩
     | ldc ds =>
      cases e
      obtain ⟨o,vs,h1,h2⟩:=ok
      exact ⟨_,vs,rfl,.inr ⟨o,h1⟩,h2⟩
     | tbl nm=>cases e
 | @ded v k ha =>
  unfold view at e
  cases q:ω[k]? with
  | none=>simp only [q] at e; cases e
  | some c =>
   simp only [q] at e
   rcases w.cell k c q with ⟨rfl,z⟩ | ⟨b,hb,ok⟩
   · cases e
   · rw [ha] at hb; cases hb
theorem view_ok (w:Wo g A B H ω) (h:rW g A B H v d) (e:view ω d=some d'):Vw g A B H v d':=by
 rcases h with h | ⟨p,vs,ds,rfl,rfl,hp,l,nl⟩
 · exact Vw.of h w e
 · cases e
   exact ⟨_,vs,rfl,hp,l⟩
theorem Stp.grow {p:Addr} {o:HO} (hp:H p=none):Stp A B H A B (upd H p o) :=
 ⟨fun a u h _=>by rw [upd_ne (ne_of_none h hp)]; exact h,fun _ _ _ _=>Iff.rfl,fun _ h=>.inl h,fun _ _ h=>.inl h,fun a u h=>⟨u,by rw [upd_ne (ne_of_none h hp)]; exact h⟩,frz_upd (frz_none hp)⟩
theorem CellOk.mv0 {a:Addr} {c:Cell} (m:Mv0 A B H A' B' H') (k:∀ o,H a=some o→H' a=some o) (h:CellOk g A B H a c):CellOk g A' B' H' a c:=by
 cases c with
 | dead=>exact h
 | lst ds =>
  obtain ⟨vs,h1,h2⟩:=h
  exact ⟨vs,k _ h1,DpL.mv0 m _ _ h2⟩
 | dic ds =>
  obtain ⟨vs,h1,h2⟩:=h
  exact ⟨vs,k _ h1,DpK.mv0 m _ _ h2⟩
 | obj c fs =>
  obtain ⟨C,dx,vs,h1,h2,h3⟩:=h
  exact ⟨C,dx,vs,k _ h1,h2,DpF.mv0 m _ _ h3⟩
 | ldc ds =>
  obtain ⟨o,vs,h1,h2⟩:=h
  exact ⟨o,vs,k _ h1,DpK.mv0 m _ _ h2⟩
 | tbl nm =>
  obtain ⟨cd,ps,h1,h2,h3,h4,h5⟩:=h
  exact ⟨cd,ps,h1,h2,k _ h3,h4,fun pos cv hc=>by
   obtain ⟨c,e,nb,q⟩:=h5 pos cv hc
   exact ⟨c,e,(m.cell _ _ nb q).2,(m.cell _ _ nb q).1⟩⟩
theorem CellOk.mv {a:Addr} {c:Cell} (m:Mv A B H A' B' H') (k:∀ o,H a=some o→H' a=some o) (h:CellOk g A B H a c):CellOk g A' B' H' a c:=h.mv0 m.m0 k
theorem Mv.grow {p:Addr} {o:HO} (hp:H p=none):Mv A B H A B (upd H p o) :=
 ⟨fun a u n e=>⟨by rw [upd_ne (ne_of_none e hp)]; exact e,n⟩,fun _ _ h=>.inl h,frz_upd (frz_none hp)⟩
theorem Wo.grow {p:Addr} {o:HO} (w:Wo g A B H ω) (hp:H p=none):Wo g A B (upd H p o) ω :=
 ⟨w.len,w.inj,w.liv,fun a h=>by
  obtain ⟨u,e⟩:=w.bnd a h
  exact ⟨u,by rw [upd_ne (ne_of_none e hp)]; exact e⟩,fun k c e=>by
  rcases w.cell k c e with z | ⟨a,h1,h2⟩
  · exact .inl z
  · exact .inr ⟨a,h1,h2.mv (Mv.grow hp) fun u q=>by rw [upd_ne (ne_of_none q hp)]; exact q⟩⟩
end
abbrev Aft (g:G) (A:Ad) (B:Addr→Prop) (H:Hp) (ω:List Cell) (d:D) (Q:VK):Prop :=
 ∀ v A' B' H',Stp A B H A' B' H'→Wo g A' B' H' ω→Dp g A' B' H' v d→Q v H'
section
variable {g:G} {A:Ad} {B:Addr→Prop} {H:Hp} {ω:List Cell} {Q:VK}
theorem Aft.now {d:D} {v:V} (h:Aft g A B H ω d Q) (w:Wo g A B H ω) (r:Dp g A B H v d):Q v H:=h v A B H (.refl _ _ _) w r
theorem Aft.tup {vs:List V} {ds:List D} (h:Aft g A B H ω (.tup ds) Q) (w:Wo g A B H ω) (l:DpL g A B H vs ds):∀ p,H p=none→Q (.ref p) (upd H p (.tup vs)):=fun p hp =>
 h _ A B _ (Stp.grow hp) (w.grow hp) (.tup (w.nb hp) upd_same (DpL.mv (Mv.grow hp) _ _ l))
theorem Aft.lst {vs:List V} {ds:List D} (h:Aft g A B H ω (.lst ds) Q) (w:Wo g A B H ω) (l:DpL g A B H vs ds):∀ p,H p=none→Q (.ref p) (upd H p (.lst vs)):=fun p hp =>
 h _ A B _ (Stp.grow hp) (w.grow hp) (.lst (w.nb hp) upd_same (DpL.mv (Mv.grow hp) _ _ l))
end
section
variable {g:G} {A:Ad} {B:Addr→Prop} {H:Hp}
theorem DpL.length:∀ {ds:List D} {vs:List V},DpL g A B H vs ds→vs.length=ds.length
 | [],_,h=>by cases h; rfl
 | d :: ds,_,h=>by cases h with | cons h1 h2=>simp [DpL.length h2]
theorem DpL.append:∀ {ds es:List D} {vs ws:List V},DpL g A B H vs ds→DpL g A B H ws es→DpL g A B H (vs ++ ws) (ds ++ es)
 | [],es,_,ws,h,k=>by cases h; exact k
 | d :: ds,es,_,ws,h,k=>by cases h with | cons h1 h2=>exact .cons h1 (DpL.append h2 k)
theorem DpL.get:∀ {ds:List D} {vs:List V} {i:Nat} {d:D},DpL g A B H vs ds→ds[i]?=some d→∃ v,vs[i]?=some v ∧ Dp g A B H v d
 | [],_,_,_,_,e=>by simp at e
 | d :: ds,_,0,_,h,e=>by
  cases h with
  | cons h1 h2 =>
   simp at e; subst e
   exact ⟨_,rfl,h1⟩
 | d :: ds,_,i + 1,e',h,e=>by
  cases h with
  | cons h1 h2 =>
   obtain ⟨v,q1,q2⟩:=DpL.get (i:=i) (d:=e') h2 (by simpa using e)
   exact ⟨v,by simpa using q1,q2⟩
theorem DpL.getV:∀ {ds:List D} {vs:List V} {i:Nat} {v:V},DpL g A B H vs ds→vs[i]?=some v→∃ d,ds[i]?=some d ∧ Dp g A B H v d
 | [],_,_,_,h,e=>by cases h; simp at e
 | d :: ds,_,0,_,h,e=>by
  cases h with
  | cons h1 h2 =>
   simp at e; subst e
   exact ⟨_,rfl,h1⟩
 | d :: ds,_,i + 1,e',h,e=>by
  cases h with
  | cons h1 h2 =>
   obtain ⟨v,q1,q2⟩:=DpL.getV (i:=i) (v:=e') h2 (by simpa using e)
   exact ⟨v,by simpa using q1,q2⟩
theorem DpL.take:∀ {ds:List D} {vs:List V} (n:Nat),DpL g A B H vs ds→DpL g A B H (vs.take n) (ds.take n)
 | _,_,0,_=>.nil
 | [],_,n + 1,h=>by cases h; exact .nil
 | d :: ds,_,n + 1,h=>by cases h with | cons h1 h2=>exact .cons h1 (DpL.take n h2)
theorem DpL.drop:∀ {ds:List D} {vs:List V} (n:Nat),DpL g A B H vs ds→DpL g A B H (vs.drop n) (ds.drop n)
 | _,_,0,h=>h
 | [],_,n + 1,h=>by cases h; exact .nil
 | d :: ds,_,n + 1,h=>by cases h with | cons h1 h2=>exact DpL.drop n h2
theorem DpL.reverse:∀ {ds:List D} {vs:List V},DpL g A B H vs ds→DpL g A B H vs.reverse ds.reverse
 | [],_,h=>by cases h; exact .nil
 | d :: ds,_,h=>by
  cases h with
  | cons h1 h2 =>
   rw [List.reverse_cons,List.reverse_cons]
   exact (DpL.reverse h2).append (.cons h1 .nil)
theorem DpL.set:∀ {ds:List D} {vs:List V} (i:Nat) {v:V} {d:D},DpL g A B H vs ds→Dp g A B H v d→DpL g A B H (vs.set i v) (ds.set i d)
 | [],_,_,_,_,h,_=>by cases h; exact .nil
 | d :: ds,_,0,_,_,h,k=>by cases h with | cons h1 h2=>exact .cons k h2
 | d :: ds,_,i + 1,_,_,h,k=>by cases h with | cons h1 h2=>exact .cons h1 (DpL.set i h2 k)
theorem DpL.eraseIdx:∀ {ds:List D} {vs:List V} (i:Nat),DpL g A B H vs ds→DpL g A B H (vs.eraseIdx i) (ds.eraseIdx i)
 | [],_,_,h=>by cases h; exact .nil
 | d :: ds,_,0,h=>by cases h with | cons h1 h2=>exact h2
 | d :: ds,_,i + 1,h=>by cases h with | cons h1 h2=>exact .cons h1 (DpL.eraseIdx i h2)
end
def vF (i:Nat):M D:=fun ρ ω=>match ρ[i]? with
 | some (.fz d)=>some (.val d ω)
 | _=>none
def vW (i:Nat):M D:=fun ρ ω=>match ρ[i]? with
 | some (.fz d)=>some (.val d ω)
 | some (.ow ds)=>some (.val (.lst ds) ω)
 | _=>none
section
variable {X:Cx} {g:G} {W:WX}
theorem tM_var {i:Nat}:∀ σ H Q,tM g rD W (vF i) σ H Q→tVar i σ H Q:=by
 rintro σ H Q ⟨H0,A,B,ρ,ω,r,fm,e,res⟩
 unfold vF at e
 cases q:ρ[i]? with
 | none=>simp only [q] at e; cases e
 | some s =>
  simp only [q] at e
  cases s with
  | no=>cases e
  | ex p x=>cases e
  | ow ds=>cases e
  | fz d =>
   cases e
   obtain ⟨v,hv,h⟩:=fm.sl.val i _ q
   exact ⟨v,hv,res v A B H (.refl _ _ _) fm.wo h⟩
theorem tM_varW {i:Nat}:∀ σ H Q,tM g rW W (vW i) σ H Q→tVar i σ H Q:=by
 rintro σ H Q ⟨H0,A,B,ρ,ω,r,fm,e,res⟩
 unfold vW at e
 cases q:ρ[i]? with
 | none=>simp only [q] at e; cases e
 | some s =>
  simp only [q] at e
  cases s with
  | no=>cases e
  | ex p x=>cases e
  | ow ds =>
   cases e
   obtain ⟨p,vs,hv,hp,l,b,nl,h0⟩:=fm.sl.val i _ q
   exact ⟨_,hv,res _ A B H (.refl _ _ _) fm.wo (.inr ⟨p,vs,ds,rfl,rfl,hp,l,nl⟩)⟩
  | fz d =>
   cases e
   obtain ⟨v,hv,h⟩:=fm.sl.val i _ q
   exact ⟨v,hv,res v A B H (.refl _ _ _) fm.wo (.inl h)⟩
theorem de_v (i:Nat) {x:Str} {pos:Pos} (hN:X.N[i]?=some x:=by rfl) (hv:Vis X.env.scope x:=by first | exact Or.inl rfl | exact Or.inr (Or.inl rfl) | exact Or.inr (Or.inr rfl)) (hd:(x == ("__debug__" : Str))=false:=by decide)
  (hcd:(x == ("__classdict__" : Str))=false:=by decide):PE X (.Name x pos) (tM g rD W (vF i)):=(pe_var hN hv hd hcd).dl tM_var
theorem dw_v (i:Nat) {x:Str} {pos:Pos} (hN:X.N[i]?=some x:=by rfl) (hv:Vis X.env.scope x:=by first | exact Or.inl rfl | exact Or.inr (Or.inl rfl) | exact Or.inr (Or.inr rfl)) (hd:(x == ("__debug__" : Str))=false:=by decide)
  (hcd:(x == ("__classdict__" : Str))=false:=by decide):PE X (.Name x pos) (tM g rW W (vW i)):=(pe_var hN hv hd hcd).dl tM_varW
theorem dw {e:Expr} {f:M D} (h:PE X e (tM g rD W f)):PE X e (tM g rW W f):=h.dl fun σ H Q ⟨H0,A,B,ρ,ω,r,fm,e,res⟩=>⟨H0,A,B,ρ,ω,r,fm,e,by
 cases r with
 | val a ω'=>exact fun v A' B' H' t w rl=>res v A' B' H' t w (.inl rl)
 | exc x ω'=>exact res⟩
theorem tM_c {v:V} {d:D} (hd:∀ g A B H,Dp g A B H v d):∀ σ H Q,tM g rD W (M.pure d) σ H Q→Q v H:=by
 rintro σ H Q ⟨H0,A,B,ρ,ω,r,fm,e,res⟩
 cases e
 exact res v A B H (.refl _ _ _) fm.wo (hd _ _ _ _)
theorem de_int {i:Int} {j pos}:PE X (.Constant (.int i) j pos) (tM g rD W (M.pure (.int i))):=pe_int.dl (tM_c fun _ _ _ _=>.int i)
theorem de_bl {b:Bool} {j pos}:PE X (.Constant (.bool b) j pos) (tM g rD W (M.pure (.bl b))):=pe_bl.dl (tM_c fun _ _ _ _=>.bl b)
theorem de_non {j pos}:PE X (.Constant .none j pos) (tM g rD W (M.pure .non)):=pe_non.dl (tM_c fun _ _ _ _=>.non)
end
def op2 (f:D→D→Option D) (x y:D):M D:=fun _ ω=>match view ω x,view ω y with
 | some x',some y'=>match f x' y' with
  | some z=>some (.val z ω)
  | none=>none
 | _,_=>none
def bo (f:D→D→Option D) (fa fb:M D):M D:=fa.bind fun x=>fb.bind fun y=>op2 f x y
theorem op2_some {f:D→D→Option D} {x y:D} {ρ:Rho} {ω:List Cell} {r:R D} (h:op2 f x y ρ ω=some r):∃ x' y' z,view ω x=some x' ∧ view ω y=some y' ∧ f x' y'=some z ∧ r=.val z ω:=by
 unfold op2 at h
 cases q1:view ω x with
 | none=>simp only [q1] at h; cases h
 | some x' =>
  cases q2:view ω y with
  | none=>simp only [q1,q2] at h; cases h
  | some y' =>
   simp only [q1,q2] at h
   cases q3:f x' y' with
   | none=>simp only [q3] at h; cases h
   | some z =>
    simp only [q3] at h
    cases h
    exact ⟨x',y',z,rfl,rfl,q3,rfl⟩
def V2 (g:G) (r:R2) (f:D→D→Option D):Prop:=∀ (A:Ad) (B:Addr→Prop) (H:Hp) (ω:List Cell) (x y:V) (a b c:D) (Q:VK),Wo g A B H ω→Vw g A B H x a→Vw g A B H y b→f a b=some c→Aft g A B H ω c Q→r x y H Q
def op1 (f:D→Option D) (x:D):M D:=fun _ ω=>match view ω x with
 | some x'=>match f x' with
  | some z=>some (.val z ω)
  | none=>none
 | _=>none
def uo (f:D→Option D) (fa:M D):M D:=fa.bind fun x=>op1 f x
theorem op1_some {f:D→Option D} {x:D} {ρ:Rho} {ω:List Cell} {r:R D} (h:op1 f x ρ ω=some r):∃ x' z,view ω x=some x' ∧ f x'=some z ∧ r=.val z ω:=by
 unfold op1 at h
 cases q1:view ω x with
 | none=>simp only [q1] at h; cases h
 | some x' =>
  simp only [q1] at h
  cases q3:f x' with
  | none=>simp only [q3] at h; cases h
  | some z =>
   simp only [q3] at h
   cases h
   exact ⟨x',z,rfl,q3,rfl⟩
def V1 (g:G) (r:V→Hp→VK→Prop) (f:D→Option D):Prop:=∀ (A:Ad) (B:Addr→Prop) (H:Hp) (ω:List Cell) (x:V) (a c:D) (Q:VK),Wo g A B H ω→Vw g A B H x a→f a=some c→Aft g A B H ω c Q→r x H Q
section
variable {X:Cx} {g:G} {W:WX} {a b c:Expr} {fa fb fc:M D} {f:D→D→Option D} {pos:Pos}
theorem tM_op2 {r:R2} (hv:V2 g r f):∀ σ H Q,tM g rD W (bo f fa fb) σ H Q→tOp r (tM g rW W fa) (tM g rW W fb) σ H Q:=by
 rintro σ H Q ⟨H0,A,B,ρ,ω,r,fm,e,res⟩
 refine tM_mono (tM_bind fm e res) fun x H1 ⟨A1,B1,ω1,d1,t1,fm1,r1,e1,res1⟩=>?_
 refine tM_mono (tM_bind fm1 e1 res1) fun y H2 ⟨A2,B2,ω2,d2,t2,fm2,r2,e2,res2⟩=>?_
 obtain ⟨x',y',z,h1,h2,h3,rfl⟩:=op2_some e2
 exact hv A2 B2 H2 ω2 x y x' y' z Q fm2.wo (view_ok fm2.wo (r1.up fm1.wo t2) h1) (view_ok fm2.wo r2 h2) h3 res2
theorem de_op {op:Operator} {r:R2} (ho:OpR X (binaryOp op) r) (hv:V2 g r f) (ha:PE X a (tM g rW W fa)) (hb:PE X b (tM g rW W fb)):PE X (.BinOp a op b pos) (tM g rD W (bo f fa fb)) :=
 (pe_op ho ha hb).dl (tM_op2 hv)
theorem de_cmp {op:CmpOp} {r:R2} (ho:OpR X (compareOp op) r) (hv:V2 g r f) (ha:PE X a (tM g rW W fa)) (hb:PE X b (tM g rW W fb)) (hm:behindInMarks op b=false):PE X (.Compare a [op] [b] pos) (tM g rD W (bo f fa fb)) :=
 (pe_cmpR ho ha hb hm).dl (tM_op2 hv)
theorem de_ix {r:R2} (ho:IxR X r) (hv:V2 g r f) (ha:PE X a (tM g rW W fa)) (hb:PE X b (tM g rW W fb)) (hs:PlainIx b):PE X (.Subscript a b pos) (tM g rD W (bo f fa fb)) :=
 (pe_ix ho ha hb hs).dl (tM_op2 hv)
theorem tM_op1 {f:D→Option D} {r:V→Hp→VK→Prop} (hv:V1 g r f):∀ σ H Q,tM g rD W (uo f fa) σ H Q→tM g rW W fa σ H fun x H1=>r x H1 Q:=by
 rintro σ H Q ⟨H0,A,B,ρ,ω,r,fm,e,res⟩
 refine tM_mono (tM_bind fm e res) fun x H1 ⟨A1,B1,ω1,d1,t1,fm1,r1,e1,res1⟩=>?_
 obtain ⟨x',z,h1,h3,rfl⟩:=op1_some e1
 exact hv A1 B1 H1 ω1 x x' z Q fm1.wo (view_ok fm1.wo r1 h1) h3 res1
def asB:D→M Bool:=fun d _ ω=>match d with
 | .bl b=>some (.val b ω)
 | _=>none
theorem dt_cmp {op:CmpOp} {r:R2} (ho:OpR X (compareOp op) r) (hv:V2 g r f) (ha:PE X a (tM g rW W fa)) (hb:PE X b (tM g rW W fb)) (hm:behindInMarks op b=false) :
  PT X (.Compare a [op] [b] pos) (tM g rB W ((bo f fa fb).bind asB)) :=
 (pt_cmpR ho ha hb hm).dl fun σ H Q ⟨H0,A,B,ρ,ω,r,fm,e,res⟩=>by
  refine tM_op2 hv σ H _ (tM_mono (tM_bind fm e res) fun x H1 ⟨A1,B1,ω1,d1,t1,fm1,r1,e1,res1⟩=>?_)
  unfold asB at e1
  cases d1 with
  | bl k =>
   cases e1
   cases r1
   exact ⟨k,rfl,res1 k A1 B1 H1 (.refl _ _ _) fm1.wo rfl⟩
  | _=>cases e1
def truD:D→Option Bool
 | .non=>some false
 | .bl b=>some b
 | .int i=>some (i != 0)
 | .str x=>if x.length ≤ sizeLine then some ((x.length:Int) != 0) else none
 | .tup ds=>some !ds.isEmpty
 | .lst ds=>some !ds.isEmpty
 | _=>none
def tru (d:D):M Bool:=fun _ ω=>match view ω d with
 | some d'=>match truD d' with
  | some b=>some (.val b ω)
  | none=>none
 | none=>none
theorem isEmpty_len {α β:Type} {xs:List α} {ys:List β} (h:xs.length=ys.length):xs.isEmpty=ys.isEmpty:=by
 cases xs <;> cases ys <;> first | rfl | simp at h
theorem truV_of {A:Ad} {B:Addr→Prop} {H:Hp} {x:V} {d:D} {k:Bool} (h:Vw g A B H x d) (e:truD d=some k):TruV g.K x H k:=by
 cases d with
 | non=>cases h; cases e; rfl
 | bl b=>cases h; cases e; rfl
 | int b=>cases h; cases e; rfl
 | str b =>
  cases h
  simp only [truD] at e
  split at e
  · cases e; exact ⟨by assumption,rfl⟩
  · cases e
 | tup ds =>
  obtain ⟨a,vs,rfl,hs,l⟩:=Dp.seq h
  cases e
  exact .inr (.inl ⟨vs,hs,by rw [isEmpty_len l.length]⟩)
 | lst ds =>
  obtain ⟨a,vs,rfl,hs,l⟩:=h
  cases e
  exact .inl ⟨vs,SqL.of hs,by rw [isEmpty_len l.length]⟩
 | _=>cases e
theorem dt_tru (hK:X.K=g.K) (ha:PE X a (tM g rW W fa)) (he:∀ whole,isTrue a X.env whole=(do let v ← whole; standAt a.pos; holding [v] (truthy v)):=by intro _; rfl):PT X a (tM g rB W (fa.bind tru)) :=
 (pt_truth ha he).dl fun σ H Q ⟨H0,A,B,ρ,ω,r,fm,e,res⟩=>by
  refine tM_mono (tM_bind fm e res) fun x H1 ⟨A1,B1,ω1,d1,t1,fm1,r1,e1,res1⟩=>?_
  unfold tru at e1
  cases q:view ω1 d1 with
  | none=>simp only [q] at e1; cases e1
  | some d' =>
   simp only [q] at e1
   cases q2:truD d' with
   | none=>simp only [q2] at e1; cases e1
   | some k =>
    simp only [q2] at e1
    cases e1
    exact ⟨k,by rw [hK]; exact truV_of (view_ok fm1.wo r1 q) q2,res1 k A1 B1 H1 (.refl _ _ _) fm1.wo rfl⟩
variable {ta tb:M Bool} {rest:List Expr}
def andM (ta tb:M Bool):M Bool:=ta.bind fun b=>if b=true then tb else M.pure false
def orM (ta tb:M Bool):M Bool:=ta.bind fun b=>if b=true then M.pure true else tb
def notM (ta:M Bool):M Bool:=ta.bind fun b=>M.pure (!b)
theorem tM_step {α β:Type} {rel:Rl β α} {f:M α} {A:Ad} {B:Addr→Prop} {H H0:Hp} {ω:List Cell} {σ:St} {ρ:Rho} {r:R α} {Q:β→Hp→Prop} (fm:Fm g H0 A B H ω σ ρ) (e:f ρ ω=some r) (res:ResOk g rel W σ A B H Q r):tM g rel W f σ H Q:=⟨H0,A,B,ρ,ω,r,fm,e,res⟩
theorem tM_pureB {A:Ad} {B:Addr→Prop} {H:Hp} {ω:List Cell} {σ:St} {ρ:Rho} {H0:Hp} {b:Bool} {r:R Bool} {Q:Bool→Hp→Prop} (fm:Fm g H0 A B H ω σ ρ) (e:M.pure b ρ ω=some r) (res:ResOk g rB W σ A B H Q r):Q b H:=by
 cases e
 exact res b A B H (.refl _ _ _) fm.wo rfl
theorem dt_not (ha:PT X a (tM g rB W ta)):PT X (.UnaryOp .Not a pos) (tM g rB W (notM ta)) :=
 (pt_not ha).dl fun σ H Q ⟨H0,A,B,ρ,ω,r,fm,e,res⟩ =>
  tM_mono (tM_bind fm e res) fun x H1 ⟨A1,B1,ω1,d1,t1,fm1,r1,e1,res1⟩=>by
   cases r1
   exact tM_pureB fm1 e1 res1
theorem dw_and1 (ha:PT X a (tM g rB W ta)):PW X (.BoolOp .And [a] pos) (tM g rB W ta):=pw_and1 ha
theorem dw_or1 (ha:PT X a (tM g rB W ta)):PW X (.BoolOp .Or [a] pos) (tM g rB W ta):=pw_or1 ha
theorem dw_and (ha:PT X a (tM g rB W ta)) (hb:PW X (.BoolOp .And (b :: rest) pos) (tM g rB W tb)):PW X (.BoolOp .And (a :: b :: rest) pos) (tM g rB W (andM ta tb)) :=
 (pw_and ha hb).dl fun σ H Q ⟨H0,A,B,ρ,ω,r,fm,e,res⟩ =>
  tM_mono (tM_bind fm e res) fun x H1 ⟨A1,B1,ω1,d1,t1,fm1,r1,e1,res1⟩=>by
   cases r1
   cases x with
   | true =>
    rw [if_pos rfl] at e1 ⊢
    exact tM_step fm1 e1 res1
   | false =>
    rw [if_neg Bool.false_ne_true] at e1 ⊢
    exact tM_pureB fm1 e1 res1
theorem dw_or (ha:PT X a (tM g rB W ta)) (hb:PW X (.BoolOp .Or (b :: rest) pos) (tM g rB W tb)):PW X (.BoolOp .Or (a :: b :: rest) pos) (tM g rB W (orM ta tb)) :=
 (pw_or ha hb).dl fun σ H Q ⟨H0,A,B,ρ,ω,r,fm,e,res⟩ =>
  tM_mono (tM_bind fm e res) fun x H1 ⟨A1,B1,ω1,d1,t1,fm1,r1,e1,res1⟩=>by
   cases r1
   cases x with
   | true =>
    rw [if_pos rfl] at e1 ⊢
    exact tM_pureB fm1 e1 res1
   | false =>
    rw [if_neg Bool.false_ne_true] at e1 ⊢
    exact tM_step fm1 e1 res1
theorem dt_w (h:PW X a (tM g rB W ta)):PT X a (tM g rB W ta):=h.pt
def ifM {α:Type} (t:M Bool) (x y:M α):M α:=t.bind fun b=>if b=true then x else y
theorem de_ifExp (hc:PT X c (tM g rB W ta)) (ha:PE X a (tM g rD W fa)) (hb:PE X b (tM g rD W fb)):PE X (.IfExp c a b pos) (tM g rD W (ifM ta fa fb)) :=
 (pe_ifExp hc ha hb).dl fun σ H Q ⟨H0,A,B,ρ,ω,r,fm,e,res⟩ =>
  tM_mono (tM_bind fm e res) fun x H1 ⟨A1,B1,ω1,d1,t1,fm1,r1,e1,res1⟩=>by
   cases r1
   cases x with
   | true =>
    rw [if_pos rfl] at e1 ⊢
    exact tM_step fm1 e1 res1
   | false =>
    rw [if_neg Bool.false_ne_true] at e1 ⊢
    exact tM_step fm1 e1 res1
end
section
variable {X:Cx} {g:G} {W:WX} {a b:Expr} {fa fb:M D} {rest:List Expr} {pos:Pos}
def andV (fa fb:M D):M D:=(fa.bind asB).bind fun b=>if b=true then fb else M.pure (.bl false)
def orV (fa fb:M D):M D:=(fa.bind asB).bind fun b=>if b=true then M.pure (.bl true) else fb
def notV (fa:M D):M D:=(fa.bind asB).bind fun b=>M.pure (.bl !b)
theorem bind_assoc {α β γ:Type} (f:M α) (k:α→M β) (h:β→M γ):(f.bind k).bind h=f.bind fun a=>(k a).bind h:=by
 funext ρ ω
 unfold M.bind
 cases f ρ ω with
 | none=>rfl
 | some r=>cases r <;> rfl
theorem asB_some {d:D} {ρ:Rho} {ω:List Cell} {β:Type} {k:Bool→M β} {r:R β} (e:((asB d).bind k) ρ ω=some r):∃ b,d=.bl b ∧ k b ρ ω=some r:=by
 unfold M.bind asB at e
 cases d with
 | bl b=>exact ⟨b,rfl,e⟩
 | _=>cases e
theorem de_one {op} (h:PE X a (tM g rD W fa)):PE X (.BoolOp op [a] pos) (tM g rD W fa):=pe_one h
theorem de_and (ha:PE X a (tM g rD W fa)) (hb:PE X (.BoolOp .And (b :: rest) pos) (tM g rD W fb)):PE X (.BoolOp .And (a :: b :: rest) pos) (tM g rD W (andV fa fb)) :=
 (pe_and ha hb).dl fun σ H Q ⟨H0,A,B,ρ,ω,r,fm,e,res⟩=>by
  unfold andV at e
  rw [bind_assoc] at e
  refine tM_mono (tM_bind fm e res) fun x H1 ⟨A1,B1,ω1,d1,t1,fm1,r1,e1,res1⟩=>?_
  obtain ⟨k,rfl,e2⟩:=asB_some e1
  cases r1
  refine ⟨k,rfl,?_⟩
  cases k with
  | true =>
   rw [if_pos rfl] at e2 ⊢
   exact tM_step fm1 e2 res1
  | false =>
   rw [if_neg Bool.false_ne_true] at e2 ⊢
   exact tM_c (fun _ _ _ _=>.bl false) σ H1 Q (tM_step fm1 e2 res1)
theorem de_or (ha:PE X a (tM g rD W fa)) (hb:PE X (.BoolOp .Or (b :: rest) pos) (tM g rD W fb)):PE X (.BoolOp .Or (a :: b :: rest) pos) (tM g rD W (orV fa fb)) :=
 (pe_or ha hb).dl fun σ H Q ⟨H0,A,B,ρ,ω,r,fm,e,res⟩=>by
  unfold orV at e
  rw [bind_assoc] at e
  refine tM_mono (tM_bind fm e res) fun x H1 ⟨A1,B1,ω1,d1,t1,fm1,r1,e1,res1⟩=>?_
  obtain ⟨k,rfl,e2⟩:=asB_some e1
  cases r1
  refine ⟨k,rfl,?_⟩
  cases k with
  | true =>
   rw [if_pos rfl] at e2 ⊢
   exact tM_c (fun _ _ _ _=>.bl true) σ H1 Q (tM_step fm1 e2 res1)
  | false =>
   rw [if_neg Bool.false_ne_true] at e2 ⊢
   exact tM_step fm1 e2 res1
theorem de_not (ha:PE X a (tM g rD W fa)):PE X (.UnaryOp .Not a pos) (tM g rD W (notV fa)) :=
 (pe_not ha).dl fun σ H Q ⟨H0,A,B,ρ,ω,r,fm,e,res⟩=>by
  unfold notV at e
  rw [bind_assoc] at e
  refine tM_mono (tM_bind fm e res) fun x H1 ⟨A1,B1,ω1,d1,t1,fm1,r1,e1,res1⟩=>?_
  obtain ⟨k,rfl,e2⟩:=asB_some e1
  cases r1
  exact ⟨k,rfl,tM_c (fun _ _ _ _=>.bl _) σ H1 Q (tM_step fm1 e2 res1)⟩
end
def consM (f:M D) (fs:M (List D)):M (List D):=f.bind fun d=>fs.bind fun ds=>M.pure (d :: ds)
section
variable {X:Cx} {g:G} {W:WX} {e:Expr} {es:List Expr} {f:M D} {fs:M (List D)} {pos:Pos}
theorem da_nil:PA X [] (tM g rL W (M.pure [])):=pa_nil.dl fun σ H Q ⟨H0,A,B,ρ,ω,r,fm,e,res⟩=>by
 cases e
 exact res [] A B H (.refl _ _ _) fm.wo .nil
theorem da_cons (h:PE X e (tM g rD W f)) (hs:PA X es (tM g rL W fs)) (hst:starEach (e :: es) X.env=(false,eval e X.env) :: starEach es X.env:=by rfl):PA X (e :: es) (tM g rL W (consM f fs)) :=
 (pa_cons h hs hst).dl fun σ H Q ⟨H0,A,B,ρ,ω,r,fm,e,res⟩=>by
  refine tM_mono (tM_bind fm e res) fun x H1 ⟨A1,B1,ω1,d1,t1,fm1,r1,e1,res1⟩=>?_
  refine tM_mono (tM_bind fm1 e1 res1) fun y H2 ⟨A2,B2,ω2,d2,t2,fm2,r2,e2,res2⟩=>?_
  cases e2
  exact res2 _ A2 B2 H2 (.refl _ _ _) fm2.wo (.cons (Dp.mv (fm1.wo.mv t2) _ _ r1) r2)
def mkTup (ds:List D):M D:=fun _ ω=>if ds.length ≤ sizeLine then some (.val (.tup ds) ω) else none
theorem de_tup {x1} (h:PA X es (tM g rL W fs)):PE X (.Tuple es x1 pos) (tM g rD W (fs.bind mkTup)) :=
 (pe_tup h).dl fun σ H Q ⟨H0,A,B,ρ,ω,r,fm,e,res⟩=>by
  refine tM_mono (tM_bind fm e res) fun x H1 ⟨A1,B1,ω1,d1,t1,fm1,r1,e1,res1⟩=>?_
  unfold mkTup at e1
  split at e1
  · cases e1
    refine ⟨by rw [DpL.length r1]; assumption,Aft.tup (fun v A' B' H' t w r=>res1 v A' B' H' t w r) fm1.wo r1⟩
  · cases e1
end
end DL
namespace DL
open PySem L2
def rAddA (K:PySem.W.Frag):R2:=fun x y H Q=>(∃ i j,x=.int i ∧ y=.int j ∧ Q (.int (i + j)) H) ∨ (∃ i j,x=.str i ∧ y=.str j ∧ i.length + j.length ≤ sizeLine ∧ Q (.str (i ++ j)) H) ∨ rCat x y H Q ∨ rCatA K x y H Q
theorem op_addA {X:Cx}:OpR X (binaryOp .Add) (rAddA X.K):=op_add.or (op_add_str.or (op_cat.or op_catA))
def addD:D→D→Option D
 | .int i,.int j=>some (.int (i + j))
 | .str x,.str y=>if x.length + y.length ≤ sizeLine then some (.str (x ++ y)) else none
 | .lst xs,.lst ys=>if xs.length + ys.length ≤ sizeLine then some (.lst (xs ++ ys)) else none
 | .tup xs,.tup ys=>if xs.length + ys.length ≤ sizeLine then some (.tup (xs ++ ys)) else none
 | _,_=>none
theorem DpL.nil_iff {g:G} {A:Ad} {B:Addr→Prop} {H:Hp} {vs:List V} {ds:List D} (h:DpL g A B H vs ds):vs=[] ↔ ds=[]:=by
 cases h <;> simp
theorem v_add (g:G):V2 g (rAddA g.K) addD:=by
 intro A B H ω x y a b c Q w ha hb e q
 cases a with
 | int i =>
  cases b with
  | int j =>
   cases ha; cases hb; cases e
   exact .inl ⟨i,j,rfl,rfl,q.now w (.int _)⟩
  | _=>cases e
 | str i =>
  cases b with
  | str j =>
   cases ha; cases hb
   simp only [addD] at e
   split at e
   · cases e
     exact .inr (.inl ⟨i,j,rfl,rfl,by assumption,q.now w (.str _)⟩)
   · cases e
  | _=>cases e
 | lst i =>
  cases b with
  | lst j =>
   obtain ⟨p,vs,rfl,hp,l⟩:=ha
   obtain ⟨p',ws,rfl,hp',l'⟩:=hb
   simp only [addD] at e
   split at e
   · cases e
     exact .inr (.inr (.inl ⟨p,p',vs,ws,rfl,rfl,hp,hp',by rw [l.length,l'.length]; assumption,q.lst w (l.append l')⟩))
   · cases e
  | _=>cases e
 | tup i =>
  cases b with
  | tup j =>
   obtain ⟨p,vs,rfl,hp,l⟩:=Dp.seq ha
   obtain ⟨p',ws,rfl,hp',l'⟩:=Dp.seq hb
   simp only [addD] at e
   split at e
   · cases e
     refine .inr (.inr (.inr ⟨p,p',vs,ws,rfl,rfl,hp,hp',by rw [l.length,l'.length]; assumption,fun z=>?_,fun _ z=>?_,fun _ _=>q.tup w (l.append l')⟩))
     · rw [l.nil_iff] at z; subst z
       exact q.now w hb
     · rw [l'.nil_iff] at z; subst z
       rw [List.append_nil] at q
       exact q.now w ha
   · cases e
  | _=>cases e
 | _=>cases e
def intsD (C:Int→Int→Bool) (f:Int→Int→Int):D→D→Option D
 | .int i,.int j=>if C i j=true then some (.int (f i j)) else none
 | _,_=>none
theorem v_ints {g:G} {C:Int→Int→Prop} {Cb:Int→Int→Bool} {f:Int→Int→Int} (hC:∀ i j,Cb i j=true→C i j):V2 g (rI C fun i j=>.int (f i j)) (intsD Cb f):=by
 intro A B H ω x y a b c Q w ha hb e q
 cases a with
 | int i =>
  cases b with
  | int j =>
   cases ha; cases hb
   simp only [intsD] at e
   split at e
   · cases e
     exact ⟨i,j,rfl,rfl,hC _ _ (by assumption),q.now w (.int _)⟩
   · cases e
  | _=>cases e
 | _=>cases e
def ints0D (f:Int→Int→Int):D→D→Option D
 | .int i,.int j=>some (.int (f i j))
 | _,_=>none
theorem v_ints0 {g:G} {f:Int→Int→Int}:V2 g (rI0 fun i j=>.int (f i j)) (ints0D f):=by
 intro A B H ω x y a b c Q w ha hb e q
 cases a with
 | int i =>
  cases b with
  | int j =>
   cases ha; cases hb; cases e
   exact ⟨i,j,rfl,rfl,q.now w (.int _)⟩
  | _=>cases e
 | _=>cases e
instance (i j:Int):Decidable (CMul i j):=by unfold CMul; infer_instance
instance (i j:Int):Decidable (CDiv i j):=by unfold CDiv; infer_instance
instance (i j:Int):Decidable (CPow i j):=by unfold CPow; infer_instance
def subD:D→D→Option D:=ints0D fun i j=>i - j
def mulD:D→D→Option D:=intsD (fun i j=>decide (CMul i j)) fun i j=>i * j
def modD:D→D→Option D:=intsD (fun _ j=>decide (0 < j)) fun i j=>i % j
def fdivD:D→D→Option D:=intsD (fun i j=>decide (CDiv i j)) fun i j=>i / j
def powD:D→D→Option D:=intsD (fun i j=>decide (CPow i j)) fun i j=>i ^ j.toNat
theorem subD_int (i j:Int):subD (.int i) (.int j)=some (.int (i - j)):=rfl
theorem mulD_int {i j:Int} (h:CMul i j):mulD (.int i) (.int j)=some (.int (i * j)):=if_pos (decide_eq_true h)
theorem modD_int {i j:Int} (h:0 < j):modD (.int i) (.int j)=some (.int (i % j)):=if_pos (decide_eq_true h)
theorem fdivD_int {i j:Int} (h:CDiv i j):fdivD (.int i) (.int j)=some (.int (i / j)):=if_pos (decide_eq_true h)
theorem powD_int {i j:Int} (h:CPow i j):powD (.int i) (.int j)=some (.int (i ^ j.toNat)):=if_pos (decide_eq_true h)
section
variable {X:Cx} {g:G} {W:WX} {a b c:Expr} {fa fb:M D} {pos:Pos}
theorem de_add (hK:X.K=g.K) (ha:PE X a (tM g rW W fa)) (hb:PE X b (tM g rW W fb)):PE X (.BinOp a .Add b pos) (tM g rD W (bo addD fa fb)) :=
 de_op op_addA (by rw [hK]; exact v_add g) ha hb
theorem de_sub (ha:PE X a (tM g rW W fa)) (hb:PE X b (tM g rW W fb)):PE X (.BinOp a .Sub b pos) (tM g rD W (bo subD fa fb)):=de_op op_sub v_ints0 ha hb
theorem de_mul (ha:PE X a (tM g rW W fa)) (hb:PE X b (tM g rW W fb)):PE X (.BinOp a .Mult b pos) (tM g rD W (bo mulD fa fb)):=de_op op_mul (v_ints fun _ _ h=>of_decide_eq_true h) ha hb
theorem de_mod (ha:PE X a (tM g rW W fa)) (hb:PE X b (tM g rW W fb)):PE X (.BinOp a .Mod b pos) (tM g rD W (bo modD fa fb)):=de_op op_mod (v_ints fun _ _ h=>of_decide_eq_true h) ha hb
theorem de_fdiv (ha:PE X a (tM g rW W fa)) (hb:PE X b (tM g rW W fb)):PE X (.BinOp a .FloorDiv b pos) (tM g rD W (bo fdivD fa fb)):=de_op op_fdiv (v_ints fun _ _ h=>of_decide_eq_true h) ha hb
theorem de_pow (ha:PE X a (tM g rW W fa)) (hb:PE X b (tM g rW W fb)):PE X (.BinOp a .Pow b pos) (tM g rD W (bo powD fa fb)):=de_op op_pow (v_ints fun _ _ h=>of_decide_eq_true h) ha hb
end
def cmpI (p:Int→Int→Bool):D→D→Option D
 | .int i,.int j=>some (.bl (p i j))
 | _,_=>none
theorem v_cmpI {g:G} {p:Int→Int→Bool}:V2 g (rI0 fun i j=>.bl (p i j)) (cmpI p):=by
 intro A B H ω x y a b c Q w ha hb e q
 cases a with
 | int i =>
  cases b with
  | int j =>
   cases ha; cases hb; cases e
   exact ⟨i,j,rfl,rfl,q.now w (.bl _)⟩
  | _=>cases e
 | _=>cases e
def ltD:D→D→Option D:=cmpI fun i j=>decide (i < j)
def gtD:D→D→Option D:=cmpI fun i j=>decide (j < i)
def geD:D→D→Option D:=cmpI fun i j=>decide (j ≤ i)
theorem v_lt {g:G}:V2 g (rI0 fun i j=>.bl (decide (i < j))) ltD:=v_cmpI
theorem v_gt {g:G}:V2 g (rI0 fun i j=>.bl (decide (j < i))) gtD:=v_cmpI
theorem v_ge {g:G}:V2 g (rI0 fun i j=>.bl (decide (j ≤ i))) geD:=v_cmpI
def isN:D→D→Option D
 | .oid _,_=>none
 | x,.non=>some (.bl (match x with | .non=>true | _=>false))
 | _,_=>none
def notN:D→D→Option D
 | .oid _,_=>none
 | x,.non=>some (.bl (match x with | .non=>false | _=>true))
 | _,_=>none
theorem Vw.none_iff {g:G} {A:Ad} {B:Addr→Prop} {H:Hp} {x:V} {a:D} (h:Vw g A B H x a):decide (x=.non)=(match a with | .non=>true | _=>false):=by
 cases a with
 | non=>cases h; rfl
 | bl _=>cases h; rfl
 | int _=>cases h; rfl
 | str _=>cases h; rfl
 | tup ds=>obtain ⟨a,vs,rfl,_⟩:=Dp.seq h; rfl
 | lst ds=>obtain ⟨a,vs,rfl,_⟩:=h; rfl
 | dic ds=>obtain ⟨a,vs,rfl,_⟩:=h; rfl
 | obj c fs=>obtain ⟨a,C,dx,vs,rfl,_⟩:=h; rfl
 | oid k=>exact h.elim
 | scr ns=>obtain ⟨a,rfl,_⟩:=h; rfl
 | exc c fs=>cases (show Dp g A B H x (.exc c fs) from h) <;> rfl
theorem v_isN {g:G}:V2 g (fun x y H Q=>y=.non ∧ Q (.bl (decide (x=.non))) H) isN:=by
 intro A B H ω x y a b c Q w ha hb e q
 cases b with
 | non =>
  cases hb
  refine ⟨rfl,?_⟩
  rw [ha.none_iff]
  cases a with
  | oid k=>exact (show False from ha).elim
  | _=>cases e; exact q.now w (.bl _)
 | _=>cases a <;> cases e
theorem v_notN {g:G}:V2 g (fun x y H Q=>y=.non ∧ Q (.bl (!decide (x=.non))) H) notN:=by
 intro A B H ω x y a b c Q w ha hb e q
 cases b with
 | non =>
  cases hb
  refine ⟨rfl,?_⟩
  rw [ha.none_iff]
  cases a with
  | oid k=>exact (show False from ha).elim
  | _=>cases e; exact q.now w (.bl _)
 | _=>cases a <;> cases e
mutual
def toPy:D→PyData
 | .non=>.none
 | .bl b=>.bool b
 | .int i=>.int i
 | .str x=>.str x
 | .tup ds=>.tuple (toPyL ds)
 | .lst ds=>.list (toPyL ds)
 | .dic _=>.none
 | .obj _ _=>.none
 | .oid _=>.none
 | .scr _=>.none
 | .exc _ _=>.none
def toPyL:List D→List PyData
 | []=>[]
 | d :: ds=>toPy d :: toPyL ds
end
mutual
def plain:D→Bool
 | .non=>true
 | .bl _=>true
 | .int _=>true
 | .str x=>PySem.PyData.strOk x
 | .tup ds=>plainL ds
 | .lst ds=>plainL ds
 | .dic _=>false
 | .obj _ _=>false
 | .oid _=>false
 | .scr _=>false
 | .exc _ _=>false
def plainL:List D→Bool
 | []=>true
 | d :: ds=>plain d && plainL ds
end
mutual
def dep:D→Nat
 | .tup ds=>depL ds + 1
 | .lst ds=>depL ds + 1
 | .non=>0
 | .bl _=>0
 | .int _=>0
 | .str _=>0
 | .dic _=>0
 | .obj _ _=>0
 | .oid _=>0
 | .scr _=>0
 | .exc _ _=>0
def depL:List D→Nat
 | []=>0
 | d :: ds=>max (dep d) (depL ds)
end
mutual
def eqb:D→D→Bool
 | .non,.non=>true
 | .bl a,.bl b=>a == b
 | .bl a,.int j=>(if a then 1 else 0) == j
 | .int i,.bl b=>i == (if b then 1 else 0)
 | .int i,.int j=>i == j
 | .str x,.str y=>x == y
 | .lst xs,.lst ys=>eqbL xs ys
 | .tup xs,.tup ys=>eqbL xs ys
 | _,_=>false
def eqbL:List D→List D→Bool
 | [],[]=>true
 | x :: xs,y :: ys=>eqb x y && eqbL xs ys
 | _,_=>false
end
mutual
theorem eqv_toPy:∀ (a b:D),plain a=true→plain b=true→PyData.eqv (toPy a) (toPy b)=eqb a b
 | .non,b,_,hb=>by cases b <;> first | rfl | (simp [plain] at hb)
 | .bl x,b,_,hb=>by cases b <;> first | rfl | (simp [plain] at hb)
 | .int x,b,_,hb=>by cases b <;> first | rfl | (simp [plain] at hb)
 | .str x,b,_,hb=>by cases b <;> first | rfl | (simp [plain] at hb)
 | .tup xs,b,ha,hb=>by
  cases b with
  | tup ys=>exact eqvL_toPy xs ys (by simpa [plain] using ha) (by simpa [plain] using hb)
  | _=>first | rfl | (simp [plain] at hb)
 | .lst xs,b,ha,hb=>by
  cases b with
  | lst ys=>exact eqvL_toPy xs ys (by simpa [plain] using ha) (by simpa [plain] using hb)
  | _=>first | rfl | (simp [plain] at hb)
 | .dic _,_,ha,_=>by simp [plain] at ha
 | .obj _ _,_,ha,_=>by simp [plain] at ha
 | .oid _,_,ha,_=>by simp [plain] at ha
 | .scr _,_,ha,_=>by simp [plain] at ha
 | .exc _ _,_,ha,_=>by simp [plain] at ha
theorem eqvL_toPy:∀ (a b:List D),plainL a=true→plainL b=true→PyData.eqvAll (toPyL a) (toPyL b)=eqbL a b
 | [],[],_,_=>rfl
 | [],_ :: _,_,_=>rfl
 | _ :: _,[],_,_=>rfl
 | x :: xs,y :: ys,ha,hb=>by
  simp only [plainL,Bool.and_eq_true] at ha hb
  simp only [toPyL,PyData.eqvAll,eqbL,eqv_toPy x y ha.1 hb.1,eqvL_toPy xs ys ha.2 hb.2]
end
mutual
theorem lay_toPy:∀ (a:D),plain a=true→PyData.canLay0 (toPy a)=true ∧ PyData.depth (toPy a)=dep a
 | .non,_=>⟨rfl,rfl⟩
 | .bl _,_=>⟨rfl,rfl⟩
 | .int _,_=>⟨rfl,rfl⟩
 | .str x,h=>⟨by simpa [plain,toPy,PyData.canLay0] using h,rfl⟩
 | .tup xs,h=>by
  have:=layL_toPy xs (by simpa [plain] using h)
  exact ⟨by simpa [toPy,PyData.canLay0] using this.1,by simp [toPy,PyData.depth,dep,this.2]⟩
 | .lst xs,h=>by
  have:=layL_toPy xs (by simpa [plain] using h)
  exact ⟨by simpa [toPy,PyData.canLay0] using this.1,by simp [toPy,PyData.depth,dep,this.2]⟩
 | .dic _,h=>by simp [plain] at h
 | .obj _ _,h=>by simp [plain] at h
 | .oid _,h=>by simp [plain] at h
 | .scr _,h=>by simp [plain] at h
 | .exc _ _,h=>by simp [plain] at h
theorem layL_toPy:∀ (a:List D),plainL a=true→PyData.canLayAll0 (toPyL a)=true ∧ PyData.depthAll (toPyL a)=depL a
 | [],_=>⟨rfl,rfl⟩
 | x :: xs,h=>by
  simp only [plainL,Bool.and_eq_true] at h
  have h1:=lay_toPy x h.1
  have h2:=layL_toPy xs h.2
  exact ⟨by simp [toPyL,PyData.canLayAll0,h1.1,h2.1],by simp [toPyL,PyData.depthAll,depL,h1.2,h2.2]⟩
end
theorem shaped_toPy {a:D} (h:plain a=true) (hd:dep a ≤ 64):SeqAt.shaped (toPy a)=true:=by
 have:=lay_toPy a h
 unfold SeqAt.shaped
 rw [this.1,this.2]
 simpa using hd
mutual
theorem dp_toPy {g:G} {A:Ad} {B:Addr→Prop} {H:Hp}:∀ (d:D) (v:V),plain d=true→Dp g A B H v d→L2.Dp g.K H v (toPy d)
 | .non,_,_,h=>by cases h; exact .non
 | .bl b,_,_,h=>by cases h; exact .bl b
 | .int b,_,_,h=>by cases h; exact .int b
 | .str b,_,_,h=>by cases h; exact .str b
 | .tup ds,_,p,h=>by
  obtain ⟨a,vs,rfl,hs,l⟩:=Dp.seq h
  exact .tup hs (dpL_toPy ds vs (by simpa [plain] using p) l)
 | .lst ds,_,p,h=>by
  cases h with
  | lst n r l=>exact .lst (SqL.of r) (dpL_toPy ds _ (by simpa [plain] using p) l)
 | .dic _,_,h,_=>by simp [plain] at h
 | .obj _ _,_,h,_=>by simp [plain] at h
 | .oid _,_,h,_=>by simp [plain] at h
 | .scr _,_,h,_=>by simp [plain] at h
 | .exc _ _,_,h,_=>by simp [plain] at h
theorem dpL_toPy {g:G} {A:Ad} {B:Addr→Prop} {H:Hp}:∀ (ds:List D) (vs:List V),plainL ds=true→DpL g A B H vs ds→L2.DpAll g.K H vs (toPyL ds)
 | [],_,_,h=>by cases h; exact .nil
 | d :: ds,_,p,h=>by
  simp only [plainL,Bool.and_eq_true] at p
  cases h with
  | cons h1 h2=>exact .cons (dp_toPy d _ p.1 h1) (dpL_toPy ds _ p.2 h2)
end
theorem vw_toPy {g:G} {A:Ad} {B:Addr→Prop} {H:Hp} {d:D} {v:V} (p:plain d=true) (h:Vw g A B H v d):L2.Dp g.K H v (toPy d):=by
 cases d with
 | non=>cases h; exact .non
 | bl b=>cases h; exact .bl b
 | int b=>cases h; exact .int b
 | str b=>cases h; exact .str b
 | tup ds=>exact dp_toPy _ _ p h
 | lst ds =>
  obtain ⟨a,vs,rfl,hp,l⟩:=h
  exact .lst (SqL.of hp) (dpL_toPy ds vs (by simpa [plain] using p) l)
 | _=>simp [plain] at p
def fine (d:D):Bool:=plain d && decide (dep d ≤ 64)
theorem fine_iff {d:D}:fine d=true ↔ plain d=true ∧ dep d ≤ 64:=by simp [fine]
def eqD (x y:D):Option D:=if (fine x && fine y)=true then some (.bl (eqb x y)) else none
def neD (x y:D):Option D:=if (fine x && fine y)=true then some (.bl !(eqb x y)) else none
theorem eqD_fine {x y:D} (hx:fine x=true) (hy:fine y=true):eqD x y=some (.bl (eqb x y)):=if_pos (by rw [hx,hy]; rfl)
theorem neD_fine {x y:D} (hx:fine x=true) (hy:fine y=true):neD x y=some (.bl !(eqb x y)):=if_pos (by rw [hx,hy]; rfl)
theorem v_eq (g:G):V2 g (rEqD g.K) eqD:=by
 intro A B H ω x y a b c Q w ha hb e q
 unfold eqD at e
 split at e
 · rename_i hf
   simp only [Bool.and_eq_true,fine_iff] at hf
   cases e
   refine ⟨toPy a,toPy b,vw_toPy hf.1.1 ha,vw_toPy hf.2.1 hb,shaped_toPy hf.1.1 hf.1.2,shaped_toPy hf.2.1 hf.2.2,?_⟩
   rw [eqv_toPy a b hf.1.1 hf.2.1]
   exact q.now w (.bl _)
 · cases e
theorem v_ne (g:G):V2 g (rNeD g.K) neD:=by
 intro A B H ω x y a b c Q w ha hb e q
 unfold neD at e
 split at e
 · rename_i hf
   simp only [Bool.and_eq_true,fine_iff] at hf
   cases e
   refine ⟨toPy a,toPy b,vw_toPy hf.1.1 ha,vw_toPy hf.2.1 hb,shaped_toPy hf.1.1 hf.1.2,shaped_toPy hf.2.1 hf.2.2,?_⟩
   rw [eqv_toPy a b hf.1.1 hf.2.1]
   exact q.now w (.bl _)
 · cases e
end DL
namespace DL
open PySem L2
def flat:D→Bool
 | .non=>true
 | .bl _=>true
 | .int _=>true
 | .str _=>true
 | _=>false
theorem flat_dp {g:G} {A:Ad} {B:Addr→Prop} {H:Hp} {d:D} {v:V} (f:flat d=true) (h:Vw g A B H v d):flatV v=true:=by
 cases d with
 | non=>cases h; rfl
 | bl b=>cases h; rfl
 | int b=>cases h; rfl
 | str b=>cases h; rfl
 | _=>cases f
theorem Dp.flatw {g:G} {A:Ad} {B:Addr→Prop} {H:Hp} {d:D} {v:V} (f:flat d=true) (h:Dp g A B H v d):Vw g A B H v d:=by
 cases h with
 | non=>rfl
 | bl b=>rfl
 | int b=>rfl
 | str b=>rfl
 | _=>cases f
theorem eqV_flat {g:G} {A:Ad} {B:Addr→Prop} {H:Hp} {d e:D} {v u:V} (f:flat d=true) (f':flat e=true) (h:Vw g A B H v d) (h':Vw g A B H u e):eqV v u=eqb d e:=by
 cases d with
 | non =>
  cases h
  cases e with
  | non=>cases h'; rfl
  | bl b=>cases h'; rfl
  | int b=>cases h'; rfl
  | str b=>cases h'; rfl
  | _=>cases f'
 | bl b =>
  cases h
  cases e with
  | non=>cases h'; rfl
  | bl b=>cases h'; rfl
  | int b=>cases h'; rfl
  | str b=>cases h'; rfl
  | _=>cases f'
 | int b =>
  cases h
  cases e with
  | non=>cases h'; rfl
  | bl b=>cases h'; rfl
  | int b=>cases h'; rfl
  | str b=>cases h'; rfl
  | _=>cases f'
 | str b =>
  cases h
  cases e with
  | non=>cases h'; rfl
  | bl b=>cases h'; rfl
  | int b=>cases h'; rfl
  | str b=>cases h'; rfl
  | _=>cases f'
 | _=>cases f
theorem flats_dp {g:G} {A:Ad} {B:Addr→Prop} {H:Hp} {d:D} {v:V} (f:flat d=true) (h:Vw g A B H v d):∀ {es:List D} {vs:List V},es.all flat=true→DpL g A B H vs es→vs.all flatV=true ∧ inV v vs=es.any fun z=>eqb z d
 | [],_,_,l=>by cases l; exact ⟨rfl,rfl⟩
 | e :: es,_,fl,l=>by
  cases l with
  | cons h1 h2 =>
   simp only [List.all_cons,Bool.and_eq_true] at fl
   obtain ⟨q1,q2⟩:=flats_dp f h fl.2 h2
   refine ⟨by simp [flat_dp fl.1 (Dp.flatw fl.1 h1),q1],?_⟩
   unfold inV at q2 ⊢
   simp only [List.any_cons,q2,eqV_flat fl.1 f (Dp.flatw fl.1 h1) h]
def rNotInA (K:PySem.W.Frag):R2:=fun x y H Q=>rIn K true x y H Q ∨ rNotInD K x y H Q ∨ ∃ i j,x=.str i ∧ y=.str j ∧ Q (.bl (!(!(Builtin.Str.occurrences j i 0 j.length 1).isEmpty))) H
theorem op_notInA {X:Cx} (hu:X.A.units + 65 < cLine):OpR X (compareOp .NotIn) (rNotInA X.K):=op_notIn_seq.or ((op_notInD hu).or op_notIn_str)
def inB:D→D→Option Bool
 | x,.lst ds=>if (fine x && fine (.lst ds))=true then some (ds.any fun z=>eqb z x) else none
 | x,.tup ds=>if (flat x && ds.all flat)=true then some (ds.any fun z=>eqb z x) else none
 | .str i,.str j=>some (!(Builtin.Str.occurrences j i 0 j.length 1).isEmpty)
 | _,_=>none
def notInD (x y:D):Option D:=(inB x y).map fun b=>D.bl !b
theorem any_toPy {x:D} (hx:plain x=true):∀ ds:List D,plainL ds=true→((toPyL ds).any fun z=>PyData.eqv z (toPy x))=ds.any fun z=>eqb z x
 | [],_=>rfl
 | d :: ds,h=>by
  simp only [plainL,Bool.and_eq_true] at h
  simp only [toPyL,List.any_cons,any_toPy hx ds h.2,eqv_toPy d x h.1 hx]
theorem v_in_aux (g:G) {A:Ad} {B:Addr→Prop} {H:Hp} {x y:V} {a b:D} {k:Bool} (ha:Vw g A B H x a) (hb:Vw g A B H y b) (e:inB a b=some k) :
  (∃ p xs,y=.ref p ∧ (SqL g.K H p xs ∨ SqT g.K H p xs) ∧ flatV x=true ∧ xs.all flatV=true ∧ inV x xs=k) ∨
  (∃ d ds,L2.Dp g.K H x d ∧ L2.Dp g.K H y (.list ds) ∧ SeqAt.shaped d=true ∧ SeqAt.shaped (.list ds)=true ∧ (ds.any fun z=>PyData.eqv z d)=k) ∨
  ∃ i j,x=.str i ∧ y=.str j ∧ (!(Builtin.Str.occurrences j i 0 j.length 1).isEmpty)=k:=by
 cases b with
 | lst ds =>
  have e:(if (fine a && fine (.lst ds))=true then some (ds.any fun z=>eqb z a) else none)=some k:=by cases a <;> exact e
  split at e
  · rename_i hf
    simp only [Bool.and_eq_true,fine_iff] at hf
    cases e
    have pl:plainL ds=true:=by simpa [plain] using hf.2.1
    exact .inr (.inl ⟨toPy a,toPyL ds,vw_toPy hf.1.1 ha,vw_toPy hf.2.1 hb,shaped_toPy hf.1.1 hf.1.2,shaped_toPy hf.2.1 hf.2.2,any_toPy hf.1.1 ds pl⟩)
  · cases e
 | tup ds =>
  have e:(if (flat a && ds.all flat)=true then some (ds.any fun z=>eqb z a) else none)=some k:=by cases a <;> exact e
  split at e
  · rename_i hf
    simp only [Bool.and_eq_true] at hf
    cases e
    obtain ⟨p,vs,rfl,hs,l⟩:=Dp.seq hb
    obtain ⟨q1,q2⟩:=flats_dp hf.1 ha hf.2 l
    exact .inl ⟨p,vs,rfl,.inr hs,flat_dp hf.1 ha,q1,q2⟩
  · cases e
 | str j =>
  cases a with
  | str i =>
   cases ha; cases hb
   cases e
   exact .inr (.inr ⟨i,j,rfl,rfl,rfl⟩)
  | _=>cases e
 | _=>cases a <;> cases e
theorem v_notIn (g:G):V2 g (rNotInA g.K) notInD:=by
 intro A B H ω x y a b c Q w ha hb e q
 unfold notInD at e
 cases k:inB a b with
 | none=>rw [k] at e; cases e
 | some k' =>
  rw [k] at e
  cases e
  rcases v_in_aux g ha hb k with ⟨p,xs,h1,h2,h3,h4,h5⟩ | ⟨d,ds,h1,h2,h3,h4,h5⟩ | ⟨i,j,h1,h2,h3⟩
  · exact .inl ⟨p,xs,h1,h2,h3,h4,by rw [if_pos rfl,h5]; exact q.now w (.bl _)⟩
  · exact .inr (.inl ⟨d,ds,h1,h2,h3,h4,by rw [h5]; exact q.now w (.bl _)⟩)
  · exact .inr (.inr ⟨i,j,h1,h2,by rw [h3]; exact q.now w (.bl _)⟩)
def ixD:D→D→Option D
 | .lst ds,.int i=>atI ds i
 | .tup ds,.int i=>atI ds i
 | .scr ns,.int i=>(atI ns i).map D.int
 | .str z,.int i=>if z.length ≤ sizeLine then (atI z.cps.toList i).map fun c=>D.str ⟨#[c]⟩ else none
 | _,_=>none
theorem atI_dp {g:G} {A:Ad} {B:Addr→Prop} {H:Hp} {ds:List D} {vs:List V} {i:Int} {d:D} (l:DpL g A B H vs ds) (e:atI ds i=some d):∃ v,atI vs i=some v ∧ Dp g A B H v d:=by
 unfold atI at e ⊢
 rw [l.length]
 cases q:ixN ds.length i with
 | none=>rw [q] at e; cases e
 | some j =>
  rw [q] at e
  exact l.get e
theorem atI_map {α β:Type} (f:α→β) (xs:List α) (i:Int):atI (xs.map f) i=(atI xs i).map f:=by
 unfold atI
 rw [List.length_map]
 cases ixN xs.length i with
 | none=>rfl
 | some j=>simp
theorem v_ix (g:G):V2 g (rIx g.K) ixD:=by
 intro A B H ω x y a b c Q w ha hb e q
 cases b with
 | int i =>
  cases hb
  cases a with
  | lst ds =>
   obtain ⟨p,vs,rfl,hp,l⟩:=ha
   obtain ⟨v,h1,h2⟩:=atI_dp l e
   exact .inl ⟨p,vs,i,v,rfl,rfl,SqL.of hp,h1,q.now w h2⟩
  | tup ds =>
   obtain ⟨p,vs,rfl,hp,l⟩:=Dp.seq ha
   obtain ⟨v,h1,h2⟩:=atI_dp l e
   exact .inr (.inl ⟨p,vs,i,v,rfl,rfl,hp,h1,q.now w h2⟩)
  | scr ns =>
   obtain ⟨p,rfl,hp⟩:=ha
   have e:(atI ns i).map D.int=some c:=e
   cases k:atI ns i with
   | none=>rw [k] at e; cases e
   | some n =>
    rw [k] at e; cases e
    exact .inl ⟨p,_,i,V.int n,rfl,rfl,hp,by rw [atI_map,k]; rfl,q.now w (.int n)⟩
  | str z =>
   cases ha
   simp only [ixD] at e
   split at e
   · cases k:atI z.cps.toList i with
     | none=>rw [k] at e; cases e
     | some n =>
      rw [k] at e; cases e
      exact .inr (.inr ⟨z,i,n,rfl,rfl,by assumption,k,q.now w (.str _)⟩)
   · cases e
  | _=>cases e
 | _=>cases a <;> cases e
section
variable {X:Cx} {g:G} {W:WX} {a b:Expr} {fa fb:M D} {pos:Pos}
theorem de_item (hK:X.K=g.K) (ha:PE X a (tM g rW W fa)) (hb:PE X b (tM g rW W fb)) (hs:PlainIx b:=by exact fun _ _=>rfl):PE X (.Subscript a b pos) (tM g rD W (bo ixD fa fb)) :=
 de_ix ix_seq (by rw [hK]; exact v_ix g) ha hb hs
end
section
variable {X:Cx} {g:G} {W:WX} {e:Expr} {lo hi:Option Expr} {f:M D} {fl fh:M (Option Int)} {pos p2:Pos}
def revD:D→Option D
 | .lst ds=>some (.lst ds.reverse)
 | _=>none
theorem de_rev {k:Nat} {p1 p2 p3:Pos} (hK:X.K=g.K) (he:PE X e (tM g rW W f)):PE X (.Subscript e (.Slice none none (some (.UnaryOp .USub (.Constant (.int 1) k p1) p2)) p3) pos) (tM g rD W (uo revD f)) :=
 (pe_revL he).dl fun σ H Q h=>by
  rw [hK]
  refine tM_op1 (r:=fun x H1 Q=>∃ a xs,x=.ref a ∧ SqL g.K H1 a xs ∧ ∀ p,H1 p=none→Q (.ref p) (upd H1 p (.lst xs.reverse))) ?_ σ H Q h
  intro A B H ω x a c Q w ha e q
  cases a with
  | lst ds =>
   cases e
   obtain ⟨p,vs,rfl,hp,l⟩:=ha
   exact ⟨p,vs,rfl,SqL.of hp,q.lst w l.reverse⟩
  | _=>cases e
end
section
variable {X:Cx} {g:G} {W:WX} {e e2:Expr} {fa fb:M D} {f:D→Option D} {f2:D→D→Option D} {x:Str} {p pos:Pos} {idn T:String} {r:List V→Hp→VK→Prop}
theorem tM_call1 (hv:V1 g (fun x H Q=>r [x] H Q) f):∀ σ H Q,tM g rD W (uo f fa) σ H Q→tCB r (tCons (tM g rW W fa) tNil) σ H Q:=fun σ H Q h=>tM_op1 (r:=fun x H Q=>r [x] H Q) hv σ H Q h
theorem de_callB1 (hc:CallR X (.builtin idn) r) (hv:V1 g (fun x H Q=>r [x] H Q) f) (hg:Gl X x) (hm:X.mg x=none) (hb:bootBuiltins x=some (.builtin idn)) (ha:PE X e (tM g rW W fa)) (hn:x ≠ "__name__" := by decide) (hdb:(x == ("__debug__" : Str))=false:=by decide)
  (he:starEach [e] X.env=(false,eval e X.env) :: starEach [] X.env:=by rfl) (hpl:(backTo pos (starEach [] X.env)).any (·.1)=false:=by rfl):PE X (.Call (.Name x p) [e] [] pos) (tM g rD W (uo f fa)) :=
 (pe_callB hc hg hm hb (pa_cons ha pa_nil he) hn hdb he hpl).dl (tM_call1 hv)
theorem de_callT1 (hc:CallR X (.type T) r) (hv:V1 g (fun x H Q=>r [x] H Q) f) (hg:Gl X x) (hm:X.mg x=none) (hb:bootBuiltins x=some (.type T)) (ha:PE X e (tM g rW W fa)) (hn:x ≠ "__name__" := by decide) (hdb:(x == ("__debug__" : Str))=false:=by decide)
  (he:starEach [e] X.env=(false,eval e X.env) :: starEach [] X.env:=by rfl) (hpl:(backTo pos (starEach [] X.env)).any (·.1)=false:=by rfl):PE X (.Call (.Name x p) [e] [] pos) (tM g rD W (uo f fa)) :=
 (pe_callTy hc hg hm hb (pa_cons ha pa_nil he) hn hdb he hpl).dl (tM_call1 hv)
def lenD:D→Option D
 | .str x=>if x.length ≤ sizeLine then some (.int x.length) else none
 | .tup ds=>some (.int ds.length)
 | .lst ds=>some (.int ds.length)
 | .scr ns=>some (.int ns.length)
 | _=>none
theorem v_len (g:G):V1 g (fun x H Q=>∃ x' n,[x]=[x'] ∧ LenV g.K x' H n ∧ Q (.int n) H) lenD:=by
 intro A B H ω x a c Q w ha e q
 cases a with
 | str z =>
  cases ha
  simp only [lenD] at e
  split at e
  · cases e
    exact ⟨_,_,rfl,⟨by assumption,rfl⟩,q.now w (.int _)⟩
  · cases e
 | tup ds =>
  cases e
  obtain ⟨p,vs,rfl,hp,l⟩:=Dp.seq ha
  exact ⟨_,_,rfl,.inr ⟨vs,hp,rfl⟩,by rw [l.length]; exact q.now w (.int _)⟩
 | lst ds =>
  cases e
  obtain ⟨p,vs,rfl,hp,l⟩:=ha
  exact ⟨_,_,rfl,.inl ⟨vs,SqL.of hp,rfl⟩,by rw [l.length]; exact q.now w (.int _)⟩
 | scr ns =>
  cases e
  obtain ⟨p,rfl,hp⟩:=ha
  exact ⟨_,_,rfl,.inl ⟨_,hp,rfl⟩,by rw [List.length_map]; exact q.now w (.int _)⟩
 | _=>cases e
theorem de_len (hK:X.K=g.K) (hg:Gl X "len") (hm:X.mg "len" = none) (ha:PE X e (tM g rW W fa)) (he:starEach [e] X.env=(false,eval e X.env) :: starEach [] X.env:=by rfl):PE X (.Call (.Name "len" p) [e] [] pos) (tM g rD W (uo lenD fa)) :=
 de_callB1 call_len (by rw [hK]; exact v_len g) hg hm PySem.boot_len ha (he:=he)
def absD:D→Option D
 | .int i=>some (.int (if i < 0 then -i else i))
 | _=>none
theorem v_abs:V1 g (fun x H Q=>∃ i,[x]=[.int i] ∧ Q (.int (if i < 0 then -i else i)) H) absD:=by
 intro A B H ω x a c Q w ha e q
 cases a with
 | int i=>cases ha; cases e; exact ⟨i,rfl,q.now w (.int _)⟩
 | _=>cases e
theorem de_abs (hg:Gl X "abs") (hm:X.mg "abs" = none) (ha:PE X e (tM g rW W fa)) (he:starEach [e] X.env=(false,eval e X.env) :: starEach [] X.env:=by rfl):PE X (.Call (.Name "abs" p) [e] [] pos) (tM g rD W (uo absD fa)) :=
 de_callB1 call_abs v_abs hg hm (by decide +kernel) ha (he:=he)
def intD:D→Option D
 | .int i=>some (.int i)
 | .bl b=>some (.int (if b then 1 else 0))
 | _=>none
theorem v_int:V1 g (fun x H Q=>(∃ i,[x]=[.int i] ∧ Q (.int i) H) ∨ ∃ k,[x]=[.bl k] ∧ Q (.int (if k then 1 else 0)) H) intD:=by
 intro A B H ω x a c Q w ha e q
 cases a with
 | int i=>cases ha; cases e; exact .inl ⟨i,rfl,q.now w (.int _)⟩
 | bl i=>cases ha; cases e; exact .inr ⟨i,rfl,q.now w (.int _)⟩
 | _=>cases e
theorem de_toInt (hg:Gl X "int") (hm:X.mg "int" = none) (ha:PE X e (tM g rW W fa)) (he:starEach [e] X.env=(false,eval e X.env) :: starEach [] X.env:=by rfl):PE X (.Call (.Name "int" p) [e] [] pos) (tM g rD W (uo intD fa)) :=
 de_callT1 call_int1 v_int hg hm (by decide +kernel) ha (he:=he)
def tupleD:D→Option D
 | .lst ds=>some (.tup ds)
 | .tup ds=>some (.tup ds)
 | _=>none
theorem v_tuple (g:G):V1 g (fun x H Q=>∃ p ys,[x]=[.ref p] ∧ ((SqL g.K H p ys ∧ ∀ l,H l=none→Q (.ref l) (upd H l (.tup ys))) ∨ (SqT g.K H p ys ∧ Q (.ref p) H))) tupleD:=by
 intro A B H ω x a c Q w ha e q
 cases a with
 | lst ds =>
  cases e
  obtain ⟨p,vs,rfl,hp,l⟩:=ha
  exact ⟨p,vs,rfl,.inl ⟨SqL.of hp,q.tup w l⟩⟩
 | tup ds =>
  cases e
  obtain ⟨p,vs,rfl,hp,l⟩:=Dp.seq ha
  exact ⟨p,vs,rfl,.inr ⟨hp,q.now w ha⟩⟩
 | _=>cases e
theorem de_tuple (hK:X.K=g.K) (hg:Gl X "tuple") (hm:X.mg "tuple" = none) (ha:PE X e (tM g rW W fa)) (he:starEach [e] X.env=(false,eval e X.env) :: starEach [] X.env:=by rfl):PE X (.Call (.Name "tuple" p) [e] [] pos) (tM g rD W (uo tupleD fa)) :=
 de_callT1 call_tuple_of (by rw [hK]; exact v_tuple g) hg hm (by decide +kernel) ha (he:=he)
def listD:D→Option D
 | .lst ds=>some (.lst ds)
 | .tup ds=>some (.lst ds)
 | .scr ns=>some (.lst (ns.map D.int))
 | _=>none
theorem DpL.ints {A:Ad} {B:Addr→Prop} {H:Hp}:∀ ns:List Int,DpL g A B H (ns.map V.int) (ns.map D.int)
 | []=>.nil
 | n :: ns=>.cons (.int n) (DpL.ints ns)
theorem v_list (g:G):V1 g (fun x H Q=>∃ p ys,[x]=[.ref p] ∧ (SqL g.K H p ys ∨ SqT g.K H p ys) ∧ ∀ l,H l=none→Q (.ref l) (upd H l (.lst ys))) listD:=by
 intro A B H ω x a c Q w ha e q
 cases a with
 | lst ds =>
  cases e
  obtain ⟨p,vs,rfl,hp,l⟩:=ha
  exact ⟨p,vs,rfl,.inl (SqL.of hp),q.lst w l⟩
 | tup ds =>
  cases e
  obtain ⟨p,vs,rfl,hp,l⟩:=Dp.seq ha
  exact ⟨p,vs,rfl,.inr hp,q.lst w l⟩
 | scr ns =>
  cases e
  obtain ⟨p,rfl,hp⟩:=ha
  exact ⟨p,_,rfl,.inl hp,q.lst w (DpL.ints ns)⟩
 | _=>cases e
theorem de_list (hK:X.K=g.K) (hg:Gl X "list") (hm:X.mg "list" = none) (ha:PE X e (tM g rW W fa)) (he:starEach [e] X.env=(false,eval e X.env) :: starEach [] X.env:=by rfl):PE X (.Call (.Name "list" p) [e] [] pos) (tM g rD W (uo listD fa)) :=
 de_callT1 call_list_of (by rw [hK]; exact v_list g) hg hm (by decide +kernel) ha (he:=he)
def boolsOf:List D→Option (List Bool)
 | []=>some []
 | .bl b :: r=>(boolsOf r).map (b :: ·)
 | _ :: _=>none
theorem boolsOf_dp {A:Ad} {B:Addr→Prop} {H:Hp}:∀ {ds:List D} {vs:List V} {bs:List Bool},boolsOf ds=some bs→DpL g A B H vs ds→vs=bs.map V.bl
 | [],_,_,e,l=>by cases e; cases l; rfl
 | d :: ds,_,bs,e,l=>by
  cases l with
  | cons h1 h2 =>
   cases d with
   | bl b =>
    simp only [boolsOf] at e
    cases q:boolsOf ds with
    | none=>rw [q] at e; cases e
    | some cs =>
     rw [q] at e
     cases e
     cases h1
     simp [boolsOf_dp q h2]
   | _=>simp [boolsOf] at e
theorem boolsOf_map (bs:List Bool):boolsOf (bs.map D.bl)=some bs:=by
 induction bs with
 | nil=>rfl
 | cons b bs ih=>simp [boolsOf,ih]
def anyD:D→Option D
 | .lst ds=>(boolsOf ds).map fun bs=>.bl (bs.any id)
 | _=>none
theorem v_any (g:G):V1 g (fun x H Q=>rAny g.K [x] H Q) anyD:=by
 intro A B H ω x a c Q w ha e q
 cases a with
 | lst ds =>
  obtain ⟨p,vs,rfl,hp,l⟩:=ha
  simp only [anyD] at e
  cases k:boolsOf ds with
  | none=>rw [k] at e; cases e
  | some bs =>
   rw [k] at e
   cases e
   have:=boolsOf_dp k l
   subst this
   exact ⟨p,bs,rfl,SqL.of hp,q.now w (.bl _)⟩
 | _=>cases e
theorem de_any (hK:X.K=g.K) (hc:X.calm=true) (hg:Gl X "any") (hm:X.mg "any" = none) (ha:PE X e (tM g rW W fa)) (he:starEach [e] X.env=(false,eval e X.env) :: starEach [] X.env:=by rfl):PE X (.Call (.Name "any" p) [e] [] pos) (tM g rD W (uo anyD fa)) :=
 de_callB1 (cr_any hc) (by rw [hK]; exact v_any g) hg hm (by decide +kernel) ha (he:=he)
end
end DL
namespace DL
open PySem L2
inductive RS where
 | nx (ρ:Rho) (ω:List Cell)
 | rt (d:D) (ω:List Cell)
 | bk (ρ:Rho) (ω:List Cell)
 | ct (ρ:Rho) (ω:List Cell)
 | exc (x:Exc) (ρ:Rho) (ω:List Cell)
abbrev MS:=Rho→List Cell→Option RS
def bindS {α:Type} (f:M α) (k:α→MS):MS:=fun ρ ω =>
 match f ρ ω with
 | none=>none
 | some (.exc x ω')=>some (.exc x ρ ω')
 | some (.val a ω')=>k a ρ ω'
def seqS (F K:MS):MS:=fun ρ ω =>
 match F ρ ω with
 | some (.nx ρ' ω')=>K ρ' ω'
 | r=>r
section
variable {A A1 A2:Ad} {B B1 B2:Addr→Prop} {H H1 H2:Hp}
theorem Mv.refl (A:Ad) (B:Addr→Prop) (H:Hp):Mv A B H A B H:=⟨fun _ _ n e=>⟨e,n⟩,fun _ _ h=>.inl h,fun _ _ _ h=>h⟩
theorem Mv.trans (s:Mv A B H A1 B1 H1) (t:Mv A1 B1 H1 A2 B2 H2):Mv A B H A2 B2 H2 :=
 ⟨fun a o n e=>t.cell a o (s.cell a o n e).2 (s.cell a o n e).1,fun k x h=>by
  rcases s.ids k x h with e | e
  · exact t.ids k x e
  · rcases t.ids k none e with e | e
    · exact .inr e
    · exact .inr e,fun a o u h=>t.frz a o u (s.frz a o u h)⟩
end
structure En where
 A:Ad
 B:Addr→Prop
 H:Hp
def ResS (g:G) (n:En) (W:WX) (A:Ad) (B:Addr→Prop) (H:Hp) (D:Ends):RS→Prop
 | .nx ρ' ω'=>∀ σ' A' B' H',Mv A B H A' B' H'→Stp n.A n.B n.H A' B' H'→Fm g n.H A' B' H' ω' σ' ρ'→D.nx σ' H'
 | .rt d ω'=>∀ v A' B' H',Stp n.A n.B n.H A' B' H'→Wo g A' B' H' ω'→Dp g A' B' H' v d→D.rt v H'
 | .bk ρ' ω'=>∀ σ' A' B' H',Mv A B H A' B' H'→Stp n.A n.B n.H A' B' H'→Fm g n.H A' B' H' ω' σ' ρ'→D.bk σ' H'
 | .ct ρ' ω'=>∀ σ' A' B' H',Mv A B H A' B' H'→Stp n.A n.B n.H A' B' H'→Fm g n.H A' B' H' ω' σ' ρ'→D.ct σ' H'
 | .exc x ρ' ω'=>∀ cls dd σ' A' B' H',Mv A B H A' B' H'→Stp n.A n.B n.H A' B' H'→Fm g n.H A' B' H' ω' σ' ρ'→XOk g A' B' H' cls dd x→W cls dd σ' H'
def tS (g:G) (n:En) (W:WX) (F:MS):TS:=fun D σ H =>
 ∃ A B ρ ω r,Stp n.A n.B n.H A B H ∧ Fm g n.H A B H ω σ ρ ∧ F ρ ω=some r ∧ ResS g n W A B H D r
section
variable {α β:Type} {g:G} {n:En} {W:WX} {A A' A1:Ad} {B B' B1:Addr→Prop} {H H' H1:Hp} {ω ω':List Cell} {σ:St} {ρ:Rho} {D:Ends} {r:RS}
theorem ResS.mv (h:ResS g n W A B H D r) (m:Mv A B H A1 B1 H1):ResS g n W A1 B1 H1 D r:=by
 cases r with
 | nx ρ' ω'=>exact fun σ' A' B' H' t=>h σ' A' B' H' (m.trans t)
 | rt d ω'=>exact h
 | bk ρ' ω'=>exact fun σ' A' B' H' t=>h σ' A' B' H' (m.trans t)
 | ct ρ' ω'=>exact fun σ' A' B' H' t=>h σ' A' B' H' (m.trans t)
 | exc x ρ' ω'=>exact fun cls dd σ' A' B' H' t=>h cls dd σ' A' B' H' (m.trans t)
theorem tS_bind {rel:Rl β α} {f:M α} {k:α→MS} (st:Stp n.A n.B n.H A B H) (fm:Fm g n.H A B H ω σ ρ) (e:bindS f k ρ ω=some r) (res:ResS g n W A B H D r) :
  tM g rel W f σ H (fun v H1=>∃ A1 B1 ω1 a,Stp A B H A1 B1 H1 ∧ Mv A B H A1 B1 H1 ∧ Stp n.A n.B n.H A1 B1 H1 ∧ Fm g n.H A1 B1 H1 ω1 σ ρ ∧ rel g A1 B1 H1 v a ∧ k a ρ ω1=some r ∧ ResS g n W A1 B1 H1 D r):=by
 unfold bindS at e
 cases q:f ρ ω with
 | none=>rw [q] at e; cases e
 | some z =>
  rw [q] at e
  cases z with
  | exc x ω' =>
   have e':some (RS.exc x ρ ω')=some r:=e
   cases e'
   exact ⟨n.H,A,B,ρ,ω,_,fm,q,fun cls dd A' B' H' t w x=>res cls dd σ A' B' H' (fm.wo.mv t) (st.trans t) (fm.up t w) x⟩
  | val a ω' =>
   have e':k a ρ ω'=some r:=e
   exact ⟨n.H,A,B,ρ,ω,_,fm,q,fun v A1 B1 H1 t w rl=>⟨A1,B1,ω',a,t,fm.wo.mv t,st.trans t,fm.up t w,rl,e',res.mv (fm.wo.mv t)⟩⟩
theorem ResS.next {ρ':Rho} {σ':St} (res:ResS g n W A B H D (.nx ρ' ω')) (m:Mv A B H A' B' H') (st:Stp n.A n.B n.H A' B' H') (fm:Fm g n.H A' B' H' ω' σ' ρ'):D.nx σ' H':=res σ' A' B' H' m st fm
end
section
variable {X:Cx} {g:G} {n:En} {W:WX} {st:Stmt} {rest:List Stmt} {F K:MS} {pos:Pos}
theorem dss_nil:PSs X [] (tS g n W fun ρ ω=>some (.nx ρ ω)):=pss_nil.dl fun D σ H ⟨A,B,ρ,ω,r,s,fm,e,res⟩=>by
 cases e
 exact res.next (.refl _ _ _) s fm
theorem dss_cons (h1:PS X st (tS g n W F)) (h2:PSs X rest (tS g n W K)):PSs X (st :: rest) (tS g n W (seqS F K)):=(pss_cons h1 h2).dl fun D σ H ⟨A,B,ρ,ω,r,s,fm,e,res⟩=>by
 unfold seqS at e
 cases q:F ρ ω with
 | none=>rw [q] at e; cases e
 | some z =>
  rw [q] at e
  refine ⟨A,B,ρ,ω,z,s,fm,q,?_⟩
  cases z with
  | nx ρ' ω'=>exact fun σ' A' B' H' m s' fm'=>⟨A',B',ρ',ω',r,s',fm',e,res.mv m⟩
  | rt d ω'=>cases e; exact res
  | bk ρ' ω'=>cases e; exact res
  | ct ρ' ω'=>cases e; exact res
  | exc x ρ' ω'=>cases e; exact res
theorem dss_one (h1:PS X st (tS g n W F)):PSs X [st] (tS g n W F):=pss_one h1
end
section
variable {g:G} {A:Ad} {B:Addr→Prop} {H H0:Hp} {ω:List Cell} {σ:St} {ρ:Rho}
theorem getElem?_set_cases {α:Type} {l:List α} {i j:Nat} {a b:α} (h:(l.set i a)[j]?=some b):(i=j ∧ j < l.length ∧ a=b) ∨ (i ≠ j ∧ l[j]?=some b):=by
 by_cases e:i=j
 · subst e
   by_cases hi:i < l.length
   · rw [List.getElem?_set_self hi] at h
     exact .inl ⟨rfl,hi,Option.some.inj h⟩
   · rw [List.getElem?_eq_none (by simpa using hi)] at h; cases h
 · rw [List.getElem?_set_ne e] at h
   exact .inr ⟨e,h⟩
theorem Slots.setF {i:Nat} {v:V} {d:D} (h:Slots g H0 A B H σ ρ) (hd:Dp g A B H v d):Slots g H0 A B H (σ.set i (some v)) (ρ.set i (.fz d)):=by
 refine ⟨by simp [h.len],fun j s e=>?_,fun a b ds es p ea eb sa sb=>?_⟩
 · rcases getElem?_set_cases e with ⟨rfl,hi,rfl⟩ | ⟨ne,e⟩
   · exact ⟨v,by rw [List.getElem?_set_self (by rw [← h.len]; exact hi)],hd⟩
   · rw [List.getElem?_set_ne ne]
     exact h.val j s e
 · rcases getElem?_set_cases ea with ⟨_,_,z⟩ | ⟨na,ea⟩
   · cases z
   · rcases getElem?_set_cases eb with ⟨_,_,z⟩ | ⟨nb,eb⟩
     · cases z
     · rw [List.getElem?_set_ne na] at sa
       rw [List.getElem?_set_ne nb] at sb
       exact h.own a b ds es p ea eb sa sb
theorem Fm.setF {i:Nat} {v:V} {d:D} (h:Fm g H0 A B H ω σ ρ) (hd:Dp g A B H v d):Fm g H0 A B H ω (σ.set i (some v)) (ρ.set i (.fz d)):=⟨h.wo,h.sl.setF hd⟩
theorem Slots.drop {i:Nat} {x:Option V} (h:Slots g H0 A B H σ ρ):Slots g H0 A B H (σ.set i x) (ρ.set i .no):=by
 refine ⟨by simp [h.len],fun j s e=>?_,fun a b ds es p ea eb sa sb=>?_⟩
 · rcases getElem?_set_cases e with ⟨rfl,hi,rfl⟩ | ⟨ne,e⟩
   · trivial
   · rw [List.getElem?_set_ne ne]
     exact h.val j s e
 · rcases getElem?_set_cases ea with ⟨_,_,z⟩ | ⟨na,ea⟩
   · cases z
   · rcases getElem?_set_cases eb with ⟨_,_,z⟩ | ⟨nb,eb⟩
     · cases z
     · rw [List.getElem?_set_ne na] at sa
       rw [List.getElem?_set_ne nb] at sb
       exact h.own a b ds es p ea eb sa sb
theorem Fm.write {i:Nat} {p:Addr} {vs vs':List V} {ds ds':List D} (h:Fm g H0 A B H ω σ ρ) (hi:ρ[i]?=some (.ow ds)) (hs:σ[i]?=some (some (.ref p))) (hp:H p=some (.lst vs)) (hb:B p) (nl:¬ Liv A p) (h0:H0 p=none) (l:DpL g A B H vs' ds') :
  Fm g H0 A B (upd H p (.lst vs')) ω σ (ρ.set i (.ow ds')) ∧ Mv A B H A B (upd H p (.lst vs')):=by
 have m:Mv A B H A B (upd H p (.lst vs')):=⟨fun a o na e=>⟨by rw [upd_ne (fun z=>na (by rw [z]; exact hb))]; exact e,na⟩,fun _ _ h=>.inl h,frz_upd (fun o u e=>by rw [hp] at e; cases e)⟩
 refine ⟨⟨⟨h.wo.len,h.wo.inj,h.wo.liv,fun a ha=>?_,fun k c e=>?_⟩,⟨by simp [h.sl.len],fun j s e=>?_,fun a b xs ys q ea eb sa sb=>?_⟩⟩,m⟩
 · by_cases z:a=p
   · exact ⟨_,by rw [z]; exact upd_same⟩
   · obtain ⟨o,e⟩:=h.wo.bnd a ha
     exact ⟨o,by rw [upd_ne z]; exact e⟩
 · rcases h.wo.cell k c e with z | ⟨a,h1,h2⟩
   · exact .inl z
   · exact .inr ⟨a,h1,h2.mv m fun o q=>by rw [upd_ne (fun z=>nl (by rw [← z]; exact Liv.of h1))]; exact q⟩
 · rcases getElem?_set_cases e with ⟨rfl,hl,rfl⟩ | ⟨ne,e⟩
   · exact ⟨p,vs',hs,upd_same,DpL.mv m _ _ l,hb,nl,h0⟩
   · have:=h.sl.val j s e
     cases s with
     | no=>trivial
     | ex p y=>exact ⟨this.1,this.2.mv m⟩
     | fz d =>
      obtain ⟨v,e1,e2⟩:=this
      exact ⟨v,e1,Dp.mv m _ _ e2⟩
     | ow es =>
      obtain ⟨q,ws,e1,e2,e3,e4,e5,e6⟩:=this
      have npq:q ≠ p:=fun z=>ne (h.sl.own i j _ _ p hi e hs (z ▸ e1))
      exact ⟨q,ws,e1,by rw [upd_ne npq]; exact e2,DpL.mv m _ _ e3,e4,e5,e6⟩
 · have fix:∀ (c:Nat) (zs:List D),(ρ.set i (.ow ds'))[c]?=some (.ow zs)→∃ ws,ρ[c]?=some (.ow ws):=fun c zs ec=>by
    rcases getElem?_set_cases ec with ⟨rfl,_,_⟩ | ⟨_,ec⟩
    · exact ⟨_,hi⟩
    · exact ⟨_,ec⟩
   obtain ⟨u,eu⟩:=fix a xs ea
   obtain ⟨v,ev⟩:=fix b ys eb
   exact h.sl.own a b u v q eu ev sa sb
theorem Fm.setO {i:Nat} {p:Addr} {vs:List V} {ds:List D} {A0:Ad} {B0:Addr→Prop} (h:Fm g H0 A B H ω σ ρ) (st:Stp A0 B0 H0 A B H) (hp:H p=none) (l:DpL g A B H vs ds) :
  Fm g H0 A (fun a=>B a ∨ a=p) (upd H p (.lst vs)) ω (σ.set i (some (.ref p))) (ρ.set i (.ow ds)) ∧ Mv A B H A (fun a=>B a ∨ a=p) (upd H p (.lst vs)) ∧ Stp A0 B0 H0 A (fun a=>B a ∨ a=p) (upd H p (.lst vs)):=by
 have h0:H0 p=none:=by
  cases q:H0 p with
  | none=>rfl
  | some o =>
   obtain ⟨u,e⟩:=st.trk p o q
   rw [hp] at e; cases e
 have m:Mv A B H A (fun a=>B a ∨ a=p) (upd H p (.lst vs)):=⟨fun a o na e=>⟨by rw [upd_ne (ne_of_none e hp)]; exact e,fun z=>z.elim na (ne_of_none e hp)⟩,fun _ _ h=>.inl h,frz_upd (frz_none hp)⟩
 have nlp:¬ Liv A p:=fun z=>by
  obtain ⟨o,e⟩:=h.wo.bnd p (h.wo.liv p z)
  rw [hp] at e; cases e
 refine ⟨⟨⟨h.wo.len,h.wo.inj,fun a z=>.inl (h.wo.liv a z),fun a ha=>?_,fun k c e=>?_⟩,⟨by simp [h.sl.len],fun j s e=>?_,fun a b xs ys q ea eb sa sb=>?_⟩⟩,m,⟨fun a o e na=>?_,fun a o e na=>?_,st.new,st.ids,fun a o e=>?_,fun a o u e=>frz_upd (frz_none hp) a o u (st.frz a o u e)⟩⟩
 · rcases ha with ha | rfl
   · obtain ⟨o,e⟩:=h.wo.bnd a ha
     exact ⟨o,by rw [upd_ne (ne_of_none e hp)]; exact e⟩
   · exact ⟨_,upd_same⟩
 · rcases h.wo.cell k c e with z | ⟨a,h1,h2⟩
   · exact .inl z
   · exact .inr ⟨a,h1,h2.mv m fun o q=>by rw [upd_ne (ne_of_none q hp)]; exact q⟩
 · rcases getElem?_set_cases e with ⟨rfl,hl,rfl⟩ | ⟨ne,e⟩
   · exact ⟨p,vs,by rw [List.getElem?_set_self (by rw [← h.sl.len]; exact hl)],upd_same,DpL.mv m _ _ l,.inr rfl,nlp,h0⟩
   · rw [List.getElem?_set_ne ne]
     have:=h.sl.val j s e
     cases s with
     | no=>trivial
     | ex p y=>exact ⟨this.1,this.2.mv m⟩
     | fz d =>
      obtain ⟨v,e1,e2⟩:=this
      exact ⟨v,e1,Dp.mv m _ _ e2⟩
     | ow es =>
      obtain ⟨q,ws,e1,e2,e3,e4,e5,e6⟩:=this
      exact ⟨q,ws,e1,by rw [upd_ne (ne_of_none e2 hp)]; exact e2,DpL.mv m _ _ e3,.inl e4,e5,e6⟩
 · have other:∀ (c:Nat) (zs:List D),i ≠ c→ρ[c]?=some (.ow zs)→σ[c]? ≠ some (some (.ref p)):=fun c zs nc ec z=>by
    obtain ⟨q,ws,e1,e2,_⟩:=h.sl.val c _ ec
    rw [z] at e1
    cases e1
    rw [hp] at e2; cases e2
   have self:∀ (c:Nat),i=c→c < ρ.length→(σ.set i (some (.ref p)))[c]?=some (some (.ref p)):=fun c e hc=>by
    subst e
    rw [List.getElem?_set_self (by rw [← h.sl.len]; exact hc)]
   rcases getElem?_set_cases ea with ⟨na,la,_⟩ | ⟨na,ea⟩
   · rcases getElem?_set_cases eb with ⟨nb,_,_⟩ | ⟨nb,eb⟩
     · exact na.symm.trans nb
     · rw [List.getElem?_set_ne nb] at sb
       rw [self a na la] at sa
       cases sa
       exact (other b _ nb eb sb).elim
   · rcases getElem?_set_cases eb with ⟨nb,lb,_⟩ | ⟨nb,eb⟩
     · rw [List.getElem?_set_ne na] at sa
       rw [self b nb lb] at sb
       cases sb
       exact (other a _ na ea sa).elim
     · rw [List.getElem?_set_ne na] at sa
       rw [List.getElem?_set_ne nb] at sb
       exact h.sl.own a b _ _ q ea eb sa sb
 · have:=st.keep a o e na
   rw [upd_ne (ne_of_none this hp)]
   exact this
 · rw [← st.old a o e na]
   have:=st.keep a o e na
   exact ⟨fun z=>z.elim id fun z=>(ne_of_none this hp z).elim,.inl⟩
 · obtain ⟨u,e'⟩:=st.trk a o e
   exact ⟨u,by rw [upd_ne (ne_of_none e' hp)]; exact e'⟩
theorem Fm.freeze {i:Nat} {p:Addr} {ds:List D} {A0:Ad} {B0:Addr→Prop} (h:Fm g H0 A B H ω σ ρ) (st:Stp A0 B0 H0 A B H) (hi:ρ[i]?=some (.ow ds)) (hs:σ[i]?=some (some (.ref p))) :
  Fm g H0 A (fun a=>B a ∧ a ≠ p) H ω σ (ρ.set i (.fz (.lst ds))) ∧ Mv A B H A (fun a=>B a ∧ a ≠ p) H ∧ Stp A0 B0 H0 A (fun a=>B a ∧ a ≠ p) H:=by
 obtain ⟨p',vs,e1,hp,l,hb,nl,h0⟩:=h.sl.val i _ hi
 rw [hs] at e1
 cases e1
 have m:Mv A B H A (fun a=>B a ∧ a ≠ p) H:=⟨fun a o na e=>⟨e,fun z=>na z.1⟩,fun _ _ h=>.inl h,fun _ _ _ h=>h⟩
 refine ⟨⟨⟨h.wo.len,h.wo.inj,fun a z=>⟨h.wo.liv a z,fun e=>nl (e ▸ z)⟩,fun a ha=>h.wo.bnd a ha.1,fun k c e=>?_⟩,⟨by simp [h.sl.len],fun j s e=>?_,fun a b xs ys q ea eb sa sb=>?_⟩⟩,m,⟨st.keep,fun a o e na=>?_,st.new,st.ids,st.trk,st.frz⟩⟩
 · rcases h.wo.cell k c e with z | ⟨a,h1,h2⟩
   · exact .inl z
   · exact .inr ⟨a,h1,h2.mv m fun _ q=>q⟩
 · rcases getElem?_set_cases e with ⟨rfl,hl,rfl⟩ | ⟨ne,e⟩
   · exact ⟨.ref p,hs,.lst (fun z=>z.2 rfl) hp (DpL.mv m _ _ l)⟩
   · have:=h.sl.val j s e
     cases s with
     | no=>trivial
     | ex p y=>exact ⟨this.1,this.2.mv m⟩
     | fz d =>
      obtain ⟨v,e1,e2⟩:=this
      exact ⟨v,e1,Dp.mv m _ _ e2⟩
     | ow es =>
      obtain ⟨q,ws,e1,e2,e3,e4,e5,e6⟩:=this
      have npq:q ≠ p:=fun z=>ne (h.sl.own i j _ _ p hi e hs (z ▸ e1))
      exact ⟨q,ws,e1,e2,DpL.mv m _ _ e3,⟨e4,npq⟩,e5,e6⟩
 · rcases getElem?_set_cases ea with ⟨_,_,z⟩ | ⟨na,ea⟩
   · cases z
   · rcases getElem?_set_cases eb with ⟨_,_,z⟩ | ⟨nb,eb⟩
     · cases z
     · exact h.sl.own a b _ _ q ea eb sa sb
 · rw [← st.old a o e na]
   refine ⟨fun z=>z.1,fun z=>⟨z,fun e'=>?_⟩⟩
   rw [e',h0] at e
   cases e
end
end DL
namespace DL
open PySem L2
def ResN (g:G) (W:WX) (σ:St) (A:Ad) (B:Addr→Prop) (H:Hp) (Q:VK):R (List D)→Prop
 | .val ds ω'=>∀ p vs A' B' H',Stp A B H A' B' H'→Wo g A' B' H' ω'→H' p=some (.lst vs)→DpL g A' B' H' vs ds→B' p→¬ Liv A' p→H p=none→Q (.ref p) H'
 | .exc x ω'=>∀ cls dd A' B' H',Stp A B H A' B' H'→Wo g A' B' H' ω'→XOk g A' B' H' cls dd x→W cls dd σ H'
def tN (g:G) (W:WX) (f:M (List D)):TE:=fun σ H Q=>∃ H0 A B ρ ω r,Fm g H0 A B H ω σ ρ ∧ f ρ ω=some r ∧ ResN g W σ A B H Q r
section
variable {g:G} {A A':Ad} {B B':Addr→Prop} {H H' H0:Hp} {ω ω':List Cell} {σ:St} {ρ:Rho} {W:WX}
theorem Stp.minus {p:Addr} (s:Stp A B H A' B' H') (hp:H p=none):Stp A B H A' (fun a=>B' a ∧ a ≠ p) H' :=
 ⟨s.keep,fun a o e n=>by
  rw [← s.old a o e n]
  exact ⟨fun z=>z.1,fun z=>⟨z,ne_of_none e hp⟩⟩,s.new,s.ids,s.trk,s.frz⟩
theorem Stp.plus {p:Addr} (s:Stp A B H A' B' H') (hp:H p=none):Stp A B H A' (fun a=>B' a ∨ a=p) H' :=
 ⟨s.keep,fun a o e n=>by
  rw [← s.old a o e n]
  exact ⟨fun z=>z.elim id fun z=>(ne_of_none e hp z).elim,.inl⟩,s.new,s.ids,s.trk,s.frz⟩
theorem Mv.minus (p:Addr):Mv A B H A (fun a=>B a ∧ a ≠ p) H:=⟨fun a o na e=>⟨e,fun z=>na z.1⟩,fun _ _ h=>.inl h,fun _ _ _ h=>h⟩
theorem Wo.minus {p:Addr} (w:Wo g A B H ω) (nl:¬ Liv A p):Wo g A (fun a=>B a ∧ a ≠ p) H ω :=
 ⟨w.len,w.inj,fun a z=>⟨w.liv a z,fun e=>nl (by rw [← e]; exact z)⟩,fun a ha=>w.bnd a ha.1,fun k c e=>by
  rcases w.cell k c e with z | ⟨a,h1,h2⟩
  · exact .inl z
  · exact .inr ⟨a,h1,h2.mv (Mv.minus p) fun _ q=>q⟩⟩
theorem Mv.plus {p:Addr} {o:HO} (hp:H p=none):Mv A B H A (fun a=>B a ∨ a=p) (upd H p o) :=
 ⟨fun a u na e=>⟨by rw [upd_ne (ne_of_none e hp)]; exact e,fun z=>z.elim na (ne_of_none e hp)⟩,fun _ _ h=>.inl h,frz_upd (frz_none hp)⟩
theorem Wo.plus {p:Addr} {o:HO} (w:Wo g A B H ω) (hp:H p=none):Wo g A (fun a=>B a ∨ a=p) (upd H p o) ω :=
 ⟨w.len,w.inj,fun a z=>.inl (w.liv a z),fun a ha=>by
  rcases ha with ha | rfl
  · obtain ⟨o,e⟩:=w.bnd a ha
    exact ⟨o,by rw [upd_ne (ne_of_none e hp)]; exact e⟩
  · exact ⟨_,upd_same⟩,fun k c e=>by
  rcases w.cell k c e with z | ⟨a,h1,h2⟩
  · exact .inl z
  · exact .inr ⟨a,h1,h2.mv (Mv.plus hp) fun o q=>by rw [upd_ne (ne_of_none q hp)]; exact q⟩⟩
theorem Stp.alloc {p:Addr} {o:HO} {B1:Addr→Prop} {A1:Ad} {H1:Hp} (s:Stp A B H A1 B1 H1) (hp:H1 p=none):Stp A B H A1 (fun a=>B1 a ∨ a=p) (upd H1 p o):=by
 have h0:H p=none:=by
  cases q:H p with
  | none=>rfl
  | some u =>
   obtain ⟨v,e⟩:=s.trk p u q
   rw [hp] at e; cases e
 exact (s.trans (Stp.grow hp)).plus h0
theorem Stp.own {p:Addr} {o:HO} (s:Stp A B H A' B' H') (hp:H p=none) (nl:¬ Liv A' p):Stp A B H A' B' (upd H' p o) :=
 ⟨fun a u e n=>by rw [upd_ne (ne_of_none e hp)]; exact s.keep a u e n,s.old,s.new,s.ids,fun a u e=>by
  obtain ⟨v,q⟩:=s.trk a u e
  exact ⟨v,by rw [upd_ne (ne_of_none e hp)]; exact q⟩,fun a o u e=>by
  rw [upd_ne (ne_of_none e hp)]; exact s.frz a o u e⟩
theorem Stp.none {p:Addr} (s:Stp A B H A' B' H') (hp:H' p=none):H p=none:=by
 cases q:H p with
 | none=>rfl
 | some u =>
  obtain ⟨v,e⟩:=s.trk p u q
  rw [hp] at e; cases e
theorem tN_D {f:M (List D)}:∀ σ H Q,tM g rD W (f.bind fun ds=>M.pure (.lst ds)) σ H Q→tN g W f σ H Q:=by
 rintro σ H Q ⟨H0,A,B,ρ,ω,r,fm,e,res⟩
 unfold M.bind at e
 cases q:f ρ ω with
 | none=>rw [q] at e; cases e
 | some z =>
  rw [q] at e
  cases z with
  | exc x ω' =>
   cases e
   exact ⟨H0,A,B,ρ,ω,_,fm,q,res⟩
  | val ds ω' =>
   cases e
   refine ⟨H0,A,B,ρ,ω,_,fm,q,fun p vs A' B' H' t w hp l hb nl h0=>?_⟩
   exact res (.ref p) A' _ H' (t.minus h0) (w.minus nl) (.lst (fun z=>z.2 rfl) hp (DpL.mv (Mv.minus p) _ _ l))
theorem Fm.takeO {i:Nat} {p:Addr} {vs:List V} {ds:List D} (h:Fm g H0 A B H ω σ ρ) (t:Stp A B H A' B' H') (w:Wo g A' B' H' ω') (hp:H' p=some (.lst vs)) (l:DpL g A' B' H' vs ds) (hb:B' p) (nl:¬ Liv A' p) (h1:H p=none) (h0:H0 p=none) :
  Fm g H0 A' B' H' ω' (σ.set i (some (.ref p))) (ρ.set i (.ow ds)):=by
 have s1:=h.sl.up h.wo t
 refine ⟨w,⟨by simp [s1.len],fun j s e=>?_,fun a b xs ys q ea eb sa sb=>?_⟩⟩
 · rcases getElem?_set_cases e with ⟨rfl,hl,rfl⟩ | ⟨ne,e⟩
   · exact ⟨p,vs,by rw [List.getElem?_set_self (by rw [← s1.len]; exact hl)],hp,l,hb,nl,h0⟩
   · rw [List.getElem?_set_ne ne]
     exact s1.val j s e
 · have other:∀ (c:Nat) (zs:List D),i ≠ c→ρ[c]?=some (.ow zs)→σ[c]? ≠ some (some (.ref p)):=fun c zs nc ec z=>by
    obtain ⟨q,ws,e1,e2,_⟩:=h.sl.val c _ ec
    rw [z] at e1
    cases e1
    rw [h1] at e2; cases e2
   have self:∀ (c:Nat),i=c→c < ρ.length→(σ.set i (some (.ref p)))[c]?=some (some (.ref p)):=fun c e hc=>by
    subst e
    rw [List.getElem?_set_self (by rw [← s1.len]; exact hc)]
   rcases getElem?_set_cases ea with ⟨na,la,_⟩ | ⟨na,ea⟩
   · rcases getElem?_set_cases eb with ⟨nb,_,_⟩ | ⟨nb,eb⟩
     · exact na.symm.trans nb
     · rw [List.getElem?_set_ne nb] at sb
       rw [self a na la] at sa
       cases sa
       exact (other b _ nb eb sb).elim
   · rcases getElem?_set_cases eb with ⟨nb,lb,_⟩ | ⟨nb,eb⟩
     · rw [List.getElem?_set_ne na] at sa
       rw [self b nb lb] at sb
       cases sb
       exact (other a _ na ea sa).elim
     · rw [List.getElem?_set_ne na] at sa
       rw [List.getElem?_set_ne nb] at sb
       exact s1.own a b _ _ q ea eb sa sb
end
def lenOk (ds:List D):M (List D):=fun _ ω=>if ds.length ≤ sizeLine then some (.val ds ω) else none
section
variable {X:Cx} {g:G} {W:WX} {e:Expr} {es:List Expr} {f:M D} {fs:M (List D)} {pos:Pos}
theorem ResN.of {A A1:Ad} {B B1:Addr→Prop} {H H1:Hp} {ω1:List Cell} {σ:St} {Q:VK} {vs:List V} {ds:List D} (res:ResN g W σ A B H Q (.val ds ω1)) (t:Stp A B H A1 B1 H1) (w:Wo g A1 B1 H1 ω1) (l:DpL g A1 B1 H1 vs ds):∀ p,H1 p=none→Q (.ref p) (upd H1 p (.lst vs)):=fun p hp =>
 res p vs A1 _ _ (t.alloc hp) (w.plus hp) upd_same (DpL.mv (Mv.plus hp) _ _ l) (.inr rfl) (fun z=>w.nb hp (w.liv p z)) (t.none hp)
theorem tN_bind {α β:Type} {rel:Rl β α} {f:M α} {k:α→M (List D)} {A:Ad} {B:Addr→Prop} {H H0:Hp} {ω:List Cell} {σ:St} {ρ:Rho} {Q:VK} {r:R (List D)} (h:Fm g H0 A B H ω σ ρ) (e:(f.bind k) ρ ω=some r) (res:ResN g W σ A B H Q r) :
  tM g rel W f σ H (fun v H1=>∃ A1 B1 ω1 a,Stp A B H A1 B1 H1 ∧ Fm g H0 A1 B1 H1 ω1 σ ρ ∧ rel g A1 B1 H1 v a ∧ k a ρ ω1=some r):=by
 unfold M.bind at e
 cases q:f ρ ω with
 | none=>rw [q] at e; cases e
 | some z =>
  rw [q] at e
  cases z with
  | exc x ω' =>
   cases e
   exact ⟨H0,A,B,ρ,ω,_,h,q,res⟩
  | val a ω'=>exact ⟨H0,A,B,ρ,ω,_,h,q,fun v A1 B1 H1 t w rl=>⟨A1,B1,ω',a,t,h.up t w,rl,e⟩⟩
theorem dn_lst (h:PA X es (tM g rL W fs)):PE X (.List es pos) (tN g W (fs.bind lenOk)) :=
 (pe_lst h).dl fun σ H Q ⟨H0,A,B,ρ,ω,r,fm,e,res⟩=>by
  refine tM_mono (tN_bind fm e res) fun x H1 ⟨A1,B1,ω1,d1,t1,fm1,r1,e1⟩=>?_
  unfold lenOk at e1
  split at e1
  · cases e1
    exact ⟨by rw [DpL.length r1]; assumption,res.of t1 fm1.wo r1⟩
  · cases e1
theorem de_new (h:PE X e (tN g W fs)):PE X e (tM g rD W (fs.bind fun ds=>M.pure (.lst ds))):=h.dl tN_D
end
section
variable {X:Cx} {g:G} {n:En} {W:WX} {e c:Expr} {f:M D} {fs:M (List D)} {t:M Bool} {F K:MS} {a b:List Stmt} {pos:Pos}
def setS (i:Nat) (f:M D):MS:=bindS f fun d ρ ω=>some (.nx (ρ.set i (.fz d)) ω)
theorem ds_set {i:Nat} {x:Str} {pos':Pos} (hN:X.N.Nodup) (he:PE X e (tM g rD W f)) (hi:X.N[i]?=some x:=by rfl) (hx:Loc X.env.scope x:=by first | exact Or.inl rfl | exact Or.inr rfl) (hs:swapsWith e (some (.Name x pos')) pos.line X.env=pure false:=by rfl)
  (hf:X.fn x=true ∨ X.env.scope.names.lookup x=some .local:=by first | exact .inl rfl | exact .inr rfl | assumption):PS X (.Assign [.Name x pos'] e pos) (tS g n W (setS i f)) :=
 (ps_set hN hi hx he hs hf).dl fun D σ H ⟨A,B,ρ,ω,r,s,fm,e,res⟩=>by
  refine tM_mono (tS_bind s fm e res) fun v H1 ⟨A1,B1,ω1,d,t1,m1,s1,fm1,r1,e1,res1⟩=>?_
  cases e1
  exact res1.next (.refl _ _ _) s1 (fm1.setF r1)
def setO (i:Nat) (f:M (List D)):MS:=bindS f fun ds ρ ω=>some (.nx (ρ.set i (.ow ds)) ω)
theorem tN_setO {i:Nat} {D:Ends} {σ:St} {H:Hp} (h:tS g n W (setO i fs) D σ H):tN g W fs σ H fun x H1=>gName i x σ H1 D.nx:=by
 obtain ⟨A,B,ρ,ω,r,s,fm,e,res⟩:=h
 unfold setO bindS at e
 cases q:fs ρ ω with
 | none=>rw [q] at e; cases e
 | some z =>
  rw [q] at e
  cases z with
  | exc x ω' =>
   cases e
   exact ⟨n.H,A,B,ρ,ω,_,fm,q,fun cls dd A' B' H' t w x=>res cls dd σ A' B' H' (fm.wo.mv t) (s.trans t) (fm.up t w) x⟩
  | val ds ω' =>
   cases e
   refine ⟨n.H,A,B,ρ,ω,_,fm,q,fun p vs A' B' H' t w hp l hb nl h1=>?_⟩
   exact res.next (fm.wo.mv t) (s.trans t) (fm.takeO t w hp l hb nl h1 (s.none h1))
theorem ds_setO {i:Nat} {x:Str} {pos':Pos} (hN:X.N.Nodup) (he:PE X e (tN g W fs)) (hi:X.N[i]?=some x:=by rfl) (hx:Loc X.env.scope x:=by first | exact Or.inl rfl | exact Or.inr rfl) (hs:swapsWith e (some (.Name x pos')) pos.line X.env=pure false:=by rfl)
  (hf:X.fn x=true ∨ X.env.scope.names.lookup x=some .local:=by first | exact .inl rfl | exact .inr rfl | assumption):PS X (.Assign [.Name x pos'] e pos) (tS g n W (setO i fs)) :=
 (ps_set hN hi hx he hs hf).dl fun D σ H h=>tN_setO h
def exprS (f:M D):MS:=bindS f fun _ ρ ω=>some (.nx ρ ω)
theorem ds_expr (he:PE X e (tM g rD W f)) (hs:swapsWith e none pos.line X.env=pure false:=by rfl):PS X (.Expr e pos) (tS g n W (exprS f)) :=
 (ps_expr he hs).dl fun D σ H ⟨A,B,ρ,ω,r,s,fm,e,res⟩=>by
  refine tM_mono (tS_bind s fm e res) fun v H1 ⟨A1,B1,ω1,d,t1,m1,s1,fm1,r1,e1,res1⟩=>?_
  cases e1
  exact res1.next (.refl _ _ _) s1 fm1
def retS (f:M D):MS:=bindS f fun d _ ω=>some (.rt d ω)
theorem ds_ret (he:PE X e (tM g rD W f)):PS X (.Return (some e) pos) (tS g n W (retS f)) :=
 (ps_ret he).dl fun D σ H ⟨A,B,ρ,ω,r,s,fm,e,res⟩=>by
  refine tM_mono (tS_bind s fm e res) fun v H1 ⟨A1,B1,ω1,d,t1,m1,s1,fm1,r1,e1,res1⟩=>?_
  cases e1
  exact res1 v A1 B1 H1 s1 fm1.wo r1
def ifS (t:M Bool) (F K:MS):MS:=bindS t fun b=>if b=true then F else K
theorem ds_if (hc:PT X c (tM g rB W t)) (ha:PSs X a (tS g n W F)) (hb:PSs X b (tS g n W K)):PS X (.If c a b pos) (tS g n W (ifS t F K)) :=
 (ps_if hc ha hb).dl fun D σ H ⟨A,B,ρ,ω,r,s,fm,e,res⟩=>by
  refine tM_mono (tS_bind s fm e res) fun v H1 ⟨A1,B1,ω1,d,t1,m1,s1,fm1,r1,e1,res1⟩=>?_
  cases r1
  cases v with
  | true =>
   rw [if_pos rfl] at e1 ⊢
   exact ⟨A1,B1,ρ,ω1,r,s1,fm1,e1,res1⟩
  | false =>
   rw [if_neg Bool.false_ne_true] at e1 ⊢
   exact ⟨A1,B1,ρ,ω1,r,s1,fm1,e1,res1⟩
def frz (i:Nat) (F:MS):MS:=fun ρ ω=>match ρ[i]? with
 | some (.ow ds)=>F (ρ.set i (.fz (.lst ds))) ω
 | _=>F ρ ω
theorem ds_frz (i:Nat) {st:Stmt} (h:PS X st (tS g n W F)):PS X st (tS g n W (frz i F)):=h.dl fun D σ H ⟨A,B,ρ,ω,r,s,fm,e,res⟩=>by
 unfold frz at e
 split at e
 · rename_i ds hi
   obtain ⟨p,vs,e1,hp,l,hb,nl,h0⟩:=fm.sl.val i _ hi
   obtain ⟨fm',m,s'⟩:=fm.freeze s hi e1
   exact ⟨A,_,_,ω,r,s',fm',e,res.mv m⟩
 · exact ⟨A,B,ρ,ω,r,s,fm,e,res⟩
def appS (i:Nat) (f:M D):MS:=fun ρ ω=>match ρ[i]? with
 | some (.ow ds)=>bindS f (fun d ρ ω=>if ds.length < sizeLine then some (.nx (ρ.set i (.ow (ds ++ [d]))) ω) else none) ρ ω
 | _=>none
theorem ds_app {i:Nat} {x:Str} {p1 p2 p3:Pos} (he:PE X e (tM g rD W f)) (hN:X.N[i]?=some x:=by rfl) (hv:Vis X.env.scope x:=by first | exact Or.inl rfl | exact Or.inr (Or.inl rfl) | exact Or.inr (Or.inr rfl)) (hd:(x == ("__debug__" : Str))=false:=by decide)
  (hcd:(x == ("__classdict__" : Str))=false:=by decide) (hbase:attributeBase (.Name x p1) "append" X.env (eval (.Name x p1) X.env)=eval (.Name x p1) X.env:=by rfl)
  (hfew:((backTo p3 (starEach [e] X.env)).all (fun x=>!x.1) && (backToKw p3 (keywordEach [] X.env)).all (fun x=>x.1.isSome)
   && decide ([e].length + ([]:List Keyword).length + (if ([]:List Keyword).isEmpty then 0 else 1) < 30))=true:=by rfl)
  (hline:(p2.endLine == p3.line)=true:=by rfl) (hst:starEach [e] X.env=(false,eval e X.env) :: starEach [] X.env:=by rfl) (hplain:(backTo p3 (starEach [] X.env)).any (·.1)=false:=by rfl)
  (hs:swapsWith (.Call (.Attribute (.Name x p1) "append" p2) [e] [] p3) none pos.line X.env=pure false:=by rfl) :
  PS X (.Expr (.Call (.Attribute (.Name x p1) "append" p2) [e] [] p3) pos) (tS g n W (appS i f)) :=
 (ps_expr (pe_bm PySem.F.plainAttrs_list PySem.F.slot_list_append PySem.F.type_list_append mt_append (pe_var hN hv hd hcd) (pa_cons he pa_nil hst) hbase hfew hline hst hplain) hs).dl fun D σ H ⟨A,B,ρ,ω,r,s,fm,e,res⟩=>by
  unfold appS at e
  split at e
  · rename_i ds hi
    obtain ⟨p,vs,e1,hp,l,hb,nl,h0⟩:=fm.sl.val i _ hi
    refine ⟨.ref p,e1,.inl ⟨rfl,vs,SqL.of hp⟩,?_⟩
    refine tM_mono (tS_bind s fm e res) fun v H1 ⟨A1,B1,ω1,d,t1,m1,s1,fm1,r1,e2,res1⟩=>?_
    split at e2
    · rename_i hz
      cases e2
      obtain ⟨p',vs1,e1',hp1,l1,hb1,nl1,h01⟩:=fm1.sl.val i _ hi
      rw [e1] at e1'
      cases e1'
      refine ⟨p,vs1,v,rfl,rfl,hp1,by rw [l1.length]; exact hz,?_⟩
      obtain ⟨fm2,m2⟩:=fm1.write hi e1 hp1 hb1 nl1 h01 (l1.append (.cons r1 .nil))
      exact res1.next m2 (s1.own h01 nl1) fm2
    · cases e2
  · cases e
end
end DL
namespace DL
open PySem L2
def SOut (is:List Nat) (σ σ':St):Prop:=σ'.length=σ.length ∧ ∀ j,j ∉ is→σ'[j]?=σ[j]?
theorem SOut.refl (is:List Nat) (σ:St):SOut is σ σ:=⟨rfl,fun _ _=>rfl⟩
theorem SOut.trans {is js:List Nat} {σ σ1 σ2:St} (a:SOut is σ σ1) (b:SOut js σ1 σ2):SOut (is ++ js) σ σ2 :=
 ⟨b.1.trans a.1,fun j hj=>(b.2 j fun z=>hj (List.mem_append_right _ z)).trans (a.2 j fun z=>hj (List.mem_append_left _ z))⟩
theorem wipe_in {σ:St} {i:Nat}:∀ {vs:List Nat},i ∈ vs→(wipe σ vs)[i]?=if i < σ.length then some none else none
 | v :: vs,h=>by
  unfold wipe
  by_cases e:v=i
  · subst e
    split
    · rw [List.getElem?_set_self (by rw [wipe_length]; assumption)]
    · rw [List.getElem?_eq_none (by simp only [List.length_set,wipe_length]; omega)]
  · rw [List.getElem?_set_ne e]
    exact wipe_in ((List.mem_cons.mp h).resolve_left fun z=>e z.symm)
theorem wipe_notin {σ:St} {i:Nat}:∀ {vs:List Nat},i ∉ vs→(wipe σ vs)[i]?=σ[i]?
 | [],_=>rfl
 | v :: vs,h=>by
  unfold wipe
  rw [List.getElem?_set_ne (fun z=>h (by rw [z]; exact List.mem_cons_self))]
  exact wipe_notin fun z=>h (List.mem_cons_of_mem _ z)
theorem SOut.wipe {is vs:List Nat} {σ σ':St} (h:SOut is σ σ') (hs:∀ i ∈ is,i ∈ vs):wipe σ' vs=wipe σ vs:=by
 apply List.ext_getElem?
 intro i
 by_cases hi:i ∈ vs
 · rw [wipe_in hi,wipe_in hi,h.1]
 · rw [wipe_notin hi,wipe_notin hi]
   exact h.2 i fun z=>hi (hs i z)
abbrev TT1:=D→Rho→List Cell→Option Rho
abbrev TTs:=List D→Rho→List Cell→Option Rho
def tGM (g:G) (is:List Nat) (T:TT1):TG:=fun v σ H Q=>∃ H0 A B ρ ω d ρ',Fm g H0 A B H ω σ ρ ∧ Dp g A B H v d ∧ T d ρ ω=some ρ' ∧ ∀ σ',Fm g H0 A B H ω σ' ρ'→SOut is σ σ'→Q σ' H
def tGs (g:G) (is:List Nat) (T:TTs):TGs:=fun vs σ H Q=>∃ H0 A B ρ ω ds ρ',Fm g H0 A B H ω σ ρ ∧ DpL g A B H vs ds ∧ T ds ρ ω=some ρ' ∧ ∀ σ',Fm g H0 A B H ω σ' ρ'→SOut is σ σ'→Q σ' H
theorem _root_.L2.PG.dl {X:Cx} {e:Expr} {t t':TG} (h:PG X e t) (i:∀ v σ H Q,t' v σ H Q→t v σ H Q):PG X e t':=⟨fun pins s σ H v u Q I r q=>h.run pins s σ H v u Q I r (i v σ H Q q)⟩
theorem _root_.L2.PGs.dl {X:Cx} {e:List Expr} {t t':TGs} (h:PGs X e t) (i:∀ v σ H Q,t' v σ H Q→t v σ H Q):PGs X e t':=⟨fun pins s σ H v u Q I r q=>h.run pins s σ H v u Q I r (i v σ H Q q)⟩
theorem _root_.L2.PI.dl {X:Cx} {tg e:Expr} {t t':TI} (h:PI X tg e t) (i:∀ σ H Q,t' σ H Q→t σ H Q):PI X tg e t':=⟨fun pins s σ H R I q=>h.run pins s σ H R I (i σ H R q)⟩
theorem _root_.L2.PTs.dl {X:Cx} {e:List Expr} {t t':TT} (h:PTs X e t) (i:∀ σ H Q,t' σ H Q→t σ H Q):PTs X e t':=⟨fun pins s σ H Q I q=>h.run pins s σ H Q I (i σ H Q q)⟩
def nmT (i:Nat):TT1:=fun d ρ _=>some (ρ.set i (.fz d))
def tupT (k:Nat) (T:TTs):TT1:=fun d ρ ω=>match view ω d with
 | some (.tup ds)=>if ds.length=k then T ds ρ ω else none
 | _=>none
def consT (T:TT1) (Ts:TTs):TTs:=fun ds ρ ω=>match ds with
 | d :: ds=>match T d ρ ω with
  | some ρ'=>Ts ds ρ' ω
  | none=>none
 | []=>none
def nilT:TTs:=fun ds ρ _=>match ds with
 | []=>some ρ
 | _=>none
section
variable {X:Cx} {g:G} {e:Expr} {es:List Expr} {T:TT1} {Ts:TTs} {is js:List Nat} {pos:Pos}
theorem dg_name (i:Nat) {x:Str} (hN:X.N.Nodup) (hi:X.N[i]?=some x:=by rfl) (hx:Loc X.env.scope x:=by first | exact Or.inl rfl | exact Or.inr rfl) (hf:X.fn x=true ∨ X.env.scope.names.lookup x=some .local:=by first | exact .inl rfl | exact .inr rfl | assumption):PG X (.Name x pos) (tGM g [i] (nmT i)) :=
 (pg_name hN hi hx hf).dl fun v σ H Q ⟨H0,A,B,ρ,ω,d,ρ',fm,hd,e,q⟩=>by
  cases e
  refine q _ (fm.setF hd) ⟨by simp,fun j hj=>?_⟩
  rw [List.getElem?_set_ne (fun z=>hj (by simp [z]))]
theorem dgs_nil:PGs X [] (tGs g [] nilT):=pgs_nil.dl fun v σ H Q ⟨H0,A,B,ρ,ω,d,ρ',fm,hd,e,q⟩=>by
 cases hd with
 | nil =>
  cases e
  exact ⟨rfl,q σ fm (.refl _ _)⟩
 | cons h1 h2=>cases e
theorem dgs_cons (h1:PG X e (tGM g is T)) (h2:PGs X es (tGs g js Ts)) (hs:(assignEach (e :: es) X.env).map (·.2)=assign e X.env :: (assignEach es X.env).map (·.2):=by rfl):PGs X (e :: es) (tGs g (is ++ js) (consT T Ts)) :=
 (pgs_cons h1 h2 hs).dl fun v σ H Q ⟨H0,A,B,ρ,ω,d,ρ',fm,hd,e,q⟩=>by
  cases hd with
  | nil=>cases e
  | @cons v vs d ds hd1 hd2 =>
   unfold consT at e
   cases q1:T d ρ ω with
   | none=>simp only [q1] at e; cases e
   | some ρ1 =>
    simp only [q1] at e
    exact ⟨v,vs,rfl,H0,A,B,ρ,ω,d,ρ1,fm,hd1,q1,fun σ1 fm1 s1=>⟨H0,A,B,ρ1,ω,ds,ρ',fm1,hd2,e,fun σ2 fm2 s2=>q σ2 fm2 (s1.trans s2)⟩⟩
theorem dg_tup {k n:Nat} (hK:X.K=g.K) (hc:X.calm=true) (h:PGs X es (tGs g is Ts)) (hn:(assignEach es X.env).length=n:=by rfl) (hst:(assignEach es X.env).findIdx? (·.1)=none:=by rfl):PG X (.Tuple es k pos) (tGM g is (tupT n Ts)) :=
 (pg_tup hc h hn hst).dl fun v σ H Q ⟨H0,A,B,ρ,ω,d,ρ',fm,hd,e,q⟩=>by
  unfold tupT at e
  cases q1:view ω d with
  | none=>simp only [q1] at e; cases e
  | some d' =>
   cases d' with
   | tup ds =>
    simp only [q1] at e
    split at e
    · rename_i hl
      have vw:Dp g A B H v (.tup ds):=Vw.of hd fm.wo q1
      obtain ⟨a,vs,rfl,hs,l⟩:=Dp.seq vw
      exact ⟨a,vs,rfl,by rw [hK]; exact hs,by rw [l.length]; exact hl,H0,A,B,ρ,ω,ds,ρ',fm,l,e,q⟩
    · cases e
   | _=>simp only [q1] at e; cases e
end
structure ItB (g:G) (J:It) (items:List D) (C:Ad→(Addr→Prop)→Hp→Prop):Prop where
 go:∀ A B H (i:Nat),C A B H→i < items.length→J.go i H
 yld:∀ A B H ω (i:Nat) x H',Wo g A B H ω→C A B H→i < items.length→J.yld i H x H'→∃ d,items[i]?=some d ∧ Stp A B H A B H' ∧ Wo g A B H' ω ∧ Dp g A B H' x d
 stop:∀ A B H (i:Nat),C A B H→items.length ≤ i→J.stop i H
abbrev Cnd:=Ad→(Addr→Prop)→Hp→Prop
def stayM (C:Cnd):Prop:=∀ A B H A' B' H',Mv A B H A' B' H'→C A B H→C A' B' H'
def stayS (C:Cnd):Prop:=∀ A B H A' B' H',(∀ a,Liv A a→B a)→Stp A B H A' B' H'→C A B H→C A' B' H'
theorem stayS.of {C:Cnd} (h:stayM C):stayS C:=fun A B H A' B' H' l t c=>h A B H A' B' H' (t.mv l) c
def ResI (g:G) (W:WX) (σ:St) (A:Ad) (B:Addr→Prop) (H:Hp) (stay:Cnd→Prop) (Q:It→Hp→Prop):R (List D)→Prop
 | .val items ω'=>∀ J C A' B' H',Stp A B H A' B' H'→Wo g A' B' H' ω'→ItB g J items C→stay C→C A' B' H'→Q J H'
 | .exc x ω'=>∀ cls dd A' B' H',Stp A B H A' B' H'→Wo g A' B' H' ω'→XOk g A' B' H' cls dd x→W cls dd σ H'
def tI (g:G) (W:WX) (stay:Cnd→Prop) (f:M (List D)):TI:=fun σ H Q=>∃ H0 A B ρ ω r,Fm g H0 A B H ω σ ρ ∧ f ρ ω=some r ∧ ResI g W σ A B H stay Q r
section
variable {g:G} {W:WX} {A:Ad} {B:Addr→Prop} {H H0:Hp} {ω:List Cell} {σ:St} {ρ:Rho}
theorem tI_bind {α β:Type} {rel:Rl β α} {f:M α} {k:α→M (List D)} {stay:Cnd→Prop} {Q:It→Hp→Prop} {r:R (List D)} (h:Fm g H0 A B H ω σ ρ) (e:(f.bind k) ρ ω=some r) (res:ResI g W σ A B H stay Q r) :
  tM g rel W f σ H (fun v H1=>∃ A1 B1 ω1 a,Stp A B H A1 B1 H1 ∧ Fm g H0 A1 B1 H1 ω1 σ ρ ∧ rel g A1 B1 H1 v a ∧ k a ρ ω1=some r):=by
 unfold M.bind at e
 cases q:f ρ ω with
 | none=>rw [q] at e; cases e
 | some z =>
  rw [q] at e
  cases z with
  | exc x ω' =>
   cases e
   exact ⟨H0,A,B,ρ,ω,_,h,q,res⟩
  | val a ω'=>exact ⟨H0,A,B,ρ,ω,_,h,q,fun v A1 B1 H1 t w rl=>⟨A1,B1,ω',a,t,h.up t w,rl,e⟩⟩
theorem itb_list {a:Addr} {vs:List V} {ds:List D} (C:Cnd) (hC:∀ A B H,C A B H→SqL g.K H a vs ∧ DpL g A B H vs ds):ItB g (Itl g.K a) ds C where
 go:=fun A B H i c hi=>by
  obtain ⟨hs,l⟩:=hC A B H c
  have hi':i < vs.length:=by rw [l.length]; exact hi
  exact ⟨vs,vs[i],hs,List.getElem?_eq_getElem hi'⟩
 yld:=fun A B H ω i x H' w c _ y=>by
  obtain ⟨hs,l⟩:=hC A B H c
  obtain ⟨rfl,y⟩:=y
  obtain ⟨d,e,hd⟩:=l.getV (y vs hs)
  exact ⟨d,e,.refl _ _ _,w,hd⟩
 stop:=fun A B H i c hi=>by
  obtain ⟨hs,l⟩:=hC A B H c
  exact ⟨vs,hs,by rw [l.length]; exact hi⟩
theorem itb_tup {a:Addr} {vs:List V} {ds:List D} (C:Cnd) (hC:∀ A B H,C A B H→SqT g.K H a vs ∧ DpL g A B H vs ds):ItB g (Itt g.K a) ds C where
 go:=fun A B H i c hi=>by
  obtain ⟨hs,l⟩:=hC A B H c
  have hi':i < vs.length:=by rw [l.length]; exact hi
  exact ⟨vs,vs[i],hs,List.getElem?_eq_getElem hi'⟩
 yld:=fun A B H ω i x H' w c _ y=>by
  obtain ⟨hs,l⟩:=hC A B H c
  obtain ⟨rfl,y⟩:=y
  obtain ⟨d,e,hd⟩:=l.getV (y vs hs)
  exact ⟨d,e,.refl _ _ _,w,hd⟩
 stop:=fun A B H i c hi=>by
  obtain ⟨hs,l⟩:=hC A B H c
  exact ⟨vs,hs,by rw [l.length]; exact hi⟩
def signs (x:Str):List D:=x.cps.toList.map fun c=>D.str ⟨#[c]⟩
theorem itb_str {x:Str}:ItB g (Its x) (signs x) (fun _ _ _=>True) where
 go:=fun A B H i _ hi=>by show i < x.cps.size; simpa [signs] using hi
 yld:=fun A B H ω i v H' w _ _ y=>by
  obtain ⟨rfl,c,hc,rfl⟩:=y
  exact ⟨.str ⟨#[c]⟩,by simp [signs,hc],.refl _ _ _,w,.str _⟩
 stop:=fun A B H i _ hi=>by show x.cps.size ≤ i; simpa [signs] using hi
def rangeD (lo:Int) (n:Nat):List D:=(List.range n).map fun i=>D.int (lo + (i:Nat))
theorem itb_range {lo:Int} {n:Nat}:ItB g (Itr lo n) (rangeD lo n) (fun _ _ _=>True) where
 go:=fun A B H i _ hi=>by show i < n; simpa [rangeD] using hi
 yld:=fun A B H ω i v H' w _ hi y=>by
  obtain ⟨rfl,rfl⟩:=y
  exact ⟨.int (lo + i), by have : i < n := by simpa [rangeD] using hi
                           simp [rangeD, this], .refl _ _ _, w, .int _⟩
 stop:=fun A B H i _ hi=>by show n ≤ i; simpa [rangeD] using hi
end
def iAny (K:PySem.W.Frag) (tl:TE):TI:=fun σ H R=>tl σ H fun x H1=>(∃ a,x=.ref a ∧ (∃ xs,SqL K H1 a xs) ∧ R (Itl K a) H1) ∨ (∃ a,x=.ref a ∧ (∃ xs,SqT K H1 a xs) ∧ R (Itt K a) H1) ∨ ∃ z,x=.str z ∧ R (Its z) H1
theorem pi_any {X:Cx} {tg l:Expr} {tl:TE} (hl:PE X l tl):PI X tg l (iAny X.K tl):=by
 refine ⟨fun pins s σ H R I h=>?_⟩
 refine thn (hl.run pins s σ H _ I h) fun v s1 ⟨x,H1,I1,r1,q1⟩=>?_
 rcases q1 with ⟨a,e,⟨xs,hq⟩,q⟩ | ⟨a,e,⟨xs,hq⟩,q⟩ | ⟨z,e,q⟩
 · subst e
   cases r1
   obtain ⟨its,rv,p,hz⟩:=I1.list hq
   refine wpAny_pyIter_list p.isList ?_
   refine ⟨s1.heap.objs.size,[s1.heap.objs.size],_,_,H1,rfl,I1.kept (t':=s1.toks) fun b o e=>Heap.get?_push_of_some _ e,turn_list a _,⟨_,Heap.get?_push_size _ rfl,rfl,rfl⟩,fun b hb=>?_,q⟩
   have e:b=s1.heap.objs.size:=by simpa using hb
   subst e
   exact I1.fpOk (Nat.le_refl _) (I1.hok.fresh (Nat.le_refl _))
 · subst e
   cases r1
   obtain ⟨its,rv,p,hz⟩:=I1.tuple hq
   refine PySem.wpAny_pyIter_tuple (show s1.heap.IsTuple a its.toArray from p) ?_
   refine ⟨s1.heap.objs.size,[s1.heap.objs.size],_,_,H1,rfl,I1.kept (t':=s1.toks) fun b o e=>Heap.get?_push_of_some _ e,turn_tuple a _,⟨_,Heap.get?_push_size _ rfl,rfl,rfl⟩,fun b hb=>?_,q⟩
   have e:b=s1.heap.objs.size:=by simpa using hb
   subst e
   exact I1.fpOk (Nat.le_refl _) (I1.hok.fresh (Nat.le_refl _))
 · subst e
   obtain ⟨t,rfl⟩:=r1
   cases ha:z.cps.all (· < 128)
   · exact wpAny_pyIter_wide ha (pi_one (tk:=s1.toks) I1 _ (turn_str _ z t "str_iterator" (.inr rfl)) ⟨_,Heap.get?_push_size _ rfl,rfl,rfl⟩ q)
   · exact wpAny_pyIter_ascii ha (pi_one (tk:=s1.toks) I1 _ (turn_str _ z t "str_ascii_iterator" (.inl rfl)) ⟨_,Heap.get?_push_size _ rfl,rfl,rfl⟩ q)
def itemsOf:D→M (List D):=fun d _ ω=>match d with
 | .lst ds=>some (.val ds ω)
 | .tup ds=>some (.val ds ω)
 | .str x=>some (.val (signs x) ω)
 | .scr ns=>some (.val (ns.map D.int) ω)
 | _=>none
section
variable {X:Cx} {g:G} {W:WX} {tg e:Expr} {f:M D}
theorem di_data (hK:X.K=g.K) (he:PE X e (tM g rD W f)):PI X tg e (tI g W stayM (f.bind itemsOf)) :=
 (pi_any he).dl fun σ H Q ⟨H0,A,B,ρ,ω,r,fm,e,res⟩=>by
  refine tM_mono (tI_bind fm e res) fun x H1 ⟨A1,B1,ω1,d1,t1,fm1,r1,e1⟩=>?_
  rw [hK]
  cases r1 with
  | @lst a vs ds n h l =>
   cases e1
   refine .inl ⟨a,rfl,⟨vs,SqL.of h⟩,res _ (fun A B H=>¬ B a ∧ H a=some (.lst vs) ∧ DpL g A B H vs ds) A1 B1 H1 t1 fm1.wo (itb_list _ fun A B H c=>⟨SqL.of c.2.1,c.2.2⟩) (fun A B H A' B' H' m c=>?_) ⟨n,h,l⟩⟩
   exact ⟨(m.cell a _ c.1 c.2.1).2,(m.cell a _ c.1 c.2.1).1,DpL.mv m _ _ c.2.2⟩
  | @tup a vs ds n h l =>
   cases e1
   refine .inr (.inl ⟨a,rfl,⟨vs,SqT.of h⟩,res _ (fun A B H=>¬ B a ∧ H a=some (.tup vs) ∧ DpL g A B H vs ds) A1 B1 H1 t1 fm1.wo (itb_tup _ fun A B H c=>⟨SqT.of c.2.1,c.2.2⟩) (fun A B H A' B' H' m c=>?_) ⟨n,h,l⟩⟩)
   exact ⟨(m.cell a _ c.1 c.2.1).2,(m.cell a _ c.1 c.2.1).1,DpL.mv m _ _ c.2.2⟩
  | @tupK a vs ds h l =>
   cases e1
   exact .inr (.inl ⟨a,rfl,⟨vs,.inr h⟩,res _ (fun A B H=>DpL g A B H vs ds) A1 B1 H1 t1 fm1.wo (itb_tup _ fun A B H c=>⟨.inr h,c⟩) (fun A B H A' B' H' m c=>DpL.mv m _ _ c) l⟩)
  | str x =>
   cases e1
   exact .inr (.inr ⟨x,rfl,res _ (fun _ _ _=>True) A1 B1 H1 t1 fm1.wo itb_str (fun _ _ _ _ _ _ _ _=>trivial) trivial⟩)
  | @scr a ns n h =>
   cases e1
   refine .inl ⟨a,rfl,⟨_,.inl h⟩,res _ (fun A B H=>¬ B a ∧ Rd H a (.lst (ns.map V.int))) A1 B1 H1 t1 fm1.wo (itb_list _ fun A B H c=>⟨.inl c.2,DpL.ints ns⟩) (fun A B H A' B' H' m c=>?_) ⟨n,h⟩⟩
   obtain ⟨o,ho⟩:=Rd.some c.2
   exact ⟨(m.cell a o c.1 ho).2,Rd.up c.2 fun o ho=>(m.cell a o c.1 ho).1⟩
  | @scrK a ns h =>
   cases e1
   exact .inl ⟨a,rfl,⟨_,.inr h⟩,res _ (fun A B H=>True) A1 B1 H1 t1 fm1.wo (itb_list _ fun A B H c=>⟨.inr h,DpL.ints ns⟩) (fun A B H A' B' H' m c=>trivial) trivial⟩
  | _=>cases e1
theorem di_s {fs:M (List D)} (h:PI X tg e (tI g W stayM fs)):PI X tg e (tI g W stayS fs):=h.dl fun σ H Q ⟨H0,A,B,ρ,ω,r,fm,e,res⟩=>⟨H0,A,B,ρ,ω,r,fm,e,by
 cases r with
 | val items ω'=>exact fun J C A' B' H' t w i s c=>res J C A' B' H' t w i (.of s) c
 | exc x ω'=>exact res⟩
theorem di_own (hK:X.K=g.K) (he:PE X e (tM g rW W f)):PI X tg e (tI g W stayS (f.bind itemsOf)) :=
 (pi_any he).dl fun σ H Q ⟨H0,A,B,ρ,ω,r,fm,e,res⟩=>by
  refine tM_mono (tI_bind fm e res) fun x H1 ⟨A1,B1,ω1,d1,t1,fm1,r1,e1⟩=>?_
  rw [hK]
  rcases r1 with r1 | ⟨p,vs,ds,rfl,rfl,hp,l,nl⟩
  · cases r1 with
    | @lst a vs ds n h l =>
     cases e1
     refine .inl ⟨a,rfl,⟨vs,SqL.of h⟩,res _ (fun A B H=>¬ B a ∧ H a=some (.lst vs) ∧ DpL g A B H vs ds) A1 B1 H1 t1 fm1.wo (itb_list _ fun A B H c=>⟨SqL.of c.2.1,c.2.2⟩) (stayS.of fun A B H A' B' H' m c=>?_) ⟨n,h,l⟩⟩
     exact ⟨(m.cell a _ c.1 c.2.1).2,(m.cell a _ c.1 c.2.1).1,DpL.mv m _ _ c.2.2⟩
    | @tup a vs ds n h l =>
     cases e1
     refine .inr (.inl ⟨a,rfl,⟨vs,SqT.of h⟩,res _ (fun A B H=>¬ B a ∧ H a=some (.tup vs) ∧ DpL g A B H vs ds) A1 B1 H1 t1 fm1.wo (itb_tup _ fun A B H c=>⟨SqT.of c.2.1,c.2.2⟩) (stayS.of fun A B H A' B' H' m c=>?_) ⟨n,h,l⟩⟩)
     exact ⟨(m.cell a _ c.1 c.2.1).2,(m.cell a _ c.1 c.2.1).1,DpL.mv m _ _ c.2.2⟩
    | @tupK a vs ds h l =>
     cases e1
     exact .inr (.inl ⟨a,rfl,⟨vs,.inr h⟩,res _ (fun A B H=>DpL g A B H vs ds) A1 B1 H1 t1 fm1.wo (itb_tup _ fun A B H c=>⟨.inr h,c⟩) (stayS.of fun A B H A' B' H' m c=>DpL.mv m _ _ c) l⟩)
    | str x =>
     cases e1
     exact .inr (.inr ⟨x,rfl,res _ (fun _ _ _=>True) A1 B1 H1 t1 fm1.wo itb_str (fun _ _ _ _ _ _ _ _ _=>trivial) trivial⟩)
    | @scr a ns n h =>
     cases e1
     refine .inl ⟨a,rfl,⟨_,.inl h⟩,res _ (fun A B H=>¬ B a ∧ Rd H a (.lst (ns.map V.int))) A1 B1 H1 t1 fm1.wo (itb_list _ fun A B H c=>⟨.inl c.2,DpL.ints ns⟩) (stayS.of fun A B H A' B' H' m c=>?_) ⟨n,h⟩⟩
     obtain ⟨o,ho⟩:=Rd.some c.2
     exact ⟨(m.cell a o c.1 ho).2,Rd.up c.2 fun o ho=>(m.cell a o c.1 ho).1⟩
    | @scrK a ns h =>
     cases e1
     exact .inl ⟨a,rfl,⟨_,.inr h⟩,res _ (fun A B H=>True) A1 B1 H1 t1 fm1.wo (itb_list _ fun A B H c=>⟨.inr h,DpL.ints ns⟩) (stayS.of fun A B H A' B' H' m c=>trivial) trivial⟩
    | _=>cases e1
  · cases e1
    refine .inl ⟨p,rfl,⟨vs,SqL.of hp⟩,res _ (fun A B H=>¬ Liv A p ∧ H p=some (.lst vs) ∧ DpL g A B H vs ds) A1 B1 H1 t1 fm1.wo (itb_list _ fun A B H c=>⟨SqL.of c.2.1,c.2.2⟩) (fun A B H A' B' H' hl t c=>?_) ⟨nl,hp,l⟩⟩
    refine ⟨fun z=>?_,t.keep p _ c.2.1 c.1,DpL.mv (t.mv hl) _ _ c.2.2⟩
    rcases t.new p z with z | z
    · exact c.1 z
    · have c2:H p=some (.lst vs):=c.2.1
      rw [z] at c2; cases c2
def rng1 (d:D):M (List D):=fun _ ω=>match d with
 | .int j=>if -(2 ^ 62) ≤ j ∧ j < 2 ^ 62 then some (.val (rangeD 0 j.toNat) ω) else none
 | _=>none
theorem di_range1 {p pos:Pos} (hg:Gl X "range") (hm:X.mg "range" = none) (he:PE X e (tM g rD W f)) (hs:starEach [e] X.env=[(false,eval e X.env)]:=by rfl) (hst:starEach [e] X.env=(false,eval e X.env) :: starEach [] X.env:=by rfl):PI X tg (.Call (.Name "range" p) [e] [] pos) (tI g W stayM (f.bind rng1)) :=
 (pi_range1 hg hm (pa_cons he pa_nil hst) hs).dl fun σ H Q ⟨H0,A,B,ρ,ω,r,fm,e,res⟩=>by
  refine tM_mono (tI_bind fm e res) fun x H1 ⟨A1,B1,ω1,d1,t1,fm1,r1,e1⟩=>?_
  cases d1 with
  | int j =>
   simp only [rng1] at e1
   split at e1
   · rename_i h
     cases e1
     cases r1
     exact ⟨j,rfl,h.1,h.2,res _ (fun _ _ _=>True) A1 B1 H1 t1 fm1.wo itb_range (fun _ _ _ _ _ _ _ _=>trivial) trivial⟩
   · cases e1
  | _=>cases e1
end
def forGo (T:TT1) (F:MS):List D→MS
 | []=>fun ρ ω=>some (.nx ρ ω)
 | d :: ds=>fun ρ ω=>match T d ρ ω with
  | none=>none
  | some ρ1=>match F ρ1 ω with
   | some (.nx ρ2 ω2)=>forGo T F ds ρ2 ω2
   | some (.ct ρ2 ω2)=>forGo T F ds ρ2 ω2
   | some (.bk ρ2 ω2)=>some (.bk ρ2 ω2)
   | r=>r
def unbk:Option RS→Option RS
 | some (.bk ρ ω)=>some (.nx ρ ω)
 | r=>r
def forS (src:M (List D)) (T:TT1) (F:MS):MS:=bindS src fun items ρ ω=>unbk (forGo T F items ρ ω)
section
variable {X:Cx} {g:G} {n:En} {W:WX} {tg iter:Expr} {body orelse:List Stmt} {src:M (List D)} {T:TT1} {is:List Nat} {F K:MS} {pos:Pos}
theorem drop_cons {α:Type}:∀ {l:List α} {i:Nat} {d:α},l[i]?=some d→l.drop i=d :: l.drop (i + 1)
 | [],_,_,h=>by simp at h
 | a :: l,0,d,h=>by simp at h; simp [h]
 | a :: l,i + 1,d,h=>by
  have:=drop_cons (l:=l) (i:=i) (d:=d) (by simpa using h)
  simpa using this
theorem tFor_go {J:It} {items:List D} {C:Cnd} {D:Ends} {u:St→Hp→Prop} {A:Ad} {B:Addr→Prop} {H:Hp} {σ:St} {ρ:Rho} {ω:List Cell} {r0:RS} (ib:ItB g J items C) (hC:stayM C) (hCS:stayS C)
  (st:Stp n.A n.B n.H A B H) (fm:Fm g n.H A B H ω σ ρ) (c:C A B H) (e:forGo T F items ρ ω=some r0) (res:ResS g n W A B H { D with nx:=u,bk:=D.nx } r0) :
  ∃ Wi:Nat→Nat→St→Hp→Prop,(∃ m,Wi 0 m σ H) ∧ ∀ i m σ H,Wi i m σ H →
   (J.stop i H ∧ u σ H) ∨ (J.go i H ∧ ∃ N:St→Hp→Prop,(∀ σ' H',N σ' H'→∃ m',m' < m ∧ Wi (i + 1) m' σ' H') ∧ ∀ x H',J.yld i H x H'→tGM g is T x σ H' fun σ2 H2=>tS g n W F { D with nx:=N,ct:=N,bk:=D.nx } σ2 H2):=by
 refine ⟨fun i m σ H=>m=items.length - i ∧ i ≤ items.length ∧ ∃ A B ρ ω,Stp n.A n.B n.H A B H ∧ Fm g n.H A B H ω σ ρ ∧ C A B H ∧ forGo T F (items.drop i) ρ ω=some r0 ∧ ResS g n W A B H { D with nx:=u,bk:=D.nx } r0,⟨_,rfl,Nat.zero_le _,A,B,ρ,ω,st,fm,c,e,res⟩,?_⟩
 rintro i m σ H ⟨rfl,hi,A,B,ρ,ω,st,fm,c,e,res⟩
 by_cases hlt:i < items.length
 · refine .inr ⟨ib.go A B H i c hlt,fun σ' H'=>∃ A B ρ ω,Stp n.A n.B n.H A B H' ∧ Fm g n.H A B H' ω σ' ρ ∧ C A B H' ∧ forGo T F (items.drop (i + 1)) ρ ω=some r0 ∧ ResS g n W A B H' { D with nx:=u,bk:=D.nx } r0,fun σ' H' p=>⟨_,by omega,rfl,hlt,p⟩,fun x H' y=>?_⟩
   obtain ⟨d,hd,t,w,dp⟩:=ib.yld A B H ω i x H' fm.wo c hlt y
   rw [drop_cons hd] at e
   unfold forGo at e
   cases qT:T d ρ ω with
   | none=>simp only [qT] at e; cases e
   | some ρ1 =>
    simp only [qT] at e
    refine ⟨n.H,A,B,ρ,ω,d,ρ1,fm.up t w,dp,qT,fun σ2 fm2 _=>?_⟩
    have c':C A B H':=hCS A B H A B H' fm.wo.liv t c
    have m':Mv A B H A B H':=fm.wo.mv t
    cases qF:F ρ1 ω with
    | none=>simp only [qF] at e; cases e
    | some r =>
     simp only [qF] at e
     refine ⟨A,B,ρ1,ω,r,st.trans t,fm2,qF,?_⟩
     cases r with
     | nx ρ2 ω2=>exact fun σ' A' B' H'' m s' fm'=>⟨A',B',ρ2,ω2,s',fm',hC _ _ _ _ _ _ m c',e,(res.mv m').mv m⟩
     | ct ρ2 ω2=>exact fun σ' A' B' H'' m s' fm'=>⟨A',B',ρ2,ω2,s',fm',hC _ _ _ _ _ _ m c',e,(res.mv m').mv m⟩
     | bk ρ2 ω2=>cases e; exact res.mv m'
     | rt d' ω2=>cases e; exact res
     | exc x' ρ2 ω2=>cases e; exact res.mv m'
 · have ei:i=items.length:=by omega
   subst ei
   rw [List.drop_length] at e
   cases e
   exact .inl ⟨ib.stop A B H _ c (Nat.le_refl _),res.next (.refl _ _ _) st fm⟩
theorem tI_bindS {k:List D→MS} {D:Ends} {stay:Cnd→Prop} {A:Ad} {B:Addr→Prop} {H:Hp} {σ:St} {ρ:Rho} {ω:List Cell} {r:RS} (st:Stp n.A n.B n.H A B H) (fm:Fm g n.H A B H ω σ ρ) (e:bindS src k ρ ω=some r) (res:ResS g n W A B H D r) :
  tI g W stay src σ H (fun J H1=>∃ A1 B1 ω1 items C,Mv A B H A1 B1 H1 ∧ Stp n.A n.B n.H A1 B1 H1 ∧ Fm g n.H A1 B1 H1 ω1 σ ρ ∧ ItB g J items C ∧ stay C ∧ C A1 B1 H1 ∧ k items ρ ω1=some r ∧ ResS g n W A1 B1 H1 D r):=by
 unfold bindS at e
 cases q:src ρ ω with
 | none=>rw [q] at e; cases e
 | some z =>
  rw [q] at e
  cases z with
  | exc x ω' =>
   cases e
   exact ⟨n.H,A,B,ρ,ω,_,fm,q,fun cls dd A' B' H' t w x=>res cls dd σ A' B' H' (fm.wo.mv t) (st.trans t) (fm.up t w) x⟩
  | val items ω'=>exact ⟨n.H,A,B,ρ,ω,_,fm,q,fun J C A1 B1 H1 t w ib s c=>⟨A1,B1,ω',items,C,fm.wo.mv t,st.trans t,fm.up t w,ib,s,c,e,res.mv (fm.wo.mv t)⟩⟩
theorem tI_mono {stay:Cnd→Prop} {σ:St} {H:Hp} {Q Q':It→Hp→Prop} (h:tI g W stay src σ H Q) (i:∀ J H',Q J H'→Q' J H'):tI g W stay src σ H Q':=by
 obtain ⟨H0,A,B,ρ,ω,r,fm,e,res⟩:=h
 refine ⟨H0,A,B,ρ,ω,r,fm,e,?_⟩
 cases r with
 | val a ω'=>exact fun J C A' B' H' t w ib s c=>i J H' (res J C A' B' H' t w ib s c)
 | exc x ω'=>exact res
theorem ds_for (hp:PassesOwn (model X.prog X.w) X.A X.env X.xe) (hc:X.calm=true) (hi:PI X tg iter (tI g W stayM src)) (hg:PG X tg (tGM g is T)) (hb:PSs X body (tS g n W F))
  (hs:∀ x,foldedSetIterable iter X.env x=pure x:=by intro _; rfl):PS X (.For tg iter body [] pos) (tS g n W (forS src T F)) :=
 (ps_for hp hc hi hg hb hs).dl fun D σ H ⟨A,B,ρ,ω,r,s,fm,e,res⟩=>by
  refine tI_mono (tI_bindS s fm e res) fun J H1 ⟨A1,B1,ω1,items,C,m1,s1,fm1,ib,hC,c,e1,res1⟩=>?_
  cases q:forGo T F items ρ ω1 with
  | none=>simp only [q] at e1; cases e1
  | some r0 =>
   simp only [q] at e1
   refine tFor_go ib hC (.of hC) s1 fm1 c q ?_
   cases r0 with
   | nx ρ' ω'=>cases e1; exact res1
   | bk ρ' ω'=>cases e1; exact res1
   | ct ρ' ω'=>cases e1; exact res1
   | rt d ω'=>cases e1; exact res1
   | exc x ρ' ω'=>cases e1; exact res1
end
def whileGo (t:M Bool) (F:MS):Nat→MS
 | 0=>fun _ _=>none
 | k + 1=>fun ρ ω=>match t ρ ω with
  | none=>none
  | some (.exc x ω')=>some (.exc x ρ ω')
  | some (.val false ω')=>some (.nx ρ ω')
  | some (.val true ω')=>match F ρ ω' with
   | some (.nx ρ2 ω2)=>whileGo t F k ρ2 ω2
   | some (.ct ρ2 ω2)=>whileGo t F k ρ2 ω2
   | some (.bk ρ2 ω2)=>some (.nx ρ2 ω2)
   | r=>r
section
variable {X:Cx} {g:G} {n:En} {W:WX} {c:Expr} {body:List Stmt} {t:M Bool} {F:MS} {pos:Pos}
theorem ds_while (k:Nat) (hp:PassesOwn (model X.prog X.w) X.A X.env X.xe) (hc:PT X c (tM g rB W t)) (hb:PSs X body (tS g n W F)):PS X (.While c body [] pos) (tS g n W (whileGo t F k)) :=
 (ps_while hp hc hb).dl fun D σ H ⟨A,B,ρ,ω,r0,s,fm,e,res⟩=>by
  refine ⟨fun m σ H=>∃ A B ρ ω,Stp n.A n.B n.H A B H ∧ Fm g n.H A B H ω σ ρ ∧ whileGo t F m ρ ω=some r0 ∧ ResS g n W A B H D r0,⟨k,A,B,ρ,ω,s,fm,e,res⟩,?_⟩
  rintro m σ H ⟨A,B,ρ,ω,s,fm,e,res⟩
  cases m with
  | zero=>cases e
  | succ k =>
   unfold whileGo at e
   cases q:t ρ ω with
   | none=>simp only [q] at e; cases e
   | some z =>
    cases z with
    | exc x ω' =>
     simp only [q] at e
     cases e
     exact ⟨n.H,A,B,ρ,ω,_,fm,q,fun cls dd A' B' H' t w x=>res cls dd σ A' B' H' (fm.wo.mv t) (s.trans t) (fm.up t w) x⟩
    | val b ω' =>
     refine ⟨n.H,A,B,ρ,ω,_,fm,q,fun v A1 B1 H1 t1 w1 rl=>?_⟩
     cases rl
     have m1:=fm.wo.mv t1
     have fm1:=fm.up t1 w1
     have s1:=s.trans t1
     cases b with
     | false =>
      rw [if_neg Bool.false_ne_true]
      simp only [q] at e
      cases e
      exact res.next m1 s1 fm1
     | true =>
      rw [if_pos rfl]
      simp only [q] at e
      refine ⟨fun σ' H'=>∃ A B ρ ω,Stp n.A n.B n.H A B H' ∧ Fm g n.H A B H' ω σ' ρ ∧ whileGo t F k ρ ω=some r0 ∧ ResS g n W A B H' D r0,fun σ' H' p=>⟨k,Nat.lt_succ_self _,p⟩,?_⟩
      cases qF:F ρ ω' with
      | none=>simp only [qF] at e; cases e
      | some r =>
       simp only [qF] at e
       refine ⟨A1,B1,ρ,ω',r,s1,fm1,qF,?_⟩
       cases r with
       | nx ρ2 ω2=>exact fun σ' A' B' H'' m s' fm'=>⟨A',B',ρ2,ω2,s',fm',e,(res.mv m1).mv m⟩
       | ct ρ2 ω2=>exact fun σ' A' B' H'' m s' fm'=>⟨A',B',ρ2,ω2,s',fm',e,(res.mv m1).mv m⟩
       | bk ρ2 ω2=>cases e; exact res.mv m1
       | rt d' ω2=>cases e; exact res
       | exc x' ρ2 ω2=>cases e; exact res.mv m1
end
end DL
namespace DL
open PySem L2
def hotN:List Str:=["BadText", "NotDone"]
def HotK (mg:Str→Option Value) (cls:Value):Prop:=∃ c ∈ hotN,mg c=some cls
abbrev hotW (mg:Str→Option Value) (W:WX):WX:=fun cls d σ H=>HotK mg cls ∧ W cls d σ H
abbrev hotE (mg:Str→Option Value) (E:XK):XK:=fun cls d H=>HotK mg cls ∧ E cls d H
def Takes (X:Cx) (W:WX):Prop:=L2.Takes X (hotW X.mg W) ∧ L2N.Takes X W
def CXm (mg:Str→Option Value) (P:Program) (w:World):CXT:=fun outer H s E u s'=>L2.CX P w outer H s (hotE mg E) u s' ∨ L2N.CX P w outer H s E u s'
theorem cxm_none {mg:Str→Option Value} {P:Program} {w:World} {outer:List PySem.Env} {H:Hp} {s s':Shared} {u:Value} (h:CXm mg P w outer H s (fun _ _ _=>False) u s'):False:=by
 rcases h with ⟨_,_,_,_,_,_,_,_,_,_,_,_,_,z⟩ | ⟨_,_,_,_,_,_,_,_,_,_,_,_,z⟩
 · exact z
 · exact z
def Zm (mg:Str→Option Value) (cls:Value) (d:Option Addr):Obj→Prop:=fun o=>o.cls=cls ∧ o.dict=d ∧ (¬ HotK mg cls→PXN.CtxN o)
theorem Zm.steady {mg:Str→Option Value} {cls:Value} {d:Option Addr}:PXN.Steady1 (Zm mg cls d):=fun o v h=>⟨PXN.steady_cls o v h.1,PXN.steady_dict o v h.2.1,fun n=>PXN.steady_ctx o v (h.2.2 n)⟩
theorem Zm.zc {mg:Str→Option Value} {cls:Value} {d:Option Addr} {o:Obj} (h:Zm mg cls d o):Zc cls d o:=⟨h.1,h.2.1⟩
theorem sky_imp {B:Heap} {l:List PySem.Env} {a L:Addr} {Z Z':Obj→Prop} {h:Heap} (z:∀ o,Z o→Z' o) (x:Sky B l a Z L h):Sky B l a Z' L h:=by
 rcases x with ⟨h1,h2,h3,oe,vs,h4,h5,h6⟩ | fl | ⟨h1,h2,h3,h4⟩
 · exact .inl ⟨h1,h2,h3,oe,vs,h4,z _ h5,h6⟩
 · exact .inr (.inl (L2H.flyingZ_imp z fl))
 · exact .inr (.inr ⟨h1,h2,h3,L2H.tracedZ_imp z h4⟩)
def XEm (X:Cx) (W:WX) (u:Value) (s':Shared):Prop :=
 ∃ (a:Addr) (B:Heap) (sI:Shared) (pins:List (Addr × Obj)) (σ:St) (H:Hp) (cls:Value) (d:Option Addr),
  (u=.ref a ∧ Inv X pins σ H sI) ∧ ((∀ b o,sI.heap.get? b=some o→b ∉ frs X.stack→B.get? b=some o) ∧ sI.heap.UpToSlots s'.heap) ∧
   (Sky B X.stack a (Zm X.mg cls d) X.env.locals s'.heap ∧ H a=none) ∧ s'.os=sI.os ∧ PyProof.Rows.AllBare s'.gens ∧ W cls d σ H
theorem Takes.at {X:Cx} {W:WX} {u:Value} {s':Shared} (tk:Takes X W) (x:XEm X W u s'):X.xe u s':=by
 obtain ⟨a,B,sI,pins,σ,H,cls,d,⟨e,I⟩,⟨nb,up⟩,⟨sky,na⟩,os,ag,w⟩:=x
 by_cases h:HotK X.mg cls
 · exact tk.1 u s' ⟨a,B,sI,pins,σ,H,cls,d,e,I,nb,up,sky_imp (fun o z=>z.zc) sky,na,os,ag,h,w⟩
 · exact tk.2 u s' ⟨a,B,sI,pins,σ,H,cls,d,e,I,nb,up,sky_imp (fun o z=>⟨z.1,z.2.1,z.2.2 h⟩) sky,na,os,ag,w⟩
theorem Takes.mk {X:Cx} {W:WX} (h:∀ u s',XEm X W u s'→X.xe u s'):Takes X W :=
 ⟨fun u s' ⟨a,B,sI,pins,σ,H,cls,d,e,I,nb,up,sky,na,os,ag,hot,w⟩=>h u s' ⟨a,B,sI,pins,σ,H,cls,d,⟨e,I⟩,⟨nb,up⟩,⟨sky_imp (fun o z=>⟨z.1,z.2,fun n=>absurd hot n⟩) sky,na⟩,os,ag,w⟩,
  fun u s' ⟨a,B,sI,pins,σ,H,cls,d,e,I,nb,up,sky,na,os,ag,w⟩=>h u s' ⟨a,B,sI,pins,σ,H,cls,d,⟨e,I⟩,⟨nb,up⟩,⟨sky_imp (fun o z=>⟨z.1,z.2.1,fun _=>z.2.2⟩) sky,na⟩,os,ag,w⟩⟩
theorem passAt {X:Cx} {W:WX} (tk:Takes X W) (σ:St):PassesAt (CXm X.mg X.prog X.w) X σ (WE W σ):=fun pins H s e s' I c =>
 c.elim (fun c=>tk.1 e s' (L2.XE.of_call I (fun _ _ _ h=>h) c)) fun c=>tk.2 e s' (L2N.XE.of_call I (fun _ _ _ h=>h) c)
theorem takes0 {X:Cx}:Takes X (fun _ _ _ _=>False):=.mk fun u s' ⟨_,_,_,_,_,_,_,_,_,_,_,_,_,z⟩=>z.elim
theorem takes_of {X:Cx} {E:XK} (hs:X.stack=X.env :: X.outer) (hf:X.env.frame=some X.env.locals) (hex:X.ex=[]) {E₁:Value→Shared→Prop}
  (hx:X.xe=fun e s'=>wpAny (model X.prog X.w) X.A (PySem.leaving X.env e) (fun _ s''=>CXm X.mg X.prog X.w X.outer X.H_0 X.s_0 E e s'') E₁ s'):Takes X (fun cls d _ H=>E cls d H):=by
 refine ⟨fun u s' x=>?_,fun u s' x=>?_⟩
 · rw [hx]
   exact wpAny_mono (L2.XE.leave (W:=hotW X.mg fun cls d _ H=>E cls d H) (E:=hotE X.mg E) (E₁:=E₁) hs hf hex (fun _ _ _ _ h=>h) x) (fun _ _ z=>.inl z) fun _ _ z=>z
 · rw [hx]
   exact wpAny_mono (L2N.XE.leave (W:=fun cls d _ H=>E cls d H) (E:=E) (E₁:=E₁) hs hf hex (fun _ _ _ _ h=>h) x) (fun _ _ z=>.inr z) fun _ _ z=>z
section
open PyProof.Rows hiding St
variable {P:Program} {w:World} {K:PySem.W.Frag} {mg:Str→Option Value} {base:Heap} {CX:CXT}
theorem fn_okC {x qual:Str} {st:Stmt} {f:Addr} {fd:FuncData} {N ps:List Str} {k:Nat} {sp:Sp} (F:Fun K x qual st f fd) (S:FnScope N ps (defScope st)) (len:∀ vs H Q E,sp vs H Q E→vs.length=ps.length)
  (hb:∀ (cdv:Value) (A:Around) (outer:List PySem.Env) (s:Shared) (H:Hp) (vs:List V) (Q:VK) (E:XK),Room k (A.deeper (envOfC qual (defScope st) s.heap.objs.size f cdv))→sp vs H Q E →
   ∃ t,PSs (cxOf CX P w K mg base N qual (defScope st) f cdv A outer s H E) (defBody st) t ∧ t { nx:=fun _ H'=>Q .non H',rt:=Q } (L2.start N vs) H):FnOk P w K mg base CX (k + 1) f fd ps sp:=by
 obtain ⟨oc,od,kV,doc,pm,an,cdv,ct,osl,rfl,lk,hcd⟩:=F.ex
 exact fn_of lk hcd S len fun A outer s H vs Q E hr h=>hb cdv A outer s H vs Q E hr h
end
end DL
namespace DL
open PySem L2
def wipeE (ρ:Rho):List Nat→Rho
 | []=>ρ
 | v :: vs=>(wipeE ρ vs).set v .no
def lcGo (vs:List Nat) (T:TT1) (t:M Bool) (f:M D) (ρ:Rho):List D→List D→List Cell→Option (List D × List Cell)
 | [],acc,ω=>some (acc,ω)
 | d :: ds,acc,ω=>match T d (wipeE ρ vs) ω with
  | none=>none
  | some ρ2=>match t ρ2 ω with
   | some (.val true ω1)=>match f ρ2 ω1 with
    | some (.val y ω2)=>if acc.length < sizeLine then lcGo vs T t f ρ ds (acc ++ [y]) ω2 else none
    | _=>none
   | some (.val false ω1)=>lcGo vs T t f ρ ds acc ω1
   | _=>none
def lcM (vs:List Nat) (src:M (List D)) (T:TT1) (t:M Bool) (f:M D):M (List D):=src.bind fun items ρ ω=>match lcGo vs T t f ρ items [] ω with
 | some (ds,ω')=>some (.val ds ω')
 | none=>none
abbrev W0:WX:=fun _ _ _ _=>False
section
variable {g:G} {W:WX} {A A':Ad} {B B':Addr→Prop} {H H' H0:Hp} {ω ω':List Cell} {σ:St} {ρ:Rho}
theorem Slots.wipe (h:Slots g H0 A B H σ ρ):∀ vs:List Nat,Slots g H0 A B H (L2.wipe σ vs) (wipeE ρ vs)
 | []=>h
 | v :: vs=>(h.wipe vs).drop
theorem Fm.bump {p:Addr} {o:HO} (h:Fm g H0 A B H ω σ ρ) (hb:B p) (nl:¬ Liv A p) (no:∀ (i:Nat) (ds:List D),ρ[i]?=some (.ow ds)→σ[i]? ≠ some (some (.ref p))) (hz:∀ o u,H p ≠ some (.frz o u)) :
  Fm g H0 A B (upd H p o) ω σ ρ ∧ Mv A B H A B (upd H p o):=by
 have m:Mv A B H A B (upd H p o):=⟨fun a u na e=>⟨by rw [upd_ne (fun z=>na (by rw [z]; exact hb))]; exact e,na⟩,fun _ _ h=>.inl h,frz_upd hz⟩
 refine ⟨⟨⟨h.wo.len,h.wo.inj,h.wo.liv,fun a ha=>?_,fun k c e=>?_⟩,⟨h.sl.len,fun j s e=>?_,h.sl.own⟩⟩,m⟩
 · by_cases z:a=p
   · exact ⟨_,by rw [z]; exact upd_same⟩
   · obtain ⟨o,e⟩:=h.wo.bnd a ha
     exact ⟨o,by rw [upd_ne z]; exact e⟩
 · rcases h.wo.cell k c e with z | ⟨a,h1,h2⟩
   · exact .inl z
   · exact .inr ⟨a,h1,h2.mv m fun o q=>by rw [upd_ne (fun z=>nl (by rw [← z]; exact Liv.of h1))]; exact q⟩
 · have:=h.sl.val j s e
   cases s with
   | no=>trivial
   | ex p y=>exact ⟨this.1,this.2.mv m⟩
   | fz d =>
    obtain ⟨v,e1,e2⟩:=this
    exact ⟨v,e1,Dp.mv m _ _ e2⟩
   | ow es =>
    obtain ⟨q,ws,e1,e2,e3,e4,e5,e6⟩:=this
    have npq:q ≠ p:=fun z=>no j es e (by rw [← z]; exact e1)
    exact ⟨q,ws,e1,by rw [upd_ne npq]; exact e2,DpL.mv m _ _ e3,e4,e5,e6⟩
theorem tM_val {α β:Type} {rel:Rl β α} {f:M α} {a:α} {Q:β→Hp→Prop} (fm:Fm g H0 A B H ω σ ρ) (e:f ρ ω=some (.val a ω')) (q:∀ v A' B' H',Stp A B H A' B' H'→Wo g A' B' H' ω'→rel g A' B' H' v a→Q v H'):tM g rel W f σ H Q:=⟨H0,A,B,ρ,ω,_,fm,e,q⟩
theorem tLc_of {src:M (List D)} {T:TT1} {t:M Bool} {f:M D} {is vs:List Nat} (hv:∀ i ∈ is,i ∈ vs):∀ σ H Q,tN g W (lcM vs src T t f) σ H Q→tLc (tI g W stayS src) (tGM g is T) (tM g rB W0 t) (tM g rD W0 f) vs σ H Q:=by
 rintro σ H Q ⟨H0,A,B,ρ,ω,r,fm,e,res⟩
 unfold lcM M.bind at e
 cases q:src ρ ω with
 | none=>rw [q] at e; cases e
 | some z =>
  rw [q] at e
  cases z with
  | exc x ω' =>
   cases e
   exact ⟨H0,A,B,ρ,ω,_,fm,q,res⟩
  | val items ω1 =>
   refine ⟨H0,A,B,ρ,ω,_,fm,q,fun J C A1 B1 H1 t1 w1 ib hC c=>?_⟩
   intro L hL
   simp only at e
   cases q2:lcGo vs T t f ρ items [] ω1 with
   | none=>simp only [q2] at e; cases e
   | some z =>
    obtain ⟨out,ω9⟩:=z
    simp only [q2] at e
    cases e
    have fm1:=fm.up t1 w1
    have hL0:H L=none:=t1.none hL
    have no:∀ (i:Nat) (ds:List D),ρ[i]?=some (.ow ds)→σ[i]? ≠ some (some (.ref L)):=fun i ds ei z=>by
     obtain ⟨p,ws,e1,e2,_⟩:=fm.sl.val i _ ei
     rw [z] at e1
     cases e1
     rw [hL0] at e2; cases e2
    refine ⟨fun i m H'=>m=items.length - i ∧ i ≤ items.length ∧ ∃ A' B' ω' acc ws,Stp A1 B1 H1 A' B' H' ∧ Fm g H0 A' B' H' ω' σ ρ ∧ H' L=some (.lst ws) ∧ DpL g A' B' H' ws acc ∧ B' L ∧ ¬ Liv A' L ∧ lcGo vs T t f ρ (items.drop i) acc ω'=some (out,ω9),
     ⟨_,rfl,Nat.zero_le _,A1,_,ω1,[],[],(Stp.refl A1 B1 H1).alloc hL,fm1.up ((Stp.refl A1 B1 H1).alloc hL) (w1.plus hL),upd_same,.nil,.inr rfl,fun z=>w1.nb hL (w1.liv L z),q2⟩,?_⟩
    rintro i m H' ⟨rfl,hi,A',B',ω',acc,ws,s',fm',hLs,l,hb,nl,e⟩
    have c':C A' B' H':=hC _ _ _ _ _ _ w1.liv s' c
    by_cases hlt:i < items.length
    · refine .inr ⟨ib.go A' B' H' i c' hlt,fun H'=>∃ A' B' ω' acc ws,Stp A1 B1 H1 A' B' H' ∧ Fm g H0 A' B' H' ω' σ ρ ∧ H' L=some (.lst ws) ∧ DpL g A' B' H' ws acc ∧ B' L ∧ ¬ Liv A' L ∧ lcGo vs T t f ρ (items.drop (i + 1)) acc ω'=some (out,ω9),fun H' p=>⟨_,by omega,rfl,hlt,p⟩,fun x H2 y=>?_⟩
      obtain ⟨d,hd,t2,w2,dp⟩:=ib.yld A' B' H' ω' i x H2 fm'.wo c' hlt y
      rw [drop_cons hd] at e
      unfold lcGo at e
      have fm2:=fm'.up t2 w2
      cases qT:T d (wipeE ρ vs) ω' with
      | none=>simp only [qT] at e; cases e
      | some ρ2 =>
       simp only [qT] at e
       refine ⟨H0,A',B',wipeE ρ vs,ω',d,ρ2,⟨fm2.wo,fm2.sl.wipe vs⟩,dp,qT,fun σ2 fm3 so=>⟨?_,?_⟩⟩
       · rw [so.wipe hv]
         apply List.ext_getElem?
         intro j
         by_cases hj:j ∈ vs
         · rw [wipe_in hj,wipe_in hj,wipe_length]
         · rw [wipe_notin hj]
       cases qt:t ρ2 ω' with
       | none=>simp only [qt] at e; cases e
       | some z =>
        cases z with
        | exc x ω5=>simp only [qt] at e; cases e
        | val b ω3 =>
         refine tM_val fm3 qt fun v A3 B3 H3 t3 w3 rl=>?_
         cases rl
         have fm4:=fm2.up t3 w3
         have fm4':=fm3.up t3 w3
         have hL3:H3 L=some (.lst ws):=t3.keep L _ (t2.keep L _ hLs nl) nl
         have nl3:¬ Liv A3 L:=fun z=>by
          rcases t3.new L z with z | z
          · exact nl z
          · rw [t2.keep L _ hLs nl] at z; cases z
         have hb3:B3 L:=(t3.old L _ (t2.keep L _ hLs nl) nl).mpr hb
         have l3:DpL g A3 B3 H3 ws acc:=DpL.mv (fm2.wo.mv t3) _ _ (DpL.mv (fm'.wo.mv t2) _ _ l)
         have s3:=(s'.trans t2).trans t3
         cases b with
         | false =>
          rw [if_neg Bool.false_ne_true]
          simp only [qt] at e
          exact ⟨A3,B3,ω3,acc,ws,s3,fm4,hL3,l3,hb3,nl3,e⟩
         | true =>
          rw [if_pos rfl]
          simp only [qt] at e
          cases qf:f ρ2 ω3 with
          | none=>simp only [qf] at e; cases e
          | some z =>
           cases z with
           | exc x ω5=>simp only [qf] at e; cases e
           | val y' ω5 =>
            simp only [qf] at e
            refine tM_val fm4' qf fun v A5 B5 H5 t5 w5 rl=>?_
            split at e
            · rename_i hz
              have hL5:H5 L=some (.lst ws):=t5.keep L _ hL3 nl3
              have nl5:¬ Liv A5 L:=fun z=>by
               rcases t5.new L z with z | z
               · exact nl3 z
               · rw [hL3] at z; cases z
              have hb5:B5 L:=(t5.old L _ hL3 nl3).mpr hb3
              have l5:DpL g A5 B5 H5 ws acc:=DpL.mv (fm4.wo.mv t5) _ _ l3
              obtain ⟨fm6,m6⟩:=(fm4.up t5 w5).bump (o:=.lst (ws ++ [v])) hb5 nl5 no (frz_not hL5)
              refine ⟨ws,hL5,by rw [l5.length]; exact hz,A5,B5,ω5,acc ++ [y'],ws ++ [v],(s3.trans t5).own hL nl5,fm6,upd_same,DpL.mv m6 _ _ (l5.append (.cons rl .nil)),hb5,nl5,e⟩
            · cases e
    · have ei:i=items.length:=by omega
      subst ei
      rw [List.drop_length] at e
      cases e
      exact .inl ⟨ib.stop A' B' H' _ c' (Nat.le_refl _),res L ws A' B' H' (t1.trans s') fm'.wo hLs l hb nl hL0⟩
end
section
variable {X:Cx} {g:G} {n:En} {W:WX} {elt tg iter:Expr} {ifs:List Expr} {scope:Scope} {own:List (Str × Nat)} {src:M (List D)} {T:TT1} {t:M Bool} {f:M D} {is:List Nat} {pos spos py:Pos} {i:Nat} {y:Str}
theorem dts_nil:PTs X [] (tM g rB W (M.pure true)):=pts_nil.dl fun σ H Q ⟨H0,A,B,ρ,ω,r,fm,e,res⟩=>tM_pureB fm e res
theorem dts_one {c:Expr} (h:PT X c (tM g rB W t)):PTs X [c] (tM g rB W t):=pts_one h
theorem dn_lc (hc:X.calm=true) (hN:X.N.Nodup) (hi:PI X tg iter (tI g W stayS src)) (ok:BlkOk X.N X.env.scope scope own) (hv:∀ i ∈ is,i ∈ own.map (·.2))
  (hg:∀ (s:Shared) (H:Hp) (C:Addr) (cl:List (Str × Addr)) (fp:List Addr),PG (X.blk s H scope (compEnvC scope cl C X.env) fp) tg (tGM g is T))
  (ht:∀ (s:Shared) (H:Hp) (C:Addr) (cl:List (Str × Addr)) (fp:List Addr),PTs (X.blk s H scope (compEnvC scope cl C X.env) fp) ifs (tM g rB W0 t))
  (he:∀ (s:Shared) (H:Hp) (C:Addr) (cl:List (Str × Addr)) (fp:List Addr),PE (X.blk s H scope (compEnvC scope cl C X.env) fp) elt (tM g rD W0 f)) (hs:∀ x,foldedSetIterable iter X.env x=pure x:=by intro _; rfl) :
  PE X (.ListComp elt [⟨tg,iter,ifs,0⟩] scope pos) (tN g W (lcM (own.map (·.2)) src T t f)) :=
 (pe_lc hc hN hi ok hg ht he hs).dl (tLc_of hv)
theorem ds_setLc (hc:X.calm=true) (hN:X.N.Nodup) (hy:X.N[i]?=some y) (hyl:X.env.scope.names.lookup y=some .local) (hsw:swapsWith (.ListComp elt [⟨tg,iter,ifs,0⟩] scope pos) (some (.Name y py)) spos.line X.env=pure true)
  (hi:PI X tg iter (tI g W stayS src)) (ok:BlkOk X.N X.env.scope scope own) (hv:∀ i ∈ is,i ∈ own.map (·.2))
  (hg:∀ (s:Shared) (H:Hp) (C:Addr) (cl:List (Str × Addr)) (fp:List Addr),PG (X.blk s H scope (compEnvC scope cl C X.env) fp) tg (tGM g is T))
  (ht:∀ (s:Shared) (H:Hp) (C:Addr) (cl:List (Str × Addr)) (fp:List Addr),PTs (X.blk s H scope (compEnvC scope cl C X.env) fp) ifs (tM g rB W0 t))
  (he:∀ (s:Shared) (H:Hp) (C:Addr) (cl:List (Str × Addr)) (fp:List Addr),PE (X.blk s H scope (compEnvC scope cl C X.env) fp) elt (tM g rD W0 f)) (hs:∀ x,foldedSetIterable iter X.env x=pure x:=by intro _; rfl) :
  PS X (.Assign [.Name y py] (.ListComp elt [⟨tg,iter,ifs,0⟩] scope pos) spos) (tS g n W (setS i ((lcM (own.map (·.2)) src T t f).bind fun ds=>M.pure (.lst ds)))) :=
 (ps_setLc hc hN hy hyl hsw hi ok hg ht he hs).dl fun D σ H ⟨A,B,ρ,ω,r,s,fm,e,res⟩=>by
  refine tLc_of hv σ H _ (tN_D σ H _ (tM_mono (tS_bind s fm e res) fun v H1 ⟨A1,B1,ω1,d,t1,m1,s1,fm1,r1,e1,res1⟩=>?_))
  cases e1
  exact res1.next (.refl _ _ _) s1 (fm1.setF r1)
end
abbrev Fn:=List D→List Cell→Option (R D)
def spD (g:G) (Gf:Fn):Sp:=fun vs H Q E=>∃ A B ω ds r,Wo g A B H ω ∧ DpL g A B H vs ds ∧ Gf ds ω=some r ∧ match r with
 | .val d ω'=>∀ v A' B' H',Stp A B H A' B' H'→Wo g A' B' H' ω'→Dp g A' B' H' v d→Q v H'
 | .exc x ω'=>∀ cls dd A' B' H',Stp A B H A' B' H'→Wo g A' B' H' ω'→XOk g A' B' H' cls dd x→E cls dd H'
def startE (N:List Str) (ds:List D):Rho:=ds.map Sl.fz ++ List.replicate (N.length - ds.length) Sl.no
theorem slots_start {g:G} {A:Ad} {B:Addr→Prop} {H H0:Hp} {N:List Str} {vs:List V} {ds:List D} (l:DpL g A B H vs ds):Slots g H0 A B H (start N vs) (startE N ds):=by
 refine ⟨by simp [L2.start,startE,l.length],fun i s e=>?_,fun i j xs ys p ei ej _ _=>?_⟩
 · unfold startE at e
   unfold L2.start
   by_cases hi:i < ds.length
   · rw [List.getElem?_append_left (by simpa using hi),List.getElem?_map] at e
     rw [List.getElem?_append_left (by simpa [l.length] using hi),List.getElem?_map]
     cases q:ds[i]? with
     | none=>rw [q] at e; cases e
     | some d =>
      rw [q] at e
      cases e
      obtain ⟨v,h1,h2⟩:=l.get q
      exact ⟨v,by rw [h1]; rfl,h2⟩
   · rw [List.getElem?_append_right (by simpa using Nat.le_of_not_lt hi),List.getElem?_replicate] at e
     split at e
     · cases e; trivial
     · cases e
 · exfalso
   unfold startE at ei
   by_cases hi:i < ds.length
   · rw [List.getElem?_append_left (by simpa using hi),List.getElem?_map] at ei
     cases q:ds[i]? with
     | none=>rw [q] at ei; cases ei
     | some d=>rw [q] at ei; cases ei
   · rw [List.getElem?_append_right (by simpa using Nat.le_of_not_lt hi),List.getElem?_replicate] at ei
     split at ei
     · cases ei
     · cases ei
def retOf:RS→Option (R D)
 | .rt d ω=>some (.val d ω)
 | .nx _ ω=>some (.val .non ω)
 | .exc x _ ω=>some (.exc x ω)
 | _=>none
def fnOf (N:List Str) (k:Nat) (F:MS):Fn:=fun ds ω=>if ds.length=k then (match F (startE N ds) ω with | some r=>retOf r | none=>none) else none
section
variable {P:Program} {w:World} {K:PySem.W.Frag} {mg:Str→Option Value} {base:Heap} {x qual:Str} {st:Stmt} {f:Addr} {fd:FuncData} {N ps:List Str} {k:Nat} {Gf:Fn} {F:MS}
theorem fn_d (Fu:Fun K x qual st f fd) (S:FnScope N ps (defScope st)) (hl:∀ ds ω r,Gf ds ω=some r→ds.length=ps.length)
  (body:∀ (cdv:Value) (A:Around) (outer:List PySem.Env) (s:Shared) (H:Hp) (E:XK) (n:En),Room k (A.deeper (PyProof.Rows.envOfC qual (defScope st) s.heap.objs.size f cdv))→PSs (cxOf CX0 P w K mg base N qual (defScope st) f cdv A outer s H E).nox (defBody st) (tS ⟨K,mg⟩ n W0 F))
  (hf:∀ ds ω r,Gf ds ω=some r→∃ d ω' rs,r=.val d ω' ∧ F (startE N ds) ω=some rs ∧ retOf rs=some r):FnOk P w K mg base CX0 (k + 1) f fd ps (spD ⟨K,mg⟩ Gf):=by
 refine Fu.ok S (fun vs H Q E ⟨A,B,ω,ds,r,w,l,e,q⟩=>by rw [l.length]; exact hl ds ω r e) fun cdv A outer s H vs Q E hr ⟨Aa,B,ω,ds,r,wo,l,e,q⟩=>?_
 refine ⟨_,body cdv A outer s H E ⟨Aa,B,H⟩ hr,?_⟩
 obtain ⟨d,ω',rs,rfl,eF,er⟩:=hf ds ω r e
 refine ⟨Aa,B,startE N ds,ω,rs,.refl _ _ _,⟨wo,slots_start l⟩,eF,?_⟩
 cases rs with
 | rt d' ω2 =>
  cases er
  exact fun v A' B' H' t w dp=>q v A' B' H' t w dp
 | nx ρ2 ω2 =>
  cases er
  exact fun σ' A' B' H' m t fm=>q .non A' B' H' t fm.wo .non
 | exc x ρ2 ω2=>cases er
 | bk ρ2 ω2=>cases er
 | ct ρ2 ω2=>cases er
theorem fn_x (Fu:Fun K x qual st f fd) (S:FnScope N ps (defScope st)) (hl:∀ ds ω r,Gf ds ω=some r→ds.length=ps.length)
  (body:∀ (cdv:Value) (A:Around) (outer:List PySem.Env) (s:Shared) (H:Hp) (E:XK) (n:En),Room k (A.deeper (PyProof.Rows.envOfC qual (defScope st) s.heap.objs.size f cdv))→PSs (cxOf (CXm mg P w) P w K mg base N qual (defScope st) f cdv A outer s H E) (defBody st) (tS ⟨K,mg⟩ n (fun cls d _ H=>E cls d H) F))
  (hf:∀ ds ω r,Gf ds ω=some r→∃ rs,F (startE N ds) ω=some rs ∧ retOf rs=some r):FnOk P w K mg base (CXm mg P w) (k + 1) f fd ps (spD ⟨K,mg⟩ Gf):=by
 refine fn_okC Fu S (fun vs H Q E ⟨A,B,ω,ds,r,w,l,e,q⟩=>by rw [l.length]; exact hl ds ω r e) fun cdv A outer s H vs Q E hr ⟨Aa,B,ω,ds,r,wo,l,e,q⟩=>?_
 refine ⟨_,body cdv A outer s H E ⟨Aa,B,H⟩ hr,?_⟩
 obtain ⟨rs,eF,er⟩:=hf ds ω r e
 refine ⟨Aa,B,startE N ds,ω,rs,.refl _ _ _,⟨wo,slots_start l⟩,eF,?_⟩
 cases rs with
 | rt d' ω2 =>
  cases er
  exact fun v A' B' H' t w dp=>q v A' B' H' t w dp
 | nx ρ2 ω2 =>
  cases er
  exact fun σ' A' B' H' m t fm=>q .non A' B' H' t fm.wo .non
 | exc x ρ2 ω2 =>
  cases er
  exact fun cls dd σ' A' B' H' m t fm xo=>q cls dd A' B' H' t fm.wo xo
 | bk ρ2 ω2=>cases er
 | ct ρ2 ω2=>cases er
end
section
variable {X:Cx} {g:G} {W:WX} {x:Str} {p pos:Pos} {e:Expr} {es:List Expr} {fs:M (List D)} {k:Nat} {f:Addr} {fd:FuncData} {ps:List Str} {Gf:Fn}
def callM (Gf:Fn) (ds:List D):M D:=fun _ ω=>Gf ds ω
theorem tM_call:∀ σ H Q,tM g rD W (fs.bind (callM Gf)) σ H Q→tCallS (spD g Gf) (WE W) (tM g rL W fs) σ H Q:=by
 rintro σ H Q ⟨H0,A,B,ρ,ω,r,fm,e,res⟩
 refine tM_mono (tM_bind fm e res) fun vs H1 ⟨A1,B1,ω1,ds,t1,fm1,r1,e1,res1⟩=>?_
 refine ⟨A1,B1,ω1,ds,r,fm1.wo,r1,e1,?_⟩
 cases r with
 | val d ω'=>exact fun v A' B' H' t w dp=>res1 v A' B' H' t w dp
 | exc x ω'=>exact fun cls dd A' B' H' t w xo=>res1 cls dd A' B' H' t w xo
theorem de_call (tk:Takes X W) (F:FnOk X.prog X.w X.K X.mg X.base (CXm X.mg X.prog X.w) k f fd ps (spD g Gf)) (hr:Room k X.A) (hg:Gl X x) (hm:X.mg x=some (.ref f)) (hk:PySem.W.keepIn X.K (.ref f)=true) (hb:Binds X.K fd ps [])
  (ha:PA X (e :: es) (tM g rL W fs)) (hdb:(x == ("__debug__" : Str))=false:=by decide) (he:starEach (e :: es) X.env=(false,eval e X.env) :: starEach es X.env:=by rfl) (hpl:(backTo pos (starEach es X.env)).any (·.1)=false:=by rfl) :
  PE X (.Call (.Name x p) (e :: es) [] pos) (tM g rD W (fs.bind (callM Gf))) :=
 (pe_callS F hr hg hm hk hb (passAt tk) ha hdb he hpl).dl tM_call
end
end DL
namespace DL
open PySem L2
section
variable {X:Cx} {g:G} {n:En} {W:WX} {a b c e:Expr} {fa fb f:M D} {pos:Pos} {k:Nat}
theorem Room.u65 {A:Around} (hr:Room k A):A.units + 65 < cLine:=by have:=hr.un; omega
theorem de_eq (hK:X.K=g.K) (hr:Room k X.A) (ha:PE X a (tM g rW W fa)) (hb:PE X b (tM g rW W fb)):PE X (.Compare a [.Eq] [b] pos) (tM g rD W (bo eqD fa fb)):=de_cmp (op_eqD hr.units) (by rw [hK]; exact v_eq g) ha hb (nomark _)
theorem de_lt (ha:PE X a (tM g rW W fa)) (hb:PE X b (tM g rW W fb)):PE X (.Compare a [.Lt] [b] pos) (tM g rD W (bo ltD fa fb)):=de_cmp op_lt v_lt ha hb (nomark _)
theorem de_is (ha:PE X a (tM g rW W fa)) (hb:PE X b (tM g rW W fb)):PE X (.Compare a [.Is] [b] pos) (tM g rD W (bo isN fa fb)):=de_cmp op_isN v_isN ha hb (nomark _)
def tst (f:M D):M Bool:=f.bind asB
theorem dt_eq (hK:X.K=g.K) (hr:Room k X.A) (ha:PE X a (tM g rW W fa)) (hb:PE X b (tM g rW W fb)):PT X (.Compare a [.Eq] [b] pos) (tM g rB W (tst (bo eqD fa fb))):=dt_cmp (op_eqD hr.units) (by rw [hK]; exact v_eq g) ha hb (nomark _)
theorem dt_ne (hK:X.K=g.K) (hr:Room k X.A) (ha:PE X a (tM g rW W fa)) (hb:PE X b (tM g rW W fb)):PT X (.Compare a [.NotEq] [b] pos) (tM g rB W (tst (bo neD fa fb))):=dt_cmp (op_neD hr.units) (by rw [hK]; exact v_ne g) ha hb (nomark _)
theorem dt_lt (ha:PE X a (tM g rW W fa)) (hb:PE X b (tM g rW W fb)):PT X (.Compare a [.Lt] [b] pos) (tM g rB W (tst (bo ltD fa fb))):=dt_cmp op_lt v_lt ha hb (nomark _)
theorem dt_gt (ha:PE X a (tM g rW W fa)) (hb:PE X b (tM g rW W fb)):PT X (.Compare a [.Gt] [b] pos) (tM g rB W (tst (bo gtD fa fb))):=dt_cmp op_gt v_gt ha hb (nomark _)
theorem dt_ge (ha:PE X a (tM g rW W fa)) (hb:PE X b (tM g rW W fb)):PT X (.Compare a [.GtE] [b] pos) (tM g rB W (tst (bo geD fa fb))):=dt_cmp op_ge v_ge ha hb (nomark _)
theorem dt_isnot (ha:PE X a (tM g rW W fa)) (hb:PE X b (tM g rW W fb)):PT X (.Compare a [.IsNot] [b] pos) (tM g rB W (tst (bo notN fa fb))):=dt_cmp op_notN v_notN ha hb (nomark _)
theorem dt_notin (hK:X.K=g.K) (hr:Room k X.A) (ha:PE X a (tM g rW W fa)) (hb:PE X b (tM g rW W fb)) (hm:behindInMarks .NotIn b=false:=by rfl):PT X (.Compare a [.NotIn] [b] pos) (tM g rB W (tst (bo notInD fa fb))):=dt_cmp (op_notInA (Room.u65 hr)) (by rw [hK]; exact v_notIn g) ha hb hm
def truM (f:M D):M Bool:=f.bind tru
theorem dt_truth (hK:X.K=g.K) (ha:PE X a (tM g rW W fa)) (he:∀ whole,isTrue a X.env whole=(do let v ← whole; standAt a.pos; holding [v] (truthy v)):=by intro _; rfl):PT X a (tM g rB W (truM fa)):=dt_tru hK ha he
end
structure FT (K:PySem.W.Frag) (mg:Str→Option Value) (x:Str) (st:Stmt):Prop where
 ex:∃ a fd,mg x=some (.ref a) ∧ Fun K x x st a fd
structure Cal (P:Program) (w:World) (K:PySem.W.Frag) (mg:Str→Option Value) (base:Heap) (x:Str) (ps:List Str) (k:Nat) (Gf:Fn):Prop where
 ex:∃ a fd,mg x=some (.ref a) ∧ PySem.W.keepIn K (.ref a)=true ∧ Binds K fd ps [] ∧ FnOk P w K mg base (CXm mg P w) k a fd ps (spD ⟨K,mg⟩ Gf)
theorem Cal.mono {P:Program} {w:World} {K:PySem.W.Frag} {mg:Str→Option Value} {base:Heap} {x:Str} {ps:List Str} {k j:Nat} {Gf:Fn} (c:Cal P w K mg base x ps k Gf) (h:k ≤ j):Cal P w K mg base x ps j Gf:=by
 obtain ⟨a,fd,h1,h2,h3,h4⟩:=c.ex
 exact ⟨a,fd,h1,h2,h3,h4.mono h⟩
theorem Cal.imp {P:Program} {w:World} {K:PySem.W.Frag} {mg:Str→Option Value} {base:Heap} {x:Str} {ps:List Str} {k:Nat} {Gf Gf':Fn} (c:Cal P w K mg base x ps k Gf) (h:∀ ds ω r,Gf' ds ω=some r→Gf ds ω=some r):Cal P w K mg base x ps k Gf':=by
 obtain ⟨a,fd,h1,h2,h3,h4⟩:=c.ex
 refine ⟨a,fd,h1,h2,h3,h4.imp fun vs H Q E ⟨A,B,ω,ds,r,w,l,e,q⟩=>⟨A,B,ω,ds,r,w,l,h ds ω r e,q⟩⟩
theorem cal_of {P:Program} {w:World} {K:PySem.W.Frag} {mg:Str→Option Value} {base:Heap} {x:Str} {st:Stmt} {ps:List Str} {k:Nat} {Gf:Fn} (T:FT K mg x st) (b:∀ a fd,Fun K x x st a fd→Binds K fd ps [])
  (h:∀ a fd,Fun K x x st a fd→FnOk P w K mg base (CXm mg P w) k a fd ps (spD ⟨K,mg⟩ Gf)):Cal P w K mg base x ps k Gf:=by
 obtain ⟨a,fd,h1,F⟩:=T.ex
 exact ⟨a,fd,h1,F.kp,b a fd F,h a fd F⟩
section
variable {X:Cx} {W:WX} {x:Str} {p pos:Pos} {e:Expr} {es:List Expr} {fs:M (List D)} {k j:Nat} {ps:List Str} {Gf:Fn}
def calM (Gf:Fn) (fs:M (List D)):M D:=fs.bind (callM Gf)
theorem de_fn (tk:Takes X W) (c:Cal X.prog X.w X.K X.mg X.base x ps k Gf) (hr:Room j X.A) (hj:k ≤ j) (hg:Gl X x) (ha:PA X (e :: es) (tM ⟨X.K,X.mg⟩ rL W fs)) (hdb:(x == ("__debug__" : Str))=false:=by decide)
  (he:starEach (e :: es) X.env=(false,eval e X.env) :: starEach es X.env:=by rfl) (hpl:(backTo pos (starEach es X.env)).any (·.1)=false:=by rfl):PE X (.Call (.Name x p) (e :: es) [] pos) (tM ⟨X.K,X.mg⟩ rD W (calM Gf fs)):=by
 obtain ⟨a,fd,h1,h2,h3,h4⟩:=c.ex
 exact de_call tk h4 (hr.mono hj) hg h1 h2 h3 ha hdb he hpl
end
end DL
namespace DL
open PySem L2
section
variable {α β:Type} {ρ:Rho} {ω ω1 ω2:List Cell} {f:M α} {k:α→M β} {a:α}
theorem bind_ev (h:f ρ ω=some (.val a ω1)):(f.bind k) ρ ω=k a ρ ω1:=by unfold M.bind; rw [h]
theorem bindS_ev {s:α→MS} (h:f ρ ω=some (.val a ω1)):bindS f s ρ ω=s a ρ ω1:=by unfold bindS; rw [h]
theorem bo_ev {g:D→D→Option D} {fa fb:M D} {x y x' y' z:D} (h1:fa ρ ω=some (.val x ω1)) (h2:fb ρ ω1=some (.val y ω2)) (v1:view ω2 x=some x') (v2:view ω2 y=some y') (h:g x' y'=some z):bo g fa fb ρ ω=some (.val z ω2):=by
 unfold bo
 rw [bind_ev h1,bind_ev h2]
 unfold op2
 simp only [v1,v2,h]
theorem uo_ev {g:D→Option D} {fa:M D} {x x' z:D} (h1:fa ρ ω=some (.val x ω1)) (v1:view ω1 x=some x') (h:g x'=some z):uo g fa ρ ω=some (.val z ω1):=by
 unfold uo
 rw [bind_ev h1]
 unfold op1
 simp only [v1,h]
theorem mulD_r {i j:Int} (h1:-(18446744073709551616) < j) (h2:j < 18446744073709551616):mulD (.int i) (.int j)=some (.int (i * j)):=mulD_int (.inr ⟨h1,h2⟩)
theorem mulD_l {i j:Int} (h1:-(18446744073709551616) < i) (h2:i < 18446744073709551616):mulD (.int i) (.int j)=some (.int (i * j)):=mulD_int (.inl ⟨h1,h2⟩)
theorem fdivD_r {i j:Int} (h1:0 < j) (h2:j < 1073741824):fdivD (.int i) (.int j)=some (.int (i / j)):=fdivD_int ⟨h1,h2⟩
end
theorem rng1_nat {n:Nat} {ρ:Rho} {ω:List Cell} (h:n ≤ 16777216):rng1 (.int (n:Int)) ρ ω=some (.val (rangeD 0 n) ω):=by
 unfold rng1
 simp only
 rw [if_pos (by omega)]
 simp
theorem rangeD_get {lo:Int} {n i:Nat} {d:D} (h:(rangeD lo n)[i]?=some d):i < n ∧ d=.int (lo + i):=by
 unfold rangeD at h
 rw [List.getElem?_map] at h
 by_cases hi:i < n
 · rw [List.getElem?_range hi] at h
   cases h
   exact ⟨hi,rfl⟩
 · rw [List.getElem?_eq_none (by simpa using Nat.le_of_not_lt hi)] at h
   cases h
theorem atI_some {α:Type} {xs:List α} {k:Int} {x:α} (h0:0 ≤ k) (h:xs[k.toNat]?=some x):atI xs k=some x:=by
 have:=atI_nat h
 rwa [Int.toNat_of_nonneg h0] at this
theorem seqS_nx {F K:MS} {ρ ρ':Rho} {ω ω':List Cell} (h:F ρ ω=some (.nx ρ' ω')):seqS F K ρ ω=K ρ' ω':=by unfold seqS; rw [h]
theorem seqS_rt {F K:MS} {ρ:Rho} {ω ω':List Cell} {d:D} (h:F ρ ω=some (.rt d ω')):seqS F K ρ ω=some (.rt d ω'):=by unfold seqS; rw [h]
theorem forS_nx {src:M (List D)} {T:TT1} {F:MS} {items:List D} {ρ ρ':Rho} {ω ω1 ω':List Cell} (h1:src ρ ω=some (.val items ω1)) (h2:forGo T F items ρ ω1=some (.nx ρ' ω')):forS src T F ρ ω=some (.nx ρ' ω'):=by
 unfold forS; rw [bindS_ev h1,h2]; rfl
theorem ifS_t {t:M Bool} {F K:MS} {ρ:Rho} {ω ω':List Cell} (h:t ρ ω=some (.val true ω')):ifS t F K ρ ω=F ρ ω':=by unfold ifS; rw [bindS_ev h,if_pos rfl]
theorem ifS_f {t:M Bool} {F K:MS} {ρ:Rho} {ω ω':List Cell} (h:t ρ ω=some (.val false ω')):ifS t F K ρ ω=K ρ ω':=by unfold ifS; rw [bindS_ev h,if_neg Bool.false_ne_true]
theorem forGo_inv {T:TT1} {F:MS} (Pv:Nat→Rho→List Cell→Prop) (Lv:RS→Prop):∀ (items:List D) (i:Nat) (ρ:Rho) (ω:List Cell),Pv i ρ ω →
  (∀ (j:Nat) (d:D) (ρ:Rho) (ω:List Cell),items[j]?=some d→Pv (i + j) ρ ω→∃ ρ1 r,T d ρ ω=some ρ1 ∧ F ρ1 ω=some r ∧ match r with
   | .nx ρ2 ω2=>Pv (i + j + 1) ρ2 ω2
   | .ct ρ2 ω2=>Pv (i + j + 1) ρ2 ω2
   | r=>Lv r) →
  ∃ r,forGo T F items ρ ω=some r ∧ ((∃ ρ' ω',r=.nx ρ' ω' ∧ Pv (i + items.length) ρ' ω') ∨ Lv r)
 | [],i,ρ,ω,h0,_=>⟨_,rfl,.inl ⟨ρ,ω,rfl,h0⟩⟩
 | d :: ds,i,ρ,ω,h0,hs=>by
  obtain ⟨ρ1,r,h1,h2,h3⟩:=hs 0 d ρ ω rfl h0
  have next:∀ ρ2 ω2,Pv (i + 1) ρ2 ω2→∃ r,forGo T F ds ρ2 ω2=some r ∧ ((∃ ρ' ω',r=.nx ρ' ω' ∧ Pv (i + (d :: ds).length) ρ' ω') ∨ Lv r):=fun ρ2 ω2 p=>by
   obtain ⟨r',e',q'⟩:=forGo_inv Pv Lv ds (i + 1) ρ2 ω2 p fun j d' ρ ω hj hp=>by
    have:=hs (j + 1) d' ρ ω (by simpa using hj) (by rw [show i + (j + 1)=i + 1 + j by omega]; exact hp)
    rw [show i + (j + 1)=i + 1 + j by omega] at this
    exact this
   refine ⟨r',e',?_⟩
   rw [show i + (d :: ds).length=i + 1 + ds.length by simp; omega]
   exact q'
  unfold forGo
  simp only [h1,h2]
  cases r with
  | nx ρ2 ω2=>exact next ρ2 ω2 h3
  | ct ρ2 ω2=>exact next ρ2 ω2 h3
  | bk ρ2 ω2=>exact ⟨_,rfl,.inr h3⟩
  | rt d ω2=>exact ⟨_,rfl,.inr h3⟩
  | exc x ρ2 ω2=>exact ⟨_,rfl,.inr h3⟩
theorem forGo_thru {T:TT1} {F:MS} (Pv:Nat→Rho→List Cell→Prop) {items:List D} {ρ:Rho} {ω:List Cell} (h0:Pv 0 ρ ω)
  (hs:∀ (j:Nat) (d:D) (ρ:Rho) (ω:List Cell),items[j]?=some d→Pv j ρ ω→∃ ρ1 ρ2 ω2,T d ρ ω=some ρ1 ∧ F ρ1 ω=some (.nx ρ2 ω2) ∧ Pv (j + 1) ρ2 ω2) :
  ∃ ρ' ω',forGo T F items ρ ω=some (.nx ρ' ω') ∧ Pv items.length ρ' ω':=by
 obtain ⟨r,e,h⟩:=forGo_inv Pv (fun _=>False) items 0 ρ ω h0 fun j d ρ ω hj hp=>by
  obtain ⟨ρ1,ρ2,ω2,h1,h2,h3⟩:=hs j d ρ ω hj (by simpa using hp)
  exact ⟨ρ1,_,h1,h2,by simpa using h3⟩
 rcases h with ⟨ρ',ω',rfl,p⟩ | h
 · exact ⟨ρ',ω',e,by simpa using p⟩
 · exact h.elim
theorem lcM_enc {α:Type} {vs:List Nat} {src:M (List D)} {T:TT1} {t:M Bool} {f:M D} {ρ:Rho} {ω ω1:List Cell} {xs:List α} (enc:α→D) (p:α→Bool) (h:α→D) (hsrc:src ρ ω=some (.val (xs.map enc) ω1)) (hz:xs.length ≤ sizeLine)
  (hs:∀ x ∈ xs,∃ ρ2,T (enc x) (wipeE ρ vs) ω1=some ρ2 ∧ t ρ2 ω1=some (.val (p x) ω1) ∧ (p x=true→f ρ2 ω1=some (.val (h x) ω1))) :
  lcM vs src T t f ρ ω=some (.val ((xs.filter p).map h) ω1):=by
 have go:∀ (xs:List α) (acc:List D),acc.length + xs.length ≤ sizeLine→(∀ x ∈ xs,∃ ρ2,T (enc x) (wipeE ρ vs) ω1=some ρ2 ∧ t ρ2 ω1=some (.val (p x) ω1) ∧ (p x=true→f ρ2 ω1=some (.val (h x) ω1))) →
   lcGo vs T t f ρ (xs.map enc) acc ω1=some (acc ++ (xs.filter p).map h,ω1):=by
  intro xs
  induction xs with
  | nil=>intro acc _ _; simp [lcGo]
  | cons x xs ih =>
   intro acc hz hs
   obtain ⟨ρ2,h1,h2,h3⟩:=hs x List.mem_cons_self
   simp only [List.length_cons] at hz
   rw [List.map_cons]
   unfold lcGo
   simp only [h1,h2]
   cases e:p x with
   | false =>
    simp only
    rw [ih acc (by omega) fun d hd=>hs d (List.mem_cons_of_mem _ hd)]
    simp [e]
   | true =>
    simp only [h3 e]
    rw [if_pos (by omega),ih (acc ++ [h x]) (by simp; omega) fun d hd=>hs d (List.mem_cons_of_mem _ hd)]
    simp [e]
 unfold lcM
 rw [bind_ev hsrc]
 rw [go xs [] (by simpa using hz) hs]
 simp
end DL
namespace DL
open PySem L2
section
variable {g:G} {A A':Ad} {B B':Addr→Prop} {H H':Hp}
theorem DpF.look {f:Str} {d:D}:∀ {fs:List (Str × D)} {vs:List (Str × V)},DpF g A B H vs fs→fs.lookup f=some d→∃ v,vs.lookup f=some v ∧ Dp g A B H v d
 | [],_,h,e=>by cases e
 | (k,x) :: fs,_,h,e=>by
  cases h with
  | @cons k v vs d' ds h1 h2 =>
   rw [List.lookup_cons] at e ⊢
   cases q:f == k with
   | true =>
    rw [q] at e
    cases e
    exact ⟨v,rfl,h1⟩
   | false =>
    rw [q] at e
    exact DpF.look h2 e
theorem DpF.no {f:Str}:∀ {fs:List (Str × D)} {vs:List (Str × V)},DpF g A B H vs fs→fs.lookup f=none→vs.lookup f=none
 | [],_,h,e=>by cases h; rfl
 | (k,x) :: fs,_,h,e=>by
  cases h with
  | @cons k v vs d' ds h1 h2 =>
   rw [List.lookup_cons] at e ⊢
   cases q:f == k with
   | true=>rw [q] at e; cases e
   | false =>
    rw [q] at e
    exact DpF.no h2 e
theorem DpF.len:∀ {fs:List (Str × D)} {vs:List (Str × V)},DpF g A B H vs fs→vs.length=fs.length
 | [],_,h=>by cases h; rfl
 | (k,x) :: fs,_,h=>by cases h with | cons h1 h2=>simp [DpF.len h2]
def putD (f:Str) (d:D):List (Str × D)→List (Str × D)
 | []=>[(f,d)]
 | (k,x) :: r=>if k=f then (k,d) :: r else (k,x) :: putD f d r
theorem DpF.put {f:Str} {v:V} {d:D} (h:Dp g A B H v d):∀ {fs:List (Str × D)} {vs:List (Str × V)},DpF g A B H vs fs→DpF g A B H (putF f v vs) (putD f d fs)
 | [],_,l=>by cases l; exact .cons h .nil
 | (k,x) :: fs,_,l=>by
  cases l with
  | @cons k v' vs d' ds h1 h2 =>
   unfold putF putD
   split
   · exact .cons h h2
   · exact .cons h1 (DpF.put h h2)
end
def ClF (K:PySem.W.Frag) (mg:Str→Option Value) (c f:Str):Prop:=∃ C,mg c=some (.ref C) ∧ Cls K C ∧ NoAttr K C f
def ClFs (K:PySem.W.Frag) (mg:Str→Option Value) (f:Str):List Str→Prop
 | []=>True
 | c :: cs=>ClF K mg c f ∧ ClFs K mg f cs
theorem ClFs.at {K:PySem.W.Frag} {mg:Str→Option Value} {f c:Str}:∀ {cs:List Str},ClFs K mg f cs→cs.contains c=true→ClF K mg c f
 | [],_,e=>by cases e
 | d :: cs,h,e=>by
  simp only [List.contains_cons,Bool.or_eq_true] at e
  rcases e with e | e
  · rw [eq_of_beq e]; exact h.1
  · exact ClFs.at h.2 e
def fldD (cs:List Str) (f:Str):D→Option D
 | .obj c fs=>if cs.contains c=true then fs.lookup f else none
 | _=>none
section
variable {X:Cx} {g:G} {n:En} {W:WX} {e o value:Expr} {fa fo fv:M D} {f:Str} {pos pos':Pos} {cs:List Str}
theorem v_fld (hC:ClFs g.K g.mg f cs):V1 g (fun x H Q=>∃ a C dx fs v,x=.ref a ∧ H a=some (.ins C dx fs) ∧ Cls g.K C ∧ NoAttr g.K C f ∧ fs.lookup f=some v ∧ Q v H) (fldD cs f):=by
 intro A B H ω x a c Q w ha e q
 cases a with
 | obj k fs =>
  simp only [fldD] at e
  split at e
  · rename_i hk
    obtain ⟨a,C,dx,vs,rfl,hp,hm,l⟩:=ha
    obtain ⟨C',h1,h2,h3⟩:=hC.at hk
    rw [hm] at h1
    cases h1
    obtain ⟨v,hv,dv⟩:=l.look e
    exact ⟨a,C,dx,vs,v,rfl,hp,h2,h3,hv,q.now w dv⟩
  · cases e
 | _=>cases e
theorem de_fld (hK:X.K=g.K) (hC:ClFs g.K g.mg f cs) (ha:PE X e (tM g rW W fa)) (hb:attributeBase e f X.env (eval e X.env)=eval e X.env:=by rfl):PE X (.Attribute e f pos) (tM g rD W (uo (fldD cs f) fa)) :=
 (pe_fld ha hb).dl fun σ H Q h=>by
  rw [hK]
  exact tM_op1 (v_fld hC) σ H Q h
def fldS (cs:List Str) (f:Str) (fo fv:M D):MS:=bindS fv fun d=>bindS fo fun o ρ ω=>match o with
 | .oid k=>match ω[k]? with
  | some (.obj c fs)=>if cs.contains c=true ∧ fs.length < 1000 then some (.nx ρ (ω.set k (.obj c (putD f d fs)))) else none
  | _=>none
 | _=>none
theorem Fm.cellW {A:Ad} {B:Addr→Prop} {H H0:Hp} {ω:List Cell} {σ:St} {ρ:Rho} {k:Nat} {a:Addr} {u:HO} {c:Cell} (h:Fm g H0 A B H ω σ ρ) (ha:A[k]?=some (some a)) (hz:∀ o u,H a ≠ some (.frz o u)) (ok:∀ H',(∀ b o,b ≠ a→H b=some o→H' b=some o)→H' a=some u→Mv A B H A B H'→CellOk g A B H' a c) :
  Fm g H0 A B (upd H a u) (ω.set k c) σ ρ ∧ Mv A B H A B (upd H a u):=by
 have hb:B a:=h.wo.liv a (Liv.of ha)
 have m:Mv A B H A B (upd H a u):=⟨fun b o nb e=>⟨by rw [upd_ne (fun z=>nb (by rw [z]; exact hb))]; exact e,nb⟩,fun _ _ h=>.inl h,frz_upd hz⟩
 refine ⟨⟨⟨by rw [List.length_set]; exact h.wo.len,h.wo.inj,h.wo.liv,fun b hb'=>?_,fun j c' e=>?_⟩,⟨h.sl.len,fun j s e=>?_,h.sl.own⟩⟩,m⟩
 · by_cases z:b=a
   · exact ⟨_,by rw [z]; exact upd_same⟩
   · obtain ⟨o,e⟩:=h.wo.bnd b hb'
     exact ⟨o,by rw [upd_ne z]; exact e⟩
 · rcases getElem?_set_cases e with ⟨rfl,hl,rfl⟩ | ⟨ne,e⟩
   · exact .inr ⟨a,ha,ok _ (fun b o nb e=>by rw [upd_ne nb]; exact e) upd_same m⟩
   · rcases h.wo.cell j c' e with z | ⟨b,h1,h2⟩
     · exact .inl z
     · exact .inr ⟨b,h1,h2.mv m fun o q=>by rw [upd_ne (fun z=>ne (h.wo.inj k j a ha (by rw [← z]; exact h1)))]; exact q⟩
 · have:=h.sl.val j s e
   cases s with
   | no=>trivial
   | ex p y=>exact ⟨this.1,this.2.mv m⟩
   | fz d =>
    obtain ⟨v,e1,e2⟩:=this
    exact ⟨v,e1,Dp.mv m _ _ e2⟩
   | ow es =>
    obtain ⟨q,ws,e1,e2,e3,e4,e5,e6⟩:=this
    exact ⟨q,ws,e1,by rw [upd_ne (fun z=>e5 (by rw [z]; exact Liv.of ha))]; exact e2,DpL.mv m _ _ e3,e4,e5,e6⟩
theorem Stp.cellW {A0 A:Ad} {B0 B:Addr→Prop} {H0 H:Hp} {a:Addr} {u:HO} (s:Stp A0 B0 H0 A B H) (ha:Liv A a) (hz:∀ o u,H a ≠ some (.frz o u)):Stp A0 B0 H0 A B (upd H a u):=by
 have nl:∀ b o,H0 b=some o→¬ Liv A0 b→b ≠ a:=fun b o e n z=>by
  rcases s.new a ha with h | h
  · exact n (by rw [z]; exact h)
  · rw [← z,e] at h; cases h
 refine ⟨fun b o e n=>by rw [upd_ne (nl b o e n)]; exact s.keep b o e n,s.old,s.new,s.ids,fun b o e=>?_,fun b o u e=>frz_upd hz b o u (s.frz b o u e)⟩
 obtain ⟨v,q⟩:=s.trk b o e
 by_cases z:b=a
 · exact ⟨_,by rw [z]; exact upd_same⟩
 · exact ⟨v,by rw [upd_ne z]; exact q⟩
theorem ds_fld (hK:X.K=g.K) (hC:ClFs g.K g.mg f cs) (ho:PE X o (tM g rD W fo)) (hv:PE X value (tM g rD W fv)) (hs:swapsWith value (some (.Attribute o f pos')) pos.line X.env=pure false:=by rfl):PS X (.Assign [.Attribute o f pos'] value pos) (tS g n W (fldS cs f fo fv)) :=
 (ps_fld ho hv hs).dl fun D σ H ⟨A,B,ρ,ω,r,s,fm,e,res⟩=>by
  refine tM_mono (tS_bind s fm e res) fun y H1 ⟨A1,B1,ω1,d,t1,m1,s1,fm1,r1,e1,res1⟩=>?_
  refine tM_mono (tS_bind s1 fm1 e1 res1) fun x H2 ⟨A2,B2,ω2,d2,t2,m2,s2,fm2,r2,e2,res2⟩=>?_
  cases d2 with
  | oid k =>
   simp only at e2
   cases q:ω2[k]? with
   | none=>simp only [q] at e2; cases e2
   | some c =>
    cases c with
    | obj c fs =>
     simp only [q] at e2
     split at e2
     · rename_i hz
       cases e2
       have hcell:∃ a,x=.ref a ∧ A2[k]?=some (some a) ∧ CellOk g A2 B2 H2 a (.obj c fs):=by
        rcases fm2.wo.cell k _ q with ⟨z,_⟩ | ⟨a,ha,ok⟩
        · cases z
        · cases r2 with
          | oid e=>rw [ha] at e; cases e; exact ⟨a,rfl,ha,ok⟩
          | ded e=>rw [ha] at e; cases e
       obtain ⟨a,rfl,ha,C,dx,vs,hp,hm,l⟩:=hcell
       obtain ⟨C',h1,h2,h3⟩:=hC.at hz.1
       rw [hm] at h1
       cases h1
       refine ⟨a,C,dx,vs,rfl,hp,by rw [hK]; exact h2,by rw [hK]; exact h3,by rw [l.len]; exact hz.2,?_⟩
       have dy:Dp g A2 B2 H2 y d:=Dp.mv (fm1.wo.mv t2) _ _ r1
       obtain ⟨fm3,m3⟩:=fm2.cellW (u:=.ins C dx (putF f y vs)) (c:=.obj c (putD f d fs)) ha (frz_not hp) fun H' _ hu m=>⟨C,dx,_,hu,hm,DpF.mv m _ _ (l.put dy)⟩
       exact res2.next m3 (s2.cellW (Liv.of ha) (frz_not hp)) fm3
     · cases e2
    | _=>simp only [q] at e2; cases e2
  | _=>cases e2
end
end DL
namespace DL
open PySem L2
mutual
def bel (n:Nat):D→Prop
 | .tup ds=>belL n ds
 | .lst ds=>belL n ds
 | .dic ds=>belK n ds
 | .obj _ fs=>belF n fs
 | .oid k=>k < n
 | .non=>True
 | .bl _=>True
 | .int _=>True
 | .str _=>True
 | .scr _=>True
 | .exc _ fs=>belF n fs
def belL (n:Nat):List D→Prop
 | []=>True
 | d :: ds=>bel n d ∧ belL n ds
def belK (n:Nat):List (Key × D)→Prop
 | []=>True
 | (_,d) :: ds=>bel n d ∧ belK n ds
def belF (n:Nat):List (Str × D)→Prop
 | []=>True
 | (_,d) :: ds=>bel n d ∧ belF n ds
end
mutual
def noO:D→Bool
 | .tup ds=>noOL ds
 | .lst ds=>noOL ds
 | .dic ds=>noOK ds
 | .obj _ fs=>noOF fs
 | .oid _=>false
 | .non=>true
 | .bl _=>true
 | .int _=>true
 | .str _=>true
 | .scr _=>true
 | .exc _ fs=>noOF fs
def noOL:List D→Bool
 | []=>true
 | d :: ds=>noO d && noOL ds
def noOK:List (Key × D)→Bool
 | []=>true
 | (_,d) :: ds=>noO d && noOK ds
def noOF:List (Str × D)→Bool
 | []=>true
 | (_,d) :: ds=>noO d && noOF ds
end
mutual
theorem noO_bel {n:Nat}:∀ d:D,noO d=true→bel n d
 | .tup ds,h=>by simp only [bel]; exact noOL_bel ds (by simpa [noO] using h)
 | .lst ds,h=>by simp only [bel]; exact noOL_bel ds (by simpa [noO] using h)
 | .dic ds,h=>by simp only [bel]; exact noOK_bel ds (by simpa [noO] using h)
 | .obj c ds,h=>by simp only [bel]; exact noOF_bel ds (by simpa [noO] using h)
 | .oid k,h=>by simp [noO] at h
 | .non,_=>by simp [bel]
 | .bl _,_=>by simp [bel]
 | .int _,_=>by simp [bel]
 | .str _,_=>by simp [bel]
 | .scr _,_=>by simp [bel]
 | .exc c ds,h=>by simp only [bel]; exact noOF_bel ds (by simpa [noO] using h)
theorem noOL_bel {n:Nat}:∀ ds:List D,noOL ds=true→belL n ds
 | [],_=>trivial
 | d :: ds,h=>by
  simp only [noOL,Bool.and_eq_true] at h
  exact ⟨noO_bel d h.1,noOL_bel ds h.2⟩
theorem noOK_bel {n:Nat}:∀ ds:List (Key × D),noOK ds=true→belK n ds
 | [],_=>trivial
 | (_,d) :: ds,h=>by
  simp only [noOK,Bool.and_eq_true] at h
  exact ⟨noO_bel d h.1,noOK_bel ds h.2⟩
theorem noOF_bel {n:Nat}:∀ ds:List (Str × D),noOF ds=true→belF n ds
 | [],_=>trivial
 | (_,d) :: ds,h=>by
  simp only [noOF,Bool.and_eq_true] at h
  exact ⟨noO_bel d h.1,noOF_bel ds h.2⟩
end
section
variable {g:G} {A A':Ad} {B B':Addr→Prop} {H H':Hp}
mutual
theorem Dp.bel:∀ (d:D) (v:V),Dp g A B H v d→bel A.length d
 | .tup ds,_,h=>by
  simp only [DL.bel]
  obtain ⟨a,vs,_,_,l⟩:=Dp.seq h
  exact DpL.bel ds vs l
 | .lst ds,_,h=>by
  simp only [DL.bel]
  cases h with | lst _ _ l=>exact DpL.bel ds _ l
 | .dic ds,_,h=>by
  simp only [DL.bel]
  cases h with | dic _ _ l=>exact DpK.bel ds _ l
 | .obj c ds,_,h=>by
  simp only [DL.bel]
  cases h with | obj _ _ _ l=>exact DpF.bel ds _ l
 | .oid k,_,h=>by
  simp only [DL.bel]
  cases h with
  | oid e=>exact (List.getElem?_eq_some_iff.mp e).1
  | ded e=>exact (List.getElem?_eq_some_iff.mp e).1
 | .non,_,_=>by simp [DL.bel]
 | .bl _,_,_=>by simp [DL.bel]
 | .int _,_,_=>by simp [DL.bel]
 | .str _,_,_=>by simp [DL.bel]
 | .scr _,_,_=>by simp [DL.bel]
 | .exc c ds,_,h=>by
  simp only [DL.bel]
  cases h with
  | exc _ _ _ _ _ l=>exact DpF.bel ds _ l
  | exc0=>trivial
theorem DpL.bel:∀ (ds:List D) (vs:List V),DpL g A B H vs ds→belL A.length ds
 | [],_,_=>trivial
 | d :: ds,_,h=>by cases h with | cons h1 h2=>exact ⟨Dp.bel d _ h1,DpL.bel ds _ h2⟩
theorem DpK.bel:∀ (ds:List (Key × D)) (vs:List (Key × V)),DpK g A B H vs ds→belK A.length ds
 | [],_,_=>trivial
 | (_,d) :: ds,_,h=>by cases h with | cons h1 h2=>exact ⟨Dp.bel d _ h1,DpK.bel ds _ h2⟩
theorem DpF.bel:∀ (ds:List (Str × D)) (vs:List (Str × V)),DpF g A B H vs ds→belF A.length ds
 | [],_,_=>trivial
 | (_,d) :: ds,_,h=>by cases h with | cons h1 h2=>exact ⟨Dp.bel d _ h1,DpF.bel ds _ h2⟩
end
mutual
theorem Dp.cut {n:Nat} (hB:∀ a,B' a→B a):∀ (d:D) (v:V),bel n d→Dp g A B H v d→Dp g (A.take n) B' H v d
 | .tup ds,_,b,h=>by
  simp only [DL.bel] at b
  cases h with
  | tup x y l=>exact .tup (fun z=>x (hB _ z)) y (DpL.cut hB ds _ b l)
  | tupK x l=>exact .tupK x (DpL.cut hB ds _ b l)
 | .lst ds,_,b,h=>by
  simp only [DL.bel] at b
  cases h with | lst x y l=>exact .lst (fun z=>x (hB _ z)) y (DpL.cut hB ds _ b l)
 | .dic ds,_,b,h=>by
  simp only [DL.bel] at b
  cases h with | dic x y l=>exact .dic (fun z=>x (hB _ z)) y (DpK.cut hB ds _ b l)
 | .obj c ds,_,b,h=>by
  simp only [DL.bel] at b
  cases h with | obj x y z l=>exact .obj (fun z=>x (hB _ z)) y z (DpF.cut hB ds _ b l)
 | .oid k,_,b,h=>by
  simp only [DL.bel] at b
  cases h with
  | oid e=>exact .oid (by rw [List.getElem?_take,if_pos b]; exact e)
  | ded e=>exact .ded (by rw [List.getElem?_take,if_pos b]; exact e)
 | .non,_,_,h=>by cases h; exact .non
 | .bl _,_,_,h=>by cases h; exact .bl _
 | .int _,_,_,h=>by cases h; exact .int _
 | .str _,_,_,h=>by cases h; exact .str _
 | .scr _,_,_,h=>by
  cases h with
  | scr x y=>exact .scr (fun z=>x (hB _ z)) y
  | scrK x=>exact .scrK x
 | .exc c ds,_,b,h=>by
  simp only [DL.bel] at b
  cases h with
  | exc x y x2 y2 z l=>exact .exc (fun z=>x (hB _ z)) y (fun z=>x2 (hB _ z)) y2 z (DpF.cut hB ds _ b l)
  | exc0 x y z=>exact .exc0 (fun z=>x (hB _ z)) y z
theorem DpL.cut {n:Nat} (hB:∀ a,B' a→B a):∀ (ds:List D) (vs:List V),belL n ds→DpL g A B H vs ds→DpL g (A.take n) B' H vs ds
 | [],_,_,h=>by cases h; exact .nil
 | d :: ds,_,b,h=>by cases h with | cons h1 h2=>exact .cons (Dp.cut hB d _ b.1 h1) (DpL.cut hB ds _ b.2 h2)
theorem DpK.cut {n:Nat} (hB:∀ a,B' a→B a):∀ (ds:List (Key × D)) (vs:List (Key × V)),belK n ds→DpK g A B H vs ds→DpK g (A.take n) B' H vs ds
 | [],_,_,h=>by cases h; exact .nil
 | (_,d) :: ds,_,b,h=>by cases h with | cons h1 h2=>exact .cons (Dp.cut hB d _ b.1 h1) (DpK.cut hB ds _ b.2 h2)
theorem DpF.cut {n:Nat} (hB:∀ a,B' a→B a):∀ (ds:List (Str × D)) (vs:List (Str × V)),belF n ds→DpF g A B H vs ds→DpF g (A.take n) B' H vs ds
 | [],_,_,h=>by cases h; exact .nil
 | (_,d) :: ds,_,b,h=>by cases h with | cons h1 h2=>exact .cons (Dp.cut hB d _ b.1 h1) (DpF.cut hB ds _ b.2 h2)
end
def belC (n:Nat):Cell→Prop
 | .dead=>True
 | .lst ds=>belL n ds
 | .dic ds=>belK n ds
 | .obj _ fs=>belF n fs
 | .ldc ds=>belK n ds
 | .tbl _=>True
theorem CellOk.bel {a:Addr} {c:Cell} (h:CellOk g A B H a c):belC A.length c:=by
 cases c with
 | dead=>trivial
 | lst ds=>obtain ⟨vs,_,l⟩:=h; exact DpL.bel _ _ l
 | dic ds=>obtain ⟨vs,_,l⟩:=h; exact DpK.bel _ _ l
 | obj c fs=>obtain ⟨_,_,vs,_,_,l⟩:=h; exact DpF.bel _ _ l
 | ldc ds=>obtain ⟨o,vs,_,l⟩:=h; exact DpK.bel _ _ l
 | tbl nm=>trivial
theorem CellOk.cut {n:Nat} {a:Addr} {c:Cell} (hB:∀ a,B' a→B a) (b:belC n c) (h:CellOk g A B H a c):CellOk g (A.take n) B' H a c:=by
 cases c with
 | dead=>exact h
 | lst ds=>obtain ⟨vs,e,l⟩:=h; exact ⟨vs,e,DpL.cut hB _ _ b l⟩
 | dic ds=>obtain ⟨vs,e,l⟩:=h; exact ⟨vs,e,DpK.cut hB _ _ b l⟩
 | obj c fs=>obtain ⟨C,dx,vs,e,m,l⟩:=h; exact ⟨C,dx,vs,e,m,DpF.cut hB _ _ b l⟩
 | ldc ds=>obtain ⟨o,vs,e,l⟩:=h; exact ⟨o,vs,e,DpK.cut hB _ _ b l⟩
 | tbl nm =>
  obtain ⟨cd,ps,h1,h2,h3,h4,h5⟩:=h
  exact ⟨cd,ps,h1,h2,h3,h4,fun pos cv hc=>by
   obtain ⟨c,e,nb,q⟩:=h5 pos cv hc
   exact ⟨c,e,fun z=>nb (hB _ z),q⟩⟩
theorem Wo.bel {ω:List Cell} {k:Nat} {c:Cell} (w:Wo g A B H ω) (e:ω[k]?=some c):belC ω.length c:=by
 rcases w.cell k c e with ⟨rfl,_⟩ | ⟨a,_,h⟩
 · trivial
 · rw [← w.len]; exact h.bel
end
def initFn (c:Str) (I:List D→Option (List (Str × D))):Fn:=fun ds ω=>match ds with
 | .oid k :: ds=>match ω[k]? with
  | some (.obj c' [])=>if c'=c then (match I ds with | some fs=>some (.val .non (ω.set k (.obj c fs))) | none=>none) else none
  | _=>none
 | _=>none
structure CalI (P:Program) (w:World) (K:PySem.W.Frag) (mg:Str→Option Value) (base:Heap) (c:Str) (ps:List Str) (k:Nat) (I:List D→Option (List (Str × D))):Prop where
 ex:∃ C f fd,mg c=some (.ref C) ∧ Mk K C f ∧ Binds K fd ps [] ∧ FnOk P w K mg base (CXm mg P w) k f fd ps (spD ⟨K,mg⟩ (initFn c I))
section
variable {g:G} {A A':Ad} {B B':Addr→Prop} {H H' H0:Hp} {ω ω':List Cell}
theorem store_new {x dx C:Addr} {c:Str} (w:Wo g A B H ω) (hx:H x=none) (hd:H dx=none) (ne:dx ≠ x) (hm:g.mg c=some (.ref C)) :
  Stp A B H (A ++ [some x]) (fun a=>B a ∨ a=x) (upd (upd H dx (.own x)) x (.ins C dx [])) ∧ Wo g (A ++ [some x]) (fun a=>B a ∨ a=x) (upd (upd H dx (.own x)) x (.ins C dx [])) (ω ++ [.obj c []]):=by
 have old:∀ b o,H b=some o→upd (upd H dx (.own x)) x (.ins C dx []) b=some o:=fun b o e=>by
  rw [upd_ne (ne_of_none e hx),upd_ne (ne_of_none e hd)]; exact e
 have nlx:¬ Liv A x:=fun z=>by
  obtain ⟨o,e⟩:=w.bnd x (w.liv x z)
  rw [hx] at e; cases e
 have st:Stp A B H (A ++ [some x]) (fun a=>B a ∨ a=x) (upd (upd H dx (.own x)) x (.ins C dx [])):=by
  refine ⟨fun a o e _=>old a o e,fun a o e _=>⟨fun z=>z.elim id fun z=>(ne_of_none e hx z).elim,.inl⟩,fun a z=>?_,fun k y e=>.inl ?_,fun a o e=>⟨o,old a o e⟩,fun a o u e=>old a _ e⟩
  · rcases List.mem_append.mp z with z | z
    · exact .inl z
    · have:a=x:=by simpa using z
      exact .inr (by rw [this]; exact hx)
  · rw [List.getElem?_append_left (List.getElem?_eq_some_iff.mp e).1]; exact e
 have m:Mv A B H (A ++ [some x]) (fun a=>B a ∨ a=x) (upd (upd H dx (.own x)) x (.ins C dx [])):=w.mv st
 refine ⟨st,⟨by simp [w.len],fun i j a ei ej=>?_,fun a z=>?_,fun a z=>?_,fun k c' e=>?_⟩⟩
 · have fix:∀ (i:Nat) (a:Addr),(A ++ [some x])[i]?=some (some a)→(A[i]?=some (some a)) ∨ (i=A.length ∧ a=x):=fun i a e=>by
    by_cases h:i < A.length
    · rw [List.getElem?_append_left h] at e; exact .inl e
    · rw [List.getElem?_append_right (Nat.le_of_not_lt h)] at e
      have hi:i - A.length=0:=by
       cases q:i - A.length with
       | zero=>rfl
       | succ n=>rw [q] at e; simp at e
      rw [hi] at e
      have:x=a:=by simpa using e
      exact .inr ⟨by omega,this.symm⟩
   rcases fix i a ei with h1 | ⟨h1,h2⟩
   · rcases fix j a ej with h3 | ⟨h3,h4⟩
     · exact w.inj i j a h1 h3
     · exact (nlx (by rw [← h4]; exact Liv.of h1)).elim
   · rcases fix j a ej with h3 | ⟨h3,h4⟩
     · exact (nlx (by rw [← h2]; exact Liv.of h3)).elim
     · rw [h1,h3]
 · rcases List.mem_append.mp z with z | z
   · exact .inl (w.liv a z)
   · exact .inr (by simpa using z)
 · rcases z with z | z
   · obtain ⟨o,e⟩:=w.bnd a z
     exact ⟨o,old a o e⟩
   · exact ⟨_,by rw [z]; exact upd_same⟩
 · by_cases h:k < ω.length
   · rw [List.getElem?_append_left h] at e
     rcases w.cell k c' e with ⟨h1,h2⟩ | ⟨a,h1,h2⟩
     · exact .inl ⟨h1,by rw [List.getElem?_append_left (by rw [w.len]; exact h)]; exact h2⟩
     · exact .inr ⟨a,by rw [List.getElem?_append_left (by rw [w.len]; exact h)]; exact h1,h2.mv m fun o e=>old a o e⟩
   · rw [List.getElem?_append_right (Nat.le_of_not_lt h)] at e
     have hk:k - ω.length=0:=by
      cases q:k - ω.length with
      | zero=>rfl
      | succ n=>rw [q] at e; simp at e
     rw [hk] at e
     have ec:Cell.obj c []=c':=by simpa using e
     subst ec
     have ek:k=A.length:=by rw [w.len]; omega
     refine .inr ⟨x,by rw [ek]; simp,C,dx,[],upd_same,hm,.nil⟩
theorem store_take {x:Addr} {c:Str} {fs:List (Str × D)} (w0:Wo g A B H ω) (t:Stp A B H A' B' H') (w:Wo g A' B' H' (ω ++ [.obj c fs])) (hx:A'[ω.length]?=some (some x)) (h0:H x=none) (no:noOF fs=true) :
  Stp A B H (A'.take ω.length) (fun a=>B' a ∧ a ≠ x) H' ∧ Wo g (A'.take ω.length) (fun a=>B' a ∧ a ≠ x) H' ω ∧ Dp g (A'.take ω.length) (fun a=>B' a ∧ a ≠ x) H' (.ref x) (.obj c fs):=by
 have hl:A'.length=ω.length + 1:=by rw [w.len]; simp
 have tk:∀ (k:Nat),k < ω.length→(A'.take ω.length)[k]?=A'[k]?:=fun k hk=>by rw [List.getElem?_take,if_pos hk]
 have nx:¬ Liv (A'.take ω.length) x:=fun z=>by
  obtain ⟨k,e⟩:=z.ix
  have hk:k < ω.length:=by
   have:=(List.getElem?_eq_some_iff.mp e).1
   simp at this; omega
  rw [tk k hk] at e
  have:=w.inj k ω.length x e hx
  omega
 have lv:∀ a,Liv (A'.take ω.length) a→Liv A' a:=fun a z=>List.mem_of_mem_take z
 refine ⟨⟨t.keep,fun a o e n=>?_,fun a z=>t.new a (lv a z),fun k y e=>?_,t.trk,t.frz⟩,⟨by simp [hl],fun i j a ei ej=>?_,fun a z=>⟨w.liv a (lv a z),fun e=>nx (by rw [← e]; exact z)⟩,fun a z=>w.bnd a z.1,fun k c' e=>?_⟩,?_⟩
 · rw [← t.old a o e n]
   exact ⟨fun z=>z.1,fun z=>⟨z,ne_of_none e h0⟩⟩
 · have hk:k < ω.length:=by rw [← w0.len]; exact (List.getElem?_eq_some_iff.mp e).1
   rw [tk k hk]
   exact t.ids k y e
 · have hi:i < ω.length:=by have:=(List.getElem?_eq_some_iff.mp ei).1; simp at this; omega
   have hj:j < ω.length:=by have:=(List.getElem?_eq_some_iff.mp ej).1; simp at this; omega
   rw [tk i hi] at ei
   rw [tk j hj] at ej
   exact w.inj i j a ei ej
 · have hk:k < ω.length:=(List.getElem?_eq_some_iff.mp e).1
   rw [tk k hk]
   rcases w.cell k c' (by rw [List.getElem?_append_left hk]; exact e) with z | ⟨a,h1,h2⟩
   · exact .inl z
   · exact .inr ⟨a,h1,h2.cut (fun _ z=>z.1) (w0.bel e)⟩
 · rcases w.cell ω.length (.obj c fs) (by simp) with ⟨z,_⟩ | ⟨a,h1,C,dx,vs,h2,h3,h4⟩
   · cases z
   · rw [hx] at h1; cases h1
     exact .obj (fun z=>z.2 rfl) h2 h3 (DpF.cut (fun _ z=>z.1) _ _ (noOF_bel fs no) h4)
end
section
variable {X:Cx} {W:WX} {c:Str} {p pos:Pos} {e:Expr} {es:List Expr} {fs:M (List D)} {k j:Nat} {ps:List Str} {I:List D→Option (List (Str × D))}
end
end DL
namespace DL
open PySem L2
structure CalM (P:Program) (w:World) (K:PySem.W.Frag) (mg:Str→Option Value) (base:Heap) (c m:Str) (ps:List Str) (k:Nat) (Gf:Fn):Prop where
 ex:∃ C f fd,mg c=some (.ref C) ∧ Cls K C ∧ (Meth K C m f ∧ PySem.W.fnIn K f=true) ∧ Binds K fd ps [] ∧ FnOk P w K mg base (CXm mg P w) k f fd ps (spD ⟨K,mg⟩ Gf)
theorem CalM.mono {P:Program} {w:World} {K:PySem.W.Frag} {mg:Str→Option Value} {base:Heap} {c m:Str} {ps:List Str} {k j:Nat} {Gf:Fn} (x:CalM P w K mg base c m ps k Gf) (h:k ≤ j):CalM P w K mg base c m ps j Gf:=by
 obtain ⟨C,f,fd,h1,h2,h3,h4,h5⟩:=x.ex
 exact ⟨C,f,fd,h1,h2,h3,h4,h5.mono h⟩
theorem CalM.imp {P:Program} {w:World} {K:PySem.W.Frag} {mg:Str→Option Value} {base:Heap} {c m:Str} {ps:List Str} {k:Nat} {Gf Gf':Fn} (x:CalM P w K mg base c m ps k Gf) (h:∀ ds ω r,Gf' ds ω=some r→Gf ds ω=some r):CalM P w K mg base c m ps k Gf':=by
 obtain ⟨C,f,fd,h1,h2,h3,h4,h5⟩:=x.ex
 exact ⟨C,f,fd,h1,h2,h3,h4,h5.imp fun vs H Q E ⟨A,B,ω,ds,r,w,l,e,q⟩=>⟨A,B,ω,ds,r,w,l,h ds ω r e,q⟩⟩
def CalMs (P:Program) (w:World) (K:PySem.W.Frag) (mg:Str→Option Value) (base:Heap) (m:Str) (k:Nat) (T:List (Str × Fn)):Prop:=∀ c Gf,T.lookup c=some Gf→∃ ps,CalM P w K mg base c m ps k Gf
section
variable {P:Program} {w:World} {K:PySem.W.Frag} {mg:Str→Option Value} {base:Heap} {m c:Str} {k j:Nat} {T:List (Str × Fn)} {ps:List Str} {Gf:Fn}
theorem cms_nil:CalMs P w K mg base m k []:=fun c Gf e=>by cases e
theorem cms_cons (h:CalM P w K mg base c m ps j Gf) (hj:j ≤ k) (t:CalMs P w K mg base m k T):CalMs P w K mg base m k ((c,Gf) :: T):=fun c' Gf' e=>by
 rw [List.lookup_cons] at e
 cases q:c' == c with
 | true =>
  rw [q] at e
  cases e
  rw [eq_of_beq q]
  exact ⟨ps,h.mono hj⟩
 | false =>
  rw [q] at e
  exact t c' Gf' e
end
section
variable {X:Cx} {W:WX} {m:Str} {p pos apos:Pos} {o e:Expr} {es:List Expr} {fo:M D} {fs:M (List D)} {k j:Nat} {T:List (Str × Fn)} {ta:TE} {t:TA}
def CallRS (X:Cx) (f:Value) (r:St→List V→Hp→VK→Prop):Prop :=
 ∀ (pins:List (Addr × Obj)) (s:Shared) (σ:St) (H:Hp) (xs:List V) (us:List Value) (Q:VK),Inv X pins σ H s→Vals xs us→r σ xs H Q→wpAny (model X.prog X.w) X.A (call f us) (EP X pins σ Q) X.xe s
theorem pe_callBS {x:Str} {id:String} {r:St→List V→Hp→VK→Prop} (hc:CallRS X (.builtin id) r) (hg:Gl X x) (hm:X.mg x=none) (hv:bootBuiltins x=some (.builtin id)) (ha:PA X (e :: es) t) (hn:x ≠ "__name__" := by decide) (hdb:(x == ("__debug__" : Str))=false:=by decide)
  (he:starEach (e :: es) X.env=(false,eval e X.env) :: starEach es X.env:=by rfl) (hpl:(backTo pos (starEach es X.env)).any (·.1)=false:=by rfl):PE X (.Call (.Name x p) (e :: es) [] pos) (fun σ H Q=>t σ H fun vs H1=>r σ vs H1 Q) :=
 ⟨fun pins s σ H Q I h=>wpAny_Call_Name_kw (ld_blt I hg hm hv (PyProof.Rows.callWith_builtin1 (thn (ha.run pos pins s σ H _ I h) fun us s1 ⟨vs,H1,I1,r1,q1⟩=>hc pins s1 σ H1 vs us Q I1 r1 q1) he hpl) hn hdb)⟩
theorem run_at {A':Around} {pins:List (Addr × Obj)} {s:Shared} {σ:St} {H:Hp} {f:Addr} {fd:FuncData} {ps:List Str} {sp:Sp} {us:List Value} {vs:List V} {Q:VK} (tk:Takes X W) (F:FnOk X.prog X.w X.K X.mg X.base (CXm X.mg X.prog X.w) k f fd ps sp) (hr:Room k A') (e0:Env0 X.prog X.w X.K X.mg X.base A' X.stack s H) (hb:Binds X.K fd ps [])
  (I:Inv X pins σ H s) (r:Vals vs us) (h:sp vs H Q (WE W σ)):wpAny (model X.prog X.w) A' (call (.ref f) us) (EP X pins σ Q) X.xe s:=by
 have hl:=F.len _ _ _ _ h
 refine wpAny_call (codeAny_mono (F.run A' X.stack s H ⟨us,[]⟩ us vs Q (WE W σ) hr e0 (by
  have:=hb s us I.kIn (by rw [List.append_nil,← r.length]; exact hl)
  simpa using this) r h) fun r s' hq=>?_)
 cases r with
 | error e=>exact passAt tk σ pins H s e s' I hq
 | ok fl =>
  cases fl with
  | ret w=>exact I.after hq
  | next=>exact False.elim hq
  | brk=>exact False.elim hq
  | cont=>exact False.elim hq
def OwnR (X:Cx) (W:WX) (m:Str) (post:V→Hp→VK→Prop):St→List V→Hp→VK→Prop:=fun σ xs H Q=>∃ a C dx fs f fd ps sp k ys,xs=.ref a :: ys ∧ H a=some (.ins C dx fs) ∧ (Meth X.K C m f ∧ PySem.W.fnIn X.K f=true) ∧ Binds X.K fd ps [] ∧ FnOk X.prog X.w X.K X.mg X.base (CXm X.mg X.prog X.w) k f fd ps sp ∧ Room (k + 1) X.A ∧
 sp xs H (fun v H'=>post v H' Q) (WE W σ)
theorem call_lenO (tk:Takes X W):CallRS X (.builtin "len") (fun σ xs H Q=>xs.length=1 ∧ OwnR X W "__len__" (fun v H' Q=>∃ n:Int,v=.int n ∧ 0 ≤ n ∧ n < 2 ^ 63 ∧ Q (.int n) H') σ xs H Q):=by
 intro pins s σ H xs us Q I r h
 obtain ⟨hl,a,C,dx,fs,f,fd,ps,sp,k,ys,rfl,hp,⟨hm,_⟩,hb,F,hr,h⟩:=h
 have:ys=[]:=List.length_eq_zero_iff.mp (by simpa using hl)
 subst this
 obtain ⟨u1,rfl,r1⟩:∃ u,us=[u] ∧ RelV (.ref a) u:=by
  cases r with
  | cons r1 r2=>cases r2; exact ⟨_,rfl,r1⟩
 cases (show u1=Value.ref a from r1)
 obtain ⟨mA,J,_⟩:=ins_get I.hok hp
 obtain ⟨od,J,_⟩:=J.look
 obtain ⟨m,hF⟩:=I.fr
 refine PySem.W.len_K hF I.ok.mod.kin J hm.at_ hm.fn (wpAny_mono (run_at tk F hr.in1 I.env0.in1 hb I r h) (fun v s' z=>?_) fun _ _ x=>x)
 obtain ⟨x,H',I',rx,n,rfl,n0,n1,q⟩:=z
 obtain ⟨t,rfl⟩:=(show ∃ t,v=Value.int n t from rx)
 exact ⟨⟨n0,n1⟩,.int n,H',I'.tok _,⟨_,rfl⟩,q⟩
def ownM (m:Str) (T:List (Str × Fn)) (o:D) (ds:List D):M D:=fun ρ ω=>match view ω o with
 | some (.obj c _)=>match T.lookup c with
  | some Gf=>callM Gf (o :: ds) ρ ω
  | none=>none
 | _=>none
theorem own_at {g:G} {A:Ad} {B:Addr→Prop} {H:Hp} {ω:List Cell} {ρ:Rho} {o:D} {ds:List D} {x:V} {xs:List V} {r:R D} {σ:St} {Q:VK} {H0:Hp} {post:V→Hp→VK→Prop} {W:WX} (hg:g=⟨X.K,X.mg⟩) (cm:CalMs X.prog X.w X.K X.mg X.base m k T) (hr:Room j X.A) (hj:k + 1 ≤ j) (fm:Fm g H0 A B H ω σ ρ)
  (h:Dp g A B H x o) (l:DpL g A B H xs ds) (e:ownM m T o ds ρ ω=some r) (res:ResOk g rD W σ A B H (fun v H'=>post v H' Q) r):OwnR X W m post σ (x :: xs) H Q:=by
 subst hg
 unfold ownM at e
 split at e
 · rename_i c fl ev
   obtain ⟨a,C,dx,vs,rfl,hp,hc,_⟩:=Vw.of h fm.wo ev
   cases q2:T.lookup c with
   | none=>simp only [q2] at e; cases e
   | some Gf =>
    simp only [q2] at e
    obtain ⟨ps,cc⟩:=cm c Gf q2
    obtain ⟨C',f,fd,h1,h2,h3,h4,h5⟩:=cc.ex
    have hC:C'=C:=by
     have:(some (Value.ref C'):Option Value)=some (.ref C):=h1.symm.trans hc
     cases this; rfl
    subst hC
    refine ⟨a,C',dx,vs,f,fd,ps,_,k,xs,rfl,hp,h3,h4,h5,hr.mono hj,A,B,ω,o :: ds,r,fm.wo,.cons h l,e,?_⟩
    cases r with
    | val d ω'=>exact fun v A' B' H' t w dp=>res v A' B' H' t w dp
    | exc x ω'=>exact fun cls dd A' B' H' t w xo=>res cls dd A' B' H' t w xo
 · cases e
def lenB:D→M D
 | .int n=>fun _ ω=>if 0 ≤ n ∧ n < 2 ^ 63 then some (.val (.int n) ω) else none
 | _=>fun _ _=>none
def lenO (T:List (Str × Fn)) (fo:M D):M D:=fo.bind fun o=>(ownM "__len__" T o []).bind lenB
theorem de_lenO (tk:Takes X W) (cm:CalMs X.prog X.w X.K X.mg X.base "__len__" k T) (hr:Room j X.A) (hj:k + 1 ≤ j) (hg:Gl X "len") (hm:X.mg "len" = none) (ha:PE X e (tM ⟨X.K,X.mg⟩ rD W fo)) (he:starEach [e] X.env=(false,eval e X.env) :: starEach [] X.env:=by rfl)
  (hpl:(backTo pos (starEach [] X.env)).any (·.1)=false:=by rfl):PE X (.Call (.Name "len" p) [e] [] pos) (tM ⟨X.K,X.mg⟩ rD W (lenO T fo)):=by
 refine (pe_callBS (call_lenO tk) hg hm (by decide +kernel) (pa_cons ha pa_nil he) (by decide) (by decide) he hpl).dl ?_
 rintro σ H Q ⟨H0,A,B,ρ,ω,r,fm,e,res⟩
 refine tM_mono (tM_bind fm e res) fun x H1 ⟨A1,B1,ω1,d1,t1,fm1,r1,e1,res1⟩=>⟨rfl,?_⟩
 unfold M.bind at e1
 cases q:ownM "__len__" T d1 [] ρ ω1 with
 | none=>rw [q] at e1; cases e1
 | some z =>
  rw [q] at e1
  refine own_at (W:=W) rfl cm hr hj fm1 r1 .nil q ?_
  cases z with
  | exc x ω' =>
   cases e1
   exact fun cls dd A' B' H' t w xo=>res1 cls dd A' B' H' t w xo
  | val d ω' =>
   replace e1:lenB d ρ ω'=some r:=e1
   intro v A' B' H' t w dp
   cases d with
   | int n =>
    simp only [lenB] at e1
    split at e1
    · rename_i hz
      cases e1
      cases dp
      exact ⟨n,rfl,hz.1,hz.2,res1 _ A' B' H' t w (.int n)⟩
    · cases e1
   | _=>cases e1
def tIxO (X:Cx) (W:WX) (ta tb:TE):TE:=fun σ H Q=>ta σ H fun x H1=>tb σ H1 fun y H2=>OwnR X W "__getitem__" (fun v H' Q=>Q v H') σ [x,y] H2 Q
theorem pe_ixO {i:Expr} {ta tb:TE} (tk:Takes X W) (ha:PE X o ta) (hb:PE X i tb) (hsl:∀ x u,subscripted i true (.ref x) u=runValue (.builtin "lifetime.subscript" ⟨[.ref x,u],[]⟩):=by intro _ _; with_unfolding_all rfl):PE X (.Subscript o i pos) (tIxO X W ta tb):=by
 refine ⟨fun pins s σ H Q I h=>?_⟩
 refine PyProof.Rows.Subscript_ (binT ha hb I h fun v u s2 x y H2 I2 rx ry q=>?_)
 obtain ⟨a,C,dx,fs,f,fd,ps,sp,k,ys,e1,hp,⟨hm,hfn⟩,hbi,F,hr,q⟩:=q
 cases e1
 cases (show v=Value.ref a from rx)
 obtain ⟨mA,J,_⟩:=ins_get I2.hok hp
 obtain ⟨od,J,_⟩:=J.look
 obtain ⟨m,hF⟩:=I2.fr
 exact PySem.W.sub_K hF I2.ok.mod.kin J hm.at_ hfn hm.fn (run_at tk F hr.in1 I2.env0.in1 hbi I2 (.cons (show RelV (.ref a) (.ref a) from rfl) (.cons ry .nil)) q) (hsl _ _)
def ixO (T:List (Str × Fn)) (fo fi:M D):M D:=fo.bind fun o=>fi.bind fun i=>ownM "__getitem__" T o [i]
theorem de_ixO {i:Expr} {fi:M D} (tk:Takes X W) (cm:CalMs X.prog X.w X.K X.mg X.base "__getitem__" k T) (hr:Room j X.A) (hj:k + 1 ≤ j) (ha:PE X o (tM ⟨X.K,X.mg⟩ rD W fo)) (hb:PE X i (tM ⟨X.K,X.mg⟩ rD W fi))
  (hsl:∀ x u,subscripted i true (.ref x) u=runValue (.builtin "lifetime.subscript" ⟨[.ref x,u],[]⟩):=by intro _ _; with_unfolding_all rfl):PE X (.Subscript o i pos) (tM ⟨X.K,X.mg⟩ rD W (ixO T fo fi)):=by
 refine (pe_ixO tk ha hb hsl).dl ?_
 rintro σ H Q ⟨H0,A,B,ρ,ω,r,fm,e,res⟩
 refine tM_mono (tM_bind fm e res) fun x H1 ⟨A1,B1,ω1,d1,t1,fm1,r1,e1,res1⟩=>?_
 refine tM_mono (tM_bind fm1 e1 res1) fun y H2 ⟨A2,B2,ω2,d2,t2,fm2,r2,e2,res2⟩=>?_
 exact own_at (W:=W) rfl cm hr hj fm2 (Dp.mv (fm1.wo.mv t2) _ _ r1) (.cons r2 .nil) e2 res2
structure ClT (K:PySem.W.Frag) (C:Addr):Prop where
 cl:Cls K C
 ha:PySem.W.findIn K (.ref C) "__class__" = some (some (.builtin "object.__class__"))
 hn:PySem.W.specialIn K (.builtin "object.__class__") "__get__" = some (some (.builtin "getset_descriptor.__get__"))
 ht:PySem.W.takesIn K (.builtin "object.__class__")=some true
 hm:PySem.W.mroIn K C (.type "object")=some true
end
end DL
namespace DL
open PySem L2
section
variable {X:Cx} {g:G} {n:En} {W:WX} {st:Stmt} {sts:List Stmt} {e:Expr}
end
structure FM (K:PySem.W.Frag) (mg:Str→Option Value) (c m qual:Str) (st:Stmt):Prop where
 ex:∃ C f fd,mg c=some (.ref C) ∧ Cls K C ∧ (Meth K C m f ∧ PySem.W.fnIn K f=true) ∧ Fun K m qual st f fd
structure FI (K:PySem.W.Frag) (mg:Str→Option Value) (c qual:Str) (st:Stmt):Prop where
 ex:∃ C f fd,mg c=some (.ref C) ∧ Mk K C f ∧ Fun K "__init__" qual st f fd
section
variable {P:Program} {w:World} {K:PySem.W.Frag} {mg:Str→Option Value} {base:Heap} {c m qual:Str} {st:Stmt} {ps:List Str} {k:Nat} {Gf:Fn} {I:List D→Option (List (Str × D))}
theorem calM_of (T:FM K mg c m qual st) (b:∀ a fd,Fun K m qual st a fd→Binds K fd ps []) (h:∀ a fd,Fun K m qual st a fd→FnOk P w K mg base (CXm mg P w) k a fd ps (spD ⟨K,mg⟩ Gf)):CalM P w K mg base c m ps k Gf:=by
 obtain ⟨C,f,fd,h1,h2,h3,F⟩:=T.ex
 exact ⟨C,f,fd,h1,h2,h3,b f fd F,h f fd F⟩
theorem CalI.mono {j:Nat} (x:CalI P w K mg base c ps k I) (h:k ≤ j):CalI P w K mg base c ps j I:=by
 obtain ⟨C,f,fd,h1,h2,h3,h4⟩:=x.ex
 exact ⟨C,f,fd,h1,h2,h3,h4.mono h⟩
theorem CalI.imp {I':List D→Option (List (Str × D))} (x:CalI P w K mg base c ps k I) (h:∀ ds fs,I' ds=some fs→I ds=some fs):CalI P w K mg base c ps k I':=by
 obtain ⟨C,f,fd,h1,h2,h3,h4⟩:=x.ex
 refine ⟨C,f,fd,h1,h2,h3,h4.imp fun vs H Q E ⟨A,B,ω,ds,r,w,l,e,q⟩=>⟨A,B,ω,ds,r,w,l,?_,q⟩⟩
 unfold initFn at e ⊢
 split at e
 · split at e
   · split at e
     · rename_i k' ds' _ _ _ hc he
       split at e
       · rename_i fs' hf
         simp only [he,hc,if_true,h _ _ hf]
         exact e
       · cases e
     · cases e
   · cases e
 · cases e
end
def spLaw (K:PySem.W.Frag):Sp:=fun vs H Q _=>∃ (a:Addr) (ns:List Int),vs=[.ref a] ∧ SqL K H a (ns.map V.int) ∧ ns.length ≤ 63 ∧ ∀ H',Q (.bl true) H'
theorem wo0 {g:G} {H:Hp}:Wo g [] (fun _=>False) H []:=⟨rfl,fun i j a e=>(by simp at e),fun a h=>(by cases h),fun a h=>False.elim h,fun k c e=>(by simp at e)⟩
end DL
namespace DL
open PySem L2
def fnV (N:List Str) (k:Nat) (F:MS):Fn:=fun ds ω=>if ds.length=k then (match F (startE N ds) ω with
 | some (.rt d ω')=>some (.val d ω')
 | some (.nx _ ω')=>some (.val .non ω')
 | _=>none) else none
theorem hf_V {N:List Str} {k:Nat} {F:MS}:∀ ds ω r,fnV N k F ds ω=some r→ds.length=k ∧ ∃ d ω' rs,r=.val d ω' ∧ F (startE N ds) ω=some rs ∧ retOf rs=some r:=by
 intro ds ω r h
 unfold fnV at h
 split at h
 · rename_i hl
   split at h
   · rename_i d ω' e
     cases h
     exact ⟨hl,d,ω',_,rfl,e,rfl⟩
   · rename_i ρ' ω' e
     cases h
     exact ⟨hl,.non,ω',_,rfl,e,rfl⟩
   · cases h
 · cases h
section
variable {N:List Str} {k:Nat} {F:MS} {ds:List D} {ω ω':List Cell} {d:D} {ρ:Rho}
theorem fnV_rt (hl:ds.length=k) (h:F (startE N ds) ω=some (.rt d ω')):fnV N k F ds ω=some (.val d ω'):=by
 unfold fnV
 rw [if_pos hl,h]
theorem callM_of {Gf:Fn} (h:Gf ds ω=some (.val d ω')):callM Gf ds ρ ω=some (.val d ω'):=by unfold callM; rw [h]
theorem calM_ev {Gf:Fn} {fs:M (List D)} {ω1:List Cell} (ha:fs ρ ω=some (.val ds ω1)) (h:Gf ds ω1=some (.val d ω')):calM Gf fs ρ ω=some (.val d ω'):=by
 unfold calM
 rw [bind_ev ha,callM_of h]
end
theorem anyD_bls (bs:List Bool):anyD (.lst (bs.map D.bl))=some (.bl (bs.any id)):=by show (boolsOf (bs.map D.bl)).map _=_; rw [boolsOf_map]; rfl
theorem ixD_lst {ds:List D} {i:Nat} {d:D} (h:ds[i]?=some d):ixD (.lst ds) (.int i)=some d:=by unfold ixD; exact atI_nat h
theorem ixD_tup {ds:List D} {i:Nat} {d:D} (h:ds[i]?=some d):ixD (.tup ds) (.int i)=some d:=by unfold ixD; exact atI_nat h
theorem ixD_lstI {ds:List D} {i:Int} {d:D} (h0:0 ≤ i) (h:ds[i.toNat]?=some d):ixD (.lst ds) (.int i)=some d:=by unfold ixD; exact atI_some h0 h
theorem ixD_t0 (a:D) (r:List D):ixD (.tup (a :: r)) (.int 0)=some a:=ixD_tup (i:=0) rfl
theorem ixD_t1 (a b:D) (r:List D):ixD (.tup (a :: b :: r)) (.int 1)=some b:=ixD_tup (i:=1) rfl
mutual
theorem eqb_refl:∀ d:D,plain d=true→eqb d d=true
 | .non,_=>rfl
 | .bl b,_=>by simp [eqb]
 | .int b,_=>by simp [eqb]
 | .str b,_=>by simp [eqb]
 | .tup ds,h=>by simp only [eqb]; exact eqbL_refl ds h
 | .lst ds,h=>by simp only [eqb]; exact eqbL_refl ds h
 | .dic _,h=>by cases h
 | .obj _ _,h=>by cases h
 | .oid _,h=>by cases h
 | .scr _,h=>by cases h
 | .exc _ _,h=>by cases h
theorem eqbL_refl:∀ ds:List D,plainL ds=true→eqbL ds ds=true
 | [],_=>rfl
 | d :: ds,h=>by
  simp only [plainL,Bool.and_eq_true] at h
  simp only [eqbL,Bool.and_eq_true]
  exact ⟨eqb_refl d h.1,eqbL_refl ds h.2⟩
end
theorem filter_tt {α:Type} (xs:List α):xs.filter (fun _=>true)=xs:=List.filter_eq_self.mpr fun _ _=>rfl
theorem lcM_map {α:Type} {vs:List Nat} {src:M (List D)} {T:TT1} {f:M D} {ρ:Rho} {ω ω1:List Cell} {xs:List α} (enc h:α→D) (hsrc:src ρ ω=some (.val (xs.map enc) ω1)) (hz:xs.length ≤ sizeLine)
  (hs:∀ x ∈ xs,∃ ρ2,T (enc x) (wipeE ρ vs) ω1=some ρ2 ∧ f ρ2 ω1=some (.val (h x) ω1)):lcM vs src T (M.pure true) f ρ ω=some (.val (xs.map h) ω1):=by
 have e:=lcM_enc (t:=M.pure true) enc (fun _=>true) h hsrc hz fun x hx=>by
  obtain ⟨ρ2,h1,h2⟩:=hs x hx
  exact ⟨ρ2,h1,rfl,fun _=>h2⟩
 rw [filter_tt] at e
 exact e
section
variable {m c:Str} {T:List (Str × Fn)} {o d:D} {ds:List D} {ρ:Rho} {ω ω1 ω2 ω':List Cell} {fl:List (Str × D)} {Gf:Fn} {fo fi:M D} {fs:M (List D)}
theorem setS_ev {i:Nat} (h:fo ρ ω=some (.val d ω')):setS i fo ρ ω=some (.nx (ρ.set i (.fz d)) ω'):=by unfold setS; rw [bindS_ev h]
theorem retS_ev (h:fo ρ ω=some (.val d ω')):retS fo ρ ω=some (.rt d ω'):=by unfold retS; rw [bindS_ev h]
theorem setO_ev {i:Nat} (h:fs ρ ω=some (.val ds ω')):setO i fs ρ ω=some (.nx (ρ.set i (.ow ds)) ω'):=by unfold setO; rw [bindS_ev h]
theorem appS_ev {i:Nat} {es:List D} (hi:ρ[i]?=some (.ow es)) (h:fo ρ ω=some (.val d ω')) (hz:es.length < sizeLine):appS i fo ρ ω=some (.nx (ρ.set i (.ow (es ++ [d]))) ω'):=by
 unfold appS
 simp only [hi]
 rw [bindS_ev h,if_pos hz]
theorem tst_ev {b:Bool} (h:fo ρ ω=some (.val (.bl b) ω')):tst fo ρ ω=some (.val b ω'):=by unfold tst; rw [bind_ev h]; rfl
theorem truM_ev {b:Bool} (h:fo ρ ω=some (.val (.bl b) ω')):truM fo ρ ω=some (.val b ω'):=by unfold truM; rw [bind_ev h]; rfl
theorem cons_ev (h:fo ρ ω=some (.val d ω1)) (h2:fs ρ ω1=some (.val ds ω2)):consM fo fs ρ ω=some (.val (d :: ds) ω2):=by unfold consM; rw [bind_ev h,bind_ev h2]; rfl
end
theorem lenOk_ev {ds:List D} {ρ:Rho} {ω:List Cell} (h:ds.length ≤ 1000):lenOk ds ρ ω=some (.val ds ω):=by
 unfold lenOk
 rw [if_pos (by rw [sizeLine_eq]; omega)]
theorem mkTup_ev {ds:List D} {ρ:Rho} {ω:List Cell} (h:ds.length ≤ 1000):mkTup ds ρ ω=some (.val (.tup ds) ω):=by
 unfold mkTup
 rw [if_pos (by rw [sizeLine_eq]; omega)]
theorem new0 {ρ:Rho} {ω:List Cell}:((M.pure []).bind lenOk) ρ ω=some (.val [] ω):=by
 rw [bind_ev (a:=[]) (ω1:=ω) rfl]
 exact lenOk_ev (by simp)
mutual
theorem noO_plain:∀ d:D,DL.plain d=true→noO d=true
 | .non,_=>rfl
 | .bl _,_=>rfl
 | .int _,_=>rfl
 | .str _,_=>rfl
 | .tup ds,h=>by simp only [noO]; exact noOL_plain ds (by simpa [DL.plain] using h)
 | .lst ds,h=>by simp only [noO]; exact noOL_plain ds (by simpa [DL.plain] using h)
 | .dic _,h=>by cases h
 | .obj _ _,h=>by cases h
 | .oid _,h=>by cases h
 | .scr _,h=>by cases h
 | .exc _ _,h=>by cases h
theorem noOL_plain:∀ ds:List D,plainL ds=true→noOL ds=true
 | [],_=>rfl
 | d :: ds,h=>by
  simp only [plainL,Bool.and_eq_true] at h
  simp only [noOL,Bool.and_eq_true]
  exact ⟨noO_plain d h.1,noOL_plain ds h.2⟩
end
end DL
namespace DL
open PySem L2
structure OpC (K:PySem.W.Frag) (C:Addr) (op:Operator):Prop where
 first:PySem.W.selfFirst K C=true
 refl:PySem.W.findIn K (.ref C) (PySem.dunderR op.info.2)=some none
 int1:∃ fo,PySem.W.findIn K (.type "int") (PySem.dunder op.info.2)=some fo
 int2:∃ ro,PySem.W.findIn K (.type "int") (PySem.dunderR op.info.2)=some ro
 sub:PySem.W.subIn K (.type "int") (.ref C)=some false
section
variable {X:Cx} {W:WX} {a b:Expr} {fa fb:M D} {k j:Nat} {T:List (Str × Fn)} {pos:Pos} {m:Str}
theorem Room.u0 {k:Nat} {A:Around} (hr:Room k A):A.units < cLine:=by have:=hr.un; omega
end
section
variable {X:Cx} {W:WX} {e:Expr} {p pos np:Pos} {fa:M D} {c:Str} {T:List (Str × Bool)}
end
section
variable {m c:Str} {T:List (Str × Fn)} {x y d:D} {ρ:Rho} {ω ω1 ω2 ω':List Cell} {fl gl:List (Str × D)} {Gf:Fn} {fa fb:M D}
end
end DL
namespace DL
open PySem L2
section
open PyProof.Rows hiding St
structure RoomQ (k:Nat) (A:Around):Prop where
 dq:A.depth + 3 * k + 5 < recursionLimit
 uq:A.units + 16 * k + 200 < cLine
theorem RoomQ.of {k:Nat} {A:Around} (r:Room k A):RoomQ k A:=⟨r.dp,r.un⟩
theorem RoomQ.suite {k:Nat} {A:Around} (v:Option Value) (r:Room k A):RoomQ k (A.mark v):=⟨r.dp,r.un⟩
abbrev coldA (A:Around):Around:={ A with handled:=none }
theorem RoomQ.cold {k:Nat} {A:Around} (r:RoomQ k A):Room k (coldA A):=⟨rfl,r.dq,r.uq⟩
theorem env0_cold {P:Program} {w:World} {K:PySem.W.Frag} {mg:Str→Option Value} {base:Heap} {A:Around} {outer:List PySem.Env} {s:Shared} {H:Hp} (e:Env0 P w K mg base A outer s H):Env0 P w K mg base (coldA A) outer s H :=
 ⟨e.frames,e.mod,e.bs,e.bsz,e.funs,e.frf,e.hok,e.bare⟩
abbrev cxQ (P:Program) (w:World) (K:PySem.W.Frag) (mg:Str→Option Value) (base:Heap) (N:List Str) (qual:Str) (scope:Scope) (f:Addr) (cd:Value) (A:Around) (outer:List PySem.Env) (s:Shared) (H:Hp) (E:XK):Cx :=
 { cxOf (CXm mg P w) P w K mg base N qual scope f cd A outer s H E with calm:=false }
section
variable {P:Program} {w:World} {K:PySem.W.Frag} {mg:Str→Option Value} {base:Heap} {N ps:List Str} {qual x:Str} {scope:Scope} {f:Addr} {cd:Value} {A:Around} {outer:List PySem.Env} {s s1:Shared} {H:Hp} {E:XK}
theorem inv_warm {pins:List (Addr × Obj)} {σ:St} {H':Hp} (I:Inv (cxOf (CXm mg P w) P w K mg base N qual scope f cd (coldA A) outer s H E) pins σ H' s1) (hf:((coldA A).deeper (envOfC qual scope s.heap.objs.size f cd)).frames=(A.deeper (envOfC qual scope s.heap.objs.size f cd)).frames:=by rfl):Inv (cxQ P w K mg base N qual scope f cd A outer s H E) pins σ H' s1 :=
 ⟨⟨I.ok.mod,I.ok.kind,I.ok.glob,I.ok.blt,I.ok.above,I.ok.inj,I.ok.has,I.ok.cab,(fun z=>Bool.noConfusion (show false=true from z)),hf.symm.trans I.ok.frames,I.ok.stk,I.ok.exf,I.ok.bs,I.ok.bsz,I.ok.noex,I.ok.exfs,I.ok.funs,I.ok.frf⟩,
  I.os,I.bare,I.base,I.loc,I.cell,I.free,I.freeC,I.pin,I.hok,I.len⟩
structure FnQ (P:Program) (w:World) (K:PySem.W.Frag) (mg:Str→Option Value) (base:Heap) (k:Nat) (f:Addr) (fd:FuncData) (ps:List Str) (sp:Sp):Prop where
 ln:∀ vs H Q E,sp vs H Q E→vs.length=ps.length
 go:∀ (A:Around) (outer:List PySem.Env) (s:Shared) (H:Hp) (args:Args) (us:List Value) (vs:List V) (Q:VK) (E:XK),RoomQ k A→Env0 P w K mg base A outer s H→BindsTo s fd args (ps.zip us)→Vals vs us→sp vs H Q E →
  codeAny (model P w) A (.call (.ref f) args) (CR (CXm mg P w) outer P w H s Q E) s
theorem fnq_of {k:Nat} {sp:Sp} {st:Stmt} {fd:FuncData} (Fu:Fun K x qual st f fd) (S:FnScope N ps (defScope st)) (ln:∀ vs H Q E,sp vs H Q E→vs.length=ps.length)
  (bd:∀ (cdv:Value) (A:Around) (outer:List PySem.Env) (s:Shared) (H:Hp) (vs:List V) (Q:VK) (E:XK),RoomQ k (A.deeper (envOfC qual (defScope st) s.heap.objs.size f cdv))→sp vs H Q E →
   ∃ t,PSs (cxQ P w K mg base N qual (defScope st) f cdv A outer s H E) (defBody st) t ∧ t { nx:=fun _ H'=>Q .non H',rt:=Q } (L2.start N vs) H):FnQ P w K mg base (k + 1) f fd ps sp:=by
 obtain ⟨oc,od,kV,doc,pm,an,cdv,ct,osl,rfl,lk,hcd⟩:=Fu.ex
 refine ⟨ln,fun A outer s H args us vs Q E hr e0 hb rv hsp=>?_⟩
 have hlen:=ln _ _ _ _ hsp
 have inK:K.In s.heap:=e0.mod.kin.keeps fun b o z=>(e0.bs b o z).1
 have noL:s.heap.NoLimit:=e0.mod.nolimit.keeps fun b o z=>(e0.bs b o z).1
 have kinds:∀ y ∈ ps.zip us,(defScope st).names.lookup y.1=some .local ∨ ((defScope st).names.lookup y.1=some .cell ∧ ((cellsFrom (s.heap.objs.size + 1) (defScope st).names []).lookup y.1).isSome=true):=fun ⟨nn,vv⟩ hy =>
  (S.par nn (List.of_mem_zip hy).1).elim .inl fun z=>.inr ⟨z,PySem.W.cellsFrom_some _ _ _ (.inl z)⟩
 refine codeAny_call_function (by have:=hr.dq; omega) (inK _ _ lk) rfl S.co S.gen rfl (PySem.W.codeRec_of inK hcd) (hb _ _ _ _ (wpAny_newFunctionEnv_cells S.kind kinds fun env he s1 ic=>?_))
 subst he
 refine ⟨noL.keeps ic.toInCall.keep,codeAny_func ?_⟩
 have rc:=hr.cold.deeper (envOfC qual (defScope st) s.heap.objs.size f cdv)
 have rq:RoomQ k (A.deeper (envOfC qual (defScope st) s.heap.objs.size f cdv)):=⟨rc.dp,rc.un⟩
 obtain ⟨t,pt,hq⟩:=bd cdv A outer s H vs Q E rq hsp
 have I0:Inv (cxOf (CXm mg P w) P w K mg base N qual (defScope st) f cdv (coldA A) outer s H E) [] (L2.start N vs) H s1:=inv_start S rfl (env0_cold e0) hlen rv ic
 refine wpAny_mono (pt.run [] s1 (L2.start N vs) H _ (inv_warm I0) hq) (fun fl s' hs=>?_) fun e s' hs=>hs
 cases fl with
 | ret u=>obtain ⟨v,σ',H',J,r1,q⟩:=hs; exact ⟨v,H',J.os,J.bare,J.base,J.hok,r1,q⟩
 | next=>obtain ⟨σ',H',J,q⟩:=hs; exact ⟨V.non,H',J.os,J.bare,J.base,J.hok,rfl,q⟩
 | brk=>exact hs.elim fun _ z=>z.elim fun _ z=>z.2.elim
 | cont=>exact hs.elim fun _ z=>z.elim fun _ z=>z.2.elim
end
end
theorem hf_X {N:List Str} {k:Nat} {F:MS}:∀ ds ω r,fnOf N k F ds ω=some r→ds.length=k ∧ ∃ rs,F (startE N ds) ω=some rs ∧ retOf rs=some r:=by
 intro ds ω r h
 unfold fnOf at h
 split at h
 · rename_i hl
   split at h
   · rename_i rs e
     exact ⟨hl,rs,e,h⟩
   · cases h
 · cases h
section
variable {N:List Str} {k:Nat} {F:MS} {ds:List D} {ω ω':List Cell} {d:D} {ρ:Rho} {x:Exc}
theorem fn_rt (hl:ds.length=k) (h:F (startE N ds) ω=some (.rt d ω')):fnOf N k F ds ω=some (.val d ω'):=by unfold fnOf; rw [if_pos hl,h]; rfl
theorem fn_nx (hl:ds.length=k) (h:F (startE N ds) ω=some (.nx ρ ω')):fnOf N k F ds ω=some (.val .non ω'):=by unfold fnOf; rw [if_pos hl,h]; rfl
theorem fn_ex (hl:ds.length=k) (h:F (startE N ds) ω=some (.exc x ρ ω')):fnOf N k F ds ω=some (.exc x ω'):=by unfold fnOf; rw [if_pos hl,h]; rfl
end
structure SeI (K:PySem.W.Frag) (mg:Str→Option Value) (c:Str):Prop where
 ex:∃ C mc,mg c=some (.ref C) ∧ PySem.W.readsIn K C mc=true ∧ PySem.W.specialIn K (.ref C) "__getattribute__" = some (some (.builtin "type.__getattribute__")) ∧ PySem.W.findCls K (.ref C) mc "__init__" = some (.val (.builtin "ValueError.__init__"))
theorem pe_seinit {X:Cx} {c:Str} {e:Expr} {es:List Expr} {ta:TA} {p1 p2 pos:Pos} {pl:Sem Bool} (S:SeI X.K X.mg c) (hg:Gl X c) (ha:PA X (e :: es) ta) (hdb:(c == ("__debug__" : Str))=false:=by decide)
  (hc:eval (.Call (.Attribute (.Name c p1) "__init__" p2) (e :: es) [] pos) X.env=(do
   let ov ← eval (.Name c p1) X.env
   standAt p2.atName
   let (f,first) ← holding [ov] (getMethod ov "__init__" pl)
   callWith pos f first (backTo pos (starEach (e :: es) X.env)) (backToKw pos (keywordEach [] X.env))):=by rfl)
  (he:starEach (e :: es) X.env=(false,eval e X.env) :: starEach es X.env:=by rfl) (hpl:(backTo pos (starEach es X.env)).any (·.1)=false:=by rfl) :
  PE X (.Call (.Attribute (.Name c p1) "__init__" p2) (e :: es) [] pos) (tVeI X.K ta):=by
 obtain ⟨C0,mc,hm,rd,ga,at_⟩:=S.ex
 refine ⟨fun pins s σ H Q I h=>?_⟩
 refine PySem.W.methodCall_KW (pl:=pl) (ld_glob I hg hm ?_ hdb) hc
 refine PySem.W.method_cls I.kIn ga (PySem.W.cls_value I.kIn rd at_ rfl ?_)
 show wpAny _ _ (callWith pos (Value.builtin "ValueError.__init__") [] (backTo pos (starEach (e :: es) X.env)) []) _ _ _
 refine PyProof.Rows.callWith_method1 (thn (ha.run pos pins _ σ H _ (I.tok _) h) fun us s1 ⟨vs,H1,I1,r1,a,C,ws,ev,hl,T,ea,q⟩=>?_) he hpl
 subst ev
 cases r1 with
 | @cons _ u0 _ ur ra rw' =>
  obtain rfl:u0=Value.ref a:=ra
  have hlen:ur.length ≤ sizeLine:=by
   rw [← Paired.length rw',sizeLine_eq]
   omega
  exact oinit_ok T I1 ea hlen fun s' J=>⟨.non,H1,J,rfl,q⟩
def spXI (K:PySem.W.Frag) (C:Addr) (f:Str):Sp:=fun vs H Q _=>∃ (a:Addr) (v:V),vs=[.ref a,v] ∧ H a=some (exo a C none) ∧ ∀ dx,H dx=none→dx ≠ a→Q .non (upd (upd H dx (exd dx [(f,v)])) a (exo a C (some dx)))
theorem xi_ans {K:PySem.W.Frag} {C:Addr} {f m:Str} {N:List Str} (T:OexC K C) (hno:PySem.W.findIn K (.ref C) f=some none) {vs:List V} {H:Hp} {Q:VK} {E:XK} (hN:N.length=2) (h:spXI K C f vs H Q E) :
  (tSeq (tDrop (tVeI K (tCons (tVar 0) (tCons (tC (.str m)) tNil)))) (tOst K f (tVar 0) (tVar 1))) { nx:=fun _ H'=>Q .non H',rt:=Q } (L2.start N vs) H:=by
 obtain ⟨a,v,rfl,ha,q⟩:=h
 have e0:(L2.start N [.ref a,v])[0]?=some (some (.ref a)):=by unfold L2.start; rfl
 have e1:(L2.start N [.ref a,v])[1]?=some (some v):=by unfold L2.start; rfl
 refine ⟨_,e0,?_⟩
 refine ⟨a,C,[.str m],rfl,Nat.le_add_left 1 999,T,ha,?_⟩
 exact ⟨v,e1,_,e0,a,C,rfl,T,hno,.inl ⟨ha,fun dx hd ne=>q dx hd ne⟩⟩
structure CalX (P:Program) (w:World) (K:PySem.W.Frag) (mg:Str→Option Value) (base:Heap) (c f:Str) (ps:List Str) (k:Nat):Prop where
 ex:∃ C fI fd,mg c=some (.ref C) ∧ OexC K C ∧ PySem.W.findIn K (.ref C) "__init__" = some (some (.ref fI)) ∧ PySem.W.typeIn K (.ref fI)=some (.type "function") ∧ Binds K fd ps [] ∧ FnQ P w K mg base k fI fd ps (spXI K C f)
def raiS (c f:Str) (fm:M D):MS:=bindS fm fun d ρ ω=>some (.exc ⟨c,[(f,d)]⟩ ρ ω)
section
variable {X:Cx} {n:En} {W:WX} {c f:Str} {e:Expr} {fm:M D} {p p2 pos:Pos} {ps:List Str} {k j:Nat}
theorem pmk_q {X:Cx} {x:Str} {e:Expr} {es:List Expr} {ta:TA} {p pos:Pos} {C fI:Addr} {k:Nat} {fd:FuncData} {ps:List Str} {sp:Sp} (T:OexC X.K C) (iC:PySem.W.findIn X.K (.ref C) "__init__" = some (some (.ref fI))) (tI:PySem.W.typeIn X.K (.ref fI)=some (.type "function"))
  (F1:FnQ X.prog X.w X.K X.mg X.base k fI fd ps sp) (hr:RoomQ (k + 1) X.A) (hb:Binds X.K fd ps []) (hg:Gl X x) (hm:X.mg x=some (.ref C)) (ha:PA X (e :: es) ta)
  (hdb:(x == ("__debug__" : Str))=false:=by decide) (he:starEach (e :: es) X.env=(false,eval e X.env) :: starEach es X.env:=by rfl) (hpl:(backTo pos (starEach es X.env)).any (·.1)=false:=by rfl) :
  L2H.PMk5 X (.Call (.Name x p) (e :: es) [] pos) (tMkO C sp [] ta):=fun pins s σ H Q I h=>by
 obtain ⟨nm,q,N,bs,bm,sn,sub,ab,col,dd,k0,k1,k2,k3,k5,hC,hbm⟩:=T.cls
 refine wpAny_Call_Name_kw (ld_glob I hg hm (PySem.W.callWith_K (h₀:=X.base) I.ok.mod.kin T.kC (thn (ha.run pos pins s σ H _ I h) fun us s1 ⟨vs,H1,I1,r1,hz,q1⟩=>⟨I1.kIn,?_⟩) he hpl) hdb)
 show wpAny _ _ (call (.ref C) us) _ _ _
 obtain ⟨hp,g,dr,tk,os⟩:=s1
 have hsz:hp.objs.size ≤ hp.objs.size + 1:=Nat.le_succ _
 have hq:=q1 (hp.objs.size + 1) (I1.hok.fresh hsz)
 rw [List.append_nil] at hq
 have kk:∀ b o,hp.get? b=some o→((hp.push (PySem.W.kdv_tup us)).push (PySem.HandSPX.excO C hp.objs.size)).get? b=some o:=fun b o e=>Heap.get?_push_of_some _ (Heap.get?_push_of_some _ e)
 have I2:=I1.laid (t':=tk) (a:=hp.objs.size + 1) (o:=exo (hp.objs.size + 1) C none) kk hsz (exo_ok (show ((hp.push (PySem.W.kdv_tup us)).push (PySem.HandSPX.excO C hp.objs.size)).get? (hp.objs.size + 1)=some (PySem.HandSPX.excO C hp.objs.size) by heap_get))
 have r2:Vals (V.ref (hp.objs.size + 1) :: vs) (Value.ref (hp.objs.size + 1) :: us):=.cons rfl r1
 have hl:(Value.ref (hp.objs.size + 1) :: us ++ []).length=ps.length:=by
  rw [List.append_nil,← F1.ln _ _ _ _ hq]
  exact r2.length.symm
 have hus:us.length ≤ sizeLine:=by
  rw [← Paired.length r1,sizeLine_eq]
  omega
 have b2:=hb _ (Value.ref (hp.objs.size + 1) :: us) I2.kIn hl
 rw [List.append_nil] at b2
 have rm:=hr.cold.make C us []
 refine wpAny_call (PySem.HandSPX.call_own F.excBase_ValueError (fun Y=>PySem.HandSPX.refsVE_contains Y bm hbm) (I1.kIn _ _ hC) (PySem.W.looks_findIn I1.kIn iC) (fun self=>PySem.W.bind_fn I1.kIn self tI) hus
  (codeAny_mono (F1.go _ X.stack _ _ ⟨Value.ref (hp.objs.size + 1) :: us,[]⟩ _ _ _ (fun _ _ _=>False) ⟨rm.dp,rm.un⟩ (I2.env0.make C us []) b2 r2 hq) fun r s' hq'=>?_))
 cases r with
 | error er=>exact (cxm_none hq').elim
 | ok fl =>
  cases fl with
  | ret u =>
   obtain ⟨v,H2,os2,bare2,un2,hok2,rv,ev,d,fs,ea,ed,hd1,q2⟩:=hq'
   subst ev
   obtain ⟨h2,g2,d2,t2,os'⟩:=s'
   obtain ⟨t0,G,J,kG,ge,hoe,na⟩:=mk_end0 (d2:=d2) (t2:=t2) I1 hsz kk un2 hok2 os2 bare2 ea ed hd1
   refine ⟨rv,⟨hp.objs.size + 1,_,_,⟨G,g2,d2,t2,os'⟩,_,.ref C,some d,rfl,J,kG,ge,hoe,⟨rfl,rfl,fun vs hv=>?_⟩,rfl,rfl,na,rfl,bare2,raises_own T.exC T.tyC,q2⟩,fun a oe vs ea2 hg2 hd2=>?_⟩
   · cases hv
     rfl
   · cases ea2
     have hg3:h2.get? (hp.objs.size + 1)=some oe:=hg2
     rw [hoe] at hg3
     cases hg3
     cases hd2
     show (4:Nat) < 6
     decide
  | next=>exact False.elim hq'
  | brk=>exact False.elim hq'
  | cont=>exact False.elim hq'
theorem ds_raise (tk:Takes X W) (hc:X.calm=true) (cx:CalX X.prog X.w X.K X.mg X.base c f ps k) (hr:Room j X.A) (hj:k + 1 ≤ j) (hg:Gl X c) (ha:PE X e (tM ⟨X.K,X.mg⟩ rD W fm)) (hdb:(c == ("__debug__" : Str))=false:=by decide)
  (he:starEach [e] X.env=(false,eval e X.env) :: starEach [] X.env:=by rfl) (hpl:(backTo pos (starEach [] X.env)).any (·.1)=false:=by rfl) :
  PS X (.Raise (some (.Call (.Name c p) [e] [] pos)) none p2) (tS ⟨X.K,X.mg⟩ n W (raiS c f fm)):=by
 obtain ⟨C,fI,fd,h1,h2,h3,h4,h5,h6⟩:=cx.ex
 refine (L2N.ps_raise hc tk.2 (pmk_q h2 h3 h4 h6 (RoomQ.of (hr.mono hj)) h5 hg h1 (pa_cons ha pa_nil he) hdb he hpl).pmk).dl fun D σ H ⟨A,B,ρ,ω,r,s,fm0,e0,res⟩=>?_
 refine tM_mono (tS_bind s fm0 e0 res) fun v H1 ⟨A1,B1,ω1,d,t1,m1,s1,fm1,r1,e1,res1⟩=>?_
 cases e1
 refine ⟨Nat.le_add_left 1 999,fun a hn=>⟨a,v,rfl,upd_same,fun dx hd ne=>⟨rfl,dx,[(f,v)],upd_same,?_,?_,?_⟩⟩⟩
 · rw [upd_ne ne,upd_same]
 · rw [upd_ne ne] at hd; exact hd
 · rw [upd_ne ne] at hd
   have eh:upd (del (upd (upd (upd H1 a (exo a C none)) dx (exd dx [(f,v)])) a (exo a C (some dx))) a) dx (.xd [(f,v)])=upd H1 dx (.xd [(f,v)]):=by
    funext b
    by_cases hb:b=dx
    · rw [hb,upd_same,upd_same]
    · rw [upd_ne hb,upd_ne hb]
      by_cases hba:b=a
      · rw [hba,del_same,hn]
      · rw [del_ne hba,upd_ne hba,upd_ne hb,upd_ne hba]
   rw [eh]
   have t2:Stp A1 B1 H1 A1 B1 (upd H1 dx (.xd [(f,v)])):=Stp.grow hd
   exact res1 (.ref C) (some dx) σ A1 B1 _ (Mv.grow hd) (s1.trans t2) (fm1.up t2 (fm1.wo.grow hd)) ⟨h1,.inl ⟨dx,[(f,v)],rfl,fm1.wo.nb hd,upd_same,.cons (Dp.mv (Mv.grow hd) _ _ r1) .nil⟩⟩
end
end DL
namespace DL
open PySem L2
open PyProof.Rows hiding St
abbrev SuT:=Addr→Value→Option Addr→TS
section
variable {X:Cx} {pins:List (Addr × Obj)} {σ:St} {H:Hp} {s:Shared} {i:Nat} {n:Str}
theorem inv_gone (I:Inv X pins σ H s) (hN:X.N.Nodup) (hi:X.N[i]?=some n):∃ m,s.heap.Ns X.env.locals m ∧ ∀ (s':Shared) (m':Str→Option Value),s'.heap.Ns X.env.locals m'→(∀ y,y ≠ n→m' y=m y) →
  (∀ b,b ≠ X.env.locals→s'.heap.get? b=s.heap.get? b)→s'.os=s.os→AllBare s'.gens→Inv X pins (σ.set i none) H s':=by
 obtain ⟨m,hn,hlk⟩:=id I.loc
 refine ⟨m,hn,fun s' m' hn' hm hs os bare=>?_⟩
 have neL:∀ b o,X.s_0.heap.get? b=some o→b ≠ X.env.locals:=fun b o e z=>absurd (Nat.lt_of_lt_of_le (Heap.lt_size e) I.ok.above) (by rw [z]; exact Nat.lt_irrefl _)
 have cell:∀ y c v,X.env.cells.lookup y=some c→s.heap.IsCell c v→s'.heap.IsCell c v:=fun y c v e ⟨o,h1,h2⟩=>⟨o,(hs c (I.cne y c e)).trans h1,h2⟩
 have tr:∀ b ob,H b=some ob→b ≠ X.env.locals:=fun b ob e z=>by rw [z,I.free] at e; cases e
 refine ⟨I.ok,os.trans I.os,bare,⟨fun b o e q hb hx=>(hs b (neL b o e)).trans (I.base.keep b o e q hb hx),fun b o e q hb hx=>?_,I.base.free,fun b o e hx=>?_,I.base.tups,I.base.frzs,I.base.tbls⟩,
  ⟨m',hn',fun j y v' e1 e2 e3=>?_⟩,fun y c e=>?_,I.free,I.freeC,fun p hp=>?_,fun b ob e=>(I.hok b ob e).stay (fun c w' hc q=>(hs c ?_).trans q) (fun _ q=>q) fun _ _ q=>q,by rw [List.length_set]; exact I.len⟩
 · obtain ⟨sl,z⟩:=I.base.slot b o e q hb hx
   exact ⟨sl,(hs b (neL b o e)).trans z⟩
 · obtain ⟨o',z⟩:=I.base.there b o e hx
   exact ⟨o',(hs b (neL b o e)).trans z⟩
 · rcases getElem?_set_cases e2 with ⟨_,_,z⟩ | ⟨ne,e2⟩
   · cases z
   · obtain ⟨u,r,q⟩:=hlk j y v' e1 e2 e3
     refine ⟨u,r,?_⟩
     rcases q with ⟨k,z⟩ | ⟨k,c,z,w⟩
     · exact .inl ⟨k,(hm y fun q=>ne (nodup_ix hN hi (q ▸ e1))).trans z⟩
     · exact .inr ⟨k,c,z,cell y c _ z w⟩
 · obtain ⟨w,z⟩:=I.cell y c e
   exact ⟨w,cell y c w e z⟩
 · obtain ⟨e,q,ne,nf,d⟩:=I.pin p hp
   exact ⟨(hs p.1 ne).trans e,q,ne,nf,d⟩
 · rcases hc with rfl | hc
   · exact tr _ _ e
   · exact tr _ _ hc
def goX (X:Cx) (a:Addr) (n:Str) (pos:Pos):Value→Shared→Prop:=fun x s₃ =>
 wpAny (model X.prog X.w) (X.A.mark (some (.ref a))) (noteFrame x X.env) (fun _ s₄ =>
  wpAny (model X.prog X.w) (X.A.mark (some (.ref a))) (do bindName X.env n .none; unbindBehindTheSuite X.env n pos)
   (fun _ s₅=>wpAny (model X.prog X.w) (X.A.mark (some (.ref a))) (passOn "try.except-as" x X.env:Sem Flow) (fun _ _=>False) (notedBy (model X.prog X.w) (X.A.mark (some (.ref a))) X.env (cameBackBy (model X.prog X.w) X.A X.env X.xe)) s₅)
   (fun y s₅=>wpAny (model X.prog X.w) (X.A.mark (some (.ref a))) (setFlight x none) (fun _ s₆=>notedBy (model X.prog X.w) (X.A.mark (some (.ref a))) X.env (cameBackBy (model X.prog X.w) X.A X.env X.xe) y s₆)
    (notedBy (model X.prog X.w) (X.A.mark (some (.ref a))) X.env (cameBackBy (model X.prog X.w) X.A X.env X.xe)) s₅) s₄) (notedBy (model X.prog X.w) (X.A.mark (some (.ref a))) X.env (cameBackBy (model X.prog X.w) X.A X.env X.xe)) s₃
abbrev suiteR (X:Cx) (a:Addr) (pn:List (Addr × Obj)) (xe:Value→Shared→Prop):Cx:={ X with A:=X.A.mark (some (.ref a)),calm:=false,pn:=pn,xe:=xe }
theorem sky_note {M:Model} {A:Around} {E:Value→Shared→Prop} {B:Heap} {env:PySem.Env} {outer:List PySem.Env} {L a:Addr} {Z:Obj→Prop} {Q:Unit→Shared→Prop} (hZ:PXN.Steady1 Z) (hfr:A.frames=some (env :: outer)) (hf:env.frame=some L)
  (x:Sky B (env :: outer) a Z L s.heap) (hQ:∀ h',HandSPX.HeldZ B (env :: outer) a Z L h'→s.heap.UpToSlots h'→Q () { s with heap:=h' }):wpAny M A (noteFrame (.ref a) env) Q E s:=by
 rcases x with ⟨hB,hn,hl,oe,vs,he,hz,hd,h1⟩ | fl | hh
 · exact PXN.look_newZ hZ hfr hl hf he hB hn hd h1 hz hQ
 · exact PXN.looks_onZ hZ hfr hf fl hQ
 · exact HandSPX.againZ hf hh.2.2.2 (hQ s.heap hh (Heap.UpToSlots.refl _))
theorem takes_suite {Wout:WX} {a:Addr} {oe:Obj} {pos:Pos} (tk:Takes X Wout) (ok:X.Ok) (hs:X.stack=X.env :: X.outer) (hf:X.env.frame=some X.env.locals) (hN:X.N.Nodup) (hi:X.N[i]?=some n) (hln:X.env.kindOf n=some .local)
  (hpa:∀ hd:Option Value,PassesOwnAt (model X.prog X.w) (X.A.mark hd) X.A X.env X.xe) :
  Takes (suiteR X a ((a,oe) :: (X.pn ++ pins)) (goX X a n pos)) (fun cls d σ H=>Wout cls d (σ.set i none) H):=.mk fun u s' ⟨x,B,sI,pn,σ,H,cls,d,⟨eu,I'⟩,⟨nb,up⟩,⟨sky,na⟩,os,ag,w⟩=>by
 subst eu
 have I:Inv X pins σ H sI:=L2H.unsuiteX (show Inv (L2H.suiteX X a ((a,oe) :: (X.pn ++ pins))) pn σ H sI from I'.wish _) ok
 have hfr:(X.A.mark (some (.ref a))).frames=some (X.env :: X.outer):=by
  rw [← hs]; exact ok.frames
 have hcls:(X.env.scope.kind == .class || (X.env.scope.kind == .module && X.env.locals != X.env.globals))=false:=by rw [ok.kind]; rfl
 have sky':Sky B (X.env :: X.outer) x (Zm X.mg cls d) X.env.locals s'.heap:=by rw [← hs]; exact sky
 show wpAny _ _ (noteFrame (.ref x) X.env) _ _ _
 refine sky_note Zm.steady hfr hf sky' fun h1 hh1 up1=>?_
 have inP:∀ b o,sI.heap.get? b=some o→((sI.heap.get? b).isSome)=true:=fun b o e=>by rw [e]; rfl
 obtain ⟨G,g1,g2⟩:=restrict h1 fun b=>(sI.heap.get? b).isSome
 have gO:∀ b o,G.get? b=some o→∃ o',sI.heap.get? b=some o' ∧ h1.get? b=some o:=fun b o e=>by
  cases q:(sI.heap.get? b).isSome with
  | false=>rw [g2 b q] at e; cases e
  | true =>
   obtain ⟨o',e'⟩:=Option.isSome_iff_exists.mp q
   exact ⟨o',e',by rw [← g1 b q]; exact e⟩
 have up01:=up.trans up1
 have gF:∀ b ∈ frs X.stack,∀ o,sI.heap.get? b=some o→∃ sl,G.get? b=some { o with slots:=sl }:=fun b hb o e=>by
  obtain ⟨_,o',e',hd⟩:=I.stack.mem hb
  rw [e] at e'; cases e'
  obtain ⟨sl,q⟩:=up01 b o e hd
  exact ⟨sl,(g1 b (inP b o e)).trans q⟩
 have gK:∀ b o,sI.heap.get? b=some o→b ∉ frs X.stack→G.get? b=some o:=fun b o e hb=>(g1 b (inP b o e)).trans (hh1.1 b o (nb b o e hb))
 have J0:Inv X pins σ H { sI with heap:=G,gens:=s'.gens,drawn:=s'.drawn,toks:=s'.toks }:=by
  refine I.call (ch:=[]) ⟨fun b o e _ hb _=>gK b o e hb,fun b o e _ hb _=>gF b hb o e,fun _ _ _ q _=>q,fun b o e _=>?_,fun _ _ e=>e,fun _ _ _ e=>e,fun b ps e=>⟨#[],by rw [e]; simp⟩⟩ (fun b ob e=>(I.hok b ob e).stay (fun c v hc q=>gK c v q fun hb=>?_) (fun _ q=>q) fun _ _ q=>q) ag (fun _ z=>nomatch z)
  · by_cases hb:b ∈ frs X.stack
    · obtain ⟨sl,q⟩:=gF b hb o e
      exact ⟨_,q⟩
    · exact ⟨o,gK b o e hb⟩
  · have z:=I.stkFree c hb
    rcases hc with rfl | hc
    · rw [e] at z; cases z
    · rw [hc] at z; cases z
 obtain ⟨m,hnG,gone⟩:=inv_gone J0 hN hi
 have hLs:∃ o,sI.heap.get? X.env.locals=some o:=by
  obtain ⟨_,⟨o,_,_,ho,_⟩,_⟩:=id I.loc
  exact ⟨o,ho⟩
 obtain ⟨oL,hoL⟩:=hLs
 have hn1:h1.Ns X.env.locals m:=by
  obtain ⟨o,es,ep,ho,r⟩:=hnG
  exact ⟨o,es,ep,(g1 _ (inP _ _ hoL)).symm.trans ho,r⟩
 refine wpAny_nameGoes_keeps hln hn1 hcls fun h2 v hn2 hs2=>?_
 have LB:B.get? X.env.locals=none:=(hh1.2.2.1.mem (b:=X.env.locals) (by rw [List.filterMap_cons,hf]; exact List.mem_cons_self ..)).1
 have stB:B.StaysIn h2:=fun b o e=>(hs2.2 b fun z=>by rw [z,LB] at e; cases e).trans (hh1.1 b o e)
 have notRec:∀ b ob vs,h1.get? b=some ob→ob.data=.fields vs→b ≠ X.env.locals:=fun b ob vs e dd z=>by
  obtain ⟨o,es,ep,ho,hd,_⟩:=hn1
  rw [z,ho] at e
  cases e
  rw [hd] at dd; cases dd
 have trc:HandSPX.TracedZ h2 B x (Zm X.mg cls d) (rawInt X.env.locals):=by
  obtain ⟨oe',vs,T,oT,ts,t1,t2,t3,t4,t5,t6,t7,t8,t9⟩:=hh1.2.2.2
  exact ⟨oe',vs,T,oT,ts,(hs2.2 x (notRec _ _ _ t1 t3)).trans t1,t2,t3,t4,t5,t6,(hs2.2 T (notRec _ _ _ t7 t8)).trans t7,t8,t9⟩
 have ff:h2.FunFrames B (X.env :: X.outer):=by
  obtain ⟨k1,k2,k3⟩:=hh1.2.2.1
  obtain ⟨o,es,ep,ho,hd,_⟩:=hn2
  refine ⟨k1,⟨_,o,hf,LB,ho,fun vs z=>by rw [hd] at z; cases z⟩,?_⟩
  have go:∀ l:List PySem.Env,(∀ b ∈ frs l,b ≠ X.env.locals)→h1.FunFrames B l→h2.FunFrames B l:=by
   intro l
   induction l with
   | nil=>intro _ _; trivial
   | cons e r ih =>
    rintro hne ⟨q1,⟨L,o,q2,q3,q4,q5⟩,q6⟩
    have mem:L ∈ frs (e :: r):=by unfold frs; rw [List.filterMap_cons,q2]; exact List.mem_cons_self ..
    exact ⟨q1,⟨L,o,q2,q3,(hs2.2 L (hne L mem)).trans q4,q5⟩,ih (fun b hb=>hne b (by unfold frs; rw [List.filterMap_cons]; cases e.frame <;> first | exact hb | exact List.mem_cons_of_mem _ hb)) q6⟩
  refine go X.outer (fun b hb z=>?_) k3
  obtain ⟨_,o',e',_⟩:=ok.funs.mem hb
  exact absurd (Nat.lt_of_lt_of_le (Heap.lt_size e') ok.above) (by rw [z]; exact Nat.lt_irrefl _)
 obtain ⟨G2,k1,k2⟩:=restrict h2 fun b=>(sI.heap.get? b).isSome
 obtain ⟨oe',vs,T,oT,ts,t1,t2,t3,t4,t5,t6,t7,t8,t9⟩:=id trc
 unfold PySem.passOn
 refine wpAny_bind (wpAny_field (s:={ s' with heap:=h2,toks:=s'.toks + 1 }) t1 t3 t4 ?_)
 rw [if_neg (show ¬ ((Value.ref T == Value.none)=true) from by simp)]
 have fin:wpAny (model X.prog X.w) (X.A.mark (some (.ref a))) (setFlight (.ref x) X.env.frame) (fun _ s4=>wpAny (model X.prog X.w) (X.A.mark (some (.ref a))) (throw (.ref x):Sem Flow) (fun _ _=>False)
   (notedBy (model X.prog X.w) (X.A.mark (some (.ref a))) X.env (cameBackBy (model X.prog X.w) X.A X.env X.xe)) s4) (notedBy (model X.prog X.w) (X.A.mark (some (.ref a))) X.env (cameBackBy (model X.prog X.w) X.A X.env X.xe)) { s' with heap:=h2,toks:=s'.toks + 1 }:=by
  rw [hf]
  refine HandSPX.setFlight_anyZ stB ff trc fun h3 q1 q2 q3 q4=>wpAny_throw (hpa _ _ _ (tk.at ?_))
  refine ⟨x,B,{ sI with heap:=G2,gens:=s'.gens,drawn:=s'.drawn,toks:=s'.toks },pins,σ.set i none,H,cls,d,⟨rfl,?_⟩,⟨fun b o e hb=>?_,fun b o e hd=>?_⟩,⟨.inr (.inr ?_),na⟩,os,ag,w⟩
  · refine gone _ (fun y=>if y=n then v else m y) ?_ (fun y hy=>if_neg hy) (fun b hb=>?_) rfl ag
    · obtain ⟨o,es,ep,ho,r⟩:=hn2
      exact ⟨o,es,ep,(k1 _ (inP _ _ hoL)).trans ho,r⟩
    · show G2.get? b=G.get? b
      cases q:(sI.heap.get? b).isSome with
      | false=>rw [g2 b q,k2 b q]
      | true=>rw [g1 b q,k1 b q,hs2.2 b hb]
  · cases q:(sI.heap.get? b).isSome with
    | false=>rw [show G2.get? b=none from k2 b q] at e; cases e
    | true =>
     obtain ⟨o',e'⟩:=Option.isSome_iff_exists.mp q
     have z:=nb b o' e' hb
     have z2:=stB b o' z
     rw [← k1 b q,show G2.get? b=some o from e] at z2
     cases z2
     exact z
  · cases q:(sI.heap.get? b).isSome with
    | false=>rw [show G2.get? b=none from k2 b q] at e; cases e
    | true=>exact q4 b o (by rw [← k1 b q]; exact e) hd
  · rw [hs]
    exact ⟨q1,hh1.2.1,q2,q3⟩
 first
  | exact wpAny_bind (wpAny_pure (wpAny_bind fin))
  | exact wpAny_bind fin
end
def offD (oi:Option Nat) (D:Ends):Ends:=match oi with
 | none=>D
 | some i=>{ nx:=fun σ' H'=>D.nx (σ'.set i none) H',rt:=D.rt,bk:=fun σ' H'=>D.bk (σ'.set i none) H',ct:=fun σ' H'=>D.ct (σ'.set i none) H' }
def onS (oi:Option Nat) (a:Addr) (σ:St):St:=match oi with
 | none=>σ
 | some i=>σ.set i (some (.ref a))
def wCls (K:PySem.W.Frag) (Wo:WX) (D:Ends):List (Value × Option Nat × SuT)→WX
 | []=>Wo
 | (c,oi,ts) :: r=>fun cls d σ H=>∃ b,PySem.W.exmOne K cls c=some b ∧ (b=true→∀ a,H a=none→ts a cls d (offD oi D) (onS oi a σ) H) ∧ (b=false→wCls K Wo D r cls d σ H)
inductive ClsOk (X:Cx) (Wo:WX):List ExceptHandler→List (Value × Option Nat × SuT)→Prop
 | nil:ClsOk X Wo [] []
 | one {x:Str} {c:Value} {ts:SuT} {b₀:Stmt} {su:List Stmt} {np p:Pos} {hds:List ExceptHandler} {l:List (Value × Option Nat × SuT)} (hc:Names X x c)
   (hsu:∀ (a:Addr) (oe:Obj) (cls:Value) (d:Option Addr) (pn:List (Addr × Obj)),Zc cls d oe→(∃ vs,oe.data=.fields vs)→PSs (X.suite a ((a,oe) :: pn)) (b₀ :: su) (ts a cls d)) (r:ClsOk X Wo hds l) :
   ClsOk X Wo (.ExceptHandler (some (.Name x np)) none (b₀ :: su) p :: hds) ((c,none,ts) :: l)
 | as {x n:Str} {i:Nat} {c:Value} {ts:SuT} {b₀:Stmt} {su:List Stmt} {np p:Pos} {hds:List ExceptHandler} {l:List (Value × Option Nat × SuT)} (hN:X.N.Nodup) (hi:X.N[i]?=some n) (hln:X.env.kindOf n=some .local) (hc:Names X x c)
   (hsu:∀ (a:Addr) (oe:Obj) (cls:Value) (d:Option Addr) (pn:List (Addr × Obj)),Zc cls d oe→(∃ vs,oe.data=.fields vs)→PSs (X.suite a ((a,oe) :: pn)) (b₀ :: su) (ts a cls d)) (r:ClsOk X Wo hds l) :
   ClsOk X Wo (.ExceptHandler (some (.Name x np)) (some n) (b₀ :: su) p :: hds) ((c,some i,ts) :: l)
 | asR {x n:Str} {i:Nat} {c:Value} {ts:SuT} {b₀:Stmt} {su:List Stmt} {np p:Pos} {hds:List ExceptHandler} {l:List (Value × Option Nat × SuT)} (hN:X.N.Nodup) (hi:X.N[i]?=some n) (hln:X.env.kindOf n=some .local) (hc:Names X x c)
   (hpa:∀ hd:Option Value,PassesOwnAt (model X.prog X.w) (X.A.mark hd) X.A X.env X.xe)
   (hsu:∀ (a:Addr) (oe:Obj) (cls:Value) (d:Option Addr) (pn:List (Addr × Obj)) (xe:Value→Shared→Prop),Zm X.mg cls d oe→(∃ vs,oe.data=.fields vs)→Takes (suiteR X a ((a,oe) :: pn) xe) (fun cls d σ H=>Wo cls d (σ.set i none) H)→PSs (suiteR X a ((a,oe) :: pn) xe) (b₀ :: su) (ts a cls d))
   (r:ClsOk X Wo hds l):ClsOk X Wo (.ExceptHandler (some (.Name x np)) (some n) (b₀ :: su) p :: hds) ((c,some i,ts) :: l)
section
variable {X:Cx} {body:List Stmt} {h₀:ExceptHandler} {hds:List ExceptHandler} {l:List (Value × Option Nat × SuT)} {pos:Pos} {tb:WX→TS} {Wout:WX}
theorem ps_try_cls (hs:X.stack=X.env :: X.outer) (hf:X.env.frame=some X.env.locals) (tk:Takes X Wout)
  (hb:∀ (W:WX) (pn:List (Addr × Obj)) (xe:Value→Shared→Prop),Takes (X.tr pn xe) W→PassesOwn (model X.prog X.w) X.A X.env xe→PSs (X.tr pn xe) body (tb W))
  (hh:ClsOk X Wout (h₀ :: hds) l):PS X (.Try body (h₀ :: hds) [] [] pos) (fun D σ H=>tb (wCls X.K Wout D l) D σ H):=by
 refine ⟨fun pins s σ H D I h=>?_⟩
 have ok:=I.ok
 have hfr:X.A.frames=some (X.env :: X.outer):=by rw [ok.frames,hs]
 refine wpAny_Try_except (wpAny_mono ((hb (wCls X.K Wout D l) (X.pn ++ pins) (fun e s₁=>wpAny (model X.prog X.w) X.A (noteFrame e X.env) (fun _ s₂=>wpAny (model X.prog X.w) X.A (setFlight e none) (fun _ s₃ =>
  wpAny (model X.prog X.w) X.A (handleBy e X.env (h₀ :: hds)) (SP X pins D) X.xe s₃) X.xe s₂) X.xe s₁) (.mk fun u s' xx=>?_) PassesOwn.looking).run [] s σ H D (I.toTry _) h) (fun f s1 hsp=>?_) (fun e s1 he=>he))
 · obtain ⟨a,B,sI,pins',σ',H',cls,d,⟨rfl,J'⟩,⟨nb,up⟩,⟨sky,na⟩,os,ag,w⟩:=xx
   have J:Inv X pins σ' H' sI:=J'.ofTry ok
   have sky':Sky B (X.env :: X.outer) a (Zm X.mg cls d) X.env.locals s'.heap:=by rw [← hs]; exact sky
   show wpAny (model X.prog X.w) X.A (noteFrame (.ref a) X.env) _ _ _
   refine L2N.Sky.land Zm.steady hfr hf sky' fun h3 fl3 up3=>?_
   have J3:Inv X pins σ' H' { s' with heap:=h3 }:=J.landed nb fl3.1 (up.trans up3) os ag
   obtain ⟨oe3,vs3,he3,hz3,hd3⟩:=fl3.there
   have nfr:a ∉ frs (X.env :: X.outer):=fun hm=>by
    obtain ⟨_,o',e',hnf⟩:=fl3.2.2.1.mem hm
    rw [he3] at e'; cases e'
    exact hnf _ hd3
   have nL:a ≠ X.env.locals:=fun z=>nfr (List.mem_filterMap.mpr ⟨X.env,List.mem_cons_self,by rw [hf,z]⟩)
   have nF:a ∉ X.fs:=fun hm=>by
    obtain ⟨e,he,q⟩:=List.mem_filterMap.mp hm
    exact nfr (List.mem_filterMap.mpr ⟨e,List.mem_cons_of_mem _ he,q⟩)
   have S3:=J3.suite he3 hd3 na nL nF
   have LT:PySem.W.Looks (model X.prog X.w) h3 (typeOf (.ref a)) cls:=fun A Q E s k q=>wpAny_typeOf_ref (k _ _ he3) (by rw [hz3.1]; exact q)
   have test:∀ {x:Str} {c:Value} {np:Pos} {Q:Value→Shared→Prop} {E:Value→Shared→Prop},Names X x c→Q c { s' with heap:=h3 }→wpAny (model X.prog X.w) (X.A.mark (some (.ref a))) (eval (.Name x np) X.env) Q E { s' with heap:=h3 }:=fun {x c np Q E} hc q=>by
    obtain ⟨hg,hdbg,hm | ⟨hm,hv,hnn⟩⟩:=hc
    · exact ld_glob (X:=X.suite a ((a,oe3) :: (X.pn ++ pins))) S3 hg hm q hdbg
    · exact ld_blt (X:=X.suite a ((a,oe3) :: (X.pn ++ pins))) S3 hg hm hv q hnn hdbg
   have go:∀ {hds':List ExceptHandler} {l':List (Value × Option Nat × SuT)},ClsOk X Wout hds' l'→wCls X.K Wout D l' cls d σ' H'→wpAny (model X.prog X.w) X.A (handleBy (.ref a) X.env hds') (SP X pins D) X.xe { s' with heap:=h3 }:=by
    intro hds' l' hk
    induction hk with
    | nil =>
     intro w
     refine wpAny_handleBy_nil ?_
     obtain ⟨k1,k2,k3,oe,vs,T,oT,ts',he,hz,hd,h1,hr⟩:=id fl3
     unfold PySem.passOn
     refine wpAny_bind (wpAny_field he hd h1 ?_)
     rw [if_neg (show ¬ ((Value.ref T == Value.none)=true) from by simp)]
     have fin:wpAny (model X.prog X.w) X.A (setFlight (.ref a) X.env.frame) (fun _ s4=>wpAny (model X.prog X.w) X.A (throw (.ref a):Sem Flow) (SP X pins D) X.xe s4) X.xe { s' with heap:=h3 }:=by
      rw [hf]
      exact HandSPX.setFlight_upZ fl3 fun h4 hh4 up4=>wpAny_throw (tk.at ⟨a,B,sI,pins,σ',H',cls,d,⟨rfl,J⟩,⟨nb,(up.trans up3).trans up4⟩,⟨.inr (.inr (by rw [hs]; exact hh4)),na⟩,os,ag,w⟩)
     first
      | exact wpAny_bind (wpAny_pure (wpAny_bind fin))
      | exact wpAny_bind fin
    | @one x c ts b₀ su np p hds2 l2 hc hsu r ih =>
     rintro ⟨b,hb1,hyes,hno⟩
     refine wpAny_handleBy_cons (codeAny_handlers_test (test hc ((PySem.W.exm_one (M:=model X.prog X.w) (J3.kIn) LT hb1).here ?_))) (by intro q; cases q)
     cases b with
     | true =>
      refine codeAny_handlers_suite (HandSPX.lands_againZ fl3 fun h4 fl4 up4=>?_)
      have J4:Inv X pins σ' H' { s' with heap:=h4 }:=J.landed nb fl4.1 ((up.trans up3).trans up4) os ag
      obtain ⟨oe4,vs4,he4,hz4,hd4⟩:=fl4.there
      refine wpAny_mono ((hsu a oe4 cls d (X.pn ++ pins) hz4.zc ⟨_,hd4⟩).run [] _ _ H' _ (J4.suite he4 hd4 na nL nF) (hyes rfl a na)) (fun f s6 hsp=>?_) (fun _ _ z=>False.elim z)
      cases f with
      | next=>obtain ⟨σ6,H6,S6,q6⟩:=hsp; exact ⟨_,_,S6.unsuite ok,q6⟩
      | brk=>obtain ⟨σ6,H6,S6,q6⟩:=hsp; exact ⟨_,_,S6.unsuite ok,q6⟩
      | cont=>obtain ⟨σ6,H6,S6,q6⟩:=hsp; exact ⟨_,_,S6.unsuite ok,q6⟩
      | ret u=>obtain ⟨v6,σ6,H6,S6,r6,q6⟩:=hsp; exact ⟨_,_,_,S6.unsuite ok,r6,q6⟩
     | false=>exact ih (hno rfl)
    | @as x n i c ts b₀ su np p hds2 l2 hN hi hln hc hsu r ih =>
     rintro ⟨b,hb1,hyes,hno⟩
     refine wpAny_handleBy_cons (codeAny_handlers_test (test hc ((PySem.W.exm_one (M:=model X.prog X.w) (J3.kIn) LT hb1).here ?_))) (by intro q; cases q)
     cases b with
     | true =>
      refine codeAny_handlers_suite_as (HandSPX.lands_againZ fl3 fun h4 fl4 up4=>?_)
      have J4:Inv X pins σ' H' { s' with heap:=h4 }:=J.landed nb fl4.1 ((up.trans up3).trans up4) os ag
      obtain ⟨oe4,vs4,he4,hz4,hd4⟩:=fl4.there
      have S4:=J4.suite he4 hd4 na nL nF
      refine store_ok (X:=X.suite a ((a,oe4) :: (X.pn ++ pins))) (v:=.ref a) S4 hN hi (.inl hln) rfl (fun s5 S5=>?_) (.inr hln)
      refine wpAny_mono ((hsu a oe4 cls d (X.pn ++ pins) hz4.zc ⟨_,hd4⟩).run [] s5 _ H' _ S5 (hyes rfl a na)) (fun f s6 hsp=>?_) (fun _ _ z=>False.elim z)
      have end_:∀ {σ6:St} {H6:Hp} {Q:Shared→Prop},Inv (X.suite a ((a,oe4) :: (X.pn ++ pins))) [] σ6 H6 s6→(∀ s7,Inv X pins (σ6.set i none) H6 s7→Q s7) →
        wpAny (model X.prog X.w) X.A (do bindName X.env n .none; unbindBehindTheSuite X.env n p) (fun _ s7=>Q s7) X.xe s6:=fun {σ6 H6 Q} S6 hq=>gone_ok (S6.unsuite ok) hN hi hln hq
      cases f with
      | next=>obtain ⟨σ6,H6,S6,q6⟩:=hsp; exact end_ S6 fun s7 J7=>⟨_,_,J7,q6⟩
      | brk=>obtain ⟨σ6,H6,S6,q6⟩:=hsp; exact end_ S6 fun s7 J7=>⟨_,_,J7,q6⟩
      | cont=>obtain ⟨σ6,H6,S6,q6⟩:=hsp; exact end_ S6 fun s7 J7=>⟨_,_,J7,q6⟩
      | ret u=>obtain ⟨v6,σ6,H6,S6,r6,q6⟩:=hsp; exact end_ S6 fun s7 J7=>⟨_,_,_,J7,r6,q6⟩
     | false=>exact ih (hno rfl)
    | @asR x n i c ts b₀ su np p hds2 l2 hN hi hln hc hpa hsu r ih =>
     rintro ⟨b,hb1,hyes,hno⟩
     refine wpAny_handleBy_cons (codeAny_handlers_test (test hc ((PySem.W.exm_one (M:=model X.prog X.w) (J3.kIn) LT hb1).here ?_))) (by intro q; cases q)
     cases b with
     | true =>
      refine codeAny_handlers_suite_as (HandSPX.lands_againZ fl3 fun h4 fl4 up4=>?_)
      have J4:Inv X pins σ' H' { s' with heap:=h4 }:=J.landed nb fl4.1 ((up.trans up3).trans up4) os ag
      obtain ⟨oe4,vs4,he4,hz4,hd4⟩:=fl4.there
      have S4:Inv (suiteR X a ((a,oe4) :: (X.pn ++ pins)) (goX X a n p)) [] σ' H' { s' with heap:=h4 }:=(J4.suite he4 hd4 na nL nF).wish _
      refine store_ok (X:=suiteR X a ((a,oe4) :: (X.pn ++ pins)) (goX X a n p)) (v:=.ref a) S4 hN hi (.inl hln) rfl (fun s5 S5=>?_) (.inr hln)
      refine wpAny_mono ((hsu a oe4 cls d (X.pn ++ pins) (goX X a n p) hz4 ⟨_,hd4⟩ (takes_suite tk ok hs hf hN hi hln hpa)).run [] s5 _ H' _ S5 (hyes rfl a na)) (fun f s6 hsp=>?_) (fun _ _ z=>z)
      have end_:∀ {σ6:St} {H6:Hp} {Q:Shared→Prop},Inv (suiteR X a ((a,oe4) :: (X.pn ++ pins)) (goX X a n p)) [] σ6 H6 s6→(∀ s7,Inv X pins (σ6.set i none) H6 s7→Q s7) →
        wpAny (model X.prog X.w) X.A (do bindName X.env n .none; unbindBehindTheSuite X.env n p) (fun _ s7=>Q s7) X.xe s6:=fun {σ6 H6 Q} S6 hq =>
       gone_ok (L2H.unsuiteX (show Inv (L2H.suiteX X a ((a,oe4) :: (X.pn ++ pins))) [] σ6 H6 s6 from S6.wish _) ok) hN hi hln hq
      cases f with
      | next=>obtain ⟨σ6,H6,S6,q6⟩:=hsp; exact end_ S6 fun s7 J7=>⟨_,_,J7,q6⟩
      | brk=>obtain ⟨σ6,H6,S6,q6⟩:=hsp; exact end_ S6 fun s7 J7=>⟨_,_,J7,q6⟩
      | cont=>obtain ⟨σ6,H6,S6,q6⟩:=hsp; exact end_ S6 fun s7 J7=>⟨_,_,J7,q6⟩
      | ret u=>obtain ⟨v6,σ6,H6,S6,r6,q6⟩:=hsp; exact end_ S6 fun s7 J7=>⟨_,_,_,J7,r6,q6⟩
     | false=>exact ih (hno rfl)
   exact go hh w
 · cases f with
   | next=>obtain ⟨σ',H',J',q⟩:=hsp; exact wpAny_execs_nil ⟨σ',H',J'.ofTry ok,q⟩
   | brk=>obtain ⟨σ',H',J',q⟩:=hsp; exact ⟨σ',H',J'.ofTry ok,q⟩
   | cont=>obtain ⟨σ',H',J',q⟩:=hsp; exact ⟨σ',H',J'.ofTry ok,q⟩
   | ret u=>obtain ⟨v,σ',H',J',r,q⟩:=hsp; exact ⟨v,σ',H',J'.ofTry ok,r,q⟩
end
end DL
namespace DL
open PySem L2
noncomputable def forP (F:XP→Option RS):Option RS:=open Classical in if h:∃ r,∀ p,F p=some r then some (Classical.choose h) else none
theorem forP_some {F:XP→Option RS} {r:RS} (h:forP F=some r) (p:XP):F p=some r:=by
 unfold forP at h
 split at h
 · rename_i q
   cases h
   exact Classical.choose_spec q p
 · cases h
theorem forP_ev {F:XP→Option RS} {r:RS} (h:∀ p,F p=some r):forP F=some r:=by
 have q:∃ r,∀ p,F p=some r:=⟨r,h⟩
 unfold forP
 rw [dif_pos q]
 have:=Classical.choose_spec q (0,.none,none)
 rw [h] at this
 exact this.symm
def setX (oi:Option Nat) (p:XP) (x:Exc) (ρ:Rho):Rho:=match oi with
 | none=>ρ
 | some i=>ρ.set i (.ex p x)
def unS (oi:Option Nat):Option RS→Option RS
 | some (.nx ρ ω)=>some (.nx (match oi with | none=>ρ | some i=>ρ.set i .no) ω)
 | some (.bk ρ ω)=>some (.bk (match oi with | none=>ρ | some i=>ρ.set i .no) ω)
 | some (.ct ρ ω)=>some (.ct (match oi with | none=>ρ | some i=>ρ.set i .no) ω)
 | some (.rt d ω)=>some (.rt d ω)
 | _=>none
abbrev Cls1:=List (Str × Bool) × Option Nat × (XP→MS)
noncomputable def catS:List Cls1→Exc→MS
 | [],x=>fun ρ ω=>some (.exc x ρ ω)
 | (T,oi,K) :: r,x=>fun ρ ω=>match T.lookup x.c with
  | none=>none
  | some true=>forP fun p=>unS oi (K p (setX oi p x ρ) ω)
  | some false=>catS r x ρ ω
noncomputable def tryS (F:MS) (cs:List Cls1):MS:=fun ρ ω=>match F ρ ω with
 | some (.exc x ρ' ω')=>catS cs x ρ' ω'
 | r=>r
def ExF (K:PySem.W.Frag) (mg:Str→Option Value) (cv:Value) (T:List (Str × Bool)):Prop:=∀ c b,T.lookup c=some b→∃ C,mg c=some C ∧ PySem.W.exmOne K C cv=some b
theorem exf_nil {K:PySem.W.Frag} {mg:Str→Option Value} {cv:Value}:ExF K mg cv []:=fun c b e=>by cases e
theorem exf_cons {K:PySem.W.Frag} {mg:Str→Option Value} {cv:Value} {c1:Str} {b1:Bool} {T:List (Str × Bool)} (h:∃ C,mg c1=some C ∧ PySem.W.exmOne K C cv=some b1) (t:ExF K mg cv T):ExF K mg cv ((c1,b1) :: T):=fun c' b' e=>by
 rw [List.lookup_cons] at e
 cases q:c' == c1 with
 | true =>
  rw [q] at e
  cases e
  rw [eq_of_beq q]; exact h
 | false=>rw [q] at e; exact t c' b' e
section
variable {g:G} {A:Ad} {B:Addr→Prop} {H H0:Hp} {ω:List Cell} {σ:St} {ρ:Rho}
theorem Slots.setX {i:Nat} {p:XP} {x:Exc} (h:Slots g H0 A B H σ ρ) (hx:XOk g A B H p.2.1 p.2.2 x):Slots g H0 A B H (σ.set i (some (.ref p.1))) (ρ.set i (.ex p x)):=by
 refine ⟨by simp [h.len],fun j s e=>?_,fun a b ds es q ea eb sa sb=>?_⟩
 · rcases getElem?_set_cases e with ⟨rfl,hi,rfl⟩ | ⟨ne,e⟩
   · exact ⟨by rw [List.getElem?_set_self (by rw [← h.len]; exact hi)],hx⟩
   · rw [List.getElem?_set_ne ne]
     exact h.val j s e
 · rcases getElem?_set_cases ea with ⟨_,_,z⟩ | ⟨na,ea⟩
   · cases z
   · rcases getElem?_set_cases eb with ⟨_,_,z⟩ | ⟨nb,eb⟩
     · cases z
     · rw [List.getElem?_set_ne na] at sa
       rw [List.getElem?_set_ne nb] at sb
       exact h.own a b ds es q ea eb sa sb
end
inductive CsOk (X:Cx) (n:En):List ExceptHandler→List Cls1→Prop
 | nil:CsOk X n [] []
 | one {x:Str} {c:Value} {T:List (Str × Bool)} {K:XP→MS} {b₀:Stmt} {su:List Stmt} {np p:Pos} {hds:List ExceptHandler} {l:List Cls1} (hc:Names X x c) (hT:ExF X.K X.mg c T)
   (hsu:∀ (a:Addr) (oe:Obj) (cls:Value) (d:Option Addr) (pn:List (Addr × Obj)),Zc cls d oe→(∃ vs,oe.data=.fields vs)→PSs (X.suite a ((a,oe) :: pn)) (b₀ :: su) (tS ⟨X.K,X.mg⟩ n W0 (K (a,cls,d)))) (r:CsOk X n hds l) :
   CsOk X n (.ExceptHandler (some (.Name x np)) none (b₀ :: su) p :: hds) ((T,none,K) :: l)
 | as {x nm:Str} {i:Nat} {c:Value} {T:List (Str × Bool)} {K:XP→MS} {b₀:Stmt} {su:List Stmt} {np p:Pos} {hds:List ExceptHandler} {l:List Cls1} (hN:X.N.Nodup) (hi:X.N[i]?=some nm) (hln:X.env.kindOf nm=some .local) (hc:Names X x c) (hT:ExF X.K X.mg c T)
   (hsu:∀ (a:Addr) (oe:Obj) (cls:Value) (d:Option Addr) (pn:List (Addr × Obj)),Zc cls d oe→(∃ vs,oe.data=.fields vs)→PSs (X.suite a ((a,oe) :: pn)) (b₀ :: su) (tS ⟨X.K,X.mg⟩ n W0 (K (a,cls,d)))) (r:CsOk X n hds l) :
   CsOk X n (.ExceptHandler (some (.Name x np)) (some nm) (b₀ :: su) p :: hds) ((T,some i,K) :: l)
section
variable {X:Cx} {n:En} {W:WX} {body:List Stmt} {h₀:ExceptHandler} {hds:List ExceptHandler} {cs:List Cls1} {F:MS} {pos:Pos}
theorem unS_back {oi:Option Nat} {o:Option RS} {r:RS} {g:G} {A:Ad} {B:Addr→Prop} {H:Hp} {D:Ends} (h:unS oi o=some r) (res:ResS g n W A B H D r):∃ r0,o=some r0 ∧ ResS g n W0 A B H (offD oi D) r0:=by
 cases o with
 | none=>cases h
 | some r0 =>
  refine ⟨r0,rfl,?_⟩
  cases oi with
  | none =>
   cases r0 with
   | exc x ρ ω=>cases h
   | nx ρ ω=>cases h; exact res
   | bk ρ ω=>cases h; exact res
   | ct ρ ω=>cases h; exact res
   | rt d ω=>cases h; exact res
  | some i =>
   cases r0 with
   | exc x ρ ω=>cases h
   | nx ρ ω=>cases h; exact fun σ' A' B' H' m s fm=>res (σ'.set i none) A' B' H' m s ⟨fm.wo,fm.sl.drop⟩
   | bk ρ ω=>cases h; exact fun σ' A' B' H' m s fm=>res (σ'.set i none) A' B' H' m s ⟨fm.wo,fm.sl.drop⟩
   | ct ρ ω=>cases h; exact fun σ' A' B' H' m s fm=>res (σ'.set i none) A' B' H' m s ⟨fm.wo,fm.sl.drop⟩
   | rt d ω=>cases h; exact res
theorem CsOk.cls {hs:List ExceptHandler} {cs:List Cls1} (h:CsOk X n hs cs):∃ l,ClsOk X W hs l ∧ ∀ (D:Ends) (x:Exc) (ρ':Rho) (ω':List Cell) (r:RS) (A:Ad) (B:Addr→Prop) (H:Hp),catS cs x ρ' ω'=some r→ResS ⟨X.K,X.mg⟩ n W A B H D r →
  ResS ⟨X.K,X.mg⟩ n (wCls X.K W D l) A B H D (.exc x ρ' ω'):=by
 induction h with
 | nil =>
  refine ⟨[],.nil,fun D x ρ' ω' r A B H e res=>?_⟩
  cases e
  exact res
 | @one x c T K b₀ su np p hds l hc hT hsu r ih =>
  obtain ⟨l',ok,q⟩:=ih
  refine ⟨(c,none,fun a cls d=>tS ⟨X.K,X.mg⟩ n W0 (K (a,cls,d))) :: l',.one hc hsu ok,fun D x ρ' ω' r A B H e res=>?_⟩
  intro cls dd σ' A' B' H' m st fm xo
  unfold catS at e
  cases hb:T.lookup x.c with
  | none=>simp only [hb] at e; cases e
  | some b =>
   obtain ⟨C,hC,hx⟩:=hT x.c b hb
   have:C=cls:=by
    have:=hC.symm.trans xo.1
    cases this; rfl
   subst this
   refine ⟨b,hx,fun eb a ha=>?_,fun eb=>?_⟩
   · subst eb
     simp only [hb] at e
     have e1:=forP_some e (a,C,dd)
     obtain ⟨r0,e2,r2⟩:=unS_back e1 (res.mv m)
     exact ⟨A',B',ρ',ω',r0,st,fm,e2,r2⟩
   · subst eb
     simp only [hb] at e
     exact q D x ρ' ω' r A B H e res C dd σ' A' B' H' m st fm xo
 | @as x nm i c T K b₀ su np p hds l hN hi hln hc hT hsu r ih =>
  obtain ⟨l',ok,q⟩:=ih
  refine ⟨(c,some i,fun a cls d=>tS ⟨X.K,X.mg⟩ n W0 (K (a,cls,d))) :: l',.as hN hi hln hc hsu ok,fun D x ρ' ω' r A B H e res=>?_⟩
  intro cls dd σ' A' B' H' m st fm xo
  unfold catS at e
  cases hb:T.lookup x.c with
  | none=>simp only [hb] at e; cases e
  | some b =>
   obtain ⟨C,hC,hx⟩:=hT x.c b hb
   have:C=cls:=by
    have:=hC.symm.trans xo.1
    cases this; rfl
   subst this
   refine ⟨b,hx,fun eb a ha=>?_,fun eb=>?_⟩
   · subst eb
     simp only [hb] at e
     have e1:=forP_some e (a,C,dd)
     obtain ⟨r0,e2,r2⟩:=unS_back e1 (res.mv m)
     exact ⟨A',B',ρ'.set i (.ex (a,C,dd) x),ω',r0,st,⟨fm.wo,fm.sl.setX (p:=(a,C,dd)) xo⟩,e2,r2⟩
   · subst eb
     simp only [hb] at e
     exact q D x ρ' ω' r A B H e res C dd σ' A' B' H' m st fm xo
theorem ds_try (hs:X.stack=X.env :: X.outer) (hf:X.env.frame=some X.env.locals) (tk:Takes X W)
  (hb:∀ (W':WX) (pn:List (Addr × Obj)) (xe:Value→Shared→Prop),Takes (X.tr pn xe) W'→PassesOwn (model X.prog X.w) X.A X.env xe→PSs (X.tr pn xe) body (tS ⟨X.K,X.mg⟩ n W' F)) (hh:CsOk X n (h₀ :: hds) cs) :
  PS X (.Try body (h₀ :: hds) [] [] pos) (tS ⟨X.K,X.mg⟩ n W (tryS F cs)):=by
 obtain ⟨l,ok,q⟩:=hh.cls (W:=W)
 refine (ps_try_cls hs hf tk hb ok).dl fun D σ H ⟨A,B,ρ,ω,r,s,fm,e,res⟩=>?_
 unfold tryS at e
 cases hF:F ρ ω with
 | none=>rw [hF] at e; cases e
 | some r0 =>
  refine ⟨A,B,ρ,ω,r0,s,fm,hF,?_⟩
  rw [hF] at e
  cases r0 with
  | exc x ρ' ω'=>exact q D x ρ' ω' r A B H e res
  | nx ρ' ω'=>cases e; exact res
  | rt d ω'=>cases e; exact res
  | bk ρ' ω'=>cases e; exact res
  | ct ρ' ω'=>cases e; exact res
end
section
variable {X:Cx} {n:En} {W:WX} {body:List Stmt} {F:MS} {pos:Pos} {x nm:Str} {i:Nat} {c:Value} {T:List (Str × Bool)} {K:XP→MS} {b₀:Stmt} {su:List Stmt} {np p:Pos}
end
structure XfF (K:PySem.W.Frag) (mg:Str→Option Value) (c f:Str):Prop where
 ex:∃ C,mg c=some (.ref C) ∧ XfC K C ∧ PySem.W.findIn K (.ref C) f=some none
theorem seqS_ex {F K:MS} {ρ ρ':Rho} {ω ω':List Cell} {x:Exc} (h:F ρ ω=some (.exc x ρ' ω')):seqS F K ρ ω=some (.exc x ρ' ω'):=by unfold seqS; rw [h]
theorem tryS_nx {F:MS} {cs:List Cls1} {ρ ρ':Rho} {ω ω':List Cell} (h:F ρ ω=some (.nx ρ' ω')):tryS F cs ρ ω=some (.nx ρ' ω'):=by unfold tryS; rw [h]
theorem tryS_ex {F:MS} {cs:List Cls1} {ρ ρ':Rho} {ω ω':List Cell} {x:Exc} (h:F ρ ω=some (.exc x ρ' ω')):tryS F cs ρ ω=catS cs x ρ' ω':=by unfold tryS; rw [h]
theorem catS_rt {T:List (Str × Bool)} {oi:Option Nat} {K:XP→MS} {r:List Cls1} {x:Exc} {ρ:Rho} {ω ω':List Cell} {d:D} (h:T.lookup x.c=some true) (hK:∀ p,K p (setX oi p x ρ) ω=some (.rt d ω')):catS ((T,oi,K) :: r) x ρ ω=some (.rt d ω'):=by
 show (match T.lookup x.c with | none=>none | some true=>_ | some false=>_)=_
 rw [h]
 exact forP_ev fun p=>by rw [hK p]; rfl
theorem bindS_ex {α:Type} {ρ:Rho} {ω ω1:List Cell} {f:M α} {s:α→MS} {x:Exc} (h:f ρ ω=some (.exc x ω1)):bindS f s ρ ω=some (.exc x ρ ω1):=by unfold bindS; rw [h]
end DL
namespace DL
open PySem L2
def CatF (K:PySem.W.Frag) (mg:Str→Option Value) (x:Str) (T:List (Str × Bool)):Prop:=∃ c,mg x=some c ∧ ExF K mg c T
section
variable {X:Cx} {n:En} {x nm:Str} {i:Nat} {T:List (Str × Bool)} {K:XP→MS} {b₀:Stmt} {su:List Stmt} {np p:Pos} {hds:List ExceptHandler} {l:List Cls1}
theorem cs_one (h:CatF X.K X.mg x T) (hg:Gl X x)
  (hsu:∀ (a:Addr) (oe:Obj) (cls:Value) (d:Option Addr) (pn:List (Addr × Obj)),Zc cls d oe→(∃ vs,oe.data=.fields vs)→PSs (X.suite a ((a,oe) :: pn)) (b₀ :: su) (tS ⟨X.K,X.mg⟩ n W0 (K (a,cls,d)))) (r:CsOk X n hds l) (hdb:(x == ("__debug__" : Str))=false:=by decide) :
  CsOk X n (.ExceptHandler (some (.Name x np)) none (b₀ :: su) p :: hds) ((T,none,K) :: l):=by
 obtain ⟨c,h1,h2⟩:=h
 exact .one ⟨hg,hdb,.inl h1⟩ h2 hsu r
end
structure FX (K:PySem.W.Frag) (mg:Str→Option Value) (c f qual:Str) (st:Stmt):Prop where
 ex:∃ C fI fd,mg c=some (.ref C) ∧ OexC K C ∧ PySem.W.findIn K (.ref C) "__init__" = some (some (.ref fI)) ∧ PySem.W.typeIn K (.ref fI)=some (.type "function") ∧ PySem.W.findIn K (.ref C) f=some none ∧ Fun K "__init__" qual st fI fd
theorem calX_of {P:Program} {w:World} {K:PySem.W.Frag} {mg:Str→Option Value} {base:Heap} {c f qual m:Str} {st:Stmt} {N ps:List Str} (T:FX K mg c f qual st) (S:FnScope N ps (defScope st)) (hN:N.length=2) (hps:ps.length=2) (b:∀ a fd,Fun K "__init__" qual st a fd→Binds K fd ps [])
  (h:∀ (fI:Addr) (cdv:Value) (A:Around) (outer:List PySem.Env) (s:Shared) (H:Hp) (E:XK),PSs (cxQ P w K mg base N qual (defScope st) fI cdv A outer s H E) (defBody st) (tSeq (tDrop (tVeI K (tCons (tVar 0) (tCons (tC (.str m)) tNil)))) (tOst K f (tVar 0) (tVar 1)))) :
  CalX P w K mg base c f ps 1:=by
 obtain ⟨C,fI,fd,h1,h2,h3,h4,h5,h6⟩:=T.ex
 refine ⟨C,fI,fd,h1,h2,h3,h4,b fI fd h6,fnq_of h6 S (fun vs H Q E ⟨a,v,e,_⟩=>by rw [e,hps]; rfl) fun cdv A outer s H vs Q E hr hs=>⟨_,h fI cdv A outer s H E,xi_ans h2 h5 hN hs⟩⟩
end DL
namespace DL
open PySem L2
section
variable {X:Cx} {g:G} {n:En} {W:WX} {e k:Expr} {f fk:M D} {pos:Pos}
def rgD (i j:Int):List D:=rangeD i (j - i).toNat
theorem rg_dp {A:Ad} {B:Addr→Prop} {H:Hp} (i j:Int):DpL g A B H (rgV i j) (rgD i j):=by
 unfold rgV rgD rangeD
 generalize (j - i).toNat=m
 have:∀ l:List Nat,DpL g A B H (l.map fun k=>V.int (i + (k:Nat))) (l.map fun k=>D.int (i + (k:Nat))):=by
  intro l
  induction l with
  | nil=>exact .nil
  | cons a l ih=>exact .cons (.int _) ih
 exact this _
instance (a b:Int):Decidable (RgOk a b):=by unfold RgOk; infer_instance
def rgL1 (d:D):M (List D):=fun _ ω=>match d with
 | .int j=>if RgOk 0 j then some (.val (rgD 0 j) ω) else none
 | _=>none
theorem dn_rg1 {p p1 p2:Pos} (hc:X.calm=true) (hg:Gl X "list") (hm:X.mg "list" = none) (hg2:Gl X "range") (hm2:X.mg "range" = none) (ha:PE X e (tM g rD W f)) (na:starEach [e] X.env=(false,eval e X.env) :: starEach [] X.env:=by rfl)
  (nb:starEach [.Call (.Name "range" p1) [e] [] p2] X.env=(false,eval (.Call (.Name "range" p1) [e] [] p2) X.env) :: starEach [] X.env:=by rfl):PE X (.Call (.Name "list" p) [.Call (.Name "range" p1) [e] [] p2] [] pos) (tN g W (f.bind rgL1)):=by
 refine (pe_listRg hc hg hm (prg_1 hg2 hm2 ha na) nb).dl fun σ H Q ⟨H0,A,B,ρ,ω,r,fm,e,res⟩=>?_
 refine tM_mono (tN_bind fm e res) fun x H1 ⟨A1,B1,ω1,d1,t1,fm1,r1,e1⟩=>?_
 unfold rgL1 at e1
 split at e1
 · rename_i j
   split at e1
   · rename_i ok
     cases e1
     cases r1
     exact ⟨j,rfl,ok,res.of t1 fm1.wo (rg_dp 0 j)⟩
   · cases e1
 · cases e1
theorem rgL1_nat {m:Nat} {ρ:Rho} {ω:List Cell} (h:m ≤ 16777216):rgL1 (.int (m:Int)) ρ ω=some (.val (rangeD 0 m) ω):=by
 unfold rgL1
 simp only
 rw [if_pos (RgOk.of_le (by omega) (by omega) (by omega) (by omega))]
 simp [rgD]
end
section
variable {m c:Str} {T:List (Str × Fn)} {o:D} {ds:List D} {ρ:Rho} {ω ω1 ω2 ω':List Cell} {fl:List (Str × D)} {Gf:Fn} {fo fi:M D} {fs:M (List D)} {x:Exc}
end
theorem notM_ev {t:M Bool} {b:Bool} {ρ:Rho} {ω ω1:List Cell} (h:t ρ ω=some (.val b ω1)):DL.notM t ρ ω=some (.val (!b) ω1):=by unfold DL.notM; rw [bind_ev h]; rfl
theorem orM_f {t u:M Bool} {ρ:Rho} {ω ω1 ω2:List Cell} {b:Bool} (h:t ρ ω=some (.val false ω1)) (h2:u ρ ω1=some (.val b ω2)):DL.orM t u ρ ω=some (.val b ω2):=by
 unfold DL.orM
 rw [bind_ev h]
 exact h2
theorem orM_t {t u:M Bool} {ρ:Rho} {ω ω1:List Cell} (h:t ρ ω=some (.val true ω1)):DL.orM t u ρ ω=some (.val true ω1):=by
 unfold DL.orM
 rw [bind_ev h]
 rfl
theorem andM_t {t u:M Bool} {ρ:Rho} {ω ω1 ω2:List Cell} {b:Bool} (h:t ρ ω=some (.val true ω1)) (h2:u ρ ω1=some (.val b ω2)):DL.andM t u ρ ω=some (.val b ω2):=by
 unfold DL.andM
 rw [bind_ev h]
 exact h2
theorem andM_f {t u:M Bool} {ρ:Rho} {ω ω1:List Cell} (h:t ρ ω=some (.val false ω1)):DL.andM t u ρ ω=some (.val false ω1):=by
 unfold DL.andM
 rw [bind_ev h]
 rfl
end DL
namespace DL
open PySem L2
structure StF (K:PySem.W.Frag) (mg:Str→Option Value) (c m:Str) (f:Addr):Prop where
 ex:∃ C p rest,mg c=some (.ref C) ∧ PySem.W.readsIn K C (.type "type")=true ∧ PySem.W.specialIn K (.ref C) "__getattribute__" = some (some (.builtin "type.__getattribute__")) ∧
  PySem.W.findCls K (.ref C) (.type "type") m=some (.get (.builtin "staticmethod.__get__") (.ref p) .none (.ref C)) ∧ PySem.W.recIn K p "staticmethod" = some (.ref f :: rest)
structure CalS (P:Program) (w:World) (K:PySem.W.Frag) (mg:Str→Option Value) (base:Heap) (c m:Str) (ps:List Str) (k:Nat) (Gf:Fn):Prop where
 ex:∃ f fd,StF K mg c m f ∧ PySem.W.keepIn K (.ref f)=true ∧ Binds K fd ps [] ∧ FnOk P w K mg base (CXm mg P w) k f fd ps (spD ⟨K,mg⟩ Gf)
theorem CalS.mono {P:Program} {w:World} {K:PySem.W.Frag} {mg:Str→Option Value} {base:Heap} {c m:Str} {ps:List Str} {k j:Nat} {Gf:Fn} (x:CalS P w K mg base c m ps k Gf) (h:k ≤ j):CalS P w K mg base c m ps j Gf:=by
 obtain ⟨f,fd,h1,h2,h3,h4⟩:=x.ex
 exact ⟨f,fd,h1,h2,h3,h4.mono h⟩
structure FS (K:PySem.W.Frag) (mg:Str→Option Value) (c m qual:Str) (st:Stmt):Prop where
 ex:∃ f fd,StF K mg c m f ∧ Fun K m qual st f fd
section
variable {X:Cx} {W:WX} {c m:Str} {p1 p2 pos:Pos} {e:Expr} {es:List Expr} {fs:M (List D)} {k j:Nat} {ps:List Str} {Gf:Fn}
end
section
variable {X:Cx} {g:G} {W:WX} {a b c:Expr} {fa fb fc:M D} {f f':D→D→Option D} {pos:Pos}
end
section
variable {X:Cx} {g:G} {W:WX} {e e2:Expr} {fa fb:M D} {p pos:Pos}
end
theorem store_lst {g:G} {A:Ad} {B:Addr→Prop} {H:Hp} {ω:List Cell} {p:Addr} {vs:List V} {ds:List D} (w:Wo g A B H ω) (hp:H p=some (.lst vs)) (l:DpL g A B H vs ds) (hb:B p) (nl:¬ Liv A p) :
  Wo g (A ++ [some p]) B H (ω ++ [.lst ds]) ∧ Mv A B H (A ++ [some p]) B H ∧ ∀ (A0:Ad) (B0:Addr→Prop) (H0:Hp),Stp A0 B0 H0 A B H→H0 p=none→Stp A0 B0 H0 (A ++ [some p]) B H:=by
 have ap:∀ (k:Nat) (x:Option Addr),A[k]?=some x→(A ++ [some p])[k]?=some x:=fun k x e=>by rw [List.getElem?_append_left (List.getElem?_eq_some_iff.mp e).1]; exact e
 have m:Mv A B H (A ++ [some p]) B H:=⟨fun a o n e=>⟨e,n⟩,fun k x e=>.inl (ap k x e),fun _ _ _ h=>h⟩
 refine ⟨⟨by simp [w.len],fun i j a ei ej=>?_,fun a z=>?_,w.bnd,fun k c e=>?_⟩,m,fun A0 B0 H0 s h0=>⟨s.keep,s.old,fun a z=>?_,fun k x e=>?_,s.trk,s.frz⟩⟩
 · have fix:∀ (i:Nat) (a:Addr),(A ++ [some p])[i]?=some (some a)→(A[i]?=some (some a)) ∨ (i=A.length ∧ a=p):=fun i a e=>by
    by_cases h:i < A.length
    · rw [List.getElem?_append_left h] at e; exact .inl e
    · rw [List.getElem?_append_right (Nat.le_of_not_lt h)] at e
      have hi:i - A.length=0:=by
       cases q:i - A.length with
       | zero=>rfl
       | succ n=>rw [q] at e; simp at e
      rw [hi] at e
      have:p=a:=by simpa using e
      exact .inr ⟨by omega,this.symm⟩
   rcases fix i a ei with h1 | ⟨h1,h2⟩
   · rcases fix j a ej with h3 | ⟨h3,h4⟩
     · exact w.inj i j a h1 h3
     · exact (nl (by rw [← h4]; exact Liv.of h1)).elim
   · rcases fix j a ej with h3 | ⟨h3,h4⟩
     · exact (nl (by rw [← h2]; exact Liv.of h3)).elim
     · rw [h1,h3]
 · rcases List.mem_append.mp z with z | z
   · exact w.liv a z
   · have:a=p:=by simpa using z
     rw [this]; exact hb
 · by_cases h:k < ω.length
   · rw [List.getElem?_append_left h] at e
     rcases w.cell k c e with ⟨h1,h2⟩ | ⟨a,h1,h2⟩
     · exact .inl ⟨h1,ap _ _ h2⟩
     · exact .inr ⟨a,ap _ _ h1,h2.mv m fun o e=>e⟩
   · rw [List.getElem?_append_right (Nat.le_of_not_lt h)] at e
     have hk:k - ω.length=0:=by
      cases q:k - ω.length with
      | zero=>rfl
      | succ n=>rw [q] at e; simp at e
     rw [hk] at e
     have ec:Cell.lst ds=c:=by simpa using e
     subst ec
     have ek:k=A.length:=by rw [w.len]; omega
     exact .inr ⟨p,by rw [ek]; simp,vs,hp,DpL.mv m _ _ l⟩
 · rcases List.mem_append.mp z with z | z
   · exact s.new a z
   · have:a=p:=by simpa using z
     exact .inr (by rw [this]; exact h0)
 · rcases s.ids k x e with q | q
   · exact .inl (ap _ _ q)
   · exact .inr (ap _ _ q)
def setN (i:Nat) (f:M (List D)):MS:=bindS f fun ds ρ ω=>some (.nx (ρ.set i (.fz (.oid ω.length))) (ω ++ [.lst ds]))
section
variable {X:Cx} {g:G} {n:En} {W:WX} {e:Expr} {f:M D} {fs:M (List D)} {pos:Pos}
theorem tN_setN {i:Nat} {D:Ends} {σ:St} {H:Hp} (h:tS g n W (setN i fs) D σ H):tN g W fs σ H fun x H1=>gName i x σ H1 D.nx:=by
 obtain ⟨A,B,ρ,ω,r,s,fm,e,res⟩:=h
 unfold setN bindS at e
 cases q:fs ρ ω with
 | none=>rw [q] at e; cases e
 | some z =>
  rw [q] at e
  cases z with
  | exc x ω' =>
   cases e
   exact ⟨n.H,A,B,ρ,ω,_,fm,q,fun cls dd A' B' H' t w x=>res cls dd σ A' B' H' (fm.wo.mv t) (s.trans t) (fm.up t w) x⟩
  | val ds ω' =>
   cases e
   refine ⟨n.H,A,B,ρ,ω,_,fm,q,fun p vs A' B' H' t w hp l hb nl h1=>?_⟩
   obtain ⟨w2,m2,s2⟩:=store_lst w hp l hb nl
   have st:=s2 n.A n.B n.H (s.trans t) (s.none h1)
   have t2:Stp A B H (A' ++ [some p]) B' H':=s2 A B H t h1
   refine res.next (fm.wo.mv t2) st ((fm.up t2 w2).setF (.oid ?_))
   rw [← w.len]
   simp
theorem ds_setN {i:Nat} {x:Str} {pos':Pos} (hN:X.N.Nodup) (he:PE X e (tN g W fs)) (hi:X.N[i]?=some x:=by rfl) (hx:Loc X.env.scope x:=by first | exact Or.inl rfl | exact Or.inr rfl) (hs:swapsWith e (some (.Name x pos')) pos.line X.env=pure false:=by rfl)
  (hf:X.fn x=true ∨ X.env.scope.names.lookup x=some .local:=by first | exact .inl rfl | exact .inr rfl | assumption):PS X (.Assign [.Name x pos'] e pos) (tS g n W (setN i fs)) :=
 (ps_set hN hi hx he hs hf).dl fun D σ H h=>tN_setN h
end
end DL
namespace DL
open PySem L2
structure CalG (P:Program) (w:World) (K:PySem.W.Frag) (mg:Str→Option Value) (base:Heap) (c:Str) (ps:List Str) (k:Nat) (Gf:Fn):Prop where
 ex:∃ C f fd,mg c=some (.ref C) ∧ Mk K C f ∧ Binds K fd ps [] ∧ FnOk P w K mg base (CXm mg P w) k f fd ps (spD ⟨K,mg⟩ Gf)
theorem calG_of {P:Program} {w:World} {K:PySem.W.Frag} {mg:Str→Option Value} {base:Heap} {c qual:Str} {st:Stmt} {ps:List Str} {k:Nat} {Gf:Fn} (T:FI K mg c qual st) (b:∀ a fd,Fun K "__init__" qual st a fd→Binds K fd ps [])
  (h:∀ a fd,Fun K "__init__" qual st a fd→FnOk P w K mg base (CXm mg P w) k a fd ps (spD ⟨K,mg⟩ Gf)):CalG P w K mg base c ps k Gf:=by
 obtain ⟨C,f,fd,h1,h2,F⟩:=T.ex
 exact ⟨C,f,fd,h1,h2,b f fd F,h f fd F⟩
noncomputable def mkG (c:Str) (Gf:Fn) (ds:List D):M D:=fun _ ω=>open Classical in match Gf (.oid ω.length :: ds) (ω ++ [.obj c []]) with
 | some (.val .non ω')=>if h:∃ fs,ω'=ω ++ [.obj c fs] ∧ noOF fs=true then some (.val (.obj c (Classical.choose h)) ω) else none
 | some (.exc x ω')=>if ∃ fs,ω'=ω ++ [.obj c fs] ∧ noOF fs=true ∧ noOF x.fs=true then some (.exc x ω) else none
 | _=>none
section
variable {X:Cx} {W:WX} {c x:Str} {p pos:Pos} {e:Expr} {es:List Expr} {fs:M (List D)} {k j:Nat} {ps:List Str} {Gf:Fn} {C f:Addr} {fd:FuncData} {sp:Sp}
theorem run_makeS {pins:List (Addr × Obj)} {σ:St} {H:Hp} {s:Shared} {Q:VK} {us:List Value} {vs:List V} (tk:Takes X W) (Mm:Mk X.K C f) (F:FnOk X.prog X.w X.K X.mg X.base (CXm X.mg X.prog X.w) k f fd ps sp) (hr:Room (k + 1) X.A) (hb:Binds X.K fd ps [])
  (I:Inv X pins σ H s) (r:Vals vs us) (h:∀ x dx,H x=none→H dx=none→dx ≠ x→sp (.ref x :: vs) (upd (upd H dx (.own x)) x (.ins C dx [])) (fun v H2=>v=.non ∧ Q (.ref x) H2) (WE W σ)) :
  wpAny (model X.prog X.w) X.A (call (.ref C) us) (EP X pins σ Q) X.xe s:=by
 have hq:=h (s.heap.objs.size + 1) s.heap.objs.size (I.hok.fresh (Nat.le_succ _)) (I.hok.fresh (Nat.le_refl _)) (Nat.ne_of_lt (Nat.lt_succ_self _))
 have I2:=Inv.made (C:=C) I
 have r2:Vals (V.ref (s.heap.objs.size + 1) :: vs) (Value.ref (s.heap.objs.size + 1) :: us):=.cons rfl r
 have hl:(Value.ref (s.heap.objs.size + 1) :: us ++ []).length=ps.length:=by
  rw [List.append_nil,← r2.length]
  exact F.len _ _ _ _ hq
 have bb:=hb _ (Value.ref (s.heap.objs.size + 1) :: us) I2.kIn hl
 rw [List.append_nil] at bb
 refine wpAny_call (make_map (f:=f) I.kIn Mm.makes Mm.init (beq_iff_eq.mp Mm.fn) (codeAny_mono (F.run _ X.stack _ _ ⟨Value.ref (s.heap.objs.size + 1) :: us,[]⟩ (Value.ref (s.heap.objs.size + 1) :: us) _ _ (WE W σ) (hr.make C us []) (I2.env0.make C us []) bb r2 hq) fun r s' hq'=>?_))
 cases r with
 | error e=>exact passAt tk σ pins _ _ e s' I2 hq'
 | ok fl =>
  cases fl with
  | ret u =>
   obtain ⟨v,H',I3,rv,ev,q3⟩:=I2.after hq'
   subst ev
   exact ⟨rv,⟨V.ref (s.heap.objs.size + 1),H',I3,rfl,q3⟩⟩
  | next=>exact False.elim hq'
  | brk=>exact False.elim hq'
  | cont=>exact False.elim hq'
def tMakeS (C:Addr) (sp:Sp) (W:WX) (t:TA):TE:=fun σ H Q=>t σ H fun vs H1=>∀ x dx,H1 x=none→H1 dx=none→dx ≠ x→sp (.ref x :: vs) (upd (upd H1 dx (.own x)) x (.ins C dx [])) (fun v H2=>v=.non ∧ Q (.ref x) H2) (WE W σ)
theorem pe_makeS {t:TA} (tk:Takes X W) (Mm:Mk X.K C f) (F:FnOk X.prog X.w X.K X.mg X.base (CXm X.mg X.prog X.w) k f fd ps sp) (hr:Room (k + 1) X.A) (hg:Gl X x) (hm:X.mg x=some (.ref C)) (hb:Binds X.K fd ps []) (ha:PA X (e :: es) t) (hdb:(x == ("__debug__" : Str))=false:=by decide)
  (he:starEach (e :: es) X.env=(false,eval e X.env) :: starEach es X.env:=by rfl) (hpl:(backTo pos (starEach es X.env)).any (·.1)=false:=by rfl):PE X (.Call (.Name x p) (e :: es) [] pos) (tMakeS C sp W t) :=
 ⟨fun pins s σ H Q I h=>wpAny_Call_Name_kw (ld_glob I hg hm (PySem.W.callWith_K (h₀:=X.base) I.ok.mod.kin Mm.kp (thn (ha.run pos pins s σ H _ I h) fun us s1 ⟨vs,H1,I1,r,q⟩=>⟨I1.kIn,run_makeS tk Mm F hr hb I1 r q⟩) he hpl) hdb)⟩
theorem XOk.cut {g:G} {A:Ad} {B B':Addr→Prop} {H:Hp} {cls:Value} {dd:Option Addr} {y:Exc} {n:Nat} (hB:∀ a,B' a→B a) (no:noOF y.fs=true) (h:XOk g A B H cls dd y):XOk g (A.take n) B' H cls dd y:=by
 obtain ⟨h1,⟨d,vs,h2,h3,h4,h5⟩ | h⟩:=h
 · exact ⟨h1,.inl ⟨d,vs,h2,fun z=>h3 (hB _ z),h4,DpF.cut hB _ _ (noOF_bel _ no) h5⟩⟩
 · exact ⟨h1,.inr h⟩
theorem tM_makeG (hC:X.mg c=some (.ref C)):∀ σ H Q,tM ⟨X.K,X.mg⟩ rD W (fs.bind (mkG c Gf)) σ H Q→tMakeS C (spD ⟨X.K,X.mg⟩ Gf) W (tM ⟨X.K,X.mg⟩ rL W fs) σ H Q:=by
 rintro σ H Q ⟨H0,A,B,ρ,ω,r,fm,e,res⟩
 refine tM_mono (tM_bind fm e res) fun vs H1 ⟨A1,B1,ω1,ds,t1,fm1,r1,e1,res1⟩=>?_
 intro y dy hy hd ne
 obtain ⟨st,wo⟩:=store_new (c:=c) fm1.wo hy hd ne hC
 have hlen:A1.length=ω1.length:=fm1.wo.len
 have hid:(A1 ++ [some y])[ω1.length]?=some (some y):=by rw [← hlen]; simp
 have keepId:∀ {A':Ad} {B':Addr→Prop} {H':Hp} {fl:List (Str × D)},Stp (A1 ++ [some y]) (fun a=>B1 a ∨ a=y) (upd (upd H1 dy (.own y)) y (.ins C dy [])) A' B' H'→Wo ⟨X.K,X.mg⟩ A' B' H' (ω1 ++ [.obj c fl])→A'[ω1.length]?=some (some y):=fun {A' B' H' fl} t w=>by
  rcases t.ids _ _ hid with z | z
  · exact z
  · rcases w.cell ω1.length (.obj c fl) (by simp) with ⟨z',_⟩ | ⟨a,h,_⟩
    · cases z'
    · rw [z] at h; cases h
 unfold mkG at e1
 cases q:Gf (.oid ω1.length :: ds) (ω1 ++ [.obj c []]) with
 | none=>simp only [q] at e1; cases e1
 | some z =>
  refine ⟨_,_,ω1 ++ [.obj c []],.oid ω1.length :: ds,z,wo,.cons (.oid hid) (DpL.mv (fm1.wo.mv st) _ _ r1),q,?_⟩
  cases z with
  | val d ω2 =>
   cases d with
   | non =>
    simp only [q] at e1
    split at e1
    · rename_i h
      cases e1
      obtain ⟨hw,no⟩:=Classical.choose_spec h
      intro v A' B' H' t w dp
      have ev:v=.non:=by cases dp; rfl
      rw [hw] at w
      obtain ⟨s9,w9,d9⟩:=store_take fm1.wo (st.trans t) w (keepId t w) hy no
      exact ⟨ev,res1 (.ref y) _ _ H' s9 w9 d9⟩
    · cases e1
   | _=>simp only [q] at e1; cases e1
  | exc x' ω2 =>
   simp only [q] at e1
   split at e1
   · rename_i h
     cases e1
     obtain ⟨fl,hw,no,nx⟩:=h
     intro cls dd A' B' H' t w xo
     rw [hw] at w
     obtain ⟨s9,w9,d9⟩:=store_take fm1.wo (st.trans t) w (keepId t w) hy no
     exact res1 cls dd _ _ H' s9 w9 (xo.cut (fun _ z=>z.1) nx)
   · cases e1
theorem de_makeG (tk:Takes X W) (cg:CalG X.prog X.w X.K X.mg X.base c ps k Gf) (hr:Room j X.A) (hj:k + 1 ≤ j) (hg:Gl X c) (ha:PA X (e :: es) (tM ⟨X.K,X.mg⟩ rL W fs)) (hdb:(c == ("__debug__" : Str))=false:=by decide)
  (he:starEach (e :: es) X.env=(false,eval e X.env) :: starEach es X.env:=by rfl) (hpl:(backTo pos (starEach es X.env)).any (·.1)=false:=by rfl):PE X (.Call (.Name c p) (e :: es) [] pos) (tM ⟨X.K,X.mg⟩ rD W (fs.bind (mkG c Gf))):=by
 obtain ⟨C,f,fd,h1,h2,h3,h4⟩:=cg.ex
 exact (pe_makeS tk h2 h4 (hr.mono hj) hg h1 h3 ha hdb he hpl).dl (tM_makeG h1)
end
theorem mkG_ev {c:Str} {Gf:Fn} {fs:M (List D)} {ds:List D} {fl:List (Str × D)} {ρ:Rho} {ω ω1:List Cell} (ha:fs ρ ω=some (.val ds ω1)) (h:Gf (.oid ω1.length :: ds) (ω1 ++ [.obj c []])=some (.val .non (ω1 ++ [.obj c fl]))) (no:noOF fl=true):(fs.bind (mkG c Gf)) ρ ω=some (.val (.obj c fl) ω1):=by
 rw [bind_ev ha]
 unfold mkG
 simp only [h]
 have q:∃ fs,ω1 ++ [Cell.obj c fl]=ω1 ++ [.obj c fs] ∧ noOF fs=true:=⟨fl,rfl,no⟩
 rw [dif_pos q]
 have e:=(Classical.choose_spec q).1
 have e2:=List.append_cancel_left e
 simp only [List.cons.injEq,Cell.obj.injEq,true_and,and_true] at e2
 rw [← e2]
theorem law_fnE {P:Program} {w:World} {K:PySem.W.Frag} {mg:Str→Option Value} {base:Heap} {f:Addr} {fd:FuncData} {y:Str} {k:Nat} {Gf:Fn} (F:FnOk P w K mg base CX0 k f fd [y] (spD ⟨K,mg⟩ Gf)) (h:∀ ns:List Int,ns.length ≤ 63→∃ ω',Gf [.scr ns] []=some (.val (.bl true) ω')):FnOk P w K mg base CX0 k f fd [y] (spLaw K):=by
 refine F.imp fun vs H Q E ⟨b,ns,e,s,l,q⟩=>?_
 subst e
 obtain ⟨ω',hg⟩:=h ns l
 refine ⟨[],fun _=>False,[],[.scr ns],_,wo0,.cons ?_ .nil,hg,fun v A' B' H' t w dp=>?_⟩
 · rcases s with s | s
   · exact .scr (fun z=>z) s
   · exact .scrK s
 · cases dp
   exact q H'
end DL
namespace DL
open PySem L2
section
variable {fa fb fc:M D} {ρ:Rho} {ω ω1 ω2 ω3:List Cell} {d:D}
theorem andV_t (h:fa ρ ω=some (.val (.bl true) ω1)):andV fa fb ρ ω=fb ρ ω1:=by unfold andV; rw [bind_ev (bind_ev h)]; rfl
theorem andV_f (h:fa ρ ω=some (.val (.bl false) ω1)):andV fa fb ρ ω=some (.val (.bl false) ω1):=by unfold andV; rw [bind_ev (bind_ev h)]; rfl
theorem orV_t (h:fa ρ ω=some (.val (.bl true) ω1)):orV fa fb ρ ω=some (.val (.bl true) ω1):=by unfold orV; rw [bind_ev (bind_ev h)]; rfl
theorem orV_f (h:fa ρ ω=some (.val (.bl false) ω1)):orV fa fb ρ ω=fb ρ ω1:=by unfold orV; rw [bind_ev (bind_ev h)]; rfl
theorem notV_ev {b:Bool} (h:fa ρ ω=some (.val (.bl b) ω1)):notV fa ρ ω=some (.val (.bl !b) ω1):=by unfold notV; rw [bind_ev (bind_ev h)]; rfl
theorem andV_ev {b c:Bool} (h:fa ρ ω=some (.val (.bl b) ω)) (h2:fb ρ ω=some (.val (.bl c) ω)):andV fa fb ρ ω=some (.val (.bl (b && c)) ω):=by
 cases b with
 | true=>rw [andV_t h,h2]; rfl
 | false=>rw [andV_f h]; rfl
theorem orV_ev {b c:Bool} (h:fa ρ ω=some (.val (.bl b) ω)) (h2:fb ρ ω=some (.val (.bl c) ω)):orV fa fb ρ ω=some (.val (.bl (b || c)) ω):=by
 cases b with
 | true=>rw [orV_t h]; rfl
 | false=>rw [orV_f h,h2]; rfl
theorem orM_ev {t u:M Bool} {b c:Bool} (h:t ρ ω=some (.val b ω)) (h2:u ρ ω=some (.val c ω)):DL.orM t u ρ ω=some (.val (b || c) ω):=by
 cases b with
 | true=>exact orM_t h
 | false=>exact orM_f h h2
end
theorem eqD_int (i j:Int):eqD (.int i) (.int j)=some (.bl (decide (i=j))):=by
 rw [eqD_fine rfl rfl]
 by_cases h:i=j <;> simp [eqb,h]
theorem neD_int (i j:Int):neD (.int i) (.int j)=some (.bl !(decide (i=j))):=by
 rw [neD_fine rfl rfl]
 by_cases h:i=j <;> simp [eqb,h]
theorem exprS_ev {f:M D} {d:D} {ρ:Rho} {ω ω1:List Cell} (h:f ρ ω=some (.val d ω1)):exprS f ρ ω=some (.nx ρ ω1):=by unfold exprS; rw [bindS_ev h]
theorem exprS_ex {f:M D} {x:Exc} {ρ:Rho} {ω ω1:List Cell} (h:f ρ ω=some (.exc x ω1)):exprS f ρ ω=some (.exc x ρ ω1):=by unfold exprS; rw [bindS_ex h]
theorem setS_ex {f:M D} {i:Nat} {x:Exc} {ρ:Rho} {ω ω1:List Cell} (h:f ρ ω=some (.exc x ω1)):setS i f ρ ω=some (.exc x ρ ω1):=by unfold setS; rw [bindS_ex h]
theorem calM_ex {Gf:Fn} {fs:M (List D)} {ds:List D} {x:Exc} {ρ:Rho} {ω ω1 ω':List Cell} (ha:fs ρ ω=some (.val ds ω1)) (h:Gf ds ω1=some (.exc x ω')):calM Gf fs ρ ω=some (.exc x ω'):=by
 unfold calM
 rw [bind_ev ha]
 exact h
end DL
namespace DL
open PySem L2
open PyProof.Rows hiding St
def addNew {K:Type} [DecidableEq K] (acc:List K) (k:K):List K:=if k ∈ acc then acc else acc ++ [k]
def unlike {K:Type} [DecidableEq K] (ks:List K):List K:=ks.foldl addNew []
section
variable {K:Type} [DecidableEq K]
end
section
variable {prog:Program} {w:World} {K:Type} [DecidableEq K] (knd:KeyKind prog w K)
end
end DL
namespace DL
open PySem L2
section
variable {X:Cx} {g:G} {W:WX} {e:Expr} {lo hi:Option Expr} {f:M D} {fl fh:M (Option Int)} {pos p2:Pos}
theorem ResN.up {A A1:Ad} {B B1:Addr→Prop} {H H1:Hp} {σ:St} {Q:VK} {r:R (List D)} (res:ResN g W σ A B H Q r) (t1:Stp A B H A1 B1 H1):ResN g W σ A1 B1 H1 Q r:=by
 cases r with
 | val ds ω'=>exact fun p vs A' B' H' t w h1 h2 h3 h4 h5=>res p vs A' B' H' (t1.trans t) w h1 h2 h3 h4 (t1.none h5)
 | exc x ω'=>exact fun cls dd A' B' H' t=>res cls dd A' B' H' (t1.trans t)
end
end DL
namespace DL
open PySem L2
section
variable {X:Cx} {g:G} {W:WX} {e:Expr} {fa:M D} {p pos:Pos}
end
end DL
namespace DL
open PySem L2
section
variable {F K A B:MS} {ρ ρ' ρ1:Rho} {ω ω' ω1 ω2:List Cell} {r:Option RS} {f fa fb:M D} {fs:M (List D)} {d:D} {ds es xs:List D} {i:Nat} {t u:M Bool} {b c:Bool}
theorem y_bind {α β:Type} {f:M α} {k:α→M β} {a:α} {r:Option (R β)} (h:f ρ ω=some (.val a ω1)) (h2:k a ρ ω1=r):(f.bind k) ρ ω=r:=(bind_ev h).trans h2
theorem y_ifT {α:Type} {x y:M α} {r:Option (R α)} (h:t ρ ω=some (.val b ω1)) (hb:b=true) (k:x ρ ω1=r):DL.ifM t x y ρ ω=r:=by
 subst hb; unfold DL.ifM; rw [bind_ev h]; exact k
theorem y_ifF {α:Type} {x y:M α} {r:Option (R α)} (h:t ρ ω=some (.val b ω1)) (hb:b=false) (k:y ρ ω1=r):DL.ifM t x y ρ ω=r:=by
 subst hb; unfold DL.ifM; rw [bind_ev h]; exact k
end
theorem ltD_d (i j:Int):ltD (.int i) (.int j)=some (.bl (decide (i < j))):=rfl
theorem gtD_d (i j:Int):gtD (.int i) (.int j)=some (.bl (decide (j < i))):=rfl
theorem geD_d (i j:Int):geD (.int i) (.int j)=some (.bl (decide (j ≤ i))):=rfl
theorem addD_int (i j:Int):addD (.int i) (.int j)=some (.int (i + j)):=rfl
theorem intD_int (i:Int):intD (.int i)=some (.int i):=rfl
theorem intD_bl (b:Bool):intD (.bl b)=some (.int (if b then 1 else 0)):=by cases b <;> rfl
theorem fldD_ev {cs:List Str} {c f:Str} {fl:List (Str × D)} {d:D} (hc:cs.contains c=true) (hl:fl.lookup f=some d):fldD cs f (.obj c fl)=some d:=by show (if _ then _ else _)=_; rw [if_pos hc,hl]
theorem addD_tup {xs ys:List D} (h:xs.length + ys.length ≤ 1000):addD (.tup xs) (.tup ys)=some (.tup (xs ++ ys)):=if_pos (by rw [sizeLine_eq]; omega)
section
variable {X:Cx} {g:G} {e:Expr} {es:List Expr} {T:TT1} {Ts:TTs} {is js:List Nat} {pos:Pos}
end
end DL
namespace GQB
open PySem PySem.SeqAt
open AutoSeq1 (wpAny_loadPart')
open MeetsSeq MeetsSeq2 MeetsSeq3 SeqRoads2 GQ
section
variable {prog:Program} {w:World} {A:Around} {R:Result→Shared→Prop}
end
end GQB
namespace DL
open PySem L2
mutual
def shp (cs:List Str):D→Bool
 | .non=>true
 | .bl _=>true
 | .int _=>true
 | .str _=>true
 | .tup xs=>shpL cs xs
 | .lst xs=>shpL cs xs
 | .obj c fs=>decide (c ∈ cs) && shpF cs fs
 | .dic _=>false
 | .oid _=>false
 | .scr _=>false
 | .exc _ _=>false
def shpL (cs:List Str):List D→Bool
 | []=>true
 | d :: ds=>shp cs d && shpL cs ds
def shpF (cs:List Str):List (Str × D)→Bool
 | []=>true
 | (_,d) :: ds=>shp cs d && shpF cs ds
end
mutual
def ht:D→Nat
 | .tup xs=>htL xs + 1
 | .lst xs=>htL xs + 1
 | .non=>0
 | .bl _=>0
 | .int _=>0
 | .str _=>0
 | .dic _=>0
 | .obj _ _=>0
 | .oid _=>0
 | .scr _=>0
 | .exc _ _=>0
def htL:List D→Nat
 | []=>0
 | d :: ds=>max (ht d) (htL ds)
end
section
open Classical
mutual
noncomputable def eqv (T:List (Str × Fn)) (ω:List Cell):D→D→Option Bool
 | .tup xs,.tup ys=>eqvL T ω xs ys
 | .lst xs,.lst ys=>if xs.length=ys.length then eqvL T ω xs ys else some false
 | .obj c fs,.obj c' gs=>if c=c' then (match T.lookup c with
   | some Gf=>(match Gf [.obj c fs,.obj c' gs] ω with
    | some (.val (.bl b) ω')=>if ω'=ω ∧ (fs=gs→b=true) then some b else none
    | _=>none)
   | none=>none) else none
 | x,y=>if (flat x && flat y)=true then some (eqb x y) else none
noncomputable def eqvL (T:List (Str × Fn)) (ω:List Cell):List D→List D→Option Bool
 | [],[]=>some true
 | [],_ :: _=>some false
 | _ :: _,[]=>some false
 | x :: xs,y :: ys=>match eqv T ω x y with
  | some true=>eqvL T ω xs ys
  | r=>r
end
end
section
variable {X:Cx} {pins:List (Addr × Obj)} {σ:St} {H:Hp} {s:Shared} {A:Ad} {B:Addr→Prop} {cs:List Str}
theorem kt_free (I:Inv X pins σ H s) {a:Addr} {vs:List V} (h:KT X.K a vs):H a=none:=by
 obtain ⟨o,its,n,hk,_⟩:=h
 exact (I.bs a o (I.ok.mod.kin a o hk)).2
theorem kt_inj (I:Inv X pins σ H s) {a:Addr} {vs vs':List V} (h:KT X.K a vs) (h':KT X.K a vs'):vs=vs':=I.tuple_inj (.inr h) (.inr h')
def InjC (mg:Str→Option Value) (cs:List Str):Prop:=∀ c ∈ cs,∀ c' ∈ cs,∀ C,mg c=some (.ref C)→mg c'=some (.ref C)→c=c'
mutual
theorem Dp.inj (I:Inv X pins σ H s) (hi:InjC X.mg cs):∀ (d d':D) (v:V),shp cs d=true→shp cs d'=true→Dp ⟨X.K,X.mg⟩ A B H v d→Dp ⟨X.K,X.mg⟩ A B H v d'→d=d'
 | .non,d',v,z,z',h,h'=>by cases h; cases h' <;> first | rfl | cases z'
 | .bl b,d',v,z,z',h,h'=>by cases h; cases h' <;> first | rfl | cases z'
 | .int i,d',v,z,z',h,h'=>by cases h; cases h' <;> first | rfl | cases z'
 | .str x,d',v,z,z',h,h'=>by cases h; cases h' <;> first | rfl | cases z'
 | .tup ds,d',v,z,z',h,h'=>by
  cases h with
  | tup n r l =>
   cases h' with
   | tup n' r' l' =>
    rw [r] at r'; cases r'
    rw [DpL.injL I hi ds _ _ z z' l l']
   | tupK k l'=>rw [kt_free I k] at r; cases r
   | lst n' r' l'=>rw [r] at r'; cases r'
   | obj n' r' q l'=>rw [r] at r'; cases r'
   | _=>cases z'
  | tupK k l =>
   cases h' with
   | tup n' r' l'=>rw [kt_free I k] at r'; cases r'
   | tupK k' l' =>
    have:=kt_inj I k k'
    subst this
    rw [DpL.injL I hi ds _ _ z z' l l']
   | lst n' r' l'=>rw [kt_free I k] at r'; cases r'
   | obj n' r' q l'=>rw [kt_free I k] at r'; cases r'
   | _=>cases z'
 | .lst ds,d',v,z,z',h,h'=>by
  cases h with
  | lst n r l =>
   cases h' with
   | tup n' r' l'=>rw [r] at r'; cases r'
   | tupK k l'=>rw [kt_free I k] at r; cases r
   | lst n' r' l' =>
    rw [r] at r'; cases r'
    rw [DpL.injL I hi ds _ _ z z' l l']
   | obj n' r' q l'=>rw [r] at r'; cases r'
   | _=>cases z'
 | .obj c fs,d',v,z,z',h,h'=>by
  simp only [shp,Bool.and_eq_true,decide_eq_true_eq] at z
  cases h with
  | obj n r q l =>
   cases h' with
   | tup n' r' l'=>rw [r] at r'; cases r'
   | tupK k l'=>rw [kt_free I k] at r; cases r
   | lst n' r' l'=>rw [r] at r'; cases r'
   | obj n' r' q' l' =>
    simp only [shp,Bool.and_eq_true,decide_eq_true_eq] at z'
    rw [r] at r'; cases r'
    have:=hi _ z.1 _ z'.1 _ q q'
    subst this
    rw [DpF.injF I hi fs _ _ z.2 z'.2 l l']
   | _=>cases z'
 | .dic _,_,_,z,_,_,_=>by cases z
 | .oid _,_,_,z,_,_,_=>by cases z
 | .scr _,_,_,z,_,_,_=>by cases z
 | .exc _ _,_,_,z,_,_,_=>by cases z
theorem DpL.injL (I:Inv X pins σ H s) (hi:InjC X.mg cs):∀ (ds ds':List D) (vs:List V),shpL cs ds=true→shpL cs ds'=true→DpL ⟨X.K,X.mg⟩ A B H vs ds→DpL ⟨X.K,X.mg⟩ A B H vs ds'→ds=ds'
 | [],ds',vs,_,_,h,h'=>by cases h; cases h'; rfl
 | d :: ds,ds',vs,z,z',h,h'=>by
  cases h with
  | cons h1 h2 =>
   cases h' with
   | cons h1' h2' =>
    simp only [shpL,Bool.and_eq_true] at z z'
    rw [Dp.inj I hi d _ _ z.1 z'.1 h1 h1',DpL.injL I hi ds _ _ z.2 z'.2 h2 h2']
theorem DpF.injF (I:Inv X pins σ H s) (hi:InjC X.mg cs):∀ (ds ds':List (Str × D)) (vs:List (Str × V)),shpF cs ds=true→shpF cs ds'=true→DpF ⟨X.K,X.mg⟩ A B H vs ds→DpF ⟨X.K,X.mg⟩ A B H vs ds'→ds=ds'
 | [],ds',vs,_,_,h,h'=>by cases h; cases h'; rfl
 | (k,d) :: ds,ds',vs,z,z',h,h'=>by
  cases h with
  | cons h1 h2 =>
   cases h' with
   | cons h1' h2' =>
    simp only [shpF,Bool.and_eq_true] at z z'
    rw [Dp.inj I hi d _ _ z.1 z'.1 h1 h1',DpF.injF I hi ds _ _ z.2 z'.2 h2 h2']
end
end
section
variable {X:Cx} {W:WX} {T:List (Str × Fn)} {cs:List Str} {k:Nat}
end
end DL
namespace DL
open PySem L2
section
variable {ds:List D} {ρ:Rho} {ω ω1 ω2 ω':List Cell} {k lo hi:Int}
end
theorem neD_same {x:D} (h:fine x=true):neD x x=some (.bl false):=by
 rw [neD_fine h h,eqb_refl x (fine_iff.mp h).1]
 rfl
theorem lookup_one {c:Str} {α:Type} {x:α}:List.lookup c [(c,x)]=some x:=by simp
section
variable {m c:Str} {T:List (Str × Fn)} {d:D} {ρ:Rho} {ω ω1 ω2 ω':List Cell} {fl gl:List (Str × D)} {Gf:Fn} {fa fb:M D}
end
section
variable {F K:MS} {ρ ρ':Rho} {ω:List Cell} {r:Option RS} {ds:List D} {d:D} {i:Nat}
theorem z_frzO (hi:ρ[i]?=some (.ow ds)) (s:ρ.set i (.fz (.lst ds))=ρ') (k:F ρ' ω=r):frz i F ρ ω=r:=by unfold frz; rw [hi]; subst s; exact k
theorem z_frzOS (hi:ρ[i]?=some (.ow ds)) (s:ρ.set i (.fz (.lst ds))=ρ') (k:seqS F K ρ' ω=r):seqS (frz i F) K ρ ω=r:=by
 rw [← k]; unfold seqS frz; rw [hi]; subst s; rfl
end
theorem lenD_lstM {α:Type} {xs:List α} {f:α→D}:lenD (.lst (xs.map f))=some (.int xs.length):=by show some (D.int (xs.map f).length)=_; rw [List.length_map]
theorem lenD_tupM {α:Type} {xs:List α} {f:α→D}:lenD (.tup (xs.map f))=some (.int xs.length):=by show some (D.int (xs.map f).length)=_; rw [List.length_map]
section
variable {m c:Str} {T:List (Str × Fn)} {x y d:D} {ρ:Rho} {ω ω1 ω2 ω':List Cell} {fl gl:List (Str × D)} {Gf:Fn} {fa fb:M D} {e:Exc}
end
end DL
namespace DL
open PySem L2
section
variable {X:Cx} {g:G} {W:WX} {e a b:Expr} {p pos apos:Pos} {fa fb:M D}
end
end DL
namespace PySem.W
open PySem
section
variable {prog:Program} {w:World} {A:Around} {E:Value→Shared→Prop} {s:Shared} {K:Frag} {x y C L f:Addr} {h₀:Heap} {m:Str→Option Value} {ox oy:Obj} {od od':Option Obj} {name:Str}
end
end PySem.W
namespace DL
open PySem L2
section
variable {X:Cx} {W:WX} {a b:Expr} {fa fb:M D} {k j:Nat} {T:List (Str × Fn)} {pos:Pos}
theorem Room.u1 {k:Nat} {A:Around} (hr:Room k A):A.units + 1 < cLine:=by have:=hr.un; omega
end
section
variable {c:Str} {ρ:Rho} {ω ω1 ω2 ω':List Cell} {fl gl:List (Str × D)} {Gf:Fn} {fa fb:M D} {b:Bool}
end
end DL
namespace DL
open PySem L2
section
variable {X:Cx} {g:G} {W:WX} {e o:Expr} {p pos apos:Pos} {fa fo:M D}
end
section
variable {X:Cx} {g:G} {W:WX} {n:En} {o:Expr} {f:Str} {cs:List Str} {pos tpos p1:Pos} {fo:M D} {i:Int} {j:Nat}
end
end DL
namespace DL
open PySem L2
section
variable {X:Cx} {g:G} {W:WX} {e:Expr} {p pos tp p1 p2:Pos}
end
end DL
namespace DL
open PySem L2
section
variable {X:Cx} {W:WX} {a b:Expr} {fa fb:M D} {k j:Nat} {T:List (Str × Fn)} {pos:Pos}
end
section
variable {X:Cx} {W:WX} {n:En} {o i e:Expr} {fo fi fv:M D} {k j:Nat} {T:List (Str × Fn)} {pos p2:Pos} {to ti:TE}
end
end DL
namespace DL
open PySem L2
def keyD:D→Option Key
 | .int i=>some (.inl i)
 | .str x=>some (.inr x)
 | _=>none
theorem keyD_V {g:G} {A:Ad} {B:Addr→Prop} {H:Hp} {d:D} {v:V} {k:Key} (e:keyD d=some k) (h:Vw g A B H v d):v=kV k:=by
 cases d with
 | int i=>cases e; exact h
 | str x=>cases e; exact h
 | _=>cases e
theorem keyD_P {g:G} {A:Ad} {B:Addr→Prop} {H:Hp} {d:D} {v:V} {k:Key} (e:keyD d=some k) (h:Dp g A B H v d):v=kV k:=by
 cases d with
 | int i=>cases e; cases h; rfl
 | str x=>cases e; cases h; rfl
 | _=>cases e
def valD (kvs:List (Key × D)) (k:Key):Option D:=(kvs.find? fun kv=>decide (kv.1=k)).map (·.2)
def putKD (kvs:List (Key × D)) (k:Key) (v:D):List (Key × D) :=
 if (kvs.any fun kv=>decide (kv.1=k))=true then kvs.map (fun kv=>if kv.1=k then (kv.1,v) else kv) else kvs ++ [(k,v)]
theorem valD_cons (p:Key × D) (r:List (Key × D)) (k:Key):valD (p :: r) k=if p.1=k then some p.2 else valD r k:=by
 by_cases h:p.1=k
 · simp [valD,List.find?_cons,h]
 · simp [valD,List.find?_cons,h]
section
variable {g:G} {A:Ad} {B:Addr→Prop} {H:Hp}
theorem DpK.val:∀ {ds:List (Key × D)} {vs:List (Key × V)} (k:Key),DpK g A B H vs ds→(valD ds k=none ∧ valV vs k=none) ∨ ∃ d v,valD ds k=some d ∧ valV vs k=some v ∧ Dp g A B H v d
 | [],_,k,h=>by cases h; exact .inl ⟨rfl,rfl⟩
 | (k',d) :: ds,_,k,h=>by
  cases h with
  | @cons _ v vs _ _ h1 h2 =>
   by_cases e:k'=k
   · exact .inr ⟨d,v,by rw [valD_cons,if_pos e],by rw [valV_pos (p:=(k',v)) e],h1⟩
   · rcases DpK.val k h2 with ⟨a,b⟩ | ⟨d',v',a,b,c⟩
     · exact .inl ⟨by rw [valD_cons,if_neg e]; exact a,by rw [valV_neg (p:=(k',v)) e]; exact b⟩
     · exact .inr ⟨d',v',by rw [valD_cons,if_neg e]; exact a,by rw [valV_neg (p:=(k',v)) e]; exact b,c⟩
theorem DpK.len:∀ {ds:List (Key × D)} {vs:List (Key × V)},DpK g A B H vs ds→vs.length=ds.length
 | [],_,h=>by cases h; rfl
 | _ :: ds,_,h=>by cases h with | cons h1 h2=>simp [DpK.len h2]
theorem DpK.keys:∀ {ds:List (Key × D)} {vs:List (Key × V)},DpK g A B H vs ds→vs.map (·.1)=ds.map (·.1)
 | [],_,h=>by cases h; rfl
 | _ :: ds,_,h=>by cases h with | cons h1 h2=>simp [DpK.keys h2]
theorem DpK.append:∀ {ds es:List (Key × D)} {vs ws:List (Key × V)},DpK g A B H vs ds→DpK g A B H ws es→DpK g A B H (vs ++ ws) (ds ++ es)
 | [],es,_,ws,h,k=>by cases h; exact k
 | _ :: ds,es,_,ws,h,k=>by cases h with | cons h1 h2=>exact .cons h1 (DpK.append h2 k)
theorem DpK.any (k:Key):∀ {ds:List (Key × D)} {vs:List (Key × V)},DpK g A B H vs ds→(vs.any fun kv=>decide (kv.1=k))=ds.any fun kv=>decide (kv.1=k)
 | [],_,h=>by cases h; rfl
 | _ :: ds,_,h=>by cases h with | cons h1 h2=>simp [DpK.any k h2]
theorem DpK.repl (k:Key) {y:V} {d:D} (hy:Dp g A B H y d):∀ {ds:List (Key × D)} {vs:List (Key × V)},DpK g A B H vs ds →
  DpK g A B H (vs.map fun kv=>if kv.1=k then (kv.1,y) else kv) (ds.map fun kv=>if kv.1=k then (kv.1,d) else kv)
 | [],_,h=>by cases h; exact .nil
 | (k',d') :: ds,_,h=>by
  cases h with
  | cons h1 h2 =>
   simp only [List.map_cons]
   by_cases e:k'=k
   · rw [if_pos e,if_pos e]; exact .cons hy (DpK.repl k hy h2)
   · rw [if_neg e,if_neg e]; exact .cons h1 (DpK.repl k hy h2)
theorem DpK.put {ds:List (Key × D)} {vs:List (Key × V)} (k:Key) {y:V} {d:D} (h:DpK g A B H vs ds) (hy:Dp g A B H y d):DpK g A B H (putK vs k y) (putKD ds k d):=by
 unfold putK putKD
 rw [h.any k]
 split
 · exact h.repl k hy
 · exact h.append (.cons hy .nil)
end
def inK:D→D→Option D
 | x,.dic kvs=>match keyD x with
  | some k=>some (.bl (valD kvs k).isSome)
  | none=>none
 | _,_=>none
def getK:D→D→Option D
 | .dic kvs,x=>match keyD x with
  | some k=>valD kvs k
  | none=>none
 | _,_=>none
theorem dget_of {g:G} {A:Ad} {B:Addr→Prop} {H:Hp} {x y:V} {d:D} {kvs:List (Key × D)} {k:Key} (hx:Vw g A B H x (.dic kvs)) (hy:Vw g A B H y d) (e:keyD d=some k) :
  ∃ a o,x=.ref a ∧ DGet H a y o ∧ (valD kvs k).isSome=o.isSome ∧ ∀ c,valD kvs k=some c→∃ v,o=some v ∧ Dp g A B H v c:=by
 obtain ⟨a,vs,rfl,hp,l⟩:=hx
 refine ⟨a,valV vs k,rfl,.inl ⟨vs,k,hp,keyD_V e hy,rfl⟩,?_⟩
 rcases l.val k with ⟨h1,h2⟩ | ⟨c,v,h1,h2,h3⟩
 · exact ⟨by rw [h1,h2]; rfl,fun c h=>by rw [h1] at h; cases h⟩
 · exact ⟨by rw [h1,h2]; rfl,fun c' h=>by rw [h1] at h; cases h; exact ⟨v,h2,h3⟩⟩
theorem v_inK {g:G}:V2 g (fun y x H Q=>∃ a o,x=.ref a ∧ DGet H a y o ∧ Q (.bl o.isSome) H) inK:=by
 intro A B H ω x y a b c Q w ha hb e q
 cases b with
 | dic kvs =>
  simp only [inK] at e
  cases hk:keyD a with
  | none=>simp only [hk] at e; cases e
  | some k =>
   simp only [hk] at e
   cases e
   obtain ⟨p,o,h1,h2,h3,_⟩:=dget_of hb ha hk
   exact ⟨p,o,h1,h2,by rw [← h3]; exact q.now w (.bl _)⟩
 | _=>cases a <;> cases e
theorem v_getK {g:G}:V2 g (fun x y H Q=>∃ a v,x=.ref a ∧ DGet H a y (some v) ∧ Q v H) getK:=by
 intro A B H ω x y a b c Q w ha hb e q
 cases a with
 | dic kvs =>
  simp only [getK] at e
  cases hk:keyD b with
  | none=>simp only [hk] at e; cases e
  | some k =>
   simp only [hk] at e
   obtain ⟨p,o,h1,h2,_,h4⟩:=dget_of ha hb hk
   obtain ⟨v,rfl,hv⟩:=h4 c e
   exact ⟨p,v,h1,h2,q.now w hv⟩
 | _=>cases e
theorem hu1 {k:Nat} {A:Around} (hr:Room k A):A.units + 1 < cLine:=hu_of hr
section
variable {X:Cx} {g:G} {W:WX} {a b e:Expr} {fa fb fo fk fv:M D} {f:M (List D)} {k:Nat} {p pos pos' p2:Pos}
theorem de_inK (hr:Room k X.A) (ha:PE X a (tM g rW W fa)) (hb:PE X b (tM g rW W fb)) (hm:behindInMarks .In b=false:=by rfl):PE X (.Compare a [.In] [b] pos) (tM g rD W (bo inK fa fb)) :=
 (pe_cmp (pc_din (hu1 hr) ha hb) hm).dl (tM_op2 v_inK)
theorem de_getK (hr:Room k X.A) (ha:PE X a (tM g rW W fa)) (hb:PE X b (tM g rW W fb)) (hs:NoSl b:=by exact fun _ _=>rfl):PE X (.Subscript a b pos) (tM g rD W (bo getK fa fb)) :=
 (pe_dget (hu1 hr) ha hb hs).dl (tM_op2 v_getK)
end
def newS (ds:List D):M D:=fun _ ω=>some (.val (.oid ω.length) (ω ++ [Cell.lst ds]))
section
variable {X:Cx} {g:G} {W:WX} {n:En} {a b e o i:Expr} {fa fb fo fk fv fi:M D} {f:M (List D)} {k:Nat} {p pos pos' p2 apos:Pos}
theorem de_newS (h:PE X e (tN g W f)):PE X e (tM g rD W (f.bind newS)):=h.dl fun σ H Q ⟨H0,A,B,ρ,ω,r,fm,e,res⟩=>by
 unfold M.bind at e
 cases q:f ρ ω with
 | none=>rw [q] at e; cases e
 | some z =>
  rw [q] at e
  cases z with
  | exc x ω' =>
   cases e
   exact ⟨H0,A,B,ρ,ω,_,fm,q,res⟩
  | val ds ω' =>
   cases e
   refine ⟨H0,A,B,ρ,ω,_,fm,q,fun p vs A' B' H' t w hp l hb nl h0=>?_⟩
   obtain ⟨w2,m2,s2⟩:=store_lst w hp l hb nl
   exact res (.ref p) _ _ H' (s2 A B H t h0) w2 (.oid (by rw [← w.len]; simp))
end
end DL
namespace DL
open PySem L2
section
variable {X:Cx} {g:G} {W:WX} {n:En} {a b e o i:Expr} {fa fb fo fk fv fi:M D} {f:M (List D)} {k:Nat} {p pos pos' p2 apos:Pos}
def isLst (x:D):M Unit:=fun _ ω=>match view ω x with
 | some (.lst _)=>some (.val () ω)
 | _=>none
theorem isLst_some {x:D} {ρ:Rho} {ω:List Cell} {α:Type} {k:Unit→M α} {r:R α} (h:((isLst x).bind k) ρ ω=some r):∃ ds,view ω x=some (.lst ds) ∧ k () ρ ω=some r:=by
 unfold M.bind isLst at h
 cases ev:view ω x with
 | none=>simp only [ev] at h; cases h
 | some d =>
  cases d with
  | lst ds=>simp only [ev] at h; exact ⟨ds,rfl,h⟩
  | _=>simp only [ev] at h; cases h
def putLS (fo fi fv:M D):MS:=bindS fv fun d=>bindS fo fun o=>bindS fi fun i ρ ω=>match o,i with
 | .oid k,.int z=>(match ω[k]? with
  | some (.lst ds)=>(match ixN ds.length z with
   | some j=>some (.nx ρ (ω.set k (Cell.lst (ds.set j d))))
   | none=>none)
  | _=>none)
 | _,_=>none
theorem ds_putLS (he:PE X e (tM g rD W fv)) (ho:PE X o (tM g rD W fo)) (hi:PE X i (tM g rD W fi))
  (hs:swapsWithSole [.Subscript o i p2] e pos.line X.env=pure false:=by rfl) (hw:swappedStores [.Subscript o i p2] e X.env=pure none:=by rfl) (h1:(assignEach [.Subscript o i p2] X.env).map (·.2)=[assign (.Subscript o i p2) X.env]:=by rfl)
  (ha:∀ v,assign (.Subscript o i p2) X.env v=(do
   let ov ← holding [v] (eval o X.env)
   let iv ← holding [v,ov] (eval i X.env)
   standAt p2
   holding [v,ov,iv] (setItem ov iv v)
   release [v,ov,iv] []):=by intro _; rfl) :
  PS X (.Assign [.Subscript o i p2] e pos) (tS g n W (putLS fo fi fv)) :=
 (ps_asg he (pg_sub ho hi set_list ha) hs hw h1).dl fun D σ H ⟨A,B,ρ,ω,r,s,fm,e,res⟩=>by
  refine tM_mono (tS_bind s fm e res) fun v H1 ⟨A1,B1,ω1,d1,t1,m1,s1,fm1,r1,e1,res1⟩=>?_
  refine tM_mono (tS_bind s1 fm1 e1 res1) fun x H2 ⟨A2,B2,ω2,d2,t2,m2,s2,fm2,r2,e2,res2⟩=>?_
  refine tM_mono (tS_bind s2 fm2 e2 res2) fun y H3 ⟨A3,B3,ω3,d3,t3,m3,s3,fm3,r3,e3,res3⟩=>?_
  have hx:=Dp.mv m3 _ _ r2
  have hv:=Dp.mv (m2.trans m3) _ _ r1
  cases d2 with
  | oid kk =>
   cases d3 with
   | int z =>
    simp only at e3
    cases hq:ω3[kk]? with
    | none=>simp only [hq] at e3; cases e3
    | some c =>
     cases c with
     | lst ds =>
      simp only [hq] at e3
      cases hj:ixN ds.length z with
      | none=>simp only [hj] at e3; cases e3
      | some j =>
       simp only [hj] at e3
       cases e3
       have hcell:∃ a,x=.ref a ∧ A3[kk]?=some (some a) ∧ CellOk g A3 B3 H3 a (.lst ds):=by
        rcases fm3.wo.cell kk _ hq with ⟨z,_⟩ | ⟨a,ha,ok⟩
        · cases z
        · cases hx with
          | oid e=>rw [ha] at e; cases e; exact ⟨a,rfl,ha,ok⟩
          | ded e=>rw [ha] at e; cases e
       obtain ⟨a,rfl,ha,vs,hp,l⟩:=hcell
       cases r3
       refine ⟨a,vs,z,j,rfl,rfl,hp,by rw [l.length]; exact hj,?_⟩
       obtain ⟨fm4,m4⟩:=fm3.cellW (u:=.lst (vs.set j v)) (c:=.lst (ds.set j d1)) ha (frz_not hp) fun H' _ hu m=>⟨_,hu,DpL.mv m _ _ (l.set j hv)⟩
       exact res3.next m4 (s3.cellW (Liv.of ha) (frz_not hp)) fm4
     | _=>simp only [hq] at e3; cases e3
   | _=>simp only at e3; cases e3
  | _=>simp only at e3; cases e3
end
def KT0 (K:PySem.W.Frag) (a:Addr):Prop:=∃ (o:Obj) (n:Nat),K.lookup a=some o ∧ o.cls=.type "tuple" ∧ o.dict=none ∧ o.data=.seq #[] n
def sp0 (C T0:Addr) (f:Str):Sp:=fun vs H Q _=>∃ x dx,vs=[.ref x,.ref T0] ∧ H x=some (.ins C dx []) ∧ ∀ p,H p=none→Q .non (upd (upd H p (.dK [])) x (.ins C dx [(f,.ref p)]))
structure CalG0 (P:Program) (w:World) (K:PySem.W.Frag) (mg:Str→Option Value) (base:Heap) (c f:Str) (ps:List Str) (k:Nat):Prop where
 ex:∃ C fI fd T0 ds,mg c=some (.ref C) ∧ Mk K C fI ∧ Vals [V.ref T0] ds ∧ Binds K fd ps ds ∧ FnOk P w K mg base CX0 k fI fd ps (sp0 C T0 f)
structure FI0 (K:PySem.W.Frag) (mg:Str→Option Value) (c f qual:Str) (st:Stmt):Prop where
 ex:∃ C fI fd T0,mg c=some (.ref C) ∧ Mk K C fI ∧ Cls K C ∧ NoAttr K C f ∧ FunD K "__init__" qual (defArgs st) (defBody st) (defScope st) [V.ref T0] [] fI fd ∧ KT0 K T0
end DL
namespace DL
open PySem L2
section
variable {m c:Str} {T:List (Str × Fn)} {o i x y d:D} {ds xs ys:List D} {fs:List (Str × D)} {Gf:Fn} {ρ:Rho} {ω ω1 ω2 ω3 ω4 ω':List Cell} {fo fi fv fa fb f:M D} {fl:M (List D)} {K:MS} {k j n:Nat}
theorem ownM_at (hv:view ω o=some (.obj c fs)) (ht:T.lookup c=some Gf):ownM m T o ds ρ ω=Gf (o :: ds) ω:=by
 unfold ownM; rw [hv]; simp only [ht]; rfl
theorem lenO_at {n:Int} (hf:fo ρ ω=some (.val o ω1)) (hv:view ω1 o=some (.obj c fs)) (ht:T.lookup c=some Gf) (hc:Gf [o] ω1=some (.val (.int n) ω2)) (h0:0 ≤ n) (h1:n < 2 ^ 63):lenO T fo ρ ω=some (.val (.int n) ω2):=by
 unfold lenO
 rw [bind_ev hf,bind_ev ((ownM_at hv ht).trans hc)]
 exact if_pos ⟨h0,h1⟩
theorem ixO_at {r:Option (R D)} (hf:fo ρ ω=some (.val o ω1)) (hi:fi ρ ω1=some (.val i ω2)) (hv:view ω2 o=some (.obj c fs)) (ht:T.lookup c=some Gf) (hc:Gf [o,i] ω2=r):ixO T fo fi ρ ω=r:=by
 unfold ixO
 rw [bind_ev hf,bind_ev hi]
 exact (ownM_at hv ht).trans hc
theorem putLS_at {z:Int} (hv:fv ρ ω=some (.val d ω1)) (ho:fo ρ ω1=some (.val (.oid k) ω2)) (hi:fi ρ ω2=some (.val (.int z) ω3)) (hk:ω3[k]?=some (.lst ds)) (hj:ixN ds.length z=some j):putLS fo fi fv ρ ω=some (.nx ρ (ω3.set k (.lst (ds.set j d)))):=by
 unfold putLS
 rw [bindS_ev hv,bindS_ev ho,bindS_ev hi]
 simp only [hk,hj]
theorem newS_at (h:fl ρ ω=some (.val ds ω')):(fl.bind newS) ρ ω=some (.val (.oid ω'.length) (ω' ++ [Cell.lst ds])):=bind_ev h
end
end DL
namespace DL
open PySem L2
section
variable {g:G} {A A':Ad} {B B':Addr→Prop} {H H' H0:Hp} {ω:List Cell} {σ:St} {ρ:Rho} {k:Nat} {a:Addr} {od:Obj} {vs:List (Key × V)} {kvs:List (Key × D)}
end
section
variable {X:Cx} {g:G} {W:WX} {tg e:Expr} {f:M D}
end
def ItK (it d:Addr) (o:Obj) (kvs:List (Key × V)):HO:=.ext fun h=>∃ es ep,o.data=.dict es ep ∧ h.IsKeyIter it d 0 kvs.length ep
def RunIt (P:Program) (w:World) (K:PySem.W.Frag) (mg:Str→Option Value) (base:Heap) (fld:Str) (f:Addr) (fd:FuncData) (ps:List Str):Prop :=
 ∀ (A:Around) (outer:List PySem.Env) (s:Shared) (H:Hp) (us:List Value) (x d:Addr) (C dx:Addr) (fs:List (Str × V)) (o:Obj) (kvs:List (Key × V)) (Q:VK) (E:XK),Room 1 A→Env0 P w K mg base A outer s H→Vals [V.ref x] us→BindsTo s fd ⟨us,[]⟩ (ps.zip us) →
  H x=some (.ins C dx fs)→Cls K C→NoAttr K C fld→fs.lookup fld=some (.ref d)→H d=some (.frz o (.dK kvs))→(∀ it,s.heap.objs.size ≤ it→H it=none→Q (.ref it) (upd H it (ItK it d o kvs))) →
  codeAny (model P w) A (.call (.ref f) ⟨us,[]⟩) (CR CX0 outer P w H s Q E) s
structure CalIt (P:Program) (w:World) (K:PySem.W.Frag) (mg:Str→Option Value) (base:Heap) (c fld:Str) (ps:List Str):Prop where
 ex:∃ C f fd,mg c=some (.ref C) ∧ Cls K C ∧ NoAttr K C fld ∧ (PySem.W.findIn K (.ref C) "__iter__" = some (some (.ref f)) ∧ PySem.W.isFn K (.ref f)=true) ∧ Binds K fd ps [] ∧ RunIt P w K mg base fld f fd ps
structure FIt (K:PySem.W.Frag) (mg:Str→Option Value) (c fld qual:Str) (st:Stmt):Prop where
 ex:∃ C f fd,mg c=some (.ref C) ∧ Cls K C ∧ NoAttr K C fld ∧ (PySem.W.findIn K (.ref C) "__iter__" = some (some (.ref f)) ∧ PySem.W.isFn K (.ref f)=true) ∧ Fun K "__iter__" qual st f fd
section
variable {X:Cx} {W:WX} {tg e:Expr} {f:M D} {c fld:Str} {ps:List Str} {j:Nat}
end
end DL
namespace DL
open PySem L2
def dcGo (vs:List Nat) (T:TT1) (t:M Bool) (fk fv:M D) (ρ:Rho):List D→List (Key × D)→List Cell→Option (List (Key × D) × List Cell)
 | [],acc,ω=>some (acc,ω)
 | d :: ds,acc,ω=>match T d (wipeE ρ vs) ω with
  | none=>none
  | some ρ2=>match t ρ2 ω with
   | some (.val true ω1)=>match fk ρ2 ω1 with
    | some (.val y ω2)=>match fv ρ2 ω2 with
     | some (.val z ω3)=>match keyD y with
      | some k=>if acc.length < 1000 then dcGo vs T t fk fv ρ ds (putKD acc k z) ω3 else none
      | none=>none
     | _=>none
    | _=>none
   | some (.val false ω1)=>dcGo vs T t fk fv ρ ds acc ω1
   | _=>none
def dcM (vs:List Nat) (src:M (List D)) (T:TT1) (t:M Bool) (fk fv:M D):M D:=src.bind fun items ρ ω=>match dcGo vs T t fk fv ρ items [] ω with
 | some (kvs,ω')=>some (.val (.oid ω'.length) (ω' ++ [Cell.dic kvs]))
 | none=>none
theorem store_dic {g:G} {A:Ad} {B:Addr→Prop} {H:Hp} {ω:List Cell} {p:Addr} {vs:List (Key × V)} {ds:List (Key × D)} (w:Wo g A B H ω) (hp:H p=some (.dK vs)) (l:DpK g A B H vs ds) (hb:B p) (nl:¬ Liv A p) :
  Wo g (A ++ [some p]) B H (ω ++ [.dic ds]) ∧ ∀ (A0:Ad) (B0:Addr→Prop) (H0:Hp),Stp A0 B0 H0 A B H→H0 p=none→Stp A0 B0 H0 (A ++ [some p]) B H:=by
 have ap:∀ (k:Nat) (x:Option Addr),A[k]?=some x→(A ++ [some p])[k]?=some x:=fun k x e=>by rw [List.getElem?_append_left (List.getElem?_eq_some_iff.mp e).1]; exact e
 have m:Mv A B H (A ++ [some p]) B H:=⟨fun a o n e=>⟨e,n⟩,fun k x e=>.inl (ap k x e),fun _ _ _ h=>h⟩
 refine ⟨⟨by simp [w.len],fun i j a ei ej=>?_,fun a z=>?_,w.bnd,fun k c e=>?_⟩,fun A0 B0 H0 s h0=>⟨s.keep,s.old,fun a z=>?_,fun k x e=>?_,s.trk,s.frz⟩⟩
 · have fix:∀ (i:Nat) (a:Addr),(A ++ [some p])[i]?=some (some a)→(A[i]?=some (some a)) ∨ (i=A.length ∧ a=p):=fun i a e=>by
    by_cases h:i < A.length
    · rw [List.getElem?_append_left h] at e; exact .inl e
    · rw [List.getElem?_append_right (Nat.le_of_not_lt h)] at e
      have hi:i - A.length=0:=by
       cases q:i - A.length with
       | zero=>rfl
       | succ n=>rw [q] at e; simp at e
      rw [hi] at e
      have:p=a:=by simpa using e
      exact .inr ⟨by omega,this.symm⟩
   rcases fix i a ei with h1 | ⟨h1,h2⟩
   · rcases fix j a ej with h3 | ⟨h3,h4⟩
     · exact w.inj i j a h1 h3
     · exact (nl (by rw [← h4]; exact Liv.of h1)).elim
   · rcases fix j a ej with h3 | ⟨h3,h4⟩
     · exact (nl (by rw [← h2]; exact Liv.of h3)).elim
     · rw [h1,h3]
 · rcases List.mem_append.mp z with z | z
   · exact w.liv a z
   · have:a=p:=by simpa using z
     rw [this]; exact hb
 · by_cases h:k < ω.length
   · rw [List.getElem?_append_left h] at e
     rcases w.cell k c e with ⟨h1,h2⟩ | ⟨a,h1,h2⟩
     · exact .inl ⟨h1,ap _ _ h2⟩
     · exact .inr ⟨a,ap _ _ h1,h2.mv m fun o e=>e⟩
   · rw [List.getElem?_append_right (Nat.le_of_not_lt h)] at e
     have hk:k - ω.length=0:=by
      cases q:k - ω.length with
      | zero=>rfl
      | succ n=>rw [q] at e; simp at e
     rw [hk] at e
     have ec:Cell.dic ds=c:=by simpa using e
     subst ec
     have ek:k=A.length:=by rw [w.len]; omega
     exact .inr ⟨p,by rw [ek]; simp,vs,hp,DpK.mv m _ _ l⟩
 · rcases List.mem_append.mp z with z | z
   · exact s.new a z
   · have:a=p:=by simpa using z
     exact .inr (by rw [this]; exact h0)
 · rcases s.ids k x e with q | q
   · exact .inl (ap _ _ q)
   · exact .inr (ap _ _ q)
section
variable {g:G} {W:WX} {A A':Ad} {B B':Addr→Prop} {H H' H0:Hp} {ω ω':List Cell} {σ:St} {ρ:Rho}
theorem tDc_of {src:M (List D)} {T:TT1} {t:M Bool} {fk fv:M D} {is vs:List Nat} (hv:∀ i ∈ is,i ∈ vs):∀ σ H Q,tM g rD W (dcM vs src T t fk fv) σ H Q→tDc (tI g W stayS src) (tGM g is T) (tM g rB W0 t) (tM g rD W0 fk) (tM g rD W0 fv) vs σ H Q:=by
 rintro σ H Q ⟨H0,A,B,ρ,ω,r,fm,e,res⟩
 unfold dcM M.bind at e
 cases q:src ρ ω with
 | none=>rw [q] at e; cases e
 | some z =>
  rw [q] at e
  cases z with
  | exc x ω' =>
   cases e
   exact ⟨H0,A,B,ρ,ω,_,fm,q,res⟩
  | val items ω1 =>
   refine ⟨H0,A,B,ρ,ω,_,fm,q,fun J C A1 B1 H1 t1 w1 ib hC c=>?_⟩
   intro L hL
   simp only at e
   cases q2:dcGo vs T t fk fv ρ items [] ω1 with
   | none=>simp only [q2] at e; cases e
   | some z =>
    obtain ⟨out,ω9⟩:=z
    simp only [q2] at e
    cases e
    have fm1:=fm.up t1 w1
    have hL0:H L=none:=t1.none hL
    have no:∀ (i:Nat) (ds:List D),ρ[i]?=some (.ow ds)→σ[i]? ≠ some (some (.ref L)):=fun i ds ei z=>by
     obtain ⟨p,ws,e1,e2,_⟩:=fm.sl.val i _ ei
     rw [z] at e1
     cases e1
     rw [hL0] at e2; cases e2
    refine ⟨fun i m H'=>m=items.length - i ∧ i ≤ items.length ∧ ∃ A' B' ω' acc ws,Stp A1 B1 H1 A' B' H' ∧ Fm g H0 A' B' H' ω' σ ρ ∧ H' L=some (.dK ws) ∧ DpK g A' B' H' ws acc ∧ B' L ∧ ¬ Liv A' L ∧ dcGo vs T t fk fv ρ (items.drop i) acc ω'=some (out,ω9),
     ⟨_,rfl,Nat.zero_le _,A1,_,ω1,[],[],(Stp.refl A1 B1 H1).alloc hL,fm1.up ((Stp.refl A1 B1 H1).alloc hL) (w1.plus hL),upd_same,.nil,.inr rfl,fun z=>w1.nb hL (w1.liv L z),q2⟩,?_⟩
    rintro i m H' ⟨rfl,hi,A',B',ω',acc,ws,s',fm',hLs,l,hb,nl,e⟩
    have c':C A' B' H':=hC _ _ _ _ _ _ w1.liv s' c
    by_cases hlt:i < items.length
    · refine .inr ⟨ib.go A' B' H' i c' hlt,fun H'=>∃ A' B' ω' acc ws,Stp A1 B1 H1 A' B' H' ∧ Fm g H0 A' B' H' ω' σ ρ ∧ H' L=some (.dK ws) ∧ DpK g A' B' H' ws acc ∧ B' L ∧ ¬ Liv A' L ∧ dcGo vs T t fk fv ρ (items.drop (i + 1)) acc ω'=some (out,ω9),fun H' p=>⟨_,by omega,rfl,hlt,p⟩,fun x H2 y=>?_⟩
      obtain ⟨d,hd,t2,w2,dp⟩:=ib.yld A' B' H' ω' i x H2 fm'.wo c' hlt y
      rw [drop_cons hd] at e
      unfold dcGo at e
      have fm2:=fm'.up t2 w2
      cases qT:T d (wipeE ρ vs) ω' with
      | none=>simp only [qT] at e; cases e
      | some ρ2 =>
       simp only [qT] at e
       refine ⟨H0,A',B',wipeE ρ vs,ω',d,ρ2,⟨fm2.wo,fm2.sl.wipe vs⟩,dp,qT,fun σ2 fm3 so=>⟨?_,?_⟩⟩
       · rw [so.wipe hv]
         apply List.ext_getElem?
         intro j
         by_cases hj:j ∈ vs
         · rw [wipe_in hj,wipe_in hj,wipe_length]
         · rw [wipe_notin hj]
       cases qt:t ρ2 ω' with
       | none=>simp only [qt] at e; cases e
       | some z =>
        cases z with
        | exc x ω5=>simp only [qt] at e; cases e
        | val b ω3 =>
         refine tM_val fm3 qt fun v A3 B3 H3 t3 w3 rl=>?_
         cases rl
         have fm4:=fm2.up t3 w3
         have fm4':=fm3.up t3 w3
         have hL2:H2 L=some (.dK ws):=t2.keep L _ hLs nl
         have hL3:H3 L=some (.dK ws):=t3.keep L _ hL2 nl
         have nl3:¬ Liv A3 L:=fun z=>by
          rcases t3.new L z with z | z
          · exact nl z
          · rw [hL2] at z; cases z
         have hb3:B3 L:=(t3.old L _ hL2 nl).mpr hb
         have l3:DpK g A3 B3 H3 ws acc:=DpK.mv (fm2.wo.mv t3) _ _ (DpK.mv (fm'.wo.mv t2) _ _ l)
         have s3:=(s'.trans t2).trans t3
         cases b with
         | false =>
          rw [if_neg Bool.false_ne_true]
          simp only [qt] at e
          exact ⟨A3,B3,ω3,acc,ws,s3,fm4,hL3,l3,hb3,nl3,e⟩
         | true =>
          rw [if_pos rfl]
          simp only [qt] at e
          cases qk:fk ρ2 ω3 with
          | none=>simp only [qk] at e; cases e
          | some z =>
           cases z with
           | exc x ω5=>simp only [qk] at e; cases e
           | val yk ω5 =>
            simp only [qk] at e
            refine tM_val fm4' qk fun v A5 B5 H5 t5 w5 rl=>?_
            cases qf:fv ρ2 ω5 with
            | none=>simp only [qf] at e; cases e
            | some z =>
             cases z with
             | exc x ω7=>simp only [qf] at e; cases e
             | val yv ω7 =>
              simp only [qf] at e
              cases kk:keyD yk with
              | none=>simp only [kk] at e; cases e
              | some key =>
               simp only [kk] at e
               split at e
               · rename_i hz
                 refine tM_val (fm4'.up t5 w5) qf fun v2 A7 B7 H7 t7 w7 rl7=>?_
                 have hL5:H5 L=some (.dK ws):=t5.keep L _ hL3 nl3
                 have nl5:¬ Liv A5 L:=fun z=>by
                  rcases t5.new L z with z | z
                  · exact nl3 z
                  · rw [hL3] at z; cases z
                 have hb5:B5 L:=(t5.old L _ hL3 nl3).mpr hb3
                 have hL7:H7 L=some (.dK ws):=t7.keep L _ hL5 nl5
                 have nl7:¬ Liv A7 L:=fun z=>by
                  rcases t7.new L z with z | z
                  · exact nl5 z
                  · rw [hL5] at z; cases z
                 have hb7:B7 L:=(t7.old L _ hL5 nl5).mpr hb5
                 have l7:DpK g A7 B7 H7 ws acc:=DpK.mv ((fm4.up t5 w5).wo.mv t7) _ _ (DpK.mv (fm4.wo.mv t5) _ _ l3)
                 obtain ⟨fm8,m8⟩:=((fm4.up t5 w5).up t7 w7).bump (o:=.dK (putK ws key v2)) hb7 nl7 no (frz_not hL7)
                 refine ⟨ws,key,keyD_P kk rl,hL7,by rw [l7.len,sizeLine_eq]; omega,A7,B7,ω7,putKD acc key yv,putK ws key v2,((s3.trans t5).trans t7).own hL nl7,fm8,upd_same,DpK.mv m8 _ _ (l7.put key rl7),hb7,nl7,e⟩
               · cases e
    · have ei:i=items.length:=by omega
      subst ei
      rw [List.drop_length] at e
      cases e
      obtain ⟨w2,s2⟩:=store_dic fm'.wo hLs l hb nl
      exact .inl ⟨ib.stop A' B' H' _ c' (Nat.le_refl _),res (.ref L) _ B' H' (t1.trans (s2 A1 B1 H1 s' hL)) w2 (.oid (by rw [← fm'.wo.len]; simp))⟩
end
section
variable {X:Cx} {g:G} {n:En} {W:WX} {kx vx tg iter:Expr} {ifs:List Expr} {scope:Scope} {own:List (Str × Nat)} {src:M (List D)} {T:TT1} {t:M Bool} {fk fv:M D} {is:List Nat} {pos:Pos}
theorem de_dc (hc:X.calm=true) (hN:X.N.Nodup) (hi:PI X tg iter (tI g W stayS src)) (ok:BlkOk X.N X.env.scope scope own) (hv:∀ i ∈ is,i ∈ own.map (·.2))
  (hg:∀ (s:Shared) (H:Hp) (C:Addr) (cl:List (Str × Addr)) (fp:List Addr),PG (X.blk s H scope (compEnvC scope cl C X.env) fp) tg (tGM g is T))
  (ht:∀ (s:Shared) (H:Hp) (C:Addr) (cl:List (Str × Addr)) (fp:List Addr),PTs (X.blk s H scope (compEnvC scope cl C X.env) fp) ifs (tM g rB W0 t))
  (hk:∀ (s:Shared) (H:Hp) (C:Addr) (cl:List (Str × Addr)) (fp:List Addr),PE (X.blk s H scope (compEnvC scope cl C X.env) fp) kx (tM g rD W0 fk))
  (he:∀ (s:Shared) (H:Hp) (C:Addr) (cl:List (Str × Addr)) (fp:List Addr),PE (X.blk s H scope (compEnvC scope cl C X.env) fp) vx (tM g rD W0 fv)) (hs:∀ x,foldedSetIterable iter X.env x=pure x:=by intro _; rfl) :
  PE X (.DictComp kx vx [⟨tg,iter,ifs,0⟩] scope pos) (tM g rD W (dcM (own.map (·.2)) src T t fk fv)) :=
 (pe_dc hc hN hi ok hg ht hk he hs).dl (tDc_of hv)
end
end DL
namespace DL
open PySem L2
def appM (fo fa:M D):M D:=fo.bind fun x=>(isLst x).bind fun _=>fa.bind fun y=>fun ρ ω=>match x with
 | .oid k=>match ω[k]? with
  | some (.lst ds)=>if ds.length < 1000000 then some (.val .non (ω.set k (Cell.lst (ds ++ [y])))) else none
  | _=>none
 | _=>none
theorem lst_at {g:G} {A:Ad} {B:Addr→Prop} {H:Hp} {ω:List Cell} {v:V} {k:Nat} {ds:List D} (w:Wo g A B H ω) (hk:ω[k]?=some (.lst ds)) (h:Dp g A B H v (.oid k)):∃ a vs,v=.ref a ∧ A[k]?=some (some a) ∧ H a=some (.lst vs) ∧ DpL g A B H vs ds:=by
 rcases w.cell k _ hk with ⟨z,_⟩ | ⟨a,ha,vs,h1,h2⟩
 · cases z
 · cases h with
   | oid e=>rw [ha] at e; cases e; exact ⟨a,vs,rfl,ha,h1,h2⟩
   | ded e=>rw [ha] at e; cases e
section
variable {X:Cx} {g:G} {W:WX} {e o:Expr} {fa fo:M D} {p pos apos:Pos}
theorem de_append (ho:PE X o (tM g rD W fo)) (ha:PE X e (tM g rD W fa)) (hbase:attributeBase o "append" X.env (eval o X.env)=eval o X.env:=by rfl)
  (hfew:((backTo pos (starEach [e] X.env)).all (fun x=>!x.1) && (backToKw pos (keywordEach [] X.env)).all (fun x=>x.1.isSome)
   && decide ([e].length + ([]:List Keyword).length + (if ([]:List Keyword).isEmpty then 0 else 1) < 30))=true:=by rfl)
  (hline:(apos.endLine == pos.line)=true:=by rfl) (hst:starEach [e] X.env=(false,eval e X.env) :: starEach [] X.env:=by rfl) (hplain:(backTo pos (starEach [] X.env)).any (·.1)=false:=by rfl) :
  PE X (.Call (.Attribute o "append" apos) [e] [] pos) (tM g rD W (appM fo fa)) :=
 (pe_bm PySem.F.plainAttrs_list PySem.F.slot_list_append PySem.F.type_list_append mt_append ho (pa_cons ha pa_nil hst) hbase hfew hline hst hplain).dl fun σ H Q ⟨H0,A,B,ρ,ω,r,fm,e,res⟩=>by
  refine tM_mono (tM_bind fm e res) fun x H1 ⟨A1,B1,ω1,d1,t1,fm1,r1,e1,res1⟩=>?_
  obtain ⟨ds0,ev0,e1⟩:=isLst_some e1
  obtain ⟨q0,vs0,rfl,hp0,l0⟩:=Vw.of r1 fm1.wo ev0
  refine ⟨.inl ⟨rfl,vs0,SqL.of hp0⟩,?_⟩
  refine tM_mono (tM_bind fm1 e1 res1) fun y H2 ⟨A2,B2,ω2,d2,t2,fm2,r2,e2,res2⟩=>?_
  cases d1 with
  | oid k =>
   simp only at e2
   cases q:ω2[k]? with
   | none=>simp only [q] at e2; cases e2
   | some c =>
    cases c with
    | lst ds =>
     simp only [q] at e2
     split at e2
     · rename_i hz
       cases e2
       obtain ⟨a,vs,ea,ha2,hp,l⟩:=lst_at fm2.wo q (Dp.mv (fm1.wo.mv t2) _ _ r1)
       cases ea
       refine ⟨_,vs,y,rfl,rfl,hp,by rw [l.length,sizeLine_eq]; omega,?_⟩
       obtain ⟨fm3,m3⟩:=fm2.cellW (u:=.lst (vs ++ [y])) (c:=.lst (ds ++ [d2])) ha2 (frz_not hp) fun H' _ hu m=>⟨_,hu,DpL.mv m _ _ (l.append (.cons r2 .nil))⟩
       exact res2 _ A2 B2 _ ((Stp.refl _ _ _).cellW (Liv.of ha2) (frz_not hp)) fm3.wo .non
     · cases e2
    | _=>simp only [q] at e2; cases e2
  | _=>simp only at e2; cases e2
end
end DL
namespace DL
open PySem L2
section
variable {X:Cx} {g:G} {W:WX} {a b:Expr} {fa fb:M D} {pos:Pos}
end
end DL
namespace DL
open PySem L2
section
variable {X:Cx} {W:WX} {n:En} {e:Expr} {fe:M D} {k j i:Nat} {T:List (Str × Fn)} {pos pos':Pos} {m x:Str}
end
end DL
namespace PySem.W
open Lean Elab Tactic Meta PySem PySem.Calls PyProof.Rows PyProof.V PySem.Spec
section
variable {prog:Program} {w:World} {K:Type} [DecidableEq K] {knd:KeyKind prog w K} {A:Around} {E:Value→Shared→Prop} {s:Shared}
end
end PySem.W
namespace DL
open PySem L2
section
variable {X:Cx} {W:WX} {T:List (Str × Fn)} {k:Nat}
end
end DL
namespace DL
open PySem L2
section
variable {X:Cx} {g:G} {W:WX} {e:Expr} {fa:M D} {j:Nat} {p pos:Pos}
end
end DL
namespace DL
open PySem L2
end DL
namespace DL
open PySem L2
section
variable {P:Program} {w:World} {K:PySem.W.Frag} {mg:Str→Option Value} {base:Heap} {x qual:Str} {st:Stmt} {f:Addr} {fd:FuncData} {N ps:List Str} {k:Nat} {Gf:Fn} {F:MS} {dvs:List V} {kws:List (Str × V)}
end
end DL
namespace PySem.W
open PySem PySem.Calls PyProof.Rows
section
variable {prog:Program} {w:World} {A:Around} {E:Value→Shared→Prop} {s:Shared} {K:Frag} {x y C D L f f':Addr} {h₀:Heap} {m:Str→Option Value} {ox oy:Obj} {od oe:Option Obj}
end
end PySem.W
namespace DL
open PySem L2
structure OpD (K:PySem.W.Frag) (C:Addr) (op:Operator):Prop where
 first:PySem.W.selfFirst K C=true
 fn:∃ f:Addr,PySem.W.findIn K (.ref C) (PySem.dunder op.info.2)=some (some (.ref f))
 refl:∃ rc,PySem.W.findIn K (.ref C) (PySem.dunderR op.info.2)=some rc ∧ (rc=none ∨ ∃ g:Addr,rc=some (.ref g))
section
variable {X:Cx} {W:WX} {a b:Expr} {fa fb:M D} {k j:Nat} {T:List (Str × Fn)} {pos:Pos} {m:Str}
structure OpR (K:PySem.W.Frag) (C:Addr):Prop where
 first:PySem.W.selfFirst K C=true
 fn:PySem.W.findIn K (.ref C) (PySem.dunder "mul")=some none ∨ ∃ f:Addr,PySem.W.findIn K (.ref C) (PySem.dunder "mul")=some (some (.ref f))
 sub:PySem.W.subIn K (.ref C) (.type "int")=some false
structure OpC2 (K:PySem.W.Frag) (C:Addr) (op:Operator):Prop where
 first:PySem.W.selfFirst K C=true
 refl:∃ rc,PySem.W.findIn K (.ref C) (PySem.dunderR op.info.2)=some rc ∧ (rc=none ∨ ∃ g:Addr,rc=some (.ref g))
 int1:∃ fo,PySem.W.findIn K (.type "int") (PySem.dunder op.info.2)=some fo
 int2:∃ ro,PySem.W.findIn K (.type "int") (PySem.dunderR op.info.2)=some ro
 sub:PySem.W.subIn K (.type "int") (.ref C)=some false
end
section
variable {X:Cx} {g:G} {n:En} {W:WX} {elt tg iter:Expr} {ifs:List Expr} {scope:Scope} {own:List (Str × Nat)} {src:M (List D)} {T:TT1} {t:M Bool} {f:M D} {is:List Nat} {pos spos py:Pos} {i:Nat} {y:Str}
theorem ds_setLcN (hc:X.calm=true) (hN:X.N.Nodup) (hy:X.N[i]?=some y) (hyl:X.env.scope.names.lookup y=some .local) (hsw:swapsWith (.ListComp elt [⟨tg,iter,ifs,0⟩] scope pos) (some (.Name y py)) spos.line X.env=pure true)
  (hi:PI X tg iter (tI g W stayS src)) (ok:BlkOk X.N X.env.scope scope own) (hv:∀ i ∈ is,i ∈ own.map (·.2))
  (hg:∀ (s:Shared) (H:Hp) (C:Addr) (cl:List (Str × Addr)) (fp:List Addr),PG (X.blk s H scope (compEnvC scope cl C X.env) fp) tg (tGM g is T))
  (ht:∀ (s:Shared) (H:Hp) (C:Addr) (cl:List (Str × Addr)) (fp:List Addr),PTs (X.blk s H scope (compEnvC scope cl C X.env) fp) ifs (tM g rB W0 t))
  (he:∀ (s:Shared) (H:Hp) (C:Addr) (cl:List (Str × Addr)) (fp:List Addr),PE (X.blk s H scope (compEnvC scope cl C X.env) fp) elt (tM g rD W0 f)) (hs:∀ x,foldedSetIterable iter X.env x=pure x:=by intro _; rfl) :
  PS X (.Assign [.Name y py] (.ListComp elt [⟨tg,iter,ifs,0⟩] scope pos) spos) (tS g n W (setN i (lcM (own.map (·.2)) src T t f))) :=
 (ps_setLc hc hN hy hyl hsw hi ok hg ht he hs).dl fun D σ H h=>tLc_of hv σ H _ (tN_setN h)
end
section
variable {T:List (Str × Fn)} {m c c':Str} {fa fb:M D} {x y:D} {fl fl':List (Str × D)} {Gf:Fn} {ρ:Rho} {ω ω1 ω2:List Cell} {r:Option (R D)}
end
end DL
namespace DL
open PySem L2
open PyProof.Rows hiding St
section
variable {P:Program} {w:World} {K:PySem.W.Frag} {mg:Str→Option Value} {base:Heap} {N ps:List Str} {qual x:Str} {scope:Scope} {f:Addr} {cd:Value} {A:Around} {outer:List PySem.Env} {s s1:Shared} {H:Hp} {E:XK}
structure CalQ (P:Program) (w:World) (K:PySem.W.Frag) (mg:Str→Option Value) (base:Heap) (c:Str) (ps:List Str) (k:Nat) (Gf:Fn):Prop where
 ex:∃ C f fd,mg c=some (.ref C) ∧ Mk K C f ∧ Binds K fd ps [] ∧ FnQ P w K mg base k f fd ps (spD ⟨K,mg⟩ Gf)
end
section
variable {X:Cx} {W:WX} {c x:Str} {p pos:Pos} {e:Expr} {es:List Expr} {fs:M (List D)} {k j:Nat} {ps:List Str} {Gf:Fn} {C f:Addr} {fd:FuncData} {sp:Sp}
end
end DL
namespace DL
open PySem L2
open PyProof.Rows hiding St
section
variable {X:Cx} {body:List Stmt} {h₀:ExceptHandler} {hds:List ExceptHandler} {l:List (Value × Option Nat × SuT)} {pos:Pos} {tb:WX→TS} {Wout:WX}
end
section
variable {X:Cx} {n:En} {W:WX} {body orelse:List Stmt} {h₀:ExceptHandler} {hds:List ExceptHandler} {cs:List Cls1} {F G:MS} {pos:Pos}
end
section
variable {X:Cx} {g:G} {W:WX} {n:En} {o i:Expr} {fo fi:M D} {pos tpos p1:Pos} {m:Int} {jj:Nat}
end
section
variable {X:Cx} {g:G} {W:WX} {pos:Pos}
end
end DL
namespace DL
open PySem L2
section
variable {g:G} {W:WX} {A A':Ad} {B B':Addr→Prop} {H H' H0:Hp} {ω ω':List Cell} {σ:St} {ρ:Rho}
theorem lst_liv {v:V} {k:Nat} {ds:List D} (w:Wo g A B H ω) (hk:ω[k]?=some (.lst ds)) (h:Dp g A B H v (.oid k)):∃ a vs,v=.ref a ∧ A[k]?=some (some a) ∧ H a=some (.lst vs) ∧ DpL g A B H vs ds:=by
 rcases w.cell k _ hk with ⟨z,_⟩ | ⟨a,ha,vs,h1,h2⟩
 · cases z
 · cases h with
   | oid e=>rw [ha] at e; cases e; exact ⟨a,vs,rfl,ha,h1,h2⟩
   | ded e=>rw [ha] at e; cases e
theorem lst_on {k:Nat} {ds:List D} {a:Addr} (w:Wo g A B H ω) (hk:ω[k]?=some (.lst ds)) (h:A[k]?=some (some a) ∨ A[k]?=some none):A[k]?=some (some a) ∧ ∃ vs,H a=some (.lst vs) ∧ DpL g A B H vs ds:=by
 rcases w.cell k _ hk with ⟨z,_⟩ | ⟨b,hb,vs,h1,h2⟩
 · cases z
 · rcases h with h | h
   · rw [h] at hb; cases hb; exact ⟨h,vs,h1,h2⟩
   · rw [h] at hb; cases hb
end
section
variable {X:Cx} {g:G} {n:En} {W:WX} {elt tg iter:Expr} {ifs:List Expr} {scope:Scope} {own:List (Str × Nat)} {src:M D} {T:TT1} {t:M Bool} {f:M D} {is:List Nat} {pos spos py:Pos} {i:Nat} {y:Str}
end
end DL
namespace DL
open PySem L2
section
variable {g:G} {A:Ad} {B:Addr→Prop} {H H0:Hp} {ω:List Cell} {σ:St} {ρ:Rho}
end
section
variable {X:Cx} {g:G} {n:En} {W:WX} {F:MS}
end
end DL
namespace DL
open PySem L2
def enumG:Nat→List D→List D
 | _,[]=>[]
 | k,d :: r=>.tup [.int (k:Nat),d] :: enumG (k + 1) r
theorem enumG_len:∀ (k:Nat) (ds:List D),(enumG k ds).length=ds.length
 | _,[]=>rfl
 | k,d :: r=>by simp only [enumG,List.length_cons,enumG_len (k + 1) r]
theorem enumG_at:∀ (k:Nat) (ds:List D) (i:Nat),(enumG k ds)[i]?=ds[i]?.map fun d=>D.tup [.int ((k + i:Nat):Int),d]
 | k,[],i=>by simp [enumG]
 | k,d :: r,0=>by simp [enumG]
 | k,d :: r,i + 1=>by
  simp only [enumG,List.getElem?_cons_succ,enumG_at (k + 1) r i]
  rw [show k + 1 + i=k + (i + 1) by omega]
theorem itb_enum {g:G} {a:Addr} {vs:List V} {ds:List D} (C:Cnd) (hC:∀ A B H,C A B H→SqL g.K H a vs ∧ DpL g A B H vs ds):ItB g (Ite g.K a) (enumG 0 ds) C where
 go:=fun A B H i c hi=>by
  obtain ⟨hs,l⟩:=hC A B H c
  rw [enumG_len] at hi
  have hi':i < vs.length:=by rw [l.length]; exact hi
  exact ⟨vs,vs[i],hs,List.getElem?_eq_getElem hi'⟩
 yld:=fun A B H ω i x H' w c _ y=>by
  obtain ⟨hs,l⟩:=hC A B H c
  obtain ⟨T,x',rfl,hT,rfl,y⟩:=y
  obtain ⟨d,e,hd⟩:=l.getV (y vs hs)
  refine ⟨.tup [.int ((0 + i:Nat):Int),d],by rw [enumG_at,e]; rfl,.grow hT,w.grow hT,?_⟩
  rw [Nat.zero_add]
  exact .tup (w.nb hT) upd_same (.cons (.int _) (.cons (Dp.mv (Mv.grow hT) _ _ hd) .nil))
 stop:=fun A B H i c hi=>by
  obtain ⟨hs,l⟩:=hC A B H c
  rw [enumG_len] at hi
  exact ⟨vs,hs,by rw [l.length]; exact hi⟩
section
variable {X:Cx} {g:G} {W:WX} {e:Expr} {f:M D} {elts:List Expr} {kk:Nat} {p pos tpos:Pos}
end
section
variable {X:Cx} {W:WX} {T:List (Str × Fn)} {k j:Nat} {a b:Expr} {fa fb:M D} {pos:Pos}
end
end DL
namespace DL
open PySem L2
section
variable {F K A B:MS} {ρ ρ' ρ1:Rho} {ω ω' ω1 ω2:List Cell} {r:Option RS} {f g fa fb:M D} {fs:M (List D)} {d a:D} {ds es xs:List D} {i:Nat} {t u:M Bool} {b c:Bool} {x:Exc}
end
end DL
namespace DL
open PySem L2
theorem and2 {a b:Bool} (h:(a && b)=true):a=true ∧ b=true:=Bool.and_eq_true_iff.mp h
theorem Dd.raw {K:PySem.W.Frag} {d:Dd} (e:fnO K (d.pl.ad K)=d.val) (c:d.ok K=true) :
  ∃ (oc:Value) (od:Option Addr) (osl:Array (Option Value)) (kV doc pm:Value) (an:Option Addr) (cdv ct:Value),K.lookup (d.pl.ad K)=some ⟨oc,od,.func (PySem.W.fnOf d.name d.qual (defArgs d.st) (defBody d.st) (defScope d.st) .none kV doc pm an cdv ct),osl⟩ ∧
   PySem.W.codeIn K cdv d.qual=true ∧ PySem.W.keepIn K (.ref (d.pl.ad K))=true:=by
 obtain ⟨kp,c2⟩:=and2 c
 unfold fnO at e
 cases q:K.lookup (d.pl.ad K) with
 | none=>rw [q] at c2; cases c2
 | some o =>
  obtain ⟨oc,od,dt,osl⟩:=o
  rw [q] at c2 e
  cases dt with
  | func fd =>
   obtain ⟨n1,n2,n3,n4,n5,n6,n7,n8,n9,n10,n11,n12,n13,n14,n15⟩:=fd
   obtain ⟨c3,c4⟩:=and2 (show (PySem.W.codeIn K n13 d.qual && isNon n8)=true from c2)
   have e2:(some (n1,n2,n3,n4,n5,n6,n7,n15):He.FnW)=some (d.name,d.qual,defArgs d.st,.stmts (defBody d.st),defScope d.st,mainGlobals,[],builtinsNs):=e
   simp only [Option.some.injEq,Prod.mk.injEq] at e2
   obtain ⟨h1,h2,h3,h4,h5,h6,h7,h8⟩:=e2
   cases n8 with
   | none =>
    subst h1 h2 h3 h4 h5 h6 h7 h8
    exact ⟨oc,od,osl,n9,n10,n11,n12,n13,n14,rfl,c3,kp⟩
   | _=>cases c4
  | _=>cases c2
theorem obF_eq (n:Nat) (cs:List (List Ck)) (ds:List Dd) (es:List He.DefD) (s:PySem.W.SharedT):obF n cs ds es s=(hookF n cs ds es).obs s.abs:=by
 have e:HandSHeadRun.getT s=s.abs.heap.get?:=funext fun a=>HandSHeadRun.getT_eq s a
 unfold obF
 rw [e]
 rfl
section
variable {cs:List (List Ck)} {ds:List Dd} {es:List He.DefD} {K:PySem.W.Frag} {h:Heap} {mg:Str→Option Value}
theorem SaysF.ck (c:SaysF cs ds es K) (i j:Nat) {f:Ck} {l:List Ck} (hl:cs[i]?=some l:=by rfl) (hf:l[j]?=some f:=by rfl):f K=true:=by
 have c1:=(and2 (show ((cs.all fun l=>l.all fun c=>c K) && ((ds.all fun d=>d.ok K) && es.all fun d=>d.ok K))=true from congrArg (fun z:Ob=>z.1) c)).1
 exact List.all_eq_true.mp (List.all_eq_true.mp c1 l (List.mem_of_getElem? hl)) f (List.mem_of_getElem? hf)
theorem SaysF.dd (c:SaysF cs ds es K) (i:Nat) {d:Dd} (hd:ds[i]?=some d:=by rfl) :
  ∃ (oc:Value) (od:Option Addr) (osl:Array (Option Value)) (kV doc pm:Value) (an:Option Addr) (cdv ct:Value),K.lookup (d.pl.ad K)=some ⟨oc,od,.func (PySem.W.fnOf d.name d.qual (defArgs d.st) (defBody d.st) (defScope d.st) .none kV doc pm an cdv ct),osl⟩ ∧
   PySem.W.codeIn K cdv d.qual=true ∧ PySem.W.keepIn K (.ref (d.pl.ad K))=true:=by
 have c1:=(and2 (and2 (show ((cs.all fun l=>l.all fun c=>c K) && ((ds.all fun d=>d.ok K) && es.all fun d=>d.ok K))=true from congrArg (fun z:Ob=>z.1) c)).2).1
 have e:ds.map (fun d=>fnO K (d.pl.ad K))=ds.map Dd.val:=congrArg (fun z:Ob=>z.2.1) c
 have e2:(ds.map fun d=>fnO K (d.pl.ad K))[i]?=(ds.map Dd.val)[i]?:=by rw [e]
 rw [List.getElem?_map,List.getElem?_map,hd] at e2
 exact Dd.raw (Option.some.inj e2) (List.all_eq_true.mp c1 d (List.mem_of_getElem? hd))
end
theorem ck_eq {α:Type} [DecidableEq α] {a b:α} (h:decide (a=b)=true):a=b:=of_decide_eq_true h
theorem ckSeI_ok {c:Str} {K:PySem.W.Frag} (h:ckSeI c K=true):PySem.W.findCls K (.ref (He.ga K c)) (.type "type") "__init__" = some (.val (.builtin "ValueError.__init__")):=by
 unfold ckSeI at h
 split at h
 · rename_i z e
   rw [e,of_decide_eq_true h]
 · cases h
theorem ckX_ok {c:Str} {K:PySem.W.Frag} (h:ckX c K=true):∃ nm q N bs bm sn sub ab col dd k0 k1 k2 k3 k5,K.lookup (He.ga K c)=some (excClassObj nm q (He.ga K c) N bs bm true sn sub ab col dd k0 k1 k2 k3 k5 "ValueError.__new__") ∧ PySem.HandSPX.refsVE bm=true:=by
 unfold ckX at h
 split at h
 · rename_i e
   obtain ⟨a1,h⟩:=and2 h
   obtain ⟨a2,h⟩:=and2 h
   obtain ⟨a3,h⟩:=and2 h
   obtain ⟨a4,h⟩:=and2 h
   obtain ⟨a5,a6⟩:=and2 h
   rw [Bool.not_eq_true'] at a5
   rw [e,of_decide_eq_true a1,of_decide_eq_true a2,of_decide_eq_true a6,a4,a5]
   exact ⟨_,_,_,_,_,_,_,_,_,_,_,_,_,_,_,rfl,a3⟩
 · cases h
end DL
namespace DL
open PySem L2
def RunIl (P:Program) (w:World) (K:PySem.W.Frag) (mg:Str→Option Value) (base:Heap) (fld:Str) (f:Addr) (fd:FuncData) (ps:List Str):Prop :=
 ∀ (A:Around) (outer:List PySem.Env) (s:Shared) (H:Hp) (us:List Value) (x d:Addr) (C dx:Addr) (fs:List (Str × V)) (zs:List V) (Q:VK) (E:XK),Room 1 A→Env0 P w K mg base A outer s H→Vals [V.ref x] us→BindsTo s fd ⟨us,[]⟩ (ps.zip us) →
  H x=some (.ins C dx fs)→Cls K C→NoAttr K C fld→fs.lookup fld=some (.ref d)→SqL K H d zs→(∀ it,s.heap.objs.size ≤ it→H it=none→Q (.ref it) (upd H it (ItO d it 0))) →
  codeAny (model P w) A (.call (.ref f) ⟨us,[]⟩) (CR CX0 outer P w H s Q E) s
structure CalIl (P:Program) (w:World) (K:PySem.W.Frag) (mg:Str→Option Value) (base:Heap) (c fld:Str) (ps:List Str):Prop where
 ex:∃ C f fd,mg c=some (.ref C) ∧ Cls K C ∧ NoAttr K C fld ∧ (PySem.W.findIn K (.ref C) "__iter__" = some (some (.ref f)) ∧ PySem.W.isFn K (.ref f)=true) ∧ Binds K fd ps [] ∧ RunIl P w K mg base fld f fd ps
section
variable {X:Cx} {W:WX} {tg e:Expr} {f:M D} {c fld:Str} {ps:List Str} {j:Nat}
end
section
variable {X:Cx} {g:G} {W:WX} {e:Expr} {es:List Expr} {f fa:M D} {k:Str→M D} {pos:Pos}
end
section
variable {X:Cx} {g:G} {W:WX} {e:Expr} {es:List Expr} {f:M D} {fs:M (List D)} {p:Pos}
end
end DL
namespace DL
open PySem L2
abbrev NX:=Nat→List Cell→Option (Option D)
structure ItW (g:G) (J:It) (nx:NX) (C:Cnd):Prop where
 stop:∀ A B H ω i,Wo g A B H ω→C A B H→nx i ω=some none→J.stop i H
 go:∀ A B H ω i d,Wo g A B H ω→C A B H→nx i ω=some (some d)→J.go i H
 yld:∀ A B H ω i d x H',Wo g A B H ω→C A B H→nx i ω=some (some d)→J.yld i H x H'→Stp A B H A B H' ∧ Wo g A B H' ω ∧ Dp g A B H' x d
def tIX (g:G) (f:M NX):TI:=fun σ H Q=>∃ H0 A B ρ ω nx ω',Fm g H0 A B H ω σ ρ ∧ f ρ ω=some (.val nx ω') ∧ ∀ J C A' B' H',Stp A B H A' B' H'→Wo g A' B' H' ω'→ItW g J nx C→stayM C→C A' B' H'→Q J H'
def nxL (items:List D):NX:=fun i _=>some items[i]?
def nxE (k:Nat):NX:=fun i ω=>match ω[k]? with
 | some (.lst es)=>some (es[i]?.map fun d=>.tup [.int (i:Nat),d])
 | _=>none
def nxS (k:Nat):NX:=fun i ω=>match ω[k]? with
 | some (.lst es)=>some es[i]?
 | _=>none
def enX:D→M NX:=fun d _ ω=>match d with
 | .lst ds=>some (.val (nxL (enumG 0 ds)) ω)
 | .oid k=>match ω[k]? with
  | some (.lst _)=>some (.val (nxE k) ω)
  | _=>none
 | _=>none
def stX:D→M NX:=fun d _ ω=>match d with
 | .oid k=>match ω[k]? with
  | some (.lst _)=>some (.val (nxS k) ω)
  | _=>none
 | _=>none
def xL (l:List D):M NX:=M.pure (nxL l)
theorem itw_of {g:G} {J:It} {items:List D} {C:Cnd} (ib:ItB g J items C):ItW g J (nxL items) C where
 stop:=fun A B H ω i w c e=>ib.stop A B H i c (List.getElem?_eq_none_iff.mp (Option.some.inj e))
 go:=fun A B H ω i d w c e=>ib.go A B H i c (List.getElem?_eq_some_iff.mp (Option.some.inj e)).1
 yld:=fun A B H ω i d x H' w c e y=>by
  have e:items[i]?=some d:=Option.some.inj e
  obtain ⟨d',e',h1,h2,h3⟩:=ib.yld A B H ω i x H' w c (List.getElem?_eq_some_iff.mp e).1 y
  rw [e] at e'
  cases e'
  exact ⟨h1,h2,h3⟩
section
variable {X:Cx} {g:G} {W:WX} {tg e:Expr} {src:M (List D)} {f:M D}
theorem di_xl (h:PI X tg e (tI g W stayM src)):PI X tg e (tIX g (src.bind xL)):=h.dl fun σ H Q ⟨H0,A,B,ρ,ω,nx,ω',fm,e,res⟩=>by
 unfold M.bind at e
 cases q:src ρ ω with
 | none=>rw [q] at e; cases e
 | some z =>
  rw [q] at e
  cases z with
  | exc x w=>cases e
  | val items w =>
   cases e
   exact ⟨H0,A,B,ρ,ω,_,fm,q,fun J C A' B' H' t1 w1 ib st c=>res J C A' B' H' t1 w1 (itw_of ib) st c⟩
theorem itw_enS {g:G} {a:Addr} {k:Nat}:ItW g (Ite g.K a) (nxE k) (fun A _ _=>A[k]?=some (some a) ∨ A[k]?=some none) where
 stop:=fun A B H ω i w c e=>by
  unfold nxE at e
  cases h:ω[k]? with
  | none=>simp only [h] at e; cases e
  | some z =>
   cases z with
   | lst es =>
    simp only [h,Option.some.injEq,Option.map_eq_none_iff] at e
    obtain ⟨_,us,hus,l⟩:=lst_on w h c
    exact ⟨us,SqL.of hus,by rw [l.length]; exact List.getElem?_eq_none_iff.mp e⟩
   | _=>simp only [h] at e; cases e
 go:=fun A B H ω i d w c e=>by
  unfold nxE at e
  cases h:ω[k]? with
  | none=>simp only [h] at e; cases e
  | some z =>
   cases z with
   | lst es =>
    simp only [h,Option.some.injEq] at e
    obtain ⟨_,us,hus,l⟩:=lst_on w h c
    obtain ⟨d',hd,_⟩:=Option.map_eq_some_iff.mp e
    have hlt:i < us.length:=by rw [l.length]; exact (List.getElem?_eq_some_iff.mp hd).1
    exact ⟨us,us[i],SqL.of hus,List.getElem?_eq_getElem hlt⟩
   | _=>simp only [h] at e; cases e
 yld:=fun A B H ω i d x H' w c e y=>by
  unfold nxE at e
  cases h:ω[k]? with
  | none=>simp only [h] at e; cases e
  | some z =>
   cases z with
   | lst es =>
    simp only [h,Option.some.injEq] at e
    obtain ⟨_,us,hus,l⟩:=lst_on w h c
    obtain ⟨d',hd,rfl⟩:=Option.map_eq_some_iff.mp e
    obtain ⟨T,x',rfl,hT,rfl,y⟩:=y
    obtain ⟨d2,e2,hd2⟩:=l.getV (y us (SqL.of hus))
    rw [hd] at e2
    cases e2
    refine ⟨.grow hT,w.grow hT,?_⟩
    exact .tup (w.nb hT) upd_same (.cons (.int _) (.cons (Dp.mv (Mv.grow hT) _ _ hd2) .nil))
   | _=>simp only [h] at e; cases e
theorem itw_stS {g:G} {a:Addr} {k:Nat}:ItW g (Itl g.K a) (nxS k) (fun A _ _=>A[k]?=some (some a) ∨ A[k]?=some none) where
 stop:=fun A B H ω i w c e=>by
  unfold nxS at e
  cases h:ω[k]? with
  | none=>simp only [h] at e; cases e
  | some z =>
   cases z with
   | lst es =>
    simp only [h,Option.some.injEq] at e
    obtain ⟨_,us,hus,l⟩:=lst_on w h c
    exact ⟨us,SqL.of hus,by rw [l.length]; exact List.getElem?_eq_none_iff.mp e⟩
   | _=>simp only [h] at e; cases e
 go:=fun A B H ω i d w c e=>by
  unfold nxS at e
  cases h:ω[k]? with
  | none=>simp only [h] at e; cases e
  | some z =>
   cases z with
   | lst es =>
    simp only [h,Option.some.injEq] at e
    obtain ⟨_,us,hus,l⟩:=lst_on w h c
    have hlt:i < us.length:=by rw [l.length]; exact (List.getElem?_eq_some_iff.mp e).1
    exact ⟨us,us[i],SqL.of hus,List.getElem?_eq_getElem hlt⟩
   | _=>simp only [h] at e; cases e
 yld:=fun A B H ω i d x H' w c e y=>by
  unfold nxS at e
  cases h:ω[k]? with
  | none=>simp only [h] at e; cases e
  | some z =>
   cases z with
   | lst es =>
    simp only [h,Option.some.injEq] at e
    obtain ⟨_,us,hus,l⟩:=lst_on w h c
    obtain ⟨rfl,y⟩:=y
    obtain ⟨d2,e2,hd2⟩:=l.getV (y us (SqL.of hus))
    rw [e] at e2
    cases e2
    exact ⟨.refl _ _ _,w,hd2⟩
   | _=>simp only [h] at e; cases e
theorem stay_ids {k:Nat} {a:Addr}:stayM (fun A _ _=>A[k]?=some (some a) ∨ A[k]?=some none):=fun A B H A' B' H' m c=>by
 rcases c with c | c
 · exact m.ids k _ c
 · rcases m.ids k _ c with z | z <;> exact .inr z
theorem di_enX {elts:List Expr} {kk:Nat} {p pos tpos:Pos} (hK:X.K=g.K) (hg:Gl X "enumerate") (hm:X.mg "enumerate" = none) (he:PE X e (tM g rD W f)) (hs:starEach [e] X.env=[(false,eval e X.env)]:=by rfl) (hst:starEach [e] X.env=(false,eval e X.env) :: starEach [] X.env:=by rfl) :
  PI X (.Tuple elts kk tpos) (.Call (.Name "enumerate" p) [e] [] pos) (tIX g (f.bind enX)) :=
 (pi_enum hg hm (pa_cons he pa_nil hst) hs).dl fun σ H Q ⟨H0,A,B,ρ,ω,nx,ω',fm,e,res⟩=>by
  unfold M.bind at e
  cases q:f ρ ω with
  | none=>rw [q] at e; cases e
  | some z =>
   rw [q] at e
   cases z with
   | exc x w=>cases e
   | val d ω1 =>
    simp only at e
    refine tM_val fm q fun v A1 B1 H1 t1 w1 r1=>?_
    rw [hK]
    unfold enX at e
    cases d with
    | lst ds =>
     cases r1 with
     | @lst a vs _ n h l =>
      cases e
      refine ⟨a,vs,rfl,SqL.of h,res _ (fun A B H=>¬ B a ∧ H a=some (.lst vs) ∧ DpL g A B H vs ds) A1 B1 H1 t1 w1 (itw_of (itb_enum _ fun A B H c=>⟨SqL.of c.2.1,c.2.2⟩)) (fun A B H A' B' H' m c=>?_) ⟨n,h,l⟩⟩
      exact ⟨(m.cell a _ c.1 c.2.1).2,(m.cell a _ c.1 c.2.1).1,DpL.mv m _ _ c.2.2⟩
    | oid k =>
     simp only at e
     cases h:ω1[k]? with
     | none=>simp only [h] at e; cases e
     | some z =>
      cases z with
      | lst es =>
       simp only [h] at e
       cases e
       obtain ⟨a,us,rfl,ha,hus,l⟩:=lst_liv w1 h r1
       exact ⟨a,us,rfl,SqL.of hus,res _ _ A1 B1 H1 t1 w1 itw_enS stay_ids (.inl ha)⟩
      | _=>simp only [h] at e; cases e
    | _=>cases e
theorem di_stX (hK:X.K=g.K) (he:PE X e (tM g rD W f)):PI X tg e (tIX g (f.bind stX)) :=
 (pi_list he).dl fun σ H Q ⟨H0,A,B,ρ,ω,nx,ω',fm,e,res⟩=>by
  unfold M.bind at e
  cases q:f ρ ω with
  | none=>rw [q] at e; cases e
  | some z =>
   rw [q] at e
   cases z with
   | exc x w=>cases e
   | val d ω1 =>
    simp only at e
    refine tM_val fm q fun v A1 B1 H1 t1 w1 r1=>?_
    rw [hK]
    unfold stX at e
    cases d with
    | oid k =>
     simp only at e
     cases h:ω1[k]? with
     | none=>simp only [h] at e; cases e
     | some z =>
      cases z with
      | lst es =>
       simp only [h] at e
       cases e
       obtain ⟨a,us,rfl,ha,hus,l⟩:=lst_liv w1 h r1
       exact ⟨a,rfl,⟨us,SqL.of hus⟩,res _ _ A1 B1 H1 t1 w1 itw_stS stay_ids (.inl ha)⟩
      | _=>simp only [h] at e; cases e
    | _=>cases e
end
section
variable (vs vs1:List Nat) (T:TT1) (t:M Bool) (src1:M NX) (T1:TT1) (t1:M Bool) (f:M D)
def lc2J (nx:NX) (ρ2:Rho):Nat→Nat→List D→List Cell→Option (List D × List Cell)
 | 0,_,_,_=>none
 | n + 1,j,acc,ω=>match nx j ω with
  | none=>none
  | some none=>some (acc,ω)
  | some (some d)=>match T1 d (wipeE ρ2 vs1) ω with
   | none=>none
   | some ρ3=>match t1 ρ3 ω with
    | some (.val true ω1)=>match f ρ3 ω1 with
     | some (.val y ω2)=>if acc.length < sizeLine then lc2J nx ρ2 n (j + 1) (acc ++ [y]) ω2 else none
     | _=>none
    | some (.val false ω1)=>lc2J nx ρ2 n (j + 1) acc ω1
    | _=>none
def lc2I (nx:NX) (ρ:Rho):Nat→Nat→List D→List Cell→Option (List D × List Cell)
 | 0,_,_,_=>none
 | n + 1,i,acc,ω=>match nx i ω with
  | none=>none
  | some none=>some (acc,ω)
  | some (some d)=>match T d (wipeE ρ vs) ω with
   | none=>none
   | some ρ2=>match t ρ2 ω with
    | some (.val true ω1)=>match src1 ρ2 ω1 with
     | some (.val nx1 ω2)=>match lc2J vs1 T1 t1 f nx1 ρ2 100000 0 acc ω2 with
      | some (acc',ω3)=>lc2I nx ρ n (i + 1) acc' ω3
      | none=>none
     | _=>none
    | some (.val false ω1)=>lc2I nx ρ n (i + 1) acc ω1
    | _=>none
def lc2M (src:M NX):M (List D):=fun ρ ω=>match src ρ ω with
 | some (.val nx ω')=>match lc2I vs vs1 T t src1 T1 t1 f nx ρ 100000 0 [] ω' with
  | some (ds,ω2)=>some (.val ds ω2)
  | none=>none
 | _=>none
end
def Tow (T:TT1):Prop:=∀ d ρ ω ρ2,T d ρ ω=some ρ2→∀ (i:Nat) (ds:List D),ρ2[i]?=some (.ow ds)→ρ[i]?=some (.ow ds)
theorem tow_nm (k:Nat):Tow (nmT k):=fun d ρ ω ρ2 e i ds h=>by
 cases e
 rw [List.getElem?_set] at h
 split at h
 · split at h <;> cases h
 · exact h
theorem wipeE_ow {ρ:Rho} {i:Nat} {ds:List D}:∀ {vs:List Nat},(wipeE ρ vs)[i]?=some (.ow ds)→ρ[i]?=some (.ow ds) ∧ i ∉ vs
 | [],h=>⟨h,by simp⟩
 | v :: vs,h=>by
  have h:((wipeE ρ vs).set v .no)[i]?=some (.ow ds):=h
  rw [List.getElem?_set] at h
  split at h
  · split at h <;> cases h
  · rename_i hne
    obtain ⟨h1,h2⟩:=wipeE_ow h
    exact ⟨h1,fun z=>by
     rcases List.mem_cons.mp z with z | z
     · exact hne z.symm
     · exact h2 z⟩
theorem wipe_eq {is vs:List Nat} {σ σ2:St} (so:SOut is (wipe σ vs) σ2) (hv:∀ i ∈ is,i ∈ vs):wipe σ2 vs=wipe σ vs:=by
 rw [so.wipe hv]
 refine List.ext_getElem? fun j=>?_
 by_cases hj:j ∈ vs
 · rw [wipe_in hj,wipe_in hj,wipe_length]
 · rw [wipe_notin hj]
theorem no_sub {is vs:List Nat} {σ σ2:St} {ρ ρ2:Rho} {T:TT1} {d:D} {ω:List Cell} {L:Addr} (so:SOut is (wipe σ vs) σ2) (hv:∀ i ∈ is,i ∈ vs) (ht:Tow T) (e:T d (wipeE ρ vs) ω=some ρ2)
  (no:∀ (i:Nat) (ds:List D),ρ[i]?=some (.ow ds)→σ[i]? ≠ some (some (.ref L))):∀ (i:Nat) (ds:List D),ρ2[i]?=some (.ow ds)→σ2[i]? ≠ some (some (.ref L)):=fun i ds h=>by
 obtain ⟨h1,h2⟩:=wipeE_ow (ht d _ ω ρ2 e i ds h)
 rw [so.2 i fun z=>h2 (hv i z),wipe_notin h2]
 exact no i ds h1
section
variable {g:G} {W:WX}
theorem tLc2_of {src src1:M NX} {T T1:TT1} {t t1:M Bool} {f:M D} {is is1 vs vs1:List Nat} (hv:∀ i ∈ is,i ∈ vs) (hv1:∀ i ∈ is1,i ∈ vs1) (hT:Tow T) (hT1:Tow T1):∀ σ H Q,tN g W (lc2M vs vs1 T t src1 T1 t1 f src) σ H Q →
  tLc2 (tIX g src) (tGM g is T) (tM g rB W0 t) (tIX g src1) (tGM g is1 T1) (tM g rB W0 t1) (tM g rD W0 f) vs vs1 σ H Q:=by
 rintro σ H Q ⟨H0,A,B,ρ,ω,r,fm,e,res⟩
 unfold lc2M at e
 cases q:src ρ ω with
 | none=>simp only [q] at e; cases e
 | some z =>
  cases z with
  | exc x w=>simp only [q] at e; cases e
  | val nx ω1 =>
   simp only [q] at e
   cases q2:lc2I vs vs1 T t src1 T1 t1 f nx ρ 100000 0 [] ω1 with
   | none=>simp only [q2] at e; cases e
   | some z =>
    obtain ⟨out,ω9⟩:=z
    simp only [q2] at e
    cases e
    refine ⟨H0,A,B,ρ,ω,nx,ω1,fm,q,fun J C A1 B1 H1 s1 w1 ib st c L hL=>?_⟩
    have fm1:=fm.up s1 w1
    have hL0:H L=none:=s1.none hL
    have no:∀ (i:Nat) (ds:List D),ρ[i]?=some (.ow ds)→σ[i]? ≠ some (some (.ref L)):=fun i ds ei z=>by
     obtain ⟨p,ws,e1,e2,_⟩:=fm.sl.val i _ ei
     rw [z] at e1
     cases e1
     rw [hL0] at e2; cases e2
    refine ⟨fun i m H'=>∃ A' B' ω' acc ws,Stp A1 B1 H1 A' B' H' ∧ Fm g H0 A' B' H' ω' σ ρ ∧ H' L=some (.lst ws) ∧ DpL g A' B' H' ws acc ∧ B' L ∧ ¬ Liv A' L ∧ lc2I vs vs1 T t src1 T1 t1 f nx ρ m i acc ω'=some (out,ω9),
     ⟨100000,A1,_,ω1,[],[],(Stp.refl A1 B1 H1).alloc hL,fm1.up ((Stp.refl A1 B1 H1).alloc hL) (w1.plus hL),upd_same,.nil,.inr rfl,fun z=>w1.nb hL (w1.liv L z),q2⟩,?_⟩
    rintro i m H' ⟨A',B',ω',acc,ws,s',fm',hLs,l,hb,nl,e⟩
    cases m with
    | zero=>cases e
    | succ m =>
     unfold lc2I at e
     have c':C A' B' H':=st _ _ _ _ _ _ (w1.mv s') c
     cases qn:nx i ω' with
     | none=>simp only [qn] at e; cases e
     | some o =>
      cases o with
      | none =>
       simp only [qn] at e
       cases e
       exact .inl ⟨ib.stop _ _ _ _ _ fm'.wo c' qn,res L ws A' B' H' (s1.trans s') fm'.wo hLs l hb nl hL0⟩
      | some d =>
       simp only [qn] at e
       refine .inr ⟨ib.go A' B' H' ω' i d fm'.wo c' qn,fun H'=>∃ A' B' ω' acc ws,Stp A1 B1 H1 A' B' H' ∧ Fm g H0 A' B' H' ω' σ ρ ∧ H' L=some (.lst ws) ∧ DpL g A' B' H' ws acc ∧ B' L ∧ ¬ Liv A' L ∧ lc2I vs vs1 T t src1 T1 t1 f nx ρ m (i + 1) acc ω'=some (out,ω9),fun H' p=>⟨m,by omega,p⟩,fun x H2 y=>?_⟩
       obtain ⟨t2,w2,dp⟩:=ib.yld A' B' H' ω' i d x H2 fm'.wo c' qn y
       have fm2:=fm'.up t2 w2
       cases qT:T d (wipeE ρ vs) ω' with
       | none=>simp only [qT] at e; cases e
       | some ρ2 =>
        simp only [qT] at e
        refine ⟨H0,A',B',wipeE ρ vs,ω',d,ρ2,⟨fm2.wo,fm2.sl.wipe vs⟩,dp,qT,fun σ2 fm3 so=>⟨wipe_eq so hv,?_⟩⟩
        have no2:=no_sub so hv hT qT no
        cases qt:t ρ2 ω' with
        | none=>simp only [qt] at e; cases e
        | some z =>
         cases z with
         | exc x ω5=>simp only [qt] at e; cases e
         | val b ω3 =>
          refine tM_val fm3 qt fun v A3 B3 H3 t3 w3 rl=>?_
          cases rl
          have fm4:=fm2.up t3 w3
          have fm4':=fm3.up t3 w3
          have hL2:H2 L=some (.lst ws):=t2.keep L _ hLs nl
          have hL3:H3 L=some (.lst ws):=t3.keep L _ hL2 nl
          have nl3:¬ Liv A3 L:=fun z=>by
           rcases t3.new L z with z | z
           · exact nl z
           · rw [hL2] at z; cases z
          have hb3:B3 L:=(t3.old L _ hL2 nl).mpr hb
          have l3:DpL g A3 B3 H3 ws acc:=DpL.mv (fm2.wo.mv t3) _ _ (DpL.mv (fm'.wo.mv t2) _ _ l)
          have s3:=(s'.trans t2).trans t3
          cases b with
          | false =>
           rw [if_neg Bool.false_ne_true]
           simp only [qt] at e
           exact ⟨A3,B3,ω3,acc,ws,s3,fm4,hL3,l3,hb3,nl3,e⟩
          | true =>
           rw [if_pos rfl]
           simp only [qt] at e
           cases qs:src1 ρ2 ω3 with
           | none=>simp only [qs] at e; cases e
           | some z =>
            cases z with
            | exc x ω5=>simp only [qs] at e; cases e
            | val nx1 ω4 =>
             simp only [qs] at e
             cases qj:lc2J vs1 T1 t1 f nx1 ρ2 100000 0 acc ω4 with
             | none=>simp only [qj] at e; cases e
             | some z =>
              obtain ⟨acc',ω8⟩:=z
              simp only [qj] at e
              refine ⟨H0,A3,B3,ρ2,ω3,nx1,ω4,fm4',qs,fun J1 C1 A4 B4 H4 t4 w4 ib1 st1 c1=>?_⟩
              have fm5:=fm4.up t4 w4
              have fm5':=fm4'.up t4 w4
              have hL4:H4 L=some (.lst ws):=t4.keep L _ hL3 nl3
              have nl4:¬ Liv A4 L:=fun z=>by
               rcases t4.new L z with z | z
               · exact nl3 z
               · rw [hL3] at z; cases z
              have hb4:B4 L:=(t4.old L _ hL3 nl3).mpr hb3
              have l4:DpL g A4 B4 H4 ws acc:=DpL.mv (fm4.wo.mv t4) _ _ l3
              refine ⟨fun j k H'=>∃ A' B' ω' acc ws,Stp A1 B1 H1 A' B' H' ∧ C1 A' B' H' ∧ Fm g H0 A' B' H' ω' σ ρ ∧ Fm g H0 A' B' H' ω' σ2 ρ2 ∧ H' L=some (.lst ws) ∧ DpL g A' B' H' ws acc ∧ B' L ∧ ¬ Liv A' L ∧ lc2J vs1 T1 t1 f nx1 ρ2 k j acc ω'=some (acc',ω8),
               ⟨100000,A4,B4,ω4,acc,ws,s3.trans t4,c1,fm5,fm5',hL4,l4,hb4,nl4,qj⟩,?_⟩
              rintro j k H6 ⟨A6,B6,ω6,acc6,ws6,s6,c6,fm6,fm6',hL6,l6,hb6,nl6,e6⟩
              cases k with
              | zero=>cases e6
              | succ k =>
               unfold lc2J at e6
               cases qn1:nx1 j ω6 with
               | none=>simp only [qn1] at e6; cases e6
               | some o =>
                cases o with
                | none =>
                 simp only [qn1] at e6
                 cases e6
                 exact .inl ⟨ib1.stop _ _ _ _ _ fm6.wo c6 qn1,A6,B6,_,_,ws6,s6,fm6,hL6,l6,hb6,nl6,e⟩
                | some d1 =>
                 simp only [qn1] at e6
                 refine .inr ⟨ib1.go A6 B6 H6 ω6 j d1 fm6.wo c6 qn1,fun H'=>∃ A' B' ω' acc ws,Stp A1 B1 H1 A' B' H' ∧ C1 A' B' H' ∧ Fm g H0 A' B' H' ω' σ ρ ∧ Fm g H0 A' B' H' ω' σ2 ρ2 ∧ H' L=some (.lst ws) ∧ DpL g A' B' H' ws acc ∧ B' L ∧ ¬ Liv A' L ∧ lc2J vs1 T1 t1 f nx1 ρ2 k (j + 1) acc ω'=some (acc',ω8),fun H' p=>⟨k,by omega,p⟩,fun x1 H7 y1=>?_⟩
                 obtain ⟨t7,w7,dp7⟩:=ib1.yld A6 B6 H6 ω6 j d1 x1 H7 fm6.wo c6 qn1 y1
                 have fm7:=fm6.up t7 w7
                 have fm7':=fm6'.up t7 w7
                 cases qT1:T1 d1 (wipeE ρ2 vs1) ω6 with
                 | none=>simp only [qT1] at e6; cases e6
                 | some ρ3 =>
                  simp only [qT1] at e6
                  refine ⟨H0,A6,B6,wipeE ρ2 vs1,ω6,d1,ρ3,⟨fm7'.wo,fm7'.sl.wipe vs1⟩,dp7,qT1,fun σ3 fm8 so1=>⟨wipe_eq so1 hv1,?_⟩⟩
                  have hL7:H7 L=some (.lst ws6):=t7.keep L _ hL6 nl6
                  have l7:DpL g A6 B6 H7 ws6 acc6:=DpL.mv (fm6.wo.mv t7) _ _ l6
                  cases qt1:t1 ρ3 ω6 with
                  | none=>simp only [qt1] at e6; cases e6
                  | some z =>
                   cases z with
                   | exc x ω5=>simp only [qt1] at e6; cases e6
                   | val b ω10 =>
                    refine tM_val fm8 qt1 fun v A10 B10 H10 t10 w10 rl=>?_
                    cases rl
                    have fm10:=fm7.up t10 w10
                    have fm10':=fm7'.up t10 w10
                    have fm10s:=fm8.up t10 w10
                    have hL10:H10 L=some (.lst ws6):=t10.keep L _ hL7 nl6
                    have nl10:¬ Liv A10 L:=fun z=>by
                     rcases t10.new L z with z | z
                     · exact nl6 z
                     · rw [hL7] at z; cases z
                    have hb10:B10 L:=(t10.old L _ hL7 nl6).mpr hb6
                    have l10:DpL g A10 B10 H10 ws6 acc6:=DpL.mv (fm7.wo.mv t10) _ _ l7
                    have s10:=(s6.trans t7).trans t10
                    have c10:C1 A10 B10 H10:=st1 _ _ _ _ _ _ (fm7.wo.mv t10) (st1 _ _ _ _ _ _ (fm6.wo.mv t7) c6)
                    cases b with
                    | false =>
                     rw [if_neg Bool.false_ne_true]
                     simp only [qt1] at e6
                     exact ⟨A10,B10,ω10,acc6,ws6,s10,c10,fm10,fm10',hL10,l10,hb10,nl10,e6⟩
                    | true =>
                     rw [if_pos rfl]
                     simp only [qt1] at e6
                     cases qf:f ρ3 ω10 with
                     | none=>simp only [qf] at e6; cases e6
                     | some z =>
                      cases z with
                      | exc x ω5=>simp only [qf] at e6; cases e6
                      | val y' ω11 =>
                       simp only [qf] at e6
                       refine tM_val fm10s qf fun v A11 B11 H11 t11 w11 rl=>?_
                       split at e6
                       · rename_i hz
                         have hL11:H11 L=some (.lst ws6):=t11.keep L _ hL10 nl10
                         have nl11:¬ Liv A11 L:=fun z=>by
                          rcases t11.new L z with z | z
                          · exact nl10 z
                          · rw [hL10] at z; cases z
                         have hb11:B11 L:=(t11.old L _ hL10 nl10).mpr hb10
                         have l11:DpL g A11 B11 H11 ws6 acc6:=DpL.mv (fm10.wo.mv t11) _ _ l10
                         obtain ⟨fm12,m12⟩:=(fm10.up t11 w11).bump (o:=.lst (ws6 ++ [v])) hb11 nl11 no (frz_not hL11)
                         obtain ⟨fm12',_⟩:=(fm10'.up t11 w11).bump (o:=.lst (ws6 ++ [v])) hb11 nl11 no2 (frz_not hL11)
                         have c11:C1 A11 B11 (upd H11 L (.lst (ws6 ++ [v]))):=st1 _ _ _ _ _ _ m12 (st1 _ _ _ _ _ _ (fm10.wo.mv t11) c10)
                         exact ⟨ws6,hL11,by rw [l11.length]; exact hz,A11,B11,ω11,acc6 ++ [y'],ws6 ++ [v],(s10.trans t11).own hL nl11,c11,fm12,fm12',upd_same,DpL.mv m12 _ _ (l11.append (.cons rl .nil)),hb11,nl11,e6⟩
                       · cases e6
end
section
variable {X:Cx} {g:G} {n:En} {W:WX} {elt tg iter tg1 iter1:Expr} {ifs ifs1:List Expr} {scope:Scope} {own:List (Str × Nat)} {src src1:M NX} {T T1:TT1} {t t1:M Bool} {f:M D} {is is1 vs1:List Nat} {pos spos py:Pos} {i:Nat} {y:Str}
theorem dn_lc2 (hc:X.calm=true) (hN:X.N.Nodup) (hi:PI X tg iter (tIX g src)) (ok:BlkOk X.N X.env.scope scope own) (hv:∀ i ∈ is,i ∈ own.map (·.2)) (hv1:∀ i ∈ is1,i ∈ vs1) (hvo:∀ i ∈ vs1,i ∈ own.map (·.2)) (hT:Tow T) (hT1:Tow T1)
  (hg:∀ (s:Shared) (H:Hp) (C:Addr) (cl:List (Str × Addr)) (fp:List Addr),PG (X.blk s H scope (compEnvC scope cl C X.env) fp) tg (tGM g is T))
  (ht:∀ (s:Shared) (H:Hp) (C:Addr) (cl:List (Str × Addr)) (fp:List Addr),PTs (X.blk s H scope (compEnvC scope cl C X.env) fp) ifs (tM g rB W0 t))
  (hi1:∀ (s:Shared) (H:Hp) (C:Addr) (cl:List (Str × Addr)) (fp:List Addr),PI (X.blk s H scope (compEnvC scope cl C X.env) fp) tg1 iter1 (tIX g src1))
  (hg1:∀ (s:Shared) (H:Hp) (C:Addr) (cl:List (Str × Addr)) (fp:List Addr),PG (X.blk s H scope (compEnvC scope cl C X.env) fp) tg1 (tGM g is1 T1))
  (ht1:∀ (s:Shared) (H:Hp) (C:Addr) (cl:List (Str × Addr)) (fp:List Addr),PTs (X.blk s H scope (compEnvC scope cl C X.env) fp) ifs1 (tM g rB W0 t1))
  (he:∀ (s:Shared) (H:Hp) (C:Addr) (cl:List (Str × Addr)) (fp:List Addr),PE (X.blk s H scope (compEnvC scope cl C X.env) fp) elt (tM g rD W0 f)) (hs:∀ x,foldedSetIterable iter X.env x=pure x:=by intro _; rfl) (hs1:∀ env x,foldedSetIterable iter1 env x=pure x:=by intro _ _; rfl) :
  PE X (.ListComp elt [⟨tg,iter,ifs,0⟩,⟨tg1,iter1,ifs1,0⟩] scope pos) (tN g W (lc2M (own.map (·.2)) vs1 T t src1 T1 t1 f src)) :=
 (pe_lc2 hc hN hi ok hvo hg ht hi1 hg1 ht1 he hs hs1).dl (tLc2_of hv hv1 hT hT1)
theorem ds_setLc2 (hc:X.calm=true) (hN:X.N.Nodup) (hy:X.N[i]?=some y) (hyl:X.env.scope.names.lookup y=some .local) (hsw:swapsWith (.ListComp elt [⟨tg,iter,ifs,0⟩,⟨tg1,iter1,ifs1,0⟩] scope pos) (some (.Name y py)) spos.line X.env=pure true)
  (hi:PI X tg iter (tIX g src)) (ok:BlkOk X.N X.env.scope scope own) (hv:∀ i ∈ is,i ∈ own.map (·.2)) (hv1:∀ i ∈ is1,i ∈ vs1) (hvo:∀ i ∈ vs1,i ∈ own.map (·.2)) (hT:Tow T) (hT1:Tow T1)
  (hg:∀ (s:Shared) (H:Hp) (C:Addr) (cl:List (Str × Addr)) (fp:List Addr),PG (X.blk s H scope (compEnvC scope cl C X.env) fp) tg (tGM g is T))
  (ht:∀ (s:Shared) (H:Hp) (C:Addr) (cl:List (Str × Addr)) (fp:List Addr),PTs (X.blk s H scope (compEnvC scope cl C X.env) fp) ifs (tM g rB W0 t))
  (hi1:∀ (s:Shared) (H:Hp) (C:Addr) (cl:List (Str × Addr)) (fp:List Addr),PI (X.blk s H scope (compEnvC scope cl C X.env) fp) tg1 iter1 (tIX g src1))
  (hg1:∀ (s:Shared) (H:Hp) (C:Addr) (cl:List (Str × Addr)) (fp:List Addr),PG (X.blk s H scope (compEnvC scope cl C X.env) fp) tg1 (tGM g is1 T1))
  (ht1:∀ (s:Shared) (H:Hp) (C:Addr) (cl:List (Str × Addr)) (fp:List Addr),PTs (X.blk s H scope (compEnvC scope cl C X.env) fp) ifs1 (tM g rB W0 t1))
  (he:∀ (s:Shared) (H:Hp) (C:Addr) (cl:List (Str × Addr)) (fp:List Addr),PE (X.blk s H scope (compEnvC scope cl C X.env) fp) elt (tM g rD W0 f)) (hs:∀ x,foldedSetIterable iter X.env x=pure x:=by intro _; rfl) (hs1:∀ env x,foldedSetIterable iter1 env x=pure x:=by intro _ _; rfl) :
  PS X (.Assign [.Name y py] (.ListComp elt [⟨tg,iter,ifs,0⟩,⟨tg1,iter1,ifs1,0⟩] scope pos) spos) (tS g n W (setO i (lc2M (own.map (·.2)) vs1 T t src1 T1 t1 f src))) :=
 (ps_setLc2 hc hN hy hyl hsw hi ok hvo hg ht hi1 hg1 ht1 he hs hs1).dl fun D σ H h=>tLc2_of hv hv1 hT hT1 σ H _ (tN_setO h)
end
end DL
namespace DL
open PySem L2
section
open PyProof.Rows hiding St
open PySem.Spec HotX
variable {X:Cx} {pins:List (Addr × Obj)} {σ:St} {H:Hp} {s:Shared}
end
section
variable {X:Cx} {n:En} {W:WX} {c0 c f:Str} {e:Expr} {fm:M D} {p p2 pos cpos:Pos} {ps:List Str} {k j:Nat}
end
end DL
namespace DL
open PySem PySem.Spec PyProof.Rows L2
structure Lam1 (scope:Scope) (x:Str):Prop where
 kind:scope.kind=.function
 co:scope.isCoroutine=false
 gen:scope.isGenerator=false
 cell:∀ y ∈ scope.names,y.2 ≠ .cell
 free:∀ y ∈ scope.names,y.2 ≠ .free
 own:scope.names.lookup x=some .local
structure LamH (h:Heap) (mg mb:Str→Option Value):Prop where
 g:h.Ns mainGlobals mg
 b:h.Ns builtinsNs mb
 lim:h.NoLimit
section
variable {prog:Program} {w:World} {A:Around} {s:Shared} {R:Result→Shared→Prop} {f a c':Addr} {q x:Str} {params:Arguments} {body:Expr} {scope:Scope} {pm ctv u:Value} {mg mb:Str→Option Value}
end
section
variable {prog:Program} {w:World} {A:Around} {E:Value→Shared→Prop} {s:Shared} {Q:Value→Shared→Prop} {f c' L:Addr} {q x:Str} {scope:Scope} {u:Value} {mg mb:Str→Option Value} {its:Array Value}
end
section
variable {X:Cx} {pins:List (Addr × Obj)} {s:Shared} {σ:L2.St} {H:Hp} {a f c':Addr} {xs:List V} {nss:List (List Int)} {q x:Str} {params:Arguments} {scope:Scope} {p1 p2 p3 p4 p5:Pos} {x1:Nat} {Q:VK}
end
end DL
namespace DL
open PySem PySem.Spec PyProof.Rows L2
def LamAt (H:Hp) (P:Addr) (q:Str) (ps:Array Value) (lo:Addr→Addr→HO) (f c':Addr) (H1:Hp):Prop :=
 H f=none ∧ f ≠ c' ∧
  ((H c'=none ∧ ∃ ps':Array Value,TriplesOk ps'.toList ∧ (∀ (pos:Pos) (cv:Value),codeAmong pos ps'.toList=some cv→codeAmong pos ps.toList=some cv ∨ cv=.ref c') ∧ H1=upd (upd (upd H P (.tbl ps')) c' (LamX.CodeO c' q)) f (lo f c')) ∨
   (H c'=some (LamX.CodeO c' q) ∧ H1=upd H f (lo f c')))
theorem LamAt.obj {H H1:Hp} {P f c':Addr} {q:Str} {ps:Array Value} {lo:Addr→Addr→HO} (l:LamAt H P q ps lo f c' H1):H1 f=some (lo f c') ∧ H1 c'=some (LamX.CodeO c' q):=by
 obtain ⟨nf,ne,⟨nc,ps',_,_,rfl⟩ | ⟨hc,rfl⟩⟩:=l
 · exact ⟨upd_same,by rw [upd_ne ne.symm,upd_same]⟩
 · exact ⟨upd_same,by rw [upd_ne ne.symm]; exact hc⟩
theorem ne_of_some_tbl {H:Hp} {c P:Addr} {q:Str} {ps:Array Value} (h:H c=some (LamX.CodeO c q)) (h2:H P=some (.tbl ps)):c ≠ P:=fun z=>by
 subst z
 rw [h] at h2
 exact LamX.codeO_ne ps (Option.some.inj h2)
theorem LamAt.fm {g:G} {A:Ad} {B:Addr→Prop} {H H0 H1:Hp} {ω:List Cell} {σ:L2.St} {ρ:Rho} {k:Nat} {P f c':Addr} {nm:Str} {ps:Array Value} {lo:Addr→Addr→HO} {cd:Value} (l:LamAt H P (nm ++ ".<locals>.<lambda>") ps lo f c' H1) (fm:Fm g H0 A B H ω σ ρ) (hA:A[k]?=some (some P)) (hk:ω[k]?=some (.tbl nm))
  (h1:codeK g nm=some cd) (h2:tabK g.K cd=some P) (hP:H P=some (.tbl ps)) (hc:∀ (pos:Pos) (cv:Value),codeAmong pos ps.toList=some cv→∃ c,cv=.ref c ∧ ¬ B c ∧ H c=some (LamX.CodeO c (nm ++ ".<locals>.<lambda>"))) :
  Stp A B H A B H1 ∧ Fm g H0 A B H1 ω σ ρ:=by
 obtain ⟨nf,ne,⟨nc,ps',ht,hcs,rfl⟩ | ⟨hco,rfl⟩⟩:=l
 · have nPc:P ≠ c':=ne_of_none hP nc
   have s1:Stp A B H A B (upd H c' (LamX.CodeO c' (nm ++ ".<locals>.<lambda>"))):=Stp.grow nc
   have fm1:=fm.up s1 (fm.wo.grow nc)
   have e1:upd (upd H P (.tbl ps')) c' (LamX.CodeO c' (nm ++ ".<locals>.<lambda>"))=upd (upd H c' (LamX.CodeO c' (nm ++ ".<locals>.<lambda>"))) P (.tbl ps'):=by
    funext b
    by_cases hb:b=c'
    · rw [hb,upd_same,upd_ne nPc.symm,upd_same]
    · rw [upd_ne hb]
      by_cases hb2:b=P
      · rw [hb2,upd_same,upd_same]
      · rw [upd_ne hb2,upd_ne hb2,upd_ne hb]
   rw [e1]
   have hP1:upd H c' (LamX.CodeO c' (nm ++ ".<locals>.<lambda>")) P=some (.tbl ps):=by rw [upd_ne nPc]; exact hP
   have nz:∀ (o:Obj) (u:HO),upd H c' (LamX.CodeO c' (nm ++ ".<locals>.<lambda>")) P ≠ some (.frz o u):=fun o u z=>by rw [hP1] at z; cases z
   obtain ⟨fm2,m2⟩:=fm1.cellW (u:=.tbl ps') (c:=.tbl nm) hA nz fun H' kp hu m=>⟨cd,ps',h1,h2,hu,ht,fun pos cv hcv=>by
    rcases hcs pos cv hcv with z | z
    · obtain ⟨c,e,nb,q⟩:=hc pos cv z
      exact ⟨c,e,nb,kp c _ (ne_of_some_tbl (by rw [upd_ne (ne_of_none q nc)]; exact q) hP1) (by rw [upd_ne (ne_of_none q nc)]; exact q)⟩
    · exact ⟨c',z,fm.wo.nb nc,kp c' _ nPc.symm upd_same⟩⟩
   have eω:ω.set k (.tbl nm)=ω:=by
    apply List.ext_getElem?
    intro j
    rw [List.getElem?_set]
    split
    · rename_i e
      subst e
      have hl:k < ω.length:=by
       rcases Nat.lt_or_ge k ω.length with q | q
       · exact q
       · rw [List.getElem?_eq_none q] at hk; cases hk
      rw [if_pos hl,hk]
    · rfl
   rw [eω] at fm2
   have s2:Stp A B H A B (upd (upd H c' (LamX.CodeO c' (nm ++ ".<locals>.<lambda>"))) P (.tbl ps')):=s1.cellW (Liv.of hA) nz
   have nf2:upd (upd H c' (LamX.CodeO c' (nm ++ ".<locals>.<lambda>"))) P (.tbl ps') f=none:=by
    rw [upd_ne (ne_of_none hP nf).symm,upd_ne ne]; exact nf
   have s3:Stp A B (upd (upd H c' (LamX.CodeO c' (nm ++ ".<locals>.<lambda>"))) P (.tbl ps')) A B (upd (upd (upd H c' (LamX.CodeO c' (nm ++ ".<locals>.<lambda>"))) P (.tbl ps')) f (lo f c')):=Stp.grow nf2
   exact ⟨s2.trans s3,fm2.up s3 (fm2.wo.grow nf2)⟩
 · have s1:Stp A B H A B (upd H f (lo f c')):=Stp.grow nf
   exact ⟨s1,fm.up s1 (fm.wo.grow nf)⟩
def intsT:List D→Option (List Int)
 | []=>some []
 | .int i :: r=>(intsT r).map (i :: ·)
 | _ :: _=>none
def tupN:D→Option (List Int)
 | .tup ds=>intsT ds
 | _=>none
theorem intsT_eq:∀ {ds:List D} {ns:List Int},intsT ds=some ns→ds=ns.map D.int
 | [],ns,h=>by cases h; rfl
 | d :: r,ns,h=>by
  cases d with
  | int i =>
   simp only [intsT] at h
   cases z:intsT r with
   | none=>rw [z] at h; cases h
   | some m=>rw [z] at h; cases h; rw [intsT_eq z]; rfl
  | _=>cases h
theorem DpL.ints_eq {g:G} {A:Ad} {B:Addr→Prop} {H:Hp}:∀ {ns:List Int} {vs:List V},DpL g A B H vs (ns.map D.int)→vs=ns.map V.int
 | [],_,h=>by cases h; rfl
 | n :: ns,_,h=>by cases h with | cons h1 h2=>cases h1; rw [DpL.ints_eq h2]; rfl
section
variable {X:Cx} {g:G} {W:WX} {e:Expr} {fa:M D} {p pos lpos kpos p1 p2 p3 p4 p5:Pos} {x1 k:Nat} {c P:Addr} {nm x:Str} {params:Arguments} {scope:Scope}
end
end DL
namespace DL
open PySem L2
structure LamTab (K:PySem.W.Frag) (mg:Str→Option Value) (base:Heap) (nm:Str):Prop where
 ex:∃ c P,codeK ⟨K,mg⟩ nm=some (.ref c) ∧ tabK K (.ref c)=some P ∧ LamX.TabB base mg c P
section
variable {P:Program} {w:World} {K:PySem.W.Frag} {mg:Str→Option Value} {base:Heap}
end
section
variable {X:Cx} {W:WX} {e:Expr} {fa:M D} {p pos lpos kpos p1 p2 p3 p4 p5:Pos} {x1 k:Nat} {nm x:Str} {params:Arguments} {scope:Scope}
end
end DL
namespace DL
open PySem L2
structure LamHd (K:PySem.W.Frag) (mg:Str→Option Value) (h:Heap) (nm:Str):Prop where
 ex:∃ c P,codeK ⟨K,mg⟩ nm=some (.ref c) ∧ tabK K (.ref c)=some P ∧ h.get? P=some { cls:=.none,data:=.fields #[] } ∧ K.lookup P=none ∧ PySem.W.CodeHd h c P
end DL
namespace DL
open PySem PySem.Spec PyProof.Rows L2
section
variable {P:Program} {w:World} {A:Around} {R:Result→Shared→Prop} {I:Addr} {fp wr:List Addr} {G:Array GenState→Array GenState→Prop} {n:Nat} {Pi:Nat→Value→Prop} {St:Nat→Shared→Prop}
theorem set_loopR (W:WalksS P w A.in1 I fp wr G n Pi St) (S:Addr) (hSf:S ∉ fp) (val:Nat→Int) (hval:∀ i v,Pi i v→∃ t,v=.int (val i) t) (hb:n + 1 < scanBound) :
  ∀ (k i:Nat) (s:Shared),n - i=k→i ≤ n→St i s→SetR w s.heap S (fun k'=>(firstMet val i).any (· == k')) (firstMet val i).length →
   (∀ s',Moved (S :: wr) G s s'→SetR w s'.heap S (fun k'=>(firstMet val n).any (· == k')) (firstMet val n).length→R (.ok (.ret .none)) s') →
   codeAny (model P w) A (.builtin "set.update.loop" ⟨[.ref S,.ref I],[]⟩) R s:=by
 have hSw:S ∉ wr:=fun h=>hSf (W.sub _ h)
 have hsub:∀ b ∈ wr,b ∈ S :: wr:=fun b hb=>List.mem_cons_of_mem _ hb
 intro k
 induction k with
 | zero =>
  intro i s hk hi hst hS hR
  have hin:i=n:=by omega
  subst hin
  refine codeAny_builtin PyProof.Rows.F.entry_set_update_loop ?_
  rw [Around.under_plainId PyProof.Rows.F.plain_set_update_loop _]
  show wpAny _ A.in1 (pyNext (.ref I) >>= _) _ _ s
  refine wpAny_bind (W.done s _ _ hst fun s' hm=>?_)
  show wpAny _ A.in1 (ret Value.none) _ _ s'
  exact wpAny_pure (hR s' (hm.mono hsub) (hS.at fun o ho=>hm.heap S _ hSw ho))
 | succ k ih =>
  intro i s hk hi hst hS hR
  have hlt:i < n:=by omega
  refine codeAny_builtin PyProof.Rows.F.entry_set_update_loop ?_
  rw [Around.under_plainId PyProof.Rows.F.plain_set_update_loop _]
  show wpAny _ A.in1 (pyNext (.ref I) >>= _) _ _ s
  refine wpAny_bind (W.item i s _ _ hlt hst fun v s' hP hst' hm=>?_)
  obtain ⟨t,rfl⟩:=hval i v hP
  have hS':SetR w s'.heap S (fun k'=>(firstMet val i).any (· == k')) (firstMet val i).length:=hS.at fun o ho=>hm.heap S _ hSw ho
  show wpAny _ A.in1 (holding [Value.int (val i) t] (setAdd S (.int (val i) t)) >>= _) _ _ s'
  refine wpAny_bind (wpAny_holding ?_)
  unfold setAdd
  refine wpAny_holding ?_
  refine wpAny_bind ((intKind P w).pyHash (k:=val i) (intKind_is _ _ _ _) ?_)
  have hroom:(firstMet val i).length + 1 < scanBound:=by have:=firstMet_length_le val i; omega
  refine setR_add_hashed (P:=P) (s:={ s' with toks:=s'.toks + 1 }) hS' hroom fun h' hsb hS2=>?_
  have hSi:SetR w h' S (fun k'=>(firstMet val (i + 1)).any (· == k')) (firstMet val (i + 1)).length:=by
   have e2:(firstMet val (i + 1)).length=(if (firstMet val i).any (· == val i)=true then (firstMet val i).length else (firstMet val i).length + 1):=by rw [firstMet_succ,step_length]
   rw [e2]
   exact hS2.congr fun k'=>by rw [firstMet_succ,step_any]
  refine wpAny_pure ⟨plainId_quiet PyProof.Rows.F.plain_set_update_loop _,ih (i + 1) _ (by omega) hlt (W.frame _ s' _ _ hst' (Nat.le_succ _) fun b hb o e=>?_) hSi fun s'' hm'' hS''=>?_⟩
  · rw [hsb.2 b (fun h:b=S=>hSf (by rw [← h]; exact hb))]; exact e
  · refine hR s'' (Moved.trans W.gtrans ((hm.mono hsub).then_heap (Nat.le_succ _) fun b o hb e=>?_) hm'') hS''
    rw [hsb.2 b (fun h:b=S=>hb (by rw [h]; exact List.mem_cons_self))]; exact e
end
section
variable {P:Program} {w:World} {A:Around} {E:Value→Shared→Prop} {s:Shared}
abbrev set0O (w:World):Obj:={ cls:=.type "set", dict:=none,data:=.set #[] 0 (.fresh 0 0 (!w.params.followText "set-order")) }
theorem code_set_led1 (a:Value) {Q₁:Value→Shared→Prop} (h:Q₁ (.ref s.heap.objs.size) { s with heap:=s.heap.push (set0O w) }) :
  codeAny (model P w) A (.call (.builtin "set.__new__") ⟨[.type "set", a],[]⟩) (wants Q₁ E) s:=by
 refine codeAny_of_tree ?_
 show wpAny _ A.in1 (do checkBuiltinCall "set.__new__" ⟨[.type "set", a],[]⟩; again (.builtin "set.__new__" ⟨[.type "set", a],[]⟩)) _ _ s
 refine wpAny_bind (wpAny_of_eq (PySem.F.newCall_set_1 a) (wpAny_pure ⟨plainId_quiet PySem.F.plain_set_new _,codeAny_builtin PySem.F.entry_set_new ?_⟩))
 rw [Around.under_plainId PySem.F.plain_set_new _]
 unfold Builtin.«set.__new__» Builtin.Frozenset.newClass
 have hsub:=PySem.sub_set_self
 obtain ⟨hp,g,d,tk,os⟩:=s
 dsimp only
 wp_walk
 refine wpAny_askSetting (wpAny_pure ?_)
 dsimp only
 simp only [newObj]
 refine wpAny_bind (wpAny_alloc (wpAny_pure ?_))
 exact wpAny_pure h
theorem set_listR {l:Addr} {items:Array Value} {ns:List Int} {Q:Value→Shared→Prop}
  (hh:A.handled=none) (hl:s.heap.IsList l items) (hi:IntsAre items.toList ns) (hb:items.size + 1 < scanBound)
  (h:∀ (h':Heap) (tk:Nat),SetR w h' s.heap.objs.size (fun k'=>(firstMet (fun i=>ns.getD i 0) items.size).any (· == k')) (firstMet (fun i=>ns.getD i 0) items.size).length →
   (∀ b o,b < s.heap.objs.size→s.heap.get? b=some o→h'.get? b=some o)→Q (.ref s.heap.objs.size) { s with heap:=h',toks:=tk }) :
  wpAny (model P w) A (call (.type "set") [.ref l]) Q E s:=by
 obtain ⟨c,tl,hmro⟩:=PySem.F.called_set.mro
 have hmade:=PySem.F.called_set.made
 have hsub:=PySem.F.called_set.sub
 refine wpAny_call (codeAny_of_tree ?_)
 show wpAny _ _ (callAny (.type "set") _) _ _ _
 refine wpAny_pure ⟨Code.quiet_builtin _ (by decide +kernel),codeAny_builtin PySem.F.entry_type_call ?_⟩
 rw [Around.under_plain (PySem.weight_type_call_type "set" [.ref l] []) rfl]
 have h1:=PySem.F.called_set.notType
 have h2:=PySem.F.called_set.canCreate
 have hct:=PySem.F.typeCall_set_1 (.ref l)
 repeat (any_goals (first | assumption | wp_step))
 refine codeAny_mono (code_set_led1 (.ref l) (E:=E) (Q₁:=fun obj s₁=>obj=.ref s.heap.objs.size ∧ s₁={ s with heap:=s.heap.push (set0O w) }) ⟨rfl,rfl⟩) fun r s₁ hr=>?_
 cases r with
 | error e=>exact hr
 | ok fl =>
  cases fl with
  | ret obj =>
   obtain ⟨rfl,rfl⟩:=hr
   have hS:(s.heap.push (set0O w)).get? s.heap.objs.size=some (set0O w):=Heap.get?_push_size _ rfl
   have hT:Shared.TypeIs { s with heap:=s.heap.push (set0O w) } (.ref s.heap.objs.size) "set" := ⟨_,hS,rfl⟩
   have hli:=PySem.F.called_set.init.lookup
   have hbi:=PySem.F.called_set.init.bind (.ref s.heap.objs.size)
   repeat (any_goals (first | assumption | wp_step))
   refine codeAny_mono (codeAny_call_builtin (R:=wants (fun r s₂=>r=.none ∧ ∃ h' tk,s₂={ s with heap:=h',toks:=tk } ∧
     SetR w h' s.heap.objs.size (fun k'=>(firstMet (fun i=>ns.getD i 0) items.size).any (· == k')) (firstMet (fun i=>ns.getD i 0) items.size).length ∧
     (∀ b o,b < s.heap.objs.size→s.heap.get? b=some o→h'.get? b=some o)) E) PySem.F.called_set.init.plain PySem.F.entry_set_init (PySem.check_set_init_1 hT ?_)) fun r₂ s₂ hr₂=>?_
   · obtain ⟨ol,hol,hcl,nl,hdl⟩:=hl
     obtain ⟨ocls,odict,odata,oslots⟩:=ol
     simp only at hcl hdl
     subst hcl; subst hdl
     have hol':(s.heap.push (set0O w)).get? l=some { cls:=.type "list", dict:=odict,data:=.seq items nl,slots:=oslots }:=Heap.get?_push_of_some _ hol
     have hsls:=PySem.F.sub_list_set
     have hslf:=PySem.F.sub_list_frozenset
     have hne:(Value.type "list" == Value.type "dict")=false:=by decide
     have hl1:(s.heap.push (set0O w)).IsList l items:=⟨_,hol',rfl,nl,rfl⟩
     unfold Builtin.«set.__init__» noKeywords Builtin.Frozenset.updateFrom
     generalize hPI:pyIter=PI
     wp_walk
     subst hPI
     refine wpAny_pyIter_list hl1 ?_
     refine wpAny_bind (wpAny_runValue ?_)
     have hlS:l < s.heap.objs.size:=Heap.lt_size hol
     have hh3:A.in1.in1.in1.handled=none:=by simp [hh]
     have hneI:l ≠ (s.heap.push (set0O w)).objs.size:=by
      rw [Heap.size_push]; exact Nat.ne_of_lt (Nat.lt_succ_of_lt hlS)
     have hSf:s.heap.objs.size ∉ [(s.heap.push (set0O w)).objs.size,l]:=by
      rw [Heap.size_push]; simp only [List.mem_cons,List.mem_singleton,List.not_mem_nil,or_false,not_or]
      exact ⟨Nat.ne_of_lt (Nat.lt_succ_self _),Nat.ne_of_gt hlS⟩
     have hval:∀ (i:Nat) (v:Value),items[i]?=some v→∃ t,v=.int ((fun i=>ns.getD i 0) i) t:=fun i v hv =>
      IntsAre.int_at hi i v (by rw [Array.getElem?_toList]; exact hv)
     refine set_loopR ((Walks.list hh3 _ l hneI items).toS) s.heap.objs.size
      hSf (fun i=>ns.getD i 0) hval hb (items.size - 0) 0 _ (by omega) (Nat.zero_le _)
      ⟨⟨_,Heap.get?_push_size _ rfl,rfl,rfl⟩,(hl1.push _)⟩ ?hS0 ?hR
     case hS0 =>
      exact ((setR_fresh (h:=s.heap) w).at fun o ho=>Heap.get?_push_of_some _ ho).congr fun _=>rfl
     case hR =>
      intro s' hm hS'
      obtain ⟨h',g',d',tk',os'⟩:=s'
      have eg:g'=s.gens:=hm.gens
      have ed:d'=s.drawn:=hm.drawn
      have eo:os'=s.os:=hm.os
      subst eg; subst ed; subst eo
      show wpAny _ _ _ _ _ _
      refine wpAny_pure ?_
      show wpAny _ _ (ret Value.none) _ _ _
      refine wpAny_pure ⟨rfl,h',tk',rfl,hS',fun b o hb e=>?_⟩
      have hb1:b ≠ s.heap.objs.size:=Nat.ne_of_lt hb
      have hb2:b ≠ (s.heap.push (set0O w)).objs.size:=by
       rw [Heap.size_push]; exact Nat.ne_of_lt (Nat.lt_succ_of_lt hb)
      exact hm.heap b o (by simp only [List.mem_cons,List.mem_singleton,List.not_mem_nil,or_false,not_or]; exact ⟨hb1,hb2⟩) (Heap.get?_push_of_some _ (Heap.get?_push_of_some _ e))
   · cases r₂ with
     | error e=>exact hr₂
     | ok fl₂ =>
      cases fl₂ with
      | ret r =>
       obtain ⟨rfl,h',tk,rfl,hS',hk'⟩:=hr₂
       repeat (any_goals (first | assumption | wp_step))
       exact h _ _ hS' hk'
      | _=>exact hr₂.elim
  | _=>exact hr.elim
end
end DL
namespace DL
open PySem PySem.Spec PyProof.Rows L2
def incI (k:Int):List Int→List Int
 | []=>[k]
 | x :: r=>if k < x then k :: x :: r else if k=x then x :: r else x :: incI k r
def upI (ns:List Int):List Int:=ns.foldr incI []
theorem incI_mem {k z:Int}:∀ {r:List Int},z ∈ incI k r ↔ z=k ∨ z ∈ r
 | []=>by simp [incI]
 | x :: r=>by
  unfold incI
  split
  · simp
  · split
    · rename_i h; subst h; simp
    · rw [List.mem_cons,incI_mem (r:=r),List.mem_cons]
      constructor
      · rintro (h | h | h)
        · exact .inr (.inl h)
        · exact .inl h
        · exact .inr (.inr h)
      · rintro (h | h | h)
        · exact .inr (.inl h)
        · exact .inl h
        · exact .inr (.inr h)
theorem incI_pw {k:Int}:∀ {r:List Int},r.Pairwise (· < ·)→(incI k r).Pairwise (· < ·)
 | [],_=>by simp [incI]
 | x :: r,h=>by
  obtain ⟨h1,h2⟩:=List.pairwise_cons.mp h
  unfold incI
  split
  · rename_i hk
    refine List.pairwise_cons.mpr ⟨fun z hz=>?_,h⟩
    rcases List.mem_cons.mp hz with rfl | hz
    · exact hk
    · have:=h1 z hz; omega
  · split
    · exact h
    · refine List.pairwise_cons.mpr ⟨fun z hz=>?_,incI_pw h2⟩
      rcases incI_mem.mp hz with rfl | hz
      · omega
      · exact h1 z hz
theorem upI_mem {z:Int}:∀ {ns:List Int},z ∈ upI ns ↔ z ∈ ns
 | []=>by simp [upI]
 | n :: ns=>by
  show z ∈ incI n (upI ns) ↔ _
  rw [incI_mem,upI_mem (ns:=ns),List.mem_cons]
theorem upI_pw:∀ ns:List Int,(upI ns).Pairwise (· < ·)
 | []=>by simp [upI]
 | n :: ns=>incI_pw (upI_pw ns)
theorem range_getD:∀ ns:List Int,(List.range ns.length).map (fun i=>ns.getD i 0)=ns:=fun ns=>by
 apply List.ext_getElem?
 intro i
 rw [List.getElem?_map]
 rcases Nat.lt_or_ge i ns.length with q | q
 · rw [List.getElem?_range q,List.getElem?_eq_getElem q]
   simp [List.getD_eq_getElem?_getD,List.getElem?_eq_getElem q]
 · rw [List.getElem?_eq_none (by simpa using q),List.getElem?_eq_none q]; rfl
theorem met_mem (ns:List Int) (k:Int):(firstMet (fun i=>ns.getD i 0) ns.length).any (· == k)=true ↔ k ∈ ns:=by
 rw [firstMet_any,range_getD,List.any_eq_true]
 constructor
 · rintro ⟨x,hx,e⟩; rw [← eq_of_beq e]; exact hx
 · exact fun h=>⟨k,h,beq_self_eq_true k⟩
section
variable {X:Cx} {g:G} {W:WX} {e:Expr} {fa:M D} {p p2 q pos:Pos}
end
end DL
namespace DL
open PySem PySem.Spec PyProof.Rows L2
theorem met_nodup (val:Nat→Int):∀ i,(firstMet val i).Nodup
 | 0=>by rw [firstMet_zero]; exact List.nodup_nil
 | i + 1=>by
  rw [firstMet_succ]
  unfold step_dedup
  split
  · exact met_nodup val i
  · rename_i h
    refine List.nodup_append.mpr ⟨met_nodup val i,by simp,fun a ha b hb e=>h ?_⟩
    rw [List.any_eq_true]
    refine ⟨a,ha,?_⟩
    rw [e,List.mem_singleton.mp hb]
    exact beq_self_eq_true _
theorem met_len (ns:List Int):(firstMet (fun i=>ns.getD i 0) ns.length).length=(upI ns).length:=by
 refine ((List.perm_ext_iff_of_nodup (met_nodup _ _) ((upI_pw ns).imp fun h=>?_)).mpr fun k=>?_).length_eq
 · omega
 · rw [upI_mem,← met_mem ns k,List.any_eq_true]
   constructor
   · exact fun h=>⟨k,h,beq_self_eq_true k⟩
   · rintro ⟨x,hx,e⟩; rw [← eq_of_beq e]; exact hx
def rLenSetN (K:PySem.W.Frag):V→Hp→VK→Prop:=fun x H Q=>∃ (l:Addr) (ns:List Int),x=.ref l ∧ SqL K H l (ns.map V.int) ∧ ns.length ≤ 1000 ∧ Q (.int ((upI ns).length:Nat)) H
theorem pe_lenSetN {X:Cx} {a:Expr} {ta:TE} {p p2 q pos:Pos} (hg:Gl X "len") (hm:X.mg "len" = none) (hg2:Gl X "set") (hm2:X.mg "set" = none) (ha:PE X a ta) (hc:X.calm=true)
  (na:starEach [a] X.env=(false,eval a X.env) :: starEach [] X.env:=by rfl):PE X (.Call (.Name "len" p) [.Call (.Name "set" p2) [a] [] q] [] pos) (fun σ H Q=>ta σ H fun x H1=>rLenSetN X.K x H1 Q):=by
 refine ⟨fun pins s σ H Q I h=>?_⟩
 refine wpAny_Call_Name_kw (ld_blt (u:=.builtin "len") I hg hm (by decide +kernel) ?_)
 refine PyProof.Rows.callWith_builtin1 (Calls.spliced_cons ?_) rfl rfl
 refine wpAny_Call_Name_kw (ld_blt (u:=.type "set") I hg2 hm2 (by decide +kernel) ?_)
 refine PyProof.Rows.callWith_type1 ?_ na rfl
 rw [na]
 refine Calls.spliced_cons (thn (ha.run pins s σ H _ I h) fun v s1 ⟨x,H1,I1,r1,q1⟩=>Calls.spliced_nil ?_)
 obtain ⟨l,ns,rfl,hq,hl,q1⟩:=q1
 cases r1
 obtain ⟨its,r,pl,hz⟩:=I1.list hq
 have hlen:its.toArray.size=ns.length:=by rw [List.size_toArray,← r.length,List.length_map]
 refine set_listR (I1.ok.hd hc) pl.isList (by simpa using r.ints) (by rw [hlen]; unfold scanBound; omega) fun h' tk hS hk=>?_
 refine Calls.spliced_nil ?_
 rw [hlen] at hS
 have fl:=firstMet_length_le (fun i=>ns.getD i 0) ns.length
 obtain ⟨o,es,ep,t,ho,hex,hd,_,_,_,_,hf,hn,_⟩:=hS
 have I2:Inv X pins σ H1 { s1 with heap:=h',toks:=tk }:=I1.kept fun b o e=>hk b o (Heap.lt_size e) e
 exact call_len_set ho hex hd hf (by rw [hn]; omega) ⟨.int ((upI ns).length:Nat),H1,I2.tok _,⟨_,by rw [hn,met_len]⟩,q1⟩
def lenSetN:D→Option D
 | .lst ds=>match intsT ds with
  | some ns=>if ns.length ≤ 1000 then some (.int ((upI ns).length:Nat)) else none
  | none=>none
 | _=>none
theorem intsT_map:∀ ns:List Int,intsT (ns.map D.int)=some ns
 | []=>rfl
 | n :: ns=>by
  show (intsT (ns.map D.int)).map (n :: ·)=_
  rw [intsT_map ns]
  rfl
theorem lenSetN_ev {ns:List Int} (h:ns.length ≤ 1000):lenSetN (.lst (ns.map D.int))=some (.int ((upI ns).length:Nat)):=by
 simp only [lenSetN,intsT_map]
 rw [if_pos h]
section
variable {X:Cx} {g:G} {W:WX} {e:Expr} {fa:M D} {p p2 q pos:Pos}
theorem v_lenSetN:V1 g (fun x H Q=>rLenSetN g.K x H Q) lenSetN:=by
 intro A B H ω x a c Q w ha e q
 cases a with
 | lst ds =>
  obtain ⟨p,vs,rfl,hp,l⟩:=ha
  simp only [lenSetN] at e
  cases hs:intsT ds with
  | none=>rw [hs] at e; cases e
  | some ns =>
   rw [hs] at e
   simp only at e
   split at e
   · rename_i h60
     cases e
     obtain rfl:=intsT_eq hs
     obtain rfl:=DpL.ints_eq l
     exact ⟨p,ns,rfl,SqL.of hp,h60,q.now w (.int _)⟩
   · cases e
 | _=>cases e
theorem de_lenSetN (hK:X.K=g.K) (hc:X.calm=true) (hg:Gl X "len") (hm:X.mg "len" = none) (hg2:Gl X "set") (hm2:X.mg "set" = none) (ha:PE X e (tM g rW W fa))
  (na:starEach [e] X.env=(false,eval e X.env) :: starEach [] X.env:=by rfl):PE X (.Call (.Name "len" p) [.Call (.Name "set" p2) [e] [] q] [] pos) (tM g rD W (uo lenSetN fa)) :=
 (pe_lenSetN hg hm hg2 hm2 ha hc na).dl fun σ H Q h=>by
  rw [hK]
  exact tM_op1 v_lenSetN σ H Q h
end
end DL
namespace DL
open PySem PySem.Spec PyProof.Rows L2
section
variable {X:Cx}
end
section
variable {X:Cx} {g:G} {W:WX} {e:Expr} {fa:M D} {f:M D} {p pos:Pos} {ρ:Rho} {ω ω':List Cell} {x:D}
end
end DL
namespace DL
open PySem PySem.Spec PyProof.Rows L2
mutual
def pyD:D→Option PyData
 | .non=>some .none
 | .bl b=>some (.bool b)
 | .int i=>some (.int i)
 | .str x=>some (.str x)
 | .tup ds=>(pysD ds).map .tuple
 | _=>none
def pysD:List D→Option (List PyData)
 | []=>some []
 | d :: r=>match pyD d,pysD r with
  | some x,some xs=>some (x :: xs)
  | _,_=>none
end
theorem pysD_cons {d:D} {r:List D} {ys:List PyData} (h:pysD (d :: r)=some ys):∃ x xs,ys=x :: xs ∧ pyD d=some x ∧ pysD r=some xs:=by
 simp only [pysD] at h
 split at h
 · rename_i x xs h1 h2
   cases h
   exact ⟨x,xs,rfl,h1,h2⟩
 · cases h
mutual
theorem pyD_inj:∀ (d d':D) (x:PyData),pyD d=some x→pyD d'=some x→d=d'
 | .non,d',x,h,h'=>by
  simp only [pyD] at h; cases h
  cases d' with
  | tup ds=>simp only [pyD] at h'; cases z:pysD ds <;> rw [z] at h' <;> cases h'
  | _=>simp_all [pyD]
 | .bl b,d',x,h,h'=>by
  simp only [pyD] at h; cases h
  cases d' with
  | tup ds=>simp only [pyD] at h'; cases z:pysD ds <;> rw [z] at h' <;> cases h'
  | _=>simp_all [pyD]
 | .int b,d',x,h,h'=>by
  simp only [pyD] at h; cases h
  cases d' with
  | tup ds=>simp only [pyD] at h'; cases z:pysD ds <;> rw [z] at h' <;> cases h'
  | _=>simp_all [pyD]
 | .str b,d',x,h,h'=>by
  simp only [pyD] at h; cases h
  cases d' with
  | tup ds=>simp only [pyD] at h'; cases z:pysD ds <;> rw [z] at h' <;> cases h'
  | _=>simp_all [pyD]
 | .tup ds,d',x,h,h'=>by
  simp only [pyD] at h
  cases z:pysD ds with
  | none=>rw [z] at h; cases h
  | some xs =>
   rw [z] at h
   cases h
   cases d' with
   | tup ds' =>
    simp only [pyD] at h'
    cases z':pysD ds' with
    | none=>rw [z'] at h'; cases h'
    | some xs'=>rw [z'] at h'; cases h'; rw [pysD_inj ds ds' xs z z']
   | _=>simp [pyD] at h'
 | .lst _,d',x,h,h'=>by simp [pyD] at h
 | .dic _,d',x,h,h'=>by simp [pyD] at h
 | .obj _ _,d',x,h,h'=>by simp [pyD] at h
 | .oid _,d',x,h,h'=>by simp [pyD] at h
 | .scr _,d',x,h,h'=>by simp [pyD] at h
 | .exc _ _,d',x,h,h'=>by simp [pyD] at h
theorem pysD_inj:∀ (ds ds':List D) (xs:List PyData),pysD ds=some xs→pysD ds'=some xs→ds=ds'
 | [],ds',xs,h,h'=>by
  simp only [pysD] at h; cases h
  cases ds' with
  | nil=>rfl
  | cons d r=>obtain ⟨_,_,e,_,_⟩:=pysD_cons h'; cases e
 | d :: r,ds',xs,h,h'=>by
  obtain ⟨x,xs1,rfl,h1,h2⟩:=pysD_cons h
  cases ds' with
  | nil=>simp only [pysD] at h'; cases h'
  | cons d' r' =>
   obtain ⟨x',xs',e,h1',h2'⟩:=pysD_cons h'
   cases e
   rw [pyD_inj d d' x h1 h1',pysD_inj r r' xs1 h2 h2']
end
mutual
inductive PyV (K:PySem.W.Frag) (H:Hp):V→PyData→Prop
 | non:PyV K H .non .none
 | bl (b:Bool):PyV K H (.bl b) (.bool b)
 | int (i:Int):PyV K H (.int i) (.int i)
 | str (x:Str):PyV K H (.str x) (.str x)
 | tup {a:Addr} {vs:List V} {xs:List PyData}:SqT K H a vs→PyVL K H vs xs→PyV K H (.ref a) (.tuple xs)
inductive PyVL (K:PySem.W.Frag) (H:Hp):List V→List PyData→Prop
 | nil:PyVL K H [] []
 | cons {v:V} {vs:List V} {x:PyData} {xs:List PyData}:PyV K H v x→PyVL K H vs xs→PyVL K H (v :: vs) (x :: xs)
end
mutual
theorem pyV_of {g:G} {A:Ad} {B:Addr→Prop} {H:Hp}:∀ (d:D) {v:V} {x:PyData},Dp g A B H v d→pyD d=some x→PyV g.K H v x
 | .non,v,x,h,e=>by simp only [pyD] at e; cases e; cases h; exact .non
 | .bl b,v,x,h,e=>by simp only [pyD] at e; cases e; cases h; exact .bl b
 | .int b,v,x,h,e=>by simp only [pyD] at e; cases e; cases h; exact .int b
 | .str b,v,x,h,e=>by simp only [pyD] at e; cases e; cases h; exact .str b
 | .tup ds,v,x,h,e=>by
  simp only [pyD] at e
  cases z:pysD ds with
  | none=>rw [z] at e; cases e
  | some xs =>
   rw [z] at e
   cases e
   obtain ⟨a,vs,rfl,h1,h2⟩:=Dp.seq h
   exact .tup h1 (pyVL_of ds h2 z)
 | .lst _,v,x,h,e=>by simp [pyD] at e
 | .dic _,v,x,h,e=>by simp [pyD] at e
 | .obj _ _,v,x,h,e=>by simp [pyD] at e
 | .oid _,v,x,h,e=>by simp [pyD] at e
 | .scr _,v,x,h,e=>by simp [pyD] at e
 | .exc _ _,v,x,h,e=>by simp [pyD] at e
theorem pyVL_of {g:G} {A:Ad} {B:Addr→Prop} {H:Hp}:∀ (ds:List D) {vs:List V} {xs:List PyData},DpL g A B H vs ds→pysD ds=some xs→PyVL g.K H vs xs
 | [],vs,xs,h,e=>by simp only [pysD] at e; cases e; cases h; exact .nil
 | d :: r,vs,xs,h,e=>by
  obtain ⟨x,xs1,rfl,h1,h2⟩:=pysD_cons e
  cases h with
  | cons k1 k2=>exact .cons (pyV_of d k1 h1) (pyVL_of r k2 h2)
end
theorem dpl_at {g:G} {A:Ad} {B:Addr→Prop} {H:Hp}:∀ {vs:List V} {ds:List D} {xs:List PyData} {i:Nat} {v:V} {x:PyData},DpL g A B H vs ds→pysD ds=some xs→vs[i]?=some v→xs[i]?=some x→∃ d ∈ ds,Dp g A B H v d ∧ pyD d=some x
 | _,[],xs,i,v,x,h,e,hv,hx=>by cases h; cases hv
 | _,d :: r,xs,i,v,x,h,e,hv,hx=>by
  obtain ⟨x0,xs1,rfl,h1,h2⟩:=pysD_cons e
  cases h with
  | cons k1 k2 =>
   cases i with
   | zero=>cases hv; cases hx; exact ⟨d,List.mem_cons_self ..,k1,h1⟩
   | succ i =>
    obtain ⟨d',m,q⟩:=dpl_at (i:=i) k2 h2 hv hx
    exact ⟨d',List.mem_cons_of_mem _ m,q⟩
section
variable {X:Cx} {pins:List (Addr × Obj)} {s:Shared} {σ:L2.St} {H:Hp}
mutual
theorem pyV_reads (I:Inv X pins σ H s):∀ (x:PyData) {v:V} {u:Value},PyV X.K H v x→RelV v u→Reads s.heap u x []
 | .none,v,u,h,r=>by cases h; obtain rfl:u=.none:=r; exact .none
 | .bool b,v,u,h,r=>by cases h; obtain rfl:u=.bool b:=r; exact .bool b
 | .int i,v,u,h,r=>by cases h; obtain ⟨t,rfl⟩:∃ t,u=.int i t:=r; exact .int i t
 | .str i,v,u,h,r=>by cases h; obtain ⟨t,rfl⟩:∃ t,u=.str i t:=r; exact .str i t
 | .tuple xs,v,u,h,r=>by
  cases h with
  | @tup a vs _ h1 h2 =>
   obtain rfl:u=.ref a:=r
   obtain ⟨its,ru,⟨ot,hot,hcl,nt,hdt⟩,_⟩:=I.tuple h1
   exact Reads.tuple (n:=nt) hot hcl hdt (pyVL_reads I xs h2 ru)
 | .list _,v,u,h,r=>by cases h
 | .dict _,v,u,h,r=>by cases h
theorem pyVL_reads (I:Inv X pins σ H s):∀ (xs:List PyData) {vs:List V} {us:List Value},PyVL X.K H vs xs→Vals vs us→ReadsAll s.heap us xs []
 | [],vs,us,h,r=>by cases h; cases r; exact .nil
 | x :: xs,vs,us,h,r=>by
  cases h with
  | cons h1 h2 =>
   cases r with
   | cons r1 r2=>exact ReadsAll.cons (as:=[]) (bs:=[]) (pyV_reads I x h1 r1) (pyVL_reads I xs h2 r2)
end
end
def alikeB (xs:List PyData):Bool:=xs.all fun x=>(xs.all fun y=>PySem.W.alike x y) && !(x matches .none)
def rMinG (K:PySem.W.Frag):List V→Hp→VK→Prop:=fun vs H Q=>∃ (a:Addr) (v:V) (us:List V) (x:PyData) (xs:List PyData),vs=[V.ref a] ∧ SqL K H a (v :: us) ∧ PyVL K H (v :: us) (x :: xs) ∧ alikeB (x :: xs)=true ∧ PyData.depthAll (x :: xs) ≤ 40 ∧
 ∀ (i:Nat) (u:V),(v :: us)[i]?=some u→(x :: xs)[i]?=some (PySem.W.minD x xs)→Q u H
theorem alikeB_ok {xs:List PyData} (h:alikeB xs=true):PySem.W.AlikeAll xs:=by
 unfold alikeB at h
 rw [List.all_eq_true] at h
 refine ⟨fun x hx y hy=>?_,fun x hx z=>?_⟩
 · have:=h x hx
   rw [Bool.and_eq_true,List.all_eq_true] at this
   exact this.1 y hy
 · have:=h x hx
   rw [Bool.and_eq_true,z] at this
   exact absurd this.2 (by decide)
theorem vals_at:∀ {vs:List V} {us:List Value} {i:Nat} {u:Value},Vals vs us→us[i]?=some u→∃ v,vs[i]?=some v ∧ RelV v u
 | _,_,i,u,.nil,h=>by cases h
 | _,_,0,u,.cons r1 r2,h=>by cases h; exact ⟨_,rfl,r1⟩
 | _,_,i + 1,u,.cons r1 r2,h=>vals_at (i:=i) r2 h
theorem readsAll_get {h:Heap}:∀ {vs:List Value} {xs:List PyData} {as:List Addr} {i:Nat} {v:Value},ReadsAll h vs xs as→vs[i]?=some v→∃ x bs,xs[i]?=some x ∧ Reads h v x bs
 | _,_,_,i,v,.nil,hv=>by cases hv
 | _,_,_,0,v,.cons r1 r2,hv=>by cases hv; exact ⟨_,_,rfl,r1⟩
 | _,_,_,i + 1,v,.cons r1 r2,hv=>readsAll_get (i:=i) r2 hv
theorem minD_mem:∀ (xs:List PyData) (x:PyData),PySem.W.minD x xs ∈ x :: xs
 | [],x=>List.mem_cons_self ..
 | y :: r,x=>by
  have:=minD_mem r (if PySem.W.dataLt y x=true then y else x)
  unfold PySem.W.minD at this ⊢
  rw [List.foldl_cons]
  rcases List.mem_cons.mp this with h | h
  · rw [h]
    split
    · exact List.mem_cons_of_mem _ (List.mem_cons_self ..)
    · exact List.mem_cons_self ..
  · exact List.mem_cons_of_mem _ (List.mem_cons_of_mem _ h)
section
variable {X:Cx} {g:G} {W:WX} {e:Expr} {fa:M D} {j:Nat} {p pos:Pos}
theorem cr_minG (hc:X.calm=true) (hu:X.A.units + 41 < cLine):CallR X (.builtin "min") (rMinG X.K):=by
 intro pins s σ H vs us Q I r h
 obtain ⟨a,v,us',x,xs,rfl,hs,hp,ha,hd,q⟩:=h
 obtain ⟨its,rv,hl,_⟩:=I.list hs
 rw [Vals.ref1 r]
 have hr:=pyVL_reads I (x :: xs) hp rv
 refine PySem.W.min_list_data (x:=x) (xs:=xs) (I.ok.hd hc) hl.isList hr (alikeB_ok ha) (by omega) fun i w h' tk bs hv hrd hk=>?_
 have hv':its[i]?=some w:=by rw [← hv]; simp
 obtain ⟨u,hu1,hu2⟩:=vals_at rv hv'
 obtain ⟨y,bs',hy,hry⟩:=readsAll_get hr hv'
 have e:y=PySem.W.minD x xs:=PySem.W.alike_unique y (PySem.W.minD x xs) w bs' bs ((alikeB_ok ha).1 y (List.mem_of_getElem? hy) _ (minD_mem xs x)) (PyProof.Rows.Reads.keeps hk hry) hrd
 exact ⟨u,H,I.kept hk,hu2,q i u hu1 (by rw [← e]; exact hy)⟩
def minZ:D × PyData→List (D × PyData)→D × PyData
 | b,[]=>b
 | b,z :: zs=>minZ (if PySem.W.dataLt z.2 b.2=true then z else b) zs
def minGD:D→Option D
 | .lst (d :: ds)=>match pyD d,pysD ds with
  | some x,some xs=>if alikeB (x :: xs)=true ∧ PyData.depthAll (x :: xs) ≤ 40 then some (minZ (d,x) (ds.zip xs)).1 else none
  | _,_=>none
 | _=>none
theorem minZ_snd:∀ (ds:List D) (xs:List PyData) (b:D × PyData),ds.length=xs.length→(minZ b (ds.zip xs)).2=PySem.W.minD b.2 xs
 | [],[],b,_=>rfl
 | [],_ :: _,b,h=>by cases h
 | _ :: _,[],b,h=>by cases h
 | d :: ds,x :: xs,b,h=>by
  rw [List.zip_cons_cons]
  show (minZ (if PySem.W.dataLt x b.2=true then (d,x) else b) (ds.zip xs)).2=_
  rw [minZ_snd ds xs _ (by simpa using h)]
  unfold PySem.W.minD
  rw [List.foldl_cons]
  congr 1
  split <;> rfl
theorem minZ_py:∀ (zs:List (D × PyData)) (b:D × PyData),pyD b.1=some b.2→(∀ z ∈ zs,pyD z.1=some z.2)→pyD (minZ b zs).1=some (minZ b zs).2
 | [],b,h,_=>h
 | z :: zs,b,h,h2=>by
  show pyD (minZ (if PySem.W.dataLt z.2 b.2=true then z else b) zs).1=some (minZ (if PySem.W.dataLt z.2 b.2=true then z else b) zs).2
  refine minZ_py zs _ ?_ fun y hy=>h2 y (List.mem_cons_of_mem _ hy)
  split
  · exact h2 z (List.mem_cons_self ..)
  · exact h
theorem pysD_zip:∀ {ds:List D} {xs:List PyData},pysD ds=some xs→ds.length=xs.length ∧ ∀ z ∈ ds.zip xs,pyD z.1=some z.2
 | [],xs,h=>by simp only [pysD] at h; cases h; exact ⟨rfl,fun z hz=>by cases hz⟩
 | d :: r,xs,h=>by
  obtain ⟨x,xs1,rfl,h1,h2⟩:=pysD_cons h
  obtain ⟨i1,i2⟩:=pysD_zip h2
  refine ⟨by simp [i1],fun z hz=>?_⟩
  rw [List.zip_cons_cons] at hz
  rcases List.mem_cons.mp hz with rfl | hz
  · exact h1
  · exact i2 z hz
theorem v_minG (g:G):V1 g (fun x H Q=>rMinG g.K [x] H Q) minGD:=by
 intro A B H ω x a c Q w ha e q
 cases a with
 | lst ds0 =>
  obtain ⟨p,vs,rfl,hp,l⟩:=ha
  cases ds0 with
  | nil=>cases e
  | cons d ds =>
   simp only [minGD] at e
   split at e
   · rename_i x xs h1 h2
     split at e
     · rename_i hk
       cases e
       have hall:pysD (d :: ds)=some (x :: xs):=by simp only [pysD,h1,h2]
       cases l with
       | @cons v us _ _ l1 l2 =>
        refine ⟨p,v,us,x,xs,rfl,SqL.of hp,pyVL_of (d :: ds) (.cons l1 l2) hall,hk.1,hk.2,fun i u hu hx=>?_⟩
        obtain ⟨d',m,k1,k2⟩:=dpl_at (.cons l1 l2) hall hu hx
        obtain ⟨z1,z2⟩:=pysD_zip h2
        have e1:=minZ_py (ds.zip xs) (d,x) h1 z2
        rw [minZ_snd ds xs (d,x) z1] at e1
        rw [pyD_inj _ _ _ e1 k2] at q
        exact q.now w k1
     · cases e
   · cases e
 | _=>cases e
theorem de_minG (hK:X.K=g.K) (hc:X.calm=true) (hr:Room j X.A) (hg:Gl X "min") (hm:X.mg "min" = none) (ha:PE X e (tM g rW W fa)) (he:starEach [e] X.env=(false,eval e X.env) :: starEach [] X.env:=by rfl):PE X (.Call (.Name "min" p) [e] [] pos) (tM g rD W (uo minGD fa)) :=
 de_callB1 (cr_minG hc (by have:=hr.units; omega)) (by rw [hK]; exact v_minG g) hg hm (by decide +kernel) ha (he:=he)
end
end DL
namespace DL
open PySem PySem.Spec PyProof.Rows L2
section
variable {X:Cx} {g:G} {W:WX} {a b:Expr} {fa fb:M D} {k:Nat} {pos:Pos}
end
end DL
namespace DL
open PySem L2
open PyProof.Rows hiding St
def spXI0 (K:PySem.W.Frag) (C:Addr):Sp:=fun vs H Q _=>∃ a:Addr,vs=[.ref a] ∧ H a=some (exo a C none) ∧ Q .non H
theorem xi0_ans {K:PySem.W.Frag} {C:Addr} {m:Str} {N:List Str} (T:OexC K C) {vs:List V} {H:Hp} {Q:VK} {E:XK} (h:spXI0 K C vs H Q E) :
  (tDrop (tVeI K (tCons (tVar 0) (tCons (tC (.str m)) tNil)))) { nx:=fun _ H'=>Q .non H',rt:=Q } (L2.start N vs) H:=by
 obtain ⟨a,rfl,ha,q⟩:=h
 have e0:(L2.start N [.ref a])[0]?=some (some (.ref a)):=by unfold L2.start; rfl
 exact ⟨_,e0,a,C,[.str m],rfl,Nat.le_add_left 1 999,T,ha,q⟩
structure CalX0 (P:Program) (w:World) (K:PySem.W.Frag) (mg:Str→Option Value) (base:Heap) (c:Str) (ps:List Str) (k:Nat):Prop where
 ex:∃ C fI fd,mg c=some (.ref C) ∧ OexC K C ∧ PySem.W.findIn K (.ref C) "__init__" = some (some (.ref fI)) ∧ PySem.W.typeIn K (.ref fI)=some (.type "function") ∧ Binds K fd ps [] ∧ FnQ P w K mg base k fI fd ps (spXI0 K C)
structure FX0 (K:PySem.W.Frag) (mg:Str→Option Value) (c qual:Str) (st:Stmt):Prop where
 ex:∃ C fI fd,mg c=some (.ref C) ∧ OexC K C ∧ PySem.W.findIn K (.ref C) "__init__" = some (some (.ref fI)) ∧ PySem.W.typeIn K (.ref fI)=some (.type "function") ∧ Fun K "__init__" qual st fI fd
theorem calX0_of {P:Program} {w:World} {K:PySem.W.Frag} {mg:Str→Option Value} {base:Heap} {c qual m:Str} {st:Stmt} {N ps:List Str} (T:FX0 K mg c qual st) (S:FnScope N ps (defScope st)) (hps:ps.length=1) (b:∀ a fd,Fun K "__init__" qual st a fd→Binds K fd ps [])
  (h:∀ (fI:Addr) (cdv:Value) (A:Around) (outer:List PySem.Env) (s:Shared) (H:Hp) (E:XK),PSs (cxQ P w K mg base N qual (defScope st) fI cdv A outer s H E) (defBody st) (tDrop (tVeI K (tCons (tVar 0) (tCons (tC (.str m)) tNil))))) :
  CalX0 P w K mg base c ps 1:=by
 obtain ⟨C,fI,fd,h1,h2,h3,h4,h6⟩:=T.ex
 exact ⟨C,fI,fd,h1,h2,h3,h4,b fI fd h6,fnq_of h6 S (fun vs H Q E ⟨a,e,_⟩=>by rw [e,hps]; rfl) fun cdv A outer s H vs Q E hr hs=>⟨_,h fI cdv A outer s H E,xi0_ans h2 hs⟩⟩
section
variable {X:Cx} {C fI:Addr} {k j:Nat} {fd:FuncData} {ps:List Str} {sp:Sp} {e:Expr} {es:List Expr} {x c f:Str} {p pos:Pos} {W:WX}
theorem DpF.lookup {g:G} {A:Ad} {B:Addr→Prop} {H:Hp} {f:Str}:∀ {fs:List (Str × D)} {vs:List (Str × V)} {d:D},DpF g A B H vs fs→fs.lookup f=some d→∃ v,vs.lookup f=some v ∧ Dp g A B H v d
 | [],_,_,_,e=>by cases e
 | (k,d0) :: fs,_,d,h,e=>by
  cases h with
  | cons h1 h2 =>
   rw [List.lookup_cons] at e ⊢
   cases q:f == k with
   | true=>rw [q] at e; cases e; exact ⟨_,rfl,h1⟩
   | false=>rw [q] at e; exact DpF.lookup h2 e
structure XiF (K:PySem.W.Frag) (mg:Str→Option Value) (c:Str) (T:List (Str × Bool)):Prop where
 ex:∃ C,mg c=some (.ref C) ∧ ∀ c' b,T.lookup c'=some b→∃ C',mg c'=some (.ref C') ∧ PySem.W.kitOne K (.ref C') (.ref C)=some b
end
section
variable {K:PySem.W.Frag} {h:Heap} {mg:Str→Option Value}
end
section
variable {fm:M D} {ρ:Rho} {ω ω1:List Cell} {d:D} {c f:Str}
end
end DL
namespace DL
namespace ZM
open PySem L2 PySem.Spec PyProof.Rows
def Looks (F:List Addr) (S:Heap→Prop):Prop:=∀ h h':Heap,S h→(∀ c ∈ F,∀ o,h.get? c=some o→h'.get? c=some o)→S h'
def SIt (t:Bool) (it l:Addr) (k:Nat) (h:Heap):Prop:=match t with
 | true=>h.IsTupleIter it l k
 | false=>h.IsListIter it l k
def SSq (t:Bool) (l:Addr) (xs:Array Value) (h:Heap):Prop:=match t with
 | true=>h.IsTuple l xs
 | false=>h.IsList l xs
theorem SIt.keep {t:Bool} {it l:Addr} {k:Nat} {h h':Heap} (s:SIt t it l k h) (q:∀ o,h.get? it=some o→h'.get? it=some o):SIt t it l k h':=by
 cases t with
 | true=>obtain ⟨o,e,r⟩:=(show h.IsTupleIter it l k from s); exact (⟨o,q o e,r⟩:h'.IsTupleIter it l k)
 | false=>obtain ⟨o,e,r⟩:=(show h.IsListIter it l k from s); exact (⟨o,q o e,r⟩:h'.IsListIter it l k)
theorem SSq.keep {t:Bool} {l:Addr} {xs:Array Value} {h h':Heap} (s:SSq t l xs h) (q:∀ o,h.get? l=some o→h'.get? l=some o):SSq t l xs h':=by
 cases t with
 | true=>obtain ⟨o,e,r⟩:=(show h.IsTuple l xs from s); exact (⟨o,q o e,r⟩:h'.IsTuple l xs)
 | false=>obtain ⟨o,e,r⟩:=(show h.IsList l xs from s); exact (⟨o,q o e,r⟩:h'.IsList l xs)
theorem SIt.obj {t:Bool} {it l:Addr} {k:Nat} {h:Heap} (s:SIt t it l k h):∃ o,h.get? it=some o ∧ ∀ v,o.data ≠ .cell v:=by
 cases t with
 | true=>obtain ⟨o,e,_,d⟩:=(show h.IsTupleIter it l k from s); exact ⟨o,e,fun v q=>by rw [d] at q; cases q⟩
 | false=>obtain ⟨o,e,_,d⟩:=(show h.IsListIter it l k from s); exact ⟨o,e,fun v q=>by rw [d] at q; cases q⟩
section
variable {prog:Program} {w:World} {it l:Addr} {xs:Array Value} {k:Nat} {x:Value} {t:Bool}
end
section
variable {X:Cx} {pins:List (Addr × Obj)} {σ:L2.St} {H:Hp} {s:Shared} {a:Addr} {xs ys:List V} {t:Bool}
end
section
variable {prog:Program} {w:World} {A:Around} {E:Value→Shared→Prop} {s:Shared} {z TI TO i1 i2 l1 l2:Addr} {S1 S1' S2 S2':Heap→Prop} {a b:Value}
end
abbrev itN (t:Bool):String:=match t with
 | true => "tuple_iterator"
 | false => "list_iterator"
abbrev P1 (t1:Bool) (h:Heap) (l1:Addr):Heap:=h.push { cls:=.type (itN t1),data:=.fields #[.ref l1,.int 0 0] }
abbrev P2 (t1 t2:Bool) (h:Heap) (l1 l2:Addr):Heap:=(P1 t1 h l1).push { cls:=.type (itN t2),data:=.fields #[.ref l2,.int 0 0] }
abbrev P3' (t1 t2:Bool) (h:Heap) (l1 l2:Addr):Heap:=(P2 t1 t2 h l1 l2).push { cls:=.type "tuple", data:=.seq #[.ref h.objs.size,.ref (P1 t1 h l1).objs.size] }
abbrev P4 (t1 t2:Bool) (h:Heap) (l1 l2:Addr):Heap:=(P3' t1 t2 h l1 l2).push { cls:=.type "tuple", data:=.seq #[.none,.none] }
abbrev P5 (t1 t2:Bool) (h:Heap) (l1 l2:Addr):Heap:=(P4 t1 t2 h l1 l2).push { cls:=.type "zip", data:=.fields #[.none,.bool false,.bool false,.ref (P2 t1 t2 h l1 l2).objs.size,.ref (P3' t1 t2 h l1 l2).objs.size] }
theorem made (t1 t2:Bool) (l1 l2:Addr) (xs ys:Array Value):Meets (Builtin.«zip.__new__» ⟨[.type "zip", .ref l1,.ref l2],[]⟩) (fun _ R s=>SSq t1 l1 xs s.heap ∧ SSq t2 l2 ys s.heap ∧ R (.ok (.ret (.ref (P4 t1 t2 s.heap l1 l2).objs.size))) { s with heap:=P5 t1 t2 s.heap l1 l2 }) :=
 .of_wp fun prog w A R s h=>by
  obtain ⟨hp,g,d,tk,os⟩:=s
  obtain ⟨ht,hl,h⟩:=h
  have hsub:=sub_zip
  cases t1 <;> cases t2
  · have ht':Heap.IsList (Shared.heap ⟨hp,g,d,tk,os⟩) l1 xs:=ht
    have hl':Heap.IsList (Shared.heap ⟨P1 false hp l1,g,d,tk,os⟩) l2 ys:=Heap.IsList.push hl _
    wp_walk using wpAny_pyIter_list ht',wpAny_pyIter_list hl'
    exact ⟨_,rfl,h⟩
  · have ht':Heap.IsList (Shared.heap ⟨hp,g,d,tk,os⟩) l1 xs:=ht
    have hl':Heap.IsTuple (Shared.heap ⟨P1 false hp l1,g,d,tk,os⟩) l2 ys:=Heap.IsTuple.push hl _
    wp_walk using wpAny_pyIter_list ht',wpAny_pyIter_tuple hl'
    exact ⟨_,rfl,h⟩
  · have ht':Heap.IsTuple (Shared.heap ⟨hp,g,d,tk,os⟩) l1 xs:=ht
    have hl':Heap.IsList (Shared.heap ⟨P1 true hp l1,g,d,tk,os⟩) l2 ys:=Heap.IsList.push hl _
    wp_walk using wpAny_pyIter_tuple ht',wpAny_pyIter_list hl'
    exact ⟨_,rfl,h⟩
  · have ht':Heap.IsTuple (Shared.heap ⟨hp,g,d,tk,os⟩) l1 xs:=ht
    have hl':Heap.IsTuple (Shared.heap ⟨P1 true hp l1,g,d,tk,os⟩) l2 ys:=Heap.IsTuple.push hl _
    wp_walk using wpAny_pyIter_tuple ht',wpAny_pyIter_tuple hl'
    exact ⟨_,rfl,h⟩
theorem SIt.new {t:Bool} {it l:Addr} {h:Heap} {o:Obj} (e:h.get? it=some o) (ho:o={ cls:=.type (itN t),data:=.fields #[.ref l,.int 0 0] }):SIt t it l 0 h:=by
 subst ho
 cases t with
 | true=>exact (⟨_,e,rfl,rfl⟩:h.IsTupleIter it l 0)
 | false=>exact (⟨_,e,rfl,rfl⟩:h.IsListIter it l 0)
end ZM
end DL
namespace DL
open PySem L2
section
variable {g:G} {A:Ad} {B:Addr→Prop} {H:Hp}
end
section
variable {X:Cx} {g:G} {W:WX} {e e2:Expr} {f f2:M D} {elts:List Expr} {kk:Nat} {p pos tpos:Pos}
end
end DL
namespace DL
open PySem L2
structure GdF (K:PySem.W.Frag) (mg:Str→Option Value) (w:World) (x:Str) (T:List (Str × List Int)):Prop where
 ex:∃ a es n,mg x=some (.ref a) ∧ KDict K w a es n ∧ (∀ k,T.lookup k=none→PySem.W.nsIn K a k=some none) ∧ ∀ k ns,T.lookup k=some ns→∃ b,PySem.W.nsIn K a k=some (some (.ref b)) ∧ DL.KT K b (ns.map V.int)
section
variable {X:Cx} {W:WX} {a:Expr} {fa:M D} {x:Str} {T:List (Str × List Int)} {p pos:Pos}
end
end DL
namespace DL
open PySem L2
section
variable {X:Cx} {g:G} {W:WX} {tg e e2 e3:Expr} {f f2 f3:M D} {p pos:Pos}
end
end DL
namespace DL
open PySem L2
section
variable {X:Cx} {g:G} {W:WX} {e:Expr} {lo hi:Option Expr} {f:M D} {fl fh:M (Option Int)} {pos p2:Pos}
end
end DL
namespace DL
open PySem L2
instance (i j:Int):Decidable (CDivW i j):=by unfold CDivW; infer_instance
section
variable {X:Cx} {g:G} {W:WX} {a b:Expr} {fa fb:M D} {pos:Pos}
end
end DL
namespace DL
open PySem L2
section
variable {X:Cx} {a:Addr} {oe:Obj} {cls:Value} {d:Option Addr} {pn:List (Addr × Obj)}
end
section
variable {X:Cx} {W:WX} {a:Addr} {oe:Obj} {cls:Value} {d:Option Addr} {pn:List (Addr × Obj)} {np cp tp p pos:Pos} {c x:Str} {L:List Str} {T:List (Str × Bool)} {es:List Expr} {kk:Nat}
end
end DL
namespace DL
open PySem L2
section
variable {X:Cx} {g:G} {W:WX} {a b c:Expr} {fa fb fc:M D} {f f':D→D→Option D} {pos:Pos}
end
end DL
namespace DL
open PySem L2 PyProof.Rows
section
variable {X:Cx}
end
section
variable {X:Cx} {W:WX} {a b:Expr} {fa fb:M D} {pos:Pos} {n:Nat}
end
end DL
namespace DL
open PySem L2
def forXGo (nx:NX) (T:TT1) (F:MS):Nat→Nat→MS
 | 0,_=>fun _ _=>none
 | k + 1,i=>fun ρ ω=>match nx i ω with
  | none=>none
  | some none=>some (.nx ρ ω)
  | some (some d)=>match T d ρ ω with
   | none=>none
   | some ρ1=>match F ρ1 ω with
    | some (.nx ρ2 ω2)=>forXGo nx T F k (i + 1) ρ2 ω2
    | some (.ct ρ2 ω2)=>forXGo nx T F k (i + 1) ρ2 ω2
    | some (.bk ρ2 ω2)=>some (.bk ρ2 ω2)
    | r=>r
def forX (src:M NX) (T:TT1) (F:MS):MS:=fun ρ ω=>match src ρ ω with
 | some (.val nx ω')=>unbk (forXGo nx T F 100000 0 ρ ω')
 | _=>none
section
variable {X:Cx} {g:G} {n:En} {W:WX} {tg iter:Expr} {body orelse:List Stmt} {src:M NX} {T:TT1} {is:List Nat} {F K:MS} {pos:Pos}
theorem tFor_goX {J:It} {nx:NX} {C:Cnd} {D:Ends} {u:St→Hp→Prop} {A:Ad} {B:Addr→Prop} {H:Hp} {σ:St} {ρ:Rho} {ω:List Cell} {r0:RS} {k0:Nat} (ib:ItW g J nx C) (hC:stayM C) (hCS:stayS C)
  (st:Stp n.A n.B n.H A B H) (fm:Fm g n.H A B H ω σ ρ) (c:C A B H) (e:forXGo nx T F k0 0 ρ ω=some r0) (res:ResS g n W A B H { D with nx:=u,bk:=D.nx } r0) :
  ∃ Wi:Nat→Nat→St→Hp→Prop,(∃ m,Wi 0 m σ H) ∧ ∀ i m σ H,Wi i m σ H →
   (J.stop i H ∧ u σ H) ∨ (J.go i H ∧ ∃ N:St→Hp→Prop,(∀ σ' H',N σ' H'→∃ m',m' < m ∧ Wi (i + 1) m' σ' H') ∧ ∀ x H',J.yld i H x H'→tGM g is T x σ H' fun σ2 H2=>tS g n W F { D with nx:=N,ct:=N,bk:=D.nx } σ2 H2):=by
 refine ⟨fun i m σ H=>∃ A B ρ ω,Stp n.A n.B n.H A B H ∧ Fm g n.H A B H ω σ ρ ∧ C A B H ∧ forXGo nx T F m i ρ ω=some r0 ∧ ResS g n W A B H { D with nx:=u,bk:=D.nx } r0,⟨k0,A,B,ρ,ω,st,fm,c,e,res⟩,?_⟩
 rintro i m σ H ⟨A,B,ρ,ω,st,fm,c,e,res⟩
 cases m with
 | zero=>cases e
 | succ m =>
  unfold forXGo at e
  cases qn:nx i ω with
  | none=>simp only [qn] at e; cases e
  | some od =>
   cases od with
   | none =>
    simp only [qn] at e
    cases e
    exact .inl ⟨ib.stop A B H ω i fm.wo c qn,res.next (.refl _ _ _) st fm⟩
   | some d =>
    simp only [qn] at e
    refine .inr ⟨ib.go A B H ω i d fm.wo c qn,fun σ' H'=>∃ A B ρ ω,Stp n.A n.B n.H A B H' ∧ Fm g n.H A B H' ω σ' ρ ∧ C A B H' ∧ forXGo nx T F m (i + 1) ρ ω=some r0 ∧ ResS g n W A B H' { D with nx:=u,bk:=D.nx } r0,fun σ' H' p=>⟨m,Nat.lt_succ_self _,p⟩,fun x H' y=>?_⟩
    obtain ⟨t,w,dp⟩:=ib.yld A B H ω i d x H' fm.wo c qn y
    cases qT:T d ρ ω with
    | none=>simp only [qT] at e; cases e
    | some ρ1 =>
     simp only [qT] at e
     refine ⟨n.H,A,B,ρ,ω,d,ρ1,fm.up t w,dp,qT,fun σ2 fm2 _=>?_⟩
     have c':C A B H':=hCS A B H A B H' fm.wo.liv t c
     have m':Mv A B H A B H':=fm.wo.mv t
     cases qF:F ρ1 ω with
     | none=>simp only [qF] at e; cases e
     | some r =>
      simp only [qF] at e
      refine ⟨A,B,ρ1,ω,r,st.trans t,fm2,qF,?_⟩
      cases r with
      | nx ρ2 ω2=>exact fun σ' A' B' H'' m s' fm'=>⟨A',B',ρ2,ω2,s',fm',hC _ _ _ _ _ _ m c',e,(res.mv m').mv m⟩
      | ct ρ2 ω2=>exact fun σ' A' B' H'' m s' fm'=>⟨A',B',ρ2,ω2,s',fm',hC _ _ _ _ _ _ m c',e,(res.mv m').mv m⟩
      | bk ρ2 ω2=>cases e; exact res.mv m'
      | rt d' ω2=>cases e; exact res
      | exc x' ρ2 ω2=>cases e; exact res.mv m'
theorem ds_forX (hp:PassesOwn (model X.prog X.w) X.A X.env X.xe) (hc:X.calm=true) (hi:PI X tg iter (tIX g src)) (hg:PG X tg (tGM g is T)) (hb:PSs X body (tS g n W F))
  (hs:∀ x,foldedSetIterable iter X.env x=pure x:=by intro _; rfl):PS X (.For tg iter body [] pos) (tS g n W (forX src T F)) :=
 (ps_for hp hc hi hg hb hs).dl fun D σ H ⟨A,B,ρ,ω,r,s,fm,e,res⟩=>by
  unfold forX at e
  cases q:src ρ ω with
  | none=>simp only [q] at e; cases e
  | some z =>
   cases z with
   | exc x w=>simp only [q] at e; cases e
   | val nx ω1 =>
    simp only [q] at e
    refine ⟨n.H,A,B,ρ,ω,nx,ω1,fm,q,fun J C A1 B1 H1 t w ib hC c=>?_⟩
    have m1:=fm.wo.mv t
    cases q2:forXGo nx T F 100000 0 ρ ω1 with
    | none=>simp only [q2] at e; cases e
    | some r0 =>
     simp only [q2] at e
     have res1:=res.mv m1
     refine tFor_goX ib hC (.of hC) (s.trans t) (fm.up t w) c q2 ?_
     cases r0 with
     | nx ρ' ω'=>cases e; exact res1
     | bk ρ' ω'=>cases e; exact res1
     | ct ρ' ω'=>cases e; exact res1
     | rt d ω'=>cases e; exact res1
     | exc x ρ' ω'=>cases e; exact res1
end
theorem forX_ev {src:M NX} {T:TT1} {F:MS} {nx:NX} {ρ:Rho} {ω ω':List Cell} {r:RS} (h:src ρ ω=some (.val nx ω')) (k:forXGo nx T F 100000 0 ρ ω'=some r):forX src T F ρ ω=unbk (some r):=by
 unfold forX; rw [h,← k]
theorem enX_oid {k:Nat} {es:List D} {ρ:Rho} {ω:List Cell} (h:ω[k]?=some (.lst es)):enX (.oid k) ρ ω=some (.val (nxE k) ω):=by
 unfold enX; simp only [h]
theorem stX_oid {k:Nat} {es:List D} {ρ:Rho} {ω:List Cell} (h:ω[k]?=some (.lst es)):stX (.oid k) ρ ω=some (.val (nxS k) ω):=by
 unfold stX; simp only [h]
end DL
namespace DL
open PySem L2
def popAtM (fo fa:M D):M D:=fo.bind fun x=>(isLst x).bind fun _=>fa.bind fun y=>fun ρ ω=>match x with
 | .oid k=>match ω[k]? with
  | some (.lst ds)=>match y with
   | .int i=>if 0 ≤ i ∧ i < 1000000 then match ds[i.toNat]? with
    | some d=>some (.val d (ω.set k (Cell.lst (ds.eraseIdx i.toNat))))
    | none=>none
    else none
   | _=>none
  | _=>none
 | _=>none
section
variable {X:Cx} {g:G} {W:WX} {e o:Expr} {fa fo:M D} {p pos apos:Pos}
theorem de_popAt (ho:PE X o (tM g rD W fo)) (ha:PE X e (tM g rD W fa)) (hbase:attributeBase o "pop" X.env (eval o X.env)=eval o X.env:=by rfl)
  (hfew:((backTo pos (starEach [e] X.env)).all (fun x=>!x.1) && (backToKw pos (keywordEach [] X.env)).all (fun x=>x.1.isSome)
   && decide ([e].length + ([]:List Keyword).length + (if ([]:List Keyword).isEmpty then 0 else 1) < 30))=true:=by rfl)
  (hline:(apos.endLine == pos.line)=true:=by rfl) (hst:starEach [e] X.env=(false,eval e X.env) :: starEach [] X.env:=by rfl) (hplain:(backTo pos (starEach [] X.env)).any (·.1)=false:=by rfl) :
  PE X (.Call (.Attribute o "pop" apos) [e] [] pos) (tM g rD W (popAtM fo fa)) :=
 (pe_bm PySem.F.plainAttrs_list PySem.F.slot_list_pop PySem.F.type_list_pop mt_popAt ho (pa_cons ha pa_nil hst) hbase hfew hline hst hplain).dl fun σ H Q ⟨H0,A,B,ρ,ω,r,fm,e,res⟩=>by
  refine tM_mono (tM_bind fm e res) fun x H1 ⟨A1,B1,ω1,d1,t1,fm1,r1,e1,res1⟩=>?_
  obtain ⟨ds0,ev0,e1⟩:=isLst_some e1
  obtain ⟨q0,vs0,rfl,hp0,l0⟩:=Vw.of r1 fm1.wo ev0
  refine ⟨.inl ⟨rfl,vs0,SqL.of hp0⟩,?_⟩
  refine tM_mono (tM_bind fm1 e1 res1) fun y H2 ⟨A2,B2,ω2,d2,t2,fm2,r2,e2,res2⟩=>?_
  cases d1 with
  | oid k =>
   simp only at e2
   cases q:ω2[k]? with
   | none=>simp only [q] at e2; cases e2
   | some c =>
    cases c with
    | lst ds =>
     simp only [q] at e2
     cases d2 with
     | int i =>
      simp only at e2
      split at e2
      · rename_i hz
        cases q2:ds[i.toNat]? with
        | none=>simp only [q2] at e2; cases e2
        | some d =>
         simp only [q2] at e2
         cases e2
         obtain ⟨a,vs,ea,ha2,hp,l⟩:=lst_at fm2.wo q (Dp.mv (fm1.wo.mv t2) _ _ r1)
         cases ea
         obtain ⟨v,hv,dv⟩:=l.get q2
         have hlt:i.toNat < ds.length:=(List.getElem?_eq_some_iff.mp q2).1
         cases r2
         refine ⟨_,vs,i,i.toNat,v,rfl,rfl,hp,by omega,by omega,seqIndex_of hz.1 (by rw [l.length]; omega),hv,?_⟩
         obtain ⟨fm3,m3⟩:=fm2.cellW (u:=.lst (vs.eraseIdx i.toNat)) (c:=.lst (ds.eraseIdx i.toNat)) ha2 (frz_not hp) fun H' _ hu m=>⟨_,hu,DpL.mv m _ _ (l.eraseIdx _)⟩
         exact res2 _ A2 B2 _ ((Stp.refl _ _ _).cellW (Liv.of ha2) (frz_not hp)) fm3.wo (Dp.mv m3 _ _ dv)
      · cases e2
     | _=>simp only at e2; cases e2
    | _=>simp only [q] at e2; cases e2
  | _=>simp only at e2; cases e2
end
theorem popAtM_ev {fo fa:M D} {k:Nat} {ds:List D} {i:Int} {d:D} {ρ:Rho} {ω ω1 ω2:List Cell} (ho:fo ρ ω=some (.val (.oid k) ω1)) (hl:isLst (.oid k) ρ ω1=some (.val () ω1)) (ha:fa ρ ω1=some (.val (.int i) ω2)) (hk:ω2[k]?=some (.lst ds)) (h0:0 ≤ i) (h:i < 1000000) (hd:ds[i.toNat]?=some d) :
  popAtM fo fa ρ ω=some (.val d (ω2.set k (Cell.lst (ds.eraseIdx i.toNat)))):=by
 unfold popAtM
 rw [bind_ev ho,bind_ev hl,bind_ev ha]
 simp only [hk]
 rw [if_pos ⟨h0,h⟩,hd]
end DL
namespace DL
namespace ZM
open PySem L2 PySem.Spec PyProof.Rows
open AutoSeq1 (wpAny_loadPart')
end ZM
open PySem L2
section
variable {X:Cx} {g:G} {W:WX} {e:Expr} {f:M D} {elts:List Expr} {kk:Nat} {p pos tpos:Pos}
end
end DL
namespace DL
open PySem PySem.Spec PyProof.Rows L2
section
variable {X:Cx}
end
def tupK:D→Option (List Int)
 | .tup [.int n,d]=>match tupN d with
  | some ns=>if n=(ns.length:Nat) then some ns else none
  | none=>none
 | _=>none
section
variable {X:Cx} {g:G} {W:WX} {e:Expr} {fa:M D} {f:M D} {p pos:Pos} {ρ:Rho} {ω ω':List Cell} {x:D}
end
end DL
namespace DL
open PySem L2 PyProof.Rows
section
variable {g:G} {X:Cx} {W:WX} {o e:Expr} {fo fa:M D} {pos apos:Pos} {n:Nat}
end
section
variable {fo fa:M D} {ρ:Rho} {ω ω1 ω2:List Cell} {x y:D} {xs ds:List D}
end
end DL
namespace DL
open PySem L2
section
variable {X:Cx} {g:G} {W:WX} {e:Expr} {fa:M D} {p pos:Pos}
end
section
variable {f:M D} {ρ:Rho} {ω ω':List Cell} {x:D}
end
end DL
namespace DL
open PySem PySem.Spec PyProof.Rows L2
section
variable {prog:Program} {w:World} {A:Around} {E:Value→Shared→Prop} {s:Shared} {Q:Value→Shared→Prop} {f c' L:Addr} {q x:Str} {scope:Scope} {its:Array Value}
end
section
variable {X:Cx} {pins:List (Addr × Obj)} {s:Shared} {σ:L2.St} {H:Hp} {a f c':Addr} {xs:List V} {ns:List Int} {q x:Str} {params:Arguments} {scope:Scope} {p2 p3 p5:Pos} {kd:Nat} {Q:VK}
end
section
variable {X:Cx} {g:G} {W:WX} {e:Expr} {fa:M D} {p pos lpos kpos p2 p3 p5:Pos} {kd k:Nat} {c P:Addr} {nm x:Str} {params:Arguments} {scope:Scope}
end
end DL
namespace DL
open PySem L2
def dropKD (kvs:List (Key × D)) (k:Key):List (Key × D):=kvs.filter fun kv=>decide (kv.1 ≠ k)
theorem DpK.drop {g:G} {A:Ad} {B:Addr→Prop} {H:Hp} (k:Key):∀ {ds:List (Key × D)} {vs:List (Key × V)},DpK g A B H vs ds→DpK g A B H (dropK vs k) (dropKD ds k)
 | [],_,h=>by cases h; exact .nil
 | (k',d) :: ds,_,h=>by
  cases h with
  | cons h1 h2 =>
   have ih:=DpK.drop k h2
   unfold dropK dropKD at ih ⊢
   by_cases e:k' ≠ k
   · rw [List.filter_cons_of_pos (by simpa using e),List.filter_cons_of_pos (by simpa using e)]
     exact .cons h1 ih
   · rw [List.filter_cons_of_neg (by simpa using e),List.filter_cons_of_neg (by simpa using e)]
     exact ih
section
variable {X:Cx} {g:G} {n:En} {W:WX} {e o i:Expr} {fv fo fk:M D} {pos pos':Pos}
end
theorem DpK.at {g:G} {A:Ad} {B:Addr→Prop} {H:Hp}:∀ {ds:List (Key × D)} {vs:List (Key × V)} {i:Nat} {k:Key} {x:V},DpK g A B H vs ds→vs[i]?=some (k,x)→∃ d,(ds.map fun kv=>kv.2)[i]?=some d ∧ Dp g A B H x d
 | [],_,i,k,x,h,e=>by cases h; cases i <;> cases e
 | (k',d) :: ds,_,0,k,x,h,e=>by
  cases h with
  | cons h1 h2=>cases e; exact ⟨d,rfl,h1⟩
 | (k',d) :: ds,_,i + 1,k,x,h,e=>by
  cases h with
  | cons h1 h2 =>
   obtain ⟨d',e1,e2⟩:=DpK.at (i:=i) h2 (by simpa using e)
   exact ⟨d',by simpa using e1,e2⟩
section
variable {X:Cx} {g:G} {W:WX} {tg e:Expr} {f:M D} {apos cpos:Pos}
end
end DL
namespace DL
open PySem L2
section
variable {X:Cx} {g:G} {W:WX} {pos:Pos} {keys:List (Option Expr)} {vals:List Expr} {ks:List Str} {fs:M (List D)} {v:Expr} {fv:M D} {k:Str}
end
end DL
namespace DL
open PySem L2
structure CfF (K:PySem.W.Frag) (mg:Str→Option Value) (c m:Str) (f:Addr):Prop where
 ex:∃ C,mg c=some (.ref C) ∧ PySem.W.readsIn K C (.type "type")=true ∧ PySem.W.specialIn K (.ref C) "__getattribute__" = some (some (.builtin "type.__getattribute__")) ∧
  PySem.W.findCls K (.ref C) (.type "type") m=some (.val (.ref f))
structure CalC (P:Program) (w:World) (K:PySem.W.Frag) (mg:Str→Option Value) (base:Heap) (c m:Str) (ps:List Str) (k:Nat) (Gf:Fn):Prop where
 ex:∃ f fd,CfF K mg c m f ∧ PySem.W.keepIn K (.ref f)=true ∧ Binds K fd ps [] ∧ FnOk P w K mg base (CXm mg P w) k f fd ps (spD ⟨K,mg⟩ Gf)
theorem CalC.mono {P:Program} {w:World} {K:PySem.W.Frag} {mg:Str→Option Value} {base:Heap} {c m:Str} {ps:List Str} {k j:Nat} {Gf:Fn} (x:CalC P w K mg base c m ps k Gf) (h:k ≤ j):CalC P w K mg base c m ps j Gf:=by
 obtain ⟨f,fd,h1,h2,h3,h4⟩:=x.ex
 exact ⟨f,fd,h1,h2,h3,h4.mono h⟩
structure FCf (K:PySem.W.Frag) (mg:Str→Option Value) (c m qual:Str) (st:Stmt):Prop where
 ex:∃ f fd,CfF K mg c m f ∧ Fun K m qual st f fd
section
variable {X:Cx} {W:WX} {c m:Str} {p1 p2 pos:Pos} {e:Expr} {es:List Expr} {fs:M (List D)} {k j:Nat} {ps:List Str} {Gf:Fn}
end
end DL
namespace DL
open PySem L2
section
variable {X:Cx} {W:WX} {p pos:Pos} {fe e:Expr} {es:List Expr} {fo:M D} {fs:M (List D)} {k j:Nat} {T:List (Str × Fn)} {ta:TE} {t:TA}
end
structure Mk00 (K:PySem.W.Frag) (mg:Str→Option Value) (c:Str):Prop where
 ex:∃ C,mg c=some (.ref C) ∧ PySem.W.makesIn K C=true ∧ PySem.W.findIn K (.ref C) "__init__" = some (some (.builtin "object.__init__")) ∧ PySem.W.keepIn K (.ref C)=true
end DL
namespace DL
open PySem L2
open PyProof.Rows hiding St
section
variable {X:Cx} {body:List Stmt} {f₀:Stmt} {fs:List Stmt} {pos:Pos} {tb tf:TS}
end
section
variable {X:Cx} {g:G} {n:En} {W:WX} {body:List Stmt} {f₀:Stmt} {fs:List Stmt} {pos:Pos} {F G:MS}
end
end DL
namespace DL
open PySem L2
section
open PyProof.Rows hiding St
def tMkO0 (C:Addr) (sp:Sp):L2.St→Hp→XK→Prop:=fun σ H Q=>∀ a,H a=none→sp [.ref a] (upd H a (exo a C none)) (fun v H2=>v=.non ∧ H2 a=some (exo a C none) ∧ Q (.ref C) none (del H2 a)) (fun _ _ _=>False)
theorem mk_end00 {X:Cx} {pins:List (Addr × Obj)} {σ:L2.St} {H1 H2:Hp} {hp hp2 h2:Heap} {g1 g2:Array GenState} {d1 d2:Drawn} {t1 t2:Nat} {os1 os2:OsState} {a C:Addr} (I1:Inv X pins σ H1 ⟨hp,g1,d1,t1,os1⟩)
  (ha:hp.objs.size ≤ a) (k:∀ b o,hp.get? b=some o→hp2.get? b=some o) (un:Un (frs X.stack) [] (upd H1 a (exo a C none)) H2 hp2 h2) (hok:HOk X.prog X.w H2 h2) (ho:os2=os1) (hb:AllBare g2)
  (ea:H2 a=some (exo a C none)) :
  ∃ (t0:Addr) (G:Heap),Inv X pins σ (del H2 a) ⟨G,g2,d2,t2,os2⟩ ∧ (∀ b o,G.get? b=some o→h2.get? b=some o) ∧ G.get? a=none ∧
   h2.get? a=some ({ cls:=.ref C,dict:=none,data:=.fields #[.ref t0,.none,.none,.none,.bool false,.none] }:Obj) ∧ (del H2 a) a=none:=by
 obtain ⟨t0,hoe⟩:=exo_at hok ea
 have hn:H1 a=none:=I1.hok.fresh ha
 obtain ⟨G,g1',g2'⟩:=restrict h2 fun b=>decide (b ≠ a)
 have gk:∀ b,b ≠ a→G.get? b=h2.get? b:=fun b hb=>g1' b (decide_eq_true hb)
 have ge:G.get? a=none:=g2' a (by simp)
 have nha:∀ {b:Addr} {o:Obj},hp.get? b=some o→b ≠ a:=fun {b o} z=>Nat.ne_of_lt (Nat.lt_of_lt_of_le (Heap.lt_size z) ha)
 have up:∀ {b:Addr},b ≠ a→H1 b=none→upd H1 a (exo a C none) b=none:=fun {b} hb n=>by rw [upd_ne hb]; exact n
 have U:Un (frs X.stack) [] H1 (del H2 a) hp G:={
  keep:=fun b o z n hf hx=>by
   rw [gk b (nha z)]
   exact un.keep b o (k b o z) (up (nha z) n) hf hx
  slot:=fun b o z n hf hx=>by
   rw [gk b (nha z)]
   exact un.slot b o (k b o z) (up (nha z) n) hf hx
  free:=fun b o z n hx=>by
   rw [del_ne (nha z)]
   exact un.free b o (k b o z) (up (nha z) n) hx
  there:=fun b o z hx=>by
   rw [gk b (nha z)]
   exact un.there b o (k b o z) hx
  tups:=fun b xs z=>by
   rw [del_ne (ne_of_none z hn)]
   exact un.tups b xs (by rw [upd_ne (ne_of_none z hn)]; exact z)
  frzs:=fun b o v z=>by
   rw [del_ne (ne_of_none z hn)]
   exact un.frzs b o v (by rw [upd_ne (ne_of_none z hn)]; exact z)
  tbls:=fun b ps z=>by
   rw [del_ne (ne_of_none z hn)]
   exact un.tbls b ps (by rw [upd_ne (ne_of_none z hn)]; exact z) }
 have hok3:HOk X.prog X.w (del H2 a) G:=fun b o z=>by
  have hba:b ≠ a:=fun e=>by
   rw [e,del_same] at z
   cases z
  rw [del_ne hba] at z
  have noa:∀ {c:Addr},H2 c=some (.own b)→c ≠ a:=fun {c} hc=>at_ne ea hc exo_own
  exact (hok b o z).stay (fun c v hc y=>by
    have hca:c ≠ a:=by
     rcases hc with hc | hc
     · rw [hc]
       exact hba
     · exact noa hc
    rw [gk c hca]
    exact y)
   (fun c hc=>by rw [del_ne (noa hc)]; exact hc) (fun c xs hc=>by rw [del_ne (at_ne ea hc exo_tup)]; exact hc)
 have J:Inv X pins σ (del H2 a) ⟨G,g2,d2,t2,os2⟩:=I1.call' (ch:=[]) ho U hok3 hb (fun b z=>absurd z (by simp))
 refine ⟨t0,G,J,fun b o z=>?_,ge,hoe,del_same⟩
 by_cases hba:b=a
 · rw [hba,ge] at z
   cases z
 · exact (gk b hba).symm.trans z
section
variable {X:Cx} {C fI:Addr} {k j:Nat} {fd:FuncData} {ps:List Str} {sp:Sp} {x c:Str} {p p2 pos:Pos} {W:WX} {n:En}
theorem pmk_q0 (T:OexC X.K C) (iC:PySem.W.findIn X.K (.ref C) "__init__" = some (some (.ref fI))) (tI:PySem.W.typeIn X.K (.ref fI)=some (.type "function"))
  (F1:FnQ X.prog X.w X.K X.mg X.base k fI fd ps sp) (hr:RoomQ (k + 1) X.A) (hb:Binds X.K fd ps []) (hg:Gl X x) (hm:X.mg x=some (.ref C)) (hdb:(x == ("__debug__" : Str))=false:=by decide) :
  L2H.PMk5 X (.Call (.Name x p) [] [] pos) (tMkO0 C sp):=fun pins s σ H Q I h=>by
 obtain ⟨nm,q,N,bs,bm,sn,sub,ab,col,dd,k0,k1,k2,k3,k5,hC,hbm⟩:=T.cls
 refine wpAny_Call_Name_kw (ld_glob I hg hm (PySem.W.callWith_K0 I.kIn T.kC ?_) hdb)
 show wpAny _ _ (call (.ref C) []) _ _ _
 obtain ⟨hp,g,dr,tk,os⟩:=s
 have hsz:hp.objs.size ≤ hp.objs.size + 1:=Nat.le_succ _
 have hq:=h (hp.objs.size + 1) (I.hok.fresh hsz)
 have kk:∀ b o,hp.get? b=some o→((hp.push (PySem.W.kdv_tup [])).push (PySem.HandSPX.excO C hp.objs.size)).get? b=some o:=fun b o e=>Heap.get?_push_of_some _ (Heap.get?_push_of_some _ e)
 have I2:=I.laid (t':=tk) (a:=hp.objs.size + 1) (o:=exo (hp.objs.size + 1) C none) kk hsz (exo_ok (show ((hp.push (PySem.W.kdv_tup [])).push (PySem.HandSPX.excO C hp.objs.size)).get? (hp.objs.size + 1)=some (PySem.HandSPX.excO C hp.objs.size) by heap_get))
 have r2:Vals [V.ref (hp.objs.size + 1)] [Value.ref (hp.objs.size + 1)]:=.cons rfl .nil
 have hl:([Value.ref (hp.objs.size + 1)] ++ []).length=ps.length:=by
  rw [List.append_nil,← F1.ln _ _ _ _ hq]
  exact r2.length.symm
 have b2:=hb _ [Value.ref (hp.objs.size + 1)] I2.kIn hl
 rw [List.append_nil] at b2
 have rm:=hr.cold.make C [] []
 refine wpAny_call (PySem.HandSPX.call_own F.excBase_ValueError (fun Y=>PySem.HandSPX.refsVE_contains Y bm hbm) (I.kIn _ _ hC) (PySem.W.looks_findIn I.kIn iC) (fun self=>PySem.W.bind_fn I.kIn self tI) (Nat.zero_le _)
  (codeAny_mono (F1.go _ X.stack _ _ ⟨[Value.ref (hp.objs.size + 1)],[]⟩ _ _ _ (fun _ _ _=>False) ⟨rm.dp,rm.un⟩ (I2.env0.make C [] []) b2 r2 hq) fun r s' hq'=>?_))
 cases r with
 | error er=>exact (cxm_none hq').elim
 | ok fl =>
  cases fl with
  | ret u =>
   obtain ⟨v,H2,os2,bare2,un2,hok2,rv,ev,ea,q2⟩:=hq'
   subst ev
   obtain ⟨h2,g2,d2,t2,os'⟩:=s'
   obtain ⟨t0,G,J,kG,ge,hoe,na⟩:=mk_end00 (d2:=d2) (t2:=t2) I hsz kk un2 hok2 os2 bare2 ea
   refine ⟨rv,⟨hp.objs.size + 1,_,_,⟨G,g2,d2,t2,os'⟩,_,.ref C,none,rfl,J,kG,ge,hoe,⟨rfl,rfl,fun vs hv=>?_⟩,rfl,rfl,na,rfl,bare2,raises_own T.exC T.tyC,q2⟩,fun a oe vs ea2 hg2 hd2=>?_⟩
   · cases hv
     rfl
   · cases ea2
     have hg3:h2.get? (hp.objs.size + 1)=some oe:=hg2
     rw [hoe] at hg3
     cases hg3
     cases hd2
     show (4:Nat) < 6
     decide
  | next=>exact False.elim hq'
  | brk=>exact False.elim hq'
  | cont=>exact False.elim hq'
def raiS0 (c:Str):MS:=fun ρ ω=>some (.exc ⟨c,[]⟩ ρ ω)
theorem ds_raise0 (tk:Takes X W) (hc:X.calm=true) (cx:CalX0 X.prog X.w X.K X.mg X.base c ps k) (hr:Room j X.A) (hj:k + 1 ≤ j) (hg:Gl X c) (hdb:(c == ("__debug__" : Str))=false:=by decide) :
  PS X (.Raise (some (.Call (.Name c p) [] [] pos)) none p2) (tS ⟨X.K,X.mg⟩ n W (raiS0 c)):=by
 obtain ⟨C,fI,fd,h1,h2,h3,h4,h5,h6⟩:=cx.ex
 refine (L2N.ps_raise hc tk.2 (pmk_q0 h2 h3 h4 h6 (RoomQ.of (hr.mono hj)) h5 hg h1 hdb).pmk).dl fun D σ H ⟨A,B,ρ,ω,r,s,fm0,e0,res⟩=>?_
 cases e0
 refine fun a hn=>⟨a,rfl,upd_same,rfl,upd_same,?_⟩
 have eh:del (upd H a (exo a C none)) a=H:=by
  funext b
  by_cases hba:b=a
  · rw [hba,del_same,hn]
  · rw [del_ne hba,upd_ne hba]
 rw [eh]
 exact res (.ref C) none σ A B _ (.refl _ _ _) s fm0 ⟨h1,.inr ⟨rfl,rfl⟩⟩
end
end
end DL
namespace DL
open PySem L2
def dpn (ω:List Cell):Nat→D→D
 | 0,d=>d
 | n + 1,.oid k=>match ω[k]? with
  | some (.lst ds)=>.lst (ds.map (dpn ω n))
  | _=>.oid k
 | n + 1,.tup ds=>.tup (ds.map (dpn ω n))
 | n + 1,.lst ds=>.lst (ds.map (dpn ω n))
 | _ + 1,d=>d
section
variable {g:G} {A:Ad} {B:Addr→Prop} {H:Hp} {ω:List Cell}
theorem dpL_deep {n:Nat} (ih:∀ (d:D) (v:V),plain (dpn ω n d)=true→Dp g A B H v d→L2.Dp g.K H v (toPy (dpn ω n d))):∀ (ds:List D) (vs:List V),plainL (ds.map (dpn ω n))=true→DpL g A B H vs ds→L2.DpAll g.K H vs (toPyL (ds.map (dpn ω n)))
 | [],_,_,h=>by cases h; exact .nil
 | d :: ds,_,p,h=>by
  rw [List.map_cons] at p ⊢
  simp only [plainL,Bool.and_eq_true] at p
  cases h with
  | cons h1 h2=>exact .cons (ih d _ p.1 h1) (dpL_deep ih ds _ p.2 h2)
theorem dp_deep (w:Wo g A B H ω):∀ (n:Nat) (d:D) (v:V),plain (dpn ω n d)=true→Dp g A B H v d→L2.Dp g.K H v (toPy (dpn ω n d))
 | 0,d,v,p,h=>dp_toPy d v p h
 | n + 1,.oid k,v,p,h=>by
  unfold dpn at p ⊢
  cases q:ω[k]? with
  | none=>simp [q,plain] at p
  | some c =>
   cases c with
   | lst ds =>
    simp only [q] at p ⊢
    obtain ⟨a,vs,rfl,ha,hp,l⟩:=lst_at w q h
    exact .lst (SqL.of hp) (dpL_deep (dp_deep w n) ds vs (by simpa [plain] using p) l)
   | _=>simp [q,plain] at p
 | n + 1,.tup ds,v,p,h=>by
  obtain ⟨a,vs,rfl,hs,l⟩:=Dp.seq h
  exact .tup hs (dpL_deep (dp_deep w n) ds vs (by simpa [plain,dpn] using p) l)
 | n + 1,.lst ds,v,p,h=>by
  cases h with
  | lst nn r l=>exact .lst (SqL.of r) (dpL_deep (dp_deep w n) ds _ (by simpa [plain,dpn] using p) l)
 | n + 1,.non,v,p,h=>dp_toPy _ v p h
 | n + 1,.bl _,v,p,h=>dp_toPy _ v p h
 | n + 1,.int _,v,p,h=>dp_toPy _ v p h
 | n + 1,.str _,v,p,h=>dp_toPy _ v p h
 | n + 1,.dic _,v,p,h=>by simp [dpn,plain] at p
 | n + 1,.obj _ _,v,p,h=>by simp [dpn,plain] at p
 | n + 1,.scr _,v,p,h=>by simp [dpn,plain] at p
 | n + 1,.exc _ _,v,p,h=>by simp [dpn,plain] at p
theorem rw_deep (w:Wo g A B H ω) {n:Nat} {d:D} {v:V} (p:plain (dpn ω (n + 1) d)=true) (h:rW g A B H v d):L2.Dp g.K H v (toPy (dpn ω (n + 1) d)):=by
 rcases h with h | ⟨q,vs,ds,rfl,rfl,hp,l,nl⟩
 · exact dp_deep w _ d v p h
 · exact .lst (SqL.of hp) (dpL_deep (dp_deep w n) ds vs (by simpa [plain,dpn] using p) l)
end
def cmpW (f:D→D→Option D) (fa fb:M D):M D:=fa.bind fun x=>fb.bind fun y=>fun _ ω=>(f (dpn ω 4 x) (dpn ω 4 y)).map fun z=>.val z ω
section
variable {X:Cx} {g:G} {W:WX} {a b:Expr} {fa fb:M D} {j:Nat} {pos:Pos}
theorem tM_cmpW {f:D→D→Option D} {r:R2} (hv:∀ (H:Hp) (x y z:D) (v u:V) (Q:VK),(plain x=true→L2.Dp g.K H v (toPy x))→(plain y=true→L2.Dp g.K H u (toPy y))→f x y=some z→(∀ (w:V),(∀ A B,Dp g A B H w z)→Q w H)→r v u H Q) :
  ∀ σ H Q,tM g rD W (cmpW f fa fb) σ H Q→tM g rW W fa σ H fun x H1=>tM g rW W fb σ H1 fun y H2=>r x y H2 Q:=by
 rintro σ H Q ⟨H0,A,B,ρ,ω,r,fm,e,res⟩
 refine tM_mono (tM_bind fm e res) fun x H1 ⟨A1,B1,ω1,d1,t1,fm1,r1,e1,res1⟩=>?_
 refine tM_mono (tM_bind fm1 e1 res1) fun y H2 ⟨A2,B2,ω2,d2,t2,fm2,r2,e2,res2⟩=>?_
 cases q:f (dpn ω2 4 d1) (dpn ω2 4 d2) with
 | none=>rw [q] at e2; cases e2
 | some z =>
  rw [q] at e2
  cases e2
  exact hv H2 _ _ z x y Q (fun p=>rw_deep fm2.wo p (r1.up fm1.wo t2)) (fun p=>rw_deep fm2.wo p r2) q fun w hw=>res2 w A2 B2 H2 (.refl _ _ _) fm2.wo (hw A2 B2)
theorem neW_r:∀ (H:Hp) (x y z:D) (v u:V) (Q:VK),(plain x=true→L2.Dp g.K H v (toPy x))→(plain y=true→L2.Dp g.K H u (toPy y))→neD x y=some z→(∀ (w:V),(∀ A B,Dp g A B H w z)→Q w H)→rNeD g.K v u H Q:=fun H x y z v u Q hx hy e q=>by
 unfold neD at e
 split at e
 · rename_i hf
   simp only [Bool.and_eq_true,fine_iff] at hf
   cases e
   refine ⟨toPy x,toPy y,hx hf.1.1,hy hf.2.1,shaped_toPy hf.1.1 hf.1.2,shaped_toPy hf.2.1 hf.2.2,?_⟩
   rw [eqv_toPy x y hf.1.1 hf.2.1]
   exact q _ fun A B=>.bl _
 · cases e
theorem dt_neW (hK:X.K=g.K) (hr:Room j X.A) (ha:PE X a (tM g rW W fa)) (hb:PE X b (tM g rW W fb)):PT X (.Compare a [.NotEq] [b] pos) (tM g rB W (tst (cmpW neD fa fb))) :=
 (pt_cmpR (op_neD hr.units) ha hb (nomark _)).dl fun σ H Q ⟨H0,A,B,ρ,ω,r,fm,e,res⟩=>by
  rw [hK]
  refine tM_cmpW (r:=rNeD g.K) neW_r σ H _ (tM_mono (tM_bind fm e res) fun x H1 ⟨A1,B1,ω1,d1,t1,fm1,r1,e1,res1⟩=>?_)
  unfold asB at e1
  cases d1 with
  | bl k =>
   cases e1
   cases r1
   exact ⟨k,rfl,res1 k A1 B1 H1 (.refl _ _ _) fm1.wo rfl⟩
  | _=>cases e1
end
section
open PySem.Spec PyProof.Rows
def rLenSetT (K:PySem.W.Frag):V→Hp→VK→Prop:=fun x H Q=>∃ (l:Addr) (ks:List (Addr × List Int)),x=V.ref l ∧ SqL K H l (ks.map fun p=>V.ref p.1) ∧ (∀ p ∈ ks,SqT K H p.1 (p.2.map V.int)) ∧ ks.length < 64 ∧
 ∀ n:Nat,(∀ L:List (List Int),L.Nodup→(∀ x,x ∈ L ↔ x ∈ ks.map (·.2))→n=L.length)→Q (.int n) H
theorem pe_lenSetT {X:Cx} {a:Expr} {ta:TE} {p p2 q pos:Pos} (hg:Gl X "len") (hm:X.mg "len" = none) (hg2:Gl X "set") (hm2:X.mg "set" = none) (ha:PE X a ta) (hc:X.calm=true) (hu:X.A.units + 64 < cLine)
  (na:starEach [a] X.env=(false,eval a X.env) :: starEach [] X.env:=by rfl):PE X (.Call (.Name "len" p) [.Call (.Name "set" p2) [a] [] q] [] pos) (fun σ H Q=>ta σ H fun x H1=>rLenSetT X.K x H1 Q):=by
 refine ⟨fun pins s σ H Q I h=>?_⟩
 refine wpAny_Call_Name_kw (ld_blt (u:=.builtin "len") I hg hm (by decide +kernel) ?_)
 refine PyProof.Rows.callWith_builtin1 (Calls.spliced_cons ?_) rfl rfl
 refine wpAny_Call_Name_kw (ld_blt (u:=.type "set") I hg2 hm2 (by decide +kernel) ?_)
 refine PyProof.Rows.callWith_type1 ?_ na rfl
 rw [na]
 refine Calls.spliced_cons (thn (ha.run pins s σ H _ I h) fun v s1 ⟨x,H1,I1,r1,q1⟩=>Calls.spliced_nil ?_)
 obtain ⟨l,ks,rfl,hl,hk,hf,q1⟩:=q1
 cases r1
 obtain ⟨its,rv,pl,hz⟩:=I1.list hl
 refine call_set_tups (P:=X.prog) (w:=X.w) ks (I1.ok.hd hc) pl.isList (by simpa using refs_of_vals rv) (fun p hp=>I1.isT (hk p hp)) hf (by omega) fun h' tk L es ep t R g k=>?_
 refine Calls.spliced_nil ?_
 obtain ⟨o,ho,hex,hd⟩:=R.ob
 have I2:Inv X pins σ H1 { s1 with heap:=h',toks:=tk }:=I1.kept k
 have hn:es.size=L.length:=by
  have:=congrArg List.length R.rows
  rw [Array.length_toList] at this
  rw [this]
  unfold rowsOf; rw [List.length_map]
 refine call_len_set ho hex hd (SetTR.fits (s:={ s1 with heap:=h',toks:=tk }) R) (by rw [hn]; have:=R.few; omega) ⟨.int (L.length:Nat),H1,I2.tok _,⟨_,by rw [hn]⟩,q1 L.length fun L2 nd hm=>?_⟩
 have nd1:(L.map (·.2)).Nodup:=R.nd
 have:(L.map (·.2)).length=L2.length:=((List.perm_ext_iff_of_nodup nd1 nd).mpr fun x=>by
  rw [hm x]
  constructor
  · intro hx
    obtain ⟨p,hp,rfl⟩:=List.mem_map.mp hx
    exact List.mem_map.mpr ⟨p,List.mem_of_mem_take (g.sub p hp),rfl⟩
  · intro hx
    obtain ⟨p,hp,rfl⟩:=List.mem_map.mp hx
    exact g.all p (by rw [List.take_length]; exact hp)).length_eq
 rw [List.length_map] at this
 exact this
end
def uqI:List (List Int)→List (List Int)
 | []=>[]
 | r :: rs=>if r ∈ rs then uqI rs else r :: uqI rs
theorem uqI_mem {x:List Int}:∀ {rs:List (List Int)},x ∈ uqI rs ↔ x ∈ rs
 | []=>Iff.rfl
 | r :: rs=>by
  unfold uqI
  split
  · rename_i h
    rw [uqI_mem,List.mem_cons]
    exact ⟨.inr,fun z=>z.elim (fun z=>z ▸ h) id⟩
  · rw [List.mem_cons,List.mem_cons,uqI_mem]
theorem uqI_nodup:∀ (rs:List (List Int)),(uqI rs).Nodup
 | []=>List.nodup_nil
 | r :: rs=>by
  unfold uqI
  split
  · exact uqI_nodup rs
  · rename_i h
    exact List.nodup_cons.mpr ⟨fun z=>h (uqI_mem.mp z),uqI_nodup rs⟩
theorem uqI_self:∀ {rs:List (List Int)},rs.Nodup→uqI rs=rs
 | [],_=>rfl
 | r :: rs,h=>by
  obtain ⟨h1,h2⟩:=List.nodup_cons.mp h
  unfold uqI
  rw [if_neg h1,uqI_self h2]
theorem uqI_le:∀ (rs:List (List Int)),(uqI rs).length ≤ rs.length
 | []=>Nat.le_refl _
 | r :: rs=>by
  have:=uqI_le rs
  unfold uqI
  split
  · rw [List.length_cons]; omega
  · rw [List.length_cons,List.length_cons]; omega
theorem uqI_lt:∀ {rs:List (List Int)},¬ rs.Nodup→(uqI rs).length < rs.length
 | [],h=>absurd List.nodup_nil h
 | r :: rs,h=>by
  have h2:=uqI_le rs
  unfold uqI
  split
  · rw [List.length_cons]; omega
  · rename_i hm
    have:¬ rs.Nodup:=fun z=>h (List.nodup_cons.mpr ⟨hm,z⟩)
    have:=uqI_lt this
    rw [List.length_cons,List.length_cons]; omega
def rwI:D→Option (List Int)
 | .tup ds=>intsT ds
 | _=>none
def rwsI:List D→Option (List (List Int))
 | []=>some []
 | d :: ds=>match rwI d,rwsI ds with
  | some x,some xs=>some (x :: xs)
  | _,_=>none
def lenSetT:D→Option D
 | .lst ds=>match rwsI ds with
  | some rs=>if rs.length < 64 then some (.int ((uqI rs).length:Nat)) else none
  | none=>none
 | _=>none
theorem rwsI_map:∀ rs:List (List Int),rwsI (rs.map fun r=>.tup (r.map D.int))=some rs
 | []=>rfl
 | r :: rs=>by
  simp only [List.map_cons,rwsI,rwI,intsT_map,rwsI_map rs]
theorem rwsI_cons {d:D} {ds:List D} {rs:List (List Int)} (h:rwsI (d :: ds)=some rs):∃ x xs,rs=x :: xs ∧ rwI d=some x ∧ rwsI ds=some xs:=by
 simp only [rwsI] at h
 split at h
 · rename_i x xs h1 h2
   cases h
   exact ⟨x,xs,rfl,h1,h2⟩
 · cases h
theorem rwsI_dp {g:G} {A:Ad} {B:Addr→Prop} {H:Hp}:∀ {ds:List D} {vs:List V} {rs:List (List Int)},rwsI ds=some rs→DpL g A B H vs ds→∃ ks:List (Addr × List Int),vs=ks.map (fun p=>V.ref p.1) ∧ rs=ks.map (·.2) ∧ ∀ p ∈ ks,SqT g.K H p.1 (p.2.map V.int)
 | [],_,_,e,h=>by
  cases e; cases h
  exact ⟨[],rfl,rfl,fun p hp=>by cases hp⟩
 | d :: ds,_,rs,e,h=>by
  obtain ⟨x,xs,rfl,h1,h2⟩:=rwsI_cons e
  cases h with
  | cons k1 k2 =>
   obtain ⟨ks,rfl,rfl,h3⟩:=rwsI_dp h2 k2
   cases d with
   | tup zs =>
    obtain ⟨a,vs,rfl,hs,l⟩:=Dp.seq k1
    obtain rfl:=intsT_eq h1
    obtain rfl:=DpL.ints_eq l
    refine ⟨(a,x) :: ks,rfl,rfl,fun p hp=>?_⟩
    rcases List.mem_cons.mp hp with rfl | hp
    · exact hs
    · exact h3 p hp
   | _=>cases h1
section
variable {X:Cx} {g:G} {W:WX} {e:Expr} {fa:M D} {j:Nat} {p p2 q pos:Pos}
theorem v_lenSetT:V1 g (fun x H Q=>rLenSetT g.K x H Q) lenSetT:=by
 intro A B H ω x a c Q w ha e q
 cases a with
 | lst ds =>
  obtain ⟨p,vs,rfl,hp,l⟩:=ha
  simp only [lenSetT] at e
  cases hs:rwsI ds with
  | none=>rw [hs] at e; cases e
  | some rs =>
   rw [hs] at e
   simp only at e
   split at e
   · rename_i h60
     cases e
     obtain ⟨ks,rfl,rfl,h3⟩:=rwsI_dp hs l
     rw [List.length_map] at h60
     refine ⟨p,ks,rfl,SqL.of hp,h3,h60,fun n hn=>?_⟩
     rw [hn _ (uqI_nodup _) fun x=>uqI_mem]
     exact q.now w (.int _)
   · cases e
 | _=>cases e
theorem de_lenSetT (hK:X.K=g.K) (hc:X.calm=true) (hr:Room j X.A) (hg:Gl X "len") (hm:X.mg "len" = none) (hg2:Gl X "set") (hm2:X.mg "set" = none) (ha:PE X e (tM g rW W fa)) (na:starEach [e] X.env=(false,eval e X.env) :: starEach [] X.env:=by rfl) :
  PE X (.Call (.Name "len" p) [.Call (.Name "set" p2) [e] [] q] [] pos) (tM g rD W (uo lenSetT fa)) :=
 (pe_lenSetT hg hm hg2 hm2 ha hc hr.units na).dl (by rw [hK]; exact tM_op1 v_lenSetT)
end
end DL
noncomputable section
namespace L71
open PySem L2 DL
def ca_NoJoin:List (Str × Bool):=[("NoJoin", true),("NoMeeting", false)]
structure Blt (K:PySem.W.Frag) (mg:Str→Option Value):Prop where
 tt:True
 b_abs:mg "abs" = none
 b_any:mg "any" = none
 b_enumerate:mg "enumerate" = none
 b_int:mg "int" = none
 b_len:mg "len" = none
 b_list:mg "list" = none
 b_min:mg "min" = none
 b_range:mg "range" = none
 b_set:mg "set" = none
 b_tuple:mg "tuple" = none
 f_rows:ClFs K mg "rows" ["Run"]
 se_SeatsError:SeI K mg "SeatsError"
 ca_NoJoin:CatF K mg "NoJoin" ca_NoJoin
abbrev P_x_NoJoin:List Str:=["self"]
theorem sc_x_NoJoin:FnScope P_x_NoJoin P_x_NoJoin (defScope s_x_NoJoin):=⟨rfl,rfl,rfl,by decide +kernel,rfl,by decide +kernel,by decide +kernel⟩
theorem kx_NoJoin {P:Program} {w:World} {K:PySem.W.Frag} {mg:Str→Option Value} {base:Heap} (T:FX0 K mg "NoJoin" "NoJoin.__init__" s_x_NoJoin) (S:SeI K mg "SeatsError"):CalX0 P w K mg base "NoJoin" P_x_NoJoin 1 :=
 calX0_of (m := "logs do not fit together") T sc_x_NoJoin rfl (fun a fd F=>F.binds (ps:=P_x_NoJoin) fun _ _ _ _ _ _ us hl=>match us,hl with | [_],_=>rfl) fun fI cdv A outer s H E=>pss_one (ps_expr (pe_seinit S rfl (pa_cons (pv 0) (pa_cons pe_str pa_nil))))
abbrev P_x_NoMeeting:List Str:=["self", "place"]
theorem sc_x_NoMeeting:FnScope P_x_NoMeeting P_x_NoMeeting (defScope s_x_NoMeeting):=⟨rfl,rfl,rfl,by decide +kernel,rfl,by decide +kernel,by decide +kernel⟩
theorem kx_NoMeeting {P:Program} {w:World} {K:PySem.W.Frag} {mg:Str→Option Value} {base:Heap} (T:FX K mg "NoMeeting" "place" "NoMeeting.__init__" s_x_NoMeeting) (S:SeI K mg "SeatsError"):CalX P w K mg base "NoMeeting" "place" P_x_NoMeeting 1 :=
 calX_of (m := "no such meeting") T sc_x_NoMeeting rfl rfl (fun a fd F=>F.binds (ps:=P_x_NoMeeting) fun _ _ _ _ _ _ us hl=>match us,hl with | [_,_],_=>rfl) fun fI cdv A outer s H E=>pss_cons (ps_expr (pe_seinit S rfl (pa_cons (pv 0) (pa_cons pe_str pa_nil)))) (pss_one (ps_ost (pv 0) (pv 1)))
abbrev N_zH:List Str:=["meeting", "part"]
abbrev P_zH:List Str:=["meeting"]
theorem sc_zH:FnScope N_zH P_zH (defScope s_zH):=⟨rfl,rfl,rfl,by decide +kernel,rfl,by decide +kernel,by decide +kernel⟩
def cm_zH_1  : M (List D) :=
 (lcM [1] ((bo ixD (vW 0) (M.pure (.int 1))).bind itemsOf) (nmT 1) (M.pure true) (bo ixD (vW 1) (M.pure (.int 0))))
def b_zH  : MS :=
 (retS (cm_zH_1.bind fun ds=>M.pure (.lst ds)))
section
variable {P:Program} {w:World} {K:PySem.W.Frag} {mg:Str→Option Value} {base:Heap} {a:Addr} {cdv:Value} {A:Around} {outer:List PySem.Env} {s:Shared} {H:Hp} {E:XK}
theorem d_zH  (n:En) (B:Blt K mg)
  (hr:Room 0 (A.deeper (PyProof.Rows.envOfC "machines_of" (defScope s_zH) s.heap.objs.size a cdv))) :
  PSs (cxOf (CXm mg P w) P w K mg base N_zH "machines_of" (defScope s_zH) a cdv A outer s H E) (defBody s_zH) (tS ⟨K,mg⟩ n (fun cls d _ H=>E cls d H) (b_zH)):=by
 unfold b_zH
 exact (dss_one (ds_ret (de_new (dn_lc rfl sc_zH.nd (own:=[("part", 1)]) (di_own rfl (dw (de_item rfl (dw_v 0) (dw de_int)))) (blkOk_by (own:=[("part", 1)]) (N:=N_zH) (sc:=defScope s_zH) (by decide +kernel)) (by decide) (fun _ _ _ _ _=>(dg_name 1 sc_zH.nd)) (fun _ _ _ _ _=>dts_nil) (fun _ _ _ _ _=>(de_item rfl (dw_v 1) (dw de_int)))))))
theorem k_zH  {gg:Fn} (T:FT K mg "machines_of" s_zH) (B:Blt K mg)
  (hf:∀ ds ω r,gg ds ω=some r→ds.length=1 ∧ ∃ rs,b_zH (startE N_zH ds) ω=some rs ∧ retOf rs=some r):Cal P w K mg base "machines_of" P_zH 1 gg :=
 cal_of T (fun a fd F=>F.binds (ps:=P_zH) fun _ _ _ _ _ _ us hl=>match us,hl with | [_],_=>rfl) fun a fd F=>fn_x F sc_zH (fun ds ω r e=>(hf ds ω r e).1) (fun cdv A outer s H E n hr=>d_zH n B hr) fun ds ω r e=>(hf ds ω r e).2
abbrev N_zR:List Str:=["meeting", "rows", "row"]
abbrev P_zR:List Str:=["meeting", "rows"]
theorem sc_zR:FnScope N_zR P_zR (defScope s_zR):=⟨rfl,rfl,rfl,by decide +kernel,rfl,by decide +kernel,by decide +kernel⟩
def cm_zR_1  : M (List D) :=
 (lcM [2] ((vW 1).bind itemsOf) (nmT 2) (tst (bo eqD (vW 2) (vW 0))) (vF 2))
def b_zR  : MS :=
 (retS (uo lenD (cm_zR_1.bind fun ds=>M.pure (.lst ds))))
theorem d_zR  (n:En) (B:Blt K mg)
  (hr:Room 0 (A.deeper (PyProof.Rows.envOfC "times" (defScope s_zR) s.heap.objs.size a cdv))) :
  PSs (cxOf (CXm mg P w) P w K mg base N_zR "times" (defScope s_zR) a cdv A outer s H E) (defBody s_zR) (tS ⟨K,mg⟩ n (fun cls d _ H=>E cls d H) (b_zR)):=by
 unfold b_zR
 exact (dss_one (ds_ret (de_len rfl rfl B.b_len (dw (de_new (dn_lc rfl sc_zR.nd (own:=[("row", 2)]) (di_own rfl (dw_v 1)) (blkOk_by (own:=[("row", 2)]) (N:=N_zR) (sc:=defScope s_zR) (by decide +kernel)) (by decide) (fun _ _ _ _ _=>(dg_name 2 sc_zR.nd)) (fun _ _ _ _ _=>(dts_one (dt_eq rfl hr (dw_v 2) (dw_v 0)))) (fun _ _ _ _ _=>(de_v 2))))))))
theorem k_zR  {gg:Fn} (T:FT K mg "times" s_zR) (B:Blt K mg)
  (hf:∀ ds ω r,gg ds ω=some r→ds.length=2 ∧ ∃ rs,b_zR (startE N_zR ds) ω=some rs ∧ retOf rs=some r):Cal P w K mg base "times" P_zR 1 gg :=
 cal_of T (fun a fd F=>F.binds (ps:=P_zR) fun _ _ _ _ _ _ us hl=>match us,hl with | [_,_],_=>rfl) fun a fd F=>fn_x F sc_zR (fun ds ω r e=>(hf ds ω r e).1) (fun cdv A outer s H E n hr=>d_zR n B hr) fun ds ω r e=>(hf ds ω r e).2
abbrev N_zD:List Str:=["self", "meetings"]
abbrev P_zD:List Str:=["self", "meetings"]
theorem sc_zD:FnScope N_zD P_zD (defScope s_zD):=⟨rfl,rfl,rfl,by decide +kernel,rfl,by decide +kernel,by decide +kernel⟩
def b_zD  : MS :=
 (fldS ["Run"] "rows" (vF 0) (uo listD (vW 1)))
theorem d_zD  (n:En) (B:Blt K mg)
  (hr:Room 0 (A.deeper (PyProof.Rows.envOfC "Run.__init__" (defScope s_zD) s.heap.objs.size a cdv))) :
  PSs (cxOf (CXm mg P w) P w K mg base N_zD "Run.__init__" (defScope s_zD) a cdv A outer s H E) (defBody s_zD) (tS ⟨K,mg⟩ n (fun cls d _ H=>E cls d H) (b_zD)):=by
 unfold b_zD
 exact (dss_one (ds_fld rfl B.f_rows (de_v 0) (de_list rfl rfl B.b_list (dw_v 1))))
theorem k_mk_Run {P:Program} {w:World} {K:PySem.W.Frag} {mg:Str→Option Value} {base:Heap}  {gg:Fn} (T:FI K mg "Run" "Run.__init__" s_zD) (B:Blt K mg)
  (hf:∀ ds ω r,gg ds ω=some r→ds.length=2 ∧ ∃ rs,b_zD (startE N_zD ds) ω=some rs ∧ retOf rs=some r):CalG P w K mg base "Run" P_zD 1 gg :=
 calG_of T (fun a fd F=>F.binds (ps:=P_zD) fun _ _ _ _ _ _ us hl=>match us,hl with | [_,_],_=>rfl) fun a fd F=>fn_x F sc_zD (fun ds ω r e=>(hf ds ω r e).1) (fun cdv A outer s H E n hr=>d_zD n B hr) fun ds ω r e=>(hf ds ω r e).2
abbrev N_zI:List Str:=["self"]
abbrev P_zI:List Str:=["self"]
theorem sc_zI:FnScope N_zI P_zI (defScope s_zI):=⟨rfl,rfl,rfl,by decide +kernel,rfl,by decide +kernel,by decide +kernel⟩
def b_zI  : MS :=
 (retS (uo lenD (uo (fldD ["Run"] "rows") (vW 0))))
theorem d_zI  (n:En) (B:Blt K mg)
  (hr:Room 0 (A.deeper (PyProof.Rows.envOfC "Run.__len__" (defScope s_zI) s.heap.objs.size a cdv))) :
  PSs (cxOf (CXm mg P w) P w K mg base N_zI "Run.__len__" (defScope s_zI) a cdv A outer s H E) (defBody s_zI) (tS ⟨K,mg⟩ n (fun cls d _ H=>E cls d H) (b_zI)):=by
 unfold b_zI
 exact (dss_one (ds_ret (de_len rfl rfl B.b_len (dw (de_fld rfl B.f_rows (dw_v 0))))))
theorem k_zI  {gg:Fn} (T:FM K mg "Run" "__len__" "Run.__len__" s_zI) (B:Blt K mg)
  (hf:∀ ds ω r,gg ds ω=some r→ds.length=1 ∧ ∃ rs,b_zI (startE N_zI ds) ω=some rs ∧ retOf rs=some r):CalM P w K mg base "Run" "__len__" P_zI 1 gg :=
 calM_of T (fun a fd F=>F.binds (ps:=P_zI) fun _ _ _ _ _ _ us hl=>match us,hl with | [_],_=>rfl) fun a fd F=>fn_x F sc_zI (fun ds ω r e=>(hf ds ω r e).1) (fun cdv A outer s H E n hr=>d_zI n B hr) fun ds ω r e=>(hf ds ω r e).2
abbrev N_zA:List Str:=["self", "at"]
abbrev P_zA:List Str:=["self", "at"]
theorem sc_zA:FnScope N_zA P_zA (defScope s_zA):=⟨rfl,rfl,rfl,by decide +kernel,rfl,by decide +kernel,by decide +kernel⟩
def b_zA  : MS :=
 (seqS (ifS (orM (tst (bo ltD (vW 1) (M.pure (.int 0)))) (tst (bo geD (vW 1) (uo lenD (uo (fldD ["Run"] "rows") (vW 0)))))) (raiS "NoMeeting" "place" (vF 1)) (fun ρ ω=>some (.nx ρ ω)))
 (retS (bo ixD (uo (fldD ["Run"] "rows") (vW 0)) (vW 1))))
theorem d_zA  (n:En) (B:Blt K mg) (c_x_NoMeeting:CalX P w K mg base "NoMeeting" "place" P_x_NoMeeting 1)
  (hr:Room 2 (A.deeper (PyProof.Rows.envOfC "Run.__getitem__" (defScope s_zA) s.heap.objs.size a cdv))) :
  PSs (cxOf (CXm mg P w) P w K mg base N_zA "Run.__getitem__" (defScope s_zA) a cdv A outer s H E) (defBody s_zA) (tS ⟨K,mg⟩ n (fun cls d _ H=>E cls d H) (b_zA)):=by
 unfold b_zA
 have tk:=DL.takes_of (X:=(cxOf (CXm mg P w) P w K mg base N_zA "Run.__getitem__" (defScope s_zA) a cdv A outer s H E)) (E:=E) rfl rfl rfl rfl
 exact (dss_cons (ds_if (dt_w (dw_or (dt_lt (dw_v 1) (dw de_int)) (dw_or1 (dt_ge (dw_v 1) (dw (de_len rfl rfl B.b_len (dw (de_fld rfl B.f_rows (dw_v 0))))))))) (dss_one (ds_raise tk rfl c_x_NoMeeting hr (by decide) rfl (de_v 1))) dss_nil)
 (dss_one (ds_ret (de_item rfl (dw (de_fld rfl B.f_rows (dw_v 0))) (dw_v 1)))))
theorem k_zA  {gg:Fn} (T:FM K mg "Run" "__getitem__" "Run.__getitem__" s_zA) (B:Blt K mg) (c_x_NoMeeting:CalX P w K mg base "NoMeeting" "place" P_x_NoMeeting 1)
  (hf:∀ ds ω r,gg ds ω=some r→ds.length=2 ∧ ∃ rs,b_zA (startE N_zA ds) ω=some rs ∧ retOf rs=some r):CalM P w K mg base "Run" "__getitem__" P_zA 3 gg :=
 calM_of T (fun a fd F=>F.binds (ps:=P_zA) fun _ _ _ _ _ _ us hl=>match us,hl with | [_,_],_=>rfl) fun a fd F=>fn_x F sc_zA (fun ds ω r e=>(hf ds ω r e).1) (fun cdv A outer s H E n hr=>d_zA n B c_x_NoMeeting hr) fun ds ω r e=>(hf ds ω r e).2
abbrev N_zL:List Str:=["logs", "machine", "turn", "meeting", "part"]
abbrev P_zL:List Str:=["logs", "machine"]
theorem sc_zL:FnScope N_zL P_zL (defScope s_zL):=⟨rfl,rfl,rfl,by decide +kernel,rfl,by decide +kernel,by decide +kernel⟩
def cm_zL_1  : M (List D) :=
 (lcM [4] ((bo ixD (vW 3) (M.pure (.int 1))).bind itemsOf) (nmT 4) (M.pure true) (andV (bo eqD (bo ixD (vW 4) (M.pure (.int 0))) (vW 1)) (bo eqD (bo ixD (vW 4) (M.pure (.int 1))) (vW 2))))
def lb_zL_1  : MS :=
 (ifS (notM (truM (uo anyD (cm_zL_1.bind fun ds=>M.pure (.lst ds))))) (raiS0 "NoJoin") (fun ρ ω=>some (.nx ρ ω)))
def b_zL  : MS :=
 (forX ((bo ixD (vW 0) (vW 1)).bind enX) (tupT 2 (consT (nmT 2) (consT (nmT 3) nilT))) lb_zL_1)
theorem d_zL  (n:En) (B:Blt K mg) (c_x_NoJoin:CalX0 P w K mg base "NoJoin" P_x_NoJoin 1)
  (hr:Room 2 (A.deeper (PyProof.Rows.envOfC "check_log" (defScope s_zL) s.heap.objs.size a cdv))) :
  PSs (cxOf (CXm mg P w) P w K mg base N_zL "check_log" (defScope s_zL) a cdv A outer s H E) (defBody s_zL) (tS ⟨K,mg⟩ n (fun cls d _ H=>E cls d H) (b_zL)):=by
 unfold b_zL
 have tk:=DL.takes_of (X:=(cxOf (CXm mg P w) P w K mg base N_zL "check_log" (defScope s_zL) a cdv A outer s H E)) (E:=E) rfl rfl rfl rfl
 have pw:=passes_of (X:=(cxOf (CXm mg P w) P w K mg base N_zL "check_log" (defScope s_zL) a cdv A outer s H E)) rfl
 exact (dss_one (ds_forX pw rfl (di_enX (W:=fun _ _ _ _=>False) rfl rfl B.b_enumerate (de_item rfl (dw_v 0) (dw_v 1))) (dg_tup rfl rfl (dgs_cons (dg_name 2 sc_zL.nd) (dgs_cons (dg_name 3 sc_zL.nd) dgs_nil))) (dss_one (ds_if (dt_not (dt_truth rfl (dw (de_any rfl rfl rfl B.b_any (dw (de_new (dn_lc rfl sc_zL.nd (own:=[("part", 4)]) (di_own rfl (dw (de_item rfl (dw_v 3) (dw de_int)))) (blkOk_by (own:=[("part", 4)]) (N:=N_zL) (sc:=defScope s_zL) (by decide +kernel)) (by decide) (fun _ _ _ _ _=>(dg_name 4 sc_zL.nd)) (fun _ _ _ _ _=>dts_nil) (fun _ _ _ _ _=>(de_and (de_eq rfl hr (dw (de_item rfl (dw_v 4) (dw de_int))) (dw_v 1)) (de_one (de_eq rfl hr (dw (de_item rfl (dw_v 4) (dw de_int))) (dw_v 2)))))))))))) (dss_one (ds_raise0 tk rfl c_x_NoJoin hr (by decide) rfl)) dss_nil))))
theorem k_zL  {gg:Fn} (T:FT K mg "check_log" s_zL) (B:Blt K mg) (c_x_NoJoin:CalX0 P w K mg base "NoJoin" P_x_NoJoin 1)
  (hf:∀ ds ω r,gg ds ω=some r→ds.length=2 ∧ ∃ rs,b_zL (startE N_zL ds) ω=some rs ∧ retOf rs=some r):Cal P w K mg base "check_log" P_zL 3 gg :=
 cal_of T (fun a fd F=>F.binds (ps:=P_zL) fun _ _ _ _ _ _ us hl=>match us,hl with | [_,_],_=>rfl) fun a fd F=>fn_x F sc_zL (fun ds ω r e=>(hf ds ω r e).1) (fun cdv A outer s H E n hr=>d_zL n B c_x_NoJoin hr) fun ds ω r e=>(hf ds ω r e).2
abbrev N_zB:List Str:=["logs", "meeting", "machine", "turn", "place", "worth"]
abbrev P_zB:List Str:=["logs", "meeting"]
theorem sc_zB:FnScope N_zB P_zB (defScope s_zB):=⟨rfl,rfl,rfl,by decide +kernel,rfl,by decide +kernel,by decide +kernel⟩
def lb_zB_1  : MS :=
 (seqS (ifS (orM (tst (bo ltD (vW 2) (M.pure (.int 0)))) (orM (tst (bo geD (vW 2) (uo lenD (vW 0)))) (orM (tst (bo ltD (vW 3) (M.pure (.int 0)))) (tst (bo gtD (vW 3) (uo lenD (bo ixD (vW 0) (vW 2)))))))) (raiS0 "NoJoin") (fun ρ ω=>some (.nx ρ ω)))
 (ifS (andM (tst (bo ltD (vW 3) (uo lenD (bo ixD (vW 0) (vW 2))))) (tst (bo neD (bo ixD (bo ixD (vW 0) (vW 2)) (vW 3)) (vW 1)))) (raiS0 "NoJoin") (fun ρ ω=>some (.nx ρ ω))))
def b_zB (g_zH:Fn):MS :=
 (seqS (ifS (tst (bo neD (uo lenSetN (calM g_zH (consM (vF 1) (M.pure [])))) (uo lenD (bo ixD (vW 1) (M.pure (.int 1)))))) (raiS0 "NoJoin") (fun ρ ω=>some (.nx ρ ω)))
 (forS ((bo ixD (vW 1) (M.pure (.int 1))).bind itemsOf) (tupT 4 (consT (nmT 2) (consT (nmT 3) (consT (nmT 4) (consT (nmT 5) nilT))))) lb_zB_1))
theorem d_zB {g_zH:Fn} (n:En) (B:Blt K mg) (c_zH:Cal P w K mg base "machines_of" P_zH 1 g_zH) (c_x_NoJoin:CalX0 P w K mg base "NoJoin" P_x_NoJoin 1)
  (hr:Room 2 (A.deeper (PyProof.Rows.envOfC "check_meeting" (defScope s_zB) s.heap.objs.size a cdv))) :
  PSs (cxOf (CXm mg P w) P w K mg base N_zB "check_meeting" (defScope s_zB) a cdv A outer s H E) (defBody s_zB) (tS ⟨K,mg⟩ n (fun cls d _ H=>E cls d H) (b_zB g_zH)):=by
 unfold b_zB
 have tk:=DL.takes_of (X:=(cxOf (CXm mg P w) P w K mg base N_zB "check_meeting" (defScope s_zB) a cdv A outer s H E)) (E:=E) rfl rfl rfl rfl
 have pw:=passes_of (X:=(cxOf (CXm mg P w) P w K mg base N_zB "check_meeting" (defScope s_zB) a cdv A outer s H E)) rfl
 exact (dss_cons (ds_if (dt_ne rfl hr (dw (de_lenSetN rfl rfl rfl B.b_len rfl B.b_set (dw (de_fn tk c_zH hr (by decide) rfl (da_cons (de_v 1) da_nil))))) (dw (de_len rfl rfl B.b_len (dw (de_item rfl (dw_v 1) (dw de_int)))))) (dss_one (ds_raise0 tk rfl c_x_NoJoin hr (by decide) rfl)) dss_nil)
 (dss_one (ds_for pw rfl (di_data rfl (de_item rfl (dw_v 1) (dw de_int))) (dg_tup rfl rfl (dgs_cons (dg_name 2 sc_zB.nd) (dgs_cons (dg_name 3 sc_zB.nd) (dgs_cons (dg_name 4 sc_zB.nd) (dgs_cons (dg_name 5 sc_zB.nd) dgs_nil))))) (dss_cons (ds_if (dt_w (dw_or (dt_lt (dw_v 2) (dw de_int)) (dw_or (dt_ge (dw_v 2) (dw (de_len rfl rfl B.b_len (dw_v 0)))) (dw_or (dt_lt (dw_v 3) (dw de_int)) (dw_or1 (dt_gt (dw_v 3) (dw (de_len rfl rfl B.b_len (dw (de_item rfl (dw_v 0) (dw_v 2))))))))))) (dss_one (ds_raise0 tk rfl c_x_NoJoin hr (by decide) rfl)) dss_nil)
 (dss_one (ds_if (dt_w (dw_and (dt_lt (dw_v 3) (dw (de_len rfl rfl B.b_len (dw (de_item rfl (dw_v 0) (dw_v 2)))))) (dw_and1 (dt_ne rfl hr (dw (de_item rfl (dw (de_item rfl (dw_v 0) (dw_v 2))) (dw_v 3))) (dw_v 1))))) (dss_one (ds_raise0 tk rfl c_x_NoJoin hr (by decide) rfl)) dss_nil))))))
theorem k_zB {g_zH:Fn} {gg:Fn} (T:FT K mg "check_meeting" s_zB) (B:Blt K mg) (c_zH:Cal P w K mg base "machines_of" P_zH 1 g_zH) (c_x_NoJoin:CalX0 P w K mg base "NoJoin" P_x_NoJoin 1)
  (hf:∀ ds ω r,gg ds ω=some r→ds.length=2 ∧ ∃ rs,b_zB g_zH (startE N_zB ds) ω=some rs ∧ retOf rs=some r):Cal P w K mg base "check_meeting" P_zB 3 gg :=
 cal_of T (fun a fd F=>F.binds (ps:=P_zB) fun _ _ _ _ _ _ us hl=>match us,hl with | [_,_],_=>rfl) fun a fd F=>fn_x F sc_zB (fun ds ω r e=>(hf ds ω r e).1) (fun cdv A outer s H E n hr=>d_zB n B c_zH c_x_NoJoin hr) fun ds ω r e=>(hf ds ω r e).2
abbrev N_zE:List Str:=["logs", "found", "log", "meeting", "taken", "part"]
abbrev P_zE:List Str:=["logs"]
theorem sc_zE:FnScope N_zE P_zE (defScope s_zE):=⟨rfl,rfl,rfl,by decide +kernel,rfl,by decide +kernel,by decide +kernel⟩
def lb_zE_1  : MS :=
 (ifS (tst (bo notInD (vW 3) (vW 1))) (appS 1 (vF 3)) (fun ρ ω=>some (.nx ρ ω)))
def lb_zE_2  : MS :=
 (forX ((vF 2).bind stX) (nmT 3) lb_zE_1)
def cm_zE_1  : M (List D) :=
 (lc2M [3,5] [5] (nmT 3) (M.pure true) (((bo ixD (vW 3) (M.pure (.int 1))).bind itemsOf).bind xL) (nmT 5) (M.pure true) ((consM (bo ixD (vW 5) (M.pure (.int 0))) (consM (bo ixD (vW 5) (M.pure (.int 1))) (M.pure []))).bind mkTup) (((vF 1).bind itemsOf).bind xL))
def b_zE  : MS :=
 (seqS (setO 1 ((M.pure []).bind lenOk))
 (seqS (forX ((vF 0).bind stX) (nmT 2) lb_zE_2)
 (seqS (frz 1 (setO 4 cm_zE_1))
 (seqS (ifS (tst (bo neD (uo lenSetT (vW 4)) (uo lenD (vW 4)))) (raiS0 "NoJoin") (fun ρ ω=>some (.nx ρ ω)))
 (frz 1 (retS (vF 1)))))))
theorem d_zE  (n:En) (B:Blt K mg) (c_x_NoJoin:CalX0 P w K mg base "NoJoin" P_x_NoJoin 1)
  (hr:Room 2 (A.deeper (PyProof.Rows.envOfC "all_meetings" (defScope s_zE) s.heap.objs.size a cdv))) :
  PSs (cxOf (CXm mg P w) P w K mg base N_zE "all_meetings" (defScope s_zE) a cdv A outer s H E) (defBody s_zE) (tS ⟨K,mg⟩ n (fun cls d _ H=>E cls d H) (b_zE)):=by
 unfold b_zE
 have tk:=DL.takes_of (X:=(cxOf (CXm mg P w) P w K mg base N_zE "all_meetings" (defScope s_zE) a cdv A outer s H E)) (E:=E) rfl rfl rfl rfl
 have pw:=passes_of (X:=(cxOf (CXm mg P w) P w K mg base N_zE "all_meetings" (defScope s_zE) a cdv A outer s H E)) rfl
 exact (dss_cons (ds_setO (i:=1) sc_zE.nd (dn_lst da_nil))
 (dss_cons (ds_forX pw rfl (di_stX (W:=fun _ _ _ _=>False) rfl (de_v 0)) (dg_name 2 sc_zE.nd) (dss_one (ds_forX pw rfl (di_stX (W:=fun _ _ _ _=>False) rfl (de_v 2)) (dg_name 3 sc_zE.nd) (dss_one (ds_if (dt_notin rfl hr (dw_v 3) (dw_v 1)) (dss_one (ds_app (i:=1) (de_v 3))) dss_nil)))))
 (dss_cons (ds_frz 1 (ds_setLc2 (i:=4) rfl sc_zE.nd rfl rfl (sw_true rfl rfl rfl (by decide +kernel)) (own:=[("meeting", 3),("part", 5)]) (vs1:=[5]) (di_xl (W:=fun _ _ _ _=>False) (di_data rfl (de_v 1))) (blkOk_by (own:=[("meeting", 3),("part", 5)]) (N:=N_zE) (sc:=defScope s_zE) (by decide +kernel)) (by decide) (by decide) (by decide) (tow_nm 3) (tow_nm 5) (fun _ _ _ _ _=>(dg_name 3 sc_zE.nd)) (fun _ _ _ _ _=>dts_nil) (fun _ _ _ _ _=>(di_xl (W:=fun _ _ _ _=>False) (di_data rfl (de_item rfl (dw_v 3) (dw de_int))))) (fun _ _ _ _ _=>(dg_name 5 sc_zE.nd)) (fun _ _ _ _ _=>dts_nil) (fun _ _ _ _ _=>(de_tup (da_cons (de_item rfl (dw_v 5) (dw de_int)) (da_cons (de_item rfl (dw_v 5) (dw de_int)) da_nil))))))
 (dss_cons (ds_if (dt_ne rfl hr (dw (de_lenSetT rfl rfl hr rfl B.b_len rfl B.b_set (dw_v 4))) (dw (de_len rfl rfl B.b_len (dw_v 4)))) (dss_one (ds_raise0 tk rfl c_x_NoJoin hr (by decide) rfl)) dss_nil)
 (dss_one (ds_frz 1 (ds_ret (de_v 1))))))))
theorem k_zE  {gg:Fn} (T:FT K mg "all_meetings" s_zE) (B:Blt K mg) (c_x_NoJoin:CalX0 P w K mg base "NoJoin" P_x_NoJoin 1)
  (hf:∀ ds ω r,gg ds ω=some r→ds.length=1 ∧ ∃ rs,b_zE (startE N_zE ds) ω=some rs ∧ retOf rs=some r):Cal P w K mg base "all_meetings" P_zE 3 gg :=
 cal_of T (fun a fd F=>F.binds (ps:=P_zE) fun _ _ _ _ _ _ us hl=>match us,hl with | [_],_=>rfl) fun a fd F=>fn_x F sc_zE (fun ds ω r e=>(hf ds ω r e).1) (fun cdv A outer s H E n hr=>d_zE n B c_x_NoJoin hr) fun ds ω r e=>(hf ds ω r e).2
abbrev N_zO:List Str:=["meeting", "left", "turns", "part", "other"]
abbrev P_zO:List Str:=["meeting", "left"]
theorem sc_zO:FnScope N_zO P_zO (defScope s_zO):=⟨rfl,rfl,rfl,by decide +kernel,rfl,by decide +kernel,by decide +kernel⟩
def dc_zO_1  : M D :=
 (dcM [3] ((bo ixD (vW 0) (M.pure (.int 1))).bind itemsOf) (nmT 3) (M.pure true) (bo ixD (vW 3) (M.pure (.int 0))) (bo ixD (vW 3) (M.pure (.int 1))))
def cm_zO_1  : M (List D) :=
 (lc2M [4,3] [3] (nmT 4) (M.pure true) (((bo ixD (vW 4) (M.pure (.int 1))).bind itemsOf).bind xL) (nmT 3) (M.pure true) (andV (bo inK (bo ixD (vW 3) (M.pure (.int 0))) (vW 2)) (bo ltD (bo ixD (vW 3) (M.pure (.int 1))) (bo getK (vW 2) (bo ixD (vW 3) (M.pure (.int 0)))))) (((vF 1).bind itemsOf).bind xL))
def b_zO  : MS :=
 (seqS (setS 2 dc_zO_1)
 (retS (notV (uo anyD (cm_zO_1.bind fun ds=>M.pure (.lst ds))))))
theorem d_zO  (n:En) (B:Blt K mg)
  (hr:Room 0 (A.deeper (PyProof.Rows.envOfC "is_ready" (defScope s_zO) s.heap.objs.size a cdv))) :
  PSs (cxOf (CXm mg P w) P w K mg base N_zO "is_ready" (defScope s_zO) a cdv A outer s H E) (defBody s_zO) (tS ⟨K,mg⟩ n (fun cls d _ H=>E cls d H) (b_zO)):=by
 unfold b_zO
 exact (dss_cons (ds_set (i:=2) sc_zO.nd (de_dc rfl sc_zO.nd (own:=[("part", 3)]) (di_own rfl (dw (de_item rfl (dw_v 0) (dw de_int)))) (blkOk_by (own:=[("part", 3)]) (N:=N_zO) (sc:=defScope s_zO) (by decide +kernel)) (by decide) (fun _ _ _ _ _=>(dg_name 3 sc_zO.nd)) (fun _ _ _ _ _=>dts_nil) (fun _ _ _ _ _=>(de_item rfl (dw_v 3) (dw de_int))) (fun _ _ _ _ _=>(de_item rfl (dw_v 3) (dw de_int)))))
 (dss_one (ds_ret (de_not (de_any rfl rfl rfl B.b_any (dw (de_new (dn_lc2 rfl sc_zO.nd (own:=[("other", 4),("part", 3)]) (vs1:=[3]) (di_xl (W:=fun _ _ _ _=>False) (di_data rfl (de_v 1))) (blkOk_by (own:=[("other", 4),("part", 3)]) (N:=N_zO) (sc:=defScope s_zO) (by decide +kernel)) (by decide) (by decide) (by decide) (tow_nm 4) (tow_nm 3) (fun _ _ _ _ _=>(dg_name 4 sc_zO.nd)) (fun _ _ _ _ _=>dts_nil) (fun _ _ _ _ _=>(di_xl (W:=fun _ _ _ _=>False) (di_data rfl (de_item rfl (dw_v 4) (dw de_int))))) (fun _ _ _ _ _=>(dg_name 3 sc_zO.nd)) (fun _ _ _ _ _=>dts_nil) (fun _ _ _ _ _=>(de_and (de_inK hr (dw (de_item rfl (dw_v 3) (dw de_int))) (dw_v 2)) (de_one (de_lt (dw (de_item rfl (dw_v 3) (dw de_int))) (dw (de_getK hr (dw_v 2) (dw (de_item rfl (dw_v 3) (dw de_int)))))))))))))))))
theorem k_zO  {gg:Fn} (T:FT K mg "is_ready" s_zO) (B:Blt K mg)
  (hf:∀ ds ω r,gg ds ω=some r→ds.length=2 ∧ ∃ rs,b_zO (startE N_zO ds) ω=some rs ∧ retOf rs=some r):Cal P w K mg base "is_ready" P_zO 1 gg :=
 cal_of T (fun a fd F=>F.binds (ps:=P_zO) fun _ _ _ _ _ _ us hl=>match us,hl with | [_,_],_=>rfl) fun a fd F=>fn_x F sc_zO (fun ds ω r e=>(hf ds ω r e).1) (fun cdv A outer s H E n hr=>d_zO n B hr) fun ds ω r e=>(hf ds ω r e).2
abbrev N_zQ:List Str:=["logs", "machine", "log", "meeting", "left", "rows", "ready", "least"]
abbrev P_zQ:List Str:=["logs"]
theorem sc_zQ:FnScope N_zQ P_zQ (defScope s_zQ):=⟨rfl,rfl,rfl,by decide +kernel,rfl,by decide +kernel,by decide +kernel⟩
def lb_zQ_1 (g_zL:Fn):MS :=
 (exprS (calM g_zL (consM (vF 0) (consM (vF 1) (M.pure [])))))
def lb_zQ_2 (g_zB:Fn):MS :=
 (exprS (calM g_zB (consM (vF 0) (consM (vF 3) (M.pure [])))))
def lb_zQ_3 (g_zB:Fn):MS :=
 (forX ((vF 2).bind stX) (nmT 3) (lb_zQ_2 g_zB))
def cm_zQ_1 (g_zO:Fn):M (List D) :=
 (lcM [3] ((vW 4).bind itemsOf) (nmT 3) (truM (calM g_zO (consM (vF 3) (consM (vF 4) (M.pure []))))) (vF 3))
def cm_zQ_2  : M (List D) :=
 (lcM [3] ((vW 4).bind itemsOf) (nmT 3) (tst (bo neD (vW 3) (vW 7))) (vF 3))
def lb_zQ_4 (g_zO:Fn):MS :=
 (seqS (setS 6 ((cm_zQ_1 g_zO).bind fun ds=>M.pure (.lst ds)))
 (seqS (ifS (notM (truM (vW 6))) (raiS0 "NoJoin") (fun ρ ω=>some (.nx ρ ω)))
 (seqS (setS 7 (uo minGD (vW 6)))
 (seqS (appS 5 (vF 7))
 (setS 4 (cm_zQ_2.bind fun ds=>M.pure (.lst ds)))))))
def b_zQ (g_zE:Fn) (g_zL:Fn) (g_zB:Fn) (g_zO:Fn) (g_mk_Run:Fn):MS :=
 (seqS (forS ((uo lenD (vW 0)).bind rng1) (nmT 1) (lb_zQ_1 g_zL))
 (seqS (forX ((vF 0).bind stX) (nmT 2) (lb_zQ_3 g_zB))
 (seqS (setS 4 (calM g_zE (consM (vF 0) (M.pure []))))
 (seqS (setO 5 ((M.pure []).bind lenOk))
 (seqS (whileGo (truM (vW 4)) (lb_zQ_4 g_zO) 1000)
 (frz 5 (retS ((consM (vF 5) (M.pure [])).bind (mkG "Run" g_mk_Run)))))))))
theorem d_zQ {g_zE:Fn} {g_zL:Fn} {g_zB:Fn} {g_zO:Fn} {g_mk_Run:Fn} (n:En) (B:Blt K mg) (c_zE:Cal P w K mg base "all_meetings" P_zE 3 g_zE) (c_zL:Cal P w K mg base "check_log" P_zL 3 g_zL) (c_zB:Cal P w K mg base "check_meeting" P_zB 3 g_zB) (c_zO:Cal P w K mg base "is_ready" P_zO 1 g_zO) (c_mk_Run:CalG P w K mg base "Run" P_zD 1 g_mk_Run) (c_x_NoJoin:CalX0 P w K mg base "NoJoin" P_x_NoJoin 1)
  (hr:Room 3 (A.deeper (PyProof.Rows.envOfC "joined" (defScope s_zQ) s.heap.objs.size a cdv))) :
  PSs (cxOf (CXm mg P w) P w K mg base N_zQ "joined" (defScope s_zQ) a cdv A outer s H E) (defBody s_zQ) (tS ⟨K,mg⟩ n (fun cls d _ H=>E cls d H) (b_zQ g_zE g_zL g_zB g_zO g_mk_Run)):=by
 unfold b_zQ
 have tk:=DL.takes_of (X:=(cxOf (CXm mg P w) P w K mg base N_zQ "joined" (defScope s_zQ) a cdv A outer s H E)) (E:=E) rfl rfl rfl rfl
 have pw:=passes_of (X:=(cxOf (CXm mg P w) P w K mg base N_zQ "joined" (defScope s_zQ) a cdv A outer s H E)) rfl
 exact (dss_cons (ds_for pw rfl (di_range1 rfl B.b_range (de_len rfl rfl B.b_len (dw_v 0))) (dg_name 1 sc_zQ.nd) (dss_one (ds_expr (de_fn tk c_zL hr (by decide) rfl (da_cons (de_v 0) (da_cons (de_v 1) da_nil))))))
 (dss_cons (ds_forX pw rfl (di_stX (W:=fun _ _ _ _=>False) rfl (de_v 0)) (dg_name 2 sc_zQ.nd) (dss_one (ds_forX pw rfl (di_stX (W:=fun _ _ _ _=>False) rfl (de_v 2)) (dg_name 3 sc_zQ.nd) (dss_one (ds_expr (de_fn tk c_zB hr (by decide) rfl (da_cons (de_v 0) (da_cons (de_v 3) da_nil))))))))
 (dss_cons (ds_set (i:=4) sc_zQ.nd (de_fn tk c_zE hr (by decide) rfl (da_cons (de_v 0) da_nil)))
 (dss_cons (ds_setO (i:=5) sc_zQ.nd (dn_lst da_nil))
 (dss_cons (ds_while 1000 pw (dt_truth rfl (dw_v 4)) (dss_cons (ds_setLc (i:=6) rfl sc_zQ.nd rfl rfl (sw_true rfl rfl rfl (by decide +kernel)) (own:=[("meeting", 3)]) (di_own rfl (dw_v 4)) (blkOk_by (own:=[("meeting", 3)]) (N:=N_zQ) (sc:=defScope s_zQ) (by decide +kernel)) (by decide) (fun _ _ _ _ _=>(dg_name 3 sc_zQ.nd)) (fun _ _ _ _ _=>(dts_one (dt_truth rfl (dw (de_fn DL.takes0 c_zO hr (by decide) rfl (da_cons (de_v 3) (da_cons (de_v 4) da_nil))))))) (fun _ _ _ _ _=>(de_v 3)))
 (dss_cons (ds_if (dt_not (dt_truth rfl (dw_v 6))) (dss_one (ds_raise0 tk rfl c_x_NoJoin hr (by decide) rfl)) dss_nil)
 (dss_cons (ds_set (i:=7) sc_zQ.nd (de_minG rfl rfl hr rfl B.b_min (dw_v 6)))
 (dss_cons (ds_app (i:=5) (de_v 7))
 (dss_one (ds_set (i:=4) sc_zQ.nd (de_new (dn_lc rfl sc_zQ.nd (own:=[("meeting", 3)]) (di_own rfl (dw_v 4)) (blkOk_by (own:=[("meeting", 3)]) (N:=N_zQ) (sc:=defScope s_zQ) (by decide +kernel)) (by decide) (fun _ _ _ _ _=>(dg_name 3 sc_zQ.nd)) (fun _ _ _ _ _=>(dts_one (dt_ne rfl hr (dw_v 3) (dw_v 7)))) (fun _ _ _ _ _=>(de_v 3)))))))))))
 (dss_one (ds_frz 5 (ds_ret (de_makeG tk c_mk_Run hr (by decide) rfl (da_cons (de_v 5) da_nil))))))))))
theorem k_zQ {g_zE:Fn} {g_zL:Fn} {g_zB:Fn} {g_zO:Fn} {g_mk_Run:Fn} {gg:Fn} (T:FT K mg "joined" s_zQ) (B:Blt K mg) (c_zE:Cal P w K mg base "all_meetings" P_zE 3 g_zE) (c_zL:Cal P w K mg base "check_log" P_zL 3 g_zL) (c_zB:Cal P w K mg base "check_meeting" P_zB 3 g_zB) (c_zO:Cal P w K mg base "is_ready" P_zO 1 g_zO) (c_mk_Run:CalG P w K mg base "Run" P_zD 1 g_mk_Run) (c_x_NoJoin:CalX0 P w K mg base "NoJoin" P_x_NoJoin 1)
  (hf:∀ ds ω r,gg ds ω=some r→ds.length=1 ∧ ∃ rs,b_zQ g_zE g_zL g_zB g_zO g_mk_Run (startE N_zQ ds) ω=some rs ∧ retOf rs=some r):Cal P w K mg base "joined" P_zQ 4 gg :=
 cal_of T (fun a fd F=>F.binds (ps:=P_zQ) fun _ _ _ _ _ _ us hl=>match us,hl with | [_],_=>rfl) fun a fd F=>fn_x F sc_zQ (fun ds ω r e=>(hf ds ω r e).1) (fun cdv A outer s H E n hr=>d_zQ n B c_zE c_zL c_zB c_zO c_mk_Run c_x_NoJoin hr) fun ds ω r e=>(hf ds ω r e).2
abbrev N_zF:List Str:=["_law_script", "_law_k"]
abbrev P_zF:List Str:=["_law_script", "_law_k"]
theorem sc_zF:FnScope N_zF P_zF (defScope s_zF):=⟨rfl,rfl,rfl,by decide +kernel,rfl,by decide +kernel,by decide +kernel⟩
def b_zF  : MS :=
 (seqS (ifS (tst (bo ltD (vW 1) (uo lenD (vW 0)))) (retS (bo ixD (vW 0) (vW 1))) (fun ρ ω=>some (.nx ρ ω)))
 (retS (M.pure (.int 0))))
theorem d_zF  (n:En) (B:Blt K mg)
  (hr:Room 0 (A.deeper (PyProof.Rows.envOfC "_law_cell_at" (defScope s_zF) s.heap.objs.size a cdv))) :
  PSs (cxOf (CXm mg P w) P w K mg base N_zF "_law_cell_at" (defScope s_zF) a cdv A outer s H E) (defBody s_zF) (tS ⟨K,mg⟩ n (fun cls d _ H=>E cls d H) (b_zF)):=by
 unfold b_zF
 exact (dss_cons (ds_if (dt_lt (dw_v 1) (dw (de_len rfl rfl B.b_len (dw_v 0)))) (dss_one (ds_ret (de_item rfl (dw_v 0) (dw_v 1)))) dss_nil)
 (dss_one (ds_ret de_int)))
theorem k_zF  {gg:Fn} (T:FT K mg "_law_cell_at" s_zF) (B:Blt K mg)
  (hf:∀ ds ω r,gg ds ω=some r→ds.length=2 ∧ ∃ rs,b_zF (startE N_zF ds) ω=some rs ∧ retOf rs=some r):Cal P w K mg base "_law_cell_at" P_zF 1 gg :=
 cal_of T (fun a fd F=>F.binds (ps:=P_zF) fun _ _ _ _ _ _ us hl=>match us,hl with | [_,_],_=>rfl) fun a fd F=>fn_x F sc_zF (fun ds ω r e=>(hf ds ω r e).1) (fun cdv A outer s H E n hr=>d_zF n B hr) fun ds ω r e=>(hf ds ω r e).2
abbrev N_zJ:List Str:=["_law_cell", "_law_k", "_law_spread"]
abbrev P_zJ:List Str:=["_law_cell", "_law_k"]
theorem sc_zJ:FnScope N_zJ P_zJ (defScope s_zJ):=⟨rfl,rfl,rfl,by decide +kernel,rfl,by decide +kernel,by decide +kernel⟩
def b_zJ  : MS :=
 (seqS (setS 2 (bo modD (uo intD (bo powD (bo addD (bo addD (bo modD (uo intD (vW 0)) (M.pure (.int 2147483647))) (bo mulD (M.pure (.int 7919)) (vW 1))) (M.pure (.int 104729))) (M.pure (.int 5)))) (M.pure (.int 2147483647))))
 (retS (bo modD (uo intD (bo mulD (bo addD (vW 2) (vW 1)) (M.pure (.int 40692)))) (M.pure (.int 2147483629)))))
theorem d_zJ  (n:En) (B:Blt K mg)
  (hr:Room 0 (A.deeper (PyProof.Rows.envOfC "_law_mixed" (defScope s_zJ) s.heap.objs.size a cdv))) :
  PSs (cxOf (CXm mg P w) P w K mg base N_zJ "_law_mixed" (defScope s_zJ) a cdv A outer s H E) (defBody s_zJ) (tS ⟨K,mg⟩ n (fun cls d _ H=>E cls d H) (b_zJ)):=by
 unfold b_zJ
 exact (dss_cons (ds_set (i:=2) sc_zJ.nd (de_mod (dw (de_toInt rfl B.b_int (dw (de_pow (dw (de_add rfl (dw (de_add rfl (dw (de_mod (dw (de_toInt rfl B.b_int (dw_v 0))) (dw de_int))) (dw (de_mul (dw de_int) (dw_v 1))))) (dw de_int))) (dw de_int))))) (dw de_int)))
 (dss_one (ds_ret (de_mod (dw (de_toInt rfl B.b_int (dw (de_mul (dw (de_add rfl (dw_v 2) (dw_v 1))) (dw de_int))))) (dw de_int)))))
theorem k_zJ  {gg:Fn} (T:FT K mg "_law_mixed" s_zJ) (B:Blt K mg)
  (hf:∀ ds ω r,gg ds ω=some r→ds.length=2 ∧ ∃ rs,b_zJ (startE N_zJ ds) ω=some rs ∧ retOf rs=some r):Cal P w K mg base "_law_mixed" P_zJ 1 gg :=
 cal_of T (fun a fd F=>F.binds (ps:=P_zJ) fun _ _ _ _ _ _ us hl=>match us,hl with | [_,_],_=>rfl) fun a fd F=>fn_x F sc_zJ (fun ds ω r e=>(hf ds ω r e).1) (fun cdv A outer s H E n hr=>d_zJ n B hr) fun ds ω r e=>(hf ds ω r e).2
abbrev N_zP:List Str:=["_law_cell", "_law_many", "_law_rest", "_law_row_here", "_law_k"]
abbrev P_zP:List Str:=["_law_cell", "_law_many"]
theorem sc_zP:FnScope N_zP P_zP (defScope s_zP):=⟨rfl,rfl,rfl,by decide +kernel,rfl,by decide +kernel,by decide +kernel⟩
def lb_zP_1 (g_zJ:Fn):MS :=
 (seqS (appS 3 (bo modD (uo intD (ifM (tst (bo gtD (vW 2) (M.pure (.int 0)))) (vF 2) (calM g_zJ (consM (vF 0) (consM (vF 4) (M.pure [])))))) (M.pure (.int 1000))))
 (setS 2 (bo fdivD (vW 2) (M.pure (.int 1000)))))
def b_zP (g_zJ:Fn):MS :=
 (seqS (setS 2 (ifM (tst (bo geD (uo absD (vW 0)) (bo powD (M.pure (.int 10)) (M.pure (.int 18))))) (uo absD (vW 0)) (M.pure (.int 0))))
 (seqS (setO 3 ((M.pure []).bind lenOk))
 (seqS (forS ((vF 1).bind rng1) (nmT 4) (lb_zP_1 g_zJ))
 (frz 3 (retS (vF 3))))))
theorem d_zP {g_zJ:Fn} (n:En) (B:Blt K mg) (c_zJ:Cal P w K mg base "_law_mixed" P_zJ 1 g_zJ)
  (hr:Room 1 (A.deeper (PyProof.Rows.envOfC "_law_row" (defScope s_zP) s.heap.objs.size a cdv))) :
  PSs (cxOf (CXm mg P w) P w K mg base N_zP "_law_row" (defScope s_zP) a cdv A outer s H E) (defBody s_zP) (tS ⟨K,mg⟩ n (fun cls d _ H=>E cls d H) (b_zP g_zJ)):=by
 unfold b_zP
 have tk:=DL.takes_of (X:=(cxOf (CXm mg P w) P w K mg base N_zP "_law_row" (defScope s_zP) a cdv A outer s H E)) (E:=E) rfl rfl rfl rfl
 have pw:=passes_of (X:=(cxOf (CXm mg P w) P w K mg base N_zP "_law_row" (defScope s_zP) a cdv A outer s H E)) rfl
 exact (dss_cons (ds_set (i:=2) sc_zP.nd (de_ifExp (dt_ge (dw (de_abs rfl B.b_abs (dw_v 0))) (dw (de_pow (dw de_int) (dw de_int)))) (de_abs rfl B.b_abs (dw_v 0)) de_int))
 (dss_cons (ds_setO (i:=3) sc_zP.nd (dn_lst da_nil))
 (dss_cons (ds_for pw rfl (di_range1 rfl B.b_range (de_v 1)) (dg_name 4 sc_zP.nd) (dss_cons (ds_app (i:=3) (de_mod (dw (de_toInt rfl B.b_int (dw (de_ifExp (dt_gt (dw_v 2) (dw de_int)) (de_v 2) (de_fn tk c_zJ hr (by decide) rfl (da_cons (de_v 0) (da_cons (de_v 4) da_nil))))))) (dw de_int)))
 (dss_one (ds_set (i:=2) sc_zP.nd (de_fdiv (dw_v 2) (dw de_int))))))
 (dss_one (ds_frz 3 (ds_ret (de_v 3)))))))
theorem k_zP {g_zJ:Fn} {gg:Fn} (T:FT K mg "_law_row" s_zP) (B:Blt K mg) (c_zJ:Cal P w K mg base "_law_mixed" P_zJ 1 g_zJ)
  (hf:∀ ds ω r,gg ds ω=some r→ds.length=2 ∧ ∃ rs,b_zP g_zJ (startE N_zP ds) ω=some rs ∧ retOf rs=some r):Cal P w K mg base "_law_row" P_zP 2 gg :=
 cal_of T (fun a fd F=>F.binds (ps:=P_zP) fun _ _ _ _ _ _ us hl=>match us,hl with | [_,_],_=>rfl) fun a fd F=>fn_x F sc_zP (fun ds ω r e=>(hf ds ω r e).1) (fun cdv A outer s H E n hr=>d_zP n B c_zJ hr) fun ds ω r e=>(hf ds ω r e).2
abbrev N_zC:List Str:=["_law_row_here", "_law_left", "_law_k"]
abbrev P_zC:List Str:=["_law_row_here"]
theorem sc_zC:FnScope N_zC P_zC (defScope s_zC):=⟨rfl,rfl,rfl,by decide +kernel,rfl,by decide +kernel,by decide +kernel⟩
def cm_zC_1  : M (List D) :=
 (lcM [2] ((uo lenD (vW 1)).bind rng1) (nmT 2) (M.pure true) (popAtM (vF 1) (bo modD (uo intD (bo ixD (vW 0) (bo addD (M.pure (.int 1)) (vW 2)))) (uo lenD (vW 1)))))
def b_zC  : MS :=
 (seqS (setN 1 ((bo addD (M.pure (.int 3)) (bo modD (uo intD (bo ixD (vW 0) (M.pure (.int 0)))) (M.pure (.int 4)))).bind rgL1))
 (retS (cm_zC_1.bind fun ds=>M.pure (.lst ds))))
theorem d_zC  (n:En) (B:Blt K mg)
  (hr:Room 0 (A.deeper (PyProof.Rows.envOfC "_law_machines" (defScope s_zC) s.heap.objs.size a cdv))) :
  PSs (cxOf (CXm mg P w) P w K mg base N_zC "_law_machines" (defScope s_zC) a cdv A outer s H E) (defBody s_zC) (tS ⟨K,mg⟩ n (fun cls d _ H=>E cls d H) (b_zC)):=by
 unfold b_zC
 exact (dss_cons (ds_setN (i:=1) sc_zC.nd (dn_rg1 rfl rfl B.b_list rfl B.b_range (de_add rfl (dw de_int) (dw (de_mod (dw (de_toInt rfl B.b_int (dw (de_item rfl (dw_v 0) (dw de_int))))) (dw de_int))))))
 (dss_one (ds_ret (de_new (dn_lc rfl sc_zC.nd (own:=[("_law_k", 2)]) (di_s (di_range1 rfl B.b_range (de_len rfl rfl B.b_len (dw_v 1)))) (blkOk_by (own:=[("_law_k", 2)]) (N:=N_zC) (sc:=defScope s_zC) (by decide +kernel)) (by decide) (fun _ _ _ _ _=>(dg_name 2 sc_zC.nd)) (fun _ _ _ _ _=>dts_nil) (fun _ _ _ _ _=>(de_popAt (de_v 1) (de_mod (dw (de_toInt rfl B.b_int (dw (de_item rfl (dw_v 0) (dw (de_add rfl (dw de_int) (dw_v 2))))))) (dw (de_len rfl rfl B.b_len (dw_v 1)))))))))))
theorem k_zC  {gg:Fn} (T:FT K mg "_law_machines" s_zC) (B:Blt K mg)
  (hf:∀ ds ω r,gg ds ω=some r→ds.length=1 ∧ ∃ rs,b_zC (startE N_zC ds) ω=some rs ∧ retOf rs=some r):Cal P w K mg base "_law_machines" P_zC 1 gg :=
 cal_of T (fun a fd F=>F.binds (ps:=P_zC) fun _ _ _ _ _ _ us hl=>match us,hl with | [_],_=>rfl) fun a fd F=>fn_x F sc_zC (fun ds ω r e=>(hf ds ω r e).1) (fun cdv A outer s H E n hr=>d_zC n B hr) fun ds ω r e=>(hf ds ω r e).2
abbrev N_zG:List Str:=["_law_first", "_law_second", "_law_number", "_law_draw", "_law_parts"]
abbrev P_zG:List Str:=["_law_first", "_law_second", "_law_number", "_law_draw"]
theorem sc_zG:FnScope N_zG P_zG (defScope s_zG):=⟨rfl,rfl,rfl,by decide +kernel,rfl,by decide +kernel,by decide +kernel⟩
def b_zG  : MS :=
 (seqS (setS 4 (((consM (bo addD (vW 0) ((consM (bo modD (uo intD (vW 3)) (M.pure (.int 3))) (consM (bo subD (vW 3) (M.pure (.int 400))) (M.pure []))).bind mkTup)) (consM (bo addD (vW 1) ((consM (bo modD (bo fdivD (vW 3) (M.pure (.int 3))) (M.pure (.int 3))) (consM (bo fdivD (vW 3) (M.pure (.int 2))) (M.pure []))).bind mkTup)) (M.pure []))).bind lenOk).bind fun ds=>M.pure (.lst ds)))
 (seqS (ifS (tst (bo eqD (bo modD (bo fdivD (vW 3) (M.pure (.int 9))) (M.pure (.int 2))) (M.pure (.int 1)))) (setS 4 (uo revD (vW 4))) (fun ρ ω=>some (.nx ρ ω)))
 (retS ((consM ((consM (bo modD (bo fdivD (vW 3) (M.pure (.int 18))) (M.pure (.int 3))) (consM (vF 2) (consM (M.pure (.int 2)) (M.pure [])))).bind mkTup) (consM (uo tupleD (vW 4)) (M.pure []))).bind mkTup))))
theorem d_zG  (n:En) (B:Blt K mg)
  (hr:Room 0 (A.deeper (PyProof.Rows.envOfC "_law_meeting" (defScope s_zG) s.heap.objs.size a cdv))) :
  PSs (cxOf (CXm mg P w) P w K mg base N_zG "_law_meeting" (defScope s_zG) a cdv A outer s H E) (defBody s_zG) (tS ⟨K,mg⟩ n (fun cls d _ H=>E cls d H) (b_zG)):=by
 unfold b_zG
 exact (dss_cons (ds_set (i:=4) sc_zG.nd (de_new (dn_lst (da_cons (de_add rfl (dw_v 0) (dw (de_tup (da_cons (de_mod (dw (de_toInt rfl B.b_int (dw_v 3))) (dw de_int)) (da_cons (de_sub (dw_v 3) (dw de_int)) da_nil))))) (da_cons (de_add rfl (dw_v 1) (dw (de_tup (da_cons (de_mod (dw (de_fdiv (dw_v 3) (dw de_int))) (dw de_int)) (da_cons (de_fdiv (dw_v 3) (dw de_int)) da_nil))))) da_nil)))))
 (dss_cons (ds_if (dt_eq rfl hr (dw (de_mod (dw (de_fdiv (dw_v 3) (dw de_int))) (dw de_int))) (dw de_int)) (dss_one (ds_set (i:=4) sc_zG.nd (de_rev rfl (dw_v 4)))) dss_nil)
 (dss_one (ds_ret (de_tup (da_cons (de_tup (da_cons (de_mod (dw (de_fdiv (dw_v 3) (dw de_int))) (dw de_int)) (da_cons (de_v 2) (da_cons de_int da_nil)))) (da_cons (de_tuple rfl rfl B.b_tuple (dw_v 4)) da_nil)))))))
theorem k_zG  {gg:Fn} (T:FT K mg "_law_meeting" s_zG) (B:Blt K mg)
  (hf:∀ ds ω r,gg ds ω=some r→ds.length=4 ∧ ∃ rs,b_zG (startE N_zG ds) ω=some rs ∧ retOf rs=some r):Cal P w K mg base "_law_meeting" P_zG 1 gg :=
 cal_of T (fun a fd F=>F.binds (ps:=P_zG) fun _ _ _ _ _ _ us hl=>match us,hl with | [_,_,_,_],_=>rfl) fun a fd F=>fn_x F sc_zG (fun ds ω r e=>(hf ds ω r e).1) (fun cdv A outer s H E n hr=>d_zG n B hr) fun ds ω r e=>(hf ds ω r e).2
abbrev N_zK:List Str:=["_law_machines_here", "_law_row_here", "_law_is_ring", "_law_many", "_law_found", "_law_k", "_law_later", "_law_turn"]
abbrev P_zK:List Str:=["_law_machines_here", "_law_row_here", "_law_is_ring"]
theorem sc_zK:FnScope N_zK P_zK (defScope s_zK):=⟨rfl,rfl,rfl,by decide +kernel,rfl,by decide +kernel,by decide +kernel⟩
def lb_zK_1 (g_zG:Fn):MS :=
 (seqS (setS 6 (bo modD (uo intD (bo addD (vW 5) (M.pure (.int 1)))) (vW 3)))
 (seqS (setS 7 (uo intD (orV (vF 2) (bo ltD (vW 6) (bo subD (vW 3) (M.pure (.int 1)))))))
 (appS 4 (calM g_zG (consM ((consM (bo ixD (vW 0) (vW 5)) (consM (M.pure (.int 0)) (M.pure []))).bind mkTup) (consM ((consM (bo ixD (vW 0) (vW 6)) (consM (vF 7) (M.pure []))).bind mkTup) (consM (vF 5) (consM (bo ixD (vW 1) (bo addD (M.pure (.int 8)) (vW 5))) (M.pure [])))))))))
def b_zK (g_zG:Fn):MS :=
 (seqS (setS 3 (uo lenD (vW 0)))
 (seqS (setO 4 ((M.pure []).bind lenOk))
 (seqS (forS ((bo subD (vW 3) (uo intD (notV (vF 2)))).bind rng1) (nmT 5) (lb_zK_1 g_zG))
 (frz 4 (retS (vF 4))))))
theorem d_zK {g_zG:Fn} (n:En) (B:Blt K mg) (c_zG:Cal P w K mg base "_law_meeting" P_zG 1 g_zG)
  (hr:Room 1 (A.deeper (PyProof.Rows.envOfC "_law_links" (defScope s_zK) s.heap.objs.size a cdv))) :
  PSs (cxOf (CXm mg P w) P w K mg base N_zK "_law_links" (defScope s_zK) a cdv A outer s H E) (defBody s_zK) (tS ⟨K,mg⟩ n (fun cls d _ H=>E cls d H) (b_zK g_zG)):=by
 unfold b_zK
 have tk:=DL.takes_of (X:=(cxOf (CXm mg P w) P w K mg base N_zK "_law_links" (defScope s_zK) a cdv A outer s H E)) (E:=E) rfl rfl rfl rfl
 have pw:=passes_of (X:=(cxOf (CXm mg P w) P w K mg base N_zK "_law_links" (defScope s_zK) a cdv A outer s H E)) rfl
 exact (dss_cons (ds_set (i:=3) sc_zK.nd (de_len rfl rfl B.b_len (dw_v 0)))
 (dss_cons (ds_setO (i:=4) sc_zK.nd (dn_lst da_nil))
 (dss_cons (ds_for pw rfl (di_range1 rfl B.b_range (de_sub (dw_v 3) (dw (de_toInt rfl B.b_int (dw (de_not (de_v 2))))))) (dg_name 5 sc_zK.nd) (dss_cons (ds_set (i:=6) sc_zK.nd (de_mod (dw (de_toInt rfl B.b_int (dw (de_add rfl (dw_v 5) (dw de_int))))) (dw_v 3)))
 (dss_cons (ds_set (i:=7) sc_zK.nd (de_toInt rfl B.b_int (dw (de_or (de_v 2) (de_one (de_lt (dw_v 6) (dw (de_sub (dw_v 3) (dw de_int)))))))))
 (dss_one (ds_app (i:=4) (de_fn tk c_zG hr (by decide) rfl (da_cons (de_tup (da_cons (de_item rfl (dw_v 0) (dw_v 5)) (da_cons de_int da_nil))) (da_cons (de_tup (da_cons (de_item rfl (dw_v 0) (dw_v 6)) (da_cons (de_v 7) da_nil))) (da_cons (de_v 5) (da_cons (de_item rfl (dw_v 1) (dw (de_add rfl (dw de_int) (dw_v 5)))) da_nil))))))))))
 (dss_one (ds_frz 4 (ds_ret (de_v 4)))))))
theorem k_zK {g_zG:Fn} {gg:Fn} (T:FT K mg "_law_links" s_zK) (B:Blt K mg) (c_zG:Cal P w K mg base "_law_meeting" P_zG 1 g_zG)
  (hf:∀ ds ω r,gg ds ω=some r→ds.length=3 ∧ ∃ rs,b_zK g_zG (startE N_zK ds) ω=some rs ∧ retOf rs=some r):Cal P w K mg base "_law_links" P_zK 2 gg :=
 cal_of T (fun a fd F=>F.binds (ps:=P_zK) fun _ _ _ _ _ _ us hl=>match us,hl with | [_,_,_],_=>rfl) fun a fd F=>fn_x F sc_zK (fun ds ω r e=>(hf ds ω r e).1) (fun cdv A outer s H E n hr=>d_zK n B c_zG hr) fun ds ω r e=>(hf ds ω r e).2
abbrev N_zM:List Str:=["_law_meetings", "_law_many", "_law_logs_here", "_law_turn", "_law_meeting_here", "_law_part", "_law_k"]
abbrev P_zM:List Str:=["_law_meetings", "_law_many"]
theorem sc_zM:FnScope N_zM P_zM (defScope s_zM):=⟨rfl,rfl,rfl,by decide +kernel,rfl,by decide +kernel,by decide +kernel⟩
def cm_zM_1  : M (List D) :=
 (lcM [6] ((vF 1).bind rng1) (nmT 6) (M.pure true) (((M.pure []).bind lenOk).bind newS))
def lb_zM_1  : MS :=
 (ifS (tst (bo eqD (bo ixD (vW 5) (M.pure (.int 1))) (vW 3))) (exprS (appM (bo ixD (vW 2) (bo ixD (vW 5) (M.pure (.int 0)))) (vF 4))) (fun ρ ω=>some (.nx ρ ω)))
def lb_zM_2  : MS :=
 (forS ((bo ixD (vW 4) (M.pure (.int 1))).bind itemsOf) (nmT 5) lb_zM_1)
def lb_zM_3  : MS :=
 (forS ((vF 0).bind itemsOf) (nmT 4) lb_zM_2)
def b_zM  : MS :=
 (seqS (setN 2 cm_zM_1)
 (seqS (forS ((M.pure (.int 2)).bind rng1) (nmT 3) lb_zM_3)
 (retS (vF 2))))
theorem d_zM  (n:En) (B:Blt K mg)
  (hr:Room 0 (A.deeper (PyProof.Rows.envOfC "_law_logs" (defScope s_zM) s.heap.objs.size a cdv))) :
  PSs (cxOf (CXm mg P w) P w K mg base N_zM "_law_logs" (defScope s_zM) a cdv A outer s H E) (defBody s_zM) (tS ⟨K,mg⟩ n (fun cls d _ H=>E cls d H) (b_zM)):=by
 unfold b_zM
 have pw:=passes_of (X:=(cxOf (CXm mg P w) P w K mg base N_zM "_law_logs" (defScope s_zM) a cdv A outer s H E)) rfl
 exact (dss_cons (ds_setLcN (i:=2) rfl sc_zM.nd rfl rfl (sw_true rfl rfl rfl (by decide +kernel)) (own:=[("_law_k", 6)]) (di_s (di_range1 rfl B.b_range (de_v 1))) (blkOk_by (own:=[("_law_k", 6)]) (N:=N_zM) (sc:=defScope s_zM) (by decide +kernel)) (by decide) (fun _ _ _ _ _=>(dg_name 6 sc_zM.nd)) (fun _ _ _ _ _=>dts_nil) (fun _ _ _ _ _=>(de_newS (dn_lst da_nil))))
 (dss_cons (ds_for pw rfl (di_range1 rfl B.b_range de_int) (dg_name 3 sc_zM.nd) (dss_one (ds_for pw rfl (di_data rfl (de_v 0)) (dg_name 4 sc_zM.nd) (dss_one (ds_for pw rfl (di_data rfl (de_item rfl (dw_v 4) (dw de_int))) (dg_name 5 sc_zM.nd) (dss_one (ds_if (dt_eq rfl hr (dw (de_item rfl (dw_v 5) (dw de_int))) (dw_v 3)) (dss_one (ds_expr (de_append (de_item rfl (dw_v 2) (dw (de_item rfl (dw_v 5) (dw de_int)))) (de_v 4)))) dss_nil)))))))
 (dss_one (ds_ret (de_v 2)))))
theorem k_zM  {gg:Fn} (T:FT K mg "_law_logs" s_zM) (B:Blt K mg)
  (hf:∀ ds ω r,gg ds ω=some r→ds.length=2 ∧ ∃ rs,b_zM (startE N_zM ds) ω=some rs ∧ retOf rs=some r):Cal P w K mg base "_law_logs" P_zM 1 gg :=
 cal_of T (fun a fd F=>F.binds (ps:=P_zM) fun _ _ _ _ _ _ us hl=>match us,hl with | [_,_],_=>rfl) fun a fd F=>fn_x F sc_zM (fun ds ω r e=>(hf ds ω r e).1) (fun cdv A outer s H E n hr=>d_zM n B hr) fun ds ω r e=>(hf ds ω r e).2
abbrev N_zN:List Str:=["_law_logs_here", "_law_run", "_law_k"]
abbrev P_zN:List Str:=["_law_logs_here"]
theorem sc_zN:FnScope N_zN P_zN (defScope s_zN):=⟨rfl,rfl,rfl,by decide +kernel,rfl,by decide +kernel,by decide +kernel⟩
def tb_zN_1 (g_zQ:Fn):MS :=
 (setS 1 (calM g_zQ (consM (vF 0) (M.pure []))))
def su_zN_1  : XP→MS :=
 (fun p=>(retS (M.pure .non)))
def cm_zN_1 (g_zA:Fn) (g_zI:Fn):M (List D) :=
 (lcM [2] ((lenO [("Run", g_zI)] (vF 1)).bind rng1) (nmT 2) (M.pure true) (ixO [("Run", g_zA)] (vF 1) (vF 2)))
def b_zN (g_zA:Fn) (g_zI:Fn) (g_zQ:Fn):MS :=
 (seqS (tryS (tb_zN_1 g_zQ) [(ca_NoJoin,none,su_zN_1)])
 (retS ((cm_zN_1 g_zA g_zI).bind fun ds=>M.pure (.lst ds))))
theorem d_zN {g_zA:Fn} {g_zI:Fn} {g_zQ:Fn} (n:En) (B:Blt K mg) (c_zA:CalM P w K mg base "Run" "__getitem__" P_zA 3 g_zA) (c_zI:CalM P w K mg base "Run" "__len__" P_zI 1 g_zI) (c_zQ:Cal P w K mg base "joined" P_zQ 4 g_zQ)
  (hr:Room 4 (A.deeper (PyProof.Rows.envOfC "_law_join" (defScope s_zN) s.heap.objs.size a cdv))) :
  PSs (cxOf (CXm mg P w) P w K mg base N_zN "_law_join" (defScope s_zN) a cdv A outer s H E) (defBody s_zN) (tS ⟨K,mg⟩ n (fun cls d _ H=>E cls d H) (b_zN g_zA g_zI g_zQ)):=by
 unfold b_zN
 have tk:=DL.takes_of (X:=(cxOf (CXm mg P w) P w K mg base N_zN "_law_join" (defScope s_zN) a cdv A outer s H E)) (E:=E) rfl rfl rfl rfl
 have pw:=passes_of (X:=(cxOf (CXm mg P w) P w K mg base N_zN "_law_join" (defScope s_zN) a cdv A outer s H E)) rfl
 exact (dss_cons (ds_try rfl rfl tk (fun W2 pn xe tk pw=>(dss_one (ds_set (i:=1) sc_zN.nd (de_fn tk c_zQ hr (by decide) rfl (da_cons (de_v 0) da_nil))))) (cs_one B.ca_NoJoin rfl (fun a oe cls d pn hz hf=>(dss_one (ds_ret de_non))) CsOk.nil))
 (dss_one (ds_ret (de_new (dn_lc rfl sc_zN.nd (own:=[("_law_k", 2)]) (di_s (di_range1 rfl B.b_range (de_lenO (k:=1) tk (cms_cons c_zI (by decide) cms_nil) hr (by decide) rfl B.b_len (de_v 1)))) (blkOk_by (own:=[("_law_k", 2)]) (N:=N_zN) (sc:=defScope s_zN) (by decide +kernel)) (by decide) (fun _ _ _ _ _=>(dg_name 2 sc_zN.nd)) (fun _ _ _ _ _=>dts_nil) (fun _ _ _ _ _=>(de_ixO (k:=3) DL.takes0 (cms_cons c_zA (by decide) cms_nil) hr (by decide) (de_v 1) (de_v 2))))))))
theorem k_zN {g_zA:Fn} {g_zI:Fn} {g_zQ:Fn} {gg:Fn} (T:FT K mg "_law_join" s_zN) (B:Blt K mg) (c_zA:CalM P w K mg base "Run" "__getitem__" P_zA 3 g_zA) (c_zI:CalM P w K mg base "Run" "__len__" P_zI 1 g_zI) (c_zQ:Cal P w K mg base "joined" P_zQ 4 g_zQ)
  (hf:∀ ds ω r,gg ds ω=some r→ds.length=1 ∧ ∃ rs,b_zN g_zA g_zI g_zQ (startE N_zN ds) ω=some rs ∧ retOf rs=some r):Cal P w K mg base "_law_join" P_zN 5 gg :=
 cal_of T (fun a fd F=>F.binds (ps:=P_zN) fun _ _ _ _ _ _ us hl=>match us,hl with | [_],_=>rfl) fun a fd F=>fn_x F sc_zN (fun ds ω r e=>(hf ds ω r e).1) (fun cdv A outer s H E n hr=>d_zN n B c_zA c_zI c_zQ hr) fun ds ω r e=>(hf ds ω r e).2
abbrev N_law:List Str:=["_law_script", "_law_row_here", "_law_machines_here", "_law_many", "_law_ring", "_law_chain", "_law_logs_here", "_law_one", "_law_two", "_law_k"]
abbrev P_law:List Str:=["_law_script"]
theorem sc_law:FnScope N_law P_law (defScope s_law):=⟨rfl,rfl,rfl,by decide +kernel,rfl,by decide +kernel,by decide +kernel⟩
def cm_law_1  : M (List D) :=
 (lcM [9] ((vF 3).bind rng1) (nmT 9) (M.pure true) (((M.pure []).bind lenOk).bind newS))
def b_law (g_zF:Fn) (g_zN:Fn) (g_zK:Fn) (g_zM:Fn) (g_zC:Fn) (g_zG:Fn) (g_zP:Fn):MS :=
 (seqS (setS 1 (calM g_zP (consM (calM g_zF (consM (vF 0) (consM (M.pure (.int 0)) (M.pure [])))) (consM (M.pure (.int 16)) (M.pure [])))))
 (seqS (setS 2 (calM g_zC (consM (vF 1) (M.pure []))))
 (seqS (setS 3 (uo lenD (vW 2)))
 (seqS (setS 4 (calM g_zM (consM (calM g_zK (consM (vF 2) (consM (vF 1) (consM (M.pure (.bl true)) (M.pure []))))) (consM (vF 3) (M.pure [])))))
 (seqS (ifS (orM (tst (bo notN (calM g_zN (consM (vF 4) (M.pure []))) (M.pure .non))) (tst (cmpW neD (vW 4) (calM g_zM (consM (calM g_zK (consM (vF 2) (consM (vF 1) (consM (M.pure (.bl true)) (M.pure []))))) (consM (vF 3) (M.pure []))))))) (retS (M.pure (.bl false))) (fun ρ ω=>some (.nx ρ ω)))
 (seqS (setS 5 (calM g_zK (consM (vF 2) (consM (vF 1) (consM (M.pure (.bl false)) (M.pure []))))))
 (seqS (setS 6 (calM g_zM (consM (vF 5) (consM (vF 3) (M.pure [])))))
 (seqS (ifS (tst (bo neD (calM g_zN (consM (vF 6) (M.pure []))) (uo revD (vW 5)))) (retS (M.pure (.bl false))) (fun ρ ω=>some (.nx ρ ω)))
 (seqS (putLS (vF 6) (bo ixD (vW 2) (M.pure (.int 0))) (((M.pure []).bind lenOk).bind newS))
 (seqS (ifS (tst (bo neD (calM g_zN (consM (vF 6) (M.pure []))) (uo revD (vW 5)))) (retS (M.pure (.bl false))) (fun ρ ω=>some (.nx ρ ω)))
 (seqS (setN 6 cm_law_1)
 (seqS (setS 7 (calM g_zG (consM ((consM (bo ixD (vW 2) (M.pure (.int 0))) (consM (M.pure (.int 0)) (M.pure []))).bind mkTup) (consM ((consM (bo ixD (vW 2) (M.pure (.int 1))) (consM (M.pure (.int 0)) (M.pure []))).bind mkTup) (consM (M.pure (.int 0)) (consM (bo ixD (vW 1) (M.pure (.int 14))) (M.pure [])))))))
 (seqS (setS 8 (calM g_zG (consM ((consM (bo ixD (vW 2) (M.pure (.int 2))) (consM (M.pure (.int 0)) (M.pure []))).bind mkTup) (consM ((consM (bo ixD (vW 2) (M.pure (.int 1))) (consM (M.pure (.int 0)) (M.pure []))).bind mkTup) (consM (M.pure (.int 1)) (consM (bo ixD (vW 1) (M.pure (.int 15))) (M.pure [])))))))
 (seqS (exprS (appM (bo ixD (vW 6) (bo ixD (vW 2) (M.pure (.int 0)))) (vF 7)))
 (seqS (ifS (tst (bo neD (calM g_zN (consM (vF 6) (M.pure []))) (((consM (vF 7) (M.pure [])).bind lenOk).bind fun ds=>M.pure (.lst ds)))) (retS (M.pure (.bl false))) (fun ρ ω=>some (.nx ρ ω)))
 (seqS (exprS (appM (bo ixD (vW 6) (bo ixD (vW 2) (M.pure (.int 2)))) (vF 8)))
 (retS (bo isN (calM g_zN (consM (vF 6) (M.pure []))) (M.pure .non)))))))))))))))))))
theorem d_law {g_zF:Fn} {g_zN:Fn} {g_zK:Fn} {g_zM:Fn} {g_zC:Fn} {g_zG:Fn} {g_zP:Fn} (n:En) (B:Blt K mg) (c_zF:Cal P w K mg base "_law_cell_at" P_zF 1 g_zF) (c_zN:Cal P w K mg base "_law_join" P_zN 5 g_zN) (c_zK:Cal P w K mg base "_law_links" P_zK 2 g_zK) (c_zM:Cal P w K mg base "_law_logs" P_zM 1 g_zM) (c_zC:Cal P w K mg base "_law_machines" P_zC 1 g_zC) (c_zG:Cal P w K mg base "_law_meeting" P_zG 1 g_zG) (c_zP:Cal P w K mg base "_law_row" P_zP 2 g_zP)
  (hr:Room 5 (A.deeper (PyProof.Rows.envOfC "law" (defScope s_law) s.heap.objs.size a cdv))) :
  PSs (cxOf CX0 P w K mg base N_law "law" (defScope s_law) a cdv A outer s H E).nox (defBody s_law) (tS ⟨K,mg⟩ n W0 (b_law g_zF g_zN g_zK g_zM g_zC g_zG g_zP)):=by
 unfold b_law
 have tk:=(DL.takes0:DL.Takes (cxOf CX0 P w K mg base N_law "law" (defScope s_law) a cdv A outer s H E).nox W0)
 exact (dss_cons (ds_set (i:=1) sc_law.nd (de_fn tk c_zP hr (by decide) rfl (da_cons (de_fn tk c_zF hr (by decide) rfl (da_cons (de_v 0) (da_cons de_int da_nil))) (da_cons de_int da_nil))))
 (dss_cons (ds_set (i:=2) sc_law.nd (de_fn tk c_zC hr (by decide) rfl (da_cons (de_v 1) da_nil)))
 (dss_cons (ds_set (i:=3) sc_law.nd (de_len rfl rfl B.b_len (dw_v 2)))
 (dss_cons (ds_set (i:=4) sc_law.nd (de_fn tk c_zM hr (by decide) rfl (da_cons (de_fn tk c_zK hr (by decide) rfl (da_cons (de_v 2) (da_cons (de_v 1) (da_cons de_bl da_nil)))) (da_cons (de_v 3) da_nil))))
 (dss_cons (ds_if (dt_w (dw_or (dt_isnot (dw (de_fn tk c_zN hr (by decide) rfl (da_cons (de_v 4) da_nil))) (dw de_non)) (dw_or1 (dt_neW rfl hr (dw_v 4) (dw (de_fn tk c_zM hr (by decide) rfl (da_cons (de_fn tk c_zK hr (by decide) rfl (da_cons (de_v 2) (da_cons (de_v 1) (da_cons de_bl da_nil)))) (da_cons (de_v 3) da_nil)))))))) (dss_one (ds_ret de_bl)) dss_nil)
 (dss_cons (ds_set (i:=5) sc_law.nd (de_fn tk c_zK hr (by decide) rfl (da_cons (de_v 2) (da_cons (de_v 1) (da_cons de_bl da_nil)))))
 (dss_cons (ds_set (i:=6) sc_law.nd (de_fn tk c_zM hr (by decide) rfl (da_cons (de_v 5) (da_cons (de_v 3) da_nil))))
 (dss_cons (ds_if (dt_ne rfl hr (dw (de_fn tk c_zN hr (by decide) rfl (da_cons (de_v 6) da_nil))) (dw (de_rev rfl (dw_v 5)))) (dss_one (ds_ret de_bl)) dss_nil)
 (dss_cons (ds_putLS (de_newS (dn_lst da_nil)) (de_v 6) (de_item rfl (dw_v 2) (dw de_int)))
 (dss_cons (ds_if (dt_ne rfl hr (dw (de_fn tk c_zN hr (by decide) rfl (da_cons (de_v 6) da_nil))) (dw (de_rev rfl (dw_v 5)))) (dss_one (ds_ret de_bl)) dss_nil)
 (dss_cons (ds_setLcN (i:=6) rfl sc_law.nd rfl rfl (sw_true rfl rfl rfl (by decide +kernel)) (own:=[("_law_k", 9)]) (di_s (di_range1 rfl B.b_range (de_v 3))) (blkOk_by (own:=[("_law_k", 9)]) (N:=N_law) (sc:=defScope s_law) (by decide +kernel)) (by decide) (fun _ _ _ _ _=>(dg_name 9 sc_law.nd)) (fun _ _ _ _ _=>dts_nil) (fun _ _ _ _ _=>(de_newS (dn_lst da_nil))))
 (dss_cons (ds_set (i:=7) sc_law.nd (de_fn tk c_zG hr (by decide) rfl (da_cons (de_tup (da_cons (de_item rfl (dw_v 2) (dw de_int)) (da_cons de_int da_nil))) (da_cons (de_tup (da_cons (de_item rfl (dw_v 2) (dw de_int)) (da_cons de_int da_nil))) (da_cons de_int (da_cons (de_item rfl (dw_v 1) (dw de_int)) da_nil))))))
 (dss_cons (ds_set (i:=8) sc_law.nd (de_fn tk c_zG hr (by decide) rfl (da_cons (de_tup (da_cons (de_item rfl (dw_v 2) (dw de_int)) (da_cons de_int da_nil))) (da_cons (de_tup (da_cons (de_item rfl (dw_v 2) (dw de_int)) (da_cons de_int da_nil))) (da_cons de_int (da_cons (de_item rfl (dw_v 1) (dw de_int)) da_nil))))))
 (dss_cons (ds_expr (de_append (de_item rfl (dw_v 6) (dw (de_item rfl (dw_v 2) (dw de_int)))) (de_v 7)))
 (dss_cons (ds_if (dt_ne rfl hr (dw (de_fn tk c_zN hr (by decide) rfl (da_cons (de_v 6) da_nil))) (dw (de_new (dn_lst (da_cons (de_v 7) da_nil))))) (dss_one (ds_ret de_bl)) dss_nil)
 (dss_cons (ds_expr (de_append (de_item rfl (dw_v 6) (dw (de_item rfl (dw_v 2) (dw de_int)))) (de_v 8)))
 (dss_one (ds_ret (de_is (dw (de_fn tk c_zN hr (by decide) rfl (da_cons (de_v 6) da_nil))) (dw de_non))))))))))))))))))))
end
structure Txt (K:PySem.W.Frag) (mg:Str→Option Value):Prop where
 B:Blt K mg
 t_zH:FT K mg "machines_of" s_zH
 t_zR:FT K mg "times" s_zR
 t_mk_Run:FI K mg "Run" "Run.__init__" s_zD
 t_zI:FM K mg "Run" "__len__" "Run.__len__" s_zI
 t_zA:FM K mg "Run" "__getitem__" "Run.__getitem__" s_zA
 t_zL:FT K mg "check_log" s_zL
 t_zB:FT K mg "check_meeting" s_zB
 t_zE:FT K mg "all_meetings" s_zE
 t_zO:FT K mg "is_ready" s_zO
 t_zQ:FT K mg "joined" s_zQ
 t_zF:FT K mg "_law_cell_at" s_zF
 t_zJ:FT K mg "_law_mixed" s_zJ
 t_zP:FT K mg "_law_row" s_zP
 t_zC:FT K mg "_law_machines" s_zC
 t_zG:FT K mg "_law_meeting" s_zG
 t_zK:FT K mg "_law_links" s_zK
 t_zM:FT K mg "_law_logs" s_zM
 t_zN:FT K mg "_law_join" s_zN
 t_law:FT K mg "law" s_law
 t_x_NoJoin:FX0 K mg "NoJoin" "NoJoin.__init__" s_x_NoJoin
 t_x_NoMeeting:FX K mg "NoMeeting" "place" "NoMeeting.__init__" s_x_NoMeeting
noncomputable def g_zH:Fn:=fnOf N_zH 1 (b_zH)
noncomputable def g_zR:Fn:=fnOf N_zR 2 (b_zR)
noncomputable def g_mk_Run:Fn:=fnOf N_zD 2 (b_zD)
noncomputable def g_zI:Fn:=fnOf N_zI 1 (b_zI)
noncomputable def g_zA:Fn:=fnOf N_zA 2 (b_zA)
noncomputable def g_zL:Fn:=fnOf N_zL 2 (b_zL)
noncomputable def g_zB:Fn:=fnOf N_zB 2 (b_zB g_zH)
noncomputable def g_zE:Fn:=fnOf N_zE 1 (b_zE)
noncomputable def g_zO:Fn:=fnOf N_zO 2 (b_zO)
noncomputable def g_zQ:Fn:=fnOf N_zQ 1 (b_zQ g_zE g_zL g_zB g_zO g_mk_Run)
noncomputable def g_zF:Fn:=fnOf N_zF 2 (b_zF)
noncomputable def g_zJ:Fn:=fnOf N_zJ 2 (b_zJ)
noncomputable def g_zP:Fn:=fnOf N_zP 2 (b_zP g_zJ)
noncomputable def g_zC:Fn:=fnOf N_zC 1 (b_zC)
noncomputable def g_zG:Fn:=fnOf N_zG 4 (b_zG)
noncomputable def g_zK:Fn:=fnOf N_zK 3 (b_zK g_zG)
noncomputable def g_zM:Fn:=fnOf N_zM 2 (b_zM)
noncomputable def g_zN:Fn:=fnOf N_zN 1 (b_zN g_zA g_zI g_zQ)
noncomputable def g_law:Fn:=fnV N_law 1 (b_law g_zF g_zN g_zK g_zM g_zC g_zG g_zP)
theorem f_law {P:Program} {w:World} {K:PySem.W.Frag} {mg:Str→Option Value} {base:Heap} (T:Txt K mg) {a:Addr} {fd:FuncData} (F:Fun K "law" "law" s_law a fd):FnOk P w K mg base CX0 6 a fd P_law (spD ⟨K,mg⟩ g_law):=by
 have c_x_NoJoin:=kx_NoJoin (P:=P) (w:=w) (base:=base) T.t_x_NoJoin T.B.se_SeatsError
 have c_x_NoMeeting:=kx_NoMeeting (P:=P) (w:=w) (base:=base) T.t_x_NoMeeting T.B.se_SeatsError
 have c_zH:=k_zH (P:=P) (w:=w) (K:=K) (mg:=mg) (base:=base) (gg:=g_zH) T.t_zH T.B hf_X
 have c_zR:=k_zR (P:=P) (w:=w) (K:=K) (mg:=mg) (base:=base) (gg:=g_zR) T.t_zR T.B hf_X
 have c_mk_Run:=k_mk_Run (P:=P) (w:=w) (K:=K) (mg:=mg) (base:=base) (gg:=g_mk_Run) T.t_mk_Run T.B hf_X
 have c_zI:=k_zI (P:=P) (w:=w) (K:=K) (mg:=mg) (base:=base) (gg:=g_zI) T.t_zI T.B hf_X
 have c_zA:=k_zA (P:=P) (w:=w) (K:=K) (mg:=mg) (base:=base) (gg:=g_zA) T.t_zA T.B c_x_NoMeeting hf_X
 have c_zL:=k_zL (P:=P) (w:=w) (K:=K) (mg:=mg) (base:=base) (gg:=g_zL) T.t_zL T.B c_x_NoJoin hf_X
 have c_zB:=k_zB (P:=P) (w:=w) (K:=K) (mg:=mg) (base:=base) (gg:=g_zB) T.t_zB T.B c_zH c_x_NoJoin hf_X
 have c_zE:=k_zE (P:=P) (w:=w) (K:=K) (mg:=mg) (base:=base) (gg:=g_zE) T.t_zE T.B c_x_NoJoin hf_X
 have c_zO:=k_zO (P:=P) (w:=w) (K:=K) (mg:=mg) (base:=base) (gg:=g_zO) T.t_zO T.B hf_X
 have c_zQ:=k_zQ (P:=P) (w:=w) (K:=K) (mg:=mg) (base:=base) (gg:=g_zQ) T.t_zQ T.B c_zE c_zL c_zB c_zO c_mk_Run c_x_NoJoin hf_X
 have c_zF:=k_zF (P:=P) (w:=w) (K:=K) (mg:=mg) (base:=base) (gg:=g_zF) T.t_zF T.B hf_X
 have c_zJ:=k_zJ (P:=P) (w:=w) (K:=K) (mg:=mg) (base:=base) (gg:=g_zJ) T.t_zJ T.B hf_X
 have c_zP:=k_zP (P:=P) (w:=w) (K:=K) (mg:=mg) (base:=base) (gg:=g_zP) T.t_zP T.B c_zJ hf_X
 have c_zC:=k_zC (P:=P) (w:=w) (K:=K) (mg:=mg) (base:=base) (gg:=g_zC) T.t_zC T.B hf_X
 have c_zG:=k_zG (P:=P) (w:=w) (K:=K) (mg:=mg) (base:=base) (gg:=g_zG) T.t_zG T.B hf_X
 have c_zK:=k_zK (P:=P) (w:=w) (K:=K) (mg:=mg) (base:=base) (gg:=g_zK) T.t_zK T.B c_zG hf_X
 have c_zM:=k_zM (P:=P) (w:=w) (K:=K) (mg:=mg) (base:=base) (gg:=g_zM) T.t_zM T.B hf_X
 have c_zN:=k_zN (P:=P) (w:=w) (K:=K) (mg:=mg) (base:=base) (gg:=g_zN) T.t_zN T.B c_zA c_zI c_zQ hf_X
 exact fn_d F sc_law (fun ds ω r e=>(hf_V ds ω r e).1) (fun cdv A outer s H E n hr=>d_law n T.B c_zF c_zN c_zK c_zM c_zC c_zG c_zP hr) fun ds ω r e=>(hf_V ds ω r e).2
theorem walkH {l:PySem.W.OpenLaw} {q:Program} {loose:List Str} {XP:(Str→Option Value)→Heap→Prop} {YP:World→Heap→Prop} {d:DefRec} (hn:l.most=some 63) (hdf:d.params.defaults=[])
  (F:∀ (w:World) (mg:Str→Option Value) (h:Heap),YP w h→h.Ns mainGlobals mg→∃ K:PySem.W.Frag,K.In h ∧ Txt K mg) (law:∀ ns:List Int,ns.length ≤ 63→∃ ω,g_law [.scr ns] []=some (.val (.bl true) ω)) (hd:d.name = "law") :
  PySem.W.WalkO q loose XP YP l.row.toRowW d [] (fun f vs=>PySem.call f vs) :=
 L2.walk_ofE (n:=63) (k:=6) (x := "_law_script") (CX:=CX0) hn (by decide) hdf ⟨rfl,by decide,by decide⟩ (fun w mg fa h Y G hfa=>by
  obtain ⟨K,KX,T⟩:=F w mg h Y G
  rw [hd] at hfa
  obtain ⟨a,fd,h1,Fu⟩:=T.t_law.ex
  rw [hfa] at h1
  cases h1
  refine ⟨K,fd,spLaw K,KX,fun s v=>?_,fun H a ns hl _ hS=>⟨a,ns,rfl,hS,hl,fun _=>rfl⟩,fun base _ _=>law_fnE (f_law T Fu) law⟩
  obtain ⟨oc,od,kV,doc,pm,an,cdv,ct,osl,rfl,lk,hcd⟩:=Fu.ex
  exact .of_eq rfl) fun _ _ _ _ z=>z
def DdAt (K:PySem.W.Frag) (f:Addr) (n q:Str) (st:Stmt):Prop:=∃ (oc:Value) (od:Option Addr) (osl:Array (Option Value)) (kV doc pm:Value) (an:Option Addr) (cdv ct:Value),K.lookup f=some ⟨oc,od,.func (PySem.W.fnOf n q (defArgs st) (defBody st) (defScope st) .none kV doc pm an cdv ct),osl⟩ ∧ PySem.W.codeIn K cdv q=true ∧ PySem.W.keepIn K (.ref f)=true
theorem txt_mkN {K:PySem.W.Frag} {h:Heap} {mg:Str→Option Value} (X:K.In h) (G:h.Ns mainGlobals mg)
  {C_Run:Addr}
  {f_zH:Addr}
  {f_zR:Addr}
  {f_zD:Addr}
  {f_zI:Addr}
  {f_zA:Addr}
  {f_zL:Addr}
  {f_zB:Addr}
  {f_zE:Addr}
  {f_zO:Addr}
  {f_zQ:Addr}
  {f_zF:Addr}
  {f_zJ:Addr}
  {f_zP:Addr}
  {f_zC:Addr}
  {f_zG:Addr}
  {f_zK:Addr}
  {f_zM:Addr}
  {f_zN:Addr}
  {f_law:Addr}
  {C_NoJoin:Addr}
  {C_NoMeeting:Addr}
  {C_SeatsError:Addr}
  {f_x_NoJoin:Addr}
  {f_x_NoMeeting:Addr}
  (h_a_Run:PySem.W.nsIn K mainGlobals "Run" = some (some (.ref C_Run)))
  (h_pg_Run:PySem.W.plainGet K C_Run Str.empty=true)
  (h_hd_Run:PySem.W.hasDictIn K C_Run=true)
  (h_po_Run:PySem.W.plainOver K C_Run=true)
  (h_sa_Run:PySem.W.findIn K (.ref C_Run) "__setattr__" = some (some (.builtin "object.__setattr__")))
  (h_mk_Run:PySem.W.makesIn K C_Run=true)
  (h_kc_Run:PySem.W.keepIn K (.ref C_Run)=true)
  (h_n_Run_rows:PySem.W.findIn K (.ref C_Run) "rows" = some none)
  (h_b_abs:PySem.W.nsIn K mainGlobals "abs" = some none)
  (h_b_any:PySem.W.nsIn K mainGlobals "any" = some none)
  (h_b_enumerate:PySem.W.nsIn K mainGlobals "enumerate" = some none)
  (h_b_int:PySem.W.nsIn K mainGlobals "int" = some none)
  (h_b_len:PySem.W.nsIn K mainGlobals "len" = some none)
  (h_b_list:PySem.W.nsIn K mainGlobals "list" = some none)
  (h_b_min:PySem.W.nsIn K mainGlobals "min" = some none)
  (h_b_range:PySem.W.nsIn K mainGlobals "range" = some none)
  (h_b_set:PySem.W.nsIn K mainGlobals "set" = some none)
  (h_b_tuple:PySem.W.nsIn K mainGlobals "tuple" = some none)
  (h_at_zH:PySem.W.nsIn K mainGlobals "machines_of" = some (some (.ref f_zH)))
  (h_lk_zH:DdAt K f_zH "machines_of" "machines_of" s_zH)
  (h_at_zR:PySem.W.nsIn K mainGlobals "times" = some (some (.ref f_zR)))
  (h_lk_zR:DdAt K f_zR "times" "times" s_zR)
  (h_at_zD:PySem.W.findIn K (.ref C_Run) "__init__" = some (some (.ref f_zD)))
  (h_fn_zD:PySem.W.isFn K (.ref f_zD)=true)
  (h_lk_zD:DdAt K f_zD "__init__" "Run.__init__" s_zD)
  (h_at_zI:PySem.W.findIn K (.ref C_Run) "__len__" = some (some (.ref f_zI)))
  (h_fn_zI:PySem.W.isFn K (.ref f_zI)=true)
  (h_lk_zI:DdAt K f_zI "__len__" "Run.__len__" s_zI)
  (h_at_zA:PySem.W.findIn K (.ref C_Run) "__getitem__" = some (some (.ref f_zA)))
  (h_fn_zA:PySem.W.isFn K (.ref f_zA)=true)
  (h_lk_zA:DdAt K f_zA "__getitem__" "Run.__getitem__" s_zA)
  (h_at_zL:PySem.W.nsIn K mainGlobals "check_log" = some (some (.ref f_zL)))
  (h_lk_zL:DdAt K f_zL "check_log" "check_log" s_zL)
  (h_at_zB:PySem.W.nsIn K mainGlobals "check_meeting" = some (some (.ref f_zB)))
  (h_lk_zB:DdAt K f_zB "check_meeting" "check_meeting" s_zB)
  (h_at_zE:PySem.W.nsIn K mainGlobals "all_meetings" = some (some (.ref f_zE)))
  (h_lk_zE:DdAt K f_zE "all_meetings" "all_meetings" s_zE)
  (h_at_zO:PySem.W.nsIn K mainGlobals "is_ready" = some (some (.ref f_zO)))
  (h_lk_zO:DdAt K f_zO "is_ready" "is_ready" s_zO)
  (h_at_zQ:PySem.W.nsIn K mainGlobals "joined" = some (some (.ref f_zQ)))
  (h_lk_zQ:DdAt K f_zQ "joined" "joined" s_zQ)
  (h_at_zF:PySem.W.nsIn K mainGlobals "_law_cell_at" = some (some (.ref f_zF)))
  (h_lk_zF:DdAt K f_zF "_law_cell_at" "_law_cell_at" s_zF)
  (h_at_zJ:PySem.W.nsIn K mainGlobals "_law_mixed" = some (some (.ref f_zJ)))
  (h_lk_zJ:DdAt K f_zJ "_law_mixed" "_law_mixed" s_zJ)
  (h_at_zP:PySem.W.nsIn K mainGlobals "_law_row" = some (some (.ref f_zP)))
  (h_lk_zP:DdAt K f_zP "_law_row" "_law_row" s_zP)
  (h_at_zC:PySem.W.nsIn K mainGlobals "_law_machines" = some (some (.ref f_zC)))
  (h_lk_zC:DdAt K f_zC "_law_machines" "_law_machines" s_zC)
  (h_at_zG:PySem.W.nsIn K mainGlobals "_law_meeting" = some (some (.ref f_zG)))
  (h_lk_zG:DdAt K f_zG "_law_meeting" "_law_meeting" s_zG)
  (h_at_zK:PySem.W.nsIn K mainGlobals "_law_links" = some (some (.ref f_zK)))
  (h_lk_zK:DdAt K f_zK "_law_links" "_law_links" s_zK)
  (h_at_zM:PySem.W.nsIn K mainGlobals "_law_logs" = some (some (.ref f_zM)))
  (h_lk_zM:DdAt K f_zM "_law_logs" "_law_logs" s_zM)
  (h_at_zN:PySem.W.nsIn K mainGlobals "_law_join" = some (some (.ref f_zN)))
  (h_lk_zN:DdAt K f_zN "_law_join" "_law_join" s_zN)
  (h_at_law:PySem.W.nsIn K mainGlobals "law" = some (some (.ref f_law)))
  (h_lk_law:DdAt K f_law "law" "law" s_law)
  (h_a_NoJoin:PySem.W.nsIn K mainGlobals "NoJoin" = some (some (.ref C_NoJoin)))
  (h_a_NoMeeting:PySem.W.nsIn K mainGlobals "NoMeeting" = some (some (.ref C_NoMeeting)))
  (h_a_SeatsError:PySem.W.nsIn K mainGlobals "SeatsError" = some (some (.ref C_SeatsError)))
  (h_sr_SeatsError:PySem.W.readsIn K C_SeatsError (.type "type")=true)
  (h_sg_SeatsError:PySem.W.specialIn K (.ref C_SeatsError) "__getattribute__" = some (some (.builtin "type.__getattribute__")))
  (h_sf_SeatsError:PySem.W.findCls K (.ref C_SeatsError) (.type "type") "__init__" = some (.val (.builtin "ValueError.__init__")))
  (h_cbe_NoJoin:PySem.W.subIn K (.ref C_NoJoin) (.type "BaseException")=some true)
  (h_chd_NoJoin:PySem.W.hasDictIn K C_NoJoin=true)
  (h_cty_NoJoin:PySem.W.typeIn K (.ref C_NoJoin)=some (.type "type"))
  (h_ce_NoJoin_NoJoin:PySem.W.subIn K (.ref C_NoJoin) (.ref C_NoJoin)=some true)
  (h_ce_NoJoin_NoMeeting:PySem.W.subIn K (.ref C_NoMeeting) (.ref C_NoJoin)=some false)
  (h_xsa_NoJoin:PySem.W.findIn K (.ref C_NoJoin) "__setattr__" = some (some (.builtin "object.__setattr__")))
  (h_xex_NoJoin:PySem.W.subIn K (.ref C_NoJoin) (.type "BaseException")=some true)
  (h_xty_NoJoin:PySem.W.typeIn K (.ref C_NoJoin)=some (.type "type"))
  (h_xkc_NoJoin:PySem.W.keepIn K (.ref C_NoJoin)=true)
  (h_at_x_NoJoin:PySem.W.findIn K (.ref C_NoJoin) "__init__" = some (some (.ref f_x_NoJoin)))
  (h_ft_x_NoJoin:PySem.W.typeIn K (.ref f_x_NoJoin)=some (.type "function"))
  (h_lk_x_NoJoin:DdAt K f_x_NoJoin "__init__" "NoJoin.__init__" s_x_NoJoin)
  (h_xsa_NoMeeting:PySem.W.findIn K (.ref C_NoMeeting) "__setattr__" = some (some (.builtin "object.__setattr__")))
  (h_xex_NoMeeting:PySem.W.subIn K (.ref C_NoMeeting) (.type "BaseException")=some true)
  (h_xty_NoMeeting:PySem.W.typeIn K (.ref C_NoMeeting)=some (.type "type"))
  (h_xkc_NoMeeting:PySem.W.keepIn K (.ref C_NoMeeting)=true)
  (h_xnf_NoMeeting:PySem.W.findIn K (.ref C_NoMeeting) "place" = some none)
  (h_at_x_NoMeeting:PySem.W.findIn K (.ref C_NoMeeting) "__init__" = some (some (.ref f_x_NoMeeting)))
  (h_ft_x_NoMeeting:PySem.W.typeIn K (.ref f_x_NoMeeting)=some (.type "function"))
  (h_lk_x_NoMeeting:DdAt K f_x_NoMeeting "__init__" "NoMeeting.__init__" s_x_NoMeeting)
  (h_xo_NoJoin:∃ nm q N bs bm sn sub ab col dd k0 k1 k2 k3 k5,K.lookup C_NoJoin=some (excClassObj nm q C_NoJoin N bs bm true sn sub ab col dd k0 k1 k2 k3 k5 "ValueError.__new__") ∧ PySem.HandSPX.refsVE bm=true)
  (h_xo_NoMeeting:∃ nm q N bs bm sn sub ab col dd k0 k1 k2 k3 k5,K.lookup C_NoMeeting=some (excClassObj nm q C_NoMeeting N bs bm true sn sub ab col dd k0 k1 k2 k3 k5 "ValueError.__new__") ∧ PySem.HandSPX.refsVE bm=true):Txt K mg:=by
 obtain ⟨_,_,_,_,_,_,_,_,_,h_lk_zH,h_cd_zH,h_kp_zH⟩:=h_lk_zH
 obtain ⟨_,_,_,_,_,_,_,_,_,h_lk_zR,h_cd_zR,h_kp_zR⟩:=h_lk_zR
 obtain ⟨_,_,_,_,_,_,_,_,_,h_lk_zD,h_cd_zD,h_kp_zD⟩:=h_lk_zD
 obtain ⟨_,_,_,_,_,_,_,_,_,h_lk_zI,h_cd_zI,h_kp_zI⟩:=h_lk_zI
 obtain ⟨_,_,_,_,_,_,_,_,_,h_lk_zA,h_cd_zA,h_kp_zA⟩:=h_lk_zA
 obtain ⟨_,_,_,_,_,_,_,_,_,h_lk_zL,h_cd_zL,h_kp_zL⟩:=h_lk_zL
 obtain ⟨_,_,_,_,_,_,_,_,_,h_lk_zB,h_cd_zB,h_kp_zB⟩:=h_lk_zB
 obtain ⟨_,_,_,_,_,_,_,_,_,h_lk_zE,h_cd_zE,h_kp_zE⟩:=h_lk_zE
 obtain ⟨_,_,_,_,_,_,_,_,_,h_lk_zO,h_cd_zO,h_kp_zO⟩:=h_lk_zO
 obtain ⟨_,_,_,_,_,_,_,_,_,h_lk_zQ,h_cd_zQ,h_kp_zQ⟩:=h_lk_zQ
 obtain ⟨_,_,_,_,_,_,_,_,_,h_lk_zF,h_cd_zF,h_kp_zF⟩:=h_lk_zF
 obtain ⟨_,_,_,_,_,_,_,_,_,h_lk_zJ,h_cd_zJ,h_kp_zJ⟩:=h_lk_zJ
 obtain ⟨_,_,_,_,_,_,_,_,_,h_lk_zP,h_cd_zP,h_kp_zP⟩:=h_lk_zP
 obtain ⟨_,_,_,_,_,_,_,_,_,h_lk_zC,h_cd_zC,h_kp_zC⟩:=h_lk_zC
 obtain ⟨_,_,_,_,_,_,_,_,_,h_lk_zG,h_cd_zG,h_kp_zG⟩:=h_lk_zG
 obtain ⟨_,_,_,_,_,_,_,_,_,h_lk_zK,h_cd_zK,h_kp_zK⟩:=h_lk_zK
 obtain ⟨_,_,_,_,_,_,_,_,_,h_lk_zM,h_cd_zM,h_kp_zM⟩:=h_lk_zM
 obtain ⟨_,_,_,_,_,_,_,_,_,h_lk_zN,h_cd_zN,h_kp_zN⟩:=h_lk_zN
 obtain ⟨_,_,_,_,_,_,_,_,_,h_lk_law,h_cd_law,h_kp_law⟩:=h_lk_law
 obtain ⟨_,_,_,_,_,_,_,_,_,h_lk_x_NoJoin,h_cd_x_NoJoin,h_kp_x_NoJoin⟩:=h_lk_x_NoJoin
 obtain ⟨_,_,_,_,_,_,_,_,_,h_lk_x_NoMeeting,h_cd_x_NoMeeting,h_kp_x_NoMeeting⟩:=h_lk_x_NoMeeting
 have k_Run:Cls K C_Run:=⟨h_pg_Run,h_hd_Run,h_po_Run,h_sa_Run⟩
 have m_Run:=PySem.W.mg_of X G h_a_Run
 have F_zH:=fun_mk (st:=s_zH) h_lk_zH h_cd_zH h_kp_zH
 have F_zR:=fun_mk (st:=s_zR) h_lk_zR h_cd_zR h_kp_zR
 have F_zD:=fun_mk (st:=s_zD) h_lk_zD h_cd_zD h_kp_zD
 have F_zI:=fun_mk (st:=s_zI) h_lk_zI h_cd_zI h_kp_zI
 have I_zI:PySem.W.fnIn K f_zI=true:=by unfold PySem.W.fnIn; rw [h_lk_zI]
 have F_zA:=fun_mk (st:=s_zA) h_lk_zA h_cd_zA h_kp_zA
 have I_zA:PySem.W.fnIn K f_zA=true:=by unfold PySem.W.fnIn; rw [h_lk_zA]
 have F_zL:=fun_mk (st:=s_zL) h_lk_zL h_cd_zL h_kp_zL
 have F_zB:=fun_mk (st:=s_zB) h_lk_zB h_cd_zB h_kp_zB
 have F_zE:=fun_mk (st:=s_zE) h_lk_zE h_cd_zE h_kp_zE
 have F_zO:=fun_mk (st:=s_zO) h_lk_zO h_cd_zO h_kp_zO
 have F_zQ:=fun_mk (st:=s_zQ) h_lk_zQ h_cd_zQ h_kp_zQ
 have F_zF:=fun_mk (st:=s_zF) h_lk_zF h_cd_zF h_kp_zF
 have F_zJ:=fun_mk (st:=s_zJ) h_lk_zJ h_cd_zJ h_kp_zJ
 have F_zP:=fun_mk (st:=s_zP) h_lk_zP h_cd_zP h_kp_zP
 have F_zC:=fun_mk (st:=s_zC) h_lk_zC h_cd_zC h_kp_zC
 have F_zG:=fun_mk (st:=s_zG) h_lk_zG h_cd_zG h_kp_zG
 have F_zK:=fun_mk (st:=s_zK) h_lk_zK h_cd_zK h_kp_zK
 have F_zM:=fun_mk (st:=s_zM) h_lk_zM h_cd_zM h_kp_zM
 have F_zN:=fun_mk (st:=s_zN) h_lk_zN h_cd_zN h_kp_zN
 have F_law:=fun_mk (st:=s_law) h_lk_law h_cd_law h_kp_law
 have m_NoJoin:=PySem.W.mg_of X G h_a_NoJoin
 have m_NoMeeting:=PySem.W.mg_of X G h_a_NoMeeting
 have m_SeatsError:=PySem.W.mg_of X G h_a_SeatsError
 have F_x_NoJoin:=fun_mk (st:=s_x_NoJoin) h_lk_x_NoJoin h_cd_x_NoJoin h_kp_x_NoJoin
 have F_x_NoMeeting:=fun_mk (st:=s_x_NoMeeting) h_lk_x_NoMeeting h_cd_x_NoMeeting h_kp_x_NoMeeting
 exact ⟨⟨trivial,PySem.W.mg_none_of X G h_b_abs,PySem.W.mg_none_of X G h_b_any,PySem.W.mg_none_of X G h_b_enumerate,PySem.W.mg_none_of X G h_b_int,PySem.W.mg_none_of X G h_b_len,PySem.W.mg_none_of X G h_b_list,PySem.W.mg_none_of X G h_b_min,PySem.W.mg_none_of X G h_b_range,PySem.W.mg_none_of X G h_b_set,PySem.W.mg_none_of X G h_b_tuple,⟨⟨_,m_Run,k_Run,h_n_Run_rows⟩,True.intro⟩,⟨_,_,m_SeatsError,h_sr_SeatsError,h_sg_SeatsError,h_sf_SeatsError⟩,⟨_,m_NoJoin,(exf_cons ⟨_,m_NoJoin,PySem.W.exm_ref h_cbe_NoJoin h_chd_NoJoin h_cty_NoJoin h_ce_NoJoin_NoJoin⟩ (exf_cons ⟨_,m_NoMeeting,PySem.W.exm_ref h_cbe_NoJoin h_chd_NoJoin h_cty_NoJoin h_ce_NoJoin_NoMeeting⟩ exf_nil))⟩⟩,
  ⟨_,_,PySem.W.mg_of X G h_at_zH,F_zH⟩,
  ⟨_,_,PySem.W.mg_of X G h_at_zR,F_zR⟩,
  ⟨_,_,_,m_Run,⟨h_mk_Run,h_at_zD,h_fn_zD,h_kc_Run⟩,F_zD⟩,
  ⟨_,_,_,m_Run,k_Run,⟨⟨h_at_zI,h_fn_zI,h_kp_zI⟩,I_zI⟩,F_zI⟩,
  ⟨_,_,_,m_Run,k_Run,⟨⟨h_at_zA,h_fn_zA,h_kp_zA⟩,I_zA⟩,F_zA⟩,
  ⟨_,_,PySem.W.mg_of X G h_at_zL,F_zL⟩,
  ⟨_,_,PySem.W.mg_of X G h_at_zB,F_zB⟩,
  ⟨_,_,PySem.W.mg_of X G h_at_zE,F_zE⟩,
  ⟨_,_,PySem.W.mg_of X G h_at_zO,F_zO⟩,
  ⟨_,_,PySem.W.mg_of X G h_at_zQ,F_zQ⟩,
  ⟨_,_,PySem.W.mg_of X G h_at_zF,F_zF⟩,
  ⟨_,_,PySem.W.mg_of X G h_at_zJ,F_zJ⟩,
  ⟨_,_,PySem.W.mg_of X G h_at_zP,F_zP⟩,
  ⟨_,_,PySem.W.mg_of X G h_at_zC,F_zC⟩,
  ⟨_,_,PySem.W.mg_of X G h_at_zG,F_zG⟩,
  ⟨_,_,PySem.W.mg_of X G h_at_zK,F_zK⟩,
  ⟨_,_,PySem.W.mg_of X G h_at_zM,F_zM⟩,
  ⟨_,_,PySem.W.mg_of X G h_at_zN,F_zN⟩,
  ⟨_,_,PySem.W.mg_of X G h_at_law,F_law⟩,
  ⟨_,_,_,m_NoJoin,⟨h_xo_NoJoin,h_xsa_NoJoin,h_xex_NoJoin,h_xty_NoJoin,h_xkc_NoJoin⟩,h_at_x_NoJoin,h_ft_x_NoJoin,F_x_NoJoin⟩,
  ⟨_,_,_,m_NoMeeting,⟨h_xo_NoMeeting,h_xsa_NoMeeting,h_xex_NoMeeting,h_xty_NoMeeting,h_xkc_NoMeeting⟩,h_at_x_NoMeeting,h_ft_x_NoMeeting,h_xnf_NoMeeting,F_x_NoMeeting⟩⟩
theorem txt_of {K:PySem.W.Frag} {h:Heap} {mg:Str→Option Value} (X:K.In h) (G:h.Ns mainGlobals mg) (c:SaysF cks dds ees K):Txt K mg:=by
 have l_zH:=c.dd 0
 have l_zR:=c.dd 1
 have l_zD:=c.dd 2
 have l_zI:=c.dd 3
 have l_zA:=c.dd 4
 have l_zL:=c.dd 5
 have l_zB:=c.dd 6
 have l_zE:=c.dd 7
 have l_zO:=c.dd 8
 have l_zQ:=c.dd 9
 have l_zF:=c.dd 10
 have l_zJ:=c.dd 11
 have l_zP:=c.dd 12
 have l_zC:=c.dd 13
 have l_zG:=c.dd 14
 have l_zK:=c.dd 15
 have l_zM:=c.dd 16
 have l_zN:=c.dd 17
 have l_law:=c.dd 18
 have l_x_NoJoin:=c.dd 19
 have l_x_NoMeeting:=c.dd 20
 exact txt_mkN X G
  (ck_eq (c.ck 0 0))
  (c.ck 0 1)
  (c.ck 0 2)
  (c.ck 0 3)
  (ck_eq (c.ck 0 4))
  (c.ck 0 5)
  (c.ck 0 6)
  (ck_eq (c.ck 0 7))
  (ck_eq (c.ck 0 8))
  (ck_eq (c.ck 0 9))
  (ck_eq (c.ck 0 10))
  (ck_eq (c.ck 0 11))
  (ck_eq (c.ck 0 12))
  (ck_eq (c.ck 0 13))
  (ck_eq (c.ck 0 14))
  (ck_eq (c.ck 0 15))
  (ck_eq (c.ck 0 16))
  (ck_eq (c.ck 0 17))
  (ck_eq (c.ck 0 18))
  l_zH
  (ck_eq (c.ck 0 19))
  l_zR
  (ck_eq (c.ck 0 20))
  (c.ck 0 21)
  l_zD
  (ck_eq (c.ck 0 22))
  (c.ck 0 23)
  l_zI
  (ck_eq (c.ck 0 24))
  (c.ck 0 25)
  l_zA
  (ck_eq (c.ck 0 26))
  l_zL
  (ck_eq (c.ck 0 27))
  l_zB
  (ck_eq (c.ck 0 28))
  l_zE
  (ck_eq (c.ck 0 29))
  l_zO
  (ck_eq (c.ck 1 0))
  l_zQ
  (ck_eq (c.ck 1 1))
  l_zF
  (ck_eq (c.ck 1 2))
  l_zJ
  (ck_eq (c.ck 1 3))
  l_zP
  (ck_eq (c.ck 1 4))
  l_zC
  (ck_eq (c.ck 1 5))
  l_zG
  (ck_eq (c.ck 1 6))
  l_zK
  (ck_eq (c.ck 1 7))
  l_zM
  (ck_eq (c.ck 1 8))
  l_zN
  (ck_eq (c.ck 1 9))
  l_law
  (ck_eq (c.ck 1 10))
  (ck_eq (c.ck 1 11))
  (ck_eq (c.ck 1 12))
  (c.ck 1 13)
  (ck_eq (c.ck 1 14))
  (ckSeI_ok (c.ck 1 15))
  (ck_eq (c.ck 1 16))
  (c.ck 1 17)
  (ck_eq (c.ck 1 18))
  (ck_eq (c.ck 1 19))
  (ck_eq (c.ck 1 20))
  (ck_eq (c.ck 1 21))
  (ck_eq (c.ck 1 22))
  (ck_eq (c.ck 1 23))
  (c.ck 1 24)
  (ck_eq (c.ck 1 25))
  (ck_eq (c.ck 1 26))
  l_x_NoJoin
  (ck_eq (c.ck 1 27))
  (ck_eq (c.ck 1 28))
  (ck_eq (c.ck 1 29))
  (c.ck 2 0)
  (ck_eq (c.ck 2 1))
  (ck_eq (c.ck 2 2))
  (ck_eq (c.ck 2 3))
  l_x_NoMeeting
  (ckX_ok (c.ck 2 4))
  (ckX_ok (c.ck 2 5))
def cellI (ns:List Int) (k:Int):Int:=if k < ns.length then ns.getD k.toNat 0 else 0
theorem e_cell {ns:List Int} {k:Int} (ω:List Cell) (h:0 ≤ k):b_zF (startE N_zF [.scr ns,.int k]) ω=some (.rt (.int (cellI ns k)) ω):=by
 by_cases hk:k < ns.length
 · have e:atI ns k=some (ns.getD k.toNat 0):=atI_some h (by
    have hk':k.toNat < ns.length:=by omega
    simp [hk'])
   unfold b_zF
   simp [startE,seqS,ifS,retS,bindS,tst,bo,uo,op2,op1,view,M.bind,M.pure,vF,vW,asB,ltD,cmpI,lenD,ixD,hk,e,cellI]
 · unfold b_zF
   simp [startE,seqS,ifS,retS,bindS,tst,bo,uo,op2,op1,view,M.bind,M.pure,vF,vW,asB,ltD,cmpI,lenD,ixD,hk,cellI]
theorem c_cell {ns:List Int} {k:Int} (ω:List Cell) (h:0 ≤ k):g_zF [.scr ns,.int k] ω=some (.val (.int (cellI ns k)) ω):=fn_rt rfl (e_cell ω h)
def mixedI (c k:Int):Int:=(((c % 2147483647 + 7919 * k + 104729) ^ 5 % 2147483647 + k) * 40692) % 2147483629
theorem powD_five {i:Int} (h:i.natAbs < 2 ^ 64):powD (.int i) (.int 5)=some (.int (i ^ 5)):=powD_int (j:=5) ⟨by decide,by decide,h⟩
theorem e_mixed {c k:Int} (ω:List Cell) (h:0 ≤ k ∧ k ≤ 1000):b_zJ (startE N_zJ [.int c,.int k]) ω=some (.rt (.int (mixedI c k)) ω):=by
 have h2:(c % 2147483647 + 7919 * k + 104729).natAbs < 2 ^ 64:=by omega
 unfold b_zJ
 simp [startE,seqS,setS,retS,bindS,bo,uo,op2,op1,view,M.bind,M.pure,vF,vW,addD,intD,modD_int,mulD_r,mulD_l,powD_five h2,mixedI]
theorem c_mixed {c k:Int} (ω:List Cell) (h:0 ≤ k ∧ k ≤ 1000):g_zJ [.int c,.int k] ω=some (.val (.int (mixedI c k)) ω):=fn_rt rfl (e_mixed ω h)
def rowGo (c:Int):Nat→Nat→Int→List Int
 | 0,_,_=>[]
 | n + 1,k,rest=>if 0 < rest then rest % 1000 :: rowGo c n (k + 1) (rest / 1000) else mixedI c k % 1000 :: rowGo c n (k + 1) rest
def restI (c:Int):Int:=if 10 ^ 18 ≤ (if c < 0 then -c else c) then (if c < 0 then -c else c) else 0
def rowI (c:Int) (n:Nat):List Int:=rowGo c n 0 (restI c)
theorem rowGo_len (c:Int):∀ n k r,(rowGo c n k r).length=n
 | 0,_,_=>rfl
 | n + 1,k,r=>by unfold rowGo; split <;> simp [rowGo_len c n]
theorem rowGo_bd (c:Int):∀ n k r,∀ x ∈ rowGo c n k r,0 ≤ x ∧ x < 1000
 | 0,_,_,x,h=>by cases h
 | n + 1,k,r,x,h=>by
  unfold rowGo at h
  split at h
  · rcases List.mem_cons.mp h with rfl | h
    · omega
    · exact rowGo_bd c n _ _ x h
  · rcases List.mem_cons.mp h with rfl | h
    · omega
    · exact rowGo_bd c n _ _ x h
theorem rowI_len (c:Int) (n:Nat):(rowI c n).length=n:=rowGo_len c n 0 _
theorem rowI_bd (c:Int) (n:Nat):∀ x ∈ rowI c n,0 ≤ x ∧ x < 1000:=rowGo_bd c n 0 _
abbrev dInts (xs:List Int):D:=.lst (xs.map D.int)
theorem rest_nn (c:Int):0 ≤ restI c:=by
 unfold restI
 split
 · split <;> omega
 · omega
theorem e_row {c:Int} {n:Nat} (ω:List Cell) (h:n ≤ 1000):b_zP g_zJ (startE N_zP [.int c,.int n]) ω=some (.rt (dInts (rowI c n)) ω):=by
 have hp:powD (.int 10) (.int 18)=some (.int (10 ^ 18)):=powD_int (j:=18) ⟨by decide,by decide,by decide⟩
 obtain ⟨ρ',ω',e,k,rest,acc,he,rfl,hr⟩:=forGo_thru (T:=nmT 4) (F:=lb_zP_1 g_zJ)
  (fun i ρ ω'=>∃ (k:Sl) (rest:Int) (acc:List Int),ρ=[.fz (.int c),.fz (.int n),.fz (.int rest),.ow (acc.map D.int),k] ∧ ω'=ω ∧ acc ++ rowGo c (n - i) i rest=rowI c n ∧ acc.length=i ∧ 0 ≤ rest)
  (items:=rangeD 0 n) (ρ:=[.fz (.int c),.fz (.int n),.fz (.int (restI c)),.ow [],.no]) (ω:=ω) ⟨.no,restI c,[],rfl,rfl,rfl,rfl,rest_nn c⟩ (by
   rintro j d ρ ω' hd ⟨k,rest,acc,rfl,rfl,hr,hl,h0⟩
   obtain ⟨hj,rfl⟩:=rangeD_get hd
   have hz:acc.length < sizeLine:=by rw [sizeLine_eq]; omega
   have en:n - j=(n - (j + 1)) + 1:=by omega
   rw [en] at hr
   unfold rowGo at hr
   by_cases hrest:0 < rest
   · rw [if_pos hrest] at hr
     refine ⟨_,_,_,rfl,?_,.fz (.int (0 + j)),rest / 1000,acc ++ [rest % 1000],rfl,rfl,by simpa using hr,by simp [hl],by omega⟩
     simp [lb_zP_1,ifM,bindS,tst,asB,bo,uo,op2,op1,view,M.bind,M.pure,vF,vW,gtD,cmpI,hrest,seqS,setS,appS,intD,modD_int,fdivD_r,hz]
   · rw [if_neg hrest] at hr
     have hr0:rest=0:=by omega
     subst hr0
     refine ⟨_,_,_,rfl,?_,.fz (.int (0 + j)),0,acc ++ [mixedI c j % 1000],rfl,rfl,by simpa using hr,by simp [hl],by omega⟩
     have hc:=c_mixed (c:=c) (k:=j) ω' ⟨by omega,by omega⟩
     simp [lb_zP_1,ifM,bindS,tst,asB,bo,uo,op2,op1,view,M.bind,M.pure,vF,vW,gtD,cmpI,seqS,setS,appS,intD,modD_int,fdivD_r,hz,calM,consM,callM,hc])
 have hn:((rangeD 0 n).length)=n:=by simp [rangeD]
 rw [hn] at hr
 have hacc:acc=rowI c n:=by
  have:=hr.1
  simpa [rowGo] using this
 subst hacc
 have h62:n ≤ 16777216:=by omega
 have e2:(setS 2 (ifM (tst (bo geD (uo absD (vW 0)) (bo powD (M.pure (.int 10)) (M.pure (.int 18))))) (uo absD (vW 0)) (M.pure (.int 0)))) [.fz (.int c),.fz (.int n),.no,.no,.no] ω'=some (.nx [.fz (.int c),.fz (.int n),.fz (.int (restI c)),.no,.no] ω'):=by
  by_cases hc:10 ^ 18 ≤ (if c < 0 then -c else c)
  · have er:restI c=(if c < 0 then -c else c):=by unfold restI; rw [if_pos hc]
    rw [er]
    have t:(tst (bo geD (uo absD (vW 0)) (bo powD (M.pure (.int 10)) (M.pure (.int 18))))) [.fz (.int c),.fz (.int n),.no,.no,.no] ω'=some (.val true ω'):=by
     simp only [tst,asB,bo,uo,op2,op1,view,M.bind,M.pure,vW,geD,cmpI,absD,hp,List.getElem?_cons_zero]
     rw [decide_eq_true hc]
    exact setS_ev (y_ifT t rfl rfl)
  · have er:restI c=0:=by unfold restI; rw [if_neg hc]
    rw [er]
    have t:(tst (bo geD (uo absD (vW 0)) (bo powD (M.pure (.int 10)) (M.pure (.int 18))))) [.fz (.int c),.fz (.int n),.no,.no,.no] ω'=some (.val false ω'):=by
     simp only [tst,asB,bo,uo,op2,op1,view,M.bind,M.pure,vW,geD,cmpI,absD,hp,List.getElem?_cons_zero]
     rw [decide_eq_false hc]
    exact setS_ev (y_ifF t rfl rfl)
 unfold b_zP
 rw [show startE N_zP [.int c,.int n]=[.fz (.int c),.fz (.int n),.no,.no,.no] from rfl,seqS_nx e2,seqS_nx (ρ':=[.fz (.int c),.fz (.int n),.fz (.int (restI c)),.ow [],.no]) (ω':=ω') (by rfl),seqS_nx (forS_nx (bind_ev (show (vF 1) _ ω'=some (.val (.int n) ω') from rfl) |>.trans (rng1_nat h62)) e),he]
 rfl
theorem c_row {c:Int} {n:Nat} (ω:List Cell) (h:n ≤ 1000):g_zP [.int c,.int n] ω=some (.val (dInts (rowI c n)) ω):=fn_rt rfl (e_row ω h)
mutual
def cn:D→Bool
 | .int _=>true
 | .str _=>true
 | .non=>true
 | .tup xs=>cnL xs
 | .lst xs=>cnL xs
 | _=>false
def cnL:List D→Bool
 | []=>true
 | d :: ds=>cn d && cnL ds
end
mutual
theorem eqb_cn:∀ (d e:D),cn d=true→cn e=true→eqb d e=true→d=e
 | .int i,.int j,_,_,q=>by have q':(i == j)=true:=q; rw [eq_of_beq q']
 | .str i,.str j,_,_,q=>by have q':(i == j)=true:=q; rw [eq_of_beq q']
 | .non,.non,_,_,_=>rfl
 | .tup xs,.tup ys,h,k,q=>by rw [eqbL_cn xs ys h k q]
 | .lst xs,.lst ys,h,k,q=>by rw [eqbL_cn xs ys h k q]
 | .int _,.str _,_,_,q=>by cases q
 | .int _,.non,_,_,q=>by cases q
 | .int _,.tup _,_,_,q=>by cases q
 | .int _,.lst _,_,_,q=>by cases q
 | .str _,.int _,_,_,q=>by cases q
 | .str _,.non,_,_,q=>by cases q
 | .str _,.tup _,_,_,q=>by cases q
 | .str _,.lst _,_,_,q=>by cases q
 | .non,.int _,_,_,q=>by cases q
 | .non,.str _,_,_,q=>by cases q
 | .non,.tup _,_,_,q=>by cases q
 | .non,.lst _,_,_,q=>by cases q
 | .tup _,.int _,_,_,q=>by cases q
 | .tup _,.str _,_,_,q=>by cases q
 | .tup _,.non,_,_,q=>by cases q
 | .tup _,.lst _,_,_,q=>by cases q
 | .lst _,.int _,_,_,q=>by cases q
 | .lst _,.str _,_,_,q=>by cases q
 | .lst _,.non,_,_,q=>by cases q
 | .lst _,.tup _,_,_,q=>by cases q
 | .bl _,_,h,_,_=>by cases h
 | .dic _,_,h,_,_=>by cases h
 | .obj _ _,_,h,_,_=>by cases h
 | .oid _,_,h,_,_=>by cases h
 | .scr _,_,h,_,_=>by cases h
 | .exc _ _,_,h,_,_=>by cases h
 | _,.bl _,_,h,_=>by cases h
 | _,.dic _,_,h,_=>by cases h
 | _,.obj _ _,_,h,_=>by cases h
 | _,.oid _,_,h,_=>by cases h
 | _,.scr _,_,h,_=>by cases h
 | _,.exc _ _,_,h,_=>by cases h
theorem eqbL_cn:∀ (ds es:List D),cnL ds=true→cnL es=true→eqbL ds es=true→ds=es
 | [],[],_,_,_=>rfl
 | [],_ :: _,_,_,q=>by cases q
 | _ :: _,[],_,_,q=>by cases q
 | d :: ds,e :: es,h,k,q=>by
  simp only [cnL,Bool.and_eq_true] at h k
  have q':(eqb d e && eqbL ds es)=true:=q
  rw [Bool.and_eq_true] at q'
  rw [eqb_cn d e h.1 k.1 q'.1,eqbL_cn ds es h.2 k.2 q'.2]
end
abbrev Pj:=Int × Int × Int × D
abbrev Mj:=D × List Pj
abbrev pjD (p:Pj):D:=.tup [.int p.1,.int p.2.1,.int p.2.2.1,p.2.2.2]
abbrev jD (m:Mj):D:=.tup [m.1,.tup (m.2.map pjD)]
def okJ (d:D):Prop:=cn d=true ∧ DL.plain d=true ∧ dep d ≤ 1
structure MjOk (m:Mj):Prop where
 ch:okJ m.1
 w:∀ p ∈ m.2,okJ p.2.2.2
 few:m.2.length ≤ 8
theorem cnL_of {α:Type} (f:α→D):∀ xs:List α,(∀ x ∈ xs,cn (f x)=true)→cnL (xs.map f)=true
 | [],_=>rfl
 | x :: xs,h=>by
  simp only [List.map_cons,cnL,Bool.and_eq_true]
  exact ⟨h x List.mem_cons_self,cnL_of f xs fun y hy=>h y (List.mem_cons_of_mem _ hy)⟩
theorem plJ_of {α:Type} (f:α→D) (n:Nat):∀ xs:List α,(∀ x ∈ xs,DL.plain (f x)=true ∧ dep (f x) ≤ n)→plainL (xs.map f)=true ∧ depL (xs.map f) ≤ n
 | [],_=>⟨rfl,Nat.zero_le _⟩
 | x :: xs,h=>by
  obtain ⟨h1,h2⟩:=h x List.mem_cons_self
  obtain ⟨h3,h4⟩:=plJ_of f n xs fun y hy=>h y (List.mem_cons_of_mem _ hy)
  simp only [List.map_cons,plainL,depL,h1,h3,Bool.and_true]
  exact ⟨trivial,Nat.max_le.mpr ⟨h2,h4⟩⟩
theorem pj_ok {p:Pj} (h:okJ p.2.2.2):cn (pjD p)=true ∧ DL.plain (pjD p)=true ∧ dep (pjD p) ≤ 2:=by
 obtain ⟨h1,h2,h3⟩:=h
 refine ⟨by simp [cn,cnL,h1],by simp [DL.plain,plainL,h2],?_⟩
 simp only [dep,depL]
 omega
theorem MjOk.ok {m:Mj} (h:MjOk m):cn (jD m)=true ∧ DL.plain (jD m)=true ∧ dep (jD m) ≤ 4:=by
 obtain ⟨h1,h2,h3⟩:=h.ch
 have e1:=cnL_of pjD m.2 fun p hp=>(pj_ok (h.w p hp)).1
 obtain ⟨e2,e3⟩:=plJ_of pjD 2 m.2 fun p hp=>(pj_ok (h.w p hp)).2
 refine ⟨by simp [cn,cnL,h1,e1],by simp [DL.plain,plainL,h2,e2],?_⟩
 simp only [dep,depL]
 omega
theorem MjOk.fine {m:Mj} (h:MjOk m):fine (jD m)=true:=fine_iff.mpr ⟨h.ok.2.1,by have:=h.ok.2.2; omega⟩
theorem fine_js {l:List Mj} (h:∀ m ∈ l,MjOk m):fine (.lst (l.map jD))=true:=by
 obtain ⟨e1,e2⟩:=plJ_of jD 4 l fun m hm=>(h m hm).ok.2
 refine fine_iff.mpr ⟨e1,?_⟩
 simp only [dep]
 omega
theorem pj_inj {p q:Pj} (h:pjD p=pjD q):p=q:=by
 obtain ⟨a,b,c,d⟩:=p
 obtain ⟨a',b',c',d'⟩:=q
 injection h with h
 injection h with h1 h
 injection h with h2 h
 injection h with h3 h
 injection h with h4 _
 cases h1; cases h2; cases h3
 simp only at h4
 rw [h4]
theorem map_inj {α β:Type} {f:α→β} (hf:∀ x y,f x=f y→x=y):∀ {xs ys:List α},xs.map f=ys.map f→xs=ys
 | [],[],_=>rfl
 | [],_ :: _,h=>by cases h
 | _ :: _,[],h=>by cases h
 | x :: xs,y :: ys,h=>by
  injection h with h1 h2
  rw [hf x y h1,map_inj hf h2]
theorem j_inj {m n:Mj} (h:jD m=jD n):m=n:=by
 obtain ⟨c,ps⟩:=m
 obtain ⟨c',ps'⟩:=n
 injection h with h
 injection h with h1 h
 injection h with h2 _
 injection h2 with h2
 simp only at h1 h2
 rw [h1,map_inj (fun _ _=>pj_inj) h2]
noncomputable instance:DecidableEq Mj:=fun _ _=>Classical.propDecidable _
theorem eqb_j {m n:Mj} (h:MjOk m) (k:MjOk n):eqb (jD m) (jD n)=decide (m=n):=by
 by_cases e:m=n
 · subst e
   rw [decide_eq_true rfl]
   exact eqb_refl _ h.ok.2.1
 · rw [decide_eq_false e]
   cases q:eqb (jD m) (jD n) with
   | false=>rfl
   | true=>exact absurd (j_inj (eqb_cn _ _ h.ok.1 k.ok.1 q)) e
theorem neD_j {m n:Mj} (h:MjOk m) (k:MjOk n):neD (jD m) (jD n)=some (.bl (!decide (m=n))):=by
 rw [neD_fine h.fine k.fine,eqb_j h k]
theorem notIn_j {m:Mj} {l:List Mj} (h:MjOk m) (k:∀ n ∈ l,MjOk n):notInD (jD m) (.lst (l.map jD))=some (.bl (!decide (m ∈ l))):=by
 have e:((l.map jD).any fun z=>eqb z (jD m))=decide (m ∈ l):=by
  rw [Bool.eq_iff_iff,List.any_eq_true,decide_eq_true_eq]
  constructor
  · rintro ⟨z,hz,q⟩
    obtain ⟨n,hn,rfl⟩:=List.mem_map.mp hz
    rw [eqb_j (k n hn) h,decide_eq_true_eq] at q
    exact q ▸ hn
  · intro hm
    exact ⟨jD m,List.mem_map.mpr ⟨m,hm,rfl⟩,by rw [eqb_j h h]; exact decide_eq_true rfl⟩
 have f2:=fine_js k
 unfold notInD inB
 simp only [h.fine,f2,Bool.and_self,if_true,e]
 rfl
structure LogsAt (ω:List Cell) (k:Nat) (es:List D) (logs:List (List Mj)):Prop where
 at_:ω[k]?=some (.lst es)
 len:es.length=logs.length
 log:∀ (i:Nat) (l:List Mj),logs[i]?=some l→∃ j,es[i]?=some (.oid j) ∧ ω[j]?=some (.lst (l.map jD))
 ok:∀ l ∈ logs,∀ m ∈ l,MjOk m
 few:logs.length ≤ 10
 short:∀ l ∈ logs,l.length ≤ 100
theorem LogsAt.up {ω:List Cell} {k:Nat} {es:List D} {logs:List (List Mj)} (L:LogsAt ω k es logs) (cs:List Cell):LogsAt (ω ++ cs) k es logs:=by
 have up:∀ (i:Nat) (c:Cell),ω[i]?=some c→(ω ++ cs)[i]?=some c:=fun i c e=>by
  rw [List.getElem?_append_left (List.getElem?_eq_some_iff.mp e).1]; exact e
 exact ⟨up _ _ L.at_,L.len,fun i l e=>by
  obtain ⟨j,h1,h2⟩:=L.log i l e
  exact ⟨j,h1,up _ _ h2⟩,L.ok,L.few,L.short⟩
def logOk (i:Nat) (l:List Mj):Bool:=(List.range l.length).all fun t=>(l.getD t (.non,[])).2.any fun p=>decide (p.1=(i:Int)) && decide (p.2.1=(t:Int))
noncomputable def partOk (logs:List (List Mj)) (m:Mj) (p:Pj):Bool :=
 decide (0 ≤ p.1) && decide (p.1 < (logs.length:Nat)) && decide (0 ≤ p.2.1) && decide (p.2.1 ≤ ((logs.getD p.1.toNat []).length:Nat)) &&
  (decide (((logs.getD p.1.toNat []).length:Int) ≤ p.2.1) || (match (logs.getD p.1.toNat [])[p.2.1.toNat]? with | some n=>decide (n=m) | none=>false))
noncomputable def meetOk (logs:List (List Mj)) (m:Mj):Bool:=decide ((m.2.map Prod.fst).Nodup) && m.2.all (partOk logs m)
noncomputable def addM (found:List Mj) (m:Mj):List Mj:=if m ∈ found then found else found ++ [m]
noncomputable def allM (logs:List (List Mj)):List Mj:=logs.flatten.foldl addM []
def takenM (ms:List Mj):List (List Int):=ms.flatMap fun m=>m.2.map fun p=>[p.1,p.2.1]
def turnJ:List Pj→Int→Option Int
 | [],_=>none
 | p :: ps,k=>if p.1=k then some p.2.1 else turnJ ps k
def readyJ (m:Mj) (left:List Mj):Bool:=!(left.any fun o=>o.2.any fun p=>match turnJ m.2 p.1 with
 | some t=>decide (p.2.1 < t)
 | none=>false)
inductive JoinR:List Mj→List Mj→Option (List Mj)→Prop
 | done (rows:List Mj):JoinR [] rows (some rows)
 | stuck (left rows:List Mj):left ≠ []→(left.filter fun m=>readyJ m left)=[]→JoinR left rows none
 | step (left rows:List Mj) (l:Mj) (res:Option (List Mj)):left ≠ []→l ∈ left→(left.filter fun m=>readyJ m left) ≠ []→minGD (.lst ((left.filter fun m=>readyJ m left).map jD))=some (jD l) →
   JoinR (left.filter fun m=>!decide (m=l)) (rows ++ [l]) res→JoinR left rows res
theorem forXGo_scan {T:TT1} {F:MS} {nx:NX} {ω:List Cell} {n:Nat} {ok:Nat→Bool} {x:Exc} (P:Nat→Rho→Prop) (hn:n < 90000) (stop:nx n ω=some none)
  (step:∀ i ρ,i < n→P i ρ→∃ d ρ1,nx i ω=some (some d) ∧ T d ρ ω=some ρ1 ∧ ((ok i=true ∧ ∃ ρ2,F ρ1 ω=some (.nx ρ2 ω) ∧ P (i + 1) ρ2) ∨ (ok i=false ∧ ∃ ρ2,F ρ1 ω=some (.exc x ρ2 ω)))) {ρ:Rho} (h:P 0 ρ) :
  (((List.range n).all ok=true) ∧ ∃ ρ',forXGo nx T F 100000 0 ρ ω=some (.nx ρ' ω) ∧ P n ρ') ∨ (((List.range n).all ok=false) ∧ ∃ ρ',forXGo nx T F 100000 0 ρ ω=some (.exc x ρ' ω)):=by
 have:∀ (k i:Nat) (ρ:Rho),i + k=n→P i ρ→∀ m,k < m→(((List.range' i k).all ok=true) ∧ ∃ ρ',forXGo nx T F m i ρ ω=some (.nx ρ' ω) ∧ P n ρ') ∨ (((List.range' i k).all ok=false) ∧ ∃ ρ',forXGo nx T F m i ρ ω=some (.exc x ρ' ω)):=by
  intro k
  induction k with
  | zero =>
   intro i ρ e p m hm
   obtain ⟨m,rfl⟩:∃ m',m=m' + 1:=⟨m - 1,by omega⟩
   have ei:i=n:=by omega
   subst ei
   refine .inl ⟨rfl,ρ,?_,p⟩
   unfold forXGo
   rw [stop]
  | succ k ih =>
   intro i ρ e p m hm
   obtain ⟨m,rfl⟩:∃ m',m=m' + 1:=⟨m - 1,by omega⟩
   obtain ⟨d,ρ1,h1,h2,h3⟩:=step i ρ (by omega) p
   rw [List.range'_succ,List.all_cons]
   rcases h3 with ⟨o,ρ2,h3,h4⟩ | ⟨o,ρ2,h3⟩
   · rw [o,Bool.true_and]
     have e1:∀ r,forXGo nx T F m (i + 1) ρ2 ω=r→forXGo nx T F (m + 1) i ρ ω=r:=fun r q=>by
      unfold forXGo
      rw [h1]
      simp only [h2,h3]
      exact q
     rcases ih (i + 1) ρ2 (by omega) h4 m (by omega) with ⟨a,ρ',b,c⟩ | ⟨a,ρ',b⟩
     · exact .inl ⟨a,ρ',e1 _ b,c⟩
     · exact .inr ⟨a,ρ',e1 _ b⟩
   · rw [o,Bool.false_and]
     refine .inr ⟨rfl,ρ2,?_⟩
     unfold forXGo
     rw [h1]
     simp only [h2,h3]
 rw [List.range_eq_range']
 exact this n 0 ρ (by omega) h 100000 (by omega)
theorem forGo_scan {T:TT1} {F:MS} {items:List D} {ω:List Cell} {ok:Nat→Bool} {x:Exc} (P:Nat→Rho→Prop)
  (step:∀ i d ρ,items[i]?=some d→P i ρ→∃ ρ1,T d ρ ω=some ρ1 ∧ ((ok i=true ∧ ∃ ρ2,F ρ1 ω=some (.nx ρ2 ω) ∧ P (i + 1) ρ2) ∨ (ok i=false ∧ ∃ ρ2,F ρ1 ω=some (.exc x ρ2 ω)))) {ρ:Rho} (h:P 0 ρ) :
  (((List.range items.length).all ok=true) ∧ ∃ ρ',forGo T F items ρ ω=some (.nx ρ' ω) ∧ P items.length ρ') ∨ (((List.range items.length).all ok=false) ∧ ∃ ρ',forGo T F items ρ ω=some (.exc x ρ' ω)):=by
 have:∀ (l pre:List D) (ρ:Rho),items=pre ++ l→P pre.length ρ→(((List.range' pre.length l.length).all ok=true) ∧ ∃ ρ',forGo T F l ρ ω=some (.nx ρ' ω) ∧ P items.length ρ') ∨ (((List.range' pre.length l.length).all ok=false) ∧ ∃ ρ',forGo T F l ρ ω=some (.exc x ρ' ω)):=by
  intro l
  induction l with
  | nil =>
   intro pre ρ e p
   rw [List.append_nil] at e
   subst e
   exact .inl ⟨rfl,ρ,rfl,p⟩
  | cons d l ih =>
   intro pre ρ e p
   obtain ⟨ρ1,h2,h3⟩:=step pre.length d ρ (by rw [e,List.getElem?_append_right (Nat.le_refl _),Nat.sub_self]; rfl) p
   rw [List.length_cons,List.range'_succ,List.all_cons]
   rcases h3 with ⟨o,ρ2,h3,h4⟩ | ⟨o,ρ2,h3⟩
   · rw [o,Bool.true_and]
     have e1:∀ r,forGo T F l ρ2 ω=r→forGo T F (d :: l) ρ ω=r:=fun r q=>by
      unfold forGo
      simp only [h2,h3]
      exact q
     have:=ih (pre ++ [d]) ρ2 (by rw [e]; simp) (by rw [List.length_append,List.length_singleton]; exact h4)
     rw [List.length_append,List.length_singleton] at this
     rcases this with ⟨a,ρ',b,c⟩ | ⟨a,ρ',b⟩
     · exact .inl ⟨a,ρ',e1 _ b,c⟩
     · exact .inr ⟨a,ρ',e1 _ b⟩
   · rw [o,Bool.false_and]
     refine .inr ⟨rfl,ρ2,?_⟩
     unfold forGo
     simp only [h2,h3]
 rw [List.range_eq_range']
 exact this items [] ρ rfl h
theorem lcM_grow {α:Type} {vs:List Nat} {src:M (List D)} {T:TT1} {t:M Bool} {f:M D} {ρ:Rho} {ω ω1:List Cell} {xs:List α} (enc:α→D) (p:α→Bool) (h:α→D) (hsrc:src ρ ω=some (.val (xs.map enc) ω1)) (hz:xs.length ≤ sizeLine)
  (hs:∀ x ∈ xs,∀ cs:List Cell,∃ ρ1 cs',T (enc x) (wipeE ρ vs) (ω1 ++ cs)=some ρ1 ∧ t ρ1 (ω1 ++ cs)=some (.val (p x) (ω1 ++ cs')) ∧ (p x=true→f ρ1 (ω1 ++ cs')=some (.val (h x) (ω1 ++ cs')))) :
  ∃ cs,lcM vs src T t f ρ ω=some (.val ((xs.filter p).map h) (ω1 ++ cs)):=by
 have:∀ (l pre:List α),xs=pre ++ l→∀ (acc:List D) (cs:List Cell),acc.length + l.length ≤ sizeLine→∃ cs',lcGo vs T t f ρ (l.map enc) acc (ω1 ++ cs)=some (acc ++ (l.filter p).map h,ω1 ++ cs'):=by
  intro l
  induction l with
  | nil=>intro pre _ acc cs _; exact ⟨cs,by simp [lcGo]⟩
  | cons x l ih =>
   intro pre e acc cs hl
   obtain ⟨ρ1,cs',h1,h2,h3⟩:=hs x (by rw [e]; simp) cs
   rw [List.length_cons] at hl
   rw [List.map_cons]
   unfold lcGo
   cases q:p x with
   | true =>
    have h3:=h3 q
    rw [q] at h2
    simp only [h1,h2,h3,if_pos (show acc.length < sizeLine by omega)]
    obtain ⟨c2,e2⟩:=ih (pre ++ [x]) (by rw [e]; simp) (acc ++ [h x]) cs' (by rw [List.length_append,List.length_singleton]; omega)
    exact ⟨c2,by rw [e2,List.filter_cons_of_pos q]; simp⟩
   | false =>
    rw [q] at h2
    simp only [h1,h2]
    obtain ⟨c2,e2⟩:=ih (pre ++ [x]) (by rw [e]; simp) acc cs' (by omega)
    exact ⟨c2,by rw [e2,List.filter_cons_of_neg (by rw [q]; exact Bool.false_ne_true)]⟩
 obtain ⟨cs,e⟩:=this xs [] rfl [] [] (by simpa using hz)
 rw [List.append_nil] at e
 refine ⟨cs,?_⟩
 unfold lcM
 refine y_bind hsrc ?_
 simp only [e,List.nil_append]
theorem lc2M_L {α β:Type} {vs vs1:List Nat} {T T1:TT1} {src src1:M NX} {f:M D} {ρ:Rho} {ω:List Cell} {xs:List α} (enc:α→D) (ys:α→List β) (enc1:β→D) (h:α→β→D) (ρx:α→Rho)
  (hsrc:src ρ ω=some (.val (nxL (xs.map enc)) ω)) (hT:∀ x ∈ xs,T (enc x) (wipeE ρ vs) ω=some (ρx x)) (hs1:∀ x ∈ xs,src1 (ρx x) ω=some (.val (nxL ((ys x).map enc1)) ω))
  (hy:∀ x ∈ xs,∀ y ∈ ys x,∃ ρ3,T1 (enc1 y) (wipeE (ρx x) vs1) ω=some ρ3 ∧ f ρ3 ω=some (.val (h x y) ω)) (hl:xs.length < 10000) (hk:∀ x ∈ xs,(ys x).length < 10000) (hz:(xs.flatMap fun x=>(ys x).map (h x)).length ≤ 100000) :
  lc2M vs vs1 T (M.pure true) src1 T1 (M.pure true) f src ρ ω=some (.val (xs.flatMap fun x=>(ys x).map (h x)) ω):=by
 have inner:∀ x ∈ xs,∀ (l pre:List β),ys x=pre ++ l→∀ (acc:List D) (fuel:Nat),l.length < fuel→acc.length + l.length ≤ 100000→lc2J vs1 T1 (M.pure true) f (nxL ((ys x).map enc1)) (ρx x) fuel pre.length acc ω=some (acc ++ l.map (h x),ω):=by
  intro x hx l
  induction l with
  | nil =>
   intro pre e acc fuel hf _
   obtain ⟨fuel,rfl⟩:∃ m,fuel=m + 1:=⟨fuel - 1,by simp at hf; omega⟩
   unfold lc2J
   have e0:nxL ((ys x).map enc1) pre.length ω=some none:=by
    unfold nxL
    rw [List.getElem?_eq_none (by rw [List.length_map,e]; simp)]
   simp only [e0,List.map_nil,List.append_nil]
  | cons y l ih =>
   intro pre e acc fuel hf hz2
   obtain ⟨fuel,rfl⟩:∃ m,fuel=m + 1:=⟨fuel - 1,by rw [List.length_cons] at hf; omega⟩
   rw [List.length_cons] at hf hz2
   obtain ⟨ρ3,k1,k2⟩:=hy x hx y (by rw [e]; simp)
   have e0:nxL ((ys x).map enc1) pre.length ω=some (some (enc1 y)):=by
    unfold nxL
    rw [List.getElem?_map,e,List.getElem?_append_right (Nat.le_refl _),Nat.sub_self]
    rfl
   have t1:(M.pure true:M Bool) ρ3 ω=some (.val true ω):=rfl
   unfold lc2J
   simp only [e0,k1,t1,k2,if_pos (show acc.length < sizeLine by rw [sizeLine_eq]; omega)]
   have:=ih (pre ++ [y]) (by rw [e]; simp) (acc ++ [h x y]) fuel (by omega) (by rw [List.length_append,List.length_singleton]; omega)
   rw [List.length_append,List.length_singleton] at this
   rw [this,List.map_cons,List.append_assoc]
   rfl
 have outer:∀ (l pre:List α),xs=pre ++ l→∀ (acc:List D) (fuel:Nat),l.length < fuel→acc.length + (l.flatMap fun x=>(ys x).map (h x)).length ≤ 100000→lc2I vs vs1 T (M.pure true) src1 T1 (M.pure true) f (nxL (xs.map enc)) ρ fuel pre.length acc ω=some (acc ++ l.flatMap (fun x=>(ys x).map (h x)),ω):=by
  intro l
  induction l with
  | nil =>
   intro pre e acc fuel hf _
   obtain ⟨fuel,rfl⟩:∃ m,fuel=m + 1:=⟨fuel - 1,by simp at hf; omega⟩
   unfold lc2I
   have e0:nxL (xs.map enc) pre.length ω=some none:=by
    unfold nxL
    rw [List.getElem?_eq_none (by rw [List.length_map,e]; simp)]
   simp only [e0,List.flatMap_nil,List.append_nil]
  | cons x l ih =>
   intro pre e acc fuel hf hz2
   obtain ⟨fuel,rfl⟩:∃ m,fuel=m + 1:=⟨fuel - 1,by rw [List.length_cons] at hf; omega⟩
   rw [List.flatMap_cons,List.length_append,List.length_map] at hz2
   rw [List.length_cons] at hf
   have hx:x ∈ xs:=by rw [e]; simp
   have e0:nxL (xs.map enc) pre.length ω=some (some (enc x)):=by
    unfold nxL
    rw [List.getElem?_map,e,List.getElem?_append_right (Nat.le_refl _),Nat.sub_self]
    rfl
   have t1:(M.pure true:M Bool) (ρx x) ω=some (.val true ω):=rfl
   have k2:=inner x hx (ys x) [] rfl acc 100000 (by have:=hk x hx; omega) (by omega)
   rw [List.length_nil] at k2
   unfold lc2I
   simp only [e0,hT x hx,t1,hs1 x hx,k2]
   have:=ih (pre ++ [x]) (by rw [e]; simp) (acc ++ (ys x).map (h x)) fuel (by omega) (by rw [List.length_append,List.length_map]; omega)
   rw [List.length_append,List.length_singleton] at this
   rw [this,List.flatMap_cons,List.append_assoc]
 have:=outer xs [] rfl [] 100000 (by omega) (by simpa using hz)
 rw [List.length_nil,List.nil_append] at this
 unfold lc2M
 rw [hsrc]
 simp only [this]
theorem putKD_new {kvs:List (Key × D)} {k:Key} {v:D} (h:k ∉ kvs.map (·.1)):putKD kvs k v=kvs ++ [(k,v)]:=by
 unfold putKD
 rw [if_neg]
 intro z
 obtain ⟨p,hp,e⟩:=List.any_eq_true.mp z
 exact h (by rw [← of_decide_eq_true e]; exact List.mem_map_of_mem hp)
theorem dcM_at {α:Type} {vs:List Nat} {src:M (List D)} {T:TT1} {fk fv:M D} {ρ:Rho} {ω ω1:List Cell} (xs:List α) (enc:α→D) (key:α→Key) (val:α→D) (hsrc:src ρ ω=some (.val (xs.map enc) ω1)) (hz:xs.length < 1000) (nd:(xs.map key).Nodup)
  (hs:∀ x ∈ xs,∃ ρ2 dk,T (enc x) (wipeE ρ vs) ω1=some ρ2 ∧ fk ρ2 ω1=some (.val dk ω1) ∧ keyD dk=some (key x) ∧ fv ρ2 ω1=some (.val (val x) ω1)) :
  dcM vs src T (M.pure true) fk fv ρ ω=some (.val (.oid ω1.length) (ω1 ++ [Cell.dic (xs.map fun x=>(key x,val x))])):=by
 have go:∀ (ys zs:List α),xs=zs ++ ys→dcGo vs T (M.pure true) fk fv ρ (ys.map enc) (zs.map fun x=>(key x,val x)) ω1=some (xs.map (fun x=>(key x,val x)),ω1):=by
  intro ys
  induction ys with
  | nil=>intro zs e; rw [e,List.append_nil]; rfl
  | cons y ys ih =>
   intro zs e
   obtain ⟨ρ2,dk,h1,h2,h3,h4⟩:=hs y (by rw [e]; simp)
   have hl:(zs.map fun x=>(key x,val x)).length < 1000:=by
    rw [List.length_map]
    have:=congrArg List.length e
    simp at this; omega
   have hn:key y ∉ (zs.map fun x=>(key x,val x)).map (·.1):=by
    rw [List.map_map]
    intro z
    rw [e,List.map_append,List.map_cons] at nd
    have:=(List.nodup_append.mp nd).2.2
    obtain ⟨q,hq,eq⟩:=List.mem_map.mp z
    exact this (key q) (List.mem_map_of_mem hq) (key y) (by simp) eq
   rw [List.map_cons]
   unfold dcGo
   simp only [h1,M.pure,h2,h4,h3]
   rw [if_pos hl,putKD_new hn]
   have:=ih (zs ++ [y]) (by rw [e,List.append_assoc]; rfl)
   rw [List.map_append] at this
   exact this
 unfold dcM
 rw [bind_ev hsrc]
 have:=go xs [] rfl
 rw [List.map_nil] at this
 simp only [this]
theorem nodup_leJ:∀ {l m:List Int},l.Nodup→(∀ x ∈ l,x ∈ m)→l.length ≤ m.length
 | [],m,_,_=>Nat.zero_le _
 | x :: l,m,h,hs=>by
  obtain ⟨h1,h2⟩:=List.nodup_cons.mp h
  have hx:=hs x (List.mem_cons_self ..)
  have ih:=nodup_leJ (m:=m.erase x) h2 fun y hy=>(List.mem_erase_of_ne (fun e=>h1 (by rw [← e]; exact hy))).mpr (hs y (List.mem_cons_of_mem _ hy))
  rw [List.length_erase_of_mem hx] at ih
  have:0 < m.length:=List.length_pos_of_mem hx
  rw [List.length_cons]
  omega
theorem upI_ndJ (ns:List Int):decide (((upI ns).length:Int)=(ns.length:Nat))=decide ns.Nodup:=by
 have n1:(upI ns).Nodup:=(upI_pw ns).imp fun h=>by omega
 have h1:=nodup_leJ n1 fun x hx=>upI_mem.mp hx
 by_cases h:ns.Nodup
 · have h2:=nodup_leJ h fun x hx=>upI_mem.mpr hx
   rw [decide_eq_true h,decide_eq_true (by omega)]
 · have:(upI ns).length < ns.length:=by
    have dup:∀ l:List Int,¬ l.Nodup→∃ l':List Int,l'.length < l.length ∧ ∀ x ∈ l,x ∈ l':=by
     intro l
     induction l with
     | nil=>intro h; exact absurd List.nodup_nil h
     | cons y r ih =>
      intro h
      by_cases hy:y ∈ r
      · exact ⟨r,by simp,fun x hx=>(List.mem_cons.mp hx).elim (fun e=>e ▸ hy) id⟩
      · obtain ⟨l',h1,h2⟩:=ih fun z=>h (List.nodup_cons.mpr ⟨hy,z⟩)
        exact ⟨y :: l',by simp only [List.length_cons]; omega,fun x hx=>(List.mem_cons.mp hx).elim (fun e=>e ▸ List.mem_cons_self ..) fun z=>List.mem_cons_of_mem _ (h2 x z)⟩
    obtain ⟨l',h2,h3⟩:=dup ns h
    have:=nodup_leJ n1 fun x hx=>h3 x (upI_mem.mp hx)
    omega
   rw [decide_eq_false h,decide_eq_false (by omega)]
def noJ:Exc:=⟨"NoJoin", []⟩
section
variable {ω:List Cell} {logs:List (List Mj)} {k:Nat} {es:List D}
theorem parts_ev {m:Mj} {fm:M D} {ρ:Rho} (h:fm ρ ω=some (.val (jD m) ω)):((bo ixD fm (M.pure (.int 1))).bind itemsOf) ρ ω=some (.val (m.2.map pjD) ω) :=
 y_bind (a:=.tup (m.2.map pjD)) (ω1:=ω) (bo_ev (x:=jD m) (y:=.int 1) (ω1:=ω) h rfl rfl rfl (ixD_t1 _ _ _)) rfl
theorem c_machJ {m:Mj} (h:m.2.length ≤ 8):g_zH [jD m] ω=some (.val (dInts (m.2.map Prod.fst)) ω):=by
 have e:cm_zH_1 (startE N_zH [jD m]) ω=some (.val (m.2.map fun p=>D.int p.1) ω):=by
  unfold cm_zH_1
  refine lcM_map pjD (fun p=>D.int p.1) (ω1:=ω) (parts_ev rfl) (by rw [sizeLine_eq]; omega) fun p hp=>?_
  exact ⟨[.fz (jD m),.fz (pjD p)],rfl,bo_ev (x:=pjD p) (y:=.int 0) (ω1:=ω) rfl rfl rfl rfl (ixD_t0 _ _)⟩
 refine fn_rt rfl ?_
 unfold b_zH
 rw [show dInts (m.2.map Prod.fst)=D.lst (m.2.map fun p=>D.int p.1) by show D.lst ((m.2.map _).map _)=_; rw [List.map_map]; rfl]
 exact retS_ev (y_bind e rfl)
theorem LogsAt.ix (L:LogsAt ω k es logs) {i:Nat} {l:List Mj} (hi:logs[i]?=some l):∃ j,ixD (.lst es) (.int (i:Nat))=some (.oid j) ∧ ω[j]?=some (.lst (l.map jD)) ∧ es[i]?=some (.oid j):=by
 obtain ⟨j,h1,h2⟩:=L.log i l hi
 exact ⟨j,ixD_lst h1,h2,h1⟩
theorem LogsAt.vw (L:LogsAt ω k es logs):view ω (.oid k)=some (.lst es):=by simp only [view,L.at_]
theorem vw_log {j:Nat} {l:List D} (h:ω[j]?=some (.lst l)):view ω (.oid j)=some (.lst l):=by simp only [view,h]
theorem nxE_at {j:Nat} {l:List Mj} (h:ω[j]?=some (.lst (l.map jD))) (t:Nat):nxE j t ω=some (l[t]?.map fun m=>.tup [.int (t:Nat),jD m]):=by
 unfold nxE
 simp only [h,List.getElem?_map,Option.map_map]
 rfl
theorem nxS_at {j:Nat} {l:List D} (h:ω[j]?=some (.lst l)) (t:Nat):nxS j t ω=some l[t]?:=by
 unfold nxS
 simp only [h]
theorem c_checklog (L:LogsAt ω k es logs) {i:Nat} {l:List Mj} (hi:logs[i]?=some l) :
  (logOk i l=true ∧ g_zL [.oid k,.int (i:Nat)] ω=some (.val .non ω)) ∨ (logOk i l=false ∧ g_zL [.oid k,.int (i:Nat)] ω=some (.exc noJ ω)):=by
 obtain ⟨j,hx,hj,_⟩:=L.ix hi
 have hm:=List.mem_of_getElem? hi
 have hs:=L.short l hm
 have src:((bo ixD (vW 0) (vW 1)).bind enX) (startE N_zL [.oid k,.int (i:Nat)]) ω=some (.val (nxE j) ω) :=
  y_bind (a:=.oid j) (ω1:=ω) (bo_ev (x:=.oid k) (y:=.int (i:Nat)) (ω1:=ω) rfl rfl L.vw rfl hx) (enX_oid hj)
 have sc:=forXGo_scan (T:=tupT 2 (consT (nmT 2) (consT (nmT 3) nilT))) (F:=lb_zL_1) (nx:=nxE j) (ω:=ω) (n:=l.length) (ok:=fun t=>(l.getD t (.non,[])).2.any fun p=>decide (p.1=(i:Int)) && decide (p.2.1=(t:Int))) (x:=noJ)
  (fun _ ρ=>∃ q2 q3 q4,ρ=[.fz (.oid k),.fz (.int (i:Nat)),q2,q3,q4]) (by omega) (by rw [nxE_at hj,List.getElem?_eq_none (Nat.le_refl _)]; rfl) (fun t ρ ht ⟨q2,q3,q4,e⟩=>by
   subst e
   have hg:l[t]?=some l[t]:=List.getElem?_eq_getElem ht
   have gd:l.getD t (.non,[])=l[t]:=by rw [List.getD_eq_getElem?_getD,hg]; rfl
   have mo:=L.ok l hm l[t] (List.getElem_mem ht)
   refine ⟨.tup [.int (t:Nat),jD l[t]],[.fz (.oid k),.fz (.int (i:Nat)),.fz (.int (t:Nat)),.fz (jD l[t]),q4],by rw [nxE_at hj,hg]; rfl,rfl,?_⟩
   have e:cm_zL_1 [.fz (.oid k),.fz (.int (i:Nat)),.fz (.int (t:Nat)),.fz (jD l[t]),q4] ω=some (.val (l[t].2.map fun p=>D.bl (decide (p.1=(i:Int)) && decide (p.2.1=(t:Int)))) ω):=by
    unfold cm_zL_1
    refine lcM_map pjD (fun p=>D.bl (decide (p.1=(i:Int)) && decide (p.2.1=(t:Int)))) (ω1:=ω) (parts_ev rfl) (by rw [sizeLine_eq]; have:=mo.few; omega) fun p hp=>?_
    exact ⟨[.fz (.oid k),.fz (.int (i:Nat)),.fz (.int (t:Nat)),.fz (jD l[t]),.fz (pjD p)],rfl,andV_ev (bo_ev (x:=.int p.1) (y:=.int (i:Nat)) (ω1:=ω) (bo_ev (x:=pjD p) (y:=.int 0) (ω1:=ω) rfl rfl rfl rfl (ixD_t0 _ _)) rfl rfl rfl (eqD_int _ _))
     (bo_ev (x:=.int p.2.1) (y:=.int (t:Nat)) (ω1:=ω) (bo_ev (x:=pjD p) (y:=.int 1) (ω1:=ω) rfl rfl rfl rfl (ixD_t1 _ _ _)) rfl rfl rfl (eqD_int _ _))⟩
   have et:DL.notM (truM (uo anyD (cm_zL_1.bind fun ds=>M.pure (.lst ds)))) [.fz (.oid k),.fz (.int (i:Nat)),.fz (.int (t:Nat)),.fz (jD l[t]),q4] ω=some (.val (!(l.getD t (.non,[])).2.any fun p=>decide (p.1=(i:Int)) && decide (p.2.1=(t:Int))) ω):=by
    refine notM_ev (truM_ev (uo_ev (x:=.lst (l[t].2.map fun p=>D.bl (decide (p.1=(i:Int)) && decide (p.2.1=(t:Int))))) (ω1:=ω) (y_bind e rfl) rfl ?_))
    rw [show (l[t].2.map fun p=>D.bl (decide (p.1=(i:Int)) && decide (p.2.1=(t:Int))))=(l[t].2.map fun p=>(decide (p.1=(i:Int)) && decide (p.2.1=(t:Int)))).map D.bl by rw [List.map_map]; rfl,anyD_bls,List.any_map,gd]
    rfl
   generalize ((l.getD t (.non,[])).2.any fun p=>decide (p.1=(i:Int)) && decide (p.2.1=(t:Int)))=b at et
   cases b with
   | true=>exact .inl ⟨rfl,_,by unfold lb_zL_1; rw [ifS_f et],_,_,_,rfl⟩
   | false=>exact .inr ⟨rfl,_,by unfold lb_zL_1; rw [ifS_t et]; rfl⟩) (ρ:=startE N_zL [.oid k,.int (i:Nat)]) ⟨_,_,_,rfl⟩
 rcases sc with ⟨a,ρ',b,_⟩ | ⟨a,ρ',b⟩
 · refine .inl ⟨a,fn_nx (ρ:=ρ') rfl ?_⟩
   unfold b_zL
   rw [forX_ev src b]
   rfl
 · refine .inr ⟨a,fn_ex (ρ:=ρ') rfl ?_⟩
   unfold b_zL
   rw [forX_ev src b]
   rfl
theorem c_checkmeet (L:LogsAt ω k es logs) {m:Mj} (mo:MjOk m) :
  (meetOk logs m=true ∧ g_zB [.oid k,jD m] ω=some (.val .non ω)) ∨ (meetOk logs m=false ∧ g_zB [.oid k,jD m] ω=some (.exc noJ ω)):=by
 have few:=mo.few
 have lf:=L.few
 have e0:tst (bo neD (uo lenSetN (calM g_zH (consM (vF 1) (M.pure [])))) (uo lenD (bo ixD (vW 1) (M.pure (.int 1))))) (startE N_zB [.oid k,jD m]) ω=some (.val (!decide ((m.2.map Prod.fst).Nodup)) ω):=by
  refine tst_ev (bo_ev (x:=.int ((upI (m.2.map Prod.fst)).length:Nat)) (y:=.int (m.2.length:Nat)) (ω1:=ω) (uo_ev (x:=dInts (m.2.map Prod.fst)) (ω1:=ω) (calM_ev (ds:=[jD m]) (ω1:=ω) rfl (c_machJ few)) rfl (lenSetN_ev (by rw [List.length_map]; omega))) (uo_ev (x:=.tup (m.2.map pjD)) (ω1:=ω) (bo_ev (x:=jD m) (y:=.int 1) (ω1:=ω) rfl rfl rfl rfl (ixD_t1 _ _ _)) rfl lenD_tupM) rfl rfl ?_)
  rw [neD_int]
  have:=upI_ndJ (m.2.map Prod.fst)
  rw [List.length_map] at this
  rw [this]
 by_cases nd:(m.2.map Prod.fst).Nodup
 · rw [decide_eq_true nd] at e0
   have sc:=forGo_scan (T:=tupT 4 (consT (nmT 2) (consT (nmT 3) (consT (nmT 4) (consT (nmT 5) nilT))))) (F:=lb_zB_1) (items:=m.2.map pjD) (ω:=ω) (ok:=fun t=>partOk logs m (m.2.getD t (0,0,0,.non))) (x:=noJ)
    (fun _ ρ=>∃ q2 q3 q4 q5,ρ=[.fz (.oid k),.fz (jD m),q2,q3,q4,q5]) (fun t d ρ hd ⟨q2,q3,q4,q5,e⟩=>by
     subst e
     rw [List.getElem?_map] at hd
     obtain ⟨p,hp,rfl⟩:=Option.map_eq_some_iff.mp hd
     have gd:m.2.getD t (0,0,0,.non)=p:=by rw [List.getD_eq_getElem?_getD,hp]; rfl
     refine ⟨[.fz (.oid k),.fz (jD m),.fz (.int p.1),.fz (.int p.2.1),.fz (.int p.2.2.1),.fz p.2.2.2],rfl,?_⟩
     rw [gd]
     have t1:tst (bo ltD (vW 2) (M.pure (.int 0))) [.fz (.oid k),.fz (jD m),.fz (.int p.1),.fz (.int p.2.1),.fz (.int p.2.2.1),.fz p.2.2.2] ω=some (.val (decide (p.1 < 0)) ω):=tst_ev (bo_ev (x:=.int p.1) (y:=.int 0) (ω1:=ω) rfl rfl rfl rfl (ltD_d _ _))
     have t2:tst (bo geD (vW 2) (uo lenD (vW 0))) [.fz (.oid k),.fz (jD m),.fz (.int p.1),.fz (.int p.2.1),.fz (.int p.2.2.1),.fz p.2.2.2] ω=some (.val (decide ((logs.length:Int) ≤ p.1)) ω) :=
      tst_ev (bo_ev (x:=.int p.1) (y:=.int (logs.length:Nat)) (ω1:=ω) rfl (uo_ev (x:=.oid k) (ω1:=ω) rfl L.vw (by show some (D.int es.length)=_; rw [L.len])) rfl rfl (geD_d _ _))
     have t3:tst (bo ltD (vW 3) (M.pure (.int 0))) [.fz (.oid k),.fz (jD m),.fz (.int p.1),.fz (.int p.2.1),.fz (.int p.2.2.1),.fz p.2.2.2] ω=some (.val (decide (p.2.1 < 0)) ω):=tst_ev (bo_ev (x:=.int p.2.1) (y:=.int 0) (ω1:=ω) rfl rfl rfl rfl (ltD_d _ _))
     by_cases h1:p.1 < 0
     · refine .inr ⟨?_,_,by unfold lb_zB_1; exact seqS_ex ((ifS_t (orM_t (decide_eq_true h1 ▸ t1))).trans rfl)⟩
       unfold partOk
       rw [decide_eq_false (show ¬ 0 ≤ p.1 by omega)]
       rfl
     rw [decide_eq_false h1] at t1
     by_cases h2:(logs.length:Int) ≤ p.1
     · refine .inr ⟨?_,_,by unfold lb_zB_1; exact seqS_ex ((ifS_t (orM_f t1 (orM_t (decide_eq_true h2 ▸ t2)))).trans rfl)⟩
       unfold partOk
       rw [decide_eq_false (show ¬ p.1 < (logs.length:Nat) by omega),Bool.and_false]
       rfl
     rw [decide_eq_false h2] at t2
     by_cases h3:p.2.1 < 0
     · refine .inr ⟨?_,_,by unfold lb_zB_1; exact seqS_ex ((ifS_t (orM_f t1 (orM_f t2 (orM_t (decide_eq_true h3 ▸ t3))))).trans rfl)⟩
       unfold partOk
       rw [decide_eq_false (show ¬ 0 ≤ p.2.1 by omega),Bool.and_false]
       rfl
     rw [decide_eq_false h3] at t3
     have hi:p.1.toNat < logs.length:=by omega
     have hl:logs[p.1.toNat]?=some logs[p.1.toNat]:=List.getElem?_eq_getElem hi
     have gl:logs.getD p.1.toNat []=logs[p.1.toNat]:=by rw [List.getD_eq_getElem?_getD,hl]; rfl
     obtain ⟨j,hx,hj,_⟩:=L.ix hl
     rw [Int.toNat_of_nonneg (by omega:0 ≤ p.1)] at hx
     have ex:bo ixD (vW 0) (vW 2) [.fz (.oid k),.fz (jD m),.fz (.int p.1),.fz (.int p.2.1),.fz (.int p.2.2.1),.fz p.2.2.2] ω=some (.val (.oid j) ω):=bo_ev (x:=.oid k) (y:=.int p.1) (ω1:=ω) rfl rfl L.vw rfl hx
     have el:uo lenD (bo ixD (vW 0) (vW 2)) [.fz (.oid k),.fz (jD m),.fz (.int p.1),.fz (.int p.2.1),.fz (.int p.2.2.1),.fz p.2.2.2] ω=some (.val (.int (logs[p.1.toNat].length:Nat)) ω):=uo_ev ex (vw_log hj) lenD_lstM
     have t4:tst (bo gtD (vW 3) (uo lenD (bo ixD (vW 0) (vW 2)))) [.fz (.oid k),.fz (jD m),.fz (.int p.1),.fz (.int p.2.1),.fz (.int p.2.2.1),.fz p.2.2.2] ω=some (.val (decide ((logs[p.1.toNat].length:Int) < p.2.1)) ω):=tst_ev (bo_ev (x:=.int p.2.1) (ω1:=ω) rfl el rfl rfl (gtD_d _ _))
     have t5:tst (bo ltD (vW 3) (uo lenD (bo ixD (vW 0) (vW 2)))) [.fz (.oid k),.fz (jD m),.fz (.int p.1),.fz (.int p.2.1),.fz (.int p.2.2.1),.fz p.2.2.2] ω=some (.val (decide (p.2.1 < (logs[p.1.toNat].length:Int))) ω):=tst_ev (bo_ev (x:=.int p.2.1) (ω1:=ω) rfl el rfl rfl (ltD_d _ _))
     have d1:(decide (0 ≤ p.1) && decide (p.1 < (logs.length:Nat)) && decide (0 ≤ p.2.1))=true:=by
      rw [decide_eq_true (by omega:0 ≤ p.1),decide_eq_true (by omega:p.1 < (logs.length:Nat)),decide_eq_true (by omega:0 ≤ p.2.1)]
      rfl
     have po:partOk logs m p=(decide (p.2.1 ≤ (logs[p.1.toNat].length:Nat)) && (decide (((logs[p.1.toNat]).length:Int) ≤ p.2.1) || (match (logs[p.1.toNat])[p.2.1.toNat]? with | some n=>decide (n=m) | none=>false))):=by
      unfold partOk
      rw [gl,d1,Bool.true_and]
      all_goals rfl
     by_cases h4:(logs[p.1.toNat].length:Int) < p.2.1
     · refine .inr ⟨?_,_,by unfold lb_zB_1; exact seqS_ex ((ifS_t (orM_f t1 (orM_f t2 (orM_f t3 (decide_eq_true h4 ▸ t4))))).trans rfl)⟩
       rw [po,decide_eq_false (by omega:¬ p.2.1 ≤ (logs[p.1.toNat].length:Nat))]
       rfl
     rw [decide_eq_false h4] at t4
     have st:∀ r,ifS (DL.andM (tst (bo ltD (vW 3) (uo lenD (bo ixD (vW 0) (vW 2))))) (tst (bo neD (bo ixD (bo ixD (vW 0) (vW 2)) (vW 3)) (vW 1)))) (raiS0 "NoJoin") (fun ρ ω=>some (.nx ρ ω)) [.fz (.oid k),.fz (jD m),.fz (.int p.1),.fz (.int p.2.1),.fz (.int p.2.2.1),.fz p.2.2.2] ω=r→lb_zB_1 [.fz (.oid k),.fz (jD m),.fz (.int p.1),.fz (.int p.2.1),.fz (.int p.2.2.1),.fz p.2.2.2] ω=r:=fun r h=>by
      unfold lb_zB_1
      exact (seqS_nx ((ifS_f (orM_f t1 (orM_f t2 (orM_f t3 t4)))).trans rfl)).trans h
     by_cases h5:p.2.1 < (logs[p.1.toNat].length:Int)
     · rw [decide_eq_true h5] at t5
       have hn:p.2.1.toNat < logs[p.1.toNat].length:=by omega
       have hg:(logs[p.1.toNat])[p.2.1.toNat]?=some (logs[p.1.toNat])[p.2.1.toNat]:=List.getElem?_eq_getElem hn
       have t6:tst (bo neD (bo ixD (bo ixD (vW 0) (vW 2)) (vW 3)) (vW 1)) [.fz (.oid k),.fz (jD m),.fz (.int p.1),.fz (.int p.2.1),.fz (.int p.2.2.1),.fz p.2.2.2] ω=some (.val (!decide ((logs[p.1.toNat])[p.2.1.toNat]=m)) ω):=by
        refine tst_ev (bo_ev (x:=jD (logs[p.1.toNat])[p.2.1.toNat]) (y:=jD m) (ω1:=ω) (bo_ev ex rfl (vw_log hj) rfl (ixD_lstI (by omega) (by rw [List.getElem?_map,hg]; rfl))) rfl rfl rfl (neD_j (L.ok _ (List.getElem_mem hi) _ (List.getElem_mem hn)) mo))
       have po2:partOk logs m p=decide ((logs[p.1.toNat])[p.2.1.toNat]=m):=by
        rw [po,decide_eq_true (by omega:p.2.1 ≤ (logs[p.1.toNat].length:Nat)),decide_eq_false (by omega:¬ (logs[p.1.toNat].length:Int) ≤ p.2.1),hg]
        rfl
       rw [po2]
       cases q:decide ((logs[p.1.toNat])[p.2.1.toNat]=m) with
       | true =>
        rw [q] at t6
        exact .inl ⟨rfl,_,st _ ((ifS_f (andM_t t5 t6)).trans rfl),_,_,_,_,rfl⟩
       | false =>
        rw [q] at t6
        exact .inr ⟨rfl,_,st _ ((ifS_t (andM_t t5 t6)).trans rfl)⟩
     · rw [decide_eq_false h5] at t5
       refine .inl ⟨?_,_,st _ ((ifS_f (andM_f t5)).trans rfl),_,_,_,_,rfl⟩
       rw [po,decide_eq_true (by omega:p.2.1 ≤ (logs[p.1.toNat].length:Nat)),decide_eq_true (by omega:(logs[p.1.toNat].length:Int) ≤ p.2.1)]
       rfl) (ρ:=startE N_zB [.oid k,jD m]) ⟨_,_,_,_,rfl⟩
   have al:((List.range (m.2.map pjD).length).all fun t=>partOk logs m (m.2.getD t (0,0,0,.non)))=m.2.all (partOk logs m):=by
    rw [List.length_map,Bool.eq_iff_iff,List.all_eq_true,List.all_eq_true]
    constructor
    · intro h p hp
      obtain ⟨t,ht,rfl⟩:=List.getElem_of_mem hp
      have:=h t (List.mem_range.mpr ht)
      rw [List.getD_eq_getElem?_getD,List.getElem?_eq_getElem ht] at this
      exact this
    · intro h t ht
      have ht:=List.mem_range.mp ht
      rw [List.getD_eq_getElem?_getD,List.getElem?_eq_getElem ht]
      exact h _ (List.getElem_mem ht)
   have mk:meetOk logs m=m.2.all (partOk logs m):=by
    unfold meetOk
    rw [decide_eq_true nd,Bool.true_and]
   have fn:∀ r,forGo (tupT 4 (consT (nmT 2) (consT (nmT 3) (consT (nmT 4) (consT (nmT 5) nilT))))) lb_zB_1 (m.2.map pjD) (startE N_zB [.oid k,jD m]) ω=some r→b_zB g_zH (startE N_zB [.oid k,jD m]) ω=unbk (some r):=fun r h=>by
    unfold b_zB
    refine (seqS_nx (ρ':=startE N_zB [.oid k,jD m]) (ω':=ω) ((ifS_f e0).trans rfl)).trans ?_
    unfold forS
    rw [bindS_ev (parts_ev (m:=m) rfl),h]
   rw [al] at sc
   rw [mk]
   rcases sc with ⟨a,ρ',b,_⟩ | ⟨a,ρ',b⟩
   · exact .inl ⟨a,fn_nx (ρ:=ρ') rfl (fn _ b)⟩
   · exact .inr ⟨a,fn_ex (ρ:=ρ') rfl (fn _ b)⟩
 · rw [decide_eq_false nd] at e0
   refine .inr ⟨by unfold meetOk; rw [decide_eq_false nd]; rfl,fn_ex (ρ:=startE N_zB [.oid k,jD m]) rfl ?_⟩
   unfold b_zB
   exact seqS_ex ((ifS_t e0).trans rfl)
end
theorem addM_mem {f:List Mj} {m x:Mj}:x ∈ addM f m ↔ x ∈ f ∨ x=m:=by
 unfold addM
 split
 · rename_i h
   exact ⟨.inl,fun z=>z.elim id fun e=>e ▸ h⟩
 · rw [List.mem_append,List.mem_singleton]
theorem addM_len (f:List Mj) (m:Mj):(addM f m).length ≤ f.length + 1:=by
 unfold addM
 split <;> simp
theorem addMs_mem {x:Mj}:∀ {l f:List Mj},x ∈ l.foldl addM f ↔ x ∈ f ∨ x ∈ l
 | [],f=>by simp
 | m :: l,f=>by
  rw [List.foldl_cons,addMs_mem,addM_mem,List.mem_cons]
  constructor
  · rintro ((h | h) | h)
    · exact .inl h
    · exact .inr (.inl h)
    · exact .inr (.inr h)
  · rintro (h | h | h)
    · exact .inl (.inl h)
    · exact .inl (.inr h)
    · exact .inr h
theorem addMs_len:∀ (l f:List Mj),(l.foldl addM f).length ≤ f.length + l.length
 | [],f=>Nat.le_refl _
 | m :: l,f=>by
  rw [List.foldl_cons,List.length_cons]
  have:=addMs_len l (addM f m)
  have:=addM_len f m
  omega
theorem allM_mem {logs:List (List Mj)} {x:Mj}:x ∈ allM logs ↔ ∃ l ∈ logs,x ∈ l:=by
 unfold allM
 rw [addMs_mem,List.mem_flatten]
 constructor
 · rintro (h | h)
   · cases h
   · exact h
 · exact .inr
theorem takenM_D (ms:List Mj):(ms.flatMap fun m=>m.2.map fun p=>D.tup [.int p.1,.int p.2.1])=(takenM ms).map fun r=>D.tup (r.map D.int):=by
 unfold takenM
 rw [List.map_flatMap]
 congr 1
 funext m
 rw [List.map_map]
 rfl
section
variable {ω:List Cell} {logs:List (List Mj)} {k:Nat} {es:List D}
theorem c_allmeet (L:LogsAt ω k es logs) (hz:(takenM (allM logs)).length < 64) (hz2:(allM logs).length ≤ 100) :
  g_zE [.oid k] ω=if (takenM (allM logs)).Nodup then some (.val (.lst ((allM logs).map jD)) ω) else some (.exc noJ ω):=by
 have lf:=L.few
 have le:=L.len
 have okA:∀ m ∈ allM logs,MjOk m:=fun m hm=>by
  obtain ⟨l,h1,h2⟩:=allM_mem.mp hm
  exact L.ok l h1 m h2
 have inner:∀ (i j:Nat) (l f:List Mj) (q2 q3:Sl),l ∈ logs→ω[j]?=some (.lst (l.map jD))→(∀ m ∈ f,MjOk m)→f.length ≤ 1000→∃ q3',forXGo (nxS j) (nmT 3) lb_zE_1 100000 0 [.fz (.oid k),.ow (f.map jD),.fz (.oid j),q3,.no,.no] ω=some (.nx [.fz (.oid k),.ow ((l.foldl addM f).map jD),.fz (.oid j),q3',.no,.no] ω):=by
  intro i j l f q2 q3 hl hj hf hfl
  have hs:=L.short l hl
  have sc:=forXGo_scan (T:=nmT 3) (F:=lb_zE_1) (nx:=nxS j) (ω:=ω) (n:=l.length) (ok:=fun _=>true) (x:=noJ) (fun t ρ=>∃ q3,ρ=[.fz (.oid k),.ow (((l.take t).foldl addM f).map jD),.fz (.oid j),q3,.no,.no]) (by omega)
   (by rw [nxS_at hj,List.getElem?_eq_none (by rw [List.length_map]; exact Nat.le_refl _)]) (fun t ρ ht ⟨q3,e⟩=>by
    subst e
    have hg:l[t]?=some l[t]:=List.getElem?_eq_getElem ht
    have mo:=L.ok l hl l[t] (List.getElem_mem ht)
    have hff:∀ m ∈ (l.take t).foldl addM f,MjOk m:=fun m hm=>(addMs_mem.mp hm).elim (hf m) fun z=>L.ok l hl m (List.mem_of_mem_take z)
    have hlen:((l.take t).foldl addM f).length ≤ 2000:=by
     have:=addMs_len (l.take t) f
     have:(l.take t).length ≤ 100:=by rw [List.length_take]; omega
     omega
    refine ⟨jD l[t],[.fz (.oid k),.ow (((l.take t).foldl addM f).map jD),.fz (.oid j),.fz (jD l[t]),.no,.no],by rw [nxS_at hj,List.getElem?_map,hg]; rfl,rfl,.inl ⟨rfl,[.fz (.oid k),.ow (((l.take (t + 1)).foldl addM f).map jD),.fz (.oid j),.fz (jD l[t]),.no,.no],?_,_,rfl⟩⟩
    have e2:(l.take (t + 1)).foldl addM f=addM ((l.take t).foldl addM f) l[t]:=by
     rw [List.take_succ,hg,List.foldl_append]
     rfl
    have te:tst (bo notInD (vW 3) (vW 1)) [.fz (.oid k),.ow (((l.take t).foldl addM f).map jD),.fz (.oid j),.fz (jD l[t]),.no,.no] ω=some (.val (!decide (l[t] ∈ (l.take t).foldl addM f)) ω):=tst_ev (bo_ev (x:=jD l[t]) (y:=.lst (((l.take t).foldl addM f).map jD)) (ω1:=ω) rfl rfl rfl rfl (notIn_j mo hff))
    rw [e2]
    have ad:addM ((l.take t).foldl addM f) l[t]=if l[t] ∈ (l.take t).foldl addM f then (l.take t).foldl addM f else (l.take t).foldl addM f ++ [l[t]]:=rfl
    rw [ad]
    unfold lb_zE_1
    by_cases hm:l[t] ∈ (l.take t).foldl addM f
    · rw [decide_eq_true hm] at te
      rw [ifS_f te,if_pos hm]
    · rw [decide_eq_false hm] at te
      rw [ifS_t te,if_neg hm,appS_ev (es:=((l.take t).foldl addM f).map jD) (d:=jD l[t]) (ω':=ω) rfl rfl (by rw [sizeLine_eq,List.length_map]; omega),List.map_append]
      rfl) (ρ:=[.fz (.oid k),.ow (f.map jD),.fz (.oid j),q3,.no,.no]) ⟨q3,rfl⟩
  rcases sc with ⟨_,ρ',b,q,rfl⟩ | ⟨a,_⟩
  · rw [List.take_length] at b
    exact ⟨q,b⟩
  · rw [List.all_eq_true.mpr fun _ _=>rfl] at a
    cases a
 have sc:=forXGo_scan (T:=nmT 2) (F:=lb_zE_2) (nx:=nxS k) (ω:=ω) (n:=logs.length) (ok:=fun _=>true) (x:=noJ) (fun t ρ=>∃ q2 q3,ρ=[.fz (.oid k),.ow ((((logs.take t).flatten).foldl addM []).map jD),q2,q3,.no,.no]) (by omega)
  (by rw [nxS_at L.at_,List.getElem?_eq_none (by omega)]) (fun t ρ ht ⟨q2,q3,e⟩=>by
   subst e
   have hg:logs[t]?=some logs[t]:=List.getElem?_eq_getElem ht
   obtain ⟨j,_,hj,hes⟩:=L.ix hg
   have hl:=List.getElem_mem ht
   have hff:∀ m ∈ ((logs.take t).flatten).foldl addM [],MjOk m:=fun m hm=>(addMs_mem.mp hm).elim (fun z=>by cases z) fun z=>by
    obtain ⟨l,h1,h2⟩:=List.mem_flatten.mp z
    exact L.ok l (List.mem_of_mem_take h1) m h2
   have hlen:(((logs.take t).flatten).foldl addM []).length ≤ 1000:=by
    have h1:=addMs_len ((logs.take t).flatten) []
    have h2:((logs.take t).flatten).length ≤ t * 100:=by
     have:∀ ls:List (List Mj),(∀ l ∈ ls,l.length ≤ 100)→ls.flatten.length ≤ ls.length * 100:=by
      intro ls
      induction ls with
      | nil=>intro _; exact Nat.zero_le _
      | cons a r ih =>
       intro h
       have h1:=h a (List.mem_cons_self ..)
       have h2:=ih fun l hl=>h l (List.mem_cons_of_mem _ hl)
       rw [List.flatten_cons,List.length_append,List.length_cons]
       omega
     have h3:=this (logs.take t) fun l hl=>L.short l (List.mem_of_mem_take hl)
     have h4:(logs.take t).length ≤ t:=by rw [List.length_take]; omega
     omega
    rw [List.length_nil] at h1
    omega
   obtain ⟨q3',e3⟩:=inner t j logs[t] (((logs.take t).flatten).foldl addM []) q2 q3 hl hj hff hlen
   refine ⟨.oid j,[.fz (.oid k),.ow ((((logs.take t).flatten).foldl addM []).map jD),.fz (.oid j),q3,.no,.no],by rw [nxS_at L.at_,hes],rfl,.inl ⟨rfl,_,?_,.fz (.oid j),q3',rfl⟩⟩
   unfold lb_zE_2
   have src:((vF 2).bind stX) [.fz (.oid k),.ow ((((logs.take t).flatten).foldl addM []).map jD),.fz (.oid j),q3,.no,.no] ω=some (.val (nxS j) ω):=y_bind (a:=.oid j) (ω1:=ω) rfl (stX_oid hj)
   rw [forX_ev src e3,List.take_succ,hg,List.flatten_append,List.foldl_append]
   show some (RS.nx [.fz (.oid k),.ow (((logs[t]).foldl addM (((logs.take t).flatten).foldl addM [])).map jD),.fz (.oid j),q3',.no,.no] ω)=_
   rw [show ((some logs[t]).toList).flatten=logs[t] by simp]) (ρ:=[.fz (.oid k),.ow [],.no,.no,.no,.no]) ⟨.no,.no,rfl⟩
 rcases sc with ⟨_,ρ',b,q2,q3,rfl⟩ | ⟨a,_⟩
 · rw [List.take_length] at b
   have src:((vF 0).bind stX) [.fz (.oid k),.ow [],.no,.no,.no,.no] ω=some (.val (nxS k) ω):=y_bind (a:=.oid k) (ω1:=ω) rfl (stX_oid L.at_)
   have ec:cm_zE_1 [.fz (.oid k),.fz (.lst ((allM logs).map jD)),q2,q3,.no,.no] ω=some (.val ((takenM (allM logs)).map fun r=>D.tup (r.map D.int)) ω):=by
    unfold cm_zE_1
    rw [← takenM_D]
    refine lc2M_L jD (fun m=>m.2) pjD (fun _ p=>D.tup [.int p.1,.int p.2.1]) (fun m=>[.fz (.oid k),.fz (.lst ((allM logs).map jD)),q2,.fz (jD m),.no,.no]) ?_ (fun m hm=>rfl) (fun m hm=>?_) (fun m hm p hp=>?_) (by omega) (fun m hm=>by have:=(okA m hm).few; omega) ?_
    · exact y_bind (a:=(allM logs).map jD) (ω1:=ω) (y_bind (a:=.lst ((allM logs).map jD)) (ω1:=ω) rfl rfl) rfl
    · exact y_bind (a:=m.2.map pjD) (ω1:=ω) (parts_ev rfl) rfl
    · refine ⟨[.fz (.oid k),.fz (.lst ((allM logs).map jD)),q2,.fz (jD m),.no,.fz (pjD p)],rfl,?_⟩
      exact y_bind (a:=[.int p.1,.int p.2.1]) (ω1:=ω) (cons_ev (ω1:=ω) (bo_ev (x:=pjD p) (y:=.int 0) (ω1:=ω) rfl rfl rfl rfl (ixD_t0 _ _)) (cons_ev (ω1:=ω) (bo_ev (x:=pjD p) (y:=.int 1) (ω1:=ω) rfl rfl rfl rfl (ixD_t1 _ _ _)) rfl)) (mkTup_ev (by simp))
    · rw [takenM_D,List.length_map]
      omega
   have et:tst (bo neD (uo lenSetT (vW 4)) (uo lenD (vW 4))) [.fz (.oid k),.fz (.lst ((allM logs).map jD)),q2,q3,.ow ((takenM (allM logs)).map fun r=>D.tup (r.map D.int)),.no] ω=some (.val (!decide ((takenM (allM logs)).Nodup)) ω):=by
    refine tst_ev (bo_ev (x:=.int ((uqI (takenM (allM logs))).length:Nat)) (y:=.int ((takenM (allM logs)).length:Nat)) (ω1:=ω) (uo_ev (x:=.lst ((takenM (allM logs)).map fun r=>D.tup (r.map D.int))) (ω1:=ω) rfl rfl (by unfold lenSetT; simp only [rwsI_map,if_pos hz])) (uo_ev (x:=.lst ((takenM (allM logs)).map fun r=>D.tup (r.map D.int))) (ω1:=ω) rfl rfl lenD_lstM) rfl rfl ?_)
    rw [neD_int]
    by_cases nd:(takenM (allM logs)).Nodup
    · rw [decide_eq_true nd,uqI_self nd,decide_eq_true rfl]
    · have:=uqI_lt nd
      rw [decide_eq_false nd,decide_eq_false (by omega)]
   have body:∀ r,(seqS (ifS (tst (bo neD (uo lenSetT (vW 4)) (uo lenD (vW 4)))) (raiS0 "NoJoin") (fun ρ ω=>some (.nx ρ ω))) (frz 1 (retS (vF 1)))) [.fz (.oid k),.fz (.lst ((allM logs).map jD)),q2,q3,.ow ((takenM (allM logs)).map fun r=>D.tup (r.map D.int)),.no] ω=r→b_zE (startE N_zE [.oid k]) ω=r:=fun r h=>by
    unfold b_zE
    refine (seqS_nx (ρ':=[.fz (.oid k),.ow [],.no,.no,.no,.no]) (ω':=ω) (setO_ev new0)).trans ?_
    refine (seqS_nx (ρ':=[.fz (.oid k),.ow ((allM logs).map jD),q2,q3,.no,.no]) (ω':=ω) ((forX_ev src b).trans rfl)).trans ?_
    exact (z_frzOS (ρ':=[.fz (.oid k),.fz (.lst ((allM logs).map jD)),q2,q3,.no,.no]) rfl rfl ((seqS_nx (setO_ev ec)).trans h))
   split
   · rename_i nd
     rw [decide_eq_true nd] at et
     exact fn_rt rfl (body _ ((seqS_nx ((ifS_f et).trans rfl)).trans rfl))
   · rename_i nd
     rw [decide_eq_false nd] at et
     exact fn_ex rfl (body _ (seqS_ex ((ifS_t et).trans rfl)))
 · rw [List.all_eq_true.mpr fun _ _=>rfl] at a
   cases a
theorem val_turn:∀ (ps:List Pj) (x:Int),valD (ps.map fun p=>((Sum.inl p.1:Key),D.int p.2.1)) (.inl x)=(turnJ ps x).map D.int
 | [],x=>rfl
 | p :: ps,x=>by
  rw [List.map_cons,valD_cons]
  unfold turnJ
  by_cases h:p.1=x
  · rw [if_pos h,if_pos (by rw [h])]
    rfl
  · rw [if_neg h,if_neg (fun z=>h (by injection z)),val_turn ps x]
theorem c_ready {m:Mj} {left:List Mj} (mo:MjOk m) (nd:(m.2.map Prod.fst).Nodup) (lo:∀ o ∈ left,MjOk o) (hl:left.length ≤ 100) (ω:List Cell):∃ cs,g_zO [jD m,.lst (left.map jD)] ω=some (.val (.bl (readyJ m left)) (ω ++ cs)):=by
 have few:=mo.few
 refine ⟨[.dic (m.2.map fun p=>((Sum.inl p.1:Key),D.int p.2.1))],?_⟩
 have e1:dc_zO_1 (startE N_zO [jD m,.lst (left.map jD)]) ω=some (.val (.oid ω.length) (ω ++ [.dic (m.2.map fun p=>((Sum.inl p.1:Key),D.int p.2.1))])):=by
  unfold dc_zO_1
  refine dcM_at m.2 pjD (fun p=>(Sum.inl p.1:Key)) (fun p=>D.int p.2.1) (parts_ev rfl) (by omega) ?_ fun p hp=>?_
  · rw [show (m.2.map fun p=>(Sum.inl p.1:Key))=(m.2.map Prod.fst).map Sum.inl by rw [List.map_map]; rfl]
    exact List.Pairwise.map _ (fun a b h z=>h (by injection z)) nd
  · exact ⟨[.fz (jD m),.fz (.lst (left.map jD)),.no,.fz (pjD p),.no],.int p.1,rfl,bo_ev (x:=pjD p) (y:=.int 0) (ω1:=ω) rfl rfl rfl rfl (ixD_t0 _ _),rfl,bo_ev (x:=pjD p) (y:=.int 1) (ω1:=ω) rfl rfl rfl rfl (ixD_t1 _ _ _)⟩
 generalize hω:ω ++ [Cell.dic (m.2.map fun p=>((Sum.inl p.1:Key),D.int p.2.1))]=ω1 at e1
 have vd:view ω1 (.oid ω.length)=some (.dic (m.2.map fun p=>((Sum.inl p.1:Key),D.int p.2.1))):=by
  have:ω1[ω.length]?=some (Cell.dic (m.2.map fun p=>((Sum.inl p.1:Key),D.int p.2.1))):=by
   rw [← hω,List.getElem?_append_right (Nat.le_refl _),Nat.sub_self]
   rfl
  simp only [view,this]
 have e2:cm_zO_1 [.fz (jD m),.fz (.lst (left.map jD)),.fz (.oid ω.length),.no,.no] ω1=some (.val (left.flatMap fun o=>o.2.map fun p=>D.bl (match turnJ m.2 p.1 with | some t=>decide (p.2.1 < t) | none=>false)) ω1):=by
  unfold cm_zO_1
  refine lc2M_L jD (fun o=>o.2) pjD (fun _ p=>D.bl (match turnJ m.2 p.1 with | some t=>decide (p.2.1 < t) | none=>false)) (fun o=>[.fz (jD m),.fz (.lst (left.map jD)),.fz (.oid ω.length),.no,.fz (jD o)]) ?_ (fun o ho=>rfl) (fun o ho=>?_) (fun o ho p hp=>?_) (by omega) (fun o ho=>by have:=(lo o ho).few; omega) ?_
  · exact y_bind (a:=left.map jD) (ω1:=ω1) (y_bind (a:=.lst (left.map jD)) (ω1:=ω1) rfl rfl) rfl
  · exact y_bind (a:=o.2.map pjD) (ω1:=ω1) (parts_ev rfl) rfl
  · refine ⟨[.fz (jD m),.fz (.lst (left.map jD)),.fz (.oid ω.length),.fz (pjD p),.fz (jD o)],rfl,?_⟩
    have p0:bo ixD (vW 3) (M.pure (.int 0)) [.fz (jD m),.fz (.lst (left.map jD)),.fz (.oid ω.length),.fz (pjD p),.fz (jD o)] ω1=some (.val (.int p.1) ω1):=bo_ev (x:=pjD p) (y:=.int 0) (ω1:=ω1) rfl rfl rfl rfl (ixD_t0 _ _)
    have i1:bo inK (bo ixD (vW 3) (M.pure (.int 0))) (vW 2) [.fz (jD m),.fz (.lst (left.map jD)),.fz (.oid ω.length),.fz (pjD p),.fz (jD o)] ω1=some (.val (.bl (turnJ m.2 p.1).isSome) ω1):=by
     refine bo_ev p0 (y:=.oid ω.length) (ω2:=ω1) rfl rfl vd ?_
     show some (D.bl (valD _ (.inl p.1)).isSome)=_
     rw [val_turn]
     cases turnJ m.2 p.1 <;> rfl
    cases q:turnJ m.2 p.1 with
    | none =>
     rw [q] at i1
     exact andV_f i1
    | some t =>
     rw [q] at i1
     refine (andV_t i1).trans ?_
     refine bo_ev (x:=.int p.2.1) (y:=.int t) (ω1:=ω1) (bo_ev (x:=pjD p) (y:=.int 1) (ω1:=ω1) rfl rfl rfl rfl (ixD_t1 _ _ _)) (bo_ev (x:=.oid ω.length) (ω1:=ω1) rfl p0 vd rfl ?_) rfl rfl (ltD_d _ _)
     show valD _ (.inl p.1)=_
     rw [val_turn,q]
     rfl
  · have:∀ l:List Mj,(∀ o ∈ l,MjOk o)→(l.flatMap fun o=>o.2.map fun p=>D.bl (match turnJ m.2 p.1 with | some t=>decide (p.2.1 < t) | none=>false)).length ≤ l.length * 8:=by
     intro l
     induction l with
     | nil=>intro _; exact Nat.zero_le _
     | cons a r ih =>
      intro h
      have h1:=(h a (List.mem_cons_self ..)).few
      have h2:=ih fun o ho=>h o (List.mem_cons_of_mem _ ho)
      rw [List.flatMap_cons,List.length_append,List.length_map,List.length_cons]
      omega
    have:=this left lo
    omega
 refine fn_rt rfl ?_
 unfold b_zO
 refine (seqS_nx (ρ':=[.fz (jD m),.fz (.lst (left.map jD)),.fz (.oid ω.length),.no,.no]) (ω':=ω1) (setS_ev e1)).trans ?_
 refine retS_ev (notV_ev (uo_ev (x:=.lst (left.flatMap fun o=>o.2.map fun p=>D.bl (match turnJ m.2 p.1 with | some t=>decide (p.2.1 < t) | none=>false))) (ω1:=ω1) (y_bind e2 rfl) rfl ?_))
 rw [show (left.flatMap fun o=>o.2.map fun p=>D.bl (match turnJ m.2 p.1 with | some t=>decide (p.2.1 < t) | none=>false))=(left.flatMap fun o=>o.2.map fun p=>(match turnJ m.2 p.1 with | some t=>decide (p.2.1 < t) | none=>false)).map D.bl by
  rw [List.map_flatMap]
  congr 1
  funext o
  rw [List.map_map]
  rfl,anyD_bls,List.any_flatMap]
 congr 2
 congr 1
 funext o
 rw [List.any_map]
 rfl
end
abbrev rnJ (l:List Mj):D:=.obj "Run" [("rows", .lst (l.map jD))]
theorem mk_rnJ {l:List Mj} (ok:∀ m ∈ l,MjOk m) {fs:M (List D)} {ρ:Rho} {ω:List Cell} (h:fs ρ ω=some (.val [.lst (l.map jD)] ω)):(fs.bind (mkG "Run" g_mk_Run)) ρ ω=some (.val (rnJ l) ω):=by
 refine mkG_ev (ds:=[.lst (l.map jD)]) (ω1:=ω) h (fn_nx (ρ:=startE N_zD [.oid ω.length,.lst (l.map jD)]) rfl ?_) (by
  show (noO (.lst (l.map jD)) && true)=true
  rw [noO_plain _ (fine_iff.mp (fine_js ok)).1]
  rfl)
 unfold b_zD fldS
 refine Eq.trans (bindS_ev (uo_ev (x:=.lst (l.map jD)) (z:=.lst (l.map jD)) (ω1:=ω ++ [.obj "Run" []]) rfl rfl rfl)) ?_
 refine Eq.trans (bindS_ev (a:=.oid ω.length) (ω1:=ω ++ [.obj "Run" []]) rfl) ?_
 have g1:(ω ++ [Cell.obj "Run" []])[ω.length]?=some (Cell.obj "Run" []):=by
  rw [List.getElem?_append_right (Nat.le_refl _),Nat.sub_self]
  rfl
 have g2:(ω ++ [Cell.obj "Run" []]).set ω.length (Cell.obj "Run" (putD "rows" (.lst (l.map jD)) []))=ω ++ [Cell.obj "Run" [("rows", .lst (l.map jD))]]:=by
  rw [List.set_append_right _ _ (Nat.le_refl _),Nat.sub_self]
  rfl
 simp only [g1]
 rw [if_pos ⟨by decide +kernel,by decide⟩,g2]
theorem truM_js {l:List Mj} {f:M D} {ρ:Rho} {ω:List Cell} (h:f ρ ω=some (.val (.lst (l.map jD)) ω)):truM f ρ ω=some (.val (!l.isEmpty) ω):=by
 unfold truM
 refine y_bind h ?_
 cases l <;> rfl
theorem filter_lt {l:List Mj} {m:Mj} (h:m ∈ l):(l.filter fun x=>!decide (x=m)).length < l.length:=by
 induction l with
 | nil=>cases h
 | cons a r ih =>
  by_cases e:a=m
  · rw [List.filter_cons_of_neg (by simp [e]),List.length_cons]
    have:=List.length_filter_le (fun x=>!decide (x=m)) r
    omega
  · rw [List.filter_cons_of_pos (by simp [e]),List.length_cons,List.length_cons]
    have:=ih ((List.mem_cons.mp h).resolve_left fun z=>e z.symm)
    omega
abbrev jnE (k:Nat) (q1 q2 q3:Sl) (left rows:List Mj) (q6 q7:Sl):Rho:=[.fz (.oid k),q1,q2,q3,.fz (.lst (left.map jD)),.ow (rows.map jD),q6,q7]
theorem ready_ev {k:Nat} {q1 q2 q3 q6 q7:Sl} {left rows:List Mj} (ok:∀ m ∈ left,MjOk m ∧ (m.2.map Prod.fst).Nodup) (hl:left.length ≤ 100) (ω:List Cell) :
  ∃ cs,cm_zQ_1 g_zO (jnE k q1 q2 q3 left rows q6 q7) ω=some (.val ((left.filter fun m=>readyJ m left).map jD) (ω ++ cs)):=by
 unfold cm_zQ_1
 refine lcM_grow (xs:=left) (ω1:=ω) jD (fun m=>readyJ m left) jD (y_bind (a:=.lst (left.map jD)) (ω1:=ω) rfl rfl) (by rw [sizeLine_eq]; omega) fun m hm cs=>?_
 obtain ⟨cs2,e⟩:=c_ready (ok m hm).1 (ok m hm).2 (fun o ho=>(ok o ho).1) hl (ω ++ cs)
 rw [List.append_assoc] at e
 exact ⟨[.fz (.oid k),q1,q2,.fz (jD m),.fz (.lst (left.map jD)),.ow (rows.map jD),q6,q7],cs ++ cs2,rfl,truM_ev (calM_ev (ds:=[jD m,.lst (left.map jD)]) (ω1:=ω ++ cs) rfl e),fun _=>rfl⟩
theorem c_while {k:Nat} {q1 q2 q3:Sl}:∀ {left rows:List Mj} {res:Option (List Mj)},JoinR left rows res→∀ (q6 q7:Sl) (ω:List Cell) (fuel:Nat),(∀ m ∈ left,MjOk m ∧ (m.2.map Prod.fst).Nodup)→left.length ≤ 100→rows.length + left.length ≤ 900→left.length < fuel →
  ∃ cs q6' q7',match res with
   | some out=>whileGo (truM (vW 4)) (lb_zQ_4 g_zO) fuel (jnE k q1 q2 q3 left rows q6 q7) ω=some (.nx (jnE k q1 q2 q3 [] out q6' q7') (ω ++ cs))
   | none=>∃ ρ',whileGo (truM (vW 4)) (lb_zQ_4 g_zO) fuel (jnE k q1 q2 q3 left rows q6 q7) ω=some (.exc noJ ρ' (ω ++ cs)):=by
 intro left rows res J
 induction J with
 | done rows =>
  intro q6 q7 ω fuel _ _ _ hf
  obtain ⟨fuel,rfl⟩:∃ m,fuel=m + 1:=⟨fuel - 1,by omega⟩
  refine ⟨[],q6,q7,?_⟩
  show whileGo _ _ _ _ _=_
  unfold whileGo
  have e1:truM (vW 4) (jnE k q1 q2 q3 [] rows q6 q7) ω=some (.val false ω):=truM_js (l:=[]) rfl
  simp only [e1,List.append_nil]
 | stuck left rows hne hr =>
  intro q6 q7 ω fuel ok hl hz hf
  obtain ⟨fuel,rfl⟩:∃ m,fuel=m + 1:=⟨fuel - 1,by omega⟩
  have e1:truM (vW 4) (jnE k q1 q2 q3 left rows q6 q7) ω=some (.val true ω):=by
   rw [truM_js (l:=left) rfl]
   cases left with
   | nil=>exact absurd rfl hne
   | cons _ _=>rfl
  obtain ⟨cs,e2⟩:=ready_ev (k:=k) (q1:=q1) (q2:=q2) (q3:=q3) (rows:=rows) (q6:=q6) (q7:=q7) ok hl ω
  refine ⟨cs,q6,q7,jnE k q1 q2 q3 left rows (.fz (.lst ((left.filter fun m=>readyJ m left).map jD))) q7,?_⟩
  unfold whileGo
  simp only [e1]
  have e3:lb_zQ_4 g_zO (jnE k q1 q2 q3 left rows q6 q7) ω=some (.exc noJ (jnE k q1 q2 q3 left rows (.fz (.lst ((left.filter fun m=>readyJ m left).map jD))) q7) (ω ++ cs)):=by
   unfold lb_zQ_4
   refine (seqS_nx (setS_ev (y_bind e2 rfl))).trans ?_
   have e4:DL.notM (truM (vW 6)) (jnE k q1 q2 q3 left rows (.fz (.lst ((left.filter fun m=>readyJ m left).map jD))) q7) (ω ++ cs)=some (.val true (ω ++ cs)):=by
    rw [hr]
    exact notM_ev (b:=false) (truM_js (l:=[]) rfl)
   exact seqS_ex ((ifS_t e4).trans rfl)
  simp only [e3]
 | step left rows l res hne hmem hr hmin _ ih =>
  intro q6 q7 ω fuel ok hl hz hf
  obtain ⟨fuel,rfl⟩:∃ m,fuel=m + 1:=⟨fuel - 1,by omega⟩
  have lt:=filter_lt hmem
  have e1:truM (vW 4) (jnE k q1 q2 q3 left rows q6 q7) ω=some (.val true ω):=by
   rw [truM_js (l:=left) rfl]
   cases left with
   | nil=>exact absurd rfl hne
   | cons _ _=>rfl
  obtain ⟨cs,e2⟩:=ready_ev (k:=k) (q1:=q1) (q2:=q2) (q3:=q3) (rows:=rows) (q6:=q6) (q7:=q7) ok hl ω
  have e3:lb_zQ_4 g_zO (jnE k q1 q2 q3 left rows q6 q7) ω=some (.nx (jnE k q1 q2 q3 (left.filter fun m=>!decide (m=l)) (rows ++ [l]) (.fz (.lst ((left.filter fun m=>readyJ m left).map jD))) (.fz (jD l))) (ω ++ cs)):=by
   unfold lb_zQ_4
   refine (seqS_nx (setS_ev (y_bind e2 rfl))).trans ?_
   have e4:DL.notM (truM (vW 6)) (jnE k q1 q2 q3 left rows (.fz (.lst ((left.filter fun m=>readyJ m left).map jD))) q7) (ω ++ cs)=some (.val false (ω ++ cs)):=by
    refine notM_ev (b:=true) ?_
    rw [truM_js (l:=left.filter fun m=>readyJ m left) rfl]
    cases q:left.filter fun m=>readyJ m left with
    | nil=>exact absurd q hr
    | cons _ _=>rfl
   refine (seqS_nx ((ifS_f e4).trans rfl)).trans ?_
   refine (seqS_nx (ρ':=jnE k q1 q2 q3 left rows (.fz (.lst ((left.filter fun m=>readyJ m left).map jD))) (.fz (jD l))) (ω':=ω ++ cs) (setS_ev (uo_ev (x:=.lst ((left.filter fun m=>readyJ m left).map jD)) (ω1:=ω ++ cs) rfl rfl hmin))).trans ?_
   refine (seqS_nx (ρ':=jnE k q1 q2 q3 left (rows ++ [l]) (.fz (.lst ((left.filter fun m=>readyJ m left).map jD))) (.fz (jD l))) (ω':=ω ++ cs) ?_).trans ?_
   · rw [appS_ev (es:=rows.map jD) (d:=jD l) (ω':=ω ++ cs) rfl rfl (by rw [sizeLine_eq,List.length_map]; omega)]
     show some (RS.nx [_,_,_,_,_,.ow (rows.map jD ++ [jD l]),_,_] _)=_
     rw [show rows.map jD ++ [jD l]=(rows ++ [l]).map jD by rw [List.map_append]; rfl]
   · have e5:cm_zQ_2 (jnE k q1 q2 q3 left (rows ++ [l]) (.fz (.lst ((left.filter fun m=>readyJ m left).map jD))) (.fz (jD l))) (ω ++ cs)=some (.val ((left.filter fun m=>!decide (m=l)).map jD) (ω ++ cs)):=by
      unfold cm_zQ_2
      refine lcM_enc (xs:=left) (ω1:=ω ++ cs) jD (fun m=>!decide (m=l)) jD (y_bind (a:=.lst (left.map jD)) (ω1:=ω ++ cs) rfl rfl) (by rw [sizeLine_eq]; omega) fun m hm=>?_
      exact ⟨[.fz (.oid k),q1,q2,.fz (jD m),.fz (.lst (left.map jD)),.ow ((rows ++ [l]).map jD),.fz (.lst ((left.filter fun m=>readyJ m left).map jD)),.fz (jD l)],rfl,tst_ev (bo_ev (x:=jD m) (y:=jD l) (ω1:=ω ++ cs) rfl rfl rfl rfl (neD_j (ok m hm).1 (ok l hmem).1)),fun _=>rfl⟩
     exact setS_ev (y_bind e5 rfl)
  obtain ⟨cs2,q6',q7',e4⟩:=ih (.fz (.lst ((left.filter fun m=>readyJ m left).map jD))) (.fz (jD l)) (ω ++ cs) fuel (fun m hm=>ok m (List.mem_filter.mp hm).1) (by omega) (by rw [List.length_append,List.length_singleton]; omega) (by omega)
  refine ⟨cs ++ cs2,q6',q7',?_⟩
  have e6:whileGo (truM (vW 4)) (lb_zQ_4 g_zO) (fuel + 1) (jnE k q1 q2 q3 left rows q6 q7) ω=whileGo (truM (vW 4)) (lb_zQ_4 g_zO) fuel (jnE k q1 q2 q3 (left.filter fun m=>!decide (m=l)) (rows ++ [l]) (.fz (.lst ((left.filter fun m=>readyJ m left).map jD))) (.fz (jD l))) (ω ++ cs):=by
   rw [whileGo]
   simp only [e1,e3]
  rw [e6]
  cases res with
  | none =>
   obtain ⟨ρ',e4⟩:=e4
   exact ⟨ρ',by rw [← List.append_assoc]; exact e4⟩
  | some out =>
   show _=some (RS.nx _ (ω ++ (cs ++ cs2)))
   rw [← List.append_assoc]
   exact e4
noncomputable def logsB (logs:List (List Mj)):Bool:=(List.range logs.length).all fun i=>logOk i (logs.getD i [])
noncomputable def meetsB (logs:List (List Mj)):Bool:=(List.range logs.length).all fun i=>(List.range (logs.getD i []).length).all fun t=>meetOk logs ((logs.getD i []).getD t (.non,[]))
theorem meetsB_iff {logs:List (List Mj)}:meetsB logs=true ↔ ∀ l ∈ logs,∀ m ∈ l,meetOk logs m=true:=by
 unfold meetsB
 rw [List.all_eq_true]
 constructor
 · intro h l hl m hm
   obtain ⟨i,hi,rfl⟩:=List.getElem_of_mem hl
   have h1:=h i (List.mem_range.mpr hi)
   rw [show logs.getD i []=logs[i] by rw [List.getD_eq_getElem?_getD,List.getElem?_eq_getElem hi]; rfl,List.all_eq_true] at h1
   obtain ⟨t,ht,rfl⟩:=List.getElem_of_mem hm
   have h2:=h1 t (List.mem_range.mpr ht)
   rwa [show (logs[i]).getD t (.non,[])=(logs[i])[t] by rw [List.getD_eq_getElem?_getD,List.getElem?_eq_getElem ht]; rfl] at h2
 · intro h i hi
   have hi:=List.mem_range.mp hi
   rw [show logs.getD i []=logs[i] by rw [List.getD_eq_getElem?_getD,List.getElem?_eq_getElem hi]; rfl,List.all_eq_true]
   intro t ht
   have ht:=List.mem_range.mp ht
   rw [show (logs[i]).getD t (.non,[])=(logs[i])[t] by rw [List.getD_eq_getElem?_getD,List.getElem?_eq_getElem ht]; rfl]
   exact h _ (List.getElem_mem hi) _ (List.getElem_mem ht)
section
variable {ω:List Cell} {logs:List (List Mj)} {k:Nat} {es:List D}
theorem j_first (L:LogsAt ω k es logs):(logsB logs=true ∧ ∃ q1,forS ((uo lenD (vW 0)).bind rng1) (nmT 1) (lb_zQ_1 g_zL) (startE N_zQ [.oid k]) ω=some (.nx [.fz (.oid k),q1,.no,.no,.no,.no,.no,.no] ω)) ∨
  (logsB logs=false ∧ ∃ ρ',forS ((uo lenD (vW 0)).bind rng1) (nmT 1) (lb_zQ_1 g_zL) (startE N_zQ [.oid k]) ω=some (.exc noJ ρ' ω)):=by
 have lf:=L.few
 have hr:(rangeD 0 logs.length).length=logs.length:=by simp [rangeD]
 have sc:=forGo_scan (T:=nmT 1) (F:=lb_zQ_1 g_zL) (items:=rangeD 0 logs.length) (ω:=ω) (ok:=fun i=>logOk i (logs.getD i [])) (x:=noJ) (fun _ ρ=>∃ q1,ρ=[.fz (.oid k),q1,.no,.no,.no,.no,.no,.no]) (fun t d ρ hd ⟨q1,e⟩=>by
  subst e
  obtain ⟨ht,rfl⟩:=rangeD_get hd
  rw [show (0 + ((t:Nat):Int))=((t:Nat):Int) by omega]
  have hg:logs[t]?=some logs[t]:=List.getElem?_eq_getElem ht
  have gd:logs.getD t []=logs[t]:=by rw [List.getD_eq_getElem?_getD,hg]; rfl
  refine ⟨[.fz (.oid k),.fz (.int (t:Nat)),.no,.no,.no,.no,.no,.no],rfl,?_⟩
  rw [gd]
  rcases c_checklog L hg with ⟨a,b⟩ | ⟨a,b⟩
  · exact .inl ⟨a,[.fz (.oid k),.fz (.int (t:Nat)),.no,.no,.no,.no,.no,.no],by unfold lb_zQ_1; exact exprS_ev (calM_ev (ds:=[.oid k,.int (t:Nat)]) (ω1:=ω) rfl b),_,rfl⟩
  · exact .inr ⟨a,[.fz (.oid k),.fz (.int (t:Nat)),.no,.no,.no,.no,.no,.no],by unfold lb_zQ_1; exact exprS_ex (calM_ex (ds:=[.oid k,.int (t:Nat)]) (ω1:=ω) rfl b)⟩) (ρ:=startE N_zQ [.oid k]) ⟨_,rfl⟩
 rw [hr] at sc
 have hrg:rng1 (.int (logs.length:Nat)) (startE N_zQ [.oid k]) ω=some (.val (rangeD 0 logs.length) ω):=rng1_nat (Nat.le_trans lf (by decide))
 have hlen:uo lenD (vW 0) (startE N_zQ [.oid k]) ω=some (.val (.int (logs.length:Nat)) ω):=uo_ev (x:=.oid k) (ω1:=ω) rfl L.vw (by show some (D.int es.length)=_; rw [L.len])
 have src:((uo lenD (vW 0)).bind rng1) (startE N_zQ [.oid k]) ω=some (.val (rangeD 0 logs.length) ω):=y_bind hlen hrg
 rcases sc with ⟨a,ρ',b,q1,rfl⟩ | ⟨a,ρ',b⟩
 · refine .inl ⟨a,q1,?_⟩
   unfold forS
   rw [bindS_ev src,b]
   rfl
 · refine .inr ⟨a,ρ',?_⟩
   unfold forS
   rw [bindS_ev src,b]
   rfl
theorem j_second (L:LogsAt ω k es logs) (q1:Sl):(meetsB logs=true ∧ ∃ q2 q3,forX ((vF 0).bind stX) (nmT 2) (lb_zQ_3 g_zB) [.fz (.oid k),q1,.no,.no,.no,.no,.no,.no] ω=some (.nx [.fz (.oid k),q1,q2,q3,.no,.no,.no,.no] ω)) ∨
  (meetsB logs=false ∧ ∃ ρ',forX ((vF 0).bind stX) (nmT 2) (lb_zQ_3 g_zB) [.fz (.oid k),q1,.no,.no,.no,.no,.no,.no] ω=some (.exc noJ ρ' ω)):=by
 have lf:=L.few
 have le:=L.len
 have sc:=forXGo_scan (T:=nmT 2) (F:=lb_zQ_3 g_zB) (nx:=nxS k) (ω:=ω) (n:=logs.length) (ok:=fun i=>(List.range (logs.getD i []).length).all fun t=>meetOk logs ((logs.getD i []).getD t (.non,[]))) (x:=noJ)
  (fun _ ρ=>∃ q2 q3,ρ=[.fz (.oid k),q1,q2,q3,.no,.no,.no,.no]) (by omega) (by rw [nxS_at L.at_,List.getElem?_eq_none (by omega)]) (fun t ρ ht ⟨q2,q3,e⟩=>by
   subst e
   have hg:logs[t]?=some logs[t]:=List.getElem?_eq_getElem ht
   have gd:logs.getD t []=logs[t]:=by rw [List.getD_eq_getElem?_getD,hg]; rfl
   obtain ⟨j,_,hj,hes⟩:=L.ix hg
   have hl:=List.getElem_mem ht
   have hs:=L.short _ hl
   rw [gd]
   refine ⟨.oid j,[.fz (.oid k),q1,.fz (.oid j),q3,.no,.no,.no,.no],by rw [nxS_at L.at_,hes],rfl,?_⟩
   have sc2:=forXGo_scan (T:=nmT 3) (F:=lb_zQ_2 g_zB) (nx:=nxS j) (ω:=ω) (n:=(logs[t]).length) (ok:=fun u=>meetOk logs ((logs[t]).getD u (.non,[]))) (x:=noJ)
    (fun _ ρ=>∃ q3,ρ=[.fz (.oid k),q1,.fz (.oid j),q3,.no,.no,.no,.no]) (by omega) (by rw [nxS_at hj,List.getElem?_eq_none (by rw [List.length_map]; exact Nat.le_refl _)]) (fun u ρ hu ⟨q3,e⟩=>by
     subst e
     have hg2:(logs[t])[u]?=some (logs[t])[u]:=List.getElem?_eq_getElem hu
     have gd2:(logs[t]).getD u (.non,[])=(logs[t])[u]:=by rw [List.getD_eq_getElem?_getD,hg2]; rfl
     refine ⟨jD (logs[t])[u],[.fz (.oid k),q1,.fz (.oid j),.fz (jD (logs[t])[u]),.no,.no,.no,.no],by rw [nxS_at hj,List.getElem?_map,hg2]; rfl,rfl,?_⟩
     rw [gd2]
     rcases c_checkmeet L (L.ok _ hl _ (List.getElem_mem hu)) with ⟨a,b⟩ | ⟨a,b⟩
     · exact .inl ⟨a,[.fz (.oid k),q1,.fz (.oid j),.fz (jD (logs[t])[u]),.no,.no,.no,.no],by unfold lb_zQ_2; exact exprS_ev (calM_ev (ds:=[.oid k,jD (logs[t])[u]]) (ω1:=ω) rfl b),_,rfl⟩
     · exact .inr ⟨a,[.fz (.oid k),q1,.fz (.oid j),.fz (jD (logs[t])[u]),.no,.no,.no,.no],by unfold lb_zQ_2; exact exprS_ex (calM_ex (ds:=[.oid k,jD (logs[t])[u]]) (ω1:=ω) rfl b)⟩) (ρ:=[.fz (.oid k),q1,.fz (.oid j),q3,.no,.no,.no,.no]) ⟨_,rfl⟩
   have src:((vF 2).bind stX) [.fz (.oid k),q1,.fz (.oid j),q3,.no,.no,.no,.no] ω=some (.val (nxS j) ω):=y_bind (a:=.oid j) (ω1:=ω) rfl (stX_oid hj)
   rcases sc2 with ⟨a,ρ',b,q3',rfl⟩ | ⟨a,ρ',b⟩
   · refine .inl ⟨a,_,?_,.fz (.oid j),q3',rfl⟩
     unfold lb_zQ_3
     exact (forX_ev src b).trans rfl
   · refine .inr ⟨a,ρ',?_⟩
     unfold lb_zQ_3
     exact (forX_ev src b).trans rfl) (ρ:=[.fz (.oid k),q1,.no,.no,.no,.no,.no,.no]) ⟨_,_,rfl⟩
 have src:((vF 0).bind stX) [.fz (.oid k),q1,.no,.no,.no,.no,.no,.no] ω=some (.val (nxS k) ω):=y_bind (a:=.oid k) (ω1:=ω) rfl (stX_oid L.at_)
 rcases sc with ⟨a,ρ',b,q2,q3,rfl⟩ | ⟨a,ρ',b⟩
 · exact .inl ⟨a,q2,q3,(forX_ev src b).trans rfl⟩
 · exact .inr ⟨a,ρ',(forX_ev src b).trans rfl⟩
theorem c_joined_no (L:LogsAt ω k es logs) (hz:(takenM (allM logs)).length < 64) (hz2:(allM logs).length ≤ 100) (h:logsB logs=false ∨ meetsB logs=false ∨ ¬ (takenM (allM logs)).Nodup):g_zQ [.oid k] ω=some (.exc noJ ω):=by
 rcases j_first L with ⟨a,q1,b⟩ | ⟨a,ρ',b⟩
 · rcases j_second L q1 with ⟨a2,q2,q3,b2⟩ | ⟨a2,ρ',b2⟩
   · have nd:¬ (takenM (allM logs)).Nodup:=by
      rcases h with h | h | h
      · rw [a] at h; cases h
      · rw [a2] at h; cases h
      · exact h
     refine fn_ex (ρ:=[.fz (.oid k),q1,q2,q3,.no,.no,.no,.no]) rfl ?_
     unfold b_zQ
     refine (seqS_nx b).trans ((seqS_nx b2).trans (seqS_ex ?_))
     refine setS_ex (calM_ex (ds:=[.oid k]) (ω1:=ω) rfl ?_)
     rw [c_allmeet L hz hz2,if_neg nd]
   · refine fn_ex (ρ:=ρ') rfl ?_
     unfold b_zQ
     exact (seqS_nx b).trans (seqS_ex b2)
 · refine fn_ex (ρ:=ρ') rfl ?_
   unfold b_zQ
   exact seqS_ex b
theorem c_joined_yes (L:LogsAt ω k es logs) (hz:(takenM (allM logs)).length < 64) (hz2:(allM logs).length ≤ 100) (h1:logsB logs=true) (h2:meetsB logs=true) (h3:(takenM (allM logs)).Nodup) {res:Option (List Mj)} (J:JoinR (allM logs) [] res) (ho:∀ out,res=some out→∀ m ∈ out,MjOk m) :
  ∃ cs,g_zQ [.oid k] ω=some (match res with | some out=>.val (rnJ out) (ω ++ cs) | none=>.exc noJ (ω ++ cs)):=by
 rcases j_first L with ⟨a,q1,b⟩ | ⟨a,_⟩
 · rcases j_second L q1 with ⟨a2,q2,q3,b2⟩ | ⟨a2,_⟩
   · have okA:∀ m ∈ allM logs,MjOk m ∧ (m.2.map Prod.fst).Nodup:=fun m hm=>by
      obtain ⟨l,k1,k2⟩:=allM_mem.mp hm
      have:=meetsB_iff.mp h2 l k1 m k2
      unfold meetOk at this
      rw [Bool.and_eq_true,decide_eq_true_eq] at this
      exact ⟨L.ok l k1 m k2,this.1⟩
     obtain ⟨cs,q6,q7,e⟩:=c_while (k:=k) (q1:=q1) (q2:=q2) (q3:=q3) J .no .no ω 1000 okA hz2 (by simp; omega) (by omega)
     have st:∀ r,seqS (whileGo (truM (vW 4)) (lb_zQ_4 g_zO) 1000) (frz 5 (retS ((consM (vF 5) (M.pure [])).bind (mkG "Run" g_mk_Run)))) (jnE k q1 q2 q3 (allM logs) [] .no .no) ω=r→b_zQ g_zE g_zL g_zB g_zO g_mk_Run (startE N_zQ [.oid k]) ω=r:=fun r h=>by
      unfold b_zQ
      refine (seqS_nx b).trans ((seqS_nx b2).trans ?_)
      refine (seqS_nx (ρ':=[.fz (.oid k),q1,q2,q3,.fz (.lst ((allM logs).map jD)),.no,.no,.no]) (ω':=ω) (setS_ev (calM_ev (ds:=[.oid k]) (ω1:=ω) rfl (by rw [c_allmeet L hz hz2,if_pos h3])))).trans ?_
      exact (seqS_nx (ρ':=jnE k q1 q2 q3 (allM logs) [] .no .no) (ω':=ω) (setO_ev new0)).trans h
     cases res with
     | none =>
      obtain ⟨ρ',e⟩:=e
      exact ⟨cs,fn_ex rfl (st _ (seqS_ex e))⟩
     | some out =>
      refine ⟨cs,fn_rt rfl (st _ ((seqS_nx e).trans ?_))⟩
      refine z_frzO (ρ':=[.fz (.oid k),q1,q2,q3,.fz (.lst []),.fz (.lst (out.map jD)),q6,q7]) rfl rfl ?_
      exact retS_ev (mk_rnJ (ho out rfl) rfl)
   · rw [h2] at a2; cases a2
 · rw [h1] at a; cases a
end
theorem map_erase {α β:Type} (f:α→β):∀ (l:List α) (i:Nat),(l.map f).eraseIdx i=(l.eraseIdx i).map f
 | [],_=>rfl
 | _ :: _,0=>rfl
 | a :: l,i + 1=>by
  show f a :: (l.map f).eraseIdx i=f a :: (l.eraseIdx i).map f
  rw [map_erase f l i]
theorem erase_perm {α:Type}:∀ (l:List α) (i:Nat) (h:i < l.length),(l[i] :: l.eraseIdx i).Perm l
 | [],_,h=>absurd h (Nat.not_lt_zero _)
 | a :: l,0,_=>.refl _
 | a :: l,i + 1,h=>(List.Perm.swap _ _ _).trans ((erase_perm l i (Nat.lt_of_succ_lt_succ h)).cons a)
theorem pops_go {row:List Int} (hr:∀ x ∈ row,0 ≤ x ∧ x < 1000) (hlen:row.length=16) {ω:List Cell} {q2:Sl}:∀ (r s:Nat) (left acc:List Int),left.length=r→s + r ≤ 6→acc.length + r ≤ 6 →
  ∃ out,lcGo [2] (nmT 2) (M.pure true) (popAtM (vF 1) (bo modD (uo intD (bo ixD (vW 0) (bo addD (M.pure (.int 1)) (vW 2)))) (uo lenD (vW 1)))) [.fz (dInts row),.fz (.oid ω.length),q2] ((List.range' s r).map fun i:Nat=>D.int (i:Nat)) (acc.map D.int) (ω ++ [.lst (left.map D.int)])=some ((acc ++ out).map D.int,ω ++ [.lst []]) ∧ out.Perm left:=by
 intro r
 induction r with
 | zero =>
  intro s left acc hl _ _
  obtain rfl:=List.length_eq_zero_iff.mp hl
  exact ⟨[],by simp [lcGo],.refl _⟩
 | succ r ih =>
  intro s left acc hl hs ha
  have hi:1 + s < row.length:=by omega
  have hb:=hr row[1 + s] (List.getElem_mem hi)
  have pos:(0:Int) < (left.length:Nat):=by omega
  have h0:=Int.emod_nonneg row[1 + s] (b:=(left.length:Nat)) (by omega)
  have h1:=Int.emod_lt_of_pos row[1 + s] pos
  have hx:(row[1 + s] % (left.length:Nat)).toNat < left.length:=by omega
  have hg:left[(row[1 + s] % (left.length:Nat)).toNat]?=some left[(row[1 + s] % (left.length:Nat)).toNat]:=List.getElem?_eq_getElem hx
  have hc:(ω ++ [Cell.lst (left.map D.int)])[ω.length]?=some (.lst (left.map D.int)):=by
   rw [List.getElem?_append_right (Nat.le_refl _),Nat.sub_self]
   rfl
  have vl:view (ω ++ [Cell.lst (left.map D.int)]) (.oid ω.length)=some (.lst (left.map D.int)):=by simp only [view,hc]
  obtain ⟨out,e,p⟩:=ih (s + 1) (left.eraseIdx (row[1 + s] % (left.length:Nat)).toNat) (acc ++ [left[(row[1 + s] % (left.length:Nat)).toNat]]) (by rw [List.length_eraseIdx,if_pos hx]; omega) (by omega) (by rw [List.length_append,List.length_singleton]; omega)
  refine ⟨left[(row[1 + s] % (left.length:Nat)).toNat] :: out,?_,?_⟩
  · rw [List.range'_succ,List.map_cons]
    unfold lcGo
    have eT:nmT 2 (D.int (s:Nat)) (wipeE [.fz (dInts row),.fz (.oid ω.length),q2] [2]) (ω ++ [.lst (left.map D.int)])=some [.fz (dInts row),.fz (.oid ω.length),.fz (.int (s:Nat))]:=rfl
    have t1:(M.pure true:M Bool) [.fz (dInts row),.fz (.oid ω.length),.fz (.int (s:Nat))] (ω ++ [.lst (left.map D.int)])=some (.val true (ω ++ [.lst (left.map D.int)])):=rfl
    have il:isLst (.oid ω.length) [.fz (dInts row),.fz (.oid ω.length),.fz (.int (s:Nat))] (ω ++ [.lst (left.map D.int)])=some (.val () (ω ++ [.lst (left.map D.int)])):=by
     unfold isLst
     simp only [vl]
    have ei:bo modD (uo intD (bo ixD (vW 0) (bo addD (M.pure (.int 1)) (vW 2)))) (uo lenD (vW 1)) [.fz (dInts row),.fz (.oid ω.length),.fz (.int (s:Nat))] (ω ++ [.lst (left.map D.int)])=some (.val (.int (row[1 + s] % (left.length:Nat))) (ω ++ [.lst (left.map D.int)])):=by
     refine bo_ev (x:=.int row[1 + s]) (y:=.int (left.length:Nat)) (ω1:=ω ++ [.lst (left.map D.int)]) (uo_ev (x:=.int row[1 + s]) (ω1:=ω ++ [.lst (left.map D.int)]) (bo_ev (x:=dInts row) (y:=.int (1 + (s:Nat))) (ω1:=ω ++ [.lst (left.map D.int)]) rfl (bo_ev (x:=.int 1) (y:=.int (s:Nat)) (ω1:=ω ++ [.lst (left.map D.int)]) rfl rfl rfl rfl (addD_int _ _)) rfl rfl ?_) rfl (intD_int _)) (uo_ev (x:=.oid ω.length) (ω1:=ω ++ [.lst (left.map D.int)]) rfl vl lenD_lstM) rfl rfl (modD_int (by omega))
     refine ixD_lstI (by omega) ?_
     rw [List.getElem?_map,show (1 + ((s:Nat):Int)).toNat=1 + s by omega,List.getElem?_eq_getElem hi]
     rfl
    have ep:=popAtM_ev (fo:=vF 1) (ρ:=[.fz (dInts row),.fz (.oid ω.length),.fz (.int (s:Nat))]) (ω:=ω ++ [.lst (left.map D.int)]) (d:=.int left[(row[1 + s] % (left.length:Nat)).toNat]) rfl il ei hc h0 (by omega) (by rw [List.getElem?_map,hg]; rfl)
    have es:(ω ++ [Cell.lst (left.map D.int)]).set ω.length (Cell.lst ((left.map D.int).eraseIdx (row[1 + s] % (left.length:Nat)).toNat))=ω ++ [Cell.lst ((left.eraseIdx (row[1 + s] % (left.length:Nat)).toNat).map D.int)]:=by
     rw [List.set_append_right _ _ (Nat.le_refl _),Nat.sub_self,map_erase]
     rfl
    rw [es] at ep
    simp only [eT,t1,ep,if_pos (show (acc.map D.int).length < sizeLine by rw [sizeLine_eq,List.length_map]; omega)]
    rw [show acc.map D.int ++ [D.int left[(row[1 + s] % (left.length:Nat)).toNat]]=(acc ++ [left[(row[1 + s] % (left.length:Nat)).toNat]]).map D.int by rw [List.map_append]; rfl,e,List.append_assoc]
    rfl
  · exact (p.cons _).trans (erase_perm left _ hx)
theorem c_machines {row:List Int} (hr:∀ x ∈ row,0 ≤ x ∧ x < 1000) (hlen:row.length=16) (ω:List Cell):∃ (n:Nat) (ms:List Int) (cs:List Cell),3 ≤ n ∧ n ≤ 6 ∧ ms.Perm ((List.range n).map fun i:Nat=>(i:Int)) ∧ g_zC [dInts row] ω=some (.val (dInts ms) (ω ++ cs)):=by
 have h0:0 < row.length:=by omega
 have b0:=hr row[0] (List.getElem_mem h0)
 have hz0:row[0]?=some row[0]:=List.getElem?_eq_getElem h0
 generalize row[0]=z at b0 hz0
 have hn:3 + z % 4=(((3 + z % 4).toNat:Nat):Int):=by omega
 have hn3:3 ≤ (3 + z % 4).toNat ∧ (3 + z % 4).toNat ≤ 6:=by omega
 have e0:bo addD (M.pure (.int 3)) (bo modD (uo intD (bo ixD (vW 0) (M.pure (.int 0)))) (M.pure (.int 4))) (startE N_zC [dInts row]) ω=some (.val (.int (3 + z % 4)) ω) :=
  bo_ev (x:=.int 3) (y:=.int (z % 4)) (ω1:=ω) rfl (bo_ev (x:=.int z) (y:=.int 4) (ω1:=ω) (uo_ev (x:=.int z) (ω1:=ω) (bo_ev (x:=dInts row) (y:=.int 0) (ω1:=ω) rfl rfl rfl rfl (ixD_lst (i:=0) (by rw [List.getElem?_map,hz0]; rfl))) rfl (intD_int _)) rfl rfl rfl (modD_int (by decide))) rfl rfl (addD_int _ _)
 generalize (3 + z % 4).toNat=n at hn hn3
 rw [hn] at e0
 have ez:rangeD 0 n=((List.range n).map fun i:Nat=>(i:Int)).map D.int:=by
  unfold rangeD
  rw [List.map_map]
  refine List.map_congr_left fun i _=>?_
  show D.int (0 + (i:Int))=D.int (i:Int)
  rw [Int.zero_add]
 obtain ⟨out,e,p⟩:=pops_go hr hlen (ω:=ω) (q2:=.no) n 0 ((List.range n).map fun i:Nat=>(i:Int)) [] (by rw [List.length_map,List.length_range]) (by omega) (by simp; omega)
 refine ⟨n,out,[.lst []],hn3.1,hn3.2,p,fn_rt rfl ?_⟩
 unfold b_zC
 refine (seqS_nx (ρ':=[.fz (dInts row),.fz (.oid ω.length),.no]) (ω':=ω ++ [.lst (((List.range n).map fun i:Nat=>(i:Int)).map D.int)]) ?_).trans ?_
 · unfold setN
   have hrg:rgL1 (.int (n:Nat)) (startE N_zC [dInts row]) ω=some (.val (rangeD 0 n) ω):=rgL1_nat (Nat.le_trans hn3.2 (by decide))
   rw [bindS_ev (y_bind e0 hrg),ez]
   rfl
 · refine retS_ev (y_bind (a:=out.map D.int) (ω1:=ω ++ [.lst []]) ?_ rfl)
   unfold cm_zC_1 lcM
   have hc:(ω ++ [Cell.lst (((List.range n).map fun i:Nat=>(i:Int)).map D.int)])[ω.length]?=some (.lst (((List.range n).map fun i:Nat=>(i:Int)).map D.int)):=by
    rw [List.getElem?_append_right (Nat.le_refl _),Nat.sub_self]
    rfl
   have hl:uo lenD (vW 1) [.fz (dInts row),.fz (.oid ω.length),.no] (ω ++ [.lst (((List.range n).map fun i:Nat=>(i:Int)).map D.int)])=some (.val (.int (n:Nat)) (ω ++ [.lst (((List.range n).map fun i:Nat=>(i:Int)).map D.int)])) :=
    uo_ev (x:=.oid ω.length) (x':=.lst (((List.range n).map fun i:Nat=>(i:Int)).map D.int)) (ω1:=ω ++ [.lst (((List.range n).map fun i:Nat=>(i:Int)).map D.int)]) rfl (by simp only [view,hc]) (by rw [lenD_lstM,List.length_map,List.length_range])
   have hrg:rng1 (.int (n:Nat)) [.fz (dInts row),.fz (.oid ω.length),.no] (ω ++ [.lst (((List.range n).map fun i:Nat=>(i:Int)).map D.int)])=some (.val (rangeD 0 n) (ω ++ [.lst (((List.range n).map fun i:Nat=>(i:Int)).map D.int)])):=rng1_nat (Nat.le_trans hn3.2 (by decide))
   refine y_bind (y_bind hl hrg) ?_
   have er:rangeD 0 n=(List.range' 0 n).map fun i:Nat=>D.int (i:Nat):=by
    rw [ez,List.map_map,List.range_eq_range']
    rfl
   rw [er]
   simp only [show ([]:List D)=([]:List Int).map D.int from rfl,e,List.nil_append]
def mkJ (a ta b tb num dr:Int):Mj:=(.tup [.int (dr / 18 % 3),.int num,.int 2],if dr / 9 % 2=1 then [(b,tb,dr / 3 % 3,.int (dr / 2)),(a,ta,dr % 3,.int (dr - 400))] else [(a,ta,dr % 3,.int (dr - 400)),(b,tb,dr / 3 % 3,.int (dr / 2))])
theorem mkJ_mem {a ta b tb num dr:Int} {p:Pj}:p ∈ (mkJ a ta b tb num dr).2 ↔ p=(a,ta,dr % 3,.int (dr - 400)) ∨ p=(b,tb,dr / 3 % 3,.int (dr / 2)):=by
 unfold mkJ
 dsimp only
 split <;> simp [or_comm]
theorem mkJ_ok (a ta b tb num dr:Int):MjOk (mkJ a ta b tb num dr) where
 ch:=⟨rfl,rfl,by simp [mkJ,dep,depL]⟩
 w:=fun p hp=>by
  rcases mkJ_mem.mp hp with rfl | rfl
  · exact ⟨rfl,rfl,by simp [dep]⟩
  · exact ⟨rfl,rfl,by simp [dep]⟩
 few:=by
  unfold mkJ
  dsimp only
  split <;> simp
theorem c_meeting {a ta b tb num dr:Int} (h0:0 ≤ dr) (h1:dr < 1000) (ω:List Cell):g_zG [.tup [.int a,.int ta],.tup [.int b,.int tb],.int num,.int dr] ω=some (.val (jD (mkJ a ta b tb num dr)) ω):=by
 have dv:∀ (z:Int) (ρ:Rho),0 < z→z < 1073741824→ρ[3]?=some (.fz (.int dr))→bo fdivD (vW 3) (M.pure (.int z)) ρ ω=some (.val (.int (dr / z)) ω):=fun z ρ hz hz2 h3=>bo_ev (x:=.int dr) (y:=.int z) (ω1:=ω) (by unfold vW; rw [h3]) rfl rfl rfl (fdivD_r hz hz2)
 refine fn_rt rfl ?_
 unfold b_zG
 rw [show startE N_zG [.tup [.int a,.int ta],.tup [.int b,.int tb],.int num,.int dr]=[.fz (.tup [.int a,.int ta]),.fz (.tup [.int b,.int tb]),.fz (.int num),.fz (.int dr),.no] from rfl]
 refine (seqS_nx (ρ':=[.fz (.tup [.int a,.int ta]),.fz (.tup [.int b,.int tb]),.fz (.int num),.fz (.int dr),.fz (.lst [pjD (a,ta,dr % 3,.int (dr - 400)),pjD (b,tb,dr / 3 % 3,.int (dr / 2))])]) (ω':=ω) (setS_ev (y_bind (a:=[pjD (a,ta,dr % 3,.int (dr - 400)),pjD (b,tb,dr / 3 % 3,.int (dr / 2))]) (ω1:=ω) (y_bind (cons_ev (ω1:=ω) ?_ (cons_ev (ω1:=ω) ?_ rfl)) (lenOk_ev (by simp))) rfl))).trans ?_
 · refine bo_ev (x:=.tup [.int a,.int ta]) (y:=.tup [.int (dr % 3),.int (dr - 400)]) (ω1:=ω) rfl (y_bind (cons_ev (ω1:=ω) (bo_ev (x:=.int dr) (y:=.int 3) (ω1:=ω) (uo_ev (x:=.int dr) (ω1:=ω) rfl rfl (intD_int _)) rfl rfl rfl (modD_int (by decide))) (cons_ev (ω1:=ω) (bo_ev (x:=.int dr) (y:=.int 400) (ω1:=ω) rfl rfl rfl rfl (subD_int _ _)) rfl)) (mkTup_ev (by simp))) rfl rfl (addD_tup (by simp))
 · refine bo_ev (x:=.tup [.int b,.int tb]) (y:=.tup [.int (dr / 3 % 3),.int (dr / 2)]) (ω1:=ω) rfl (y_bind (cons_ev (ω1:=ω) (bo_ev (x:=.int (dr / 3)) (y:=.int 3) (ω1:=ω) (dv 3 _ (by decide) (by decide) rfl) rfl rfl rfl (modD_int (by decide))) (cons_ev (ω1:=ω) (dv 2 _ (by decide) (by decide) rfl) rfl)) (mkTup_ev (by simp))) rfl rfl (addD_tup (by simp))
 have e9:tst (bo eqD (bo modD (bo fdivD (vW 3) (M.pure (.int 9))) (M.pure (.int 2))) (M.pure (.int 1))) [.fz (.tup [.int a,.int ta]),.fz (.tup [.int b,.int tb]),.fz (.int num),.fz (.int dr),.fz (.lst [pjD (a,ta,dr % 3,.int (dr - 400)),pjD (b,tb,dr / 3 % 3,.int (dr / 2))])] ω=some (.val (decide (dr / 9 % 2=1)) ω) :=
  tst_ev (bo_ev (x:=.int (dr / 9 % 2)) (y:=.int 1) (ω1:=ω) (bo_ev (x:=.int (dr / 9)) (y:=.int 2) (ω1:=ω) (dv 9 _ (by decide) (by decide) rfl) rfl rfl rfl (modD_int (by decide))) rfl rfl rfl (eqD_int _ _))
 have fin:∀ ps:List Pj,retS ((consM ((consM (bo modD (bo fdivD (vW 3) (M.pure (.int 18))) (M.pure (.int 3))) (consM (vF 2) (consM (M.pure (.int 2)) (M.pure [])))).bind mkTup) (consM (uo tupleD (vW 4)) (M.pure []))).bind mkTup) [.fz (.tup [.int a,.int ta]),.fz (.tup [.int b,.int tb]),.fz (.int num),.fz (.int dr),.fz (.lst (ps.map pjD))] ω=some (.rt (jD (.tup [.int (dr / 18 % 3),.int num,.int 2],ps)) ω):=fun ps=>by
  refine retS_ev (y_bind (cons_ev (ω1:=ω) (y_bind (cons_ev (ω1:=ω) (bo_ev (x:=.int (dr / 18)) (y:=.int 3) (ω1:=ω) (dv 18 _ (by decide) (by decide) rfl) rfl rfl rfl (modD_int (by decide))) (cons_ev (d:=.int num) (ω1:=ω) rfl (cons_ev (d:=.int 2) (ω1:=ω) rfl rfl))) (mkTup_ev (by simp))) (cons_ev (ω1:=ω) (uo_ev (x:=.lst (ps.map pjD)) (ω1:=ω) rfl rfl rfl) rfl)) (mkTup_ev (by simp)))
 unfold mkJ
 by_cases h:dr / 9 % 2=1
 · rw [decide_eq_true h] at e9
   rw [if_pos h]
   refine (seqS_nx (ρ':=[.fz (.tup [.int a,.int ta]),.fz (.tup [.int b,.int tb]),.fz (.int num),.fz (.int dr),.fz (.lst [pjD (b,tb,dr / 3 % 3,.int (dr / 2)),pjD (a,ta,dr % 3,.int (dr - 400))])]) (ω':=ω) ((ifS_t e9).trans (setS_ev (uo_ev (g:=revD) (x:=.lst [pjD (a,ta,dr % 3,.int (dr - 400)),pjD (b,tb,dr / 3 % 3,.int (dr / 2))]) (ω1:=ω) rfl rfl rfl)))).trans ?_
   exact fin [(b,tb,dr / 3 % 3,.int (dr / 2)),(a,ta,dr % 3,.int (dr - 400))]
 · rw [decide_eq_false h] at e9
   rw [if_neg h]
   refine (seqS_nx ((ifS_f e9).trans rfl)).trans ?_
   exact fin [(a,ta,dr % 3,.int (dr - 400)),(b,tb,dr / 3 % 3,.int (dr / 2))]
def linkJ (ms row:List Int) (ring:Bool) (k:Nat):Mj:=mkJ (ms.getD k 0) 0 (ms.getD ((k + 1) % ms.length) 0) (if ring=true ∨ (k + 1) % ms.length < ms.length - 1 then 1 else 0) (k:Nat) (row.getD (8 + k) 0)
def linksJ (ms row:List Int) (ring:Bool):List Mj:=(List.range (if ring=true then ms.length else ms.length - 1)).map (linkJ ms row ring)
theorem c_links {ms row:List Int} (hr:∀ x ∈ row,0 ≤ x ∧ x < 1000) (hlen:row.length=16) (h3:3 ≤ ms.length) (h6:ms.length ≤ 6) (ring:Bool) (ω:List Cell):g_zK [dInts ms,dInts row,.bl ring] ω=some (.val (.lst ((linksJ ms row ring).map jD)) ω):=by
 have ml:lenD (dInts ms)=some (.int (ms.length:Nat)):=lenD_lstM
 have hN:∃ N:Nat,N=(if ring=true then ms.length else ms.length - 1) ∧ N ≤ ms.length:=⟨_,rfl,by split <;> omega⟩
 obtain ⟨N,eN,hNm⟩:=hN
 obtain ⟨ρ',ω',e,q5,q6,q7,rfl,rfl⟩:=forGo_thru (T:=nmT 5) (F:=lb_zK_1 g_zG)
  (fun i ρ ω'=>∃ (q5 q6 q7:Sl),ρ=[.fz (dInts ms),.fz (dInts row),.fz (.bl ring),.fz (.int (ms.length:Nat)),.ow (((List.range i).map (linkJ ms row ring)).map jD),q5,q6,q7] ∧ ω'=ω)
  (items:=rangeD 0 N) (ρ:=[.fz (dInts ms),.fz (dInts row),.fz (.bl ring),.fz (.int (ms.length:Nat)),.ow [],.no,.no,.no]) (ω:=ω) ⟨.no,.no,.no,rfl,rfl⟩ (by
   rintro k d ρ ω' hd ⟨q5,q6,q7,rfl,rfl⟩
   obtain ⟨hk,rfl⟩:=rangeD_get hd
   rw [show (0 + ((k:Nat):Int))=((k:Nat):Int) by omega]
   have hk2:k < ms.length:=by omega
   have hm:((k:Nat) + 1:Int) % (ms.length:Nat)=(((k + 1) % ms.length:Nat):Int):=by rw [Int.natCast_emod]; rfl
   have hl:(k + 1) % ms.length < ms.length:=Nat.mod_lt _ (by omega)
   have h8:8 + k < row.length:=by omega
   have b8:=hr row[8 + k] (List.getElem_mem h8)
   have g8:row.getD (8 + k) 0=row[8 + k]:=by rw [List.getD_eq_getElem?_getD,List.getElem?_eq_getElem h8]; rfl
   refine ⟨[.fz (dInts ms),.fz (dInts row),.fz (.bl ring),.fz (.int (ms.length:Nat)),.ow (((List.range k).map (linkJ ms row ring)).map jD),.fz (.int (k:Nat)),q6,q7],[.fz (dInts ms),.fz (dInts row),.fz (.bl ring),.fz (.int (ms.length:Nat)),.ow (((List.range (k + 1)).map (linkJ ms row ring)).map jD),.fz (.int (k:Nat)),.fz (.int ((k + 1) % ms.length:Nat)),.fz (.int (if ring=true ∨ (k + 1) % ms.length < ms.length - 1 then 1 else 0))],ω',rfl,?_,_,_,_,rfl,rfl⟩
   unfold lb_zK_1
   refine (seqS_nx (ρ':=[.fz (dInts ms),.fz (dInts row),.fz (.bl ring),.fz (.int (ms.length:Nat)),.ow (((List.range k).map (linkJ ms row ring)).map jD),.fz (.int (k:Nat)),.fz (.int ((k + 1) % ms.length:Nat)),q7]) (ω':=ω') (setS_ev ?_)).trans ?_
   · rw [← hm]
     exact bo_ev (x:=.int ((k:Nat) + 1)) (y:=.int (ms.length:Nat)) (ω1:=ω') (uo_ev (x:=.int ((k:Nat) + 1)) (ω1:=ω') (bo_ev (x:=.int (k:Nat)) (y:=.int 1) (ω1:=ω') rfl rfl rfl rfl (addD_int _ _)) rfl (intD_int _)) rfl rfl rfl (modD_int (by omega))
   refine (seqS_nx (ρ':=[.fz (dInts ms),.fz (dInts row),.fz (.bl ring),.fz (.int (ms.length:Nat)),.ow (((List.range k).map (linkJ ms row ring)).map jD),.fz (.int (k:Nat)),.fz (.int ((k + 1) % ms.length:Nat)),.fz (.int (if ring=true ∨ (k + 1) % ms.length < ms.length - 1 then 1 else 0))]) (ω':=ω') (setS_ev ?_)).trans ?_
   · have e1:orV (vF 2) (bo ltD (vW 6) (bo subD (vW 3) (M.pure (.int 1)))) [.fz (dInts ms),.fz (dInts row),.fz (.bl ring),.fz (.int (ms.length:Nat)),.ow (((List.range k).map (linkJ ms row ring)).map jD),.fz (.int (k:Nat)),.fz (.int ((k + 1) % ms.length:Nat)),q7] ω'=some (.val (.bl (ring || decide ((((k + 1) % ms.length:Nat):Int) < (ms.length:Nat) - 1))) ω') :=
      orV_ev (b:=ring) rfl (bo_ev (x:=.int ((k + 1) % ms.length:Nat)) (y:=.int ((ms.length:Nat) - 1)) (ω1:=ω') rfl (bo_ev (x:=.int (ms.length:Nat)) (y:=.int 1) (ω1:=ω') rfl rfl rfl rfl (subD_int _ _)) rfl rfl (ltD_d _ _))
     refine uo_ev e1 rfl ?_
     rw [intD_bl]
     congr 2
     have:((ring || decide ((((k + 1) % ms.length:Nat):Int) < (ms.length:Nat) - 1))=true) ↔ (ring=true ∨ (k + 1) % ms.length < ms.length - 1):=by
      rw [Bool.or_eq_true,decide_eq_true_eq]
      constructor
      · rintro (h | h)
        · exact .inl h
        · exact .inr (by omega)
      · rintro (h | h)
        · exact .inl h
        · exact .inr (by omega)
     by_cases c:ring=true ∨ (k + 1) % ms.length < ms.length - 1
     · rw [if_pos c,if_pos (this.mpr c)]
     · rw [if_neg c,if_neg (fun z=>c (this.mp z))]
   rw [appS_ev (es:=((List.range k).map (linkJ ms row ring)).map jD) (d:=jD (linkJ ms row ring k)) (ω':=ω') rfl ?_ (by rw [sizeLine_eq,List.length_map,List.length_map,List.length_range]; omega)]
   · rw [List.range_succ,List.map_append,List.map_append]
     rfl
   · have ix1:ixD (dInts ms) (.int (k:Nat))=some (.int (ms.getD k 0)):=ixD_lst (by rw [List.getElem?_map,List.getD_eq_getElem?_getD,List.getElem?_eq_getElem hk2]; rfl)
     have ix2:ixD (dInts ms) (.int ((k + 1) % ms.length:Nat))=some (.int (ms.getD ((k + 1) % ms.length) 0)):=ixD_lst (by rw [List.getElem?_map,List.getD_eq_getElem?_getD,List.getElem?_eq_getElem hl]; rfl)
     refine calM_ev (ds:=[.tup [.int (ms.getD k 0),.int 0],.tup [.int (ms.getD ((k + 1) % ms.length) 0),.int (if ring=true ∨ (k + 1) % ms.length < ms.length - 1 then 1 else 0)],.int (k:Nat),.int (row.getD (8 + k) 0)]) (ω1:=ω') ?_ (c_meeting (by rw [g8]; exact b8.1) (by rw [g8]; exact b8.2) ω')
     refine cons_ev (ω1:=ω') (y_bind (cons_ev (ω1:=ω') (bo_ev (x:=dInts ms) (y:=.int (k:Nat)) (ω1:=ω') rfl rfl rfl rfl ix1) (cons_ev (d:=.int 0) (ω1:=ω') rfl rfl)) (mkTup_ev (by simp))) (cons_ev (ω1:=ω') (y_bind (cons_ev (ω1:=ω') (bo_ev (x:=dInts ms) (y:=.int ((k + 1) % ms.length:Nat)) (ω1:=ω') rfl rfl rfl rfl ix2) (cons_ev (ω1:=ω') rfl rfl)) (mkTup_ev (by simp))) (cons_ev (d:=.int (k:Nat)) (ω1:=ω') rfl (cons_ev (ω1:=ω') (bo_ev (x:=dInts row) (y:=.int (8 + (k:Nat))) (ω1:=ω') rfl (bo_ev (x:=.int 8) (y:=.int (k:Nat)) (ω1:=ω') rfl rfl rfl rfl (addD_int _ _)) rfl rfl ?_) rfl)))
     refine ixD_lstI (by omega) ?_
     rw [List.getElem?_map,show (8 + ((k:Nat):Int)).toNat=8 + k by omega,List.getElem?_eq_getElem h8,g8]
     rfl)
 have hr2:(rangeD 0 N).length=N:=by simp [rangeD]
 rw [hr2] at e
 refine fn_rt rfl ?_
 unfold b_zK
 refine (seqS_nx (ρ':=[.fz (dInts ms),.fz (dInts row),.fz (.bl ring),.fz (.int (ms.length:Nat)),.no,.no,.no,.no]) (ω':=ω') (setS_ev (uo_ev (x:=dInts ms) (ω1:=ω') rfl rfl ml))).trans ?_
 refine (seqS_nx (ρ':=[.fz (dInts ms),.fz (dInts row),.fz (.bl ring),.fz (.int (ms.length:Nat)),.ow [],.no,.no,.no]) (ω':=ω') (setO_ev new0)).trans ?_
 have en:bo subD (vW 3) (uo intD (notV (vF 2))) [.fz (dInts ms),.fz (dInts row),.fz (.bl ring),.fz (.int (ms.length:Nat)),.ow [],.no,.no,.no] ω'=some (.val (.int (N:Nat)) ω'):=by
  refine bo_ev (x:=.int (ms.length:Nat)) (y:=.int (if (!ring)=true then 1 else 0)) (ω1:=ω') rfl (uo_ev (x:=.bl !ring) (ω1:=ω') (notV_ev (b:=ring) rfl) rfl (intD_bl _)) rfl rfl ?_
  rw [subD_int,eN]
  cases ring with
  | true=>simp
  | false =>
   simp
   omega
 have hrg:rng1 (.int (N:Nat)) [.fz (dInts ms),.fz (dInts row),.fz (.bl ring),.fz (.int (ms.length:Nat)),.ow [],.no,.no,.no] ω'=some (.val (rangeD 0 N) ω'):=rng1_nat (Nat.le_trans (Nat.le_trans hNm h6) (by decide))
 refine (seqS_nx (forS_nx (y_bind en hrg) e)).trans ?_
 refine z_frzO (ρ':=[.fz (dInts ms),.fz (dInts row),.fz (.bl ring),.fz (.int (ms.length:Nat)),.fz (.lst (((List.range N).map (linkJ ms row ring)).map jD)),q5,q6,q7]) rfl rfl ?_
 refine (retS_ev (d:=.lst (((List.range N).map (linkJ ms row ring)).map jD)) (ω':=ω') rfl).trans ?_
 unfold linksJ
 rw [← eN]
abbrev oids (b n:Nat):List D:=(List.range' b n).map D.oid
abbrev St (ω:List Cell) (ls:List (List Mj)):List Cell:=ω ++ ls.map (fun l=>Cell.lst (l.map jD)) ++ [.lst (oids ω.length ls.length)]
theorem news_go {vs:List Nat} {T:TT1} {ρ:Rho} (hT:∀ d ω,∃ ρ1,T d (wipeE ρ vs) ω=some ρ1):∀ (items:List D) (acc:List D) (ω:List Cell),acc.length + items.length ≤ 1000 →
  lcGo vs T (M.pure true) (((M.pure []).bind lenOk).bind newS) ρ items acc ω=some (acc ++ oids ω.length items.length,ω ++ List.replicate items.length (Cell.lst []))
 | [],acc,ω,_=>by simp [lcGo]
 | d :: items,acc,ω,h=>by
  obtain ⟨ρ1,e⟩:=hT d ω
  rw [List.length_cons] at h
  unfold lcGo
  have t1:(M.pure true:M Bool) ρ1 ω=some (.val true ω):=rfl
  have en:(((M.pure []).bind lenOk).bind newS) ρ1 ω=some (.val (.oid ω.length) (ω ++ [Cell.lst []])):=newS_at new0
  simp only [e,t1,en,if_pos (show acc.length < sizeLine by rw [sizeLine_eq]; omega)]
  rw [news_go hT items _ _ (by rw [List.length_append,List.length_singleton]; omega)]
  rw [List.length_append,List.length_singleton,List.append_assoc,List.append_assoc,List.length_cons,List.replicate_succ]
  unfold oids
  rw [List.range'_succ]
  rfl
theorem St_at {ω:List Cell} {ls:List (List Mj)}:(St ω ls)[ω.length + ls.length]?=some (.lst (oids ω.length ls.length)):=by
 unfold St
 rw [List.getElem?_append_right (by simp),List.length_append,List.length_map,Nat.sub_self]
 rfl
theorem St_log {ω:List Cell} {ls:List (List Mj)} {i:Nat} {l:List Mj} (h:ls[i]?=some l):(St ω ls)[ω.length + i]?=some (.lst (l.map jD)):=by
 have hi:=(List.getElem?_eq_some_iff.mp h).1
 unfold St
 rw [List.getElem?_append_left (by rw [List.length_append,List.length_map]; omega),List.getElem?_append_right (by omega),Nat.add_sub_cancel_left,List.getElem?_map,h]
 rfl
theorem oids_at {b n i:Nat} (h:i < n):(oids b n)[i]?=some (.oid (b + i)):=by
 unfold oids
 rw [List.getElem?_map,List.getElem?_range' h,Nat.one_mul]
 rfl
theorem St_set {ω:List Cell} {ls:List (List Mj)} {i:Nat} (l:List Mj) (h:i < ls.length):(St ω ls).set (ω.length + i) (.lst (l.map jD))=St ω (ls.set i l):=by
 unfold St
 rw [List.set_append_left _ _ (by rw [List.length_append,List.length_map]; omega),List.set_append_right _ _ (by omega),Nat.add_sub_cancel_left,List.length_set,List.map_set]
theorem St_logs {ω:List Cell} {ls:List (List Mj)} (ok:∀ l ∈ ls,∀ m ∈ l,MjOk m) (few:ls.length ≤ 10) (short:∀ l ∈ ls,l.length ≤ 100):LogsAt (St ω ls) (ω.length + ls.length) (oids ω.length ls.length) ls :=
 ⟨St_at,by simp,fun i l h=>⟨ω.length + i,oids_at (List.getElem?_eq_some_iff.mp h).1,St_log h⟩,ok,few,short⟩
def putP (t:Int) (m:Mj) (ls:List (List Mj)) (p:Pj):List (List Mj):=if p.2.1=t then ls.set p.1.toNat (ls.getD p.1.toNat [] ++ [m]) else ls
def putM (t:Int) (ls:List (List Mj)) (m:Mj):List (List Mj):=m.2.foldl (putP t m) ls
def logsT (ms:List Mj) (t:Int) (ls:List (List Mj)):List (List Mj):=ms.foldl (putM t) ls
def logsJ (ms:List Mj) (n:Nat):List (List Mj):=logsT ms 1 (logsT ms 0 (List.replicate n []))
theorem putP_len (t:Int) (m:Mj) (ls:List (List Mj)) (p:Pj):(putP t m ls p).length=ls.length:=by unfold putP; split <;> simp
theorem putPs_len (t:Int) (m:Mj):∀ (ps:List Pj) (ls:List (List Mj)),(ps.foldl (putP t m) ls).length=ls.length
 | [],_=>rfl
 | p :: ps,ls=>by rw [List.foldl_cons,putPs_len t m ps,putP_len]
theorem putMs_len (t:Int):∀ (ms:List Mj) (ls:List (List Mj)),(logsT ms t ls).length=ls.length
 | [],_=>rfl
 | m :: ms,ls=>by
  show (logsT ms t (putM t ls m)).length=_
  rw [putMs_len t ms]
  exact putPs_len t m m.2 ls
theorem getD_set {ls:List (List Mj)} {i j:Nat} {l:List Mj} (h:i < ls.length):(ls.set i l).getD j []=if i=j then l else ls.getD j []:=by
 rw [List.getD_eq_getElem?_getD,List.getElem?_set]
 split
 · rename_i e
   subst e
   first | rfl | (rw [if_pos h]; rfl)
 · rw [List.getD_eq_getElem?_getD]
theorem putP_at {t:Int} {m:Mj} {ls:List (List Mj)} {p:Pj} (h0:0 ≤ p.1) (h:p.1 < (ls.length:Nat)) (i:Nat):(putP t m ls p).getD i []=ls.getD i [] ++ (if p.2.1=t ∧ p.1=(i:Nat) then [m] else []):=by
 unfold putP
 by_cases e:p.2.1=t
 · rw [if_pos e,getD_set (by omega)]
   by_cases e2:p.1.toNat=i
   · rw [if_pos e2,if_pos ⟨e,by omega⟩,e2]
   · rw [if_neg e2,if_neg (fun z=>e2 (by omega)),List.append_nil]
 · rw [if_neg e,if_neg (fun z=>e z.1),List.append_nil]
def hitP (t:Int) (i:Nat) (m:Mj) (ps:List Pj):List Mj:=ps.flatMap fun p:Pj=>if p.2.1=t ∧ p.1=((i:Nat):Int) then [m] else []
theorem putPs_at {t:Int} {m:Mj} (i:Nat):∀ {ps:List Pj} {ls:List (List Mj)},(∀ p ∈ ps,0 ≤ p.1 ∧ p.1 < (ls.length:Nat))→(ps.foldl (putP t m) ls).getD i []=ls.getD i [] ++ hitP t i m ps
 | [],ls,_=>by simp [hitP]
 | p :: ps,ls,h=>by
  have hp:=h p (List.mem_cons_self ..)
  rw [List.foldl_cons,putPs_at i fun q hq=>by rw [putP_len]; exact h q (List.mem_cons_of_mem _ hq),putP_at hp.1 hp.2]
  unfold hitP
  rw [List.flatMap_cons,List.append_assoc]
def hitM (t:Int) (i:Nat) (ms:List Mj):List Mj:=ms.flatMap fun m=>hitP t i m m.2
theorem logsT_at {t:Int} (i:Nat):∀ {ms:List Mj} {ls:List (List Mj)},(∀ m ∈ ms,∀ p ∈ m.2,0 ≤ p.1 ∧ p.1 < (ls.length:Nat))→(logsT ms t ls).getD i []=ls.getD i [] ++ hitM t i ms
 | [],ls,_=>by simp [logsT,hitM]
 | m :: ms,ls,h=>by
  show (logsT ms t (putM t ls m)).getD i []=_
  have hl:(putM t ls m).length=ls.length:=putPs_len t m m.2 ls
  rw [logsT_at i fun q hq=>by rw [hl]; exact h q (List.mem_cons_of_mem _ hq)]
  unfold putM
  rw [putPs_at i (h m (List.mem_cons_self ..))]
  unfold hitM
  rw [List.flatMap_cons,List.append_assoc]
theorem logsJ_len (ms:List Mj) (n:Nat):(logsJ ms n).length=n:=by
 unfold logsJ
 rw [putMs_len,putMs_len,List.length_replicate]
theorem logsJ_at {ms:List Mj} {n:Nat} (h:∀ m ∈ ms,∀ p ∈ m.2,0 ≤ p.1 ∧ p.1 < (n:Nat)) (i:Nat):(logsJ ms n).getD i []=hitM 0 i ms ++ hitM 1 i ms:=by
 unfold logsJ
 rw [logsT_at i (by rw [putMs_len,List.length_replicate]; exact h),logsT_at i (by rw [List.length_replicate]; exact h)]
 have:(List.replicate n ([]:List Mj)).getD i []=[]:=by
  rw [List.getD_eq_getElem?_getD,List.getElem?_replicate]
  split <;> rfl
 rw [this,List.nil_append]
theorem hitP_mem {t:Int} {i:Nat} {m x:Mj} {ps:List Pj}:x ∈ hitP t i m ps ↔ x=m ∧ ∃ p ∈ ps,p.2.1=t ∧ p.1=(i:Nat):=by
 unfold hitP
 rw [List.mem_flatMap]
 constructor
 · rintro ⟨p,hp,hx⟩
   split at hx
   · rename_i c
     exact ⟨List.mem_singleton.mp hx,p,hp,c⟩
   · cases hx
 · rintro ⟨rfl,p,hp,c⟩
   exact ⟨p,hp,by rw [if_pos c]; exact List.mem_singleton.mpr rfl⟩
theorem hitM_mem {t:Int} {i:Nat} {x:Mj} {ms:List Mj}:x ∈ hitM t i ms ↔ x ∈ ms ∧ ∃ p ∈ x.2,p.2.1=t ∧ p.1=(i:Nat):=by
 unfold hitM
 rw [List.mem_flatMap]
 constructor
 · rintro ⟨m,hm,hx⟩
   obtain ⟨rfl,h⟩:=hitP_mem.mp hx
   exact ⟨hm,h⟩
 · rintro ⟨hm,h⟩
   exact ⟨x,hm,hitP_mem.mpr ⟨rfl,h⟩⟩
theorem hitP_len (t:Int) (i:Nat) (m:Mj):∀ ps:List Pj,(hitP t i m ps).length ≤ ps.length
 | []=>Nat.le_refl _
 | p :: ps=>by
  have:=hitP_len t i m ps
  unfold hitP at this ⊢
  rw [List.flatMap_cons,List.length_append,List.length_cons]
  split
  · rw [List.length_singleton]; omega
  · rw [List.length_nil]; omega
theorem hitM_len {t:Int} {i:Nat}:∀ {ms:List Mj},(∀ m ∈ ms,MjOk m)→(hitM t i ms).length ≤ ms.length * 8
 | [],_=>Nat.le_refl _
 | m :: ms,h=>by
  have h1:=hitP_len t i m m.2
  have h2:=(h m (List.mem_cons_self ..)).few
  have h3:=hitM_len (t:=t) (i:=i) fun q hq=>h q (List.mem_cons_of_mem _ hq)
  unfold hitM at h3 ⊢
  rw [List.flatMap_cons,List.length_append,List.length_cons]
  omega
theorem of_getD {ls:List (List Mj)} {l:List Mj} (h:l ∈ ls):∃ i,i < ls.length ∧ ls[i]?=some l ∧ ls.getD i []=l:=by
 obtain ⟨i,hi,rfl⟩:=List.getElem_of_mem h
 exact ⟨i,hi,List.getElem?_eq_getElem hi,by rw [List.getD_eq_getElem?_getD,List.getElem?_eq_getElem hi]; rfl⟩
theorem logsJ_ok {ms:List Mj} {n:Nat} (ok:∀ m ∈ ms,MjOk m) (h:∀ m ∈ ms,∀ p ∈ m.2,0 ≤ p.1 ∧ p.1 < (n:Nat)) (hl:ms.length ≤ 6):(∀ l ∈ logsJ ms n,∀ m ∈ l,MjOk m ∧ m ∈ ms) ∧ ∀ l ∈ logsJ ms n,l.length ≤ 100:=by
 refine ⟨fun l hl m hm=>?_,fun l hl2=>?_⟩
 · obtain ⟨i,_,_,e⟩:=of_getD hl
   rw [logsJ_at h] at e
   subst e
   have hx:m ∈ ms:=(List.mem_append.mp hm).elim (fun z=>(hitM_mem.mp z).1) fun z=>(hitM_mem.mp z).1
   exact ⟨ok m hx,hx⟩
 · obtain ⟨i,_,_,e⟩:=of_getD hl2
   rw [logsJ_at h] at e
   subst e
   have h1:=hitM_len (t:=0) (i:=i) ok
   have h2:=hitM_len (t:=1) (i:=i) ok
   rw [List.length_append]
   omega
theorem putP_short {t:Int} {m:Mj} {ls:List (List Mj)} {p:Pj} {c:Nat} (h:∀ l ∈ ls,l.length ≤ c):∀ l ∈ putP t m ls p,l.length ≤ c + 1:=by
 intro l hl
 unfold putP at hl
 split at hl
 · rcases List.mem_or_eq_of_mem_set hl with hl | rfl
   · have:=h l hl; omega
   · rw [List.length_append,List.length_singleton,List.getD_eq_getElem?_getD]
     cases q:ls[p.1.toNat]? with
     | none=>simp
     | some l=>have:=h l (List.mem_of_getElem? q); simp; omega
 · have:=h l hl; omega
theorem putPs_short {t:Int} {m:Mj}:∀ {ps:List Pj} {ls:List (List Mj)} {c:Nat},(∀ l ∈ ls,l.length ≤ c)→∀ l ∈ ps.foldl (putP t m) ls,l.length ≤ c + ps.length
 | [],ls,c,h=>h
 | p :: ps,ls,c,h=>fun l hl=>by
  rw [List.foldl_cons] at hl
  have:=putPs_short (putP_short h) l hl
  rw [List.length_cons]
  omega
theorem logsT_short {t:Int}:∀ {ms:List Mj} {ls:List (List Mj)} {c:Nat},(∀ m ∈ ms,MjOk m)→(∀ l ∈ ls,l.length ≤ c)→∀ l ∈ logsT ms t ls,l.length ≤ c + 8 * ms.length
 | [],ls,c,_,h=>h
 | m :: ms,ls,c,ok,h=>fun l hl=>by
  have h1:=(ok m (List.mem_cons_self ..)).few
  have h2:∀ l ∈ putM t ls m,l.length ≤ c + 8:=fun l hl=>Nat.le_trans (putPs_short h l hl) (by omega)
  have:=logsT_short (fun q hq=>ok q (List.mem_cons_of_mem _ hq)) h2 l hl
  rw [List.length_cons]
  omega
abbrev lgE (ms:List Mj) (n k:Nat) (q3 q4 q5 q6:Sl):Rho:=[.fz (.lst (ms.map jD)),.fz (.int (n:Nat)),.fz (.oid k),q3,q4,q5,q6]
section
variable {ω:List Cell} {ms:List Mj} {n:Nat}
theorem lg_parts {t:Int} {m:Mj} {ls:List (List Mj)} {c:Nat} (hm:∀ p ∈ m.2,0 ≤ p.1 ∧ p.1 < (n:Nat)) (few:m.2.length ≤ 8) (hn:ls.length=n) (hc:∀ l ∈ ls,l.length ≤ c) (hc2:c ≤ 1000) (q5:Sl) :
  ∃ q5',forGo (nmT 5) lb_zM_1 (m.2.map pjD) (lgE ms n (ω.length + n) (.fz (.int t)) (.fz (jD m)) q5 .no) (St ω ls)=some (.nx (lgE ms n (ω.length + n) (.fz (.int t)) (.fz (jD m)) q5' .no) (St ω (putM t ls m))):=by
 obtain ⟨ρ',ω',e,q,rfl,rfl⟩:=forGo_thru (T:=nmT 5) (F:=lb_zM_1)
  (fun i ρ ω'=>∃ q5,ρ=lgE ms n (ω.length + n) (.fz (.int t)) (.fz (jD m)) q5 .no ∧ ω'=St ω ((m.2.take i).foldl (putP t m) ls))
  (items:=m.2.map pjD) (ρ:=lgE ms n (ω.length + n) (.fz (.int t)) (.fz (jD m)) q5 .no) (ω:=St ω ls) ⟨q5,rfl,rfl⟩ (by
   rintro i d ρ ω' hd ⟨q5,rfl,rfl⟩
   rw [List.getElem?_map] at hd
   obtain ⟨p,hp,rfl⟩:=Option.map_eq_some_iff.mp hd
   have hmem:=List.mem_of_getElem? hp
   obtain ⟨h0,h1⟩:=hm p hmem
   refine ⟨lgE ms n (ω.length + n) (.fz (.int t)) (.fz (jD m)) (.fz (pjD p)) .no,lgE ms n (ω.length + n) (.fz (.int t)) (.fz (jD m)) (.fz (pjD p)) .no,St ω ((m.2.take (i + 1)).foldl (putP t m) ls),rfl,?_,_,rfl,rfl⟩
   have e1:(m.2.take (i + 1)).foldl (putP t m) ls=putP t m ((m.2.take i).foldl (putP t m) ls) p:=by
    rw [List.take_succ,hp,List.foldl_append]
    rfl
   rw [e1]
   have hcs:=putPs_short (t:=t) (m:=m) (ps:=m.2.take i) hc
   have hll:((m.2.take i).foldl (putP t m) ls).length=n:=by rw [putPs_len,hn]
   have ht:(m.2.take i).length ≤ 8:=by rw [List.length_take]; omega
   generalize (m.2.take i).foldl (putP t m) ls=zs at hcs hll
   have et:tst (bo eqD (bo ixD (vW 5) (M.pure (.int 1))) (vW 3)) (lgE ms n (ω.length + n) (.fz (.int t)) (.fz (jD m)) (.fz (pjD p)) .no) (St ω zs)=some (.val (decide (p.2.1=t)) (St ω zs)) :=
    tst_ev (bo_ev (x:=.int p.2.1) (y:=.int t) (ω1:=St ω zs) (bo_ev (x:=pjD p) (y:=.int 1) (ω1:=St ω zs) rfl rfl rfl rfl (ixD_t1 _ _ _)) rfl rfl rfl (eqD_int _ _))
   unfold lb_zM_1 putP
   by_cases c1:p.2.1=t
   · rw [decide_eq_true c1] at et
     rw [ifS_t et,if_pos c1]
     have hi:p.1.toNat < zs.length:=by omega
     have hg:zs[p.1.toNat]?=some zs[p.1.toNat]:=List.getElem?_eq_getElem hi
     have gd:zs.getD p.1.toNat []=zs[p.1.toNat]:=by rw [List.getD_eq_getElem?_getD,hg]; rfl
     have hcell:=St_log (ω:=ω) hg
     have hat:=St_at (ω:=ω) (ls:=zs)
     rw [hll] at hat
     have vk:view (St ω zs) (.oid (ω.length + n))=some (.lst (oids ω.length n)):=by simp only [view,hat]
     have ex:bo ixD (vW 2) (bo ixD (vW 5) (M.pure (.int 0))) (lgE ms n (ω.length + n) (.fz (.int t)) (.fz (jD m)) (.fz (pjD p)) .no) (St ω zs)=some (.val (.oid (ω.length + p.1.toNat)) (St ω zs)) :=
      bo_ev (x:=.oid (ω.length + n)) (y:=.int p.1) (ω1:=St ω zs) rfl (bo_ev (x:=pjD p) (y:=.int 0) (ω1:=St ω zs) rfl rfl rfl rfl (ixD_t0 _ _)) vk rfl (ixD_lstI h0 (oids_at (by omega)))
     have il:isLst (.oid (ω.length + p.1.toNat)) (lgE ms n (ω.length + n) (.fz (.int t)) (.fz (jD m)) (.fz (pjD p)) .no) (St ω zs)=some (.val () (St ω zs)):=by
      unfold isLst
      simp only [view,hcell]
     have hz:=hcs _ (List.getElem_mem hi)
     have ea:appM (bo ixD (vW 2) (bo ixD (vW 5) (M.pure (.int 0)))) (vF 4) (lgE ms n (ω.length + n) (.fz (.int t)) (.fz (jD m)) (.fz (pjD p)) .no) (St ω zs)=some (.val .non (St ω (zs.set p.1.toNat (zs.getD p.1.toNat [] ++ [m])))):=by
      unfold appM
      refine y_bind ex (y_bind il (y_bind (a:=jD m) (ω1:=St ω zs) rfl ?_))
      simp only [hcell]
      rw [if_pos (by rw [List.length_map]; omega),show (zs[p.1.toNat].map jD ++ [jD m])=(zs.getD p.1.toNat [] ++ [m]).map jD by rw [gd,List.map_append]; rfl,St_set _ hi]
     exact exprS_ev ea
   · rw [decide_eq_false c1] at et
     rw [ifS_f et,if_neg c1])
 rw [List.length_map,List.take_length] at e
 exact ⟨q,e⟩
theorem lg_meets {t:Int} {ls:List (List Mj)} {c:Nat} (ok:∀ m ∈ ms,MjOk m) (h:∀ m ∈ ms,∀ p ∈ m.2,0 ≤ p.1 ∧ p.1 < (n:Nat)) (hl:ms.length ≤ 6) (hn:ls.length=n) (hc:∀ l ∈ ls,l.length ≤ c) (hc2:c ≤ 100) (q4 q5:Sl) :
  ∃ q4' q5',forGo (nmT 4) lb_zM_2 (ms.map jD) (lgE ms n (ω.length + n) (.fz (.int t)) q4 q5 .no) (St ω ls)=some (.nx (lgE ms n (ω.length + n) (.fz (.int t)) q4' q5' .no) (St ω (logsT ms t ls))):=by
 obtain ⟨ρ',ω',e,q,q',rfl,rfl⟩:=forGo_thru (T:=nmT 4) (F:=lb_zM_2)
  (fun i ρ ω'=>∃ q4 q5,ρ=lgE ms n (ω.length + n) (.fz (.int t)) q4 q5 .no ∧ ω'=St ω (logsT (ms.take i) t ls))
  (items:=ms.map jD) (ρ:=lgE ms n (ω.length + n) (.fz (.int t)) q4 q5 .no) (ω:=St ω ls) ⟨q4,q5,rfl,rfl⟩ (by
   rintro i d ρ ω' hd ⟨q4,q5,rfl,rfl⟩
   rw [List.getElem?_map] at hd
   obtain ⟨m,hm,rfl⟩:=Option.map_eq_some_iff.mp hd
   have hmem:=List.mem_of_getElem? hm
   have e1:logsT (ms.take (i + 1)) t ls=putM t (logsT (ms.take i) t ls) m:=by
    unfold logsT
    rw [List.take_succ,hm,List.foldl_append]
    rfl
   have hcs:=logsT_short (t:=t) (ms:=ms.take i) (fun q hq=>ok q (List.mem_of_mem_take hq)) hc
   have ht:(ms.take i).length ≤ 6:=by rw [List.length_take]; omega
   obtain ⟨q5',e2⟩:=lg_parts (ω:=ω) (ms:=ms) (t:=t) (m:=m) (ls:=logsT (ms.take i) t ls) (h m hmem) (ok m hmem).few (by rw [putMs_len,hn]) hcs (by omega) q5
   refine ⟨lgE ms n (ω.length + n) (.fz (.int t)) (.fz (jD m)) q5 .no,lgE ms n (ω.length + n) (.fz (.int t)) (.fz (jD m)) q5' .no,St ω (logsT (ms.take (i + 1)) t ls),rfl,?_,_,_,rfl,rfl⟩
   rw [e1]
   unfold lb_zM_2
   rw [forS_nx (parts_ev rfl) e2])
 rw [List.length_map,List.take_length] at e
 exact ⟨q,q',e⟩
theorem c_logs (ok:∀ m ∈ ms,MjOk m) (h:∀ m ∈ ms,∀ p ∈ m.2,0 ≤ p.1 ∧ p.1 < (n:Nat)) (hl:ms.length ≤ 6) (hn:n ≤ 10) (ω:List Cell):g_zM [.lst (ms.map jD),.int (n:Nat)] ω=some (.val (.oid (ω.length + n)) (St ω (logsJ ms n))):=by
 have hrg:∀ (j:Nat) (ρ:Rho) (ω:List Cell),j ≤ 10→rng1 (.int (j:Nat)) ρ ω=some (.val (rangeD 0 j) ω):=fun j ρ ω hj=>rng1_nat (Nat.le_trans hj (by decide))
 have hr:∀ j,(rangeD 0 j).length=j:=fun j=>by simp [rangeD]
 have e1:cm_zM_1 (startE N_zM [.lst (ms.map jD),.int (n:Nat)]) ω=some (.val (oids ω.length n) (ω ++ List.replicate n (Cell.lst []))):=by
  have hv:vF 1 (startE N_zM [.lst (ms.map jD),.int (n:Nat)]) ω=some (.val (.int (n:Nat)) ω):=rfl
  have hsr:((vF 1).bind rng1) (startE N_zM [.lst (ms.map jD),.int (n:Nat)]) ω=some (.val (rangeD 0 n) ω):=y_bind hv (hrg n _ _ hn)
  unfold cm_zM_1 lcM
  refine y_bind hsr ?_
  have:=news_go (vs:=[6]) (T:=nmT 6) (ρ:=startE N_zM [.lst (ms.map jD),.int (n:Nat)]) (fun d ω=>⟨_,rfl⟩) (rangeD 0 n) [] ω (by rw [hr]; simp; omega)
  rw [hr,List.nil_append] at this
  simp only [this]
 obtain ⟨qa,qb,ea⟩:=lg_meets (ω:=ω) (ms:=ms) (n:=n) (t:=0) (ls:=List.replicate n []) (c:=0) ok h hl (by simp) (fun l hl=>by rw [List.eq_of_mem_replicate hl]; exact Nat.le_refl _) (by omega) .no .no
 have hs:=logsT_short (t:=0) (ms:=ms) (ls:=List.replicate n []) (c:=0) ok (fun l hl=>by rw [List.eq_of_mem_replicate hl]; exact Nat.le_refl _)
 obtain ⟨qc,qd,eb⟩:=lg_meets (ω:=ω) (ms:=ms) (n:=n) (t:=1) (ls:=logsT ms 0 (List.replicate n [])) ok h hl (by rw [putMs_len]; simp) hs (by omega) qa qb
 refine fn_rt rfl ?_
 unfold b_zM
 refine (seqS_nx (ρ':=lgE ms n (ω.length + n) .no .no .no .no) (ω':=St ω (List.replicate n [])) ?_).trans ?_
 · unfold setN
   rw [bindS_ev e1]
   show some (RS.nx _ _)=_
   rw [List.length_append,List.length_replicate]
   unfold St
   rw [List.length_replicate,List.map_replicate]
   rfl
 have s0:((vF 0).bind itemsOf) (lgE ms n (ω.length + n) (.fz (.int 0)) .no .no .no) (St ω (List.replicate n []))=some (.val (ms.map jD) (St ω (List.replicate n []))):=y_bind (a:=.lst (ms.map jD)) (ω1:=St ω (List.replicate n [])) rfl rfl
 have s1:((vF 0).bind itemsOf) (lgE ms n (ω.length + n) (.fz (.int 1)) qa qb .no) (St ω (logsT ms 0 (List.replicate n [])))=some (.val (ms.map jD) (St ω (logsT ms 0 (List.replicate n [])))):=y_bind (a:=.lst (ms.map jD)) (ω1:=St ω (logsT ms 0 (List.replicate n []))) rfl rfl
 have eg:forGo (nmT 3) lb_zM_3 (rangeD 0 2) (lgE ms n (ω.length + n) .no .no .no .no) (St ω (List.replicate n []))=some (.nx (lgE ms n (ω.length + n) (.fz (.int 1)) qc qd .no) (St ω (logsJ ms n))):=by
  rw [show rangeD 0 2=[.int 0,.int 1] from rfl]
  have f0:lb_zM_3 (lgE ms n (ω.length + n) (.fz (.int 0)) .no .no .no) (St ω (List.replicate n []))=some (.nx (lgE ms n (ω.length + n) (.fz (.int 0)) qa qb .no) (St ω (logsT ms 0 (List.replicate n [])))):=by
   unfold lb_zM_3
   rw [forS_nx s0 ea]
  have f1:lb_zM_3 (lgE ms n (ω.length + n) (.fz (.int 1)) qa qb .no) (St ω (logsT ms 0 (List.replicate n [])))=some (.nx (lgE ms n (ω.length + n) (.fz (.int 1)) qc qd .no) (St ω (logsJ ms n))):=by
   unfold lb_zM_3
   rw [forS_nx s1 eb]
   rfl
  have g0:nmT 3 (.int 0) (lgE ms n (ω.length + n) .no .no .no .no) (St ω (List.replicate n []))=some (lgE ms n (ω.length + n) (.fz (.int 0)) .no .no .no):=rfl
  have g1:nmT 3 (.int 1) (lgE ms n (ω.length + n) (.fz (.int 0)) qa qb .no) (St ω (logsT ms 0 (List.replicate n [])))=some (lgE ms n (ω.length + n) (.fz (.int 1)) qa qb .no):=rfl
  simp only [forGo,g0,f0,g1,f1]
 have h2:(M.pure (.int 2):M D) (lgE ms n (ω.length + n) .no .no .no .no) (St ω (List.replicate n []))=some (.val (.int (2:Nat)) (St ω (List.replicate n []))):=rfl
 have hs2:((M.pure (.int 2)).bind rng1) (lgE ms n (ω.length + n) .no .no .no .no) (St ω (List.replicate n []))=some (.val (rangeD 0 2) (St ω (List.replicate n []))):=y_bind h2 (hrg 2 _ _ (by decide))
 refine (seqS_nx (forS_nx hs2 eg)).trans ?_
 exact retS_ev rfl
end
structure Fit (ms:List Mj) (n:Nat) (logs full:List (List Mj)):Prop where
 len:logs.length=n
 nd:∀ m ∈ ms,(m.2.map Prod.fst).Nodup
 has:∀ (i t:Nat) (m:Mj),i < n→((full.getD i [])[t]?=some m ↔ m ∈ ms ∧ ∃ p ∈ m.2,p.1=(i:Int) ∧ p.2.1=(t:Int))
 cut:∀ i,i < n→∃ c,c ≤ 1 ∧ logs.getD i []=(full.getD i []).take ((full.getD i []).length - c)
 inr:∀ m ∈ ms,∀ p ∈ m.2,0 ≤ p.1 ∧ p.1 < (n:Nat) ∧ 0 ≤ p.2.1
 all:∀ m ∈ ms,∃ i,i < n ∧ m ∈ logs.getD i []
 msnd:ms.Nodup
theorem addM_nd {f:List Mj} {m:Mj} (h:f.Nodup):(addM f m).Nodup:=by
 unfold addM
 split
 · exact h
 · rename_i hm
   exact List.nodup_append.mpr ⟨h,by simp,fun a ha b hb e=>hm (by rw [List.mem_singleton.mp hb] at e; exact e ▸ ha)⟩
theorem addMs_nd:∀ (l:List Mj) {f:List Mj},f.Nodup→(l.foldl addM f).Nodup
 | [],_,h=>h
 | m :: l,_,h=>addMs_nd l (addM_nd h)
theorem allM_nd (logs:List (List Mj)):(allM logs).Nodup:=addMs_nd _ List.nodup_nil
theorem mem_getD {logs:List (List Mj)} {l:List Mj} (h:l ∈ logs):∃ i,i < logs.length ∧ logs.getD i []=l:=by
 obtain ⟨i,hi,rfl⟩:=List.getElem_of_mem h
 exact ⟨i,hi,by rw [List.getD_eq_getElem?_getD,List.getElem?_eq_getElem hi]; rfl⟩
theorem getD_mem {logs:List (List Mj)} {i:Nat} (h:i < logs.length):logs.getD i [] ∈ logs:=by
 rw [List.getD_eq_getElem?_getD,List.getElem?_eq_getElem h]
 exact List.getElem_mem h
section
variable {ms:List Mj} {n:Nat} {logs full:List (List Mj)}
theorem Fit.at_ (F:Fit ms n logs full) {i t:Nat} {m:Mj} (hi:i < n) (h:(logs.getD i [])[t]?=some m):(full.getD i [])[t]?=some m:=by
 obtain ⟨c,_,e⟩:=F.cut i hi
 rw [e,List.getElem?_take] at h
 split at h
 · exact h
 · cases h
theorem Fit.sub (F:Fit ms n logs full) {i:Nat} {m:Mj} (hi:i < n) (h:m ∈ logs.getD i []):m ∈ ms:=by
 obtain ⟨t,ht,rfl⟩:=List.getElem_of_mem h
 exact ((F.has i t _ hi).mp (F.at_ hi (List.getElem?_eq_getElem ht))).1
theorem Fit.lgs (F:Fit ms n logs full):logsB logs=true:=by
 unfold logsB
 rw [List.all_eq_true]
 intro i hi
 have hi:i < n:=by rw [← F.len]; exact List.mem_range.mp hi
 unfold logOk
 rw [List.all_eq_true]
 intro t ht
 have ht:=List.mem_range.mp ht
 have hg:(logs.getD i [])[t]?=some (logs.getD i [])[t]:=List.getElem?_eq_getElem ht
 obtain ⟨_,p,hp,h1,h2⟩:=(F.has i t _ hi).mp (F.at_ hi hg)
 rw [List.getD_eq_getElem?_getD,hg,List.any_eq_true]
 exact ⟨p,hp,by rw [decide_eq_true h1,decide_eq_true h2]; rfl⟩
theorem Fit.meets (F:Fit ms n logs full):meetsB logs=true:=by
 rw [meetsB_iff]
 intro l hl m hm
 obtain ⟨i,hi,rfl⟩:=mem_getD hl
 rw [F.len] at hi
 have hms:=F.sub hi hm
 unfold meetOk
 rw [Bool.and_eq_true,decide_eq_true_eq,List.all_eq_true]
 refine ⟨F.nd m hms,fun p hp=>?_⟩
 obtain ⟨h0,h1,h2⟩:=F.inr m hms p hp
 have hpi:p.1.toNat < n:=by omega
 have hf:(full.getD p.1.toNat [])[p.2.1.toNat]?=some m:=(F.has _ _ m hpi).mpr ⟨hms,p,hp,by omega,by omega⟩
 have hlt:=(List.getElem?_eq_some_iff.mp hf).1
 obtain ⟨c,hc,e⟩:=F.cut _ hpi
 unfold partOk
 rw [decide_eq_true h0,decide_eq_true (by rw [F.len]; exact h1),decide_eq_true h2]
 have hlen:(logs.getD p.1.toNat []).length=(full.getD p.1.toNat []).length - c:=by rw [e,List.length_take]; omega
 rw [decide_eq_true (by omega)]
 by_cases hh:p.2.1.toNat < (logs.getD p.1.toNat []).length
 · have hg:(logs.getD p.1.toNat [])[p.2.1.toNat]?=some m:=by
    rw [e,List.getElem?_take,if_pos (by omega)]
    exact hf
   rw [decide_eq_false (by omega),hg]
   simp
 · rw [decide_eq_true (by omega)]
   rfl
theorem Fit.perm (F:Fit ms n logs full):(allM logs).Perm ms:=by
 refine (List.perm_ext_iff_of_nodup (allM_nd logs) F.msnd).mpr fun m=>?_
 rw [allM_mem]
 constructor
 · rintro ⟨l,hl,hm⟩
   obtain ⟨i,hi,rfl⟩:=mem_getD hl
   exact F.sub (by rw [← F.len]; exact hi) hm
 · intro hm
   obtain ⟨i,hi,h⟩:=F.all m hm
   exact ⟨_,getD_mem (by rw [F.len]; exact hi),h⟩
theorem Fit.uniq (F:Fit ms n logs full) {m m':Mj} {p p':Pj} (hm:m ∈ ms) (hm':m' ∈ ms) (hp:p ∈ m.2) (hp':p' ∈ m'.2) (h1:p.1=p'.1) (h2:p.2.1=p'.2.1):m=m':=by
 obtain ⟨a0,a1,a2⟩:=F.inr m hm p hp
 have e1:=(F.has p.1.toNat p.2.1.toNat m (by omega)).mpr ⟨hm,p,hp,by omega,by omega⟩
 have e2:=(F.has p.1.toNat p.2.1.toNat m' (by omega)).mpr ⟨hm',p',hp',by omega,by omega⟩
 rw [e1] at e2
 exact Option.some.inj e2
theorem taken_nd:∀ {l:List Mj},l.Nodup→(∀ m ∈ l,(m.2.map Prod.fst).Nodup)→(∀ m ∈ l,∀ m' ∈ l,∀ p ∈ m.2,∀ p' ∈ m'.2,p.1=p'.1→p.2.1=p'.2.1→m=m')→(takenM l).Nodup
 | [],_,_,_=>List.nodup_nil
 | m :: l,hn,hd,hu=>by
  obtain ⟨h1,h2⟩:=List.nodup_cons.mp hn
  unfold takenM
  rw [List.flatMap_cons]
  refine List.nodup_append.mpr ⟨?_,taken_nd h2 (fun x hx=>hd x (List.mem_cons_of_mem _ hx)) fun x hx y hy=>hu x (List.mem_cons_of_mem _ hx) y (List.mem_cons_of_mem _ hy),fun a ha b hb e=>?_⟩
  · have:=hd m (List.mem_cons_self ..)
    rw [List.Nodup,List.pairwise_map] at this ⊢
    exact this.imp fun h e=>h (by injection e)
  · obtain ⟨p,hp,rfl⟩:=List.mem_map.mp ha
    obtain ⟨m',hm',hb⟩:=List.mem_flatMap.mp hb
    obtain ⟨p',hp',rfl⟩:=List.mem_map.mp hb
    injection e with e1 e2
    injection e2 with e2 _
    have:=hu m (List.mem_cons_self ..) m' (List.mem_cons_of_mem _ hm') p hp p' hp' e1 e2
    exact h1 (this ▸ hm')
theorem Fit.taken (F:Fit ms n logs full):(takenM (allM logs)).Nodup:=by
 have hp:=F.perm
 exact taken_nd (allM_nd logs) (fun m hm=>F.nd m (hp.mem_iff.mp hm)) fun m hm m' hm' p q p' q' h1 h2=>F.uniq (hp.mem_iff.mp hm) (hp.mem_iff.mp hm') q q' h1 h2
theorem takenM_len:∀ {l:List Mj},(∀ m ∈ l,MjOk m)→(takenM l).length ≤ l.length * 8
 | [],_=>Nat.le_refl _
 | m :: l,h=>by
  have h1:=(h m (List.mem_cons_self ..)).few
  have h2:=takenM_len (l:=l) fun x hx=>h x (List.mem_cons_of_mem _ hx)
  unfold takenM at h2 ⊢
  rw [List.flatMap_cons,List.length_append,List.length_map,List.length_cons]
  omega
end
def itD:D→Bool
 | .int _=>true
 | .tup xs=>itL xs
 | _=>false
where itL:List D→Bool
 | []=>true
 | .int _ :: ds=>itL ds
 | .tup _ :: _=>false
 | _ :: _=>false
theorem itL_py:∀ {ds:List D},itD.itL ds=true→∃ xs,pysD ds=some xs ∧ PySem.W.alikeAll xs xs=true ∧ PySem.PyData.depthAll xs=0
 | [],_=>⟨[],rfl,rfl,rfl⟩
 | .int i :: ds,h=>by
  obtain ⟨xs,h1,h2,h3⟩:=itL_py (ds:=ds) h
  refine ⟨.int i :: xs,by simp only [pysD,pyD,h1],?_,?_⟩
  · simp only [PySem.W.alikeAll,PySem.W.alike,h2,Bool.and_self]
  · simp only [PySem.PyData.depthAll,PySem.PyData.depth,h3,Nat.max_self]
theorem itD_py:∀ {d:D},itD d=true→∃ x,pyD d=some x ∧ PySem.W.alike x x=true ∧ PySem.PyData.depth x ≤ 1
 | .int i,_=>⟨.int i,rfl,rfl,Nat.zero_le _⟩
 | .tup xs,h=>by
  obtain ⟨ys,h1,h2,h3⟩:=itL_py (ds:=xs) h
  refine ⟨.tuple ys,by simp only [pyD,h1]; rfl,?_,?_⟩
  · simpa only [PySem.W.alike] using h2
  · simp only [PySem.PyData.depth,h3]; omega
theorem pts_py:∀ {ps:List Pj},(∀ p ∈ ps,itD p.2.2.2=true)→∃ xs,pysD (ps.map pjD)=some xs ∧ PySem.W.alikeAll xs xs=true ∧ PySem.PyData.depthAll xs ≤ 2
 | [],_=>⟨[],rfl,rfl,Nat.zero_le _⟩
 | p :: ps,h=>by
  obtain ⟨x,a1,a2,a3⟩:=itD_py (h p (List.mem_cons_self ..))
  obtain ⟨xs,b1,b2,b3⟩:=pts_py fun q hq=>h q (List.mem_cons_of_mem _ hq)
  refine ⟨.tuple [.int p.1,.int p.2.1,.int p.2.2.1,x] :: xs,?_,?_,?_⟩
  · simp only [List.map_cons,pysD,pyD,a1,b1,Option.map]
  · simp only [PySem.W.alikeAll,PySem.W.alike,a2,b2,Bool.and_self]
  · simp only [PySem.PyData.depthAll,PySem.PyData.depth]
    omega
theorem min_one {m:Mj} (hc:itD m.1=true) (hw:∀ p ∈ m.2,itD p.2.2.2=true):minGD (.lst ([m].map jD))=some (jD m):=by
 obtain ⟨x,a1,a2,a3⟩:=itD_py hc
 obtain ⟨xs,b1,b2,b3⟩:=pts_py hw
 have e1:pyD (jD m)=some (.tuple [x,.tuple xs]):=by simp only [pyD,pysD,a1,b1,Option.map]
 show minGD (.lst (jD m :: []))=_
 simp only [minGD,e1,pysD]
 rw [if_pos]
 · rfl
 · refine ⟨?_,?_⟩
   · unfold alikeB
     simp only [List.all_cons,List.all_nil,PySem.W.alike,PySem.W.alikeAll,a2,b2,Bool.and_self,Bool.and_true]
     rfl
   · simp only [PySem.PyData.depthAll,PySem.PyData.depth]
     omega
theorem nd_one {l:List Mj} {x:Mj} (h:l.Nodup) (hx:∀ y,y ∈ l ↔ y=x):l=[x] :=
 List.perm_singleton.mp ((List.perm_ext_iff_of_nodup h (by simp)).mpr fun y=>by rw [hx y,List.mem_singleton])
theorem hitP_nd {t:Int} {i:Nat} {m:Mj}:∀ {ps:List Pj},(ps.map Prod.fst).Nodup→(hitP t i m ps).length ≤ 1
 | [],_=>Nat.zero_le _
 | p :: ps,h=>by
  rw [List.map_cons] at h
  obtain ⟨h1,h2⟩:=List.nodup_cons.mp h
  have ih:=hitP_nd (t:=t) (i:=i) (m:=m) h2
  unfold hitP at ih ⊢
  rw [List.flatMap_cons,List.length_append]
  split
  · rename_i c
    have:(ps.flatMap fun p:Pj=>if p.2.1=t ∧ p.1=((i:Nat):Int) then [m] else [])=[]:=by
     rw [List.flatMap_eq_nil_iff]
     intro q hq
     rw [if_neg]
     exact fun z=>h1 (List.mem_map.mpr ⟨q,hq,by rw [z.2,c.2]⟩)
    rw [this]
    exact Nat.le_refl _
  · rw [List.length_nil,Nat.zero_add]
    exact ih
theorem hitM_nd {t:Int} {i:Nat}:∀ {ms:List Mj},ms.Nodup→(∀ m ∈ ms,(m.2.map Prod.fst).Nodup)→(hitM t i ms).Nodup
 | [],_,_=>List.nodup_nil
 | m :: ms,h,hd=>by
  obtain ⟨h1,h2⟩:=List.nodup_cons.mp h
  have ih:=hitM_nd (t:=t) (i:=i) h2 fun x hx=>hd x (List.mem_cons_of_mem _ hx)
  have e:hitM t i (m :: ms)=hitP t i m m.2 ++ hitM t i ms:=by unfold hitM; rw [List.flatMap_cons]
  rw [e]
  refine List.nodup_append.mpr ⟨?_,ih,fun a ha b hb q=>?_⟩
  · have hl:=hitP_nd (t:=t) (i:=i) (m:=m) (hd m (List.mem_cons_self ..))
    generalize hitP t i m m.2=z at hl
    match z,hl with
    | [],_=>exact List.nodup_nil
    | [x],_=>simp
    | _ :: _ :: _,hl=>simp at hl
  · have ea:=(hitP_mem.mp ha).1
    have eb:=(hitM_mem.mp hb).1
    rw [← q,ea] at eb
    exact h1 eb
structure Two (ms:List Mj) (n:Nat):Prop where
 nd:∀ m ∈ ms,(m.2.map Prod.fst).Nodup
 inr:∀ m ∈ ms,∀ p ∈ m.2,0 ≤ p.1 ∧ p.1 < (n:Nat)
 tt:∀ m ∈ ms,∀ p ∈ m.2,p.2.1=0 ∨ p.2.1=1
 uniq:∀ m ∈ ms,∀ m' ∈ ms,∀ p ∈ m.2,∀ p' ∈ m'.2,p.1=p'.1→p.2.1=p'.2.1→m=m'
 low:∀ m ∈ ms,∀ p ∈ m.2,p.2.1=1→∃ m' ∈ ms,∃ p' ∈ m'.2,p'.1=p.1 ∧ p'.2.1=0
 msnd:ms.Nodup
theorem Two.hit {ms:List Mj} {n:Nat} (T:Two ms n) (t:Int) (i:Nat):(hitM t i ms=[] ∧ ∀ m ∈ ms,∀ p ∈ m.2,p.2.1=t→p.1 ≠ (i:Int)) ∨ ∃ m0 ∈ ms,hitM t i ms=[m0] ∧ (∃ p ∈ m0.2,p.2.1=t ∧ p.1=(i:Int)) ∧ ∀ m ∈ ms,(∃ p ∈ m.2,p.2.1=t ∧ p.1=(i:Int))→m=m0:=by
 have nd:=hitM_nd (t:=t) (i:=i) T.msnd T.nd
 cases q:hitM t i ms with
 | nil =>
  refine .inl ⟨rfl,fun m hm p hp ht hi=>?_⟩
  have:m ∈ hitM t i ms:=hitM_mem.mpr ⟨hm,p,hp,ht,hi⟩
  rw [q] at this
  cases this
 | cons m0 r =>
  have h0:m0 ∈ hitM t i ms:=by rw [q]; exact List.mem_cons_self ..
  obtain ⟨a,p0,hp0,b,c⟩:=hitM_mem.mp h0
  have uq:∀ m ∈ ms,(∃ p ∈ m.2,p.2.1=t ∧ p.1=(i:Int))→m=m0:=fun m hm ⟨p,hp,x,y⟩=>T.uniq m hm m0 a p hp p0 hp0 (by rw [y,c]) (by rw [x,b])
  refine .inr ⟨m0,a,?_,⟨p0,hp0,b,c⟩,uq⟩
  rw [← q]
  exact nd_one nd fun y=>⟨fun z=>uq y (hitM_mem.mp z).1 (hitM_mem.mp z).2,fun z=>by rw [z]; exact h0⟩
theorem Two.has {ms:List Mj} {n:Nat} (T:Two ms n) (i t:Nat) (m:Mj) (_:i < n):(((logsJ ms n).getD i [])[t]?=some m ↔ m ∈ ms ∧ ∃ p ∈ m.2,p.1=(i:Int) ∧ p.2.1=(t:Int)):=by
 rw [logsJ_at T.inr]
 rcases T.hit 0 i with ⟨ea,ha⟩ | ⟨m0,h0,ea,⟨p0,hp0,hb0,hc0⟩,ua⟩
 · have eb:hitM 1 i ms=[]:=by
    rcases T.hit 1 i with ⟨eb,_⟩ | ⟨m1,h1,eb,⟨p1,hp1,hb1,hc1⟩,_⟩
    · exact eb
    · obtain ⟨m',hm',p',hp',x,y⟩:=T.low m1 h1 p1 hp1 hb1
      exact absurd (x.trans hc1) (ha m' hm' p' hp' y)
   rw [ea,eb]
   constructor
   · intro z; cases z
   · rintro ⟨hm,p,hp,x,y⟩
     rcases T.tt m hm p hp with z | z
     · exact absurd x (ha m hm p hp z)
     · obtain ⟨m',hm',p',hp',x',y'⟩:=T.low m hm p hp z
       exact absurd (x'.trans x) (ha m' hm' p' hp' y')
 · rw [ea]
   match t with
   | 0 =>
    show some m0=some m ↔ _
    constructor
    · intro z
      cases z
      exact ⟨h0,p0,hp0,hc0,hb0⟩
    · rintro ⟨hm,p,hp,x,y⟩
      rw [ua m hm ⟨p,hp,y,x⟩]
   | 1 =>
    show (hitM 1 i ms)[0]?=some m ↔ _
    rcases T.hit 1 i with ⟨eb,hb⟩ | ⟨m1,h1,eb,⟨p1,hp1,hb1,hc1⟩,ub⟩
    · rw [eb]
      constructor
      · intro z; cases z
      · rintro ⟨hm,p,hp,x,y⟩
        exact absurd x (hb m hm p hp y)
    · rw [eb]
      show some m1=some m ↔ _
      constructor
      · intro z
        cases z
        exact ⟨h1,p1,hp1,hc1,hb1⟩
      · rintro ⟨hm,p,hp,x,y⟩
        rw [ub m hm ⟨p,hp,y,x⟩]
   | t + 2 =>
    show (hitM 1 i ms)[t + 1]?=some m ↔ _
    have hl:(hitM 1 i ms).length ≤ 1:=by
     rcases T.hit 1 i with ⟨eb,_⟩ | ⟨m1,_,eb,_⟩
     · rw [eb]; exact Nat.zero_le _
     · rw [eb]; exact Nat.le_refl _
    rw [List.getElem?_eq_none (by omega)]
    constructor
    · intro z; cases z
    · rintro ⟨hm,p,hp,x,y⟩
      rcases T.tt m hm p hp with z | z <;> omega
theorem Two.fit {ms:List Mj} {n:Nat} (T:Two ms n) {logs:List (List Mj)} (hl:logs.length=n) (cut:∀ i,i < n→∃ c,c ≤ 1 ∧ logs.getD i []=((logsJ ms n).getD i []).take (((logsJ ms n).getD i []).length - c))
  (all:∀ m ∈ ms,∃ i,i < n ∧ m ∈ logs.getD i []):Fit ms n logs (logsJ ms n) :=
 ⟨hl,T.nd,T.has,cut,fun m hm p hp=>⟨(T.inr m hm p hp).1,(T.inr m hm p hp).2,by rcases T.tt m hm p hp with z | z <;> omega⟩,all,T.msnd⟩
theorem mkJ_nd {a ta b tb num dr:Int} (h:a ≠ b):((mkJ a ta b tb num dr).2.map Prod.fst).Nodup:=by
 unfold mkJ
 dsimp only
 split <;> simp [h,Ne.symm h]
theorem mkJ_turn {a ta b tb num dr:Int} (h:a ≠ b) (x:Int):turnJ (mkJ a ta b tb num dr).2 x=if x=a then some ta else if x=b then some tb else none:=by
 unfold mkJ
 dsimp only
 split
 · simp only [turnJ]
   by_cases e1:x=a
   · subst e1
     rw [if_neg (Ne.symm h),if_pos rfl,if_pos rfl]
   · by_cases e2:x=b
     · subst e2
       rw [if_pos rfl,if_neg e1,if_pos rfl]
     · rw [if_neg (Ne.symm e2),if_neg (Ne.symm e1),if_neg e1,if_neg e2]
 · simp only [turnJ]
   by_cases e1:x=a
   · subst e1
     rw [if_pos rfl,if_pos rfl]
   · by_cases e2:x=b
     · subst e2
       simp [h,e1]
     · rw [if_neg (Ne.symm e1),if_neg (Ne.symm e2),if_neg e1,if_neg e2]
theorem mkJ_it (a ta b tb num dr:Int):itD (mkJ a ta b tb num dr).1=true ∧ ∀ p ∈ (mkJ a ta b tb num dr).2,itD p.2.2.2=true :=
 ⟨rfl,fun p hp=>by rcases mkJ_mem.mp hp with rfl | rfl <;> rfl⟩
structure Mch (M:List Int) (n:Nat):Prop where
 len:M.length=n
 bd:∀ k,k < n→0 ≤ M.getD k 0 ∧ M.getD k 0 < (n:Nat)
 inj:∀ j k,j < n→k < n→M.getD j 0=M.getD k 0→j=k
 big:3 ≤ n
 few:n ≤ 6
theorem mch_of {M:List Int} {n:Nat} (h3:3 ≤ n) (h6:n ≤ 6) (p:M.Perm ((List.range n).map fun i:Nat=>(i:Int))):Mch M n:=by
 have hl:M.length=n:=by rw [p.length_eq,List.length_map,List.length_range]
 have nd:M.Nodup:=p.nodup_iff.mpr (by
  rw [List.Nodup,List.pairwise_map]
  exact List.nodup_range.imp fun h e=>h (by omega))
 have gd:∀ k,(h:k < n)→M.getD k 0=M[k]'(by omega):=fun k h=>by rw [List.getD_eq_getElem?_getD,List.getElem?_eq_getElem (by omega)]; rfl
 refine ⟨hl,fun k hk=>?_,fun j k hj hk e=>?_,h3,h6⟩
 · rw [gd k hk]
   obtain ⟨i,hi,e⟩:=List.mem_map.mp (p.mem_iff.mp (List.getElem_mem (l:=M) (n:=k) (by omega)))
   have:=List.mem_range.mp hi
   omega
 · rw [gd j hj,gd k hk] at e
   exact (List.getElem_inj nd).mp e
section
variable {M row:List Int} {n:Nat}
theorem link_mem (C:Mch M n) {ring:Bool} {k:Nat} {p:Pj}:p ∈ (linkJ M row ring k).2 ↔ p=(M.getD k 0,0,row.getD (8 + k) 0 % 3,.int (row.getD (8 + k) 0 - 400)) ∨ p=(M.getD ((k + 1) % n) 0,(if ring=true ∨ (k + 1) % n < n - 1 then 1 else 0),row.getD (8 + k) 0 / 3 % 3,.int (row.getD (8 + k) 0 / 2)):=by
 unfold linkJ
 rw [mkJ_mem,C.len]
theorem nxt_ne (C:Mch M n) {k:Nat} (hk:k < n):k ≠ (k + 1) % n:=by
 have:=C.big
 rcases Nat.lt_or_ge (k + 1) n with h | h
 · rw [Nat.mod_eq_of_lt h]; omega
 · have:k + 1=n:=by omega
   rw [this,Nat.mod_self]; omega
theorem nxt_inj (C:Mch M n) {j k:Nat} (hj:j < n) (hk:k < n) (h:(j + 1) % n=(k + 1) % n):j=k:=by
 have:=C.big
 rcases Nat.lt_or_ge (k + 1) n with a | a <;> rcases Nat.lt_or_ge (j + 1) n with b | b
 · rw [Nat.mod_eq_of_lt a,Nat.mod_eq_of_lt b] at h; omega
 · rw [Nat.mod_eq_of_lt a,show j + 1=n by omega,Nat.mod_self] at h; omega
 · rw [Nat.mod_eq_of_lt b,show k + 1=n by omega,Nat.mod_self] at h; omega
 · omega
theorem nxt_lt (C:Mch M n) (k:Nat):(k + 1) % n < n:=Nat.mod_lt _ (by have:=C.big; omega)
theorem link_ab (C:Mch M n) {k:Nat} (hk:k < n):M.getD k 0 ≠ M.getD ((k + 1) % M.length) 0:=fun e=>nxt_ne C hk (C.inj _ _ hk (nxt_lt C k) (by rw [C.len] at e; exact e))
theorem link_ch {ring:Bool} {j k:Nat} (h:linkJ M row ring j=linkJ M row ring k):j=k:=by
 have:=congrArg Prod.fst h
 unfold linkJ mkJ at this
 injection this with this
 injection this with _ this
 injection this with h1 _
 injection h1 with h1
 omega
theorem links_mem {ring:Bool} {m:Mj}:m ∈ linksJ M row ring ↔ ∃ k,k < (if ring=true then M.length else M.length - 1) ∧ m=linkJ M row ring k:=by
 unfold linksJ
 rw [List.mem_map]
 constructor
 · rintro ⟨k,hk,rfl⟩
   exact ⟨k,List.mem_range.mp hk,rfl⟩
 · rintro ⟨k,hk,rfl⟩
   exact ⟨k,List.mem_range.mpr hk,rfl⟩
theorem links_nd (ring:Bool):(linksJ M row ring).Nodup:=by
 unfold linksJ
 rw [List.Nodup,List.pairwise_map]
 exact List.nodup_range.imp fun h e=>h (link_ch e)
theorem links_two (C:Mch M n) (ring:Bool):Two (linksJ M row ring) n:=by
 have hN:(if ring=true then M.length else M.length - 1) ≤ n:=by rw [C.len]; split <;> omega
 have big:=C.big
 refine ⟨fun m hm=>?_,fun m hm p hp=>?_,fun m hm p hp=>?_,fun m hm m' hm' p hp p' hp' e1 e2=>?_,fun m hm p hp e=>?_,links_nd ring⟩
 · obtain ⟨k,hk,rfl⟩:=links_mem.mp hm
   exact mkJ_nd (link_ab C (by omega))
 · obtain ⟨k,hk,rfl⟩:=links_mem.mp hm
   rcases (link_mem C).mp hp with rfl | rfl
   · exact C.bd k (by omega)
   · exact C.bd _ (nxt_lt C k)
 · obtain ⟨k,hk,rfl⟩:=links_mem.mp hm
   rcases (link_mem C).mp hp with rfl | rfl
   · exact .inl rfl
   · dsimp only; split
     · exact .inr rfl
     · exact .inl rfl
 · obtain ⟨k,hk,rfl⟩:=links_mem.mp hm
   obtain ⟨k',hk',rfl⟩:=links_mem.mp hm'
   have hkn:k < n:=by omega
   have hkn':k' < n:=by omega
   have zero:∀ j l:Nat,j < (if ring=true then M.length else M.length - 1)→l < (if ring=true then M.length else M.length - 1)→M.getD j 0=M.getD ((l + 1) % n) 0→(0:Int)=(if ring=true ∨ (l + 1) % n < n - 1 then 1 else 0)→False:=by
    intro j l hj hl a b
    split at b
    · omega
    · rename_i c
      have h1:=C.inj _ _ (by omega) (nxt_lt C l) a
      cases ring with
      | true=>exact c (.inl rfl)
      | false =>
       have c2:¬ (l + 1) % n < n - 1:=fun z=>c (.inr z)
       rw [if_neg Bool.false_ne_true,C.len] at hj
       omega
   rcases (link_mem C).mp hp with rfl | rfl <;> rcases (link_mem C).mp hp' with rfl | rfl
   · rw [C.inj _ _ hkn hkn' e1]
   · exact (zero k k' hk hk' e1 e2).elim
   · exact (zero k' k hk' hk e1.symm e2.symm).elim
   · rw [nxt_inj C hkn hkn' (C.inj _ _ (nxt_lt C k) (nxt_lt C k') e1)]
 · obtain ⟨k,hk,rfl⟩:=links_mem.mp hm
   rcases (link_mem C).mp hp with rfl | rfl
   · cases e
   · dsimp only at e
     split at e
     · rename_i c
       refine ⟨linkJ M row ring ((k + 1) % n),links_mem.mpr ⟨(k + 1) % n,?_,rfl⟩,_,(link_mem C).mpr (.inl rfl),rfl,rfl⟩
       cases ring with
       | true=>rw [if_pos rfl,C.len]; exact nxt_lt C k
       | false =>
        rw [if_neg Bool.false_ne_true,C.len]
        exact c.resolve_left Bool.false_ne_true
     · cases e
theorem links_ok (M row:List Int) (ring:Bool):∀ m ∈ linksJ M row ring,MjOk m:=fun m hm=>by
 obtain ⟨k,_,rfl⟩:=links_mem.mp hm
 exact mkJ_ok ..
theorem links_len (C:Mch M n) (ring:Bool):(linksJ M row ring).length ≤ 6:=by
 have:=C.few
 have:=C.len
 unfold linksJ
 rw [List.length_map,List.length_range]
 split <;> omega
theorem mem_of_has {ms:List Mj} {full:List (List Mj)} (T:Two ms n) (e:full=logsJ ms n) {m:Mj} (hm:m ∈ ms) {p:Pj} (hp:p ∈ m.2):p.1.toNat < n ∧ m ∈ full.getD p.1.toNat []:=by
 obtain ⟨h0,h1⟩:=T.inr m hm p hp
 have h2:0 ≤ p.2.1:=by rcases T.tt m hm p hp with z | z <;> omega
 refine ⟨by omega,?_⟩
 rw [e]
 exact List.mem_of_getElem? ((T.has p.1.toNat p.2.1.toNat m (by omega)).mpr ⟨hm,p,hp,by omega,by omega⟩)
theorem whole_fit {ms:List Mj} (T:Two ms n) (hne:∀ m ∈ ms,m.2 ≠ []):Fit ms n (logsJ ms n) (logsJ ms n) :=
 T.fit (logsJ_len ms n) (fun i _=>⟨0,by omega,by rw [Nat.sub_zero,List.take_length]⟩) fun m hm=>by
  cases q:m.2 with
  | nil=>exact absurd q (hne m hm)
  | cons p r=>exact ⟨_,mem_of_has T rfl hm (p:=p) (by rw [q]; exact List.mem_cons_self ..)⟩
theorem link_ne {ring:Bool} (C:Mch M n) {k:Nat}:(linkJ M row ring k).2 ≠ []:=fun e=>by
 have:(M.getD k 0,(0:Int),row.getD (8 + k) 0 % 3,D.int (row.getD (8 + k) 0 - 400)) ∈ (linkJ M row ring k).2:=(link_mem C).mpr (.inl rfl)
 rw [e] at this
 cases this
theorem links_ne (C:Mch M n) (ring:Bool):∀ m ∈ linksJ M row ring,m.2 ≠ []:=fun m hm=>by
 obtain ⟨k,_,rfl⟩:=links_mem.mp hm
 exact link_ne C
theorem link_turn (C:Mch M n) {ring:Bool} {k:Nat} (hk:k < n) (x:Int):turnJ (linkJ M row ring k).2 x=if x=M.getD k 0 then some 0 else if x=M.getD ((k + 1) % n) 0 then some (if ring=true ∨ (k + 1) % n < n - 1 then 1 else 0) else none:=by
 have h:=link_ab C hk
 unfold linkJ
 rw [mkJ_turn h,C.len]
theorem ring_stuck (C:Mch M n) {left:List Mj} (hp:left.Perm (linksJ M row true)):JoinR left [] none:=by
 have big:=C.big
 refine .stuck left [] ?_ ?_
 · intro e
   have:=hp.length_eq
   rw [e] at this
   unfold linksJ at this
   rw [List.length_map,List.length_range,if_pos rfl,C.len] at this
   simp at this
   omega
 · rw [List.filter_eq_nil_iff]
   intro m hm
   obtain ⟨k,hk,rfl⟩:=links_mem.mp (hp.mem_iff.mp hm)
   rw [if_pos rfl,C.len] at hk
   unfold readyJ
   rw [Bool.not_eq_true',Bool.not_eq_false,List.any_eq_true]
   refine ⟨linkJ M row true ((k + 1) % n),hp.mem_iff.mpr (links_mem.mpr ⟨_,by rw [if_pos rfl,C.len]; exact nxt_lt C k,rfl⟩),?_⟩
   rw [List.any_eq_true]
   refine ⟨_,(link_mem C).mpr (.inl rfl),?_⟩
   rw [link_turn C hk,if_neg (fun e=>nxt_ne C hk (C.inj _ _ (nxt_lt C k) hk e).symm),if_pos rfl,if_pos (.inl rfl)]
   rfl
theorem chain_join (C:Mch M n):∀ (j:Nat) (left rows:List Mj),j ≤ n - 1→left.Nodup→(∀ m,m ∈ left ↔ ∃ k,k < j ∧ m=linkJ M row false k)→JoinR left rows (some (rows ++ ((List.range j).map (linkJ M row false)).reverse)):=by
 have big:=C.big
 intro j
 induction j with
 | zero =>
  intro left rows _ _ hm
  have:left=[]:=by
   cases left with
   | nil=>rfl
   | cons a r =>
    obtain ⟨k,hk,_⟩:=(hm a).mp (List.mem_cons_self ..)
    omega
  subst this
  simpa using JoinR.done rows
 | succ j ih =>
  intro left rows hj nd hm
  have hin:linkJ M row false j ∈ left:=(hm _).mpr ⟨j,Nat.lt_succ_self j,rfl⟩
  have md:∀ k,k ≤ j→(k + 1) % n=k + 1:=fun k hk=>Nat.mod_eq_of_lt (by omega)
  have rdy:∀ k,k ≤ j→readyJ (linkJ M row false k) left=decide (k=j):=by
   intro k hk
   by_cases e:k=j
   · subst e
     rw [decide_eq_true rfl]
     unfold readyJ
     rw [Bool.not_eq_true',List.any_eq_false]
     intro o ho
     obtain ⟨k',hk',rfl⟩:=(hm o).mp ho
     rw [Bool.not_eq_true,List.any_eq_false]
     intro p hp
     rw [link_turn C (by omega),md k (Nat.le_refl _)]
     rcases (link_mem C).mp hp with rfl | rfl
     · dsimp only
       split
       · rename_i z
         split at z
         · cases z; simp
         · split at z
           · rename_i _ a
             have:=C.inj _ _ (by omega) (by omega) a
             omega
           · cases z
       · exact Bool.false_ne_true
     · dsimp only
       rw [md k' (by omega)]
       split
       · rename_i z
         split at z
         · rename_i a
           have:=C.inj _ _ (by omega) (by omega) a
           cases z
           split <;> simp
         · split at z
           · rename_i _ a
             have:=C.inj _ _ (by omega) (by omega) a
             cases z
             have e:k'=k:=by omega
             subst e
             simp
           · cases z
       · exact Bool.false_ne_true
   · rw [decide_eq_false e]
     unfold readyJ
     rw [Bool.not_eq_false',List.any_eq_true]
     refine ⟨linkJ M row false (k + 1),(hm _).mpr ⟨k + 1,by omega,rfl⟩,?_⟩
     rw [List.any_eq_true]
     refine ⟨_,(link_mem C).mpr (.inl rfl),?_⟩
     rw [link_turn C (by omega),md k hk,if_neg (fun e=>by have:=C.inj _ _ (by omega) (by omega) e; omega),if_pos rfl,if_pos (.inr (by omega))]
     rfl
  have fl:(left.filter fun m=>readyJ m left)=[linkJ M row false j]:=by
   refine nd_one (nd.filter _) fun y=>?_
   rw [List.mem_filter]
   constructor
   · rintro ⟨hy,q⟩
     obtain ⟨k,hk,rfl⟩:=(hm y).mp hy
     rw [rdy k (by omega),decide_eq_true_eq] at q
     rw [q]
   · rintro rfl
     exact ⟨hin,by rw [rdy j (Nat.le_refl _)]; exact decide_eq_true rfl⟩
  refine .step left rows (linkJ M row false j) _ (fun e=>by rw [e] at hin; cases hin) hin (by rw [fl]; simp) (by rw [fl]; exact min_one (mkJ_it ..).1 (mkJ_it ..).2) ?_
  have:=ih (left.filter fun m=>!decide (m=linkJ M row false j)) (rows ++ [linkJ M row false j]) (by omega) (nd.filter _) fun m=>by
   rw [List.mem_filter,hm m]
   constructor
   · rintro ⟨⟨k,hk,rfl⟩,q⟩
     refine ⟨k,?_,rfl⟩
     rcases Nat.lt_or_ge k j with h | h
     · exact h
     · have:k=j:=by omega
       subst this
       simp at q
   · rintro ⟨k,hk,rfl⟩
     exact ⟨⟨k,by omega,rfl⟩,by rw [Bool.not_eq_true',decide_eq_false_iff_not]; exact fun z=>by have:=link_ch z; omega⟩
  rw [List.range_succ,List.map_append,List.reverse_append,← List.append_assoc]
  simpa using this
end
theorem c_runlenJ (l:List Mj) (ω:List Cell):g_zI [rnJ l] ω=some (.val (.int (l.length:Nat)) ω):=by
 refine fn_rt rfl ?_
 unfold b_zI
 exact retS_ev (uo_ev (x:=.lst (l.map jD)) (ω1:=ω) (uo_ev (x:=rnJ l) (ω1:=ω) rfl rfl (fldD_ev (by decide +kernel) rfl)) rfl lenD_lstM)
theorem c_rungetJ {l:List Mj} {k:Nat} {m:Mj} (h:l[k]?=some m) (ω:List Cell):g_zA [rnJ l,.int (k:Nat)] ω=some (.val (jD m) ω):=by
 have hk:=(List.getElem?_eq_some_iff.mp h).1
 refine fn_rt rfl ?_
 unfold b_zA
 have fl:(uo (fldD ["Run"] "rows") (vW 0)) (startE N_zA [rnJ l,.int (k:Nat)]) ω=some (.val (.lst (l.map jD)) ω):=uo_ev (x:=rnJ l) (ω1:=ω) rfl rfl (fldD_ev (by decide +kernel) rfl)
 have t:=orM_ev (tst_ev (bo_ev (g:=ltD) (fa:=vW 1) (fb:=M.pure (.int 0)) (ρ:=startE N_zA [rnJ l,.int (k:Nat)]) (ω:=ω) (x:=.int (k:Nat)) (y:=.int 0) (ω1:=ω) rfl rfl rfl rfl (ltD_d _ _))) (tst_ev (bo_ev (g:=geD) (fa:=vW 1) (fb:=uo lenD (uo (fldD ["Run"] "rows") (vW 0))) (x:=.int (k:Nat)) (y:=.int (l.length:Nat)) (ω1:=ω) rfl (uo_ev (x:=.lst (l.map jD)) (ω1:=ω) fl rfl lenD_lstM) rfl rfl (geD_d _ _)))
 rw [decide_eq_false (by omega),decide_eq_false (by omega)] at t
 refine Eq.trans (seqS_nx (Eq.trans (ifS_f t) rfl)) ?_
 exact retS_ev (bo_ev (x:=.lst (l.map jD)) (y:=.int (k:Nat)) (ω1:=ω) fl rfl rfl rfl (ixD_lst (by rw [List.getElem?_map,h]; rfl)))
theorem c_join_yes {k:Nat} {out:List Mj} {ω ω':List Cell} (h:g_zQ [.oid k] ω=some (.val (rnJ out) ω')) (hl:out.length ≤ 1000):g_zN [.oid k] ω=some (.val (.lst (out.map jD)) ω'):=by
 have e:cm_zN_1 g_zA g_zI [.fz (.oid k),.fz (rnJ out),.no] ω'=some (.val ((List.range out.length).map fun i=>jD (out.getD i (.non,[]))) ω'):=by
  have hn:lenO [("Run", g_zI)] (vF 1) [.fz (.oid k),.fz (rnJ out),.no] ω'=some (.val (.int (out.length:Nat)) ω'):=lenO_at rfl rfl lookup_one (c_runlenJ out ω') (by omega) (by omega)
  have hrg:rng1 (.int (out.length:Nat)) [.fz (.oid k),.fz (rnJ out),.no] ω'=some (.val (rangeD 0 out.length) ω'):=rng1_nat (by omega)
  have er:rangeD 0 out.length=(List.range out.length).map fun i:Nat=>D.int (i:Nat):=by
   unfold rangeD
   refine List.map_congr_left fun i _=>?_
   show D.int (0 + (i:Int))=_
   rw [Int.zero_add]
  rw [er] at hrg
  have hs:((lenO [("Run", g_zI)] (vF 1)).bind rng1) [.fz (.oid k),.fz (rnJ out),.no] ω'=some (.val ((List.range out.length).map fun i:Nat=>D.int (i:Nat)) ω'):=y_bind hn hrg
  unfold cm_zN_1
  refine lcM_map (fun i:Nat=>D.int (i:Nat)) (fun i=>jD (out.getD i (.non,[]))) (ω1:=ω') hs (by rw [List.length_range,sizeLine_eq]; omega) fun i hi=>?_
  have hi:=List.mem_range.mp hi
  refine ⟨[.fz (.oid k),.fz (rnJ out),.fz (.int (i:Nat))],rfl,ixO_at (i:=.int (i:Nat)) (ω2:=ω') rfl rfl rfl lookup_one (c_rungetJ ?_ ω')⟩
  rw [List.getD_eq_getElem?_getD,List.getElem?_eq_getElem hi]
  rfl
 have e2:((List.range out.length).map fun i=>jD (out.getD i (.non,[])))=out.map jD:=by
  refine List.ext_getElem? fun i=>?_
  rw [List.getElem?_map,List.getElem?_map]
  by_cases hi:i < out.length
  · rw [List.getElem?_range hi,List.getElem?_eq_getElem hi]
    show some (jD (out.getD i (.non,[])))=some (jD out[i])
    rw [List.getD_eq_getElem?_getD,List.getElem?_eq_getElem hi]
    rfl
  · rw [List.getElem?_eq_none (by rw [List.length_range]; omega),List.getElem?_eq_none (by omega)]
    rfl
 rw [e2] at e
 refine fn_rt rfl ?_
 unfold b_zN
 refine (seqS_nx (ρ':=[.fz (.oid k),.fz (rnJ out),.no]) (ω':=ω') (tryS_nx ?_)).trans ?_
 · unfold tb_zN_1
   exact setS_ev (calM_ev (ds:=[.oid k]) (ω1:=ω) rfl h)
 · exact retS_ev (y_bind e rfl)
theorem c_join_no {k:Nat} {ω ω':List Cell} (h:g_zQ [.oid k] ω=some (.exc noJ ω')):g_zN [.oid k] ω=some (.val .non ω'):=by
 refine fn_rt rfl ?_
 unfold b_zN
 refine seqS_rt ?_
 have e:tb_zN_1 g_zQ (startE N_zN [.oid k]) ω=some (.exc noJ (startE N_zN [.oid k]) ω'):=by
  unfold tb_zN_1
  exact setS_ex (calM_ex (ds:=[.oid k]) (ω1:=ω) rfl h)
 rw [tryS_ex e]
 exact catS_rt rfl fun p=>rfl
theorem dpn_plain (ω:List Cell):∀ (n:Nat) (d:D),DL.plain d=true→dpn ω n d=d
 | 0,_,_=>rfl
 | n + 1,.tup ds,h=>by
  have:∀ ds:List D,plainL ds=true→ds.map (dpn ω n)=ds:=by
   intro ds
   induction ds with
   | nil=>intro _; rfl
   | cons a r ih =>
    intro h
    simp only [plainL,Bool.and_eq_true] at h
    rw [List.map_cons,dpn_plain ω n a h.1,ih h.2]
  unfold dpn
  rw [this ds (by simpa [DL.plain] using h)]
 | n + 1,.lst ds,h=>by
  have:∀ ds:List D,plainL ds=true→ds.map (dpn ω n)=ds:=by
   intro ds
   induction ds with
   | nil=>intro _; rfl
   | cons a r ih =>
    intro h
    simp only [plainL,Bool.and_eq_true] at h
    rw [List.map_cons,dpn_plain ω n a h.1,ih h.2]
  unfold dpn
  rw [this ds (by simpa [DL.plain] using h)]
 | _ + 1,.non,_=>rfl
 | _ + 1,.bl _,_=>rfl
 | _ + 1,.int _,_=>rfl
 | _ + 1,.str _,_=>rfl
 | _ + 1,.dic _,h=>by simp [DL.plain] at h
 | _ + 1,.obj _ _,h=>by simp [DL.plain] at h
 | _ + 1,.oid _,h=>by simp [DL.plain] at h
 | _ + 1,.scr _,h=>by simp [DL.plain] at h
 | _ + 1,.exc _ _,h=>by simp [DL.plain] at h
theorem LogsAt.deep {ω:List Cell} {k:Nat} {es:List D} {logs:List (List Mj)} (L:LogsAt ω k es logs):dpn ω 4 (.oid k)=.lst (logs.map fun l=>.lst (l.map jD)):=by
 show (match ω[k]? with | some (.lst ds)=>D.lst (ds.map (dpn ω 3)) | _=>.oid k)=_
 rw [L.at_]
 show D.lst (es.map (dpn ω 3))=_
 congr 1
 refine List.ext_getElem? fun i=>?_
 rw [List.getElem?_map,List.getElem?_map]
 by_cases hi:i < logs.length
 · have hg:logs[i]?=some logs[i]:=List.getElem?_eq_getElem hi
   obtain ⟨j,h1,h2⟩:=L.log i _ hg
   rw [h1,hg]
   show some (match ω[j]? with | some (.lst ds)=>D.lst (ds.map (dpn ω 2)) | _=>.oid j)=some (.lst (logs[i].map jD))
   rw [h2]
   show some (D.lst ((logs[i].map jD).map (dpn ω 2)))=_
   rw [List.map_map]
   congr 2
   refine List.map_congr_left fun m hm=>?_
   exact dpn_plain ω 2 _ (L.ok _ (List.getElem_mem hi) m hm).ok.2.1
 · have:=L.len
   rw [List.getElem?_eq_none (by omega),List.getElem?_eq_none (by omega)]
   rfl
theorem fine_logs {logs:List (List Mj)} (ok:∀ l ∈ logs,∀ m ∈ l,MjOk m):fine (.lst (logs.map fun l=>D.lst (l.map jD)))=true:=by
 obtain ⟨e1,e2⟩:=plJ_of (fun l:List Mj=>D.lst (l.map jD)) 5 logs fun l hl=>by
  obtain ⟨e1,e2⟩:=plJ_of jD 4 l fun m hm=>(ok l hl m hm).ok.2
  exact ⟨e1,by show depL _ + 1 ≤ 5; omega⟩
 refine fine_iff.mpr ⟨e1,?_⟩
 show depL _ + 1 ≤ 64
 omega
theorem LogsAt.clear {ω:List Cell} {k:Nat} {es:List D} {logs:List (List Mj)} (L:LogsAt ω k es logs) (i:Nat) (hi:i < logs.length):LogsAt ((ω ++ [Cell.lst []]).set k (.lst (es.set i (.oid ω.length)))) k (es.set i (.oid ω.length)) (logs.set i []):=by
 have hk:=(List.getElem?_eq_some_iff.mp L.at_).1
 refine ⟨?_,by rw [List.length_set,List.length_set,L.len],fun t l hl=>?_,fun l hl m hm=>?_,by rw [List.length_set]; exact L.few,fun l hl=>?_⟩
 · rw [List.getElem?_set_self (by rw [List.length_append]; omega)]
 · rw [List.getElem?_set] at hl
   by_cases e:i=t
   · subst e
     have:l=[]:=by
      rw [if_pos rfl] at hl
      split at hl <;> first | (cases hl; rfl) | cases hl
     subst this
     refine ⟨ω.length,by rw [List.getElem?_set_self (by rw [L.len]; exact hi)],?_⟩
     rw [List.getElem?_set_ne (by omega),List.getElem?_append_right (Nat.le_refl _),Nat.sub_self]
     rfl
   · rw [if_neg e] at hl
     obtain ⟨j,h1,h2⟩:=L.log t l hl
     refine ⟨j,by rw [List.getElem?_set_ne e]; exact h1,?_⟩
     have hj:=(List.getElem?_eq_some_iff.mp h2).1
     have ne:k ≠ j:=fun q=>by
      subst q
      have h3:=L.at_
      rw [h2] at h3
      injection h3 with h3
      injection h3 with h3
      rw [← h3,List.getElem?_map] at h1
      cases q:l[t]? with
      | none=>rw [q] at h1; cases h1
      | some m=>rw [q] at h1; cases h1
     rw [List.getElem?_set_ne ne,List.getElem?_append_left hj]
     exact h2
 · rcases List.mem_or_eq_of_mem_set hl with hl | rfl
   · exact L.ok l hl m hm
   · cases hm
 · rcases List.mem_or_eq_of_mem_set hl with hl | rfl
   · exact L.short l hl
   · exact Nat.zero_le _
theorem set_getD {logs:List (List Mj)} {i j:Nat} {l:List Mj} (h:i < logs.length):(logs.set i l).getD j []=if i=j then l else logs.getD j []:=getD_set h
section
variable {Mc row:List Int} {n:Nat}
theorem clear_fit (C:Mch Mc n):Fit (linksJ Mc row false) n ((logsJ (linksJ Mc row false) n).set (Mc.getD 0 0).toNat []) (logsJ (linksJ Mc row false) n):=by
 have T:=links_two (row:=row) C false
 have big:=C.big
 have b0:=C.bd 0 (by omega)
 have hl:=logsJ_len (linksJ Mc row false) n
 refine T.fit (by rw [List.length_set,hl]) (fun i hi=>?_) fun m hm=>?_
 · rw [set_getD (by omega)]
   by_cases e:(Mc.getD 0 0).toNat=i
   · rw [if_pos e]
     refine ⟨1,Nat.le_refl _,?_⟩
     have:((logsJ (linksJ Mc row false) n).getD i []).length ≤ 1:=by
      refine Nat.le_of_not_lt fun h=>?_
      have hg:=List.getElem?_eq_getElem h
      obtain ⟨hm,p,hp,x,y⟩:=(T.has i 1 _ hi).mp hg
      obtain ⟨k,hk,em⟩:=links_mem.mp hm
      rw [em] at hp
      rw [if_neg Bool.false_ne_true,C.len] at hk
      rcases (link_mem C).mp hp with rfl | rfl
      · cases y
      · have:=C.inj _ 0 (nxt_lt C k) (by omega) (by dsimp only at x; omega)
        rw [Nat.mod_eq_of_lt (by omega)] at this
        omega
     rw [show ((logsJ (linksJ Mc row false) n).getD i []).length - 1=0 by omega,List.take_zero]
   · rw [if_neg e]
     exact ⟨0,by omega,by rw [Nat.sub_zero,List.take_length]⟩
 · obtain ⟨k,hk,rfl⟩:=links_mem.mp hm
   rw [if_neg Bool.false_ne_true,C.len] at hk
   by_cases e:k=0
   · subst e
     obtain ⟨h1,h2⟩:=mem_of_has T rfl hm ((link_mem C).mpr (.inr rfl))
     dsimp only at h1 h2
     refine ⟨_,h1,?_⟩
     rw [set_getD (by omega),if_neg]
     · exact h2
     · intro q
       have b1:=C.bd _ (nxt_lt C 0)
       have:=C.inj 0 _ (by omega) (nxt_lt C 0) (by omega)
       rw [Nat.mod_eq_of_lt (by omega)] at this
       omega
   · obtain ⟨h1,h2⟩:=mem_of_has T rfl hm ((link_mem C).mpr (.inl rfl))
     dsimp only at h1 h2
     refine ⟨_,h1,?_⟩
     rw [set_getD (by omega),if_neg]
     · exact h2
     · intro q
       have b1:=C.bd k (by omega)
       have:=C.inj 0 k (by omega) (by omega) (by omega)
       omega
abbrev oneJ (Mc row:List Int):Mj:=mkJ (Mc.getD 0 0) 0 (Mc.getD 1 0) 0 0 (row.getD 14 0)
abbrev twoJ (Mc row:List Int):Mj:=mkJ (Mc.getD 2 0) 0 (Mc.getD 1 0) 0 1 (row.getD 15 0)
theorem one_two (C:Mch Mc n):Two [oneJ Mc row] n:=by
 have big:=C.big
 have h01:Mc.getD 0 0 ≠ Mc.getD 1 0:=fun e=>by have:=C.inj 0 1 (by omega) (by omega) e; omega
 refine ⟨fun m hm=>?_,fun m hm p hp=>?_,fun m hm p hp=>?_,fun m hm m' hm' _ _ _ _ _ _=>?_,fun m hm p hp e=>?_,by simp⟩
 · rw [List.mem_singleton.mp hm]
   exact mkJ_nd h01
 · rw [List.mem_singleton.mp hm] at hp
   rcases mkJ_mem.mp hp with rfl | rfl
   · exact C.bd 0 (by omega)
   · exact C.bd 1 (by omega)
 · rw [List.mem_singleton.mp hm] at hp
   rcases mkJ_mem.mp hp with rfl | rfl <;> exact .inl rfl
 · rw [List.mem_singleton.mp hm,List.mem_singleton.mp hm']
 · rw [List.mem_singleton.mp hm] at hp
   rcases mkJ_mem.mp hp with rfl | rfl <;> cases e
theorem rep_getD (n i:Nat):(List.replicate n ([]:List Mj)).getD i []=[]:=by
 rw [List.getD_eq_getElem?_getD,List.getElem?_replicate]
 split <;> rfl
theorem one_fit (C:Mch Mc n):Fit [oneJ Mc row] n ((List.replicate n []).set (Mc.getD 0 0).toNat [oneJ Mc row]) (logsJ [oneJ Mc row] n):=by
 have T:=one_two (row:=row) C
 have big:=C.big
 have b0:=C.bd 0 (by omega)
 have hm1:oneJ Mc row ∈ [oneJ Mc row]:=List.mem_singleton.mpr rfl
 have hp1:(Mc.getD 0 0,(0:Int),row.getD 14 0 % 3,D.int (row.getD 14 0 - 400)) ∈ (oneJ Mc row).2:=mkJ_mem.mpr (.inl rfl)
 have le1:∀ i,i < n→((logsJ [oneJ Mc row] n).getD i []).length ≤ 1:=fun i hi=>Nat.le_of_not_lt fun h=>by
  have hg:=List.getElem?_eq_getElem h
  obtain ⟨hm,p,hp,x,y⟩:=(T.has i 1 _ hi).mp hg
  rw [List.mem_singleton.mp hm] at hp
  rcases mkJ_mem.mp hp with rfl | rfl <;> cases y
 refine T.fit (by rw [List.length_set,List.length_replicate]) (fun i hi=>?_) fun m hm=>?_
 · rw [set_getD (by rw [List.length_replicate]; omega),rep_getD]
   have l1:=le1 i hi
   by_cases e:(Mc.getD 0 0).toNat=i
   · rw [if_pos e]
     refine ⟨0,by omega,?_⟩
     rw [Nat.sub_zero,List.take_length]
     have:=(T.has i 0 (oneJ Mc row) hi).mpr ⟨hm1,_,hp1,by dsimp only; omega,rfl⟩
     generalize (logsJ [oneJ Mc row] n).getD i []=z at this l1
     match z,this,l1 with
     | [x],h,_=>cases h; rfl
     | _ :: _ :: _,_,l=>simp at l
   · rw [if_neg e]
     exact ⟨1,Nat.le_refl _,by rw [show ((logsJ [oneJ Mc row] n).getD i []).length - 1=0 by omega,List.take_zero]⟩
 · rw [List.mem_singleton.mp hm]
   exact ⟨(Mc.getD 0 0).toNat,by omega,by rw [set_getD (by rw [List.length_replicate]; omega),if_pos rfl]; exact hm1⟩
theorem one_join (C:Mch Mc n) {left:List Mj} (hp:left.Perm [oneJ Mc row]):JoinR left [] (some [oneJ Mc row]):=by
 have big:=C.big
 have h01:Mc.getD 0 0 ≠ Mc.getD 1 0:=fun e=>by have:=C.inj 0 1 (by omega) (by omega) e; omega
 have el:left=[oneJ Mc row]:=List.perm_singleton.mp hp
 subst el
 have rd:readyJ (oneJ Mc row) [oneJ Mc row]=true:=by
  unfold readyJ
  rw [Bool.not_eq_true',List.any_eq_false]
  intro o ho
  rw [List.mem_singleton.mp ho,Bool.not_eq_true,List.any_eq_false]
  intro p hp
  rw [mkJ_turn h01]
  rcases mkJ_mem.mp hp with rfl | rfl
  · rw [if_pos rfl]; simp
  · rw [if_neg (Ne.symm h01),if_pos rfl]; simp
 have fl:([oneJ Mc row].filter fun m=>readyJ m [oneJ Mc row])=[oneJ Mc row]:=by simp only [List.filter,rd]
 refine .step _ _ (oneJ Mc row) _ (by simp) (List.mem_singleton.mpr rfl) (by rw [fl]; simp) (by rw [fl]; exact min_one (mkJ_it ..).1 (mkJ_it ..).2) ?_
 rw [show ([oneJ Mc row].filter fun m=>!decide (m=oneJ Mc row))=[] by simp]
 exact .done _
theorem taken_uq:∀ {l:List Mj},(takenM l).Nodup→∀ m ∈ l,∀ m' ∈ l,∀ p ∈ m.2,∀ p' ∈ m'.2,p.1=p'.1→p.2.1=p'.2.1→m=m'
 | [],_,m,hm,_,_,_,_,_,_,_,_=>by cases hm
 | a :: l,h,m,hm,m',hm',p,hp,p',hp',e1,e2=>by
  have h':((a.2.map fun p=>[p.1,p.2.1]) ++ takenM l).Nodup:=h
  obtain ⟨_,h2,h3⟩:=List.nodup_append.mp h'
  have inl:∀ x ∈ l,∀ q ∈ x.2,[q.1,q.2.1] ∈ takenM l:=fun x hx q hq=>List.mem_flatMap.mpr ⟨x,hx,List.mem_map.mpr ⟨q,hq,rfl⟩⟩
  rcases List.mem_cons.mp hm with q1 | q1 <;> rcases List.mem_cons.mp hm' with q2 | q2
  · rw [q1,q2]
  · subst q1
    exact absurd (by rw [e1,e2]) (h3 _ (List.mem_map.mpr ⟨p,hp,rfl⟩) _ (inl m' q2 p' hp'))
  · subst q2
    exact absurd (by rw [e1,e2]) (h3 _ (List.mem_map.mpr ⟨p',hp',rfl⟩) _ (inl m q1 p hp))
  · exact taken_uq h2 m q1 m' q2 p hp p' hp' e1 e2
theorem c_appL {ls:List (List Mj)} {cs ω:List Cell} {ρ:Rho} {m:Mj} {j s:Nat} (hj:j < Mc.length) (h0:0 ≤ Mc.getD j 0) (h1:(Mc.getD j 0).toNat < ls.length) (h2:ρ[2]?=some (.fz (dInts Mc))) (h6:ρ[6]?=some (.fz (.oid (ω.length + ls.length)))) (hs:ρ[s]?=some (.fz (jD m))) (hz:(ls.getD (Mc.getD j 0).toNat []).length ≤ 10) :
  appM (bo ixD (vW 6) (bo ixD (vW 2) (M.pure (.int (j:Nat))))) (vF s) ρ (St ω ls ++ cs)=some (.val .non (St ω (ls.set (Mc.getD j 0).toNat (ls.getD (Mc.getD j 0).toNat [] ++ [m])) ++ cs)):=by
 have up:∀ (i:Nat) (c:Cell),(St ω ls)[i]?=some c→(St ω ls ++ cs)[i]?=some c:=fun i c e=>by
  rw [List.getElem?_append_left (List.getElem?_eq_some_iff.mp e).1]; exact e
 have hg:ls[(Mc.getD j 0).toNat]?=some ls[(Mc.getD j 0).toNat]:=List.getElem?_eq_getElem h1
 have gd:ls.getD (Mc.getD j 0).toNat []=ls[(Mc.getD j 0).toNat]:=by rw [List.getD_eq_getElem?_getD,hg]; rfl
 have hcell:=up _ _ (St_log (ω:=ω) hg)
 have hat:=up _ _ (St_at (ω:=ω) (ls:=ls))
 have vk:view (St ω ls ++ cs) (.oid (ω.length + ls.length))=some (.lst (oids ω.length ls.length)):=by simp only [view,hat]
 have v2:vW 2 ρ (St ω ls ++ cs)=some (.val (dInts Mc) (St ω ls ++ cs)):=by unfold vW; rw [h2]
 have v6:vW 6 ρ (St ω ls ++ cs)=some (.val (.oid (ω.length + ls.length)) (St ω ls ++ cs)):=by unfold vW; rw [h6]
 have vs:vF s ρ (St ω ls ++ cs)=some (.val (jD m) (St ω ls ++ cs)):=by unfold vF; rw [hs]
 have ix:ixD (dInts Mc) (.int (j:Nat))=some (.int (Mc.getD j 0)):=ixD_lst (by rw [List.getElem?_map,List.getD_eq_getElem?_getD,List.getElem?_eq_getElem hj]; rfl)
 have ex:bo ixD (vW 6) (bo ixD (vW 2) (M.pure (.int (j:Nat)))) ρ (St ω ls ++ cs)=some (.val (.oid (ω.length + (Mc.getD j 0).toNat)) (St ω ls ++ cs)):=bo_ev v6 (bo_ev v2 rfl rfl rfl ix) vk rfl (ixD_lstI h0 (oids_at h1))
 have il:isLst (.oid (ω.length + (Mc.getD j 0).toNat)) ρ (St ω ls ++ cs)=some (.val () (St ω ls ++ cs)):=by
  unfold isLst
  simp only [view,hcell]
 unfold appM
 refine y_bind ex (y_bind il (y_bind vs ?_))
 simp only [hcell]
 have hlt:ω.length + (Mc.getD j 0).toNat < (St ω ls).length:=by unfold St; simp only [List.length_append,List.length_map,List.length_singleton]; omega
 rw [if_pos (by rw [List.length_map,← gd]; omega),show (ls[(Mc.getD j 0).toNat].map jD ++ [jD m])=(ls.getD (Mc.getD j 0).toNat [] ++ [m]).map jD by rw [gd,List.map_append]; rfl,List.set_append_left _ _ hlt,St_set _ h1]
end
theorem lrow_ok {ms:List Mj} (h:∀ m ∈ ms,MjOk m) {fa fb:M D} {ρ:Rho} {ω ω1 ω2:List Cell} (ha:fa ρ ω=some (.val (.lst (ms.map jD)) ω1)) (hb:fb ρ ω1=some (.val (.lst (ms.map jD)) ω2)):tst (bo neD fa fb) ρ ω=some (.val false ω2) :=
 tst_ev (bo_ev ha hb rfl rfl (neD_same (fine_js h)))
theorem law_true:∀ ns:List Int,ns.length ≤ 63→∃ ω,g_law [.scr ns] []=some (.val (.bl true) ω):=by
 intro ns _
 obtain ⟨row,hrow⟩:∃ row,row=rowI (cellI ns 0) 16:=⟨_,rfl⟩
 have hr:∀ x ∈ row,0 ≤ x ∧ x < 1000:=by rw [hrow]; exact rowI_bd _ _
 have hlen:row.length=16:=by rw [hrow]; exact rowI_len _ _
 have bdr:∀ i,i < 16→0 ≤ row.getD i 0 ∧ row.getD i 0 < 1000:=fun i hi=>by
  rw [List.getD_eq_getElem?_getD,List.getElem?_eq_getElem (by omega)]
  exact hr _ (List.getElem_mem _)
 obtain ⟨n,Mc,cs1,h3,h6,pm,em⟩:=c_machines hr hlen []
 have C:=mch_of h3 h6 pm
 have hM:Mc.length=n:=C.len
 rw [List.nil_append] at em
 have e0:calM g_zP (consM (calM g_zF (consM (vF 0) (consM (M.pure (.int 0)) (M.pure [])))) (consM (M.pure (.int 16)) (M.pure []))) (startE N_law [.scr ns]) []=some (.val (dInts row) []):=by
  rw [hrow]
  exact calM_ev (ds:=[.int (cellI ns 0),.int (16:Nat)]) (ω1:=[]) (cons_ev (ω1:=[]) (calM_ev (ds:=[.scr ns,.int 0]) (ω1:=[]) rfl (c_cell [] (by omega))) rfl) (c_row [] (by omega))
 have RT:=links_two (row:=row) C true
 have Rok:=links_ok Mc row true
 have Rl:=links_len (row:=row) C true
 have RF:=whole_fit RT (links_ne C true)
 obtain ⟨ω2,hω2⟩:∃ ω2,ω2=St cs1 (logsJ (linksJ Mc row true) n):=⟨_,rfl⟩
 have eR:∀ (ring:Bool) (ω:List Cell),calM g_zK (consM (vF 2) (consM (vF 1) (consM (M.pure (.bl ring)) (M.pure []))))=calM g_zK (consM (vF 2) (consM (vF 1) (consM (M.pure (.bl ring)) (M.pure [])))):=fun _ _=>rfl
 have lk:∀ (ring:Bool) (ρ:Rho) (ω:List Cell),ρ[1]?=some (.fz (dInts row))→ρ[2]?=some (.fz (dInts Mc))→calM g_zK (consM (vF 2) (consM (vF 1) (consM (M.pure (.bl ring)) (M.pure [])))) ρ ω=some (.val (.lst ((linksJ Mc row ring).map jD)) ω):=fun ring ρ ω a b =>
  calM_ev (ds:=[dInts Mc,dInts row,.bl ring]) (ω1:=ω) (cons_ev (ω1:=ω) (by unfold vF; rw [b]) (cons_ev (ω1:=ω) (by unfold vF; rw [a]) rfl)) (c_links hr hlen (by omega) (by omega) ring ω)
 have lgs:∀ (ring:Bool) (ω:List Cell),g_zM [.lst ((linksJ Mc row ring).map jD),.int (n:Nat)] ω=some (.val (.oid (ω.length + n)) (St ω (logsJ (linksJ Mc row ring) n))):=fun ring ω=>c_logs (links_ok Mc row ring) (links_two (row:=row) C ring).inr (links_len (row:=row) C ring) (by omega) ω
 have Lat:∀ (ring:Bool) (ω:List Cell),LogsAt (St ω (logsJ (linksJ Mc row ring) n)) (ω.length + n) (oids ω.length n) (logsJ (linksJ Mc row ring) n):=fun ring ω=>by
  obtain ⟨a,b⟩:=logsJ_ok (links_ok Mc row ring) (links_two (row:=row) C ring).inr (links_len (row:=row) C ring)
  have:=St_logs (ω:=ω) (fun l hl m hm=>(a l hl m hm).1) (by rw [logsJ_len]; omega) b
  rwa [logsJ_len] at this
 have small:∀ {ms:List Mj} {logs full:List (List Mj)},Fit ms n logs full→ms.length ≤ 6→(∀ m ∈ ms,MjOk m)→(takenM (allM logs)).length < 64 ∧ (allM logs).length ≤ 100:=fun {ms logs full} F hl ok=>by
  have hp:=F.perm
  have h1:=hp.length_eq
  have h2:=takenM_len (l:=allM logs) fun m hm=>ok m (hp.mem_iff.mp hm)
  omega
 have L1:=Lat true cs1
 rw [← hω2] at L1
 obtain ⟨s1,s2⟩:=small RF Rl Rok
 obtain ⟨cs2,ej1⟩:=c_joined_yes L1 s1 s2 RF.lgs RF.meets RF.taken (ring_stuck C RF.perm) (fun out h=>by cases h)
 have jn1:=c_join_no ej1
 obtain ⟨ω3,hω3⟩:∃ ω3,ω3=ω2 ++ cs2:=⟨_,rfl⟩
 rw [← hω3] at jn1
 obtain ⟨ω4,hω4⟩:∃ ω4,ω4=St ω3 (logsJ (linksJ Mc row true) n):=⟨_,rfl⟩
 have L1':LogsAt ω4 (cs1.length + n) (oids cs1.length n) (logsJ (linksJ Mc row true) n):=by
  have:=(L1.up cs2).up ((logsJ (linksJ Mc row true) n).map (fun l=>Cell.lst (l.map jD)) ++ [.lst (oids ω3.length (logsJ (linksJ Mc row true) n).length)])
  rw [← hω3,← List.append_assoc] at this
  rw [hω4]
  exact this
 have L2:=Lat true ω3
 rw [← hω4] at L2
 have CT:=links_two (row:=row) C false
 have Cok:=links_ok Mc row false
 have Cl:=links_len (row:=row) C false
 have CF:=whole_fit CT (links_ne C false)
 obtain ⟨ω5,hω5⟩:∃ ω5,ω5=St ω4 (logsJ (linksJ Mc row false) n):=⟨_,rfl⟩
 have L3:=Lat false ω4
 rw [← hω5] at L3
 have chj:∀ {left:List Mj},left.Perm (linksJ Mc row false)→JoinR left [] (some (linksJ Mc row false).reverse):=fun {left} hp=>by
  have:=chain_join (row:=row) C (n - 1) left [] (Nat.le_refl _) (hp.nodup_iff.mpr (links_nd false)) fun m=>by
   rw [hp.mem_iff,links_mem,if_neg Bool.false_ne_true,hM]
  rw [List.nil_append] at this
  unfold linksJ
  rw [if_neg Bool.false_ne_true,hM]
  exact this
 have okr:∀ m ∈ (linksJ Mc row false).reverse,MjOk m:=fun m hm=>Cok m (List.mem_reverse.mp hm)
 obtain ⟨s3,s4⟩:=small CF Cl Cok
 obtain ⟨cs5,ej2⟩:=c_joined_yes L3 s3 s4 CF.lgs CF.meets CF.taken (chj CF.perm) (fun out h=>by cases h; exact okr)
 have jn2:=c_join_yes ej2 (by rw [List.length_reverse]; omega)
 obtain ⟨ω6,hω6⟩:∃ ω6,ω6=ω5 ++ cs5:=⟨_,rfl⟩
 rw [← hω6] at jn2
 have L3':=L3.up cs5
 rw [← hω6] at L3'
 have b0:=C.bd 0 (by omega)
 have b1:=C.bd 1 (by omega)
 have b2:=C.bd 2 (by omega)
 have L4:=L3'.clear (Mc.getD 0 0).toNat (by rw [logsJ_len]; omega)
 obtain ⟨ω7,hω7⟩:∃ ω7,ω7=(ω6 ++ [Cell.lst []]).set (ω4.length + n) (.lst ((oids ω4.length n).set (Mc.getD 0 0).toNat (.oid ω6.length))):=⟨_,rfl⟩
 rw [← hω7] at L4
 have CF2:=clear_fit (row:=row) C
 obtain ⟨s5,s6⟩:=small CF2 Cl Cok
 obtain ⟨cs7,ej3⟩:=c_joined_yes L4 s5 s6 CF2.lgs CF2.meets CF2.taken (chj CF2.perm) (fun out h=>by cases h; exact okr)
 have jn3:=c_join_yes ej3 (by rw [List.length_reverse]; omega)
 obtain ⟨ω8,hω8⟩:∃ ω8,ω8=ω7 ++ cs7:=⟨_,rfl⟩
 rw [← hω8] at jn3
 have OF:=one_fit (row:=row) C
 obtain ⟨ls1,hls1⟩:∃ ls1,ls1=(List.replicate n ([]:List Mj)).set (Mc.getD 0 0).toNat [oneJ Mc row]:=⟨_,rfl⟩
 rw [← hls1] at OF
 have l1len:ls1.length=n:=by rw [hls1,List.length_set,List.length_replicate]
 have okone:∀ m ∈ [oneJ Mc row],MjOk m:=fun m hm=>by rw [List.mem_singleton.mp hm]; exact mkJ_ok ..
 have ls1m:∀ l ∈ ls1,l=[] ∨ l=[oneJ Mc row]:=fun l hl=>by
  rw [hls1] at hl
  rcases List.mem_or_eq_of_mem_set hl with hl | rfl
  · exact .inl (List.eq_of_mem_replicate hl)
  · exact .inr rfl
 have L5:LogsAt (St ω8 ls1) (ω8.length + n) (oids ω8.length n) ls1:=by
  have:=St_logs (ω:=ω8) (ls:=ls1) (fun l hl m hm=>by
   rcases ls1m l hl with rfl | rfl
   · cases hm
   · exact okone m hm) (by omega) (fun l hl=>by
   rcases ls1m l hl with rfl | rfl <;> simp)
  rwa [l1len] at this
 obtain ⟨s7,s8⟩:=small OF (by simp) okone
 obtain ⟨cs8,ej4⟩:=c_joined_yes L5 s7 s8 OF.lgs OF.meets OF.taken (one_join C OF.perm) (fun out h=>by cases h; exact okone)
 have jn4:=c_join_yes ej4 (by simp)
 obtain ⟨ls2,hls2⟩:∃ ls2,ls2=ls1.set (Mc.getD 2 0).toNat [twoJ Mc row]:=⟨_,rfl⟩
 have l2len:ls2.length=n:=by rw [hls2,List.length_set,l1len]
 have ls2m:∀ l ∈ ls2,l=[] ∨ l=[oneJ Mc row] ∨ l=[twoJ Mc row]:=fun l hl=>by
  rw [hls2] at hl
  rcases List.mem_or_eq_of_mem_set hl with hl | rfl
  · exact (ls1m l hl).imp_right .inl
  · exact .inr (.inr rfl)
 have L6:LogsAt (St ω8 ls2 ++ cs8) (ω8.length + n) (oids ω8.length n) ls2:=by
  have:=(St_logs (ω:=ω8) (ls:=ls2) (fun l hl m hm=>by
   rcases ls2m l hl with rfl | rfl | rfl
   · cases hm
   · exact okone m hm
   · rw [List.mem_singleton.mp hm]; exact mkJ_ok ..) (by omega) (fun l hl=>by
   rcases ls2m l hl with rfl | rfl | rfl <;> simp)).up cs8
  rwa [l2len] at this
 have ne02:(Mc.getD 0 0).toNat ≠ (Mc.getD 2 0).toNat:=fun e=>by have:=C.inj 0 2 (by omega) (by omega) (by omega); omega
 have g20:ls1.getD (Mc.getD 2 0).toNat []=[]:=by rw [hls1,set_getD (by rw [List.length_replicate]; omega),if_neg ne02,rep_getD]
 have in1:oneJ Mc row ∈ allM ls2:=allM_mem.mpr ⟨[oneJ Mc row],by
  have:ls2.getD (Mc.getD 0 0).toNat []=[oneJ Mc row]:=by
   rw [hls2,set_getD (by omega),if_neg ne02.symm,hls1,set_getD (by rw [List.length_replicate]; omega),if_pos rfl]
  rw [← this]
  exact getD_mem (by omega),List.mem_singleton.mpr rfl⟩
 have in2:twoJ Mc row ∈ allM ls2:=allM_mem.mpr ⟨[twoJ Mc row],by
  have:ls2.getD (Mc.getD 2 0).toNat []=[twoJ Mc row]:=by rw [hls2,set_getD (by omega),if_pos rfl]
  rw [← this]
  exact getD_mem (by omega),List.mem_singleton.mpr rfl⟩
 have ne12:oneJ Mc row ≠ twoJ Mc row:=fun e=>by
  have:=congrArg Prod.fst e
  injection this with this
  injection this with _ this
  injection this with h1 _
  injection h1 with h1
  omega
 have nnd:¬ (takenM (allM ls2)).Nodup:=fun h=>ne12 (taken_uq h _ in1 _ in2 _ (mkJ_mem.mpr (.inr rfl)) _ (mkJ_mem.mpr (.inr rfl)) rfl rfl)
 have pm2:(allM ls2).Perm [oneJ Mc row,twoJ Mc row]:=(List.perm_ext_iff_of_nodup (allM_nd ls2) (by simp [ne12])).mpr fun m=>by
  constructor
  · intro hm
    obtain ⟨l,hl,hml⟩:=allM_mem.mp hm
    rcases ls2m l hl with rfl | rfl | rfl
    · cases hml
    · rw [List.mem_singleton.mp hml]; exact List.mem_cons_self ..
    · rw [List.mem_singleton.mp hml]; exact List.mem_cons_of_mem _ (List.mem_cons_self ..)
  · intro hm
    rcases List.mem_cons.mp hm with rfl | hm
    · exact in1
    · rw [List.mem_singleton.mp hm]; exact in2
 have s9:=pm2.length_eq
 have s10:=takenM_len (l:=allM ls2) fun m hm=>by
  rcases List.mem_cons.mp (pm2.mem_iff.mp hm) with rfl | hm
  · exact mkJ_ok ..
  · rw [List.mem_singleton.mp hm]; exact mkJ_ok ..
 simp only [List.length_cons,List.length_nil] at s9
 have jn5:=c_join_no (c_joined_no L6 (by omega) (by omega) (.inr (.inr nnd)))
 refine ⟨St ω8 ls2 ++ cs8,fnV_rt rfl ?_⟩
 unfold b_law
 refine (seqS_nx (ρ':=[.fz (.scr ns),.fz (dInts row),.no,.no,.no,.no,.no,.no,.no,.no]) (ω':=[]) (setS_ev e0)).trans ?_
 refine (seqS_nx (ρ':=[.fz (.scr ns),.fz (dInts row),.fz (dInts Mc),.no,.no,.no,.no,.no,.no,.no]) (ω':=cs1) (setS_ev (calM_ev (ds:=[dInts row]) (ω1:=[]) rfl em))).trans ?_
 refine (seqS_nx (ρ':=[.fz (.scr ns),.fz (dInts row),.fz (dInts Mc),.fz (.int (n:Nat)),.no,.no,.no,.no,.no,.no]) (ω':=cs1) (setS_ev (uo_ev (x:=dInts Mc) (ω1:=cs1) rfl rfl (by rw [← hM]; exact lenD_lstM)))).trans ?_
 have vn:∀ (r4 r5 r6 r7 r8 r9:Sl) (ω:List Cell),vF 3 [.fz (.scr ns),.fz (dInts row),.fz (dInts Mc),.fz (.int (n:Nat)),r4,r5,r6,r7,r8,r9] ω=some (.val (.int (n:Nat)) ω):=fun _ _ _ _ _ _ _=>rfl
 refine (seqS_nx (ρ':=[.fz (.scr ns),.fz (dInts row),.fz (dInts Mc),.fz (.int (n:Nat)),.fz (.oid (cs1.length + n)),.no,.no,.no,.no,.no]) (ω':=ω2) (setS_ev (calM_ev (ds:=[.lst ((linksJ Mc row true).map jD),.int (n:Nat)]) (ω1:=cs1) (cons_ev (lk true _ _ rfl rfl) (cons_ev (vn ..) rfl)) (by rw [lgs,hω2])))).trans ?_
 have t1:tst (bo notN (calM g_zN (consM (vF 4) (M.pure []))) (M.pure .non)) [.fz (.scr ns),.fz (dInts row),.fz (dInts Mc),.fz (.int (n:Nat)),.fz (.oid (cs1.length + n)),.no,.no,.no,.no,.no] ω2=some (.val false ω3) :=
  tst_ev (bo_ev (x:=.non) (y:=.non) (ω1:=ω3) (calM_ev (ds:=[.oid (cs1.length + n)]) (ω1:=ω2) rfl jn1) rfl rfl rfl rfl)
 have t2:tst (cmpW neD (vW 4) (calM g_zM (consM (calM g_zK (consM (vF 2) (consM (vF 1) (consM (M.pure (.bl true)) (M.pure []))))) (consM (vF 3) (M.pure []))))) [.fz (.scr ns),.fz (dInts row),.fz (dInts Mc),.fz (.int (n:Nat)),.fz (.oid (cs1.length + n)),.no,.no,.no,.no,.no] ω3=some (.val false ω4):=by
  refine tst_ev (y_bind (a:=.oid (cs1.length + n)) (ω1:=ω3) rfl (y_bind (a:=.oid (ω3.length + n)) (ω1:=ω4) (calM_ev (ds:=[.lst ((linksJ Mc row true).map jD),.int (n:Nat)]) (ω1:=ω3) (cons_ev (lk true _ _ rfl rfl) (cons_ev (vn ..) rfl)) (by rw [lgs,hω4])) ?_))
  rw [L1'.deep,L2.deep,neD_same (fine_logs L2.ok)]
  rfl
 refine (seqS_nx ((ifS_f (orM_f t1 t2)).trans rfl)).trans ?_
 refine (seqS_nx (ρ':=[.fz (.scr ns),.fz (dInts row),.fz (dInts Mc),.fz (.int (n:Nat)),.fz (.oid (cs1.length + n)),.fz (.lst ((linksJ Mc row false).map jD)),.no,.no,.no,.no]) (ω':=ω4) (setS_ev (lk false _ _ rfl rfl))).trans ?_
 refine (seqS_nx (ρ':=[.fz (.scr ns),.fz (dInts row),.fz (dInts Mc),.fz (.int (n:Nat)),.fz (.oid (cs1.length + n)),.fz (.lst ((linksJ Mc row false).map jD)),.fz (.oid (ω4.length + n)),.no,.no,.no]) (ω':=ω5) (setS_ev (calM_ev (ds:=[.lst ((linksJ Mc row false).map jD),.int (n:Nat)]) (ω1:=ω4) (cons_ev rfl (cons_ev (vn ..) rfl)) (by rw [lgs,hω5])))).trans ?_
 have rv:∀ (r6 r7 r8 r9:Sl) (ω:List Cell),uo revD (vW 5) [.fz (.scr ns),.fz (dInts row),.fz (dInts Mc),.fz (.int (n:Nat)),.fz (.oid (cs1.length + n)),.fz (.lst ((linksJ Mc row false).map jD)),r6,r7,r8,r9] ω=some (.val (.lst ((linksJ Mc row false).reverse.map jD)) ω):=fun r6 r7 r8 r9 ω =>
  uo_ev (x:=.lst ((linksJ Mc row false).map jD)) (ω1:=ω) rfl rfl (by show some (D.lst _)=_; rw [List.map_reverse])
 refine (seqS_nx ((ifS_f (lrow_ok okr (calM_ev (ds:=[.oid (ω4.length + n)]) (ω1:=ω5) rfl jn2) (rv ..))).trans rfl)).trans ?_
 have ixM:∀ (j:Nat) (r4 r5 r6 r7 r8 r9:Sl) (ω:List Cell),j < n→bo ixD (vW 2) (M.pure (.int (j:Nat))) [.fz (.scr ns),.fz (dInts row),.fz (dInts Mc),.fz (.int (n:Nat)),r4,r5,r6,r7,r8,r9] ω=some (.val (.int (Mc.getD j 0)) ω):=fun j _ _ _ _ _ _ ω hj =>
  bo_ev (x:=dInts Mc) (y:=.int (j:Nat)) (ω1:=ω) rfl rfl rfl rfl (ixD_lst (by rw [List.getElem?_map,List.getD_eq_getElem?_getD,List.getElem?_eq_getElem (by omega)]; rfl))
 have hat6:(ω6 ++ [Cell.lst []])[ω4.length + n]?=some (.lst (oids ω4.length n)):=by
  rw [List.getElem?_append_left (List.getElem?_eq_some_iff.mp L3'.at_).1]
  exact L3'.at_
 refine (seqS_nx (ρ':=[.fz (.scr ns),.fz (dInts row),.fz (dInts Mc),.fz (.int (n:Nat)),.fz (.oid (cs1.length + n)),.fz (.lst ((linksJ Mc row false).map jD)),.fz (.oid (ω4.length + n)),.no,.no,.no]) (ω':=ω7) ?_).trans ?_
 · rw [hω7]
   refine putLS_at (z:=Mc.getD 0 0) (ω1:=ω6 ++ [Cell.lst []]) (ω2:=ω6 ++ [Cell.lst []]) (newS_at new0) rfl (ixM 0 _ _ _ _ _ _ _ (by omega)) hat6 ?_
   unfold ixN
   rw [if_pos b0.1,if_pos (by rw [show (oids ω4.length n).length=n by simp]; omega)]
 refine (seqS_nx ((ifS_f (lrow_ok okr (calM_ev (ds:=[.oid (ω4.length + n)]) (ω1:=ω7) rfl jn3) (rv ..))).trans rfl)).trans ?_
 have enew:cm_law_1 [.fz (.scr ns),.fz (dInts row),.fz (dInts Mc),.fz (.int (n:Nat)),.fz (.oid (cs1.length + n)),.fz (.lst ((linksJ Mc row false).map jD)),.fz (.oid (ω4.length + n)),.no,.no,.no] ω8=some (.val (oids ω8.length n) (ω8 ++ List.replicate n (Cell.lst []))):=by
  have hrg:rng1 (.int (n:Nat)) [.fz (.scr ns),.fz (dInts row),.fz (dInts Mc),.fz (.int (n:Nat)),.fz (.oid (cs1.length + n)),.fz (.lst ((linksJ Mc row false).map jD)),.fz (.oid (ω4.length + n)),.no,.no,.no] ω8=some (.val (rangeD 0 n) ω8):=rng1_nat (Nat.le_trans h6 (by decide))
  have hsr:((vF 3).bind rng1) [.fz (.scr ns),.fz (dInts row),.fz (dInts Mc),.fz (.int (n:Nat)),.fz (.oid (cs1.length + n)),.fz (.lst ((linksJ Mc row false).map jD)),.fz (.oid (ω4.length + n)),.no,.no,.no] ω8=some (.val (rangeD 0 n) ω8):=y_bind (vn ..) hrg
  unfold cm_law_1 lcM
  refine y_bind hsr ?_
  have hr2:(rangeD 0 n).length=n:=by simp [rangeD]
  have:=news_go (vs:=[9]) (T:=nmT 9) (ρ:=[.fz (.scr ns),.fz (dInts row),.fz (dInts Mc),.fz (.int (n:Nat)),.fz (.oid (cs1.length + n)),.fz (.lst ((linksJ Mc row false).map jD)),.fz (.oid (ω4.length + n)),.no,.no,.no]) (fun d ω=>⟨_,rfl⟩) (rangeD 0 n) [] ω8 (by rw [hr2]; simp; omega)
  rw [hr2,List.nil_append] at this
  simp only [this]
 refine (seqS_nx (ρ':=[.fz (.scr ns),.fz (dInts row),.fz (dInts Mc),.fz (.int (n:Nat)),.fz (.oid (cs1.length + n)),.fz (.lst ((linksJ Mc row false).map jD)),.fz (.oid (ω8.length + n)),.no,.no,.no]) (ω':=St ω8 (List.replicate n [])) ?_).trans ?_
 · unfold setN
   rw [bindS_ev enew]
   show some (RS.nx _ _)=_
   rw [List.length_append,List.length_replicate]
   unfold St
   rw [List.length_replicate,List.map_replicate]
   rfl
 have ixR:∀ (j:Nat) (r4 r5 r6 r7 r8 r9:Sl) (ω:List Cell),j < 16→bo ixD (vW 1) (M.pure (.int (j:Nat))) [.fz (.scr ns),.fz (dInts row),.fz (dInts Mc),.fz (.int (n:Nat)),r4,r5,r6,r7,r8,r9] ω=some (.val (.int (row.getD j 0)) ω):=fun j _ _ _ _ _ _ ω hj =>
  bo_ev (x:=dInts row) (y:=.int (j:Nat)) (ω1:=ω) rfl rfl rfl rfl (ixD_lst (by rw [List.getElem?_map,List.getD_eq_getElem?_getD,List.getElem?_eq_getElem (by omega)]; rfl))
 have mt:∀ (j j' num:Nat) (i:Nat) (r4 r5 r6 r7 r8 r9:Sl) (ω:List Cell),j < n→j' < n→i < 16→calM g_zG (consM ((consM (bo ixD (vW 2) (M.pure (.int (j:Nat)))) (consM (M.pure (.int 0)) (M.pure []))).bind mkTup) (consM ((consM (bo ixD (vW 2) (M.pure (.int (j':Nat)))) (consM (M.pure (.int 0)) (M.pure []))).bind mkTup) (consM (M.pure (.int (num:Nat))) (consM (bo ixD (vW 1) (M.pure (.int (i:Nat)))) (M.pure []))))) [.fz (.scr ns),.fz (dInts row),.fz (dInts Mc),.fz (.int (n:Nat)),r4,r5,r6,r7,r8,r9] ω=some (.val (jD (mkJ (Mc.getD j 0) 0 (Mc.getD j' 0) 0 (num:Nat) (row.getD i 0))) ω):=fun j j' num i r4 r5 r6 r7 r8 r9 ω hj hj' hi =>
  calM_ev (ds:=[.tup [.int (Mc.getD j 0),.int 0],.tup [.int (Mc.getD j' 0),.int 0],.int (num:Nat),.int (row.getD i 0)]) (ω1:=ω) (cons_ev (ω1:=ω) (y_bind (cons_ev (ω1:=ω) (ixM j _ _ _ _ _ _ _ hj) (cons_ev (d:=.int 0) (ω1:=ω) rfl rfl)) (mkTup_ev (by simp))) (cons_ev (ω1:=ω) (y_bind (cons_ev (ω1:=ω) (ixM j' _ _ _ _ _ _ _ hj') (cons_ev (d:=.int 0) (ω1:=ω) rfl rfl)) (mkTup_ev (by simp))) (cons_ev (d:=.int (num:Nat)) (ω1:=ω) rfl (cons_ev (ω1:=ω) (ixR i _ _ _ _ _ _ _ hi) rfl)))) (c_meeting (bdr i hi).1 (bdr i hi).2 ω)
 refine (seqS_nx (ρ':=[.fz (.scr ns),.fz (dInts row),.fz (dInts Mc),.fz (.int (n:Nat)),.fz (.oid (cs1.length + n)),.fz (.lst ((linksJ Mc row false).map jD)),.fz (.oid (ω8.length + n)),.fz (jD (oneJ Mc row)),.no,.no]) (ω':=St ω8 (List.replicate n [])) (setS_ev (mt 0 1 0 14 _ _ _ _ _ _ _ (by omega) (by omega) (by omega)))).trans ?_
 refine (seqS_nx (ρ':=[.fz (.scr ns),.fz (dInts row),.fz (dInts Mc),.fz (.int (n:Nat)),.fz (.oid (cs1.length + n)),.fz (.lst ((linksJ Mc row false).map jD)),.fz (.oid (ω8.length + n)),.fz (jD (oneJ Mc row)),.fz (jD (twoJ Mc row)),.no]) (ω':=St ω8 (List.replicate n [])) (setS_ev (mt 2 1 1 15 _ _ _ _ _ _ _ (by omega) (by omega) (by omega)))).trans ?_
 have ap1:=c_appL (Mc:=Mc) (ls:=List.replicate n []) (cs:=[]) (ω:=ω8) (m:=oneJ Mc row) (j:=0) (s:=7) (ρ:=[.fz (.scr ns),.fz (dInts row),.fz (dInts Mc),.fz (.int (n:Nat)),.fz (.oid (cs1.length + n)),.fz (.lst ((linksJ Mc row false).map jD)),.fz (.oid (ω8.length + n)),.fz (jD (oneJ Mc row)),.fz (jD (twoJ Mc row)),.no]) (by omega) b0.1 (by rw [List.length_replicate]; omega) rfl (by rw [List.length_replicate]; rfl) rfl (by rw [rep_getD]; simp)
 rw [rep_getD,List.nil_append,← hls1,List.append_nil,List.append_nil] at ap1
 refine (seqS_nx (exprS_ev ap1)).trans ?_
 refine (seqS_nx ((ifS_f (lrow_ok (ms:=[oneJ Mc row]) okone (calM_ev (ds:=[.oid (ω8.length + n)]) (ω1:=St ω8 ls1) rfl jn4) (y_bind (a:=[jD (oneJ Mc row)]) (ω1:=St ω8 ls1 ++ cs8) (y_bind (cons_ev (d:=jD (oneJ Mc row)) (ω1:=St ω8 ls1 ++ cs8) rfl rfl) (lenOk_ev (by simp))) rfl))).trans rfl)).trans ?_
 have ap2:=c_appL (Mc:=Mc) (ls:=ls1) (cs:=cs8) (ω:=ω8) (m:=twoJ Mc row) (j:=2) (s:=8) (ρ:=[.fz (.scr ns),.fz (dInts row),.fz (dInts Mc),.fz (.int (n:Nat)),.fz (.oid (cs1.length + n)),.fz (.lst ((linksJ Mc row false).map jD)),.fz (.oid (ω8.length + n)),.fz (jD (oneJ Mc row)),.fz (jD (twoJ Mc row)),.no]) (by omega) b2.1 (by omega) rfl (by rw [l1len]; rfl) rfl (by rw [g20]; simp)
 rw [g20,List.nil_append,← hls2] at ap2
 refine (seqS_nx (exprS_ev ap2)).trans ?_
 exact retS_ev (bo_ev (x:=.non) (y:=.non) (ω1:=St ω8 ls2 ++ cs8) (calM_ev (ds:=[.oid (ω8.length + n)]) (ω1:=St ω8 ls2 ++ cs8) rfl jn5) rfl rfl rfl rfl)
end L71
open PySem PySem.W PySem.Calls PyProof.Rows
set_option maxRecDepth 100000 in
set_option maxHeartbeats 0 in
theorem PySem.Challenge.cw_fullseats_k71_rings_of_logs_holds : PySem.Challenge.rw_fullseats_k71_rings_of_logs.Holds := by
 refine L71.e_0 fun hws => ?_
 refine HandSHeadRun.head_any (r:=OpenLaw.row PySem.Challenge.rw_fullseats_k71_rings_of_logs) (q:=view (OpenLaw.row PySem.Challenge.rw_fullseats_k71_rings_of_logs).prog [23]) (H:=L71.hk) (ob:=DL.obF 6 L71.cks L71.dds L71.ees) (M:=20000) (loose:=L71.lns) (d:=HandSHeadRun.topDef (OpenLaw.row PySem.Challenge.rw_fullseats_k71_rings_of_logs).prog 23) (kwd:=[]) (DL.obF_eq 6 L71.cks L71.dds L71.ees)
  L71.e_1 L71.e_2 L71.run L71.e_3 L71.e_4 L71.e_5 (by rfl) (by first | assumption | decide +kernel) L71.e_6 L71.e_8 L71.e_7 ?hc
 case hc =>
  exact L71.walkH (l:=PySem.Challenge.rw_fullseats_k71_rings_of_logs) rfl (by kernel_rfl) (fun w mg h Y G=>by obtain ⟨K,KX,c⟩:=Y; exact ⟨K,KX,L71.txt_of KX G c⟩) L71.law_true (by kernel_rfl)
