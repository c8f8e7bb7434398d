import PyProof.Rows.All
import HandS.TupSets
import Wide.All
import OpenK.AllK
import Wide.FinOn
import PyProof.EqAt
import PyProof.EqKinds
import PyProof.TupleCall
import PyProof.ReprReads
import HandS.ForMost
import HandS.Style
import HandS.Flow
import HandS.Zip
import HandS.TupAny
import HandS.IsInst
import HandS.Deep
import HandS.Lambda
import KE.KDictKeyed
import HandS.Defaults
import HandS.WordsExc
import KE.GoesEnum
import PyProof.ReprRoads
import HandS.Ends
import HandS.Wide
import HandS.Text
import HandS.TupMul
import HandS.RaiseMore
import KE.LtData
import PyProof.NeData
import KE.KRevSl
import HandS.Conv
import PyProof.ListStr
import HandS.SetKeys
import HandS.SetFor
import HandS.Strs
import HandS.StrMore
import KE.SortData
import HandS.Dict
import HandS.DictComp
import HandS.Iter
import PyProof.CompUse
import HandS.TupLe
import KE.KStrOpen
import PyProof.Ascii
import PyProof.ReprLen
import KE.KDictPairs
import HandS.ExcValue
import HandS.ExcInit
import KE.KExcIs
import HandS.ExcIs
import HandS.ExcField
import HandS.EndTab
import HandS.HeadHook4
import HandS.GenList
import KE.KDictZip
import KE.KIndexOf
import HandS.NoneIn
import PyProof.Rows.StrJoinStr
import HandS.Replace
import KE.KeyNested
import HandS.Star
import KE.KDictSum
import PyProof.AutoSeq1
import PyProof.ListOps
import KE.DataMinMax
import HandS.WideBits
import HandS.Call
import KE.KDictItemsList
import PyProof.Transfer
import KE.SortKeyHeap
import KE.KLam
import KE.KDictDisplayH
import KE.KDictLaws
import HandS.DictEq
import KE.KDictCopyH
import PyProof.DictTruth
import HandS.SetBool
import HandS.Property
import HandS.ClsMeth
import KE.KStateDown
import Lean
import HandS.Words
import HandS.Head0
import HandS.Head1
import HandS.Head2
import HandS.HeadEnd
import HandS.HeadHook1
import HandS.HeadHook2
import HandS.HeadHook3
import PySem.Challenge.RW_gridupgrade_k61_fleets_beside_a_record
set_option Elab.async false
set_option linter.all false
set_option maxRecDepth 100000
set_option maxHeartbeats 4000000
namespace DL
open PySem PySem.Spec L2
open PyProof.Rows hiding St
def eqS (a b:Option (Option Value)):Bool:=decide (a=b)
def excB (K:PySem.W.Frag) (D:Addr):Bool :=
 eqS (PySem.W.findIn K (.ref D) "__getattribute__") (some (some (.builtin "BaseException.__getattribute__"))) && (eqS (PySem.W.findIn K (.ref D) "__getattr__") (some none) && (decide (PySem.W.subIn K (.ref D) (.type "BaseException")=some true) && (PySem.W.hasDictIn K D && (eqS (PySem.W.findIn K (.ref D) "__class__") (some (some (.builtin "object.__class__"))) &&
  (eqS (PySem.W.specialIn K (.builtin "object.__class__") "__get__") (some (some (.builtin "getset_descriptor.__get__"))) && (decide (PySem.W.takesIn K (.builtin "object.__class__")=some true) && decide (PySem.W.mroIn K D (.type "object")=some true)))))))
theorem ba2 {a b:Bool} (h:(a && b)=true):a=true∧b=true:=Bool.and_eq_true_iff.mp h
def clsB (K:PySem.W.Frag) (C:Addr):Bool:=match K.lookup C with
 | some ⟨.type t,_, .cls cd,sl⟩=>decide (t = "type") && (match cd.mro,sl.toList with
  | .ref C' :: bm, [_,_,_,_,some (.builtin n),_]=>decide (C'=C) && (decide (n = "ValueError.__new__") && (cd.hasDict && (!cd.hasDel && PySem.HandSPX.refsVE bm)))
  | _,_=>false)
 | _=>false
def Mq (K:PySem.W.Frag) (C:Addr) (fld:Str):Bool :=
 clsB K C && (eqS (PySem.W.findIn K (.ref C) "__setattr__") (some (some (.builtin "object.__setattr__"))) && (decide (PySem.W.subIn K (.ref C) (.type "BaseException")=some true) && (decide (PySem.W.typeIn K (.ref C)=some (.type "type")) && (PySem.W.keepIn K (.ref C) &&
  (eqS (PySem.W.findIn K (.ref C) fld) (some none) && (eqS (PySem.W.findIn K (.ref C) "__init__") (some (some (.ref (He.ma K C "__init__")))) && decide (PySem.W.typeIn K (.ref (He.ma K C "__init__"))=some (.type "function"))))))))
def aAq (K:PySem.W.Frag) (C:Addr):Bool:=eqS (PySem.W.specialIn K (.ref C) "__getattribute__") (some (some (.builtin "type.__getattribute__"))) && (PySem.W.readsIn K C (.type "type") && match PySem.W.findCls K (.ref C) (.type "type") "__init__" with
 | some (.val v)=>decide (v = .builtin "ValueError.__init__")
 | _=>false)
def exmB (K:PySem.W.Frag) (nms:List Str) (u:Value) (f:Str->Bool):Bool:=nms.all fun m=>decide (PySem.W.exmOne K (.ref (He.ga K m)) u=some (f m))
def Yq (K:PySem.W.Frag) (nms:List Str) (u:Value) (f:Str->Bool):Bool:=nms.all fun m=>decide (PySem.W.kitOne K (.ref (He.ga K m)) u=some (f m))
def qX (l:List Str) (m:Str):Bool:=l.contains m
def bW:Stmt->Nat->Stmt
 | .ClassDef _ _ _ b _ _ _ _ _ _ _,i=>b.getD i (.Pass ⟨0,0,0,0⟩)
 | _,_ => .Pass ⟨0,0,0,0⟩
def mkB (K:PySem.W.Frag) (C f:Addr):Bool:=PySem.W.makesIn K C && (eqS (PySem.W.findIn K (.ref C) "__init__") (some (some (.ref f))) && (PySem.W.isFn K (.ref f) && PySem.W.keepIn K (.ref C)))
def Yr (K:PySem.W.Frag) (C:Addr):Bool:=PySem.W.plainGet K C Str.empty && (PySem.W.hasDictIn K C && (PySem.W.plainOver K C && eqS (PySem.W.findIn K (.ref C) "__setattr__") (some (some (.builtin "object.__setattr__")))))
def Dt (K:PySem.W.Frag) (C:Addr) (f:Str):Bool:=eqS (PySem.W.findIn K (.ref C) f) (some none)
def KQ (K:PySem.W.Frag) (C:Addr) (m:Str) (f:Addr):Bool:=eqS (PySem.W.findIn K (.ref C) m) (some (some (.ref f))) && (PySem.W.isFn K (.ref f) && PySem.W.keepIn K (.ref f))
def prA (K:PySem.W.Frag) (p:Str×Option Str):Addr:=match p.2 with
 | none=>0
 | some m=>He.ma K (He.ga K p.1) m
def pAd (K:PySem.W.Frag) (p:Str×Option Str):Addr:=match PySem.W.recIn K (prA K p) "property" with
 | some (.ref g :: _)=>g
 | _=>0
def cdP (g:Addr->Option Obj) (a:Addr):Option Addr:=match g a with
 | some ⟨_,_, .func fd,_⟩=>(match fd.code with
  | .ref c=>some c
  | _=>none)
 | _=>none
def pfW (K:PySem.W.Frag) (p:Str×Option Str):He.FnW:=match K.lookup (pAd K p) with
 | some ⟨_,_, .func fd,_⟩=>some (fd.name,fd.qualname,fd.params,fd.body,fd.scope,fd.globals,fd.closure,fd.builtins)
 | _=>none
def pOk (K:PySem.W.Frag) (d:He.DefD):Bool:=PySem.W.keepIn K (.ref (pAd K d.at_)) && (match K.lookup (pAd K d.at_) with
 | some ⟨_,_, .func q,_⟩=>PySem.W.codeIn K q.code d.qual && (He.dflB K q.defaults (d.dvs K) && He.kwdB K q.kwdefaults (d.kws K))
 | _=>false)
def Ys (pf:List He.DefD) (K:PySem.W.Frag):Prop:=(pf.all fun d=>pOk K d)=true∧pf.map (fun d=>pfW K d.at_)=pf.map He.DefD.val
structure aAr (fa:List He.Fa) (fn pf:List He.DefD) (tf:List He.Defn) (ex:PySem.W.Frag->Bool) (w:World) (h:Heap) (K:PySem.W.Frag):Prop where
 x:He.SaysX fa fn [] tf ex w h K
 p:Ys pf K
def Qz (K:PySem.W.Frag) (C:Addr) (m:Str) (p g:Addr):Bool:=eqS (PySem.W.findIn K (.ref C) m) (some (some (.ref p))) && (eqS (PySem.W.specialIn K (.ref p) "__get__") (some (some (.builtin "property.__get__"))) && (decide (PySem.W.takesIn K (.ref p)=some true) && (match PySem.W.recIn K p "property" with
 | some (.ref z :: _)=>decide (z=g)
 | _=>false)))
def aAs (K:PySem.W.Frag) (C:Addr):Bool :=
 clsB K C && (eqS (PySem.W.findIn K (.ref C) "__setattr__") (some (some (.builtin "object.__setattr__"))) && (decide (PySem.W.subIn K (.ref C) (.type "BaseException")=some true) && (decide (PySem.W.typeIn K (.ref C)=some (.type "type")) && (PySem.W.keepIn K (.ref C) &&
  (eqS (PySem.W.findIn K (.ref C) "__init__") (some (some (.ref (He.ma K C "__init__")))) && decide (PySem.W.typeIn K (.ref (He.ma K C "__init__"))=some (.type "function")))))))
def Yt (K:PySem.W.Frag) (C:Addr) (f:Str) (i:Int):Bool:=(PySem.W.readsIn K C (.type "type") && eqS (PySem.W.specialIn K (.ref C) "__getattribute__") (some (some (.builtin "type.__getattribute__")))) &&
 ((match PySem.W.findCls K (.ref C) (.type "type") f with
  | some (.val (.int j _))=>decide (j=i)
  | _=>false) && ((PySem.W.plainGet K C f && PySem.W.hasDictIn K C) && (match PySem.W.findIn K (.ref C) f with
  | some (some (.int j t))=>decide (j=i) && eqS (PySem.W.specialIn K (.int j t) "__get__") (some none)
  | _=>false)))
section
open He
def asY (g:Addr->Option Obj) (n:Nat):List Addr:=asD g n++[cStatics]
theorem Vw {as:List Addr} {fa:List Fa} {fn:List DefD} {tf:List Defn} {ex:PySem.W.Frag->Bool} {w:World} {h:Heap} (e1:obsT fa fn [] (frT h.get? as)=valT fn [] w) (e2:(ex (frT h.get? as) && tabsB h.get? tf (frT h.get? as))=true):SaysX fa fn [] tf ex w h (frT h.get? as):=by
 obtain ⟨h1,h2⟩:=ba2 e2
 have key : ∀ p∈tf,PySem.W.codeHdIn (frT h.get? as) (cT (frT h.get? as) p).1 (cT (frT h.get? as) p).2=true ∧ ∃ o,h.get? (cT (frT h.get? as) p).2=some o∧emptyTab o=true:=fun p hp=>by
  obtain ⟨h3,h4⟩:=ba2 (List.all_eq_true.mp h2 p hp)
  refine ⟨h3, ?_⟩
  split at h4
  ·rename_i o q;exact ⟨o,q,h4⟩
  ·cases h4
 exact ⟨e1,h1,fun p hp=>(key p hp).1,fun p hp=>let ⟨_,o,q,z⟩:=key p hp;frT_none q z,fun p hp=>by
  obtain ⟨_,o,q,z⟩:=key p hp
  rw [q,emptyTab_eq z]⟩
def asP (n:Nat) (pf:List DefD) (g:Addr->Option Obj):List Addr :=
 let L:=asY g n
 let M:=L++(let K:=frT g L;pf.map fun d=>pAd K d.at_)
 M++M.filterMap (cdP g)
def obsP (n:Nat) (fa:List Fa) (fn pf:List DefD) (tf:List Defn) (ex:PySem.W.Frag->Bool) (g:Addr->Option Obj):AlX :=
 let K:=frT g (asP n pf g)
 let o:=obsT fa fn [] K
 (((o.1.1 && pf.all (fun d=>pOk K d),o.1.2++pf.map fun d=>pfW K d.at_),o.2),ex K && tabsB g tf K)
def aAt (n:Nat) (fa:List Fa) (fn pf:List DefD) (tf:List Defn) (ex:PySem.W.Frag->Bool):PySem.W.Hook where
 α:=AlX
 obs:=fun s=>obsP n fa fn pf tf ex s.heap.get?
 val:=fun w=>valX (fn++pf) [] w
 says:=fun w h => ∃ K:PySem.W.Frag,K.In h∧aAr fa fn pf tf ex w h K
 of:=fun w s e=>by
  have e1:=congrArg (fun z:AlX=>z.1.1.1) e
  have e2:=congrArg (fun z:AlX=>z.1.1.2) e
  have e3:=congrArg (fun z:AlX=>z.1.2) e
  have e4:=congrArg (fun z:AlX=>z.2) e
  obtain ⟨a1,a2⟩:=ba2 e1
  have e2:(obsT fa fn [] (frT s.heap.get? (asP n pf s.heap.get?))).1.2++pf.map (fun d=>pfW (frT s.heap.get? (asP n pf s.heap.get?)) d.at_)=(fn++pf).map DefD.val:=e2
  rw [List.map_append] at e2
  obtain ⟨b1,b2⟩:=List.append_inj e2 (by show (fn.map _).length=_;rw [List.length_map,List.length_map])
  refine ⟨_,frT_in,Vw ?_ e4,a2,b2⟩
  exact Prod.ext (Prod.ext a1 b1) e3
 keeps:=fun _ _ _ ⟨K,hK,c⟩ k=>⟨K,PySem.W.Frag.In.keeps hK k,⟨⟨c.x.t,c.x.more,c.x.hd,c.x.out,fun p hp=>k _ _ (c.x.empty p hp)⟩,c.p⟩⟩
theorem Yu {n:Nat} {fa:List Fa} {fn pf:List DefD} {tf:List Defn} {ex:PySem.W.Frag->Bool} {g:Addr->Option Obj} {s:Shared} (h : ∀ a,g a=s.heap.get? a):obsP n fa fn pf tf ex g=(aAt n fa fn pf tf ex).obs s:=by
 have e:g=s.heap.get? := funext h
 rw [e]<;>rfl
end
end DL
namespace Hd
open PySem PySem.Spec PyProof.Rows L2
def top (i:Nat):Stmt:=PySem.Challenge.pw_gridupgrade_k61_fleets_beside_a_record.main.body.getD i (.Pass ⟨0,0,0,0⟩)
def mkD (x:Str) (st:Stmt):He.DefD:=⟨(x,none),x,x,defArgs st,defBody st,defScope st, [], []⟩
def mkM (C x:Str) (st:Stmt):He.DefD:=⟨(C,some x),x,C ++ "." ++ x,defArgs st,defBody st,defScope st, [], []⟩
def fn:List He.DefD:=[mkD "_wall" (top 0),mkD "has_release" (top 11),mkD "check_release" (top 12),mkD "mates" (top 13),mkD "level_table" (top 14),mkD "distance" (top 15),mkD "reachable" (top 16),mkD "path" (top 17),mkD "has_service" (top 19),mkD "neighbour_table" (top 20),mkD "check_service" (top 21),mkD "neighbours" (top 22),mkD "lone" (top 23),mkD "trees" (top 24),mkD "way_up" (top 25),mkD "cycle_between" (top 26),mkD "odd_cycle" (top 27),mkD "check_two_sided" (top 28),mkD "sides" (top 29),mkD "in_the_way" (top 31),mkD "blockers" (top 32),mkD "changed" (top 33),mkD "nodes" (top 35),mkD "all_at" (top 36),mkD "adjacent_to" (top 38),mkD "greatest_apart" (top 40),mkD "cover" (top 41),mkD "names_between" (top 43),mkD "checked_distance" (top 45),mkD "upgrade" (top 46),mkD "halves" (top 48),mkD "along" (top 49),mkD "_law_deck" (top 53),mkD "_law_draw" (top 54),mkD "_law_any" (top 55),mkD "_law_turned" (top 56),mkD "_law_names" (top 57),mkD "_law_chain" (top 58),mkD "_law_catalog" (top 59),mkD "_law_network" (top 60),mkD "_law_shared" (top 61),mkD "_law_beside" (top 62),mkD "_law_caught" (top 63),mkD "_law_case" (top 64),mkD "_law_way" (top 65),mkD "_law_put" (top 66),mkD "_law_same" (top 67),mkD "_law_undone" (top 68),mkD "_law_replaced" (top 69),mkD "_law_right" (top 70),mkD "law" (top 71),mkM "NoRelease" "__init__" (DL.bW (top 3) 0),mkM "NoService" "__init__" (DL.bW (top 4) 0),mkM "Unreachable" "__init__" (DL.bW (top 5) 0),mkM "NotTwoSided" "__init__" (DL.bW (top 6) 0),mkM "Blocked" "__init__" (DL.bW (top 7) 0),mkM "Mixed" "__init__" (DL.bW (top 8) 0),mkM "NothingToUndo" "__init__" (DL.bW (top 9) 0),mkM "Fleet" "__init__" (DL.bW (top 51) 1),mkM "Fleet" "__len__" (DL.bW (top 51) 3),mkM "Fleet" "log" (DL.bW (top 51) 8),mkM "Fleet" "store" (DL.bW (top 51) 9),mkM "Fleet" "check_replacement" (DL.bW (top 51) 10),mkM "Fleet" "replace" (DL.bW (top 51) 11),mkM "Fleet" "undo" (DL.bW (top 51) 15)]
def pf:List He.DefD:=[mkM "Fleet" "network" (DL.bW (top 51) 4),mkM "Fleet" "catalog" (DL.bW (top 51) 5),mkM "Fleet" "state" (DL.bW (top 51) 6),mkM "Fleet" "made" (DL.bW (top 51) 7)]
def fa:List He.Fa:=[.glo "_wall", .glo "has_release", .glo "check_release", .glo "mates", .glo "level_table", .glo "distance", .glo "reachable", .glo "path", .glo "has_service", .glo "neighbour_table", .glo "check_service", .glo "neighbours", .glo "lone", .glo "trees", .glo "way_up", .glo "cycle_between", .glo "odd_cycle", .glo "check_two_sided", .glo "sides", .glo "in_the_way", .glo "blockers", .glo "changed", .glo "nodes", .glo "all_at", .glo "adjacent_to", .glo "greatest_apart", .glo "cover", .glo "names_between", .glo "checked_distance", .glo "upgrade", .glo "halves", .glo "along", .glo "_law_deck", .glo "_law_draw", .glo "_law_any", .glo "_law_turned", .glo "_law_names", .glo "_law_chain", .glo "_law_catalog", .glo "_law_network", .glo "_law_shared", .glo "_law_beside", .glo "_law_caught", .glo "_law_case", .glo "_law_way", .glo "_law_put", .glo "_law_same", .glo "_law_undone", .glo "_law_replaced", .glo "_law_right", .glo "law", .glo "UpgradeError", .glo "NoRelease", .glo "NoService", .glo "Unreachable", .glo "NotTwoSided", .glo "Blocked", .glo "Mixed", .glo "NothingToUndo", .glo "Pairing", .glo "Fleet", .glo "upgrade_upgrades", .free "ValueError", .free "property", .free "tuple", .free "range", .free "sorted", .free "enumerate", .free "dict", .free "any", .free "all", .free "isinstance", .free "str", .free "len", .free "list", .free "int", .free "repr", .free "zip", .free "abs", .free "max", .free "set", .free "min"]
def tf:List He.Defn:=[("_law_undone",none),("_law_replaced",none)]
def nms:List Str:=["NoRelease", "NoService", "Unreachable", "NotTwoSided", "Blocked", "Mixed", "NothingToUndo"]
def ex (K:PySem.W.Frag):Bool:=(nms.all fun m=>DL.excB K (He.ga K m)) && (DL.Mq K (He.ga K "NoRelease") "value" && (DL.Mq K (He.ga K "NoService") "value" && (DL.Mq K (He.ga K "Unreachable") "names" && (DL.Mq K (He.ga K "NotTwoSided") "cycle" && (DL.Mq K (He.ga K "Blocked") "services" && (DL.Mq K (He.ga K "Mixed") "present" && (DL.aAs K (He.ga K "NothingToUndo") && (DL.mkB K (He.ga K "Fleet") (He.ma K (He.ga K "Fleet") "__init__") && (DL.KQ K (He.ga K "Fleet") "__len__" (He.ma K (He.ga K "Fleet") "__len__") && (DL.Qz K (He.ga K "Fleet") "network" (DL.prA K ("Fleet",some "network")) (DL.pAd K ("Fleet",some "network")) && (DL.Qz K (He.ga K "Fleet") "catalog" (DL.prA K ("Fleet",some "catalog")) (DL.pAd K ("Fleet",some "catalog")) && (DL.Qz K (He.ga K "Fleet") "state" (DL.prA K ("Fleet",some "state")) (DL.pAd K ("Fleet",some "state")) && (DL.Qz K (He.ga K "Fleet") "made" (DL.prA K ("Fleet",some "made")) (DL.pAd K ("Fleet",some "made")) && (DL.KQ K (He.ga K "Fleet") "log" (He.ma K (He.ga K "Fleet") "log") && (DL.KQ K (He.ga K "Fleet") "store" (He.ma K (He.ga K "Fleet") "store") && (DL.KQ K (He.ga K "Fleet") "check_replacement" (He.ma K (He.ga K "Fleet") "check_replacement") && (DL.KQ K (He.ga K "Fleet") "replace" (He.ma K (He.ga K "Fleet") "replace") && (DL.KQ K (He.ga K "Fleet") "undo" (He.ma K (He.ga K "Fleet") "undo") && (DL.Yt K (He.ga K "Fleet") "MOST_SERVICES" 12 && (DL.Yr K (He.ga K "Fleet") && (DL.Dt K (He.ga K "Fleet") "network_held" && (DL.Dt K (He.ga K "Fleet") "catalog_held" && (DL.Dt K (He.ga K "Fleet") "moment" && (DL.aAq K (He.ga K "UpgradeError") && ((nms.all fun m=>DL.eqS (PySem.W.findIn K (.ref (He.ga K m)) "services") (some none)) && (decide ((He.cT K ("_law_undone",none)).2≠(He.cT K ("_law_replaced",none)).2) && (DL.Yq K nms (.ref (He.ga K "NothingToUndo")) (DL.qX ["NothingToUndo"]) && (DL.Yq K nms (.ref (He.ga K "Blocked")) (DL.qX ["Blocked"]) && (DL.exmB K nms (.ref (He.ga K "UpgradeError")) (DL.qX ["NoRelease", "NoService", "Unreachable", "NotTwoSided", "Blocked", "Mixed", "NothingToUndo"]))))))))))))))))))))))))))))))
abbrev R:PySem.W.OpenRow:=PySem.W.OpenLaw.row PySem.Challenge.rw_gridupgrade_k61_fleets_beside_a_record
abbrev hk:PySem.W.Hook:=DL.aAt 4 fa fn pf tf ex
def ob (s:PySem.W.SharedT):He.AlX:=DL.obsP 4 fa fn pf tf ex (HandSHeadRun.getT s)
theorem ob_eq (s:PySem.W.SharedT):ob s=hk.obs s.abs:=DL.Yu (HandSHeadRun.getT_eq s)
def lo0:List PySem.Str:=["_wall", "UpgradeError", "NoRelease", "NoService", "Unreachable", "NotTwoSided", "Blocked", "Mixed", "NothingToUndo", "has_release", "check_release", "mates", "level_table", "distance", "reachable", "path", "has_service", "neighbour_table", "check_service", "neighbours", "lone", "trees", "way_up", "cycle_between", "odd_cycle", "check_two_sided", "sides", "in_the_way", "blockers", "changed"]
def lo1:List PySem.Str:=["nodes", "all_at", "adjacent_to", "Pairing", "greatest_apart", "cover", "names_between", "checked_distance", "upgrade", "upgrade_upgrades", "halves", "along", "Fleet", "_law_deck", "_law_draw", "_law_any", "_law_turned", "_law_names", "_law_chain", "_law_catalog", "_law_network", "_law_shared", "_law_beside", "_law_caught", "_law_case", "_law_way", "_law_put", "_law_same", "_law_undone", "_law_replaced"]
def lo2:List PySem.Str:=["_law_right"]
def lo:List PySem.Str:=lo0++lo1++lo2
theorem map3 {α β γ δ : Type} {o:Option α} {f : α->β} {g : α->γ} {h : α->δ} {x : β} {y : γ} {z : δ} (a:o.map f=some x) (b:o.map g=some y) (c:o.map h=some z):o.map (fun s=>(f s,g s,h s))=some (x,y,z):=by
 cases o with
 | none=>cases a
 | some s =>
  injection a with a
  injection b with b
  injection c with c
  show some (f s,g s,h s)=_
  rw [a,b,c]
theorem map2 {α β γ : Type} {o:Option α} {f : α->β×γ} {x : β×γ} (a:o.map (fun s=>(f s).1)=some x.1) (b:o.map (fun s=>(f s).2)=some x.2):o.map f=some x:=by
 cases o with
 | none=>cases a
 | some s =>
  injection a with a
  injection b with b
  exact congrArg some (Prod.ext a b)
open HandSHeadRun PySem.W PySem.Calls in
theorem runA (w:World) (os:OsState):(endF (stepQ (denQ tabQ) R.prog w) 7300 R.prog w os).map (fun s=>looksF R.prog (boot_heap w.params) s.abs)=some true:=by kernel_rfl
open HandSHeadRun PySem.W PySem.Calls in
theorem runB (w:World) (os:OsState):(endF (stepQ (denQ tabQ) R.prog w) 7300 R.prog w os).map (fun s=>seenQ (PySem.W.view R.prog [71]) lo (importedModules R.prog.main.body) (fun s=>xlAt (PySem.W.view R.prog [71]) [] s && recOk R.toRowW.records s) s.abs)=some (openGood (PySem.W.view R.prog [71]) lo):=by kernel_rfl
open HandSHeadRun PySem.W PySem.Calls in
theorem runC1 (w:World) (os:OsState):(endF (stepQ (denQ tabQ) R.prog w) 7300 R.prog w os).map (fun s=>(ob s).1.1.1)=some true:=by kernel_rfl
open HandSHeadRun PySem.W PySem.Calls in
theorem runC2 (w:World) (os:OsState):(endF (stepQ (denQ tabQ) R.prog w) 7300 R.prog w os).map (fun s=>(ob s).1.1.2)=some ((fn++pf).map He.DefD.val):=by kernel_rfl
open HandSHeadRun PySem.W PySem.Calls in
theorem runC3 (w:World) (os:OsState):(endF (stepQ (denQ tabQ) R.prog w) 7300 R.prog w os).map (fun s=>(ob s).1.2)=some []:=by kernel_rfl
open HandSHeadRun PySem.W PySem.Calls in
theorem runD (w:World) (os:OsState):(endF (stepQ (denQ tabQ) R.prog w) 7300 R.prog w os).map (fun s=>(ob s).2)=some true:=by kernel_rfl
open HandSHeadRun PySem.W PySem.Calls in
theorem runC (w:World) (os:OsState):(endF (stepQ (denQ tabQ) R.prog w) 7300 R.prog w os).map (fun s=>(ob s).1)=some ((true,(fn++pf).map He.DefD.val), []):=map2 (f:=fun s=>(ob s).1) (x:=((true,(fn++pf).map He.DefD.val), [])) (map2 (f:=fun s=>(ob s).1.1) (x:=(true,(fn++pf).map He.DefD.val)) (runC1 w os) (runC2 w os)) (runC3 w os)
open HandSHeadRun PySem.W PySem.Calls in
theorem runE (w:World) (os:OsState):(endF (stepQ (denQ tabQ) R.prog w) 7300 R.prog w os).map ob=some (((true,(fn++pf).map He.DefD.val), []),true):=map2 (f:=ob) (x:=(((true,(fn++pf).map He.DefD.val), []),true)) (runC w os) (runD w os)
theorem run (w:World):HandSHeadRun.RunEq R (PySem.W.view R.prog [71]) hk ob 7300 lo w:=fun os=>map3 (runA w os) (runB w os) (runE w os)
end Hd
namespace DL
open PySem PySem.Spec L2
open PyProof.Rows hiding St
def MaskQ (q:Nat):Prop:=q=7∨q=31∨q=127∨q=511
theorem Yv {q:Nat} {z:Int} {c:Nat}:way q z c≤q:=by
 have l0:SetTable.bits z % (q+1)≤q:=Nat.le_of_lt_succ (Nat.mod_lt _ (Nat.succ_pos q))
 have l1:=(runEnd_bd l0).1
 have l2:=(runEnd_bd l0).2.1
 have:=nth_in c (runAt q (SetTable.bits z % (q+1)) (SetTable.bits z)) (show SetTable.bits z % (q+1)+(SetTable.runEnd q (SetTable.bits z % (q+1)) - SetTable.bits z % (q+1))≤q by omega)
 exact Nat.le_trans (Nat.le_add_right _ _) this
structure Yw (t:SetTable) (zs:List Int):Prop where
 ris:Ris t.place.toList
 dm:t.dummies = #[]
 sz:t.place.size=zs.length
 mok:MaskQ t.mask
 bd : ∀ x∈t.place.toList,x≤t.mask
 reach : ∀ (i:Nat) (z:Int) (y:Nat),zs[i]? = some z->t.place.toList[i]? = some y -> ∃ c,way t.mask z c=y ∧ ∀ d,d<c->way t.mask z d∈t.place.toList
section
variable {t:SetTable} {zs:List Int}
theorem Yw.put (W:Yw t zs) {z:Int} {K:Nat} (hK:way t.mask z K∉t.place.toList) (hb : ∀ c,c<K->way t.mask z c∈t.place.toList) {y p:Nat} (ey:way t.mask z K=y) (ep:SetTable.below t.place y=p) :
  (t.put y).2=p∧p≤zs.length∧Yw (t.put y).1 (zs.take p++z :: zs.drop p)∧(t.put y).1.mask=t.mask∧(t.put y).1.led=t.led∧(t.put y).1.plain=t.plain∧(t.put y).1.moves=t.moves∧(t.put y).1.finger=t.finger∧(t.put y).1.fill=zs.length+1:=by
 subst ey
 have cut:=(below_cut W.ris (way t.mask z K)).1
 rw [ep] at cut
 have lz:p≤zs.length:=W.sz▸cut
 have lp:p≤t.place.toList.length:=cut
 have new:t.place[SetTable.below t.place (way t.mask z K)]? ≠ some (way t.mask z K):=fun e=>hK (List.mem_of_getElem? (Array.getElem?_toList .. ▸ e))
 have pl:=put_place t (way t.mask z K)
 rw [ep] at pl
 have dm:=put_dm W.dm (way t.mask z K)
 have ps:(t.put (way t.mask z K)).1.place.size=zs.length+1:=by
  have:=congrArg List.length pl
  rw [len_ins _ lp,Array.length_toList,Array.length_toList,W.sz] at this
  exact this
 have old : ∀ {v:Nat},v∈t.place.toList->v∈(t.put (way t.mask z K)).1.place.toList:=fun {v} h=>pl▸mem_ins.mpr (.inr h)
 refine ⟨ep,lz, { ris:=ris_insert W.ris new,dm:=dm,sz:=by rw [ps,len_ins _ lz],mok:=W.mok,bd:=fun v h => ?_,reach:=fun i u v hu hv => ?_ },rfl,rfl,rfl,rfl,rfl, ?_⟩
 ·rw [pl] at h
  exact (mem_ins.mp h).elim (fun e=>by rw [e];exact Yv) (W.bd v)
 ·rw [tins_get zs lz] at hu
  rw [pl,tins_get _ lp] at hv
  show ∃ c,way t.mask u c=v ∧ ∀ d,d<c->way t.mask u d∈_
  rcases Nat.lt_trichotomy i p with q | q | q
  ·rw [if_pos q] at hu hv
   obtain ⟨c,e,b⟩:=W.reach i u v hu hv
   exact ⟨c,e,fun d hd=>old (b d hd)⟩
  ·rw [if_neg (by omega),if_pos q] at hu hv
   cases hu;cases hv
   exact ⟨K,rfl,fun d hd=>old (hb d hd)⟩
  ·rw [if_neg (by omega),if_neg (by omega)] at hu hv
   obtain ⟨c,e,b⟩:=W.reach (i - 1) u v hu hv
   exact ⟨c,e,fun d hd=>old (b d hd)⟩
 ·unfold SetTable.fill
  rw [ps,dm];rfl
end
abbrev T:=PyData
class Tbs where
 T:List (Addr×Str)
 cad:Str->Addr
 nms:List Str
 hs:NestedKey->Int
def SqP (H:Hp) (a:Addr) (vs:List V):Prop := ∃ o,H a=some (.frz o (.tup vs))∧o.cls = .type "tuple" ∧ o.dict=none
theorem SqP.t {K:PySem.W.Frag} {H:Hp} {a:Addr} {vs:List V} (h:SqP H a vs):SqT K H a vs:=let ⟨o,e,_⟩:=h; .inl (.inr ⟨o,e⟩)
abbrev Vs (its:List Value):Obj := { cls := .type "tuple",data := .seq its.toArray }
theorem SqP.new {H:Hp} {a:Addr} {vs:List V} {its:List Value} (e:H a=some (.frz (Vs its) (.tup vs))):SqP H a vs:=⟨_,e,rfl,rfl⟩
def NT (o:HO):Prop := ∀ ps,o ≠ .tbl ps
def Mu:Option HO->Prop
 | some (.lst _)=>True
 | some (.dK _)=>True
 | some (.dT _)=>True
 | some (.set _ _)=>True
 | some (.ins _ _ _)=>True
 | some (.ext φ) => ¬ ∃ c q,HO.ext φ=LamX.CodeO c q
 | _=>False
theorem Mu.mut {o:Option HO} (m:Mu o):Mut o:=by
 unfold Mu at m
 split at m<;>first | trivial | exact m.elim
theorem Mu.nt {o:HO} (m:Mu (some o)):NT o:=fun ps e=>by rw [e] at m;exact m
theorem Oo {c:Addr} {q:Str} : ¬ Mu (some (LamX.CodeO c q)):=fun m=>m ⟨c,q,rfl⟩
theorem Tabs.updN {T:List (Addr×Str)} {H:Hp} {D:Addr} {o u:HO} (t:LamX.Tabs T H) (e:H D=some o) (nt:NT o) (nc : ∀ c q,o≠LamX.CodeO c q):LamX.Tabs T (L2.upd H D u):=fun p hp=>by
 obtain ⟨ps,h1,h2,h3⟩:=t p hp
 have n1:p.1≠D:=fun z=>by
  rw [z,e] at h1
  exact nt _ (Option.some.inj h1)
 refine ⟨ps,(upd_ne n1).trans h1,h2,fun pos cv hc => ?_⟩
 obtain ⟨c,e1,e2⟩:=h3 pos cv hc
 have n2:c≠D:=fun z=>by
  rw [z,e] at e2
  exact nc _ _ (Option.some.inj e2)
 exact ⟨c,e1,(upd_ne n2).trans e2⟩
theorem Tabs.upd {T:List (Addr×Str)} {H:Hp} {D:Addr} {o u:HO} (t:LamX.Tabs T H) (e:H D=some o) (mu:Mu (some o)):LamX.Tabs T (L2.upd H D u) :=
 Tabs.updN t e mu.nt fun c q z=>Oo (by rw [← z];exact mu)
theorem Vx {o:Obj} {u:HO} {c:Addr} {q:Str}:HO.frz o u≠LamX.CodeO c q:=fun z=>by
 unfold LamX.CodeO at z
 cases z
section
variable [Tbs]
mutual
inductive RV (K:PySem.W.Frag) (H:Hp):V->T->List Addr->Prop
 | non:RV K H .non .none []
 | bl (b:Bool):RV K H (.bl b) (.bool b) []
 | int (i:Int):RV K H (.int i) (.int i) []
 | str (x:Str):RV K H (.str x) (.str x) []
 | tup {a:Addr} {vs:List V} {ts:List T} {as:List Addr}:SqP H a vs->RVs K H vs ts as->RV K H (.ref a) (.tuple ts) as
 | lst {a:Addr} {vs:List V} {ts:List T} {as:List Addr}:Rd H a (.lst vs)->RVs K H vs ts as->RV K H (.ref a) (.list ts) (a :: as)
 | lstK {a:Addr} {vs:List V} {ts:List T} {as:List Addr} {o:Obj} {its:Array Value} {n:Nat} :
   K.lookup a=some o->o.cls = .type "list" -> o.dict=none->o.data = .seq its n->its.size≤sizeLine->Vals vs its.toList->RVs K H vs ts as->RV K H (.ref a) (.list ts) as
 | dct {a:Addr} {kvs:List (Key×V)} {ts:List T} {as:List Addr}:Rd H a (.dK kvs)->RVs K H (kvs.map (·.2)) ts as ->
   RV K H (.ref a) (.dict (List.zipWith (fun (p:Key×V) (t:T)=>((match p.1 with | .inl i => .int i | .inr x => .str x),t)) kvs ts)) (a :: as)
inductive RVs (K:PySem.W.Frag) (H:Hp):List V->List T->List Addr->Prop
 | nil:RVs K H [] [] []
 | cons {v:V} {vs:List V} {t:T} {ts:List T} {as bs:List Addr}:RV K H v t as->RVs K H vs ts bs->RVs K H (v :: vs) (t :: ts) (as++bs)
end
abbrev rD:Key->T
 | .inl i => .int i
 | .inr x => .str x
theorem RVs.length {K:PySem.W.Frag} {H:Hp} : ∀ {vs:List V} {ts:List T} {as:List Addr},RVs K H vs ts as->vs.length=ts.length
  | _,_,_, .nil=>rfl
  | _,_,_, .cons _ h=>congrArg (· + 1) h.length
structure Ext (H:Hp) (F:Addr->Prop) (H' : Hp) (F' : Addr->Prop):Prop where
 keep : ∀ a o,H a=some o -> ¬ F a->NT o->H' a=some o
 tups : ∀ a xs,H a=some (.tup xs)->H' a=some (.tup xs)
 frzs : ∀ a o u,H a=some (.frz o u)->H' a=some (.frz o u)
 new : ∀ a,F' a->F a∨H a=none
 dom : ∀ a,H' a=none->H a=none
 tabs:LamX.Tabs Tbs.T H->LamX.Tabs Tbs.T H'
 exts : ∀ a φ,H a=some (.ext φ) -> ¬ Mu (some (.ext φ))->H' a=some (.ext φ)
theorem Ext.refl {H:Hp} {F:Addr->Prop}:Ext H F H F:=⟨fun _ _ h _ _=>h,fun _ _ h=>h,fun _ _ _ h=>h,fun _ h => .inl h,fun _ h=>h,fun h=>h,fun _ _ h _=>h⟩
theorem Ext.trans {H H1 H2:Hp} {F F1 F2:Addr->Prop} (h:Ext H F H1 F1) (k:Ext H1 F1 H2 F2):Ext H F H2 F2 where
 keep a o e n t:=k.keep a o (h.keep a o e n t) (fun z=>(h.new a z).elim n fun q=>by rw [q] at e;cases e) t
 tups a xs e:=k.tups a xs (h.tups a xs e)
 frzs a o u e:=k.frzs a o u (h.frzs a o u e)
 new a z:=(k.new a z).elim (h.new a) fun q => .inr (h.dom a q)
 dom a z:=h.dom a (k.dom a z)
 tabs z:=k.tabs (h.tabs z)
 exts a φ e m:=k.exts a φ (h.exts a φ e m) m
theorem Ext.weak {H H1:Hp} {F F1 F' F1' : Addr->Prop} (h:Ext H F H1 F1) (w : ∀ a,F a->F' a) (w1 : ∀ a,F1' a->F1 a):Ext H F' H1 F1' where
 keep a o e n t:=h.keep a o e (fun z=>n (w a z)) t
 tups:=h.tups
 frzs:=h.frzs
 new a z:=(h.new a (w1 a z)).elim (fun q => .inl (w a q)) .inr
 dom:=h.dom
 tabs:=h.tabs
 exts:=h.exts
def fL (H H' : Hp):Prop := ∀ a o,H a=some o->H' a=some o
theorem fL.refl {H:Hp}:fL H H:=fun _ _ h=>h
theorem fL.trans {H H1 H2:Hp} (h:fL H H1) (k:fL H1 H2):fL H H2:=fun a o e=>k a o (h a o e)
theorem fL.upd {H:Hp} {p:Addr} {o:HO} (n:H p=none):fL H (upd H p o):=fun a u e=>by
 rw [upd_ne (ne_of_none e n)];exact e
theorem fL.ext {H H' : Hp} {F:Addr->Prop} (h:fL H H'):Ext H F H' F :=
 ⟨fun a o e _ _=>h a o e,fun a xs e=>h a _ e,fun a o u e=>h a _ e,fun _ z => .inl z,fun a z=>by
  (cases q:H a with
  | none=>rfl
  | some o=>rw [h a o q] at z;cases z),fun t=>LamX.Tabs.ext t h,fun a φ e _=>h a _ e⟩
theorem fL.extA {H H' : Hp} {F:Addr->Prop} {A:List Addr} (h:fL H H') (n : ∀ a∈A,H a=none):Ext H F H' (fun a=>F a∨a∈A) :=
 ⟨fun a o e _ _=>h a o e,fun a xs e=>h a _ e,fun a o u e=>h a _ e,fun a z=>z.imp (fun q=>q) (n a),(h.ext (F:=F)).dom,fun t=>LamX.Tabs.ext t h,fun a φ e _=>h a _ e⟩
theorem Rd.tupE {H H' : Hp} {F F' : Addr->Prop} (x:Ext H F H' F') {a:Addr} {vs:List V} (h:Rd H a (.tup vs)):Rd H' a (.tup vs):=by
 rcases h with h | ⟨o,h⟩
 ·exact .inl (x.tups a vs h)
 ·exact .inr ⟨o,x.frzs a o _ h⟩
theorem Rd.keepE {H H' : Hp} {F F' : Addr->Prop} (x:Ext H F H' F') {a:Addr} {u:HO} (h:Rd H a u) (n : ¬ F a) (t:NT u):Rd H' a u:=by
 rcases h with h | ⟨o,h⟩
 ·exact .inl (x.keep a u h n t)
 ·exact .inr ⟨o,x.keep a _ h n fun ps e=>nomatch e⟩
theorem Rd.some {H:Hp} {a:Addr} {u:HO} (h:Rd H a u) : ∃ o,H a=some o:=by
 rcases h with h | ⟨o,h⟩<;>exact ⟨_,h⟩
theorem SqT.keepE {K:PySem.W.Frag} {H H' : Hp} {F F' : Addr->Prop} (x:Ext H F H' F') {a:Addr} {vs:List V} (h:SqT K H a vs):SqT K H' a vs:=h.imp (Rd.tupE x) fun h=>h
theorem SqP.keepE {H H' : Hp} {F F' : Addr->Prop} (x:Ext H F H' F') {a:Addr} {vs:List V} (h:SqP H a vs):SqP H' a vs:=let ⟨o,e,q⟩:=h;⟨o,x.frzs a o _ e,q⟩
theorem Bc {vs:List V}:NT (.lst vs):=fun _ e=>nomatch e
theorem Yx {vs:List (Key×V)}:NT (.dK vs):=fun _ e=>nomatch e
mutual
theorem RV.ext {K:PySem.W.Frag} {H H' : Hp} {F F' : Addr->Prop} (x:Ext H F H' F') : ∀ {v:V} {t:T} {as:List Addr},RV K H v t as->(∀ a∈as, ¬ F a)->RV K H' v t as
 | _,_,_, .non,_ => .non
 | _,_,_, .bl b,_ => .bl b
 | _,_,_, .int i,_ => .int i
 | _,_,_, .str z,_ => .str z
 | _,_,_, .tup h r,n => .tup (SqP.keepE x h) (RVs.ext x r n)
 | _,_,_, .lst h r,n => .lst (Rd.keepE x h (n _ List.mem_cons_self) Bc) (RVs.ext x r fun a m=>n a (List.mem_cons_of_mem _ m))
 | _,_,_, .lstK h1 h2 h3 h4 h5 h6 r,n => .lstK h1 h2 h3 h4 h5 h6 (RVs.ext x r n)
 | _,_,_, .dct h r,n => .dct (Rd.keepE x h (n _ List.mem_cons_self) Yx) (RVs.ext x r fun a m=>n a (List.mem_cons_of_mem _ m))
theorem RVs.ext {K:PySem.W.Frag} {H H' : Hp} {F F' : Addr->Prop} (x:Ext H F H' F') : ∀ {vs:List V} {ts:List T} {as:List Addr},RVs K H vs ts as->(∀ a∈as, ¬ F a)->RVs K H' vs ts as
 | _,_,_, .nil,_ => .nil
 | _,_,_, .cons h r,n => .cons (RV.ext x h fun a m=>n a (List.mem_append_left _ m)) (RVs.ext x r fun a m=>n a (List.mem_append_right _ m))
end
mutual
theorem RV.there {K:PySem.W.Frag} {H:Hp} : ∀ {v:V} {t:T} {as:List Addr},RV K H v t as -> ∀ a∈as, ∃ o,H a=some o
 | _,_,_, .non,_,m=>nomatch m
 | _,_,_, .bl b,_,m=>nomatch m
 | _,_,_, .int i,_,m=>nomatch m
 | _,_,_, .str z,_,m=>nomatch m
 | _,_,_, .tup h r,a,m=>RVs.there r a m
 | _,_,_, .lst h r,a,m=>(List.mem_cons.mp m).elim (fun e=>e▸Rd.some h) (RVs.there r a)
 | _,_,_, .lstK h1 h2 h3 h4 h5 h6 r,a,m=>RVs.there r a m
 | _,_,_, .dct h r,a,m=>(List.mem_cons.mp m).elim (fun e=>e▸Rd.some h) (RVs.there r a)
theorem RVs.there {K:PySem.W.Frag} {H:Hp} : ∀ {vs:List V} {ts:List T} {as:List Addr},RVs K H vs ts as -> ∀ a∈as, ∃ o,H a=some o
 | _,_,_, .nil,_,m=>nomatch m
 | _,_,_, .cons h r,a,m=>(List.mem_append.mp m).elim (RV.there h a) (RVs.there r a)
end
def RP (K:PySem.W.Frag) (H:Hp) (F:Addr->Prop) (v:V) (t:T):Prop := ∃ as,RV K H v t as ∧ ∀ a∈as, ¬ F a
section
variable {K:PySem.W.Frag} {H H' : Hp} {F F' : Addr->Prop} {v:V} {t:T} {vs:List V} {ts:List T}
theorem RP.ext (h:RP K H F v t) (x:Ext H F H' F'):RP K H' F' v t:=by
 obtain ⟨as,r,n⟩:=h
 refine ⟨as,r.ext x n,fun a m z=>(x.new a z).elim (n a m) fun q => ?_⟩
 obtain ⟨o,e⟩:=r.there a m
 rw [q] at e;cases e
theorem RP.weak (h:RP K H F v t) (w : ∀ a,F' a->F a):RP K H F' v t:=let ⟨as,r,n⟩:=h;⟨as,r,fun a m z=>n a m (w a z)⟩
theorem RP.pres (h:RP K H F v t) (p:fL H H'):RP K H' F v t:=h.ext p.ext
theorem RP.grow (h:RP K H F v t) (w : ∀ a,F' a->F a∨H a=none):RP K H F' v t:=by
 obtain ⟨as,r,n⟩:=h
 refine ⟨as,r,fun a m z=>(w a z).elim (n a m) fun q => ?_⟩
 obtain ⟨o,e⟩:=r.there a m
 rw [q] at e;cases e
abbrev RPs (K:PySem.W.Frag) (H:Hp) (F:Addr->Prop):List V->List T->Prop:=Paired (RP K H F)
theorem RPs.of : ∀ {vs:List V} {ts:List T} {as:List Addr},RVs K H vs ts as->(∀ a∈as, ¬ F a)->RPs K H F vs ts
 | _,_,_, .nil,_ => .nil
 | _,_,_, .cons h r,n => .cons ⟨_,h,fun a m=>n a (List.mem_append_left _ m)⟩ (RPs.of r fun a m=>n a (List.mem_append_right _ m))
theorem RPs.rvs : ∀ {vs:List V} {ts:List T},RPs K H F vs ts -> ∃ as,RVs K H vs ts as ∧ ∀ a∈as, ¬ F a
 | _,_, .nil=>⟨[], .nil,fun _ m=>nomatch m⟩
 | _,_, .cons ⟨as,h,n⟩ r=>let ⟨bs,q,m⟩:=RPs.rvs r;⟨as++bs, .cons h q,fun a z=>(List.mem_append.mp z).elim (n a) (m a)⟩
theorem RPs.ext (x:Ext H F H' F') : ∀ {vs:List V} {ts:List T},RPs K H F vs ts->RPs K H' F' vs ts
 | _,_, .nil => .nil
 | _,_, .cons h r => .cons (h.ext x) (RPs.ext x r)
theorem RPs.mapP {G:V->T->Prop} (w : ∀ v t,RP K H F v t->G v t) : ∀ {vs:List V} {ts:List T},RPs K H F vs ts->Paired G vs ts
 | _,_, .nil => .nil
 | _,_, .cons h r => .cons (w _ _ h) (RPs.mapP w r)
theorem RPs.weak (h:RPs K H F vs ts) (w : ∀ a,F' a->F a):RPs K H F' vs ts:=h.mapP fun _ _ q=>q.weak w
theorem RPs.grow (h:RPs K H F vs ts) (w : ∀ a,F' a->F a∨H a=none):RPs K H F' vs ts:=h.mapP fun _ _ q=>q.grow w
theorem Paired.len {α β : Type} {G : α->β->Prop} : ∀ {l:List α} {r:List β},Paired G l r->l.length=r.length
  | _,_, .nil=>rfl
  | _,_, .cons _ h=>congrArg (· + 1) (Paired.len h)
theorem Paired.app {α β : Type} {G : α->β->Prop} : ∀ {l l' : List α} {r r' : List β},Paired G l r->Paired G l' r'->Paired G (l++l') (r++r')
 | _,_,_,_, .nil,k=>k
 | _,_,_,_, .cons h t,k => .cons h (Paired.app t k)
theorem Paired.at {α β : Type} {G : α->β->Prop} : ∀ {l:List α} {r:List β} {i:Nat} {b : β},Paired G l r->r[i]? = some b -> ∃ a,l[i]? = some a∧G a b
 | _,_,_,_, .nil,e=>by simp at e
 | _,_,0,_, .cons h _,e=>by simp at e;subst e;exact ⟨_,rfl,h⟩
 | _,_,i+1,_, .cons _ t,e=>by
  obtain ⟨a,h1,h2⟩:=Paired.at (i:=i) t (by simpa using e)
  exact ⟨a,by simpa using h1,h2⟩
theorem Paired.takeP {α β : Type} {G : α->β->Prop} : ∀ {l:List α} {r:List β} (n:Nat),Paired G l r->Paired G (l.take n) (r.take n)
 | _,_,0,_=>by simp only [List.take_zero];exact .nil
 | _,_,_+1, .nil => .nil
 | _,_,n+1, .cons h t => .cons h (Paired.takeP n t)
theorem Paired.dropP {α β : Type} {G : α->β->Prop} : ∀ {l:List α} {r:List β} (n:Nat),Paired G l r->Paired G (l.drop n) (r.drop n)
 | _,_,0,h=>h
 | _,_,_+1, .nil => .nil
 | _,_,n+1, .cons _ t=>Paired.dropP n t
theorem Paired.setP {α β : Type} {G : α->β->Prop} {a : α} {b : β} (g:G a b) : ∀ {l:List α} {r:List β} (n:Nat),Paired G l r->Paired G (l.set n a) (r.set n b)
 | _,_,_, .nil => .nil
 | _,_,0, .cons _ t => .cons g t
 | _,_,n+1, .cons h t => .cons h (Paired.setP g n t)
theorem Paired.eraseP {α β : Type} {G : α->β->Prop} : ∀ {l:List α} {r:List β} (n:Nat),Paired G l r->Paired G (l.eraseIdx n) (r.eraseIdx n)
 | _,_,_, .nil => .nil
 | _,_,0, .cons _ t=>t
 | _,_,n+1, .cons h t => .cons h (Paired.eraseP n t)
theorem RP.tup {a:Addr} (h:SqP H a vs) (r:RPs K H F vs ts):RP K H F (.ref a) (.tuple ts):=let ⟨as,q,n⟩:=r.rvs;⟨as, .tup h q,n⟩
theorem RP.lst {a:Addr} (h:Rd H a (.lst vs)) (r:RPs K H F vs ts) (n : ¬ F a):RP K H F (.ref a) (.list ts) :=
 let ⟨as,q,m⟩:=r.rvs;⟨a :: as, .lst h q,fun b z=>(List.mem_cons.mp z).elim (fun e=>e▸n) (m b)⟩
theorem RP.non:RP K H F .non .none:=⟨[], .non,fun _ m=>nomatch m⟩
theorem RP.bl (b:Bool):RP K H F (.bl b) (.bool b):=⟨[], .bl b,fun _ m=>nomatch m⟩
theorem RP.int (i:Int):RP K H F (.int i) (.int i):=⟨[], .int i,fun _ m=>nomatch m⟩
theorem RP.str (x:Str):RP K H F (.str x) (.str x):=⟨[], .str x,fun _ m=>nomatch m⟩
theorem RP.tupE (h:RP K H F v (.tuple ts)) : ∃ a vs,v = .ref a∧SqT K H a vs∧RPs K H F vs ts:=by
 obtain ⟨as,r,n⟩:=h
 cases r with
 | tup h r=>exact ⟨_,_,rfl,h.t,RPs.of r n⟩
theorem RP.tupP (h:RP K H F v (.tuple ts)) : ∃ a vs,v = .ref a∧SqP H a vs∧RPs K H F vs ts:=by
 obtain ⟨as,r,n⟩:=h
 cases r with
 | tup h r=>exact ⟨_,_,rfl,h,RPs.of r n⟩
theorem RP.lstE (h:RP K H F v (.list ts)) : ∃ a vs,v = .ref a∧SqL K H a vs∧RPs K H F vs ts∧(F a -> ∃ o,K.lookup a=some o):=by
 obtain ⟨as,r,n⟩:=h
 cases r with
 | lst h r=>exact ⟨_,_,rfl, .inl h,RPs.of r fun a m=>n a (List.mem_cons_of_mem _ m),fun z=>absurd z (n _ List.mem_cons_self)⟩
 | lstK h1 h2 h3 h4 h5 h6 r=>exact ⟨_,_,rfl, .inr ⟨_,_,_,h1,h2,h3,h4,h5,h6⟩,RPs.of r n,fun _=>⟨_,h1⟩⟩
theorem RP.noneE (h:RP K H F v .none):v = .non:=by obtain ⟨_,r,_⟩:=h;cases r;rfl
theorem RP.boolE {b:Bool} (h:RP K H F v (.bool b)):v = .bl b:=by obtain ⟨_,r,_⟩:=h;cases r;rfl
theorem RP.intE {i:Int} (h:RP K H F v (.int i)):v = .int i:=by obtain ⟨_,r,_⟩:=h;cases r;rfl
theorem RP.strE {x:Str} (h:RP K H F v (.str x)):v = .str x:=by obtain ⟨_,r,_⟩:=h;cases r;rfl
theorem RP.dctE {kts:List (T×T)} (h:RP K H F v (.dict kts)) : ∃ a kvs ts,v = .ref a∧Rd H a (.dK kvs)∧RPs K H F (kvs.map (·.2)) ts ∧ ¬ F a∧kts=List.zipWith (fun (p:Key×V) (t:T)=>(rD p.1,t)) kvs ts:=by
 obtain ⟨as,r,n⟩:=h
 cases r with
 | dct h r=>exact ⟨_,_,_,rfl,h,RPs.of r fun a m=>n a (List.mem_cons_of_mem _ m),n _ List.mem_cons_self,rfl⟩
end
structure Exc where
 nm:Str
 arg:Option (Str×T)
structure Thk where
 f:Addr
 c:Addr
 q:Str
 st:L2.St
 ts:List (Option T)
inductive Fl where
 | val (t:T)
 | dtt (b:Addr) (kts:List (NestedKey×T))
 | dtf (kts:List (NestedKey×T))
inductive O where
 | pure (t:T)
 | lst (ts:List T)
 | dct (kts:List (Key×T))
 | dcl (kts:List (Key×List T))
 | exc (e:Exc)
 | thk (f:Thk)
 | dtt (kts:List (NestedKey×T))
 | any
 | dcf (kts:List (Key×T))
 | ins (c:Str) (fs:List (Str×Fl))
 | dtf (kts:List (NestedKey×T))
 | dtp (ls:List (List (NestedKey×T)))
 | stf (ks:List NestedKey)
 | lls (ls:List (List T))
 | thi (f:Thk) (j:Nat) (c:Str) (fs:List (Str×Fl))
 | ina (a:Addr) (c:Str) (fs:List (Str×Fl))
abbrev aM:=List (Option O)
def O.fz:O->Prop
 | .pure _=>True
 | .lst _=>True
 | .dct _=>True
 | .dcl _=>True
 | .exc _=>False
 | .thk _=>False
 | .dtt _=>False
 | .any=>False
 | .dcf _=>False
 | .ins _ _=>False
 | .thi _ _ _ _=>False
 | .ina _ _ _=>False
 | .dtf _=>False
 | .dtp _=>False
 | .stf _=>False
 | .lls _=>True
def O.frz:O->T
 | .pure t=>t
 | .lst ts => .list ts
 | .dct kts => .dict (kts.map fun p=>(rD p.1,p.2))
 | .dcl kts => .dict (kts.map fun p=>(rD p.1, .list p.2))
 | .exc _ => .none
 | .thk _ => .none
 | .dtt _ => .none
 | .any => .none
 | .dcf _ => .none
 | .ins _ _ => .none
 | .thi _ _ _ _ => .none
 | .ina _ _ _ => .none
 | .dtf _ => .none
 | .dtp _ => .none
 | .stf _ => .none
 | .lls ls => .list (ls.map PyData.list)
def O.alias:O->O
 | .pure t => .pure t
 | .lst ts => .pure (.list ts)
 | .dct kts => .pure (.dict (kts.map fun p=>(rD p.1,p.2)))
 | .dcl kts => .pure (.dict (kts.map fun p=>(rD p.1, .list p.2)))
 | .exc e => .exc e
 | .thk f => .thk f
 | .dtt _ => .any
 | .any => .any
 | .dcf l => .dcf l
 | .ins _ _ => .any
 | .thi _ _ _ _ => .any
 | .ina _ _ _ => .any
 | .dtf l => .dtf l
 | .dtp l => .dtp l
 | .stf l => .stf l
 | .lls ls => .pure (.list (ls.map PyData.list))
def ExT (a:Addr) (cls:Value) (d:Option Addr):HO := .ext fun h => ∃ (oe:Obj) (vs:Array Value),h.get? a=some oe∧Zc cls d oe∧oe.data = .fields vs
theorem aAu {a:Addr} {cls:Value} {d:Option Addr}:NT (ExT a cls d):=fun _ e=>nomatch e
def RX (K:PySem.W.Frag) (H:Hp) (F:Addr->Prop) (v:V) (e:Exc):Prop :=
 ∃ (a:Addr) (d:Option Addr),v = .ref a∧H a=some (ExT a (.ref (Tbs.cad e.nm)) d) ∧ ¬ F a∧e.nm∈Tbs.nms∧(e.arg=none->d=none) ∧
  ∀ f t,e.arg=some (f,t) -> ∃ dd fs u,d=some dd∧H dd=some (.xd fs) ∧ ¬ F dd∧fs.lookup f=some u∧RP K H F u t
def RK (K:PySem.W.Frag) (H:Hp) (F:Addr->Prop) (v:V) (k:Thk):Prop :=
 v = .ref k.f∧H k.c=some (LamX.CodeO k.c k.q)∧k.ts.length=k.st.length ∧ ∀ (i:Nat) (t:T),k.ts[i]? = some (some t) -> ∃ u,k.st[i]? = some (some u)∧RP K H F u t
def DtX (a:Addr) (es:List DictEntry) (ep:Nat):HO := .ext fun h=>h.DictRaw a es.toArray ep∧(a == sysModules)=false∧es.length≤sizeLine
theorem Sw {a:Addr} {es:List DictEntry} {ep:Nat}:NT (DtX a es ep):=fun _ e=>nomatch e
theorem Xz {a:Addr} {es:List DictEntry} {ep:Nat}:Mu (some (DtX a es ep)):=by
 rintro ⟨c,q,e⟩
 unfold LamX.CodeO at e
 injection e with e
 let oc:Obj := { cls := .none,data := .fields #[.none, .str q 0] }
 let h:Heap := { objs:=Array.replicate (c+1) oc }
 have hg : ∀ b u,h.get? b=some u->u=oc:=fun b u q=>by
  unfold Heap.get? at q
  rw [show h.objs=Array.replicate (c+1) oc from rfl,Array.getElem?_replicate] at q
  by_cases hb:b<c+1
  ·rw [if_pos hb] at q
   simpa [oc] using q.symm
  ·rw [if_neg hb] at q
   simp at q
 have hc:h.get? c=some oc:=by
  unfold Heap.get?
  rw [show h.objs=Array.replicate (c+1) oc from rfl,Array.getElem?_replicate,if_pos (Nat.lt_succ_self c)]
 have e1:=congrFun e h
 have h2:=e1.mpr ⟨oc, #[.none, .str q 0],0,hc,rfl,rfl⟩
 obtain ⟨⟨o,h3,_,h4⟩,_⟩:=h2
 have h6:=hg _ _ h3
 rw [h6] at h4
 cases h4
abbrev RTt (K:PySem.W.Frag) (H:Hp) (F:Addr->Prop):List DictEntry->List (NestedKey×T)->Prop :=
 Paired fun e q=>e.hash=Tbs.hs q.1∧q.1.depth≤8∧(∃ b,e.key = .ref b∧RP K H F (.ref b) q.1.data) ∧ ∃ v,RelV v e.val∧RP K H F v q.2
def RDz (K:PySem.W.Frag) (H:Hp) (F:Addr->Prop) (v:V) (kts:List (NestedKey×T)):Prop := ∃ a es ep,v = .ref a∧H a=some (DtX a es ep) ∧ ¬ F a∧RTt K H F es kts∧(kts.map (·.1)).Nodup
def RDp (K:PySem.W.Frag) (H:Hp) (F:Addr->Prop) (v:V) (ls:List (List (NestedKey×T))):Prop := ∃ a vs,v = .ref a∧SqP H a vs∧Paired (RDz K H F) vs ls
def SetPs (h:Heap) (a:Addr) (L:List (Addr×NestedKey)):Prop := ∃ es ep t,(∃ o,h.get? a=some o∧o.ExactSet∧o.data = .set es ep t)∧es.toList=L.map (fun p=>(Tbs.hs p.2,Value.ref p.1))∧Yw t (L.map fun p=>Tbs.hs p.2)∧(L.map (·.2)).Nodup∧L.length * 5<t.mask * 3∧L.length<300
def RSz (K:PySem.W.Frag) (H:Hp) (F:Addr->Prop) (v:V) (ks:List NestedKey):Prop := ∃ a φ L,v = .ref a∧H a=some (.ext φ) ∧ ¬ F a∧(∀ h,φ h->SetPs h a L)∧(∀ k,k∈L.map (·.2)↔k∈ks) ∧ ∀ q∈L,RP K H F (.ref q.1) q.2.data∧q.2.depth≤8
inductive RDL (K:PySem.W.Frag) (H:Hp) (F:Addr->Prop):List (Key×V)->List (Key×List T)->List Addr->Prop
 | nil:RDL K H F [] [] []
 | cons {k:Key} {b:Addr} {vs:List V} {ts:List T} {kvs:List (Key×V)} {kts:List (Key×List T)} {bs:List Addr} :
   H b=some (.lst vs)->RPs K H F vs ts->RDL K H F kvs kts bs->RDL K H F ((k, .ref b) :: kvs) ((k,ts) :: kts) (b :: bs)
inductive RLL (K:PySem.W.Frag) (H:Hp) (F:Addr->Prop):List V->List (List T)->List Addr->Prop
 | nil:RLL K H F [] [] []
 | cons {b:Addr} {vs:List V} {ts:List T} {us:List V} {ls:List (List T)} {bs:List Addr} :
   H b=some (.lst vs)->RPs K H F vs ts->RLL K H F us ls bs->RLL K H F (.ref b :: us) (ts :: ls) (b :: bs)
def RFl (K:PySem.W.Frag) (H:Hp) (F:Addr->Prop) (v:V):Fl->List Addr->Prop
 | .val t,A=>A=[]∧RP K H F v t
 | .dtt b kts,A=>v = .ref b∧A=[b] ∧ ∃ es ep,H b=some (DtX b es ep)∧RTt K H F es kts∧(kts.map (·.1)).Nodup
 | .dtf kts,A=>A=[]∧RDz K H F v kts
inductive RIn (K:PySem.W.Frag) (H:Hp) (F:Addr->Prop):List (Str×V)->List (Str×Fl)->List Addr->Prop
 | nil:RIn K H F [] [] []
 | cons {f:Str} {v:V} {l:Fl} {vs:List (Str×V)} {fs:List (Str×Fl)} {A B:List Addr}:RFl K H F v l A->(∀ p∈fs,p.1≠f)->RIn K H F vs fs B->RIn K H F ((f,v) :: vs) ((f,l) :: fs) (A++B)
def RO (K:PySem.W.Frag) (H:Hp) (F:Addr->Prop) (v:V):O->List Addr->Prop
 | .pure t,A=>A=[]∧RP K H F v t
 | .lst ts,A => ∃ a vs,v = .ref a∧A=[a]∧H a=some (.lst vs)∧RPs K H F vs ts
 | .dct kts,A => ∃ a kvs,v = .ref a∧A=[a]∧H a=some (.dK kvs)∧Paired (fun (p:Key×V) (q:Key×T)=>p.1=q.1∧RP K H F p.2 q.2) kvs kts
 | .dcl kts,A => ∃ a kvs bs,v = .ref a∧A=a :: bs∧H a=some (.dK kvs)∧RDL K H F kvs kts bs
 | .exc e,A=>A=[]∧RX K H F v e
 | .thk k,A=>A=[]∧RK K H F v k
 | .dtt kts,A => ∃ a es ep,v = .ref a∧A=[a]∧H a=some (DtX a es ep)∧RTt K H F es kts∧(kts.map (·.1)).Nodup
 | .any,A=>A=[]∧v ≠ .non
 | .dcf kts,A=>A=[] ∧ ∃ a od kvs,v = .ref a∧H a=some (.frz od (.frz od (.dK kvs)))∧Paired (fun (p:Key×V) (q:Key×T)=>p.1=q.1∧RP K H F p.2 q.2) kvs kts
 | .ins c fs,A => ∃ a dx vs B,v = .ref a∧A=a :: B∧H a=some (.ins (Tbs.cad c) dx vs)∧RIn K H F vs fs B
 | .dtf kts,A=>A=[]∧RDz K H F v kts
 | .dtp ls,A=>A=[]∧RDp K H F v ls
 | .stf ks,A=>A=[]∧RSz K H F v ks
 | .lls ls,A => ∃ a us bs,v = .ref a∧A=a :: bs∧H a=some (.lst us)∧RLL K H F us ls bs
 | .thi k j c fs,A=>RK K H F v k∧k.ts[j]? = some none ∧ ∃ a dx vs B,k.st[j]? = some (some (.ref a))∧A=a :: B∧H a=some (.ins (Tbs.cad c) dx vs)∧RIn K H F vs fs B
 | .ina a c fs,A=>v = .ref a ∧ ∃ dx vs B,A=a :: B∧H a=some (.ins (Tbs.cad c) dx vs)∧RIn K H F vs fs B
def RW (K:PySem.W.Frag) (H:Hp) (F:Addr->Prop) (v:V):O->Prop
 | .pure t=>RP K H F v t
 | .lst ts => ∃ a vs,v = .ref a∧H a=some (.lst vs)∧RPs K H F vs ts
 | .dct kts => ∃ a kvs,v = .ref a∧H a=some (.dK kvs)∧Paired (fun (p:Key×V) (q:Key×T)=>p.1=q.1∧RP K H F p.2 q.2) kvs kts
 | .dcl kts => ∃ a kvs bs,v = .ref a∧H a=some (.dK kvs)∧RDL K H F kvs kts bs
 | .exc e=>RX K H F v e
 | .thk k=>RK K H F v k
 | .dtt kts => ∃ a es ep,v = .ref a∧H a=some (DtX a es ep)∧RTt K H F es kts∧(kts.map (·.1)).Nodup
 | .any=>v ≠ .non
 | .dcf kts => ∃ a od kvs,v = .ref a∧H a=some (.frz od (.frz od (.dK kvs)))∧Paired (fun (p:Key×V) (q:Key×T)=>p.1=q.1∧RP K H F p.2 q.2) kvs kts
 | .ins c fs => ∃ a dx vs B,v = .ref a∧H a=some (.ins (Tbs.cad c) dx vs)∧RIn K H F vs fs B
 | .dtf kts=>RDz K H F v kts
 | .dtp ls=>RDp K H F v ls
 | .stf ks=>RSz K H F v ks
 | .lls ls => ∃ a us bs,v = .ref a∧H a=some (.lst us)∧RLL K H F us ls bs
 | .thi k j c fs=>RK K H F v k∧k.ts[j]? = some none ∧ ∃ a dx vs B,k.st[j]? = some (some (.ref a))∧H a=some (.ins (Tbs.cad c) dx vs)∧RIn K H F vs fs B
 | .ina a c fs=>v = .ref a ∧ ∃ dx vs B,H a=some (.ins (Tbs.cad c) dx vs)∧RIn K H F vs fs B
section
variable {K:PySem.W.Frag} {H H' : Hp} {F F' : Addr->Prop} {v:V} {o:O} {A:List Addr}
theorem RX.imp {e:Exc} (h:RX K H F v e) (k : ∀ a u,H a=some u->NT u -> ¬ F a->H' a=some u ∧ ¬ F' a) (w : ∀ v t,RP K H F v t->RP K H' F' v t):RX K H' F' v e:=by
 obtain ⟨a,d,e1,e2,n,m,m0,q⟩:=h
 obtain ⟨e2',n'⟩:=k a _ e2 aAu n
 refine ⟨a,d,e1,e2',n',m,m0,fun f t ef => ?_⟩
 obtain ⟨dd,fs,u,d1,d2,nd,l,r⟩:=q f t ef
 obtain ⟨d2',nd'⟩:=k dd _ d2 (fun _ e=>nomatch e) nd
 exact ⟨dd,fs,u,d1,d2',nd',l,w _ _ r⟩
theorem RK.imp {e:Thk} (h:RK K H F v e) (k : ∀ a φ,H a=some (.ext φ) -> ¬ Mu (some (.ext φ))->H' a=some (.ext φ)) (w : ∀ v t,RP K H F v t->RP K H' F' v t):RK K H' F' v e:=by
 obtain ⟨e1,e2,l,q⟩:=h
 exact ⟨e1,k _ _ e2 Oo,l,fun i t ei=>let ⟨u,h1,h2⟩:=q i t ei;⟨u,h1,w _ _ h2⟩⟩
theorem RX.ext {e:Exc} (h:RX K H F v e) (x:Ext H F H' F'):RX K H' F' v e :=
 h.imp (fun a u q t n=>⟨x.keep a u q n t,fun z=>(x.new a z).elim n fun y=>by rw [q] at y;cases y⟩) fun _ _ r=>r.ext x
theorem RX.grow {e:Exc} (h:RX K H F v e) (w : ∀ a,F' a->F a∨H a=none):RX K H F' v e :=
 h.imp (fun a u q t n=>⟨q,fun z=>(w a z).elim n fun y=>by rw [q] at y;cases y⟩) fun _ _ r=>r.grow w
theorem RX.weak {e:Exc} (h:RX K H F v e) (w : ∀ a,F' a->F a):RX K H F' v e:=h.grow fun a z => .inl (w a z)
theorem RX.pres {e:Exc} (h:RX K H F v e) (p:fL H H'):RX K H' F v e:=h.imp (fun a u q _ n=>⟨p a u q,n⟩) fun _ _ r=>r.pres p
theorem RK.ext {e:Thk} (h:RK K H F v e) (x:Ext H F H' F'):RK K H' F' v e:=h.imp x.exts fun _ _ r=>r.ext x
theorem RK.grow {e:Thk} (h:RK K H F v e) (w : ∀ a,F' a->F a∨H a=none):RK K H F' v e:=h.imp (fun _ _ q _=>q) fun _ _ r=>r.grow w
theorem RK.weak {e:Thk} (h:RK K H F v e) (w : ∀ a,F' a->F a):RK K H F' v e:=h.grow fun a z => .inl (w a z)
theorem RK.pres {e:Thk} (h:RK K H F v e) (p:fL H H'):RK K H' F v e:=h.imp (fun a φ q _=>p a _ q) fun _ _ r=>r.pres p
theorem RDz.imp {l:List (NestedKey×T)} (h:RDz K H F v l) (k : ∀ a u,H a=some u->NT u -> ¬ F a->H' a=some u ∧ ¬ F' a) (w : ∀ v t,RP K H F v t->RP K H' F' v t):RDz K H' F' v l:=by
 obtain ⟨a,es,ep,e1,e2,n,r,nd⟩:=h
 obtain ⟨e2',n'⟩:=k a _ e2 Sw n
 exact ⟨a,es,ep,e1,e2',n',Paired.mapP r fun p q z=>⟨z.1,z.2.1,let ⟨b,e,y⟩:=z.2.2.1;⟨b,e,w _ _ y⟩,let ⟨v,e,y⟩:=z.2.2.2;⟨v,e,w _ _ y⟩⟩,nd⟩
theorem RDz.ext {l:List (NestedKey×T)} (h:RDz K H F v l) (x:Ext H F H' F'):RDz K H' F' v l :=
 h.imp (fun a u q t n=>⟨x.keep a u q n t,fun z=>(x.new a z).elim n fun y=>by rw [q] at y;cases y⟩) fun _ _ r=>r.ext x
theorem RDz.grow {l:List (NestedKey×T)} (h:RDz K H F v l) (w : ∀ a,F' a->F a∨H a=none):RDz K H F' v l :=
 h.imp (fun a u q t n=>⟨q,fun z=>(w a z).elim n fun y=>by rw [q] at y;cases y⟩) fun _ _ r=>r.grow w
theorem RDz.weak {l:List (NestedKey×T)} (h:RDz K H F v l) (w : ∀ a,F' a->F a):RDz K H F' v l:=h.grow fun a z => .inl (w a z)
theorem RDz.pres {l:List (NestedKey×T)} (h:RDz K H F v l) (p:fL H H'):RDz K H' F v l:=h.imp (fun a u q _ n=>⟨p a u q,n⟩) fun _ _ r=>r.pres p
theorem RSz.imp {l:List NestedKey} (h:RSz K H F v l) (k : ∀ a u,H a=some u->NT u -> ¬ F a->H' a=some u ∧ ¬ F' a) (w : ∀ v t,RP K H F v t->RP K H' F' v t):RSz K H' F' v l:=by
 obtain ⟨a,φ,L,e1,e2,n,p,m,r⟩:=h
 obtain ⟨e2',n'⟩:=k a _ e2 (fun _ e=>nomatch e) n
 exact ⟨a,φ,L,e1,e2',n',p,m,fun q z=>⟨w _ _ (r q z).1,(r q z).2⟩⟩
theorem RSz.ext {l:List NestedKey} (h:RSz K H F v l) (x:Ext H F H' F'):RSz K H' F' v l :=
 h.imp (fun a u q t n=>⟨x.keep a u q n t,fun z=>(x.new a z).elim n fun y=>by rw [q] at y;cases y⟩) fun _ _ r=>r.ext x
theorem RSz.grow {l:List NestedKey} (h:RSz K H F v l) (w : ∀ a,F' a->F a∨H a=none):RSz K H F' v l :=
 h.imp (fun a u q t n=>⟨q,fun z=>(w a z).elim n fun y=>by rw [q] at y;cases y⟩) fun _ _ r=>r.grow w
theorem RSz.weak {l:List NestedKey} (h:RSz K H F v l) (w : ∀ a,F' a->F a):RSz K H F' v l:=h.grow fun a z => .inl (w a z)
theorem RSz.pres {l:List NestedKey} (h:RSz K H F v l) (p:fL H H'):RSz K H' F v l:=h.imp (fun a u q _ n=>⟨p a u q,n⟩) fun _ _ r=>r.pres p
theorem RDp.imp {l:List (List (NestedKey×T))} (h:RDp K H F v l) (wt : ∀ a vs,SqP H a vs->SqP H' a vs) (wz : ∀ v l,RDz K H F v l->RDz K H' F' v l):RDp K H' F' v l:=by
 obtain ⟨a,vs,e,hq,r⟩:=h
 exact ⟨a,vs,e,wt _ _ hq,Paired.mapP r fun _ _ z=>wz _ _ z⟩
theorem RDL.there : ∀ {kvs:List (Key×V)} {kts:List (Key×List T)} {bs:List Addr},RDL K H F kvs kts bs -> ∀ b∈bs, ∃ vs,H b=some (.lst vs)
 | _,_,_, .nil,_,m=>nomatch m
 | _,_,_, .cons h _ r,b,m=>(List.mem_cons.mp m).elim (fun e=>⟨_,e▸h⟩) (RDL.there r b)
theorem RDL.imp (w : ∀ vs ts,RPs K H F vs ts->RPs K H' F' vs ts) : ∀ {kvs:List (Key×V)} {kts:List (Key×List T)} {bs:List Addr},RDL K H F kvs kts bs->(∀ b∈bs, ∀ vs,H b=some (.lst vs)->H' b=some (.lst vs))->RDL K H' F' kvs kts bs
 | _,_,_, .nil,_ => .nil
 | _,_,_, .cons h q r,k => .cons (k _ List.mem_cons_self _ h) (w _ _ q) (RDL.imp w r fun b m=>k b (List.mem_cons_of_mem _ m))
theorem RLL.there : ∀ {us:List V} {ls:List (List T)} {bs:List Addr},RLL K H F us ls bs -> ∀ b∈bs, ∃ vs,H b=some (.lst vs)
 | _,_,_, .nil,_,m=>nomatch m
 | _,_,_, .cons h _ r,b,m=>(List.mem_cons.mp m).elim (fun e=>⟨_,e▸h⟩) (RLL.there r b)
theorem RLL.imp (w : ∀ vs ts,RPs K H F vs ts->RPs K H' F' vs ts) : ∀ {us:List V} {ls:List (List T)} {bs:List Addr},RLL K H F us ls bs->(∀ b∈bs, ∀ vs,H b=some (.lst vs)->H' b=some (.lst vs))->RLL K H' F' us ls bs
 | _,_,_, .nil,_ => .nil
 | _,_,_, .cons h q r,k => .cons (k _ List.mem_cons_self _ h) (w _ _ q) (RLL.imp w r fun b m=>k b (List.mem_cons_of_mem _ m))
theorem RFl.there {l:Fl} {A:List Addr} (h:RFl K H F v l A) : ∀ b∈A, ∃ u,H b=some u∧Mu (some u):=by
 cases l with
 | val t=>intro b m;rw [h.1] at m;cases m
 | dtt b kts =>
  obtain ⟨_,e,es,ep,q,_⟩:=h
  intro d m;rw [e] at m;obtain rfl:=List.mem_singleton.mp m
  exact ⟨_,q,Xz⟩
 | dtf kts=>intro b m;rw [h.1] at m;cases m
theorem RFl.imp {l:Fl} {A:List Addr} (h:RFl K H F v l A) (w : ∀ v t,RP K H F v t->RP K H' F' v t) (wz : ∀ v l,RDz K H F v l->RDz K H' F' v l) (k : ∀ a∈A, ∀ u,H a=some u->NT u->H' a=some u):RFl K H' F' v l A:=by
 cases l with
 | val t=>exact ⟨h.1,w _ _ h.2⟩
 | dtt b kts =>
  obtain ⟨e1,e2,es,ep,q,r,nd⟩:=h
  exact ⟨e1,e2,es,ep,k b (e2▸List.mem_singleton.mpr rfl) _ q Sw,Paired.mapP r fun p q z=>⟨z.1,z.2.1,let ⟨b,e,y⟩:=z.2.2.1;⟨b,e,w _ _ y⟩,let ⟨v,e,y⟩:=z.2.2.2;⟨v,e,w _ _ y⟩⟩,nd⟩
 | dtf kts=>exact ⟨h.1,wz _ _ h.2⟩
theorem RIn.there : ∀ {vs:List (Str×V)} {fs:List (Str×Fl)} {A:List Addr},RIn K H F vs fs A -> ∀ b∈A, ∃ u,H b=some u∧Mu (some u)
 | _,_,_, .nil,b,m=>nomatch m
 | _,_,_, .cons h _ r,b,m=>(List.mem_append.mp m).elim (RFl.there h b) (RIn.there r b)
theorem RIn.imp (w : ∀ v t,RP K H F v t->RP K H' F' v t) (wz : ∀ v l,RDz K H F v l->RDz K H' F' v l) : ∀ {vs:List (Str×V)} {fs:List (Str×Fl)} {A:List Addr},RIn K H F vs fs A->(∀ a∈A, ∀ u,H a=some u->NT u->H' a=some u)->RIn K H' F' vs fs A
 | _,_,_, .nil,_ => .nil
 | _,_,_, .cons h n r,k => .cons (RFl.imp h w wz fun a m=>k a (List.mem_append_left _ m)) n (RIn.imp w wz r fun a m=>k a (List.mem_append_right _ m))
theorem Sy {C dx:Addr} {fs:List (Str×V)}:NT (.ins C dx fs):=fun _ e=>nomatch e
theorem RO.rw (h:RO K H F v o A):RW K H F v o:=by
 cases o with
 | pure t=>exact h.2
 | lst ts=>obtain ⟨a,vs,e,_,q⟩:=h;exact ⟨a,vs,e,q⟩
 | dct kts=>obtain ⟨a,vs,e,_,q⟩:=h;exact ⟨a,vs,e,q⟩
 | dcl kts=>obtain ⟨a,vs,bs,e,_,q⟩:=h;exact ⟨a,vs,bs,e,q⟩
 | exc e=>exact h.2
 | thk f=>exact h.2
 | dtt kts=>obtain ⟨a,vs,ep,e,_,q⟩:=h;exact ⟨a,vs,ep,e,q⟩
 | any=>exact h.2
 | dcf kts=>exact h.2
 | ins c fs=>obtain ⟨a,dx,vs,B,e,_,q⟩:=h;exact ⟨a,dx,vs,B,e,q⟩
 | dtf kts=>exact h.2
 | dtp ls=>exact h.2
 | stf ks=>exact h.2
 | lls ls=>obtain ⟨a,vs,bs,e,_,q⟩:=h;exact ⟨a,vs,bs,e,q⟩
 | thi k j c fs=>obtain ⟨h1,h2,a,dx,vs,B,e,_,q⟩:=h;exact ⟨h1,h2,a,dx,vs,B,e,q⟩
 | ina a c fs=>obtain ⟨e,dx,vs,B,_,q⟩:=h;exact ⟨e,dx,vs,B,q⟩
theorem RO.there (h:RO K H F v o A) : ∀ a∈A, ∃ u,H a=some u∧Mu (some u):=by
 cases o with
 | pure t=>intro a m;rw [h.1] at m;cases m
 | lst ts=>obtain ⟨a,vs,_,e,q,_⟩:=h;intro b m;rw [e] at m;obtain rfl:=List.mem_singleton.mp m;exact ⟨_,q,trivial⟩
 | dct kts=>obtain ⟨a,vs,_,e,q,_⟩:=h;intro b m;rw [e] at m;obtain rfl:=List.mem_singleton.mp m;exact ⟨_,q,trivial⟩
 | dcl kts =>
  obtain ⟨a,vs,bs,_,e,q,r⟩:=h
  intro b m;rw [e] at m
  rcases List.mem_cons.mp m with rfl | m
  ·exact ⟨_,q,trivial⟩
  ·obtain ⟨us,z⟩:=r.there b m
   exact ⟨_,z,trivial⟩
 | exc e=>intro a m;rw [h.1] at m;cases m
 | thk f=>intro a m;rw [h.1] at m;cases m
 | dtt kts=>obtain ⟨a,vs,ep,_,e,q,_⟩:=h;intro b m;rw [e] at m;obtain rfl:=List.mem_singleton.mp m;exact ⟨_,q,Xz⟩
 | any=>intro a m;rw [h.1] at m;cases m
 | dcf kts=>intro a m;rw [h.1] at m;cases m
 | ins c fs =>
  obtain ⟨a,dx,vs,B,_,e,q,r⟩:=h
  intro b m;rw [e] at m
  rcases List.mem_cons.mp m with rfl | m
  ·exact ⟨_,q,trivial⟩
  ·exact r.there b m
 | dtf kts=>intro a m;rw [h.1] at m;cases m
 | dtp ls=>intro a m;rw [h.1] at m;cases m
 | stf ks=>intro a m;rw [h.1] at m;cases m
 | lls ls =>
  obtain ⟨a,vs,bs,_,e,q,r⟩:=h
  intro b m;rw [e] at m
  rcases List.mem_cons.mp m with rfl | m
  ·exact ⟨_,q,trivial⟩
  ·obtain ⟨us,z⟩:=r.there b m
   exact ⟨_,z,trivial⟩
 | thi k j c fs =>
  obtain ⟨_,_,a,dx,vs,B,_,e,q,r⟩:=h
  intro b m;rw [e] at m
  rcases List.mem_cons.mp m with rfl | m
  ·exact ⟨_,q,trivial⟩
  ·exact r.there b m
 | ina a c fs =>
  obtain ⟨_,dx,vs,B,e,q,r⟩:=h
  intro b m;rw [e] at m
  rcases List.mem_cons.mp m with rfl | m
  ·exact ⟨_,q,trivial⟩
  ·exact r.there b m
theorem RO.imp (h:RO K H F v o A) (w : ∀ v t,RP K H F v t->RP K H' F' v t) (k : ∀ a∈A, ∀ u,H a=some u->NT u->H' a=some u) (wx : ∀ v e,RX K H F v e->RX K H' F' v e) (wk : ∀ v e,RK K H F v e->RK K H' F' v e) (wf : ∀ a o u,H a=some (.frz o (.frz o u))->H' a=some (.frz o (.frz o u))) (wz : ∀ v l,RDz K H F v l->RDz K H' F' v l) (wt : ∀ a vs,SqP H a vs->SqP H' a vs) (wS : ∀ v l,RSz K H F v l->RSz K H' F' v l):RO K H' F' v o A:=by
 have ws : ∀ vs ts,RPs K H F vs ts->RPs K H' F' vs ts:=fun vs ts q=>q.mapP w
 cases o with
 | pure t=>exact ⟨h.1,w _ _ h.2⟩
 | lst ts=>obtain ⟨a,vs,e,e2,q,r⟩:=h;exact ⟨a,vs,e,e2,k a (e2▸List.mem_singleton.mpr rfl) _ q Bc,ws _ _ r⟩
 | dct kts =>
  obtain ⟨a,vs,e,e2,q,r⟩:=h
  exact ⟨a,vs,e,e2,k a (e2▸List.mem_singleton.mpr rfl) _ q Yx,Paired.mapP r fun p q z=>⟨z.1,w _ _ z.2⟩⟩
 | dcl kts =>
  obtain ⟨a,vs,bs,e,e2,q,r⟩:=h
  exact ⟨a,vs,bs,e,e2,k a (e2▸List.mem_cons_self) _ q Yx,r.imp ws fun b m us z=>k b (e2▸List.mem_cons_of_mem _ m) _ z Bc⟩
 | exc e=>exact ⟨h.1,wx _ _ h.2⟩
 | thk f=>exact ⟨h.1,wk _ _ h.2⟩
 | dtt kts =>
  obtain ⟨a,vs,ep,e,e2,q,r,nd⟩:=h
  exact ⟨a,vs,ep,e,e2,k a (e2▸List.mem_singleton.mpr rfl) _ q Sw,Paired.mapP r fun p q z=>⟨z.1,z.2.1,let ⟨b,e,y⟩:=z.2.2.1;⟨b,e,w _ _ y⟩,let ⟨v,e,y⟩:=z.2.2.2;⟨v,e,w _ _ y⟩⟩,nd⟩
 | any=>exact h
 | dcf kts =>
  obtain ⟨e,a,od,kvs,e2,q,r⟩:=h
  exact ⟨e,a,od,kvs,e2,wf _ _ _ q,Paired.mapP r fun p q z=>⟨z.1,w _ _ z.2⟩⟩
 | ins c fs =>
  obtain ⟨a,dx,vs,B,e,e2,q,r⟩:=h
  exact ⟨a,dx,vs,B,e,e2,k a (e2▸List.mem_cons_self) _ q Sy,r.imp w wz fun b m=>k b (e2▸List.mem_cons_of_mem _ m)⟩
 | dtf kts=>exact ⟨h.1,wz _ _ h.2⟩
 | dtp ls=>exact ⟨h.1,h.2.imp wt wz⟩
 | stf ks=>exact ⟨h.1,wS _ _ h.2⟩
 | lls ls =>
  obtain ⟨a,vs,bs,e,e2,q,r⟩:=h
  exact ⟨a,vs,bs,e,e2,k a (e2▸List.mem_cons_self) _ q Bc,r.imp ws fun b m us z=>k b (e2▸List.mem_cons_of_mem _ m) _ z Bc⟩
 | thi f j c fs =>
  obtain ⟨h1,h2,a,dx,vs,B,e,e2,q,r⟩:=h
  exact ⟨wk _ _ h1,h2,a,dx,vs,B,e,e2,k a (e2▸List.mem_cons_self) _ q Sy,r.imp w wz fun b m=>k b (e2▸List.mem_cons_of_mem _ m)⟩
 | ina a c fs =>
  obtain ⟨e,dx,vs,B,e2,q,r⟩:=h
  exact ⟨e,dx,vs,B,e2,k a (e2▸List.mem_cons_self) _ q Sy,r.imp w wz fun b m=>k b (e2▸List.mem_cons_of_mem _ m)⟩
theorem RO.ext (h:RO K H F v o A) (x:Ext H F H' F') (n : ∀ a∈A, ¬ F a):RO K H' F' v o A:=h.imp (fun _ _ q=>q.ext x) (fun a m u e t=>x.keep a u e (n a m) t) (fun _ _ q=>q.ext x) (fun _ _ q=>q.ext x) (fun a o u e=>x.frzs a o _ e) (fun _ _ q=>q.ext x) (fun _ _ q=>q.keepE x) (fun _ _ q=>q.ext x)
theorem RO.weak (h:RO K H F v o A) (w : ∀ a,F' a->F a):RO K H F' v o A:=h.imp (fun _ _ q=>q.weak w) (fun _ _ _ e _=>e) (fun _ _ q=>q.weak w) (fun _ _ q=>q.weak w) (fun _ _ _ e=>e) (fun _ _ q=>q.weak w) (fun _ _ q=>q) (fun _ _ q=>q.weak w)
theorem RO.grow (h:RO K H F v o A) (w : ∀ a,F' a->F a∨H a=none):RO K H F' v o A:=h.imp (fun _ _ q=>q.grow w) (fun _ _ _ e _=>e) (fun _ _ q=>q.grow w) (fun _ _ q=>q.grow w) (fun _ _ _ e=>e) (fun _ _ q=>q.grow w) (fun _ _ q=>q) (fun _ _ q=>q.grow w)
theorem RO.pres (h:RO K H F v o A) (p:fL H H'):RO K H' F v o A:=h.imp (fun _ _ q=>q.pres p) (fun a _ u e _=>p a u e) (fun _ _ q=>q.pres p) (fun _ _ q=>q.pres p) (fun a o u e=>p a _ e) (fun _ _ q=>q.pres p) (fun _ _ q=>let ⟨o,e,r⟩:=q;⟨o,p _ _ e,r⟩) (fun _ _ q=>q.pres p)
theorem T5 : ∀ {kvs:List (Key×V)} {kts:List (Key×T)},Paired (fun (p:Key×V) (q:Key×T)=>p.1=q.1∧RP K H F p.2 q.2) kvs kts ->
  (kts.map fun p=>(rD p.1,p.2))=List.zipWith (fun (p:Key×V) (t:T)=>(rD p.1,t)) kvs (kts.map (·.2))∧RPs K H F (kvs.map (·.2)) (kts.map (·.2))
 | _,_, .nil=>⟨rfl, .nil⟩
 | _,_, .cons h r=>by
  obtain ⟨e,q⟩:=T5 r
  exact ⟨by simp only [List.map_cons,List.zipWith_cons_cons,e,h.1], .cons h.2 q⟩
theorem T6 (F' : Addr->Prop) (hF : ∀ a,F' a->F a) : ∀ {kvs:List (Key×V)} {kts:List (Key×List T)} {bs:List Addr},RDL K H F kvs kts bs->(∀ b∈bs, ¬ F' b) ->
  (kts.map fun p=>(rD p.1,PyData.list p.2))=List.zipWith (fun (p:Key×V) (t:T)=>(rD p.1,t)) kvs (kts.map fun p=>PyData.list p.2)∧RPs K H F' (kvs.map (·.2)) (kts.map fun p=>PyData.list p.2)
 | _,_,_, .nil,_=>⟨rfl, .nil⟩
 | _,_,_, .cons h q r,n=>by
  obtain ⟨e,z⟩:=T6 F' hF r fun b m=>n b (List.mem_cons_of_mem _ m)
  exact ⟨by simp only [List.map_cons,List.zipWith_cons_cons,e], .cons (RP.lst (.inl h) (q.weak hF) (n _ List.mem_cons_self)) z⟩
theorem T7 (F' : Addr->Prop) (hF : ∀ a,F' a->F a) : ∀ {us:List V} {ls:List (List T)} {bs:List Addr},RLL K H F us ls bs->(∀ b∈bs, ¬ F' b)->RPs K H F' us (ls.map PyData.list)
 | _,_,_, .nil,_ => .nil
 | _,_,_, .cons h q r,n => .cons (RP.lst (.inl h) (q.weak hF) (n _ List.mem_cons_self)) (T7 F' hF r fun b m=>n b (List.mem_cons_of_mem _ m))
theorem RO.frz (h:RO K H F v o A) (w : ∀ a,F' a->F a) (n : ∀ a∈A, ¬ F' a) (fz:o.fz):RP K H F' v o.frz:=by
 cases o with
 | pure t=>exact h.2.weak w
 | lst ts =>
  obtain ⟨a,vs,rfl,rfl,q,r⟩:=h
  exact RP.lst (.inl q) (r.weak w) (n a (List.mem_singleton.mpr rfl))
 | dct kts =>
  obtain ⟨a,kvs,rfl,rfl,q,r⟩:=h
  obtain ⟨e,z⟩:=T5 r
  obtain ⟨as,z,m⟩:=(z.weak w).rvs
  refine ⟨a :: as, ?_,fun b y=>(List.mem_cons.mp y).elim (fun e=>e▸n a (List.mem_singleton.mpr rfl)) (m b)⟩
  show RV K H (.ref a) (.dict (kts.map fun p=>(rD p.1,p.2))) (a :: as)
  rw [e]
  exact .dct (.inl q) z
 | dcl kts =>
  obtain ⟨a,kvs,bs,rfl,rfl,q,r⟩:=h
  obtain ⟨e,z⟩:=T6 F' w r fun b m=>n b (List.mem_cons_of_mem _ m)
  obtain ⟨as,z,m⟩:=z.rvs
  refine ⟨a :: as, ?_,fun b y=>(List.mem_cons.mp y).elim (fun e=>e▸n a List.mem_cons_self) (m b)⟩
  show RV K H (.ref a) (.dict (kts.map fun p=>(rD p.1,PyData.list p.2))) (a :: as)
  rw [e]
  exact .dct (.inl q) z
 | exc e=>exact fz.elim
 | thk f=>exact fz.elim
 | dtt kts=>exact fz.elim
 | any=>exact fz.elim
 | dcf kts=>exact fz.elim
 | ins c fs=>exact fz.elim
 | dtf kts=>exact fz.elim
 | dtp ls=>exact fz.elim
 | stf ks=>exact fz.elim
 | lls ls =>
  obtain ⟨a,us,bs,rfl,rfl,q,r⟩:=h
  exact RP.lst (.inl q) (T7 F' w r fun b m=>n b (List.mem_cons_of_mem _ m)) (n a List.mem_cons_self)
 | thi k j c fs=>exact fz.elim
 | ina a c fs=>exact fz.elim
theorem RO.alias (h:RO K H F v o A) (w : ∀ a,F' a->F a) (n : ∀ a∈A, ¬ F' a):RO K H F' v o.alias []:=by
 cases o with
 | pure t=>exact ⟨rfl,h.frz w n trivial⟩
 | lst ts=>exact ⟨rfl,h.frz w n trivial⟩
 | dct kts=>exact ⟨rfl,h.frz w n trivial⟩
 | dcl kts=>exact ⟨rfl,h.frz w n trivial⟩
 | exc e=>exact ⟨rfl,h.2.weak w⟩
 | thk f=>exact ⟨rfl,h.2.weak w⟩
 | dtt kts=>exact ⟨rfl,by obtain ⟨a,es,ep,rfl,_⟩:=h;exact fun e=>nomatch e⟩
 | any=>exact ⟨rfl,h.2⟩
 | dcf kts =>
  obtain ⟨_,a,od,kvs,e2,q,r⟩:=h
  exact ⟨rfl,a,od,kvs,e2,q,Paired.mapP r fun p q z=>⟨z.1,z.2.weak w⟩⟩
 | ins c fs=>exact ⟨rfl,by obtain ⟨a,dx,vs,B,rfl,_⟩:=h;exact fun e=>nomatch e⟩
 | dtf kts=>exact ⟨rfl,h.2.weak w⟩
 | dtp ls=>exact ⟨rfl,h.2.imp (fun _ _ e=>e) fun _ _ q=>q.weak w⟩
 | stf ks=>exact ⟨rfl,h.2.weak w⟩
 | lls ls=>exact ⟨rfl,h.frz w n trivial⟩
 | thi k j c fs=>exact ⟨rfl,by obtain ⟨⟨rfl,_⟩,_⟩:=h;exact fun e=>nomatch e⟩
 | ina a c fs=>exact ⟨rfl,by obtain ⟨rfl,_⟩:=h;exact fun e=>nomatch e⟩
theorem RW.view (h:RW K H F v o) (fz:o.fz) : ∃ as,RV K H v o.frz as:=by
 cases o with
 | pure t=>exact ⟨_,h.choose_spec.1⟩
 | lst ts =>
  obtain ⟨a,vs,rfl,q,r⟩:=h
  obtain ⟨as,z,_⟩:=r.rvs
  exact ⟨_, .lst (.inl q) z⟩
 | dct kts =>
  obtain ⟨a,kvs,rfl,q,r⟩:=h
  obtain ⟨e,z⟩:=T5 r
  obtain ⟨as,z,m⟩:=z.rvs
  refine ⟨a :: as, ?_⟩
  show RV K H (.ref a) (.dict (kts.map fun p=>(rD p.1,p.2))) (a :: as)
  rw [e]
  exact .dct (.inl q) z
 | dcl kts =>
  obtain ⟨a,kvs,bs,rfl,q,r⟩:=h
  obtain ⟨e,z⟩:=T6 (fun _=>False) (fun _ z=>z.elim) r fun b m z=>z
  obtain ⟨as,z,m⟩:=z.rvs
  refine ⟨a :: as, ?_⟩
  show RV K H (.ref a) (.dict (kts.map fun p=>(rD p.1,PyData.list p.2))) (a :: as)
  rw [e]
  exact .dct (.inl q) z
 | exc e=>exact fz.elim
 | thk f=>exact fz.elim
 | dtt kts=>exact fz.elim
 | any=>exact fz.elim
 | dcf kts=>exact fz.elim
 | ins c fs=>exact fz.elim
 | dtf kts=>exact fz.elim
 | dtp ls=>exact fz.elim
 | stf ks=>exact fz.elim
 | lls ls =>
  obtain ⟨a,us,bs,rfl,q,r⟩:=h
  obtain ⟨as,z,_⟩:=(T7 (fun _=>False) (fun _ z=>z.elim) r fun b m z=>z).rvs
  exact ⟨_, .lst (.inl q) z⟩
 | thi k j c fs=>exact fz.elim
 | ina a c fs=>exact fz.elim
end
def Fo (fp:Nat->List Addr):Addr->Prop:=fun a => ∃ i,a∈fp i
def Or1 (F:Addr->Prop) (A:List Addr):Addr->Prop:=fun a=>F a∨a∈A
class Bas where
 H0:Hp
 F0:Addr->Prop
 G0:List Addr
structure RS0 (K:PySem.W.Frag) (σ : St) (H:Hp) (ρ : aM) (fp:Nat->List Addr) (G:List Addr):Prop where
 ex : ∀ i o,ρ[i]? = some (some o) -> ∃ v,σ[i]? = some (some v)∧RO K H (Or1 (Fo fp) G) v o (fp i)
 non : ∀ i,(∀ o,ρ[i]? ≠ some (some o))->fp i=[]
 dj : ∀ i j a,a∈fp i->a∈fp j->i=j
 nd : ∀ i,(fp i).Nodup
 gf : ∀ a∈G, ¬ Fo fp a
 gi : ∀ a∈G, ∃ u,H a=some u
 len : ρ.length=σ.length
 tb:LamX.Tabs Tbs.T H
variable [Bas]
structure RS (K:PySem.W.Frag) (σ : St) (H:Hp) (ρ : aM) (fp:Nat->List Addr) (G:List Addr):Prop extends RS0 K σ H ρ fp G where
 bs:Ext Bas.H0 Bas.F0 H (fun a=>Or1 (Fo fp) G a∧a∉Bas.G0)
 g0 : ∀ a∈Bas.G0,a∈G
section
variable {K:PySem.W.Frag} {σ : St} {H H' : Hp} {ρ : aM} {fp:Nat->List Addr} {G G' : List Addr}
omit [Bas] in
theorem RS0.there (R:RS0 K σ H ρ fp G) : ∀ a,Fo fp a -> ∃ u,H a=some u∧Mu (some u):=by
 rintro a ⟨i,m⟩
 by_cases h : ∃ o,ρ[i]? = some (some o)
 ·obtain ⟨o,h⟩:=h
  obtain ⟨v,_,r⟩:=R.ex i o h
  exact r.there a m
 ·rw [R.non i fun o e=>h ⟨o,e⟩] at m
  cases m
theorem RS.pres (R:RS K σ H ρ fp G) (p:fL H H'):RS K σ H' ρ fp G :=
 ⟨⟨fun i o e=>let ⟨v,h,r⟩:=R.ex i o e;⟨v,h,r.pres p⟩,R.non,R.dj,R.nd,R.gf,fun a m=>let ⟨u,e⟩:=R.gi a m;⟨u,p a u e⟩,R.len,R.tb.ext p⟩,R.bs.trans p.ext,R.g0⟩
theorem RS.fresh (R:RS K σ H ρ fp G) {a:Addr} (n:H a=none) : ¬ Or1 (Fo fp) G a:=fun z=>by
 rcases z with z | z
 ·obtain ⟨u,e,_⟩:=R.there a z
  rw [n] at e;cases e
 ·obtain ⟨u,e⟩:=R.gi a z
  rw [n] at e;cases e
theorem RS.sub (R:RS K σ H ρ fp G) (h : ∀ a∈G',a∈G) (g : ∀ a∈Bas.G0,a∈G':=by (intro a z;repeat first | exact RS.g0 (by assumption) a z | (refine (?_ : ∀ a∈Bas.G0,a∈_) a z;assumption) | refine List.mem_append_right _ ?_)):RS K σ H ρ fp G' :=
 ⟨⟨fun i o e=>let ⟨v,q,r⟩:=R.ex i o e;⟨v,q,r.weak fun a z=>z.imp (fun q=>q) (h a)⟩,R.non,R.dj,R.nd,fun a m=>R.gf a (h a m),fun a m=>R.gi a (h a m),R.len,R.tb⟩,R.bs.weak (fun _ z=>z) fun a z=>⟨z.1.imp (fun q=>q) (h a),z.2⟩,g⟩
theorem RS.new (R:RS K σ H ρ fp G) (p:fL H H') {A:List Addr} (n : ∀ a∈A,H a=none) (i : ∀ a∈A, ∃ u,H' a=some u):RS K σ H' ρ fp (A++G) :=
 ⟨⟨fun i o e=>let ⟨v,q,r⟩:=R.ex i o e;⟨v,q,(r.grow fun a z=>z.elim (fun q => .inl (.inl q)) fun m=>(List.mem_append.mp m).elim (fun m => .inr (n a m)) fun m => .inl (.inr m)).pres p⟩,R.non,R.dj,R.nd,
  fun a m z=>(List.mem_append.mp m).elim (fun m=>R.fresh (n a m) (.inl z)) fun m=>R.gf a m z,fun a m=>(List.mem_append.mp m).elim (i a) fun m=>let ⟨u,e⟩:=R.gi a m;⟨u,p a u e⟩,R.len,R.tb.ext p⟩,
  R.bs.trans ((p.extA n).weak (fun _ z=>z) fun a z=>z.1.elim (fun q => .inl ⟨.inl q,z.2⟩) fun m=>(List.mem_append.mp m).elim .inr fun m => .inl ⟨.inr m,z.2⟩),fun a m=>List.mem_append_right _ (R.g0 a m)⟩
theorem RS.vals (R:RS K σ H ρ fp G) {σ' : St} (h : ∀ (i:Nat) (o:O) (v:V),ρ[i]? = some (some o)->σ[i]? = some (some v)->σ'[i]? = some (some v)) (hl : σ'.length=σ.length):RS K σ' H ρ fp G :=
 ⟨⟨fun i o e=>let ⟨v,q,r⟩:=R.ex i o e;⟨v,h i o v e q,r⟩,R.non,R.dj,R.nd,R.gf,R.gi,R.len.trans hl.symm,R.tb⟩,R.bs,R.g0⟩
end
theorem Ext.addG {H H' : Hp} {F F' : Addr->Prop} (x:Ext H F H' F') (G:List Addr):Ext H (Or1 F G) H' (Or1 F' G) where
 keep a o e n t:=x.keep a o e (fun z=>n (.inl z)) t
 tups:=x.tups
 frzs:=x.frzs
 new a z:=z.elim (fun z=>(x.new a z).imp .inl (fun q=>q)) fun m => .inl (.inr m)
 dom:=x.dom
 tabs:=x.tabs
 exts:=x.exts
theorem Or1.app {F:Addr->Prop} {A G:List Addr} {a:Addr}:Or1 F (A++G) a↔Or1 (Or1 F A) G a :=
  ⟨fun z=>z.elim (fun q => .inl (.inl q)) fun m=>(List.mem_append.mp m).elim (fun m => .inl (.inr m)) .inr,
   fun z=>z.elim (fun q=>q.elim .inl fun m => .inr (List.mem_append_left _ m)) fun m => .inr (List.mem_append_right _ m)⟩
theorem Or1.perm {F:Addr->Prop} {A G:List Addr} {a:Addr}:Or1 F (A++G) a↔Or1 F (G++A) a :=
  ⟨fun z=>z.imp (fun q=>q) fun m=>(List.mem_append.mp m).elim (List.mem_append_right _) (List.mem_append_left _),
   fun z=>z.imp (fun q=>q) fun m=>(List.mem_append.mp m).elim (List.mem_append_right _) (List.mem_append_left _)⟩
end
end DL
namespace DL
open PySem PySem.Spec L2
open PyProof.Rows hiding St
variable [Tbs] [Bas]
inductive Opd where
 | val (o:O)
 | slot (j:Nat)
def aM.at (ρ : aM) (j:Nat):Option O:=match ρ[j]? with
 | some (some o)=>some o
 | _=>none
def Opd.get (ρ : aM):Opd->Option O
 | .val o=>some o
 | .slot j=>ρ.at j
theorem aM.at_iff {ρ : aM} {j:Nat} {o:O} (h : ρ.at j=some o) : ρ[j]? = some (some o):=by
 unfold aM.at at h
 split at h
 ·rename_i o' e;cases h;exact e
 ·cases h
abbrev XT:=aM->(Opd->aM->Prop)->Prop
abbrev XTs:=aM->(List Opd->aM->Prop)->Prop
abbrev BT:=aM->(Bool->aM->Prop)->Prop
def ROp (K:PySem.W.Frag) (σ : St) (H:Hp) (fp:Nat->List Addr) (ρ : aM) (G:List Addr) (v:V):Opd->List Addr->Prop
 | .val o,A=>RO K H (Or1 (Fo fp) (A++G)) v o A∧A.Nodup ∧ ∀ a∈A,a∉G
 | .slot j,A=>A=[]∧σ[j]? = some (some v) ∧ ∃ o,ρ[j]? = some (some o)
def LX (K:PySem.W.Frag) (t:XT):TE:=fun σ H Q => ∃ ρ fp G Qa,RS K σ H ρ fp G∧t ρ Qa ∧
 ∀ v p A H' ρ' fp',RS K σ H' ρ' fp' (A++G)->ROp K σ H' fp' ρ' G v p A->Ext H (Fo fp) H' (Or1 (Fo fp') A)->Qa p ρ'->Q v H'
structure EX (X:Cx) (e:Expr) (t:XT):Prop where
 pe:PE X e (LX X.K t)
theorem pZ {P:Addr->Prop} : ∀ a,a∈([]:List Addr)->P a:=fun _ m=>nomatch m
theorem lO {K:PySem.W.Frag} {σ : St} {H:Hp} {fp:Nat->List Addr} {ρ : aM} {G:List Addr} {v:V} {t:T} (r:RP K H (Or1 (Fo fp) G) v t):ROp K σ H fp ρ G v (.val (.pure t)) [] :=
 ⟨⟨rfl,r⟩, .nil,pZ⟩
inductive nH (K:PySem.W.Frag) (σ : St) (H:Hp) (F:Addr->Prop) (ρ : aM):List V->List Opd->List Addr->Prop
 | nil:nH K σ H F ρ [] [] []
 | val {v:V} {o:O} {B A:List Addr} {vs:List V} {ps:List Opd}:RO K H F v o B->nH K σ H F ρ vs ps A->nH K σ H F ρ (v :: vs) (.val o :: ps) (B++A)
 | slot {v:V} {j:Nat} {A:List Addr} {vs:List V} {ps:List Opd} : σ[j]? = some (some v)->(∃ o,ρ[j]? = some (some o))->nH K σ H F ρ vs ps A->nH K σ H F ρ (v :: vs) (.slot j :: ps) A
def LA (K:PySem.W.Frag) (n:Nat) (t:XTs):TA:=fun σ H Q => ∃ ρ fp G Qa,RS K σ H ρ fp G∧t ρ Qa ∧
 ∀ vs ps A H' ρ' fp',vs.length=n->RS K σ H' ρ' fp' (A++G)->nH K σ H' (Or1 (Fo fp') (A++G)) ρ' vs ps A->A.Nodup->(∀ a∈A,a∉G)->Ext H (Fo fp) H' (Or1 (Fo fp') A)->Qa ps ρ'->Q vs H'
structure EXs (X:Cx) (es:List Expr) (t:XTs):Prop where
 pa:PA X es (LA X.K es.length t)
def LT (K:PySem.W.Frag) (t:BT):TT:=fun σ H Q => ∃ ρ fp G Qa,RS K σ H ρ fp G∧t ρ Qa ∧
 ∀ b H' ρ' fp',RS K σ H' ρ' fp' G->Ext H (Fo fp) H' (Fo fp')->Qa b ρ'->Q b H'
structure TX (X:Cx) (e:Expr) (t:BT):Prop where
 pt:PT X e (LT X.K t)
structure WX (X:Cx) (e:Expr) (t:BT):Prop where
 pw:PW X e (LT X.K t)
section
variable {X:Cx}
theorem PE.imp {e:Expr} {t t' : TE} (h:PE X e t) (w : ∀ σ H Q,t' σ H Q->t σ H Q):PE X e t':=⟨fun pins s σ H Q I q=>h.run pins s σ H Q I (w σ H Q q)⟩
theorem PT.imp {e:Expr} {t t' : TT} (h:PT X e t) (w : ∀ σ H Q,t' σ H Q->t σ H Q):PT X e t':=⟨fun pins s σ H Q I q=>h.run pins s σ H Q I (w σ H Q q)⟩
theorem PW.imp {e:Expr} {t t' : TT} (h:PW X e t) (w : ∀ σ H Q,t' σ H Q->t σ H Q):PW X e t':=⟨fun wh pins s σ H Q I q=>h.run wh pins s σ H Q I (w σ H Q q)⟩
theorem PA.imp {es:List Expr} {t t' : TA} (h:PA X es t) (w : ∀ σ H Q,t' σ H Q->t σ H Q):PA X es t':=⟨fun pos pins s σ H Q I q=>h.run pos pins s σ H Q I (w σ H Q q)⟩
theorem PS.imp {st:Stmt} {t t' : TS} (h:PS X st t) (w : ∀ D σ H,t' D σ H->t D σ H):PS X st t':=⟨fun pins s σ H D I q=>h.run pins s σ H D I (w D σ H q)⟩
theorem PSs.imp {st:List Stmt} {t t' : TS} (h:PSs X st t) (w : ∀ D σ H,t' D σ H->t D σ H):PSs X st t':=⟨fun pins s σ H D I q=>h.run pins s σ H D I (w D σ H q)⟩
theorem PI.imp {tg e:Expr} {t t' : TI} (h:PI X tg e t) (w : ∀ σ H R,t' σ H R->t σ H R):PI X tg e t':=⟨fun pins s σ H R I q=>h.run pins s σ H R I (w σ H R q)⟩
theorem PG.imp {tg:Expr} {t t' : TG} (h:PG X tg t) (w : ∀ v σ H Q,t' v σ H Q->t v σ H Q):PG X tg t':=⟨fun pins s σ H v u Q I r q=>h.run pins s σ H v u Q I r (w v σ H Q q)⟩
end
section
variable {K:PySem.W.Frag} {σ : St} {H H1 H2:Hp} {fp fp1 fp2:Nat->List Addr} {ρ ρ1 ρ2:aM} {v:V} {p:Opd} {A B G:List Addr} {o:O} {F F' : Addr->Prop}
theorem Ext.or (x:Ext H F H1 (Or1 F' A)):Ext H F H1 F':=x.weak (fun _ z=>z) fun _ z => .inl z
theorem RS.at (R:RS K σ H ρ fp G) {j:Nat} (hv : σ[j]? = some (some v)) (ho : ρ.at j=some o):RO K H (Or1 (Fo fp) G) v o (fp j):=by
 obtain ⟨v',e,r⟩:=R.ex j o (aM.at_iff ho)
 rw [hv] at e;cases e;exact r
theorem RO.step (h:RO K H1 (Or1 (Fo fp1) G) v o A) (x:Ext H1 (Fo fp1) H2 (Or1 (Fo fp2) B)) (n : ∀ a∈A, ¬ Fo fp1 a):RO K H2 (Or1 (Fo fp2) (B++G)) v o A:=by
 exact RO.imp h (fun v t q=>(q.ext (x.addG G)).weak fun a z=>Or1.app.mp z) (fun a m u e t=>x.keep a u e (n a m) t) (fun v e q=>(q.ext (x.addG G)).weak fun a z=>Or1.app.mp z) (fun v e q=>(q.ext (x.addG G)).weak fun a z=>Or1.app.mp z) (fun a o u e=>x.frzs a o _ e) (fun v e q=>(q.ext (x.addG G)).weak fun a z=>Or1.app.mp z) (fun _ _ q=>q.keepE x) (fun v e q=>(q.ext (x.addG G)).weak fun a z=>Or1.app.mp z)
theorem ROp.rw (h:ROp K σ H1 fp1 ρ1 G v p A) (R1:RS K σ H1 ρ1 fp1 (A++G)) (x:Ext H1 (Fo fp1) H2 (Or1 (Fo fp2) B)) (R:RS K σ H2 ρ2 fp2 (B++(A++G))) (e:p.get ρ2=some o):RW K H2 (Or1 (Fo fp2) (B++(A++G))) v o:=by
 cases p with
 | val o' =>
  obtain rfl:o'=o:=Option.some.inj e
  exact (RO.step h.1 x fun a m=>R1.gf a (List.mem_append_left _ m)).rw
 | slot j=>exact (R.at h.2.1 e).rw
theorem ROp.rw0 (h:ROp K σ H1 fp1 ρ1 G v p A) (R1:RS K σ H1 ρ1 fp1 (A++G)) (e:p.get ρ1=some o):RW K H1 (Or1 (Fo fp1) (A++G)) v o:=by
 cases p with
 | val o' =>
  obtain rfl:o'=o:=Option.some.inj e
  exact h.1.rw
 | slot j=>exact (R1.at h.2.1 e).rw
theorem nH.len {vs:List V} {ps:List Opd} (h:nH K σ H F ρ vs ps A):vs.length=ps.length:=by
  induction h with
  | nil=>rfl
  | val _ _ ih=>exact congrArg (· + 1) ih
  | slot _ _ _ ih=>exact congrArg (· + 1) ih
theorem nH.there {vs:List V} {ps:List Opd} (h:nH K σ H F ρ vs ps A) : ∀ a∈A, ∃ u,H a=some u:=by
 induction h with
 | nil=>exact pZ
 | val r _ ih=>exact fun a m=>(List.mem_append.mp m).elim (fun m=>let ⟨u,e,_⟩:=r.there a m;⟨u,e⟩) (ih a)
 | slot _ _ _ ih=>exact ih
end
theorem RB {X:Cx} {pins:List (Addr×Obj)} {σ : St} {H:Hp} {s:Shared} {h' : Heap} {a:Addr} {tk:Nat} {xs:List V} {us:List Value} (I:Inv X pins σ H s) (r:Vals xs us) (z:xs.length≤sizeLine)
  (k : ∀ b o,s.heap.get? b=some o->h'.get? b=some o) (e:h'.get? a=some (Vs us)) (hp:s.heap.objs.size≤a):Inv X pins σ (upd H a (.frz (Vs us) (.tup xs))) { s with heap:=h',toks:=tk } :=
 I.laid k hp ⟨e,z,us,r,⟨_,e,rfl,_,rfl⟩⟩
def tTupP (t:TA):TE:=fun σ H Q=>t σ H fun xs H1=>xs.length≤sizeLine ∧ ∀ p its,H1 p=none->Q (.ref p) (upd H1 p (.frz (Vs its) (.tup xs)))
theorem T8 {X:Cx} {es:List Expr} {t:TA} {pos:Pos} {c} (h:PA X es t):PE X (.Tuple es c pos) (tTupP t) :=
 ⟨fun pins s σ H Q I hq=>wpAny_Tuple_spliced (thn (h.run pos pins s σ H _ I hq) fun us s1 ⟨xs,H1,J,r,z,q⟩=>⟨by rw [← r.length];exact z,
  .ref s1.heap.objs.size,_,RB (tk:=s1.toks) J r z (fun b u e=>Heap.get?_push_of_some _ e) (Heap.get?_push_size _ rfl) (Nat.le_refl _),rfl,q _ us (J.hok.fresh (Nat.le_refl _))⟩)⟩
def xC (K:PySem.W.Frag) (H:Hp) (F:Addr->Prop) (Qa:O->Prop) (Q:VK):Prop :=
 ∀ v o A H',fL H H'->RO K H' (Or1 F A) v o A->(∀ a∈A,H a=none)->A.Nodup->Qa o->Q v H'
section
variable {K:PySem.W.Frag} {σ : St} {H H' : Hp} {F:Addr->Prop} {Qa:O->Prop} {Q:VK} {v:V} {t:T}
theorem Or1.nil : ∀ a,Or1 F [] a->F a:=fun a z=>z.elim (fun q=>q) fun m=>nomatch m
theorem xC.pure (f:xC K H F Qa Q) (r:RP K H F v t) (q:Qa (.pure t)):Q v H:=f v (.pure t) [] H fL.refl ⟨rfl,r.weak Or1.nil⟩ (fun _ m=>nomatch m) .nil q
theorem xC.bl (f:xC K H F Qa Q) {b:Bool} (q:Qa (.pure (.bool b))):Q (.bl b) H:=f.pure (RP.bl b) q
theorem xC.int (f:xC K H F Qa Q) {i:Int} (q:Qa (.pure (.int i))):Q (.int i) H:=f.pure (RP.int i) q
theorem xC.str (f:xC K H F Qa Q) {x:Str} (q:Qa (.pure (.str x))):Q (.str x) H:=f.pure (RP.str x) q
theorem xC.lst (f:xC K H F Qa Q) {p:Addr} {vs:List V} {ts:List T} (n:H p=none) (r:RPs K H F vs ts) (q:Qa (.lst ts)):Q (.ref p) (upd H p (.lst vs)):=by
 refine f _ (.lst ts) [p] _ (fL.upd n) ⟨p,vs,rfl,rfl,upd_same, ?_⟩ (fun a m=>by rw [List.mem_singleton.mp m];exact n) (by simp) q
 exact RPs.ext (fL.upd n).ext (r.grow fun a z=>z.imp (fun q=>q) fun m=>by rw [List.mem_singleton.mp m];exact n)
theorem xC.tup (f:xC K H F Qa Q) {p:Addr} {vs:List V} {ts:List T} {its:List Value} (n:H p=none) (r:RPs K H F vs ts) (q:Qa (.pure (.tuple ts))):Q (.ref p) (upd H p (.frz (Vs its) (.tup vs))) :=
 f _ (.pure (.tuple ts)) [] _ (fL.upd n) ⟨rfl,RP.tup (SqP.new upd_same) ((RPs.ext (F:=F) (fL.upd n).ext r).weak Or1.nil)⟩ (fun _ m=>nomatch m) .nil q
end
abbrev G1:=O->(O->Prop)->Prop
abbrev G2:=O->O->(O->Prop)->Prop
abbrev GN:=List O->(O->Prop)->Prop
def OpA (X:Cx) (f:Value->Value->Sem Value) (g:G2):Prop := ∃ r,OpR X f r ∧ ∀ H F v u x y Q Qa,RW X.K H F v x->RW X.K H F u y->g x y Qa->xC X.K H F Qa Q->r v u H Q
def UnA (X:Cx) (f:Value->Sem Value) (g:G1):Prop := ∃ r,UnR X f r ∧ ∀ H F v x Q Qa,RW X.K H F v x->g x Qa->xC X.K H F Qa Q->r v H Q
def iT (X:Cx) (f:Value) (g:GN):Prop := ∃ r,CallR X f r ∧ ∀ H F vs xs Q Qa,Paired (RW X.K H F) vs xs->g xs Qa->xC X.K H F Qa Q->r vs H Q
def IxA (X:Cx) (g:G2):Prop := ∃ r,IxR X r ∧ ∀ H F v u x y Q Qa,RW X.K H F v x->RW X.K H F u y->g x y Qa->xC X.K H F Qa Q->r v u H Q
theorem OpA.alt {X:Cx} {f:Value->Value->Sem Value} {g g' g'' : G2} (h:OpA X f g) (h' : OpA X f g') (w : ∀ x y Qa,g'' x y Qa->g x y Qa∨g' x y Qa):OpA X f g'':=by
 obtain ⟨r,hr,k⟩:=h
 obtain ⟨r',hr',k'⟩:=h'
 exact ⟨_,hr.or hr',fun H F v u x y Q Qa a b q f=>(w x y Qa q).imp (fun q=>k H F v u x y Q Qa a b q f) fun q=>k' H F v u x y Q Qa a b q f⟩
def aF (j:Nat):XT:=fun ρ Q=>match ρ[j]? with
 | some (some (.pure t))=>Q (.val (.pure t)) ρ
 | some (some _)=>Q (.slot j) ρ
 | _=>False
def bJ (t:T):XT:=fun ρ Q=>Q (.val (.pure t)) ρ
def g2 (g:G2) (ρ : aM) (p q:Opd) (Q:O->Prop):Prop:=match p.get ρ,q.get ρ with
 | some x,some y=>g x y Q
 | _,_=>False
def bF (g:G2) (ta tb:XT):XT:=fun ρ Q=>ta ρ fun p ρ1=>tb ρ1 fun q ρ2=>g2 g ρ2 p q fun o=>Q (.val o) ρ2
def g1 (g:G1) (ρ : aM) (p:Opd) (Q:O->Prop):Prop:=match p.get ρ with
 | some x=>g x Q
 | _=>False
def xf (g:G1) (ta:XT):XT:=fun ρ Q=>ta ρ fun p ρ1=>g1 g ρ1 p fun o=>Q (.val o) ρ1
def aH:XTs:=fun ρ Q=>Q [] ρ
def aD (t:XT) (u:XTs):XTs:=fun ρ Q=>t ρ fun p ρ1=>u ρ1 fun ps ρ2=>(∀ j,p = .slot j -> ∃ o,ρ2[j]? = some (some o))∧Q (p :: ps) ρ2
def dH (ρ : aM):List Opd->Option (List O)
 | []=>some []
 | p :: ps=>match p.get ρ,dH ρ ps with
  | some o,some os=>some (o :: os)
  | _,_=>none
def gN (g:GN) (ρ : aM) (ps:List Opd) (Q:O->Prop):Prop:=match dH ρ ps with
 | some os=>g os Q
 | _=>False
def aq (g:GN) (t:XTs):XT:=fun ρ Q=>t ρ fun ps ρ1=>gN g ρ1 ps fun o=>Q (.val o) ρ1
theorem lu {K:PySem.W.Frag} {σ : St} {H H2:Hp} {fp fp2:Nat->List Addr} {ρ2:aM} {G G2:List Addr} {Qa:Opd->aM->Prop} {Q:VK} (R2:RS K σ H2 ρ2 fp2 G2) (hG : ∀ a∈G,a∈G2) (x:Ext H (Fo fp) H2 (Fo fp2))
  (fin : ∀ v p A H' ρ' fp',RS K σ H' ρ' fp' (A++G)->ROp K σ H' fp' ρ' G v p A->Ext H (Fo fp) H' (Or1 (Fo fp') A)->Qa p ρ'->Q v H') (g0 : ∀ a∈Bas.G0,a∈G:=by (intro a z;repeat first | exact RS.g0 (by assumption) a z | (refine (?_ : ∀ a∈Bas.G0,a∈_) a z;assumption) | refine List.mem_append_right _ ?_)):xC K H2 (Or1 (Fo fp2) G2) (fun o=>Qa (.val o) ρ2) Q :=
 fun v o A H' p r n d q=>by
  have i : ∀ a∈A, ∃ u,H' a=some u:=fun a m=>let ⟨u,e,_⟩:=r.there a m;⟨u,e⟩
  refine fin v (.val o) A H' ρ2 fp2 ((R2.sub hG).new p n i) ⟨r.weak fun a z => ?_,d,fun a m z => ?_⟩ (x.trans (p.extA n)) q
  ·rcases z with z | z
   ·exact .inl (.inl z)
   ·exact (List.mem_append.mp z).elim .inr fun m => .inl (.inr (hG a m))
  ·exact R2.fresh (n a m) (.inr (hG a z))
section
variable {X:Cx} {a b e:Expr} {es:List Expr} {ta tb t:XT} {ts:XTs} {pos:Pos}
theorem aC (j:Nat) {x:Str} (hN:X.N[j]? = some x:=by rfl) (hv:Vis X.env.scope x:=by first | exact Or.inl rfl | exact Or.inr (Or.inl rfl) | exact Or.inr (Or.inr rfl)) (hd:(x == ("__debug__" : Str))=false:=by decide)
  (hcd:(x == ("__classdict__" : Str))=false:=by decide):EX X (.Name x pos) (aF j):=by
 refine ⟨PE.imp (pe_var hN hv hd hcd) ?_⟩
 rintro σ H Q ⟨ρ,fp,G,Qa,R,h,fin⟩
 unfold aF at h
 have go : ∀ o,ρ[j]? = some (some o) -> ∃ v,σ[j]? = some (some v)∧RO X.K H (Or1 (Fo fp) G) v o (fp j):=fun o e=>R.ex j o e
 split at h
 ·rename_i t e
  obtain ⟨v,hv,r⟩:=go _ e
  exact ⟨v,hv,fin v (.val (.pure t)) [] H ρ fp R (lO r.2) (fL.refl.extA pZ) h⟩
 ·rename_i o _ e
  obtain ⟨v,hv,r⟩:=go _ e
  exact ⟨v,hv,fin v (.slot j) [] H ρ fp R ⟨rfl,hv,o,e⟩ (fL.refl.extA pZ) h⟩
 ·exact h.elim
theorem Oq {v:V} {t:T} (h:PE X e (tC v)) (r : ∀ K H F,RP K H F v t):EX X e (bJ t):=by
 refine ⟨PE.imp h ?_⟩
 rintro σ H Q ⟨ρ,fp,G,Qa,R,h,fin⟩
 exact fin v (.val (.pure t)) [] H ρ fp R (lO (r _ _ _)) (fL.refl.extA pZ) h
theorem aJ {i:Int} {j}:EX X (.Constant (.int i) j pos) (bJ (.int i)):=Oq pe_int fun _ _ _=>RP.int i
theorem Vy {i:Bool} {j}:EX X (.Constant (.bool i) j pos) (bJ (.bool i)):=Oq pe_bl fun _ _ _=>RP.bl i
theorem KR {j}:EX X (.Constant .none j pos) (bJ .none):=Oq pe_non fun _ _ _=>RP.non
theorem HY {x:Str} {j}:EX X (.Constant (.str x) j pos) (bJ (.str x)):=Oq pe_str fun _ _ _=>RP.str x
theorem bA {op:Operator} {g:G2} (ho:OpA X (binaryOp op) g) (ha:EX X a ta) (hb:EX X b tb):EX X (.BinOp a op b pos) (bF g ta tb):=by
 obtain ⟨r,hr,hg⟩:=ho
 refine ⟨PE.imp (pe_op hr ha.pe hb.pe) ?_⟩
 rintro σ H Q ⟨ρ,fp,G,Qa,R,h,fin⟩
 refine ⟨ρ,fp,G,_,R,h,fun v p A H1 ρ1 fp1 R1 r1 x1 h1 => ?_⟩
 refine ⟨ρ1,fp1,A++G,_,R1,h1,fun u q B H2 ρ2 fp2 R2 r2 x2 h2 => ?_⟩
 unfold g2 at h2
 split at h2
 ·rename_i x y e1 e2
  exact hg H2 (Or1 (Fo fp2) (B++(A++G))) v u x y Q _ (r1.rw R1 x2 R2 e1) (r2.rw0 R2 e2) h2 (lu R2 (fun a m=>List.mem_append_right _ (List.mem_append_right _ m)) (x1.or.trans x2.or) fin)
 ·exact h2.elim
theorem uP {op:CmpOp} {g:G2} (ho:OpA X (compareOp op) g) (ha:EX X a ta) (hb:EX X b tb) (hm:behindInMarks op b=false):EX X (.Compare a [op] [b] pos) (bF g ta tb):=by
 obtain ⟨r,hr,hg⟩:=ho
 refine ⟨PE.imp (pe_cmpR hr ha.pe hb.pe hm) ?_⟩
 rintro σ H Q ⟨ρ,fp,G,Qa,R,h,fin⟩
 refine ⟨ρ,fp,G,_,R,h,fun v p A H1 ρ1 fp1 R1 r1 x1 h1 => ?_⟩
 refine ⟨ρ1,fp1,A++G,_,R1,h1,fun u q B H2 ρ2 fp2 R2 r2 x2 h2 => ?_⟩
 unfold g2 at h2
 split at h2
 ·rename_i x y e1 e2
  exact hg H2 (Or1 (Fo fp2) (B++(A++G))) v u x y Q _ (r1.rw R1 x2 R2 e1) (r2.rw0 R2 e2) h2 (lu R2 (fun a m=>List.mem_append_right _ (List.mem_append_right _ m)) (x1.or.trans x2.or) fin)
 ·exact h2.elim
theorem RD {op:UnaryOp} {g:G1} (ho:UnA X (unaryOp op) g) (ha:EX X a ta):EX X (.UnaryOp op a pos) (xf g ta):=by
 obtain ⟨r,hr,hg⟩:=ho
 refine ⟨PE.imp (pe_un hr ha.pe) ?_⟩
 rintro σ H Q ⟨ρ,fp,G,Qa,R,h,fin⟩
 refine ⟨ρ,fp,G,_,R,h,fun v p A H1 ρ1 fp1 R1 r1 x1 h1 => ?_⟩
 unfold g1 at h1
 split at h1
 ·rename_i x e1
  exact hg H1 (Or1 (Fo fp1) (A++G)) v x Q _ (r1.rw0 R1 e1) h1 (lu R1 (fun a m=>List.mem_append_right _ m) x1.or fin)
 ·exact h1.elim
theorem cM {g:G2} (ho:IxA X g) (ha:EX X a ta) (hb:EX X b tb) (hs:PlainIx b):EX X (.Subscript a b pos) (bF g ta tb):=by
 obtain ⟨r,hr,hg⟩:=ho
 refine ⟨PE.imp (pe_ix hr ha.pe hb.pe hs) ?_⟩
 rintro σ H Q ⟨ρ,fp,G,Qa,R,h,fin⟩
 refine ⟨ρ,fp,G,_,R,h,fun v p A H1 ρ1 fp1 R1 r1 x1 h1 => ?_⟩
 refine ⟨ρ1,fp1,A++G,_,R1,h1,fun u q B H2 ρ2 fp2 R2 r2 x2 h2 => ?_⟩
 unfold g2 at h2
 split at h2
 ·rename_i x y e1 e2
  exact hg H2 (Or1 (Fo fp2) (B++(A++G))) v u x y Q _ (r1.rw R1 x2 R2 e1) (r2.rw0 R2 e2) h2 (lu R2 (fun a m=>List.mem_append_right _ (List.mem_append_right _ m)) (x1.or.trans x2.or) fin)
 ·exact h2.elim
theorem aG:EXs X [] aH:=by
 refine ⟨PA.imp pa_nil ?_⟩
 rintro σ H Q ⟨ρ,fp,G,Qa,R,h,fin⟩
 exact fin [] [] [] H ρ fp rfl R .nil .nil pZ (fL.refl.extA pZ) h
theorem aA (h1:EX X e t) (h2:EXs X es ts) (hs:starEach (e :: es) X.env=(false,eval e X.env) :: starEach es X.env:=by rfl):EXs X (e :: es) (aD t ts):=by
  refine ⟨PA.imp (pa_cons h1.pe h2.pa hs) ?_⟩
  rintro σ H Q ⟨ρ,fp,G,Qa,R,h,fin⟩
  refine ⟨ρ,fp,G,_,R,h,fun v p A H1 ρ1 fp1 R1 r1 x1 h1 => ?_⟩
  refine ⟨ρ1,fp1,A++G,_,R1,h1,fun vs ps B H2 ρ2 fp2 hl R2 r2 nd2 ng2 x2 h2 => ?_⟩
  have m1 : ∀ a,a∈B++(A++G)↔a∈A++(B++G):=fun a=>by simp only [List.mem_append];exact ⟨fun z=>by rcases z with z | z | z<;>simp [z],fun z=>by rcases z with z | z | z<;>simp [z]⟩
  have w1 : ∀ a,Or1 (Fo fp2) ((A++B)++G) a->Or1 (Fo fp2) (B++(A++G)) a:=fun a z=>z.imp (fun q=>q) fun m=>(m1 a).mpr (by rw [List.append_assoc] at m;exact m)
  have x' : Ext H (Fo fp) H2 (Or1 (Fo fp2) (A++B)):=by
    have:=x1.trans (x2.addG A)
    exact this.weak (fun _ z=>z) fun a z=>Or1.app.mp (Or1.perm.mp z)
  have R2' : RS X.K σ H2 ρ2 fp2 ((A++B)++G):=R2.sub fun a m=>(m1 a).mpr (by rw [List.append_assoc] at m;exact m)
  have low : ∀ {vs:List V} {ps:List Opd} {C:List Addr},nH X.K σ H2 (Or1 (Fo fp2) (B++(A++G))) ρ2 vs ps C->nH X.K σ H2 (Or1 (Fo fp2) ((A++B)++G)) ρ2 vs ps C:=fun r=>by
    induction r with
    | nil=>exact .nil
    | val r _ ih=>exact .val (r.weak w1) ih
    | slot a b _ ih=>exact .slot a b ih
  cases p with
  | val o =>
    have ndA:(A++B).Nodup:=List.nodup_append.mpr ⟨r1.2.1,nd2,fun a m b n e=>ng2 b n (e▸List.mem_append_left _ m)⟩
    refine fin (v :: vs) (.val o :: ps) (A++B) H2 ρ2 fp2 (congrArg (· + 1) hl) R2' (.val ?_ (low r2)) ndA (fun a m z => ?_) x' h2.2
    · exact (RO.step r1.1 x2 fun a m=>R1.gf a (List.mem_append_left _ m)).weak w1
    · exact (List.mem_append.mp m).elim (fun m=>r1.2.2 a m z) fun m=>ng2 a m (List.mem_append_right _ z)
  | slot j =>
    obtain ⟨rfl,hv,_⟩:=r1
    exact fin (v :: vs) (.slot j :: ps) B H2 ρ2 fp2 (congrArg (· + 1) hl) R2' (.slot hv (h2.1 j rfl) (low r2)) nd2 (fun a m z=>ng2 a m (by simpa using z)) x' h2.2
theorem lw {K:PySem.W.Frag} {σ : St} {H:Hp} {fp:Nat->List Addr} {ρ : aM} {G:List Addr} (R:RS K σ H ρ fp G) {vs:List V} {ps:List Opd} {A:List Addr} (h:nH K σ H (Or1 (Fo fp) G) ρ vs ps A) : ∀ {os:List O},dH ρ ps=some os->Paired (RW K H (Or1 (Fo fp) G)) vs os:=by
 induction h with
 | nil=>intro os e;cases e;exact .nil
 | val r _ ih =>
  intro os e
  unfold dH at e
  split at e
  ·rename_i o os e1 e2
   cases e
   cases e1
   exact .cons r.rw (ih e2)
  ·cases e
 | slot hv _ _ ih =>
  intro os e
  unfold dH at e
  split at e
  ·rename_i o os e1 e2
   cases e
   exact .cons (R.at hv e1).rw (ih e2)
  ·cases e
theorem cO {x:Str} {p:Pos} {id:String} {g:GN} (hc:iT X (.builtin id) g) (hg:Gl X x) (hm:X.mg x=none) (hv:bootBuiltins x=some (.builtin id)) (ha:EXs X (e :: es) ts) (hn:x ≠ "__name__" := by decide) (hdb:(x == ("__debug__" : Str))=false:=by decide)
  (he:starEach (e :: es) X.env=(false,eval e X.env) :: starEach es X.env:=by rfl) (hpl:(backTo pos (starEach es X.env)).any (·.1)=false:=by rfl):EX X (.Call (.Name x p) (e :: es) [] pos) (aq g ts):=by
 obtain ⟨r,hr,hgg⟩:=hc
 refine ⟨PE.imp (pe_callB hr hg hm hv ha.pa hn hdb he hpl) ?_⟩
 rintro σ H Q ⟨ρ,fp,G,Qa,R,h,fin⟩
 refine ⟨ρ,fp,G,_,R,h,fun vs ps A H1 ρ1 fp1 hl R1 r1 nd1 ng1 x1 h1 => ?_⟩
 unfold gN at h1
 split at h1
 ·rename_i os e1
  exact hgg H1 (Or1 (Fo fp1) (A++G)) vs os Q _ (lw R1 r1 e1) h1 (lu R1 (fun a m=>List.mem_append_right _ m) x1.or fin)
 ·exact h1.elim
theorem du {x:Str} {p:Pos} {id:String} {g:GN} (hc:iT X (.type id) g) (hg:Gl X x) (hm:X.mg x=none) (hv:bootBuiltins x=some (.type id)) (ha:EXs X (e :: es) ts) (hn:x ≠ "__name__" := by decide) (hdb:(x == ("__debug__" : Str))=false:=by decide)
  (he:starEach (e :: es) X.env=(false,eval e X.env) :: starEach es X.env:=by rfl) (hpl:(backTo pos (starEach es X.env)).any (·.1)=false:=by rfl):EX X (.Call (.Name x p) (e :: es) [] pos) (aq g ts):=by
 obtain ⟨r,hr,hgg⟩:=hc
 refine ⟨PE.imp (pe_callTy hr hg hm hv ha.pa hn hdb he hpl) ?_⟩
 rintro σ H Q ⟨ρ,fp,G,Qa,R,h,fin⟩
 refine ⟨ρ,fp,G,_,R,h,fun vs ps A H1 ρ1 fp1 hl R1 r1 nd1 ng1 x1 h1 => ?_⟩
 unfold gN at h1
 split at h1
 ·rename_i os e1
  exact hgg H1 (Or1 (Fo fp1) (A++G)) vs os Q _ (lw R1 r1 e1) h1 (lu R1 (fun a m=>List.mem_append_right _ m) x1.or fin)
 ·exact h1.elim
end
end DL
namespace DL
open PySem PySem.Spec L2
open PyProof.Rows hiding St
variable [Tbs] [Bas]
def bz (fp:Nat->List Addr) (j:Nat) (A:List Addr):Nat->List Addr:=fun i=>if i=j then A else fp i
theorem eX {fp:Nat->List Addr} {j:Nat} {A:List Addr}:bz fp j A j=A:=by unfold bz;rw [if_pos rfl]
theorem bY {fp:Nat->List Addr} {j i:Nat} {A:List Addr} (h:i≠j):bz fp j A i=fp i:=by unfold bz;rw [if_neg h]
section
variable {K:PySem.W.Frag} {σ : St} {H H1:Hp} {fp:Nat->List Addr} {ρ : aM} {v:V} {p:Opd} {o:O} {j:Nat} {A G:List Addr} {t:T}
theorem Fo.set {a:Addr} (h:Fo (bz fp j A) a):Fo fp a∨a∈A:=by
 obtain ⟨i,m⟩:=h
 unfold bz at m
 split at m
 ·exact .inr m
 ·exact .inl ⟨i,m⟩
theorem aM.get_set (ρ : aM) (j i:Nat) (x:Option O):(ρ.set j x)[i]? = if j=i then (if j<ρ.length then some x else none) else ρ[i]? := by
 by_cases h:j=i
 ·subst h
  rw [if_pos rfl]
  by_cases k:j<ρ.length
  ·rw [if_pos k,List.getElem?_set_self k]
  ·rw [if_neg k,List.getElem?_eq_none (by simpa using k)]
 ·rw [if_neg h,List.getElem?_set_ne h]
theorem RS.upd {σ' : St} (R:RS K σ H ρ fp (A++G)) (hA : ∀ a∈A,a∉G) (d:A.Nodup) (hj:j<ρ.length)
  (hσ : ∀ i v,i≠j->σ[i]? = some (some v)->σ'[i]? = some (some v)) (hv : σ'[j]? = some (some v)) (hl : σ'.length=σ.length) (r:RO K H (Or1 (Fo (bz fp j A)) G) v o A) (g : ∀ a∈Bas.G0,a∈G:=by (intro a z;repeat first | exact RS.g0 (by assumption) a z | (refine (?_ : ∀ a∈Bas.G0,a∈_) a z;assumption) | refine List.mem_append_right _ ?_)):RS K σ' H (ρ.set j (some o)) (bz fp j A) G:=by
 have w : ∀ a,Or1 (Fo (bz fp j A)) G a->Or1 (Fo fp) (A++G) a:=fun a z=>z.elim (fun z=>z.set.elim .inl fun m => .inr (List.mem_append_left _ m)) fun m => .inr (List.mem_append_right _ m)
 refine ⟨⟨fun i u h => ?_,fun i h => ?_,fun i k a m z => ?_,fun i => ?_,fun a m z => ?_,fun a m=>R.gi a (List.mem_append_right _ m),by rw [List.length_set,R.len,hl],R.tb⟩,R.bs.weak (fun _ z=>z) fun a z=>⟨w a z.1,z.2⟩,g⟩
 ·rw [aM.get_set] at h
  by_cases q:j=i
  ·subst q
   rw [if_pos rfl,if_pos hj] at h
   cases h
   exact ⟨v,hv,by rw [eX];exact r⟩
  ·rw [if_neg q] at h
   obtain ⟨x,hx,r'⟩:=R.ex i u h
   exact ⟨x,hσ i x (fun z=>q z.symm) hx,by rw [bY fun z=>q z.symm];exact r'.weak w⟩
 ·by_cases q:i=j
  ·subst q
   exact absurd (by rw [aM.get_set,if_pos rfl,if_pos hj]) (h o)
  ·rw [bY q]
   refine R.non i fun o' z=>h o' ?_
   rw [aM.get_set,if_neg fun y=>q y.symm]
   exact z
 ·by_cases q:i=j
  ·by_cases q' : k=j
   ·rw [q,q']
   ·rw [q,eX] at m
    rw [bY q'] at z
    exact absurd ⟨k,z⟩ (R.gf a (List.mem_append_left _ m))
  ·by_cases q' : k=j
   ·rw [q',eX] at z
    rw [bY q] at m
    exact absurd ⟨i,m⟩ (R.gf a (List.mem_append_left _ z))
   ·rw [bY q] at m
    rw [bY q'] at z
    exact R.dj i k a m z
 ·by_cases q:i=j
  ·rw [q,eX];exact d
  ·rw [bY q];exact R.nd i
 ·rcases z.set with z | z
  ·exact R.gf a (List.mem_append_right _ m) z
  ·exact hA a z m
theorem RS.freeze (R:RS K σ H ρ fp G) (e : ρ[j]? = some (some o)):RS K σ H (ρ.set j (some o.alias)) (bz fp j []) G ∧ ∀ v,σ[j]? = some (some v)->RO K H (Or1 (Fo (bz fp j [])) G) v o.alias []:=by
 obtain ⟨v,hv,r⟩:=R.ex j o e
 have w : ∀ a,Or1 (Fo (bz fp j [])) G a->Or1 (Fo fp) G a:=fun a z=>z.imp (fun z=>z.set.elim (fun q=>q) fun m=>nomatch m) fun m=>m
 have q:RO K H (Or1 (Fo (bz fp j [])) G) v o.alias []:=by
  refine r.alias w fun a m z => ?_
  rcases z with ⟨i,z⟩ | z
  ·by_cases q:i=j
   ·subst q;rw [eX] at z;cases z
   ·rw [bY q] at z
    exact q (R.dj i j a z m)
  ·exact R.gf a z ⟨j,m⟩
 refine ⟨RS.upd (A:=[]) R pZ .nil (List.getElem?_eq_some_iff.mp e).1 (fun i v _ h=>h) hv rfl q,fun v' h => ?_⟩
 rw [hv] at h;cases h;exact q
theorem RS.put (R:RS K σ H ρ fp (A++G)) (hj:j<ρ.length) (r:RO K H (Or1 (Fo fp) (A++G)) v o A) (d:A.Nodup) (hA : ∀ a∈A,a∉G) (g : ∀ a∈Bas.G0,a∈G:=by (intro a z;repeat first | exact RS.g0 (by assumption) a z | (refine (?_ : ∀ a∈Bas.G0,a∈_) a z;assumption) | refine List.mem_append_right _ ?_)):RS K (σ.set j (some v)) H (ρ.set j (some o)) (bz fp j A) G :=
 R.upd hA d hj (fun i v h e=>by rw [List.getElem?_set_ne (Ne.symm h)];exact e) (List.getElem?_set_self (by rw [← R.len];exact hj)) (by rw [List.length_set]) (r.weak fun a z=>z.elim (fun z=>z.set.elim .inl fun m => .inr (List.mem_append_left _ m)) fun m => .inr (List.mem_append_right _ m))
theorem RS.drop {σ' : St} (R:RS K σ H ρ fp G) (hσ : ∀ (i:Nat) (v:V),i≠j->σ[i]? = some (some v)->σ'[i]? = some (some v)) (hl : σ'.length=σ.length):RS K σ' H (ρ.set j none) (bz fp j []) G:=by
 have w : ∀ a,Or1 (Fo (bz fp j [])) G a->Or1 (Fo fp) G a:=fun a z=>z.imp (fun z=>z.set.elim (fun q=>q) fun m=>nomatch m) fun m=>m
 refine ⟨⟨fun i u h => ?_,fun i h => ?_,fun i k a m z => ?_,fun i => ?_,fun a m z=>R.gf a m (z.set.elim (fun q=>q) fun m=>nomatch m),R.gi,by rw [List.length_set,R.len,hl],R.tb⟩,R.bs.weak (fun _ z=>z) fun a z=>⟨w a z.1,z.2⟩,R.g0⟩
 ·rw [aM.get_set] at h
  by_cases q:j=i
  ·rw [if_pos q] at h
   split at h<;>cases h
  ·rw [if_neg q] at h
   obtain ⟨x,hx,r'⟩:=R.ex i u h
   exact ⟨x,hσ i x (fun z=>q z.symm) hx,by rw [bY fun z=>q z.symm];exact r'.weak w⟩
 ·by_cases q:i=j
  ·rw [q,eX]
  ·rw [bY q]
   refine R.non i fun o' z=>h o' ?_
   rw [aM.get_set,if_neg fun y=>q y.symm]
   exact z
 ·by_cases q:i=j
  ·rw [q,eX] at m;cases m
  ·by_cases q' : k=j
   ·rw [q',eX] at z;cases z
   ·rw [bY q] at m
    rw [bY q'] at z
    exact R.dj i k a m z
 ·by_cases q:i=j
  ·rw [q,eX];exact .nil
  ·rw [bY q];exact R.nd i
theorem Ext.putE {j:Nat} {F:Addr->Prop} (x:Ext H F H1 (Or1 (Fo fp) A)):Ext H F H1 (Fo (bz fp j A)):=x.weak (fun _ z=>z) fun a z=>z.set.elim .inl .inr
end
theorem Ot {o:O} (h:o.fz):o.alias = .pure o.frz:=by
 cases o<;>first | rfl | exact h.elim
def fV:Opd->aM->(T->aM->Prop)->Prop
 | .val o,ρ,Q=>o.fz∧Q o.frz ρ
 | .slot j,ρ,Q=>match ρ[j]? with
  | some (some o)=>o.fz∧Q o.frz (ρ.set j (some (.pure o.frz)))
  | _=>False
def m7:Opd->aM->(O->aM->Prop)->Prop
 | .val o,ρ,Q=>Q o.alias ρ
 | .slot j,ρ,Q=>match ρ[j]? with
  | some (some o)=>Q o.alias (ρ.set j (some o.alias))
  | _=>False
def cA:List Opd->aM->(List T->aM->Prop)->Prop
 | [],ρ,Q=>Q [] ρ
 | p :: ps,ρ,Q=>fV p ρ fun t ρ1=>cA ps ρ1 fun ts ρ2=>Q (t :: ts) ρ2
section
variable {K:PySem.W.Frag} {σ : St} {H H1:Hp} {fp:Nat->List Addr} {ρ : aM} {v:V} {p:Opd} {o:O} {j:Nat} {A B G:List Addr} {F F' : Addr->Prop}
theorem nH.weak {ρ' : aM} (w : ∀ a,F' a->F a) (hh : ∀ (j:Nat) (o:O),ρ[j]? = some (some o) -> ∃ o',ρ'[j]? = some (some o')) {vs:List V} {ps:List Opd} (h:nH K σ H F ρ vs ps A):nH K σ H F' ρ' vs ps A:=by
 induction h with
 | nil=>exact .nil
 | val r _ ih=>exact .val (r.weak w) ih
 | slot a b _ ih=>exact .slot a (let ⟨o,e⟩:=b;hh _ o e) ih
theorem Vz {ρ : aM} {j:Nat} {o:O} (e : ρ[j]? = some (some o)) {o' : O} : ∀ (i:Nat) (u:O),ρ[i]? = some (some u) -> ∃ u',(ρ.set j (some o'))[i]? = some (some u'):=fun i u h=>by
 rw [aM.get_set]
 by_cases q:j=i
 ·rw [if_pos q,if_pos (List.getElem?_eq_some_iff.mp e).1];exact ⟨_,rfl⟩
 ·rw [if_neg q];exact ⟨u,h⟩
theorem jR (R:RS K σ H ρ fp (B++G)) (r:ROp K σ H fp ρ G v p B) {Q:T->aM->Prop} (h:fV p ρ Q) (g : ∀ a∈Bas.G0,a∈G:=by (intro a z;repeat first | exact RS.g0 (by assumption) a z | (refine (?_ : ∀ a∈Bas.G0,a∈_) a z;assumption) | refine List.mem_append_right _ ?_)) : ∃ t ρ' fp',RS K σ H ρ' fp' G∧RP K H (Or1 (Fo fp') G) v t∧(∀ a,Fo fp' a->Fo fp a)∧Q t ρ':=by
 cases p with
 | val o =>
  refine ⟨o.frz,ρ,fp,R.sub fun a m=>List.mem_append_right _ m, ?_,fun _ z=>z,h.2⟩
  exact r.1.frz (fun a z=>z.imp (fun q=>q) (List.mem_append_right _)) (fun a m z=>z.elim (R.gf a (List.mem_append_left _ m)) (r.2.2 a m)) h.1
 | slot j =>
  simp only [fV] at h
  split at h
  ·rename_i o e
   obtain ⟨hB,hv,_⟩:=r
   subst hB
   obtain ⟨fz,h⟩:=h
   obtain ⟨R',q⟩:=(R.sub (G':=G) fun a m=>m).freeze e
   rw [Ot fz] at R' q
   exact ⟨_,_,_,R',(q v hv).2,fun a z=>z.set.elim (fun q=>q) fun m=>(List.not_mem_nil m).elim,h⟩
  ·exact h.elim
theorem wQ {ρ0:aM} {F:Addr->Prop} {vs:List V} {ps:List Opd} {A:List Addr} (g : ∀ a∈Bas.G0,a∈G) (rr:nH K σ H F ρ0 vs ps A) : ∀ {ρ : aM} {fp:Nat->List Addr} {Q:List T->aM->Prop},RS K σ H ρ fp (A++G)->(∀ a,Or1 (Fo fp) (A++G) a->F a) ->
  (∀ (j:Nat) (o:O),ρ0[j]? = some (some o) -> ∃ o',ρ[j]? = some (some o'))->(∀ a∈A,a∉G)->A.Nodup->cA ps ρ Q ->
  ∃ ts ρ' fp',RS K σ H ρ' fp' G∧RPs K H (Or1 (Fo fp') G) vs ts∧(∀ a,Fo fp' a->Fo fp a)∧Q ts ρ':=by
 induction rr with
 | nil=>intro ρ fp Q R w hh hA d h;exact ⟨[],ρ,fp,R, .nil,fun _ z=>z,h⟩
 | @val v o B A vs ps r rr ih =>
  intro ρ fp Q R w hh hA d h
  have w1 : ∀ a,Or1 (Fo fp) (A++G) a->Or1 (Fo fp) (B++A++G) a:=fun a z=>z.imp (fun q=>q) fun m=>by simp only [List.mem_append] at m ⊢; rcases m with m | m<;>simp [m]
  obtain ⟨fz,h⟩:=(show o.fz∧cA _ ρ _ from h)
  obtain ⟨ts,ρ',fp',R',q,i,h'⟩:=ih (R.sub fun a m=>by simp only [List.mem_append] at m ⊢; rcases m with m | m<;>simp [m]) (fun a z=>w a (w1 a z)) hh (fun a m=>hA a (List.mem_append_right _ m)) (List.nodup_append.mp d).2.1 h
  refine ⟨_,ρ',fp',R', .cons ?_ q,i,h'⟩
  exact r.frz (fun a z=>w a (z.elim (fun z => .inl (i a z)) fun m => .inr (List.mem_append_right _ m))) (fun a m z=>z.elim (fun z=>R.gf a (List.mem_append_left _ (List.mem_append_left _ m)) (i a z)) (hA a (List.mem_append_left _ m))) fz
 | @slot v j A vs ps hv hs rr ih =>
  intro ρ fp Q R w hh hA d h
  simp only [cA,fV] at h
  split at h
  ·rename_i o e
   obtain ⟨fz,h⟩:=h
   obtain ⟨R1,q1⟩:=R.freeze e
   rw [Ot fz] at R1 q1
   have dl : ∀ a,Fo (bz fp j []) a->Fo fp a:=fun a z=>z.set.elim (fun q=>q) fun m=>(List.not_mem_nil m).elim
   obtain ⟨ts,ρ',fp',R',q,i,h'⟩:=ih R1 (fun a z=>w a (z.imp (dl a) fun m=>m)) (fun i u k=>by obtain ⟨o',k⟩:=hh i u k;exact Vz e i o' k) hA d h
   exact ⟨_,ρ',fp',R', .cons ((q1 _ hv).2.weak fun a z=>z.imp (i a) (List.mem_append_right _)) q,fun a z=>dl a (i a z),h'⟩
  ·exact h.elim
end
def cZ (t:XTs):XT:=fun ρ Q=>t ρ fun ps ρ1=>cA ps ρ1 fun ts ρ2=>Q (.val (.pure (.tuple ts))) ρ2
def gA (t:XTs):XT:=fun ρ Q=>t ρ fun ps ρ1=>cA ps ρ1 fun ts ρ2=>Q (.val (.lst ts)) ρ2
section
variable {X:Cx} {a b e:Expr} {es:List Expr} {ta tb t:XT} {ts:XTs} {pos:Pos}
theorem gH {x1} (h:EXs X es ts) (hl:es.length≤1000:=by decide):EX X (.Tuple es x1 pos) (cZ ts):=by
 refine ⟨PE.imp (T8 h.pa) ?_⟩
 rintro σ H Q ⟨ρ,fp,G,Qa,R,h,fin⟩
 refine ⟨ρ,fp,G,_,R,h,fun vs ps A H1 ρ1 fp1 hl1 R1 r1 nd1 ng1 x1 h1 => ?_⟩
 obtain ⟨ts,ρ2,fp2,R2,q2,i2,h2⟩:=wQ R.g0 r1 R1 (fun a z=>z) (fun j o e=>⟨o,e⟩) ng1 nd1 h1
 refine ⟨by rw [sizeLine_eq];omega,fun p its np => ?_⟩
 exact xC.tup (lu (G:=G) R2 (fun a m=>m) (x1.or.weak (fun _ z=>z) i2) fin) np q2 h2
theorem qF (h:EXs X es ts) (hl:es.length≤1000:=by decide):EX X (.List es pos) (gA ts):=by
 refine ⟨PE.imp (pe_lst h.pa) ?_⟩
 rintro σ H Q ⟨ρ,fp,G,Qa,R,h,fin⟩
 refine ⟨ρ,fp,G,_,R,h,fun vs ps A H1 ρ1 fp1 hl1 R1 r1 nd1 ng1 x1 h1 => ?_⟩
 obtain ⟨ts,ρ2,fp2,R2,q2,i2,h2⟩:=wQ R.g0 r1 R1 (fun a z=>z) (fun j o e=>⟨o,e⟩) ng1 nd1 h1
 refine ⟨by rw [sizeLine_eq];omega,fun p np => ?_⟩
 exact xC.lst (lu (G:=G) R2 (fun a m=>m) (x1.or.weak (fun _ z=>z) i2) fin) np q2 h2
def bOf (ρ : aM) (p:Opd) (Q:Bool->Prop):Prop:=match p.get ρ with
 | some (.pure (.bool b))=>Q b
 | _=>False
def mV (t:XT):BT:=fun ρ Q=>t ρ fun p ρ1=>bOf ρ1 p fun b=>Q b ρ1
theorem Y0 {K:PySem.W.Frag} {σ : St} {H:Hp} {Q:Bool->Hp->Prop} {t:XT} (h:LT K (mV t) σ H Q):LX K t σ H fun x H1 => ∃ c,x = .bl c∧Q c H1:=by
 obtain ⟨ρ,fp,G,Qa,R,h,fin⟩:=h
 refine ⟨ρ,fp,G,_,R,h,fun v p A H1 ρ1 fp1 R1 r1 x1 h1 => ?_⟩
 unfold bOf at h1
 split at h1
 ·rename_i b e
  have q:=r1.rw0 R1 e
  exact ⟨b,RP.boolE q,fin b H1 ρ1 fp1 (R1.sub fun a m=>List.mem_append_right _ m) x1.or h1⟩
 ·exact h1.elim
theorem Be (h:EX X e t) (he : ∀ whole,isTrue e X.env whole=(do let v ← whole;standAt e.pos;holding [v] (truthy v)):=by intro _;rfl):TX X e (mV t):=⟨PT.imp (pt_val h.pe he) fun σ H Q q=>Y0 q⟩
theorem uQ {op:CmpOp} {g:G2} (ho:OpA X (compareOp op) g) (ha:EX X a ta) (hb:EX X b tb) (hm:behindInMarks op b=false):TX X (.Compare a [op] [b] pos) (mV (bF g ta tb)):=by
 obtain ⟨r,hr,hg⟩:=ho
 refine ⟨PT.imp (pt_cmpR hr ha.pe hb.pe hm) ?_⟩
 rintro σ H Q h
 obtain ⟨ρ,fp,G,Qa,R,h,fin⟩:=Y0 h
 show tOp r _ _ σ H _
 refine ⟨ρ,fp,G,_,R,h,fun v p A H1 ρ1 fp1 R1 r1 x1 h1 => ?_⟩
 refine ⟨ρ1,fp1,A++G,_,R1,h1,fun u q B H2 ρ2 fp2 R2 r2 x2 h2 => ?_⟩
 unfold g2 at h2
 split at h2
 ·rename_i x y e1 e2
  exact hg H2 (Or1 (Fo fp2) (B++(A++G))) v u x y _ _ (r1.rw R1 x2 R2 e1) (r2.rw0 R2 e2) h2 (lu R2 (fun a m=>List.mem_append_right _ (List.mem_append_right _ m)) (x1.or.trans x2.or) fin)
 ·exact h2.elim
def zm (t u:BT):BT:=fun ρ Q=>t ρ fun c ρ1=>if c=true then u ρ1 Q else Q false ρ1
def bOr (t u:BT):BT:=fun ρ Q=>t ρ fun c ρ1=>if c=true then Q true ρ1 else u ρ1 Q
def wR (t:BT):BT:=fun ρ Q=>t ρ fun c ρ1=>Q (!c) ρ1
variable {tA tB:BT} {rest:List Expr}
theorem WX.tx (h:WX X e tA):TX X e tA:=⟨h.pw.pt⟩
theorem Yy (ha:TX X a tA):WX X (.BoolOp .And [a] pos) tA:=⟨pw_and1 ha.pt⟩
theorem aAv {K:PySem.W.Frag} {σ : St} {H:Hp} {Q:Bool->Hp->Prop} (h:LT K (zm tA tB) σ H Q):tAnd (LT K tA) (LT K tB) σ H Q:=by
 obtain ⟨ρ,fp,G,Qa,R,h,fin⟩:=h
 refine ⟨ρ,fp,G,_,R,h,fun c H1 ρ1 fp1 R1 x1 h1 => ?_⟩
 cases c with
 | true=>exact iteT ⟨ρ1,fp1,G,_,R1,(by simpa using h1),fun b H2 ρ2 fp2 R2 x2 h2=>fin b H2 ρ2 fp2 R2 (x1.trans x2) h2⟩
 | false=>exact iteF (fin false H1 ρ1 fp1 R1 x1 (by simpa using h1))
theorem Y4 (ha:TX X a tA) (hb:WX X (.BoolOp .And (b :: rest) pos) tB):WX X (.BoolOp .And (a :: b :: rest) pos) (zm tA tB):=⟨PW.imp (pw_and ha.pt hb.pw) fun _ _ _ h=>aAv h⟩
theorem Hf (ha:TX X a tA):TX X (.UnaryOp .Not a pos) (wR tA):=by
 refine ⟨PT.imp (pt_not ha.pt) ?_⟩
 rintro σ H Q ⟨ρ,fp,G,Qa,R,h,fin⟩
 exact ⟨ρ,fp,G,_,R,h,fun c H1 ρ1 fp1 R1 x1 h1=>fin (!c) H1 ρ1 fp1 R1 x1 h1⟩
def bO (o:O) (Q:Bool->Prop):Prop:=match o with
 | .pure (.bool b)=>Q b
 | _=>False
def dD (g g' : G2) (ta tb tc:XT):BT:=fun ρ Q=>ta ρ fun p ρ1=>tb ρ1 fun q ρ2=>g2 g ρ2 p q fun o=>bO o fun c=>if c=true then (tc ρ2 fun r ρ3=>(∀ j,q = .slot j -> ∃ o,ρ3[j]? = some (some o))∧g2 g' ρ3 q r fun o=>bO o fun b=>Q b ρ3) else Q false ρ2
def jM (ta tb:XT):XT:=fun ρ Q=>ta ρ fun p ρ1=>bOf ρ1 p fun c=>if c=true then tb ρ1 Q else Q (.val (.pure (.bool false))) ρ1
def Bf (ta tb:XT):XT:=fun ρ Q=>ta ρ fun p ρ1=>bOf ρ1 p fun c=>if c=true then Q (.val (.pure (.bool true))) ρ1 else tb ρ1 Q
def km (ta:XT):XT:=fun ρ Q=>ta ρ fun p ρ1=>bOf ρ1 p fun c=>Q (.val (.pure (.bool (!c)))) ρ1
theorem Hg {op} (h:EX X a t):EX X (.BoolOp op [a] pos) t:=⟨pe_one h.pe⟩
theorem Ou {K:PySem.W.Frag} {σ : St} {H H1:Hp} {Q:VK} {t:XT} {ρ1:aM} {fp fp1:Nat->List Addr} {G A:List Addr} {Qa:Opd->aM->Prop} (R1:RS K σ H1 ρ1 fp1 (A++G)) (x1:Ext H (Fo fp) H1 (Or1 (Fo fp1) A)) (h:t ρ1 Qa)
  (fin : ∀ v p A H' ρ' fp',RS K σ H' ρ' fp' (A++G)->ROp K σ H' fp' ρ' G v p A->Ext H (Fo fp) H' (Or1 (Fo fp') A)->Qa p ρ'->Q v H') (g : ∀ a∈Bas.G0,a∈G:=by (intro a z;repeat first | exact RS.g0 (by assumption) a z | (refine (?_ : ∀ a∈Bas.G0,a∈_) a z;assumption) | refine List.mem_append_right _ ?_)):LX K t σ H1 Q :=
 ⟨ρ1,fp1,G,Qa,R1.sub fun a m=>List.mem_append_right _ m,h,fun v p B H2 ρ2 fp2 R2 r2 x2 h2=>fin v p B H2 ρ2 fp2 R2 r2 (x1.or.trans x2) h2⟩
theorem Ie {K:PySem.W.Frag} {σ : St} {H H1:Hp} {Q:VK} {ρ1:aM} {fp fp1:Nat->List Addr} {G A:List Addr} {Qa:Opd->aM->Prop} {v:V} {t:T} (R1:RS K σ H1 ρ1 fp1 (A++G)) (x1:Ext H (Fo fp) H1 (Or1 (Fo fp1) A)) (r:RP K H1 (Or1 (Fo fp1) G) v t)
  (fin : ∀ v p A H' ρ' fp',RS K σ H' ρ' fp' (A++G)->ROp K σ H' fp' ρ' G v p A->Ext H (Fo fp) H' (Or1 (Fo fp') A)->Qa p ρ'->Q v H') (q:Qa (.val (.pure t)) ρ1) (g : ∀ a∈Bas.G0,a∈G:=by (intro a z;repeat first | exact RS.g0 (by assumption) a z | (refine (?_ : ∀ a∈Bas.G0,a∈_) a z;assumption) | refine List.mem_append_right _ ?_)):Q v H1 :=
 fin v (.val (.pure t)) [] H1 ρ1 fp1 (R1.sub fun a m=>List.mem_append_right _ m) (lO r) (x1.or.weak (fun _ z=>z) fun a z=>z.elim (fun q=>q) fun m=>nomatch m) q
theorem Hh (ha:EX X a ta) (hb:EX X (.BoolOp .And (b :: rest) pos) tb):EX X (.BoolOp .And (a :: b :: rest) pos) (jM ta tb):=by
 refine ⟨PE.imp (pe_and ha.pe hb.pe) ?_⟩
 rintro σ H Q ⟨ρ,fp,G,Qa,R,h,fin⟩
 refine ⟨ρ,fp,G,_,R,h,fun v p A H1 ρ1 fp1 R1 r1 x1 h1 => ?_⟩
 unfold bOf at h1
 split at h1
 ·rename_i c e
  refine ⟨c,RP.boolE (r1.rw0 R1 e), ?_⟩
  cases c with
  | true=>exact iteT (Ou R1 x1 (by simpa using h1) fin)
  | false=>exact iteF (Ie R1 x1 (RP.bl false) fin (by simpa using h1))
 ·exact h1.elim
theorem ex_or (ha:EX X a ta) (hb:EX X (.BoolOp .Or (b :: rest) pos) tb):EX X (.BoolOp .Or (a :: b :: rest) pos) (Bf ta tb):=by
 refine ⟨PE.imp (pe_or ha.pe hb.pe) ?_⟩
 rintro σ H Q ⟨ρ,fp,G,Qa,R,h,fin⟩
 refine ⟨ρ,fp,G,_,R,h,fun v p A H1 ρ1 fp1 R1 r1 x1 h1 => ?_⟩
 unfold bOf at h1
 split at h1
 ·rename_i c e
  refine ⟨c,RP.boolE (r1.rw0 R1 e), ?_⟩
  cases c with
  | false=>exact iteF (Ou R1 x1 (by simpa using h1) fin)
  | true=>exact iteT (Ie R1 x1 (RP.bl true) fin (by simpa using h1))
 ·exact h1.elim
theorem T9 (ha:EX X a ta):EX X (.UnaryOp .Not a pos) (km ta):=by
 refine ⟨PE.imp (pe_not ha.pe) ?_⟩
 rintro σ H Q ⟨ρ,fp,G,Qa,R,h,fin⟩
 refine ⟨ρ,fp,G,_,R,h,fun v p A H1 ρ1 fp1 R1 r1 x1 h1 => ?_⟩
 unfold bOf at h1
 split at h1
 ·rename_i c e
  exact ⟨c,RP.boolE (r1.rw0 R1 e),Ie R1 x1 (RP.bl _) fin h1⟩
 ·exact h1.elim
def DR (tc:BT) (ta tb:XT):XT:=fun ρ Q=>tc ρ fun c ρ1=>if c=true then ta ρ1 Q else tb ρ1 Q
end
end DL
namespace DL
open PySem PySem.Spec L2
open PyProof.Rows hiding St
variable [Tbs] [Bas] {wk:Bool}
theorem Du {K:PySem.W.Frag} {H:Hp} {F:Addr->Prop} {v:V} {t:T} (r:RP K H F v t):RO K H F v (.pure t) []:=⟨rfl,r⟩
def m9:Opd->aM->(O->aM->Prop)->Prop
 | .val o,ρ,Q=>Q o ρ
 | .slot j,ρ,Q=>match ρ[j]? with
  | some (some o)=>Q o.alias (ρ.set j (some o.alias))
  | _=>False
def mD (P:Nat->Bool):Opd->aM->(O->aM->Prop)->Prop
 | .val o,ρ,Q=>Q o ρ
 | .slot j,ρ,Q=>match ρ[j]? with
  | some (some o)=>if P j=true then Q o.alias (ρ.set j (some o.alias)) else Q o (ρ.set j none)
  | _=>False
section
variable {K:PySem.W.Frag} {σ : St} {H H1:Hp} {fp:Nat->List Addr} {ρ : aM} {v:V} {p:Opd} {o:O} {j:Nat} {A B G:List Addr} {F F' : Addr->Prop}
theorem W0 (R:RS K σ H ρ fp (B++G)) (r:ROp K σ H fp ρ G v p B) {Q:O->aM->Prop} (h:m9 p ρ Q) (g : ∀ a∈Bas.G0,a∈G:=by (intro a z;repeat first | exact RS.g0 (by assumption) a z | (refine (?_ : ∀ a∈Bas.G0,a∈_) a z;assumption) | refine List.mem_append_right _ ?_)) :
  ∃ o A ρ' fp',RS K σ H ρ' fp' (A++G)∧RO K H (Or1 (Fo fp') (A++G)) v o A∧A.Nodup∧(∀ a∈A,a∉G)∧(∀ a,Or1 (Fo fp') A a->Or1 (Fo fp) B a)∧Q o ρ':=by
 cases p with
 | val o=>exact ⟨o,B,ρ,fp,R,r.1,r.2.1,r.2.2,fun _ z=>z,h⟩
 | slot j =>
  simp only [m9] at h
  split at h
  ·rename_i o e
   obtain ⟨hB,hv,_⟩:=r
   subst hB
   obtain ⟨R',q⟩:=(R.sub (G':=G) fun a m=>m).freeze e
   exact ⟨_, [],_,_,R',(q v hv).weak (fun _ z=>z), .nil,pZ,fun a z=>z.elim (fun z => .inl (z.set.elim (fun q=>q) fun m=>(List.not_mem_nil m).elim)) fun m=>(List.not_mem_nil m).elim,h⟩
  ·exact h.elim
theorem RS.move (R:RS K σ H ρ fp G) (e : ρ[j]? = some (some o)) (hv : σ[j]? = some (some v)):RS K σ H (ρ.set j none) (bz fp j []) (fp j++G)∧RO K H (Or1 (Fo (bz fp j [])) (fp j++G)) v o (fp j):=by
 have dl : ∀ a,Fo (bz fp j []) a->Fo fp a:=fun a z=>z.set.elim (fun q=>q) fun m=>(List.not_mem_nil m).elim
 have w : ∀ a,Or1 (Fo (bz fp j [])) (fp j++G) a->Or1 (Fo fp) G a:=fun a z=>z.elim (fun z => .inl (dl a z)) fun m=>(List.mem_append.mp m).elim (fun m => .inl ⟨j,m⟩) .inr
 obtain ⟨v',hv',r⟩:=R.ex j o e
 rw [hv] at hv'; cases hv'
 have D:=R.drop (j:=j) (σ':=σ) (fun _ _ _ h=>h) rfl
 have nf : ∀ a∈fp j, ¬ Fo (bz fp j []) a:=fun a m ⟨i,z⟩=>by
  by_cases q:i=j
  ·subst q;rw [eX] at z;cases z
  ·rw [bY q] at z
   exact q (R.dj i j a z m)
 refine ⟨⟨⟨fun i u h => ?_,D.non,D.dj,D.nd,fun a m=>(List.mem_append.mp m).elim (nf a) (D.gf a),fun a m=>(List.mem_append.mp m).elim (fun m=>let ⟨u,e,_⟩:=r.there a m;⟨u,e⟩) (R.gi a),D.len,R.tb⟩,R.bs.weak (fun _ z=>z) fun a z=>⟨w a z.1,z.2⟩,fun a m=>List.mem_append_right _ (R.g0 a m)⟩,r.weak w⟩
 rw [aM.get_set] at h
 by_cases q:j=i
 ·rw [if_pos q] at h
  split at h<;>cases h
 ·rw [if_neg q] at h
  obtain ⟨x,hx,r'⟩:=R.ex i u h
  exact ⟨x,hx,by rw [bY fun z=>q z.symm];exact r'.weak w⟩
theorem W3 {P:Nat->Bool} (R:RS K σ H ρ fp (B++G)) (r:ROp K σ H fp ρ G v p B) {Q:O->aM->Prop} (h:mD P p ρ Q) (g : ∀ a∈Bas.G0,a∈G:=by (intro a z;repeat first | exact RS.g0 (by assumption) a z | (refine (?_ : ∀ a∈Bas.G0,a∈_) a z;assumption) | refine List.mem_append_right _ ?_)) :
  ∃ o A ρ' fp',RS K σ H ρ' fp' (A++G)∧RO K H (Or1 (Fo fp') (A++G)) v o A∧A.Nodup∧(∀ a∈A,a∉G)∧(∀ a,Or1 (Fo fp') A a->Or1 (Fo fp) B a)∧Q o ρ':=by
 cases p with
 | val o=>exact ⟨o,B,ρ,fp,R,r.1,r.2.1,r.2.2,fun _ z=>z,h⟩
 | slot j =>
  simp only [mD] at h
  split at h
  ·rename_i o e
   obtain ⟨hB,hv,_⟩:=r
   subst hB
   split at h
   ·obtain ⟨R',q⟩:=(R.sub (G':=G) fun a m=>m).freeze e
    exact ⟨_, [],_,_,R',(q v hv).weak (fun _ z=>z), .nil,pZ,fun a z=>z.elim (fun z => .inl (z.set.elim (fun q=>q) fun m=>(List.not_mem_nil m).elim)) fun m=>(List.not_mem_nil m).elim,h⟩
   ·obtain ⟨R',q⟩:=(R.sub (G':=G) fun a m=>m).move e hv
    exact ⟨_,_,_,_,R',q,R.nd j,fun a m z=>R.gf a z ⟨j,m⟩,fun a z=>z.elim (fun z => .inl (z.set.elim (fun q=>q) fun m=>(List.not_mem_nil m).elim)) fun m => .inl ⟨j,m⟩,h⟩
  ·exact h.elim
end
structure qY where
 nx:aM->Prop
 rt:O->aM->Prop
 bk:aM->Prop:=fun _=>False
 ct:aM->Prop:=fun _=>False
abbrev ST:=qY->aM->Prop
def qZ (P:Nat->Bool) (σ σ' : St):Prop := ∀ (j:Nat),P j=true->σ'[j]? = σ[j]?
theorem qZ.refl {P:Nat->Bool} {σ : St}:qZ P σ σ:=fun _ _=>rfl
theorem qZ.trans {P:Nat->Bool} {σ σ1 σ2:St} (h:qZ P σ σ1) (k:qZ P σ1 σ2):qZ P σ σ2:=fun j m=>(k j m).trans (h j m)
structure aAw (K:PySem.W.Frag) (P:Nat->Bool) (σ : St) (H:Hp) (fp:Nat->List Addr) (G:List Addr) (Da:qY) (D:Ends):Prop where
 nx : ∀ σ' H' ρ' fp',RS K σ' H' ρ' fp' G->Ext H (Fo fp) H' (Fo fp')->qZ P σ σ'->Da.nx ρ'->D.nx σ' H'
 bk : ∀ σ' H' ρ' fp',RS K σ' H' ρ' fp' G->Ext H (Fo fp) H' (Fo fp')->qZ P σ σ'->Da.bk ρ'->D.bk σ' H'
 ct : ∀ σ' H' ρ' fp',RS K σ' H' ρ' fp' G->Ext H (Fo fp) H' (Fo fp')->qZ P σ σ'->Da.ct ρ'->D.ct σ' H'
 rt : ∀ v o A σ' H' ρ' fp',RS K σ' H' ρ' fp' (A++G)->RO K H' (Or1 (Fo fp') (A++G)) v o A->A.Nodup->(∀ a∈A,a∉G)->Ext H (Fo fp) H' (Or1 (Fo fp') A)->qZ P σ σ'->Da.rt o ρ'->D.rt v H'
def LS (K:PySem.W.Frag) (P:Nat->Bool) (t:ST):TS:=fun D σ H => ∃ ρ fp G Da,RS K σ H ρ fp G∧t Da ρ∧aAw K P σ H fp G Da D
theorem aAw.later {K:PySem.W.Frag} {P:Nat->Bool} {σ σ1:St} {H H1:Hp} {fp fp1:Nat->List Addr} {G:List Addr} {Da:qY} {D:Ends} (f:aAw K P σ H fp G Da D) (x:Ext H (Fo fp) H1 (Fo fp1)) (p:qZ P σ σ1):aAw K P σ1 H1 fp1 G Da D :=
 ⟨fun σ' H' ρ' fp' R y q h=>f.nx σ' H' ρ' fp' R (x.trans y) (p.trans q) h,fun σ' H' ρ' fp' R y q h=>f.bk σ' H' ρ' fp' R (x.trans y) (p.trans q) h,fun σ' H' ρ' fp' R y q h=>f.ct σ' H' ρ' fp' R (x.trans y) (p.trans q) h,
  fun v o A σ' H' ρ' fp' R r d n y q h=>f.rt v o A σ' H' ρ' fp' R r d n (x.trans y) (p.trans q) h⟩
structure SX (X:Cx) (P:Nat->Bool) (st:Stmt) (t:ST):Prop where
 ps:PS X st (LS X.K P t)
structure SXs (X:Cx) (P:Nat->Bool) (st:List Stmt) (t:ST):Prop where
 pss:PSs X st (LS X.K P t)
def eO (t u:ST):ST:=fun D ρ=>t { D with nx:=u D } ρ
def gD:ST:=fun D ρ=>D.nx ρ
def j6 (P:Nat->Bool) (t:XT):ST:=fun D ρ=>t ρ fun p ρ1=>mD P p ρ1 D.rt
def nJ:ST:=fun D ρ=>D.rt (.pure .none) ρ
def eY (t:XT):ST:=fun D ρ=>t ρ fun _ ρ1=>D.nx ρ1
def sIf (c:BT) (t u:ST):ST:=fun D ρ=>c ρ fun b ρ1=>if b=true then t D ρ1 else u D ρ1
def jT (j:Nat) (t:XT):ST:=fun D ρ=>t ρ fun p ρ1=>m9 p ρ1 fun o ρ2=>(Nat.blt j ρ2.length=true)∧D.nx (ρ2.set j (some o))
section
variable {X:Cx} {P:Nat->Bool} {st:Stmt} {rest:List Stmt} {t u:ST} {e:Expr} {te:XT} {tc:BT} {pos:Pos}
theorem lE:SXs X P [] gD:=by
 refine ⟨PSs.imp pss_nil ?_⟩
 rintro D σ H ⟨ρ,fp,G,Da,R,h,f⟩
 exact f.nx σ H ρ fp R Ext.refl .refl h
theorem aAx {K:PySem.W.Frag} {D:Ends} {σ : St} {H:Hp} (h:LS K P (eO t u) D σ H):tSeq (LS K P t) (LS K P u) D σ H:=by
 obtain ⟨ρ,fp,G,Da,R,h,f⟩:=h
 exact ⟨ρ,fp,G,_,R,h,fun σ' H' ρ' fp' R' x p q=>⟨ρ',fp',G,Da,R',q,f.later x p⟩,f.bk,f.ct,f.rt⟩
theorem aO (h1:SX X P st t) (h2:SXs X P rest u):SXs X P (st :: rest) (eO t u):=⟨PSs.imp (pss_cons h1.ps h2.pss) fun _ _ _ h=>aAx h⟩
theorem aR (h1:SX X P st t):SXs X P [st] t:=⟨pss_one h1.ps⟩
theorem cU (h:EX X e te):SX X P (.Return (some e) pos) (j6 P te):=by
 refine ⟨PS.imp (ps_ret h.pe) ?_⟩
 rintro D σ H ⟨ρ,fp,G,Da,R,h,f⟩
 refine ⟨ρ,fp,G,_,R,h,fun v p A H1 ρ1 fp1 R1 r1 x1 h1 => ?_⟩
 obtain ⟨o,B,ρ2,fp2,R2,r2,d2,n2,i2,h2⟩:=W3 R1 r1 h1
 exact f.rt v o B σ H1 ρ2 fp2 R2 r2 d2 n2 (x1.weak (fun _ z=>z) i2) .refl h2
theorem jC (h:EX X e te) (hs:swapsWith e none pos.line X.env=pure false:=by rfl):SX X P (.Expr e pos) (eY te):=by
 refine ⟨PS.imp (ps_expr h.pe hs) ?_⟩
 rintro D σ H ⟨ρ,fp,G,Da,R,h,f⟩
 exact ⟨ρ,fp,G,_,R,h,fun v p A H1 ρ1 fp1 R1 r1 x1 h1=>f.nx σ H1 ρ1 fp1 (R1.sub fun a m=>List.mem_append_right _ m) x1.or .refl h1⟩
theorem yo {c:Expr} {a b:List Stmt} (hc:TX X c tc) (ha:SXs X P a t) (hb:SXs X P b u):SX X P (.If c a b pos) (sIf tc t u):=by
 refine ⟨PS.imp (ps_if hc.pt ha.pss hb.pss) ?_⟩
 rintro D σ H ⟨ρ,fp,G,Da,R,h,f⟩
 refine ⟨ρ,fp,G,_,R,h,fun c H1 ρ1 fp1 R1 x1 h1 => ?_⟩
 cases c with
 | true=>exact iteT ⟨ρ1,fp1,G,Da,R1,(by simpa using h1),f.later x1 .refl⟩
 | false=>exact iteF ⟨ρ1,fp1,G,Da,R1,(by simpa using h1),f.later x1 .refl⟩
theorem TF {j:Nat} {σ : St} {x:Option V} (hj:P j=false):qZ P σ (σ.set j x):=fun i m=>by
 rw [List.getElem?_set_ne]
 rintro rfl
 rw [m] at hj
 cases hj
theorem TJ {K:PySem.W.Frag} {D:Ends} {σ : St} {H:Hp} {j:Nat} (hp:P j=false) (h:LS K P (jT j te) D σ H):tAsg (LX K te) (gName j) D σ H:=by
 obtain ⟨ρ,fp,G,Da,R,h,f⟩:=h
 refine ⟨ρ,fp,G,_,R,h,fun v p A H1 ρ1 fp1 R1 r1 x1 h1 => ?_⟩
 obtain ⟨o,B,ρ2,fp2,R2,r2,d2,n2,i2,hl,h2⟩:=W0 R1 r1 h1
 have hj:j<ρ2.length:=Nat.le_of_ble_eq_true hl
 exact f.nx _ H1 _ _ (R2.put hj r2 d2 n2) ((x1.weak (fun _ z=>z) i2).putE) (TF hp) h2
theorem gJ {x:Str} {pos' : Pos} (j:Nat) (hN:X.N.Nodup) (hi:X.N[j]? = some x) (hx:Loc X.env.scope x) (he:EX X e te) (hp:P j=false:=by rfl) (hs:swapsWith e (some (.Name x pos')) pos.line X.env=pure false:=by rfl) (hf:X.fn x=true∨X.env.scope.names.lookup x=some .local:=by first | exact .inl rfl | exact .inr rfl | assumption) :
  SX X P (.Assign [.Name x pos'] e pos) (jT j te):=⟨PS.imp (ps_set hN hi hx he.pe hs hf) fun _ _ _ h=>TJ hp h⟩
end
abbrev GT:=T->aM->(aM->Prop)->Prop
abbrev GTs:=List T->aM->(aM->Prop)->Prop
def RY (wk:Bool) (K:PySem.W.Frag) (H:Hp) (F:Addr->Prop) (v:V) (t:T):Prop:=RP K H F v t∨(wk=false ∧ ∃ a vs ts,v = .ref a∧t = .tuple ts∧SqT K H a vs∧RPs K H F vs ts)
theorem RY.weak {K:PySem.W.Frag} {H:Hp} {F F' : Addr->Prop} {v:V} {t:T} (h:RY wk K H F v t) (w : ∀ a,F' a->F a):RY wk K H F' v t :=
 h.imp (fun q=>q.weak w) fun ⟨e,a,vs,ts,e1,e2,e3,e4⟩=>⟨e,a,vs,ts,e1,e2,e3,e4.weak w⟩
def LG (wk:Bool) (K:PySem.W.Frag) (P:Nat->Bool) (g:GT):TG:=fun v σ H Q => ∃ ρ fp G Qa t,RS K σ H ρ fp G∧RY wk K H (Or1 (Fo fp) G) v t∧g t ρ Qa ∧
 ∀ σ' ρ' fp',RS K σ' H ρ' fp' G->(∀ a,Fo fp' a->Fo fp a)->qZ P σ σ'->σ'.length=σ.length->Qa ρ'->Q σ' H
structure GX (wk:Bool) (X:Cx) (P:Nat->Bool) (tg:Expr) (g:GT):Prop where
 pg:PG X tg (LG wk X.K P g)
def LGs (K:PySem.W.Frag) (P:Nat->Bool) (g:GTs):TGs:=fun vs σ H Q => ∃ ρ fp G Qa ts,RS K σ H ρ fp G∧RPs K H (Or1 (Fo fp) G) vs ts∧g ts ρ Qa ∧
 ∀ σ' ρ' fp',RS K σ' H ρ' fp' G->(∀ a,Fo fp' a->Fo fp a)->qZ P σ σ'->σ'.length=σ.length->Qa ρ'->Q σ' H
structure GXs (X:Cx) (P:Nat->Bool) (tg:List Expr) (g:GTs):Prop where
 pg:PGs X tg (LGs X.K P g)
theorem PGs.imp {X:Cx} {ts:List Expr} {t t' : TGs} (h:PGs X ts t) (w : ∀ v σ H Q,t' v σ H Q->t v σ H Q):PGs X ts t':=⟨fun pins s σ H v u Q I r q=>h.run pins s σ H v u Q I r (w v σ H Q q)⟩
def bH (j:Nat):GT:=fun t ρ Q=>(Nat.blt j ρ.length=true)∧Q (ρ.set j (some (.pure t)))
def iU:GTs:=fun ts ρ Q=>match ts with
 | []=>Q ρ
 | _=>False
def cD (g:GT) (h:GTs):GTs:=fun ts ρ Q=>match ts with
 | t :: r=>g t ρ fun ρ1=>h r ρ1 Q
 | _=>False
def iV (n:Nat) (h:GTs):GT:=fun t ρ Q=>match t with
 | .tuple ts=>ts.length=n∧h ts ρ Q
 | _=>False
section
variable {X:Cx} {P:Nat->Bool} {pos:Pos} {e:Expr} {es:List Expr} {g:GT} {h:GTs}
theorem cR {x:Str} (j:Nat) (hN:X.N.Nodup) (hi:X.N[j]? = some x) (hx:Loc X.env.scope x) (hp:P j=false:=by rfl) (hf:X.fn x=true∨X.env.scope.names.lookup x=some .local:=by first | exact .inl rfl | exact .inr rfl | assumption):GX true X P (.Name x pos) (bH j):=by
 refine ⟨PG.imp (pg_name hN hi hx hf) ?_⟩
 rintro v σ H Q ⟨ρ,fp,G,Qa,t,R,r | ⟨e,_⟩,⟨hl,h⟩,fin⟩
 ·exact fin _ _ _ (RS.put (A:=[]) R (Nat.le_of_ble_eq_true hl) (Du r) .nil pZ) (fun a z=>z.set.elim (fun q=>q) fun m=>(List.not_mem_nil m).elim) (TF hp) (by rw [List.length_set]) h
 ·cases e
theorem xg:GXs X P [] iU:=by
 refine ⟨PGs.imp pgs_nil ?_⟩
 rintro vs σ H Q ⟨ρ,fp,G,Qa,ts,R,r,h,fin⟩
 unfold iU at h
 split at h
 ·cases r
  exact ⟨rfl,fin σ ρ fp R (fun _ z=>z) .refl rfl h⟩
 ·exact h.elim
theorem gK (h1:GX true X P e g) (h2:GXs X P es h) (hs:(assignEach (e :: es) X.env).map (·.2)=assign e X.env :: (assignEach es X.env).map (·.2):=by rfl):GXs X P (e :: es) (cD g h):=by
 refine ⟨PGs.imp (pgs_cons h1.pg h2.pg hs) ?_⟩
 rintro vs σ H Q ⟨ρ,fp,G,Qa,ts,R,r,h,fin⟩
 unfold cD at h
 split at h
 ·cases r with
  | cons r0 rr =>
   refine ⟨_,_,rfl,ρ,fp,G,_,_,R, .inl r0,h,fun σ1 ρ1 fp1 R1 i1 p1 l1 h1 => ?_⟩
   exact ⟨ρ1,fp1,G,Qa,_,R1,RPs.weak rr fun a z=>z.imp (i1 a) fun m=>m,h1,fun σ2 ρ2 fp2 R2 i2 p2 l2 h2=>fin σ2 ρ2 fp2 R2 (fun a z=>i1 a (i2 a z)) (p1.trans p2) (l2.trans l1) h2⟩
 ·exact h.elim
theorem Dy {k:Nat} {n:Nat} (hc:X.calm=true) (h1:GXs X P es h) (hn:(assignEach es X.env).length=n:=by rfl) (hst:(assignEach es X.env).findIdx? (·.1)=none:=by rfl):GX wk X P (.Tuple es k pos) (iV n h):=by
 refine ⟨PG.imp (pg_tup hc h1.pg hn hst) ?_⟩
 rintro v σ H Q ⟨ρ,fp,G,Qa,t,R,r,h,fin⟩
 unfold iV at h
 split at h
 ·obtain ⟨a,vs,rfl,hq,rr⟩ : ∃ a vs,v = .ref a∧SqT X.K H a vs∧RPs X.K H (Or1 (Fo fp) G) vs _:=by
   rcases r with r | ⟨_,a,vs,ts',e1,e2,e3,e4⟩
   ·exact r.tupE
   ·cases e2;exact ⟨a,vs,e1,e3,e4⟩
  exact ⟨a,vs,rfl,hq,by rw [Paired.len rr,h.1],ρ,fp,G,Qa,_,R,rr,h.2,fin⟩
 ·exact h.elim
def Bg (g:GT) (t:XT):ST:=fun D ρ=>t ρ fun p ρ1=>fV p ρ1 fun y ρ2=>g y ρ2 D.nx
theorem aAy {tg:Expr} {te:XT} (he:EX X e te) (hg:GX true X P tg g) (hs:swapsWithSole [tg] e pos.line X.env=pure false:=by rfl) (hw:swappedStores [tg] e X.env=pure none:=by rfl)
  (h1:(assignEach [tg] X.env).map (·.2)=[assign tg X.env]:=by rfl):SX X P (.Assign [tg] e pos) (Bg g te):=by
 refine ⟨PS.imp (ps_asg he.pe hg.pg hs hw h1) ?_⟩
 rintro D σ H ⟨ρ,fp,G,Da,R,h,f⟩
 refine ⟨ρ,fp,G,_,R,h,fun v p A H1 ρ1 fp1 R1 r1 x1 h1 => ?_⟩
 obtain ⟨y,ρ2,fp2,R2,r2,i2,h2⟩:=jR R1 r1 h1
 exact ⟨ρ2,fp2,G,_,y,R2, .inl r2,h2,fun σ3 ρ3 fp3 R3 i3 p3 _ h3=>f.nx σ3 H1 ρ3 fp3 R3 (x1.or.weak (fun _ z=>z) fun a z=>i2 a (i3 a z)) p3 h3⟩
end
def JOk (wk:Bool) (K:PySem.W.Frag) (J:It) (ts:List T) (H:Hp) (F:Addr->Prop) (G:List Addr):Prop :=
 ∀ H' F',Ext H F H' F'->(∀ i t,ts[i]? = some t->J.go i H' ∧ ∀ x H'',J.yld i H' x H''->fL H' H''∧RY wk K H'' (Or1 F' G) x t)∧J.stop ts.length H'
abbrev IT:=aM->(List T->aM->Prop)->Prop
def LI (wk:Bool) (K:PySem.W.Frag) (ti:IT):TI:=fun σ H R => ∃ ρ fp G Qa,RS K σ H ρ fp G∧ti ρ Qa ∧
 ∀ ts J H' ρ' fp',RS K σ H' ρ' fp' G->JOk wk K J ts H' (Fo fp') G->ts.length≤sizeLine->Ext H (Fo fp) H' (Fo fp')->Qa ts ρ'->R J H'
structure IX (wk:Bool) (X:Cx) (tg iter:Expr) (ti:IT):Prop where
 pi:PI X tg iter (LI wk X.K ti)
def Mr (g:GT) (tb:ST) (D:qY):List T->aM->Prop
 | [],ρ=>D.nx ρ
 | t :: ts,ρ=>g t ρ fun ρ1=>tb { nx:=Mr g tb D ts,ct:=Mr g tb D ts,bk:=D.nx,rt:=D.rt } ρ1
def xD (ti:IT) (g:GT) (tb:ST):ST:=fun D ρ=>ti ρ fun ts ρ1=>Mr g tb D ts ρ1
section
variable {X:Cx} {P:Nat->Bool} {pos:Pos} {tg iter:Expr} {body:List Stmt} {ti:IT} {g:GT} {tb:ST}
theorem Dz {α : Type} {l:List α} {i:Nat} {t : α} {r:List α} (h:l.drop i=t :: r):l[i]? = some t∧l.drop (i+1)=r∧i<l.length:=by
 have h1:i<l.length:=by
  rcases Nat.lt_or_ge i l.length with q | q
  ·exact q
  ·rw [List.drop_eq_nil_of_le q] at h;cases h
 rw [List.drop_eq_getElem_cons h1] at h
 cases h
 exact ⟨List.getElem?_eq_getElem h1,rfl,h1⟩
theorem EY (hp:PassesOwn (model X.prog X.w) X.A X.env X.xe) (hc:X.calm=true) (hi:IX wk X tg iter ti) (hg:GX wk X P tg g) (hb:SXs X P body tb) (hs : ∀ x,foldedSetIterable iter X.env x=pure x:=by intro _;rfl) :
  SX X P (.For tg iter body [] pos) (xD ti g tb):=by
 refine ⟨PS.imp (ps_for hp hc hi.pi hg.pg hb.pss hs) ?_⟩
 rintro D σ H ⟨ρ,fp,G,Da,R,h,f⟩
 refine ⟨ρ,fp,G,_,R,h,fun ts J H1 ρ1 fp1 R1 j1 _ x1 h1 => ?_⟩
 refine ⟨fun i m σ' H' => ∃ ρ' fp',m=ts.length - i∧i≤ts.length∧RS X.K σ' H' ρ' fp' G∧Ext H1 (Fo fp1) H' (Fo fp')∧qZ P σ σ'∧Mr g tb Da (ts.drop i) ρ',⟨_,ρ1,fp1,rfl,Nat.zero_le _,R1,Ext.refl, .refl,h1⟩, ?_⟩
 rintro i m σ2 H2 ⟨ρ2,fp2,rfl,hi2,R2,x2,p2,h2⟩
 obtain ⟨j2,stop⟩:=j1 H2 (Fo fp2) x2
 cases hd:ts.drop i with
 | nil =>
  have e:i=ts.length:=by
   have:=congrArg List.length hd
   simp at this;omega
  subst e
  rw [hd] at h2
  exact .inl ⟨stop,f.nx σ2 H2 ρ2 fp2 R2 (x1.trans x2) p2 h2⟩
 | cons t r =>
  obtain ⟨e1,e2,e3⟩:=Dz hd
  rw [hd] at h2
  obtain ⟨go,yl⟩:=j2 i t e1
  refine .inr ⟨go,fun σ3 H3 => ∃ ρ3 fp3,RS X.K σ3 H3 ρ3 fp3 G∧Ext H1 (Fo fp1) H3 (Fo fp3)∧qZ P σ σ3∧Mr g tb Da r ρ3,fun σ3 H3 ⟨ρ3,fp3,R3,x3,p3,h3⟩=>⟨_,by omega,ρ3,fp3,rfl,e3,R3,x3,p3,by rw [e2];exact h3⟩,fun x H3 y => ?_⟩
  obtain ⟨pr,rp⟩:=yl x H3 y
  refine ⟨ρ2,fp2,G,_,t,R2.pres pr,rp,h2,fun σ4 ρ4 fp4 R4 i4 p4 _ h4 => ?_⟩
  have x4:Ext H1 (Fo fp1) H3 (Fo fp4):=x2.trans ((pr.ext (F:=Fo fp2)).weak (fun _ z=>z) i4)
  have p24:=p2.trans p4
  refine ⟨ρ4,fp4,G,_,R4,h4,fun σ5 H5 ρ5 fp5 R5 x5 p5 h5=>⟨ρ5,fp5,R5,x4.trans x5,p24.trans p5,h5⟩,fun σ5 H5 ρ5 fp5 R5 x5 p5 h5 => ?_,fun σ5 H5 ρ5 fp5 R5 x5 p5 h5=>⟨ρ5,fp5,R5,x4.trans x5,p24.trans p5,h5⟩,fun v o A σ5 H5 ρ5 fp5 R5 r5 d5 n5 x5 p5 h5 => ?_⟩
  ·exact f.nx σ5 H5 ρ5 fp5 R5 (x1.trans (x4.trans x5)) (p24.trans p5) h5
  ·exact f.rt v o A σ5 H5 ρ5 fp5 R5 r5 d5 n5 (x1.trans (x4.trans x5)) (p24.trans p5) h5
def Bh (c:BT) (tb:ST) (D:qY):Nat->aM->Prop
 | 0,_=>False
 | n+1,ρ=>c ρ fun b ρ1=>if b=true then tb { nx:=Bh c tb D n,ct:=Bh c tb D n,bk:=D.nx,rt:=D.rt } ρ1 else D.nx ρ1
def TQ (c:BT) (tb:ST):ST:=fun D ρ => ∃ n,Bh c tb D n ρ
theorem W4 {c:Expr} {tc:BT} (hp:PassesOwn (model X.prog X.w) X.A X.env X.xe) (hc:TX X c tc) (hb:SXs X P body tb):SX X P (.While c body [] pos) (TQ tc tb):=by
 refine ⟨PS.imp (ps_while hp hc.pt hb.pss) ?_⟩
 rintro D σ H ⟨ρ,fp,G,Da,R,⟨n,h⟩,f⟩
 refine ⟨fun m σ' H' => ∃ ρ' fp',RS X.K σ' H' ρ' fp' G∧Ext H (Fo fp) H' (Fo fp')∧qZ P σ σ'∧Bh tc tb Da m ρ',⟨n,ρ,fp,R,Ext.refl, .refl,h⟩, ?_⟩
 rintro m σ2 H2 ⟨ρ2,fp2,R2,x2,p2,h2⟩
 cases m with
 | zero=>exact h2.elim
 | succ m =>
  refine ⟨ρ2,fp2,G,_,R2,h2,fun b H3 ρ3 fp3 R3 x3 h3 => ?_⟩
  have x23:=x2.trans x3
  cases b with
  | false=>exact iteF (f.nx σ2 H3 ρ3 fp3 R3 x23 p2 (by simpa using h3))
  | true =>
   refine iteT ⟨fun σ4 H4 => ∃ ρ4 fp4,RS X.K σ4 H4 ρ4 fp4 G∧Ext H (Fo fp) H4 (Fo fp4)∧qZ P σ σ4∧Bh tc tb Da m ρ4,fun σ4 H4 h4=>⟨m,Nat.lt_succ_self m,h4⟩,ρ3,fp3,G,_,R3,(by simpa using h3), ?_⟩
   exact ⟨fun σ5 H5 ρ5 fp5 R5 x5 p5 h5=>⟨ρ5,fp5,R5,x23.trans x5,p2.trans p5,h5⟩,fun σ5 H5 ρ5 fp5 R5 x5 p5 h5=>f.nx σ5 H5 ρ5 fp5 R5 (x23.trans x5) (p2.trans p5) h5,fun σ5 H5 ρ5 fp5 R5 x5 p5 h5=>⟨ρ5,fp5,R5,x23.trans x5,p2.trans p5,h5⟩,
    fun v o A σ5 H5 ρ5 fp5 R5 r5 d5 n5 x5 p5 h5=>f.rt v o A σ5 H5 ρ5 fp5 R5 r5 d5 n5 (x23.trans x5) (p2.trans p5) h5⟩
end
end DL
namespace DL
open PySem PySem.Spec L2
open PyProof.Rows hiding St
variable [Tbs] [Bas] {wk:Bool}
theorem Ext.addP {H H' : Hp} {F F' : Addr->Prop} (x:Ext H F H' F') (S:Addr->Prop):Ext H (fun a=>S a∨F a) H' (fun a=>S a∨F' a) where
 keep a o e n t:=x.keep a o e (fun z=>n (.inr z)) t
 tups:=x.tups
 frzs:=x.frzs
 new a z:=z.elim (fun z => .inl (.inl z)) fun z=>(x.new a z).imp .inr (fun q=>q)
 dom:=x.dom
 tabs:=x.tabs
 exts:=x.exts
section
variable {K:PySem.W.Frag} {σ : St} {H H1 H' : Hp} {fp fp1:Nat->List Addr} {ρ : aM} {v:V} {o:O} {j:Nat} {A B B' G:List Addr}
theorem RS.thru (R:RS K σ H ρ fp (B++G)) (x:Ext H (· ∈ B) H' (· ∈ B')) (hG : ∀ a∈G,a∉B) (hi : ∀ a∈B', ∃ u,H' a=some u) (g : ∀ a∈Bas.G0,a∈G:=by (intro a z;repeat first | exact RS.g0 (by assumption) a z | (refine (?_ : ∀ a∈Bas.G0,a∈_) a z;assumption) | refine List.mem_append_right _ ?_)):RS K σ H' ρ fp (B'++G):=by
  have nf : ∀ a,Fo fp a->a∉B:=fun a z m=>R.gf a (List.mem_append_left _ m) z
  have up : ∀ a u,H a=some u -> ∃ u',H' a=some u':=fun a u e=>by
    cases q:H' a with
    | some u'=>exact ⟨u',rfl⟩
    | none=>rw [x.dom a q] at e;cases e
  refine ⟨⟨fun i u h => ?_,R.non,R.dj,R.nd,fun a m z => ?_,fun a m=>(List.mem_append.mp m).elim (hi a) fun m=>let ⟨u,e⟩:=R.gi a (List.mem_append_right _ m);up a u e,R.len,x.tabs R.tb⟩,
    R.bs.trans ((x.addP (fun a=>Or1 (Fo fp) (B++G) a∧a∉Bas.G0)).weak (fun a z=>z.elim (fun z=>z) fun m=>⟨.inr (List.mem_append_left _ m),fun z=>hG a (g a z) m⟩)
      fun a z=>z.1.elim (fun q => .inl ⟨.inl q,z.2⟩) fun m=>(List.mem_append.mp m).elim .inr fun m => .inl ⟨.inr (List.mem_append_right _ m),z.2⟩),fun a m=>List.mem_append_right _ (g a m)⟩
  · obtain ⟨w,hw,r⟩:=R.ex i u h
    have w1 : ∀ a,(Or1 (Fo fp) G a∨a∈B)->Or1 (Fo fp) (B++G) a:=fun a z=>z.elim (fun z=>z.imp (fun q=>q) (List.mem_append_right _)) fun m => .inr (List.mem_append_left _ m)
    have w2 : ∀ a,Or1 (Fo fp) (B'++G) a->(Or1 (Fo fp) G a∨a∈B'):=fun a z=>z.elim (fun z => .inl (.inl z)) fun m=>(List.mem_append.mp m).elim .inr fun m => .inl (.inr m)
    exact ⟨w,hw,r.imp (fun v t q=>((q.weak w1).ext (x.addP (Or1 (Fo fp) G))).weak w2) (fun a m u e t=>x.keep a u e (nf a ⟨i,m⟩) t) (fun v t q=>((q.weak w1).ext (x.addP (Or1 (Fo fp) G))).weak w2) (fun v t q=>((q.weak w1).ext (x.addP (Or1 (Fo fp) G))).weak w2) (fun a o u e=>x.frzs a o _ e) (fun v t q=>((q.weak w1).ext (x.addP (Or1 (Fo fp) G))).weak w2) (fun _ _ q=>q.keepE x) (fun v t q=>((q.weak w1).ext (x.addP (Or1 (Fo fp) G))).weak w2)⟩
  · rcases List.mem_append.mp m with m | m
    · rcases x.new a m with k | k
      · exact R.gf a (List.mem_append_left _ k) z
      · obtain ⟨u,e,_⟩:=R.there a z
        rw [k] at e;cases e
    · exact R.gf a (List.mem_append_right _ m) z
theorem RS.write {D:Addr} {u:HO} (R:RS K σ H ρ fp (B++G)) (hB:B=[D]) (hD : ∃ o,H D=some o∧Mu (some o)) (hG:D∉G) (g : ∀ a∈Bas.G0,a∈G:=by (intro a z;repeat first | exact RS.g0 (by assumption) a z | (refine (?_ : ∀ a∈Bas.G0,a∈_) a z;assumption) | refine List.mem_append_right _ ?_)):RS K σ (L2.upd H D u) ρ fp (B++G):=by
 subst hB
 obtain ⟨o,e,mu⟩:=hD
 refine R.thru ⟨fun a u h n _=>by rw [upd_ne fun z=>n (by rw [z];exact List.mem_singleton.mpr rfl)];exact h,fun a xs h => ?_,fun a u w h => ?_,fun a m => .inl m,fun a h => ?_,fun t=>DL.Tabs.upd t e mu,fun a φ h m=>by rw [upd_ne fun q=>by subst q;rw [e] at h;cases h;exact m mu];exact h⟩ (fun a m z=>hG (by rw [← List.mem_singleton.mp z];exact m)) fun a m=>⟨u,by rw [List.mem_singleton.mp m];exact upd_same⟩
 ·by_cases q:a=D
  ·subst q;rw [e] at h;cases h;exact mu.elim
  ·rw [upd_ne q];exact h
 ·by_cases q:a=D
  ·subst q;rw [e] at h;cases h;exact mu.elim
  ·rw [upd_ne q];exact h
 ·by_cases q:a=D
  ·subst q;rw [upd_same] at h;cases h
  ·rw [upd_ne q] at h;exact h
theorem fW {H:Hp} {D:Addr} {u o:HO} (e:H D=some o) (mu:Mu (some o)) {F F' : Addr->Prop} (hF:F D) (w : ∀ a,F' a->F a):Ext H F (upd H D u) F' where
 keep a u h n _:=by rw [upd_ne fun z=>n (by rw [z];exact hF)];exact h
 tabs t:=DL.Tabs.upd t e mu
 exts a φ h m:=by rw [upd_ne fun q=>by subst q;rw [e] at h;cases h;exact m mu];exact h
 tups a xs h:=by
  by_cases q:a=D
  ·subst q;rw [e] at h;cases h;exact mu.elim
  ·rw [upd_ne q];exact h
 frzs a u w h:=by
  by_cases q:a=D
  ·subst q;rw [e] at h;cases h;exact mu.elim
  ·rw [upd_ne q];exact h
 new a z := .inl (w a z)
 dom a h:=by
  by_cases q:a=D
  ·subst q;rw [upd_same] at h;cases h
  ·rw [upd_ne q] at h;exact h
end
def dw (ρ : aM):List Nat->aM
 | []=>ρ
 | v :: vs=>(dw ρ vs).set v none
section
variable {K:PySem.W.Frag} {σ σ' : St} {H:Hp} {fp:Nat->List Addr} {ρ : aM} {G:List Addr}
theorem RS.wipe : ∀ (vs:List Nat) {fp:Nat->List Addr},RS K σ H ρ fp G -> ∃ fp',RS K (L2.wipe σ vs) H (dw ρ vs) fp' G ∧ ∀ a,Fo fp' a->Fo fp a
 | [],fp,R=>⟨fp,R,fun _ z=>z⟩
 | v :: vs,fp,R=>by
  obtain ⟨fp1,R1,i1⟩:=RS.wipe vs R
  exact ⟨_,R1.drop (j:=v) (fun i w h e=>by unfold L2.wipe;rw [List.getElem?_set_ne (Ne.symm h)];exact e) (by rw [wipe_length,wipe_length]),fun a z=>i1 a (z.set.elim (fun q=>q) fun m=>(List.not_mem_nil m).elim)⟩
theorem Ec : ∀ (vs:List Nat),(∀ (j:Nat),j∉vs->σ'[j]? = σ[j]?)->σ'.length=σ.length->wipe σ' vs=wipe σ vs:=by
 intro vs h hl
 refine List.ext_getElem? fun i => ?_
 by_cases m:i∈vs
 ·have at_ : ∀ (τ : St) (ws:List Nat),i∈ws->(wipe τ ws)[i]? = if i<τ.length then some none else none:=by
   intro τ ws
   induction ws with
   | nil=>intro m;cases m
   | cons w ws ih =>
    intro m
    unfold wipe
    by_cases q:w=i
    ·subst q
     split
     ·rename_i k;exact List.getElem?_set_self (by rw [wipe_length];exact k)
     ·rename_i k;exact List.getElem?_eq_none (by simp [wipe_length];omega)
    ·rw [List.getElem?_set_ne q]
     exact ih ((List.mem_cons.mp m).resolve_left fun z=>q z.symm)
  rw [at_ _ _ m,at_ _ _ m,hl]
 ·rw [wipe_out m,wipe_out m]
  exact h i m
theorem yq (vs:List Nat):wipe (wipe σ vs) vs=wipe σ vs:=Ec vs (fun j m=>wipe_out m) (wipe_length σ vs)
theorem RS.unwipe {vs:List Nat} (R:RS K (L2.wipe σ vs) H ρ fp G):RS K σ H ρ fp G:=R.vals (fun i o v _ h=>(wipe_some h).1) (wipe_length σ vs).symm
end
structure BXs (X:Cx) (ifs:List Expr) (t:BT):Prop where
 pts:PTs X ifs (LT X.K t)
def rY:BT:=fun ρ Q=>Q true ρ
theorem PTs.imp {X:Cx} {ifs:List Expr} {t t' : TT} (h:PTs X ifs t) (w : ∀ σ H Q,t' σ H Q->t σ H Q):PTs X ifs t':=⟨fun pins s σ H Q I q=>h.run pins s σ H Q I (w σ H Q q)⟩
theorem oG {X:Cx}:BXs X [] rY:=by
 refine ⟨PTs.imp pts_nil ?_⟩
 rintro σ H Q ⟨ρ,fp,G,Qa,R,h,f⟩
 exact f true H ρ fp R Ext.refl h
theorem Ms {X:Cx} {c:Expr} {t:BT} (h:TX X c t):BXs X [c] t:=⟨pts_one h.pt⟩
def iQ (g:GT) (tt:BT) (te:XT) (vs:List Nat):List T->List T->aM->(List T->aM->Prop)->Prop
 | [],acc,ρ,Q=>Q acc ρ
 | t :: ts,acc,ρ,Q=>g t ρ fun ρ1=>tt ρ1 fun b ρ2=>if b=true then te ρ2 fun p ρ3=>fV p ρ3 fun y ρ4=>iQ g tt te vs ts (acc++[y]) (dw ρ4 vs) Q else iQ g tt te vs ts acc (dw ρ2 vs) Q
def eZ (ti:IT) (g:GT) (tt:BT) (te:XT) (vs:List Nat):XT:=fun ρ Q=>ti ρ fun ts ρ1=>iQ g tt te vs ts [] (dw ρ1 vs) fun acc ρ2=>Q (.val (.lst acc)) ρ2
theorem Yz {K:PySem.W.Frag} {ti:IT} {g:GT} {tt:BT} {te:XT} {vs:List Nat} {σ : St} {H:Hp} {Q:VK} (h:LX K (eZ ti g tt te vs) σ H Q):tLc (LI wk K ti) (LG wk K (fun j => !vs.contains j) g) (LT K tt) (LX K te) vs σ H Q:=by
 obtain ⟨ρ,fp,G,Qa,R,h,fin⟩:=h
 refine ⟨ρ,fp,G,_,R,h,fun ts J H1 ρ1 fp1 R1 j1 hsz x1 h1 => ?_⟩
 intro D hD
 have nD:D∉G:=fun m=>by obtain ⟨u,e⟩:=R1.gi D m;rw [hD] at e;cases e
 obtain ⟨fp0,R0,i0⟩:=R1.wipe vs
 have R0' : RS K (wipe σ vs) (upd H1 D (.lst [])) (dw ρ1 vs) fp0 ([D]++G):=R0.new (fL.upd hD) (fun a m=>by rw [List.mem_singleton.mp m];exact hD) fun a m=>⟨.lst [],by rw [List.mem_singleton.mp m];exact upd_same⟩
 have x0:Ext H1 (Fo fp1) (upd H1 D (.lst [])) (Or1 (Fo fp0) [D]):=((fL.upd hD).extA (F:=Fo fp1) (A:=[D]) fun a m=>by rw [List.mem_singleton.mp m];exact hD).weak (fun _ z=>z) fun a z=>z.imp (i0 a) fun m=>m
 refine ⟨fun i m H' => ∃ ρ' fp' va acc,m=ts.length - i∧i≤ts.length∧RS K (wipe σ vs) H' ρ' fp' ([D]++G)∧H' D=some (.lst va)∧RPs K H' (Or1 (Fo fp') ([D]++G)) va acc∧acc.length≤i∧Ext H1 (Fo fp1) H' (Or1 (Fo fp') [D]) ∧
  iQ g tt te vs (ts.drop i) acc ρ' (fun acc ρ2=>Qa (.val (.lst acc)) ρ2),⟨_,_,fp0, [], [],rfl,Nat.zero_le _,R0',upd_same, .nil,Nat.le_refl _,x0,h1⟩, ?_⟩
 rintro i m H2 ⟨ρ2,fp2,va,acc,rfl,hi,R2,hD2,ra,la,x2,h2⟩
 obtain ⟨j2,stop⟩:=j1 H2 _ x2
 cases hd:ts.drop i with
 | nil =>
  have e:i=ts.length:=by
   have:=congrArg List.length hd
   simp at this;omega
  subst e
  rw [hd] at h2
  refine .inl ⟨stop,fin (.ref D) (.val (.lst acc)) [D] H2 ρ2 fp2 R2.unwipe ⟨⟨D,va,rfl,rfl,hD2,ra⟩,by simp,fun a m=>by rw [List.mem_singleton.mp m];exact nD⟩ (x1.trans x2) h2⟩
 | cons t r =>
  obtain ⟨e1,e2,e3⟩:=Dz hd
  rw [hd] at h2
  obtain ⟨go,yl⟩:=j2 i t e1
  refine .inr ⟨go,fun H3 => ∃ ρ3 fp3 va acc,RS K (wipe σ vs) H3 ρ3 fp3 ([D]++G)∧H3 D=some (.lst va)∧RPs K H3 (Or1 (Fo fp3) ([D]++G)) va acc∧acc.length≤i+1∧Ext H1 (Fo fp1) H3 (Or1 (Fo fp3) [D])∧iQ g tt te vs r acc ρ3 (fun acc ρ2=>Qa (.val (.lst acc)) ρ2),
   fun H3 ⟨ρ3,fp3,va,acc,R3,d3,r3,l3,x3,h3⟩=>⟨_,by omega,ρ3,fp3,va,acc,rfl,e3,R3,d3,r3,l3,x3,by rw [e2];exact h3⟩,fun x H3 y => ?_⟩
  obtain ⟨pr,rp⟩:=yl x H3 y
  have R3:=R2.pres pr
  have d3:=pr D _ hD2
  have ra3:=RPs.ext (F:=Or1 (Fo fp2) ([D]++G)) pr.ext ra
  have x3:Ext H1 (Fo fp1) H3 (Or1 (Fo fp2) [D]):=x2.trans (pr.ext)
  refine ⟨ρ2,fp2, [D]++G,_,t,R3,rp.weak fun a z=>Or1.app.mp z,h2,fun σ4 ρ4 fp4 R4 i4 p4 l4 h4 => ?_⟩
  have w4:wipe σ4 vs=wipe σ vs:=by
   have:=Ec (σ:=wipe σ vs) (σ':=σ4) vs (fun j m=>p4 j (by simp [m])) l4
   rw [this,yq]
  have x4:Ext H1 (Fo fp1) H3 (Or1 (Fo fp4) [D]):=x3.weak (fun _ z=>z) fun a z=>z.imp (i4 a) fun m=>m
  refine ⟨w4,ρ4,fp4, [D]++G,_,R4,h4,fun b H5 ρ5 fp5 R5 x5 h5 => ?_⟩
  have kD : ∀ {H H' : Hp} {f f' : Nat->List Addr} {ρ : aM} {σ : St} {A:List Addr},RS K σ H ρ f ([D]++G)->Ext H (Fo f) H' (Or1 (Fo f') A) -> ∀ xs,H D=some (.lst xs)->H' D=some (.lst xs):=fun R x u e=>x.keep D _ e (R.gf D (List.mem_append_left _ (List.mem_singleton.mpr rfl))) Bc
  have d5:=kD (A:=[]) R4 (x5.weak (fun _ z=>z) fun a z=>z.elim (fun q=>q) fun m=>(List.not_mem_nil m).elim) _ d3
  have ra5:RPs K H5 (Or1 (Fo fp5) ([D]++G)) va acc:=RPs.ext (x5.addG ([D]++G)) (RPs.weak ra3 fun a z=>z.imp (i4 a) fun m=>m)
  have x15:Ext H1 (Fo fp1) H5 (Or1 (Fo fp5) [D]):=x4.trans (x5.addG [D])
  cases b with
  | false =>
   obtain ⟨fp6,R6,i6⟩:=R5.wipe vs
   rw [w4] at R6
   exact iteF ⟨_,fp6,va,acc,R6,d5,RPs.weak ra5 fun a z=>z.imp (i6 a) fun m=>m,Nat.le_succ_of_le la,x15.weak (fun _ z=>z) fun a z=>z.imp (i6 a) fun m=>m,by simpa using h5⟩
  | true =>
   refine iteT ⟨ρ5,fp5, [D]++G,_,R5,(by simpa using h5),fun v p A H6 ρ6 fp6 R6 r6 x6 h6 => ?_⟩
   obtain ⟨yt,ρ7,fp7,R7,r7,i7,h7⟩:=jR R6 r6 h6
   have d6:=kD R5 x6 _ d5
   have x6' : Ext H5 (Fo fp5) H6 (Fo fp7):=x6.or.weak (fun _ z=>z) i7
   have ra6:RPs K H6 (Or1 (Fo fp7) ([D]++G)) va acc:=RPs.ext (x6'.addG ([D]++G)) ra5
   have x16:Ext H1 (Fo fp1) H6 (Or1 (Fo fp7) [D]):=x15.trans (x6'.addG [D])
   refine ⟨va,d6,by rw [Paired.len ra6];omega, ?_⟩
   have R8:RS K σ4 (upd H6 D (.lst (va++[v]))) ρ7 fp7 ([D]++G):=RS.write R7 rfl ⟨_,d6,trivial⟩ nD
   have ux:Ext H6 (Or1 (Fo fp7) ([D]++G)) (upd H6 D (.lst (va++[v]))) (Or1 (Fo fp7) ([D]++G)):=fW d6 trivial (.inr (List.mem_append_left _ (List.mem_singleton.mpr rfl))) fun _ z=>z
   obtain ⟨fp9,R9,i9⟩:=R8.wipe vs
   rw [w4] at R9
   refine ⟨_,fp9,va++[v],acc++[yt],R9,upd_same,RPs.weak (RPs.ext ux (Paired.app ra6 (.cons r7 .nil))) fun a z=>z.imp (i9 a) fun m=>m,by simp;omega, ?_,h7⟩
   exact x16.trans (fW d6 trivial (.inr (List.mem_singleton.mpr rfl)) fun a z=>z.imp (i9 a) fun m=>m)
section
variable {X:Cx} {elt tg iter:Expr} {ifs:List Expr} {scope:Scope} {own:List (Str×Nat)} {pos:Pos} {ti:IT} {g:GT} {tt:BT} {te:XT}
theorem Mv (hc:X.calm=true) (hN:X.N.Nodup) (hi:IX wk X tg iter ti) (ok:BlkOk X.N X.env.scope scope own)
  (hg : ∀ (s:Shared) (H:Hp) (C:Addr) (cl:List (Str×Addr)) (fp:List Addr),GX wk (X.blk s H scope (compEnvC scope cl C X.env) fp) (fun j => !(own.map (·.2)).contains j) tg g)
  (ht : ∀ (s:Shared) (H:Hp) (C:Addr) (cl:List (Str×Addr)) (fp:List Addr),BXs (X.blk s H scope (compEnvC scope cl C X.env) fp) ifs tt)
  (he : ∀ (s:Shared) (H:Hp) (C:Addr) (cl:List (Str×Addr)) (fp:List Addr),EX (X.blk s H scope (compEnvC scope cl C X.env) fp) elt te) (hs : ∀ x,foldedSetIterable iter X.env x=pure x:=by intro _;rfl) :
  EX X (.ListComp elt [⟨tg,iter,ifs,0⟩] scope pos) (eZ ti g tt te (own.map (·.2))) :=
 ⟨PE.imp (pe_lc (te:=LX X.K te) (tt:=LT X.K tt) (g:=LG wk X.K _ g) hc hN hi.pi ok (fun s H C cl fp=>(hg s H C cl fp).pg) (fun s H C cl fp=>(ht s H C cl fp).pts) (fun s H C cl fp=>(he s H C cl fp).pe) hs) fun _ _ _ h=>Yz h⟩
theorem Ig {P:Nat->Bool} {y:Str} {py spos:Pos} (i:Nat) (hc:X.calm=true) (hN:X.N.Nodup) (hy:X.N[i]? = some y) (hyl:X.env.scope.names.lookup y=some .local)
  (hsw:swapsWith (.ListComp elt [⟨tg,iter,ifs,0⟩] scope pos) (some (.Name y py)) spos.line X.env=pure true) (hi:IX wk X tg iter ti) (ok:BlkOk X.N X.env.scope scope own)
  (hg : ∀ (s:Shared) (H:Hp) (C:Addr) (cl:List (Str×Addr)) (fp:List Addr),GX wk (X.blk s H scope (compEnvC scope cl C X.env) fp) (fun j => !(own.map (·.2)).contains j) tg g)
  (ht : ∀ (s:Shared) (H:Hp) (C:Addr) (cl:List (Str×Addr)) (fp:List Addr),BXs (X.blk s H scope (compEnvC scope cl C X.env) fp) ifs tt)
  (he : ∀ (s:Shared) (H:Hp) (C:Addr) (cl:List (Str×Addr)) (fp:List Addr),EX (X.blk s H scope (compEnvC scope cl C X.env) fp) elt te) (hp:P i=false:=by rfl) (hs : ∀ x,foldedSetIterable iter X.env x=pure x:=by intro _;rfl) :
  SX X P (.Assign [.Name y py] (.ListComp elt [⟨tg,iter,ifs,0⟩] scope pos) spos) (jT i (eZ ti g tt te (own.map (·.2)))):=by
 refine ⟨PS.imp (ps_setLc (te:=LX X.K te) (tt:=LT X.K tt) (g:=LG wk X.K _ g) hc hN hy hyl hsw hi.pi ok (fun s H C cl fp=>(hg s H C cl fp).pg) (fun s H C cl fp=>(ht s H C cl fp).pts) (fun s H C cl fp=>(he s H C cl fp).pe) hs) fun D σ H h => ?_⟩
 have:=TJ hp h
 exact Yz this
end
end DL
namespace DL
open PySem PySem.Spec L2
open PyProof.Rows hiding St
variable [Tbs] [Bas]
abbrev bU:=List O->(O->List O->Prop)->Prop
def dI:List Bool->Nat->aM->Option (List O)
 | [],_,_=>some []
 | false :: fl,i,ρ=>dI fl (i+1) ρ
 | true :: fl,i,ρ=>match ρ.at i,dI fl (i+1) ρ with
  | some o,some os=>some (o :: os)
  | _,_=>none
def uR:List Bool->List O->List O->List O
 | true :: fl,_ :: os,u :: us=>u :: uR fl os us
 | false :: fl,o :: os,us=>o :: uR fl os us
 | _,os,_=>os
def ASp (K:PySem.W.Frag) (fl:List Bool) (spec:bU):Sp:=fun vs H Q _ => ∃ os fp G Qa,vs.length=fl.length∧RS0 K (vs.map some) H (os.map some) fp G∧(∀ i,fl.getD i false=false->fp i=[])∧spec os Qa ∧
 ∀ v o A outs H' fp',RS0 K (vs.map some) H' ((uR fl os outs).map some) fp' (A++G)->(∀ i,fl.getD i false=false->fp' i=[])->RO K H' (Or1 (Fo fp') (A++G)) v o A->A.Nodup->(∀ a∈A,a∉G)->Ext H (Fo fp) H' (Or1 (Fo fp') A) ->
  outs.length=(fl.filter id).length->Qa o outs->Q v H'
inductive RCs (K:PySem.W.Frag) (H:Hp) (F:Addr->Prop):List V->List O->List (List Addr)->Prop
 | nil:RCs K H F [] [] []
 | cons {v:V} {o:O} {B:List Addr} {vs:List V} {os:List O} {Bs:List (List Addr)}:RO K H F v o B->RCs K H F vs os Bs->RCs K H F (v :: vs) (o :: os) (B :: Bs)
inductive W6 (σ : St):List Bool->List V->List (Option Nat)->Prop
 | nil:W6 σ [] [] []
 | no {v:V} {fl:List Bool} {vs:List V} {js:List (Option Nat)}:W6 σ fl vs js->W6 σ (false :: fl) (v :: vs) js
 | own {v:V} {fl:List Bool} {vs:List V} {js:List (Option Nat)}:W6 σ fl vs js->W6 σ (true :: fl) (v :: vs) (none :: js)
 | slot {v:V} {j:Nat} {fl:List Bool} {vs:List V} {js:List (Option Nat)} : σ[j]? = some (some v)->j<σ.length->W6 σ fl vs js->W6 σ (true :: fl) (v :: vs) (some j :: js)
def rE:List Bool->List Opd->aM->(List O->List (Option Nat)->aM->Prop)->Prop
 | [], [],ρ,Q=>Q [] [] ρ
 | true :: fl, .val o :: ps,ρ,Q=>rE fl ps ρ fun os js ρ'=>Q (o :: os) (none :: js) ρ'
 | true :: fl, .slot j :: ps,ρ,Q=>match ρ[j]? with
  | some (some o)=>rE fl ps (ρ.set j none) fun os js ρ'=>Q (o :: os) (some j :: js) ρ'
  | _=>False
 | false :: fl,p :: ps,ρ,Q=>m7 p ρ fun o ρ1=>rE fl ps ρ1 fun os js ρ'=>Q (o :: os) js ρ'
 | _,_,_,_=>False
def rG:List (Option Nat)->List O->aM->aM
 | some j :: js,o :: os,ρ=>rG js os (ρ.set j (some o))
 | none :: js,_ :: os,ρ=>rG js os ρ
 | _,_,ρ=>ρ
def aV (fl:List Bool) (spec:bU) (ts:XTs):XT:=fun ρ Q=>ts ρ fun ps ρ1=>rE fl ps ρ1 fun os js ρ2=>spec os fun o outs=>Q (.val o) (rG js outs ρ2)
section
variable {K:PySem.W.Frag} {σ : St} {H H1 H' : Hp} {fp:Nat->List Addr} {ρ : aM} {v:V} {p:Opd} {o:O} {j:Nat} {A B G:List Addr} {F F' : Addr->Prop}
theorem RCs.weak (w : ∀ a,F' a->F a) {vs:List V} {os:List O} {Bs:List (List Addr)} (h:RCs K H F vs os Bs):RCs K H F' vs os Bs:=by
 induction h with
 | nil=>exact .nil
 | cons r _ ih=>exact .cons (r.weak w) ih
theorem RCs.len {vs:List V} {os:List O} {Bs:List (List Addr)} (h:RCs K H F vs os Bs):vs.length=os.length∧Bs.length=os.length:=by
  induction h with
  | nil=>exact ⟨rfl,rfl⟩
  | cons _ _ ih=>exact ⟨congrArg (· + 1) ih.1,congrArg (· + 1) ih.2⟩
theorem RCs.at {vs:List V} {os:List O} {Bs:List (List Addr)} (h:RCs K H F vs os Bs) : ∀ (i:Nat) (o:O),os[i]? = some o -> ∃ v,vs[i]? = some v∧RO K H F v o (Bs.getD i []):=by
 induction h with
 | nil=>intro i o e;simp at e
 | cons r _ ih =>
  intro i o e
  cases i with
  | zero=>simp at e;subst e;exact ⟨_,rfl,r⟩
  | succ i =>
   obtain ⟨v,h1,h2⟩:=ih i o (by simpa using e)
   exact ⟨v,by simpa using h1,by simpa using h2⟩
theorem zr {ρ0:aM} {vs:List V} {ps:List Opd} (rr:nH K σ H F ρ0 vs ps A) : ∀ {fl:List Bool} {ρ : aM} {fp:Nat->List Addr} {G:List Addr} {Q:List O->List (Option Nat)->aM->Prop},RS K σ H ρ fp (A++G)->(∀ a∈Bas.G0,a∈G)->(∀ a,Or1 (Fo fp) (A++G) a->F a) ->
    (∀ a∈A,a∉G)->A.Nodup->rE fl ps ρ Q ->
    ∃ os js ρ' fp' Bs,RS K σ H ρ' fp' (Bs.flatten++G)∧RCs K H (Or1 (Fo fp') (Bs.flatten++G)) vs os Bs∧Bs.flatten.Nodup∧(∀ a∈Bs.flatten,a∉G)∧(∀ a,Fo fp' a∨a∈Bs.flatten->Fo fp a∨a∈A)∧W6 σ fl vs js∧(∀ i,fl.getD i false=false->Bs.getD i []=[])∧vs.length=fl.length∧Q os js ρ':=by
  induction rr with
  | nil =>
    intro fl ρ fp G Q R g w hA d h
    cases fl with
    | nil=>exact ⟨[], [],ρ,fp, [],R, .nil, .nil,pZ,fun a z=>z.imp (fun q=>q) fun m=>m, .nil,fun i _=>by simp,rfl,h⟩
    | cons f fl=>cases f<;>exact h.elim
  | @val v o B A vs ps r rr ih =>
    intro fl ρ fp G Q R g w hA d h
    obtain ⟨dB,dA,dBA⟩:=List.nodup_append.mp d
    cases fl with
    | nil=>exact h.elim
    | cons f fl =>
      cases f with
      | true =>
        have R1:RS K σ H ρ fp (A++(B++G)):=R.sub fun a m=>by simp only [List.mem_append] at m ⊢; rcases m with m | m | m<;>simp [m]
        obtain ⟨os,js,ρ',fp',Bs,R2,r2,d2,g2,i2,l2,z2,n2,h2⟩:=ih (G:=B++G) R1 (fun a z=>List.mem_append_right _ (g a z)) (fun a z=>w a (z.imp (fun q=>q) fun m=>by simp only [List.mem_append] at m ⊢; rcases m with m | m | m<;>simp [m])) (fun a m z=>(List.mem_append.mp z).elim (fun z=>dBA a z a m rfl) (hA a (List.mem_append_right _ m))) dA h
        have sub : ∀ a,a∈(B :: Bs).flatten++G->a∈Bs.flatten++(B++G):=fun a m=>by simp only [List.flatten_cons,List.mem_append] at m ⊢; rcases m with (m | m) | m<;>simp [m]
        refine ⟨_,_,ρ',fp',B :: Bs,R2.sub sub, .cons ?_ (r2.weak fun a z=>z.imp (fun q=>q) (sub a)), ?_,fun a m => ?_,fun a z => ?_, .own l2,fun i hi => ?_,congrArg (· + 1) n2,h2⟩
        · refine r.weak fun a z=>w a ?_
          rcases z with z | z
          · exact (i2 a (.inl z)).imp (fun q=>q) fun m=>List.mem_append_left _ (List.mem_append_right _ m)
          · simp only [List.flatten_cons,List.mem_append] at z
            rcases z with (z | z) | z
            · exact .inr (by simp [z])
            · exact (i2 a (.inr z)).imp (fun q=>q) fun m=>by simp [m]
            · exact .inr (by simp [z])
        · simp only [List.flatten_cons]
          exact List.nodup_append.mpr ⟨dB,d2,fun a m b n e=>g2 b n (e▸List.mem_append_left _ m)⟩
        · simp only [List.flatten_cons,List.mem_append] at m
          rcases m with m | m
          · exact hA a (List.mem_append_left _ m)
          · exact fun z=>g2 a m (List.mem_append_right _ z)
        · simp only [List.flatten_cons,List.mem_append] at z ⊢
          rcases z with z | z | z
          · exact (i2 a (.inl z)).imp (fun q=>q) .inr
          · exact .inr (.inl z)
          · exact (i2 a (.inr z)).imp (fun q=>q) .inr
        · cases i with
          | zero=>simp at hi
          | succ i=>simpa using z2 i (by simpa using hi)
      | false =>
        have R1:RS K σ H ρ fp (A++G):=R.sub fun a m=>by simp only [List.mem_append] at m ⊢; rcases m with m | m<;>simp [m]
        obtain ⟨os,js,ρ',fp',Bs,R2,r2,d2,g2,i2,l2,z2,n2,h2⟩:=ih R1 g (fun a z=>w a (z.imp (fun q=>q) fun m=>by simp only [List.mem_append] at m ⊢; rcases m with m | m<;>simp [m])) (fun a m=>hA a (List.mem_append_right _ m)) dA (show rE fl ps ρ _ from h)
        refine ⟨_,_,ρ',fp', [] :: Bs,R2, .cons ?_ r2,d2,g2,fun a z=>(i2 a z).imp (fun q=>q) (List.mem_append_right _), .no l2,fun i hi => ?_,congrArg (· + 1) n2,h2⟩
        · refine r.alias (fun a z=>w a ?_) fun a m z => ?_
          · rcases z with z | z
            · exact (i2 a (.inl z)).imp (fun q=>q) fun m=>by simp [m]
            · simp only [List.flatten_cons,List.nil_append,List.mem_append] at z
              rcases z with z | z
              · exact (i2 a (.inr z)).imp (fun q=>q) fun m=>by simp [m]
              · exact .inr (by simp [z])
          · have nB : ¬ (Fo fp a∨a∈A):=fun z=>z.elim (R.gf a (by simp [m])) fun z=>dBA a m a z rfl
            rcases z with z | z
            · exact nB (i2 a (.inl z))
            · simp only [List.flatten_cons,List.nil_append,List.mem_append] at z
              rcases z with z | z
              · exact nB (i2 a (.inr z))
              · exact hA a (List.mem_append_left _ m) z
        · cases i with
          | zero=>rfl
          | succ i=>simpa using z2 i (by simpa using hi)
  | @slot v j A vs ps hv hs rr ih =>
    intro fl ρ fp G Q R g w hA d h
    have hjl:j<σ.length:=(List.getElem?_eq_some_iff.mp hv).1
    cases fl with
    | nil=>exact h.elim
    | cons f fl =>
      cases f with
      | true =>
        simp only [rE] at h
        split at h
        · rename_i o e
          obtain ⟨R1,r1⟩:=R.move e hv
          have dl : ∀ a,Fo (bz fp j []) a->Fo fp a:=fun a z=>z.set.elim (fun q=>q) fun m=>(List.not_mem_nil m).elim
          have R1' : RS K σ H (ρ.set j none) (bz fp j []) (A++(fp j++G)):=R1.sub fun a m=>by simp only [List.mem_append] at m ⊢; rcases m with m | m | m<;>simp [m]
          obtain ⟨os,js,ρ',fp',Bs,R2,r2,d2,g2,i2,l2,z2,n2,h2⟩:=ih (G:=fp j++G) R1' (fun a z=>List.mem_append_right _ (g a z)) (fun a z=>w a (by
            rcases z with z | z
            · exact .inl (dl a z)
            · simp only [List.mem_append] at z
              rcases z with z | z | z
              · exact .inr (by simp [z])
              · exact .inl ⟨j,z⟩
              · exact .inr (by simp [z]))) (fun a m z=>(List.mem_append.mp z).elim (fun z=>R.gf a (List.mem_append_left _ m) ⟨j,z⟩) (hA a m)) d h
          have sub : ∀ a,a∈(fp j :: Bs).flatten++G->a∈Bs.flatten++(fp j++G):=fun a m=>by simp only [List.flatten_cons,List.mem_append] at m ⊢; rcases m with (m | m) | m<;>simp [m]
          refine ⟨_,_,ρ',fp',fp j :: Bs,R2.sub sub, .cons ?_ (r2.weak fun a z=>z.imp (fun q=>q) (sub a)), ?_,fun a m => ?_,fun a z => ?_, .slot hv hjl l2,fun i hi => ?_,congrArg (· + 1) n2,h2⟩
          · refine r1.weak fun a z => ?_
            rcases z with z | z
            · rcases i2 a (.inl z) with y | y
              · exact .inl y
              · exact .inr (by simp [y])
            · simp only [List.flatten_cons,List.mem_append] at z
              rcases z with (z | z) | z
              · exact .inr (by simp [z])
              · rcases i2 a (.inr z) with y | y
                · exact .inl y
                · exact .inr (by simp [y])
              · exact .inr (by simp [z])
          · simp only [List.flatten_cons]
            exact List.nodup_append.mpr ⟨R.nd j,d2,fun a m b n e=>g2 b n (e▸List.mem_append_left _ m)⟩
          · simp only [List.flatten_cons,List.mem_append] at m
            rcases m with m | m
            · exact fun z=>R.gf a (List.mem_append_right _ z) ⟨j,m⟩
            · exact fun z=>g2 a m (List.mem_append_right _ z)
          · simp only [List.flatten_cons,List.mem_append] at z ⊢
            rcases z with z | z | z
            · exact (i2 a (.inl z)).imp (dl a) fun m=>m
            · exact .inl ⟨j,z⟩
            · exact (i2 a (.inr z)).imp (dl a) fun m=>m
          · cases i with
            | zero=>simp at hi
            | succ i=>simpa using z2 i (by simpa using hi)
        · exact h.elim
      | false =>
        simp only [rE,m7] at h
        split at h
        · rename_i o e
          obtain ⟨R1,q1⟩:=R.freeze e
          have dl : ∀ a,Fo (bz fp j []) a->Fo fp a:=fun a z=>z.set.elim (fun q=>q) fun m=>(List.not_mem_nil m).elim
          obtain ⟨os,js,ρ',fp',Bs,R2,r2,d2,g2,i2,l2,z2,n2,h2⟩:=ih R1 g (fun a z=>w a (z.imp (dl a) fun m=>m)) hA d h
          refine ⟨_,_,ρ',fp', [] :: Bs,R2, .cons ?_ r2,d2,g2,fun a z=>(i2 a z).imp (dl a) fun m=>m, .no l2,fun i hi => ?_,congrArg (· + 1) n2,h2⟩
          · refine (q1 _ hv).weak fun a z => ?_
            rcases z with z | z
            · exact (i2 a (.inl z)).imp (fun q=>q) fun m=>by simp [m]
            · simp only [List.flatten_cons,List.nil_append,List.mem_append] at z
              rcases z with z | z
              · exact (i2 a (.inr z)).imp (fun q=>q) fun m=>by simp [m]
              · exact .inr (by simp [z])
          · cases i with
            | zero=>rfl
            | succ i=>simpa using z2 i (by simpa using hi)
        · exact h.elim
theorem jU {Bs:List (List Addr)} {a:Addr}:a∈Bs.flatten ↔ ∃ i,a∈Bs.getD i []:=by
 constructor
 ·intro h
  obtain ⟨B,hB,m⟩:=List.mem_flatten.mp h
  obtain ⟨i,hi,e⟩:=List.getElem_of_mem hB
  exact ⟨i,by rw [List.getD_eq_getElem?_getD,List.getElem?_eq_getElem hi];simpa [e] using m⟩
 ·rintro ⟨i,m⟩
  rw [List.getD_eq_getElem?_getD] at m
  cases e:Bs[i]? with
  | none=>rw [e] at m;cases m
  | some B=>rw [e] at m;exact List.mem_flatten.mpr ⟨B,List.mem_of_getElem? e,m⟩
theorem TV : ∀ {Bs:List (List Addr)},Bs.flatten.Nodup->(∀ (i j:Nat) a,a∈Bs.getD i []->a∈Bs.getD j []->i=j) ∧ ∀ i:Nat,(Bs.getD i []).Nodup
  | [],_=>⟨fun i j a m=>by simp at m,fun i=>by simp⟩
  | B :: Bs,d=>by
    simp only [List.flatten_cons] at d
    obtain ⟨d1,d2,d3⟩:=List.nodup_append.mp d
    obtain ⟨h1,h2⟩:=TV d2
    refine ⟨fun i j a m n => ?_,fun i => ?_⟩
    · cases i with
      | zero =>
        cases j with
        | zero=>rfl
        | succ j=>exact absurd rfl (d3 a (by simpa using m) a (jU.mpr ⟨j,by simpa using n⟩))
      | succ i =>
        cases j with
        | zero=>exact absurd rfl (d3 a (by simpa using n) a (jU.mpr ⟨i,by simpa using m⟩))
        | succ j=>exact congrArg (· + 1) (h1 i j a (by simpa using m) (by simpa using n))
    · cases i with
      | zero=>simpa using d1
      | succ i=>simpa using h2 i
def v5 (ρ : aM) (fp:Nat->List Addr):List Addr:=(List.range ρ.length).flatMap fp
theorem RS0.all (R:RS0 K σ H ρ fp G) {a:Addr}:a∈v5 ρ fp↔Fo fp a:=by
 constructor
 ·intro h
  obtain ⟨i,_,m⟩:=List.mem_flatMap.mp h
  exact ⟨i,m⟩
 ·rintro ⟨i,m⟩
  refine List.mem_flatMap.mpr ⟨i,List.mem_range.mpr ?_,m⟩
  rcases Nat.lt_or_ge i ρ.length with q | q
  ·exact q
  ·rw [R.non i fun o e=>by rw [List.getElem?_eq_none q] at e;cases e] at m
   cases m
theorem RCs.rs {vs:List V} {os:List O} {Bs:List (List Addr)} {G' : List Addr} (R:RS K σ H ρ fp (Bs.flatten++G)) (h:RCs K H (Or1 (Fo fp) (Bs.flatten++G)) vs os Bs) (d:Bs.flatten.Nodup) (g : ∀ a∈Bs.flatten,a∉G) (hG : ∀ a,a∈G'↔Fo fp a∨a∈G) :
  RS0 K (vs.map some) H (os.map some) (fun i=>Bs.getD i []) G':=by
 obtain ⟨dj,nd⟩:=TV d
 refine ⟨fun i o e => ?_,fun i e => ?_,dj,nd,fun a m z => ?_,fun a m => ?_,by simp [h.len.1],R.tb⟩
 ·rw [List.getElem?_map] at e
  cases q:os[i]? with
  | none=>rw [q] at e;cases e
  | some o' =>
   rw [q] at e
   cases e
   obtain ⟨v,hv,r⟩:=h.at i _ q
   refine ⟨v,by rw [List.getElem?_map,hv];rfl,r.weak fun a z => ?_⟩
   rcases z with ⟨k,z⟩ | z
   ·exact .inr (List.mem_append_left _ (jU.mpr ⟨k,z⟩))
   ·exact ((hG a).mp z).imp (fun q=>q) (List.mem_append_right _)
 ·rcases Nat.lt_or_ge i os.length with q | q
  ·exact absurd (by rw [List.getElem?_map,List.getElem?_eq_getElem q];rfl) (e os[i])
  ·rw [List.getD_eq_getElem?_getD,List.getElem?_eq_none (by rw [h.len.2];exact q)];rfl
 ·have z':=jU.mpr z
  exact ((hG a).mp m).elim (R.gf a (List.mem_append_left _ z')) (g a z')
 ·exact ((hG a).mp m).elim (fun z=>let ⟨u,e,_⟩:=R.there a z;⟨u,e⟩) fun z=>R.gi a (List.mem_append_right _ z)
theorem TY {fl:List Bool} {vs:List V} {js:List (Option Nat)} (l:W6 σ fl vs js) : ∀ {os outs:List O} {fc:Nat->List Addr} {G2:List Addr} {ρ : aM} {fp:Nat->List Addr} {W:List Addr},
  RS0 K (vs.map some) H ((uR fl os outs).map some) fc G2->os.length=vs.length->outs.length=(fl.filter id).length->RS K σ H ρ fp (W++G)->(∀ a∈Bas.G0,a∈G)->(∀ i a,a∈fc i->a∈W)->(∀ a∈W,a∉G)->(∀ a,Fo fp a∨a∈W∨a∈G->Fo fc a∨a∈G2) ->
  ∃ fp',RS K σ H (rG js outs ρ) fp' G ∧ ∀ a,Fo fp' a->Fo fp a∨Fo fc a:=by
 induction l with
 | nil=>intro os outs fc G2 ρ fp W Rc lo ln R g0 m g w;exact ⟨fp,by cases outs<;>exact R.sub fun a m=>List.mem_append_right _ m,fun a z => .inl z⟩
 | @no v fl vs js l ih =>
  intro os outs fc G2 ρ fp W Rc lo ln R g0 m g w
  cases os with
  | nil=>simp at lo
  | cons o os =>
   have Rc' : RS0 K (vs.map some) H ((uR fl os outs).map some) (fun i=>fc (i+1)) (fc 0++G2):=by
    refine ⟨fun i u e => ?_,fun i e=>Rc.non (i+1) fun o z=>e o (by simpa [uR] using z),fun i k a m n=>by have:=Rc.dj _ _ a m n;omega,fun i=>Rc.nd _,fun a m ⟨i,z⟩ => ?_,fun a m => ?_,by have:=Rc.len;simp [uR] at this ⊢; omega,Rc.tb⟩
    ·obtain ⟨x,hx,r⟩:=Rc.ex (i+1) u (by simpa [uR] using e)
     exact ⟨x,by simpa using hx,r.weak fun a z=>z.elim (fun ⟨k,z⟩ => .inl ⟨k+1,z⟩) fun z=>(List.mem_append.mp z).elim (fun z => .inl ⟨0,z⟩) .inr⟩
    ·rcases List.mem_append.mp m with m | m
     ·have:=Rc.dj _ _ a m z;omega
     ·exact Rc.gf a m ⟨i+1,z⟩
    ·exact (List.mem_append.mp m).elim (fun m=>let ⟨u,e,_⟩:=Rc.there a ⟨0,m⟩;⟨u,e⟩) (Rc.gi a)
   obtain ⟨fp',R',i'⟩:=ih Rc' (by simpa using lo) (by simpa using ln) R g0 (fun i a n=>m (i+1) a n) g fun a z=>(w a z).elim (fun ⟨k,z⟩=>by
    cases k with
    | zero=>exact .inr (List.mem_append_left _ z)
    | succ k=>exact .inl ⟨k,z⟩) fun z => .inr (List.mem_append_right _ z)
   exact ⟨fp',R',fun a z=>(i' a z).imp (fun q=>q) fun ⟨k,z⟩=>⟨k+1,z⟩⟩
 | @own v fl vs js l ih =>
  intro os outs fc G2 ρ fp W Rc lo ln R g0 m g w
  cases os with
  | nil=>simp at lo
  | cons o os =>
   cases outs with
   | nil=>simp at ln
   | cons u outs =>
    have Rc' : RS0 K (vs.map some) H ((uR fl os outs).map some) (fun i=>fc (i+1)) (fc 0++G2):=by
     refine ⟨fun i u e => ?_,fun i e=>Rc.non (i+1) fun o z=>e o (by simpa [uR] using z),fun i k a m n=>by have:=Rc.dj _ _ a m n;omega,fun i=>Rc.nd _,fun a m ⟨i,z⟩ => ?_,fun a m => ?_,by have:=Rc.len;simp [uR] at this ⊢; omega,Rc.tb⟩
     ·obtain ⟨x,hx,r⟩:=Rc.ex (i+1) u (by simpa [uR] using e)
      exact ⟨x,by simpa using hx,r.weak fun a z=>z.elim (fun ⟨k,z⟩ => .inl ⟨k+1,z⟩) fun z=>(List.mem_append.mp z).elim (fun z => .inl ⟨0,z⟩) .inr⟩
     ·rcases List.mem_append.mp m with m | m
      ·have:=Rc.dj _ _ a m z;omega
      ·exact Rc.gf a m ⟨i+1,z⟩
     ·exact (List.mem_append.mp m).elim (fun m=>let ⟨u,e,_⟩:=Rc.there a ⟨0,m⟩;⟨u,e⟩) (Rc.gi a)
    obtain ⟨fp',R',i'⟩:=ih Rc' (by simpa using lo) (by simpa using ln) R g0 (fun i a n=>m (i+1) a n) g fun a z=>(w a z).elim (fun ⟨k,z⟩=>by
     cases k with
     | zero=>exact .inr (List.mem_append_left _ z)
     | succ k=>exact .inl ⟨k,z⟩) fun z => .inr (List.mem_append_right _ z)
    exact ⟨fp',R',fun a z=>(i' a z).imp (fun q=>q) fun ⟨k,z⟩=>⟨k+1,z⟩⟩
 | @slot v j fl vs js hv hj l ih =>
  intro os outs fc G2 ρ fp W Rc lo ln R g0 m g w
  cases os with
  | nil=>simp at lo
  | cons o os =>
   cases outs with
   | nil=>simp at ln
   | cons u outs =>
    have Rc' : RS0 K (vs.map some) H ((uR fl os outs).map some) (fun i=>fc (i+1)) (fc 0++G2):=by
     refine ⟨fun i u e => ?_,fun i e=>Rc.non (i+1) fun o z=>e o (by simpa [uR] using z),fun i k a m n=>by have:=Rc.dj _ _ a m n;omega,fun i=>Rc.nd _,fun a m ⟨i,z⟩ => ?_,fun a m => ?_,by have:=Rc.len;simp [uR] at this ⊢; omega,Rc.tb⟩
     ·obtain ⟨x,hx,r⟩:=Rc.ex (i+1) u (by simpa [uR] using e)
      exact ⟨x,by simpa using hx,r.weak fun a z=>z.elim (fun ⟨k,z⟩ => .inl ⟨k+1,z⟩) fun z=>(List.mem_append.mp z).elim (fun z => .inl ⟨0,z⟩) .inr⟩
     ·rcases List.mem_append.mp m with m | m
      ·have:=Rc.dj _ _ a m z;omega
      ·exact Rc.gf a m ⟨i+1,z⟩
     ·exact (List.mem_append.mp m).elim (fun m=>let ⟨u,e,_⟩:=Rc.there a ⟨0,m⟩;⟨u,e⟩) (Rc.gi a)
    obtain ⟨v',hv',r⟩:=Rc.ex 0 u (by simp [uR])
    have ev:v'=v:=by simpa using hv'.symm
    subst ev
    let W':=W.filter fun a=>decide (a∉fc 0)
    have mW' : ∀ a,a∈W'↔a∈W∧a∉fc 0:=fun a=>by simp [W']
    have R1:RS K σ H ρ fp (fc 0++(W'++G)):=R.sub fun a z=>by
     simp only [List.mem_append] at z ⊢
     rcases z with z | z | z
     ·exact .inl (m 0 a z)
     ·exact .inl ((mW' a).mp z).1
     ·exact .inr z
    have hjr:j<ρ.length:=by rw [R.len];exact hj
    have R2:=R1.upd (j:=j) (σ':=σ) (o:=u) (v:=v') (fun a z y=>by
     simp only [List.mem_append] at y
     rcases y with y | y
     ·exact ((mW' a).mp y).2 z
     ·exact g a (m 0 a z) y) (Rc.nd 0) hjr (fun i v _ h=>h) hv rfl (r.weak fun a z=>by
     have : Fo fp a∨a∈W∨a∈G:=by
      rcases z with z | z
      ·exact z.set.elim .inl fun z => .inr (.inl (m 0 a z))
      ·simp only [List.mem_append] at z
       rcases z with z | z
       ·exact .inr (.inl ((mW' a).mp z).1)
       ·exact .inr (.inr z)
     exact w a this)
    obtain ⟨fp',R',i'⟩:=ih Rc' (by simpa using lo) (by simpa using ln) R2 g0 (fun i a n=>(mW' a).mpr ⟨m (i+1) a n,fun z=>by have:=Rc.dj _ _ a n z;omega⟩) (fun a z=>g a ((mW' a).mp z).1) fun a z=>by
     have : Fo fc a∨a∈G2:=by
      rcases z with z | z | z
      ·rcases z.set with z | z
       ·exact w a (.inl z)
       ·exact .inl ⟨0,z⟩
      ·exact w a (.inr (.inl ((mW' a).mp z).1))
      ·exact w a (.inr (.inr z))
     rcases this with ⟨k,z⟩ | z
     ·cases k with
      | zero=>exact .inr (List.mem_append_left _ z)
      | succ k=>exact .inl ⟨k,z⟩
     ·exact .inr (List.mem_append_right _ z)
    exact ⟨fp',R',fun a z=>(i' a z).elim (fun z=>z.set.elim .inl fun z => .inr ⟨0,z⟩) fun ⟨k,z⟩ => .inr ⟨k+1,z⟩⟩
end
end DL
namespace DL
open PySem PySem.Spec L2
open PyProof.Rows hiding St
variable [Tbs] [Bas]
section
variable {X:Cx} {k:Nat} {f:Addr} {fd:FuncData} {ps:List Str} {x:Str} {p pos:Pos} {e:Expr} {es:List Expr} {ts:XTs} {fl:List Bool} {spec:bU}
theorem yr {K:PySem.W.Frag} {n:Nat} {σ : St} {H:Hp} {Q:VK} {E:XK} (h:LX K (aV fl spec ts) σ H Q):tCall (ASp K fl spec) [] E (LA K n ts) σ H Q:=by
  obtain ⟨ρ,fp,G,Qa,R,h,fin⟩:=h
  refine ⟨ρ,fp,G,_,R,h,fun vs ps A H1 ρ1 fp1 hl R1 r1 nd1 ng1 x1 h1 => ?_⟩
  obtain ⟨os,js,ρ2,fp2,Bs,R2,r2,d2,g2,i2,l2,z2,n2,h2⟩:=zr r1 R1 R.g0 (fun a z=>z) ng1 nd1 h1
  rw [List.append_nil]
  have hG : ∀ a,a∈v5 ρ2 fp2++G↔Fo fp2 a∨a∈G:=fun a=>by rw [List.mem_append,R2.all]
  refine ⟨os,fun i=>Bs.getD i [],v5 ρ2 fp2++G,_,n2,RCs.rs R2 r2 d2 g2 hG,z2,h2,fun v o A' outs H' fp' R' z' ro nd' ng' x' lo q => ?_⟩
  have fa : ∀ a,a∈v5 ((uR fl os outs).map some) fp'↔Fo fp' a:=fun a=>R'.all
  generalize hW:v5 ((uR fl os outs).map some) fp'=W at fa
  have xs:Ext H1 (· ∈ Bs.flatten) H' (· ∈ W++A'):=x'.weak (fun a z=>jU.mpr z) fun a m=>(List.mem_append.mp m).elim (fun m => .inl ((fa a).mp m)) .inr
  have R3:RS K σ H' ρ2 fp2 ((W++A')++G):=R2.thru xs (fun a m z=>g2 a z m) fun a m=>(List.mem_append.mp m).elim (fun m=>let ⟨u,e,_⟩:=R'.there a ((fa a).mp m);⟨u,e⟩) fun m=>let ⟨u,e,_⟩:=ro.there a m;⟨u,e⟩
  obtain ⟨fp3,R4,i3⟩:=TY l2 (G:=A'++G) R' (by rw [← r2.len.1]) lo (by rw [List.append_assoc] at R3;exact R3) (fun a m=>List.mem_append_right _ (R.g0 a m)) (fun i a m=>(fa a).mpr ⟨i,m⟩) (fun a m z=>R'.gf a (by
      simp only [List.mem_append] at z ⊢
      rcases z with z | z
      · exact .inl z
      · exact .inr (.inr z)) ((fa a).mp m)) (fun a z=>by
      rcases z with z | z | z
      · exact .inr (List.mem_append_right _ ((hG a).mpr (.inl z)))
      · exact .inl ((fa a).mp z)
      · simp only [List.mem_append] at z ⊢
        rcases z with z | z
        · exact .inr (.inl z)
        · exact .inr (.inr (.inr z)))
  refine fin v (.val o) A' H' _ fp3 R4 ⟨ro.weak fun a z => ?_,nd',fun a m z=>ng' a m (List.mem_append_right _ z)⟩ (x1.trans ((x'.addP (Fo fp2)).weak (fun a z => ?_) fun a z => ?_)) q
  · rcases z with z | z
    · rcases i3 a z with z | z
      · exact .inr (List.mem_append_right _ ((hG a).mpr (.inl z)))
      · exact .inl z
    · simp only [List.mem_append] at z ⊢
      rcases z with z | z
      · exact .inr (by simp [z])
      · exact .inr (by simp [z])
  · exact (i2 a (z.imp (fun q=>q) fun z=>jU.mpr z))
  · rcases z with z | z
    · exact (i3 a z).imp (fun q=>q) .inl
    · exact .inr (.inr z)
end
def aK (n:Nat) (os:List O):aM:=os.map some++List.replicate (n - os.length) none
def Bj (fl:List Bool) (ρ : aM) (Q:List O->Prop):Prop:=match dI fl 0 ρ with
 | some outs=>Q outs
 | none=>False
def aP (fl:List Bool) (Qa:O->List O->Prop):qY := { nx:=fun ρ=>Bj fl ρ (Qa (.pure .none)),rt:=fun o ρ=>Bj fl ρ (Qa o) }
theorem Ih : ∀ {fl:List Bool} {i:Nat} {ρ : aM} {outs:List O},dI fl i ρ=some outs->outs.length=(fl.filter id).length
 | [],_,_,_,h=>by cases h;rfl
 | false :: fl,i,ρ,outs,h=>by simpa using Ih (fl:=fl) (i:=i+1) h
 | true :: fl,i,ρ,outs,h=>by
  unfold dI at h
  split at h
  ·rename_i o os e1 e2
   cases h
   simpa using Ih e2
  ·cases h
theorem Mw : ∀ {fl:List Bool} {i:Nat} {ρ : aM} {os outs:List O},dI fl i ρ=some outs->os.length=fl.length->(uR fl os outs).length=os.length ∧ ∀ (j:Nat),(fl.getD j false=true->(uR fl os outs)[j]? = ρ.at (i+j))∧(fl.getD j false=false->(uR fl os outs)[j]? = os[j]?)
 | [],i,ρ,os,outs,h,hl=>by
  have : os=[]:=List.eq_nil_of_length_eq_zero hl
  subst this
  exact ⟨rfl,fun j=>⟨fun z=>by simp at z,fun _=>rfl⟩⟩
 | false :: fl,i,ρ, [],outs,h,hl=>by simp at hl
 | true :: fl,i,ρ, [],outs,h,hl=>by simp at hl
 | false :: fl,i,ρ,o :: os,outs,h,hl=>by
  obtain ⟨h1,h2⟩:=Mw (fl:=fl) (i:=i+1) (os:=os) h (by simpa using hl)
  refine ⟨by simp [uR,h1],fun j => ?_⟩
  cases j with
  | zero=>exact ⟨fun z=>by simp at z,fun _=>rfl⟩
  | succ j=>simpa [uR,Nat.add_assoc,Nat.add_comm 1 j] using h2 j
 | true :: fl,i,ρ,o :: os,outs,h,hl=>by
  unfold dI at h
  split at h
  ·rename_i u us e1 e2
   cases h
   obtain ⟨h1,h2⟩:=Mw (os:=os) e2 (by simpa using hl)
   refine ⟨by simp [uR,h1],fun j => ?_⟩
   cases j with
   | zero=>exact ⟨fun _=>by simp [uR,e1],fun z=>by simp at z⟩
   | succ j=>simpa [uR,Nat.add_assoc,Nat.add_comm 1 j] using h2 j
  ·cases h
theorem lF {α : Type} {l:List (Option α)} {m i:Nat} {o : α}:(l++List.replicate m none)[i]? = some (some o)↔l[i]? = some (some o):=by
 rcases Nat.lt_or_ge i l.length with h | h
 ·rw [List.getElem?_append_left h]
 ·rw [List.getElem?_append_right h,List.getElem?_replicate,List.getElem?_eq_none h]
  constructor
  ·intro z;split at z<;>cases z
  ·intro z;cases z
section
variable {P:Program} {w:World} {K:PySem.W.Frag} {mg:Str->Option Value} {base:Heap} {x qual:Str} {params:Arguments} {body:List Stmt} {scope:Scope} {f:Addr} {fd:FuncData}
def fpc (fl:List Bool) (fp:Nat->List Addr):Nat->List Addr:=fun i=>if fl.getD i false=true then fp i else []
theorem Z0 {fl:List Bool} {fp:Nat->List Addr} {i:Nat} (h:fl.getD i false=true):fpc fl fp i=fp i:=by unfold fpc;rw [if_pos h]
theorem W7 {fl:List Bool} {fp:Nat->List Addr} {i:Nat} (h:fl.getD i false=false):fpc fl fp i=[]:=by unfold fpc;rw [if_neg (by rw [h];decide)]
theorem Mx {fl:List Bool} {fp:Nat->List Addr} {i:Nat} {a:Addr} (m:a∈fpc fl fp i):a∈fp i:=by
 unfold fpc at m
 split at m
 ·exact m
 ·cases m
omit [Bas] in
theorem Ov {N ps:List Str} {spec:bU} (fl:List Bool) (tb:ST) (S:FnScope N ps scope) (rd : ∀ os Qa,os.length=fl.length->spec os Qa->tb (aP fl Qa) (aK N.length os)) {vs:List V} {H:Hp} {Q:VK} {E:XK} (h:ASp K fl spec vs H Q E) :
  ∃ B:Bas, @LS _ B K (fun j=>fl.getD j false) tb { nx:=fun _ H'=>Q .non H',rt:=Q } (L2.start N vs) H:=by
 obtain ⟨os,fp,G,Qa,hl,R,z,hs,fin⟩:=h
 refine ⟨⟨H,Fo fp,G⟩, ?_⟩
 letI:Bas:=⟨H,Fo fp,G⟩
 have hlo:os.length=vs.length:=by simpa using R.len
 have R0:RS K (L2.start N vs) H (aK N.length os) fp G:=by
  unfold L2.start aK
  refine ⟨⟨fun i o e => ?_,fun i e=>R.non i fun o y=>e o (lF.mpr y),R.dj,R.nd,R.gf,R.gi,by simp [hlo],R.tb⟩,Ext.refl.weak (fun _ z=>z) fun a z=>z.1.elim (fun q=>q) fun m=>absurd m z.2,fun _ m=>m⟩
  obtain ⟨v,hv,r⟩:=R.ex i o (lF.mp e)
  exact ⟨v,lF.mpr hv,r⟩
 have done : ∀ v o A σ' H' ρ' fp',RS K σ' H' ρ' fp' (A++G)->RO K H' (Or1 (Fo fp') (A++G)) v o A->A.Nodup->(∀ a∈A,a∉G)->Ext H (Fo fp) H' (Or1 (Fo fp') A)->qZ (fun j=>fl.getD j false) (L2.start N vs) σ'->Bj fl ρ' (Qa o)->Q v H':=by
  intro v o A' σ' H' ρ' fp' R' ro nd ng x' pe hq
  unfold Bj at hq
  split at hq
  ·rename_i outs eo
   obtain ⟨q1,q2⟩:=Mw (os:=os) eo (by rw [hlo,hl])
   have sub : ∀ a,Fo (fpc fl fp') a->Fo fp' a:=fun a ⟨i,m⟩=>⟨i,Mx m⟩
   refine fin v o A' outs H' (fpc fl fp') ?_ (fun i e=>W7 e) (ro.weak fun a y=>y.imp (sub a) fun m=>m) nd ng ?_ (Ih eo) hq
   ·refine ⟨fun i u e => ?_,fun i e => ?_,fun i j a m n=>R'.dj i j a (Mx m) (Mx n),fun i => ?_,fun a m y=>R'.gf a m (sub a y),R'.gi,by simp [q1,hlo],R'.tb⟩
    ·rw [List.getElem?_map] at e
     cases g:(uR fl os outs)[i]? with
     | none=>rw [g] at e;cases e
     | some u' =>
      rw [g] at e
      cases e
      cases b:fl.getD i false with
      | true =>
       have g2:=((q2 i).1 b).symm.trans g
       rw [Nat.zero_add] at g2
       obtain ⟨y,hy,r⟩:=R'.ex i _ (aM.at_iff g2)
       have hp:=pe i b
       rw [hp] at hy
       unfold L2.start at hy
       exact ⟨y,lF.mp hy,by rw [Z0 b];exact r.weak fun a y=>y.imp (sub a) fun m=>m⟩
      | false =>
       have g2:=((q2 i).2 b).symm.trans g
       obtain ⟨y,hy,r⟩:=R.ex i _ (by rw [List.getElem?_map,g2];rfl)
       rw [z i b] at r
       refine ⟨y,hy, ?_⟩
       rw [W7 b]
       exact (r.ext (x'.addG G) pZ).weak fun a y=>y.elim (fun y => .inl (.inl (sub a y))) fun m=>(List.mem_append.mp m).elim (fun m => .inl (.inr m)) .inr
    ·cases b:fl.getD i false with
     | false=>exact W7 b
     | true =>
      rw [Z0 b]
      refine R'.non i fun o y => ?_
      have hi:i<(uR fl os outs).length:=by
       rw [q1,hlo,hl]
       rcases Nat.lt_or_ge i fl.length with h | h
       ·exact h
       ·rw [List.getD_eq_getElem?_getD,List.getElem?_eq_none h] at b;cases b
      exact e _ (by rw [List.getElem?_map,List.getElem?_eq_getElem hi];rfl)
    ·cases b:fl.getD i false with
     | false=>rw [W7 b];exact .nil
     | true=>rw [Z0 b];exact R'.nd i
   ·exact x'.weak (fun _ y=>y) fun a y=>y.imp (sub a) fun m=>m
  ·exact hq.elim
 refine ⟨aK N.length os,fp,G,aP fl Qa,R0,rd os Qa (by rw [hlo,hl]) hs,fun σ' H' ρ' fp' R' x' pe hq => ?_,fun _ _ _ _ _ _ _ hq=>hq.elim,fun _ _ _ _ _ _ _ hq=>hq.elim,done⟩
 exact done .non (.pure .none) [] σ' H' ρ' fp' R' (Du RP.non) .nil pZ (x'.weak (fun _ y=>y) fun a y=>y.elim (fun q=>q) fun m=>(List.not_mem_nil m).elim) pe hq
end
end DL
namespace DL
open PySem PySem.Spec L2
open PyProof.Rows hiding St
variable [Tbs] [Bas] {wk:Bool}
section
variable {K:PySem.W.Frag} {H H' : Hp} {F F' : Addr->Prop} {G:List Addr} {a b:Addr} {vs us:List V} {ts rs:List T}
def StL (K:PySem.W.Frag) (H:Hp) (F:Addr->Prop) (a:Addr) (vs:List V):Prop :=
 (Rd H a (.lst vs) ∧ ¬ F a) ∨ ∃ (o:Obj) (its:Array Value) (n:Nat),K.lookup a=some o∧o.cls = .type "list" ∧ o.dict=none∧o.data = .seq its n∧its.size≤sizeLine∧Vals vs its.toList
theorem StL.sq (h:StL K H F a vs):SqL K H a vs:=h.imp (fun h=>h.1) fun h=>h
theorem StL.ext (h:StL K H F a vs) (x:Ext H F H' F'):StL K H' F' a vs:=by
 rcases h with ⟨h,n⟩ | h
 ·refine .inl ⟨Rd.keepE x h n Bc,fun z=>(x.new a z).elim n fun q => ?_⟩
  obtain ⟨o,e⟩:=DL.Rd.some h
  rw [q] at e;cases e
 ·exact .inr h
theorem RP.stL {v:V} (h:RP K H (Or1 F G) v (.list ts)) : ∃ a vs,v = .ref a∧StL K H F a vs∧RPs K H (Or1 F G) vs ts:=by
 obtain ⟨as,r,n⟩:=h
 cases r with
 | lst h r=>exact ⟨_,_,rfl, .inl ⟨h,fun z=>n _ List.mem_cons_self (.inl z)⟩,RPs.of r fun a m=>n a (List.mem_cons_of_mem _ m)⟩
 | lstK h1 h2 h3 h4 h5 h6 r=>exact ⟨_,_,rfl, .inr ⟨_,_,_,h1,h2,h3,h4,h5,h6⟩,RPs.of r n⟩
theorem RPs.extG (x:Ext H F H' F') (r:RPs K H (Or1 F G) vs ts):RPs K H' (Or1 F' G) vs ts:=RPs.ext (x.addG G) r
theorem W8 (h:StL K H F a vs) (r:RPs K H (Or1 F G) vs ts):JOk wk K (Itl K a) ts H F G:=by
 intro H' F' x
 have h':=(h.ext x).sq
 have r':=RPs.extG x r
 refine ⟨fun i t e => ?_,⟨vs,h',Nat.le_of_eq (Paired.len r')⟩⟩
 obtain ⟨v,hv,rv⟩:=Paired.at r' e
 refine ⟨⟨vs,v,h',hv⟩,fun x H'' y => ?_⟩
 obtain ⟨rfl,y⟩:=y
 have e2:=y vs h'
 rw [hv] at e2;cases e2
 exact ⟨fL.refl, .inl rv⟩
theorem Z3 (h:SqT K H a vs) (r:RPs K H (Or1 F G) vs ts):JOk wk K (Itt K a) ts H F G:=by
 intro H' F' x
 have h':=SqT.keepE x h
 have r':=RPs.extG x r
 refine ⟨fun i t e => ?_,⟨vs,h',Nat.le_of_eq (Paired.len r')⟩⟩
 obtain ⟨v,hv,rv⟩:=Paired.at r' e
 refine ⟨⟨vs,v,h',hv⟩,fun x H'' y => ?_⟩
 obtain ⟨rfl,y⟩:=y
 have e2:=y vs h'
 rw [hv] at e2;cases e2
 exact ⟨fL.refl, .inl rv⟩
def fB (x:Str):List T:=x.cps.toList.map fun c => .str ⟨#[c]⟩
theorem Z4 (x:Str):JOk wk K (Its x) (fB x) H F G:=by
 intro H' F' _
 refine ⟨fun i t e => ?_,by unfold fB;simp [Its]⟩
 unfold fB at e
 rw [List.getElem?_map] at e
 have hi:i<x.cps.size:=by
  rcases Nat.lt_or_ge i x.cps.size with h | h
  ·exact h
  ·rw [List.getElem?_eq_none (by simpa using h)] at e;cases e
 refine ⟨hi,fun v H'' y => ?_⟩
 obtain ⟨rfl,c,hc,rfl⟩:=y
 have e2:x.cps.toList[i]? = some c:=by simpa using hc
 rw [e2] at e
 cases e
 exact ⟨fL.refl, .inl (RP.str _)⟩
def bV (lo:Int) (n:Nat):List T:=(List.range n).map fun (i:Nat) => .int (lo+i)
theorem KY (lo:Int) (n:Nat):JOk wk K (Itr lo n) (bV lo n) H F G:=by
 intro H' F' _
 refine ⟨fun i t e => ?_,by unfold bV;simp [Itr]⟩
 unfold bV at e
 rw [List.getElem?_map] at e
 have hi:i<n:=by
  rcases Nat.lt_or_ge i n with h | h
  ·exact h
  ·rw [List.getElem?_eq_none (by simpa using h)] at e;cases e
 refine ⟨hi,fun v H'' y => ?_⟩
 obtain ⟨rfl,rfl⟩:=y
 rw [List.getElem?_range hi] at e
 cases e
 exact ⟨fL.refl, .inl (RP.int _)⟩
def cQ (ts:List T):List T:=(List.range ts.length).zipWith (fun (i:Nat) t => .tuple [.int i,t]) ts
def DW (ts rs:List T):List T:=List.zipWith (fun t r => .tuple [t,r]) ts rs
theorem RY.newTup {H:Hp} {F:Addr->Prop} {p:Addr} {vs:List V} {ts:List T} (n:H p=none) (r:RPs K H F vs ts):RY false K (upd H p (.tup vs)) F (.ref p) (.tuple ts) :=
 .inr ⟨rfl,p,vs,ts,rfl,rfl,SqT.of upd_same,RPs.ext (fL.upd n).ext r⟩
theorem W9 (h:StL K H F a vs) (r:RPs K H (Or1 F G) vs ts):JOk false K (Ite K a) (cQ ts) H F G:=by
 intro H' F' x
 have h':=(h.ext x).sq
 have r':=RPs.extG x r
 have hl:(cQ ts).length=ts.length:=by unfold cQ;simp
 refine ⟨fun i t e => ?_,⟨vs,h',by rw [hl];exact Nat.le_of_eq (Paired.len r')⟩⟩
 unfold cQ at e
 rw [List.getElem?_zipWith] at e
 have hi:i<ts.length:=by
  rcases Nat.lt_or_ge i ts.length with h | h
  ·exact h
  ·rw [List.getElem?_eq_none (l:=ts) h] at e
   split at e
   ·rename_i q;cases q
   ·cases e
 rw [List.getElem?_range hi] at e
 obtain ⟨v,hv,rv⟩:=Paired.at r' (List.getElem?_eq_getElem hi)
 rw [List.getElem?_eq_getElem hi] at e
 simp only [Option.some.injEq] at e
 subst e
 refine ⟨⟨vs,v,h',hv⟩,fun x H'' y => ?_⟩
 obtain ⟨T,u,rfl,hn,rfl,y⟩:=y
 have e2:=y vs h'
 rw [hv] at e2;cases e2
 exact ⟨fL.upd hn,RY.newTup hn (.cons (RP.int _) (.cons rv .nil))⟩
theorem Y5 {α β γ : Type} {f : α->β->γ} {xs:List α} {ys:List β} {i:Nat} {z : γ} (e:(List.zipWith f xs ys)[i]? = some z) : ∃ x y,xs[i]? = some x∧ys[i]? = some y∧f x y=z:=by
 rw [List.getElem?_zipWith] at e
 split at e
 ·rename_i x y e1 e2;exact ⟨x,y,e1,e2,Option.some.inj e⟩
 ·cases e
end
def iAny (K:PySem.W.Frag) (tl:TE):TI:=fun σ H R=>tl σ H fun x H1=>(∃ a,x = .ref a∧(∃ xs,SqL K H1 a xs)∧((∀ xs,SqL K H1 a xs->xs.length≤sizeLine)->R (Itl K a) H1))∨(∃ a,x = .ref a∧(∃ xs,SqT K H1 a xs)∧((∀ xs,SqT K H1 a xs->xs.length≤sizeLine)->R (Itt K a) H1)) ∨ ∃ z,x = .str z∧R (Its z) H1
section
variable {X:Cx} {tg:Expr}
theorem aAz {l:Expr} {tl:TE} (hl:PE X l tl):PI X tg l (iAny X.K tl):=by
  refine ⟨fun pins s σ H R I h => ?_⟩
  refine thn (hl.run pins s σ H _ I h) fun v s1 ⟨x,H1,I1,r1,q1⟩ => ?_
  rcases q1 with ⟨a,e,⟨xs,hq⟩,q⟩ | ⟨a,e,⟨xs,hq⟩,q⟩ | ⟨z,e,q⟩
  · subst e
    cases r1
    obtain ⟨its,rv,p,hz⟩:=I1.list hq
    have q:=q fun ys hy=>(I1.list hy).choose_spec.2.2
    refine wpAny_pyIter_list p.isList ?_
    refine ⟨s1.heap.objs.size, [s1.heap.objs.size],_,_,H1,rfl,I1.kept (t':=s1.toks) fun b o e=>Heap.get?_push_of_some _ e,turn_list a _,⟨_,Heap.get?_push_size _ rfl,rfl,rfl⟩,fun b hb => ?_,q⟩
    have e:b=s1.heap.objs.size:=by simpa using hb
    subst e
    exact I1.fpOk (Nat.le_refl _) (I1.hok.fresh (Nat.le_refl _))
  · subst e
    cases r1
    obtain ⟨its,rv,p,hz⟩:=I1.tuple hq
    have q:=q fun ys hy=>(I1.tuple hy).choose_spec.2.2
    refine wpAny_pyIter_tuple (show s1.heap.IsTuple a its.toArray from p) ?_
    refine ⟨s1.heap.objs.size, [s1.heap.objs.size],_,_,H1,rfl,I1.kept (t':=s1.toks) fun b o e=>Heap.get?_push_of_some _ e,turn_tuple a _,⟨_,Heap.get?_push_size _ rfl,rfl,rfl⟩,fun b hb => ?_,q⟩
    have e:b=s1.heap.objs.size:=by simpa using hb
    subst e
    exact I1.fpOk (Nat.le_refl _) (I1.hok.fresh (Nat.le_refl _))
  · subst e
    obtain ⟨t,rfl⟩:=r1
    cases ha:z.cps.all (· < 128)
    · exact wpAny_pyIter_wide ha (pi_one (tk:=s1.toks) I1 _ (turn_str _ z t "str_iterator" (.inr rfl)) ⟨_,Heap.get?_push_size _ rfl,rfl,rfl⟩ q)
    · exact wpAny_pyIter_ascii ha (pi_one (tk:=s1.toks) I1 _ (turn_str _ z t "str_ascii_iterator" (.inl rfl)) ⟨_,Heap.get?_push_size _ rfl,rfl,rfl⟩ q)
def bK:T->Option (List T)
 | .list ts=>some ts
 | .tuple ts=>some ts
 | .str x=>if x.cps.size≤1000000 then some (fB x) else none
 | _=>none
def iW (te:XT):IT:=fun ρ Q=>te ρ fun p ρ1=>fV p ρ1 fun t ρ2=>match bK t with
 | some ts=>Q ts ρ2
 | none=>False
theorem it_go {K:PySem.W.Frag} {te:XT} {σ : St} {H:Hp} {R:It->Hp->Prop} (h:LI wk K (iW te) σ H R):iAny K (LX K te) σ H R:=by
 obtain ⟨ρ,fp,G,Qa,R0,h,fin⟩:=h
 refine ⟨ρ,fp,G,_,R0,h,fun v p A H1 ρ1 fp1 R1 r1 x1 h1 => ?_⟩
 obtain ⟨y,ρ2,fp2,R2,r2,i2,h2⟩:=jR R1 r1 h1
 have x2:Ext H (Fo fp) H1 (Fo fp2):=x1.or.weak (fun _ z=>z) i2
 cases y with
 | list ts =>
  obtain ⟨a,vs,rfl,sl,rp⟩:=r2.stL
  refine .inl ⟨a,rfl,⟨vs,sl.sq⟩,fun hz=>fin ts _ H1 ρ2 fp2 R2 (W8 sl rp) (by rw [← Paired.len rp];exact hz _ sl.sq) x2 h2⟩
 | tuple ts =>
  obtain ⟨a,vs,rfl,sl,rp⟩:=r2.tupE
  refine .inr (.inl ⟨a,rfl,⟨vs,sl⟩,fun hz=>fin ts _ H1 ρ2 fp2 R2 (Z3 sl rp) (by rw [← Paired.len rp];exact hz _ sl) x2 h2⟩)
 | str x =>
  have e:=r2.strE
  subst e
  simp only [bK] at h2
  split at h2
  ·rename_i ts e
   split at e
   ·rename_i hx
    cases e
    exact .inr (.inr ⟨x,rfl,fin _ _ H1 ρ2 fp2 R2 (Z4 x) (by unfold fB;simp;rw [sizeLine_eq];omega) x2 h2⟩)
   ·cases e
  ·exact h2.elim
 | none=>exact h2.elim
 | bool _=>exact h2.elim
 | int _=>exact h2.elim
 | dict _=>exact h2.elim
theorem v7 {l:Expr} {te:XT} (h:EX X l te):IX true X tg l (iW te):=⟨PI.imp (aAz h.pe) fun _ _ _ h=>it_go h⟩
def gW (ρ : aM) (ps:List Opd) (Q:List Int->Prop):Prop:=match dH ρ ps with
 | some [.pure (.int i)]=>Q [i]
 | some [.pure (.int i), .pure (.int j)]=>Q [i,j]
 | _=>False
def dJ (ts:XTs):IT:=fun ρ Q=>ts ρ fun ps ρ1=>gW ρ1 ps fun ns=>match ns with
 | [j]=>j≤1000000 ∧ -1000000≤j∧Q (bV 0 j.toNat) ρ1
 | [i,j]=>(j≤1000000 ∧ -1000000≤j∧i≤1000000 ∧ -1000000≤i)∧Q (bV i (j - i).toNat) ρ1
 | _=>False
theorem rH {a:Expr} {ts:XTs} {p pos:Pos} (hg:Gl X "range") (hm:X.mg "range" = none) (ha:EXs X [a] ts) (hs:starEach [a] X.env=[(false,eval a X.env)]:=by rfl):IX true X tg (.Call (.Name "range" p) [a] [] pos) (dJ ts):=by
 refine ⟨PI.imp (pi_range1 hg hm ha.pa hs) ?_⟩
 rintro σ H R ⟨ρ,fp,G,Qa,R0,h,fin⟩
 refine ⟨ρ,fp,G,_,R0,h,fun vs ps A H1 ρ1 fp1 hl R1 r1 nd1 ng1 x1 h1 => ?_⟩
 unfold gW at h1
 split at h1
 ·rename_i i e
  obtain ⟨h1,h2,h3⟩:=h1
  have q:=lw R1 r1 e
  cases q with
  | cons q q2 =>
   cases q2
   exact ⟨i,by rw [RP.intE q],by omega,by omega,fin _ _ H1 ρ1 fp1 (R1.sub fun a m=>List.mem_append_right _ m) (KY 0 i.toNat) (by unfold bV;simp;rw [sizeLine_eq];omega) x1.or h3⟩
 ·rename_i i j e
  have q:=lw R1 r1 e
  have:=Paired.len q
  simp at hl this;omega
 ·exact h1.elim
theorem Tc {a b:Expr} {ts:XTs} {p pos:Pos} (hg:Gl X "range") (hm:X.mg "range" = none) (ha:EXs X [a,b] ts) (hs:starEach [a,b] X.env=[(false,eval a X.env),(false,eval b X.env)]:=by rfl) (hs2:starEach [b] X.env=[(false,eval b X.env)]:=by rfl) :
  IX true X tg (.Call (.Name "range" p) [a,b] [] pos) (dJ ts):=by
 refine ⟨PI.imp (pi_range2 hg hm ha.pa hs hs2) ?_⟩
 rintro σ H R ⟨ρ,fp,G,Qa,R0,h,fin⟩
 refine ⟨ρ,fp,G,_,R0,h,fun vs ps A H1 ρ1 fp1 hl R1 r1 nd1 ng1 x1 h1 => ?_⟩
 unfold gW at h1
 split at h1
 ·rename_i i e
  have q:=lw R1 r1 e
  have:=Paired.len q
  simp at hl this;omega
 ·rename_i i j e
  obtain ⟨⟨h1,h2,h3,h4⟩,h5⟩:=h1
  have q:=lw R1 r1 e
  cases q with
  | cons q q2 =>
   cases q2 with
   | cons q2 q3 =>
    cases q3
    exact ⟨i,j,by rw [RP.intE q,RP.intE q2],⟨by omega,by omega,by omega,by omega⟩,fin _ _ H1 ρ1 fp1 (R1.sub fun a m=>List.mem_append_right _ m) (KY i _) (by unfold bV;simp;rw [sizeLine_eq];omega) x1.or h5⟩
 ·exact h1.elim
def IteS (x:Str):It:=⟨fun i _=>i<x.cps.size,fun i H v H' => ∃ T c,v = .ref T∧H T=none∧H'=upd H T (.tup [.int (i:Nat), .str ⟨#[c]⟩])∧x.cps[i]? = some c,fun i _=>i=x.cps.size⟩
theorem RG {P:Program} {w:World} {K:PySem.W.Frag} {elts:List Expr} {kk:Nat} {tpos:Pos} (x:Str) (t:Tok) (e it:Addr) :
  Turn P w K (.Tuple elts kk tpos) (IteS x) [e,it] e (fun i h=>(∃ old,IsEnum h e it ((i:Nat):Int) old)∧h.IsStrIter it (strIterType x) x t i∧e≠it) where
 mem:=by simp
 obj:=fun i h st b hb=>by
  obtain ⟨⟨old,he⟩,⟨o,ho,hc,hd⟩,_⟩:=st
  have e' : b=e∨b=it:=by simpa using hb
  rcases e' with z | z
  ·rw [z];exact ⟨_,he,fun v q=>nomatch q⟩
  ·rw [z];exact ⟨o,ho,fun v q=>by rw [hd] at q;cases q⟩
 keep:=fun i h h' st k=>let ⟨⟨old,he⟩,⟨o,ho,r⟩,hne⟩:=st;⟨⟨old,k e (by simp) _ he⟩,⟨o,k it (by simp) _ ho,r⟩,hne⟩
 item:=by
  intro X hP hw hK hc i pins s σ H E I hf st hg
  subst hP hw hK
  obtain ⟨⟨old,he⟩,hit,hne⟩:=st
  have hlt:i<x.cps.size:=hg
  have hel:e<s.heap.objs.size:=Heap.lt_size he
  have hil:it<s.heap.objs.size:=by obtain ⟨_,q,_⟩:=hit;exact Heap.lt_size q
  have D:=Draws.text (prog:=X.prog) (w:=X.w) (A:=X.A.in1) (I.ok.hd hc) it x t
  refine wpAny_pyNext_enum_itemD D he hit hlt hne (by simpa using hne) fun u h' tk hP ho hit' hT hsz hk => ?_
  obtain ⟨c,tu,hcx,rfl⟩:=hP
  refine ⟨_,rfl,wpAny_letOwnedTupleGo_enum (s := { s with heap:=h',toks:=tk+1 }) ho fun h'' he' sb => ?_⟩
  have hT2:h''.get? s.heap.objs.size=some { cls := .type "tuple",data := .seq #[.int i tk, .str ⟨#[c]⟩ tu] }:=(sb.2 _ (Nat.ne_of_gt hel)).trans hT
  have new:ObjOk X.prog X.w (upd H s.heap.objs.size (.tup [.int (i:Nat), .str ⟨#[c]⟩])) h'' s.heap.objs.size (.tup [.int (i:Nat), .str ⟨#[c]⟩]) :=
   ⟨by show 2≤sizeLine;decide, [.int i tk, .str ⟨#[c]⟩ tu], .cons ⟨_,rfl⟩ (.cons ⟨_,rfl⟩ .nil),⟨_,hT2,rfl,_,rfl⟩⟩
  have I1:Inv X pins σ (upd H s.heap.objs.size (.tup [.int (i:Nat), .str ⟨#[c]⟩])) { s with heap:=h'',toks:=tk+1 } :=
   I.turnedNew (ch:=[e,it]) (fun b ob hb q=>(sb.2 b (fun z=>hb (by simp [z]))).trans (hk b ob (fun z=>hb (by simp [z])) (fun z=>hb (by simp [z])) q)) hf (Nat.le_refl _) new
  refine ⟨.ref s.heap.objs.size,_,I1,rfl,⟨_,c,rfl,I.hok.fresh (Nat.le_refl _),rfl,hcx⟩,⟨⟨Value.str ⟨#[c]⟩ tu, ?_⟩,let ⟨o,q,r⟩:=hit'; ⟨o,(sb.2 it (Ne.symm hne)).trans q,r⟩,hne⟩,fun b hb => ?_⟩
  ·have e1:((i+1:Nat):Int)=(i:Int)+1:=by omega
   rw [e1];exact he'
  ·have hb' : b<s.heap.objs.size:=by
    have e' : b=e∨b=it:=by simpa using hb
    rcases e' with z | z
    ·rw [z];exact hel
    ·rw [z];exact hil
   rw [upd_ne (Nat.ne_of_lt hb')]
   exact (hf b hb).1
 done:=by
  intro X hP hw hK hc i pins s σ H E I hf st hg
  subst hP hw hK
  obtain ⟨⟨old,he⟩,hit,hne⟩:=st
  obtain ⟨f0,f1,f2,f3,f4,f5⟩:=hf it (by simp)
  have D:=Draws.text (prog:=X.prog) (w:=X.w) (A:=X.A.in1) (I.ok.hd hc) it x t
  have hi:i=x.cps.size:=hg
  subst hi
  exact wpAny_pyNext_enum_endD D he hit fun h' eb=>⟨rfl,I.turned (t':=s.toks) (fun b o hb q=>eb b o hb q) f0 f1 f3 f4 f5⟩
 self:=fun A i s Q E st h=>let ⟨⟨_,he⟩,_⟩:=st;wpAny_pyIter_enum he h
def IteT (K:PySem.W.Frag) (a:Addr):It :=
 ⟨fun i H => ∃ (xs:List V) (x:V),SqT K H a xs∧xs[i]? = some x,fun i H v H' => ∃ T x,v = .ref T∧H T=none∧H'=upd H T (.tup [.int (i:Nat),x]) ∧ ∀ xs,SqT K H a xs->xs[i]? = some x,fun i H => ∃ xs:List V,SqT K H a xs∧xs.length=i⟩
theorem RJ {P:Program} {w:World} {K:PySem.W.Frag} {elts:List Expr} {kk:Nat} {tpos:Pos} (a e it:Addr) :
  Turn P w K (.Tuple elts kk tpos) (IteT K a) [e,it] e (fun i h=>(∃ old,IsEnum h e it ((i:Nat):Int) old)∧h.IsTupleIter it a i∧e≠it) where
 mem:=by simp
 obj:=fun i h st b hb=>by
  obtain ⟨⟨old,he⟩,⟨o,ho,hc,hd⟩,_⟩:=st
  have e' : b=e∨b=it:=by simpa using hb
  rcases e' with z | z
  ·rw [z];exact ⟨_,he,fun v q=>nomatch q⟩
  ·rw [z];exact ⟨o,ho,fun v q=>by rw [hd] at q;cases q⟩
 keep:=fun i h h' st k=>let ⟨⟨old,he⟩,hi,hne⟩:=st;⟨⟨old,k e (by simp) _ he⟩,hi.at fun o q=>k it (by simp) o q,hne⟩
 item:=by
  intro X hP hw hK hc i pins s σ H E I hf st hg
  subst hP hw hK
  obtain ⟨⟨old,he⟩,hit,hne⟩:=st
  obtain ⟨xs,x,hq,hx⟩:=hg
  obtain ⟨its,rv,p,hz⟩:=I.tuple hq
  obtain ⟨u,hu,ru⟩:=rv.get hx
  have hlt:i<its.toArray.size:=by
   rcases Nat.lt_or_ge i its.length with q | q
   ·simpa using q
   ·rw [List.getElem?_eq_none q] at hu;cases hu
  have hel:e<s.heap.objs.size:=Heap.lt_size he
  have hil:it<s.heap.objs.size:=by obtain ⟨_,q,_⟩:=hit;exact Heap.lt_size q
  have hai:a≠it:=fun z=>by
   obtain ⟨o,ho,hc,_⟩:=hit
   obtain ⟨o',ho',hc',_⟩:=(show s.heap.IsTuple a its.toArray from p)
   rw [z,ho] at ho'; cases ho'
   rw [hc] at hc'; injection hc' with q;exact absurd q (by decide)
  have hae:a≠e:=fun z=>by
   obtain ⟨o',ho',hc',_⟩:=(show s.heap.IsTuple a its.toArray from p)
   have he' : s.heap.get? e=_:=he
   rw [z,he'] at ho'; cases ho'
   have hc2:Value.type "enumerate" = Value.type "tuple" := hc'
   injection hc2 with q;exact absurd q (by decide)
  have D:=Draws.tuple (prog:=X.prog) (w:=X.w) (A:=X.A.in1) (I.ok.hd hc) it a hai its.toArray
  refine wpAny_pyNext_enum_itemD D he ⟨hit,show s.heap.IsTuple a its.toArray from p⟩ hlt hne (by simp;exact ⟨hne,fun z=>hae z.symm⟩) fun u' h' tk hP ho hit' hT hsz hk => ?_
  have eu:u'=u:=by
   have hP:its.toArray[i]? = some u':=hP
   have : its[i]? = some u':=by simpa using hP
   rw [hu] at this;exact (Option.some.inj this).symm
  subst eu
  refine ⟨_,rfl,wpAny_letOwnedTupleGo_enum (s := { s with heap:=h',toks:=tk+1 }) ho fun h'' he' sb => ?_⟩
  have hT2:h''.get? s.heap.objs.size=some { cls := .type "tuple",data := .seq #[.int i tk,u'] }:=(sb.2 _ (Nat.ne_of_gt hel)).trans hT
  have new:ObjOk X.prog X.w (upd H s.heap.objs.size (.tup [.int (i:Nat),x])) h'' s.heap.objs.size (.tup [.int (i:Nat),x]) :=
   ⟨by show 2≤sizeLine;decide, [.int i tk,u'], .cons ⟨_,rfl⟩ (.cons ru .nil),⟨_,hT2,rfl,_,rfl⟩⟩
  have I1:Inv X pins σ (upd H s.heap.objs.size (.tup [.int (i:Nat),x])) { s with heap:=h'',toks:=tk+1 } :=
   I.turnedNew (ch:=[e,it]) (fun b ob hb q=>(sb.2 b (fun z=>hb (by simp [z]))).trans (hk b ob (fun z=>hb (by simp [z])) (fun z=>hb (by simp [z])) q)) hf (Nat.le_refl _) new
  refine ⟨.ref s.heap.objs.size,_,I1,rfl,⟨_,x,rfl,I.hok.fresh (Nat.le_refl _),rfl,fun ys hy=>by rw [I.tuple_inj hy hq];exact hx⟩,⟨⟨u', ?_⟩,hit'.1.at fun o q=>(sb.2 it (Ne.symm hne)).trans q,hne⟩,fun b hb => ?_⟩
  ·have e1:((i+1:Nat):Int)=(i:Int)+1:=by omega
   rw [e1];exact he'
  ·have hb' : b<s.heap.objs.size:=by
    have e' : b=e∨b=it:=by simpa using hb
    rcases e' with z | z
    ·rw [z];exact hel
    ·rw [z];exact hil
   rw [upd_ne (Nat.ne_of_lt hb')]
   exact (hf b hb).1
 done:=by
  intro X hP hw hK hc i pins s σ H E I hf st hg
  subst hP hw hK
  obtain ⟨⟨old,he⟩,hit,hne⟩:=st
  obtain ⟨xs,hq,hx⟩:=hg
  obtain ⟨its,rv,p,hz⟩:=I.tuple hq
  obtain ⟨f0,f1,f2,f3,f4,f5⟩:=hf it (by simp)
  have hai:a≠it:=fun z=>by
   obtain ⟨o,ho,hc,_⟩:=hit
   obtain ⟨o',ho',hc',_⟩:=(show s.heap.IsTuple a its.toArray from p)
   rw [z,ho] at ho'; cases ho'
   rw [hc] at hc'; injection hc' with q;exact absurd q (by decide)
  have D:=Draws.tuple (prog:=X.prog) (w:=X.w) (A:=X.A.in1) (I.ok.hd hc) it a hai its.toArray
  have hi:i=its.toArray.size:=by rw [← hx,rv.length];simp
  subst hi
  exact wpAny_pyNext_enum_endD D he ⟨hit,show s.heap.IsTuple a its.toArray from p⟩ fun h' eb=>⟨rfl,I.turned (t':=s.toks) (fun b o hb q=>eb b o hb q) f0 f1 f3 f4 f5⟩
 self:=fun A i s Q E st h=>let ⟨⟨_,he⟩,_⟩:=st;wpAny_pyIter_enum he h
set_option maxHeartbeats 1000000 in
theorem xE {v:Value} {o:Obj} {H:Heap->Prop} (B:Begins v o H) :
  Meets (Builtin.«enumerate.__new__» ⟨[.type "enumerate",v], []⟩) (fun _ R s=>H s.heap ∧
   R (.ok (.ret (.ref (s.heap.push o).objs.size))) { s with heap:=(s.heap.push o).push { cls := .type "enumerate",data := .fields #[.none, .bool false, .ref s.heap.objs.size,rawInt 0, .none, .none] } }) :=
 .of_wp fun prog w A R s h=>by
  obtain ⟨hp,g,d,tk,os⟩:=s;obtain ⟨h1,h⟩:=h
  have hsub:=sub_enumerate
  have q1 : ∀ {A' : Around} {E:Value->Shared->Prop} {Q:Value->Shared->Prop},Q (.ref hp.objs.size) ⟨hp.push o,g,d,tk,os⟩->wpAny (model prog w) A' (pyIter v) Q E ⟨hp,g,d,tk,os⟩ :=
   fun q=>B.iter prog w _ _ ⟨hp,g,d,tk,os⟩ _ h1 q
  wp_walk using q1
  refine wpAny_stack_any fun st=>wpAny_pure ?_
  split
  ·rename_i c _ _ _ _ _
   cases (c == Value.type "enumerate")
   ·wp_walk using q1
    exact ⟨_,rfl,h⟩
   ·wp_walk using q1
    exact ⟨_,rfl,h⟩
  ·wp_walk using q1
   exact ⟨_,rfl,h⟩
theorem v8 {prog:Program} {w:World} {A:Around} {E:Value->Shared->Prop} {s:Shared} {v:Value} {o:Obj} {H:Heap->Prop} {Q:Value->Shared->Prop} (B:Begins v o H) (h1:H s.heap)
  (h : ∀ h',IsEnum h' (s.heap.objs.size+1) s.heap.objs.size 0 .none->h'.get? s.heap.objs.size=some o->h'.objs.size=s.heap.objs.size+2 ->
   (∀ b o,s.heap.get? b=some o->h'.get? b=some o)->Q (.ref (s.heap.objs.size+1)) { s with heap:=h' }) :
  wpAny (model prog w) A (call (.type "enumerate") [v]) Q E s:=by
 refine callType_new F.called_enumerate (by decide) (F.typeCall_enumerate_1 _) (F.newCall_enumerate_1 _) (fun obj=>F.args_object_init_2 obj _) F.entry_enumerate_new
  (xE B) ⟨h1, ?_⟩
 have hz:(s.heap.push o).objs.size=s.heap.objs.size+1:=Heap.size_push ..
 show _∧_
 rw [hz]
 have he:IsEnum ((s.heap.push o).push { cls := .type "enumerate",data := .fields #[.none, .bool false, .ref s.heap.objs.size,rawInt 0, .none, .none] }) (s.heap.objs.size+1) s.heap.objs.size 0 .none:=by
  have:=Heap.get?_push_size (s.heap.push o) (o := { cls := .type "enumerate",data := .fields #[.none, .bool false, .ref s.heap.objs.size,rawInt 0, .none, .none] }) rfl
  rw [hz] at this;exact this
 refine ⟨⟨_,he,rfl⟩,h _ he (Heap.get?_push_of_some _ (Heap.get?_push_size _ B.free)) (by rw [Heap.size_push,hz]) fun b o x=>Heap.get?_push_of_some _ (Heap.get?_push_of_some _ x)⟩
def aAA (K:PySem.W.Frag) (ta:TA):TI:=fun σ H R=>ta σ H fun vs H1=>(∃ a xs,vs=[.ref a]∧SqL K H1 a xs∧R (Ite K a) H1)∨(∃ a xs,vs=[.ref a]∧SqT K H1 a xs∧R (IteT K a) H1) ∨ ∃ x,vs=[.str x]∧R (IteS x) H1
theorem WD {X:Cx} {e:Expr} {ta:TA} {p pos tpos:Pos} {elts:List Expr} {kk:Nat} (hg:Gl X "enumerate") (hm:X.mg "enumerate" = none) (ha:PA X [e] ta) (hs:starEach [e] X.env=[(false,eval e X.env)]:=by rfl) :
  PI X (.Tuple elts kk tpos) (.Call (.Name "enumerate" p) [e] [] pos) (aAA X.K ta):=by
 refine ⟨fun pins s σ H R I h => ?_⟩
 refine Call_ (ld_blt I hg hm boot_enumerate (PyProof.Rows.callWith_type1 (thn (ha.run pos pins s σ H _ I h) fun us s1 ⟨vs,H1,I1,r1,q1⟩ => ?_) hs rfl))
 have fps : ∀ {h' : Heap},h'.objs.size=s1.heap.objs.size+2 -> ∀ b∈[s1.heap.objs.size+1,s1.heap.objs.size],FpOk X pins H1 b:=fun _ b hb=>by
  have e' : b=s1.heap.objs.size+1∨b=s1.heap.objs.size:=by simpa using hb
  have hle:s1.heap.objs.size≤b:=by
   rcases e' with z | z
   ·rw [z];exact Nat.le_add_right _ _
   ·rw [z];exact Nat.le_refl _
  exact I1.fpOk hle (I1.hok.fresh hle)
 rcases q1 with ⟨a,xs,ex,hq,q⟩ | ⟨a,xs,ex,hq,q⟩ | ⟨x,ex,q⟩
 ·subst ex
  cases r1 with
  | cons r rr =>
   cases rr
   cases r
   obtain ⟨its,rv,p',hz⟩:=I1.list hq
   refine v8 (begins_list a its.toArray) p'.isList fun h' he hit hsz hk=>wpAny_pyIter_enum he ?_
   exact ⟨s1.heap.objs.size+1, [s1.heap.objs.size+1,s1.heap.objs.size],_,_,H1,rfl,I1.kept (t':=s1.toks) hk,turn_enum a (s1.heap.objs.size+1) s1.heap.objs.size,⟨⟨.none,he⟩,⟨_,hit,rfl,rfl⟩,Nat.succ_ne_self _⟩,fps hsz,q⟩
 ·subst ex
  cases r1 with
  | cons r rr =>
   cases rr
   cases r
   obtain ⟨its,rv,p',hz⟩:=I1.tuple hq
   refine v8 (begins_tuple a its.toArray) (show s1.heap.IsTuple a its.toArray from p') fun h' he hit hsz hk=>wpAny_pyIter_enum he ?_
   exact ⟨s1.heap.objs.size+1, [s1.heap.objs.size+1,s1.heap.objs.size],_,_,H1,rfl,I1.kept (t':=s1.toks) hk,RJ a (s1.heap.objs.size+1) s1.heap.objs.size,⟨⟨.none,he⟩,⟨_,hit,rfl,rfl⟩,Nat.succ_ne_self _⟩,fps hsz,q⟩
 ·subst ex
  cases r1 with
  | cons r rr =>
   cases rr
   obtain ⟨t,rfl⟩:=r
   refine v8 (begins_text x t) trivial fun h' he hit hsz hk=>wpAny_pyIter_enum he ?_
   exact ⟨s1.heap.objs.size+1, [s1.heap.objs.size+1,s1.heap.objs.size],_,_,H1,rfl,I1.kept (t':=s1.toks) hk,RG x t (s1.heap.objs.size+1) s1.heap.objs.size,⟨⟨.none,he⟩,⟨_,hit,rfl,rfl⟩,Nat.succ_ne_self _⟩,fps hsz,q⟩
theorem Td {K:PySem.W.Frag} {H:Hp} {F:Addr->Prop} {G:List Addr} {a:Addr} {vs:List V} {ts:List T} (h:SqT K H a vs) (r:RPs K H (Or1 F G) vs ts):JOk false K (IteT K a) (cQ ts) H F G:=by
 intro H' F' x
 have h':=SqT.keepE x h
 have r':=RPs.extG x r
 have hl:(cQ ts).length=ts.length:=by unfold cQ;simp
 refine ⟨fun i t e => ?_,⟨vs,h',by rw [hl];exact Paired.len r'⟩⟩
 unfold cQ at e
 obtain ⟨k,t',e1,e2,rfl⟩:=Y5 e
 have ek:k=i:=by
  have:=List.getElem?_range (n:=ts.length) (i:=i) (by
   rcases Nat.lt_or_ge i ts.length with h | h
   ·exact h
   ·rw [List.getElem?_eq_none h] at e2;cases e2)
  rw [this] at e1;exact (Option.some.inj e1).symm
 subst ek
 obtain ⟨v,hv,rv⟩:=Paired.at r' e2
 refine ⟨⟨vs,v,h',hv⟩,fun x H'' y => ?_⟩
 obtain ⟨T,u,rfl,hn,rfl,y⟩:=y
 have e2:=y vs h'
 rw [hv] at e2;cases e2
 exact ⟨fL.upd hn,RY.newTup hn (.cons (RP.int _) (.cons rv .nil))⟩
theorem Tf {K:PySem.W.Frag} {H:Hp} {F:Addr->Prop} {G:List Addr} (x:Str):JOk false K (IteS x) (cQ (fB x)) H F G:=by
 intro H' F' _
 have hs:(fB x).length=x.cps.size:=by unfold fB;simp
 have hl:(cQ (fB x)).length=x.cps.size:=by unfold cQ;simp [hs]
 refine ⟨fun i t e => ?_,hl⟩
 unfold cQ at e
 obtain ⟨k,t',e1,e2,rfl⟩:=Y5 e
 have hi:i<x.cps.size:=by
  rcases Nat.lt_or_ge i x.cps.size with h | h
  ·exact h
  ·rw [List.getElem?_eq_none (by rw [hs];exact h)] at e2;cases e2
 have ek:k=i:=by
  rw [List.getElem?_range (by rw [hs];exact hi)] at e1;exact (Option.some.inj e1).symm
 subst ek
 refine ⟨hi,fun v H'' y => ?_⟩
 obtain ⟨T,c,rfl,hn,rfl,hc⟩:=y
 have e3:(fB x)[k]? = some (.str ⟨#[c]⟩):=by unfold fB;simp [hc]
 rw [e3] at e2;cases e2
 exact ⟨fL.upd hn,RY.newTup hn (.cons (RP.int _) (.cons (RP.str _) .nil))⟩
def nM (ts:XTs):IT:=fun ρ Q=>ts ρ fun ps ρ1=>cA ps ρ1 fun ts ρ2=>match ts with
 | [t]=>match bK t with
  | some ts=>Q (cQ ts) ρ2
  | none=>False
 | _=>False
theorem Tg {t:T} {ts:List T} (e:bK t=some ts):t = .list ts∨t = .tuple ts ∨ ∃ x,t = .str x∧ts=fB x∧x.cps.size≤1000000:=by
 cases t with
 | list ts'=>cases e;exact .inl rfl
 | tuple ts'=>cases e;exact .inr (.inl rfl)
 | str x =>
  simp only [bK] at e
  split at e
  ·rename_i h;cases e;exact .inr (.inr ⟨x,rfl,rfl,h⟩)
  ·cases e
 | _=>cases e
def SzOk (K:PySem.W.Frag) (H:Hp):Prop:=(∀ a xs,SqL K H a xs->xs.length≤sizeLine) ∧ ∀ a xs,SqT K H a xs->xs.length≤sizeLine
theorem PA.sz {X:Cx} {es:List Expr} {t:TA} (h:PA X es t):PA X es (fun σ H Q=>t σ H fun vs H1=>SzOk X.K H1->Q vs H1) :=
 ⟨fun pos pins s σ H Q I q=>thn (h.run pos pins s σ H _ I q) fun us s' ⟨vs,H',I',r,q⟩=>⟨vs,H',I',r,q ⟨fun a xs h=>(I'.list h).choose_spec.2.2,fun a xs h=>(I'.tuple h).choose_spec.2.2⟩⟩⟩
theorem PE.sz {X:Cx} {e:Expr} {t:TE} (h:PE X e t):PE X e (fun σ H Q=>t σ H fun v H1=>SzOk X.K H1->Q v H1) :=
 ⟨fun pins s σ H Q I q=>thn (h.run pins s σ H _ I q) fun us s' ⟨vs,H',I',r,q⟩=>⟨vs,H',I',r,q ⟨fun a xs h=>(I'.list h).choose_spec.2.2,fun a xs h=>(I'.tuple h).choose_spec.2.2⟩⟩⟩
theorem Ii (ts:List T):(cQ ts).length=ts.length:=by unfold cQ;simp
theorem Z5 {X:Cx} {e:Expr} {ts:XTs} {p pos tpos:Pos} {elts:List Expr} {kk:Nat} (hg:Gl X "enumerate") (hm:X.mg "enumerate" = none) (ha:EXs X [e] ts) (hs:starEach [e] X.env=[(false,eval e X.env)]:=by rfl) :
  IX false X (.Tuple elts kk tpos) (.Call (.Name "enumerate" p) [e] [] pos) (nM ts):=by
 refine ⟨PI.imp (WD hg hm (PA.sz ha.pa) hs) ?_⟩
 rintro σ H R ⟨ρ,fp,G,Qa,R0,h,fin⟩
 refine ⟨ρ,fp,G,_,R0,h,fun vs ps A H1 ρ1 fp1 hl R1 r1 nd1 ng1 x1 h1 sz => ?_⟩
 obtain ⟨ts,ρ2,fp2,R2,q2,i2,h2⟩:=wQ R0.g0 r1 R1 (fun a z=>z) (fun j o e=>⟨o,e⟩) ng1 nd1 h1
 have x2:Ext H (Fo fp) H1 (Fo fp2):=x1.or.weak (fun _ z=>z) i2
 split at h2
 ·rename_i t
  split at h2
  ·rename_i us e
   cases q2 with
   | cons q q3 =>
    cases q3
    rcases Tg e with rfl | rfl | ⟨x,rfl,rfl,hx⟩
    ·obtain ⟨a,vs,rfl,sl,rp⟩:=q.stL
     exact .inl ⟨a,vs,rfl,sl.sq,fin _ _ H1 ρ2 fp2 R2 (W9 sl rp) (by rw [Ii, ← Paired.len rp];exact sz.1 _ _ sl.sq) x2 h2⟩
    ·obtain ⟨a,vs,rfl,sl,rp⟩:=q.tupE
     exact .inr (.inl ⟨a,vs,rfl,sl,fin _ _ H1 ρ2 fp2 R2 (Td sl rp) (by rw [Ii, ← Paired.len rp];exact sz.2 _ _ sl) x2 h2⟩)
    ·exact .inr (.inr ⟨x,by rw [q.strE],fin _ _ H1 ρ2 fp2 R2 (Tf x) (by rw [Ii];unfold fB;simp;rw [sizeLine_eq];omega) x2 h2⟩)
  ·exact h2.elim
 ·exact h2.elim
def GJ (ts:XTs):IT:=fun ρ Q=>ts ρ fun ps ρ1=>cA ps ρ1 fun ts ρ2=>match ts with
 | [.list ts, .list us]=>Q (DW ts us) ρ2
 | [.tuple ts, .tuple us]=>Q (DW ts us) ρ2
 | _=>False
end
end DL
namespace DL
open PySem PySem.Spec L2
open PyProof.Rows hiding St
variable [Tbs] [Bas]
section
variable {K:PySem.W.Frag} {σ : St} {H H1:Hp} {fp:Nat->List Addr} {ρ : aM} {v:V} {o o' : O} {j:Nat} {a:Addr} {u u' : HO} {A G:List Addr}
theorem RS.mut (R:RS K σ H ρ fp G) (e : ρ[j]? = some (some o)) (hv : σ[j]? = some (some v)) (hf:fp j=[a]) (hu:H a=some u) (mu:Mu (some u)) (r:RO K (L2.upd H a u') (Or1 (Fo fp) G) v o' [a]) :
  RS K σ (L2.upd H a u') (ρ.set j (some o')) fp G∧Ext H (Fo fp) (L2.upd H a u') (Fo fp):=by
 have hj:j<ρ.length:=(List.getElem?_eq_some_iff.mp e).1
 have ha:Fo fp a:=⟨j,by rw [hf];exact List.mem_singleton.mpr rfl⟩
 have x:Ext H (Fo fp) (L2.upd H a u') (Fo fp):=fW hu mu ha fun _ z=>z
 refine ⟨⟨⟨fun i w h => ?_,fun i h => ?_,R.dj,R.nd,R.gf,fun b m => ?_,by rw [List.length_set];exact R.len,x.tabs R.tb⟩,R.bs.trans (fW hu mu ⟨.inl ha,fun z=>R.gf a (R.g0 a z) ha⟩ fun _ z=>z),R.g0⟩,x⟩
 ·rw [aM.get_set] at h
  by_cases q:j=i
  ·subst q
   rw [if_pos rfl,if_pos hj] at h
   cases h
   exact ⟨v,hv,by rw [hf];exact r⟩
  ·rw [if_neg q] at h
   obtain ⟨y,hy,r'⟩:=R.ex i w h
   refine ⟨y,hy,r'.imp (fun v t z=>(z.ext (x.addG G))) (fun b m w h _ => ?_) (fun v e z=>z.ext (x.addG G)) (fun v e z=>z.ext (x.addG G)) (fun a o u e=>x.frzs a o _ e) (fun v e z=>z.ext (x.addG G)) (fun _ _ q=>q.keepE x) (fun v e z=>z.ext (x.addG G))⟩
   rw [upd_ne]
   ·exact h
   ·rintro rfl
    exact q (R.dj j i b (by rw [hf];exact List.mem_singleton.mpr rfl) m)
 ·by_cases q:i=j
  ·subst q
   exact absurd (by rw [aM.get_set,if_pos rfl,if_pos hj]) (h o')
  ·refine R.non i fun o'' z=>h o'' ?_
   rw [aM.get_set,if_neg fun y=>q y.symm]
   exact z
 ·obtain ⟨w,h⟩:=R.gi b m
  by_cases q:b=a
  ·exact ⟨u',by rw [q];exact upd_same⟩
  ·exact ⟨w,by rw [upd_ne q];exact h⟩
theorem RS.lstE {ts:List T} (R:RS K σ H ρ fp G) (e : ρ[j]? = some (some (.lst ts))) : ∃ a vs,σ[j]? = some (some (.ref a))∧fp j=[a]∧H a=some (.lst vs)∧RPs K H (Or1 (Fo fp) G) vs ts:=by
 obtain ⟨v,hv,a,vs,rfl,h1,h2,h3⟩:=R.ex j _ e
 exact ⟨a,vs,hv,h1,h2,h3⟩
end
def gY (ρ : aM) (j:Nat) (Q:List T->Prop):Prop:=match ρ[j]? with
 | some (some (.lst ts))=>Q ts
 | _=>False
theorem oH {ρ : aM} {j:Nat} {Q:List T->Prop} (h:gY ρ j Q) : ∃ ts,ρ[j]? = some (some (.lst ts))∧Q ts:=by
 unfold gY at h
 split at h
 ·exact ⟨_,by assumption,h⟩
 ·exact h.elim
def cX (j:Nat) (te:XT):XT:=fun ρ Q=>gY ρ j fun _=>te ρ fun p ρ1=>fV p ρ1 fun y ρ2=>gY ρ2 j fun ts=>ts.length<16777216∧Q (.val (.pure .none)) (ρ2.set j (some (.lst (ts++[y]))))
def eU (j:Nat) (te:XT):XT:=fun ρ Q=>gY ρ j fun _=>te ρ fun p ρ1=>match p.get ρ1 with
 | some (.lst us)=>gY ρ1 j fun ts=>ts.length+us.length≤16777216∧Q (.val (.pure .none)) (ρ1.set j (some (.lst (ts++us))))
 | _=>False
def Ow (j:Nat) (te:XT):XT:=fun ρ Q=>gY ρ j fun _=>te ρ fun p ρ1=>match p.get ρ1 with
 | some (.pure (.int i))=>gY ρ1 j fun ts=>match ixN ts.length i with
  | some k=>match ts[k]? with
   | some y=>Q (.val (.pure y)) (ρ1.set j (some (.lst (ts.eraseIdx k))))
   | none=>False
  | none=>False
 | _=>False
def tPop (j:Nat):XT:=fun ρ Q=>gY ρ j fun ts=>match ts[ts.length - 1]? with
 | some y=>Q (.val (.pure y)) (ρ.set j (some (.lst ts.dropLast)))
 | none=>False
def gh (j:Nat) (te ti:XT):ST:=fun D ρ=>te ρ fun p ρ1=>fV p ρ1 fun y ρ2=>gY ρ2 j fun _=>ti ρ2 fun q ρ3=>match q.get ρ3 with
 | some (.pure (.int k))=>gY ρ3 j fun ts=>match ixN ts.length k with
  | some m=>D.nx (ρ3.set j (some (.lst (ts.set m y))))
  | none=>False
 | _=>False
section
variable {X:Cx} {x:Str} {e:Expr} {te ti:XT} {px apos cpos pos:Pos}
theorem Paired.dropL {α β : Type} {G : α->β->Prop} : ∀ {l:List α} {r:List β},Paired G l r->Paired G l.dropLast r.dropLast
 | _,_, .nil => .nil
 | _,_, .cons _ .nil => .nil
 | _,_, .cons h (.cons k t) => .cons h (Paired.dropL (.cons k t))
theorem v9 (j:Nat) (hN:X.N[j]? = some x) (he:EX X e te)
  (hv:Vis X.env.scope x:=by first | exact Or.inl rfl | exact Or.inr (Or.inl rfl) | exact Or.inr (Or.inr rfl)) (hd:(x == ("__debug__" : Str))=false:=by decide) (hcd:(x == ("__classdict__" : Str))=false:=by decide)
  (hbase:attributeBase (.Name x px) "append" X.env (eval (.Name x px) X.env)=eval (.Name x px) X.env:=by rfl)
  (hfew:((backTo cpos (starEach [e] X.env)).all (fun x => !x.1) && (backToKw cpos (keywordEach [] X.env)).all (fun x=>x.1.isSome)
   && decide (([e]:List Expr).length+([]:List Keyword).length+(if ([]:List Keyword).isEmpty then 0 else 1)<30))=true:=by rfl)
  (hline:(apos.endLine == cpos.line)=true:=by rfl) (hs:starEach [e] X.env=(false,eval e X.env) :: starEach [] X.env:=by rfl) (hplain:(backTo cpos (starEach [] X.env)).any (·.1)=false:=by rfl) :
  EX X (.Call (.Attribute (.Name x px) "append" apos) [e] [] cpos) (cX j te):=by
 refine ⟨PE.imp (pe_bm PySem.F.plainAttrs_list PySem.F.slot_list_append PySem.F.type_list_append mt_append (pe_var hN hv hd hcd) (pa_cons he.pe pa_nil hs) hbase hfew hline hs hplain) ?_⟩
 rintro σ H Q ⟨ρ,fp,G,Qa,R,h,fin⟩
 obtain ⟨ts0,e0,h⟩:=oH h
 obtain ⟨a,vs0,hv0,f0,h0,r0⟩:=R.lstE e0
 refine ⟨.ref a,hv0, .inl ⟨rfl,_,SqL.of h0⟩,ρ,fp,G,_,R,h,fun v p A H1 ρ1 fp1 R1 r1 x1 h1 => ?_⟩
 obtain ⟨y,ρ2,fp2,R2,r2,i2,h2⟩:=jR R1 r1 h1
 obtain ⟨ts,e2,hz,h2⟩:=oH h2
 obtain ⟨b,vs,hv2,f2,hb,rb⟩:=R2.lstE e2
 rw [hv0] at hv2;cases hv2
 refine ⟨a,vs,v,rfl,rfl,hb,by rw [Paired.len rb,sizeLine_eq];exact hz, ?_⟩
 have x2:Ext H (Fo fp) H1 (Fo fp2):=x1.or.weak (fun _ z=>z) i2
 have ux:Ext H1 (Fo fp2) (upd H1 a (.lst (vs++[v]))) (Fo fp2):=fW hb trivial ⟨j,by rw [f2];exact List.mem_singleton.mpr rfl⟩ fun _ z=>z
 obtain ⟨R3,x3⟩:=R2.mut (u' := .lst (vs++[v])) (o' := .lst (ts++[y])) e2 hv0 f2 hb trivial ⟨a,_,rfl,rfl,upd_same,RPs.extG ux (Paired.app rb (.cons r2 .nil))⟩
 exact fin .non (.val (.pure .none)) [] _ _ fp2 R3 (lO RP.non) ((x2.trans x3).weak (fun _ z=>z) fun a z=>z.elim (fun q=>q) fun m=>(List.not_mem_nil m).elim) h2
theorem WF (j:Nat) (hN:X.N[j]? = some x) (he:EX X e te)
  (hv:Vis X.env.scope x:=by first | exact Or.inl rfl | exact Or.inr (Or.inl rfl) | exact Or.inr (Or.inr rfl)) (hd:(x == ("__debug__" : Str))=false:=by decide) (hcd:(x == ("__classdict__" : Str))=false:=by decide)
  (hbase:attributeBase (.Name x px) "pop" X.env (eval (.Name x px) X.env)=eval (.Name x px) X.env:=by rfl)
  (hfew:((backTo cpos (starEach [e] X.env)).all (fun x => !x.1) && (backToKw cpos (keywordEach [] X.env)).all (fun x=>x.1.isSome)
   && decide (([e]:List Expr).length+([]:List Keyword).length+(if ([]:List Keyword).isEmpty then 0 else 1)<30))=true:=by rfl)
  (hline:(apos.endLine == cpos.line)=true:=by rfl) (hs:starEach [e] X.env=(false,eval e X.env) :: starEach [] X.env:=by rfl) (hplain:(backTo cpos (starEach [] X.env)).any (·.1)=false:=by rfl) :
  EX X (.Call (.Attribute (.Name x px) "pop" apos) [e] [] cpos) (Ow j te):=by
 refine ⟨PE.imp (pe_bm PySem.F.plainAttrs_list PySem.F.slot_list_pop PySem.F.type_list_pop mt_popAt (pe_var hN hv hd hcd) (pa_cons (PE.sz he.pe) pa_nil hs) hbase hfew hline hs hplain) ?_⟩
 rintro σ H Q ⟨ρ,fp,G,Qa,R,h,fin⟩
 obtain ⟨ts0,e0,h⟩:=oH h
 obtain ⟨a,vs0,hv0,f0,h0,r0⟩:=R.lstE e0
 refine ⟨.ref a,hv0, .inl ⟨rfl,_,SqL.of h0⟩, ?_⟩
 show LX X.K te σ H fun v H1=>SzOk X.K H1->rPopAt (.ref a) [v] H1 Q
 refine ⟨ρ,fp,G,_,R,h,fun v p A H1 ρ1 fp1 R1 r1 x1 h1 sz => ?_⟩
 split at h1
 ·rename_i i ep
  obtain ⟨ts,e2,h2⟩:=oH h1
  obtain ⟨b,vs,hv2,f2,hb,rb⟩:=R1.lstE e2
  rw [hv0] at hv2;cases hv2
  have ev:v = .int i:=RP.intE (r1.rw0 R1 ep)
  subst ev
  split at h2
  ·rename_i k ek
   split at h2
   ·rename_i y ey
    obtain ⟨q1,q2,q3,q4⟩:=ixN_seq ek
    have hl:=Paired.len rb
    obtain ⟨w,hw,rw_⟩:=Paired.at rb ey
    have szv:=sz.1 _ _ (SqL.of hb)
    rw [sizeLine_eq] at szv
    refine ⟨a,vs,i,k,w,rfl,rfl,hb,by omega,by omega,by rw [hl];exact q1,hw, ?_⟩
    have ux:Ext H1 (Fo fp1) (upd H1 a (.lst (vs.eraseIdx k))) (Fo fp1):=fW hb trivial ⟨j,by rw [f2];exact List.mem_singleton.mpr rfl⟩ fun _ z=>z
    obtain ⟨R3,x3⟩:=(R1.sub (G':=G) fun a m=>List.mem_append_right _ m).mut (u' := .lst (vs.eraseIdx k)) (o' := .lst (ts.eraseIdx k)) e2 hv0 f2 hb trivial
     ⟨a,_,rfl,rfl,upd_same,RPs.weak (RPs.extG ux (Paired.eraseP k rb)) fun a z=>z.imp (fun q=>q) (List.mem_append_right _)⟩
    exact fin w (.val (.pure y)) [] _ _ fp1 R3 (lO ((rw_.ext (ux.addG (A++G))).weak fun a z=>z.imp (fun q=>q) (List.mem_append_right _))) ((x1.or.trans x3).weak (fun _ z=>z) fun a z=>z.elim (fun q=>q) fun m=>(List.not_mem_nil m).elim) h2
   ·exact h2.elim
  ·exact h2.elim
 ·exact h1.elim
theorem Ox {P:Nat->Bool} {ei:Expr} {spos:Pos} (j:Nat) (hN:X.N[j]? = some x) (he:EX X e te) (hi:EX X ei ti)
  (hv:Vis X.env.scope x:=by first | exact Or.inl rfl | exact Or.inr (Or.inl rfl) | exact Or.inr (Or.inr rfl)) (hd:(x == ("__debug__" : Str))=false:=by decide) (hcd:(x == ("__classdict__" : Str))=false:=by decide)
  (hs:swapsWithSole [.Subscript (.Name x px) ei spos] e pos.line X.env=pure false:=by rfl) (hw:swappedStores [.Subscript (.Name x px) ei spos] e X.env=pure none:=by rfl)
  (h1:(assignEach [.Subscript (.Name x px) ei spos] X.env).map (·.2)=[assign (.Subscript (.Name x px) ei spos) X.env]:=by rfl)
  (ha : ∀ v,assign (.Subscript (.Name x px) ei spos) X.env v=(do
   let ov ← holding [v] (eval (.Name x px) X.env)
   let iv ← holding [v,ov] (eval ei X.env)
   standAt spos
   holding [v,ov,iv] (setItem ov iv v)
   release [v,ov,iv] []):=by intro _;rfl) :
  SX X P (.Assign [.Subscript (.Name x px) ei spos] e pos) (gh j te ti):=by
 refine ⟨PS.imp (ps_asg he.pe (pg_sub (pe_var hN hv hd hcd) hi.pe set_list ha) hs hw h1) ?_⟩
 rintro D σ H ⟨ρ,fp,G,Da,R,h,f⟩
 refine ⟨ρ,fp,G,_,R,h,fun v p A H1 ρ1 fp1 R1 r1 x1 h1 => ?_⟩
 obtain ⟨y,ρ2,fp2,R2,r2,i2,h2⟩:=jR R1 r1 h1
 obtain ⟨ts0,e0,h2⟩:=oH h2
 obtain ⟨a,vs0,hv0,f0,h0,r0⟩:=R2.lstE e0
 have x2:Ext H (Fo fp) H1 (Fo fp2):=x1.or.weak (fun _ z=>z) i2
 refine ⟨.ref a,hv0,ρ2,fp2,G,_,R2,h2,fun u q B H3 ρ3 fp3 R3 r3 x3 h3 => ?_⟩
 split at h3
 ·rename_i k ek
  obtain ⟨ts,e3,h3⟩:=oH h3
  obtain ⟨b,vs,hv3,f3,hb,rb⟩:=(R3.sub (G':=G) fun a m=>List.mem_append_right _ m).lstE e3
  rw [hv0] at hv3;cases hv3
  have eu:u = .int k:=RP.intE (r3.rw0 R3 ek)
  subst eu
  split at h3
  ·rename_i m em
   refine ⟨a,vs,k,m,rfl,rfl,hb,by rw [Paired.len rb];exact em, ?_⟩
   have ux:Ext H3 (Fo fp3) (upd H3 a (.lst (vs.set m v))) (Fo fp3):=fW hb trivial ⟨j,by rw [f3];exact List.mem_singleton.mpr rfl⟩ fun _ z=>z
   have rv:RP X.K (upd H3 a (.lst (vs.set m v))) (Or1 (Fo fp3) G) v y:=((r2.ext (x3.or.addG G)).ext (ux.addG G))
   obtain ⟨R4,x4⟩:=(R3.sub (G':=G) fun a m=>List.mem_append_right _ m).mut (u' := .lst (vs.set m v)) (o' := .lst (ts.set m y)) e3 hv0 f3 hb trivial ⟨a,_,rfl,rfl,upd_same,Paired.setP rv m (RPs.extG ux rb)⟩
   exact f.nx σ _ _ fp3 R4 ((x2.trans x3.or).trans x4) .refl h3
  ·exact h3.elim
 ·exact h3.elim
end
def setV:St->List Nat->List V->St
 | σ,j :: js,v :: vs=>setV (σ.set j (some v)) js vs
 | σ,_,_=>σ
def zu:aM->List Nat->List O->aM
 | ρ,j :: js,o :: os=>zu (ρ.set j (some o)) js os
 | ρ,_,_=>ρ
theorem Mz {K:PySem.W.Frag} {H:Hp} {G:List Addr} {P:Nat->Bool} : ∀ {js:List Nat} {vs:List V} {os:List O} {Bs:List (List Addr)} {σ : St} {ρ : aM} {fp:Nat->List Addr},RS K σ H ρ fp (Bs.flatten++G)->(∀ a∈Bas.G0,a∈G)->RCs K H (Or1 (Fo fp) (Bs.flatten++G)) vs os Bs->Bs.flatten.Nodup->(∀ a∈Bs.flatten,a∉G) ->
  js.length=os.length->(∀ j∈js,j<ρ.length)->(∀ j∈js,P j=false) -> ∃ fp',RS K (setV σ js vs) H (zu ρ js os) fp' G∧(∀ a,Fo fp' a->Fo fp a∨a∈Bs.flatten)∧qZ P σ (setV σ js vs)
 | [],_,_,_,σ,ρ,fp,R,g,r,d,n,hl,_,_=>by
  cases r with
  | nil=>exact ⟨fp,R,fun a z => .inl z, .refl⟩
  | cons=>cases hl
 | j :: js,_,_,_,σ,ρ,fp,R,g,r,d,n,hl,hj,hp=>by
  cases r with
  | nil=>cases hl
  | @cons v o B vs os Bs r rr =>
   simp only [List.flatten_cons] at d n R r rr ⊢
   obtain ⟨dB,dBs,dd⟩:=List.nodup_append.mp d
   have R' : RS K σ H ρ fp (B++(Bs.flatten++G)):=by rw [List.append_assoc] at R;exact R
   have R1:=R'.put (v:=v) (o:=o) (hj j List.mem_cons_self) (r.weak fun a z=>z.imp (fun q=>q) fun m=>by rw [List.append_assoc];exact m) dB (fun a m z=>(List.mem_append.mp z).elim (fun z=>dd a m a z rfl) (n a (List.mem_append_left _ m))) (fun a z=>List.mem_append_right _ (g a z))
   obtain ⟨fp',R2,i2,p2⟩:=Mz (js:=js) (P:=P) R1 g (rr.weak fun a z=>by
    rcases z with z | z
    ·exact z.set.elim .inl fun m => .inr (by simp [m])
    ·exact .inr (by rw [List.append_assoc];exact List.mem_append_right _ z)) dBs (fun a m=>n a (List.mem_append_right _ m)) (Nat.succ.inj hl) (fun i m=>by rw [List.length_set];exact hj i (List.mem_cons_of_mem _ m)) fun i m=>hp i (List.mem_cons_of_mem _ m)
   refine ⟨fp',R2,fun a z => ?_,(TF (hp j List.mem_cons_self)).trans p2⟩
   rcases i2 a z with z | z
   ·exact z.set.imp (fun q=>q) fun m=>List.mem_append_left _ m
   ·exact .inr (List.mem_append_right _ z)
def uo (js:List Nat) (ts:XTs):ST:=fun D ρ=>ts ρ fun ps ρ1=>rE (js.map fun _=>true) ps ρ1 fun os _ ρ2=>(js.all fun j=>Nat.blt j ρ2.length)=true∧D.nx (zu ρ2 js os)
theorem Y6 {K:PySem.W.Frag} {P:Nat->Bool} {js:List Nat} {ts:XTs} {n:Nat} (hn:js.length=n) (hp:(js.all fun j => !P j)=true) {D:Ends} {σ : St} {H:Hp} (h:LS K P (uo js ts) D σ H):LA K n ts σ H fun vs H1=>vs.length=n∧D.nx (setV σ js vs) H1:=by
 obtain ⟨ρ,fp,G,Da,R,h,f⟩:=h
 refine ⟨ρ,fp,G,_,R,h,fun vs ps A H1 ρ1 fp1 hl R1 r1 nd1 ng1 x1 h1=>⟨hl, ?_⟩⟩
 obtain ⟨os,js',ρ2,fp2,Bs,R2,r2,d2,n2,i2,_,_,_,hall,h2⟩:=zr r1 R1 R.g0 (fun a z=>z) ng1 nd1 h1
 obtain ⟨fp3,R3,i3,p3⟩:=Mz (P:=P) R2 R.g0 r2 d2 n2 (by rw [hn, ← hl,r2.len.1]) (fun j m=>Nat.le_of_ble_eq_true (List.all_eq_true.mp hall j m)) fun j m=>by simpa using List.all_eq_true.mp hp j m
 refine f.nx _ H1 _ fp3 R3 (x1.weak (fun _ z=>z) fun a z => ?_) p3 h2
 exact i2 a (i3 a z)
section
variable {X:Cx} {P:Nat->Bool} {x y z:Str} {a b c:Expr} {ts:XTs} {px py pz pt pos:Pos}
theorem N5 {kt k2 pt2} (i j:Nat) (hc:X.calm=true) (hN:X.N.Nodup) (hi:X.N[i]? = some x) (hj:X.N[j]? = some y) (hx:X.env.scope.names.lookup x=some .local) (hy:X.env.scope.names.lookup y=some .local) (ha:EXs X [a,b] ts)
  (hw:swappedStores [.Tuple [.Name x px, .Name y py] kt pt] (.Tuple [a,b] k2 pt2) X.env=pure (some [x,y])) (hij:i≠j:=by decide) (hp:(([i,j]:List Nat).all fun j => !P j)=true:=by rfl)
  (hs:swapsWithSole [.Tuple [.Name x px, .Name y py] kt pt] (.Tuple [a,b] k2 pt2) pos.line X.env=pure false:=by rfl) :
  SX X P (.Assign [.Tuple [.Name x px, .Name y py] kt pt] (.Tuple [a,b] k2 pt2) pos) (uo [i,j] ts):=by
 refine ⟨PS.imp (ps_par hc hN hi hj hij hx hy ha.pa hw hs) fun D σ H h => ?_⟩
 obtain ⟨ρ,fp,G,Qa,R,h,f⟩:=Y6 (n:=2) rfl hp h
 refine ⟨ρ,fp,G,Qa,R,h,fun vs ps A H1 ρ1 fp1 hl R1 r1 nd1 ng1 x1 h1 => ?_⟩
 obtain ⟨_,q⟩:=f vs ps A H1 ρ1 fp1 hl R1 r1 nd1 ng1 x1 h1
 match vs,hl with
 | [v,w],_=>exact ⟨v,w,rfl,q⟩
theorem Z6 {kt k2 pt2} (i j l:Nat) (hc:X.calm=true) (hN:X.N.Nodup) (hi:X.N[i]? = some x) (hj:X.N[j]? = some y) (hl:X.N[l]? = some z) (hx:X.env.scope.names.lookup x=some .local) (hy:X.env.scope.names.lookup y=some .local) (hz:X.env.scope.names.lookup z=some .local)
  (ha:EXs X [a,b,c] ts)
  (hw:swappedStores [.Tuple [.Name x px, .Name y py, .Name z pz] kt pt] (.Tuple [a,b,c] k2 pt2) X.env=pure (some [x,y,z])) (hij:i≠j:=by decide) (hil:i≠l:=by decide) (hjl:j≠l:=by decide) (hp:(([i,j,l]:List Nat).all fun j => !P j)=true:=by rfl)
  (hs:swapsWithSole [.Tuple [.Name x px, .Name y py, .Name z pz] kt pt] (.Tuple [a,b,c] k2 pt2) pos.line X.env=pure false:=by rfl) :
  SX X P (.Assign [.Tuple [.Name x px, .Name y py, .Name z pz] kt pt] (.Tuple [a,b,c] k2 pt2) pos) (uo [i,j,l] ts):=by
 refine ⟨PS.imp (ps_par3 hc hN hi hj hl hij hil hjl hx hy hz ha.pa hw hs) fun D σ H h => ?_⟩
 obtain ⟨ρ,fp,G,Qa,R,h,f⟩:=Y6 (n:=3) rfl hp h
 refine ⟨ρ,fp,G,Qa,R,h,fun vs ps A H1 ρ1 fp1 hl R1 r1 nd1 ng1 x1 h1 => ?_⟩
 obtain ⟨_,q⟩:=f vs ps A H1 ρ1 fp1 hl R1 r1 nd1 ng1 x1 h1
 match vs,hl with
 | [u,v,w],_=>exact ⟨u,v,w,rfl,q⟩
end
end DL
namespace DL
open PySem PySem.Spec L2
open PyProof.Rows hiding St
variable [Tbs] [Bas]
theorem Ed {P:Program} {w:World} {h:Heap} : ∀ {es:List DictEntry} {vs:List (Key×Value)},Pairs (mixKind P w) es vs -> ∃ as,ReadsAll h (es.map (·.key)) (vs.map fun p=>rD p.1) as
 | _,_, .nil=>⟨_, .nil⟩
 | _,_, .cons (e:=e) (kv:=kv) hk hv r=>by
  obtain ⟨as,ih⟩:=Ed (h:=h) r
  rcases keyIs_shape hk with ⟨i,t,e1,e2⟩ | ⟨x,t,e1,e2⟩
  ·have q:Reads h e.key (rD kv.1) []:=by rw [e2,e1];exact .int i t
   exact ⟨_, .cons q ih⟩
  ·have q:Reads h e.key (rD kv.1) []:=by rw [e2,e1];exact .str x t
   exact ⟨_, .cons q ih⟩
theorem rZ {P:Program} {w:World} : ∀ {es:List DictEntry} {vs:List (Key×Value)},Pairs (mixKind P w) es vs->es.map (·.val)=vs.map (·.2)
 | _,_, .nil=>rfl
 | _,_, .cons hk hv r=>by simp only [List.map_cons];rw [hv,rZ r]
theorem N6 : ∀ {kvs:List (Key×V)} {vs:List (Key×Value)},KV kvs vs->Vals (kvs.map (·.2)) (vs.map (·.2))∧kvs.map (·.1)=vs.map (·.1)
 | _,_, .nil=>⟨.nil,rfl⟩
 | _,_, .cons h r=>by
  obtain ⟨h1,h2⟩:=N6 r
  exact ⟨.cons h.2 h1,by simp only [List.map_cons];rw [h.1,h2]⟩
theorem zipT : ∀ {kvs:List (Key×V)} {ts:List T},kvs.length=ts.length->(List.zipWith (fun (p:Key×V) (t:T)=>(rD p.1,t)) kvs ts).map (·.1)=kvs.map (fun p=>rD p.1)∧(List.zipWith (fun (p:Key×V) (t:T)=>(rD p.1,t)) kvs ts).map (·.2)=ts
 | [], [],_=>⟨rfl,rfl⟩
 | [],_ :: _,h=>by cases h
 | _ :: _, [],h=>by cases h
 | k :: kvs,t :: ts,h=>by
  obtain ⟨h1,h2⟩:=zipT (kvs:=kvs) (ts:=ts) (Nat.succ.inj h)
  exact ⟨by simp only [List.zipWith_cons_cons,List.map_cons,h1],by simp only [List.zipWith_cons_cons,List.map_cons,h2]⟩
section
variable {X:Cx} {pins:List (Addr×Obj)} {σ : St} {H:Hp} {s:Shared}
mutual
theorem RV.reads (I:Inv X pins σ H s) : ∀ {v:V} {t:T} {as:List Addr} {u:Value},RV X.K H v t as->RelV v u -> ∃ bs,Reads s.heap u t bs
 | _,_,_,_, .non,r=>by cases r;exact ⟨_, .none⟩
 | _,_,_,_, .bl b,r=>by cases r;exact ⟨_, .bool b⟩
 | _,_,_,_, .int i,r=>by obtain ⟨t,rfl⟩:=r;exact ⟨_, .int i t⟩
 | _,_,_,_, .str x,r=>by obtain ⟨t,rfl⟩:=r;exact ⟨_, .str x t⟩
 | _,_,_,_, .tup h q,r=>by
  cases r
  obtain ⟨its,rv,⟨o,ho,hc,n,hd⟩,_⟩:=I.tuple h.t
  obtain ⟨bs,z⟩:=RVs.reads I q rv
  exact ⟨_, .tuple ho hc hd (by simpa using z)⟩
 | _,_,_,_, .lst h q,r=>by
  cases r
  obtain ⟨its,rv,⟨o,n,ho,hc,_,hd⟩,_⟩:=I.list (.inl h)
  obtain ⟨bs,z⟩:=RVs.reads I q rv
  exact ⟨_, .list ho hc hd (by simpa using z)⟩
 | _,_,_,_, .lstK h1 h2 h3 h4 h5 h6 q,r=>by
  cases r
  obtain ⟨bs,z⟩:=RVs.reads I q h6
  exact ⟨_, .list (I.kIn _ _ h1) h2 h4 z⟩
 | _,_,_,_, .dct (kvs:=kvs) (ts:=ts) h q,r=>by
  cases r
  obtain ⟨_,hs,vs,kv,o,es,ep,h1,h2,h3,h4,h5,_⟩:=dk_rd I.hok h
  obtain ⟨v1,v2⟩:=N6 kv
  obtain ⟨bs,z⟩:=RVs.reads I q v1
  obtain ⟨as,zk⟩:=Ed (h:=s.heap) h5
  have hl:kvs.length=ts.length:=by have:=RVs.length q;simpa using this
  obtain ⟨e1,e2⟩:=zipT hl
  refine ⟨_, .dict (as:=as) (bs:=bs) h1 h2.1 h3 ?_ ?_⟩
  ·have : vs.map (fun p=>rD p.1)=kvs.map (fun p=>rD p.1):=by
    have:=congrArg (List.map rD) v2
    simp only [List.map_map] at this
    exact this.symm
   rw [this] at zk
   exact e1▸zk
  ·rw [rZ h5]
   exact e2.symm▸z
theorem RVs.reads (I:Inv X pins σ H s) : ∀ {vs:List V} {ts:List T} {as:List Addr} {us:List Value},RVs X.K H vs ts as->Vals vs us -> ∃ bs,ReadsAll s.heap us ts bs
 | _,_,_,_, .nil,r=>by cases r;exact ⟨_, .nil⟩
 | _,_,_,_, .cons h q,r=>by
  cases r with
  | cons r1 r2 =>
   obtain ⟨bs,z⟩:=RV.reads I h r1
   obtain ⟨cs,y⟩:=RVs.reads I q r2
   exact ⟨_, .cons z y⟩
end
theorem RW.reads (I:Inv X pins σ H s) {F:Addr->Prop} {v:V} {o:O} {u:Value} (h:RW X.K H F v o) (fz:o.fz) (r:RelV v u) : ∃ bs,Reads s.heap u o.frz bs:=let ⟨_,q⟩:=h.view fz;q.reads I r
end
section
variable {A:Around} {s:Shared}
open PySem.SeqAt
theorem Ef (b:Str) (u:Tok) (l:Addr) (c:Value) (es:Array DictEntry) (n:Nat) (dd:Option Addr) (sl:Array (Option Value)) :
  Meets (Builtin.«str.__eq__» ⟨[.str b u, .ref l], []⟩) (fun _ R s=>s.heap.get? l=some { cls:=c,dict:=dd,data := .dict es n,slots:=sl }∧R (.ok (.ret .notImplemented)) s) :=
 .of_wp fun prog w A R s h=>by obtain ⟨hp,g,d,tk,os⟩:=s;obtain ⟨hl,h⟩:=h;wp_walk using AutoSeq1.wpAny_loadPart' hl,wpAny_load hl;exact ⟨_,rfl,h⟩
theorem Eh (b:Str) (u:Tok) (l:Addr) (es:Array DictEntry) (n:Nat) (dd:Option Addr) (sl:Array (Option Value)) :
  Meets (Builtin.«dict.__eq__» ⟨[.ref l, .str b u], []⟩) (fun _ R s=>s.heap.get? l=some { cls := .type "dict",dict:=dd,data := .dict es n,slots:=sl }∧R (.ok (.ret .notImplemented)) s) :=
 .of_wp fun prog w A R s h=>by obtain ⟨hp,g,d,tk,os⟩:=s;obtain ⟨hl,h⟩:=h;have f1:=F.sub_str_dict;wp_walk using AutoSeq1.wpAny_loadPart' hl,wpAny_load hl;exact ⟨_,rfl,h⟩
def Bl (h:Heap) (a:Addr):Prop := ∃ o es n,h.get? a=some o∧o.cls = .type "dict" ∧ o.data = .dict es n
theorem RcAt.str_dict {l:Addr} (b:Str) (u:Tok) (hl:Bl s.heap l) (hu:A.units<cLine):RcAt A s (.str b u) (.ref l) false:=fun prog w E Q h=>by
 obtain ⟨⟨cls,dd,data,sl⟩,es,n,ho,hc,hd⟩:=hl
 simp only at hc hd
 subst hc hd
 exact rc_eq_decline_or (k:=false) (typeIs_str s b u) ⟨_,ho,rfl⟩ (by decide) F.sub_dict_str F.slot_str_eq F.slot_dict_eq_refl
  (fun _ hq=>call_meets F.slot_str_eq (typeIs_str s b u) F.entry_str_eq (F.args_str_eq_2 _ _) (Ef b u l (.type "dict") es n dd sl) ⟨ho,hq⟩)
  (fun _ hq=>call_meets F.slot_dict_eq_refl ⟨_,ho,rfl⟩ F.entry_dict_eq (F.args_dict_eq_2 _ _) (Eh b u l es n dd sl) ⟨ho,hq⟩)
  (fun _ hq=>wpAny_of_eq (rfl:isSame (.str b u) (.ref l)=pure false) hq) (.inr hu) h
theorem RcAt.dict_str {l:Addr} (b:Str) (u:Tok) (hl:Bl s.heap l) (hu:A.units<cLine):RcAt A s (.ref l) (.str b u) false:=fun prog w E Q h=>by
 obtain ⟨⟨cls,dd,data,sl⟩,es,n,ho,hc,hd⟩:=hl
 simp only at hc hd
 subst hc hd
 exact rc_eq_decline_or (k:=false) ⟨_,ho,rfl⟩ (typeIs_str s b u) (by decide) F.sub_str_dict F.slot_dict_eq F.slot_str_eq_refl
  (fun _ hq=>call_meets F.slot_dict_eq ⟨_,ho,rfl⟩ F.entry_dict_eq (F.args_dict_eq_2 _ _) (Eh b u l es n dd sl) ⟨ho,hq⟩)
  (fun _ hq=>call_meets F.slot_str_eq_refl (typeIs_str s b u) F.entry_str_eq (F.args_str_eq_2 _ _) (Ef b u l (.type "dict") es n dd sl) ⟨ho,hq⟩)
  (fun _ hq=>wpAny_of_eq (rfl:isSame (.ref l) (.str b u)=pure false) hq) (.inr hu) h
theorem EqAt.str_dict {l:Addr} (b:Str) (u:Tok) (hl:Bl s.heap l) (hu:A.units<cLine):EqAt A s (.str b u) (.ref l) false:=fun prog w E Q h=>by
 unfold eqBool
 refine wpAny_holding ?_
 refine wpAny_ite_split (fun hab=>absurd (eq_of_beq hab) nofun) (fun _ => ?_)
 exact wpAny_bind (RcAt.str_dict b u hl hu prog w E _ (wpAny_truthy_bool h))
theorem EqAt.dict_str {l:Addr} (b:Str) (u:Tok) (hl:Bl s.heap l) (hu:A.units<cLine):EqAt A s (.ref l) (.str b u) false:=fun prog w E Q h=>by
 unfold eqBool
 refine wpAny_holding ?_
 refine wpAny_ite_split (fun hab=>absurd (eq_of_beq hab) nofun) (fun _ => ?_)
 exact wpAny_bind (RcAt.dict_str b u hl hu prog w E _ (wpAny_truthy_bool h))
theorem Bm (l:Addr) (es:Array DictEntry) (n:Nat) (dd:Option Addr) (sl:Array (Option Value)) :
  Meets (Builtin.«dict.__eq__» ⟨[.ref l, .none], []⟩) (fun _ R s=>s.heap.get? l=some { cls := .type "dict",dict:=dd,data := .dict es n,slots:=sl }∧R (.ok (.ret .notImplemented)) s) :=
 .of_wp fun prog w A R s h=>by obtain ⟨hp,g,d,tk,os⟩:=s;obtain ⟨hl,h⟩:=h;have f1:=F.sub_NoneType_dict;wp_walk using AutoSeq1.wpAny_loadPart' hl,wpAny_load hl;exact ⟨_,rfl,h⟩
theorem Bo (b:Bool) (l:Addr) (es:Array DictEntry) (n:Nat) (dd:Option Addr) (sl:Array (Option Value)) :
  Meets (Builtin.«dict.__eq__» ⟨[.ref l, .bool b], []⟩) (fun _ R s=>s.heap.get? l=some { cls := .type "dict",dict:=dd,data := .dict es n,slots:=sl }∧R (.ok (.ret .notImplemented)) s) :=
 .of_wp fun prog w A R s h=>by obtain ⟨hp,g,d,tk,os⟩:=s;obtain ⟨hl,h⟩:=h;have f1:=F.sub_bool_dict;wp_walk using AutoSeq1.wpAny_loadPart' hl,wpAny_load hl;exact ⟨_,rfl,h⟩
theorem Bp (b:Bool) (l:Addr) (c:Value) (es:Array DictEntry) (n:Nat) (dd:Option Addr) (sl:Array (Option Value)) :
  Meets (Builtin.«int.__eq__» ⟨[.bool b, .ref l], []⟩) (fun _ R s=>s.heap.get? l=some { cls:=c,dict:=dd,data := .dict es n,slots:=sl }∧R (.ok (.ret .notImplemented)) s) :=
 .of_wp fun prog w A R s h=>by obtain ⟨hp,g,d,tk,os⟩:=s;obtain ⟨hl,h⟩:=h;wp_walk using AutoSeq1.wpAny_loadPart' hl,wpAny_load hl;exact ⟨_,rfl,h⟩
theorem Ei (b:Int) (u:Tok) (l:Addr) (es:Array DictEntry) (n:Nat) (dd:Option Addr) (sl:Array (Option Value)) :
  Meets (Builtin.«dict.__eq__» ⟨[.ref l, .int b u], []⟩) (fun _ R s=>s.heap.get? l=some { cls := .type "dict",dict:=dd,data := .dict es n,slots:=sl }∧R (.ok (.ret .notImplemented)) s) :=
 .of_wp fun prog w A R s h=>by obtain ⟨hp,g,d,tk,os⟩:=s;obtain ⟨hl,h⟩:=h;have f1:=F.sub_int_dict;wp_walk using AutoSeq1.wpAny_loadPart' hl,wpAny_load hl;exact ⟨_,rfl,h⟩
theorem Ek (b:Int) (u:Tok) (l:Addr) (c:Value) (es:Array DictEntry) (n:Nat) (dd:Option Addr) (sl:Array (Option Value)) :
  Meets (Builtin.«int.__eq__» ⟨[.int b u, .ref l], []⟩) (fun _ R s=>s.heap.get? l=some { cls:=c,dict:=dd,data := .dict es n,slots:=sl }∧R (.ok (.ret .notImplemented)) s) :=
 .of_wp fun prog w A R s h=>by obtain ⟨hp,g,d,tk,os⟩:=s;obtain ⟨hl,h⟩:=h;wp_walk using AutoSeq1.wpAny_loadPart' hl,wpAny_load hl;exact ⟨_,rfl,h⟩
theorem Bq (l b:Addr) (items:Array Value) (es:Array DictEntry) (n n2:Nat) (dd dd2:Option Addr) (sl sl2:Array (Option Value)) :
  Meets (Builtin.«dict.__eq__» ⟨[.ref l, .ref b], []⟩) (fun _ R s=>s.heap.get? l=some { cls := .type "dict",dict:=dd,data := .dict es n,slots:=sl }∧s.heap.get? b=some { cls := .type "list",dict:=dd2,data := .seq items n2,slots:=sl2 }∧R (.ok (.ret .notImplemented)) s) :=
 .of_wp fun prog w A R s h=>by obtain ⟨hp,g,d,tk,os⟩:=s;obtain ⟨hl,hb,h⟩:=h;have f1:=F.sub_list_dict;wp_walk using AutoSeq1.wpAny_loadPart' hl,wpAny_load hl,AutoSeq1.wpAny_loadPart' hb,wpAny_load hb;exact ⟨_,rfl,h⟩
theorem Br (b l:Addr) (items:Array Value) (es:Array DictEntry) (n2 n:Nat) (dd2 dd:Option Addr) (sl2 sl:Array (Option Value)) :
  Meets (Builtin.«list.__eq__» ⟨[.ref b, .ref l], []⟩) (fun _ R s=>s.heap.get? b=some { cls := .type "list",dict:=dd2,data := .seq items n2,slots:=sl2 }∧s.heap.get? l=some { cls := .type "dict",dict:=dd,data := .dict es n,slots:=sl }∧R (.ok (.ret .notImplemented)) s) :=
 .of_wp fun prog w A R s h=>by obtain ⟨hp,g,d,tk,os⟩:=s;obtain ⟨hb,hl,h⟩:=h;have f1:=F.sub_dict_list;wp_walk using AutoSeq1.wpAny_loadPart' hl,wpAny_load hl,AutoSeq1.wpAny_loadPart' hb,wpAny_load hb;exact ⟨_,rfl,h⟩
theorem yu (l b:Addr) (items:Array Value) (es:Array DictEntry) (n n2:Nat) (dd dd2:Option Addr) (sl sl2:Array (Option Value)) :
  Meets (Builtin.«dict.__eq__» ⟨[.ref l, .ref b], []⟩) (fun _ R s=>s.heap.get? l=some { cls := .type "dict",dict:=dd,data := .dict es n,slots:=sl }∧s.heap.get? b=some { cls := .type "tuple",dict:=dd2,data := .seq items n2,slots:=sl2 }∧R (.ok (.ret .notImplemented)) s) :=
 .of_wp fun prog w A R s h=>by obtain ⟨hp,g,d,tk,os⟩:=s;obtain ⟨hl,hb,h⟩:=h;have f1:=F.sub_tuple_dict;wp_walk using AutoSeq1.wpAny_loadPart' hl,wpAny_load hl,AutoSeq1.wpAny_loadPart' hb,wpAny_load hb;exact ⟨_,rfl,h⟩
theorem yw (b l:Addr) (items:Array Value) (es:Array DictEntry) (n2 n:Nat) (dd2 dd:Option Addr) (sl2 sl:Array (Option Value)) :
  Meets (Builtin.«tuple.__eq__» ⟨[.ref b, .ref l], []⟩) (fun _ R s=>s.heap.get? b=some { cls := .type "tuple",dict:=dd2,data := .seq items n2,slots:=sl2 }∧s.heap.get? l=some { cls := .type "dict",dict:=dd,data := .dict es n,slots:=sl }∧R (.ok (.ret .notImplemented)) s) :=
 .of_wp fun prog w A R s h=>by obtain ⟨hp,g,d,tk,os⟩:=s;obtain ⟨hb,hl,h⟩:=h;have f1:=F.sub_dict_tuple;wp_walk using AutoSeq1.wpAny_loadPart' hl,wpAny_load hl,AutoSeq1.wpAny_loadPart' hb,wpAny_load hb;exact ⟨_,rfl,h⟩
theorem RcAt.none_dict {l:Addr} (hl:Bl s.heap l) (hu:A.units<cLine):RcAt A s (.none) (.ref l) false:=fun prog w E Q h=>by
 obtain ⟨⟨cls,dd,data,sl⟩,es,n,ho,hc,hd⟩:=hl
 simp only at hc hd
 subst hc hd
 exact rc_eq_decline_or (k:=false) rfl ⟨_,ho,rfl⟩ (by decide) F.sub_dict_NoneType F.slot_NoneType_eq F.slot_dict_eq_refl
  (fun _ hq=>call_gives F.slot_NoneType_eq rfl F.entry_NoneType_eq (F.args_NoneType_eq_2 _ _) (NoneType___eq___none_ref_0 l) hq)
  (fun _ hq=>call_meets F.slot_dict_eq_refl ⟨_,ho,rfl⟩ F.entry_dict_eq (F.args_dict_eq_2 _ _) (Bm l es n dd sl) ⟨ho,hq⟩)
  (fun _ hq=>wpAny_of_eq (rfl:isSame (.none) (.ref l)=pure false) hq) (.inr hu) h
theorem RcAt.dict_none {l:Addr} (hl:Bl s.heap l) (hu:A.units<cLine):RcAt A s (.ref l) (.none) false:=fun prog w E Q h=>by
 obtain ⟨⟨cls,dd,data,sl⟩,es,n,ho,hc,hd⟩:=hl
 simp only at hc hd
 subst hc hd
 exact rc_eq_decline_or (k:=false) ⟨_,ho,rfl⟩ rfl (by decide) F.sub_NoneType_dict F.slot_dict_eq F.slot_NoneType_eq_refl
  (fun _ hq=>call_meets F.slot_dict_eq ⟨_,ho,rfl⟩ F.entry_dict_eq (F.args_dict_eq_2 _ _) (Bm l es n dd sl) ⟨ho,hq⟩)
  (fun _ hq=>call_gives F.slot_NoneType_eq_refl rfl F.entry_NoneType_eq (F.args_NoneType_eq_2 _ _) (NoneType___eq___none_ref_0 l) hq)
  (fun _ hq=>wpAny_of_eq (rfl:isSame (.ref l) (.none)=pure false) hq) (.inr hu) h
theorem EqAt.none_dict {l:Addr} (hl:Bl s.heap l) (hu:A.units<cLine):EqAt A s (.none) (.ref l) false:=fun prog w E Q h=>by
 unfold eqBool
 refine wpAny_holding ?_
 refine wpAny_ite_split (fun hab=>absurd (eq_of_beq hab) nofun) (fun _ => ?_)
 exact wpAny_bind (RcAt.none_dict hl hu prog w E _ (wpAny_truthy_bool h))
theorem EqAt.dict_none {l:Addr} (hl:Bl s.heap l) (hu:A.units<cLine):EqAt A s (.ref l) (.none) false:=fun prog w E Q h=>by
 unfold eqBool
 refine wpAny_holding ?_
 refine wpAny_ite_split (fun hab=>absurd (eq_of_beq hab) nofun) (fun _ => ?_)
 exact wpAny_bind (RcAt.dict_none hl hu prog w E _ (wpAny_truthy_bool h))
theorem RcAt.bool_dict {l:Addr} (b:Bool) (hl:Bl s.heap l) (hu:A.units<cLine):RcAt A s (.bool b) (.ref l) false:=fun prog w E Q h=>by
 obtain ⟨⟨cls,dd,data,sl⟩,es,n,ho,hc,hd⟩:=hl
 simp only at hc hd
 subst hc hd
 exact rc_eq_decline_or (k:=false) rfl ⟨_,ho,rfl⟩ (by decide) F.sub_dict_bool F.slot_bool_eq F.slot_dict_eq_refl
  (fun _ hq=>call_meets F.slot_bool_eq rfl F.entry_int_eq (F.args_int_eq_2 _ _) (Bp b l (.type "dict") es n dd sl) ⟨ho,hq⟩)
  (fun _ hq=>call_meets F.slot_dict_eq_refl ⟨_,ho,rfl⟩ F.entry_dict_eq (F.args_dict_eq_2 _ _) (Bo b l es n dd sl) ⟨ho,hq⟩)
  (fun _ hq=>wpAny_of_eq (rfl:isSame (.bool b) (.ref l)=pure false) hq) (.inr hu) h
theorem RcAt.dict_bool {l:Addr} (b:Bool) (hl:Bl s.heap l) (hu:A.units<cLine):RcAt A s (.ref l) (.bool b) false:=fun prog w E Q h=>by
 obtain ⟨⟨cls,dd,data,sl⟩,es,n,ho,hc,hd⟩:=hl
 simp only at hc hd
 subst hc hd
 exact rc_eq_decline_or (k:=false) ⟨_,ho,rfl⟩ rfl (by decide) F.sub_bool_dict F.slot_dict_eq F.slot_bool_eq_refl
  (fun _ hq=>call_meets F.slot_dict_eq ⟨_,ho,rfl⟩ F.entry_dict_eq (F.args_dict_eq_2 _ _) (Bo b l es n dd sl) ⟨ho,hq⟩)
  (fun _ hq=>call_meets F.slot_bool_eq_refl rfl F.entry_int_eq (F.args_int_eq_2 _ _) (Bp b l (.type "dict") es n dd sl) ⟨ho,hq⟩)
  (fun _ hq=>wpAny_of_eq (rfl:isSame (.ref l) (.bool b)=pure false) hq) (.inr hu) h
theorem EqAt.bool_dict {l:Addr} (b:Bool) (hl:Bl s.heap l) (hu:A.units<cLine):EqAt A s (.bool b) (.ref l) false:=fun prog w E Q h=>by
 unfold eqBool
 refine wpAny_holding ?_
 refine wpAny_ite_split (fun hab=>absurd (eq_of_beq hab) nofun) (fun _ => ?_)
 exact wpAny_bind (RcAt.bool_dict b hl hu prog w E _ (wpAny_truthy_bool h))
theorem EqAt.dict_bool {l:Addr} (b:Bool) (hl:Bl s.heap l) (hu:A.units<cLine):EqAt A s (.ref l) (.bool b) false:=fun prog w E Q h=>by
 unfold eqBool
 refine wpAny_holding ?_
 refine wpAny_ite_split (fun hab=>absurd (eq_of_beq hab) nofun) (fun _ => ?_)
 exact wpAny_bind (RcAt.dict_bool b hl hu prog w E _ (wpAny_truthy_bool h))
theorem RcAt.int_dict {l:Addr} (b:Int) (u:Tok) (hl:Bl s.heap l) (hu:A.units<cLine):RcAt A s (.int b u) (.ref l) false:=fun prog w E Q h=>by
 obtain ⟨⟨cls,dd,data,sl⟩,es,n,ho,hc,hd⟩:=hl
 simp only at hc hd
 subst hc hd
 exact rc_eq_decline_or (k:=false) (typeIs_int s b u) ⟨_,ho,rfl⟩ (by decide) F.sub_dict_int F.slot_int_eq F.slot_dict_eq_refl
  (fun _ hq=>call_meets F.slot_int_eq (typeIs_int s b u) F.entry_int_eq (F.args_int_eq_2 _ _) (Ek b u l (.type "dict") es n dd sl) ⟨ho,hq⟩)
  (fun _ hq=>call_meets F.slot_dict_eq_refl ⟨_,ho,rfl⟩ F.entry_dict_eq (F.args_dict_eq_2 _ _) (Ei b u l es n dd sl) ⟨ho,hq⟩)
  (fun _ hq=>wpAny_of_eq (rfl:isSame (.int b u) (.ref l)=pure false) hq) (.inr hu) h
theorem RcAt.dict_int {l:Addr} (b:Int) (u:Tok) (hl:Bl s.heap l) (hu:A.units<cLine):RcAt A s (.ref l) (.int b u) false:=fun prog w E Q h=>by
 obtain ⟨⟨cls,dd,data,sl⟩,es,n,ho,hc,hd⟩:=hl
 simp only at hc hd
 subst hc hd
 exact rc_eq_decline_or (k:=false) ⟨_,ho,rfl⟩ (typeIs_int s b u) (by decide) F.sub_int_dict F.slot_dict_eq F.slot_int_eq_refl
  (fun _ hq=>call_meets F.slot_dict_eq ⟨_,ho,rfl⟩ F.entry_dict_eq (F.args_dict_eq_2 _ _) (Ei b u l es n dd sl) ⟨ho,hq⟩)
  (fun _ hq=>call_meets F.slot_int_eq_refl (typeIs_int s b u) F.entry_int_eq (F.args_int_eq_2 _ _) (Ek b u l (.type "dict") es n dd sl) ⟨ho,hq⟩)
  (fun _ hq=>wpAny_of_eq (rfl:isSame (.ref l) (.int b u)=pure false) hq) (.inr hu) h
theorem EqAt.int_dict {l:Addr} (b:Int) (u:Tok) (hl:Bl s.heap l) (hu:A.units<cLine):EqAt A s (.int b u) (.ref l) false:=fun prog w E Q h=>by
 unfold eqBool
 refine wpAny_holding ?_
 refine wpAny_ite_split (fun hab=>absurd (eq_of_beq hab) nofun) (fun _ => ?_)
 exact wpAny_bind (RcAt.int_dict b u hl hu prog w E _ (wpAny_truthy_bool h))
theorem EqAt.dict_int {l:Addr} (b:Int) (u:Tok) (hl:Bl s.heap l) (hu:A.units<cLine):EqAt A s (.ref l) (.int b u) false:=fun prog w E Q h=>by
 unfold eqBool
 refine wpAny_holding ?_
 refine wpAny_ite_split (fun hab=>absurd (eq_of_beq hab) nofun) (fun _ => ?_)
 exact wpAny_bind (RcAt.dict_int b u hl hu prog w E _ (wpAny_truthy_bool h))
theorem qG {l b:Addr} {items:Array Value} (hl:Bl s.heap l) (hb:s.heap.IsList b items):l≠b:=fun e=>by
 subst e
 obtain ⟨o,_,_,ho,hc,_⟩:=hl
 obtain ⟨o2,ho2,hc2,_⟩:=hb
 rw [ho] at ho2
 cases ho2
 rw [hc] at hc2
 exact absurd hc2 (by simp)
theorem RcAt.dict_list {l b:Addr} {items:Array Value} (hl:Bl s.heap l) (hb:s.heap.IsList b items) (hu:A.units<cLine):RcAt A s (.ref l) (.ref b) false:=fun prog w E Q h=>by
 have hne:=qG hl hb
 obtain ⟨⟨cls,dd,data,sl⟩,es,n,ho,hc,hd⟩:=hl
 obtain ⟨⟨cls2,dd2,data2,sl2⟩,ho2,hc2,n2,hd2⟩:=id hb
 simp only at hc hd hc2 hd2
 subst hc hd hc2 hd2
 exact (rc_eq_decline_or (k:=false) ⟨_,ho,rfl⟩ ⟨_,ho2,rfl⟩ (by decide) F.sub_list_dict F.slot_dict_eq F.slot_list_eq_refl
  (fun _ hq=>call_meets F.slot_dict_eq ⟨_,ho,rfl⟩ F.entry_dict_eq (F.args_dict_eq_2 _ _) (Bq l b items es n n2 dd dd2 sl sl2) ⟨ho,ho2,hq⟩)
  (fun _ hq=>call_meets F.slot_list_eq_refl ⟨_,ho2,rfl⟩ F.entry_list_eq (F.args_list_eq_2 _ _) (Br b l items es n2 n dd2 dd sl2 sl) ⟨ho2,ho,hq⟩)
  (fun _ hq=>by first | exact wpAny_isSame_ref_other hne ho ho2 (by simp) hq | exact wpAny_isSame_ref_other' hne ho ho2 (by simp) hq) (.inr hu) h)
theorem RcAt.list_dict {b l:Addr} {items:Array Value} (hb:s.heap.IsList b items) (hl:Bl s.heap l) (hu:A.units<cLine):RcAt A s (.ref b) (.ref l) false:=fun prog w E Q h=>by
 have hne:=(qG hl hb).symm
 obtain ⟨⟨cls,dd,data,sl⟩,es,n,ho,hc,hd⟩:=hl
 obtain ⟨⟨cls2,dd2,data2,sl2⟩,ho2,hc2,n2,hd2⟩:=id hb
 simp only at hc hd hc2 hd2
 subst hc hd hc2 hd2
 exact (rc_eq_decline_or (k:=false) ⟨_,ho2,rfl⟩ ⟨_,ho,rfl⟩ (by decide) F.sub_dict_list F.slot_list_eq F.slot_dict_eq_refl
  (fun _ hq=>call_meets F.slot_list_eq ⟨_,ho2,rfl⟩ F.entry_list_eq (F.args_list_eq_2 _ _) (Br b l items es n2 n dd2 dd sl2 sl) ⟨ho2,ho,hq⟩)
  (fun _ hq=>call_meets F.slot_dict_eq_refl ⟨_,ho,rfl⟩ F.entry_dict_eq (F.args_dict_eq_2 _ _) (Bq l b items es n n2 dd dd2 sl sl2) ⟨ho,ho2,hq⟩)
  (fun _ hq=>by first | exact wpAny_isSame_ref_other hne ho2 ho (by simp) hq | exact wpAny_isSame_ref_other' hne ho2 ho (by simp) hq) (.inr hu) h)
theorem EqAt.dict_list {l b:Addr} {items:Array Value} (hl:Bl s.heap l) (hb:s.heap.IsList b items) (hu:A.units<cLine):EqAt A s (.ref l) (.ref b) false := .of_refs (qG hl hb) (DL.RcAt.dict_list hl hb hu)
theorem EqAt.list_dict {b l:Addr} {items:Array Value} (hb:s.heap.IsList b items) (hl:Bl s.heap l) (hu:A.units<cLine):EqAt A s (.ref b) (.ref l) false := .of_refs (qG hl hb).symm (DL.RcAt.list_dict hb hl hu)
theorem nO {l b:Addr} {items:Array Value} (hl:Bl s.heap l) (hb:s.heap.IsTuple b items):l≠b:=fun e=>by
 subst e
 obtain ⟨o,_,_,ho,hc,_⟩:=hl
 obtain ⟨o2,ho2,hc2,_⟩:=hb
 rw [ho] at ho2
 cases ho2
 rw [hc] at hc2
 exact absurd hc2 (by simp)
theorem RcAt.dict_tuple {l b:Addr} {items:Array Value} (hl:Bl s.heap l) (hb:s.heap.IsTuple b items) (hu:A.units<cLine):RcAt A s (.ref l) (.ref b) false:=fun prog w E Q h=>by
 have hne:=nO hl hb
 obtain ⟨⟨cls,dd,data,sl⟩,es,n,ho,hc,hd⟩:=hl
 obtain ⟨⟨cls2,dd2,data2,sl2⟩,ho2,hc2,n2,hd2⟩:=id hb
 simp only at hc hd hc2 hd2
 subst hc hd hc2 hd2
 exact (rc_eq_decline_or (k:=false) ⟨_,ho,rfl⟩ ⟨_,ho2,rfl⟩ (by decide) F.sub_tuple_dict F.slot_dict_eq F.slot_tuple_eq_refl
  (fun _ hq=>call_meets F.slot_dict_eq ⟨_,ho,rfl⟩ F.entry_dict_eq (F.args_dict_eq_2 _ _) (yu l b items es n n2 dd dd2 sl sl2) ⟨ho,ho2,hq⟩)
  (fun _ hq=>call_meets F.slot_tuple_eq_refl ⟨_,ho2,rfl⟩ F.entry_tuple_eq (F.args_tuple_eq_2 _ _) (yw b l items es n2 n dd2 dd sl2 sl) ⟨ho2,ho,hq⟩)
  (fun _ hq=>by first | exact wpAny_isSame_ref_other hne ho ho2 (by simp) hq | exact wpAny_isSame_ref_other' hne ho ho2 (by simp) hq) (.inr hu) h)
theorem RcAt.tuple_dict {b l:Addr} {items:Array Value} (hb:s.heap.IsTuple b items) (hl:Bl s.heap l) (hu:A.units<cLine):RcAt A s (.ref b) (.ref l) false:=fun prog w E Q h=>by
 have hne:=(nO hl hb).symm
 obtain ⟨⟨cls,dd,data,sl⟩,es,n,ho,hc,hd⟩:=hl
 obtain ⟨⟨cls2,dd2,data2,sl2⟩,ho2,hc2,n2,hd2⟩:=id hb
 simp only at hc hd hc2 hd2
 subst hc hd hc2 hd2
 exact (rc_eq_decline_or (k:=false) ⟨_,ho2,rfl⟩ ⟨_,ho,rfl⟩ (by decide) F.sub_dict_tuple F.slot_tuple_eq F.slot_dict_eq_refl
  (fun _ hq=>call_meets F.slot_tuple_eq ⟨_,ho2,rfl⟩ F.entry_tuple_eq (F.args_tuple_eq_2 _ _) (yw b l items es n2 n dd2 dd sl2 sl) ⟨ho2,ho,hq⟩)
  (fun _ hq=>call_meets F.slot_dict_eq_refl ⟨_,ho,rfl⟩ F.entry_dict_eq (F.args_dict_eq_2 _ _) (yu l b items es n n2 dd dd2 sl sl2) ⟨ho,ho2,hq⟩)
  (fun _ hq=>wpAny_isSame_ref_other' hne ho2 ho (by simp) hq) (.inr hu) h)
theorem EqAt.dict_tuple {l b:Addr} {items:Array Value} (hl:Bl s.heap l) (hb:s.heap.IsTuple b items) (hu:A.units<cLine):EqAt A s (.ref l) (.ref b) false := .of_refs (nO hl hb) (DL.RcAt.dict_tuple hl hb hu)
theorem EqAt.tuple_dict {b l:Addr} {items:Array Value} (hb:s.heap.IsTuple b items) (hl:Bl s.heap l) (hu:A.units<cLine):EqAt A s (.ref b) (.ref l) false := .of_refs (nO hl hb).symm (DL.RcAt.tuple_dict hb hl hu)
end
mutual
def jN:T->T->Bool
 | .dict _, .dict _=>false
 | .list xs, .list ys=>xs.length != ys.length || cmpOks xs ys
 | .tuple xs, .tuple ys=>cmpOks xs ys
 | _,_=>true
def cmpOks:List T->List T->Bool
 | x :: xs,y :: ys=>jN x y && cmpOks xs ys
 | _,_=>true
end
theorem iY {A:Around} {s:Shared} {a b:Value} {d e:T} {as bs:List Addr} (ra:Reads s.heap a d as) (rb:Reads s.heap b e bs) (hc:jN d e=true) (hu:A.units<cLine)
  (hl : ∀ xs ys, ¬ (d = .list xs∧e = .list ys)) (ht : ∀ xs ys, ¬ (d = .tuple xs∧e = .tuple ys)):SeqAt.EqAt A s a b (PyData.eqv d e)∧SeqAt.RcAt A s a b (PyData.eqv d e):=by
 open PySem.SeqAt in
 cases ra with
 | none =>
  cases rb with
  | none=>exact ⟨EqAt.same _,RcAt.none_none⟩
  | bool y=>exact ⟨EqAt.none_bool y,RcAt.none_bool y⟩
  | int y u=>exact ⟨EqAt.none_int y u,RcAt.none_int y u⟩
  | str y u=>exact ⟨EqAt.none_str y u,RcAt.none_str y u⟩
  | list k1 k2 k3 k4=>exact ⟨EqAt.none_list ⟨_,k1,k2,_,k3⟩ hu,RcAt.none_list ⟨_,k1,k2,_,k3⟩ hu⟩
  | tuple k1 k2 k3 k4=>exact ⟨EqAt.none_tuple ⟨_,k1,k2,_,k3⟩ hu,RcAt.none_tuple ⟨_,k1,k2,_,k3⟩ hu⟩
  | dict k1 k2 k3=>exact ⟨DL.EqAt.none_dict ⟨_,_,_,k1,k2,k3⟩ hu,DL.RcAt.none_dict ⟨_,_,_,k1,k2,k3⟩ hu⟩
 | bool x =>
  cases rb with
  | none=>exact ⟨EqAt.bool_none x,RcAt.bool_none x⟩
  | bool y=>exact ⟨EqAt.bool_bool x y,RcAt.bool_bool x y⟩
  | int y u=>exact ⟨EqAt.bool_int x y u,RcAt.bool_int x y u⟩
  | str y u=>exact ⟨EqAt.bool_str x y u,RcAt.bool_str x y u⟩
  | list k1 k2 k3 k4=>exact ⟨EqAt.bool_list x ⟨_,k1,k2,_,k3⟩ hu,RcAt.bool_list x ⟨_,k1,k2,_,k3⟩ hu⟩
  | tuple k1 k2 k3 k4=>exact ⟨EqAt.bool_tuple x ⟨_,k1,k2,_,k3⟩ hu,RcAt.bool_tuple x ⟨_,k1,k2,_,k3⟩ hu⟩
  | dict k1 k2 k3=>exact ⟨DL.EqAt.bool_dict x ⟨_,_,_,k1,k2,k3⟩ hu,DL.RcAt.bool_dict x ⟨_,_,_,k1,k2,k3⟩ hu⟩
 | int x t =>
  cases rb with
  | none=>exact ⟨EqAt.int_none x t,RcAt.int_none x t⟩
  | bool y=>exact ⟨EqAt.int_bool x t y,RcAt.int_bool x t y⟩
  | int y u=>exact ⟨EqAt.int_int x t y u,RcAt.int_int x t y u⟩
  | str y u=>exact ⟨EqAt.int_str x t y u,RcAt.int_str x t y u⟩
  | list k1 k2 k3 k4=>exact ⟨EqAt.int_list x t ⟨_,k1,k2,_,k3⟩ hu,RcAt.int_list x t ⟨_,k1,k2,_,k3⟩ hu⟩
  | tuple k1 k2 k3 k4=>exact ⟨EqAt.int_tuple x t ⟨_,k1,k2,_,k3⟩ hu,RcAt.int_tuple x t ⟨_,k1,k2,_,k3⟩ hu⟩
  | dict k1 k2 k3=>exact ⟨DL.EqAt.int_dict x t ⟨_,_,_,k1,k2,k3⟩ hu,DL.RcAt.int_dict x t ⟨_,_,_,k1,k2,k3⟩ hu⟩
 | str x t =>
  cases rb with
  | none=>exact ⟨EqAt.str_none x t,RcAt.str_none x t⟩
  | bool y=>exact ⟨EqAt.str_bool x t y,RcAt.str_bool x t y⟩
  | int y u=>exact ⟨EqAt.str_int x t y u,RcAt.str_int x t y u⟩
  | str y u=>exact ⟨EqAt.str_str x t y u,RcAt.str_str x t y u⟩
  | list k1 k2 k3 k4=>exact ⟨EqAt.str_list x t ⟨_,k1,k2,_,k3⟩ hu,RcAt.str_list x t ⟨_,k1,k2,_,k3⟩ hu⟩
  | tuple k1 k2 k3 k4=>exact ⟨EqAt.str_tuple x t ⟨_,k1,k2,_,k3⟩ hu,RcAt.str_tuple x t ⟨_,k1,k2,_,k3⟩ hu⟩
  | dict k1 k2 k3=>exact ⟨DL.EqAt.str_dict x t ⟨_,_,_,k1,k2,k3⟩ hu,DL.RcAt.str_dict x t ⟨_,_,_,k1,k2,k3⟩ hu⟩
 | list h1 h2 h3 h4 =>
  cases rb with
  | none=>exact ⟨EqAt.list_none ⟨_,h1,h2,_,h3⟩ hu,RcAt.list_none ⟨_,h1,h2,_,h3⟩ hu⟩
  | bool y=>exact ⟨EqAt.list_bool y ⟨_,h1,h2,_,h3⟩ hu,RcAt.list_bool y ⟨_,h1,h2,_,h3⟩ hu⟩
  | int y u=>exact ⟨EqAt.list_int y u ⟨_,h1,h2,_,h3⟩ hu,RcAt.list_int y u ⟨_,h1,h2,_,h3⟩ hu⟩
  | str y u=>exact ⟨EqAt.list_str y u ⟨_,h1,h2,_,h3⟩ hu,RcAt.list_str y u ⟨_,h1,h2,_,h3⟩ hu⟩
  | tuple k1 k2 k3 k4=>exact ⟨EqAt.list_tuple ⟨_,h1,h2,_,h3⟩ ⟨_,k1,k2,_,k3⟩ hu,RcAt.list_tuple ⟨_,h1,h2,_,h3⟩ ⟨_,k1,k2,_,k3⟩ hu⟩
  | list=>exact absurd ⟨rfl,rfl⟩ (hl _ _)
  | dict k1 k2 k3=>exact ⟨DL.EqAt.list_dict ⟨_,h1,h2,_,h3⟩ ⟨_,_,_,k1,k2,k3⟩ hu,DL.RcAt.list_dict ⟨_,h1,h2,_,h3⟩ ⟨_,_,_,k1,k2,k3⟩ hu⟩
 | tuple h1 h2 h3 h4 =>
  cases rb with
  | none=>exact ⟨EqAt.tuple_none ⟨_,h1,h2,_,h3⟩ hu,RcAt.tuple_none ⟨_,h1,h2,_,h3⟩ hu⟩
  | bool y=>exact ⟨EqAt.tuple_bool y ⟨_,h1,h2,_,h3⟩ hu,RcAt.tuple_bool y ⟨_,h1,h2,_,h3⟩ hu⟩
  | int y u=>exact ⟨EqAt.tuple_int y u ⟨_,h1,h2,_,h3⟩ hu,RcAt.tuple_int y u ⟨_,h1,h2,_,h3⟩ hu⟩
  | str y u=>exact ⟨EqAt.tuple_str y u ⟨_,h1,h2,_,h3⟩ hu,RcAt.tuple_str y u ⟨_,h1,h2,_,h3⟩ hu⟩
  | list k1 k2 k3 k4=>exact ⟨EqAt.tuple_list ⟨_,h1,h2,_,h3⟩ ⟨_,k1,k2,_,k3⟩ hu,RcAt.tuple_list ⟨_,h1,h2,_,h3⟩ ⟨_,k1,k2,_,k3⟩ hu⟩
  | tuple=>exact absurd ⟨rfl,rfl⟩ (ht _ _)
  | dict k1 k2 k3=>exact ⟨DL.EqAt.tuple_dict ⟨_,h1,h2,_,h3⟩ ⟨_,_,_,k1,k2,k3⟩ hu,DL.RcAt.tuple_dict ⟨_,h1,h2,_,h3⟩ ⟨_,_,_,k1,k2,k3⟩ hu⟩
 | dict h1 h2 h3 =>
  cases rb with
  | str y u=>exact ⟨DL.EqAt.dict_str y u ⟨_,_,_,h1,h2,h3⟩ hu,DL.RcAt.dict_str y u ⟨_,_,_,h1,h2,h3⟩ hu⟩
  | none=>exact ⟨DL.EqAt.dict_none ⟨_,_,_,h1,h2,h3⟩ hu,DL.RcAt.dict_none ⟨_,_,_,h1,h2,h3⟩ hu⟩
  | bool y=>exact ⟨DL.EqAt.dict_bool y ⟨_,_,_,h1,h2,h3⟩ hu,DL.RcAt.dict_bool y ⟨_,_,_,h1,h2,h3⟩ hu⟩
  | int y u=>exact ⟨DL.EqAt.dict_int y u ⟨_,_,_,h1,h2,h3⟩ hu,DL.RcAt.dict_int y u ⟨_,_,_,h1,h2,h3⟩ hu⟩
  | list k1 k2 k3 k4=>exact ⟨DL.EqAt.dict_list ⟨_,_,_,h1,h2,h3⟩ ⟨_,k1,k2,_,k3⟩ hu,DL.RcAt.dict_list ⟨_,_,_,h1,h2,h3⟩ ⟨_,k1,k2,_,k3⟩ hu⟩
  | tuple k1 k2 k3 k4=>exact ⟨DL.EqAt.dict_tuple ⟨_,_,_,h1,h2,h3⟩ ⟨_,k1,k2,_,k3⟩ hu,DL.RcAt.dict_tuple ⟨_,_,_,h1,h2,h3⟩ ⟨_,k1,k2,_,k3⟩ hu⟩
  | dict=>exact absurd hc (by simp [jN])
mutual
theorem vA {h:Heap} : ∀ {d e:T} {v:Value} {as bs:List Addr},Reads h v d as->Reads h v e bs->d=e
 | _,_,_,_,_, .none,k=>by cases k;rfl
 | _,_,_,_,_, .bool b,k=>by cases k;rfl
 | _,_,_,_,_, .int i t,k=>by cases k;rfl
 | _,_,_,_,_, .str x t,k=>by cases k;rfl
 | _,_,_,_,_, .list h1 h2 h3 h4,k=>by
  cases k with
  | list k1 k2 k3 k4 =>
   rw [h1] at k1;cases k1;rw [h3] at k3;cases k3
   rw [readsAll_one h4 k4]
  | tuple k1 k2 k3 k4=>rw [h1] at k1;cases k1;exact absurd (Value.type.inj (h2.symm.trans k2)) (by decide)
  | dict k1 k2 k3 k4=>rw [h1] at k1;cases k1;exact absurd (Value.type.inj (h2.symm.trans k2)) (by decide)
 | _,_,_,_,_, .tuple h1 h2 h3 h4,k=>by
  cases k with
  | tuple k1 k2 k3 k4 =>
   rw [h1] at k1;cases k1;rw [h3] at k3;cases k3
   rw [readsAll_one h4 k4]
  | list k1 k2 k3 k4=>rw [h1] at k1;cases k1;exact absurd (Value.type.inj (h2.symm.trans k2)) (by decide)
  | dict k1 k2 k3 k4=>rw [h1] at k1;cases k1;exact absurd (Value.type.inj (h2.symm.trans k2)) (by decide)
 | _,_,_,_,_, .dict h1 h2 h3 h4 h5,k=>by
  cases k with
  | dict k1 k2 k3 k4 k5 =>
   rw [h1] at k1;cases k1;rw [h3] at k3;cases k3
   have e1:=readsAll_one h4 k4
   have e2:=readsAll_one h5 k5
   congr 1
   refine List.ext_getElem? fun i => ?_
   have f1:=congrArg (fun l=>l[i]?) e1
   have f2:=congrArg (fun l=>l[i]?) e2
   simp only [List.getElem?_map] at f1 f2
   revert f1 f2
   generalize (_:List (T×T))[i]? = x
   generalize (_:List (T×T))[i]? = y
   intro f1 f2
   cases x<;>cases y<;>simp_all
   rename_i p q
   exact Prod.ext f1 f2
  | list k1 k2 k3 k4=>rw [h1] at k1;cases k1;exact absurd (Value.type.inj (h2.symm.trans k2)) (by decide)
  | tuple k1 k2 k3 k4=>rw [h1] at k1;cases k1;exact absurd (Value.type.inj (h2.symm.trans k2)) (by decide)
theorem readsAll_one {h:Heap} : ∀ {ds es:List T} {vs:List Value} {as bs:List Addr},ReadsAll h vs ds as->ReadsAll h vs es bs->ds=es
 | _,_,_,_,_, .nil,k=>by cases k;rfl
 | _,_,_,_,_, .cons h1 h2,k=>by
  cases k with
  | cons k1 k2=>rw [vA h1 k1,readsAll_one h2 k2]
end
mutual
theorem RL : ∀ d:T,jN d d=true->PyData.eqv d d=true
 | .none,_=>by simp [PyData.eqv]
 | .bool b,_=>by simp [PyData.eqv]
 | .int i,_=>by simp [PyData.eqv]
 | .str x,_=>by simp [PyData.eqv]
 | .list xs,h=>by simp only [PyData.eqv];exact cmpOks_refl xs (by simpa [jN] using h)
 | .tuple xs,h=>by simp only [PyData.eqv];exact cmpOks_refl xs (by simpa [jN] using h)
 | .dict _,h=>by simp [jN] at h
theorem cmpOks_refl : ∀ xs:List T,cmpOks xs xs=true->PyData.eqvAll xs xs=true
 | [],_=>by simp [PyData.eqvAll]
 | x :: xs,h=>by
  have h' : jN x x=true∧cmpOks xs xs=true:=by simpa [cmpOks] using h
  simp [PyData.eqvAll,RL x h'.1,cmpOks_refl xs h'.2]
end
mutual
theorem Ij : ∀ (d e:T) (A:Around) (s:Shared) (a b:Value) (as bs:List Addr),Reads s.heap a d as->Reads s.heap b e bs->jN d e=true->A.units+min d.depth e.depth<cLine ->
  SeqAt.EqAt A s a b (PyData.eqv d e)∧SeqAt.RcAt A s a b (PyData.eqv d e)
 | .list xs, .list ys,A,s,_,_,_,_, .list (a:=l) (vs:=vs) h1 h2 h3 h4, .list (a:=l') (vs:=vs') k1 k2 k3 k4,hc,hu=>by
  have hl:s.heap.IsList l vs:=⟨_,h1,h2,_,h3⟩
  have hl' : s.heap.IsList l' vs':=⟨_,k1,k2,_,k3⟩
  have n1:vs.size=xs.length:=by simpa using SeqAt.ReadsAll.length _ _ _ h4
  have n2:vs'.size=ys.length:=by simpa using SeqAt.ReadsAll.length _ _ _ k4
  simp only [PyData.eqv]
  have rc:SeqAt.RcAt A s (.ref l) (.ref l') (PyData.eqvAll xs ys):=by
   by_cases hsz:vs.size=vs'.size
   ·rw [← SeqAt.eqvAll_same_length (by omega:xs.length=ys.length), ← n1]
    have hc' : cmpOks xs ys=true:=by
     simp only [jN,Bool.or_eq_true,bne_iff_ne] at hc
     exact hc.resolve_left fun z=>z (by omega)
    refine SeqAt.RcAt.lists hl hl' hsz (SeqAt.room_here hu) fun j j1 j2 => ?_
    have:=eq_treesAll xs ys A.in1 s vs.toList vs'.toList _ _ h4 k4 hc' (SeqAt.room_in hu) j (by simpa using j1) (by simpa using j2)
    simpa using this
   ·rw [SeqAt.eqvAll_other_length (by omega:xs.length≠ys.length)]
    exact SeqAt.RcAt.lists_lengths hl hl' (by simpa using hsz) (SeqAt.room_here hu)
  refine ⟨?_,rc⟩
  by_cases hll:l=l'
  ·subst hll
   have e:PyData.list xs=PyData.list ys:=vA (.list h1 h2 h3 h4) (.list k1 k2 k3 k4)
   injection e with e
   subst e
   rw [cmpOks_refl xs (by simpa [jN] using hc)]
   exact SeqAt.EqAt.same _
  ·exact SeqAt.EqAt.of_refs hll rc
 | .tuple xs, .tuple ys,A,s,_,_,_,_, .tuple (a:=l) (vs:=vs) h1 h2 h3 h4, .tuple (a:=l') (vs:=vs') k1 k2 k3 k4,hc,hu=>by
  have hl:s.heap.IsTuple l vs:=⟨_,h1,h2,_,h3⟩
  have hl' : s.heap.IsTuple l' vs':=⟨_,k1,k2,_,k3⟩
  have n1:vs.size=xs.length:=by simpa using SeqAt.ReadsAll.length _ _ _ h4
  have n2:vs'.size=ys.length:=by simpa using SeqAt.ReadsAll.length _ _ _ k4
  have hc' : cmpOks xs ys=true:=by simpa only [jN] using hc
  simp only [PyData.eqv]
  have rc:SeqAt.RcAt A s (.ref l) (.ref l') (PyData.eqvAll xs ys):=by
   rw [← SeqAt.eqvAll_eq xs ys, ← n1, ← n2]
   refine SeqAt.RcAt.tuples hl hl' (SeqAt.room_here hu) fun j j1 j2 => ?_
   have:=eq_treesAll xs ys A.in1 s vs.toList vs'.toList _ _ h4 k4 hc' (SeqAt.room_in hu) j (by simpa using j1) (by simpa using j2)
   simpa using this
  refine ⟨?_,rc⟩
  by_cases hll:l=l'
  ·subst hll
   have e:PyData.tuple xs=PyData.tuple ys:=vA (.tuple h1 h2 h3 h4) (.tuple k1 k2 k3 k4)
   injection e with e
   subst e
   rw [cmpOks_refl xs hc']
   exact SeqAt.EqAt.same _
  ·exact SeqAt.EqAt.of_refs hll rc
 | .none,e,A,s,_,_,_,_,ra,rb,hc,hu=>iY ra rb hc (SeqAt.room_here hu) (fun _ _ z=>nomatch z.1) fun _ _ z=>nomatch z.1
 | .bool _,e,A,s,_,_,_,_,ra,rb,hc,hu=>iY ra rb hc (SeqAt.room_here hu) (fun _ _ z=>nomatch z.1) fun _ _ z=>nomatch z.1
 | .int _,e,A,s,_,_,_,_,ra,rb,hc,hu=>iY ra rb hc (SeqAt.room_here hu) (fun _ _ z=>nomatch z.1) fun _ _ z=>nomatch z.1
 | .str _,e,A,s,_,_,_,_,ra,rb,hc,hu=>iY ra rb hc (SeqAt.room_here hu) (fun _ _ z=>nomatch z.1) fun _ _ z=>nomatch z.1
 | .dict _,e,A,s,_,_,_,_,ra,rb,hc,hu=>iY ra rb hc (SeqAt.room_here hu) (fun _ _ z=>nomatch z.1) fun _ _ z=>nomatch z.1
 | .list _, .none,A,s,_,_,_,_,ra,rb,hc,hu=>iY ra rb hc (SeqAt.room_here hu) (fun _ _ z=>nomatch z.2) fun _ _ z=>nomatch z.2
 | .list _, .bool _,A,s,_,_,_,_,ra,rb,hc,hu=>iY ra rb hc (SeqAt.room_here hu) (fun _ _ z=>nomatch z.2) fun _ _ z=>nomatch z.2
 | .list _, .int _,A,s,_,_,_,_,ra,rb,hc,hu=>iY ra rb hc (SeqAt.room_here hu) (fun _ _ z=>nomatch z.2) fun _ _ z=>nomatch z.2
 | .list _, .str _,A,s,_,_,_,_,ra,rb,hc,hu=>iY ra rb hc (SeqAt.room_here hu) (fun _ _ z=>nomatch z.2) fun _ _ z=>nomatch z.2
 | .list _, .tuple _,A,s,_,_,_,_,ra,rb,hc,hu=>iY ra rb hc (SeqAt.room_here hu) (fun _ _ z=>nomatch z.2) fun _ _ z=>nomatch z.1
 | .list _, .dict _,A,s,_,_,_,_,ra,rb,hc,hu=>iY ra rb hc (SeqAt.room_here hu) (fun _ _ z=>nomatch z.2) fun _ _ z=>nomatch z.2
 | .tuple _, .none,A,s,_,_,_,_,ra,rb,hc,hu=>iY ra rb hc (SeqAt.room_here hu) (fun _ _ z=>nomatch z.2) fun _ _ z=>nomatch z.2
 | .tuple _, .bool _,A,s,_,_,_,_,ra,rb,hc,hu=>iY ra rb hc (SeqAt.room_here hu) (fun _ _ z=>nomatch z.2) fun _ _ z=>nomatch z.2
 | .tuple _, .int _,A,s,_,_,_,_,ra,rb,hc,hu=>iY ra rb hc (SeqAt.room_here hu) (fun _ _ z=>nomatch z.2) fun _ _ z=>nomatch z.2
 | .tuple _, .str _,A,s,_,_,_,_,ra,rb,hc,hu=>iY ra rb hc (SeqAt.room_here hu) (fun _ _ z=>nomatch z.2) fun _ _ z=>nomatch z.2
 | .tuple _, .list _,A,s,_,_,_,_,ra,rb,hc,hu=>iY ra rb hc (SeqAt.room_here hu) (fun _ _ z=>nomatch z.1) fun _ _ z=>nomatch z.2
 | .tuple _, .dict _,A,s,_,_,_,_,ra,rb,hc,hu=>iY ra rb hc (SeqAt.room_here hu) (fun _ _ z=>nomatch z.2) fun _ _ z=>nomatch z.2
theorem eq_treesAll : ∀ (xs ys:List T) (A:Around) (s:Shared) (vs ws:List Value) (as bs:List Addr),ReadsAll s.heap vs xs as->ReadsAll s.heap ws ys bs->cmpOks xs ys=true ->
  A.units+min (PyData.depthAll xs) (PyData.depthAll ys)<cLine -> ∀ j (h1:j<vs.length) (h2:j<ws.length),SeqAt.EqAt A s vs[j] ws[j] (SeqAt.pairEq xs ys j)
 | [],_,_,_,_,_,_,_,ra,_,_,_,j,h1,_=>by cases ra;exact absurd h1 (Nat.not_lt_zero _)
 | _ :: _, [],_,_,_,_,_,_,_,rb,_,_,j,_,h2=>by cases rb;exact absurd h2 (Nat.not_lt_zero _)
 | x :: xs,y :: ys,A,s,_,_,_,_,ra,rb,hc,hu,j,h1,h2=>by
  have hc' : jN x y=true∧cmpOks xs ys=true:=by simpa [cmpOks] using hc
  cases ra with
  | cons r rs =>
   cases rb with
   | cons r' rs' =>
    cases j with
    | zero=>exact (Ij x y A s _ _ _ _ r r' hc'.1 (SeqAt.room_head hu)).1
    | succ j=>exact eq_treesAll xs ys A s _ _ _ _ rs rs' hc'.2 (SeqAt.room_tail hu) j (Nat.lt_of_succ_lt_succ h1) (Nat.lt_of_succ_lt_succ h2)
end
section
variable {X:Cx} {pins:List (Addr×Obj)} {σ : St} {H:Hp} {s:Shared}
theorem Oz (I:Inv X pins σ H s) {a:Addr} {kvs:List (Key×V)} (h:Rd H a (.dK kvs)) : ∃ o es n vs,s.heap.get? a=some o∧o.cls = .type "dict" ∧ o.data = .dict es n∧(a == sysModules)=false ∧
  Vals (kvs.map (·.2)) vs∧es.toList.map (·.val)=vs ∧ ∃ as,ReadsAll s.heap (es.toList.map (·.key)) (kvs.map fun p=>rD p.1) as:=by
 obtain ⟨_,hs,vs,kv,o,es,ep,h1,h2,h3,h4,h5,_⟩:=dk_rd I.hok h
 obtain ⟨v1,v2⟩:=N6 kv
 obtain ⟨as,zk⟩:=Ed (h:=s.heap) h5
 have : vs.map (fun p=>rD p.1)=kvs.map (fun p=>rD p.1):=by
  have:=congrArg (List.map rD) v2
  simp only [List.map_map] at this
  exact this.symm
 rw [this] at zk
 exact ⟨o,es,ep,_,h1,h2.1,h3,hs,v1,rZ h5,as,zk⟩
theorem sE : ∀ kvs:List (Key×V),PyData.hasDictAll (kvs.map fun p=>rD p.1)=false
 | []=>by simp [PyData.hasDictAll]
 | (.inl i,_) :: r=>by simp [PyData.hasDictAll,PyData.hasDict,sE r]
 | (.inr i,_) :: r=>by simp [PyData.hasDictAll,PyData.hasDict,sE r]
theorem DY {xs:List V} {as:List Addr} {ts:List T} (q:RVs X.K H xs ts as) (h:xs=[]):ts=[]:=by subst h;cases q;rfl
mutual
theorem RV.shownK (I:Inv X pins σ H s) : ∀ {v:V} {t:T} {as:List Addr} {u:Value},RV X.K H v t as->RelV v u->t.showable=true->t.shown.length≤sizeLine ->
  ∃ bs,ReadAtMost s.heap t.depth bs∧ReprK X.prog X.w bs s.heap t.depth u t.shown
 | _,_,_,_, .non,r,_,_=>by cases r;exact ⟨[],(fun _ h=>nomatch h),by simp only [PyData.shown];exact .of_is ReprIs.none _ _ _⟩
 | _,_,_,_, .bl b,r,_,_=>by cases r;exact ⟨[],(fun _ h=>nomatch h),by simp only [PyData.shown];exact .of_is (ReprIs.bool b) _ _ _⟩
 | _,_,_,_, .int i,r,hs,_=>by obtain ⟨t,rfl⟩:=r;exact ⟨[],(fun _ h=>nomatch h),by simp only [PyData.shown];exact .of_is (ReprIs.int t (by simpa [PyData.showable] using hs)) _ _ _⟩
 | _,_,_,_, .str x,r,_,hz=>by obtain ⟨t,rfl⟩:=r;exact ⟨[],(fun _ h=>nomatch h),by simp only [PyData.shown];exact .of_is (ReprIs.str x t (by simpa only [PyData.shown] using hz)) _ _ _⟩
 | _,_,_,_, .tup (ts:=ts) h q,r,hs,hz=>by
  have hr:=r
  cases r
  obtain ⟨its,rv,⟨o,ho,hc,n,hd⟩,_⟩:=I.tuple h.t
  have hz' : (tupleText (PyData.shownAll ts)).length≤sizeLine:=by simpa only [PyData.shown] using hz
  obtain ⟨bs,hb,hk⟩:=RVs.shownK I q rv (by simpa [PyData.showable] using hs) fun t ht=>Nat.le_trans (tupleText_mem_le ht) hz'
  obtain ⟨cs,rd⟩:=RV.reads I (.tup h q) hr
  have hna:=not_mem_of_deeper rd (by simp only [PyData.depth];omega) hb
  refine ⟨_,ReadAtMost.cons rd (by simp only [PyData.depth];omega) hb, ?_⟩
  simp only [PyData.depth,PyData.shown]
  exact ReprK.tuple ho hc hd hna (by simpa using hk)
 | _,_,_,_, .lst (ts:=ts) h q,r,hs,hz=>by
  have hr:=r
  cases r
  obtain ⟨its,rv,⟨o,n,ho,hc,_,hd⟩,_⟩:=I.list (.inl h)
  have hz' : (listText (PyData.shownAll ts)).length≤sizeLine:=by simpa only [PyData.shown] using hz
  obtain ⟨bs,hb,hk⟩:=RVs.shownK I q rv (by simpa [PyData.showable] using hs) fun t ht=>Nat.le_trans (listText_mem_le ht) hz'
  obtain ⟨cs,rd⟩:=RV.reads I (.lst h q) hr
  have hna:=not_mem_of_deeper rd (by simp only [PyData.depth];omega) hb
  refine ⟨_,ReadAtMost.cons rd (by simp only [PyData.depth];omega) hb, ?_⟩
  simp only [PyData.depth,PyData.shown]
  cases its with
  | nil =>
   cases rv
   obtain rfl:=DY q rfl
   simp only [PyData.shownAll,listText_nil]
   exact ReprK.more (ReprK.level_le (ReprK.listEmpty ho hc hd) (Nat.le_succ _)) fun b hb=>hb
  | cons x l=>exact ReprK.list ho hc hd hna (by simpa using hk.length_eq) fun i y e=>hk.item i y (by simpa using e)
 | _,_,_,_, .lstK (ts:=ts) (its:=its) h1 h2 h3 h4 h5 h6 q,r,hs,hz=>by
  have hr:=r
  cases r
  have ho:=I.kIn _ _ h1
  have hz' : (listText (PyData.shownAll ts)).length≤sizeLine:=by simpa only [PyData.shown] using hz
  obtain ⟨bs,hb,hk⟩:=RVs.shownK I q h6 (by simpa [PyData.showable] using hs) fun t ht=>Nat.le_trans (listText_mem_le ht) hz'
  obtain ⟨cs,rd⟩:=RV.reads I (.lstK h1 h2 h3 h4 h5 h6 q) hr
  have hna:=not_mem_of_deeper rd (by simp only [PyData.depth];omega) hb
  refine ⟨_,ReadAtMost.cons rd (by simp only [PyData.depth];omega) hb, ?_⟩
  simp only [PyData.depth,PyData.shown]
  obtain ⟨l⟩:=its
  cases l with
  | nil =>
   have h6':=h6.length
   obtain rfl:=DY q (List.eq_nil_of_length_eq_zero (by simpa using h6'))
   simp only [PyData.shownAll,listText_nil]
   exact ReprK.more (ReprK.level_le (ReprK.listEmpty ho h2 h4) (Nat.le_succ _)) fun b hb=>hb
  | cons x l=>exact ReprK.list ho h2 h4 hna (by simpa using hk.length_eq) fun i y e=>hk.item i y (by simpa using e)
 | _,_,_,_, .dct (a:=aa) (kvs:=kvs) (ts:=ts) h q,r,hs,hz=>by
  have hr:=r
  cases r
  obtain ⟨o,es,n,vs,ho,hc,hd,hsys,rv,ev,ka,kr⟩:=Oz I h
  have hl:kvs.length=ts.length:=by have:=RVs.length q;simpa using this
  obtain ⟨e1,e2⟩:=zipT hl
  generalize hD:List.zipWith (fun (p:Key×V) (t:T)=>(rD p.1,t)) kvs ts=D at *
  have hD' : List.zipWith (fun (p:Key×V) (t:T)=>((match p.1 with | .inl i=>PyData.int i | .inr x=>PyData.str x),t)) kvs ts=D:=hD
  have hz' : (dictText (PyData.shownKv D)).length≤sizeLine:=by simpa only [PyData.shown] using hz
  obtain ⟨hs1,hs2⟩:=PyData.showableKv_split D (by simpa [PyData.showable] using hs)
  obtain ⟨b1,hb1,k1⟩:=ReprAllK.of_readsAll (prog:=X.prog) (w:=X.w) kr (by rw [← e1];exact hs1) (fun z=>by rw [sE] at z;cases z) fun t ht=>by
   rw [← e1] at ht
   obtain ⟨p,hp,hl⟩:=PyData.shownKv_key_le D t ht
   exact Nat.le_trans hl (Nat.le_trans (dictText_mem_le hp) hz')
  obtain ⟨b2,hb2,k2⟩:=RVs.shownK I q rv (by rw [← e2];exact hs2) fun t ht=>by
   rw [← e2] at ht
   obtain ⟨p,hp,hl⟩:=PyData.shownKv_val_le D t ht
   exact Nat.le_trans hl (Nat.le_trans (dictText_mem_le hp) hz')
  rw [← e1] at hb1 k1
  rw [← e2] at hb2 k2
  rw [← ev] at k2
  obtain ⟨cs,rd⟩:=RV.reads I (.dct h q) hr
  replace rd:Reads s.heap (.ref aa) (.dict D) cs:=by rw [← hD];exact rd
  have hb:ReadAtMost s.heap (PyData.depthKv D) (b1++b2):=(hb1.mono (PyData.depthAll_keys_le D)).append (hb2.mono (PyData.depthAll_vals_le D))
  have hna:=not_mem_of_deeper rd (by simp only [PyData.depth];omega) hb
  refine ⟨_,ReadAtMost.cons rd (by simp only [PyData.depth];omega) hb, ?_⟩
  simp only [PyData.depth,PyData.shown,PyData.shownKv_eq]
  exact ReprK.dict ho hc hd hsys hna (ReprEntriesK.of_two es.toList _ _ (k1.more_le (fun b hb=>List.mem_append_left _ hb) (PyData.depthAll_keys_le D)) (k2.more_le (fun b hb=>List.mem_append_right _ hb) (PyData.depthAll_vals_le D)))
theorem RVs.shownK (I:Inv X pins σ H s) : ∀ {vs:List V} {ts:List T} {as:List Addr} {us:List Value},RVs X.K H vs ts as->Vals vs us->PyData.showableAll ts=true->(∀ t∈PyData.shownAll ts,t.length≤sizeLine) ->
  ∃ bs,ReadAtMost s.heap (PyData.depthAll ts) bs∧ReprAllK X.prog X.w bs s.heap (PyData.depthAll ts) us (PyData.shownAll ts)
 | _,_,_,_, .nil,r,_,_=>by cases r;exact ⟨[],(fun _ h=>nomatch h),by simp only [PyData.shownAll];exact .nil⟩
 | _,_,_,_, .cons (t:=t) (ts:=ts) h q,r,hs,hz=>by
  cases r with
  | cons r1 r2 =>
   have hs' : t.showable=true∧PyData.showableAll ts=true:=by simpa [PyData.showableAll] using hs
   obtain ⟨b1,hb1,k1⟩:=RV.shownK I h r1 hs'.1 (hz _ (by simp only [PyData.shownAll];exact List.mem_cons_self ..))
   obtain ⟨b2,hb2,k2⟩:=RVs.shownK I q r2 hs'.2 fun t ht=>hz t (by simp only [PyData.shownAll];exact List.mem_cons_of_mem _ ht)
   refine ⟨b1++b2, ?_, ?_⟩
   ·simp only [PyData.depthAll]
    exact (hb1.mono (Nat.le_max_left _ _)).append (hb2.mono (Nat.le_max_right _ _))
   ·simp only [PyData.depthAll,PyData.shownAll]
    exact .cons ((k1.more fun b hb=>List.mem_append_left _ hb).level_le (Nat.le_max_left _ _)) (k2.more_le (fun b hb=>List.mem_append_right _ hb) (Nat.le_max_right _ _))
end
theorem RV.shows (I:Inv X pins σ H s) {a:Addr} {t:T} {as:List Addr} (q0:RV X.K H (.ref a) t as) (hs:t.showable=true) (hz:t.shown.length≤sizeLine) : ∃ T idr,ShowsBy X.prog X.w s.heap a t T idr:=by
 have rr:RelV (.ref a) (.ref a):=rfl
 obtain ⟨cs,rd⟩:=RV.reads I q0 rr
 cases q0 with
 | @tup _ _ ts _ h q =>
  obtain ⟨its,rv,⟨o,ho,hc,n,hd⟩,_⟩:=I.tuple h.t
  have hz' : (tupleText (PyData.shownAll ts)).length≤sizeLine:=by simpa only [PyData.shown] using hz
  obtain ⟨bs,hb,hk⟩:=RVs.shownK I q rv (by simpa [PyData.showable] using hs) fun t ht=>Nat.le_trans (tupleText_mem_le ht) hz'
  have hna:=not_mem_of_deeper rd (by simp only [PyData.depth];omega) hb
  refine ⟨"tuple", "tuple.__repr__",F.slot_tuple_repr,F.slot_tuple_str,F.slot_tuple_format,fun s hk0=>⟨o,hk0 _ _ ho,hc⟩,fun A E s Q hg hu hk0 hQ => ?_⟩
  simp only [PyData.depth] at hu
  simp only [PyData.shown] at hQ
  exact call_tuple_reprK ho hc hd hna (by simpa using hk) hg (fun b _=>Clear.nil b) hu hk0 hQ hz'
 | @lst _ _ ts _ h q =>
  obtain ⟨its,rv,⟨o,n,ho,hc,_,hd⟩,_⟩:=I.list (.inl h)
  have hz' : (listText (PyData.shownAll ts)).length≤sizeLine:=by simpa only [PyData.shown] using hz
  obtain ⟨bs,hb,hk⟩:=RVs.shownK I q rv (by simpa [PyData.showable] using hs) fun t ht=>Nat.le_trans (listText_mem_le ht) hz'
  have hna:=not_mem_of_deeper rd (by simp only [PyData.depth];omega) hb
  refine ⟨"list", "list.__repr__",F.slot_list_repr.toG,F.slot_list_str,F.slot_list_format,fun s hk0=>⟨o,hk0 _ _ ho,hc⟩,fun A E s Q hg hu hk0 hQ => ?_⟩
  simp only [PyData.depth] at hu
  simp only [PyData.shown] at hQ
  cases its with
  | nil =>
   cases rv
   obtain rfl:=DY q rfl
   simp only [PyData.shownAll,listText_nil] at hQ
   exact call_list_repr_empty ⟨o,hk0 _ _ ho,hc⟩ (hk0 _ _ ho) hd (hQ s.heap _ _ fun _ _ e=>e)
  | cons x l=>exact call_list_reprK ho hc hd hna (by simpa using hk.length_eq) (fun i y e=>hk.item i y (by simpa using e)) hg (fun b _=>Clear.nil b) hu hk0 hQ hz'
 | @lstK _ _ ts _ _ its _ h1 h2 h3 h4 h5 h6 q =>
  have ho:=I.kIn _ _ h1
  have hz' : (listText (PyData.shownAll ts)).length≤sizeLine:=by simpa only [PyData.shown] using hz
  obtain ⟨bs,hb,hk⟩:=RVs.shownK I q h6 (by simpa [PyData.showable] using hs) fun t ht=>Nat.le_trans (listText_mem_le ht) hz'
  have hna:=not_mem_of_deeper rd (by simp only [PyData.depth];omega) hb
  refine ⟨"list", "list.__repr__",F.slot_list_repr.toG,F.slot_list_str,F.slot_list_format,fun s hk0=>⟨_,hk0 _ _ ho,h2⟩,fun A E s Q hg hu hk0 hQ => ?_⟩
  simp only [PyData.depth] at hu
  simp only [PyData.shown] at hQ
  obtain ⟨l⟩:=its
  cases l with
  | nil =>
   have h6':=h6.length
   obtain rfl:=DY q (List.eq_nil_of_length_eq_zero (by simpa using h6'))
   simp only [PyData.shownAll,listText_nil] at hQ
   exact call_list_repr_empty ⟨_,hk0 _ _ ho,h2⟩ (hk0 _ _ ho) h4 (hQ s.heap _ _ fun _ _ e=>e)
  | cons x l=>exact call_list_reprK ho h2 h4 hna (by simpa using hk.length_eq) (fun i y e=>hk.item i y (by simpa using e)) hg (fun b _=>Clear.nil b) hu hk0 hQ hz'
 | @dct _ kvs ts _ h q =>
  obtain ⟨o,es,n,vs,ho,hc,hd,hsys,rv,ev,ka,kr⟩:=Oz I h
  have hl:kvs.length=ts.length:=by have:=RVs.length q;simpa using this
  obtain ⟨e1,e2⟩:=zipT hl
  generalize hD:List.zipWith (fun (p:Key×V) (t:T)=>(rD p.1,t)) kvs ts=D at *
  have hz' : (dictText (PyData.shownKv D)).length≤sizeLine:=by simpa only [PyData.shown] using hz
  obtain ⟨hs1,hs2⟩:=PyData.showableKv_split D (by simpa [PyData.showable] using hs)
  obtain ⟨b1,hb1,k1⟩:=ReprAllK.of_readsAll (prog:=X.prog) (w:=X.w) kr (by rw [← e1];exact hs1) (fun z=>by rw [sE] at z;cases z) fun t ht=>by
   rw [← e1] at ht
   obtain ⟨p,hp,hl⟩:=PyData.shownKv_key_le D t ht
   exact Nat.le_trans hl (Nat.le_trans (dictText_mem_le hp) hz')
  obtain ⟨b2,hb2,k2⟩:=RVs.shownK I q rv (by rw [← e2];exact hs2) fun t ht=>by
   rw [← e2] at ht
   obtain ⟨p,hp,hl⟩:=PyData.shownKv_val_le D t ht
   exact Nat.le_trans hl (Nat.le_trans (dictText_mem_le hp) hz')
  rw [← e1] at hb1 k1
  rw [← e2] at hb2 k2
  rw [← ev] at k2
  have hb:ReadAtMost s.heap (PyData.depthKv D) (b1++b2):=(hb1.mono (PyData.depthAll_keys_le D)).append (hb2.mono (PyData.depthAll_vals_le D))
  replace rd:Reads s.heap (.ref a) (.dict D) cs:=rd
  have hna:=not_mem_of_deeper rd (by simp only [PyData.depth];omega) hb
  refine ⟨"dict", "dict.__repr__",F.slot_dict_repr,F.slot_dict_str,F.slot_dict_format,fun s hk0=>⟨o,hk0 _ _ ho,hc⟩,fun A E s Q hg hu hk0 hQ => ?_⟩
  have hu' : A.units+(PyData.depthKv D+1)<cLine:=by
   have e:PyData.depth (.dict D)=PyData.depthKv D+1:=by simp only [PyData.depth]
   rw [← e];exact hu
  have hQ' : ∀ h' u tk,(∀ b o,s.heap.get? b=some o->h'.get? b=some o)->Q (.str (dictText (List.zipWith (fun k v:Str=>k ++ ": " ++ v) (PyData.shownAll (D.map (·.1))) (PyData.shownAll (D.map (·.2))))) u) { s with heap:=h',toks:=tk }:=fun h' u tk hk=>by
   have e:PyData.shown (.dict D)=dictText (PyData.shownKv D):=by simp only [PyData.shown]
   have:=hQ h' u tk hk
   rw [← PyData.shownKv_eq, ← e];exact this
  exact call_dict_reprK ho hc hd hsys hna (ReprEntriesK.of_two es.toList _ _ (k1.more_le (fun b hb=>List.mem_append_left _ hb) (PyData.depthAll_keys_le D)) (k2.more_le (fun b hb=>List.mem_append_right _ hb) (PyData.depthAll_vals_le D)))
   hg (fun b _=>Clear.nil b) hu' hk0 hQ' (by rw [← PyData.shownKv_eq];exact hz')
end
end DL
namespace DL
open PySem PySem.Spec L2
open PyProof.Rows hiding St
structure Rm (k:Nat) (A:Around):Prop where
 room:Room k A
 gd:A.guards=some []
theorem Rm.deeper {k:Nat} {A:Around} (r:Rm (k+1) A) (env:Env):Rm k (A.deeper env):=⟨r.room.deeper env,r.gd⟩
theorem Rm.mono {j k:Nat} {A:Around} (r:Rm k A) (h:j≤k):Rm j A:=⟨r.room.mono h,r.gd⟩
structure FnG (P:Program) (w:World) (K:PySem.W.Frag) (mg:Str->Option Value) (base:Heap) (CX:CXT) (k:Nat) (f:Addr) (fd:FuncData) (ps:List Str) (sp:Sp):Prop where
 len : ∀ vs H Q E,sp vs H Q E->vs.length=ps.length
 run : ∀ (A:Around) (outer:List Env) (s:Shared) (H:Hp) (args:Args) (us:List Value) (vs:List V) (Q:VK) (E:XK),Rm k A->Env0 P w K mg base A outer s H->BindsTo s fd args (ps.zip us)->Vals vs us->sp vs H Q E ->
  codeAny (model P w) A (.call (.ref f) args) (CR CX outer P w H s Q E) s
section
variable {P:Program} {w:World} {K:PySem.W.Frag} {mg:Str->Option Value} {base:Heap} {x qual:Str} {params:Arguments} {body:List Stmt} {scope:Scope} {dvs:List V} {kws:List (Str×V)} {f:Addr} {fd:FuncData} {CX:CXT} {k:Nat} {sp:Sp} {N ps:List Str}
theorem FnG.mono {j:Nat} (F:FnG P w K mg base CX j f fd ps sp) (h:j≤k):FnG P w K mg base CX k f fd ps sp :=
 ⟨F.len,fun A outer s H args us vs Q E hr=>F.run A outer s H args us vs Q E (hr.mono h)⟩
theorem FnG.imp {sp' : Sp} (F:FnG P w K mg base CX k f fd ps sp) (h : ∀ vs H Q E,sp' vs H Q E->sp vs H Q E):FnG P w K mg base CX k f fd ps sp' :=
 ⟨fun vs H Q E q=>F.len vs H Q E (h _ _ _ _ q),fun A outer s H args us vs Q E hr he hb hv hs=>F.run A outer s H args us vs Q E hr he hb hv (h _ _ _ _ hs)⟩
theorem Th (F:FunD K x qual params body scope dvs kws f fd) (S:FnScope N ps scope) (len : ∀ vs H Q E,sp vs H Q E->vs.length=ps.length)
  (hbody : ∀ (cdv:Value) (A:Around) (outer:List Env) (s:Shared) (H:Hp) (vs:List V) (Q:VK) (E:XK),Rm k (A.deeper (envOfC qual scope s.heap.objs.size f cdv))->sp vs H Q E ->
   ∃ t,PSs (cxOf CX P w K mg base N qual scope f cdv A outer s H E) body t∧t { nx:=fun _ H'=>Q .non H',rt:=Q } (L2.start N vs) H):FnG P w K mg base CX (k+1) f fd ps sp:=by
 obtain ⟨oc,od,dV,kV,doc,pm,an,cdv,ct,osl,rfl,lk,hcd,_,_⟩:=F.ex
 refine ⟨len,fun A outer s H args us vs Q E hr e0 hb r hsp => ?_⟩
 have hl:=len _ _ _ _ hsp
 have up : ∀ b o,base.get? b=some o->s.heap.get? b=some o:=fun b o e=>(e0.bs b o e).1
 have kin:K.In s.heap:=e0.mod.kin.keeps up
 have nol:s.heap.NoLimit:=e0.mod.nolimit.keeps up
 refine codeAny_call_function hr.room.depth (kin _ _ lk) rfl S.co S.gen rfl (PySem.W.codeRec_of kin hcd) (hb _ _ _ _ ?_)
 refine wpAny_newFunctionEnv_cells S.kind (fun ⟨n,v⟩ hy=>(S.par n (List.of_mem_zip hy).1).imp (fun q=>q) fun q=>⟨q,PySem.W.cellsFrom_some _ _ _ (.inl q)⟩) fun env he s1 x => ?_
 subst he
 obtain ⟨t,ht,hq⟩:=hbody cdv A outer s H vs Q E (hr.deeper _) hsp
 refine ⟨nol.keeps x.toInCall.keep,codeAny_func (wpAny_mono (ht.run [] s1 (L2.start N vs) H _ (inv_start S hr.room.hd e0 hl r x) hq) (fun fl s' hs => ?_) fun e s' hs=>hs)⟩
 cases fl with
 | ret u=>obtain ⟨v,σ',H',J,rv,q⟩:=hs;exact ⟨v,H',J.os,J.bare,J.base,J.hok,rv,q⟩
 | next=>obtain ⟨σ',H',J,q⟩:=hs;exact ⟨V.non,H',J.os,J.bare,J.base,J.hok,rfl,q⟩
 | brk=>obtain ⟨_,_,_,q⟩:=hs;exact q.elim
 | cont=>obtain ⟨_,_,_,q⟩:=hs;exact q.elim
end
section
variable {X:Cx} {CX:CXT} {k:Nat} {f:Addr} {fd:FuncData} {ps:List Str} {sp:Sp} {E:XK} {x:Str} {p pos:Pos} {e:Expr} {es:List Expr} {t:TA}
theorem run_g {pins:List (Addr×Obj)} {σ : St} {H:Hp} {s:Shared} {Q:VK} {us:List Value} {vs:List V} (F:FnG X.prog X.w X.K X.mg X.base CX k f fd ps sp) (hr:Rm k X.A) (hb:Binds X.K fd ps []) (hx:Passes CX X E)
  (I:Inv X pins σ H s) (r:Vals vs us) (h:sp vs H Q E):wpAny (model X.prog X.w) X.A (call (.ref f) us) (EP X pins σ Q) X.xe s:=by
 have hl:us.length=ps.length:=r.length.symm.trans (F.len _ _ _ _ h)
 have hb':=hb s us I.kIn (by rw [List.append_nil];exact hl)
 rw [List.append_nil] at hb'
 refine wpAny_call (codeAny_mono (F.run X.A X.stack s H ⟨us, []⟩ us vs Q E hr I.env0 hb' r h) fun r s' hq => ?_)
 match r,hq with
 | .error e,hq=>exact hx pins σ H s e s' I hq
 | .ok (.ret u),hq=>exact I.after hq
theorem pe_g (F:FnG X.prog X.w X.K X.mg X.base CX k f fd ps sp) (hr:Rm k X.A) (hg:Gl X x) (hm:X.mg x=some (.ref f)) (hk:PySem.W.keepIn X.K (.ref f)=true) (hb:Binds X.K fd ps []) (hx:Passes CX X E)
  (ha:PA X (e :: es) t) (hdb:(x == ("__debug__" : Str))=false:=by decide) (he:starEach (e :: es) X.env=(false,eval e X.env) :: starEach es X.env:=by rfl) (hpl:(backTo pos (starEach es X.env)).any (·.1)=false:=by rfl) :
  PE X (.Call (.Name x p) (e :: es) [] pos) (fun σ H Q=>t σ H fun vs H1=>sp vs H1 Q E):=by
 refine ⟨fun pins s σ H Q I h=>wpAny_Call_Name_kw (ld_glob I hg hm ?_ hdb)⟩
 exact PySem.W.callWith_K (h₀:=X.base) I.ok.mod.kin hk (thn (ha.run pos pins s σ H _ I h) fun us s1 ⟨vs,H1,I1,r,q⟩=>⟨I1.kIn,run_g F hr hb hx I1 r q⟩) he hpl
variable [Tbs] [Bas] {ts:XTs} {fl:List Bool} {spec:bU}
theorem ak (F:FnG X.prog X.w X.K X.mg X.base CX0 k f fd ps (ASp X.K fl spec)) (hr:Rm k X.A) (hg:Gl X x) (hm:X.mg x=some (.ref f)) (hk:PySem.W.keepIn X.K (.ref f)=true) (hb:Binds X.K fd ps [])
  (ha:EXs X (e :: es) ts) (hdb:(x == ("__debug__" : Str))=false:=by decide) (he:starEach (e :: es) X.env=(false,eval e X.env) :: starEach es X.env:=by rfl) (hpl:(backTo pos (starEach es X.env)).any (·.1)=false:=by rfl) :
  EX X (.Call (.Name x p) (e :: es) [] pos) (aV fl spec ts):=⟨PE.imp (pe_g (E:=E0) F hr hg hm hk hb pass0 ha.pa hdb he hpl) fun σ H Q h=>by
   have:=yr (n:=(e :: es).length) (E:=E0) h
   unfold tCall at this
   simpa using this⟩
end
section
variable {P:Program} {w:World} {K:PySem.W.Frag} {mg:Str->Option Value} {base:Heap} {x qual:Str} {params:Arguments} {body:List Stmt} {scope:Scope} {f:Addr} {fd:FuncData}
theorem eE [Tbs] {N ps:List Str} {k:Nat} {spec:bU} (fl:List Bool) (tb:ST) (F:FunD K x qual params body scope [] [] f fd) (S:FnScope N ps scope) (hfl:fl.length=ps.length)
  (hbody : ∀ (cdv:Value) (A:Around) (outer:List Env) (s:Shared) (H:Hp) (E:XK),Rm k (A.deeper (envOfC qual scope s.heap.objs.size f cdv)) ->
   ∀ B:Bas, @SXs _ B (cxOf CX0 P w K mg base N qual scope f cdv A outer s H E).nox (fun j=>fl.getD j false) body tb)
  (rd : ∀ os Qa,os.length=fl.length->spec os Qa->tb (aP fl Qa) (aK N.length os)):FnG P w K mg base CX0 (k+1) f fd ps (ASp K fl spec):=by
 refine Th F S (fun vs H Q E h => ?_) fun cdv A outer s H vs Q E hr h=>let ⟨B,hB⟩:=Ov fl tb S rd h;⟨@LS _ B K (fun j=>fl.getD j false) tb,PSs.nox (hbody cdv A outer s H E hr B).pss,hB⟩
 obtain ⟨os,fp,G,Qa,h,_⟩:=h
 rw [h,hfl]
end
variable [Tbs] [Bas]
section
variable {X:Cx}
theorem OpA.mk {f:Value->Value->Sem Value} {g:G2} (h : ∀ (pins:List (Addr×Obj)) (s:Shared) (σ : St) (H:Hp) (F:Addr->Prop) (v u:V) (x y:O) (a b:Value) (Q:VK) (Qa:O->Prop),Inv X pins σ H s->RelV v a->RelV u b->RW X.K H F v x->RW X.K H F u y->g x y Qa->xC X.K H F Qa Q ->
  wpAny (model X.prog X.w) X.A (f a b) (EP X pins σ Q) X.xe s):OpA X f g :=
 ⟨fun v u H Q => ∃ F x y Qa,RW X.K H F v x∧RW X.K H F u y∧g x y Qa∧xC X.K H F Qa Q,fun pins s σ H v u a b Q I rx ry ⟨F,x,y,Qa,hx,hy,hg,fin⟩=>h pins s σ H F v u x y a b Q Qa I rx ry hx hy hg fin,
  fun H F v u x y Q Qa hx hy hg fin=>⟨F,x,y,Qa,hx,hy,hg,fin⟩⟩
theorem UnA.mk {f:Value->Sem Value} {g:G1} (h : ∀ (pins:List (Addr×Obj)) (s:Shared) (σ : St) (H:Hp) (F:Addr->Prop) (v:V) (x:O) (a:Value) (Q:VK) (Qa:O->Prop),Inv X pins σ H s->RelV v a->RW X.K H F v x->g x Qa->xC X.K H F Qa Q ->
  wpAny (model X.prog X.w) X.A (f a) (EP X pins σ Q) X.xe s):UnA X f g :=
 ⟨fun v H Q => ∃ F x Qa,RW X.K H F v x∧g x Qa∧xC X.K H F Qa Q,fun pins s σ H v a Q I rx ⟨F,x,Qa,hx,hg,fin⟩=>h pins s σ H F v x a Q Qa I rx hx hg fin,fun H F v x Q Qa hx hg fin=>⟨F,x,Qa,hx,hg,fin⟩⟩
theorem iT.mk {f:Value} {g:GN} (h : ∀ (pins:List (Addr×Obj)) (s:Shared) (σ : St) (H:Hp) (F:Addr->Prop) (vs:List V) (xs:List O) (us:List Value) (Q:VK) (Qa:O->Prop),Inv X pins σ H s->Vals vs us->Paired (RW X.K H F) vs xs->g xs Qa->xC X.K H F Qa Q ->
  wpAny (model X.prog X.w) X.A (call f us) (EP X pins σ Q) X.xe s):iT X f g :=
 ⟨fun vs H Q => ∃ F xs Qa,Paired (RW X.K H F) vs xs∧g xs Qa∧xC X.K H F Qa Q,fun pins s σ H vs us Q I r ⟨F,xs,Qa,hx,hg,fin⟩=>h pins s σ H F vs xs us Q Qa I r hx hg fin,fun H F vs xs Q Qa hx hg fin=>⟨F,xs,Qa,hx,hg,fin⟩⟩
def rCatP (K:PySem.W.Frag):R2:=fun x y H Q => ∃ p q vs us,x = .ref p∧y = .ref q∧SqT K H p vs∧SqT K H q us∧vs.length+us.length≤sizeLine ∧
 (vs=[]->Q (.ref q) H)∧(us=[]->Q (.ref p) H) ∧ ∀ z its,H z=none->Q (.ref z) (upd H z (.frz (Vs its) (.tup (vs++us))))
theorem Z7:OpR X (binaryOp .Add) (rCatP X.K):=by
 rintro pins s σ H x y v u Q I rx ry ⟨p,q,vs,us,rfl,rfl,hp,hq,hz,k0,k1,k2⟩
 cases rx
 cases ry
 obtain ⟨l1,r1,t1,_⟩:=I.tuple hp
 obtain ⟨l2,r2,t2,_⟩:=I.tuple hq
 by_cases n1:vs=[]
 ·subst n1
  cases r1
  exact cat_tup0 t1 t2 ⟨.ref q,H,I,rfl,k0 rfl⟩
 ·refine HT.cat_tup t1 t2 (fun z=>n1 (r1.nil_iff.mp z)) (fun z=>⟨.ref p,H,I,rfl,k1 (r2.nil_iff.mp z)⟩) (fun _ => ?_) (by rw [← r1.length, ← r2.length];exact hz)
  exact ⟨.ref s.heap.objs.size,_,RB (tk:=s.toks) I (r1.append r2) (by rw [List.length_append];exact hz) (fun b ob q=>Heap.get?_push_of_some _ q) (Heap.get?_push_size _ rfl) (Nat.le_refl _),rfl,k2 _ _ (I.hok.fresh (Nat.le_refl _))⟩
def lsO:O->Option (List T)
 | .lst ts=>some ts
 | .pure (.list ts)=>some ts
 | _=>none
def tuO:O->Option (List T)
 | .pure (.tuple ts)=>some ts
 | _=>none
theorem RW.ls {K:PySem.W.Frag} {H:Hp} {F:Addr->Prop} {v:V} {o:O} {ts:List T} (h:RW K H F v o) (e:lsO o=some ts) : ∃ a vs,v = .ref a∧SqL K H a vs∧RPs K H F vs ts:=by
 unfold lsO at e
 split at e
 ·cases e
  obtain ⟨a,vs,rfl,q,r⟩:=h
  exact ⟨a,vs,rfl, .inl (.inl q),r⟩
 ·cases e
  obtain ⟨a,vs,rfl,q,r,_⟩:=RP.lstE h
  exact ⟨a,vs,rfl,q,r⟩
 ·cases e
theorem RW.tu {K:PySem.W.Frag} {H:Hp} {F:Addr->Prop} {v:V} {o:O} {ts:List T} (h:RW K H F v o) (e:tuO o=some ts) : ∃ a vs,v = .ref a∧SqT K H a vs∧RPs K H F vs ts:=by
 unfold tuO at e
 split at e
 ·cases e
  exact RP.tupE h
 ·cases e
def gG:G2:=fun x y Q=>match x,y with
 | .pure (.int i), .pure (.int j)=>Q (.pure (.int (i+j)))
 | .pure (.int i), .pure (.bool k)=>Q (.pure (.int (i+b2i k)))
 | .pure (.bool k), .pure (.int j)=>Q (.pure (.int (b2i k+j)))
 | .pure (.str a), .pure (.str b)=>a.length+b.length≤16777216∧Q (.pure (.str (a++b)))
 | .pure (.tuple ts), .pure (.tuple us)=>ts.length+us.length≤16777216∧Q (.pure (.tuple (ts++us)))
 | .lst ts, .lst us=>ts.length+us.length≤16777216∧Q (.lst (ts++us))
 | _,_=>False
theorem RPs.nil_of {K:PySem.W.Frag} {H:Hp} {F:Addr->Prop} {ts:List T} (r:RPs K H F [] ts):ts=[]:=by cases r;rfl
theorem cC:OpA X (binaryOp .Add) gG:=OpA.mk fun pins s σ H F v u x y a b Q Qa I rx ry hx hy h fin=>by
 unfold gG at h
 split at h
 ·have e1:=RP.intE hx;have e2:=RP.intE hy;subst e1 e2
  exact op_add pins s σ H _ _ _ _ Q I rx ry ⟨_,_,rfl,rfl,fin.int h⟩
 ·have e1:=RP.intE hx;have e2:=RP.boolE hy;subst e1 e2
  exact op_add_ib pins s σ H _ _ _ _ Q I rx ry ⟨_,_,rfl,rfl,fin.int h⟩
 ·have e1:=RP.boolE hx;have e2:=RP.intE hy;subst e1 e2
  cases rx
  obtain ⟨t,rfl⟩:=ry
  refine PySem.IntBool.add_bool_int ⟨.int _,H,I.tok _,⟨_,rfl⟩,fin.int ?_⟩
  exact h
 ·have e1:=RP.strE hx;have e2:=RP.strE hy;subst e1 e2
  exact op_add_str pins s σ H _ _ _ _ Q I rx ry ⟨_,_,rfl,rfl,by rw [sizeLine_eq];exact h.1,fin.str h.2⟩
 ·obtain ⟨p,vs,rfl,hp,r1⟩:=RP.tupE hx
  obtain ⟨q,us,rfl,hq,r2⟩:=RP.tupE hy
  refine Z7 pins s σ H _ _ _ _ Q I rx ry ⟨p,q,vs,us,rfl,rfl,hp,hq,by rw [sizeLine_eq,Paired.len r1,Paired.len r2];exact h.1,fun e => ?_,fun e => ?_,fun z its hz => ?_⟩
  ·subst e
   obtain rfl:=RPs.nil_of r1
   exact fin.pure hy h.2
  ·subst e
   obtain rfl:=RPs.nil_of r2
   rw [List.append_nil] at h
   exact fin.pure hx h.2
  ·exact fin.tup hz (Paired.app r1 r2) h.2
 ·obtain ⟨p,vs,rfl,hp,r1⟩:=hx
  obtain ⟨q,us,rfl,hq,r2⟩:=hy
  exact op_cat pins s σ H _ _ _ _ Q I rx ry ⟨p,q,vs,us,rfl,rfl,hp,hq,by rw [sizeLine_eq,Paired.len r1,Paired.len r2];exact h.1,fun z hz=>fin.lst hz (Paired.app r1 r2) h.2⟩
 ·exact h.elim
def jO:G2:=fun x y Q=>match x,y with
 | .pure (.int i), .pure (.int j)=>Q (.pure (.int (i - j)))
 | .pure (.bool k), .pure (.int j)=>Q (.pure (.int (b2i k - j)))
 | _,_=>False
theorem Z8:OpA X (binaryOp .Sub) jO:=OpA.mk fun pins s σ H F v u x y a b Q Qa I rx ry hx hy h fin=>by
 unfold jO at h
 split at h
 ·have e1:=RP.intE hx;have e2:=RP.intE hy;subst e1 e2
  exact op_sub pins s σ H _ _ _ _ Q I rx ry ⟨_,_,rfl,rfl,fin.int h⟩
 ·have e1:=RP.boolE hx;have e2:=RP.intE hy;subst e1 e2
  cases rx
  obtain ⟨t,rfl⟩:=ry
  exact PySem.IntBool.sub_bool_int ⟨.int _,H,I.tok _,⟨_,rfl⟩,fin.int h⟩
 ·exact h.elim
def aAl (k:Int) (ts:List T):List T:=(List.replicate k.toNat ts).flatten
theorem Paired.rep {α β : Type} {G : α->β->Prop} {l:List α} {r:List β} (h:Paired G l r) : ∀ n:Nat,Paired G (List.replicate n l).flatten (List.replicate n r).flatten
 | 0 => .nil
 | n+1=>by rw [List.replicate_succ,List.replicate_succ,List.flatten_cons,List.flatten_cons];exact Paired.app h (Paired.rep h n)
def uv:G2:=fun x y Q=>match x,y with
 | .pure (.int i), .pure (.int j)=>i.natAbs.log2+j.natAbs.log2<1000000∧Q (.pure (.int (i * j)))
 | .lst ts, .pure (.int k)=>0≤k∧k≤1000000∧ts.length * k.toNat≤16777216∧Q (.lst (aAl k ts))
 | _,_=>False
theorem Z9:OpA X (binaryOp .Mult) uv:=OpA.mk fun pins s σ H F v u x y a b Q Qa I rx ry hx hy h fin=>by
 unfold uv at h
 split at h
 ·have e1:=RP.intE hx;have e2:=RP.intE hy;subst e1 e2
  exact op_mulW pins s σ H _ _ _ _ Q I rx ry ⟨_,_,rfl,rfl,h.1,fin.int h.2⟩
 ·obtain ⟨p,vs,rfl,hp,r1⟩:=hx
  have e2:=RP.intE hy;subst e2
  obtain ⟨h1,h2,h3,h4⟩:=h
  exact op_rep pins s σ H _ _ _ _ Q I rx ry ⟨p,_,vs,rfl,rfl,hp,by omega,by omega,by rw [sizeLine_eq,Paired.len r1];exact h3,fun z hz=>fin.lst hz (Paired.rep r1 _) h4⟩
 ·exact h.elim
def lA:G2:=fun x y Q=>match x,y with
 | .pure (.int i), .pure (.int j)=>0<j∧j.natAbs.log2<9000∧Q (.pure (.int (i / j)))
 | _,_=>False
theorem P0:OpA X (binaryOp .FloorDiv) lA:=OpA.mk fun pins s σ H F v u x y a b Q Qa I rx ry hx hy h fin=>by
 unfold lA at h
 split at h
 ·have e1:=RP.intE hx;have e2:=RP.intE hy;subst e1 e2
  exact op_fdivW pins s σ H _ _ _ _ Q I rx ry ⟨_,_,rfl,rfl,⟨h.1,h.2.1⟩,fin.int h.2.2⟩
 ·exact h.elim
def uw:G2:=fun x y Q=>match x,y with
 | .pure (.int i), .pure (.int j)=>0<j∧Q (.pure (.int (i % j)))
 | _,_=>False
theorem qb:OpA X (binaryOp .Mod) uw:=OpA.mk fun pins s σ H F v u x y a b Q Qa I rx ry hx hy h fin=>by
 unfold uw at h
 split at h
 ·have e1:=RP.intE hx;have e2:=RP.intE hy;subst e1 e2
  exact op_mod pins s σ H _ _ _ _ Q I rx ry ⟨_,_,rfl,rfl,h.1,fin.int h.2⟩
 ·exact h.elim
def xJ:G2:=fun x y Q=>match x,y with
 | .pure (.int i), .pure (.int j)=>0≤j∧j≤1000∧i.natAbs.log2<100000∧Q (.pure (.int (i ^ j.toNat)))
 | _,_=>False
theorem Aa:OpA X (binaryOp .Pow) xJ:=OpA.mk fun pins s σ H F v u x y a b Q Qa I rx ry hx hy h fin=>by
 unfold xJ at h
 split at h
 ·rename_i i j
  have e1:=RP.intE hx;have e2:=RP.intE hy;subst e1 e2
  obtain ⟨h1,h2,h3,h4⟩:=h
  obtain ⟨t,rfl⟩:=rx
  obtain ⟨t',rfl⟩:=ry
  refine pow_int h1 ?_ ⟨.int _,H,I.tok _,⟨_,rfl⟩,fin.int h4⟩
  have b:(Builtin.Int.intBits i:Int)≤100001:=by
   unfold Builtin.Int.intBits
   split<;>omega
  have b2:(Builtin.Int.intBits i:Int) * j≤100001 * 1000:=Int.mul_le_mul b h2 h1 (by omega)
  omega
 ·exact h.elim
def v4:G1:=fun x Q=>match x with
 | .pure (.int i)=>Q (.pure (.int (-i)))
 | .pure (.bool k)=>Q (.pure (.int (-(b2i k))))
 | _=>False
theorem WK {prog:Program} {w:World} {A:Around} {E:Value->Shared->Prop} {s:Shared} {k:Bool} {Q:Value->Shared->Prop} (h:Q (.int (-(b2i k)) s.toks) { s with toks:=s.toks+1 }):wpAny (model prog w) A (unaryOp .USub (.bool k)) Q E s:=by
 unfold unaryOp
 refine wpAny_holding ?_
 refine wpAny_bind (m:=callSpecial? (.bool k) (Str.ofString "__neg__")) (wpAny_callSpecial?_slot (name:=Str.ofString "__neg__") (T := "bool") rfl F.slot_bool_neg
  (wpAny_call_entry F.slot_bool_neg (T := "bool") rfl entry_int_neg ?_ (args_int_neg _)))
 show wpAny _ _ (do ret (← mkInt (-(b2i k)))) _ _ s
 exact wpAny_ret_mkInt (wpAny_pure h)
theorem Ab:UnA X (unaryOp .USub) v4:=UnA.mk fun pins s σ H F v x a Q Qa I rx hx h fin=>by
 unfold v4 at h
 split at h
 ·have e1:=RP.intE hx;subst e1
  exact un_neg pins s σ H _ _ Q I rx ⟨_,rfl,fin.int h⟩
 ·have e1:=RP.boolE hx;subst e1
  cases rx
  exact WK ⟨.int _,H,I.tok _,⟨_,rfl⟩,fin.int h⟩
 ·exact h.elim
def gGe:G2:=fun x y Q=>match x,y with
 | .pure (.int i), .pure (.int j)=>Q (.pure (.bool (decide (j≤i))))
 | _,_=>False
def gGt:G2:=fun x y Q=>match x,y with
 | .pure (.int i), .pure (.int j)=>Q (.pure (.bool (decide (j<i))))
 | _,_=>False
def gLe:G2:=fun x y Q=>match x,y with
 | .pure (.int i), .pure (.int j)=>Q (.pure (.bool (decide (i≤j))))
 | _,_=>False
theorem aAB:OpA X (compareOp .GtE) gGe:=OpA.mk fun pins s σ H F v u x y a b Q Qa I rx ry hx hy h fin=>by
 unfold gGe at h
 split at h
 ·have e1:=RP.intE hx;have e2:=RP.intE hy;subst e1 e2
  exact op_ge pins s σ H _ _ _ _ Q I rx ry ⟨_,_,rfl,rfl,fin.bl h⟩
 ·exact h.elim
theorem Y7:OpA X (compareOp .Gt) gGt:=OpA.mk fun pins s σ H F v u x y a b Q Qa I rx ry hx hy h fin=>by
 unfold gGt at h
 split at h
 ·have e1:=RP.intE hx;have e2:=RP.intE hy;subst e1 e2
  exact op_gt pins s σ H _ _ _ _ Q I rx ry ⟨_,_,rfl,rfl,fin.bl h⟩
 ·exact h.elim
def gLt:G2:=fun x y Q=>match x,y with
 | .pure (.int i), .pure (.int j)=>Q (.pure (.bool (decide (i<j))))
 | .pure d, .pure e=>PySem.W.alike d e=true∧d ≠ .none∧min d.depth e.depth≤150∧Q (.pure (.bool (PySem.W.dataLt d e)))
 | _,_=>False
theorem Y8 (hu:X.A.units+200<cLine):OpA X (compareOp .Lt) gLt:=OpA.mk fun pins s σ H F v u x y a b Q Qa I rx ry hx hy h fin=>by
 unfold gLt at h
 split at h
 ·have e1:=RP.intE hx;have e2:=RP.intE hy;subst e1 e2
  exact op_lt pins s σ H _ _ _ _ Q I rx ry ⟨_,_,rfl,rfl,fin.bl h⟩
 ·obtain ⟨h1,h2,h3,h4⟩:=h
  obtain ⟨as,r1⟩:=RW.reads I hx trivial rx
  obtain ⟨bs,r2⟩:=RW.reads I hy trivial ry
  exact PySem.W.rcLt_alike _ _ X.A s a b as bs r1 r2 h1 h2 (by simp only [O.frz] at *; omega) _ _ _ _ ⟨.bl _,H,I,rfl,fin.bl h4⟩
 ·exact h.elim
def gEq:G2:=fun x y Q=>x.fz∧y.fz∧jN x.frz y.frz=true∧min x.frz.depth y.frz.depth≤150∧Q (.pure (.bool (PyData.eqv x.frz y.frz)))
theorem El (hu:X.A.units+200<cLine):OpA X (compareOp .Eq) gEq:=OpA.mk fun pins s σ H F v u x y a b Q Qa I rx ry hx hy h fin=>by
 obtain ⟨z1,z2,h1,h2,h3⟩:=h
 obtain ⟨as,r1⟩:=RW.reads I hx z1 rx
 obtain ⟨bs,r2⟩:=RW.reads I hy z2 ry
 exact (Ij _ _ X.A s a b as bs r1 r2 h1 (by omega)).2 _ _ _ _ ⟨.bl _,H,I,rfl,fin.bl h3⟩
def gNe:G2:=fun x y Q=>match x,y with
 | .pure (.int i), .pure (.int j)=>Q (.pure (.bool (!decide (i=j))))
 | .pure (.str i), .pure (.str j)=>Q (.pure (.bool (!decide (i=j))))
 | .pure (.bool i), .pure (.bool j)=>Q (.pure (.bool (!decide (i=j))))
 | x,y=>x.fz∧y.fz∧x.frz.canLay0=true∧y.frz.canLay0=true∧min x.frz.depth y.frz.depth≤150∧Q (.pure (.bool (!PyData.eqv x.frz y.frz)))
theorem PB (hu:X.A.units+200<cLine):OpA X (compareOp .NotEq) gNe:=OpA.mk fun pins s σ H F v u x y a b Q Qa I rx ry hx hy h fin=>by
 unfold gNe at h
 split at h
 ·have e1:=RP.intE hx;have e2:=RP.intE hy;subst e1 e2
  exact op_ne pins s σ H _ _ _ _ Q I rx ry ⟨rfl,fin.bl (by simpa using h)⟩
 ·have e1:=RP.strE hx;have e2:=RP.strE hy;subst e1 e2
  exact op_ne pins s σ H _ _ _ _ Q I rx ry ⟨rfl,fin.bl (by simpa using h)⟩
 ·have e1:=RP.boolE hx;have e2:=RP.boolE hy;subst e1 e2
  exact op_ne pins s σ H _ _ _ _ Q I rx ry ⟨rfl,fin.bl (by simpa using h)⟩
 ·obtain ⟨z1,z2,h1,h2,h3,h4⟩:=h
  obtain ⟨as,r1⟩:=RW.reads I hx z1 rx
  obtain ⟨bs,r2⟩:=RW.reads I hy z2 ry
  exact PySem.SeqAt.compareNe_reads r1 r2 h1 h2 (by omega) ⟨.bl _,H,I,rfl,fin.bl h4⟩
def ZC (x y:Str):Bool := !(Builtin.Str.occurrences y x 0 y.length 1).isEmpty
def rR (o:O):Option (List T):=match lsO o with
 | some ts=>some ts
 | none=>tuO o
def uh (neg:Bool):G2:=fun x y Q=>match x,y with
 | .pure (.str a), .pure (.str b)=>Q (.pure (.bool (neg ^^ ZC a b)))
 | x,y=>match rR y with
  | some ts=>x.fz∧(ts.all fun z=>jN z x.frz && decide (min z.depth x.frz.depth≤150))=true∧Q (.pure (.bool (neg ^^ ts.any fun z=>PyData.eqv z x.frz)))
  | none=>False
theorem Em {h:Heap} : ∀ {vs:List Value} {ds:List T} {as:List Addr},ReadsAll h vs ds as -> ∀ v∈vs, ∃ d∈ds, ∃ bs,Reads h v d bs
 | _,_,_, .cons r rs,v,m=>by
  rcases List.mem_cons.mp m with rfl | m
  ·exact ⟨_,List.mem_cons_self,_,r⟩
  ·obtain ⟨d,hd,bs,q⟩:=Em rs v m
   exact ⟨d,List.mem_cons_of_mem _ hd,bs,q⟩
theorem KZ {h:Heap} {f:Value->Bool} {g:T->Bool} (w : ∀ v d bs,Reads h v d bs->f v=g d) : ∀ {vs:List Value} {ds:List T} {as:List Addr},ReadsAll h vs ds as->vs.any f=ds.any g
 | _,_,_, .nil=>rfl
 | _,_,_, .cons r rs=>by rw [List.any_cons,List.any_cons,w _ _ _ r,KZ w rs]
theorem Tj (hu:X.A.units+200<cLine) (neg:Bool):OpA X (compareOp (if neg=true then .NotIn else .In)) (uh neg):=OpA.mk fun pins s σ H F v u x y a b Q Qa I rx ry hx hy h fin=>by
 unfold uh at h
 split at h
 ·have e1:=RP.strE hx;have e2:=RP.strE hy;subst e1 e2
  cases neg with
  | false =>
   rw [if_neg Bool.false_ne_true]
   exact op_in_str pins s σ H _ _ _ _ Q I rx ry ⟨_,_,rfl,rfl,fin.bl (by simpa [ZC] using h)⟩
  | true =>
   rw [if_pos rfl]
   exact op_notin_str pins s σ H _ _ _ _ Q I rx ry ⟨_,_,rfl,rfl,fin.bl (by simpa [ZC] using h)⟩
 ·split at h
  ·rename_i ts es
   obtain ⟨z1,h1,h2⟩:=h
   obtain ⟨as,r1⟩:=RW.reads I hx z1 rx
   have key : ∀ (items:Array Value) (as' : List Addr),ReadsAll s.heap items.toList ts as' -> ∃ e:Value->Bool,(∀ z,z∈items->SeqAt.EqAt X.A.in1 s z a (e z))∧items.any e=ts.any fun z=>PyData.eqv z x.frz:=fun items as' ra=>by
    classical
    refine ⟨fun z=>if hz : ∃ d bs,Reads s.heap z d bs then PyData.eqv hz.choose x.frz else false,fun z hz => ?_, ?_⟩
    ·obtain ⟨d,hd,bs,rd⟩:=Em ra z (by simpa using hz)
     have hz : ∃ d bs,Reads s.heap z d bs:=⟨d,bs,rd⟩
     have e:hz.choose=d:=vA hz.choose_spec.choose_spec rd
     show SeqAt.EqAt X.A.in1 s z a (if hz : ∃ d bs,Reads s.heap z d bs then PyData.eqv hz.choose x.frz else false)
     rw [dif_pos hz,e]
     have c:=List.all_eq_true.mp h1 d hd
     simp only [Bool.and_eq_true,decide_eq_true_eq] at c
     exact (Ij d _ X.A.in1 s z a bs as rd r1 c.1 (by show X.A.units+1+_<_;omega)).1
    ·rw [← Array.any_toList]
     refine KZ (fun v d bs rd => ?_) ra
     have hz : ∃ d bs,Reads s.heap v d bs:=⟨d,bs,rd⟩
     show (if hz : ∃ d bs,Reads s.heap v d bs then PyData.eqv hz.choose x.frz else false)=_
     rw [dif_pos hz,vA hz.choose_spec.choose_spec rd]
   have ends : ∀ {k:Bool},k=(ts.any fun z=>PyData.eqv z x.frz)->EP X pins σ Q (.bool (neg ^^ k)) s:=fun e=>⟨.bl _,H,I,rfl,by rw [e];exact fin.bl h2⟩
   unfold rR at es
   split at es
   ·rename_i us el
    cases es
    obtain ⟨p,vs,rfl,hq,r2⟩:=RW.ls hy el
    cases ry
    obtain ⟨its,rv,pl,_⟩:=I.list hq
    obtain ⟨qs,r3,_⟩:=r2.rvs
    obtain ⟨cs,r4⟩:=RVs.reads I r3 rv
    obtain ⟨e,k1,k2⟩:=key its.toArray cs (by simpa using r4)
    cases neg with
    | false=>rw [if_neg Bool.false_ne_true];exact SeqAt.in_listAt e pl.isList k1 (by simpa using ends k2)
    | true=>rw [if_pos rfl];exact SeqAt.notIn_listAt e pl.isList k1 (by simpa using ends k2)
   ·obtain ⟨p,vs,rfl,hq,r2⟩:=RW.tu hy es
    cases ry
    obtain ⟨its,rv,pl,_⟩:=I.tuple hq
    obtain ⟨qs,r3,_⟩:=r2.rvs
    obtain ⟨cs,r4⟩:=RVs.reads I r3 rv
    obtain ⟨e,k1,k2⟩:=key its.toArray cs (by simpa using r4)
    cases neg with
    | false=>rw [if_neg Bool.false_ne_true];exact SeqAt.in_tupleAt e pl k1 (by simpa using ends k2)
    | true=>rw [if_pos rfl];exact SeqAt.notIn_tupleAt e pl k1 (by simpa using ends k2)
  ·exact h.elim
theorem Tn (hu:X.A.units+200<cLine):OpA X (compareOp .In) (uh false):=Tj hu false
theorem Tp (hu:X.A.units+200<cLine):OpA X (compareOp .NotIn) (uh true):=Tj hu true
def sG:O->Bool
 | .pure .none=>true
 | _=>false
theorem RW.non {K:PySem.W.Frag} {H:Hp} {F:Addr->Prop} {v:V} {o:O} (h:RW K H F v o):decide (v = .non)=sG o:=by
 cases o with
 | pure t =>
  obtain ⟨as,r,_⟩:=h
  cases r<;>simp [sG]
 | lst ts=>obtain ⟨a,vs,rfl,_⟩:=h;simp [sG]
 | dct ts=>obtain ⟨a,vs,rfl,_⟩:=h;simp [sG]
 | dcl ts=>obtain ⟨a,vs,bs,rfl,_⟩:=h;simp [sG]
 | exc e=>obtain ⟨a,d,rfl,_⟩:=h;simp [sG]
 | thk f=>obtain ⟨rfl,_⟩:=h;simp [sG]
 | dtt ts=>obtain ⟨a,vs,ep,rfl,_⟩:=h;simp [sG]
 | any=>simp only [sG];exact decide_eq_false h
 | dcf ts=>obtain ⟨a,vs,ep,rfl,_⟩:=h;simp [sG]
 | ins c fs=>obtain ⟨a,dx,vs,B,rfl,_⟩:=h;simp [sG]
 | dtf ts=>obtain ⟨a,vs,ep,rfl,_⟩:=h;simp [sG]
 | dtp ts=>obtain ⟨a,vs,rfl,_⟩:=h;simp [sG]
 | stf ts=>obtain ⟨a,vs,ep,rfl,_⟩:=h;simp [sG]
 | lls ts=>obtain ⟨a,vs,bs,rfl,_⟩:=h;simp [sG]
 | thi k j c fs=>obtain ⟨⟨rfl,_⟩,_⟩:=h;simp [sG]
 | ina a c fs=>obtain ⟨rfl,_⟩:=h;simp [sG]
def gIs:G2:=fun x y Q=>match y with
 | .pure .none=>Q (.pure (.bool (sG x)))
 | _=>False
def iK:G2:=fun x y Q=>match y with
 | .pure .none=>Q (.pure (.bool (!sG x)))
 | _=>False
theorem Tq:OpA X (compareOp .Is) gIs:=OpA.mk fun pins s σ H F v u x y a b Q Qa I rx ry hx hy h fin=>by
 unfold gIs at h
 split at h
 ·have e2:=RP.noneE hy;subst e2
  exact op_isN pins s σ H _ _ _ _ Q I rx ry ⟨rfl,by rw [RW.non hx];exact fin.bl h⟩
 ·exact h.elim
end
end DL
namespace DL
open PySem PySem.Spec L2
open PyProof.Rows hiding St
variable [Tbs] [Bas]
section
variable {X:Cx}
def rF:GN:=fun os Q=>match os with
 | [.pure (.str x)]=>x.length≤16777216∧Q (.pure (.int x.length))
 | [o]=>match rR o with
  | some ts=>Q (.pure (.int ts.length))
  | none=>False
 | _=>False
theorem gj:iT X (.builtin "len") rF:=iT.mk fun pins s σ H F vs xs us Q Qa I r hx h fin=>by
 unfold rF at h
 split at h
 ·cases hx with
  | cons h1 hr =>
   cases hr
   have e1:=RP.strE h1;subst e1
   exact call_len pins s σ H _ us Q I r ⟨_,_,rfl,⟨by rw [sizeLine_eq];exact h.1,rfl⟩,fin.int h.2⟩
 ·cases hx with
  | cons h1 hr =>
   cases hr
   split at h
   ·rename_i ts es
    unfold rR at es
    split at es
    ·rename_i us el
     cases es
     obtain ⟨p,vs,rfl,hq,r2⟩:=RW.ls h1 el
     exact call_len pins s σ H _ _ Q I r ⟨_,_,rfl, .inl ⟨vs,hq,rfl⟩,by rw [Paired.len r2];exact fin.int h⟩
    ·obtain ⟨p,vs,rfl,hq,r2⟩:=RW.tu h1 es
     exact call_len pins s σ H _ _ Q I r ⟨_,_,rfl, .inr ⟨vs,hq,rfl⟩,by rw [Paired.len r2];exact fin.int h⟩
   ·exact h.elim
 ·exact h.elim
def mW:List T->Option (List Bool)
 | []=>some []
 | .bool b :: ts=>(mW ts).map (b :: ·)
 | _=>none
theorem RPs.bools {K:PySem.W.Frag} {H:Hp} {F:Addr->Prop} : ∀ {vs:List V} {ts:List T} {bs:List Bool},RPs K H F vs ts->mW ts=some bs->vs=bs.map V.bl
 | _,_,_, .nil,e=>by cases e;rfl
 | _,t :: ts,bs, .cons h r,e=>by
  unfold mW at e
  split at e
  ·rename_i heq;cases heq
  ·rename_i b ts' heq
   cases heq
   cases q:mW ts with
   | none=>rw [q] at e;cases e
   | some bs' =>
    rw [q] at e;cases e
    rw [List.map_cons,RP.boolE h,RPs.bools r q]
  ·cases e
def cP (f:List Bool->Bool):GN:=fun os Q=>match os with
 | [o]=>match lsO o with
  | some ts=>match mW ts with
   | some bs=>Q (.pure (.bool (f bs)))
   | none=>False
  | none=>False
 | _=>False
theorem Tr (hc:X.calm=true):iT X (.builtin "all") (cP fun bs=>bs.all id):=iT.mk fun pins s σ H F vs xs us Q Qa I r hx h fin=>by
 unfold cP at h
 split at h
 ·cases hx with
  | cons h1 hr =>
   cases hr
   split at h
   ·rename_i ts el
    split at h
    ·rename_i bs eb
     obtain ⟨p,vs,rfl,hq,r2⟩:=RW.ls h1 el
     obtain rfl:=r2.bools eb
     exact cr_all hc pins s σ H _ _ Q I r ⟨p,bs,rfl,hq,fin.bl h⟩
    ·exact h.elim
   ·exact h.elim
 ·exact h.elim
theorem Ka (hc:X.calm=true):iT X (.builtin "any") (cP fun bs=>bs.any id):=iT.mk fun pins s σ H F vs xs us Q Qa I r hx h fin=>by
 unfold cP at h
 split at h
 ·cases hx with
  | cons h1 hr =>
   cases hr
   split at h
   ·rename_i ts el
    split at h
    ·rename_i bs eb
     obtain ⟨p,vs,rfl,hq,r2⟩:=RW.ls h1 el
     obtain rfl:=r2.bools eb
     exact cr_any hc pins s σ H _ _ Q I r ⟨p,bs,rfl,hq,fin.bl h⟩
    ·exact h.elim
   ·exact h.elim
 ·exact h.elim
def zp:GN:=fun os Q=>match os with
 | [.pure (.int i)]=>Q (.pure (.int (if i<0 then -i else i)))
 | _=>False
theorem Kc:iT X (.builtin "abs") zp:=iT.mk fun pins s σ H F vs xs us Q Qa I r hx h fin=>by
 unfold zp at h
 split at h
 ·cases hx with
  | cons h1 hr =>
   cases hr
   have e1:=RP.intE h1;subst e1
   exact call_abs pins s σ H _ _ Q I r ⟨_,rfl,fin.int h⟩
 ·exact h.elim
def xj:GN:=fun os Q=>match os with
 | [.pure (.int i)]=>Q (.pure (.int i))
 | [.pure (.bool k)]=>Q (.pure (.int (if k=true then 1 else 0)))
 | _=>False
theorem Tt:iT X (.type "int") xj:=iT.mk fun pins s σ H F vs xs us Q Qa I r hx h fin=>by
 unfold xj at h
 split at h
 ·cases hx with
  | cons h1 hr =>
   cases hr
   have e1:=RP.intE h1;subst e1
   exact call_int1 pins s σ H _ _ Q I r (.inl ⟨_,rfl,fin.int h⟩)
 ·cases hx with
  | cons h1 hr =>
   cases hr
   have e1:=RP.boolE h1;subst e1
   exact call_int1 pins s σ H _ _ Q I r (.inr ⟨_,rfl,fin.int h⟩)
 ·exact h.elim
def xK:GN:=fun os Q=>match os with
 | [.pure (.int i)]=>i.natAbs.log2<1920∧Q (.pure (.str (toString i)))
 | [.pure (.bool k)]=>Q (.pure (.str (if k=true then "True" else "False")))
 | [.pure (.str x)]=>Q (.pure (.str x))
 | _=>False
def gM2 (f:Int->Int->Int):GN:=fun os Q=>match os with
 | [.pure (.int i), .pure (.int j)]=>Q (.pure (.int (f i j)))
 | _=>False
theorem RM (hc:X.calm=true):iT X (.builtin "max") (gM2 fun i j=>if j>i then j else i):=iT.mk fun pins s σ H F vs xs us Q Qa I r hx h fin=>by
 unfold gM2 at h
 split at h
 ·cases hx with
  | cons h1 hr =>
   cases hr with
   | cons h2 hr =>
    cases hr
    have e1:=RP.intE h1;have e2:=RP.intE h2;subst e1 e2
    exact call_max2 hc pins s σ H _ _ Q I r ⟨_,_,rfl,fin.int h⟩
 ·exact h.elim
theorem RQ (hc:X.calm=true):iT X (.builtin "min") (gM2 fun i j=>if j<i then j else i):=iT.mk fun pins s σ H F vs xs us Q Qa I r hx h fin=>by
 unfold gM2 at h
 split at h
 ·cases hx with
  | cons h1 hr =>
   cases hr with
   | cons h2 hr =>
    cases hr
    have e1:=RP.intE h1;have e2:=RP.intE h2;subst e1 e2
    exact call_min2 hc pins s σ H _ _ Q I r ⟨_,_,rfl,fin.int h⟩
 ·exact h.elim
def PL:GN:=fun os Q=>match os with
 | [o]=>match rR o with
  | some ts=>Q (.lst ts)
  | none=>False
 | _=>False
theorem N7:CallR X (.type "tuple") (fun xs H Q => ∃ p vs,xs=[.ref p]∧SqL X.K H p vs ∧ ∀ l its,H l=none->Q (.ref l) (upd H l (.frz (Vs its) (.tup vs)))):=by
 rintro pins s σ H xs us Q I r ⟨p,vs,rfl,hq,q⟩
 obtain ⟨u,rfl,rx⟩:=vals1 r
 cases rx
 obtain ⟨its,r2,pl,hz⟩:=I.list hq
 refine call_tuple_list pl.isList (fun h2 kp => ?_) (by rw [List.size_toArray, ← r2.length];exact hz)
 have J:Inv X pins σ H { s with heap:=h2 }:=I.kept (t':=s.toks) kp
 exact ⟨.ref h2.objs.size,_,RB (s := { s with heap:=h2 }) (tk:=s.toks) J r2 hz (fun b o e=>Heap.get?_push_of_some _ e) (Heap.get?_push_size _ rfl) (Nat.le_refl _),rfl,q _ _ (J.hok.fresh (Nat.le_refl _))⟩
def Tu:GN:=fun os Q=>match os with
 | [o]=>match rR o with
  | some ts=>Q (.pure (.tuple ts))
  | none=>False
 | _=>False
theorem RW.seq {K:PySem.W.Frag} {H:Hp} {F:Addr->Prop} {v:V} {o:O} {ts:List T} (h:RW K H F v o) (e:rR o=some ts) : ∃ p vs,v = .ref p∧(SqL K H p vs∨(SqT K H p vs∧o = .pure (.tuple ts)))∧RPs K H F vs ts:=by
 unfold rR at e
 split at e
 ·rename_i us el
  cases e
  obtain ⟨p,vs,rfl,hq,r2⟩:=RW.ls h el
  exact ⟨p,vs,rfl, .inl hq,r2⟩
 ·obtain ⟨p,vs,rfl,hq,r2⟩:=RW.tu h e
  refine ⟨p,vs,rfl, .inr ⟨hq, ?_⟩,r2⟩
  unfold tuO at e
  split at e
  ·cases e;rfl
  ·cases e
theorem N8:iT X (.type "list") PL:=iT.mk fun pins s σ H F vs xs us Q Qa I r hx h fin=>by
 unfold PL at h
 split at h
 ·cases hx with
  | cons h1 hr =>
   cases hr
   split at h
   ·rename_i ts es
    obtain ⟨p,vs,rfl,hq,r2⟩:=RW.seq h1 es
    exact call_list_of pins s σ H _ _ Q I r ⟨p,vs,rfl,hq.imp (fun q=>q) (·.1),fun l hl=>fin.lst hl r2 h⟩
   ·exact h.elim
 ·exact h.elim
theorem Kd:iT X (.type "tuple") Tu:=iT.mk fun pins s σ H F vs xs us Q Qa I r hx h fin=>by
 unfold Tu at h
 split at h
 ·cases hx with
  | cons h1 hr =>
   cases hr
   split at h
   ·rename_i ts es
    obtain ⟨p,vs,rfl,hq,r2⟩:=RW.seq h1 es
    rcases hq with hq | ⟨hq,e⟩
    ·exact N7 pins s σ H _ _ Q I r ⟨p,vs,rfl,hq,fun l its hl=>fin.tup hl r2 h⟩
    ·subst e
     exact call_tuple_of pins s σ H _ _ Q I r ⟨p,vs,rfl, .inr ⟨hq,fin.pure h1 h⟩⟩
   ·exact h.elim
 ·exact h.elim
def vB:List T->Option (List Str)
 | []=>some []
 | .str b :: ts=>(vB ts).map (b :: ·)
 | _=>none
theorem RPs.strs {K:PySem.W.Frag} {H:Hp} {F:Addr->Prop} : ∀ {vs:List V} {ts:List T} {bs:List Str},RPs K H F vs ts->vB ts=some bs->vs=bs.map V.str
 | _,_,_, .nil,e=>by cases e;rfl
 | _,t :: ts,bs, .cons h r,e=>by
  unfold vB at e
  split at e
  ·rename_i heq;cases heq
  ·rename_i b ts' heq
   cases heq
   cases q:vB ts with
   | none=>rw [q] at e;cases e
   | some bs' =>
    rw [q] at e;cases e
    rw [List.map_cons,RP.strE h,RPs.strs r q]
  ·cases e
theorem RPs.ofStrs {K:PySem.W.Frag} {H:Hp} {F:Addr->Prop} : ∀ ys:List Str,RPs K H F (ys.map V.str) (ys.map PyData.str)
 | [] => .nil
 | y :: ys => .cons (RP.str y) (RPs.ofStrs ys)
def fU:GN:=fun os Q=>match os with
 | [o]=>match lsO o with
  | some ts=>match vB ts with
   | some xs=>xs.length<64 ∧ ∀ ys:List Str,ys.Perm xs->sortedS ys=true->Q (.lst (ys.map PyData.str))
   | none=>False
  | none=>False
 | _=>False
theorem NB:iT X (.builtin "sorted") fU:=iT.mk fun pins s σ H F vs xs us Q Qa I r hx h fin=>by
 unfold fU at h
 split at h
 ·cases hx with
  | cons h1 hr =>
   cases hr
   split at h
   ·rename_i ts el
    split at h
    ·rename_i bs eb
     obtain ⟨p,vs,rfl,hq,r2⟩:=RW.ls h1 el
     obtain rfl:=r2.strs eb
     exact cr_sortedS pins s σ H _ _ Q I r ⟨p,bs,rfl,hq,h.1,fun ys l h1 h2 hl=>fin.lst hl (RPs.ofStrs ys) (h.2 ys h1 h2)⟩
    ·exact h.elim
   ·exact h.elim
 ·exact h.elim
def lB:GN:=fun os Q=>match os with
 | [o]=>o.fz∧o.frz.showable=true∧o.frz.depth≤150∧o.frz.shown.length≤16777216∧Q (.pure (.str o.frz.shown))
 | _=>False
theorem Hi (hr:Rm 0 X.A):iT X (.builtin "repr") lB:=iT.mk fun pins s σ H F vs xs us Q Qa I r hx h fin=>by
 unfold lB at h
 split at h
 ·rename_i o
  cases hx with
  | cons h1 hr' =>
   cases hr'
   obtain ⟨u,rfl,ru⟩:=vals1 r
   obtain ⟨z1,h⟩:=h
   obtain ⟨as,q⟩:=RW.view h1 z1
   clear h1
   generalize o.frz=t at h q
   obtain ⟨k1,k2,k3,k4⟩:=h
   have hz:t.shown.length≤sizeLine:=by rw [sizeLine_eq];exact k3
   have un:=hr.room.un
   have big : ∀ {a:Addr},RV X.K H (.ref a) t as->u = .ref a->wpAny (model X.prog X.w) X.A (call (.builtin "repr") [u]) (EP X pins σ Q) X.xe s:=fun {a} q e=>by
    subst e
    obtain ⟨T,idr,S⟩:=RV.shows I q k1 hz
    refine call_repr_slot (by omega) (S.typeIs s fun _ _ e=>e) S.slotRepr (S.call X.A.in1 X.xe s _ hr.gd (by show X.A.units+1+t.depth<cLine;omega) (fun _ _ e=>e) fun h' k tk hk=>⟨_,_,rfl, ?_⟩)
    exact ⟨.str t.shown,H,I.kept (t':=tk) hk,⟨k,rfl⟩,fin.str k4⟩
   cases q with
   | non =>
    cases ru
    simp only [PyData.shown] at k4
    exact PySem.P.repr_of_none ⟨.str "None",H,I.tok _,⟨_,rfl⟩,fin.str k4⟩
   | bl b =>
    cases ru
    simp only [PyData.shown] at k4
    exact PySem.P.repr_of_bool ⟨.str _,H,I.tok _,⟨_,rfl⟩,fin.str k4⟩
   | int i =>
    obtain ⟨t,rfl⟩:=ru
    simp only [PyData.shown] at k4
    exact PySem.P.repr_of_int (by simpa [PyData.showable] using k1) ⟨.str _,H,I.tok _,⟨_,rfl⟩,fin.str k4⟩
   | str x =>
    obtain ⟨t,rfl⟩:=ru
    simp only [PyData.shown] at k4 hz
    exact PySem.P.repr_of_str ⟨.str _,H,I.tok _,⟨_,rfl⟩,fin.str k4⟩ hz
   | tup h q=>exact big (.tup h q) ru
   | lst h q=>exact big (.lst h q) ru
   | lstK h1 h2 h3 h4 h5 h6 q=>exact big (.lstK h1 h2 h3 h4 h5 h6 q) ru
   | dct h q=>exact big (.dct h q) ru
 ·exact h.elim
end
def tyT:T->String
 | .none => "NoneType"
 | .bool _ => "bool"
 | .int _ => "int"
 | .str _ => "str"
 | .list _ => "list"
 | .tuple _ => "tuple"
 | .dict _ => "dict"
def isT (n:String) (t:T):Bool:=tyT t == n || (n == "int" && tyT t == "bool")
section
variable {X:Cx}
theorem RV.ty {K:PySem.W.Frag} {H:Hp} {v:V} {t:T} {as:List Addr} (r:RV K H v t as):TyX K H v (.type (tyT t)):=by
 cases r with
 | non=>exact .base .non
 | bl b=>exact .base (.bl b)
 | int i=>exact .base (.int i)
 | str x=>exact .base (.str x)
 | tup h _ =>
  obtain ⟨o,h,_⟩:=h
  exact .fTuple h
 | lst h _ =>
  rcases h with h | ⟨o,h⟩
  ·exact .base (.lst h)
  ·exact .base (.frz h)
 | lstK h c _ _ _ _ _=>exact .kList h c
 | dct h _ =>
  rcases h with h | ⟨o,h⟩
  ·exact .base (.dK h)
  ·exact .fDict h
def tyOk (n:String):Prop := ∀ t:T,kitB (tyT t) n=some (isT n t)
theorem ZD {n:String} (h1:kitB "NoneType" n=some (isT n .none)) (h2:kitB "bool" n=some (isT n (.bool true))) (h3:kitB "int" n=some (isT n (.int 0))) (h4:kitB "str" n=some (isT n (.str ""))) (h5:kitB "list" n=some (isT n (.list []))) (h6:kitB "tuple" n=some (isT n (.tuple []))) (h7:kitB "dict" n=some (isT n (.dict []))):tyOk n:=fun t=>by
 cases t with
 | none=>exact h1
 | bool b=>exact h2
 | int i=>exact h3
 | str x=>exact h4
 | list xs=>exact h5
 | tuple xs=>exact h6
 | dict xs=>exact h7
theorem PN:tyOk "str" := ZD (by decide +kernel) (by decide +kernel) (by decide +kernel) (by decide +kernel) (by decide +kernel) (by decide +kernel) (by decide +kernel)
def Ca (n:String) (te:XT):XT:=fun ρ Q=>te ρ fun p ρ1=>match p.get ρ1 with
 | some o=>o.fz∧Q (.val (.pure (.bool (isT n o.frz)))) ρ1
 | none=>False
theorem RO.ty {K:PySem.W.Frag} {H:Hp} {F:Addr->Prop} {v:V} {o:O} (r:RW K H F v o) (fz:o.fz):TyX K H v (.type (tyT o.frz)):=let ⟨_,q⟩:=r.view fz;q.ty
theorem Y9 {n:String} {x:Str} {e:Expr} {te:XT} {p p2 pos:Pos} (hn:tyOk n) (hg:Gl X "isinstance") (hm:X.mg "isinstance" = none) (hg2:Gl X x) (hm2:X.mg x=none) (hb2:bootBuiltins x=some (.type n)) (he:EX X e te) (hx:x ≠ "__name__" := by decide) (hd:(x == ("__debug__" : Str))=false:=by decide)
  (hs:starEach [e, .Name x p2] X.env=(false,eval e X.env) :: starEach [.Name x p2] X.env:=by rfl) (hs2:starEach [.Name x p2] X.env=(false,eval (.Name x p2) X.env) :: starEach [] X.env:=by rfl)
  (hpl:(backTo pos (starEach [.Name x p2] X.env)).any (·.1)=false:=by rfl):EX X (.Call (.Name "isinstance" p) [e, .Name x p2] [] pos) (Ca n te):=by
 refine ⟨PE.imp (pe_callB call_isi hg hm (by decide +kernel) (pa_cons he.pe (pa_cons (pe_bltn (v := .ty n) hg2 hm2 hb2 rfl hx hd) pa_nil hs2) hs) (by decide) (by decide) hs hpl) ?_⟩
 rintro σ H Q ⟨ρ,fp,G,Qa,R,h,fin⟩
 refine ⟨ρ,fp,G,_,R,h,fun v p A H1 ρ1 fp1 R1 r1 x1 h1 => ?_⟩
 split at h1
 ·rename_i o eo
  have w:=r1.rw0 R1 eo
  exact ⟨v, .ty n,_,_,_,rfl, .ty n,RO.ty w h1.1,kit_ty (hn _),xC.bl (lu (G:=G) R1 (fun a m=>List.mem_append_right _ m) x1.or fin) h1.2⟩
 ·exact h1.elim
def gIx:G2:=fun x y Q=>match y with
 | .pure (.int i)=>match x with
  | .pure (.str z)=>z.length≤16777216∧match atI z.cps.toList i with
   | some c=>Q (.pure (.str ⟨#[c]⟩))
   | none=>False
  | x=>match rR x with
   | some ts=>match atI ts i with
    | some t=>Q (.pure t)
    | none=>False
   | none=>False
 | _=>False
theorem WL {K:PySem.W.Frag} {H:Hp} {F:Addr->Prop} {vs:List V} {ts:List T} {i:Int} {t:T} (r:RPs K H F vs ts) (e:atI ts i=some t) : ∃ v,atI vs i=some v∧RP K H F v t:=by
 unfold atI at e ⊢
 rw [Paired.len r]
 cases q:ixN ts.length i with
 | none=>rw [q] at e;cases e
 | some j =>
  rw [q] at e
  obtain ⟨v,hv,rv⟩:=Paired.at r e
  exact ⟨v,hv,rv⟩
theorem ao:IxA X gIx:=by
 refine ⟨rIx X.K,ix_seq,fun H F v u x y Q Qa hx hy h fin => ?_⟩
 unfold gIx at h
 split at h
 ·rename_i i
  have e2:=RP.intE hy;subst e2
  split at h
  ·rename_i z
   have e1:=RP.strE hx;subst e1
   obtain ⟨hz,h⟩:=h
   split at h
   ·rename_i c ec
    exact .inr (.inr ⟨z,i,c,rfl,rfl,by rw [sizeLine_eq];exact hz,ec,fin.str h⟩)
   ·exact h.elim
  ·split at h
   ·rename_i ts es
    split at h
    ·rename_i t et
     obtain ⟨p,vs,rfl,hq,r2⟩:=RW.seq hx es
     obtain ⟨w,hw,rw_⟩:=WL r2 et
     rcases hq with hq | ⟨hq,_⟩
     ·exact .inl ⟨p,vs,i,w,rfl,rfl,hq,hw,fin.pure rw_ h⟩
     ·exact .inr (.inl ⟨p,vs,i,w,rfl,rfl,hq,hw,fin.pure rw_ h⟩)
    ·exact h.elim
   ·exact h.elim
 ·exact h.elim
def Ik (ts:List T) (lo hi:Option Int):List T:=(ts.drop (HT.sIx ts.length 0 lo)).take (HT.sIx ts.length ts.length hi - HT.sIx ts.length 0 lo)
def lC:Option XT->aM->(Option Int->aM->Prop)->Prop
 | none,ρ,Q=>Q none ρ
 | some t,ρ,Q=>t ρ fun p ρ1=>match p.get ρ1 with
  | some (.pure (.int i))=>Q (some i) ρ1
  | _=>False
def yx (te:XT) (tl th:Option XT):XT:=fun ρ Q=>te ρ fun p ρ1=>lC tl ρ1 fun lo ρ2=>lC th ρ2 fun hi ρ3=>match p.get ρ3 with
 | some (.pure (.str z))=>z.length≤16777216∧Q (.val (.pure (.str (cutS z lo hi)))) ρ3
 | some (.pure (.tuple ts))=>Q (.val (.pure (.tuple (Ik ts lo hi)))) ρ3
 | some (.lst ts)=>Q (.val (.lst (Ik ts lo hi))) ρ3
 | some (.pure (.list ts))=>Q (.val (.lst (Ik ts lo hi))) ρ3
 | _=>False
def LO (K:PySem.W.Frag) (t:Option XT):TO:=fun σ H Q => ∃ ρ fp G Qa,RS K σ H ρ fp G∧lC t ρ Qa ∧ ∀ o H' ρ' fp',RS K σ H' ρ' fp' G->Ext H (Fo fp) H' (Fo fp')->Qa o ρ'->Q o H'
structure OX (X:Cx) (e:Option Expr) (t:Option XT):Prop where
 po:PO X e (LO X.K t)
theorem PO.imp {e:Option Expr} {t t' : TO} (h:PO X e t) (w : ∀ σ H Q,t' σ H Q->t σ H Q):PO X e t':=⟨fun pins s σ H Q I q=>h.run pins s σ H Q I (w σ H Q q)⟩
theorem Ac:OX X none none:=by
 refine ⟨PO.imp po_none ?_⟩
 rintro σ H Q ⟨ρ,fp,G,Qa,R,h,fin⟩
 exact fin none H ρ fp R Ext.refl h
theorem Ad {e:Expr} {te:XT} (h:EX X e te):OX X (some e) (some te):=by
 refine ⟨PO.imp (po_some h.pe) ?_⟩
 rintro σ H Q ⟨ρ,fp,G,Qa,R,h,fin⟩
 refine ⟨ρ,fp,G,_,R,h,fun v p A H1 ρ1 fp1 R1 r1 x1 h1 => ?_⟩
 split at h1
 ·rename_i i ei
  have e:=RP.intE (r1.rw0 R1 ei)
  exact ⟨i,e,fin (some i) H1 ρ1 fp1 (R1.sub fun a m=>List.mem_append_right _ m) x1.or h1⟩
 ·exact h1.elim
def rSlP (K:PySem.W.Frag):V->Option Int->Option Int->Hp->VK->Prop:=fun x lo hi H Q => ∃ p vs,x = .ref p∧SqT K H p vs ∧
 ((HT.sIx vs.length 0 lo=0∧HT.sIx vs.length vs.length hi=vs.length)->Q (.ref p) H) ∧ ∀ z its,H z=none->Q (.ref z) (upd H z (.frz (Vs its) (.tup (cutV vs lo hi))))
theorem ZF {X:Cx}:SlR X (rSlP X.K):=by
 rintro pins s σ H x v vl vu lo hi sl Q I rx hs pl pu ⟨p,vs,rfl,hp,k1,k2⟩
 cases rx
 obtain ⟨its,r,ht,hz⟩:=I.tuple hp
 have hn:its.toArray.size=vs.length:=by rw [List.size_toArray];exact r.length.symm
 refine ⟨"tuple",_,PyProof.Rows.slot_tuple_getitem.lookup,ht.typeIs, ?_⟩
 by_cases hw:HT.sIx vs.length 0 lo=0∧HT.sIx vs.length vs.length hi=vs.length
 ·exact getItem_tuple_whole ht hs pl pu (by rw [hn];exact hw) ⟨.ref p,H,I,rfl,k1 hw⟩
 ·refine HT.getItem_tuple_cut ht hs pl pu (by rw [hn];exact hw) ?_ (by rw [hn];exact hz)
  rw [hn]
  exact ⟨.ref s.heap.objs.size,_,RB (tk:=s.toks) I ((r.drop (HT.sIx vs.length 0 lo)).take (HT.sIx vs.length vs.length hi - HT.sIx vs.length 0 lo)) (Nat.le_trans (cutV_length vs lo hi) hz) (fun b ob q=>Heap.get?_push_of_some _ q) (Heap.get?_push_size _ rfl) (Nat.le_refl _),rfl,k2 _ _ (I.hok.fresh (Nat.le_refl _))⟩
theorem Il {K:PySem.W.Frag} {H:Hp} {F:Addr->Prop} {vs:List V} {ts:List T} {lo hi:Option Int} (r:RPs K H F vs ts):RPs K H F (cutV vs lo hi) (Ik ts lo hi):=by
 unfold cutV Ik
 rw [Paired.len r]
 exact Paired.takeP _ (Paired.dropP _ r)
theorem ZG {ts:List T} {lo hi:Option Int} (h:HT.sIx ts.length 0 lo=0∧HT.sIx ts.length ts.length hi=ts.length):Ik ts lo hi=ts:=by
 unfold Ik
 rw [h.1,h.2,List.drop_zero,Nat.sub_zero,List.take_length]
theorem wU {e:Expr} {lo hi:Option Expr} {te:XT} {tl th:Option XT} {p2 pos:Pos} (he:EX X e te) (hl:OX X lo tl) (hh:OX X hi th):EX X (.Subscript e (.Slice lo hi none p2) pos) (yx te tl th):=by
 refine ⟨PE.imp (pe_slice (sl_str.or (sl_list.or ZF)) he.pe hl.po hh.po) ?_⟩
 rintro σ H Q ⟨ρ,fp,G,Qa,R,h,fin⟩
 refine ⟨ρ,fp,G,_,R,h,fun v p A H1 ρ1 fp1 R1 r1 x1 h1 => ?_⟩
 refine ⟨ρ1,fp1,A++G,_,R1,h1,fun l H2 ρ2 fp2 R2 x2 h2 => ?_⟩
 refine ⟨ρ2,fp2,A++G,_,R2,h2,fun u H3 ρ3 fp3 R3 x3 h3 => ?_⟩
 have x23:Ext H1 (Fo fp1) H3 (Or1 (Fo fp3) []):=(x2.trans x3).weak (fun _ z=>z) Or1.nil
 have w : ∀ {o:O},p.get ρ3=some o->RW X.K H3 (Or1 (Fo fp3) (A++G)) v o:=fun e=>r1.rw (B:=[]) R1 x23 R3 e
 have fz:=lu (G:=G) R3 (fun a m=>List.mem_append_right _ m) (x1.or.trans (x2.trans x3)) fin
 split at h3
 ·rename_i z ez
  have e1:=RP.strE (w ez)
  exact .inl ⟨z,e1,by rw [sizeLine_eq];exact h3.1,fz.str h3.2⟩
 ·rename_i ts ez
  obtain ⟨q,vs,e1,hq,r2⟩:=RP.tupE (w ez)
  refine .inr (.inr ⟨q,vs,e1,hq,fun hw => ?_,fun y its hy=>fz.tup hy (Il r2) h3⟩)
  rw [Paired.len r2] at hw
  rw [ZG hw] at h3
  have:=w ez
  rw [e1] at this
  exact fz.pure this h3
 ·rename_i ts ez
  obtain ⟨q,vs,e1,hq,r2⟩:=RW.ls (w ez) rfl
  exact .inr (.inl ⟨q,vs,e1,hq,fun y hy=>fz.lst hy (Il r2) h3⟩)
 ·rename_i ts ez
  obtain ⟨q,vs,e1,hq,r2⟩:=RW.ls (w ez) rfl
  exact .inr (.inl ⟨q,vs,e1,hq,fun y hy=>fz.lst hy (Il r2) h3⟩)
 ·exact h3.elim
end
end DL
namespace DL
open PySem PySem.Spec L2
open PyProof.Rows hiding St
variable [Tbs] [Bas]
section
variable {X:Cx} {e:Expr} {te:XT} {pos:Pos}
def nQ:XT:=fun ρ Q=>Q (.val (.dct [])) ρ
def ph (f:Str->Str) (C:Str->Prop) (te:XT):XT:=fun ρ Q=>te ρ fun p ρ1=>match p.get ρ1 with
 | some (.pure (.str z))=>C z∧Q (.val (.pure (.str (f z)))) ρ1
 | _=>False
end
section
variable {X:Cx} {e:Expr} {te:XT} {k:Nat} {p1 p2 p3 pos:Pos}
def GP (te:XT):XT:=fun ρ Q=>te ρ fun p ρ1=>match p.get ρ1 with
 | some (.pure (.tuple ts))=>Q (.val (.pure (.tuple ts.reverse))) ρ1
 | some (.lst ts)=>Q (.val (.lst ts.reverse)) ρ1
 | some (.pure (.list ts))=>Q (.val (.lst ts.reverse)) ρ1
 | _=>False
end
end DL
namespace DL
open PySem PySem.Spec L2
open PyProof.Rows hiding St
variable [Tbs] [Bas]
theorem ZJ {K:PySem.W.Frag} {P:Nat->Bool} {js:List Nat} {ts:XTs} {n:Nat} (hn:js.length=n) (hp:(js.all fun j => !P j)=true) {D:Ends} {σ : St} {H:Hp} (h:LS K P (uo js ts) D σ H):LA K n ts σ H fun vs H1=>vs.length=n ∧ ∀ H',fL H1 H'->D.nx (setV σ js vs) H':=by
 obtain ⟨ρ,fp,G,Da,R,h,f⟩:=h
 refine ⟨ρ,fp,G,_,R,h,fun vs ps A H1 ρ1 fp1 hl R1 r1 nd1 ng1 x1 h1=>⟨hl,fun H' pr => ?_⟩⟩
 obtain ⟨os,js',ρ2,fp2,Bs,R2,r2,d2,n2,i2,_,_,_,hall,h2⟩:=zr r1 R1 R.g0 (fun a z=>z) ng1 nd1 h1
 obtain ⟨fp3,R3,i3,p3⟩:=Mz (P:=P) R2 R.g0 r2 d2 n2 (by rw [hn, ← hl,r2.len.1]) (fun j m=>Nat.le_of_ble_eq_true (List.all_eq_true.mp hall j m)) fun j m=>by simpa using List.all_eq_true.mp hp j m
 refine f.nx _ H' _ fp3 (R3.pres pr) (x1.trans (pr.ext.weak (fun a z => ?_) fun _ z=>z)) p3 h2
 exact i2 a (i3 a z)
section
variable {X:Cx} {P:Nat->Bool} {x y z:Str} {a b c:Expr} {ts:XTs} {px py pz pt pos:Pos}
theorem Im {kt k2 pt2} (i j:Nat) (hc:X.calm=true) (hN:X.N.Nodup) (hi:X.N[i]? = some x) (hj:X.N[j]? = some y) (hx:Loc X.env.scope x) (hy:Loc X.env.scope y) (ha:EXs X [a,b] ts) (hp:(([i,j]:List Nat).all fun j => !P j)=true:=by rfl)
  (fx:X.fn x=true∨X.env.scope.names.lookup x=some .local:=by first | exact .inl rfl | exact .inr rfl) (fy:X.fn y=true∨X.env.scope.names.lookup y=some .local:=by first | exact .inl rfl | exact .inr rfl)
  (hs:swapsWithSole [.Tuple [.Name x px, .Name y py] kt pt] (.Tuple [a,b] k2 pt2) pos.line X.env=pure false:=by rfl) (hw:swappedStores [.Tuple [.Name x px, .Name y py] kt pt] (.Tuple [a,b] k2 pt2) X.env=pure none:=by rfl)
  (h1:(assignEach [.Tuple [.Name x px, .Name y py] kt pt] X.env).map (·.2)=[assign (.Tuple [.Name x px, .Name y py] kt pt) X.env]:=by rfl)
  (hq1:(assignEach [.Name x px, .Name y py] X.env).map (·.2)=assign (.Name x px) X.env :: (assignEach [.Name y py] X.env).map (·.2):=by rfl) (hq2:(assignEach [.Name y py] X.env).map (·.2)=assign (.Name y py) X.env :: (assignEach [] X.env).map (·.2):=by rfl)
  (hn:(assignEach [.Name x px, .Name y py] X.env).length=2:=by rfl) (hst:(assignEach [.Name x px, .Name y py] X.env).findIdx? (·.1)=none:=by rfl) :
  SX X P (.Assign [.Tuple [.Name x px, .Name y py] kt pt] (.Tuple [a,b] k2 pt2) pos) (uo [i,j] ts):=by
 refine ⟨PS.imp (ps_asg (pe_tup ha.pa) (pg_tup hc (pgs_cons (pg_name hN hi hx fx) (pgs_cons (pg_name hN hj hy fy) pgs_nil hq2) hq1) hn hst) hs hw h1) fun D σ H h => ?_⟩
 obtain ⟨ρ,fp,G,Qa,R,h,f⟩:=ZJ (n:=2) rfl hp h
 refine ⟨ρ,fp,G,Qa,R,h,fun vs ps A H1 ρ1 fp1 hl R1 r1 nd1 ng1 x1 h1 => ?_⟩
 obtain ⟨_,q⟩:=f vs ps A H1 ρ1 fp1 hl R1 r1 nd1 ng1 x1 h1
 match vs,hl with
 | [v,w],_=>exact ⟨by rw [sizeLine_eq];simp,fun p np=>⟨p, [v,w],rfl,SqT.of upd_same,rfl,_,_,rfl,_,_,rfl,rfl,q _ (fL.upd np)⟩⟩
end
theorem rJ:bootBuiltins "len" = some (.builtin "len"):=by decide +kernel
theorem aAC:bootBuiltins "all" = some (.builtin "all"):=by decide +kernel
theorem YB:bootBuiltins "any" = some (.builtin "any"):=by decide +kernel
theorem YC:bootBuiltins "abs" = some (.builtin "abs"):=by decide +kernel
theorem aAD:bootBuiltins "max" = some (.builtin "max"):=by decide +kernel
theorem aAE:bootBuiltins "min" = some (.builtin "min"):=by decide +kernel
theorem Tv:bootBuiltins "repr" = some (.builtin "repr"):=by decide +kernel
theorem vC:bootBuiltins "sorted" = some (.builtin "sorted"):=by decide +kernel
theorem aAF:bootBuiltins "int" = some (.type "int"):=by decide +kernel
theorem YD:bootBuiltins "str" = some (.type "str"):=by decide +kernel
theorem Tw:bootBuiltins "list" = some (.type "list"):=by decide +kernel
theorem qH:bootBuiltins "tuple" = some (.type "tuple"):=by decide +kernel
theorem Io:bootBuiltins "dict" = some (.type "dict"):=by decide +kernel
theorem rW {X:Cx} {P:Nat->Bool} {b:List Stmt} {t t' : ST} (h:SXs X P b t) (e:t=t'):SXs X P b t':=e▸h
end DL
namespace DL
open PySem PySem.Spec L2
open PyProof.Rows hiding St
variable [Tbs] [Bas]
section
variable {prog:Program} {w:World} {A:Around} {E:Value->Shared->Prop} {s:Shared} {x:Str} {t:Tok}
theorem Ke {Q:List Value->Shared->Prop} (hh:A.handled=none) (hn:x.cps.size≤sizeLine)
  (hQ : ∀ (h' : Heap) (tk:Nat) (acc:Array Value),(∀ b o,s.heap.get? b=some o->h'.get? b=some o)->ItemsOf (SignAt x) acc x.cps.size->Q acc.toList { s with heap:=h',toks:=tk }) :
  wpAny (model prog w) A (collect (.str x t)) Q E s:=by
 unfold collect
 refine wpAny_bind (wpAny_runValue (codeAny_builtin F.entry_proto_collect ?_))
 rw [Around.under_plainId F.plain_proto_collect _]
 show wpAny _ A.in1 (newList [] >>= fun l=>again (.builtin "list.__iadd__" ⟨[l, .str x t], []⟩)) _ _ s
 refine wpAny_bind (wpAny_newObj_type ?_)
 refine wpAny_pure ⟨plainId_quiet F.plain_list_iadd _,codeAny_builtin F.entry_list_iadd ?_⟩
 rw [Around.under_plainId F.plain_list_iadd _]
 show wpAny _ A.in1 (Builtin.List.listExtendWith (.ref s.heap.objs.size) (.str x t) (.ref s.heap.objs.size)) _ _ _
 have hS:(s.heap.push { cls := .type "list",data := .seq ([]:List Value).toArray }).get? s.heap.objs.size=some { cls := .type "list",data := .seq #[] 0 }:=Heap.get?_push_size _ rfl
 refine wpAny_mono (wpAny_extend_str (A:=A) (R:=fun rr s'=>rr = .ok (.ret (.ref s.heap.objs.size)) ∧ ∃ (h' : Heap) (tk:Nat) (acc:Array Value) (c' : Nat),s' = { s with heap:=h',toks:=tk } ∧
   (∀ b o,s.heap.get? b=some o->h'.get? b=some o)∧h'.get? s.heap.objs.size=some { cls := .type "list",dict:=none,data := .seq acc c',slots := #[] }∧ItemsOf (SignAt x) acc x.cps.size)
  (s := { s with heap:=s.heap.push { cls := .type "list",data := .seq ([]:List Value).toArray } }) (hn:=hn) hh x t _ _ 0 hS
  (fun h' tk acc c' hk e hi=>⟨rfl,h',tk,acc,c',rfl,fun b o q=>hk b o (Nat.ne_of_lt (Heap.lt_size q)) (Heap.get?_push_of_some _ q),e,hi⟩)) (fun fin s' h => ?_) (fun e s' h => ?_)
 ·cases fin with
  | done f =>
   obtain ⟨e,h',tk,acc,c',rfl,hk,hS',hi⟩:=h
   cases e
   show wpAny _ A (load s.heap.objs.size >>= _) _ _ _
   exact wpAny_bind (wpAny_load hS' (wpAny_pure (hQ h' tk acc hk hi)))
  | again c' =>
   refine ⟨h.1,codeAny_mono h.2 fun rr s'' hr' => ?_⟩
   obtain ⟨rfl,h',tk,acc,c',rfl,hk,hS',hi⟩:=hr'
   show wpAny _ A (load s.heap.objs.size >>= _) _ _ _
   exact wpAny_bind (wpAny_load hS' (wpAny_pure (hQ h' tk acc hk hi)))
 ·exact absurd h.1 (by simp)
theorem xm {Q₁ : Value->Shared->Prop} (hh:A.handled=none) (hn:x.cps.size≤sizeLine)
  (h : ∀ (h' : Heap) (tk:Nat) (acc:Array Value),(∀ b o,s.heap.get? b=some o->h'.get? b=some o)->ItemsOf (SignAt x) acc x.cps.size ->
   Q₁ (.ref h'.objs.size) { s with heap:=h'.push { cls := .type "tuple",data := .seq acc },toks:=tk }) :
  codeAny (model prog w) A (.call (.builtin "tuple.__new__") ⟨[.type "tuple", .str x t], []⟩) (wants Q₁ E) s:=by
 refine codeAny_of_tree ?_
 show wpAny _ A.in1 (do checkBuiltinCall "tuple.__new__" ⟨[.type "tuple", .str x t], []⟩;again (.builtin "tuple.__new__" ⟨[.type "tuple", .str x t], []⟩)) _ _ s
 refine wpAny_bind (wpAny_of_eq (F.newCall_tuple_1 _) (wpAny_pure ⟨plainId_quiet F.plain_tuple_new _,codeAny_builtin F.entry_tuple_new ?_⟩))
 rw [Around.under_plainId F.plain_tuple_new _]
 have hsub:=sub_tuple_self
 have hinit:=init_tuple_lookup
 have hmh:=madeHere_tuple
 have hTI:s.TypeIs (.str x t) "str" := rfl
 have hh1:A.in1.handled=none:=hh
 wp_walk using wpAny_typeOf hTI,Ke (A:=A.in1) hh1 hn
 intro h' tk acc hk hacc
 show wpAny _ _ (Builtin.Tuple.tupleExact acc.toList.toArray >>= fun v=>ret v) _ _ _
 unfold Builtin.Tuple.tupleExact
 refine wpAny_bind (wpAny_newObj_type ?_ (by show acc.toList.toArray.size≤sizeLine;simp only [Array.toArray_toList];rw [hacc.1];exact hn))
 refine wpAny_pure ?_
 have e:acc.toList.toArray=acc:=by simp
 rw [e]
 exact h h' tk acc hk hacc
theorem En {Q:Value->Shared->Prop} (hh:A.handled=none) (hn:x.cps.size≤sizeLine)
  (hQ : ∀ (h' : Heap) (tk:Nat) (acc:Array Value),(∀ b o,s.heap.get? b=some o->h'.get? b=some o)->ItemsOf (SignAt x) acc x.cps.size ->
   Q (.ref h'.objs.size) { s with heap:=h'.push { cls := .type "tuple",data := .seq acc },toks:=tk }) :
  wpAny (model prog w) A (call (.type "tuple") [.str x t]) Q E s:=by
 refine callType_codes (Q₁:=fun obj s₁=>s₁.TypeIs obj "tuple" ∧ Q obj s₁) F.called_tuple (F.typeCall_tuple_1 _) F.entry_object_init
  (xm (A:=A.in1) hh hn fun h' tk acc hk hacc=>⟨⟨_,Heap.get?_push_size _ rfl,rfl⟩,hQ h' tk acc hk hacc⟩) fun obj s₁ h₁ => ?_
 exact ⟨h₁.1,F.args_object_init_2 obj _,object_init_meets F.called_tuple.init.lookup F.called_tuple.made (by decide) prog w A.in1 _ s₁ ⟨h₁.1,rfl,h₁.2⟩⟩
end
section
variable {X:Cx}
def Kf (x:Str):List V:=x.cps.toList.map fun c=>V.str ⟨#[c]⟩
theorem Kg {x:Str} {acc:Array Value} (h:ItemsOf (SignAt x) acc x.cps.size):Vals (Kf x) acc.toList:=by
 refine vals_of_at (by simp [Kf,h.1]) fun j v u h1 h2 => ?_
 obtain ⟨c,t,hc,rfl⟩:=h.2 j u (by rw [← Array.getElem?_toList];exact h2)
 unfold Kf at h1
 rw [List.getElem?_map,Array.getElem?_toList,hc] at h1
 cases h1
 exact ⟨t,rfl⟩
theorem PP {K:PySem.W.Frag} {H:Hp} {F:Addr->Prop} (x:Str):RPs K H F (Kf x) (fB x):=by
 unfold Kf fB
 generalize x.cps.toList=l
 induction l with
 | nil=>exact .nil
 | cons c l ih=>exact .cons (RP.str _) ih
def cH:GN:=fun os Q=>match os with
 | [.pure (.str x)]=>x.length≤1000000∧Q (.lst (fB x))
 | [o]=>match rR o with
  | some ts=>Q (.lst ts)
  | none=>False
 | _=>False
def cW:GN:=fun os Q=>match os with
 | [.pure (.str x)]=>x.length≤1000000∧Q (.pure (.tuple (fB x)))
 | [o]=>match rR o with
  | some ts=>Q (.pure (.tuple ts))
  | none=>False
 | _=>False
theorem Kh {x:Str} (h:x.length≤1000000):x.cps.size≤sizeLine∧(Kf x).length≤sizeLine:=by
 have : x.length=x.cps.size:=rfl
 rw [sizeLine_eq]
 unfold Kf
 rw [List.length_map,Array.length_toList]
 omega
theorem Hj (hc:X.calm=true):iT X (.type "list") cH:=iT.mk fun pins s σ H F vs xs us Q Qa I r hx h fin=>by
 unfold cH at h
 split at h
 ·rename_i x
  cases hx with
  | cons h1 hr =>
   cases hr
   obtain ⟨hz,h⟩:=h
   obtain rfl:=RP.strE h1
   obtain ⟨u,rfl,rx⟩:=vals1 r
   obtain ⟨t,rfl⟩:=rx
   obtain ⟨f1,f2⟩:=Kh hz
   refine call_list_str (hn:=f1) (I.ok.hd hc) x t fun h' tk acc' c' hk e hi => ?_
   exact ⟨.ref s.heap.objs.size,_,I.laid hk (Nat.le_refl _) (show ObjOk X.prog X.w _ _ _ (.lst (Kf x)) from ⟨f2,acc'.toList,c',Kg hi,by rw [Array.toArray_toList];exact e⟩),rfl,
    fin.lst (I.hok.fresh (Nat.le_refl _)) (PP x) h⟩
 ·rename_i o _
  obtain ⟨r',h1,h2⟩:=N8 (X:=X)
  exact h1 pins s σ H vs us Q I r (h2 H F vs _ Q Qa hx h fin)
 ·exact h.elim
theorem iZ (hc:X.calm=true):iT X (.type "tuple") cW:=iT.mk fun pins s σ H F vs xs us Q Qa I r hx h fin=>by
 unfold cW at h
 split at h
 ·rename_i x
  cases hx with
  | cons h1 hr =>
   cases hr
   obtain ⟨hz,h⟩:=h
   obtain rfl:=RP.strE h1
   obtain ⟨u,rfl,rx⟩:=vals1 r
   obtain ⟨t,rfl⟩:=rx
   obtain ⟨f1,f2⟩:=Kh hz
   refine En (I.ok.hd hc) f1 fun h' tk acc hk hi => ?_
   have I2:Inv X pins σ H { s with heap:=h',toks:=tk }:=I.kept hk
   have eo:(h'.push { cls := .type "tuple",data := .seq acc }).get? h'.objs.size=some (Vs acc.toList):=by
    unfold Vs;rw [Array.toArray_toList];exact Heap.get?_push_size _ rfl
   exact ⟨.ref h'.objs.size,_,RB (s := { s with heap:=h',toks:=tk }) (tk:=tk) I2 (Kg hi) f2 (fun c o e=>Heap.get?_push_of_some _ e) eo (Nat.le_refl _),rfl,fin.tup (I2.hok.fresh (Nat.le_refl _)) (PP x) h⟩
 ·rename_i o _
  obtain ⟨r',h1,h2⟩:=Kd (X:=X)
  exact h1 pins s σ H vs us Q I r (h2 H F vs _ Q Qa hx h fin)
 ·exact h.elim
end
end DL
namespace DL
open PySem PySem.Spec L2
open PyProof.Rows hiding St
section
variable {P:Program} {w:World} {A:Around} {E:Value->Shared->Prop} {s:Shared}
set_option maxHeartbeats 3200000 in
theorem Bt {l:Addr} {odict:Option Addr} {oslots:Array (Option Value)} {kd ik:String} {items:Array Value} {nl:Nat} {Q:Value->Shared->Prop} (hol:s.heap.get? l=some { cls := .type kd,dict:=odict,data := .seq items nl,slots:=oslots })
  (hsls:isSubtype (.type kd) (.type "set")=pure false) (hslf:isSubtype (.type kd) (.type "frozenset")=pure false) (hne:(Value.type kd == Value.type "dict")=false)
  (hit : ∀ {A1:Around} {s1:Shared} {E1:Value->Shared->Prop} {Q1:Value->Shared->Prop},s1.heap.get? l=s.heap.get? l->Q1 (.ref s1.heap.objs.size) { s1 with heap:=s1.heap.push { cls := .type ik,data := .fields #[.ref l, .int 0 0] } }->wpAny (model P w) A1 (pyIter (.ref l)) Q1 E1 s1)
  (Z:Heap->Prop)
  (hgo : ∀ (R:Result->Shared->Prop),(∀ h' tk,Z h'->R (.ok (.ret .none)) { s with heap:=h',toks:=tk })->codeAny (model P w) A.in1.in1 (.builtin "set.update.loop" ⟨[.ref s.heap.objs.size, .ref (s.heap.push { cls := .type "set",dict:=none,data := .set #[] 0 (.fresh 0 0 (!w.params.followText "set-order")) }).objs.size], []⟩) R { s with heap:=(s.heap.push { cls := .type "set",dict:=none,data := .set #[] 0 (.fresh 0 0 (!w.params.followText "set-order")) }).push { cls := .type ik,data := .fields #[.ref l, .int 0 0] } })
  (h : ∀ h' tk,Z h'->Q (.ref s.heap.objs.size) { s with heap:=h',toks:=tk }) :
  wpAny (model P w) A (call (.type "set") [.ref l]) Q E s:=by
 obtain ⟨c,tl,hmro⟩:=F.called_set.mro
 have hmade:=F.called_set.made
 have hsub:=F.called_set.sub
 refine wpAny_call (codeAny_of_tree ?_)
 show wpAny _ _ (callAny (.type "set") _) _ _ _
 refine wpAny_pure ⟨Code.quiet_builtin _ (by decide +kernel),codeAny_builtin F.entry_type_call ?_⟩
 rw [Around.under_plain (weight_type_call_type "set" [.ref l] []) rfl]
 have h1:=F.called_set.notType
 have h2:=F.called_set.canCreate
 have hct:=F.typeCall_set_1 (.ref l)
 repeat (any_goals (first | assumption | wp_step))
 refine codeAny_mono (code_set_led1 (.ref l) (E:=E) (Q₁:=fun obj s₁=>obj = .ref s.heap.objs.size∧s₁ = { s with heap:=s.heap.push { cls := .type "set",dict:=none,data := .set #[] 0 (.fresh 0 0 (!w.params.followText "set-order")) } }) ⟨rfl,rfl⟩) fun r s₁ hr => ?_
 cases r with
 | error e=>exact hr
 | ok fl =>
  cases fl with
  | ret obj =>
   obtain ⟨rfl,rfl⟩:=hr
   have hS:(s.heap.push { cls := .type "set",dict:=none,data := .set #[] 0 (.fresh 0 0 (!w.params.followText "set-order")) }).get? s.heap.objs.size=some { cls := .type "set",dict:=none,data := .set #[] 0 (.fresh 0 0 (!w.params.followText "set-order")) }:=Heap.get?_push_size _ rfl
   have hT:Shared.TypeIs { s with heap:=s.heap.push { cls := .type "set",dict:=none,data := .set #[] 0 (.fresh 0 0 (!w.params.followText "set-order")) } } (.ref s.heap.objs.size) "set" := ⟨_,hS,rfl⟩
   have hli:=F.called_set.init.lookup
   have hbi:=F.called_set.init.bind (.ref s.heap.objs.size)
   repeat (any_goals (first | assumption | wp_step))
   refine codeAny_mono (codeAny_call_builtin (R:=wants (fun r s₂=>r = .none ∧ ∃ h' tk,s₂ = { s with heap:=h',toks:=tk }∧Z h') E) F.called_set.init.plain F.entry_set_init (check_set_init_1 hT ?_)) fun r₂ s₂ hr₂ => ?_
   ·have hol' : (s.heap.push { cls := .type "set",dict:=none,data := .set #[] 0 (.fresh 0 0 (!w.params.followText "set-order")) }).get? l=some { cls := .type kd,dict:=odict,data := .seq items nl,slots:=oslots }:=Heap.get?_push_of_some _ hol
    clear hS hT hli hbi hmro hmade hsub h1 h2 hct
    unfold Builtin.«set.__init__» noKeywords Builtin.Frozenset.updateFrom
    generalize hPI:pyIter=PI
    wp_walk
    subst hPI
    refine hit (s1 := { s with heap:=s.heap.push { cls := .type "set",dict:=none,data := .set #[] 0 (.fresh 0 0 (!w.params.followText "set-order")) } }) (hol'.trans hol.symm) ?_
    refine wpAny_bind (wpAny_runValue ?_)
    refine hgo _ fun h' tk hz => ?_
    show wpAny _ _ _ _ _ _
    refine wpAny_pure ?_
    show wpAny _ _ (ret Value.none) _ _ _
    exact wpAny_pure ⟨rfl,h',tk,rfl,hz⟩
   ·cases r₂ with
    | error e=>exact hr₂
    | ok fl₂ =>
     cases fl₂ with
     | ret r =>
      obtain ⟨rfl,h',tk,rfl,hz⟩:=hr₂
      repeat (any_goals (first | assumption | wp_step))
      exact h _ _ hz
     | _=>exact hr₂.elim
  | _=>exact hr.elim
end
variable [Tbs] [Bas]
noncomputable instance memDec (k:Key) (ks:List Key):Decidable (k∈ks):=Classical.propDecidable _
def Dc:Value->Key
 | .int k _ => .inl k
 | .str x _ => .inr x
 | _ => .inl 0
theorem yz {k:Key} {v:Value} (r:RelV (kV k) v):Dc v=k:=by
 cases k with
 | inl i=>obtain ⟨t,rfl⟩:=r;rfl
 | inr x=>obtain ⟨t,rfl⟩:=r;rfl
def Ra (P:Program) (w:World) (e:Int×Value):Prop := ∃ k:Key,RelV (kV k) e.2∧e.1=(mixKind P w).hash k
def Ge (P:Program) (w:World) (h:Heap) (a:Addr) (ks:List Key):Prop :=
 ∃ o es ep t,h.get? a=some o∧o.ExactSet∧o.data = .set es ep t∧(∀ e∈es.toList,Ra P w e)∧(es.toList.map fun e=>Dc e.2).Perm ks∧ks.Nodup ∧
  es.size<scanBound∧t.fits es.size=true∧Ris t.place.toList∧(w.params.followText "set-order" = true∨t.led=true)
section
variable {P:Program} {w:World} {h h' : Heap} {a:Addr} {ks:List Key}
theorem Ge.at (R:Ge P w h a ks) (k : ∀ o,h.get? a=some o->h'.get? a=some o):Ge P w h' a ks:=by
 obtain ⟨o,es,ep,t,ho,r⟩:=R
 exact ⟨o,es,ep,t,k o ho,r⟩
theorem NK {l:List (Int×Value)} (g : ∀ e∈l,Ra P w e):ElemsOf (mixKind P w) l:=fun e he=>by
 obtain ⟨k,h1,h2⟩:=g e he
 exact ⟨⟨k,kV_is h1,h2⟩,key_scan h1⟩
theorem PQ {e:Int×Value} (g:Ra P w e) (k:Key):(mixKind P w).is k e.2=true↔Dc e.2=k:=by
 obtain ⟨k0,h1,_⟩:=g
 rw [yz h1]
 constructor
 ·intro q
  have:=keyIs_rel (k:=k) (v:=e.2) q
  rw [← yz h1,yz this]
 ·rintro rfl
  exact kV_is h1
theorem Kl {l:List (Int×Value)} (g : ∀ e∈l,Ra P w e) (k:Key):k∈l.map (fun e=>Dc e.2) ↔ ∃ e∈l,(mixKind P w).is k e.2=true:=by
 rw [List.mem_map]
 exact ⟨fun ⟨e,he,q⟩=>⟨e,he,(PQ (g e he) k).2 q⟩,fun ⟨e,he,q⟩=>⟨e,he,(PQ (g e he) k).1 q⟩⟩
end
section
variable {P:Program} {w:World} {A:Around} {E:Value->Shared->Prop} {s:Shared} {a:Addr} {ks:List Key}
theorem Km {g:Bool->Sem Unit} (hg : ∀ (b:Bool) (s₁ : Shared) (Q' : Unit->Shared->Prop),Q' () s₁->wpAny (model P w) A (g b) Q' E s₁)
  {o:Obj} {es:Array (Int×Value)} {ep:Nat} {t:SetTable} (ho:s.heap.get? a=some o) (hex:o.ExactSet) (hd:o.data = .set es ep t)
  {es1:Array (Int×Value)} {t2:SetTable} (g1 : ∀ e∈es1.toList,Ra P w e) (p1:(es1.toList.map fun e=>Dc e.2).Perm ks) (nd1:ks.Nodup)
  (hb1:es1.size<scanBound) (hf2:t2.fits es1.size=true) (hr:Ris t2.place.toList) (hl:w.params.followText "set-order" = true∨t2.led=true) {wasDummy:Bool} {R:Option Bool->Shared->Prop}
  (hR : ∀ h',Heap.SameBut a s.heap h'->Ge P w h' a ks->R (some true) { s with heap:=h' }) :
  wpAny (model P w) A (do
    storeSet a es1 t2
    if (!wasDummy && t2.tooFull)=true then do
      g (relayAll t2 es1 (SetTable.grown es1.size)).2.2
      storeSet a (relayAll t2 es1 (SetTable.grown es1.size)).1 (relayAll t2 es1 (SetTable.grown es1.size)).2.1
      pure (some true)
     else pure (some true)) R E s:=by
 refine wpAny_bind (wpAny_storeSet_of ho hd ?_ (fits_of_scanBound hb1))
 have ho1:=store_at (es':=es1) (t':=t2) ho hd
 have sb1:=Heap.SameBut.update s.heap a (Obj.putSet es1 t2)
 split
 ·have pm:=relayAll_perm t2 es1 (SetTable.grown es1.size)
  have hf3:=relayAll_fits t2 es1 (SetTable.grown es1.size)
  have hr3:=relayAll_ris t2 es1 (SetTable.grown es1.size)
  have hl3:=relayAll_led t2 es1 (SetTable.grown es1.size)
  generalize relayAll t2 es1 (SetTable.grown es1.size)=Z at pm hf3 hr3 hl3 ⊢
  obtain ⟨es2,t3,gave⟩:=Z
  dsimp only at pm hf3 hr3 hl3 ⊢
  have hsz:es2.size=es1.size:=by rw [← Array.length_toList,pm.length_eq,Array.length_toList]
  have hb2:es2.size<scanBound:=by omega
  refine wpAny_bind (hg _ _ _ ?_)
  refine wpAny_bind (wpAny_storeSet_of ho1 rfl ?_ (fits_of_scanBound hb2))
  have ho2:=store_at (es':=es2) (t':=t3) ho1 rfl
  refine wpAny_pure (hR _ (sb1.trans (Heap.SameBut.update _ a _)) ?_)
  exact ⟨_,es2,_,t3,ho2,hex,rfl,fun e he=>g1 e (pm.mem_iff.mp he),(pm.map _).trans p1,nd1,hb2,hf3,hr3,hl.imp id fun z=>by rw [hl3];exact z⟩
 ·exact wpAny_pure (hR _ sb1 ⟨_,es1,_,t2,ho1,hex,rfl,g1,p1,nd1,hb1,hf2,hr,hl⟩)
theorem WM {k:Key} {v:Value} {Q:Bool->Shared->Prop} (hv:RelV (kV k) v) (R:Ge P w s.heap a ks) (room:ks.length+1<scanBound)
  (hQ : ∀ h' b,Heap.SameBut a s.heap h'->Ge P w h' a (if k∈ks then ks else ks++[k])->Q b { s with heap:=h' }) :
  wpAny (model P w) A (setAddHashed a v ((mixKind P w).hash k)) Q E s:=by
 obtain ⟨o,es,ep,t,ho,hex,hd,g,pm0,nd,hb,hf,hr,hl⟩:=R
 have hn:es.size=ks.length:=by rw [← pm0.length_eq,List.length_map,Array.length_toList]
 have hkey:(mixKind P w).is k v=true:=kV_is hv
 have hsc:v.scannable=true:=key_scan hv
 have hel:ElemsOf (mixKind P w) es.toList:=NK g
 unfold setAddHashed setAddHashedIn
 refine wpAny_holding (wpAny_bind (wpAny_setState_of ho hd hf ?_))
 dsimp only
 rw [byScan_of hsc hb hel]
 simp only [↓reduceIte]
 unfold setAddByScan
 refine wpAny_bind ?_
 refine wpAny_bind (wpAny_rule ?_)
 refine wpAny_bind (wpAny_setScan_of hkey ho hd hf hel ?_)
 cases hfi:List.findIdx? (fun e=>(mixKind P w).is k e.2) es.toList with
 | some j =>
  dsimp only
  obtain ⟨hj,pj,_⟩:=List.findIdx?_eq_some_iff_getElem.mp hfi
  have hin:k∈ks:=pm0.mem_iff.mp ((Kl g k).2 ⟨es.toList[j],List.getElem_mem hj,pj⟩)
  refine wpAny_pure (wpAny_pure ?_)
  refine hQ s.heap _ (Heap.SameBut.refl a s.heap) ?_
  rw [if_pos hin]
  exact ⟨o,es,ep,t,ho,hex,hd,g,pm0,nd,hb,hf,hr,hl⟩
 | none =>
  dsimp only
  have hnk:k∉ks:=fun z=>by
   obtain ⟨e,he,q⟩:=(Kl g k).1 (pm0.mem_iff.mpr z)
   have c:=List.findIdx?_eq_none_iff.mp hfi e he
   rw [q] at c
   cases c
  have hgw : ∀ (b:Bool) {s₁ : Shared} {Q' : Unit->Shared->Prop},Q' () s₁->wpAny (model P w) A (match b with | true=>rule "set.scan.the-table-gave-way" | false=>pure ()) Q' E s₁ :=
   fun b s₁ Q' q=>by cases b<;>first | exact wpAny_pure q | exact wpAny_rule q
  have pm:=layNew_perm t es ((mixKind P w).hash k) v
  have hf1:=layNew_fits t es ((mixKind P w).hash k) v
  have hr1:=layNew_ris t es ((mixKind P w).hash k) v hr
  have hl1:=layNew_led t es ((mixKind P w).hash k) v
  generalize layNew t es ((mixKind P w).hash k) v=Z at pm hf1 hr1 hl1 ⊢
  obtain ⟨es1,t1,wasDummy,gave⟩:=Z
  dsimp only at pm hf1 hr1 hl1 ⊢
  rw [Array.toList_push] at pm
  have g1 : ∀ e∈es1.toList,Ra P w e:=fun e he=>by
   rcases List.mem_append.mp (pm.mem_iff.mp he) with z | z
   ·exact g e z
   ·rw [List.mem_singleton.mp z];exact ⟨k,hv,rfl⟩
  have p1:(es1.toList.map fun e=>Dc e.2).Perm (ks++[k]):=by
   refine (pm.map _).trans ?_
   rw [List.map_append]
   refine List.Perm.append pm0 ?_
   rw [List.map_singleton,yz hv]
  have nd1:(ks++[k]).Nodup:=List.nodup_append.mpr ⟨nd,by simp,fun x hx y hy=>by rw [List.mem_singleton.mp hy];exact fun z=>hnk (z▸hx)⟩
  have hsz:es1.size=ks.length+1:=by
   have:=p1.length_eq
   simpa using this
  have hb1:es1.size<scanBound:=by omega
  have hled:w.params.followText "set-order" = true∨t1.led=true:=hl.imp id fun z=>by rw [hl1];exact z
  have fin : ∀ h',Heap.SameBut a s.heap h'->Ge P w h' a (ks++[k])->Q true { s with heap:=h' }:=fun h' sb r=>hQ h' true sb (by rw [if_neg hnk];exact r)
  refine wpAny_bind (hgw _ ?_)
  split
  ·refine wpAny_bind ?_
   rw [hashByValue_scannable 8 hsc]
   refine wpAny_pure ?_
   refine Km ?_ ho hex hd g1 p1 nd1 hb1 ?_ ?_ ?_ ?_
   ·intro b s₁ Q' q;cases b<;>first | exact wpAny_pure q | exact wpAny_rule q
   ·first | (split<;>first | exact hf1 | exact SetTable.fits_plain_off hf1) | exact hf1
   ·first | (split<;>exact hr1) | exact hr1
   ·first | (split<;>exact hled) | exact hled
   ·intro h' sb r;dsimp only;exact wpAny_pure (fin h' sb r)
  ·refine wpAny_bind (wpAny_pure ?_)
   simp only [↓reduceIte]
   refine Km ?_ ho hex hd g1 p1 nd1 hb1 hf1 hr1 hled ?_
   ·intro b s₁ Q' q;cases b<;>first | exact wpAny_pure q | exact wpAny_rule q
   ·intro h' sb r;dsimp only;exact wpAny_pure (fin h' sb r)
theorem Pb {h:Heap} (ho:h.get? a=some { cls := .type "set",dict:=none,data := .set #[] 0 (.fresh 0 0 (!w.params.followText "set-order")) }):Ge P w h a [] :=
 ⟨_, #[],0,_,ho,⟨rfl,rfl,rfl⟩,rfl,(fun e he=>by simp at he),(by simp),List.nodup_nil,(by decide),(by rfl),List.Pairwise.nil,by
  show _∨(!w.params.followText "set-order")=true
  cases w.params.followText "set-order"
  ·exact .inr rfl
  ·exact .inl rfl⟩
theorem Ko {I:Addr} {fp wr:List Addr} {G:Array GenState->Array GenState->Prop} {n:Nat} {Pv:Nat->Value->Prop} {St:Nat->Shared->Prop} {R:Result->Shared->Prop}
  (W:WalksS P w A.in1 I fp wr G n Pv St) (S:Addr) (hSf:S∉fp) (ls:List Key) (hn:n=ls.length) (hb:ls.length+1<scanBound) (hval : ∀ i v,Pv i v -> ∃ k,ls[i]? = some k∧RelV (kV k) v) :
  ∀ (j i:Nat) (s:Shared),n - i=j->i≤n->St i s->(∃ ks,ks.length≤i∧Ge P w s.heap S ks ∧ ∀ x,x∈ks↔x∈ls.take i) ->
   (∀ s' ks,Moved (S :: wr) G s s'->ks.length≤n->Ge P w s'.heap S ks->(∀ x,x∈ks↔x∈ls)->R (.ok (.ret .none)) s') ->
   codeAny (model P w) A (.builtin "set.update.loop" ⟨[.ref S, .ref I], []⟩) R s:=by
 have hSw:S∉wr:=fun h=>hSf (W.sub _ h)
 have hsub : ∀ b∈wr,b∈S :: wr:=fun b hb=>List.mem_cons_of_mem _ hb
 intro j
 induction j with
 | zero =>
  intro i s hk' hi hst ⟨ks,hc,hS,hm0⟩ hR
  have hin:i=n:=by omega
  subst hin
  refine codeAny_builtin F.entry_set_update_loop ?_
  rw [Around.under_plainId F.plain_set_update_loop _]
  show wpAny _ A.in1 (pyNext (.ref I) >>= _) _ _ s
  refine wpAny_bind (W.done s _ _ hst fun s' hm => ?_)
  show wpAny _ A.in1 (ret Value.none) _ _ s'
  have e:ls.take i=ls:=List.take_of_length_le (by omega)
  rw [e] at hm0
  exact wpAny_pure (hR s' ks (hm.mono hsub) hc (hS.at fun o e=>hm.heap S o hSw e) hm0)
 | succ j ih =>
  intro i s hk' hi hst ⟨ks,hc,hS,hm0⟩ hR
  have hlt:i<n:=by omega
  refine codeAny_builtin F.entry_set_update_loop ?_
  rw [Around.under_plainId F.plain_set_update_loop _]
  show wpAny _ A.in1 (pyNext (.ref I) >>= _) _ _ s
  refine wpAny_bind (W.item i s _ _ hlt hst fun v s' hP hst' hm => ?_)
  obtain ⟨z,hz,rz⟩:=hval i v hP
  have hS' : Ge P w s'.heap S ks:=hS.at fun o e=>hm.heap S o hSw e
  show wpAny _ A.in1 (holding [v] (setAdd S v) >>= _) _ _ s'
  refine wpAny_bind (wpAny_holding ?_)
  unfold setAdd
  refine wpAny_holding ?_
  refine wpAny_bind ((mixKind P w).pyHash (k:=z) (kV_is rz) ?_)
  refine WM rz (s := { s' with toks:=s'.toks+1 }) hS' (by omega) fun h' b hsb hS2 => ?_
  have hm3 : ∀ x,x∈(if z∈ks then ks else ks++[z])↔x∈ls.take (i+1):=fun x=>by
   rw [List.take_add_one,hz]
   split
   ·rename_i hin
    simp only [Option.toList_some,List.mem_append,List.mem_singleton, ← hm0 x]
    exact ⟨.inl,fun q=>q.elim id fun e=>e▸hin⟩
   ·simp only [Option.toList_some,List.mem_append,List.mem_singleton, ← hm0 x]
  have hc3:(if z∈ks then ks else ks++[z]).length≤i+1:=by
   split
   ·omega
   ·simp;omega
  refine wpAny_pure ⟨plainId_quiet F.plain_set_update_loop _,ih (i+1) _ (by omega) hlt (W.frame _ s' _ _ hst' (Nat.le_succ _) fun b hb o e => ?_) ⟨_,hc3,hS2,hm3⟩ fun s'' ks2 hm'' hc'' hS'' hm4 => ?_⟩
  ·rw [hsb.2 b (fun h:b=S=>hSf (by rw [← h];exact hb))];exact e
  ·refine hR s'' ks2 (Moved.trans W.gtrans ((hm.mono hsub).then_heap (Nat.le_succ _) fun b o hb e => ?_) hm'') hc'' hS'' hm4
   rw [hsb.2 b (fun h:b=S=>hb (by rw [h];exact List.mem_cons_self))];exact e
theorem Gf {l:Addr} {items:Array Value} (ls:List Key) {Q:Value->Shared->Prop} (hh:A.handled=none) (hl:s.heap.IsList l items) (hsz:items.size=ls.length) (hval : ∀ (i:Nat) (v:Value),items[i]? = some v -> ∃ k,ls[i]? = some k∧RelV (kV k) v) (hb:ls.length+1<scanBound)
  (h : ∀ (h' : Heap) (tk:Nat) (ks:List Key),Ge P w h' s.heap.objs.size ks->ks.length≤ls.length->(∀ x,x∈ks↔x∈ls)->(∀ b o,s.heap.get? b=some o->h'.get? b=some o)->Q (.ref s.heap.objs.size) { s with heap:=h',toks:=tk }) :
  wpAny (model P w) A (call (.type "set") [.ref l]) Q E s:=by
 obtain ⟨⟨_,odict,_,oslots⟩,hol,hcl,nl,hdl⟩:=hl
 simp only at hcl hdl
 subst hcl;subst hdl
 have hlS:l<s.heap.objs.size:=Heap.lt_size hol
 have hh3:A.in1.in1.in1.handled=none:=by simp [hh]
 have hneI:l≠(s.heap.push { cls := .type "set",dict:=none,data := .set #[] 0 (.fresh 0 0 (!w.params.followText "set-order")) }).objs.size:=by
  rw [Heap.size_push];exact Nat.ne_of_lt (Nat.lt_succ_of_lt hlS)
 have hSf:s.heap.objs.size∉[(s.heap.push { cls := .type "set",dict:=none,data := .set #[] 0 (.fresh 0 0 (!w.params.followText "set-order")) }).objs.size,l]:=by
  rw [Heap.size_push];simp only [List.mem_cons,List.mem_singleton,List.not_mem_nil,or_false,not_or]
  exact ⟨Nat.ne_of_lt (Nat.lt_succ_self _),Nat.ne_of_gt hlS⟩
 have hS:(s.heap.push { cls := .type "set",dict:=none,data := .set #[] 0 (.fresh 0 0 (!w.params.followText "set-order")) }).get? s.heap.objs.size=some { cls := .type "set",dict:=none,data := .set #[] 0 (.fresh 0 0 (!w.params.followText "set-order")) }:=Heap.get?_push_size _ rfl
 have hl1:(s.heap.push { cls := .type "set",dict:=none,data := .set #[] 0 (.fresh 0 0 (!w.params.followText "set-order")) }).IsList l items:=⟨_,Heap.get?_push_of_some _ hol,rfl,nl,rfl⟩
 have hb2 : ∀ b:Addr,b<s.heap.objs.size->b≠(s.heap.push { cls := .type "set",dict:=none,data := .set #[] 0 (.fresh 0 0 (!w.params.followText "set-order")) }).objs.size:=fun b hb0=>by
  rw [Heap.size_push];exact Nat.ne_of_lt (Nat.lt_succ_of_lt hb0)
 refine Bt (ik := "list_iterator") hol F.sub_list_set F.sub_list_frozenset (by decide) (fun e q=>wpAny_pyIter_list ⟨_,e.trans hol,rfl,nl,rfl⟩ q) (fun h' => ∃ ks,Ge P w h' s.heap.objs.size ks∧ks.length≤ls.length∧(∀ x,x∈ks↔x∈ls) ∧ ∀ b o,s.heap.get? b=some o->h'.get? b=some o) (fun R hR => ?_) fun h' tk ⟨ks,a,b,c,d⟩=>h h' tk ks a b c d
 refine Ko ((Walks.list hh3 _ l hneI items).toS) s.heap.objs.size hSf ls hsz hb hval (items.size - 0) 0 _ (by omega) (Nat.zero_le _) ⟨⟨_,Heap.get?_push_size _ rfl,rfl,rfl⟩,(hl1.push _)⟩ ⟨[],Nat.le_refl 0,Pb (Heap.get?_push_of_some _ hS),fun x=>by simp⟩ fun s' ks' hm hc' hS' hm4 => ?_
 obtain ⟨h',g2,d',tk',os'⟩:=s'
 have eg:g2=s.gens:=hm.gens
 have ed:d'=s.drawn:=hm.drawn
 have eo:os'=s.os:=hm.os
 subst eg;subst ed;subst eo
 refine hR h' tk' ⟨ks',hS',by omega,hm4,fun b o e => ?_⟩
 have hb0:b<s.heap.objs.size:=Heap.lt_size e
 exact hm.heap b o (by simp only [List.mem_cons,List.mem_singleton,List.not_mem_nil,or_false,not_or];exact ⟨Nat.ne_of_lt hb0,hb2 b hb0⟩) (Heap.get?_push_of_some _ (Heap.get?_push_of_some _ e))
theorem Ep {l:Addr} {items:Array Value} (ls:List Key) {Q:Value->Shared->Prop} (hh:A.handled=none) (hl:s.heap.IsTuple l items) (hsz:items.size=ls.length) (hval : ∀ (i:Nat) (v:Value),items[i]? = some v -> ∃ k,ls[i]? = some k∧RelV (kV k) v) (hb:ls.length+1<scanBound)
  (h : ∀ (h' : Heap) (tk:Nat) (ks:List Key),Ge P w h' s.heap.objs.size ks->ks.length≤ls.length->(∀ x,x∈ks↔x∈ls)->(∀ b o,s.heap.get? b=some o->h'.get? b=some o)->Q (.ref s.heap.objs.size) { s with heap:=h',toks:=tk }) :
  wpAny (model P w) A (call (.type "set") [.ref l]) Q E s:=by
 obtain ⟨⟨_,odict,_,oslots⟩,hol,hcl,nl,hdl⟩:=hl
 simp only at hcl hdl
 subst hcl;subst hdl
 have hlS:l<s.heap.objs.size:=Heap.lt_size hol
 have hh3:A.in1.in1.in1.handled=none:=by simp [hh]
 have hneI:l≠(s.heap.push { cls := .type "set",dict:=none,data := .set #[] 0 (.fresh 0 0 (!w.params.followText "set-order")) }).objs.size:=by
  rw [Heap.size_push];exact Nat.ne_of_lt (Nat.lt_succ_of_lt hlS)
 have hSf:s.heap.objs.size∉[(s.heap.push { cls := .type "set",dict:=none,data := .set #[] 0 (.fresh 0 0 (!w.params.followText "set-order")) }).objs.size,l]:=by
  rw [Heap.size_push];simp only [List.mem_cons,List.mem_singleton,List.not_mem_nil,or_false,not_or]
  exact ⟨Nat.ne_of_lt (Nat.lt_succ_self _),Nat.ne_of_gt hlS⟩
 have hS:(s.heap.push { cls := .type "set",dict:=none,data := .set #[] 0 (.fresh 0 0 (!w.params.followText "set-order")) }).get? s.heap.objs.size=some { cls := .type "set",dict:=none,data := .set #[] 0 (.fresh 0 0 (!w.params.followText "set-order")) }:=Heap.get?_push_size _ rfl
 have hl1:(s.heap.push { cls := .type "set",dict:=none,data := .set #[] 0 (.fresh 0 0 (!w.params.followText "set-order")) }).IsTuple l items:=⟨_,Heap.get?_push_of_some _ hol,rfl,nl,rfl⟩
 have hb2 : ∀ b:Addr,b<s.heap.objs.size->b≠(s.heap.push { cls := .type "set",dict:=none,data := .set #[] 0 (.fresh 0 0 (!w.params.followText "set-order")) }).objs.size:=fun b hb0=>by
  rw [Heap.size_push];exact Nat.ne_of_lt (Nat.lt_succ_of_lt hb0)
 refine Bt (ik := "tuple_iterator") hol F.sub_tuple_set F.sub_tuple_frozenset (by decide) (fun e q=>wpAny_pyIter_tuple ⟨_,e.trans hol,rfl,nl,rfl⟩ q) (fun h' => ∃ ks,Ge P w h' s.heap.objs.size ks∧ks.length≤ls.length∧(∀ x,x∈ks↔x∈ls) ∧ ∀ b o,s.heap.get? b=some o->h'.get? b=some o) (fun R hR => ?_) fun h' tk ⟨ks,a,b,c,d⟩=>h h' tk ks a b c d
 refine Ko ((Walks.tuple hh3 _ l hneI items).toS) s.heap.objs.size hSf ls hsz hb hval (items.size - 0) 0 _ (by omega) (Nat.zero_le _) ⟨⟨_,Heap.get?_push_size _ rfl,rfl,rfl⟩,(hl1.push _)⟩ ⟨[],Nat.le_refl 0,Pb (Heap.get?_push_of_some _ hS),fun x=>by simp⟩ fun s' ks' hm hc' hS' hm4 => ?_
 obtain ⟨h',g2,d',tk',os'⟩:=s'
 have eg:g2=s.gens:=hm.gens
 have ed:d'=s.drawn:=hm.drawn
 have eo:os'=s.os:=hm.os
 subst eg;subst ed;subst eo
 refine hR h' tk' ⟨ks',hS',by omega,hm4,fun b o e => ?_⟩
 have hb0:b<s.heap.objs.size:=Heap.lt_size e
 exact hm.heap b o (by simp only [List.mem_cons,List.mem_singleton,List.not_mem_nil,or_false,not_or];exact ⟨Nat.ne_of_lt hb0,hb2 b hb0⟩) (Heap.get?_push_of_some _ (Heap.get?_push_of_some _ e))
theorem Es {Q:Value->Shared->Prop} (R:Ge P w s.heap a ks) (hh:A.handled=none) {F:List Value->List Value->Prop}
  (hsort : ∀ (vs:List Value) (s' : Shared) (b:Addr) (Pf:Fin->Shared->Prop),(vs.map Dc).Perm ks->(∀ v∈vs,RelV (kV (Dc v)) v)->vs.length≤sizeLine->s'.heap.get? b=some (seqObj "list" vs.toArray 0) ->
   (∀ out:Array Value,F vs out.toList->Pf (.done (.ret .none)) { s' with heap:=sortedHeap s'.heap b vs out })->wpAny (model P w) A.in1.in1 (Builtin.«list.sort» ⟨[.ref b], []⟩) Pf E s')
  (hQ : ∀ s' p (vs:List Value) (out:Array Value) (c:Nat),(∀ b o,s.heap.get? b=some o->s'.heap.get? b=some o)->s'.gens=s.gens->s'.os=s.os->s.heap.objs.size≤p ->
   s'.heap.get? p=some (seqObj "list" out c)->F vs out.toList->(vs.map Dc).Perm ks->Q (.ref p) s') :
  wpAny (model P w) A (call (.builtin "sorted") [.ref a]) Q E s:=by
 obtain ⟨o,es,ep,t,ho,hex,hd,g,pm0,nd,hb,hf,hr,hl⟩:=R
 refine Calls.call_function_entry kind_sorted plain_sorted entry_sorted (args_sorted1 _) ?_
 unfold Builtin.«sorted»
 refine wpAny_bind (m:=checkCount "sorted" 1 1 _) (wpAny_pure ?_)
 refine wpAny_bind (collect_set (A:=A.in1) hh ⟨o,ho,hex.1,hd⟩ hf hb hr hl fun s1 vs k1 hz g1 o1 pm => ?_)
 have pk:(vs.map Dc).Perm ks:=by
  have q:=pm.map Dc
  rw [List.map_map] at q
  exact q.trans pm0
 have hv : ∀ v∈vs,RelV (kV (Dc v)) v:=fun v hv=>by
  obtain ⟨e,he,q⟩:=List.mem_map.mp (pm.mem_iff.mp hv)
  obtain ⟨k,h1,_⟩:=g e he
  rw [q] at h1
  rw [yz h1];exact h1
 have hvl:vs.length≤sizeLine:=by
  rw [pm.length_eq,List.length_map,Array.length_toList]
  exact fits_of_scanBound hb
 refine wpAny_bind (wpAny_newList ?_ hvl)
 have hoL:(s1.heap.push (seqObj "list" vs.toArray 0)).get? s1.heap.objs.size=some (seqObj "list" vs.toArray 0):=Heap.get?_push_size _ rfl
 refine wpAny_bind (wpAny_holding (wpAny_call_entry slot_list_sort ⟨_,hoL,rfl⟩ entry_list_sort (hsort vs _ _ _ pk hv hvl hoL fun out a1=>⟨_,rfl, ?_⟩) (args_list_sort _)))
 obtain ⟨c,hc⟩:=sortedHeap_at (vs:=vs) (out:=out) hoL
 refine wpAny_pure ⟨_,rfl,hQ _ s1.heap.objs.size vs out c (fun b u e => ?_) g1 o1 hz hc a1 pk⟩
 have q:=k1 b u e
 have hlt:=Heap.lt_size q
 show (sortedHeap (s1.heap.push (seqObj "list" vs.toArray 0)) s1.heap.objs.size vs out).get? b=some u
 rw [sortedHeap_old (Nat.ne_of_lt hlt) (by rw [size_push'];exact Nat.lt_succ_of_lt hlt)]
 exact Heap.get?_push_of_some _ q
end
end DL
namespace DL
open PySem PySem.Spec L2
open PyProof.Rows hiding St
variable [Tbs] [Bas]
def dLe (a b:T):Bool := !PySem.W.dataLt b a
def Et:GN:=fun os Q=>match os with
 | [o]=>match lsO o with
  | some ts=>PySem.W.AllAlike ts∧PySem.W.Sortable ts∧(∀ t∈ts,t.depth≤100)∧ts.length≤1000000∧Q (.lst (ts.mergeSort dLe))
  | none=>False
 | _=>False
theorem Hl {α β : Type} {G : α->β->Prop} : ∀ {l:List α} {r:List β},Paired G l r->(l.zip r).map (·.1)=l∧(l.zip r).map (·.2)=r ∧ ∀ p∈l.zip r,G p.1 p.2
 | _,_, .nil=>⟨rfl,rfl,fun _ m=>by simp at m⟩
 | _,_, .cons h t=>by
  obtain ⟨h1,h2,h3⟩:=Hl t
  refine ⟨by simp [h1],by simp [h2],fun p m => ?_⟩
  rcases List.mem_cons.mp (by simpa using m) with e | e
  ·rw [e];exact h
  ·exact h3 p e
theorem Kr {α β γ : Type} {G : β->γ->Prop} {f : α->β} {g : α->γ} : ∀ {l:List α},(∀ a∈l,G (f a) (g a))->Paired G (l.map f) (l.map g)
 | [],_ => .nil
 | a :: l,h => .cons (h a List.mem_cons_self) (Kr fun b m=>h b (List.mem_cons_of_mem _ m))
theorem Ks {γ : Type} : ∀ {ps:List (V×γ)} {us:List Value},Vals (ps.map (·.1)) us->PySem.W.EachIs (fun u (p:V×γ)=>RelV p.1 u) us ps
 | [],_, .nil => .nil
 | _ :: _,_, .cons h t => .cons h (Ks t)
theorem Ku {γ : Type} : ∀ {us:List Value} {ps:List (V×γ)},PySem.W.EachIs (fun u (p:V×γ)=>RelV p.1 u) us ps->Vals (ps.map (·.1)) us
 | _,_, .nil => .nil
 | _,_, .cons h t => .cons h (Ku t)
theorem Hm {γ : Type} {R:Value->V×γ->Prop} : ∀ {us:List Value} {ps:List (V×γ)},PySem.W.EachIs (fun u (p:V×γ)=>RelV p.1 u) us ps->(∀ p∈ps, ∀ u,RelV p.1 u->R u p)->PySem.W.EachIs R us ps
 | _,_, .nil,_ => .nil
 | _,_, .cons h t,w => .cons (w _ List.mem_cons_self _ h) (Hm t fun p m=>w p (List.mem_cons_of_mem _ m))
theorem WN {γ : Type} (ps:List (γ×T)):(ps.mergeSort (PySem.W.dataLe false fun p : γ×T=>p.2)).map (·.2)=(ps.map (·.2)).mergeSort dLe:=by
 have e:PySem.W.dataLe false (fun p : γ×T=>p.2)=fun p q=>dLe p.2 q.2:=rfl
 rw [e]
 exact (List.map_mergeSort (f:=fun p : γ×T=>p.2) (fun _ _ _ _=>rfl)).symm▸rfl
section
variable {X:Cx}
theorem NP (hu:X.A.units+200<cLine):iT X (.builtin "sorted") Et:=iT.mk fun pins s σ H F vs xs us Q Qa I r hx h fin=>by
 unfold Et at h
 split at h
 ·cases hx with
  | cons h1 hr =>
   cases hr
   split at h
   ·rename_i ts el
    obtain ⟨ha,hk,hd,hz,h⟩:=h
    obtain ⟨a,vs,rfl,hq,r2⟩:=RW.ls h1 el
    obtain ⟨u,rfl,rx⟩:=vals1 r
    cases rx
    obtain ⟨its,rv,pl,_⟩:=I.list hq
    obtain ⟨z1,z2,z3⟩:=Hl r2
    have e0:Vals ((vs.zip ts).map (·.1)) its:=by rw [z1];exact rv
    have e1:=Ks e0
    have hl:(vs.zip ts).length=ts.length:=by rw [← List.length_map (f:=(·.2)),z2]
    refine PySem.W.sorted_data (bs:=vs.zip ts) (enc:=fun p:V×T=>p.2) pl.isList e1 (Hm e1 fun p m u ru => ?_) (by rw [z2];exact ha) (by rw [z2];exact hk) (by rw [hl,sizeLine_eq];omega) (fun p m => ?_) fun out ho e2 => ?_
    ·obtain ⟨as,q,_⟩:=z3 p m
     exact RV.reads I q ru
    ·have:=hd p.2 (by rw [← z2];exact List.mem_map_of_mem m)
     omega
    ·have rr:=Ku e2
     have pm:=List.mergeSort_perm (vs.zip ts) (PySem.W.dataLe false fun p:V×T=>p.2)
     have hlen:(((vs.zip ts).mergeSort (PySem.W.dataLe false fun p:V×T=>p.2)).map (·.1)).length≤sizeLine:=by
      rw [List.length_map,pm.length_eq,hl,sizeLine_eq];omega
     obtain ⟨ep,he'⟩:=PyProof.Rows.sortedAll_at s.heap its out.toArray
     refine ⟨.ref _,upd H (s.heap.objs.size+1) (.lst (((vs.zip ts).mergeSort (PySem.W.dataLe false fun p:V×T=>p.2)).map (·.1))),I.laid (t':=s.toks) (fun _ _=>PyProof.Rows.sortedAll_old) (Nat.le_succ _) ⟨hlen,out,ep,rr,he'⟩,rfl, ?_⟩
     refine fin.lst (I.hok.fresh (Nat.le_succ _)) (ts:=ts.mergeSort dLe) ?_ h
     rw [← z2, ← WN,z2]
     exact Kr fun p m=>z3 p (pm.mem_iff.mp m)
   ·exact h.elim
 ·exact h.elim
end
def SetH (P:Program) (w:World) (a:Addr) (ks:List Key):HO := .ext fun h=>Ge P w h a ks
theorem WP {w:World} {P:Program} {H:Hp} {h:Heap} {a:Addr} {ks:List Key} (R:Ge P w h a ks):ObjOk P w H h a (SetH P w a ks):=by
 have ⟨o,_,_,_,ho,_⟩:=R
 exact ⟨R,⟨o,ho⟩,fun h1 h2 p k=>Ge.at p k⟩
section
variable {X:Cx}
theorem WQ {pins:List (Addr×Obj)} {σ : St} {H:Hp} {s:Shared} {a:Addr} {ks:List Key} (I:Inv X pins σ H s) (ha:H a=some (SetH X.prog X.w a ks)):Ge X.prog X.w s.heap a ks:=(I.hok a _ ha).1
theorem ZK {vs:List V} {us:List Value} (r:Vals vs us) : ∀ (i:Nat) (u:Value),us[i]? = some u -> ∃ v,vs[i]? = some v∧RelV v u:=by
 induction r with
 | nil=>intro i u h;simp at h
 | cons h t ih =>
  intro i u e
  cases i with
  | zero=>simp at e;subst e;exact ⟨_,rfl,h⟩
  | succ i=>simpa using ih i u (by simpa using e)
def Tz (K:PySem.W.Frag) (P:Program) (w:World):List V->Hp->VK->Prop:=fun xs H Q => ∃ (l:Addr) (ls:List Key),xs=[V.ref l]∧(SqL K H l (ls.map kV)∨SqT K H l (ls.map kV))∧ls.length<4000 ∧
 ∀ p ks,H p=none->ks.Nodup->(∀ x,x∈ks↔x∈ls)->ks.length≤ls.length->Q (.ref p) (upd H p (SetH P w p ks))
theorem ZM (hc:X.calm=true):CallR X (.type "set") (Tz X.K X.prog X.w):=by
 intro pins s σ H xs us Q I r h
 obtain ⟨l,ls,rfl,hq,hb,q⟩:=h
 obtain ⟨u,rfl,rx⟩:=vals1 r
 cases rx
 have hb2:ls.length+1<scanBound:=by unfold scanBound;omega
 have fin : ∀ (h' : Heap) (tk:Nat) (ks:List Key),Ge X.prog X.w h' s.heap.objs.size ks->ks.length≤ls.length->(∀ x,x∈ks↔x∈ls)->(∀ b o,s.heap.get? b=some o->h'.get? b=some o)->EP X pins σ Q (.ref s.heap.objs.size) { s with heap:=h',toks:=tk }:=fun h' tk ks R h1 h2 kp =>
  have nd:ks.Nodup:=by obtain ⟨_,_,_,_,_,_,_,_,_,nd,_⟩:=R;exact nd
  ⟨.ref s.heap.objs.size,_,I.laid (t':=tk) kp (Nat.le_refl _) (WP R),rfl,q _ ks (I.hok.fresh (Nat.le_refl _)) nd h2 h1⟩
 have go : ∀ its:List Value,Vals (ls.map kV) its->its.toArray.size=ls.length ∧ ∀ (i:Nat) (v:Value),its.toArray[i]? = some v -> ∃ k,ls[i]? = some k∧RelV (kV k) v:=fun its rv=>by
  refine ⟨by rw [List.size_toArray, ← rv.length,List.length_map],fun i v e => ?_⟩
  obtain ⟨x,e1,r1⟩:=ZK rv i v (by simpa using e)
  rw [List.getElem?_map] at e1
  cases e2:ls[i]? with
  | none=>rw [e2] at e1;cases e1
  | some k=>rw [e2] at e1;cases e1;exact ⟨k,rfl,r1⟩
 rcases hq with hq | hq
 ·obtain ⟨its,rv,pl,hz⟩:=I.list hq
  obtain ⟨g1,g2⟩:=go its rv
  exact Gf ls (I.ok.hd hc) pl.isList g1 g2 hb2 fin
 ·obtain ⟨its,rv,pl,hz⟩:=I.tuple hq
  obtain ⟨g1,g2⟩:=go its rv
  exact Ep ls (I.ok.hd hc) pl g1 g2 hb2 fin
def YF (P:Program) (w:World):List V->Hp->VK->Prop:=fun xs H Q => ∃ (a:Addr) (ks:List Key),xs=[V.ref a]∧H a=some (SetH P w a ks) ∧
  ((∃ is:List Int,ks=is.map .inl ∧ ∀ (q:Addr) (ms:List Int),H q=none->ms.Perm is->ms.Pairwise (· ≤ ·)->Q (.ref q) (upd H q (.lst (ms.map V.int)))) ∨
   (∃ is:List Str,ks=is.map .inr ∧ ∀ (q:Addr) (ms:List Str),H q=none->ms.Perm is->sortedS ms=true->Q (.ref q) (upd H q (.lst (ms.map V.str)))))
theorem Kv : ∀ {vs:List Value} ,(∀ v∈vs,RelV (kV (Dc v)) v) -> ∀ is:List Int,(vs.map Dc).Perm (is.map .inl) -> ∃ ns,IntsAre vs ns∧ns.Perm is
 | vs,hv,is,pm=>by
  have h1 : ∀ v∈vs, ∃ i t,v=Value.int i t∧Dc v = .inl i:=fun v m=>by
   obtain ⟨i,_,e⟩:=List.mem_map.mp (pm.mem_iff.mp (List.mem_map_of_mem (f:=Dc) m))
   have:=hv v m
   rw [← e] at this
   obtain ⟨t,rfl⟩:=this
   exact ⟨i,t,rfl,rfl⟩
  have h2 : ∀ us:List Value,(∀ v∈us, ∃ i t,v=Value.int i t∧Dc v = .inl i) -> ∃ ns,IntsAre us ns∧us.map Dc=ns.map .inl:=fun us=>by
   induction us with
   | nil=>exact fun _=>⟨[], .nil,rfl⟩
   | cons u us ih =>
    intro h
    obtain ⟨ns,a1,a2⟩:=ih fun v m=>h v (List.mem_cons_of_mem _ m)
    obtain ⟨i,t,rfl,e⟩:=h u List.mem_cons_self
    exact ⟨i :: ns, .cons i t a1,by simp [a2,e]⟩
  obtain ⟨ns,a1,a2⟩:=h2 vs h1
  refine ⟨ns,a1, ?_⟩
  rw [a2] at pm
  have:=pm.map (fun k:Key=>match k with | .inl i=>i | .inr _=>0)
  simpa [List.map_map,Function.comp_def] using this
theorem Kw : ∀ {vs:List Value} ,(∀ v∈vs,RelV (kV (Dc v)) v) -> ∀ is:List Str,(vs.map Dc).Perm (is.map .inr) -> ∃ ns,StrsAre vs ns∧ns.Perm is
 | vs,hv,is,pm=>by
  have h1 : ∀ v∈vs, ∃ i t,v=Value.str i t∧Dc v = .inr i:=fun v m=>by
   obtain ⟨i,_,e⟩:=List.mem_map.mp (pm.mem_iff.mp (List.mem_map_of_mem (f:=Dc) m))
   have:=hv v m
   rw [← e] at this
   obtain ⟨t,rfl⟩:=this
   exact ⟨i,t,rfl,rfl⟩
  have h2 : ∀ us:List Value,(∀ v∈us, ∃ i t,v=Value.str i t∧Dc v = .inr i) -> ∃ ns,StrsAre us ns∧us.map Dc=ns.map .inr:=fun us=>by
   induction us with
   | nil=>exact fun _=>⟨[], .nil,rfl⟩
   | cons u us ih =>
    intro h
    obtain ⟨ns,a1,a2⟩:=ih fun v m=>h v (List.mem_cons_of_mem _ m)
    obtain ⟨i,t,rfl,e⟩:=h u List.mem_cons_self
    exact ⟨i :: ns, .cons i t a1,by simp [a2,e]⟩
  obtain ⟨ns,a1,a2⟩:=h2 vs h1
  refine ⟨ns,a1, ?_⟩
  rw [a2] at pm
  have:=pm.map (fun k:Key=>match k with | .inl _=>(Str.empty:Str) | .inr x=>x)
  simpa [List.map_map,Function.comp_def] using this
theorem WR (hc:X.calm=true):CallR X (.builtin "sorted") (YF X.prog X.w):=by
  intro pins s σ H xs us Q I r h
  obtain ⟨a,ks,rfl,ha,q⟩:=h
  have R:=WQ I ha
  rw [Vals.ref1 r]
  have fin : ∀ (s' : Shared) (p:Addr) (out:Array Value) (c:Nat) (zs:List V),(∀ b o,s.heap.get? b=some o->s'.heap.get? b=some o)->s'.gens=s.gens->s'.os=s.os->s.heap.objs.size≤p->s'.heap.get? p=some (seqObj "list" out c)->Vals zs out.toList->zs.length≤sizeLine ->
      (H p=none->Q (.ref p) (upd H p (.lst zs)))->EP X pins σ Q (.ref p) s':=fun s' p out c zs k g o hp hg hv hz w=>by
    have hn:H p=none:=I.hok.fresh hp
    have J:Inv X pins σ (upd H p (.lst zs)) { s with heap:=s'.heap,gens:=s'.gens,drawn:=s'.drawn,toks:=s'.toks } :=
      I.call (ch:=[]) (Un.laid k hp hn) (I.hok.laid k hp ⟨hz,out.toList,c,hv,by rw [Array.toArray_toList];exact hg⟩) (by rw [g];exact I.bare) (fun _ z=>nomatch z)
    have e:s' = { s with heap:=s'.heap,gens:=s'.gens,drawn:=s'.drawn,toks:=s'.toks }:=by
      cases s'
      cases s
      cases o
      rfl
    rw [e]
    exact ⟨.ref p,_,J,rfl,w hn⟩
  rcases q with ⟨is,rfl,q⟩ | ⟨is,rfl,q⟩
  · refine Es R (I.ok.hd hc) (F:=fun _ out => ∃ ms,IntsAre out ms∧ms.Perm is∧ms.Pairwise (· ≤ ·)) (fun vs s' b Pf pm hv hl ho hp => ?_) fun s' p vs out c k g o hp hg hF pm => ?_
    · obtain ⟨ns,a1,a2⟩:=Kv hv is pm
      exact list_sort_treeAny ho a1 hl fun out ms b1 b2 b3=>hp out ⟨ms,b1,b2.trans a2,b3⟩
    · obtain ⟨ms,b1,b2,b3⟩:=hF
      have hz:(ms.map V.int).length≤sizeLine:=by
        obtain ⟨_,es,_,_,_,_,_,_,pm0,_,hb,_⟩:=R
        have e1:=pm0.length_eq
        rw [List.length_map,b2.length_eq,sizeLine_eq]
        rw [List.length_map,List.length_map,Array.length_toList] at e1
        unfold scanBound at hb
        omega
      exact fin s' p out c (ms.map V.int) k g o hp hg (vals_of_ints b1) hz fun hn=>q p ms hn b2 b3
  · refine Es R (I.ok.hd hc) (F:=fun _ out => ∃ ms,StrsAre out ms∧ms.Perm is∧sortedS ms=true) (fun vs s' b Pf pm hv hl ho hp => ?_) fun s' p vs out c k g o hp hg hF pm => ?_
    · obtain ⟨ns,a1,a2⟩:=Kw hv is pm
      refine list_sort_treeKAny strKind_oneLt ho a1.keysOf (fun v₁ v₂ rest e=>keyKind_strs (by rw [← e];exact a1)) hl fun st' h1 h2 => ?_
      obtain ⟨ms,b1,b2,b3⟩:=sorted_out_str a1 h1 h2
      exact hp _ ⟨ms,b1,b2.trans a2,b3⟩
    · obtain ⟨ms,b1,b2,b3⟩:=hF
      have hz:(ms.map V.str).length≤sizeLine:=by
        obtain ⟨_,es,_,_,_,_,_,_,pm0,_,hb,_⟩:=R
        have e1:=pm0.length_eq
        rw [List.length_map,b2.length_eq,sizeLine_eq]
        rw [List.length_map,List.length_map,Array.length_toList] at e1
        unfold scanBound at hb
        omega
      exact fin s' p out c (ms.map V.str) k g o hp hg (vals_of_strs b1) hz fun hn=>q p ms hn b2 b3
theorem aAG:bootBuiltins "set" = some (.type "set"):=by decide +kernel
def qI:GN:=fun os Q=>match os with
  | [o]=>match rR o with
    | some ts=>ts.length<4000∧((∃ ns:List Int,ts=ns.map .int ∧ ∀ ms:List Int,ms.Nodup->(∀ x,x∈ms↔x∈ns)->ms.Pairwise (· ≤ ·)->Q (.lst (ms.map .int))) ∨
      (∃ ns:List Str,ts=ns.map .str ∧ ∀ ms:List Str,ms.Nodup->(∀ x,x∈ms↔x∈ns)->sortedS ms=true->Q (.lst (ms.map .str))))
    | none=>False
  | _=>False
theorem RPs.intsE {K:PySem.W.Frag} {H:Hp} {F:Addr->Prop} : ∀ {vs:List V} {ns:List Int},RPs K H F vs (ns.map PyData.int)->vs=ns.map V.int
 | _, [], .nil=>rfl
 | _,n :: ns, .cons h t=>by rw [RP.intE h,RPs.intsE t];rfl
theorem RPs.strsE {K:PySem.W.Frag} {H:Hp} {F:Addr->Prop} : ∀ {vs:List V} {ns:List Str},RPs K H F vs (ns.map PyData.str)->vs=ns.map V.str
 | _, [], .nil=>rfl
 | _,n :: ns, .cons h t=>by rw [RP.strE h,RPs.strsE t];rfl
theorem Ky {K:PySem.W.Frag} {H:Hp} {F:Addr->Prop} : ∀ ns:List Int,RPs K H F (ns.map V.int) (ns.map PyData.int)
 | [] => .nil
 | i :: ns => .cons (RP.int i) (Ky ns)
theorem Bu {α β : Type} {f : α->β} {l:List α} (h:(l.map f).Nodup):l.Nodup:=by
 induction l with
 | nil=>exact List.nodup_nil
 | cons a l ih =>
  rw [List.map_cons,List.nodup_cons] at h
  exact List.nodup_cons.mpr ⟨fun m=>h.1 (List.mem_map_of_mem m),ih h.2⟩
theorem Rb {H:Hp} {F:Addr->Prop} {vs:List V} {xs:List O} {Q:VK} {Qa:O->Prop} (hx:Paired (RW X.K H F) vs xs) (h:qI xs Qa) (fin:xC X.K H F Qa Q):Tz X.K X.prog X.w vs H fun v H1=>YF X.prog X.w [v] H1 Q:=by
 unfold qI at h
 split at h
 ·cases hx with
  | cons h1 hr =>
   cases hr
   split at h
   ·rename_i ts es
    obtain ⟨hz,h⟩:=h
    obtain ⟨p,vs,rfl,hq,r2⟩:=RW.seq h1 es
    have hq' : SqL X.K H p vs∨SqT X.K H p vs:=hq.imp id And.left
    have lay : ∀ (a b:Addr) (o u:HO),H a=none->L2.upd H a o b=none->b≠a∧H b=none:=fun a b o u n e=>by
     have ne:b≠a:=fun z=>by rw [z,upd_same] at e;cases e
     rw [upd_ne ne] at e
     exact ⟨ne,e⟩
    have done : ∀ (a b:Addr) (o:HO) (zs:List V) (ts:List T),H a=none->L2.upd H a o b=none->(∀ (H' : Hp) (F' : Addr->Prop),RPs X.K H' F' zs ts)->Qa (.lst ts)->Q (.ref b) (L2.upd (L2.upd H a o) b (.lst zs)):=fun a b o zs ts na nb rz q=>by
     obtain ⟨ne,nb'⟩:=lay a b o o na nb
     refine fin (.ref b) (.lst ts) [b] _ (fL.trans (fL.upd na) (fL.upd nb)) ⟨b,zs,rfl,rfl,upd_same,rz _ _⟩ (fun c m=>by rw [List.mem_singleton.mp m];exact nb') (by simp) q
    rcases h with ⟨ns,rfl,h⟩ | ⟨ns,rfl,h⟩
    ·obtain rfl:=r2.intsE
     refine ⟨p,ns.map .inl,rfl,by simpa [List.map_map,Function.comp_def,kV] using hq',by simpa using hz,fun a ks na nd hm hl=>⟨a,ks,rfl,upd_same, .inl ?_⟩⟩
     have hk : ∀ k∈ks, ∃ i:Int,k = .inl i:=fun k m=>by
      obtain ⟨i,_,e⟩:=List.mem_map.mp ((hm k).mp m)
      exact ⟨i,e.symm⟩
     have e1:ks=(ks.map fun k:Key=>match k with | .inl i=>i | .inr _=>0).map .inl:=by
      rw [List.map_map]
      refine (List.map_id ks).symm.trans (List.map_congr_left fun k m => ?_)
      obtain ⟨i,rfl⟩:=hk k m
      rfl
     generalize (ks.map fun k:Key=>match k with | .inl i=>i | .inr _=>0)=is at e1
     subst e1
     refine ⟨is,rfl,fun b ms nb pm so=>done a b _ _ _ na nb (fun _ _=>Ky ms) (h ms (pm.nodup_iff.mpr (Bu nd)) (fun x => ?_) so)⟩
     have:=hm (.inl x)
     first | simpa [pm.mem_iff] using this | (rw [pm.mem_iff];simpa using this)
    ·obtain rfl:=r2.strsE
     refine ⟨p,ns.map .inr,rfl,by simpa [List.map_map,Function.comp_def,kV] using hq',by simpa using hz,fun a ks na nd hm hl=>⟨a,ks,rfl,upd_same, .inr ?_⟩⟩
     have hk : ∀ k∈ks, ∃ i:Str,k = .inr i:=fun k m=>by
      obtain ⟨i,_,e⟩:=List.mem_map.mp ((hm k).mp m)
      exact ⟨i,e.symm⟩
     have e1:ks=(ks.map fun k:Key=>match k with | .inl _=>Str.empty | .inr x=>x).map .inr:=by
      rw [List.map_map]
      refine (List.map_id ks).symm.trans (List.map_congr_left fun k m => ?_)
      obtain ⟨i,rfl⟩:=hk k m
      rfl
     generalize (ks.map fun k:Key=>match k with | .inl _=>Str.empty | .inr x=>x)=is at e1
     subst e1
     refine ⟨is,rfl,fun b ms nb pm so=>done a b _ _ _ na nb (fun _ _=>RPs.ofStrs ms) (h ms (pm.nodup_iff.mpr (Bu nd)) (fun x => ?_) so)⟩
     have:=hm (.inr x)
     first | simpa [pm.mem_iff] using this | (rw [pm.mem_iff];simpa using this)
   ·exact h.elim
 ·exact h.elim
theorem Rf {e:Expr} {ts:XTs} {p p2 q pos:Pos} (hc:X.calm=true) (hg:Gl X "sorted") (hm:X.mg "sorted" = none) (hg2:Gl X "set") (hm2:X.mg "set" = none) (hb:bootBuiltins "sorted" = some (.builtin "sorted")) (hb2:bootBuiltins "set" = some (.type "set")) (ha:EXs X [e] ts)
  (he:starEach [.Call (.Name "set" p2) [e] [] q] X.env=(false,eval (.Call (.Name "set" p2) [e] [] q) X.env) :: starEach [] X.env:=by rfl) (he2:starEach [e] X.env=(false,eval e X.env) :: starEach [] X.env:=by rfl) :
  EX X (.Call (.Name "sorted" p) [.Call (.Name "set" p2) [e] [] q] [] pos) (aq qI ts):=by
 refine ⟨PE.imp (pe_callB (WR hc) hg hm hb (pa_cons (pe_callTy (ZM hc) hg2 hm2 hb2 ha.pa (by decide) (by decide) he2 (by rfl)) pa_nil he) (by decide) (by decide) he (by rfl)) ?_⟩
 rintro σ H Q ⟨ρ,fp,G,Qa,R,h,fin⟩
 refine ⟨ρ,fp,G,_,R,h,fun vs ps A H1 ρ1 fp1 hl R1 r1 nd1 ng1 x1 h1 => ?_⟩
 unfold gN at h1
 split at h1
 ·rename_i os e1
  exact Rb (lw R1 r1 e1) h1 (lu R1 (fun a m=>List.mem_append_right _ m) x1.or fin)
 ·exact h1.elim
end
section
variable {X:Cx}
def Gg:GN:=fun os Q=>fU os Q∨Et os Q
theorem wV (hu:X.A.units+200<cLine):iT X (.builtin "sorted") Gg:=by
 obtain ⟨r1,h1,g1⟩:=NB (X:=X)
 obtain ⟨r2,h2,g2⟩:=NP hu
 exact ⟨_,CallR.or h1 h2,fun H F vs xs Q Qa hx h fin=>h.imp (fun h=>g1 H F vs xs Q Qa hx h fin) fun h=>g2 H F vs xs Q Qa hx h fin⟩
end
end DL
namespace DL
open PySem PySem.Spec L2
open PyProof.Rows hiding St
variable [Tbs] [Bas]
section
variable {X:Cx}
def dM (g g' : G2) (ta tb tc:XT):XT:=fun ρ Q=>dD g g' ta tb tc ρ fun b ρ1=>Q (.val (.pure (.bool b))) ρ1
def rgK (lst:Bool) (ρ : aM) (Q:Opd->aM->Prop):Option O->Prop
 | some (.pure (.int n))=>0≤n∧n≤1000000∧Q (.val (if lst=true then .lst (bV 0 n.toNat) else .pure (.tuple (bV 0 n.toNat)))) ρ
 | _=>False
def tRg (lst:Bool) (ta:XT):XT:=fun ρ Q=>ta ρ fun p ρ1=>rgK lst ρ1 Q (p.get ρ1)
def repS (x:Str) (k:Int):Str:=⟨(List.replicate k.toNat x.cps).foldl (· ++ ·) #[]⟩
def Gi:G2:=fun x y Q=>match x,y with
 | .pure (.str z), .pure (.int k)=>2≤k∧k≤10000∧1≤z.length∧z.length≤1000∧Q (.pure (.str (repS z k)))
 | _,_=>False
theorem WT:OpA X (binaryOp .Mult) Gi:=OpA.mk fun pins s σ H F v u x y a b Q Qa I rx ry hx hy h fin=>by
 unfold Gi at h
 split at h
 ·rename_i z k
  obtain ⟨h1,h2,h3,h4,h⟩:=h
  have e1:=RP.strE hx;have e2:=RP.intE hy;subst e1 e2
  obtain ⟨t,rfl⟩:=rx
  obtain ⟨t',rfl⟩:=ry
  have c1 : ¬ k<1:=by omega
  have c2:(k == 1 || z.length == 0)=false:=by simp;omega
  have hz:z.length * k.toNat≤1000 * 10000:=Nat.mul_le_mul h4 (by omega)
  refine PySem.P.mul_str (by simp;omega) (fun _ _ => ?_) (fun _ _ => ?_) ?_
  ·have : (1000:Int)≤(2 ^ 63 - 1) / k:=(Int.le_ediv_iff_mul_le (by omega)).mpr (by omega)
   omega
  ·exact short24 (by omega)
  ·rw [if_neg c1,if_neg (by rw [c2];decide)]
   refine ⟨?_,⟨.str (repS z k),H,I.tok _,⟨_,rfl⟩,fin.str h⟩⟩
   exact fits_reps (short24 (by omega))
 ·exact h.elim
def NQ:G2:=fun x y Q=>match x with
 | .pure (.str z)=>Gi (.pure (.str z)) y Q
 | x=>uv x y Q
theorem dN {z:Str} {y:O} {Q:O->Prop}:NQ (.pure (.str z)) y Q=Gi (.pure (.str z)) y Q:=rfl
theorem dO {i:Int} {y:O} {Q:O->Prop}:NQ (.pure (.int i)) y Q=uv (.pure (.int i)) y Q:=rfl
theorem dR {ts:List T} {y:O} {Q:O->Prop}:NQ (.lst ts) y Q=uv (.lst ts) y Q:=rfl
theorem WW:OpA X (binaryOp .Mult) NQ:=OpA.alt (g:=Gi) (g':=uv) WT Z9 fun x y Qa h=>by
 unfold NQ at h
 split at h
 ·exact .inl h
 ·exact .inr h
end
end DL
namespace DL
open PySem PySem.Spec L2
open PyProof.Rows hiding St
variable [Tbs] [Bas]
section
variable {X:Cx}
def dF (x:Str) (ρ : aM) (Q:Opd->aM->Prop):Option O->Prop
 | some (.pure (.str y))=>x.length≤16777216∧Q (.val (.pure (.str (Txt.stripChars x y)))) ρ
 | _=>False
def dG (tc:XT) (ρ : aM) (Q:Opd->aM->Prop):Option O->Prop
 | some (.pure (.str x))=>tc ρ fun q ρ2=>dF x ρ2 Q (q.get ρ2)
 | _=>False
def dU (te tc:XT):XT:=fun ρ Q=>te ρ fun p ρ1=>dG tc ρ1 Q (p.get ρ1)
end
end DL
namespace DL
open PySem PySem.Spec L2
open PyProof.Rows hiding St
variable [Tbs] [Bas]
def Ip:T->Option Key
 | .int i=>some (.inl i)
 | .str x=>some (.inr x)
 | _=>none
def NZ:List (T×T)->Option (List (Key×T))
 | []=>some []
 | (a,b) :: r=>match Ip a,NZ r with
  | some k,some l=>some ((k,b) :: l)
  | _,_=>none
def dcX:O->Option (List (Key×T))
 | .dct kts=>some kts
 | .pure (.dict l)=>NZ l
 | _=>none
def z7 (l:List (Key×T)) (k:Key):Option T:=(l.find? fun p=>decide (p.1=k)).map (·.2)
def WY (l:List (Key×T)) (k:Key) (t:T):List (Key×T) :=
 if (l.any fun p=>decide (p.1=k))=true then l.map (fun p=>if p.1=k then (p.1,t) else p) else l++[(k,t)]
def Bv (l more:List (Key×T)):List (Key×T):=more.foldl (fun acc p=>WY acc p.1 p.2) l
theorem Hn (k:Key):Ip (rD k)=some k:=by cases k<;>rfl
theorem Kz : ∀ l:List (Key×T),NZ (l.map fun p=>(rD p.1,p.2))=some l
 | []=>rfl
 | p :: r=>by rw [List.map_cons,NZ,Hn,Kz r]
section
variable {K:PySem.W.Frag} {H:Hp} {F:Addr->Prop}
abbrev PKV (K:PySem.W.Frag) (H:Hp) (F:Addr->Prop):List (Key×V)->List (Key×T)->Prop:=Paired (fun (p:Key×V) (q:Key×T)=>p.1=q.1∧RP K H F p.2 q.2)
theorem Nb : ∀ {kvs:List (Key×V)} {ts:List T} {l:List (Key×T)},RPs K H F (kvs.map (·.2)) ts->NZ (List.zipWith (fun (p:Key×V) (t:T)=>(rD p.1,t)) kvs ts)=some l->PKV K H F kvs l
 | [],ts,l,r,e=>by
  cases ts with
  | nil=>cases e;exact .nil
  | cons t ts=>cases e;exact .nil
 | p :: kvs, [],l,r,e=>by cases r
 | p :: kvs,t :: ts,l,r,e=>by
  rw [List.map_cons] at r
  cases r with
  | cons h r =>
   rw [List.zipWith_cons_cons,NZ,Hn] at e
   cases q:NZ (List.zipWith (fun (p:Key×V) (t:T)=>(rD p.1,t)) kvs ts) with
   | none=>rw [q] at e;cases e
   | some m =>
    rw [q] at e;cases e
    exact .cons ⟨rfl,h⟩ (Nb r q)
theorem RW.dc {v:V} {o:O} {l:List (Key×T)} (h:RW K H F v o) (e:dcX o=some l) : ∃ a kvs,v = .ref a∧Rd H a (.dK kvs)∧PKV K H F kvs l:=by
 unfold dcX at e
 split at e
 ·cases e
  obtain ⟨a,kvs,rfl,h1,h2⟩:=h
  exact ⟨a,kvs,rfl, .inl h1,h2⟩
 ·obtain ⟨a,kvs,ts,rfl,h1,h2,_,e2⟩:=RP.dctE h
  rw [e2] at e
  exact ⟨a,kvs,rfl,h1,Nb h2 e⟩
 ·cases e
theorem PKV.look {k:Key} : ∀ {kvs:List (Key×V)} {l:List (Key×T)},PKV K H F kvs l->match z7 l k with
  | some t => ∃ v,valV kvs k=some v∧RP K H F v t
  | none=>valV kvs k=none
 | _,_, .nil=>rfl
 | p :: kvs,q :: l, .cons h r=>by
  have ih:=PKV.look (k:=k) r
  unfold z7 at ih ⊢
  by_cases e:p.1=k
  ·rw [List.find?_cons,show decide (q.1=k)=true by rw [← h.1];exact decide_eq_true e,Option.map_some]
   exact ⟨p.2,valV_pos e,h.2⟩
  ·rw [List.find?_cons,show decide (q.1=k)=false by rw [← h.1];exact decide_eq_false e,valV_neg e]
   exact ih
theorem PKV.anyK {k:Key} : ∀ {kvs:List (Key×V)} {l:List (Key×T)},PKV K H F kvs l->(kvs.any fun p=>decide (p.1=k))=l.any fun p=>decide (p.1=k)
 | _,_, .nil=>rfl
 | _ :: _,_ :: _, .cons h r=>by rw [List.any_cons,List.any_cons,PKV.anyK r,h.1]
theorem PKV.mapK {k:Key} {v:V} {t:T} (g:RP K H F v t) : ∀ {kvs:List (Key×V)} {l:List (Key×T)},PKV K H F kvs l->PKV K H F (kvs.map fun kv=>if kv.1=k then (kv.1,v) else kv) (l.map fun p=>if p.1=k then (p.1,t) else p)
 | _,_, .nil => .nil
 | p :: _,q :: _, .cons h r=>by
  rw [List.map_cons,List.map_cons]
  refine .cons ?_ (PKV.mapK g r)
  by_cases e:p.1=k
  ·rw [if_pos e,if_pos (h.1▸e)];exact ⟨h.1,g⟩
  ·rw [if_neg e,if_neg (h.1▸e)];exact h
theorem PKV.put {k:Key} {v:V} {t:T} {kvs:List (Key×V)} {l:List (Key×T)} (r:PKV K H F kvs l) (g:RP K H F v t):PKV K H F (putK kvs k v) (WY l k t):=by
 unfold putK WY
 rw [r.anyK]
 split
 ·exact r.mapK g
 ·exact Paired.app r (.cons ⟨rfl,g⟩ .nil)
theorem PKV.merge : ∀ {more:List (Key×V)} {mt:List (Key×T)} {kvs:List (Key×V)} {l:List (Key×T)},PKV K H F more mt->PKV K H F kvs l->PKV K H F (mergeK kvs more) (Bv l mt)
 | _,_,_,_, .nil,r=>r
 | p :: more,q :: mt,kvs,l, .cons h m,r=>by
  have:=PKV.merge m (r.put (k:=p.1) h.2)
  unfold mergeK Bv at this ⊢
  rw [List.foldl_cons,List.foldl_cons, ← h.1]
  exact this
theorem Pg {v:V} {t:T} {k:Key} (h:RP K H F v t) (e:Ip t=some k):v=kV k:=by
 cases t with
 | int i=>cases e;exact h.intE
 | str x=>cases e;exact h.strE
 | _=>cases e
end
def Mi:G2:=fun x y Q=>match dcX x,y with
 | some l, .pure t=>match Ip t with
  | some k=>match z7 l k with
   | some t=>Q (.pure t)
   | none=>False
  | none=>False
 | _,_=>False
theorem sH {X:Cx} (hu:X.A.units+1<cLine):IxA X Mi:=by
 refine ⟨fun x y H Q => ∃ a v,x = .ref a∧DGet H a y (some v)∧Q v H, ?_,fun H F v u x y Q Qa hx hy h fin => ?_⟩
 ·intro value slice pins s σ H x y v u Q I rx ry h hs
  obtain ⟨a,z,rfl,g,q⟩:=h
  obtain rfl:v=Value.ref a:=rx
  exact tail_any (dict_typeIs I g) PySem.F.slot_dict_getitem.lookup (d_getItem hu I g ry fun w' s' I' rw'=>⟨z,H,I',rw',q⟩) hs
 ·unfold Mi at h
  split at h
  ·rename_i l t e
   split at h
   ·rename_i k ek
    obtain ⟨a,kvs,rfl,rd,pk⟩:=hx.dc e
    have lk:=pk.look (k:=k)
    split at h
    ·rename_i t' et
     rw [et] at lk
     obtain ⟨z,e1,e2⟩:=lk
     exact ⟨a,z,rfl, .inl ⟨kvs,k,rd,Pg hy ek,e1.symm⟩,fin.pure e2 h⟩
    ·exact h.elim
   ·exact h.elim
  ·exact h.elim
def gInD (neg:Bool):G2:=fun x y Q=>match dcX y,x with
 | some l, .pure t=>match Ip t with
  | some k=>Q (.pure (.bool (neg ^^ (z7 l k).isSome)))
  | none=>False
 | _,_=>False
theorem ZP {X:Cx} (hu:X.A.units+1<cLine) (neg:Bool):OpA X (compareOp (if neg=true then .NotIn else .In)) (gInD neg):=OpA.mk fun pins s σ H F v u x y a b Q Qa I rx ry hx hy h fin=>by
 unfold gInD at h
 split at h
 ·rename_i l t e
  split at h
  ·rename_i k ek
   obtain ⟨p,kvs,rfl,rd,pk⟩:=hy.dc e
   obtain rfl:b=Value.ref p:=ry
   have lk:=pk.look (k:=k)
   have g:DGet H p v (valV kvs k) := .inl ⟨kvs,k,rd,Pg hx ek,rfl⟩
   have hs:(valV kvs k).isSome=(z7 l k).isSome:=by
    cases q:z7 l k with
    | none=>rw [q] at lk;rw [lk];rfl
    | some t=>rw [q] at lk;obtain ⟨z,e1,_⟩:=lk;rw [e1];rfl
   cases neg with
   | false=>exact d_in hu I g rx fun s' I'=>⟨.bl (valV kvs k).isSome,H,I',rfl,by rw [hs];exact fin.bl (by simpa using h)⟩
   | true=>exact d_notIn hu I g rx fun s' I'=>⟨.bl (!(valV kvs k).isSome),H,I',rfl,by rw [hs];exact fin.bl (by simpa using h)⟩
  ·exact h.elim
 ·exact h.elim
def aAH:T->Option (Key×T)
 | .tuple [a,b]=>match Ip a with
  | some k=>some (k,b)
  | none=>none
 | _=>none
def z8:List T->Option (List (Key×T))
 | []=>some []
 | t :: r=>match aAH t,z8 r with
  | some p,some l=>some (p :: l)
  | _,_=>none
section
variable {K:PySem.W.Frag} {H:Hp} {F:Addr->Prop}
theorem U0 : ∀ {vs:List V} {ts:List T} {l:List (Key×T)},RPs K H F vs ts->z8 ts=some l -> ∃ (ps:List Addr) (kvs:List (Key×V)),vs=ps.map V.ref∧Paired (fun p (kv:Key×V)=>SqT K H p [kV kv.1,kv.2]) ps kvs∧PKV K H F kvs l
 | _,_,l, .nil,e=>by cases e;exact ⟨[], [],rfl, .nil, .nil⟩
 | v :: vs,t :: ts,l, .cons h r,e=>by
  rw [z8] at e
  split at e
  ·rename_i p m e1 e2
   cases e
   obtain ⟨ps,kvs,rfl,h1,h2⟩:=U0 r e2
   unfold aAH at e1
   split at e1
   ·rename_i a b
    split at e1
    ·rename_i k ek
     cases e1
     obtain ⟨q,us,rfl,sq,rr⟩:=h.tupE
     cases rr with
     | cons r1 rr =>
      cases rr with
      | cons r2 rr =>
       cases rr
       have:=Pg r1 ek
       subst this
       exact ⟨q :: ps,(k,_) :: kvs,rfl, .cons sq h1, .cons ⟨rfl,r2⟩ h2⟩
    ·cases e1
   ·cases e1
  ·cases e
end
theorem xC.dct {K:PySem.W.Frag} {H:Hp} {F:Addr->Prop} {Qa:O->Prop} {Q:VK} (f:xC K H F Qa Q) {p:Addr} {kvs:List (Key×V)} {l:List (Key×T)} (n:H p=none) (r:PKV K H F kvs l) (q:Qa (.dct l)):Q (.ref p) (upd H p (.dK kvs)):=by
 refine f _ (.dct l) [p] _ (fL.upd n) ⟨p,kvs,rfl,rfl,upd_same, ?_⟩ (fun a m=>by rw [List.mem_singleton.mp m];exact n) (by simp) q
 exact Paired.mapP r fun _ _ z=>⟨z.1,(z.2.grow fun a z=>z.imp (fun q=>q) fun m=>by rw [List.mem_singleton.mp m];exact n).ext (fL.upd n).ext⟩
def gM2S (f:Str->Str->Bool):GN:=fun os Q=>match os with
 | [.pure (.str x), .pure (.str y)]=>Q (.pure (.str (if f x y=true then y else x)))
 | _=>False
end DL
namespace DL
open PySem PySem.Spec L2
open PyProof.Rows hiding St
variable [Tbs] [Bas] {wk:Bool}
def klk {α : Type} (l:List (Key×α)) (k:Key):Option α:=(l.find? fun p=>decide (p.1=k)).map (·.2)
def U3 {α : Type}:List (Key×α)->Key->α->List (Key×α)
 | [],_,_=>[]
 | p :: r,k,y=>if p.1=k then (p.1,y) :: r else p :: U3 r k y
section
variable {K:PySem.W.Frag} {σ : St} {H H1:Hp} {F:Addr->Prop} {fp:Nat->List Addr} {ρ : aM} {v:V} {o o' : O} {j:Nat} {a:Addr} {u u' : HO} {A G:List Addr}
theorem RS.mutG (R:RS K σ H ρ fp G) (e : ρ[j]? = some (some o)) (hv : σ[j]? = some (some v)) (hf:a∈fp j) (hu:H a=some u) (mu:Mu (some u)) (r:RO K (L2.upd H a u') (Or1 (Fo fp) G) v o' (fp j)) :
  RS K σ (L2.upd H a u') (ρ.set j (some o')) fp G∧Ext H (Fo fp) (L2.upd H a u') (Fo fp):=by
 have hj:j<ρ.length:=(List.getElem?_eq_some_iff.mp e).1
 have ha:Fo fp a:=⟨j,hf⟩
 have x:Ext H (Fo fp) (L2.upd H a u') (Fo fp):=fW hu mu ha fun _ z=>z
 refine ⟨⟨⟨fun i w h => ?_,fun i h => ?_,R.dj,R.nd,R.gf,fun b m => ?_,by rw [List.length_set];exact R.len,x.tabs R.tb⟩,R.bs.trans (fW hu mu ⟨.inl ha,fun z=>R.gf a (R.g0 a z) ha⟩ fun _ z=>z),R.g0⟩,x⟩
 ·rw [aM.get_set] at h
  by_cases q:j=i
  ·subst q
   rw [if_pos rfl,if_pos hj] at h
   cases h
   exact ⟨v,hv,r⟩
  ·rw [if_neg q] at h
   obtain ⟨y,hy,r'⟩:=R.ex i w h
   refine ⟨y,hy,r'.imp (fun v t z=>(z.ext (x.addG G))) (fun b m w h _ => ?_) (fun v e z=>z.ext (x.addG G)) (fun v e z=>z.ext (x.addG G)) (fun a o u e=>x.frzs a o _ e) (fun v e z=>z.ext (x.addG G)) (fun _ _ q=>q.keepE x) (fun v e z=>z.ext (x.addG G))⟩
   rw [upd_ne]
   ·exact h
   ·rintro rfl
    exact q (R.dj j i b hf m)
 ·by_cases q:i=j
  ·subst q
   exact absurd (by rw [aM.get_set,if_pos rfl,if_pos hj]) (h o')
  ·refine R.non i fun o'' z=>h o'' ?_
   rw [aM.get_set,if_neg fun y=>q y.symm]
   exact z
 ·obtain ⟨w,h⟩:=R.gi b m
  by_cases q:b=a
  ·exact ⟨u',by rw [q];exact upd_same⟩
  ·exact ⟨w,by rw [upd_ne q];exact h⟩
theorem RDL.look {k:Key} {ts:List T} : ∀ {kvs:List (Key×V)} {kts:List (Key×List T)} {bs:List Addr},RDL K H F kvs kts bs->klk kts k=some ts -> ∃ b vs,valV kvs k=some (.ref b)∧b∈bs∧H b=some (.lst vs)∧RPs K H F vs ts
 | _,_,_, .nil,e=>by cases e
 | _,_,_, .cons (k:=k0) (b:=b) (vs:=vs) (ts:=ts0) (kvs:=kvs) h q r,e=>by
  unfold klk at e
  rw [List.find?_cons] at e
  by_cases c:k0=k
  ·rw [show decide (k0=k)=true from decide_eq_true c,Option.map_some] at e
   cases e
   exact ⟨b,vs,valV_pos (p:=(k0,V.ref b)) c,List.mem_cons_self,h,q⟩
  ·rw [show decide (k0=k)=false from decide_eq_false c] at e
   obtain ⟨b',vs',h1,h2,h3⟩:=RDL.look r e
   exact ⟨b',vs',by rw [valV_neg (p:=(k0,V.ref b)) c];exact h1,List.mem_cons_of_mem _ h2,h3⟩
theorem RDL.put {k:Key} {b:Addr} {vs' : List V} {ts' : List T} (w : ∀ vs ts,RPs K H F vs ts->RPs K (upd H b (.lst vs')) F vs ts) (g:RPs K (upd H b (.lst vs')) F vs' ts') :
  ∀ {kvs:List (Key×V)} {kts:List (Key×List T)} {bs:List Addr},RDL K H F kvs kts bs->valV kvs k=some (.ref b)->bs.Nodup->RDL K (upd H b (.lst vs')) F kvs (U3 kts k ts') bs
 | _,_,_, .nil,e,_=>by cases e
 | _,_,_, .cons (k:=k0) (b:=b0) (vs:=vs) (ts:=ts0) (kvs:=kvs) (kts:=kts) (bs:=bs) h q r,e,nd=>by
  obtain ⟨n1,n2⟩:=List.nodup_cons.mp nd
  rw [U3]
  by_cases c:k0=k
  ·rw [valV_pos (p:=(k0,V.ref b0)) c] at e
   injection e with e;injection e with e;subst e
   rw [if_pos c]
   exact .cons upd_same g (r.imp w fun a m us z=>by
    have ne:a≠b0:=fun y=>n1 (by rw [← y];exact m)
    rw [upd_ne ne];exact z)
  ·rw [valV_neg (p:=(k0,V.ref b0)) c] at e
   rw [if_neg c]
   refine .cons ?_ (w _ _ q) (RDL.put w g r e n2)
   rw [upd_ne]
   ·exact h
   ·rintro rfl
    exact n1 (RDL.val_mem r e)
where RDL.val_mem {k:Key} {b:Addr} : ∀ {kvs:List (Key×V)} {kts:List (Key×List T)} {bs:List Addr},RDL K H F kvs kts bs->valV kvs k=some (.ref b)->b∈bs
 | _,_,_, .nil,e=>by cases e
 | _,_,_, .cons (k:=k0) (b:=b0) (kvs:=kvs) h q r,e=>by
  by_cases c:k0=k
  ·rw [valV_pos (p:=(k0,V.ref b0)) c] at e
   injection e with e;injection e with e;subst e
   exact List.mem_cons_self
  ·rw [valV_neg (p:=(k0,V.ref b0)) c] at e
   exact List.mem_cons_of_mem _ (RDL.val_mem r e)
theorem Ph {k:Key} (h:RP K H F v (rD k)):v=kV k:=by cases k with
 | inl i=>exact h.intE
 | inr x=>exact h.strE
end
def LC (j i m:Nat):XT:=fun ρ Q => ∃ kts k y ts,ρ[j]? = some (some (.dcl kts))∧ρ[i]? = some (some (.pure (rD k)))∧ρ[m]? = some (some (.pure y))∧klk kts k=some ts∧ts.length<16777216 ∧
 Q (.val (.pure .none)) (ρ.set j (some (.dcl (U3 kts k (ts++[y])))))
section
variable {X:Cx} {x y z:Str} {px py pz spos apos cpos:Pos}
theorem Dd (j i m:Nat) (hu:X.A.units+1<cLine) (hN:X.N[j]? = some x) (hNi:X.N[i]? = some y) (hNm:X.N[m]? = some z)
  (hv:Vis X.env.scope x:=by first | exact Or.inl rfl | exact Or.inr (Or.inl rfl) | exact Or.inr (Or.inr rfl)) (hd:(x == ("__debug__" : Str))=false:=by decide) (hcd:(x == ("__classdict__" : Str))=false:=by decide)
  (hvi:Vis X.env.scope y:=by first | exact Or.inl rfl | exact Or.inr (Or.inl rfl) | exact Or.inr (Or.inr rfl)) (hdi:(y == ("__debug__" : Str))=false:=by decide) (hcdi:(y == ("__classdict__" : Str))=false:=by decide)
  (hvm:Vis X.env.scope z:=by first | exact Or.inl rfl | exact Or.inr (Or.inl rfl) | exact Or.inr (Or.inr rfl)) (hdm:(z == ("__debug__" : Str))=false:=by decide) (hcdm:(z == ("__classdict__" : Str))=false:=by decide)
  (hbase:attributeBase (.Subscript (.Name x px) (.Name y py) spos) "append" X.env (eval (.Subscript (.Name x px) (.Name y py) spos) X.env)=eval (.Subscript (.Name x px) (.Name y py) spos) X.env:=by rfl)
  (hfew:((backTo cpos (starEach [.Name z pz] X.env)).all (fun x => !x.1) && (backToKw cpos (keywordEach [] X.env)).all (fun x=>x.1.isSome)
   && decide (([.Name z pz]:List Expr).length+([]:List Keyword).length+(if ([]:List Keyword).isEmpty then 0 else 1)<30))=true:=by rfl)
  (hline:(apos.endLine == cpos.line)=true:=by rfl) (hs:starEach [.Name z pz] X.env=(false,eval (.Name z pz) X.env) :: starEach [] X.env:=by rfl) (hplain:(backTo cpos (starEach [] X.env)).any (·.1)=false:=by rfl)
  (hsl:NoSl (.Name y py):=by intro _ _;rfl) :
  EX X (.Call (.Attribute (.Subscript (.Name x px) (.Name y py) spos) "append" apos) [.Name z pz] [] cpos) (LC j i m):=by
 refine ⟨PE.imp (pe_bm PySem.F.plainAttrs_list PySem.F.slot_list_append PySem.F.type_list_append mt_append (pe_dget hu (pe_var hN hv hd hcd) (pe_var hNi hvi hdi hcdi) hsl) (pa_cons (pe_var hNm hvm hdm hcdm) pa_nil hs) hbase hfew hline hs hplain) ?_⟩
 rintro σ H Q ⟨ρ,fp,G,Qa,R,⟨kts,k,yt,ts,e1,e2,e3,hk,hz,h⟩,fin⟩
 obtain ⟨vj,hvj,d,kvs,bs,rfl,hf,hd0,rdl⟩:=R.ex j _ e1
 obtain ⟨vi,hvi',_,ri⟩:=R.ex i _ e2
 obtain ⟨vm,hvm',_,rm⟩:=R.ex m _ e3
 have:=Ph ri;subst this
 obtain ⟨b,vs,hb1,hb2,hb3,hb4⟩:=rdl.look hk
 have nd:=R.nd j
 rw [hf] at nd
 obtain ⟨nd1,nd2⟩:=List.nodup_cons.mp nd
 have hbf:b∈fp j:=by rw [hf];exact List.mem_cons_of_mem _ hb2
 have ux:Ext H (Fo fp) (upd H b (.lst (vs++[vm]))) (Fo fp):=fW hb3 trivial ⟨j,hbf⟩ fun _ z=>z
 obtain ⟨R3,x3⟩:=R.mutG (u' := .lst (vs++[vm])) (o' := .dcl (U3 kts k (ts++[yt]))) e1 hvj hbf hb3 trivial
  ⟨d,kvs,bs,rfl,hf,by
    have ne:d≠b:=fun y=>nd1 (by rw [y];exact hb2)
    rw [upd_ne ne];exact hd0,RDL.put (fun _ _ z=>RPs.ext (ux.addG G) z) (RPs.ext (ux.addG G) (Paired.app hb4 (.cons rm .nil))) rdl hb1 nd2⟩
 refine ⟨.ref d,hvj,kV k,hvi',d, .ref b,rfl,DGet.k hd0 |> (fun g=>by rw [hb1] at g;exact g), .inl ⟨rfl,_,SqL.of hb3⟩,vm,hvm', ?_⟩
 refine ⟨b,vs,vm,rfl,rfl,hb3,by rw [Paired.len hb4,sizeLine_eq];exact hz, ?_⟩
 exact fin .non (.val (.pure .none)) [] _ _ fp R3 (lO RP.non) (x3.weak (fun _ z=>z) fun a z=>z.elim (fun q=>q) fun m=>(List.not_mem_nil m).elim) h
end
section
variable {K:PySem.W.Frag} {σ : St} {H H' : Hp} {F F' : Addr->Prop} {fp:Nat->List Addr} {ρ : aM} {v:V} {t:T} {o:O} {A G:List Addr} {d:Addr} {u:HO} {od:Obj}
def RdK (H H' : Hp):Prop:=(∀ a xs,Rd H a (.tup xs)->Rd H' a (.tup xs))∧(∀ a xs,Rd H a (.lst xs)->Rd H' a (.lst xs))∧(∀ a xs,Rd H a (.dK xs)->Rd H' a (.dK xs))∧(∀ a xs,SqP H a xs->SqP H' a xs)∧(∀ a φ,H a=some (.ext φ)->H' a=some (.ext φ))∧(∀ a fs,H a=some (.xd fs)->H' a=some (.xd fs)) ∧ ∀ a o u,H a=some (.frz o (.frz o u))->H' a=some (.frz o (.frz o u))
mutual
theorem RV.rdk (w:RdK H H') : ∀ {v:V} {t:T} {as:List Addr},RV K H v t as->RV K H' v t as
 | _,_,_, .non => .non
 | _,_,_, .bl b => .bl b
 | _,_,_, .int i => .int i
 | _,_,_, .str z => .str z
 | _,_,_, .tup h r => .tup (w.2.2.2.1 _ _ h) (RVs.rdk w r)
 | _,_,_, .lst h r => .lst (w.2.1 _ _ h) (RVs.rdk w r)
 | _,_,_, .lstK h1 h2 h3 h4 h5 h6 r => .lstK h1 h2 h3 h4 h5 h6 (RVs.rdk w r)
 | _,_,_, .dct h r => .dct (w.2.2.1 _ _ h) (RVs.rdk w r)
theorem RVs.rdk (w:RdK H H') : ∀ {vs:List V} {ts:List T} {as:List Addr},RVs K H vs ts as->RVs K H' vs ts as
 | _,_,_, .nil => .nil
 | _,_,_, .cons h r => .cons (RV.rdk w h) (RVs.rdk w r)
end
theorem RP.rdk (w:RdK H H') (h:RP K H F v t):RP K H' F v t:=let ⟨as,r,n⟩:=h;⟨as,r.rdk w,n⟩
theorem RX.rdk {e:Exc} (w:RdK H H') (h:RX K H F v e):RX K H' F v e:=by
 obtain ⟨a,dd,e1,e2,n,m,m0,q⟩:=h
 refine ⟨a,dd,e1,w.2.2.2.2.1 _ _ e2,n,m,m0,fun f t ef => ?_⟩
 obtain ⟨x,fs,u,x1,x2,nx,l,r⟩:=q f t ef
 exact ⟨x,fs,u,x1,w.2.2.2.2.2.1 _ _ x2,nx,l,r.rdk w⟩
theorem RK.rdk {e:Thk} (w:RdK H H') (h:RK K H F v e):RK K H' F v e:=by
 obtain ⟨e1,e2,l,q⟩:=h
 exact ⟨e1,w.2.2.2.2.1 _ _ e2,l,fun i t ei=>let ⟨u,h1,h2⟩:=q i t ei;⟨u,h1,h2.rdk w⟩⟩
theorem RDz.rdk {l:List (NestedKey×T)} (w:RdK H H') (h:RDz K H F v l):RDz K H' F v l:=by
 obtain ⟨a,es,ep,e1,e2,n,r,nd⟩:=h
 exact ⟨a,es,ep,e1,w.2.2.2.2.1 _ _ e2,n,Paired.mapP r fun p q z=>⟨z.1,z.2.1,let ⟨b,e,y⟩:=z.2.2.1;⟨b,e,y.rdk w⟩,let ⟨v,e,y⟩:=z.2.2.2;⟨v,e,y.rdk w⟩⟩,nd⟩
theorem RSz.rdk {l:List NestedKey} (w:RdK H H') (h:RSz K H F v l):RSz K H' F v l:=by
 obtain ⟨a,φ,L,e1,e2,n,p,m,r⟩:=h
 exact ⟨a,φ,L,e1,w.2.2.2.2.1 _ _ e2,n,p,m,fun q z=>⟨(r q z).1.rdk w,(r q z).2⟩⟩
theorem RS.rdk (w:RdK H H') (ho : ∀ a,Fo fp a -> ∀ u,H a=some u->H' a=some u) (hg : ∀ a u,H a=some u -> ∃ u',H' a=some u') (tb:LamX.Tabs Tbs.T H')
  (bs:Ext Bas.H0 Bas.F0 H' (fun a=>Or1 (Fo fp) G a∧a∉Bas.G0)) (R:RS K σ H ρ fp G):RS K σ H' ρ fp G :=
 ⟨⟨fun i o e=>let ⟨v,h,r⟩:=R.ex i o e;⟨v,h,r.imp (fun _ _ q=>q.rdk w) (fun a m u e _=>ho a ⟨i,m⟩ u e) (fun _ _ q=>q.rdk w) (fun _ _ q=>q.rdk w) w.2.2.2.2.2.2 (fun _ _ q=>q.rdk w) w.2.2.2.1 (fun _ _ q=>q.rdk w)⟩,R.non,R.dj,R.nd,R.gf,fun a m=>let ⟨u,e⟩:=R.gi a m;hg a u e,R.len,tb⟩,bs,R.g0⟩
theorem Ext.chg {H0:Hp} {F0:Addr->Prop} {w:HO} (x:Ext H0 F0 H F) (kd:F0 d∨H0 d=none) (nt : ∀ xs,H d≠some (.tup xs)) (nf : ∀ o u,H0 d≠some (.frz o u)) (ne : ∀ φ,H d≠some (.ext φ)) (tb:LamX.Tabs Tbs.T (upd H d w)):Ext H0 F0 (upd H d w) F where
 keep a o e n t:=by
  have q:a≠d:=fun q=>by
   subst q
   rcases kd with k | k
   ·exact n k
   ·rw [k] at e;cases e
  rw [upd_ne q];exact x.keep a o e n t
 tups a xs e:=by
  have h:=x.tups a xs e
  have q:a≠d:=fun q=>nt xs (q▸h)
  rw [upd_ne q];exact h
 frzs a o u e:=by
  have q:a≠d:=fun q=>nf o u (q▸e)
  rw [upd_ne q];exact x.frzs a o u e
 new:=x.new
 dom a e:=by
  by_cases q:a=d
  ·subst q;rw [upd_same] at e;cases e
  ·rw [upd_ne q] at e;exact x.dom a e
 tabs _:=tb
 exts a φ e m:=by
  have h:=x.exts a φ e m
  have q:a≠d:=fun q=>ne φ (q▸h)
  rw [upd_ne q];exact h
theorem Wb (hd:H d=some u) (mu:Mu (some u)) (ne : ∀ φ,u ≠ .ext φ:=by (intro φ e;cases e)):RdK H (upd H d (.frz od u)):=by
 have key : ∀ a x,(∀ o y,x ≠ .frz o y)->Rd H a x->Rd (upd H d (.frz od u)) a x:=fun a x nx h=>by
  by_cases q:a=d
  ·subst q
   rcases h with h | ⟨o,h⟩
   ·rw [hd] at h;cases h;exact .inr ⟨od,upd_same⟩
   ·rw [hd] at h;cases h;exact mu.elim
  ·rcases h with h | ⟨o,h⟩
   ·exact .inl (by rw [upd_ne q];exact h)
   ·exact .inr ⟨o,by rw [upd_ne q];exact h⟩
 have off : ∀ a x, ¬ Mu (some x)->H a=some x->upd H d (.frz od u) a=some x:=fun a x nm h=>by
  have q:a≠d:=fun q=>by subst q;rw [hd] at h;cases h;exact nm mu
  rw [upd_ne q];exact h
 exact ⟨fun a xs=>key a _ (fun _ _ e=>nomatch e),fun a xs=>key a _ (fun _ _ e=>nomatch e),fun a xs=>key a _ (fun _ _ e=>nomatch e),
  fun a xs ⟨o,h,r⟩=>⟨o,off a _ (fun z=>z) h,r⟩,fun a φ h=>(by rw [upd_ne fun q=>ne φ (by rw [q,hd] at h;exact Option.some.inj h)];exact h),(fun a fs=>off a _ fun z=>z),fun a o w h=>(by rw [upd_ne fun q=>by rw [q,hd] at h;cases h;exact mu.elim];exact h)⟩
theorem jP (hd:H d=some (.frz od u)) (mu:Mu (some u)):RdK H (upd H d u):=by
 have key : ∀ a x,(∀ o y,x ≠ .frz o y)->Rd H a x->Rd (upd H d u) a x:=fun a x nx h=>by
  by_cases q:a=d
  ·subst q
   rcases h with h | ⟨o,h⟩
   ·rw [hd] at h;injection h with h;exact absurd h.symm (nx _ _)
   ·rw [hd] at h;injection h with h;injection h with h1 h2;subst h2;exact .inl upd_same
  ·rcases h with h | ⟨o,h⟩
   ·exact .inl (by rw [upd_ne q];exact h)
   ·exact .inr ⟨o,by rw [upd_ne q];exact h⟩
 have off : ∀ a x,x ≠ .frz od u->H a=some x->upd H d u a=some x:=fun a x nx h=>by
  have q:a≠d:=fun q=>by subst q;rw [hd] at h;exact nx (Option.some.inj h).symm
  rw [upd_ne q];exact h
 refine ⟨fun a xs=>key a _ (fun _ _ e=>nomatch e),fun a xs=>key a _ (fun _ _ e=>nomatch e),fun a xs=>key a _ (fun _ _ e=>nomatch e),
  fun a xs ⟨o,h,r⟩=>⟨o,off a _ (fun e => ?_) h,r⟩,fun a φ h=>off a (.ext φ) (fun e=>nomatch e) h,(fun a fs h=>off a (.xd fs) (fun e=>nomatch e) h),fun a o w h=>off a _ (fun e => ?_) h⟩
 all_goals
  injection e with e1 e2
  rw [← e2] at mu
  exact mu
theorem LK {a:Addr} {w w' : HO} (h:H a=some w) : ∃ w'',upd H d w' a=some w'':=by
 by_cases q:a=d
 ·exact ⟨w',by rw [q];exact upd_same⟩
 ·exact ⟨w,by rw [upd_ne q];exact h⟩
theorem Ir {a:Addr} {w w' : HO} (n:a≠d) (h:H a=some w):upd H d w' a=some w:=by rw [upd_ne n];exact h
def dctO:O->Option (List (Key×T))
 | .dct l=>some l
 | .dcl l=>some (l.map fun p=>(p.1, .list p.2))
 | _=>none
def Vt (l:List (Key×T)):T := .dict (l.map fun p=>(rD p.1,p.2))
def LQ (p:Key×T):T := .tuple [rD p.1,p.2]
theorem Rg {l:List (Key×T)} (e:dctO o=some l):o.alias = .pure (Vt l):=by
 cases o with
 | dct k=>cases e;rfl
 | dcl k=>cases e;unfold Vt O.alias;rw [List.map_map];rfl
 | _=>cases e
theorem Wc {F:Addr->Prop} {l:List (Key×T)} (e:dctO o=some l) (r:RO K H F v o A) : ∃ d kvs,v = .ref d∧d∈A∧H d=some (.dK kvs):=by
 cases o with
 | dct k=>obtain ⟨a,kvs,rfl,rfl,h,_⟩:=r;exact ⟨a,kvs,rfl,List.mem_singleton.mpr rfl,h⟩
 | dcl k=>obtain ⟨a,kvs,bs,rfl,rfl,h,_⟩:=r;exact ⟨a,kvs,rfl,List.mem_cons_self,h⟩
 | _=>cases e
theorem RP.dctKV {l:List (Key×T)} (h:RP K H F v (Vt l)) : ∃ a kvs,v = .ref a∧Rd H a (.dK kvs)∧PKV K H F kvs l:=by
 obtain ⟨a,kvs,ts,rfl,h1,h2,_,e2⟩:=RP.dctE h
 refine ⟨a,kvs,rfl,h1,Nb h2 ?_⟩
 rw [← e2]
 exact Kz l
theorem U4 {kvs:List (Key×V)} {l:List (Key×T)} (hd:H d=some (.frz od (.dK kvs))) (r:PKV K H (Or1 F G) kvs l):JOk false K (Iti d od kvs) (l.map LQ) H F G:=by
 intro H' F' x
 have h':=x.frzs d od _ hd
 have r' : PKV K H' (Or1 F' G) kvs l:=Paired.mapP r fun _ _ z=>⟨z.1,z.2.ext (x.addG G)⟩
 refine ⟨fun i t e => ?_,⟨h',by rw [List.length_map,Paired.len r'];exact Nat.le_refl _⟩⟩
 rw [List.getElem?_map] at e
 obtain ⟨p,e1,rfl⟩:=Option.map_eq_some_iff.mp e
 obtain ⟨q,e2,r2⟩:=Paired.at r' e1
 refine ⟨⟨h',(List.getElem?_eq_some_iff.mp e2).1⟩,fun y H'' z => ?_⟩
 obtain ⟨T0,k,w,e3,rfl,hn,rfl⟩:=z
 rw [e2] at e3;cases e3
 obtain ⟨rk,rv⟩:=r2
 dsimp only at rk rv
 subst rk
 refine ⟨fL.upd hn,RY.newTup hn (.cons ?_ (.cons rv .nil))⟩
 cases p.1 with
 | inl i=>exact RP.int i
 | inr x=>exact RP.str x
end
def ti0 (ρ0:aM) (ts:List T):IT:=fun ρ Q=>ρ=ρ0∧Q ts ρ
def aAI (j:Nat) (Q:List (Key×T)->aM->Prop) (ρ : aM):Prop := ∃ o l,ρ[j]? = some (some o)∧dctO o=some l∧Q l (ρ.set j (some (.pure (Vt l))))
def Ho (j:Nat) (g:GT) (tt:BT) (te:XT) (vs:List Nat):XT:=fun ρ Q=>aAI j (fun l ρ1=>l.length≤16777216∧iQ g tt te vs (l.map LQ) [] (dw ρ1 vs) fun acc ρ2=>Q (.val (.lst acc)) ρ2) ρ
theorem Hq {K:PySem.W.Frag} {σ : St} {H:Hp} {ρ : aM} {fp:Nat->List Addr} {G:List Addr} {Q:VK} {j:Nat} {o:O} {l:List (Key×T)} {t:XT} {Qa:Opd->aM->Prop}
  (R:RS K σ H ρ fp G) (e : ρ[j]? = some (some o)) (el:dctO o=some l) (h:t (ρ.set j (some (.pure (Vt l)))) Qa)
  (fin : ∀ v p A H' ρ' fp',RS K σ H' ρ' fp' (A++G)->ROp K σ H' fp' ρ' G v p A->Ext H (Fo fp) H' (Or1 (Fo fp') A)->Qa p ρ'->Q v H') :
  ∃ d u kvs,u=HO.dK kvs∧H d=some u∧Mu (some u)∧σ[j]? = some (some (.ref d)) ∧ ∀ od,LX K t σ (upd H d (.frz od u)) (fun v H'=>H' d=some (.frz od u)∧Q v (upd H' d u)):=by
 obtain ⟨v,hv,r⟩:=R.ex j o e
 obtain ⟨d,kvs,rfl,hd,hk⟩:=Wc el r
 obtain ⟨R1,q1⟩:=R.freeze e
 rw [Rg el] at R1
 have nd : ¬ Fo (bz fp j []) d:=fun ⟨i,m⟩=>by
  by_cases q:i=j
  ·subst q;rw [eX] at m;cases m
  ·rw [bY q] at m;exact q (R.dj i j d m hd)
 have nG:d∉G:=fun m=>R.gf d m ⟨j,hd⟩
 have kd:=R.bs.new d ⟨.inl ⟨j,hd⟩,fun m=>nG (R.g0 d m)⟩
 have nf : ∀ o u,Bas.H0 d≠some (.frz o u):=fun o u z=>by
  have:=R.bs.frzs d o u z
  rw [hk] at this;cases this
 refine ⟨d, .dK kvs,kvs,rfl,hk,trivial,hv,fun od => ?_⟩
 have R2:RS K σ (upd H d (.frz od (.dK kvs))) (ρ.set j (some (.pure (Vt l)))) (bz fp j []) G :=
  R1.rdk (Wb hk trivial) (fun a z u h=>Ir (fun q=>nd (q▸z)) h) (fun a u h=>LK h) (Tabs.upd R.tb hk trivial) (R1.bs.chg kd (fun xs z=>by rw [hk] at z;cases z) nf (fun φ z=>by rw [hk] at z;cases z) (Tabs.upd R.tb hk trivial))
 refine ⟨_,_,G,Qa,R2,h,fun v p A H' ρ' fp' R3 r3 x3 h3 => ?_⟩
 have hd3:H' d=some (.frz od (.dK kvs)):=x3.frzs d od _ upd_same
 have nd3 : ¬ Or1 (Fo fp') A d:=fun z=>(x3.new d z).elim nd fun q=>by rw [upd_same] at q;cases q
 have tb3:LamX.Tabs Tbs.T (upd H' d (.dK kvs)):=Tabs.updN R3.tb hd3 (fun _ e=>nomatch e) fun _ _=>Vx
 refine ⟨hd3,fin v p A _ ρ' fp' (R3.rdk (jP hd3 trivial) (fun a z u h=>Ir (fun q=>nd3 (.inl (q▸z))) h) (fun a u h=>LK h) tb3 (R3.bs.chg kd (fun xs z=>by rw [hd3] at z;cases z) nf (fun φ z=>by rw [hd3] at z;cases z) tb3)) ?_ ?_ h3⟩
 ·cases p with
  | slot i=>exact r3
  | val o=>exact ⟨r3.1.imp (fun _ _ q=>q.rdk (jP hd3 trivial)) (fun a m u h _=>Ir (fun q=>nd3 (.inr (q▸m))) h) (fun _ _ q=>q.rdk (jP hd3 trivial)) (fun _ _ q=>q.rdk (jP hd3 trivial)) (jP hd3 trivial).2.2.2.2.2.2 (fun _ _ q=>q.rdk (jP hd3 trivial)) (jP hd3 trivial).2.2.2.1 (fun _ _ q=>q.rdk (jP hd3 trivial)),r3.2⟩
 ·refine ⟨fun a w h n t => ?_,fun a xs h => ?_,fun a w w' h => ?_,fun a z => ?_,fun a h => ?_,fun _=>tb3,fun a φ h m=>(by rw [upd_ne fun q=>by rw [q,hk] at h;cases h];exact x3.exts a φ (by rw [upd_ne fun q=>by rw [q,hk] at h;cases h];exact h) m)⟩
  ·have ne:a≠d:=fun q=>n (q▸⟨j,hd⟩)
   rw [upd_ne ne]
   refine x3.keep a w (by rw [upd_ne ne];exact h) (fun z=>n ?_) t
   exact z.set.elim (fun q=>q) fun m=>(List.not_mem_nil m).elim
  ·have ne:a≠d:=fun q=>by rw [q,hk] at h;cases h
   rw [upd_ne ne]
   exact x3.tups a xs (by rw [upd_ne ne];exact h)
  ·have ne:a≠d:=fun q=>by rw [q,hk] at h;cases h
   rw [upd_ne ne]
   exact x3.frzs a w w' (by rw [upd_ne ne];exact h)
  ·rcases x3.new a z with q | q
   ·exact .inl (q.set.elim (fun q=>q) fun m=>(List.not_mem_nil m).elim)
   ·by_cases c:a=d
    ·rw [c,upd_same] at q;cases q
    ·rw [upd_ne c] at q;exact .inr q
  ·by_cases c:a=d
   ·rw [c,upd_same] at h;cases h
   ·rw [upd_ne c] at h
    have:=x3.dom a h
    rw [upd_ne c] at this;exact this
section
variable {X:Cx} {elt:Expr} {elts:List Expr} {kk:Nat} {tpos px apos cpos:Pos} {x:Str} {ifs:List Expr} {scope:Scope} {own:List (Str×Nat)} {pos:Pos} {g:GT} {tt:BT} {te:XT}
theorem Pj {K:PySem.W.Frag} {σ : St} {H:Hp} {R:It->Hp->Prop} {j:Nat} {d:Addr} {od:Obj} {kvs:List (Key×V)} {ρ0:aM} {l:List (Key×T)} (hv : σ[j]? = some (some (.ref d))) (hd:H d=some (.frz od (.dK kvs)))
  (e : ρ0[j]? = some (some (.pure (Vt l)))) (hl:l.length≤16777216) (h:LI false K (ti0 ρ0 (l.map LQ)) σ H R):iItems (tVar j) σ H R:=by
 obtain ⟨ρ,fp,G,Qa,R0,⟨rfl,h⟩,fin⟩:=h
 refine ⟨.ref d,hv,d,od,kvs,rfl,hd, ?_⟩
 obtain ⟨v,hv',_,rp⟩:=R0.ex j _ e
 rw [hv] at hv'; cases hv'
 obtain ⟨a,kvs',ea,rd,pk⟩:=rp.dctKV
 cases ea
 have : kvs'=kvs:=by
  rcases rd with rd | ⟨o,rd⟩
  ·rw [hd] at rd;cases rd
  ·rw [hd] at rd;cases rd;rfl
 subst this
 exact fin _ _ H ρ fp R0 (U4 hd pk) (by rw [List.length_map,sizeLine_eq];exact hl) Ext.refl h
theorem Rh (j:Nat) (hc:X.calm=true) (hN:X.N.Nodup) (hj:X.N[j]? = some x) (ok:BlkOk X.N X.env.scope scope own)
  (hg : ∀ (s:Shared) (H:Hp) (C:Addr) (cl:List (Str×Addr)) (fp:List Addr),GX false (X.blk s H scope (compEnvC scope cl C X.env) fp) (fun j => !(own.map (·.2)).contains j) (.Tuple elts kk tpos) g)
  (ht : ∀ (s:Shared) (H:Hp) (C:Addr) (cl:List (Str×Addr)) (fp:List Addr),BXs (X.blk s H scope (compEnvC scope cl C X.env) fp) ifs tt)
  (he : ∀ (s:Shared) (H:Hp) (C:Addr) (cl:List (Str×Addr)) (fp:List Addr),EX (X.blk s H scope (compEnvC scope cl C X.env) fp) elt te)
  (hv:Vis X.env.scope x:=by first | exact Or.inl rfl | exact Or.inr (Or.inl rfl) | exact Or.inr (Or.inr rfl)) (hd:(x == ("__debug__" : Str))=false:=by decide) (hcd:(x == ("__classdict__" : Str))=false:=by decide)
  (hbase:attributeBase (.Name x px) "items" X.env (eval (.Name x px) X.env)=eval (.Name x px) X.env:=by rfl) (hline:(apos.endLine == cpos.line)=true:=by rfl)
  (hs : ∀ y,foldedSetIterable (.Call (.Attribute (.Name x px) "items" apos) [] [] cpos) X.env y=pure y:=by intro _;rfl) :
  EX X (.ListComp elt [⟨.Tuple elts kk tpos, .Call (.Attribute (.Name x px) "items" apos) [] [] cpos,ifs,0⟩] scope pos) (Ho j g tt te (own.map (·.2))):=by
 refine ⟨PE.imp (pe_lock (pe_lc (te:=LX X.K te) (tt:=LT X.K tt) (g:=LG false X.K _ g) hc hN (pi_items (pe_var hj hv hd hcd) hbase hline) ok (fun s H C cl fp=>(hg s H C cl fp).pg) (fun s H C cl fp=>(ht s H C cl fp).pts) (fun s H C cl fp=>(he s H C cl fp).pe) hs)) ?_⟩
 rintro σ H Q ⟨ρ,fp,G,Qa,R,⟨o,l,e1,e2,hl,h⟩,fin⟩
 obtain ⟨d,u,kvs,eu,h1,h2,h3,h4⟩:=Hq (t:=eZ (ti0 (ρ.set j (some (.pure (Vt l)))) (l.map LQ)) g tt te (own.map (·.2))) R e1 e2 ⟨rfl,h⟩ fin
 subst eu
 refine ⟨d,_,h1,h2,fun od => ?_⟩
 have:=Yz (wk:=false) (h4 od)
 exact Pj h3 upd_same (List.getElem?_set_self (List.getElem?_eq_some_iff.mp e1).1) hl this
end
end DL
namespace DL
open PySem PySem.Spec L2
open PyProof.Rows hiding St
variable [Tbs] [Bas] {wk:Bool}
def Bw (g:GT) (tt:BT) (tk tv:XT) (vs:List Nat):List T->List (Key×T)->aM->(List (Key×T)->aM->Prop)->Prop
 | [],acc,ρ,Q=>Q acc ρ
 | t :: ts,acc,ρ,Q=>g t ρ fun ρ1=>tt ρ1 fun b ρ2=>if b=true then tk ρ2 fun p ρ3 => ∃ k,p.get ρ3=some (.pure (rD k))∧tv ρ3 fun q ρ4=>fV q ρ4 fun y ρ5=>Bw g tt tk tv vs ts (WY acc k y) (dw ρ5 vs) Q
   else Bw g tt tk tv vs ts acc (dw ρ2 vs) Q
def Hr (ti:IT) (g:GT) (tt:BT) (tk tv:XT) (vs:List Nat):XT:=fun ρ Q=>ti ρ fun ts ρ1=>Bw g tt tk tv vs ts [] (dw ρ1 vs) fun acc ρ2=>Q (.val (.dct acc)) ρ2
theorem PKV.ext {K:PySem.W.Frag} {H H' : Hp} {F F' : Addr->Prop} {kvs:List (Key×V)} {l:List (Key×T)} (x:Ext H F H' F') (r:PKV K H F kvs l):PKV K H' F' kvs l:=Paired.mapP r fun _ _ z=>⟨z.1,z.2.ext x⟩
theorem PKV.weak {K:PySem.W.Frag} {H:Hp} {F F' : Addr->Prop} {kvs:List (Key×V)} {l:List (Key×T)} (r:PKV K H F kvs l) (w : ∀ a,F' a->F a):PKV K H F' kvs l:=Paired.mapP r fun _ _ z=>⟨z.1,z.2.weak w⟩
theorem Wd (l:List (Key×T)) (k:Key) (t:T):(WY l k t).length≤l.length+1:=by
 unfold WY
 split
 ·rw [List.length_map];omega
 ·rw [List.length_append];simp
theorem aAJ {K:PySem.W.Frag} {ti:IT} {g:GT} {tt:BT} {tk tv:XT} {vs:List Nat} {σ : St} {H:Hp} {Q:VK} (h:LX K (Hr ti g tt tk tv vs) σ H Q):tDc (LI wk K ti) (LG wk K (fun j => !vs.contains j) g) (LT K tt) (LX K tk) (LX K tv) vs σ H Q:=by
 obtain ⟨ρ,fp,G,Qa,R,h,fin⟩:=h
 refine ⟨ρ,fp,G,_,R,h,fun ts J H1 ρ1 fp1 R1 j1 hsz x1 h1 => ?_⟩
 intro D hD
 have nD:D∉G:=fun m=>by obtain ⟨u,e⟩:=R1.gi D m;rw [hD] at e;cases e
 obtain ⟨fp0,R0,i0⟩:=R1.wipe vs
 have R0' : RS K (wipe σ vs) (upd H1 D (.dK [])) (dw ρ1 vs) fp0 ([D]++G):=R0.new (fL.upd hD) (fun a m=>by rw [List.mem_singleton.mp m];exact hD) fun a m=>⟨.dK [],by rw [List.mem_singleton.mp m];exact upd_same⟩
 have x0:Ext H1 (Fo fp1) (upd H1 D (.dK [])) (Or1 (Fo fp0) [D]):=((fL.upd hD).extA (F:=Fo fp1) (A:=[D]) fun a m=>by rw [List.mem_singleton.mp m];exact hD).weak (fun _ z=>z) fun a z=>z.imp (i0 a) fun m=>m
 refine ⟨fun i m H' => ∃ ρ' fp' va acc,m=ts.length - i∧i≤ts.length∧RS K (wipe σ vs) H' ρ' fp' ([D]++G)∧H' D=some (.dK va)∧PKV K H' (Or1 (Fo fp') ([D]++G)) va acc∧acc.length≤i∧Ext H1 (Fo fp1) H' (Or1 (Fo fp') [D]) ∧
  Bw g tt tk tv vs (ts.drop i) acc ρ' (fun acc ρ2=>Qa (.val (.dct acc)) ρ2),⟨_,_,fp0, [], [],rfl,Nat.zero_le _,R0',upd_same, .nil,Nat.le_refl _,x0,h1⟩, ?_⟩
 rintro i m H2 ⟨ρ2,fp2,va,acc,rfl,hi,R2,hD2,ra,la,x2,h2⟩
 obtain ⟨j2,stop⟩:=j1 H2 _ x2
 cases hd:ts.drop i with
 | nil =>
  have e:i=ts.length:=by
   have:=congrArg List.length hd
   simp at this;omega
  subst e
  rw [hd] at h2
  refine .inl ⟨stop,fin (.ref D) (.val (.dct acc)) [D] H2 ρ2 fp2 R2.unwipe ⟨⟨D,va,rfl,rfl,hD2,ra⟩,by simp,fun a m=>by rw [List.mem_singleton.mp m];exact nD⟩ (x1.trans x2) h2⟩
 | cons t r =>
  obtain ⟨e1,e2,e3⟩:=Dz hd
  rw [hd] at h2
  obtain ⟨go,yl⟩:=j2 i t e1
  refine .inr ⟨go,fun H3 => ∃ ρ3 fp3 va acc,RS K (wipe σ vs) H3 ρ3 fp3 ([D]++G)∧H3 D=some (.dK va)∧PKV K H3 (Or1 (Fo fp3) ([D]++G)) va acc∧acc.length≤i+1∧Ext H1 (Fo fp1) H3 (Or1 (Fo fp3) [D])∧Bw g tt tk tv vs r acc ρ3 (fun acc ρ2=>Qa (.val (.dct acc)) ρ2),
   fun H3 ⟨ρ3,fp3,va,acc,R3,d3,r3,l3,x3,h3⟩=>⟨_,by omega,ρ3,fp3,va,acc,rfl,e3,R3,d3,r3,l3,x3,by rw [e2];exact h3⟩,fun x H3 y => ?_⟩
  obtain ⟨pr,rp⟩:=yl x H3 y
  have R3:=R2.pres pr
  have d3:=pr D _ hD2
  have ra3:=PKV.ext (F:=Or1 (Fo fp2) ([D]++G)) pr.ext ra
  have x3:Ext H1 (Fo fp1) H3 (Or1 (Fo fp2) [D]):=x2.trans (pr.ext)
  refine ⟨ρ2,fp2, [D]++G,_,t,R3,rp.weak fun a z=>Or1.app.mp z,h2,fun σ4 ρ4 fp4 R4 i4 p4 l4 h4 => ?_⟩
  have w4:wipe σ4 vs=wipe σ vs:=by
   have:=Ec (σ:=wipe σ vs) (σ':=σ4) vs (fun j m=>p4 j (by simp [m])) l4
   rw [this,yq]
  have x4:Ext H1 (Fo fp1) H3 (Or1 (Fo fp4) [D]):=x3.weak (fun _ z=>z) fun a z=>z.imp (i4 a) fun m=>m
  refine ⟨w4,ρ4,fp4, [D]++G,_,R4,h4,fun b H5 ρ5 fp5 R5 x5 h5 => ?_⟩
  have kD : ∀ {H H' : Hp} {f f' : Nat->List Addr} {ρ : aM} {σ : St} {A:List Addr},RS K σ H ρ f ([D]++G)->Ext H (Fo f) H' (Or1 (Fo f') A) -> ∀ u (_:H D=some u) (_:NT u:=by intro ps e;cases e),H' D=some u:=fun R x u e t=>x.keep D u e (R.gf D (List.mem_append_left _ (List.mem_singleton.mpr rfl))) t
  have d5:=kD (A:=[]) R4 (x5.weak (fun _ z=>z) fun a z=>z.elim (fun q=>q) fun m=>(List.not_mem_nil m).elim) _ d3
  have ra5:PKV K H5 (Or1 (Fo fp5) ([D]++G)) va acc:=PKV.ext (x5.addG ([D]++G)) (PKV.weak ra3 fun a z=>z.imp (i4 a) fun m=>m)
  have x15:Ext H1 (Fo fp1) H5 (Or1 (Fo fp5) [D]):=x4.trans (x5.addG [D])
  cases b with
  | false =>
   obtain ⟨fp6,R6,i6⟩:=R5.wipe vs
   rw [w4] at R6
   exact iteF ⟨_,fp6,va,acc,R6,d5,PKV.weak ra5 fun a z=>z.imp (i6 a) fun m=>m,Nat.le_succ_of_le la,x15.weak (fun _ z=>z) fun a z=>z.imp (i6 a) fun m=>m,by simpa using h5⟩
  | true =>
   refine iteT ⟨ρ5,fp5, [D]++G,_,R5,(by simpa using h5),fun vk pk Ak Hk ρk fpk Rk rk xk hk => ?_⟩
   obtain ⟨k,ek,hk⟩:=hk
   have hv:=Ph (k:=k) (rk.rw0 Rk ek)
   subst hv
   have dk:=kD R5 xk _ d5
   have xk' : Ext H5 (Fo fp5) Hk (Fo fpk):=xk.or
   have rak:PKV K Hk (Or1 (Fo fpk) ([D]++G)) va acc:=PKV.ext (xk'.addG ([D]++G)) ra5
   have x1k:Ext H1 (Fo fp1) Hk (Or1 (Fo fpk) [D]):=x15.trans (xk'.addG [D])
   have Rk' : RS K σ4 Hk ρk fpk ([D]++G):=Rk.sub fun a m=>List.mem_append_right _ m
   refine ⟨ρk,fpk, [D]++G,_,Rk',hk,fun v p A H6 ρ6 fp6 R6 r6 x6 h6 => ?_⟩
   obtain ⟨yt,ρ7,fp7,R7,r7,i7,h7⟩:=jR R6 r6 h6
   have d6:=kD Rk' x6 _ dk
   have x6' : Ext Hk (Fo fpk) H6 (Fo fp7):=x6.or.weak (fun _ z=>z) i7
   have ra6:PKV K H6 (Or1 (Fo fp7) ([D]++G)) va acc:=PKV.ext (x6'.addG ([D]++G)) rak
   have x16:Ext H1 (Fo fp1) H6 (Or1 (Fo fp7) [D]):=x1k.trans (x6'.addG [D])
   refine ⟨va,k,rfl,d6,by rw [Paired.len ra6];omega, ?_⟩
   have R8:RS K σ4 (upd H6 D (.dK (putK va k v))) ρ7 fp7 ([D]++G):=RS.write R7 rfl ⟨_,d6,trivial⟩ nD
   have ux:Ext H6 (Or1 (Fo fp7) ([D]++G)) (upd H6 D (.dK (putK va k v))) (Or1 (Fo fp7) ([D]++G)):=fW d6 trivial (.inr (List.mem_append_left _ (List.mem_singleton.mpr rfl))) fun _ z=>z
   obtain ⟨fp9,R9,i9⟩:=R8.wipe vs
   rw [w4] at R9
   refine ⟨_,fp9,putK va k v,WY acc k yt,R9,upd_same,PKV.weak (PKV.ext ux (PKV.put ra6 r7)) fun a z=>z.imp (i9 a) fun m=>m,by have:=Wd acc k yt;omega, ?_,h7⟩
   exact x16.trans (fW d6 trivial (.inr (List.mem_singleton.mpr rfl)) fun a z=>z.imp (i9 a) fun m=>m)
def Ae (j:Nat) (g:GT) (tt:BT) (tk tv:XT) (vs:List Nat):XT:=fun ρ Q=>aAI j (fun l ρ1=>l.length≤16777216∧Bw g tt tk tv vs (l.map LQ) [] (dw ρ1 vs) fun acc ρ2=>Q (.val (.dct acc)) ρ2) ρ
section
variable {X:Cx} {kx vx:Expr} {elts:List Expr} {kk:Nat} {tpos px apos cpos:Pos} {x:Str} {ifs:List Expr} {scope:Scope} {own:List (Str×Nat)} {pos:Pos} {g:GT} {tt:BT} {tk tv:XT}
theorem Ri (j:Nat) (hc:X.calm=true) (hN:X.N.Nodup) (hj:X.N[j]? = some x) (ok:BlkOk X.N X.env.scope scope own)
  (hg : ∀ (s:Shared) (H:Hp) (C:Addr) (cl:List (Str×Addr)) (fp:List Addr),GX false (X.blk s H scope (compEnvC scope cl C X.env) fp) (fun j => !(own.map (·.2)).contains j) (.Tuple elts kk tpos) g)
  (ht : ∀ (s:Shared) (H:Hp) (C:Addr) (cl:List (Str×Addr)) (fp:List Addr),BXs (X.blk s H scope (compEnvC scope cl C X.env) fp) ifs tt)
  (hk : ∀ (s:Shared) (H:Hp) (C:Addr) (cl:List (Str×Addr)) (fp:List Addr),EX (X.blk s H scope (compEnvC scope cl C X.env) fp) kx tk)
  (he : ∀ (s:Shared) (H:Hp) (C:Addr) (cl:List (Str×Addr)) (fp:List Addr),EX (X.blk s H scope (compEnvC scope cl C X.env) fp) vx tv)
  (hv:Vis X.env.scope x:=by first | exact Or.inl rfl | exact Or.inr (Or.inl rfl) | exact Or.inr (Or.inr rfl)) (hd:(x == ("__debug__" : Str))=false:=by decide) (hcd:(x == ("__classdict__" : Str))=false:=by decide)
  (hbase:attributeBase (.Name x px) "items" X.env (eval (.Name x px) X.env)=eval (.Name x px) X.env:=by rfl) (hline:(apos.endLine == cpos.line)=true:=by rfl)
  (hs : ∀ y,foldedSetIterable (.Call (.Attribute (.Name x px) "items" apos) [] [] cpos) X.env y=pure y:=by intro _;rfl) :
  EX X (.DictComp kx vx [⟨.Tuple elts kk tpos, .Call (.Attribute (.Name x px) "items" apos) [] [] cpos,ifs,0⟩] scope pos) (Ae j g tt tk tv (own.map (·.2))):=by
 refine ⟨PE.imp (pe_lock (pe_dc (tk:=LX X.K tk) (tv:=LX X.K tv) (tt:=LT X.K tt) (g:=LG false X.K _ g) hc hN (pi_items (pe_var hj hv hd hcd) hbase hline) ok (fun s H C cl fp=>(hg s H C cl fp).pg) (fun s H C cl fp=>(ht s H C cl fp).pts) (fun s H C cl fp=>(hk s H C cl fp).pe) (fun s H C cl fp=>(he s H C cl fp).pe) hs)) ?_⟩
 rintro σ H Q ⟨ρ,fp,G,Qa,R,⟨o,l,e1,e2,hl,h⟩,fin⟩
 obtain ⟨d,u,kvs,eu,h1,h2,h3,h4⟩:=Hq (t:=Hr (ti0 (ρ.set j (some (.pure (Vt l)))) (l.map LQ)) g tt tk tv (own.map (·.2))) R e1 e2 ⟨rfl,h⟩ fin
 subst eu
 refine ⟨d,_,h1,h2,fun od => ?_⟩
 have:=aAJ (wk:=false) (h4 od)
 exact Pj h3 upd_same (List.getElem?_set_self (List.getElem?_eq_some_iff.mp e1).1) hl this
end
end DL
namespace L2
open PySem PySem.Spec PyProof.Rows
section
variable {X:Cx}
theorem We {i:Nat} {y:Str} {py:Pos} {kx vx tg iter:Expr} {ifs:List Expr} {scope:Scope} {own:List (Str×Nat)} {pos spos:Pos} {wi:TI} {g:TG} {tt:TT} {tk tv:TE} (hc:X.calm=true) (hN:X.N.Nodup) (hy:X.N[i]? = some y) (hyl:X.env.scope.names.lookup y=some .local)
  (hsw:swapsWith (.DictComp kx vx [⟨tg,iter,ifs,0⟩] scope pos) (some (.Name y py)) spos.line X.env=pure true) (hi:PI X tg iter wi) (ok:BlkOk X.N X.env.scope scope own)
  (hg : ∀ (s:Shared) (H:Hp) (C:Addr) (cl:List (Str×Addr)) (fp:List Addr),PG (X.blk s H scope (compEnvC scope cl C X.env) fp) tg g) (ht : ∀ (s:Shared) (H:Hp) (C:Addr) (cl:List (Str×Addr)) (fp:List Addr),PTs (X.blk s H scope (compEnvC scope cl C X.env) fp) ifs tt)
  (hk : ∀ (s:Shared) (H:Hp) (C:Addr) (cl:List (Str×Addr)) (fp:List Addr),PE (X.blk s H scope (compEnvC scope cl C X.env) fp) kx tk)
  (he : ∀ (s:Shared) (H:Hp) (C:Addr) (cl:List (Str×Addr)) (fp:List Addr),PE (X.blk s H scope (compEnvC scope cl C X.env) fp) vx tv) (hs : ∀ x,foldedSetIterable iter X.env x=pure x:=by intro _;rfl) :
  PS X (.Assign [.Name y py] (.DictComp kx vx [⟨tg,iter,ifs,0⟩] scope pos) spos) (tAsg (tDc wi g tt tk tv (own.map (·.2))) (gName i)):=by
 refine ⟨fun pins s σ H D I h => ?_⟩
 rw [exec_Assign_Name_used _ _ _ _ hsw]
 refine wpAny_bind (wpAny_standAt (wpAny_bind ?_))
 show wpAny _ X.A (do let _ ← comprehension (.DictComp kx vx [⟨tg,iter,ifs,0⟩] scope pos) scope X.env (firstIterPos [⟨tg,iter,ifs,0⟩] pos) newDict false (eval iter X.env) (some (assign (.Name y py) X.env))) _ _ s
 have h:tDc wi g tt tk tv (own.map (·.2)) σ H (fun x H1=>gName i x σ H1 D.nx):=h
 refine wpAny_bind (thn (dc_core (Qf:=fun _ s'=>SP X pins D .next s') hc hN I hi ok hg ht hk he hs h fun L C s' m H' I' q hn f => ?_) fun _ s' hq=>wpAny_pure (wpAny_pure hq))
 show wpAny _ _ (assign (.Name y py) X.env (.ref L)) _ _ _
 refine wpAny_assign_Name (store_ok2 (v:=V.ref L) I' hN hy (.inl hyl) rfl (fun s2 I2 ⟨a,sb,ha⟩ => ?_) (.inr hyl))
 obtain ⟨f0,f1,f2,f3,f4,f5⟩:=f
 have haC:C≠a:=by
  rcases ha with z | z
  ·rw [z];exact f1
  ·exact fun e=>f4 y a z e.symm
 refine ⟨m,hn.sameBut sb haC,fun h3 sb3 => ?_⟩
 exact ⟨_,H',I2.turned (t':=s2.toks) (fun b o hb e=>(sb3.2 b hb).trans e) f0 f1 f3 f4 f5,q⟩
end
end L2
namespace DL
open PySem PySem.Spec L2
open PyProof.Rows hiding St
variable [Tbs] [Bas] {wk:Bool}
def xM (g:GT) (tk:XT) (vs:List Nat):List T->List (Key×List T)->aM->(List (Key×List T)->aM->Prop)->Prop
 | [],acc,ρ,Q=>Q acc ρ
 | t :: ts,acc,ρ,Q=>g t ρ fun ρ1=>tk ρ1 fun p ρ2 => ∃ k,p.get ρ2=some (.pure (rD k))∧klk acc k=none∧xM g tk vs ts (acc++[(k, [])]) (dw ρ2 vs) Q
def xN (ti:IT) (g:GT) (tk:XT) (vs:List Nat):XT:=fun ρ Q=>ti ρ fun ts ρ1=>xM g tk vs ts [] (dw ρ1 vs) fun acc ρ2=>Q (.val (.dcl acc)) ρ2
section
variable {K:PySem.W.Frag} {H H' : Hp} {F F' : Addr->Prop}
theorem RDL.none {k:Key} : ∀ {kvs:List (Key×V)} {kts:List (Key×List T)} {bs:List Addr},RDL K H F kvs kts bs->klk kts k=none->valV kvs k=none
 | _,_,_, .nil,_=>rfl
 | _,_,_, .cons (k:=k0) (b:=b) (kvs:=kvs) h q r,e=>by
  unfold klk at e
  rw [List.find?_cons] at e
  by_cases c:k0=k
  ·rw [show decide (k0=k)=true from decide_eq_true c] at e;cases e
  ·rw [show decide (k0=k)=false from decide_eq_false c] at e
   rw [valV_neg (p:=(k0,V.ref b)) c]
   exact RDL.none r e
theorem RDL.snoc {k:Key} {b:Addr} {vs:List V} {ts:List T} (h:H b=some (.lst vs)) (q:RPs K H F vs ts) : ∀ {kvs:List (Key×V)} {kts:List (Key×List T)} {bs:List Addr},RDL K H F kvs kts bs->RDL K H F (kvs++[(k, .ref b)]) (kts++[(k,ts)]) (bs++[b])
 | _,_,_, .nil => .cons h q .nil
 | _,_,_, .cons h' q' r => .cons h' q' (RDL.snoc h q r)
theorem RDL.len : ∀ {kvs:List (Key×V)} {kts:List (Key×List T)} {bs:List Addr},RDL K H F kvs kts bs->kvs.length=kts.length
  | _,_,_, .nil=>rfl
  | _,_,_, .cons _ _ r=>congrArg (· + 1) (RDL.len r)
theorem RDL.ext {bs:List Addr} {kvs:List (Key×V)} {kts:List (Key×List T)} (x:Ext H F H' F') (n : ∀ b∈bs, ¬ F b) (r:RDL K H F kvs kts bs):RDL K H' F' kvs kts bs:=r.imp (fun _ _ z=>RPs.ext x z) fun b m vs h=>x.keep b _ h (n b m) Bc
theorem RDL.weak {bs:List Addr} {kvs:List (Key×V)} {kts:List (Key×List T)} (r:RDL K H F kvs kts bs) (w : ∀ a,F' a->F a):RDL K H F' kvs kts bs:=r.imp (fun _ _ z=>RPs.weak z w) fun b m vs h=>h
end
theorem aAK {K:PySem.W.Frag} {ti:IT} {g:GT} {tk:XT} {vs:List Nat} {σ : St} {H:Hp} {Q:VK} (h:LX K (xN ti g tk vs) σ H Q):tDc (LI wk K ti) (LG wk K (fun j => !vs.contains j) g) (LT K rY) (LX K tk) (tLst tNil) vs σ H Q:=by
 obtain ⟨ρ,fp,G,Qa,R,h,fin⟩:=h
 refine ⟨ρ,fp,G,_,R,h,fun ts J H1 ρ1 fp1 R1 j1 hsz x1 h1 => ?_⟩
 intro D hD
 have nD:D∉G:=fun m=>by obtain ⟨u,e⟩:=R1.gi D m;rw [hD] at e;cases e
 obtain ⟨fp0,R0,i0⟩:=R1.wipe vs
 have R0' : RS K (wipe σ vs) (upd H1 D (.dK [])) (dw ρ1 vs) fp0 ([D]++G):=R0.new (fL.upd hD) (fun a m=>by rw [List.mem_singleton.mp m];exact hD) fun a m=>⟨.dK [],by rw [List.mem_singleton.mp m];exact upd_same⟩
 have x0:Ext H1 (Fo fp1) (upd H1 D (.dK [])) (Or1 (Fo fp0) [D]):=((fL.upd hD).extA (F:=Fo fp1) (A:=[D]) fun a m=>by rw [List.mem_singleton.mp m];exact hD).weak (fun _ z=>z) fun a z=>z.imp (i0 a) fun m=>m
 refine ⟨fun i m H' => ∃ ρ' fp' va acc bs,m=ts.length - i∧i≤ts.length∧RS K (wipe σ vs) H' ρ' fp' ((D :: bs)++G)∧H' D=some (.dK va)∧RDL K H' (Or1 (Fo fp') ((D :: bs)++G)) va acc bs∧(D :: bs).Nodup∧(∀ b∈bs,b∉G)∧acc.length≤i∧Ext H1 (Fo fp1) H' (Or1 (Fo fp') (D :: bs)) ∧
  xM g tk vs (ts.drop i) acc ρ' (fun acc ρ2=>Qa (.val (.dcl acc)) ρ2),⟨_,_,fp0, [], [], [],rfl,Nat.zero_le _,R0',upd_same, .nil,by simp,(fun b m=>nomatch m),Nat.le_refl _,x0,h1⟩, ?_⟩
 rintro i m H2 ⟨ρ2,fp2,va,acc,bs,rfl,hi,R2,hD2,ra,nd,nG,la,x2,h2⟩
 obtain ⟨j2,stop⟩:=j1 H2 _ x2
 cases hd:ts.drop i with
 | nil =>
  have e:i=ts.length:=by
   have:=congrArg List.length hd
   simp at this;omega
  subst e
  rw [hd] at h2
  refine .inl ⟨stop,fin (.ref D) (.val (.dcl acc)) (D :: bs) H2 ρ2 fp2 R2.unwipe ⟨⟨D,va,bs,rfl,rfl,hD2,ra⟩,nd,fun a m => ?_⟩ (x1.trans x2) h2⟩
  rcases List.mem_cons.mp m with rfl | m
  ·exact nD
  ·exact nG a m
 | cons t r =>
  obtain ⟨e1,e2,e3⟩:=Dz hd
  rw [hd] at h2
  obtain ⟨go,yl⟩:=j2 i t e1
  refine .inr ⟨go,fun H3 => ∃ ρ3 fp3 va acc bs,RS K (wipe σ vs) H3 ρ3 fp3 ((D :: bs)++G)∧H3 D=some (.dK va)∧RDL K H3 (Or1 (Fo fp3) ((D :: bs)++G)) va acc bs∧(D :: bs).Nodup∧(∀ b∈bs,b∉G)∧acc.length≤i+1∧Ext H1 (Fo fp1) H3 (Or1 (Fo fp3) (D :: bs))∧xM g tk vs r acc ρ3 (fun acc ρ2=>Qa (.val (.dcl acc)) ρ2),
   fun H3 ⟨ρ3,fp3,va,acc,bs,R3,d3,r3,nd,nG,l3,x3,h3⟩=>⟨_,by omega,ρ3,fp3,va,acc,bs,rfl,e3,R3,d3,r3,nd,nG,l3,x3,by rw [e2];exact h3⟩,fun x H3 y => ?_⟩
  obtain ⟨pr,rp⟩:=yl x H3 y
  have R3:=R2.pres pr
  have d3:=pr D _ hD2
  have nB : ∀ b∈bs, ¬ Or1 (Fo fp2) G b:=fun b m z=>z.elim (fun z=>R2.gf b (List.mem_append_left _ (List.mem_cons_of_mem _ m)) z) (nG b m)
  have ra3:RDL K H3 (Or1 (Fo fp2) ((D :: bs)++G)) va acc bs:=ra.imp (fun _ _ z=>RPs.ext pr.ext z) fun b m us h=>pr b _ h
  have x3:Ext H1 (Fo fp1) H3 (Or1 (Fo fp2) (D :: bs)):=x2.trans (pr.ext)
  refine ⟨ρ2,fp2,(D :: bs)++G,_,t,R3,rp.weak fun a z=>Or1.app.mp z,h2,fun σ4 ρ4 fp4 R4 i4 p4 l4 h4 => ?_⟩
  have w4:wipe σ4 vs=wipe σ vs:=by
   have:=Ec (σ:=wipe σ vs) (σ':=σ4) vs (fun j m=>p4 j (by simp [m])) l4
   rw [this,yq]
  have x4:Ext H1 (Fo fp1) H3 (Or1 (Fo fp4) (D :: bs)):=x3.weak (fun _ z=>z) fun a z=>z.imp (i4 a) fun m=>m
  have ra4:=ra3.weak (F':=Or1 (Fo fp4) ((D :: bs)++G)) fun a z=>z.imp (i4 a) fun m=>m
  refine ⟨w4,ρ4,fp4,(D :: bs)++G,fun (b:Bool) ρ=>b=true∧tk ρ fun p ρ2 => ∃ k,p.get ρ2=some (.pure (rD k))∧klk acc k=none∧xM g tk vs r (acc++[(k, [])]) (dw ρ2 vs) (fun acc ρ2=>Qa (.val (.dcl acc)) ρ2),R4,⟨rfl,h4⟩,fun b H5 ρ5 fp5 R5 x5 h5 => ?_⟩
  obtain ⟨hbt,h5⟩:=h5
  have kA : ∀ {H H' : Hp} {f f' : Nat->List Addr} {ρ : aM} {σ : St} {A:List Addr},RS K σ H ρ f ((D :: bs)++G)->Ext H (Fo f) H' (Or1 (Fo f') A) -> ∀ a∈D :: bs, ∀ u (_:H a=some u) (_:NT u:=by intro ps e;cases e),H' a=some u:=fun R x a m u e t=>x.keep a u e (R.gf a (List.mem_append_left _ m)) t
  have x5' : Ext H3 (Fo fp4) H5 (Or1 (Fo fp5) []):=x5.weak (fun _ z=>z) fun a z=>z.elim (fun q=>q) fun m=>(List.not_mem_nil m).elim
  have d5:=kA R4 x5' D List.mem_cons_self _ d3
  have ra5:RDL K H5 (Or1 (Fo fp5) ((D :: bs)++G)) va acc bs:=ra4.imp (fun _ _ z=>RPs.ext (x5.addG ((D :: bs)++G)) z) fun b m us h=>kA R4 x5' b (List.mem_cons_of_mem _ m) _ h
  have x15:Ext H1 (Fo fp1) H5 (Or1 (Fo fp5) (D :: bs)):=x4.trans (x5.addG (D :: bs))
  cases b with
  | false=>cases hbt
  | true =>
   refine iteT ⟨ρ5,fp5,(D :: bs)++G,_,R5,h5,fun vk pk Ak Hk ρk fpk Rk rk xk hk => ?_⟩
   obtain ⟨k,ek,hnk,hk⟩:=hk
   have hv:=Ph (k:=k) (rk.rw0 Rk ek)
   subst hv
   have dk:=kA R5 xk D List.mem_cons_self _ d5
   have xk' : Ext H5 (Fo fp5) Hk (Fo fpk):=xk.or
   have rak:RDL K Hk (Or1 (Fo fpk) ((D :: bs)++G)) va acc bs:=ra5.imp (fun _ _ z=>RPs.ext (xk'.addG ((D :: bs)++G)) z) fun b m us h=>kA R5 xk b (List.mem_cons_of_mem _ m) _ h
   have x1k:Ext H1 (Fo fp1) Hk (Or1 (Fo fpk) (D :: bs)):=x15.trans (xk'.addG (D :: bs))
   have Rk' : RS K σ4 Hk ρk fpk ((D :: bs)++G):=Rk.sub fun a m=>List.mem_append_right _ m
   refine ⟨by simp,fun b hb=>⟨va,k,rfl, ?_,by rw [ra.len];have:=ra.len;omega, ?_⟩⟩
   ·exact fL.upd hb D _ dk
   rw [putK_new _ (ra.none hnk)]
   have bD:b≠D:=fun q=>by rw [q,dk] at hb;cases hb
   have bB:b∉bs:=fun m=>by obtain ⟨us,z⟩:=rak.there b m;rw [hb] at z;cases z
   have bG:b∉G:=fun m=>by obtain ⟨u,z⟩:=Rk'.gi b (List.mem_append_right _ m);rw [hb] at z;cases z
   have DB:D∉bs:=(List.nodup_cons.mp nd).1
   have R6:RS K σ4 (upd Hk b (.lst [])) ρk fpk ([b]++((D :: bs)++G)):=Rk'.new (fL.upd hb) (fun a m=>by rw [List.mem_singleton.mp m];exact hb) fun a m=>⟨.lst [],by rw [List.mem_singleton.mp m];exact upd_same⟩
   have R7:RS K σ4 (upd Hk b (.lst [])) ρk fpk ([D]++((bs++[b])++G)):=R6.sub fun a m=>by
    rcases List.mem_append.mp m with m | m
    ·simp [List.mem_singleton.mp m]
    ·rcases List.mem_append.mp m with m | m
     ·rcases List.mem_append.mp m with m | m
      ·simp [m]
      ·simp [List.mem_singleton.mp m]
     ·simp [m]
   have hD6:(upd Hk b (.lst [])) D=some (.dK va):=fL.upd hb D _ dk
   have nD7:D∉(bs++[b])++G:=fun m=>by
    rcases List.mem_append.mp m with m | m
    ·rcases List.mem_append.mp m with m | m
     ·exact DB m
     ·exact bD (List.mem_singleton.mp m).symm
    ·exact nD m
   have R8:=RS.write (u := .dK (va++[(k,V.ref b)])) R7 rfl ⟨_,hD6,trivial⟩ nD7
   have R8' : RS K σ4 (upd (upd Hk b (.lst [])) D (.dK (va++[(k,V.ref b)]))) ρk fpk ((D :: (bs++[b]))++G):=R8.sub fun a m=>by
    rcases List.mem_append.mp m with m | m
    ·rcases List.mem_cons.mp m with m | m
     ·simp [m]
     ·rcases List.mem_append.mp m with m | m
      ·simp [m]
      ·simp [List.mem_singleton.mp m]
    ·simp [m]
   have p6:fL Hk (upd Hk b (.lst [])):=fL.upd hb
   have ra6:RDL K (upd Hk b (.lst [])) (Or1 (Fo fpk) ((D :: (bs++[b]))++G)) (va++[(k, .ref b)]) (acc++[(k, [])]) (bs++[b]):=by
    refine RDL.snoc upd_same .nil (rak.imp (fun _ _ z=>(RPs.ext p6.ext (RPs.grow z fun a q => ?_))) fun b' m us h=>p6 b' _ h)
    rcases q with q | q
    ·exact .inl (.inl q)
    ·simp only [List.mem_append,List.mem_cons,List.not_mem_nil,or_false,List.mem_singleton] at q
     rcases q with (q | q | q) | q
     ·exact .inl (.inr (by simp [q]))
     ·exact .inl (.inr (by simp [q]))
     ·exact .inr (by rw [q];exact hb)
     ·exact .inl (.inr (by simp [q]))
   have ux:Ext (upd Hk b (.lst [])) (Or1 (Fo fpk) ((D :: (bs++[b]))++G)) (upd (upd Hk b (.lst [])) D (.dK (va++[(k,V.ref b)]))) (Or1 (Fo fpk) ((D :: (bs++[b]))++G)):=fW hD6 trivial (.inr (by simp)) fun _ z=>z
   have ra8:RDL K (upd (upd Hk b (.lst [])) D (.dK (va++[(k,V.ref b)]))) (Or1 (Fo fpk) ((D :: (bs++[b]))++G)) (va++[(k, .ref b)]) (acc++[(k, [])]) (bs++[b]):=ra6.imp (fun _ _ z=>RPs.ext ux z) fun b' m us h=>by
    have ne:b'≠D:=fun q=>by
     rcases List.mem_append.mp m with m | m
     ·exact DB (q▸m)
     ·exact bD ((List.mem_singleton.mp m).symm.trans q)
    rw [upd_ne ne];exact h
   obtain ⟨fp9,R9,i9⟩:=R8'.wipe vs
   rw [w4] at R9
   refine ⟨_,fp9,_,_,bs++[b],R9,upd_same,ra8.weak fun a z=>z.imp (i9 a) fun m=>m, ?_,fun b' m => ?_,by rw [List.length_append,List.length_singleton];omega, ?_,hk⟩
   ·refine List.nodup_cons.mpr ⟨fun m => ?_,List.nodup_append.mpr ⟨(List.nodup_cons.mp nd).2,by simp,fun a ha c hc => ?_⟩⟩
    ·rcases List.mem_append.mp m with m | m
     ·exact DB m
     ·exact bD (List.mem_singleton.mp m).symm
    ·rw [List.mem_singleton.mp hc];exact fun q=>bB (q▸ha)
   ·rcases List.mem_append.mp m with m | m
    ·exact nG b' m
    ·rw [List.mem_singleton.mp m];exact bG
   ·have xa:Ext Hk (Or1 (Fo fpk) (D :: bs)) (upd Hk b (.lst [])) (Or1 (Fo fpk) (D :: (bs++[b]))):=by
     refine (p6.extA (F:=Or1 (Fo fpk) (D :: bs)) (A:=[b]) fun a m=>by rw [List.mem_singleton.mp m];exact hb).weak (fun _ z=>z) fun a z => ?_
     rcases z with z | z
     ·exact .inl (.inl z)
     ·simp only [List.mem_append,List.mem_cons,List.not_mem_nil,or_false,List.mem_singleton] at z
      rcases z with z | z | z
      ·exact .inl (.inr (by simp [z]))
      ·exact .inl (.inr (by simp [z]))
      ·exact .inr (by simp [z])
    have xb:Ext (upd Hk b (.lst [])) (Or1 (Fo fpk) (D :: (bs++[b]))) (upd (upd Hk b (.lst [])) D (.dK (va++[(k,V.ref b)]))) (Or1 (Fo fp9) (D :: (bs++[b]))):=fW hD6 trivial (.inr List.mem_cons_self) fun a z=>z.imp (i9 a) fun m=>m
    exact (x1k.trans xa).trans xb
end DL
namespace DL
open PySem PySem.Spec L2
open PyProof.Rows hiding St
variable [Tbs] [Bas] {wk:Bool}
section
variable {X:Cx} {kx tg iter:Expr} {scope:Scope} {own:List (Str×Nat)} {pos lpos:Pos} {ti:IT} {g:GT} {tk:XT}
theorem U5 {P:Nat->Bool} {y:Str} {py spos:Pos} (i:Nat) (hc:X.calm=true) (hN:X.N.Nodup) (hy:X.N[i]? = some y) (hyl:X.env.scope.names.lookup y=some .local)
  (hsw:swapsWith (.DictComp kx (.List [] lpos) [⟨tg,iter, [],0⟩] scope pos) (some (.Name y py)) spos.line X.env=pure true) (hi:IX wk X tg iter ti) (ok:BlkOk X.N X.env.scope scope own)
  (hg : ∀ (s:Shared) (H:Hp) (C:Addr) (cl:List (Str×Addr)) (fp:List Addr),GX wk (X.blk s H scope (compEnvC scope cl C X.env) fp) (fun j => !(own.map (·.2)).contains j) tg g)
  (hk : ∀ (s:Shared) (H:Hp) (C:Addr) (cl:List (Str×Addr)) (fp:List Addr),EX (X.blk s H scope (compEnvC scope cl C X.env) fp) kx tk) (hp:P i=false:=by rfl) (hs : ∀ x,foldedSetIterable iter X.env x=pure x:=by intro _;rfl) :
  SX X P (.Assign [.Name y py] (.DictComp kx (.List [] lpos) [⟨tg,iter, [],0⟩] scope pos) spos) (jT i (xN ti g tk (own.map (·.2)))):=by
 refine ⟨PS.imp (We (tk:=LX X.K tk) (tv:=tLst tNil) (tt:=LT X.K rY) (g:=LG wk X.K _ g) hc hN hy hyl hsw hi.pi ok (fun s H C cl fp=>(hg s H C cl fp).pg) (fun s H C cl fp=>oG.pts) (fun s H C cl fp=>(hk s H C cl fp).pe) (fun s H C cl fp=>pe_lst pa_nil) hs) fun D σ H h => ?_⟩
 have:=TJ hp h
 exact aAK this
end
def aAL (K:PySem.W.Frag):List V->Hp->VK->Prop:=fun xs H Q => ∃ (a:Addr) (ps:List Addr) (kvs:List (Key×V)),xs=[.ref a]∧SqL K H a (ps.map V.ref)∧Paired (fun p kv=>SqT K H p [kV kv.1,kv.2]) ps kvs ∧
  ∀ p,H p=none->Q (.ref p) (upd H p (.dK (mergeK [] kvs)))
theorem Rj {kvs:List (Key×V)} {k:Key} {v:V} (h:mergeK [] kvs=kvs) (n:valV kvs k=none):mergeK [] (kvs++[(k,v)])=kvs++[(k,v)]:=by
 unfold mergeK at h ⊢
 rw [List.foldl_append,h]
 exact putK_new v n
abbrev PrsT (H:Hp) (ps:List Addr) (kvs:List (Key×V)):Prop:=Paired (fun (p:Addr) (kv:Key×V)=>H p=some (.tup [kV kv.1,kv.2])) ps kvs
theorem aAM {K:PySem.W.Frag} {ti:IT} {g:GT} {tk:XT} {vs:List Nat} {σ : St} {H:Hp} {Q:VK} (h:LX K (xN ti g tk vs) σ H Q):tLc (LI wk K ti) (LG wk K (fun j => !vs.contains j) g) (LT K rY) (tTup (tCons (LX K tk) (tCons (tLst tNil) tNil))) vs σ H fun x H1=>aAL K [x] H1 Q:=by
 obtain ⟨ρ,fp,G,Qa,R,h,fin⟩:=h
 refine ⟨ρ,fp,G,_,R,h,fun ts J H1 ρ1 fp1 R1 j1 hsz x1 h1 => ?_⟩
 intro D hD
 have nD:D∉G:=fun m=>by obtain ⟨u,e⟩:=R1.gi D m;rw [hD] at e;cases e
 obtain ⟨fp0,R0,i0⟩:=R1.wipe vs
 have R0' : RS K (wipe σ vs) (upd H1 D (.lst [])) (dw ρ1 vs) fp0 ([D]++G):=R0.new (fL.upd hD) (fun a m=>by rw [List.mem_singleton.mp m];exact hD) fun a m=>⟨.lst [],by rw [List.mem_singleton.mp m];exact upd_same⟩
 have x0:Ext H1 (Fo fp1) (upd H1 D (.lst [])) (Or1 (Fo fp0) [D]):=((fL.upd hD).extA (F:=Fo fp1) (A:=[D]) fun a m=>by rw [List.mem_singleton.mp m];exact hD).weak (fun _ z=>z) fun a z=>z.imp (i0 a) fun m=>m
 refine ⟨fun i m H' => ∃ ρ' fp' va acc bs ps,m=ts.length - i∧i≤ts.length∧RS K (wipe σ vs) H' ρ' fp' ((D :: bs)++G)∧H' D=some (.lst (ps.map V.ref))∧PrsT H' ps va∧mergeK [] va=va∧RDL K H' (Or1 (Fo fp') ((D :: bs)++G)) va acc bs∧(D :: bs).Nodup∧(∀ b∈bs,b∉G)∧acc.length≤i∧Ext H1 (Fo fp1) H' (Or1 (Fo fp') (D :: bs)) ∧
  xM g tk vs (ts.drop i) acc ρ' (fun acc ρ2=>Qa (.val (.dcl acc)) ρ2),⟨_,_,fp0, [], [], [], [],rfl,Nat.zero_le _,R0',upd_same, .nil,rfl, .nil,by simp,(fun b m=>nomatch m),Nat.le_refl _,x0,h1⟩, ?_⟩
 rintro i m H2 ⟨ρ2,fp2,va,acc,bs,ps,rfl,hi,R2,hD2,rps,hmg,ra,nd,nG,la,x2,h2⟩
 obtain ⟨j2,stop⟩:=j1 H2 _ x2
 cases hd:ts.drop i with
 | nil =>
  have e:i=ts.length:=by
   have:=congrArg List.length hd
   simp at this;omega
  subst e
  rw [hd] at h2
  refine .inl ⟨stop,D,ps,va,rfl,SqL.of hD2,Paired.mapP rps fun _ _ z => .inl (.inl z),fun p hp => ?_⟩
  rw [hmg]
  have pr:=fL.upd (o := .dK va) hp
  have pB:p∉bs:=fun m=>by obtain ⟨us,z⟩:=ra.there p m;rw [hp] at z;cases z
  have pG:p∉G:=fun m=>by obtain ⟨u,z⟩:=R2.gi p (List.mem_append_right _ m);rw [hp] at z;cases z
  have R9:RS K (wipe σ vs) (upd H2 p (.dK va)) ρ2 fp2 ((p :: bs)++G):=(R2.new (A:=[p]) pr (fun a m=>by rw [List.mem_singleton.mp m];exact hp) fun a m=>⟨.dK va,by rw [List.mem_singleton.mp m];exact upd_same⟩).sub fun a m=>by
   rcases List.mem_append.mp m with m | m
   ·rcases List.mem_cons.mp m with m | m
    ·simp [m]
    ·simp [m]
   ·simp [m]
  refine fin (.ref p) (.val (.dcl acc)) (p :: bs) _ ρ2 fp2 R9.unwipe ⟨⟨p,va,bs,rfl,rfl,upd_same, ?_⟩,List.nodup_cons.mpr ⟨pB,(List.nodup_cons.mp nd).2⟩,fun a m => ?_⟩ ?_ h2
  ·refine ra.imp (fun _ _ z=>RPs.ext pr.ext (RPs.grow z fun a q => ?_)) fun b m us h=>pr b _ h
   rcases q with q | q
   ·exact .inl (.inl q)
   ·rcases List.mem_append.mp q with q | q
    ·rcases List.mem_cons.mp q with q | q
     ·exact .inr (by rw [q];exact hp)
     ·exact .inl (.inr (by simp [q]))
    ·exact .inl (.inr (by simp [q]))
  ·rcases List.mem_cons.mp m with rfl | m
   ·exact pG
   ·exact nG a m
  ·refine (x1.trans x2).trans ((pr.extA (F:=Or1 (Fo fp2) (D :: bs)) (A:=[p]) fun a m=>by rw [List.mem_singleton.mp m];exact hp).weak (fun _ z=>z) fun a z => ?_)
   rcases z with z | z
   ·exact .inl (.inl z)
   ·rcases List.mem_cons.mp z with z | z
    ·exact .inr (by simp [z])
    ·exact .inl (.inr (by simp [z]))
 | cons t r =>
  obtain ⟨e1,e2,e3⟩:=Dz hd
  rw [hd] at h2
  obtain ⟨go,yl⟩:=j2 i t e1
  refine .inr ⟨go,fun H3 => ∃ ρ3 fp3 va acc bs ps,RS K (wipe σ vs) H3 ρ3 fp3 ((D :: bs)++G)∧H3 D=some (.lst (ps.map V.ref))∧PrsT H3 ps va∧mergeK [] va=va∧RDL K H3 (Or1 (Fo fp3) ((D :: bs)++G)) va acc bs∧(D :: bs).Nodup∧(∀ b∈bs,b∉G)∧acc.length≤i+1∧Ext H1 (Fo fp1) H3 (Or1 (Fo fp3) (D :: bs))∧xM g tk vs r acc ρ3 (fun acc ρ2=>Qa (.val (.dcl acc)) ρ2),
   fun H3 ⟨ρ3,fp3,va,acc,bs,ps,R3,d3,rps3,hmg3,r3,nd,nG,l3,x3,h3⟩=>⟨_,by omega,ρ3,fp3,va,acc,bs,ps,rfl,e3,R3,d3,rps3,hmg3,r3,nd,nG,l3,x3,by rw [e2];exact h3⟩,fun x H3 y => ?_⟩
  obtain ⟨pr,rp⟩:=yl x H3 y
  have R3:=R2.pres pr
  have d3:=pr D _ hD2
  have nB : ∀ b∈bs, ¬ Or1 (Fo fp2) G b:=fun b m z=>z.elim (fun z=>R2.gf b (List.mem_append_left _ (List.mem_cons_of_mem _ m)) z) (nG b m)
  have ra3:RDL K H3 (Or1 (Fo fp2) ((D :: bs)++G)) va acc bs:=ra.imp (fun _ _ z=>RPs.ext pr.ext z) fun b m us h=>pr b _ h
  have x3:Ext H1 (Fo fp1) H3 (Or1 (Fo fp2) (D :: bs)):=x2.trans (pr.ext)
  refine ⟨ρ2,fp2,(D :: bs)++G,_,t,R3,rp.weak fun a z=>Or1.app.mp z,h2,fun σ4 ρ4 fp4 R4 i4 p4 l4 h4 => ?_⟩
  have w4:wipe σ4 vs=wipe σ vs:=by
   have:=Ec (σ:=wipe σ vs) (σ':=σ4) vs (fun j m=>p4 j (by simp [m])) l4
   rw [this,yq]
  have x4:Ext H1 (Fo fp1) H3 (Or1 (Fo fp4) (D :: bs)):=x3.weak (fun _ z=>z) fun a z=>z.imp (i4 a) fun m=>m
  have ra4:=ra3.weak (F':=Or1 (Fo fp4) ((D :: bs)++G)) fun a z=>z.imp (i4 a) fun m=>m
  refine ⟨w4,ρ4,fp4,(D :: bs)++G,fun (b:Bool) ρ=>b=true∧tk ρ fun p ρ2 => ∃ k,p.get ρ2=some (.pure (rD k))∧klk acc k=none∧xM g tk vs r (acc++[(k, [])]) (dw ρ2 vs) (fun acc ρ2=>Qa (.val (.dcl acc)) ρ2),R4,⟨rfl,h4⟩,fun b H5 ρ5 fp5 R5 x5 h5 => ?_⟩
  obtain ⟨hbt,h5⟩:=h5
  have kA : ∀ {H H' : Hp} {f f' : Nat->List Addr} {ρ : aM} {σ : St} {A:List Addr},RS K σ H ρ f ((D :: bs)++G)->Ext H (Fo f) H' (Or1 (Fo f') A) -> ∀ a∈D :: bs, ∀ u (_:H a=some u) (_:NT u:=by intro ps e;cases e),H' a=some u:=fun R x a m u e t=>x.keep a u e (R.gf a (List.mem_append_left _ m)) t
  have x5' : Ext H3 (Fo fp4) H5 (Or1 (Fo fp5) []):=x5.weak (fun _ z=>z) fun a z=>z.elim (fun q=>q) fun m=>(List.not_mem_nil m).elim
  have d5:=kA R4 x5' D List.mem_cons_self _ d3
  have ra5:RDL K H5 (Or1 (Fo fp5) ((D :: bs)++G)) va acc bs:=ra4.imp (fun _ _ z=>RPs.ext (x5.addG ((D :: bs)++G)) z) fun b m us h=>kA R4 x5' b (List.mem_cons_of_mem _ m) _ h
  have x15:Ext H1 (Fo fp1) H5 (Or1 (Fo fp5) (D :: bs)):=x4.trans (x5.addG (D :: bs))
  cases b with
  | false=>cases hbt
  | true =>
   refine iteT ⟨ρ5,fp5,(D :: bs)++G,_,R5,h5,fun vk pk Ak Hk ρk fpk Rk rk xk hk => ?_⟩
   obtain ⟨k,ek,hnk,hk⟩:=hk
   have hv:=Ph (k:=k) (rk.rw0 Rk ek)
   subst hv
   have dk:=kA R5 xk D List.mem_cons_self _ d5
   have xk' : Ext H5 (Fo fp5) Hk (Fo fpk):=xk.or
   have rak:RDL K Hk (Or1 (Fo fpk) ((D :: bs)++G)) va acc bs:=ra5.imp (fun _ _ z=>RPs.ext (xk'.addG ((D :: bs)++G)) z) fun b m us h=>kA R5 xk b (List.mem_cons_of_mem _ m) _ h
   have x1k:Ext H1 (Fo fp1) Hk (Or1 (Fo fpk) (D :: bs)):=x15.trans (xk'.addG (D :: bs))
   have Rk' : RS K σ4 Hk ρk fpk ((D :: bs)++G):=Rk.sub fun a m=>List.mem_append_right _ m
   refine ⟨by simp,fun b hb=>⟨by simp [sizeLine_eq],fun p hp=>⟨ps.map V.ref, ?_, ?_, ?_⟩⟩⟩
   ·exact fL.upd hp D _ (fL.upd hb D _ dk)
   ·rw [List.length_map,Paired.len rps,ra.len];omega
   have kT : ∀ {q:Addr} {ys:List V},H2 q=some (.tup ys)->Hk q=some (.tup ys):=fun e=>xk.tups _ _ (x5.tups _ _ (pr _ _ e))
   have pD:p≠D:=fun q=>by rw [q,fL.upd hb D _ dk] at hp;cases hp
   have bD:b≠D:=fun q=>by rw [q,dk] at hb;cases hb
   have bB:b∉bs:=fun m=>by obtain ⟨us,z⟩:=rak.there b m;rw [hb] at z;cases z
   have bG:b∉G:=fun m=>by obtain ⟨u,z⟩:=Rk'.gi b (List.mem_append_right _ m);rw [hb] at z;cases z
   have DB:D∉bs:=(List.nodup_cons.mp nd).1
   have R6:RS K σ4 (upd (upd Hk b (.lst [])) p (.tup [kV k, .ref b])) ρk fpk ([b]++((D :: bs)++G)):=(Rk'.new (fL.upd hb) (fun a m=>by rw [List.mem_singleton.mp m];exact hb) fun a m=>⟨.lst [],by rw [List.mem_singleton.mp m];exact upd_same⟩).pres (fL.upd hp)
   have p6:fL Hk (upd (upd Hk b (.lst [])) p (.tup [kV k, .ref b])):=(fL.upd hb).trans (fL.upd hp)
   have hb6:(upd (upd Hk b (.lst [])) p (.tup [kV k, .ref b])) b=some (.lst []):=fL.upd hp b _ upd_same
   have hp6:(upd (upd Hk b (.lst [])) p (.tup [kV k, .ref b])) p=some (.tup [kV k, .ref b]):=upd_same
   generalize upd (upd Hk b (.lst [])) p (.tup [kV k, .ref b])=Hp' at R6 p6 hb6 hp6 ⊢
   have R7:RS K σ4 Hp' ρk fpk ([D]++((bs++[b])++G)):=R6.sub fun a m=>by
    rcases List.mem_append.mp m with m | m
    ·simp [List.mem_singleton.mp m]
    ·rcases List.mem_append.mp m with m | m
     ·rcases List.mem_append.mp m with m | m
      ·simp [m]
      ·simp [List.mem_singleton.mp m]
     ·simp [m]
   have hD6:Hp' D=some (.lst (ps.map V.ref)):=p6 D _ dk
   have nD7:D∉(bs++[b])++G:=fun m=>by
    rcases List.mem_append.mp m with m | m
    ·rcases List.mem_append.mp m with m | m
     ·exact DB m
     ·exact bD (List.mem_singleton.mp m).symm
    ·exact nD m
   have R8:=RS.write (u := .lst (ps.map V.ref++[.ref p])) R7 rfl ⟨_,hD6,trivial⟩ nD7
   have R8' : RS K σ4 (upd Hp' D (.lst (ps.map V.ref++[.ref p]))) ρk fpk ((D :: (bs++[b]))++G):=R8.sub fun a m=>by
    rcases List.mem_append.mp m with m | m
    ·rcases List.mem_cons.mp m with m | m
     ·simp [m]
     ·rcases List.mem_append.mp m with m | m
      ·simp [m]
      ·simp [List.mem_singleton.mp m]
    ·simp [m]
   have ra6:RDL K Hp' (Or1 (Fo fpk) ((D :: (bs++[b]))++G)) (va++[(k, .ref b)]) (acc++[(k, [])]) (bs++[b]):=by
    refine RDL.snoc hb6 .nil (rak.imp (fun _ _ z=>(RPs.ext p6.ext (RPs.grow z fun a q => ?_))) fun b' m us h=>p6 b' _ h)
    rcases q with q | q
    ·exact .inl (.inl q)
    ·simp only [List.mem_append,List.mem_cons,List.not_mem_nil,or_false,List.mem_singleton] at q
     rcases q with (q | q | q) | q
     ·exact .inl (.inr (by simp [q]))
     ·exact .inl (.inr (by simp [q]))
     ·exact .inr (by rw [q];exact hb)
     ·exact .inl (.inr (by simp [q]))
   have ux:Ext Hp' (Or1 (Fo fpk) ((D :: (bs++[b]))++G)) (upd Hp' D (.lst (ps.map V.ref++[.ref p]))) (Or1 (Fo fpk) ((D :: (bs++[b]))++G)):=fW hD6 trivial (.inr (by simp)) fun _ z=>z
   have ra8:RDL K (upd Hp' D (.lst (ps.map V.ref++[.ref p]))) (Or1 (Fo fpk) ((D :: (bs++[b]))++G)) (va++[(k, .ref b)]) (acc++[(k, [])]) (bs++[b]):=ra6.imp (fun _ _ z=>RPs.ext ux z) fun b' m us h=>by
    have ne:b'≠D:=fun q=>by
     rcases List.mem_append.mp m with m | m
     ·exact DB (q▸m)
     ·exact bD ((List.mem_singleton.mp m).symm.trans q)
    rw [upd_ne ne];exact h
   obtain ⟨fp9,R9,i9⟩:=R8'.wipe vs
   rw [w4] at R9
   have tup9 : ∀ {q:Addr} {ys:List V},Hp' q=some (.tup ys)->(upd Hp' D (.lst (ps.map V.ref++[.ref p]))) q=some (.tup ys):=fun {q ys} e=>by
    have ne:q≠D:=fun z=>by rw [z,hD6] at e;cases e
    rw [upd_ne ne];exact e
   refine ⟨_,fp9,va++[(k, .ref b)],_,bs++[b],ps++[p],R9,by rw [upd_same,List.map_append];rfl,Paired.app (Paired.mapP rps fun _ _ z=>tup9 (p6 _ _ (kT z))) (.cons (tup9 hp6) .nil),Rj hmg (ra.none hnk),ra8.weak fun a z=>z.imp (i9 a) fun m=>m, ?_,fun b' m => ?_,by rw [List.length_append,List.length_singleton];omega, ?_,hk⟩
   ·refine List.nodup_cons.mpr ⟨fun m => ?_,List.nodup_append.mpr ⟨(List.nodup_cons.mp nd).2,by simp,fun a ha c hc => ?_⟩⟩
    ·rcases List.mem_append.mp m with m | m
     ·exact DB m
     ·exact bD (List.mem_singleton.mp m).symm
    ·rw [List.mem_singleton.mp hc];exact fun q=>bB (q▸ha)
   ·rcases List.mem_append.mp m with m | m
    ·exact nG b' m
    ·rw [List.mem_singleton.mp m];exact bG
   ·have xa:Ext Hk (Or1 (Fo fpk) (D :: bs)) Hp' (Or1 (Fo fpk) (D :: (bs++[b]))):=by
     refine (p6.extA (F:=Or1 (Fo fpk) (D :: bs)) (A:=[b]) fun a m=>by rw [List.mem_singleton.mp m];exact hb).weak (fun _ z=>z) fun a z => ?_
     rcases z with z | z
     ·exact .inl (.inl z)
     ·simp only [List.mem_append,List.mem_cons,List.not_mem_nil,or_false,List.mem_singleton] at z
      rcases z with z | z | z
      ·exact .inl (.inr (by simp [z]))
      ·exact .inl (.inr (by simp [z]))
      ·exact .inr (by simp [z])
    have xb:Ext Hp' (Or1 (Fo fpk) (D :: (bs++[b]))) (upd Hp' D (.lst (ps.map V.ref++[.ref p]))) (Or1 (Fo fp9) (D :: (bs++[b]))):=fW hD6 trivial (.inr List.mem_cons_self) fun a z=>z.imp (i9 a) fun m=>m
    exact (x1k.trans xa).trans xb
section
variable {X:Cx} {kx tg iter:Expr} {scope:Scope} {own:List (Str×Nat)} {pos lpos tpos cpos dpos:Pos} {ti:IT} {g:GT} {tk:XT} {kk:Nat} {x:Str}
theorem Wf (hc:X.calm=true) (hN:X.N.Nodup) (hG:Gl X x) (hm:X.mg x=none) (hv:bootBuiltins x=some (.type "dict")) (hi:IX wk X tg iter ti) (ok:BlkOk X.N X.env.scope scope own)
  (hg : ∀ (s:Shared) (H:Hp) (C:Addr) (cl:List (Str×Addr)) (fp:List Addr),GX wk (X.blk s H scope (compEnvC scope cl C X.env) fp) (fun j => !(own.map (·.2)).contains j) tg g)
  (hk : ∀ (s:Shared) (H:Hp) (C:Addr) (cl:List (Str×Addr)) (fp:List Addr),EX (X.blk s H scope (compEnvC scope cl C X.env) fp) kx tk)
  (hst : ∀ (s:Shared) (H:Hp) (C:Addr) (cl:List (Str×Addr)) (fp:List Addr),starEach [kx, .List [] lpos] (compEnvC scope cl C X.env)=(false,eval kx (compEnvC scope cl C X.env)) :: starEach [.List [] lpos] (compEnvC scope cl C X.env):=by intros;rfl)
  (hs : ∀ x,foldedSetIterable iter X.env x=pure x:=by intro _;rfl) (hn:x ≠ "__name__" := by decide) (hdb:(x == ("__debug__" : Str))=false:=by decide)
  (hs1:starEach [.ListComp (.Tuple [kx, .List [] lpos] kk tpos) [⟨tg,iter, [],0⟩] scope pos] X.env=(false,eval (.ListComp (.Tuple [kx, .List [] lpos] kk tpos) [⟨tg,iter, [],0⟩] scope pos) X.env) :: starEach [] X.env:=by rfl)
  (hpl:(backTo cpos (starEach [] X.env)).any (·.1)=false:=by rfl) :
  EX X (.Call (.Name x dpos) [.ListComp (.Tuple [kx, .List [] lpos] kk tpos) [⟨tg,iter, [],0⟩] scope pos] [] cpos) (xN ti g tk (own.map (·.2))):=by
 refine ⟨PE.imp (pe_callTy (call_dictP hc) hG hm hv (pa_cons (pe_lc (te:=tTup (tCons (LX X.K tk) (tCons (tLst tNil) tNil))) (tt:=LT X.K rY) (g:=LG wk X.K _ g) hc hN hi.pi ok (fun s H C cl fp=>(hg s H C cl fp).pg) (fun s H C cl fp=>oG.pts)
  (fun s H C cl fp=>pe_tup (pa_cons (hk s H C cl fp).pe (pa_cons (pe_lst pa_nil) pa_nil (by rfl)) (hst s H C cl fp))) hs) pa_nil hs1) hn hdb hs1 hpl) ?_⟩
 intro σ H Q h
 exact aAM h
end
end DL
namespace DL
open PySem PySem.Spec L2
open PyProof.Rows hiding St
variable [Tbs] [Bas] {wk:Bool}
def U6 (g:GT) (tt:BT) (ti1:IT) (g1:GT) (tt1:BT) (te:XT) (vs vs1:List Nat):List T->List T->aM->(List T->aM->Prop)->Prop
 | [],acc,ρ,Q=>Q acc ρ
 | t :: ts,acc,ρ,Q=>g t ρ fun ρ1=>tt ρ1 fun b ρ2=>if b=true then ti1 ρ2 fun us ρ3=>acc.length+us.length≤16777216∧iQ g1 tt1 te vs1 us acc (dw ρ3 vs1) fun acc' ρ4=>U6 g tt ti1 g1 tt1 te vs vs1 ts acc' (dw ρ4 vs) Q
   else U6 g tt ti1 g1 tt1 te vs vs1 ts acc (dw ρ2 vs) Q
def Pk (ti:IT) (g:GT) (tt:BT) (ti1:IT) (g1:GT) (tt1:BT) (te:XT) (vs vs1:List Nat):XT:=fun ρ Q=>ti ρ fun ts ρ1=>U6 g tt ti1 g1 tt1 te vs vs1 ts [] (dw ρ1 vs) fun acc ρ2=>Q (.val (.lst acc)) ρ2
end DL
namespace DL
open PySem PySem.Spec L2
open PyProof.Rows hiding St
variable [Tbs] [Bas]
theorem hu1 {n:Nat} (h:n+200<cLine):n+1<cLine:=by omega
def gIsB (neg:Bool):G2:=fun x y Q=>match x,y with
 | .pure (.bool a), .pure (.bool b)=>Q (.pure (.bool (neg ^^ decide (a=b))))
 | _,_=>False
theorem Iu (l:List (Key×T)):O.frz (.dct l)=Vt l:=rfl
theorem Iv {x:O} {t y:T} {l:List (Key×T)} {k:Key} {Q:O->Prop} (h1:dcX x=some l) (h2:Ip t=some k) (h3:z7 l k=some y) (h:Q (.pure y)):Mi x (.pure t) Q:=by
 unfold Mi;rw [h1];dsimp only;rw [h2];dsimp only;rw [h3];exact h
theorem Pn {l:List (Key×T)} {k:Key} {t:T} (h : ∀ p∈l,p.1≠k):WY l k t=l++[(k,t)]:=by
 unfold WY
 rw [if_neg]
 intro q
 obtain ⟨p,hp,e⟩:=List.any_eq_true.mp q
 exact h p hp (of_decide_eq_true e)
theorem qJ : ∀ (m l:List (Key×T)),((l++m).map (·.1)).Nodup->Bv l m=l++m
 | [],l,_=>by simp [Bv]
 | p :: m,l,h=>by
  have hn : ∀ q∈l,q.1≠p.1:=fun q hq e=>by
   rw [List.map_append,List.map_cons] at h
   exact (List.nodup_append.mp h).2.2 _ (List.mem_map_of_mem hq) _ List.mem_cons_self e
  have:=qJ m (l++[p]) (by simpa using h)
  unfold Bv at this ⊢
  rw [List.foldl_cons,Pn hn,this]
  simp
theorem LR {α : Type} {f : α->Key} {g : α->T} (inj : ∀ a b,f a=f b->a=b) (a : α) : ∀ l:List α,a∈l->z7 (l.map fun x=>(f x,g x)) (f a)=some (g a)
 | [],m=>nomatch m
 | b :: l,m=>by
  unfold z7
  rw [List.map_cons,List.find?_cons]
  by_cases e:f b=f a
  ·have:=inj _ _ e;subst this
   simp
  ·rw [show decide (f b=f a)=false from decide_eq_false e]
   have m' : a∈l:=(List.mem_cons.mp m).resolve_left fun q=>e (by rw [q])
   exact LR inj a l m'
theorem Nf {α β : Type} {f : α->Key} {g : α->β} (inj : ∀ a b,f a=f b->a=b) (a : α) : ∀ l:List α,a∈l->klk (l.map fun x=>(f x,g x)) (f a)=some (g a)
 | [],m=>nomatch m
 | b :: l,m=>by
  unfold klk
  rw [List.map_cons,List.find?_cons]
  by_cases e:f b=f a
  ·have:=inj _ _ e;subst this
   simp
  ·rw [show decide (f b=f a)=false from decide_eq_false e]
   have m' : a∈l:=(List.mem_cons.mp m).resolve_left fun q=>e (by rw [q])
   exact Nf inj a l m'
theorem Iw {α β : Type} {f : α->Key} {g : α->β} (inj : ∀ a b,f a=f b->a=b) (a : α) (y : β) [DecidableEq α] : ∀ l:List α,l.Nodup->U3 (l.map fun x=>(f x,g x)) (f a) y=l.map fun x=>(f x,if x=a then y else g x)
 | [],_=>rfl
 | b :: l,nd=>by
  obtain ⟨n1,n2⟩:=List.nodup_cons.mp nd
  rw [List.map_cons,List.map_cons,U3]
  by_cases e:f b=f a
  ·have:=inj _ _ e;subst this
   rw [if_pos rfl,if_pos rfl]
   refine congrArg _ (List.map_congr_left fun x hx => ?_)
   have hne:x≠b:=fun q=>n1 (by rw [← q];exact hx)
   rw [if_neg hne]
  ·rw [if_neg e,Iw inj a y l n2,if_neg fun q=>e (by rw [q])]
end DL
namespace DL
open PySem PySem.Spec L2
open PyProof.Rows hiding St
theorem Iz (t:T):isT "str" t=(match t with | .str _=>true | _=>false):=by cases t<;>rfl
theorem Eu {g:GT} {tt:BT} {te:XT} {vs:List Nat} {ρ : aM} {Q:List T->aM->Prop} (f:T->T) : ∀ (ts acc:List T),
  (∀ t∈ts, ∀ Q' : List T->aM->Prop, ∀ acc' ts',(iQ g tt te vs ts' (acc'++[f t]) ρ Q')->iQ g tt te vs (t :: ts') acc' ρ Q')->Q (acc++ts.map f) ρ->iQ g tt te vs ts acc ρ Q
 | [],acc,_,q=>by simpa [iQ] using q
 | t :: ts,acc,h,q=>h t List.mem_cons_self Q acc ts (Eu f ts _ (fun t m=>h t (List.mem_cons_of_mem _ m)) (by simpa using q))
theorem Ew (f:T->Bool) : ∀ ts:List T,mW (ts.map fun t => .bool (f t))=some (ts.map f)
 | []=>rfl
 | t :: ts=>by simp [mW,Ew f ts]
theorem z9 {g:GT} {tt:BT} {te:XT} {vs:List Nat} {Q:List T->aM->Prop} (Inv:Nat->List T->aM->Prop) (N:Nat) : ∀ (ts:List T) (i:Nat) (acc:List T) (ρ : aM),i+ts.length=N ->
  (∀ i t acc ρ ts' (Q' : List T->aM->Prop),t∈ts->i<N->Inv i acc ρ->(∀ acc' ρ',Inv (i+1) acc' ρ'->iQ g tt te vs ts' acc' ρ' Q')->iQ g tt te vs (t :: ts') acc ρ Q') ->
  Inv i acc ρ->(∀ acc' ρ',Inv N acc' ρ'->Q acc' ρ')->iQ g tt te vs ts acc ρ Q
 | [],i,acc,ρ,e,_,h,q=>by
  unfold iQ
  have : i=N:=by simpa using e
  subst this
  exact q _ _ h
 | t :: ts,i,acc,ρ,e,st,h,q=>st i t acc ρ ts Q List.mem_cons_self (by simp at e;omega) h fun acc' ρ' h'=>z9 Inv N ts (i+1) acc' ρ' (by simp at e;omega) (fun i t acc ρ ts' Q' m=>st i t acc ρ ts' Q' (List.mem_cons_of_mem _ m)) h' q
mutual
def sz:T->Nat
 | .str x=>x.length+1
 | .list xs=>szs xs+1
 | .tuple xs=>szs xs+1
 | .none=>1
 | .bool _=>1
 | .int _=>1
 | .dict _=>1
def szs:List T->Nat
 | []=>0
 | x :: xs=>sz x+szs xs
end
def asc (x:Str):Bool:=x.cps.toList.all fun c=>decide (c<128)
mutual
def lf (b:Nat):T->Bool
 | .int i=>decide (i.natAbs≤b)
 | .str x=>asc x
 | .list xs=>lfs b xs
 | .tuple xs=>lfs b xs
 | .none=>true
 | .bool _=>true
 | .dict kvs=>kvs.isEmpty
def lfs (b:Nat):List T->Bool
 | []=>true
 | x :: xs=>lf b x && lfs b xs
end
theorem J5 : ∀ (a b:List T),szs (a++b)=szs a+szs b
 | [],b=>by simp [szs]
 | x :: a,b=>by simp [szs,J5 a b];omega
theorem J8 {b:Nat} : ∀ {ts:List T},lfs b ts=true ↔ ∀ t∈ts,lf b t=true
 | []=>by simp [lfs]
 | x :: ts=>by simp [lfs,J8 (ts:=ts)]
theorem Af {d:Nat} : ∀ {ts:List T},PyData.depthAll ts≤d ↔ ∀ t∈ts,t.depth≤d
 | []=>by simp [PyData.depthAll]
 | x :: ts=>by
  have h:=Af (d:=d) (ts:=ts)
  simp only [PyData.depthAll,List.mem_cons,forall_eq_or_imp, ← h]
  omega
theorem YG : ∀ {ts:List T} {t:T},t∈ts->sz t≤szs ts
 | x :: ts,t,m=>by
  simp only [szs]
  rcases List.mem_cons.mp m with rfl | m
  ·omega
  ·have:=YG m;omega
theorem Wg (n:Nat) (ts:List T):szs (ts.take n)≤szs ts:=by
 have:=J5 (ts.take n) (ts.drop n)
 rw [List.take_append_drop] at this
 omega
theorem Wh (n:Nat) (ts:List T):szs (ts.drop n)≤szs ts:=by
 have:=J5 (ts.take n) (ts.drop n)
 rw [List.take_append_drop] at this
 omega
theorem U7 {k:Nat} : ∀ {ts:List T},(∀ t∈ts,sz t≤k)->szs ts≤ts.length * k
 | [],_=>by simp [szs]
 | x :: ts,h=>by
  have h1:=h x List.mem_cons_self
  have h2:=U7 (k:=k) (ts:=ts) fun t m=>h t (List.mem_cons_of_mem _ m)
  simp only [szs,List.length_cons,Nat.add_mul,Nat.one_mul]
  omega
theorem U8 : ∀ {ts:List T},ts.length≤szs ts
 | []=>by simp
 | x :: ts=>by
  have:=U8 (ts:=ts)
  have h:1≤sz x:=by cases x<;>simp [sz]
  simp only [szs,List.length_cons]
  omega
structure Gd (w d b:Nat) (t:T):Prop where
 w:sz t≤w
 d:t.depth≤d
 l:lf b t=true
structure Gds (w d b:Nat) (ts:List T):Prop where
 w:szs ts≤w
 d : ∀ t∈ts,t.depth≤d
 l : ∀ t∈ts,lf b t=true
section
variable {w w' d d' b b' : Nat} {t u:T} {ts us:List T}
mutual
theorem Nh (h:b≤b') : ∀ t:T,lf b t=true->lf b' t=true
 | .int i,e=>by simp only [lf,decide_eq_true_eq] at e ⊢; omega
 | .str x,e=>by simpa only [lf] using e
 | .list xs,e=>by simp only [lf] at e ⊢; exact lfs_mono h xs e
 | .tuple xs,e=>by simp only [lf] at e ⊢; exact lfs_mono h xs e
 | .none,_=>by simp only [lf]
 | .bool _,_=>by simp only [lf]
 | .dict kvs,e=>by simpa only [lf] using e
theorem lfs_mono (h:b≤b') : ∀ ts:List T,lfs b ts=true->lfs b' ts=true
 | [],_=>by simp only [lfs]
 | x :: xs,e=>by
  simp only [lfs,Bool.and_eq_true] at e ⊢
  exact ⟨Nh h x e.1,lfs_mono h xs e.2⟩
end
theorem Gd.mono (g:Gd w d b t) (h1:w≤w') (h2:d≤d') (h3:b≤b'):Gd w' d' b' t:=⟨Nat.le_trans g.w h1,Nat.le_trans g.d h2,Nh h3 _ g.l⟩
theorem Gds.mono (g:Gds w d b ts) (h1:w≤w') (h2:d≤d') (h3:b≤b'):Gds w' d' b' ts:=⟨Nat.le_trans g.w h1,fun t m=>Nat.le_trans (g.d t m) h2,fun t m=>Nh h3 _ (g.l t m)⟩
theorem Gds.nil:Gds 0 0 0 []:=⟨by simp [szs],by simp,by simp⟩
theorem Gds.cons (g:Gd w d b t) (h:Gds w' d b ts):Gds (w+w') d b (t :: ts) :=
 ⟨by simp only [szs];have:=g.w;have:=h.w;omega,by simpa using ⟨g.d,h.d⟩,by simpa using ⟨g.l,h.l⟩⟩
theorem Gds.app (g:Gds w d b ts) (h:Gds w' d b us):Gds (w+w') d b (ts++us) :=
 ⟨by rw [J5];have:=g.w;have:=h.w;omega,fun t m=>(List.mem_append.mp m).elim (g.d t) (h.d t),fun t m=>(List.mem_append.mp m).elim (g.l t) (h.l t)⟩
theorem Gds.sub (g:Gds w d b ts) (h1:szs us≤szs ts) (h2 : ∀ t∈us,t∈ts):Gds w d b us:=⟨Nat.le_trans h1 g.w,fun t m=>g.d t (h2 t m),fun t m=>g.l t (h2 t m)⟩
theorem Gds.take (g:Gds w d b ts) (n:Nat):Gds w d b (ts.take n):=g.sub (Wg n ts) fun _ m=>List.mem_of_mem_take m
theorem Gds.drop (g:Gds w d b ts) (n:Nat):Gds w d b (ts.drop n):=g.sub (Wh n ts) fun _ m=>List.mem_of_mem_drop m
theorem Gds.mem (g:Gds w d b ts) (m:t∈ts):Gd w d b t:=⟨Nat.le_trans (YG m) g.w,g.d t m,g.l t m⟩
theorem Gds.one (g:Gd w d b t):Gds w d b [t]:=⟨by simp only [szs];exact g.w,by simpa using g.d,by simpa using g.l⟩
theorem Gds.len (g:Gds w d b ts):ts.length≤w:=Nat.le_trans U8 g.w
theorem Gd.tup (g:Gds w d b ts):Gd (w+1) (d+1) b (.tuple ts):=⟨by simp only [sz];have:=g.w;omega,by simp only [PyData.depth];have:=Af.mpr g.d;omega,by simp only [lf];exact J8.mpr g.l⟩
theorem Gd.lst (g:Gds w d b ts):Gd (w+1) (d+1) b (.list ts):=⟨by simp only [sz];have:=g.w;omega,by simp only [PyData.depth];have:=Af.mpr g.d;omega,by simp only [lf];exact J8.mpr g.l⟩
theorem Gd.tupE (g:Gd w d b (.tuple ts)):Gds (w - 1) (d - 1) b ts:=by
 obtain ⟨h1,h2,h3⟩:=g
 simp only [sz,PyData.depth,lf] at h1 h2 h3
 exact ⟨by omega,Af.mp (by omega),J8.mp h3⟩
theorem Gd.str {x:Str} (h:x.length<w) (a:asc x=true):Gd w d b (.str x):=⟨by simp only [sz];omega,by simp [PyData.depth],by simpa only [lf] using a⟩
theorem Gd.strE {x:Str} (g:Gd w d b (.str x)):x.length<w∧asc x=true:=⟨by have:=g.w;simp only [sz] at this;omega,by simpa only [lf] using g.l⟩
theorem Gd.int {i:Int} (h:i.natAbs≤b):Gd 1 d b (.int i):=⟨by simp [sz],by simp [PyData.depth],by simpa [lf] using h⟩
theorem Gd.intE {i:Int} (g:Gd w d b (.int i)):i.natAbs≤b:=by simpa only [lf,decide_eq_true_eq] using g.l
theorem Gd.bool {c:Bool}:Gd 1 d b (.bool c):=⟨by simp [sz],by simp [PyData.depth],by simp [lf]⟩
theorem Gd.none:Gd 1 d b .none:=⟨by simp [sz],by simp [PyData.depth],by simp [lf]⟩
end
theorem ZQ {x y:Str} (h:asc x=true) (k:asc y=true):asc (x++y)=true:=by
 unfold asc at *
 rw [PySem.Str.cps_append,Array.toList_append,List.all_append,h,k];rfl
theorem ZR {c:Nat} (h:c<128):asc ⟨#[c]⟩=true:=by simp [asc,h]
mutual
theorem Pq {b:Nat} (hb:b<10 ^ 30) : ∀ t:T,lf b t=true->t.shown.length+2≤40 * sz t
 | .int i,e=>by
  simp only [lf,decide_eq_true_eq] at e
  have h:i.natAbs<10 ^ 30:=by omega
  have h2:(Str.ofString (toString i)).length≤31:=by
   have:=int_text_length_le10 (k:=30) (by decide) h
   rw [PySem.ofString_length]
   omega
  have e2:(PyData.shown (.int i))=Str.ofString (toString i):=by simp only [PyData.shown]
  rw [e2]
  simp only [sz]
  omega
 | .str x,e=>by
  simp only [lf] at e
  have h : ∀ c∈x.cps.toList,c<16 ^ 8:=fun c m=>Nat.lt_trans (of_decide_eq_true (List.all_eq_true.mp e c m)) (by decide)
  have h2:=StrLaws.reprText_len x h
  simp only [PyData.shown,sz]
  omega
 | .list xs,e=>by
  simp only [lf] at e
  have h1:=shown_szs hb xs e
  have h2:=listText_len_le (PyData.shownAll xs)
  simp only [PyData.shown,sz]
  omega
 | .tuple xs,e=>by
  simp only [lf] at e
  have h1:=shown_szs hb xs e
  have h2:=tupleText_len_le (PyData.shownAll xs)
  simp only [PyData.shown,sz]
  omega
 | .none,_=>by
  have e:(PyData.shown .none).length=4:=rfl
  simp only [sz];omega
 | .bool c,_=>by
  have e:(PyData.shown (.bool c)).length≤5:=by cases c<;>decide
  simp only [sz];omega
 | .dict kvs,e=>by
  simp only [lf,List.isEmpty_iff] at e
  subst e
  have h2:=dictText_len_le []
  simp only [PyData.shown,PyData.shownKv,sz]
  simp at h2
  omega
theorem shown_szs {b:Nat} (hb:b<10 ^ 30) : ∀ xs:List T,lfs b xs=true->((PyData.shownAll xs).map (·.length)).sum+2 * (PyData.shownAll xs).length≤40 * szs xs
 | [],_=>by simp [PyData.shownAll,szs]
 | x :: xs,e=>by
  simp only [lfs,Bool.and_eq_true] at e
  have h1:=Pq hb x e.1
  have h2:=shown_szs hb xs e.2
  simp only [PyData.shownAll,szs,List.map_cons,List.sum_cons,List.length_cons]
  omega
end
mutual
theorem Ey {b:Nat} (hb:b<10 ^ 30) : ∀ t:T,lf b t=true->t.showable=true
 | .int i,e=>by
  simp only [lf,decide_eq_true_eq] at e
  simp only [PyData.showable,decide_eq_true_eq]
  have : i.natAbs<2 ^ 100:=Nat.lt_of_le_of_lt e (Nat.lt_trans hb (by decide))
  exact Nat.lt_trans (PySem.Flt.log2_lt_of (by decide) this) (by decide)
 | .str x,e=>by simp only [PyData.showable]
 | .list xs,e=>by simp only [PyData.showable];exact lfs_showable hb xs (by simpa only [lf] using e)
 | .tuple xs,e=>by simp only [PyData.showable];exact lfs_showable hb xs (by simpa only [lf] using e)
 | .none,_=>by simp only [PyData.showable]
 | .bool c,_=>by simp only [PyData.showable]
 | .dict kvs,e=>by
  simp only [lf,List.isEmpty_iff] at e
  subst e
  simp only [PyData.showable,PyData.showableKv]
theorem lfs_showable {b:Nat} (hb:b<10 ^ 30) : ∀ xs:List T,lfs b xs=true->PyData.showableAll xs=true
 | [],_=>by simp only [PyData.showableAll]
 | x :: xs,e=>by
  simp only [lfs,Bool.and_eq_true] at e
  simp only [PyData.showableAll,Ey hb x e.1,lfs_showable hb xs e.2,Bool.and_self]
end
section
variable {ρ : aM} {j i:Nat} {p q:Opd} {ps:List Opd} {o:O} {P:Nat->Bool} {fl:List Bool}
def dW (j:Nat) (ρ : aM) (Q:Opd->aM->Prop):Option (Option O)->Prop
 | some (some (.pure t))=>Q (.val (.pure t)) ρ
 | some (some (.lst ts))=>Q (.slot j) ρ
 | some (some (.dct k))=>Q (.slot j) ρ
 | some (some (.dcl k))=>Q (.slot j) ρ
 | some (some (.exc k))=>Q (.slot j) ρ
 | some (some (.thk k))=>Q (.slot j) ρ
 | some (some (.dtt k))=>Q (.slot j) ρ
 | some (some .any)=>Q (.slot j) ρ
 | some (some (.dcf k))=>Q (.slot j) ρ
 | some (some (.ins c fs))=>Q (.slot j) ρ
 | some (some (.dtf k))=>Q (.slot j) ρ
 | some (some (.dtp k))=>Q (.slot j) ρ
 | some (some (.stf k))=>Q (.slot j) ρ
 | some (some (.lls k))=>Q (.slot j) ρ
 | some (some (.thi k i c fs))=>Q (.slot j) ρ
 | some (some (.ina k c fs))=>Q (.slot j) ρ
 | some none=>False
 | none=>False
theorem J9 {Q:Opd->aM->Prop}:aF j ρ Q=dW j ρ Q ρ[j]? := by
 unfold aF
 rcases ρ[j]? with _ | _ | o
 ·rfl
 ·rfl
 ·cases o<;>rfl
def atK (Q:O->Prop):Option (Option O)->Prop
 | some (some o)=>Q o
 | some none=>False
 | none=>False
theorem JB {Q:T->aM->Prop}:fV (.val o) ρ Q=(o.fz∧Q o.frz ρ):=rfl
theorem JC {Q:T->aM->Prop}:fV (.slot j) ρ Q=atK (fun o=>o.fz∧Q o.frz (ρ.set j (some (.pure o.frz)))) ρ[j]? := by
 rw [fV]
 rcases ρ[j]? with _ | _ | o<;>rfl
theorem JD {Q:O->aM->Prop}:m7 (.val o) ρ Q=Q o.alias ρ:=rfl
theorem JF {Q:O->aM->Prop}:m7 (.slot j) ρ Q=atK (fun o=>Q o.alias (ρ.set j (some o.alias))) ρ[j]? := by
 rw [m7]
 rcases ρ[j]? with _ | _ | o<;>rfl
theorem JG {Q:O->aM->Prop}:m9 (.val o) ρ Q=Q o ρ:=rfl
theorem JH {Q:O->aM->Prop}:m9 (.slot j) ρ Q=atK (fun o=>Q o.alias (ρ.set j (some o.alias))) ρ[j]? := by
 rw [m9]
 rcases ρ[j]? with _ | _ | o<;>rfl
theorem JK {Q:O->aM->Prop}:mD P (.val o) ρ Q=Q o ρ:=rfl
theorem JL {Q:O->aM->Prop}:mD P (.slot j) ρ Q=atK (fun o=>if P j=true then Q o.alias (ρ.set j (some o.alias)) else Q o (ρ.set j none)) ρ[j]? := by
 rw [mD]
 rcases ρ[j]? with _ | _ | o<;>rfl
theorem Pr {Q:List O->List (Option Nat)->aM->Prop}:rE [] [] ρ Q=Q [] [] ρ:=rfl
theorem JM {Q:List O->List (Option Nat)->aM->Prop}:rE (true :: fl) (.val o :: ps) ρ Q=rE fl ps ρ fun os js ρ'=>Q (o :: os) (none :: js) ρ':=rfl
theorem JN {Q:List O->List (Option Nat)->aM->Prop}:rE (true :: fl) (.slot j :: ps) ρ Q=atK (fun o=>rE fl ps (ρ.set j none) fun os js ρ'=>Q (o :: os) (some j :: js) ρ') ρ[j]? := by
 rw [rE]
 rcases ρ[j]? with _ | _ | o<;>rfl
theorem Pu {Q:List O->List (Option Nat)->aM->Prop}:rE (false :: fl) (p :: ps) ρ Q=m7 p ρ fun o ρ1=>rE fl ps ρ1 fun os js ρ'=>Q (o :: os) js ρ':=by
 rw [rE]
def lstK (Q:List T->Prop):Option (Option O)->Prop
 | some (some (.lst ts))=>Q ts
 | some (some (.pure t))=>False
 | some (some (.dct k))=>False
 | some (some (.dcl k))=>False
 | some (some (.exc k))=>False
 | some (some (.thk k))=>False
 | some (some (.dtt k))=>False
 | some (some .any)=>False
 | some (some (.dcf k))=>False
 | some (some (.ins c fs))=>False
 | some (some (.dtf k))=>False
 | some (some (.dtp k))=>False
 | some (some (.stf k))=>False
 | some (some (.lls k))=>False
 | some (some (.thi k i c fs))=>False
 | some (some (.ina k c fs))=>False
 | some none=>False
 | none=>False
theorem mX {Q:List T->Prop}:gY ρ j Q=lstK Q ρ[j]? := by
 unfold gY
 rcases ρ[j]? with _ | _ | o
 ·rfl
 ·rfl
 ·cases o<;>rfl
def g2K (g:G2) (Q:O->Prop):Option O->Option O->Prop
 | some x,some y=>g x y Q
 | none,_=>False
 | some _,none=>False
theorem g2_k {g:G2} {Q:O->Prop}:g2 g ρ p q Q=g2K g Q (p.get ρ) (q.get ρ):=by
 unfold g2
 rcases p.get ρ with _ | x
 ·rfl
 ·rcases q.get ρ with _ | y<;>rfl
def g1K (g:G1) (Q:O->Prop):Option O->Prop
 | some x=>g x Q
 | none=>False
theorem g1_k {g:G1} {Q:O->Prop}:g1 g ρ p Q=g1K g Q (p.get ρ):=by
 unfold g1
 rcases p.get ρ with _ | x<;>rfl
def gNK (g:GN) (Q:O->Prop):Option (List O)->Prop
 | some x=>g x Q
 | none=>False
theorem gN_k {g:GN} {Q:O->Prop}:gN g ρ ps Q=gNK g Q (dH ρ ps):=by
 unfold gN
 rcases dH ρ ps with _ | x<;>rfl
def boK (Q:Bool->Prop):Option O->Prop
 | some (.pure (.bool b))=>Q b
 | _=>False
theorem Wi {Q:Bool->Prop}:bOf ρ p Q=boK Q (p.get ρ):=by
 unfold bOf
 rcases p.get ρ with _ | x
 ·rfl
 ·cases x with
  | pure t=>cases t<;>rfl
  | _=>rfl
def aAN (n:String) (ρ : aM) (Q:Opd->aM->Prop):Option O->Prop
 | some o=>o.fz∧Q (.val (.pure (.bool (isT n o.frz)))) ρ
 | none=>False
theorem Px {n:String} {te:XT} {Q:Opd->aM->Prop}:Ca n te ρ Q=te ρ fun p ρ1=>aAN n ρ1 Q (p.get ρ1):=by
 unfold Ca
 refine congrArg _ (funext fun p=>funext fun ρ1 => ?_)
 rcases p.get ρ1 with _ | x<;>rfl
def U9 (ρ : aM) (Q:Option Int->aM->Prop):Option O->Prop
 | some (.pure (.int i))=>Q (some i) ρ
 | _=>False
theorem Py {Q:Option Int->aM->Prop}:lC none ρ Q=Q none ρ:=rfl
theorem Q3 {t:XT} {Q:Option Int->aM->Prop}:lC (some t) ρ Q=t ρ fun p ρ1=>U9 ρ1 Q (p.get ρ1):=by
 rw [lC]
 refine congrArg _ (funext fun p=>funext fun ρ1 => ?_)
 rcases p.get ρ1 with _ | x
 ·rfl
 ·cases x with
  | pure t=>cases t<;>rfl
  | _=>rfl
def La (lo hi:Option Int) (ρ : aM) (Q:Opd->aM->Prop):Option O->Prop
 | some (.pure (.str z))=>z.length≤16777216∧Q (.val (.pure (.str (cutS z lo hi)))) ρ
 | some (.pure (.tuple ts))=>Q (.val (.pure (.tuple (Ik ts lo hi)))) ρ
 | some (.lst ts)=>Q (.val (.lst (Ik ts lo hi))) ρ
 | some (.pure (.list ts))=>Q (.val (.lst (Ik ts lo hi))) ρ
 | _=>False
theorem Q4 {te:XT} {tl th:Option XT} {Q:Opd->aM->Prop}:yx te tl th ρ Q=te ρ fun p ρ1=>lC tl ρ1 fun lo ρ2=>lC th ρ2 fun hi ρ3=>La lo hi ρ3 Q (p.get ρ3):=by
 unfold yx
 refine congrArg _ (funext fun p=>funext fun ρ1 => ?_)
 refine congrArg _ (funext fun lo=>funext fun ρ2 => ?_)
 refine congrArg _ (funext fun hi=>funext fun ρ3 => ?_)
 rcases p.get ρ3 with _ | x
 ·rfl
 ·cases x with
  | pure t=>cases t<;>rfl
  | _=>rfl
def Ro (ρ : aM) (Q:Opd->aM->Prop):Option O->Prop
 | some (.pure (.tuple ts))=>Q (.val (.pure (.tuple ts.reverse))) ρ
 | some (.lst ts)=>Q (.val (.lst ts.reverse)) ρ
 | some (.pure (.list ts))=>Q (.val (.lst ts.reverse)) ρ
 | _=>False
theorem Q5 {te:XT} {Q:Opd->aM->Prop}:GP te ρ Q=te ρ fun p ρ1=>Ro ρ1 Q (p.get ρ1):=by
 unfold GP
 refine congrArg _ (funext fun p=>funext fun ρ1 => ?_)
 rcases p.get ρ1 with _ | x
 ·rfl
 ·cases x with
  | pure t=>cases t<;>rfl
  | _=>rfl
def UG (f:Str->Str) (C:Str->Prop) (ρ : aM) (Q:Opd->aM->Prop):Option O->Prop
 | some (.pure (.str z))=>C z∧Q (.val (.pure (.str (f z)))) ρ
 | _=>False
theorem JP {f:Str->Str} {C:Str->Prop} {te:XT} {Q:Opd->aM->Prop}:ph f C te ρ Q=te ρ fun p ρ1=>UG f C ρ1 Q (p.get ρ1):=by
 unfold ph
 refine congrArg _ (funext fun p=>funext fun ρ1 => ?_)
 rcases p.get ρ1 with _ | x
 ·rfl
 ·cases x with
  | pure t=>cases t<;>rfl
  | _=>rfl
def itK (Q:List T->Prop):Option (List T)->Prop
 | some ts=>Q ts
 | none=>False
theorem JQ {te:XT} {Q:List T->aM->Prop}:iW te ρ Q=te ρ fun p ρ1=>fV p ρ1 fun t ρ2=>itK (fun ts=>Q ts ρ2) (bK t):=by
 unfold iW
 refine congrArg _ (funext fun p=>funext fun ρ1 => ?_)
 refine congrArg _ (funext fun t=>funext fun ρ2 => ?_)
 rcases bK t with _ | x<;>rfl
def UJ (Q:List T->Prop):List T->Prop
 | [t]=>itK (fun ts=>Q (cQ ts)) (bK t)
 | _=>False
theorem JR {ts:XTs} {Q:List T->aM->Prop}:nM ts ρ Q=ts ρ fun ps ρ1=>cA ps ρ1 fun ts ρ2=>UJ (fun ts=>Q ts ρ2) ts:=by
 unfold nM
 refine congrArg _ (funext fun p=>funext fun ρ1 => ?_)
 refine congrArg _ (funext fun t=>funext fun ρ2 => ?_)
 match t with
 | []=>rfl
 | [t] =>
  show (match bK t with
   | some ts=>Q (cQ ts) ρ2
   | none=>False)=itK _ (bK t)
  rcases bK t with _ | x<;>rfl
 | _ :: _ :: _=>rfl
def Vu (Q:List T->Prop):List T->Prop
 | [.list ts, .list us]=>Q (DW ts us)
 | [.tuple ts, .tuple us]=>Q (DW ts us)
 | _=>False
theorem Q6 {ts:XTs} {Q:List T->aM->Prop}:GJ ts ρ Q=ts ρ fun ps ρ1=>cA ps ρ1 fun ts ρ2=>Vu (fun ts=>Q ts ρ2) ts:=by
 unfold GJ
 refine congrArg _ (funext fun p=>funext fun ρ1 => ?_)
 refine congrArg _ (funext fun t=>funext fun ρ2 => ?_)
 unfold Vu
 split<;>simp_all
def Gj (Q:List Int->Prop):Option (List O)->Prop
 | some [.pure (.int i)]=>Q [i]
 | some [.pure (.int i), .pure (.int j)]=>Q [i,j]
 | _=>False
theorem De {Q:List Int->Prop}:gW ρ ps Q=Gj Q (dH ρ ps):=by
 unfold gW Gj
 split<;>simp_all
def aAO (Q:List O->Prop):Option (List O)->Prop
 | some os=>Q os
 | none=>False
theorem Q7 {Q:List O->Prop}:Bj fl ρ Q=aAO Q (dI fl 0 ρ):=by
 unfold Bj
 rcases dI fl 0 ρ with _ | x<;>rfl
def aAP (j:Nat) (ρ : aM) (Q:Opd->aM->Prop):Option O->Prop
 | some (.lst us)=>lstK (fun ts=>ts.length+us.length≤16777216∧Q (.val (.pure .none)) (ρ.set j (some (.lst (ts++us))))) ρ[j]?
 | _=>False
theorem zA {te:XT} {Q:Opd->aM->Prop}:eU j te ρ Q=lstK (fun _=>te ρ fun p ρ1=>aAP j ρ1 Q (p.get ρ1)) ρ[j]? := by
 unfold eU
 rw [mX]
 refine congrArg (lstK · _) (funext fun _ => ?_)
 refine congrArg _ (funext fun p=>funext fun ρ1 => ?_)
 rcases p.get ρ1 with _ | x
 ·rfl
 ·cases x with
  | lst t=>show gY _ _ _=lstK _ _;rw [mX]
  | _=>rfl
theorem zB {te:XT} {Q:Opd->aM->Prop}:cX j te ρ Q=lstK (fun _=>te ρ fun p ρ1=>fV p ρ1 fun y ρ2=>lstK (fun ts=>ts.length<16777216∧Q (.val (.pure .none)) (ρ2.set j (some (.lst (ts++[y]))))) ρ2[j]?) ρ[j]? := by
 unfold cX
 rw [mX]
 refine congrArg (lstK · _) (funext fun _ => ?_)
 refine congrArg _ (funext fun p=>funext fun ρ1 => ?_)
 refine congrArg _ (funext fun y=>funext fun ρ2 => ?_)
 rw [mX]
def Ld (j:Nat) (y:T) (ρ : aM) (D:qY):Option O->Prop
 | some (.pure (.int k))=>lstK (fun ts=>match ixN ts.length k with
  | some m=>D.nx (ρ.set j (some (.lst (ts.set m y))))
  | none=>False) ρ[j]?
 | _=>False
theorem Df {te ti:XT} {D:qY}:gh j te ti D ρ=te ρ fun p ρ1=>fV p ρ1 fun y ρ2=>lstK (fun _=>ti ρ2 fun q ρ3=>Ld j y ρ3 D (q.get ρ3)) ρ2[j]? := by
 unfold gh
 refine congrArg _ (funext fun p=>funext fun ρ1 => ?_)
 refine congrArg _ (funext fun y=>funext fun ρ2 => ?_)
 rw [mX]
 refine congrArg (lstK · _) (funext fun _ => ?_)
 refine congrArg _ (funext fun q=>funext fun ρ3 => ?_)
 rcases q.get ρ3 with _ | x
 ·rfl
 ·cases x with
  | pure t =>
   cases t with
   | int k=>show gY _ _ _=lstK _ _;rw [mX]<;>rfl
   | _=>rfl
  | _=>rfl
def Le (j:Nat) (ρ : aM) (Q:Opd->aM->Prop):Option O->Prop
 | some (.pure (.int i))=>lstK (fun ts=>match ixN ts.length i with
  | some k=>match ts[k]? with
   | some y=>Q (.val (.pure y)) (ρ.set j (some (.lst (ts.eraseIdx k))))
   | none=>False
  | none=>False) ρ[j]?
 | _=>False
theorem Dg {te:XT} {Q:Opd->aM->Prop}:Ow j te ρ Q=lstK (fun _=>te ρ fun p ρ1=>Le j ρ1 Q (p.get ρ1)) ρ[j]? := by
 unfold Ow
 rw [mX]
 refine congrArg (lstK · _) (funext fun _ => ?_)
 refine congrArg _ (funext fun q=>funext fun ρ3 => ?_)
 rcases q.get ρ3 with _ | x
 ·rfl
 ·cases x with
  | pure t =>
   cases t with
   | int k=>show gY _ _ _=lstK _ _;rw [mX]<;>rfl
   | _=>rfl
  | _=>rfl
theorem JS {j:Nat} {ρ : aM} : ρ.at j=Option.join ρ[j]? := by
 unfold aM.at
 rcases ρ[j]? with _ | _ | o<;>rfl
theorem zE {α : Type} {x:Option α}:Option.join (some x)=x:=rfl
theorem Dh {os:List O} {ρ : aM}:rG [] os ρ=ρ:=by
 cases os<;>rfl
theorem Q8 {ts:List T}:rR (.lst ts)=some ts:=rfl
theorem Q9 {ts:List T}:rR (.pure (.list ts))=some ts:=rfl
theorem QC {ts:List T}:rR (.pure (.tuple ts))=some ts:=rfl
end
theorem ati0 {α : Type} {a : α} {l:List α}:atI (a :: l) 0=some a:=by simp [atI,ixN]
theorem ati1 {α : Type} {a b : α} {l:List α}:atI (a :: b :: l) 1=some b:=by
 unfold atI ixN
 rw [if_pos (by omega),if_pos (by simp;omega)]
 rfl
theorem ati2 {α : Type} {a b c : α} {l:List α}:atI (a :: b :: c :: l) 2=some c:=by
 unfold atI ixN
 rw [if_pos (by omega),if_pos (by simp;omega)]
 rfl
theorem JT {ts:List T} {i:Int} (h:0≤i):Ik ts none (some i)=ts.take i.toNat:=by
 unfold Ik
 have e:HT.sIx ts.length ts.length (some i)=min i.toNat ts.length:=by
  show (if i<0 then _ else _)=_
  rw [if_neg (by omega)]
 rw [e,HT.sIx_none,Nat.sub_zero,List.drop_zero]
 by_cases g:i.toNat≤ts.length
 ·rw [Nat.min_eq_left g]
 ·rw [Nat.min_eq_right (by omega),List.take_length,List.take_of_length_le (by omega)]
theorem QD {ts:List T} {i:Int} (h:0≤i):Ik ts (some i) none=ts.drop i.toNat:=by
 unfold Ik
 have e:HT.sIx ts.length 0 (some i)=min i.toNat ts.length:=by
  show (if i<0 then _ else _)=_
  rw [if_neg (by omega)]
 rw [e,HT.sIx_none]
 have e2:ts.drop (min i.toNat ts.length)=ts.drop i.toNat:=by
  by_cases g:i.toNat≤ts.length
  ·rw [Nat.min_eq_left g]
  ·rw [Nat.min_eq_right (by omega),List.drop_length,List.drop_of_length_le (by omega)]
 rw [e2]
 exact List.take_of_length_le (by rw [List.length_drop];omega)
theorem aAQ {α : Type} {ts:List α} {i:Int} {t : α} (h:0≤i) (e:atI ts i=some t):ts[i.toNat]? = some t:=by
 unfold atI ixN at e
 rw [if_pos h] at e
 split at e
 ·exact e
 ·cases e
theorem JV [Tbs] {K:PySem.W.Frag} {H:Hp} {F:Addr->Prop} : ∀ ns:List Int,RPs K H F (ns.map V.int) (ns.map PyData.int)
 | [] => .nil
 | i :: ns => .cons (RP.int i) (JV ns)
theorem Wj [Tbs] {K:PySem.W.Frag} {H:Hp} {a:Addr} {ns:List Int} {spec:bU} {Q:VK} {E:XK} (hT:LamX.Tabs Tbs.T H) (hS:SqL K H a (ns.map V.int)) (h:spec [.pure (.list (ns.map PyData.int))] fun o outs=>o = .pure (.bool true)) (q : ∀ H',Q (.bl true) H'):ASp K [false] spec [.ref a] H Q E:=by
 refine ⟨[.pure (.list (ns.map PyData.int))],fun _=>[], [],_,rfl, ?_,fun _ _=>rfl,h,fun v o A outs H' fp' R _ r _ _ _ _ e => ?_⟩
 ·have nF : ∀ a, ¬ Or1 (Fo fun _=>[]) [] a:=fun a z=>by
   rcases z with ⟨i,m⟩ | m
   ·cases m
   ·cases m
  refine ⟨fun i o e => ?_,fun _ _=>rfl,fun i j a m=>(nomatch m),fun _=>List.nodup_nil,fun a m=>(nomatch m),fun a m=>(nomatch m),rfl,hT⟩
  match i,e with
  | 0,e =>
   cases e
   refine ⟨.ref a,rfl,rfl, ?_⟩
   rcases hS with hS | ⟨o,its,n,h1,h2,h3,h4,h5,h6⟩
   ·exact RP.lst hS (JV ns) (nF a)
   ·obtain ⟨as,r,m⟩:=(JV (K:=K) (H:=H) (F:=Or1 (Fo fun _=>[]) []) ns).rvs
    exact ⟨as, .lstK h1 h2 h3 h4 h5 h6 r,m⟩
  | i+1,e=>simp at e
 ·subst e
  obtain rfl:=RP.boolE r.2
  exact q _
variable [Tbs] [Bas]
theorem Rp {X:Cx} (hc:X.calm=true):CallR X (.type "dict") (fun xs H Q => ∃ (a:Addr) (ps:List Addr) (kvs:List (Key×V)),xs=[.ref a]∧SqP H a (ps.map V.ref)∧Paired (fun p (kv:Key×V)=>SqT X.K H p [kV kv.1,kv.2]) ps kvs ∧
  ∀ p,H p=none->Q (.ref p) (upd H p (.dK (mergeK [] kvs)))):=by
 rintro pins s σ H xs us Q I r ⟨a,ps,kvs,rfl,⟨o,hq,oc,od⟩,hp,q⟩
 obtain ⟨u,rfl,rx⟩:=vals1 r
 cases rx
 obtain ⟨ho,hz,its,rv,o',ho',hc',n,hdat⟩:=(show ObjOk X.prog X.w H s.heap a (.frz o (.tup (ps.map V.ref))) from I.hok a _ hq)
 rw [ho] at ho'
 cases ho'
 have ei:=refs_at rv
 subst ei
 rw [List.length_map] at hz
 obtain ⟨prs,rel,hl,hpr⟩:=pairs_of I hp
 have hk : ∀ j:Nat, ∃ q:Value×Value,j<ps.length->(∃ k,prs[j]? = some (k,q.2)∧keyIs k q.1=true)∧IsTup s.heap (ps.getD j 0) #[q.1,q.2]:=fun j=>by
  by_cases h:j<ps.length
  ·obtain ⟨y,ey⟩ : ∃ y,prs[j]? = some y:=⟨prs[j]'(by omega),List.getElem?_eq_getElem (by omega)⟩
   obtain ⟨b,k,e1,e2,e3⟩:=hpr j y ey
   refine ⟨(k,y.2),fun _=>⟨⟨y.1,ey,e3⟩, ?_⟩⟩
   rw [List.getD_eq_getElem?_getD,e1]
   exact e2
  ·exact ⟨(.none, .none),fun z=>absurd z h⟩
 let kv:Nat->Value×Value:=fun j=>(hk j).choose
 have hkv : ∀ j,j<ps.length->(∃ k,prs[j]? = some (k,(kv j).2)∧keyIs k (kv j).1=true)∧IsTup s.heap (ps.getD j 0) #[(kv j).1,(kv j).2]:=fun j=>(hk j).choose_spec
 let pl:List (Value×Value):=(List.range ps.length).map kv
 have pll:pl.length=ps.length:=by simp [pl]
 have pat : ∀ {j:Nat} {x:Value×Value},pl[j]? = some x->j<ps.length∧x=kv j:=fun {j x} e=>by
  have h:j<ps.length:=by rw [← pll];exact (List.getElem?_eq_some_iff.mp e).1
  refine ⟨h, ?_⟩
  simp only [pl] at e
  rw [List.getElem?_map,List.getElem?_range h] at e
  exact (Option.some.inj e).symm
 have P:=PairArg.tuple (prog:=X.prog) (w:=X.w) a ((ps.map fun a=>Value.ref a).toArray) (fun j=>ps.getD j 0) pl
 refine PySem.call_dict_pairs (knd:=mixKind X.prog X.w) (kvs:=prs) P (I.ok.hd hc) ⟨⟨o,n,ho,oc,od,hdat⟩, ?_⟩ ⟨by rw [pll];exact hl, ?_⟩ (by rw [pll];exact hz) fun h' tk hd' kp => ?_
 ·refine ⟨by rw [pll];simp,fun j k v e => ?_⟩
  obtain ⟨h,ex⟩:=pat e
  obtain ⟨_,e2⟩:=hkv j h
  have ek:(kv j).1=k:=congrArg Prod.fst ex.symm
  have ev:(kv j).2=v:=congrArg Prod.snd ex.symm
  rw [ek,ev] at e2
  refine ⟨?_, .inl e2⟩
  show ((ps.map fun a=>Value.ref a).toArray)[j]? = some (.ref (ps.getD j 0))
  rw [List.getElem?_toArray,List.getElem?_map,List.getD_eq_getElem?_getD,List.getElem?_eq_getElem h]
  rfl
 ·intro j k v e
  obtain ⟨h,ex⟩:=pat (show pl[j]? = some (k,v) from e)
  obtain ⟨⟨k',e1,e3⟩,_⟩:=hkv j h
  have ek:(kv j).1=k:=congrArg Prod.fst ex.symm
  have ev:(kv j).2=v:=congrArg Prod.snd ex.symm
  rw [ev] at e1
  rw [ek] at e3
  exact ⟨k',e1,e3⟩
 ·have hm:(s.heap.objs.size == sysModules)=false:=beq_eq_false_iff_ne.mpr (Nat.ne_of_gt I.big)
  have hlen:(mergeK [] kvs).length≤sizeLine:=by
   refine Nat.le_trans (length_mergeK kvs []) ?_
   rw [List.length_nil,Nat.zero_add,rel.length,hl]
   exact hz
  exact ⟨.ref s.heap.objs.size,_,I.laid (t':=tk) (fun b o e=>kp b o (by simp) e) (Nat.le_refl _) (show ObjOk X.prog X.w _ _ _ (.dK (mergeK [] kvs)) from ⟨hlen,hm,merged [] prs,KV.merge rel .nil,hd'⟩),rfl,q _ (I.hok.fresh (Nat.le_refl _))⟩
def xO:GN:=fun os Q=>match os with
 | [o]=>match rR o with
  | some ts=>match z8 ts with
   | some l=>Q (.dct (Bv [] l))
   | none=>False
  | none=>False
 | _=>False
theorem sJ {X:Cx} (hc:X.calm=true):iT X (.type "dict") xO:=iT.mk fun pins s σ H F vs xs us Q Qa I r hx h fin=>by
 unfold xO at h
 split at h
 ·rename_i o
  split at h
  ·rename_i ts e
   split at h
   ·rename_i l el
    cases hx with
    | cons h1 hr =>
     cases hr
     unfold rR at e
     split at e
     ·rename_i us' es
      cases e
      obtain ⟨a,us',rfl,sl,rp⟩:=h1.ls es
      obtain ⟨ps,kvs,rfl,q1,q2⟩:=U0 rp el
      exact call_dictP hc pins s σ H _ _ Q I r ⟨a,ps,kvs,rfl,sl,q1,fun p hp=>fin.dct hp (q2.merge .nil) h⟩
     ·obtain ⟨a,us',rfl,sp,rp⟩ : ∃ a us',_=V.ref a∧SqP H a us'∧RPs X.K H F us' ts:=by
       cases o with
       | pure t =>
        cases t with
        | tuple us2=>cases e;exact RP.tupP h1
        | _=>cases e
       | _=>cases e
      obtain ⟨ps,kvs,rfl,q1,q2⟩:=U0 rp el
      exact Rp hc pins s σ H _ _ Q I r ⟨a,ps,kvs,rfl,sp,q1,fun p hp=>fin.dct hp (q2.merge .nil) h⟩
   ·exact h.elim
  ·exact h.elim
 ·exact h.elim
end DL
namespace DL
open PySem PySem.Spec L2
open PyProof.Rows hiding St
variable [Tbs]
section
variable {X:Cx} {pins pn' : List (Addr×Obj)} {σ : St} {H:Hp} {s:Shared} {a:Addr} {oe:Obj} {vs:Array Value} {cls:Value} {d:Option Addr}
theorem Inv.inSuite (I:Inv X pins σ H s) (a:Addr):Inv (X.suite a (X.pn++pins)) [] σ H s where
 ok:=I.ok.suite _ _
 os:=I.os
 bare:=I.bare
 base:=I.base
 loc:=I.loc
 cell:=I.cell
 free:=I.free
 freeC:=I.freeC
 pin p hp:=I.pin p (by simpa using hp)
 hok:=I.hok
 len:=I.len
theorem Inv.outSuite (I:Inv (X.suite a (X.pn++pins)) pn' σ H s) (ok:X.Ok):Inv X pins σ H s where
 ok:=ok
 os:=I.os
 bare:=I.bare
 base:=I.base
 loc:=I.loc
 cell:=I.cell
 free:=I.free
 freeC:=I.freeC
 pin p hp:=I.pin p (List.mem_append_left _ hp)
 hok:=I.hok
 len:=I.len
theorem Inv.track (I:Inv X pins σ H s) (na:H a=none) (n0:X.s_0.heap.get? a=none) (he:s.heap.get? a=some oe) (hz:Zc cls d oe) (hd:oe.data = .fields vs) (nL:a≠X.env.locals) (np : ∀ p∈X.pn++pins,p.1≠a) :
  Inv X pins σ (upd H a (ExT a cls d)) s:=by
 have old : ∀ b o,X.s_0.heap.get? b=some o->b≠a:=fun b o e z=>by rw [z,n0] at e;cases e
 have held : ∀ b u,H b=some u->b≠a:=fun b u e z=>by rw [z,na] at e;cases e
 have cne : ∀ x c,X.env.cells.lookup x=some c->c≠a:=fun x c e z=>by
  obtain ⟨v,o,ho,hc⟩:=I.cell x c e
  rw [z,he] at ho
  cases ho
  rw [hd] at hc
  cases hc
 refine ⟨I.ok,I.os,I.bare,⟨I.base.keep,I.base.slot,fun b o e n hx => ?_,I.base.there,fun b xs e => ?_,fun b o u e => ?_,fun b ps e => ?_⟩,I.loc,I.cell, ?_,fun x c e => ?_,fun p hp => ?_, ?_,I.len⟩
 ·rw [upd_ne (old b o e)];exact I.base.free b o e n hx
 ·have q:=I.base.tups b xs e
  rw [upd_ne (held b _ q)];exact q
 ·have q:=I.base.frzs b o u e
  rw [upd_ne (held b _ q)];exact q
 ·obtain ⟨m,q⟩:=I.base.tbls b ps e
  exact ⟨m,by rw [upd_ne (held b _ q)];exact q⟩
 ·rw [upd_ne (Ne.symm nL)];exact I.free
 ·rw [upd_ne (cne x c e)];exact I.freeC x c e
 ·obtain ⟨e,n,r⟩:=I.pin p hp
  exact ⟨e,by rw [upd_ne (np p hp)];exact n,r⟩
 ·refine I.hok.laidN (fun _ _ e=>e) na ⟨⟨oe,vs,he,hz,hd⟩,⟨oe,he⟩, ?_⟩
  rintro g1 g2 ⟨o,v,e1,e2,e3⟩ k
  exact ⟨o,v,k o e1,e2,e3⟩
end
def wCat (K:PySem.W.Frag) (c:Value) (i:Nat) (ts:TS) (Wo:L2.WX) (D:Ends):L2.WX:=fun cls d σ H =>
 ∃ b,PySem.W.exmOne K cls c=some b ∧
  (b=true -> ∀ a,H a=none->ts { nx:=fun σ1 H1=>D.nx (σ1.set i none) H1,rt:=D.rt,bk:=fun σ1 H1=>D.bk (σ1.set i none) H1,ct:=fun σ1 H1=>D.ct (σ1.set i none) H1 } (σ.set i (some (.ref a))) (upd H a (ExT a cls d))) ∧
  (b=false->Wo cls d σ H)
section
variable {X:Cx} {x n:Str} {c:Value} {i:Nat} {body su:List Stmt} {st:Stmt} {np p1 pos:Pos} {tb:L2.WX->TS} {ts:TS} {Wo:L2.WX}
theorem Wk (hs:X.stack=X.env :: X.outer) (hf:X.env.frame=some X.env.locals) (hex:X.ex=[]) (hN:X.N.Nodup) (hi:X.N[i]? = some n) (hln:X.env.kindOf n=some .local) (hc:Names X x c) (tk:Takes X Wo)
  (hb : ∀ (W:L2.WX) (pn:List (Addr×Obj)) (xe:Value->Shared->Prop),Takes (X.tr pn xe) W->PassesOwn (model X.prog X.w) X.A X.env xe->PSs (X.tr pn xe) body (tb W))
  (hsu : ∀ (a:Addr) (pn:List (Addr×Obj)),PSs (X.suite a pn) (st :: su) ts) :
  PS X (.Try body [.ExceptHandler (some (.Name x np)) (some n) (st :: su) p1] [] [] pos) (fun D σ H=>tb (wCat X.K c i ts Wo D) D σ H):=by
 refine ⟨fun pins s σ H D I h => ?_⟩
 have okX:=I.ok
 have frX:X.A.frames=some (X.env :: X.outer):=by rw [okX.frames,hs]
 let M:=model X.prog X.w
 let hnd:List ExceptHandler:=[.ExceptHandler (some (.Name x np)) (some n) (st :: su) p1]
 let look:Value->Shared->Prop:=fun e s1=>wpAny M X.A (noteFrame e X.env) (fun _ s2=>wpAny M X.A (setFlight e none) (fun _ s3=>wpAny M X.A (handleBy e X.env hnd) (SP X pins D) X.xe s3) X.xe s2) X.xe s1
 refine wpAny_Try_except (wpAny_mono ((hb (wCat X.K c i ts Wo D) (X.pn++pins) look (fun u s1 xx => ?_) PassesOwn.looking).run [] s σ H D (I.toTry _) h) (fun f s1 hsp => ?_) fun e s1 he=>he)
 ·obtain ⟨a,B,s0,pins0,σ1,H1,cls,d,rfl,J0,nb,up,sky,na,os,ag,b,hb1,yes,no⟩:=xx
  have J:Inv X pins σ1 H1 s0:=J0.ofTry okX
  rw [hs] at sky
  show wpAny M X.A (noteFrame (.ref a) X.env) _ _ _
  refine Sky.land Zc.steady frX hf sky fun g3 fly3 up3 => ?_
  have I3:Inv X pins σ1 H1 { s1 with heap:=g3 }:=J.landed nb fly3.1 (up.trans up3) os ag
  obtain ⟨oe,vs,ge,gz,gd⟩:=fly3.there
  have nfr:a∉frs (X.env :: X.outer):=fun hm=>by
   obtain ⟨_,o',e',hnf⟩:=fly3.2.2.1.mem hm
   rw [ge] at e'
   cases e'
   exact hnf _ gd
  have nL:a≠X.env.locals:=fun z=>nfr (List.mem_filterMap.mpr ⟨X.env,List.mem_cons_self,by rw [hf,z]⟩)
  have nS:s0.heap.get? a=none:=by
   cases e:s0.heap.get? a with
   | none=>rfl
   | some o =>
    have q:=nb a o e (by rw [hs];exact nfr)
    rw [fly3.2.1] at q
    cases q
  have n0:X.s_0.heap.get? a=none:=by
   cases e:X.s_0.heap.get? a with
   | none=>rfl
   | some o =>
    obtain ⟨o',q⟩:=J.base.there a o e (by rw [hex];simp)
    rw [nS] at q
    cases q
  have npn : ∀ p∈X.pn++pins,p.1≠a:=fun p hp z=>by
   have q:=(J.pin p hp).1
   rw [z,nS] at q
   cases q
  have S3:=Inv.inSuite I3 a
  refine wpAny_handleBy_cons (codeAny_handlers_test ?_) (by intro q;cases q)
  have LT:PySem.W.Looks M g3 (typeOf (.ref a)) cls:=fun A Q E s k q=>wpAny_typeOf_ref (k _ _ ge) (by rw [gz.1];exact q)
  have LM:=PySem.W.exm_one (M:=M) I3.kIn LT hb1
  have test : ∀ {Q:Value->Shared->Prop} {E:Value->Shared->Prop},Q c { s1 with heap:=g3 }->wpAny M (X.A.mark (some (.ref a))) (eval (.Name x np) X.env) Q E { s1 with heap:=g3 }:=fun {Q E} q=>by
   obtain ⟨g1,g2,g4 | ⟨g4,g5,g6⟩⟩:=hc
   ·exact ld_glob (X:=X.suite a (X.pn++pins)) S3 g1 g4 q g2
   ·exact ld_blt (X:=X.suite a (X.pn++pins)) S3 g1 g4 g5 q g6 g2
  refine test (LM.here ?_)
  cases b with
  | true =>
   refine codeAny_handlers_suite_as (HandSPX.lands_againZ fly3 fun g4 fly4 up4 => ?_)
   have I4:Inv X pins σ1 H1 { s1 with heap:=g4 }:=J.landed nb fly4.1 ((up.trans up3).trans up4) os ag
   obtain ⟨oe4,vs4,ge4,gz4,gd4⟩:=fly4.there
   have S4:=Inv.inSuite (Inv.track I4 na n0 ge4 gz4 gd4 nL npn) a
   refine store_ok (X:=X.suite a (X.pn++pins)) (v := .ref a) S4 hN hi (.inl hln) rfl (fun s5 S5 => ?_) (.inr hln)
   refine wpAny_mono ((hsu a (X.pn++pins)).run [] s5 _ _ _ S5 (yes rfl a na)) (fun f s6 hsp => ?_) fun _ _ z=>False.elim z
   have fin : ∀ {σ6:St} {H6:Hp} {Q:Shared->Prop},Inv (X.suite a (X.pn++pins)) [] σ6 H6 s6->(∀ s7,Inv X pins (σ6.set i none) H6 s7->Q s7) ->
     wpAny M X.A (do bindName X.env n .none;unbindBehindTheSuite X.env n p1) (fun _ s7=>Q s7) X.xe s6:=fun {σ6 H6 Q} S6 hq=>gone_ok (Inv.outSuite S6 okX) hN hi hln hq
   match f,hsp with
   | .next,⟨σ6,H6,S6,q6⟩=>exact fin S6 fun s7 I7=>⟨_,_,I7,q6⟩
   | .brk,⟨σ6,H6,S6,q6⟩=>exact fin S6 fun s7 I7=>⟨_,_,I7,q6⟩
   | .cont,⟨σ6,H6,S6,q6⟩=>exact fin S6 fun s7 I7=>⟨_,_,I7,q6⟩
   | .ret u,⟨v6,σ6,H6,S6,r6,q6⟩=>exact fin S6 fun s7 I7=>⟨_,_,_,I7,r6,q6⟩
  | false =>
   show wpAny M X.A (handleBy (.ref a) X.env []) _ _ _
   refine wpAny_handleBy_nil ?_
   obtain ⟨k1,k2,k3,oe,vs,T,oT,ts',he,hz,hd,h1,hr⟩:=id fly3
   unfold PySem.passOn
   refine wpAny_bind (wpAny_field he hd h1 ?_)
   rw [if_neg (show ¬ ((Value.ref T == Value.none)=true) from by simp)]
   have on:wpAny M X.A (setFlight (.ref a) X.env.frame) (fun _ s4=>wpAny M X.A (throw (.ref a):Sem Flow) (SP X pins D) X.xe s4) X.xe { s1 with heap:=g3 }:=by
    rw [hf]
    refine HandSPX.setFlight_upZ fly3 fun g4 held4 up4=>wpAny_throw (tk _ _ ?_)
    exact ⟨a,B,s0,pins,σ1,H1,cls,d,rfl,J,nb,(up.trans up3).trans up4, .inr (.inr (by rw [hs];exact held4)),na,os,ag,no rfl⟩
   first
    | exact wpAny_bind (wpAny_pure (wpAny_bind on))
    | exact wpAny_bind on
 ·match f,hsp with
  | .next,⟨σ1,H1,J1,q⟩=>exact wpAny_execs_nil ⟨σ1,H1,J1.ofTry okX,q⟩
  | .brk,⟨σ1,H1,J1,q⟩=>exact ⟨σ1,H1,J1.ofTry okX,q⟩
  | .cont,⟨σ1,H1,J1,q⟩=>exact ⟨σ1,H1,J1.ofTry okX,q⟩
  | .ret u,⟨v,σ1,H1,J1,r,q⟩=>exact ⟨v,σ1,H1,J1.ofTry okX,r,q⟩
end
end DL
namespace DL
open PySem PySem.Spec L2
open PyProof.Rows hiding St
section
variable [Tbs]
def XOk (K:PySem.W.Frag) (H:Hp) (F:Addr->Prop) (cls:Value) (d:Option Addr) (e:Exc):Prop :=
 cls = .ref (Tbs.cad e.nm)∧e.nm∈Tbs.nms∧(e.arg=none->d=none) ∧ ∀ f t,e.arg=some (f,t) -> ∃ dd fs u,d=some dd∧H dd=some (.xd fs) ∧ ¬ F dd∧fs.lookup f=some u∧RP K H F u t
theorem XOk.weak {K:PySem.W.Frag} {H:Hp} {F F' : Addr->Prop} {cls:Value} {d:Option Addr} {e:Exc} (h:XOk K H F cls d e) (w : ∀ a,F' a->F a):XOk K H F' cls d e :=
 ⟨h.1,h.2.1,h.2.2.1,fun f t q=>let ⟨dd,fs,u,h1,h2,h3,h4,h5⟩:=h.2.2.2 f t q;⟨dd,fs,u,h1,h2,fun z=>h3 (w _ z),h4,h5.weak w⟩⟩
theorem XOk.rx {K:PySem.W.Frag} {H:Hp} {F:Addr->Prop} {cls:Value} {d:Option Addr} {e:Exc} {a:Addr} (h:XOk K H F cls d e) (na:H a=none) (nf : ¬ F a):RX K (upd H a (ExT a cls d)) F (.ref a) e:=by
 obtain ⟨rfl,hm,m0,h⟩:=h
 refine ⟨a,d,rfl,upd_same,nf,hm,m0,fun f t q => ?_⟩
 obtain ⟨dd,fs,u,h1,h2,h3,h4,h5⟩:=h f t q
 exact ⟨dd,fs,u,h1,fL.upd na dd _ h2,h3,h4,h5.pres (fL.upd na)⟩
abbrev uU:=List O->(O->Prop)->(Exc->Prop)->Prop
def NoF:Addr->Prop:=Fo fun _=>[]
theorem noF {a:Addr} : ¬ NoF a:=fun ⟨_,m⟩=>nomatch m
def Mj (K:PySem.W.Frag) (n:Nat) (spec:uU):Sp:=fun vs H Q E => ∃ os G Qa Ea,vs.length=n∧RS0 K (vs.map some) H (os.map some) (fun _=>[]) G∧spec os Qa Ea ∧
 (∀ v o A H',RO K H' (Or1 NoF (A++G)) v o A->A.Nodup->(∀ a∈A,a∉G)->Ext H NoF H' (Or1 NoF A)->Qa o->Q v H') ∧
 ∀ cls d e H',XOk K H' (Or1 NoF G) cls d e->Ext H NoF H' NoF->Ea e->E cls d H'
end
section
variable [Tbs] [Bas]
def WE (K:PySem.W.Frag) (Ea:Exc->aM->Prop):L2.WX:=fun cls d σ H => ∃ e ρ fp G,RS K σ H ρ fp G∧XOk K H (Or1 (Fo fp) G) cls d e∧Ea e ρ
def xP (fl:List Bool) (spec:uU) (Ea:Exc->aM->Prop) (ts:XTs):XT:=fun ρ Q=>ts ρ fun ps ρ1=>rE fl ps ρ1 fun os _ ρ2=>spec os (fun o=>Q (.val o) ρ2) fun e=>Ea e ρ2
theorem Wl {K:PySem.W.Frag} {n:Nat} {fl:List Bool} {spec:uU} {Ea:Exc->aM->Prop} {ts:XTs} {σ : St} {H:Hp} {Q:VK} (hfl : ∀ i,fl.getD i false=false) (h:LX K (xP fl spec Ea ts) σ H Q) :
    LA K n ts σ H fun vs H1=>Mj K fl.length spec vs H1 Q fun cls d H'=>WE K Ea cls d σ H':=by
  obtain ⟨ρ,fp,G,Qa,R,h,fin⟩:=h
  refine ⟨ρ,fp,G,_,R,h,fun vs ps A H1 ρ1 fp1 hl R1 r1 nd1 ng1 x1 h1 => ?_⟩
  obtain ⟨os,js,ρ2,fp2,Bs,R2,r2,d2,g2,i2,l2,z2,n2,h2⟩:=zr r1 R1 R.g0 (fun a z=>z) ng1 nd1 h1
  have hB:Bs.flatten=[]:=List.eq_nil_iff_forall_not_mem.mpr fun a m=>by
    obtain ⟨i,m⟩:=jU.mp m
    rw [z2 i (hfl i)] at m
    cases m
  have hB' : (fun i=>Bs.getD i [])=fun _:Nat=>([]:List Addr):=funext fun i=>z2 i (hfl i)
  have hG : ∀ a,a∈v5 ρ2 fp2++G↔Fo fp2 a∨a∈G:=fun a=>by rw [List.mem_append,R2.all]
  have R0:=RCs.rs R2 r2 d2 g2 hG
  rw [hB'] at R0
  have R2' : RS K σ H1 ρ2 fp2 ([]++G):=by rw [hB] at R2;exact R2
  have x2:Ext H (Fo fp) H1 (Fo fp2):=x1.weak (fun _ z=>z) fun a z=>(i2 a (.inl z))
  have thru : ∀ {H' : Hp} {A' : List Addr},Ext H1 NoF H' (Or1 NoF A')->(∀ a∈A', ∃ u,H' a=some u)->RS K σ H' ρ2 fp2 (A'++G)∧Ext H1 (Fo fp2) H' (Or1 (Fo fp2) A'):=fun {H' A'} x hi=>by
    have xs:Ext H1 (· ∈ ([]:List Addr)) H' (· ∈ A'):=x.weak (fun a z=>(noF z).elim) fun a z => .inr z
    exact ⟨R2'.thru xs (fun a _ z=>nomatch z) hi,(x.addP (Fo fp2)).weak (fun a z=>z.elim (fun q=>q) fun q=>(noF q).elim) fun a z=>z.imp (fun q=>q) .inr⟩
  refine ⟨os,v5 ρ2 fp2++G,_,_,n2,R0,h2,fun v o A' H' ro nd' ng' x' q => ?_,fun cls d e H' xo x' q => ?_⟩
  · obtain ⟨R3,x3⟩:=thru x' fun a m=>let ⟨u,e,_⟩:=ro.there a m;⟨u,e⟩
    refine fin v (.val o) A' H' ρ2 fp2 R3 ⟨ro.weak fun a z => ?_,nd',fun a m z=>ng' a m (List.mem_append_right _ z)⟩ (x2.trans x3) q
    rcases z with z | z
    · exact .inr (List.mem_append_right _ ((hG a).mpr (.inl z)))
    · rcases List.mem_append.mp z with z | z
      · exact .inr (List.mem_append_left _ z)
      · exact .inr (List.mem_append_right _ ((hG a).mpr (.inr z)))
  · obtain ⟨R3,x3⟩:=thru (A':=[]) (x'.weak (fun _ z=>z) fun a z=>z.elim (fun q=>q) fun m=>nomatch m) fun a m=>nomatch m
    exact ⟨e,ρ2,fp2,G,R3,xo.weak fun a z => .inr ((hG a).mpr z),q⟩
end
section
variable {X:Cx} {CX:CXT} {k:Nat} {f:Addr} {fd:FuncData} {ps:List Str} {sp:Sp} {E:L2.St->XK} {x:Str} {p pos:Pos} {e:Expr} {es:List Expr} {t:TA}
theorem UL {pins:List (Addr×Obj)} {σ : L2.St} {H:Hp} {s:Shared} {Q:VK} {us:List Value} {vs:List V} (F:FnG X.prog X.w X.K X.mg X.base CX k f fd ps sp) (hr:Rm k X.A) (hb:Binds X.K fd ps []) (hx:PassesAt CX X σ (E σ))
  (I:Inv X pins σ H s) (r:Vals vs us) (h:sp vs H Q (E σ)):wpAny (model X.prog X.w) X.A (call (.ref f) us) (EP X pins σ Q) X.xe s:=by
 have hl:us.length=ps.length:=r.length.symm.trans (F.len _ _ _ _ h)
 have hb':=hb s us I.kIn (by rw [List.append_nil];exact hl)
 rw [List.append_nil] at hb'
 refine wpAny_call (codeAny_mono (F.run X.A X.stack s H ⟨us, []⟩ us vs Q (E σ) hr I.env0 hb' r h) fun r s' hq => ?_)
 match r,hq with
 | .error e,hq=>exact hx pins H s e s' I hq
 | .ok (.ret u),hq=>exact I.after hq
theorem pe_gS (F:FnG X.prog X.w X.K X.mg X.base CX k f fd ps sp) (hr:Rm k X.A) (hg:Gl X x) (hm:X.mg x=some (.ref f)) (hk:PySem.W.keepIn X.K (.ref f)=true) (hb:Binds X.K fd ps []) (hx : ∀ σ,PassesAt CX X σ (E σ))
  (ha:PA X (e :: es) t) (hdb:(x == ("__debug__" : Str))=false:=by decide) (he:starEach (e :: es) X.env=(false,eval e X.env) :: starEach es X.env:=by rfl) (hpl:(backTo pos (starEach es X.env)).any (·.1)=false:=by rfl) :
  PE X (.Call (.Name x p) (e :: es) [] pos) (fun σ H Q=>t σ H fun vs H1=>sp vs H1 Q (E σ)):=by
 refine ⟨fun pins s σ H Q I h=>wpAny_Call_Name_kw (ld_glob I hg hm ?_ hdb)⟩
 exact PySem.W.callWith_K (h₀:=X.base) I.ok.mod.kin hk (thn (ha.run pos pins s σ H _ I h) fun us s1 ⟨vs,H1,I1,r,q⟩=>⟨I1.kIn,UL F hr hb (hx σ) I1 r q⟩) he hpl
variable [Tbs] [Bas] {ts:XTs} {fl:List Bool} {spec:uU} {Ea:Exc->aM->Prop}
theorem Di (F:FnG X.prog X.w X.K X.mg X.base (L2.CX X.prog X.w) k f fd ps (Mj X.K fl.length spec)) (hr:Rm k X.A) (hg:Gl X x) (hm:X.mg x=some (.ref f)) (hk:PySem.W.keepIn X.K (.ref f)=true) (hb:Binds X.K fd ps [])
  (tk:Takes X (WE X.K Ea)) (ha:EXs X (e :: es) ts) (hfl:(fl.all fun b => !b)=true:=by rfl) (hdb:(x == ("__debug__" : Str))=false:=by decide) (he:starEach (e :: es) X.env=(false,eval e X.env) :: starEach es X.env:=by rfl) (hpl:(backTo pos (starEach es X.env)).any (·.1)=false:=by rfl) :
  EX X (.Call (.Name x p) (e :: es) [] pos) (xP fl spec Ea ts):=by
 refine ⟨PE.imp (pe_gS (E:=fun σ cls d H'=>WE X.K Ea cls d σ H') F hr hg hm hk hb (fun σ=>passAt tk σ) ha.pa hdb he hpl) fun σ H Q h=>Wl (fun i => ?_) h⟩
 rw [List.getD_eq_getElem?_getD]
 cases q:fl[i]? with
 | none=>rfl
 | some b =>
  have:=List.all_eq_true.mp hfl b (List.mem_of_getElem? q)
  simpa using this
end
section
variable [Tbs]
def Cd (Qa:O->Prop):qY := { nx:=fun _=>Qa (.pure .none),rt:=fun o _=>Qa o }
variable {P:Program} {w:World} {K:PySem.W.Frag} {mg:Str->Option Value} {base:Heap} {x qual:Str} {params:Arguments} {body:List Stmt} {scope:Scope} {f:Addr} {fd:FuncData}
theorem UT {N ps:List Str} {k:Nat} {spec:uU} (tb:(Exc->Prop)->ST) (F:FunD K x qual params body scope [] [] f fd) (S:FnScope N ps scope)
  (hbody : ∀ (cdv:Value) (A:Around) (outer:List Env) (s:Shared) (H:Hp) (E:XK),Rm k (A.deeper (envOfC qual scope s.heap.objs.size f cdv)) ->
   ∀ (B:Bas) (Ea:Exc->Prop),Takes (cxOf (L2.CX P w) P w K mg base N qual scope f cdv A outer s H E) (@WE _ B K fun e _=>Ea e) ->
    PassesOwn (model P w) (cxOf (L2.CX P w) P w K mg base N qual scope f cdv A outer s H E).A (cxOf (L2.CX P w) P w K mg base N qual scope f cdv A outer s H E).env (cxOf (L2.CX P w) P w K mg base N qual scope f cdv A outer s H E).xe ->
    @SXs _ B (cxOf (L2.CX P w) P w K mg base N qual scope f cdv A outer s H E) (fun _=>false) body (tb Ea))
  (rd : ∀ os Qa Ea,os.length=ps.length->spec os Qa Ea->tb Ea (Cd Qa) (aK N.length os)):FnG P w K mg base (L2.CX P w) (k+1) f fd ps (Mj K ps.length spec):=by
 refine Th F S (fun vs H Q E ⟨os,G,Qa,Ea,h,_⟩=>h) fun cdv A outer s H vs Q E hr h => ?_
 obtain ⟨os,G,Qa,Ea,hl,R,hs,fin,finE⟩:=h
 have hlo:os.length=vs.length:=by simpa using R.len
 letI B:Bas:=⟨H,NoF,G⟩
 have R0:RS K (L2.start N vs) H (aK N.length os) (fun _=>[]) G:=by
  unfold L2.start aK
  refine ⟨⟨fun i o e => ?_,fun i e=>rfl,R.dj,R.nd,R.gf,R.gi,by simp [hlo],R.tb⟩,Ext.refl.weak (fun _ z=>z) fun a z=>z.1.elim (fun q=>q) fun m=>absurd m z.2,fun _ m=>m⟩
  obtain ⟨v,hv,r⟩:=R.ex i o (lF.mp e)
  exact ⟨v,lF.mpr hv,r⟩
 have done : ∀ v o A' σ' H' ρ' fp',RS K σ' H' ρ' fp' (A'++G)->RO K H' (Or1 (Fo fp') (A'++G)) v o A'->A'.Nodup->(∀ a∈A',a∉G)->Ext H (Fo fun _=>[]) H' (Or1 (Fo fp') A')->Qa o->Q v H':=fun v o A' σ' H' ρ' fp' R' ro nd ng x' q =>
  fin v o A' H' (ro.weak fun a z=>z.elim (fun z=>(noF z).elim) .inr) nd ng (x'.weak (fun _ z=>z) fun a z=>z.elim (fun z=>(noF z).elim) .inr) q
 refine ⟨LS K (fun _=>false) (tb Ea),(hbody cdv A outer s H E hr B Ea ?_ ?_).pss,aK N.length os,fun _=>[],G,Cd Qa,R0,rd os Qa Ea (by rw [hlo,hl]) hs,fun σ' H' ρ' fp' R' x' pe hq => ?_,fun _ _ _ _ _ _ _ hq=>hq.elim,fun _ _ _ _ _ _ _ hq=>hq.elim,fun v o A' σ' H' ρ' fp' R' ro nd ng x' pe hq => ?_⟩
 ·refine Takes.imp (takes_of (X:=cxOf (L2.CX P w) P w K mg base N qual scope f cdv A outer s H E) (E:=E) rfl rfl rfl rfl) fun cls d σ' H' hw => ?_
  obtain ⟨e,ρ',fp',G',R',xo,q⟩:=hw
  refine finE cls d e H' (xo.weak fun a z=>z.elim (fun z=>(noF z).elim) fun m => .inr (R'.g0 a m)) (R'.bs.weak (fun _ z=>z) fun a z=>(noF z).elim) q
 ·exact passes_of rfl
 ·exact done .non (.pure .none) [] σ' H' ρ' fp' R' (Du RP.non) .nil pZ (x'.weak (fun _ y=>y) fun a y=>y.elim (fun q=>q) fun m=>(List.not_mem_nil m).elim) hq
 ·exact done v o A' σ' H' ρ' fp' R' ro nd ng x' hq
end
structure Wm (K:PySem.W.Frag) (mg:Str->Option Value) (x:Str) (C:Addr):Prop where
 gl:mg x=some (.ref C)
 ga:PySem.W.specialIn K (.ref C) "__getattribute__" = some (some (.builtin "type.__getattribute__"))
 it : ∃ mc,PySem.W.readsIn K C mc=true∧PySem.W.findCls K (.ref C) mc "__init__" = some (.val (.builtin "ValueError.__init__"))
theorem QF {X:Cx} {e:Expr} {es:List Expr} {ta:TA} {x:Str} {C:Addr} {p1 p2 pos:Pos} {pl:Sem Bool} (T:Wm X.K X.mg x C) (hg:Gl X x) (ha:PA X (e :: es) ta)
  (hc:eval (.Call (.Attribute (.Name x p1) "__init__" p2) (e :: es) [] pos) X.env=(do
   let ov ← eval (.Name x p1) X.env
   standAt p2.atName
   let (f,first) ← holding [ov] (getMethod ov "__init__" pl)
   callWith pos f first (backTo pos (starEach (e :: es) X.env)) (backToKw pos (keywordEach [] X.env))):=by rfl)
  (hdb:(x == ("__debug__" : Str))=false:=by decide) (he:starEach (e :: es) X.env=(false,eval e X.env) :: starEach es X.env:=by rfl) (hpl:(backTo pos (starEach es X.env)).any (·.1)=false:=by rfl) :
  PE X (.Call (.Attribute (.Name x p1) "__init__" p2) (e :: es) [] pos) (tVeI X.K ta):=by
 refine ⟨fun pins s σ H Q I h => ?_⟩
 obtain ⟨mc,hr,hf⟩:=T.it
 refine PySem.W.methodCall_KW (ld_glob I hg T.gl ?_ hdb) hc
 refine PySem.W.method_cls I.kIn T.ga (PySem.W.cls_value I.kIn hr hf (by decide +kernel) ?_)
 show wpAny _ _ (callWith pos (Value.builtin "ValueError.__init__") [] (backTo pos (starEach (e :: es) X.env)) []) _ _ _
 refine PyProof.Rows.callWith_method1 (thn (ha.run pos pins _ σ H _ (I.tok _) h) fun us s1 ⟨vs,H1,I1,r1,a,C',ws,ev,hl,T',ea,q⟩ => ?_) he hpl
 subst ev
 cases r1 with
 | @cons _ u0 _ ur ra rw' =>
  obtain rfl:u0=Value.ref a:=ra
  exact oinit_ok T' I1 ea (by rw [← Paired.length rw',sizeLine_eq];omega) fun s' J=>⟨.non,H1,J,rfl,q⟩
def Bx (K:PySem.W.Frag) (C:Addr) (fld:Str):Sp:=fun vs H Q _ => ∃ a y,vs=[.ref a,y]∧H a=some (exo a C none) ∧
 ∀ dx,H dx=none->dx≠a->Q .non (upd (upd H dx (exd dx [(fld,y)])) a (exo a C (some dx)))
structure Ce (K:PySem.W.Frag) (C fI:Addr) (fld:Str):Prop where
 ox:OexC K C
 no:PySem.W.findIn K (.ref C) fld=some none
 ini:PySem.W.findIn K (.ref C) "__init__" = some (some (.ref fI))
 ti:PySem.W.typeIn K (.ref fI)=some (.type "function")
section
variable {P:Program} {w:World} {K:PySem.W.Frag} {mg:Str->Option Value} {base:Heap} {qual:Str} {scope:Scope} {params:Arguments} {f C fI B:Addr} {fd:FuncData} {fld txt bx prm:Str} {p1 p2 p3 p4 p5 p6 p7 p8 p9 p10:Pos} {kk:Nat}
theorem Nk (bT:Wm K mg bx B) (cT:Ce K C fI fld)
  (F:FunD K "__init__" qual params [.Expr (.Call (.Attribute (.Name bx p1) "__init__" p2) [.Name "self" p3, .Constant (.str txt) kk p4] [] p5) p6, .Assign [.Attribute (.Name "self" p7) fld p8] (.Name prm p9) p10] scope [] [] f fd)
  (S:FnScope ["self",prm] ["self",prm] scope) (hb : ∀ (cdv:Value) (L f:Addr),(envOfC qual scope L f cdv).kindOf bx=some .globalImplicit)
  (hd1:(bx == ("__debug__" : Str))=false) (hd2:(prm == ("__debug__" : Str))=false) (hd3:(prm == ("__classdict__" : Str))=false)
  (v0 : ∀ (cdv:Value) (L f:Addr),Vis (envOfC qual scope L f cdv).scope "self") (v1 : ∀ (cdv:Value) (L f:Addr),Vis (envOfC qual scope L f cdv).scope prm)
  (hc : ∀ (env:Env), ∃ pl,eval (.Call (.Attribute (.Name bx p1) "__init__" p2) [.Name "self" p3, .Constant (.str txt) kk p4] [] p5) env=(do
   let ov ← eval (.Name bx p1) env
   standAt p2.atName
   let (f,first) ← holding [ov] (getMethod ov "__init__" pl)
   callWith p5 f first (backTo p5 (starEach [.Name "self" p3, .Constant (.str txt) kk p4] env)) (backToKw p5 (keywordEach [] env))))
  (hs : ∀ env,swapsWith (.Call (.Attribute (.Name bx p1) "__init__" p2) [.Name "self" p3, .Constant (.str txt) kk p4] [] p5) none p6.line env=pure false) (hs2 : ∀ env,swapsWith (.Name prm p9) (some (.Attribute (.Name "self" p7) fld p8)) p10.line env=pure false) :
  FnOk P w K mg base CX0 1 f fd ["self",prm] (Bx K C fld):=by
 refine F.ok S (fun vs H Q E ⟨a,y,h,_⟩=>by rw [h];rfl) fun cdv A outer s H vs Q E hr h => ?_
 obtain ⟨a,y,rfl,ha,q⟩:=h
 obtain ⟨pl,hc⟩:=hc (cxOf CX0 P w K mg base ["self",prm] qual scope f cdv A outer s H E).nox.env
 let X:=(cxOf CX0 P w K mg base ["self",prm] qual scope f cdv A outer s H E).nox
 have n0:X.N[0]? = some ("self" : Str):=rfl
 have n1:X.N[1]? = some prm:=rfl
 have e0 : ∀ {pos:Pos},PE X (.Name "self" pos) (tVar 0):=fun {pos}=>pe_var n0 (v0 cdv _ _) (by decide) (by decide)
 have e1 : ∀ {pos:Pos},PE X (.Name prm pos) (tVar 1):=fun {pos}=>pe_var n1 (v1 cdv _ _) hd2 hd3
 have st1:PS X (.Expr (.Call (.Attribute (.Name bx p1) "__init__" p2) [.Name "self" p3, .Constant (.str txt) kk p4] [] p5) p6) _ :=
  ps_expr (QF (X:=X) (pl:=pl) bT (hb cdv _ _) (pa_cons e0 (pa_cons pe_str pa_nil)) hc hd1) (hs _)
 have st2:PS X (.Assign [.Attribute (.Name "self" p7) fld p8] (.Name prm p9) p10) _:=ps_ost e0 e1 (hs2 _)
 refine ⟨_,PSs.nox (pss_cons st1 (pss_one st2)), ?_⟩
 have g0:(L2.start ["self",prm] [V.ref a,y])[0]? = some (some (V.ref a)):=rfl
 have g1:(L2.start ["self",prm] [V.ref a,y])[1]? = some (some y):=rfl
 refine ⟨_,g0, ?_⟩
 refine ⟨a,C, [.str txt],rfl,by simp,cT.ox,ha, ?_⟩
 refine ⟨y,g1, .ref a,g0,a,C,rfl,cT.ox,cT.no, .inl ⟨ha,fun dx n ne => ?_⟩⟩
 exact q dx n ne
end
section
variable [Tbs] [Bas]
def Ez (nm fld:Str) (Ea:Exc->aM->Prop) (ts:XTs):ST:=fun D ρ=>ts ρ fun ps ρ1=>cA ps ρ1 fun us ρ2=>match us with
 | [t]=>Ea ⟨nm,some (fld,t)⟩ ρ2
 | _=>False
theorem ZV {H:Hp} {a dx:Addr} {u u' u2 v:HO} (ha:H a=none) (hd:dx≠a):upd (del (upd (upd (upd H a u) dx u2) a u') a) dx v=upd H dx v:=by
 funext b
 by_cases q:b=dx
 ·rw [q,upd_same,upd_same]
 ·rw [upd_ne q,upd_ne q]
  by_cases q2:b=a
  ·rw [q2,del_same,ha]
  ·rw [del_ne q2,upd_ne q2,upd_ne q,upd_ne q2]
theorem JW {X:Cx} {P:Nat->Bool} {k:Nat} {nm fld x:Str} {fI:Addr} {fd:FuncData} {ps:List Str} {e:Expr} {ts:XTs} {Ea:Exc->aM->Prop} {p p2 pos:Pos} (hc:X.calm=true) (tk:Takes X (WE X.K Ea)) (T:Ce X.K (Tbs.cad nm) fI fld) (hn:nm∈Tbs.nms)
  (F:FnOk X.prog X.w X.K X.mg X.base CX0 k fI fd ps (Bx X.K (Tbs.cad nm) fld)) (hr:Room (k+1) X.A) (hb:Binds X.K fd ps []) (hg:Gl X x) (hm:X.mg x=some (.ref (Tbs.cad nm))) (ha:EXs X [e] ts)
  (hdb:(x == ("__debug__" : Str))=false:=by decide) (he:starEach [e] X.env=(false,eval e X.env) :: starEach [] X.env:=by rfl) (hpl:(backTo p2 (starEach [] X.env)).any (·.1)=false:=by rfl) :
  SX X P (.Raise (some (.Call (.Name x p) [e] [] p2)) none pos) (Ez nm fld Ea ts):=by
 refine ⟨PS.imp (ps_raise hc tk (pmk_oex (dvs:=[]) T.ox T.ini T.ti F hr hb .nil pass0 hg hm ha.pa hdb he hpl)) ?_⟩
 rintro D σ H ⟨ρ,fp,G,Da,R,h,f⟩
 refine ⟨ρ,fp,G,_,R,h,fun vs qs A H1 ρ1 fp1 hl R1 r1 nd1 ng1 x1 h1 => ?_⟩
 obtain ⟨us,ρ2,fp2,R2,q2,i2,h2⟩:=wQ R.g0 r1 R1 (fun a z=>z) (fun j o e=>⟨o,e⟩) ng1 nd1 h1
 split at h2
 ·rename_i t
  cases q2 with
  | @cons v _ _ _ qv qr =>
   cases qr
   refine ⟨by simp,fun a na => ?_⟩
   refine ⟨a,v,rfl,upd_same,fun dx n ne => ?_⟩
   have n1:H1 dx=none:=by rw [upd_ne ne] at n;exact n
   refine ⟨rfl,dx, [(fld,v)],upd_same,by rw [upd_ne ne,upd_same],n1, ?_⟩
   rw [ZV na ne]
   refine ⟨⟨nm,some (fld,t)⟩,ρ2,fp2,G,R2.pres (fL.upd n1),⟨rfl,hn,fun z=>(by cases z),fun f' t' e' => ?_⟩,h2⟩
   cases e'
   exact ⟨dx,_,v,rfl,upd_same,R2.fresh n1,by simp [List.lookup],qv.pres (fL.upd n1)⟩
 ·exact h2.elim
end
section
variable [Tbs]
theorem RS.rebase {K:PySem.W.Frag} {σ σ' : L2.St} {H H' : Hp} {ρ ρ' : aM} {fp fp' : Nat->List Addr} {A G:List Addr} [Bas] (R:RS K σ H ρ fp G) (R' : RS0 K σ' H' ρ' fp' (A++G)) (x:Ext H (Fo fp) H' (Or1 (Fo fp') A)):RS K σ' H' ρ' fp' (A++G):=by
 refine ⟨R',R.bs.trans ((x.addP (fun a=>Or1 (Fo fp) G a∧a∉Bas.G0)).weak (fun a z=>z.elim (fun z=>z) fun z=>⟨.inl z,fun m=>R.gf a (R.g0 a m) z⟩) fun a z => ?_),fun a m=>List.mem_append_right _ (R.g0 a m)⟩
 rcases z.1 with q | q
 ·exact .inr (.inl q)
 ·rcases List.mem_append.mp q with q | q
  ·exact .inr (.inr q)
  ·exact .inl ⟨.inr q,z.2⟩
def sTry (i:Nat) (isC:Str->Bool) (tb:(Exc->aM->Prop)->ST) (th:ST) (Eo:Exc->aM->Prop):ST:=fun D ρ =>
 tb (fun e ρ1=>if isC e.nm=true then (Nat.blt i ρ1.length=true)∧th { nx:=fun ρ2=>D.nx (ρ2.set i none),bk:=fun ρ2=>D.bk (ρ2.set i none),ct:=fun ρ2=>D.ct (ρ2.set i none),rt:=D.rt } (ρ1.set i (some (.exc e))) else Eo e ρ1) D ρ
theorem aAR [B0:Bas] {X:Cx} {P:Nat->Bool} {x n:Str} {c:Value} {i:Nat} {body su:List Stmt} {st:Stmt} {np p1 pos:Pos} {isC:Str->Bool} {tb:(Exc->aM->Prop)->ST} {th:ST} {Eo:Exc->aM->Prop}
  (hs:X.stack=X.env :: X.outer) (hf:X.env.frame=some X.env.locals) (hex:X.ex=[]) (hN:X.N.Nodup) (hi:X.N[i]? = some n) (hln:X.env.kindOf n=some .local) (hc:Names X x c) (tk:Takes X (WE X.K Eo))
  (hP : ∀ j,P j=false) (hx : ∀ m∈Tbs.nms,PySem.W.exmOne X.K (.ref (Tbs.cad m)) c=some (isC m))
  (hb : ∀ (B:Bas) (pn:List (Addr×Obj)) (xe:Value->Shared->Prop) (Eb:Exc->aM->Prop),Takes (X.tr pn xe) (@WE _ B X.K Eb)->PassesOwn (model X.prog X.w) X.A X.env xe -> @SXs _ B (X.tr pn xe) P body (tb Eb))
  (hsu : ∀ (a:Addr) (pn:List (Addr×Obj)),SXs (X.suite a pn) P (st :: su) th) :
  SX X P (.Try body [.ExceptHandler (some (.Name x np)) (some n) (st :: su) p1] [] [] pos) (sTry i isC tb th Eo):=by
 have pq : ∀ {σ σ' : L2.St},qZ P σ σ':=fun {σ σ'} j m=>by rw [hP j] at m;cases m
 let tbW:L2.WX->TS:=fun W D σ H => ∃ (B:Bas) (Eb:Exc->aM->Prop),(∀ cls d σ' H', @WE _ B X.K Eb cls d σ' H'->W cls d σ' H') ∧ @LS _ B X.K P (tb Eb) D σ H
 refine ⟨PS.imp (Wk (c:=c) (i:=i) (tb:=tbW) (ts:=LS X.K P th) hs hf hex hN hi hln hc tk (fun W pn xe tkW hp=>⟨fun pins s σ H D I h => ?_⟩) fun a pn=>(hsu a pn).pss) ?_⟩
 ·obtain ⟨B,Eb,hW,h⟩:=h
  exact (hb B pn xe Eb (tkW.imp hW) hp).pss.run pins s σ H D I h
 ·rintro D σ H ⟨ρ,fp,G,Da,R,h,f⟩
  have x0 : ∀ {H' : Hp} {fp1:Nat->List Addr},Ext H (Fo fp) H' (Fo fp1)->Ext H (Fo fp) H' (Or1 (Fo fp1) []):=fun {H' fp1} x=>x.weak (fun _ z=>z) fun a z=>z.elim (fun q=>q) fun m=>nomatch m
  have rG : ∀ {σ' : L2.St} {H' : Hp} {ρ1:aM} {fp1:Nat->List Addr},RS0 X.K σ' H' ρ1 fp1 G->Ext H (Fo fp) H' (Fo fp1)->RS X.K σ' H' ρ1 fp1 G:=fun {σ' H' ρ1 fp1} r x=>R.rebase (A:=[]) r (x0 x)
  refine ⟨⟨H,Fo fp,G⟩,fun e ρ1=>if isC e.nm=true then (Nat.blt i ρ1.length=true)∧th { nx:=fun ρ2=>Da.nx (ρ2.set i none),bk:=fun ρ2=>Da.bk (ρ2.set i none),ct:=fun ρ2=>Da.ct (ρ2.set i none),rt:=Da.rt } (ρ1.set i (some (.exc e))) else Eo e ρ1,fun cls d σ' H' hw => ?_, ?_⟩
  ·obtain ⟨e,ρ1,fp1,G1,R1,xo,q⟩:=hw
   have sub : ∀ a∈G,a∈G1 := @RS.g0 _ (⟨H,Fo fp,G⟩:Bas) _ _ _ _ _ _ R1
   have b1 := @RS.bs _ (⟨H,Fo fp,G⟩:Bas) _ _ _ _ _ _ R1
   have R1 := @RS.toRS0 _ (⟨H,Fo fp,G⟩:Bas) _ _ _ _ _ _ R1
   have x1:Ext H (Fo fp) H' (Fo fp1):=b1.weak (fun _ z=>z) fun a z=>⟨.inl z,fun m=>R1.gf a (sub a m) z⟩
   have R2:RS X.K σ' H' ρ1 fp1 G:=rG ⟨fun j o e=>let ⟨v,h1,h2⟩:=R1.ex j o e;⟨v,h1,h2.weak fun a z=>z.imp (fun q=>q) (sub a)⟩,R1.non,R1.dj,R1.nd,fun a m=>R1.gf a (sub a m),fun a m=>R1.gi a (sub a m),R1.len,R1.tb⟩ x1
   have xo2:XOk X.K H' (Or1 (Fo fp1) G) cls d e:=xo.weak fun a z=>z.imp (fun q=>q) (sub a)
   have hcl:cls = .ref (Tbs.cad e.nm):=xo.1
   refine ⟨isC e.nm,by rw [hcl];exact hx e.nm xo.2.1,fun hy a na => ?_,fun hno => ?_⟩
   ·rw [if_pos hy] at q
    obtain ⟨hil,q⟩:=q
    have rx:=xo2.rx na (R2.fresh na)
    have R3:RS X.K σ' (upd H' a (ExT a cls d)) ρ1 fp1 G:=R2.pres (fL.upd na)
    have R4:=RS.put (A:=[]) (j:=i) (v := .ref a) (o := .exc e) R3 (Nat.le_of_ble_eq_true hil) ⟨rfl,rx⟩ .nil pZ
    have x4:Ext H (Fo fp) (upd H' a (ExT a cls d)) (Fo (bz fp1 i [])):=(x1.trans (fL.upd na).ext).weak (fun _ z=>z) fun a z=>z.set.elim (fun q=>q) fun m=>nomatch m
    have goes : ∀ {σ2:L2.St} {H2:Hp} {ρ2:aM} {fp2:Nat->List Addr},RS X.K σ2 H2 ρ2 fp2 G->Ext (upd H' a (ExT a cls d)) (Fo (bz fp1 i [])) H2 (Fo fp2)->RS X.K (σ2.set i none) H2 (ρ2.set i none) (bz fp2 i []) G∧Ext H (Fo fp) H2 (Fo (bz fp2 i [])):=fun {σ2 H2 ρ2 fp2} r x =>
     ⟨r.drop (fun j v n e=>by rw [List.getElem?_set_ne (Ne.symm n)];exact e) (by rw [List.length_set]),(x4.trans x).weak (fun _ z=>z) fun a z=>z.set.elim (fun q=>q) fun m=>nomatch m⟩
    refine ⟨_,_,G,_,R4,q,fun σ2 H2 ρ2 fp2 r x p q => ?_,fun σ2 H2 ρ2 fp2 r x p q => ?_,fun σ2 H2 ρ2 fp2 r x p q => ?_,fun v o A σ2 H2 ρ2 fp2 r ro nd ng x p q=>f.rt v o A σ2 H2 ρ2 fp2 r ro nd ng (x4.trans x) pq q⟩
    ·obtain ⟨r',x'⟩:=goes r x
     exact f.nx _ H2 _ _ r' x' pq q
    ·obtain ⟨r',x'⟩:=goes r x
     exact f.bk _ H2 _ _ r' x' pq q
    ·obtain ⟨r',x'⟩:=goes r x
     exact f.ct _ H2 _ _ r' x' pq q
   ·rw [if_neg (by rw [hno];exact Bool.false_ne_true)] at q
    exact ⟨e,ρ1,fp1,G,R2,xo2,q⟩
  ·have fnx:=f.nx;have fbk:=f.bk;have fct:=f.ct;have frt:=f.rt
   have reb : ∀ {σ2:L2.St} {H2:Hp} {ρ2:aM} {fp2:Nat->List Addr} {A:List Addr},RS0 X.K σ2 H2 ρ2 fp2 (A++G)->Ext H (Fo fp) H2 (Or1 (Fo fp2) A)->RS X.K σ2 H2 ρ2 fp2 (A++G):=fun {σ2 H2 ρ2 fp2 A} r x=>R.rebase r x
   have R0:=R.toRS0
   letI B:Bas:=⟨H,Fo fp,G⟩
   refine ⟨ρ,fp,G,Da,⟨R0,Ext.refl.weak (fun _ z=>z) fun a z=>z.1.elim (fun q=>q) fun m=>absurd m z.2,fun _ m=>m⟩,h,fun σ2 H2 ρ2 fp2 r x p q => ?_,fun σ2 H2 ρ2 fp2 r x p q => ?_,fun σ2 H2 ρ2 fp2 r x p q => ?_,fun v o A σ2 H2 ρ2 fp2 r ro nd ng x p q => ?_⟩
   ·exact fnx σ2 H2 ρ2 fp2 (rG r.toRS0 x) x p q
   ·exact fbk σ2 H2 ρ2 fp2 (rG r.toRS0 x) x p q
   ·exact fct σ2 H2 ρ2 fp2 (rG r.toRS0 x) x p q
   ·exact frt v o A σ2 H2 ρ2 fp2 (reb r.toRS0 x) ro nd ng x p q
end
structure aAm (K:PySem.W.Frag) (H:Hp) (a C:Addr):Prop where
 cl:ExcC K C
 at_ : ∃ d,H a=some (ExT a (.ref C) d)∧(d=none ∨ ∃ dd fs,d=some dd∧H dd=some (.xd fs))
theorem aAm.pres {K:PySem.W.Frag} {H H' : Hp} {a C:Addr} (h:aAm K H a C) (p:fL H H'):aAm K H' a C :=
 ⟨h.cl,let ⟨d,h1,h2⟩:=h.at_;⟨d,p _ _ h1,h2.imp (fun z=>z) fun ⟨dd,fs,e,h3⟩=>⟨dd,fs,e,p _ _ h3⟩⟩⟩
section
variable {X:Cx}
theorem ZW {pins:List (Addr×Obj)} {σ : L2.St} {H:Hp} {s:Shared} {a C:Addr} (I:Inv X pins σ H s) (h:aAm X.K H a C) : ∃ P:Heap->Prop,PySem.W.KitX X.K (.ref a) (.ref C) P∧P s.heap:=by
 obtain ⟨F,d,ha,hd⟩:=h
 obtain ⟨oe,vs,h1,h2,h3⟩:=(show ∃ (oe:Obj) (vs:Array Value),s.heap.get? a=some oe∧Zc (.ref C) d oe∧oe.data = .fields vs from (show ObjOk X.prog X.w H s.heap a (ExT a (.ref C) d) from I.hok a _ ha).1)
 have hcl:(PySem.W.clsIn X.K C).isSome=true:=by
  obtain ⟨cd,hc,_⟩:=PySem.W.any_some F.hd
  rw [hc];rfl
 have hno:PySem.W.notCls oe=true:=by unfold PySem.W.notCls;rw [h3]
 rcases hd with rfl | ⟨dd,fs,rfl,hx⟩
 ·exact ⟨_,PySem.W.handS_kitx_exc F.hg F.hk F.hs F.hd F.ha F.hn F.ht F.hm,⟨h1,h2.1,hno,by rw [h2.2];exact True.intro⟩⟩
 ·obtain ⟨mA,hns,hr⟩:=(show ObjOk X.prog X.w H s.heap dd (.xd fs) from I.hok dd _ hx)
  obtain ⟨od,ho,hl⟩:=lookIn_ns hns
  exact ⟨_,PySem.W.kitx_exc hcl F.hg F.hk F.hs F.ha F.hn F.ht F.hm,(⟨h1,h2.1,hno,by rw [h2.2];exact ho⟩:PySem.W.InstAt s.heap a oe C (some od))⟩
def rIsX (K:PySem.W.Frag):List V->Hp->VK->Prop:=fun xs H Q => ∃ (a C:Addr) (c:V) (b:Bool),xs=[.ref a,c]∧aAm K H a C ∧
 ((∃ u,ClsV c u∧PySem.W.kitOne K (.ref C) u=some b) ∨ ∃ tp cs us,c = .ref tp∧H tp=some (.tup cs)∧Paired ClsV cs us∧PySem.W.kitAny K (.ref C) us=some b)∧Q (.bl b) H
theorem Wn:CallR X (.builtin "isinstance") (rIsX X.K):=by
 intro pins s σ H xs us Q I r h
 obtain ⟨a,C,c,b,rfl,ea,hc,q⟩:=h
 obtain ⟨u1,u2,rfl,r1,r2⟩:=vals2 r
 cases (show u1=Value.ref a from r1)
 obtain ⟨P,Z,p⟩:=ZW I ea
 rcases hc with ⟨u,k,e⟩ | ⟨tp,cs,us,rfl,hT,k,e⟩
 ·have e2:=k.eq r2
  subst e2
  exact PySem.W.kia_one Z I.kIn p e (fun z=>nomatch z) fun tk=>⟨.bl b,H,I.tok tk,rfl,q⟩
 ·cases (show u2=Value.ref tp from r2)
  obtain ⟨_,its,rv,o,h1,h2,n,h3⟩:=(show ObjOk X.prog X.w H s.heap tp (.tup cs) from I.hok tp _ hT)
  have e3:=ClsV.all k rv
  subst e3
  obtain ⟨oc,od,dt,sl⟩:=o
  simp only at h2 h3
  subst h2 h3
  exact PySem.W.kia_tup Z I.kIn p h1 e (fun z=>nomatch z) fun tk=>⟨.bl b,H,I.tok tk,rfl,q⟩
end
structure CE (X:Cx) (e:Expr) (v:V) (u:Value):Prop where
 pe:PE X e (tC v)
 cl:ClsV v u
theorem QG {X:Cx} {x:Str} {C:Addr} {p:Pos} (hg:Gl X x) (hm:X.mg x=some (.ref C)) (hd:(x == ("__debug__" : Str))=false:=by decide):CE X (.Name x p) (.ref C) (.ref C):=⟨pe_glob hg hm rfl hd, .own C⟩
section
variable [Tbs] [Bas] {X:Cx}
def YH (f:Str->Bool) (te:XT):XT:=fun ρ Q=>te ρ fun p ρ1=>match p.get ρ1 with
 | some (.exc e)=>Q (.val (.pure (.bool (f e.nm)))) ρ1
 | _=>False
theorem RX.at_ {K:PySem.W.Frag} {H:Hp} {F:Addr->Prop} {v:V} {e:Exc} (hE : ∀ m∈Tbs.nms,ExcC K (Tbs.cad m)) (r:RX K H F v e) : ∃ a,v = .ref a∧aAm K H a (Tbs.cad e.nm):=by
 obtain ⟨a,d,rfl,h1,_,hm,m0,h2⟩:=r
 refine ⟨a,rfl,hE _ hm,d,h1, ?_⟩
 cases q:e.arg with
 | none=>exact .inl (m0 q)
 | some ft =>
  obtain ⟨dd,fs,u,h3,h4,_⟩:=h2 ft.1 ft.2 q
  exact .inr ⟨dd,fs,h3,h4⟩
theorem QH {e:Expr} {c:Expr} {cv:V} {cu:Value} {te:XT} {f:Str->Bool} {p pos:Pos} (hE : ∀ m∈Tbs.nms,ExcC X.K (Tbs.cad m)) (hf : ∀ m∈Tbs.nms,PySem.W.kitOne X.K (.ref (Tbs.cad m)) cu=some (f m)) (hg:Gl X "isinstance") (hm:X.mg "isinstance" = none) (he:EX X e te) (hc:CE X c cv cu)
  (hs:starEach [e,c] X.env=(false,eval e X.env) :: starEach [c] X.env:=by rfl) (hs2:starEach [c] X.env=(false,eval c X.env) :: starEach [] X.env:=by rfl)
  (hpl:(backTo pos (starEach [c] X.env)).any (·.1)=false:=by rfl):EX X (.Call (.Name "isinstance" p) [e,c] [] pos) (YH f te):=by
 refine ⟨PE.imp (pe_callB Wn hg hm (by decide +kernel) (pa_cons he.pe (pa_cons hc.pe pa_nil hs2) hs) (by decide) (by decide) hs hpl) ?_⟩
 rintro σ H Q ⟨ρ,fp,G,Qa,R,h,fin⟩
 refine ⟨ρ,fp,G,_,R,h,fun v p A H1 ρ1 fp1 R1 r1 x1 h1 => ?_⟩
 split at h1
 ·rename_i ex eo
  have w:=r1.rw0 R1 eo
  obtain ⟨a,rfl,ha⟩:=RX.at_ hE w
  have hn:ex.nm∈Tbs.nms:=let ⟨_,_,_,_,_,hm,_⟩:=(show RX _ _ _ _ _ from w);hm
  exact ⟨a,_,cv,_,rfl,ha, .inl ⟨cu,hc.cl,hf _ hn⟩,xC.bl (lu (G:=G) R1 (fun a m=>List.mem_append_right _ m) x1.or fin) h1⟩
 ·exact h1.elim
def tXfl (n:Str) (te:XT):XT:=fun ρ Q=>te ρ fun p ρ1=>match p.get ρ1 with
 | some (.exc e)=>match e.arg with
  | some (f,t)=>f=n∧Q (.val (.pure t)) ρ1
  | none=>False
 | _=>False
def tXfE (K:PySem.W.Frag) (n:Str) (te:TE):TE:=fun σ H Q=>te σ H fun x H1 => ∃ (a C dd:Addr) (fs:List (Str×V)) (v:V),x = .ref a∧ExcC K C∧PySem.W.findIn K (.ref C) n=some none∧H1 a=some (ExT a (.ref C) (some dd))∧H1 dd=some (.xd fs)∧fs.lookup n=some v∧Q v H1
theorem aAS {e:Expr} {te:TE} {pos:Pos} {n:Str} (he:PE X e te) (hb:attributeBase e n X.env (eval e X.env)=eval e X.env:=by rfl):PE X (.Attribute e n pos) (tXfE X.K n te):=by
 refine ⟨fun pins s σ H Q I h => ?_⟩
 refine attr_of hb (thn (he.run pins s σ H _ I h) fun u s1 hh => ?_)
 obtain ⟨x,H1,I1,rx,a,C,dd,fs,v,ex,T,hno,ea,ed,l,q⟩:=hh
 subst ex
 obtain rfl:u=Value.ref a:=rx
 obtain ⟨oe,vs,ha,hz,hd⟩:=(show ∃ (oe:Obj) (vs:Array Value),s1.heap.get? a=some oe∧Zc (.ref C) (some dd) oe∧oe.data = .fields vs from (show ObjOk X.prog X.w H1 s1.heap a (ExT a (.ref C) (some dd)) from I1.hok a _ ea).1)
 have hx:ObjOk X.prog X.w H1 s1.heap dd (.xd fs):=I1.hok dd _ ed
 obtain ⟨mA,hns,hr⟩:=hx
 obtain ⟨od,ho,hl⟩:=lookIn_ns hns
 obtain ⟨u,hu,ru⟩:=RelO.some_of (v:=v) (o:=mA n) (by rw [← l];exact hr n)
 have J:PySem.W.InstAt s1.heap a oe C (some od):=⟨ha,hz.1,by unfold PySem.W.notCls;rw [hd]<;>rfl,by rw [hz.2];exact ho⟩
 exact HandSPX.exc_get I1.kIn J T.hg T.hk T.hs (PySem.W.findObj_own T.hd hno rfl (by rw [hl,hu])) (handed_of ru) ⟨v,H1,I1.tok _,ru,q⟩
theorem aAT {e:Expr} {te:XT} {pos:Pos} {n:Str} (hE : ∀ m∈Tbs.nms,ExcC X.K (Tbs.cad m)) (hno : ∀ m∈Tbs.nms,PySem.W.findIn X.K (.ref (Tbs.cad m)) n=some none) (he:EX X e te) (hb:attributeBase e n X.env (eval e X.env)=eval e X.env:=by rfl) :
  EX X (.Attribute e n pos) (tXfl n te):=by
 refine ⟨PE.imp (aAS he.pe hb) ?_⟩
 rintro σ H Q ⟨ρ,fp,G,Qa,R,h,fin⟩
 refine ⟨ρ,fp,G,_,R,h,fun v p A H1 ρ1 fp1 R1 r1 x1 q1 => ?_⟩
 split at q1
 ·rename_i ex eo
  have w:=r1.rw0 R1 eo
  obtain ⟨a,d,rfl,h1,_,hm,m0,h2⟩:=(show RX _ _ _ _ _ from w)
  split at q1
  ·rename_i f t ea
   obtain ⟨rfl,q1⟩:=q1
   obtain ⟨dd,fs,u,rfl,h4,h5,h6,h7⟩:=h2 f t ea
   refine ⟨a,_,dd,fs,u,rfl,hE _ hm,hno _ hm,h1,h4,h6, ?_⟩
   exact xC.pure (lu (G:=G) R1 (fun a m=>List.mem_append_right _ m) x1.or fin) h7 q1
  ·exact q1.elim
 ·exact q1.elim
end
end DL
namespace DL
open PySem PySem.Spec L2 LamX
open PyProof.Rows hiding St
section
variable {X:Cx} {pins:List (Addr×Obj)} {σ : L2.St} {H:Hp} {s:Shared}
theorem UV {T:List (Addr×Str)} {c P:Addr} {params:Arguments} {body:Expr} {scope:Scope} {pos:Pos} {E:Value->Shared->Prop} {Q:Value->Shared->Prop} (I:Inv X pins σ H s) (TB:TabB X.base X.mg c P) (hcode:X.env.code = .ref c)
  (hm:(P,X.env.qual ++ "<lambda>")∈T) (hu : ∀ p∈T,p.1=P->p.2=X.env.qual ++ "<lambda>") (hT:LamX.Tabs T H) (hdef:defaultsOf params X.env=([], [])) (hfree : ∀ y∈scope.names,y.2 = .free -> ∃ c,X.env.cells.lookup y.1=some c)
  (h : ∀ (f c' : Addr) (pm ctv:Value) (H1:Hp) (s' : Shared),Inv X pins σ H1 s'->ExtN H H1->LamX.Tabs T H1->(∀ b,H1 b=none->H b=none) ->
   s'.heap.get? f=some (PySem.W.kla_obj "<lambda>" (X.env.qual ++ "<lambda>") params body scope (cloFrom X.env.cells scope.names []) pm c' ctv)->H1 f=none->f∉frs X.stack->H1 c'=some (CodeO c' (X.env.qual ++ "<lambda>"))->Q (.ref f) s') :
  wpAny (model X.prog X.w) X.A (eval (.Lambda params body scope pos) X.env) Q E s:=by
 let HT:Hp:=fun b=>match H b with
  | some (.tbl ps)=>some (.tbl ps)
  | _=>X.H_0 b
 have t1 : ∀ {b:Addr} {ps:Array Value},H b=some (.tbl ps)->HT b=some (.tbl ps):=fun {b ps} e=>by show (match H b with | some (HO.tbl ps)=>some (HO.tbl ps) | _=>X.H_0 b)=_;rw [e]
 have t2 : ∀ {b:Addr},(∀ ps,H b≠some (.tbl ps))->HT b=X.H_0 b:=fun {b} n=>by
  show (match H b with | some (HO.tbl ps)=>some (HO.tbl ps) | _=>X.H_0 b)=_
  split
  ·rename_i ps e;exact (n ps e).elim
  ·rfl
 have t3 : ∀ {b:Addr},HT b=none->X.H_0 b=none:=fun {b} e=>by
  by_cases z : ∃ ps,H b=some (.tbl ps)
  ·obtain ⟨ps,z⟩:=z;rw [t1 z] at e;cases e
  ·rw [← t2 fun ps e=>z ⟨ps,e⟩];exact e
 have hn : ∀ {b:Addr},H b=none->HT b=X.H_0 b:=fun {b} e=>t2 fun ps z=>by rw [e] at z;cases z
 let X' : Cx := { X with H_0:=HT }
 have u1:Un X.fs X.ex HT H X.s_0.heap s.heap:=by
  refine ⟨fun b o q n hc hx=>I.base.keep b o q (t3 n) hc hx,fun b o q n hc hx=>I.base.slot b o q (t3 n) hc hx,fun b o q n hx=>I.base.free b o q (t3 n) hx,I.base.there,fun b xs e => ?_,fun b o u e => ?_,fun b ps e => ?_⟩
  all_goals
   by_cases z : ∃ ps,H b=some (.tbl ps)
  ·obtain ⟨ps,z⟩:=z;rw [t1 z] at e;cases e
  ·rw [t2 fun ps e=>z ⟨ps,e⟩] at e;exact I.base.tups b xs e
  ·obtain ⟨ps,z⟩:=z;rw [t1 z] at e;cases e
  ·rw [t2 fun ps e=>z ⟨ps,e⟩] at e;exact I.base.frzs b o u e
  ·obtain ⟨ps',z⟩:=z
   rw [t1 z] at e;cases e
   exact ⟨#[],by rw [Array.append_empty];exact z⟩
  ·rw [t2 fun ps e=>z ⟨ps,e⟩] at e;exact I.base.tbls b ps e
 have fsN : ∀ b∈X.fs,H b=none:=fun b m=>by
  obtain ⟨_,o,e,_⟩:=I.ok.funs.mem m
  exact I.base.free b o e (I.ok.frf b m) fun hx=>I.ok.exfs b hx m
 have ok' : X'.Ok := { I.ok with
  bs:=fun b o e=>⟨(I.ok.bs b o e).1,(hn (I.bs b o e).2).trans (I.ok.bs b o e).2⟩
  frf:=fun b m=>(hn (fsN b m)).trans (I.ok.frf b m) }
 have I' : Inv X' pins σ H s:=⟨ok',I.os,I.bare,u1,I.loc,I.cell,I.free,I.freeC,I.pin,I.hok,I.len⟩
 refine lam_make2 (X:=X') I' TB hcode hm hu hT hdef hfree fun f c' pm ctv H1 s' I1 eN T1 hf hfn hfr hco => ?_
 have old : ∀ {b:Addr} {o:Obj},X.s_0.heap.get? b=some o->X.H_0 b=none->b∉X.ex->HT b=none:=fun {b o} q n hx=>(hn (I.base.free b o q n hx)).trans n
 have I2:Inv X pins σ H1 s':=by
  refine ⟨I.ok,I1.os,I1.bare,⟨fun b o q n hc hx=>I1.base.keep b o q (old q n hx) hc hx,fun b o q n hc hx=>I1.base.slot b o q (old q n hx) hc hx,fun b o q n hx=>I1.base.free b o q (old q n hx) hx,I1.base.there,fun b xs e => ?_,fun b o u e => ?_,fun b ps e => ?_⟩,I1.loc,I1.cell,I1.free,I1.freeC,I1.pin,I1.hok,I1.len⟩
  ·refine I1.base.tups b xs ((t2 fun ps z => ?_).trans e)
   rw [I.base.tups b xs e] at z;cases z
  ·refine I1.base.frzs b o u ((t2 fun ps z => ?_).trans e)
   rw [I.base.frzs b o u e] at z;cases z
  ·obtain ⟨m,z⟩:=I.base.tbls b ps e
   obtain ⟨m',z'⟩:=I1.base.tbls b _ (t1 z)
   exact ⟨m++m',by rw [z',Array.append_assoc]⟩
 refine h f c' pm ctv H1 s' I2 eN T1 (fun b e => ?_) hf hfn hfr hco
 cases q:H b with
 | none=>rfl
 | some u =>
  by_cases z : ∃ ps,u = .tbl ps
  ·obtain ⟨ps,rfl⟩:=z
   obtain ⟨m,z⟩:=I1.base.tbls b ps (t1 q)
   rw [e] at z;cases z
  ·rw [eN b u q fun ps e2=>z ⟨ps,e2⟩] at e;cases e
end
def ZX:Option O->Option T
 | some (.pure t)=>some t
 | _=>none
def vws (ρ : aM):List (Option T):=ρ.map ZX
def vwE (ts:List (Option T)):aM:=ts.map (Option.map .pure)
theorem ExtN.toExt [Tbs] {H H1:Hp} {F:Addr->Prop} (e:ExtN H H1) (t:LamX.Tabs Tbs.T H1) (dm : ∀ a,H1 a=none->H a=none):Ext H F H1 F :=
 ⟨fun a o h _ n=>e a o h n,fun a xs h=>e a _ h (fun _ z=>(nomatch z)),fun a o u h=>e a _ h (fun _ z=>(nomatch z)),fun a z => .inl z,dm,fun _=>t,fun a φ h _=>e a _ h (fun _ z=>(nomatch z))⟩
section
variable [Tbs]
theorem RS0.vw {K:PySem.W.Frag} {σ : L2.St} {H:Hp} {F:Addr->Prop} {ts:List (Option T)} {G:List Addr} (hl:ts.length=σ.length) (h : ∀ (i:Nat) (t:T),ts[i]? = some (some t) -> ∃ u,σ[i]? = some (some u)∧RP K H F u t) (w : ∀ a∈G,F a) (gi : ∀ a∈G, ∃ u,H a=some u) (tb:LamX.Tabs Tbs.T H) :
  RS0 K σ H (vwE ts) (fun _=>[]) G:=by
 refine ⟨fun i o e => ?_,fun i e=>rfl,fun i j a m=>(nomatch m),fun i => .nil,fun a m z=>(let ⟨_,m⟩:=z;nomatch m),gi,by unfold vwE;rw [List.length_map,hl],tb⟩
 unfold vwE at e
 rw [List.getElem?_map] at e
 cases q:ts[i]? with
 | none=>rw [q] at e;cases e
 | some u =>
  rw [q] at e
  cases u with
  | none=>cases e
  | some t =>
   cases e
   obtain ⟨v,h1,h2⟩:=h i t q
   exact ⟨v,h1,rfl,h2.weak fun a z=>z.elim (fun ⟨_,m⟩=>nomatch m) (w a)⟩
theorem aAU {ρ : aM} {i:Nat} {t:T} (h:(vws ρ)[i]? = some (some t)) : ρ[i]? = some (some (.pure t)):=by
 unfold vws at h
 rw [List.getElem?_map] at h
 cases q : ρ[i]? with
 | none=>rw [q] at h;cases h
 | some o =>
  rw [q] at h
  cases o with
  | none=>cases h
  | some o =>
   cases o with
   | pure u=>cases h;rfl
   | _=>cases h
structure aAn (base:Heap) (mg:Str->Option Value) (cd:Value) (q:Str) (c P:Addr):Prop where
 cd:cd = .ref c
 tb:TabB base mg c P
 mem:(P,q)∈Tbs.T
 one : ∀ p∈Tbs.T,p.1=P->p.2=q
end
end DL
namespace DL
open PySem PySem.Spec L2
open PyProof.Rows hiding St
def UW (cs:List (Addr×Addr)) (H:Hp):Prop:=(∀ p∈cs,H p.2=some (.tbl #[])) ∧ ∀ b,H b=none∨b∈cs.map (·.2) ∨ ∃ o xs,H b=some (.frz o (.lst xs))
theorem Ua {P:Program} {w:World} {K:PySem.W.Frag} {mg mb:Str->Option Value} {k:Nat} {fa a:Addr} {cs:List (Addr×Addr)} {fd:FuncData} {x:Str} {sp:Sp} {s1:Shared} {vs:List Value} {ns:List Int}
  (KX:K.In s1.heap) (hns:s1.heap.Ns mainGlobals mg) (hb:s1.heap.Ns builtinsNs mb) (hbb : ∀ x:Str,x ≠ "__name__" -> mb x=bootBuiltins x) (hlim:s1.heap.NoLimit) (hg:s1.gens = #[])
  (hT : ∀ p∈cs,s1.heap.get? p.2=some { cls := .none,data := .fields #[] }) (nT : ∀ p∈cs,K.lookup p.2=none) (C : ∀ p∈cs,PySem.W.CodeHd s1.heap p.1 p.2)
  (hbm : ∃ (bm:Addr) (ob:Obj),mg "__builtins__" = some (.ref bm)∧bm≠builtinsNs∧s1.heap.get? bm=some ob∧ob.cls = .type "module" ∧ ob.dict=some builtinsNs∧ob.data = .plain)
  (ha:s1.heap.get? a=some { cls := .type "list",data := .seq vs.toArray }) (hi:IntsAre vs ns) (hl:ns.length≤sizeLine) (hr:Room k callerA)
  (F : ∀ base:Heap,K.In base->base.Ns mainGlobals mg->(∀ p∈cs,LamX.TabB base mg p.1 p.2)->FnG P w K mg base CX0 k fa fd [x] sp) (hbind : ∀ (s:Shared) (u:Value),BindsTo s fd ⟨[u], []⟩ [(x,u)])
  (hsp : ∀ H:Hp,UW cs H->SqL K H a (ns.map V.int)->sp [.ref a] H (fun v _=>v = .bl true) fun _ _ _=>False) :
  codeAny (model P w) callerA (.call (.ref fa) ⟨[.ref a], []⟩) (fun r s'=>r = .ok (.ret (.bool true))∧OldK s1.heap s'.heap∧s'.os=s1.os∧AllBare s'.gens) s1:=by
 have rv:=vals_ints hi
 have isT : ∀ b:Addr,b∈cs.map (·.2)->s1.heap.get? b=some { cls := .none,data := .fields #[] }:=fun b hb=>by
  obtain ⟨p,hp,e⟩:=List.mem_map.mp hb
  exact e▸hT p hp
 have aT:a∉cs.map (·.2):=fun z=>by
  have q:=isT a z
  rw [ha] at q
  exact nomatch (show Data.seq vs.toArray _=Data.fields #[] from congrArg Obj.data (Option.some.inj q))
 have memT : ∀ p∈cs,p.2∈cs.map (·.2):=fun p hp=>List.mem_map.mpr ⟨p,hp,rfl⟩
 have go : ∀ H:Hp,UW cs H->SqL K H a (ns.map V.int)->HOk P w H s1.heap->(∀ b,H b≠none->b=a∨b∈cs.map (·.2))->(H a≠none->K.lookup a=none) ->
   codeAny (model P w) callerA (.call (.ref fa) ⟨[.ref a], []⟩) (fun r s'=>r = .ok (.ret (.bool true))∧OldK s1.heap s'.heap∧s'.os=s1.os∧AllBare s'.gens) s1:=by
  intro H hO hS hok hA hK
  have noD : ∀ {b:Addr} {o:Obj},s1.heap.get? b=some o->(∀ vs n,o.data ≠ .seq vs n)->o.data ≠ .fields #[]->H b=none:=fun {b o} e h1 h2=>by
   cases q:H b with
   | none=>rfl
   | some u =>
    rcases hA b (by rw [q];simp) with e' | e'
    ·subst e'; rw [ha] at e;cases e;exact (h1 _ _ rfl).elim
    ·rw [isT b e'] at e;cases e;exact (h2 rfl).elim
  have dictN : ∀ {b:Addr} {o:Obj} {es:Array DictEntry} {ep:Nat},s1.heap.get? b=some o->o.data = .dict es ep->H b=none:=fun {b o es ep} e d=>noD e (fun vs n z=>by rw [d] at z;cases z) fun z=>by rw [d] at z;cases z
  have ns2 : ∀ {b:Addr} {m:Str->Option Value},s1.heap.Ns b m->(hidT s1.heap H).Ns b m:=fun {b m} ⟨o,es,ep,e,d,r⟩=>⟨o,es,ep,hidT_get e (dictN e d),d,r⟩
  have kin2:K.In (hidT s1.heap H):=fun b o e=>hidT_get (KX b o e) (by
   cases q:H b with
   | none=>rfl
   | some u =>
    rcases hA b (by rw [q];simp) with e' | e'
    ·subst e'; rw [hK (by rw [q];simp)] at e;cases e
    ·obtain ⟨p,hp,ep⟩:=List.mem_map.mp e'
     rw [← ep,nT p hp] at e;cases e)
  have TB : ∀ p∈cs,LamX.TabB (hidT s1.heap H) mg p.1 p.2:=fun p hp=>by
   have hTp:=hT p hp
   refine ⟨?_, ?_,fun z => ?_⟩
   ·obtain ⟨o,us,file,tf,flags,tg,inF,text,tt,e1,r1,r2,r3,r4,r5,r6,r7,r8,hne⟩:=C p hp
    refine ⟨o,us,file,tf,flags,tg,inF,text,tt,hidT_get e1 (noD e1 (fun vs n z => ?_) fun z => ?_),r1,r2,r3,r4,r5,r6,r7,r8,hne⟩
    ·rw [r2] at z;cases z
    ·rw [r2] at z;cases z;simp at r3
   ·obtain ⟨bm,ob,b1,b2,b3,b4,b5,b6⟩:=hbm
    have nG:bm≠mainGlobals:=fun q=>by
     obtain ⟨o,es,ep,e,hd,_⟩:=hns
     rw [q,e] at b3;cases b3;rw [hd] at b6;cases b6
    have nP:bm≠p.2:=fun q=>by
     rw [q,hTp] at b3;cases b3;cases b6
    refine ⟨bm,ob,b1,b2,nG,nP,hidT_get b3 (noD b3 (fun vs n z => ?_) fun z => ?_),b4,b5,b6⟩
    ·rw [b6] at z;cases z
    ·rw [b6] at z;cases z
   ·obtain ⟨o,es,ep,e,hd,_⟩:=hns
    rw [z,hTp] at e;cases e;cases hd
  have e0:Env0 P w K mg (hidT s1.heap H) callerA [] s1 H:=⟨rfl,⟨kin2,ns2 hns,⟨mb,ns2 hb,hbb⟩,let ⟨mc,h1,h2⟩:=hlim;⟨mc,ns2 h1,h2⟩⟩,fun b o e=>of_hidT e,Nat.le_of_eq (hidT_size _ _),trivial,fun b hb=>absurd (show b∈([]:List Addr) from hb) (by simp),hok, .of_eq hg⟩
  refine codeAny_mono ((F _ kin2 (ns2 hns) TB).run callerA [] s1 H ⟨[.ref a], []⟩ [.ref a] [.ref a] _ _ ⟨hr,rfl⟩ e0 (hbind s1 (.ref a)) (.cons rfl .nil) (hsp H hO hS)) fun r s' h => ?_
  match r,h with
  | .error e,h=>exact h.elim
  | .ok (.ret u),⟨v,H',os,bare,un,hok',r',q⟩ =>
   obtain rfl:v = .bl true:=q
   obtain rfl:u=Value.bool true:=r'
   have key : ∀ b o,b∉cs.map (·.2)->s1.heap.get? b=some o->s'.heap.get? b=some o:=fun b o nb e=>by
    rcases hO.2 b with z | z | ⟨ob,xs,z⟩
    ·exact un.keep b o e z (by intro y;exact absurd (show b∈([]:List Addr) from y) (by simp)) (by simp)
    ·exact absurd z nb
    ·obtain ⟨e1,_⟩:=hok b _ z
     obtain ⟨e2,_⟩:=hok' b _ (un.frzs b ob _ z)
     rw [e] at e1;cases e1
     exact e2
   have grown : ∀ p∈cs, ∃ more:Array Value,s'.heap.get? p.2=some { cls := .none,data := .fields more }:=fun p hp=>by
    obtain ⟨more,z⟩:=un.tbls p.2 #[] (hO.1 p hp)
    exact ⟨_,hok' p.2 _ z⟩
   refine ⟨rfl,⟨fun b o e => ?_,fun b o e => ?_⟩,os,bare⟩
   ·by_cases hb:b∈cs.map (·.2)
    ·obtain ⟨p,hp,ep⟩:=List.mem_map.mp hb
     obtain ⟨more,hm⟩:=grown p hp
     rw [← ep] at e ⊢
     rw [hT p hp] at e;cases e
     exact .inr (.inl ⟨((C p hp).tab (hT p hp)).isCodeTable,rfl, #[],more,rfl,by rw [Array.empty_append];exact hm⟩)
    ·exact .inl (key b o hb e)
   ·by_cases hb:b∈cs.map (·.2)
    ·obtain ⟨p,hp,ep⟩:=List.mem_map.mp hb
     obtain ⟨more,hm⟩:=grown p hp
     exact ⟨_,ep▸hm⟩
    ·exact ⟨o,key b o hb e⟩
 let HB:Option HO->Hp:=fun u b=>if b=a then u else if b∈cs.map (·.2) then some (.tbl #[]) else none
 have hBa : ∀ {u},HB u a=u:=fun {u}=>if_pos rfl
 have hBt : ∀ {u b},b∈cs.map (·.2)->HB u b=some (.tbl #[]):=fun {u b} m=>(if_neg (fun (z:b=a)=>aT (z▸m))).trans (if_pos m)
 have hBn : ∀ {u b},b≠a->b∉cs.map (·.2)->HB u b=none:=fun {u b} n m=>(if_neg n).trans (if_neg m)
 have three : ∀ (u:Option HO) (b:Addr),(b=a∧HB u b=u)∨(b∈cs.map (·.2)∧HB u b=some (.tbl #[]))∨(b≠a∧b∉cs.map (·.2)∧HB u b=none):=fun u b=>by
  by_cases q:b=a
  ·exact .inl ⟨q,q▸hBa⟩
  ·by_cases m:b∈cs.map (·.2)
   ·exact .inr (.inl ⟨m,hBt m⟩)
   ·exact .inr (.inr ⟨q,m,hBn q m⟩)
 cases hk:K.lookup a with
 | some o =>
  have e:=KX a o hk
  rw [ha] at e;cases e
  refine go (HB none) ⟨fun p hp=>hBt (memT p hp),fun b => ?_⟩ (.inr ⟨_,vs.toArray,_,hk,rfl,rfl,rfl,by rw [List.size_toArray,hi.length];exact hl,by simpa using rv⟩) (fun b u z => ?_) (fun b z => ?_) fun z=>absurd hBa z
  all_goals rcases three none b with ⟨e,q⟩ | ⟨m,q⟩ | ⟨n,m,q⟩
  ·exact .inl q
  ·exact .inr (.inl m)
  ·exact .inl q
  ·rw [q] at z;cases z
  ·rw [q] at z;cases z;exact isT b m
  ·rw [q] at z;cases z
  ·exact absurd q z
  ·exact .inr m
  ·exact absurd q z
 | none =>
  refine go (HB (some (.frz { cls := .type "list",data := .seq vs.toArray } (.lst (ns.map V.int))))) ⟨fun p hp=>hBt (memT p hp),fun b => ?_⟩ (.inl (.inr ⟨_,hBa⟩)) (fun b u z => ?_) (fun b z => ?_) fun _=>hk
  all_goals rcases three (some (.frz { cls := .type "list",data := .seq vs.toArray } (.lst (ns.map V.int)))) b with ⟨e,q⟩ | ⟨m,q⟩ | ⟨n,m,q⟩
  ·exact .inr (.inr ⟨_,_,q⟩)
  ·exact .inr (.inl m)
  ·exact .inl q
  ·rw [q] at z;cases z
   rw [e];exact ⟨ha,by rw [List.length_map];exact hl,vs,_,rv,ha⟩
  ·rw [q] at z;cases z;exact isT b m
  ·rw [q] at z;cases z
  ·exact .inl e
  ·exact .inr m
  ·exact absurd q z
theorem Ub {l:PySem.W.OpenLaw} {n k:Nat} {q:Program} {loose:List Str} {XP:(Str->Option Value)->Heap->Prop} {YP:World->Heap->Prop} {d:DefRec} {x:Str}
  (hn:l.most=some n) (hn2:n≤sizeLine) (hdf:d.params.defaults=[]) (hr:Room k callerA)
  (F : ∀ (w:World) (mg:Str->Option Value) (fa:Addr) (h:Heap),YP w h->h.Ns mainGlobals mg->mg d.name=some (.ref fa) ->
   ∃ (K:PySem.W.Frag) (fd:FuncData) (cs:List (Addr×Addr)) (sp:Sp),K.In h∧(∀ p∈cs,h.get? p.2=some { cls := .none,data := .fields #[] })∧(∀ p∈cs,K.lookup p.2=none)∧(∀ p∈cs,PySem.W.CodeHd h p.1 p.2) ∧
    (∀ (s:Shared) (u:Value),BindsTo s fd ⟨[u], []⟩ [(x,u)]) ∧
    (∀ (H:Hp) (a:Addr) (ns:List Int),ns.length≤n->UW cs H->SqL K H a (ns.map V.int)->sp [.ref a] H (fun v _=>v = .bl true) fun _ _ _=>False) ∧
    ∀ base:Heap,K.In base->base.Ns mainGlobals mg->(∀ p∈cs,LamX.TabB base mg p.1 p.2)->FnG l.prog w K mg base CX0 k fa fd [x] sp) :
  PySem.W.WalkO q loose XP YP l.row.toRowW d [] (fun f vs=>PySem.call f vs):=by
 refine Att.attach_call hn hdf fun w s₀ s₁ mg mb fa o pm cd doc a vs ns G Y ho hd hcd hmg hobj hints hlen hg => ?_
 obtain ⟨K,fd,cs,sp,KX,hT,nT,C,hb,hsp,hF⟩:=F w mg fa _ Y G.T.g hmg
 exact Ua KX G.T.g G.T.b G.T.builtins G.T.nolimit hg hT nT C G.T.bmain hobj hints (Nat.le_trans hlen hn2) hr hF hb fun H hO hS=>hsp H a ns hlen hO hS
theorem Rq [Tbs] {cs:List (Addr×Addr)} {H:Hp} (hO:UW cs H) (h : ∀ p∈Tbs.T,p.1∈cs.map (·.2)):LamX.Tabs Tbs.T H:=fun p hp=>by
 obtain ⟨c,hc,e⟩:=List.mem_map.mp (h p hp)
 exact LamX.TabS.nil (e▸hO.1 c hc)
section
variable {P:Program} {w:World} {K:PySem.W.Frag} {mg:Str->Option Value} {base:Heap} {x qual:Str} {params:Arguments} {body:List Stmt} {scope:Scope} {f:Addr} {fd:FuncData} {CX:CXT} {sp:Sp}
theorem FunD.code (F:FunD K x qual params body scope [] [] f fd) : ∃ c,fd.code = .ref c:=by
 obtain ⟨oc,od,dV,kV,doc,pm,an,cdv,ct,osl,rfl,lk,hcd,_,_⟩:=F.ex
 exact He.codeIn_ref hcd
theorem ZZ {oc:Value} {od:Option Addr} {dV kV doc pm:Value} {an:Option Addr} {cdv ct:Value} {osl:Array (Option Value)} {N ps:List Str} {k:Nat} (lk:K.lookup f=some ⟨oc,od, .func (PySem.W.fnOf x qual params body scope dV kV doc pm an cdv ct),osl⟩) (hcd:PySem.W.codeIn K cdv qual=true) (S:FnScope N ps scope) (len : ∀ vs H Q E,sp vs H Q E->vs.length=ps.length)
  (hbody : ∀ (A:Around) (outer:List Env) (s:Shared) (H:Hp) (vs:List V) (Q:VK) (E:XK),Rm k (A.deeper (envOfC qual scope s.heap.objs.size f cdv))->sp vs H Q E ->
   ∃ t,PSs (cxOf CX P w K mg base N qual scope f cdv A outer s H E) body t∧t { nx:=fun _ H'=>Q .non H',rt:=Q } (L2.start N vs) H):FnG P w K mg base CX (k+1) f (PySem.W.fnOf x qual params body scope dV kV doc pm an cdv ct) ps sp:=by
 refine ⟨len,fun A outer s H args us vs Q E hr e0 hb r hsp => ?_⟩
 have hl:=len _ _ _ _ hsp
 have up : ∀ b o,base.get? b=some o->s.heap.get? b=some o:=fun b o e=>(e0.bs b o e).1
 have kin:K.In s.heap:=e0.mod.kin.keeps up
 have nol:s.heap.NoLimit:=e0.mod.nolimit.keeps up
 refine codeAny_call_function hr.room.depth (kin _ _ lk) rfl S.co S.gen rfl (PySem.W.codeRec_of kin hcd) (hb _ _ _ _ ?_)
 refine wpAny_newFunctionEnv_cells S.kind (fun ⟨n,v⟩ hy=>(S.par n (List.of_mem_zip hy).1).imp (fun q=>q) fun q=>⟨q,PySem.W.cellsFrom_some _ _ _ (.inl q)⟩) fun env he s1 x => ?_
 subst he
 obtain ⟨t,ht,hq⟩:=hbody A outer s H vs Q E (hr.deeper _) hsp
 refine ⟨nol.keeps x.toInCall.keep,codeAny_func (wpAny_mono (ht.run [] s1 (L2.start N vs) H _ (inv_start S hr.room.hd e0 hl r x) hq) (fun fl s' hs => ?_) fun e s' hs=>hs)⟩
 cases fl with
 | ret u=>obtain ⟨v,σ',H',J,rv,q⟩:=hs;exact ⟨v,H',J.os,J.bare,J.base,J.hok,rv,q⟩
 | next=>obtain ⟨σ',H',J,q⟩:=hs;exact ⟨V.non,H',J.os,J.bare,J.base,J.hok,rfl,q⟩
 | brk=>obtain ⟨_,_,_,q⟩:=hs;exact q.elim
 | cont=>obtain ⟨_,_,_,q⟩:=hs;exact q.elim
theorem Uc [Tbs] {N ps:List Str} {k:Nat} {spec:bU} (fl:List Bool) (tb:ST) (F:FunD K x qual params body scope [] [] f fd) (S:FnScope N ps scope) (hfl:fl.length=ps.length)
  (hbody : ∀ (cdv:Value) (A:Around) (outer:List Env) (s:Shared) (H:Hp) (E:XK),fd.code=cdv->Rm k (A.deeper (envOfC qual scope s.heap.objs.size f cdv)) ->
   ∀ B:Bas, @SXs _ B (cxOf CX0 P w K mg base N qual scope f cdv A outer s H E).nox (fun j=>fl.getD j false) body tb)
  (rd : ∀ os Qa,os.length=fl.length->spec os Qa->tb (aP fl Qa) (aK N.length os)):FnG P w K mg base CX0 (k+1) f fd ps (ASp K fl spec):=by
 obtain ⟨oc,od,dV,kV,doc,pm,an,cdv,ct,osl,rfl,lk,hcd,hd,hk⟩:=F.ex
 refine ⟨fun vs H Q E h => ?_,fun A outer s H args us vs Q E hr e0 hb r h => ?_⟩
 ·obtain ⟨os,fp,G,Qa,h,_⟩:=h
  rw [h,hfl]
 have G:FnG P w K mg base CX0 (k+1) f (PySem.W.fnOf x qual params body scope dV kV doc pm an cdv ct) ps (ASp K fl spec):=by
  refine ZZ lk hcd S (fun vs H Q E h => ?_) fun A outer s H vs Q E hr h=>let ⟨B,hB⟩:=Ov fl tb S rd h;⟨@LS _ B K (fun j=>fl.getD j false) tb,PSs.nox (hbody cdv A outer s H E rfl hr B).pss,hB⟩
  obtain ⟨os,fp,G,Qa,h,_⟩:=h
  rw [h,hfl]
 exact G.run A outer s H args us vs Q E hr e0 hb r h
end
theorem tkNo [Tbs] [Bas] {X:Cx} {K:PySem.W.Frag}:Takes X (WE K fun _ _=>False):=LamX.takes0.imp fun c d σ H ⟨_,_,_,_,_,_,q⟩=>q
section
variable {K:PySem.W.Frag}
theorem Za {D:Addr} (h:excB K D=true):ExcC K D:=by
 obtain ⟨h1,h⟩:=ba2 h
 obtain ⟨h2,h⟩:=ba2 h
 obtain ⟨h3,h⟩:=ba2 h
 obtain ⟨h4,h⟩:=ba2 h
 obtain ⟨h5,h⟩:=ba2 h
 obtain ⟨h6,h⟩:=ba2 h
 obtain ⟨h7,h8⟩:=ba2 h
 exact ⟨of_decide_eq_true h1,of_decide_eq_true h2,of_decide_eq_true h3,h4,of_decide_eq_true h5,of_decide_eq_true h6,of_decide_eq_true h7,of_decide_eq_true h8⟩
theorem Ud {C:Addr} (h:clsB K C=true) : ∃ nm q N bs bm sn sub ab col dd k0 k1 k2 k3 k5,K.lookup C=some (excClassObj nm q C N bs bm true sn sub ab col dd k0 k1 k2 k3 k5 "ValueError.__new__")∧PySem.HandSPX.refsVE bm=true:=by
 unfold clsB at h
 split at h
 ·rename_i t dd cd sl e
  obtain ⟨h1,h⟩:=ba2 h
  split at h
  ·rename_i C' bm k0 k1 k2 k3 n k5 e1 e2
   obtain ⟨h2,h⟩:=ba2 h
   obtain ⟨h3,h⟩:=ba2 h
   obtain ⟨h4,h⟩:=ba2 h
   obtain ⟨h5,h6⟩:=ba2 h
   obtain ⟨nm,bs,mro,N,q,hd,sn,sub,ab,col,hl⟩:=cd
   have e2' : sl = #[k0,k1,k2,k3,some (.builtin n),k5]:=by
    cases sl;simpa using e2
   simp only at e1 h4 h5
   simp only [Bool.not_eq_true'] at h5
   refine ⟨nm,q,N,bs,bm,sn,sub,ab,col,dd,k0,k1,k2,k3,k5, ?_,h6⟩
   rw [e,e1,e2',h4,h5,of_decide_eq_true h1,of_decide_eq_true h2,of_decide_eq_true h3]
  ·cases h
 ·cases h
theorem wW {C:Addr} {fld:Str} (h:Mq K C fld=true):Ce K C (He.ma K C "__init__") fld:=by
 obtain ⟨h1,h⟩:=ba2 h
 obtain ⟨h2,h⟩:=ba2 h
 obtain ⟨h3,h⟩:=ba2 h
 obtain ⟨h4,h⟩:=ba2 h
 obtain ⟨h5,h⟩:=ba2 h
 obtain ⟨h6,h⟩:=ba2 h
 obtain ⟨h7,h8⟩:=ba2 h
 exact ⟨⟨Ud h1,of_decide_eq_true h2,of_decide_eq_true h3,of_decide_eq_true h4,h5⟩,of_decide_eq_true h6,of_decide_eq_true h7,of_decide_eq_true h8⟩
theorem Dj {C:Addr} {x:Str} {mg:Str->Option Value} (hm:mg x=some (.ref C)) (h:aAq K C=true):Wm K mg x C:=by
 obtain ⟨h1,h⟩:=ba2 h
 obtain ⟨h2,h3⟩:=ba2 h
 refine ⟨hm,of_decide_eq_true h1, .type "type",h2, ?_⟩
 split at h3
 ·rename_i v e
  rw [e,of_decide_eq_true h3]
 ·cases h3
theorem Zb {nms:List Str} {u:Value} {f:Str->Bool} (h:exmB K nms u f=true) : ∀ m∈nms,PySem.W.exmOne K (.ref (He.ga K m)) u=some (f m):=fun m hm=>of_decide_eq_true (List.all_eq_true.mp h m hm)
theorem QJ {nms:List Str} {u:Value} {f:Str->Bool} (h:Yq K nms u f=true) : ∀ m∈nms,PySem.W.kitOne K (.ref (He.ga K m)) u=some (f m):=fun m hm=>of_decide_eq_true (List.all_eq_true.mp h m hm)
end
variable [Tbs] [Bas]
end DL
namespace DL
open PySem PySem.Spec L2
open PyProof.Rows hiding St
theorem Ue [Tbs] {K:PySem.W.Frag} {base:Heap} {mg:Str->Option Value} {p:Str×Option Str} {x qual q:Str} {params:Arguments} {body:List Stmt} {scope:Scope} {fd:FuncData}
  (F:FunD K x qual params body scope [] [] (He.fAd K p) fd) (tb:LamX.TabB base mg (He.cT K p).1 (He.cT K p).2) (mem:((He.cT K p).2,q)∈Tbs.T) (one : ∀ z∈Tbs.T,z.1=(He.cT K p).2->z.2=q) :
  aAn base mg fd.code q (He.cT K p).1 (He.cT K p).2:=by
 obtain ⟨oc,od,dV,kV,doc,pm,an,cdv,ct,osl,rfl,lk,hcd,_,_⟩:=F.ex
 obtain ⟨c,e⟩:=He.codeIn_ref hcd
 have e2:=He.codeOf_eq lk (c:=c) e
 refine ⟨?_,tb,mem,one⟩
 show cdv = .ref (He.codeOf K p)
 rw [e2,e]
theorem Ug {α : Type} {p : α->Bool} {l:List α} (h:l.all p=true) : ∀ a∈l,p a=true:=List.all_eq_true.mp h
section
open He
end
end DL
namespace DL
open PySem PySem.Spec L2 RZ
open PyProof.Rows hiding St
theorem Uh:typeLookup (.type "zip") "__len__" = pure none:=by rw [typeLookup_type,builtinLookup_eq_fast];kernel_rfl
theorem Rr:typeLookup (.type "zip") "__length_hint__" = pure none:=by rw [typeLookup_type,builtinLookup_eq_fast];kernel_rfl
theorem YJ {a z TO i1 i2:Addr} (h1:a≠z) (h2:a≠TO) (h3:a≠i1) (h4:a≠i2):a∉[z,TO,i1,i2]:=fun m=>by
 simp only [List.mem_cons,List.not_mem_nil,or_false] at m
 rcases m with e | e | e | e
 ·exact h1 e
 ·exact h2 e
 ·exact h3 e
 ·exact h4 e
theorem aAV {d z TI TO i1 i2 l1 l2:Addr} (h:d∉[z,TI,TO,i1,i2,l1,l2]):d∉[z,TO,i1,i2]:=by
 simp only [List.mem_cons,List.not_mem_nil,or_false,not_or] at h
 exact YJ h.1 h.2.2.1 h.2.2.2.1 h.2.2.2.2.1
theorem YK {b n z TO i1 i2:Addr} (h:b<n) (h1:n≤z) (h2:n≤TO) (h3:n≤i1) (h4:n≤i2):b∉[z,TO,i1,i2] :=
 YJ (Nat.ne_of_lt (Nat.lt_of_lt_of_le h h1)) (Nat.ne_of_lt (Nat.lt_of_lt_of_le h h2)) (Nat.ne_of_lt (Nat.lt_of_lt_of_le h h3)) (Nat.ne_of_lt (Nat.lt_of_lt_of_le h h4))
theorem Ui {n a b:Nat} (ha:a<n) (hb:b<n):ZipApart (n+4) (n+2) (n+3) n (n+1) a b:=by
 constructor
 all_goals exact fun e=>absurd (show (_:Nat)=_ from e) (by omega)
structure ZS (d z TI TO i1 i2 l1 l2:Addr) (xs ys:Array Value) (k:Nat) (h:Heap):Prop where
 ti:IsPair h TI (.ref i1) (.ref i2)
 n1:h.IsTupleIter i1 l1 k
 n2:h.IsTupleIter i2 l2 k
 t1:h.IsTuple l1 xs
 t2:h.IsTuple l2 ys
 out:(IsZip h z TI TO .none ∧ ∃ a b,IsPair h TO a b) ∨ ∃ T f oT,IsZipHeld h z TI TO T f∧h.get? T=some oT∧T≠z∧T≠i1∧T≠i2∧T≠d
section
variable {prog:Program} {w:World} {A:Around} {E:Value->Shared->Prop} {s:Shared} {d z TI TO i1 i2 l1 l2:Addr} {xs ys:Array Value} {k:Nat} {h h' : Heap}
theorem ZS.frame (st:ZS d z TI TO i1 i2 l1 l2 xs ys k h) (hd:d∉[z,TI,TO,i1,i2,l1,l2]) (kp : ∀ b o,b≠d->h.get? b=some o->h'.get? b=some o):ZS d z TI TO i1 i2 l1 l2 xs ys k h':=by
 simp only [List.mem_cons,List.not_mem_nil,or_false,not_or] at hd
 obtain ⟨dz,dTI,dTO,d1,d2,dl1,dl2⟩:=hd
 refine ⟨kp _ _ (Ne.symm dTI) st.ti,st.n1.at fun o e=>kp _ o (Ne.symm d1) e,st.n2.at fun o e=>kp _ o (Ne.symm d2) e,st.t1.at fun o e=>kp _ o (Ne.symm dl1) e,st.t2.at fun o e=>kp _ o (Ne.symm dl2) e, ?_⟩
 rcases st.out with ⟨h1,a,b,h2⟩ | ⟨T,f,oT,h1,h2,q1,q2,q3,q4⟩
 ·exact .inl ⟨kp _ _ (Ne.symm dz) h1,a,b,kp _ _ (Ne.symm dTO) h2⟩
 ·exact .inr ⟨T,f,oT,kp _ _ (Ne.symm dz) h1,kp _ _ q4 h2,q1,q2,q3,q4⟩
theorem Ag {T:Addr} {f:Bool} {oT:Obj} {x y:Value} {Q:Value->Shared->Prop} (D:ZipApart z TI TO i1 i2 l1 l2)
  (hz:IsZipHeld s.heap z TI TO T f) (hT:s.heap.get? T=some oT) (hTI:IsPair s.heap TI (.ref i1) (.ref i2))
  (h1:s.heap.IsTupleIter i1 l1 k) (h2:s.heap.IsTupleIter i2 l2 k) (hl1:s.heap.IsTuple l1 xs) (hl2:s.heap.IsTuple l2 ys) (hx:xs[k]? = some x) (hy:ys[k]? = some y)
  (hQ : ∀ h',IsZipHeld h' z TI TO T true->h'.IsTupleIter i1 l1 (k+1)->h'.IsTupleIter i2 l2 (k+1)->IsPair h' s.heap.objs.size x y->h'.objs.size=s.heap.objs.size+1 ->
   (∀ c o,c≠z->c≠i1->c≠i2->s.heap.get? c=some o->h'.get? c=some o)->Q (.ref s.heap.objs.size) { s with heap:=h' }) :
  wpAny (model prog w) A (Builtin.«zip.__next__» ⟨[.ref z], []⟩) (fun fin s' => ∃ v,fin = .done (.ret v)∧Q v s') E s:=by
 show wpAny _ _ (field (.ref z) 2 >>= _) _ _ _
 refine wpAny_bind (wpAny_field (x := .bool false) hz rfl rfl ?_)
 show wpAny _ _ (field (.ref z) 3 >>= _) _ _ _
 refine wpAny_bind (wpAny_field (x := .ref TI) hz rfl rfl ?_)
 refine wpAny_bind (wpAny_seqItems (s:=s) hTI rfl ?_)
 show wpAny _ _ (Builtin.SmallTypes.ownedTupleIsFree (.ref z) >>= _) _ _ _
 refine wpAny_bind (wpAny_tupleHeld_zip (oT:=oT) hz hT fun g1 hz1 e1 => ?_)
 simp only [Bool.false_eq_true,if_false]
 refine wpAny_bind ?_
 rw [← Array.forIn_toList]
 simp only [List.forIn_cons,List.forIn_nil]
 refine wpAny_bind (wpAny_bind (wpAny_holding ?_))
 show wpAny _ _ (Builtin.SmallTypes.nextOf (.ref i1) >>= _) _ _ _
 refine wpAny_bind (nextOf_tuple_item (s := { s with heap:=g1 }) (x:=x) (h1.extBut e1.extBut D.i1z) (hl1.extBut e1.extBut D.l1z) hx fun g2 n2 e2=>wpAny_pure ?_)
 refine wpAny_pure ?_
 refine wpAny_bind (wpAny_bind (wpAny_holding ?_))
 show wpAny _ _ (Builtin.SmallTypes.nextOf (.ref i2) >>= _) _ _ _
 refine wpAny_bind (nextOf_tuple_item (s := { s with heap:=g2 }) (x:=y) ((h2.extBut e1.extBut D.i2z).extBut e2.extBut D.i12.symm) ((hl2.extBut e1.extBut D.l2z).extBut e2.extBut D.l2i1) hy fun g3 n3 e3=>wpAny_pure ?_)
 refine wpAny_pure (wpAny_pure ?_)
 show wpAny _ _ (newTuple [x,y] >>= _) _ _ _
 refine wpAny_bind (wpAny_newTuple ?_)
 have sz:g3.objs.size=s.heap.objs.size:=by rw [e3.1,e2.1,e1.1]
 have hz3:IsZipHeld g3 z TI TO T true:=e3.extBut _ _ D.i2z.symm (e2.extBut _ _ D.i1z.symm hz1)
 have kp : ∀ c o,c≠z->c≠i1->c≠i2->s.heap.get? c=some o->g3.get? c=some o:=fun c o c1 c2 c3 e=>e3.extBut _ _ c3 (e2.extBut _ _ c2 (e1.extBut _ _ c1 e))
 have n4:g3.IsTupleIter i1 l1 (k+1):=n2.extBut e3.extBut D.i12
 refine wpAny_pure ⟨_,rfl, ?_⟩
 show Q (.ref g3.objs.size) _
 have hp:IsPair (g3.push { cls := .type "tuple",data := .seq #[x,y] }) g3.objs.size x y:=Heap.get?_push_size _ rfl
 have s4:(g3.push { cls := .type "tuple",data := .seq #[x,y] }).objs.size=g3.objs.size+1:=Heap.size_push ..
 rw [sz] at hp s4 ⊢
 exact hQ _ (Heap.get?_push_of_some _ hz3) (n4.at fun o e=>Heap.get?_push_of_some _ e) (n3.at fun o e=>Heap.get?_push_of_some _ e) hp s4 fun c o c1 c2 c3 e=>Heap.get?_push_of_some _ (kp c o c1 c2 c3 e)
theorem FJ {T:Addr} {f:Bool} {oT:Obj} {Q:Fin->Shared->Prop} (hh:A.handled=none) (D:ZipApart z TI TO i1 i2 l1 l2)
  (hz:IsZipHeld s.heap z TI TO T f) (hT:s.heap.get? T=some oT) (hTI:IsPair s.heap TI (.ref i1) (.ref i2))
  (h1:s.heap.IsTupleIter i1 l1 k) (h2:s.heap.IsTupleIter i2 l2 k) (hl1:s.heap.IsTuple l1 xs) (hl2:s.heap.IsTuple l2 ys) (hend:xs[k]? = none∨ys[k]? = none)
  (hE : ∀ h' e,(∀ c o,c≠z->c≠i1->c≠i2->s.heap.get? c=some o->h'.get? c=some o)->(∃ o,h'.get? e=some o∧o.cls = .type "StopIteration")->E (.ref e) { s with heap:=h' }) :
  wpAny (model prog w) A (Builtin.«zip.__next__» ⟨[.ref z], []⟩) Q E s:=by
 show wpAny _ _ (field (.ref z) 2 >>= _) _ _ _
 refine wpAny_bind (wpAny_field (x := .bool false) hz rfl rfl ?_)
 show wpAny _ _ (field (.ref z) 3 >>= _) _ _ _
 refine wpAny_bind (wpAny_field (x := .ref TI) hz rfl rfl ?_)
 refine wpAny_bind (wpAny_seqItems (s:=s) hTI rfl ?_)
 show wpAny _ _ (Builtin.SmallTypes.ownedTupleIsFree (.ref z) >>= _) _ _ _
 refine wpAny_bind (wpAny_tupleHeld_zip (oT:=oT) hz hT fun g1 hz1 e1 => ?_)
 simp only [Bool.false_eq_true,if_false]
 refine wpAny_bind ?_
 rw [← Array.forIn_toList]
 simp only [List.forIn_cons,List.forIn_nil]
 refine wpAny_bind (wpAny_bind (wpAny_holding ?_))
 show wpAny _ _ (Builtin.SmallTypes.nextOf (.ref i1) >>= _) _ _ _
 cases hx:xs[k]? with
 | none =>
  refine wpAny_bind (nextOf_tuple_end (s := { s with heap:=g1 }) hh (h1.extBut e1.extBut D.i1z) (hl1.extBut e1.extBut D.l1z) hx fun g2 e e2 he => ?_)
  exact hE g2 e (fun c o c1 c2 _ x=>e2 _ _ c2 (e1.extBut _ _ c1 x)) he
 | some x =>
  have hy:ys[k]? = none:=by rcases hend with q | q;rw [hx] at q;cases q;exact q
  refine wpAny_bind (nextOf_tuple_item (s := { s with heap:=g1 }) (x:=x) (h1.extBut e1.extBut D.i1z) (hl1.extBut e1.extBut D.l1z) hx fun g2 n2 e2=>wpAny_pure ?_)
  refine wpAny_pure ?_
  refine wpAny_bind (wpAny_bind (wpAny_holding ?_))
  show wpAny _ _ (Builtin.SmallTypes.nextOf (.ref i2) >>= _) _ _ _
  refine wpAny_bind (nextOf_tuple_end (s := { s with heap:=g2 }) hh ((h2.extBut e1.extBut D.i2z).extBut e2.extBut D.i12.symm) ((hl2.extBut e1.extBut D.l2z).extBut e2.extBut D.l2i1) hy fun g3 e e3 he => ?_)
  exact hE g3 e (fun c o c1 c2 c3 x=>e3 _ _ c3 (e2.extBut _ _ c2 (e1.extBut _ _ c1 x))) he
theorem ZS.item {x y:Value} {Q:Option Value->Shared->Prop} (D:ZipApart z TI TO i1 i2 l1 l2) (st:ZS d z TI TO i1 i2 l1 l2 xs ys k s.heap) (hd:d<s.heap.objs.size) (hx:xs[k]? = some x) (hy:ys[k]? = some y)
  (hQ : ∀ h',ZS d z TI TO i1 i2 l1 l2 xs ys (k+1) h'->IsPair h' s.heap.objs.size x y->(∀ c o,c∉[z,TO,i1,i2]->s.heap.get? c=some o->h'.get? c=some o)->Q (some (.ref s.heap.objs.size)) { s with heap:=h' }) :
  wpAny (model prog w) A (pyNext (.ref z)) Q E s:=by
 have ne : ∀ {c o},s.heap.get? c=some o->s.heap.objs.size≠c:=fun e=>Nat.ne_of_gt (Heap.lt_size e)
 have m1:s.heap.objs.size≠i1:=let ⟨_,e,_⟩:=st.n1;ne e
 have m2:s.heap.objs.size≠i2:=let ⟨_,e,_⟩:=st.n2;ne e
 rcases st.out with ⟨hz,a,b,hTO⟩ | ⟨T,f,oT,hz,hT,q1,q2,q3,q4⟩
 ·refine pyNext_zipT_item D hz st.ti hTO st.n1 st.n2 st.t1 st.t2 hx hy fun g a1 a2 a3 a4 a5 a6 kp=>hQ g ⟨kp _ _ D.TIz D.TITO D.TIi1 D.TIi2 st.ti,a3,a4, ?_, ?_, .inr ⟨_,false,_,a1,a5,ne hz,m1,m2,Nat.ne_of_gt hd⟩⟩ a5 fun c o hc e => ?_
  ·exact st.t1.at fun o e=>kp _ o D.l1z D.l1TO D.l1i1 D.l1i2 e
  ·exact st.t2.at fun o e=>kp _ o D.l2z D.l2TO D.l2i1 D.l2i2 e
  ·exact kp c o (fun q=>hc (by simp [q])) (fun q=>hc (by simp [q])) (fun q=>hc (by simp [q])) (fun q=>hc (by simp [q])) e
 ·have hTy:s.TypeIs (.ref z) "zip" := ⟨_,hz,rfl⟩
  unfold pyNext
  refine wpAny_bind (wpAny_attempt (wpAny_callSpecial?_slot (name := "__next__") hTy F.slot_zip_next (wpAny_call_entry F.slot_zip_next hTy F.entry_zip_next (Ag D hz hT st.ti st.n1 st.n2 st.t1 st.t2 hx hy fun g a1 a3 a4 a5 a6 kp=>wpAny_pure (hQ g ⟨kp _ _ D.TIz D.TIi1 D.TIi2 st.ti,a3,a4, ?_, ?_, .inr ⟨T,true,oT,a1,kp _ _ q1 q2 q3 hT,q1,q2,q3,q4⟩⟩ a5 fun c o hc e => ?_)) (F.args_zip_next_1 _))))
  ·exact st.t1.at fun o e=>kp _ o D.l1z D.l1i1 D.l1i2 e
  ·exact st.t2.at fun o e=>kp _ o D.l2z D.l2i1 D.l2i2 e
  ·exact kp c o (fun q=>hc (by simp [q])) (fun q=>hc (by simp [q])) (fun q=>hc (by simp [q])) e
theorem ZS.done {Q:Option Value->Shared->Prop} (hh:A.handled=none) (D:ZipApart z TI TO i1 i2 l1 l2) (st:ZS d z TI TO i1 i2 l1 l2 xs ys k s.heap) (hend:xs[k]? = none∨ys[k]? = none)
  (hQ : ∀ h',(∀ c o,c∉[z,TO,i1,i2]->s.heap.get? c=some o->h'.get? c=some o)->Q none { s with heap:=h' }):wpAny (model prog w) A (pyNext (.ref z)) Q E s:=by
 rcases st.out with ⟨hz,a,b,hTO⟩ | ⟨T,f,oT,hz,hT,q1,q2,q3,q4⟩
 ·exact pyNext_zipT_end hh D hz st.ti hTO st.n1 st.n2 st.t1 st.t2 hend fun g kp=>hQ g fun c o hc e=>kp c o (fun q=>hc (by simp [q])) (fun q=>hc (by simp [q])) (fun q=>hc (by simp [q])) (fun q=>hc (by simp [q])) e
 ·have hTy:s.TypeIs (.ref z) "zip" := ⟨_,hz,rfl⟩
  unfold pyNext
  refine wpAny_bind (wpAny_attempt (wpAny_callSpecial?_slot (name := "__next__") hTy F.slot_zip_next (wpAny_call_entry F.slot_zip_next hTy F.entry_zip_next (FJ hh D hz hT st.ti st.n1 st.n2 st.t1 st.t2 hend fun g e kp he => ?_) (F.args_zip_next_1 _))))
  obtain ⟨o,ho,hc⟩:=he
  refine wpAny_bind (wpAny_isInstance (T := "StopIteration") (b:=true) ⟨o,ho,hc⟩ isSubtype_stop ?_)
  exact wpAny_pure (hQ _ fun c o hc e=>kp c o (fun q=>hc (by simp [q])) (fun q=>hc (by simp [q])) (fun q=>hc (by simp [q])) e)
theorem QK (xs ys:Array Value):xs[min xs.size ys.size]? = none∨ys[min xs.size ys.size]? = none:=by
 rcases Nat.le_total xs.size ys.size with q | q
 ·exact .inl (by rw [Nat.min_eq_left q];simp)
 ·exact .inr (by rw [Nat.min_eq_right q];simp)
theorem aAW (D:ZipApart z TI TO i1 i2 l1 l2) (xs ys:Array Value):PairArg prog w "zip" z [z,TI,TO,i1,i2,l1,l2] [z,TO,i1,i2] (min xs.size ys.size) (fun i k v=>xs[i]? = some k∧ys[i]? = some v)
  (fun h=>IsZip h z TI TO .none∧IsPair h TI (.ref i1) (.ref i2)∧(∃ a b,IsPair h TO a b)∧h.IsTupleIter i1 l1 0∧h.IsTupleIter i2 l2 0∧h.IsTuple l1 xs∧h.IsTuple l2 ys) where
 type:=fun s ok=>⟨_,ok.1,rfl⟩
 notDict:=by decide
 keep:=fun h h' ok kp=>by
  obtain ⟨hz,hTI,⟨a,b,hTO⟩,h1,h2,hl1,hl2⟩:=ok
  exact ⟨kp _ _ hz,kp _ _ hTI,⟨a,b,kp _ _ hTO⟩,h1.at fun o e=>kp _ o e,h2.at fun o e=>kp _ o e,hl1.at fun o e=>kp _ o e,hl2.at fun o e=>kp _ o e⟩
 there:=fun h ok b hb=>by
  obtain ⟨hz,hTI,⟨a,c,hTO⟩,⟨o1,h1,_⟩,⟨o2,h2,_⟩,⟨o3,hl1,_⟩,⟨o4,hl2,_⟩⟩:=ok
  simp only [List.mem_cons,List.not_mem_nil,or_false] at hb
  rcases hb with rfl | rfl | rfl | rfl | rfl | rfl | rfl
  ·exact ⟨_,hz⟩
  ·exact ⟨_,hTI⟩
  ·exact ⟨_,hTO⟩
  ·exact ⟨_,h1⟩
  ·exact ⟨_,h2⟩
  ·exact ⟨_,hl1⟩
  ·exact ⟨_,hl2⟩
 sub:=fun b hb=>by simp at hb ⊢; rcases hb with rfl | rfl | rfl | rfl<;>simp
 noKeys:=fun A s Q E hA ok h=>getAttrOr_miss_zip ok.1 rfl rfl rfl zip_no_keys (by decide +kernel) hA h
 iter:=fun A s d Q E hA ok hd hdf h=>by
  obtain ⟨hz,hTI,⟨a,b,hTO⟩,h1,h2,hl1,hl2⟩:=ok
  refine wpAny_pyIter_zip hz (h z [z,TO,i1,i2] (ZS d z TI TO i1 i2 l1 l2 xs ys) s.heap s.toks ?_ ⟨hTI,h1,h2,hl1,hl2, .inl ⟨hz,a,b,hTO⟩⟩ (fun _ _ e=>e) fun b hb => .inl hb)
  have hdw:d∉[z,TO,i1,i2]:=aAV hdf
  exact {
   off:=hdw
   frame:=fun i g1 g2 st kp=>st.frame hdf kp
   item:=fun i s1 Q1 E1 hi st hds hQ=>by
    have ix:i<xs.size:=Nat.lt_of_lt_of_le hi (Nat.min_le_left ..)
    have iy:i<ys.size:=Nat.lt_of_lt_of_le hi (Nat.min_le_right ..)
    have ex:=Array.getElem?_eq_getElem ix
    have ey:=Array.getElem?_eq_getElem iy
    exact st.item D hds ex ey fun g st' hp kp=>hQ s1.heap.objs.size _ _ g s1.toks ⟨ex,ey⟩ (.inl ⟨_,hp,rfl,_,rfl⟩) st' kp
   done:=fun s1 Q1 E1 st hQ=>st.done hA D (QK xs ys) fun g kp=>hQ g s1.toks kp }
end
def Wq (h:Heap) (xs ys:Array Value) (lo:Nat) (acc:Array Value) (i:Nat):Prop:=acc.size=i ∧ ∀ j,j<i -> ∃ T x y,acc[j]? = some (.ref T)∧xs[j]? = some x∧ys[j]? = some y∧IsPair h T x y∧lo≤T
def Asc (acc:Array Value):Prop := ∀ (a b:Nat) (Ta Tb:Addr),a<b->acc[a]? = some (.ref Ta)->acc[b]? = some (.ref Tb)->Ta<Tb
theorem Asc.push {acc:Array Value} {T:Addr} (h:Asc acc) (k : ∀ (a:Nat) (Ta:Addr),acc[a]? = some (.ref Ta)->Ta<T):Asc (acc.push (.ref T)):=fun a b Ta Tb lt ea eb=>by
 rw [Array.getElem?_push] at ea eb
 split at eb
 ·cases eb
  rw [if_neg (by omega)] at ea
  exact k a Ta ea
 ·split at ea
  ·rename_i e1
   have : b<acc.size:=(Array.getElem?_eq_some_iff.mp eb).1
   omega
  ·exact h a b Ta Tb lt ea eb
theorem Wq.keep {h h' : Heap} {xs ys acc:Array Value} {lo i:Nat} (p:Wq h xs ys lo acc i) (kp : ∀ b o,lo≤b->h.get? b=some o->h'.get? b=some o):Wq h' xs ys lo acc i :=
 ⟨p.1,fun j hj=>let ⟨T,x,y,a1,a2,a3,a4,a5⟩:=p.2 j hj;⟨T,x,y,a1,a2,a3,kp _ _ a5 a4,a5⟩⟩
theorem Wq.push {h:Heap} {xs ys acc:Array Value} {lo i:Nat} {T:Addr} {x y:Value} (p:Wq h xs ys lo acc i) (hx:xs[i]? = some x) (hy:ys[i]? = some y) (hp:IsPair h T x y) (le:lo≤T):Wq h xs ys lo (acc.push (.ref T)) (i+1):=by
 refine ⟨by rw [Array.size_push,p.1],fun j hj => ?_⟩
 by_cases e:j=i
 ·subst e
  exact ⟨T,x,y,by rw [Array.getElem?_push,if_pos p.1.symm],hx,hy,hp,le⟩
 ·obtain ⟨T',x',y',a1,a2,a3,a4,a5⟩:=p.2 j (by omega)
  exact ⟨T',x',y',by rw [Array.getElem?_push,if_neg (by rw [p.1];exact e)];exact a1,a2,a3,a4,a5⟩
section
variable {prog:Program} {w:World} {A:Around} {E:Value->Shared->Prop} {s:Shared} {S z TI TO i1 i2 l1 l2:Addr} {xs ys:Array Value} {k:Nat} {h h' : Heap}
theorem Uj {R:Result->Shared->Prop} {lo:Nat} {res:Value} (hh:A.handled=none) (D:ZipApart z TI TO i1 i2 l1 l2) (hn:min xs.size ys.size≤sizeLine) (hS:S∉[z,TI,TO,i1,i2,l1,l2]) (hlo : ∀ c∈[S,z,TO,i1,i2],c<lo) :
  ∀ (m i:Nat) (s:Shared) (acc:Array Value) (c:Nat),min xs.size ys.size - i=m->i≤min xs.size ys.size->ZS S z TI TO i1 i2 l1 l2 xs ys i s.heap->s.heap.get? S=some (lstObj acc c)->lo≤s.heap.objs.size->Wq s.heap xs ys lo acc i->Asc acc ->
  (∀ h' acc' c',h'.get? S=some (lstObj acc' c')->Wq h' xs ys lo acc' (min xs.size ys.size)->Asc acc'->(∀ b o,b∉[S,z,TO,i1,i2]->s.heap.get? b=some o->h'.get? b=some o)->R (.ok (.ret res)) { s with heap:=h' }) ->
  codeAny (model prog w) A (.builtin "list.extend.loop" ⟨[.ref S, .ref z,res], []⟩) R s:=by
 have hSw:S∉[z,TO,i1,i2]:=aAV hS
 intro m
 induction m with
 | zero =>
  intro i s acc c hm hi st hL _ hp ha hR
  obtain rfl:i=min xs.size ys.size:=by omega
  refine codeAny_builtin F.entry_extend_loop ?_
  rw [Around.under_plainId F.plain_extend_loop _]
  show wpAny _ A.in1 (pyNext (.ref z) >>= _) _ _ s
  refine wpAny_bind (st.done hh D (QK xs ys) fun g kp => ?_)
  exact wpAny_pure (hR g acc c (kp S _ hSw hL) (hp.keep fun b o le e=>kp b o (fun q=>absurd (hlo b (List.mem_cons_of_mem _ q)) (Nat.not_lt.mpr le)) e) ha fun b o hb e=>kp b o (fun q=>hb (List.mem_cons_of_mem _ q)) e)
 | succ m ih =>
  intro i s acc c hm hi st hL hsz hp ha hR
  have hSl:S<s.heap.objs.size:=Heap.lt_size hL
  have ix:i<xs.size:=by omega
  have iy:i<ys.size:=by omega
  have ex:=Array.getElem?_eq_getElem ix
  have ey:=Array.getElem?_eq_getElem iy
  refine codeAny_builtin F.entry_extend_loop ?_
  rw [Around.under_plainId F.plain_extend_loop _]
  show wpAny _ A.in1 (pyNext (.ref z) >>= _) _ _ s
  refine wpAny_bind (st.item D hSl ex ey fun g st' hpr kp => ?_)
  have hLg:=kp S _ hSw hL
  show wpAny _ A.in1 (updateSeq S (·.push (.ref s.heap.objs.size)) >>= _) _ _ _
  refine wpAny_bind ?_
  have up : ∀ b o,b≠S->g.get? b=some o->(g.update S (Obj.mapSeq (·.push (Value.ref s.heap.objs.size)))).get? b=some o:=fun b o hb e=>(Heap.get?_update_other _ _ (Ne.symm hb)).trans e
  refine wpAny_updateSeq (s := { s with heap:=g }) hLg rfl (wpAny_pure ⟨plainId_quiet F.plain_extend_loop _,ih (i+1) _ (acc.push (.ref s.heap.objs.size)) _ (by omega) (by omega) (st'.frame hS up) (Heap.get?_update_self _ hLg rfl) ?_ ?_ ?_ fun g2 acc' c' q1 q2 q2a q3 => ?_⟩)
   (by rw [hp.1];omega) (by show (acc.push _).size≤sizeLine+1;rw [Array.size_push,hp.1];omega)
  ·have:=Heap.lt_size (up _ _ (Nat.ne_of_gt hSl) hpr)
   exact Nat.le_of_lt (Nat.lt_of_le_of_lt hsz this)
  ·exact (((hp.keep fun b o le e=>kp b o (fun q=>absurd (hlo b (List.mem_cons_of_mem _ q)) (Nat.not_lt.mpr le)) e).push ex ey hpr hsz).keep fun b o le e=>up b o (fun q=>absurd (hlo S List.mem_cons_self) (Nat.not_lt.mpr (q▸le))) e)
  ·refine ha.push fun a Ta ea => ?_
   have ha2:a<i:=by have:=(Array.getElem?_eq_some_iff.mp ea).1;rw [hp.1] at this;exact this
   obtain ⟨T,x,y,a1,_,_,a4,_⟩:=hp.2 a ha2
   rw [a1] at ea
   cases ea
   exact Heap.lt_size a4
  ·exact hR g2 acc' c' q1 q2 q2a fun b o hb e=>q3 b o hb (up b o (fun q=>hb (by simp [q])) (kp b o (fun q=>hb (List.mem_cons_of_mem _ q)) e))
theorem Ru {Q:Value->Shared->Prop} (hh:A.handled=none) (D:ZipApart z TI TO i1 i2 l1 l2) (hn:min xs.size ys.size≤sizeLine) (hz:IsZip s.heap z TI TO .none) (hTI:IsPair s.heap TI (.ref i1) (.ref i2)) (hTO : ∃ a b,IsPair s.heap TO a b) (n1:s.heap.IsTupleIter i1 l1 0) (n2:s.heap.IsTupleIter i2 l2 0) (t1:s.heap.IsTuple l1 xs) (t2:s.heap.IsTuple l2 ys)
  (hQ : ∀ h' acc c,h'.get? s.heap.objs.size=some (lstObj acc c)->Wq h' xs ys (s.heap.objs.size+1) acc (min xs.size ys.size)->Asc acc->(∀ b o,b∉[z,TO,i1,i2]->s.heap.get? b=some o->h'.get? b=some o)->Q (.ref s.heap.objs.size) { s with heap:=h' }) :
  wpAny (model prog w) A (call (.type "list") [.ref z]) Q E s:=by
 obtain ⟨ta,tb,hTO⟩:=hTO
 have lt : ∀ {c o},s.heap.get? c=some o->c<s.heap.objs.size:=fun e=>Heap.lt_size e
 have b1:=lt hz
 have b2:=lt hTI
 have b3:=lt hTO
 have b4:i1<s.heap.objs.size:=let ⟨_,e,_⟩:=n1;lt e
 have b5:i2<s.heap.objs.size:=let ⟨_,e,_⟩:=n2;lt e
 have b6:l1<s.heap.objs.size:=let ⟨_,e,_⟩:=t1;lt e
 have b7:l2<s.heap.objs.size:=let ⟨_,e,_⟩:=t2;lt e
 have hS:s.heap.objs.size∉[z,TI,TO,i1,i2,l1,l2]:=by
  simp only [List.mem_cons,List.not_mem_nil,or_false,not_or]
  exact ⟨Nat.ne_of_gt b1,Nat.ne_of_gt b2,Nat.ne_of_gt b3,Nat.ne_of_gt b4,Nat.ne_of_gt b5,Nat.ne_of_gt b6,Nat.ne_of_gt b7⟩
 refine callType_codes (Q₁:=fun obj s'=>obj = .ref s.heap.objs.size∧s' = { s with heap:=s.heap.push { cls := .type "list",data := .seq #[] } }) F.called_list (F.typeCall_list_1 _) F.entry_list_init (code_list_new _ ⟨rfl,rfl⟩) fun obj s' hs' => ?_
 obtain ⟨rfl,rfl⟩:=hs'
 have g0:(s.heap.push { cls := .type "list",data := .seq #[] }).get? s.heap.objs.size=some { cls := .type "list",data := .seq #[] }:=Heap.get?_push_size _ rfl
 refine ⟨⟨_,g0,rfl⟩,F.args_list_init_2 _ _, ?_⟩
 show wpAny _ A.in1.in1 (Builtin.List.listItems (.ref s.heap.objs.size) >>= fun old=>Builtin.List.listUpdate (.ref s.heap.objs.size) (fun _ => #[]) >>= fun _=>letGo old.toList.reverse >>= fun _=>Builtin.List.listExtendWith (.ref s.heap.objs.size) (.ref z) .none) _ _ _
 refine wpAny_bind ?_
 unfold Builtin.List.listItems
 refine wpAny_bind (wpAny_seqItems (s := { s with heap:=s.heap.push _ }) g0 rfl (wpAny_pure ?_))
 show wpAny _ A.in1.in1 (updateSeq s.heap.objs.size (fun _ => #[]) >>= fun _=>letGo (#[]:Array Value).toList.reverse >>= fun _=>Builtin.List.listExtendWith (.ref s.heap.objs.size) (.ref z) .none) _ _ _
 refine wpAny_bind (wpAny_updateSeq (s := { s with heap:=s.heap.push _ }) g0 rfl ?_)
 have g1:=Heap.get?_update_self (Obj.mapSeq (fun _=>(#[]:Array Value))) g0 rfl
 refine wpAny_bind (wpAny_letGo ?_)
 unfold Builtin.List.listExtendWith
 have up : ∀ (h:Heap) (f:Obj->Obj),(∀ b o,s.heap.get? b=some o->h.get? b=some o) -> ∀ b o,s.heap.get? b=some o->(h.update s.heap.objs.size f).get? b=some o:=fun h f q b o e =>
  (Heap.get?_update_other _ _ (Ne.symm (Nat.ne_of_lt (lt e)))).trans (q b o e)
 have k1:=up _ (Obj.mapSeq (fun _=>(#[]:Array Value))) fun b o e=>Heap.get?_push_of_some { cls := .type "list",data := .seq #[] } e
 have ty : ∀ {h:Heap} {t:Nat},(∀ b o,s.heap.get? b=some o->h.get? b=some o)->({ s with heap:=h,toks:=t }:Shared).TypeIs (.ref z) "zip" := fun {h t} q=>⟨_,q _ _ hz,rfl⟩
 refine wpAny_bind (wpAny_typeOf (ty k1) ?_)
 have c1:Builtin.List.listSameRef (.ref s.heap.objs.size) (.ref z)=false:=by simp [Builtin.List.listSameRef];exact Nat.ne_of_gt b1
 have c2:(Value.type "zip" == Value.type "list")=false:=by decide
 have c3:(Value.type "zip" == Value.type "tuple")=false:=by decide
 simp only [c1,c2,c3,Bool.or_false,Bool.false_eq_true,if_false]
 refine wpAny_bind (wpAny_pyIter_zip (k1 _ _ hz) ?_)
 refine wpAny_bind (wpAny_holding ?_)
 unfold Builtin.List.listLengthHint
 refine wpAny_bind (wpAny_specialOf (ty k1) Uh ?_)
 show wpAny _ A.in1.in1 (specialOf (Value.ref z) (Str.ofString "__length_hint__") >>= _) _ _ _
 refine wpAny_bind (wpAny_specialOf (ty k1) Rr ?_)
 refine wpAny_pure ?_
 show wpAny _ A.in1.in1 (rule "list.extend.makes-room" >>= fun _=>Builtin.List.listTouch (.ref s.heap.objs.size) >>= fun _=>again (.builtin "list.extend.loop" ⟨[.ref s.heap.objs.size, .ref z, .none], []⟩)) _ _ _
 refine wpAny_bind (wpAny_rule ?_)
 refine wpAny_bind ?_
 show wpAny _ A.in1.in1 (updateSeq s.heap.objs.size (·.push .none) >>= fun _=>updateSeq s.heap.objs.size (·.pop)) _ _ _
 refine wpAny_bind (wpAny_updateSeq (s := { s with heap:=_ }) g1 rfl ?_)
 have g2:=Heap.get?_update_self (Obj.mapSeq (·.push Value.none)) g1 rfl
 refine wpAny_updateSeq (hz:=by seq_fits) (s := { s with heap:=_ }) g2 rfl ?_
 have g3:=Heap.get?_update_self (Obj.mapSeq (·.pop)) g2 rfl
 have k3:=up _ (Obj.mapSeq (·.pop)) (up _ (Obj.mapSeq (·.push Value.none)) k1)
 refine wpAny_pure ⟨plainId_quiet F.plain_extend_loop _,Uj (lo:=s.heap.objs.size+1) (A:=A.in1) (S:=s.heap.objs.size) hh D hn hS (fun c m => ?_) _ 0 _ _ _ rfl (Nat.zero_le _) ?_ g3 (Heap.lt_size g3) ⟨rfl,fun j hj=>absurd hj (Nat.not_lt_zero _)⟩ (fun a b Ta Tb _ ea _=>by simp at ea) fun h' acc c q1 q2 q2a q3=>⟨rfl,hQ h' acc c q1 q2 q2a fun b o hb e=>q3 b o (fun m => ?_) (k3 b o e)⟩⟩
 ·simp only [List.mem_cons,List.not_mem_nil,or_false] at m
  rcases m with rfl | rfl | rfl | rfl | rfl
  ·exact Nat.lt_succ_self _
  ·exact Nat.lt_succ_of_lt b1
  ·exact Nat.lt_succ_of_lt b3
  ·exact Nat.lt_succ_of_lt b4
  ·exact Nat.lt_succ_of_lt b5
 ·exact ⟨k3 _ _ hTI,n1.at fun o e=>k3 _ o e,n2.at fun o e=>k3 _ o e,t1.at fun o e=>k3 _ o e,t2.at fun o e=>k3 _ o e, .inl ⟨k3 _ _ hz,ta,tb,k3 _ _ hTO⟩⟩
 ·rcases List.mem_cons.mp m with q | q
  ·exact Nat.ne_of_lt (lt e) q
  ·exact hb q
end
section
variable {X:Cx} {e e2:Expr} {ta:TA} {p p2 p3 q q3 pos:Pos}
theorem Nm {w:World} {P:Program} : ∀ {ks:List Key} {us:List Value},Vals (ks.map kV) us -> ∀ {j:Nat} {u:Value},us[j]? = some u -> ∃ k,ks[j]? = some k∧(mixKind P w).is k u=true
 | [],us,r,j,u,e=>by
  rw [List.map_nil] at r
  cases r
  simp at e
 | k :: ks,us,r,j,u,e=>by
  rw [List.map_cons] at r
  cases r with
  | cons h t =>
   cases j with
   | zero=>simp at e;subst e;exact ⟨k,rfl,kV_is h⟩
   | succ j=>exact Nm (j:=j) t (by simpa using e)
theorem YL : ∀ {ks:List Key} {ys:List V} {us:List Value},Vals ys us->KV (ks.zip ys) (ks.zip us)
 | [],_,_,_=>by simp only [List.zip_nil_left];exact .nil
 | _ :: _,_,_, .nil=>by simp only [List.zip_nil_right];exact .nil
 | k :: ks,_,_, .cons h t=>by
  rw [List.zip_cons_cons,List.zip_cons_cons]
  exact .cons ⟨rfl,h⟩ (YL t)
theorem QL {α β : Type} {xs:List α} {ys:List β} {j:Nat} {x : α} {y : β} (h1:xs[j]? = some x) (h2:ys[j]? = some y):(xs.zip ys)[j]? = some (x,y):=by
 rw [List.getElem?_zip_eq_some];exact ⟨h1,h2⟩
theorem QM {pins:List (Addr×Obj)} {s:Shared} {σ : St} {H:Hp} {R:Hp->List V->List V->Prop} (hg:Gl X "zip") (hm:X.mg "zip" = none) (ha:PA X [e,e2] ta) (I:Inv X pins σ H s) (h:ta σ H fun vs H1 => ∃ a b xs ys,vs=[.ref a, .ref b]∧SqT X.K H1 a xs∧SqT X.K H1 b ys∧R H1 xs ys)
  (hs:starEach [e,e2] X.env=(false,eval e X.env) :: starEach [e2] X.env:=by rfl) (hpl:(backTo pos (starEach [e2] X.env)).any (·.1)=false:=by rfl) :
  wpAny (model X.prog X.w) X.A (eval (.Call (.Name "zip" p) [e,e2] [] pos) X.env) (fun u s2 => ∃ (s1:Shared) (H1:Hp) (xs ys:List V) (us vs:List Value) (a b:Addr) (h' : Heap),Inv X pins σ H1 s1∧R H1 xs ys∧Vals xs us∧Vals ys vs∧xs.length≤sizeLine∧s2 = { s1 with heap:=h' } ∧
   u = .ref (s1.heap.objs.size+4)∧ZipApart (s1.heap.objs.size+4) (s1.heap.objs.size+2) (s1.heap.objs.size+3) s1.heap.objs.size (s1.heap.objs.size+1) a b ∧
   IsZip h' (s1.heap.objs.size+4) (s1.heap.objs.size+2) (s1.heap.objs.size+3) .none∧IsPair h' (s1.heap.objs.size+2) (.ref s1.heap.objs.size) (.ref (s1.heap.objs.size+1))∧IsPair h' (s1.heap.objs.size+3) .none .none ∧
   h'.IsTupleIter s1.heap.objs.size a 0∧h'.IsTupleIter (s1.heap.objs.size+1) b 0∧h'.IsTuple a us.toArray∧h'.IsTuple b vs.toArray∧h'.objs.size=s1.heap.objs.size+5 ∧ ∀ c o,s1.heap.get? c=some o->h'.get? c=some o) X.xe s:=by
 refine Call_ (ld_blt I hg hm PyProof.Rows.boot_zip (PyProof.Rows.callWith_type1 (thn (ha.run pos pins s σ H _ I h) fun us s1 ⟨vs,H1,I1,r1,q1⟩ => ?_) hs hpl))
 obtain ⟨a,b,xs,ys,ex,qx,qy,q⟩:=q1
 subst ex
 cases r1 with
 | cons r rr =>
  cases rr with
  | cons r' rr =>
   cases rr
   cases r
   cases r'
   obtain ⟨us,rv,p1,z1⟩:=I1.tuple qx
   obtain ⟨ws,rw',p2,z2⟩:=I1.tuple qy
   have la:a<s1.heap.objs.size:=p1.lt
   have lb:b<s1.heap.objs.size:=p2.lt
   refine call_zipT p1 p2 fun h' hz hTI hTO h1 h2 hsz hk=>⟨s1,H1,xs,ys,us,ws,a,b,h',I1,q,rv,rw',z1,rfl,rfl, ?_,hz,hTI,hTO,h1,h2,Heap.IsTuple.at p1 fun o e=>hk _ o e,Heap.IsTuple.at p2 fun o e=>hk _ o e,hsz,hk⟩
   exact Ui la lb
theorem Np {α : Type} (us vs:List α):min us.toArray.size vs.toArray.size=min us.length vs.length:=by simp
def tDZ (K:PySem.W.Frag) (ta:TA):TE:=fun σ H Q=>ta σ H fun vs H1 => ∃ a b xs ys,vs=[.ref a, .ref b]∧SqT K H1 a xs∧SqT K H1 b ys ∧ ∃ ks:List Key,xs=ks.map kV ∧ ∀ p,H1 p=none->Q (.ref p) (upd H1 p (.dK (mergeK [] (ks.zip ys))))
theorem YM {pins:List (Addr×Obj)} {s1:Shared} {σ : St} {H1:Hp} {Q:VK} {ks:List Key} {ys:List V} {vs:List Value} {h2:Heap} {tk:Nat} {d:Addr} (I1:Inv X pins σ H1 s1) (ry:Vals ys vs) (hz:(ks.zip vs).length≤sizeLine) (hd:s1.heap.objs.size≤d) (hk : ∀ b o,s1.heap.get? b=some o->h2.get? b=some o)
  (hdo:h2.DictOf (mixKind X.prog X.w) d (merged [] (ks.zip vs))) (q : ∀ p,H1 p=none->Q (.ref p) (upd H1 p (.dK (mergeK [] (ks.zip ys))))):EP X pins σ Q (.ref d) { s1 with heap:=h2,toks:=tk }:=by
 have hm:(d == sysModules)=false:=beq_eq_false_iff_ne.mpr (Nat.ne_of_gt (Nat.lt_of_lt_of_le I1.big hd))
 have rel:KV (ks.zip ys) (ks.zip vs):=YL ry
 have hlen:(mergeK [] (ks.zip ys)).length≤sizeLine:=by
  refine Nat.le_trans (length_mergeK _ []) ?_
  rw [List.length_nil,Nat.zero_add,rel.length]
  exact hz
 exact ⟨.ref d,_,I1.laid (t':=tk) hk hd (show ObjOk X.prog X.w _ _ _ (.dK (mergeK [] (ks.zip ys))) from ⟨hlen,hm,merged [] (ks.zip vs),KV.merge rel .nil,hdo⟩),rfl,q _ (I1.hok.fresh hd)⟩
theorem Rv (hc:X.calm=true) (hg:Gl X "dict") (hm:X.mg "dict" = none) (hg2:Gl X "zip") (hm2:X.mg "zip" = none) (ha:PA X [e,e2] ta)
  (hs:starEach [e,e2] X.env=(false,eval e X.env) :: starEach [e2] X.env:=by rfl) (hpl:(backTo q (starEach [e2] X.env)).any (·.1)=false:=by rfl) (na:starEach [.Call (.Name "zip" p2) [e,e2] [] q] X.env=(false,eval (.Call (.Name "zip" p2) [e,e2] [] q) X.env) :: starEach [] X.env:=by rfl) :
  PE X (.Call (.Name "dict" p) [.Call (.Name "zip" p2) [e,e2] [] q] [] pos) (tDZ X.K ta):=by
 refine ⟨fun pins s σ H Q I h=>Call_ (ld_blt I hg hm boot_dict (PyProof.Rows.callWith_type1 (args_cons (thn (QM (R:=fun H1 xs ys => ∃ ks:List Key,xs=ks.map kV ∧ ∀ p,H1 p=none->Q (.ref p) (upd H1 p (.dK (mergeK [] (ks.zip ys))))) hg2 hm2 ha I h hs hpl) fun u s2 g=>args_nil ?_) na) na))⟩
 obtain ⟨s1,H1,xs,ys,us,vs,a,b,h',I1,⟨ks,rfl,q⟩,rx,ry,hz,rfl,rfl,D,z1,z2,z3,n1,n2,t1,t2,sz,hk⟩:=g
 have lk:ks.length=us.length:=by have:=rx.length;simpa using this
 rw [List.length_map] at hz
 have ln:(ks.zip vs).length=min us.toArray.size vs.toArray.size:=by rw [List.length_zip,lk,Np]
 refine PySem.call_dict_pairs (knd:=mixKind X.prog X.w) (kvs:=ks.zip vs) (aAW D us.toArray vs.toArray) (I1.ok.hd hc) ⟨z1,z2,⟨_,_,z3⟩,n1,n2,t1,t2⟩ ⟨ln,fun j k v ⟨e1,e2⟩ => ?_⟩ (by rw [← ln,List.length_zip];omega) fun h2 tk hd' kp => ?_
 ·obtain ⟨k',ek,hk'⟩:=Nm (P:=X.prog) (w:=X.w) rx (j:=j) (u:=k) (by simpa using e1)
  exact ⟨k',QL ek (by simpa using e2),hk'⟩
 ·refine YM (s1:=s1) I1 ry (by rw [List.length_zip];omega) (by show s1.heap.objs.size≤h'.objs.size;omega) (fun b o e=>kp b o (YK (Heap.lt_size e) (Nat.le_add_right _ _) (Nat.le_add_right _ _) (Nat.le_refl _) (Nat.le_add_right _ _)) (hk b o e)) hd' q
theorem Nq (hc:X.calm=true) (hg:Gl X "dict") (hm:X.mg "dict" = none) (hg3:Gl X "list") (hm3:X.mg "list" = none) (hg2:Gl X "zip") (hm2:X.mg "zip" = none) (ha:PA X [e,e2] ta)
  (hs:starEach [e,e2] X.env=(false,eval e X.env) :: starEach [e2] X.env:=by rfl) (hpl:(backTo q (starEach [e2] X.env)).any (·.1)=false:=by rfl) (na:starEach [.Call (.Name "zip" p2) [e,e2] [] q] X.env=(false,eval (.Call (.Name "zip" p2) [e,e2] [] q) X.env) :: starEach [] X.env:=by rfl)
  (nb:starEach [.Call (.Name "list" p3) [.Call (.Name "zip" p2) [e,e2] [] q] [] q3] X.env=(false,eval (.Call (.Name "list" p3) [.Call (.Name "zip" p2) [e,e2] [] q] [] q3) X.env) :: starEach [] X.env:=by rfl) :
  PE X (.Call (.Name "dict" p) [.Call (.Name "list" p3) [.Call (.Name "zip" p2) [e,e2] [] q] [] q3] [] pos) (tDZ X.K ta):=by
 refine ⟨fun pins s σ H Q I h=>Call_ (ld_blt I hg hm boot_dict (PyProof.Rows.callWith_type1 (args_cons ?_ nb) nb))⟩
 refine Call_ (ld_blt I hg3 hm3 boot_list (PyProof.Rows.callWith_type1 (args_cons (thn (QM (R:=fun H1 xs ys => ∃ ks:List Key,xs=ks.map kV ∧ ∀ p,H1 p=none->Q (.ref p) (upd H1 p (.dK (mergeK [] (ks.zip ys))))) hg2 hm2 ha I h hs hpl) fun u s2 g=>args_nil ?_) na) na))
 obtain ⟨s1,H1,xs,ys,us,vs,a,b,h',I1,⟨ks,rfl,q⟩,rx,ry,hz,rfl,rfl,D,z1,z2,z3,n1,n2,t1,t2,sz,hk⟩:=g
 have lk:ks.length=us.length:=by have:=rx.length;simpa using this
 rw [List.length_map] at hz
 have ln:(ks.zip vs).length=min us.toArray.size vs.toArray.size:=by rw [List.length_zip,lk,Np]
 refine Ru (I1.ok.hd hc) D (by rw [← ln,List.length_zip];omega) z1 z2 ⟨_,_,z3⟩ n1 n2 t1 t2 fun h2 acc c hL pr _ kp=>args_nil ?_
 have hk2 : ∀ b o,s1.heap.get? b=some o->h2.get? b=some o:=fun b o e=>kp b o (YK (Heap.lt_size e) (Nat.le_add_right _ _) (Nat.le_add_right _ _) (Nat.le_refl _) (Nat.le_add_right _ _)) (hk b o e)
 let Ts:Nat->Addr:=fun j=>match acc[j]? with
  | some (.ref T)=>T
  | _=>0
 let pl:List (Value×Value):=us.zip vs
 have pln:pl.length=min us.toArray.size vs.toArray.size:=by rw [List.length_zip,Np]
 have P:=PairArg.list (prog:=X.prog) (w:=X.w) h'.objs.size acc Ts pl
 have hL2:=Heap.lt_size hL
 refine PySem.call_dict_pairs (knd:=mixKind X.prog X.w) (kvs:=ks.zip vs) P (I1.ok.hd hc) ⟨⟨_,_,hL,rfl,rfl,rfl⟩,by rw [pr.1,pln],fun j k v e => ?_⟩ ⟨by rw [pln,ln],fun j k v e => ?_⟩ (by rw [pln, ← ln,List.length_zip];omega) fun h3 tk hd' kp3 => ?_
 ·obtain ⟨e1,e2⟩:=List.getElem?_zip_eq_some.mp (show (us.zip vs)[j]? = some (k,v) from e)
  have hj:j<min us.toArray.size vs.toArray.size:=by rw [← pln];exact (List.getElem?_eq_some_iff.mp e).1
  obtain ⟨T,x,y,a1,a2,a3,a4,a5⟩:=pr.2 j hj
  have ex:x=k:=by rw [List.getElem?_toArray,e1] at a2;exact (Option.some.inj a2).symm
  have ey:y=v:=by rw [List.getElem?_toArray,e2] at a3;exact (Option.some.inj a3).symm
  subst ex ey
  have eT:Ts j=T:=by show (match acc[j]? with | some (.ref T)=>T | _=>0)=T;rw [a1]
  rw [eT]
  exact ⟨a1, .inl ⟨_,a4,rfl,_,rfl⟩⟩
 ·obtain ⟨e1,e2⟩:=List.getElem?_zip_eq_some.mp (show (us.zip vs)[j]? = some (k,v) from e)
  obtain ⟨k',ek,hk'⟩:=Nm (P:=X.prog) (w:=X.w) rx e1
  exact ⟨k',QL ek e2,hk'⟩
 ·exact YM (s1:=s1) I1 ry (by rw [List.length_zip];omega) (by show s1.heap.objs.size≤h2.objs.size;have : h'.objs.size<h2.objs.size:=hL2;omega) (fun b o e=>kp3 b o (fun m=>nomatch m) (hk2 b o e)) hd' q
end
def aAo:List T->Option (List Key)
 | []=>some []
 | t :: r=>match Ip t,aAo r with
  | some k,some ks=>some (k :: ks)
  | _,_=>none
theorem QQ : ∀ ys:List Str,aAo (ys.map PyData.str)=some (ys.map Sum.inr)
 | []=>rfl
 | y :: ys=>by rw [List.map_cons,aAo,QQ ys];rfl
section
variable [Tbs] [Bas]
theorem YQ {K:PySem.W.Frag} {H:Hp} {F:Addr->Prop} : ∀ {vs:List V} {ts:List T} {ks:List Key},RPs K H F vs ts->aAo ts=some ks->vs=ks.map kV
 | _,_,ks, .nil,e=>by cases e;rfl
 | _,_,ks, .cons h r,e=>by
  unfold aAo at e
  split at e
  ·rename_i k ks' e1 e2
   cases e
   rw [YQ r e2,Pg h e1];rfl
  ·cases e
theorem QR {K:PySem.W.Frag} {H:Hp} {F:Addr->Prop} : ∀ {ks:List Key} {us:List V} {rs:List T},RPs K H F us rs->PKV K H F (ks.zip us) (ks.zip rs)
 | [],_,_,_=>by simp only [List.zip_nil_left];exact .nil
 | _ :: _,_,_, .nil=>by simp only [List.zip_nil_right];exact .nil
 | k :: ks,_,_, .cons h t=>by
  rw [List.zip_cons_cons,List.zip_cons_cons]
  exact .cons ⟨rfl,h⟩ (QR t)
def CG:GN:=fun os Q=>match os with
 | [.pure (.tuple ts), .pure (.tuple rs)]=>match aAo ts with
  | some ks=>Q (.dct (Bv [] (ks.zip rs)))
  | none=>False
 | _=>False
variable {X:Cx} {e e2:Expr} {ts:XTs} {p p2 p3 q q3 pos:Pos}
theorem aAX {σ : St} {H:Hp} {Q:VK} (h:LX X.K (aq CG ts) σ H Q):tDZ X.K (LA X.K 2 ts) σ H Q:=by
 obtain ⟨ρ,fp,G,Qa,R,h,fin⟩:=h
 refine ⟨ρ,fp,G,_,R,h,fun vs ps A H1 ρ1 fp1 hl R1 r1 nd1 ng1 x1 h1 => ?_⟩
 unfold gN at h1
 split at h1
 ·rename_i os e1
  have rw1:=lw R1 r1 e1
  unfold CG at h1
  split at h1
  ·rename_i ts' rs
   split at h1
   ·rename_i ks ek
    cases rw1 with
    | cons g1 rr =>
     cases rr with
     | cons g2 rr =>
      cases rr
      obtain ⟨a,us,rfl,sa,ra⟩:=RP.tupP g1
      obtain ⟨b,us2,rfl,sb,rb⟩:=RP.tupP g2
      exact ⟨a,b,us,us2,rfl,sa.t,sb.t,ks,YQ ra ek,fun p hp=>(lu R1 (fun a m=>List.mem_append_right _ m) x1.or fin).dct hp (PKV.merge (QR rb) .nil) h1⟩
   ·exact h1.elim
  ·exact h1.elim
 ·exact h1.elim
theorem Rw (hc:X.calm=true) (hg:Gl X "dict") (hm:X.mg "dict" = none) (hg2:Gl X "zip") (hm2:X.mg "zip" = none) (ha:EXs X [e,e2] ts)
  (hs:starEach [e,e2] X.env=(false,eval e X.env) :: starEach [e2] X.env:=by rfl) (hpl:(backTo q (starEach [e2] X.env)).any (·.1)=false:=by rfl) (na:starEach [.Call (.Name "zip" p2) [e,e2] [] q] X.env=(false,eval (.Call (.Name "zip" p2) [e,e2] [] q) X.env) :: starEach [] X.env:=by rfl) :
  EX X (.Call (.Name "dict" p) [.Call (.Name "zip" p2) [e,e2] [] q] [] pos) (aq CG ts):=⟨PE.imp (Rv hc hg hm hg2 hm2 ha.pa hs hpl na) fun _ _ _ h=>aAX h⟩
theorem Nr (hc:X.calm=true) (hg:Gl X "dict") (hm:X.mg "dict" = none) (hg3:Gl X "list") (hm3:X.mg "list" = none) (hg2:Gl X "zip") (hm2:X.mg "zip" = none) (ha:EXs X [e,e2] ts)
  (hs:starEach [e,e2] X.env=(false,eval e X.env) :: starEach [e2] X.env:=by rfl) (hpl:(backTo q (starEach [e2] X.env)).any (·.1)=false:=by rfl) (na:starEach [.Call (.Name "zip" p2) [e,e2] [] q] X.env=(false,eval (.Call (.Name "zip" p2) [e,e2] [] q) X.env) :: starEach [] X.env:=by rfl)
  (nb:starEach [.Call (.Name "list" p3) [.Call (.Name "zip" p2) [e,e2] [] q] [] q3] X.env=(false,eval (.Call (.Name "list" p3) [.Call (.Name "zip" p2) [e,e2] [] q] [] q3) X.env) :: starEach [] X.env:=by rfl) :
  EX X (.Call (.Name "dict" p) [.Call (.Name "list" p3) [.Call (.Name "zip" p2) [e,e2] [] q] [] q3] [] pos) (aq CG ts):=⟨PE.imp (Nq hc hg hm hg3 hm3 hg2 hm2 ha.pa hs hpl na nb) fun _ _ _ h=>aAX h⟩
end
end DL
namespace DL
open PySem PySem.Spec L2
open PyProof.Rows hiding St
theorem Nt (l:Addr) (items:Array Value) (n:Nat) (sl:Array (Option Value)) (u:Tok) :
  Meets (Builtin.«tuple.__mul__» ⟨[.ref l, .int 1 u], []⟩) (fun _ R s=>s.heap.get? l=some { cls := .type "tuple",data := .seq items n,slots:=sl }∧R (.ok (.ret (Value.ref l))) s) :=
 .of_wp fun prog w A R s h=>by
  obtain ⟨hp,g,d,tk,os⟩:=s
  obtain ⟨hl,h⟩:=h
  have f1:=AutoSeq1.idx_int
  wp_walk using wpAny_loadPart' hl
  repeat (first
   | (refine wpAny_ite_false (by decide) ?_;wp_walk using wpAny_loadPart' hl)
   | (refine wpAny_ite_true (by simp) ?_;wp_walk using wpAny_loadPart' hl))
  all_goals first | exact ⟨_,rfl,h⟩ | skip
section
variable [Tbs] [Bas] {X:Cx}
def jV:G2:=fun x y Q=>match x,y with
 | .pure (.tuple ts), .pure (.int k)=>1≤k∧k≤1000∧1≤ts.length∧ts.length≤1000∧Q (.pure (.tuple (aAl k ts)))
 | _,_=>False
theorem Wr {ts:List T}:aAl 1 ts=ts:=by simp [aAl]
theorem Ws:OpA X (binaryOp .Mult) jV:=OpA.mk fun pins s σ H F v u x y a b Q Qa I rx ry hx hy h fin=>by
 unfold jV at h
 split at h
 ·rename_i ts k
  obtain ⟨k1,k2,n1,n2,h⟩:=h
  obtain ⟨l,xs,rfl,sq,rp⟩:=RP.tupP hx
  have e2:=RP.intE hy;subst e2
  obtain ⟨t,rfl⟩:=ry
  cases rx
  obtain ⟨o0,ho0,oc,od⟩:=sq
  obtain ⟨ho,hz,its,rv,o',ho',hc',n,hdat⟩:=(show ObjOk X.prog X.w H s.heap l (.frz o0 (.tup xs)) from I.hok l _ ho0)
  rw [ho] at ho'
  cases ho'
  obtain ⟨cls,dd,data,sl⟩:=o0
  simp only at oc od hdat
  subst oc od hdat
  have ll:=Paired.len rp
  have hle:its.length=xs.length:=rv.length.symm
  have hi:its.toArray.isEmpty=false:=by
   cases its with
   | nil=>rw [List.length_nil] at hle;omega
   | cons a b=>rfl
  have hsz0:its.toArray.size=xs.length:=by rw [List.size_toArray,hle]
  by_cases hk:k=1
  ·subst hk
   rw [Wr] at h
   refine wpAny_binaryOp_repeat_ref (T := "tuple") (U := "int") (by decide) ⟨_,ho,rfl⟩ (fun s'=>typeIs_int s' 1 t) noFill_tuple_mul PySem.F.fills_int_mul PySem.F.slot_int_rmul repeat_tuple PySem.F.slot_int_index.lookup
    (call_meets PySem.F.slot_int_rmul (typeIs_int s 1 t) PySem.F.entry_int_rmul (PySem.F.args_int_rmul_2 _ _) (int_rmul_tuple 1 t l its.toArray n none sl)
     ⟨ho,rfl,⟨_,ho,rfl⟩,call_meets PySem.F.slot_tuple_mul ⟨_,ho,rfl⟩ PySem.F.entry_tuple_mul (PySem.F.args_tuple_mul_2 _ _) (Nt l its.toArray n sl t) ⟨ho, ?_⟩⟩)
   exact ⟨.ref l,H,I,rfl,fin.pure hx h⟩
  ·have hm:((its.toArray.size:Nat):Int) * k≤1000000:=by
    rw [hsz0]
    have a1:((xs.length:Nat):Int) * k≤1000 * k:=Int.mul_le_mul_of_nonneg_right (by omega) (by omega)
    omega
   have a2:k.toNat * xs.length≤1000 * 1000:=Nat.mul_le_mul (by omega) (by omega)
   have fl:(List.replicate k.toNat its).flatten.length≤sizeLine:=by
    rw [PyProof.Rows.lm_len_rep_flat,hle,sizeLine_eq];omega
   have c0:(decide (k < -(2 ^ 63)) || decide (k ≥ 2 ^ 63))=false:=by
    rw [decide_eq_false (by omega),decide_eq_false (by omega)]<;>rfl
   have c1:(its.toArray.isEmpty || k == 1)=false:=by
    rw [hi,Bool.false_or]
    exact beq_eq_false_iff_ne.mpr hk
   have c2:(decide (k≤0) || its.toArray.isEmpty)=false:=by
    rw [hi,Bool.or_false]
    exact decide_eq_false (by omega)
   have c4:Builtin.Tuple.tupleTooMany (((its.toArray.size:Nat):Int) * k)=false:=by
    unfold Builtin.Tuple.tupleTooMany
    rw [sizeLine_eq]
    exact decide_eq_false (by omega)
   refine wpAny_binaryOp_repeat_ref (T := "tuple") (U := "int") (by decide) ⟨_,ho,rfl⟩ (fun s'=>typeIs_int s' k t) noFill_tuple_mul PySem.F.fills_int_mul PySem.F.slot_int_rmul repeat_tuple PySem.F.slot_int_index.lookup
    (call_meets PySem.F.slot_int_rmul (typeIs_int s k t) PySem.F.entry_int_rmul (PySem.F.args_int_rmul_2 _ _) (int_rmul_tuple k t l its.toArray n none sl)
     ⟨ho,rfl,⟨_,ho,rfl⟩,call_meets PySem.F.slot_tuple_mul ⟨_,ho,rfl⟩ PySem.F.entry_tuple_mul (PySem.F.args_tuple_mul_2 _ _) (tuple_mulW l its.toArray n none sl k t c0 c1 c2 (by omega) c4 (by rw [size_rep,List.size_toArray];exact fl)) ⟨ho, ?_⟩⟩)
   rw [size_rep]
   refine ⟨.ref s.heap.objs.size,_,RB (tk:=s.toks) I (rv.rep k.toNat) (by rw [PyProof.Rows.lm_len_rep_flat,sizeLine_eq];omega) (fun b ob q=>Heap.get?_push_of_some _ q) (Heap.get?_push_size _ rfl) (Nat.le_refl _),rfl,fin.tup (I.hok.fresh (Nat.le_refl _)) (Paired.rep rp _) h⟩
 ·exact h.elim
def ul:G2:=fun x y Q=>match x with
 | .pure (.tuple ts)=>jV (.pure (.tuple ts)) y Q
 | x=>NQ x y Q
theorem dX {ts:List T} {y:O} {Q:O->Prop}:ul (.pure (.tuple ts)) y Q=jV (.pure (.tuple ts)) y Q:=rfl
theorem dY {z:Str} {y:O} {Q:O->Prop}:ul (.pure (.str z)) y Q=Gi (.pure (.str z)) y Q:=rfl
theorem dZ {i:Int} {y:O} {Q:O->Prop}:ul (.pure (.int i)) y Q=uv (.pure (.int i)) y Q:=rfl
theorem dh {ts:List T} {y:O} {Q:O->Prop}:ul (.lst ts) y Q=uv (.lst ts) y Q:=rfl
theorem jJ:OpA X (binaryOp .Mult) ul:=OpA.alt (g:=jV) (g':=NQ) Ws WW fun x y Qa h=>by
 unfold ul at h
 split at h
 ·exact .inl h
 ·exact .inr h
def Lf (x:Str) (ρ : aM) (Q:Opd->aM->Prop):Option O->Prop
 | some o=>match rR o with
  | some ts=>match vB ts with
   | some ys=>(ys.map (·.length)).sum+ys.length * x.length≤16777216∧Q (.val (.pure (.str (Txt.join x ys)))) ρ
   | none=>False
  | none=>False
 | none=>False
def Lg (tc:XT) (ρ : aM) (Q:Opd->aM->Prop):Option O->Prop
 | some (.pure (.str x))=>tc ρ fun q ρ2=>Lf x ρ2 Q (q.get ρ2)
 | _=>False
def Wt (te tc:XT):XT:=fun ρ Q=>te ρ fun p ρ1=>Lg tc ρ1 Q (p.get ρ1)
end
section
variable [Tbs] [Bas] {X:Cx}
def tTI (K:PySem.W.Frag) (to te:TE):TE:=fun σ H Q=>to σ H fun x H1=>(∃ a xs,x = .ref a∧SqP H1 a xs)∧te σ H1 fun y H2 => ∃ (a:Addr) (ys:List Str) (k:Str),x = .ref a∧SqT K H2 a (ys.map V.str)∧y = .str k∧k∈ys∧Q (.int (ys.idxOf k:Nat)) H2
theorem Uk {o e:Expr} {to te:TE} {apos cpos:Pos} (ho:PE X o to) (he:PE X e te) (hs:starEach [e] X.env=[(false,eval e X.env)]:=by rfl) (hbase:attributeBase o "index" X.env (eval o X.env)=eval o X.env:=by rfl) (hline:(apos.endLine == cpos.line)=true:=by rfl) :
  PE X (.Call (.Attribute o "index" apos) [e] [] cpos) (tTI X.K to te):=by
 refine ⟨fun pins s σ H Q I h => ?_⟩
 refine PySem.wpAny_Call_method1_late hbase hline (by rw [hs];rfl) (thn (ho.run pins s σ H _ I h) fun v s1 ⟨x,H1,I1,r1,⟨a,xs,ex,ob,eo,oc,od⟩,q1⟩ => ?_)
 subst ex
 cases r1
 have hob:s1.heap.get? a=some ob:=(show ObjOk X.prog X.w H1 s1.heap a (.frz ob (.tup xs)) from I1.hok a _ eo).1
 refine ⟨"tuple",_,PySem.F.plainAttrs_tuple,PySem.F.slot_tuple_index,PySem.F.type_tuple_index,⟨ob,hob,oc⟩,fun b e2=>by cases e2;exact ⟨ob,hob,od⟩,Calls.callWith_builtin rfl (Calls.evalArgs_plain (Calls.spliced_cons ?_))⟩
 refine thn (he.run pins s1 σ H1 _ I1 q1) fun u s2 ⟨y,H2,I2,r2,q2⟩=>Calls.spliced_nil ?_
 obtain ⟨a',ys,k,ea,sq,rfl,hk,q⟩:=q2
 cases ea
 obtain ⟨t,rfl⟩:=r2
 obtain ⟨its,rv,pl,hz⟩:=I2.tuple sq
 exact PySem.SeqAt.tuple_index_strs pl rv.strs hk ⟨.int (ys.idxOf k:Nat),H2,I2.tok _,⟨_,rfl⟩,q⟩
def Rx (ts:List T) (ρ : aM) (Q:Opd->aM->Prop):Option O->Prop
 | some (.pure (.str x))=>match vB ts with
  | some ys=>x∈ys∧Q (.val (.pure (.int (ys.idxOf x:Nat)))) ρ
  | none=>False
 | _=>False
def Ry (tc:XT) (ρ : aM) (Q:Opd->aM->Prop):Option O->Prop
 | some (.pure (.tuple ts))=>tc ρ fun q ρ2=>Rx ts ρ2 Q (q.get ρ2)
 | _=>False
def xq (te tc:XT):XT:=fun ρ Q=>te ρ fun p ρ1=>Ry tc ρ1 Q (p.get ρ1)
theorem Lh {e c:Expr} {te tc:XT} {apos pos:Pos} (he:EX X e te) (hcx:EX X c tc) (hs:starEach [c] X.env=[(false,eval c X.env)]:=by rfl) (hbase:attributeBase e "index" X.env (eval e X.env)=eval e X.env:=by rfl) (hline:(apos.endLine == pos.line)=true:=by rfl) :
  EX X (.Call (.Attribute e "index" apos) [c] [] pos) (xq te tc):=by
 refine ⟨PE.imp (Uk he.pe hcx.pe hs hbase hline) ?_⟩
 rintro σ H Q ⟨ρ,fp,G,Qa,R,h,fin⟩
 refine ⟨ρ,fp,G,_,R,h,fun v p A H1 ρ1 fp1 R1 r1 x1 h1 => ?_⟩
 unfold Ry at h1
 split at h1
 ·rename_i ts e1
  obtain ⟨a,xs,rfl,sp,rp⟩:=RP.tupP (r1.rw0 R1 e1)
  refine ⟨⟨a,xs,rfl,sp⟩,ρ1,fp1,A++G,_,R1,h1,fun u q B H2 ρ2 fp2 R2 r2 x2 h2 => ?_⟩
  unfold Rx at h2
  split at h2
  ·rename_i x e2
   have eu:=RP.strE (r2.rw0 R2 e2)
   subst eu
   split at h2
   ·rename_i ys ey
    have exs:=RPs.strs rp ey
    subst exs
    exact ⟨a,ys,x,rfl,(SqP.keepE x2 sp).t,rfl,h2.1,xC.int (lu (G:=G) R2 (fun a m=>by simp [m]) (x1.or.trans x2.or) fin) h2.2⟩
   ·exact h2.elim
  ·exact h2.elim
 ·exact h1.elim
end
section
variable [Tbs] [Bas] {X:Cx}
def Ul (x:Str) (ρ : aM) (Q:Opd->aM->Prop):Option O->Prop
 | some (.pure (.str y))=>y.length≠0∧x.length≤16000000∧Q (.val (.lst ((Txt.split x y).map PyData.str))) ρ
 | _=>False
def Um (tc:XT) (ρ : aM) (Q:Opd->aM->Prop):Option O->Prop
 | some (.pure (.str x))=>tc ρ fun q ρ2=>Ul x ρ2 Q (q.get ρ2)
 | _=>False
def QS (te tc:XT):XT:=fun ρ Q=>te ρ fun p ρ1=>Um tc ρ1 Q (p.get ρ1)
def aAY (tb:XT) (ρ : aM) (Q:Opd->aM->Prop):Option O->Prop
 | some (.pure (.str z))=>z.length≤16777216∧if z.length=0 then tb ρ Q else Q (.val (.pure (.str z))) ρ
 | _=>False
def tOrS (ta tb:XT):XT:=fun ρ Q=>ta ρ fun p ρ1=>aAY tb ρ1 Q (p.get ρ1)
end
section
variable [Tbs] [Bas] {X:Cx}
def Wu:GN:=fun os Q=>match os with
 | [.pure (.str x)] => ∃ n,PySem.intText? x=some n∧x.length≤640∧Q (.pure (.int n))
 | _=>False
def Uo (ok:Str->Str->Prop) (f:Str->Str->T) (x:Str) (ρ : aM) (Q:Opd->aM->Prop):Option O->Prop
 | some (.pure (.str y))=>ok x y∧Q (.val (.pure (f x y))) ρ
 | _=>False
def Uq (ok:Str->Str->Prop) (f:Str->Str->T) (tc:XT) (ρ : aM) (Q:Opd->aM->Prop):Option O->Prop
 | some (.pure (.str x))=>tc ρ fun q ρ2=>Uo ok f x ρ2 Q (q.get ρ2)
 | _=>False
def Wv (ok:Str->Str->Prop) (f:Str->Str->T) (te tc:XT):XT:=fun ρ Q=>te ρ fun p ρ1=>Uq ok f tc ρ1 Q (p.get ρ1)
end
def Ww (n:Nat) (h:GTs):GT:=fun t ρ Q=>match t with
 | .list ts=>ts.length=n∧h ts ρ Q
 | _=>False
abbrev IsN (h:Heap) (k:NestedKey) (a:Addr):Prop:=NestedIs h k (.ref a)∧k.depth≤8
abbrev Row:=Addr×NestedKey
def hRow (w:World) (p:Row):Int×Value:=(p.2.hash w, .ref p.1)
structure Ur (P:Program) (w:World) (h:Heap) (a:Addr) (L:List Row) (es:Array (Int×Value)) (ep:Nat) (t:SetTable):Prop where
 ob : ∃ o,h.get? a=some o∧o.ExactSet∧o.data = .set es ep t
 rows:es.toList=L.map (hRow w)
 tab:Yw t (L.map fun p=>p.2.hash w)
 nd:(L.map (·.2)).Nodup
 tup : ∀ p∈L,IsN h p.2 p.1
 led:w.params.followText "set-order" = true∨t.led=true
 room:L.length * 5<t.mask * 3
 few:L.length<300
section
variable {P:Program} {w:World} {A:Around} {E:Value->Shared->Prop} {s:Shared} {a:Addr} {L:List Row} {es:Array (Int×Value)} {ep:Nat} {t:SetTable}
theorem Ur.size (R:Ur P w s.heap a L es ep t):es.size=L.length:=by
 rw [← Array.length_toList,R.rows,List.length_map]
theorem Ur.place (R:Ur P w s.heap a L es ep t):t.place.toList.length=L.length:=by
 have:=R.tab.sz
 rw [List.length_map] at this
 rw [Array.length_toList,this]
theorem Ur.fits (R:Ur P w s.heap a L es ep t):t.fits es.size=true:=by
 have h1:=R.place
 rw [Array.length_toList] at h1
 have h2:=R.size
 have h3:=R.room
 unfold SetTable.fits SetTable.fill
 rw [R.tab.dm,Bool.and_eq_true,beq_iff_eq,decide_eq_true_eq]
 show t.place.size=es.size∧t.place.size+0≤t.mask
 omega
end
section
variable {P:Program} {w:World} {A:Around} {E:Value->Shared->Prop} {s:Shared}
def Few (ls:List NestedKey):Prop := ∃ us:List NestedKey,us.length<299 ∧ ∀ k∈ls,k∈us
theorem Ur.at {h h' : Heap} {a:Addr} {L:List Row} {es:Array (Int×Value)} {ep:Nat} {t:SetTable} (R:Ur P w h a L es ep t) (ha : ∀ o,h.get? a=some o->h'.get? a=some o) (ht : ∀ p∈L,IsN h' p.2 p.1):Ur P w h' a L es ep t:=by
 obtain ⟨o,ho,hx,hd⟩:=R.ob
 exact ⟨⟨o,ha o ho,hx,hd⟩,R.rows,R.tab,R.nd,ht,R.led,R.room,R.few⟩
end
variable [Tbs] [Bas]
def TupK (k:NestedKey):Prop:=(∃ l,k = .tup l)∧k.depth≤8
def SetN0 (P:Program) (w:World) (h:Heap) (a:Addr) (L:List Row):Prop := ∃ es ep t,(∃ o,h.get? a=some o∧o.ExactSet∧o.data = .set es ep t)∧es.toList=L.map (hRow w)∧Yw t (L.map fun p=>p.2.hash w)∧(L.map (·.2)).Nodup ∧
 (w.params.followText "set-order" = true∨t.led=true)∧L.length * 5<t.mask * 3∧L.length<300
def SetNH (P:Program) (w:World) (a:Addr) (L:List Row):HO := .ext fun h=>SetN0 P w h a L
def RowT (K:PySem.W.Frag) (H:Hp) (q:Row):Prop:=RV K H (.ref q.1) q.2.data []∧TupK q.2
section
variable {X:Cx}
def Zd (K:PySem.W.Frag) (P:Program) (w:World):List V->Hp->VK->Prop:=fun xs H Q => ∃ (l:Addr) (vs:List V) (ls:List NestedKey),xs=[V.ref l]∧(SqL K H l vs∨SqT K H l vs)∧Paired (fun v k=>(∃ as,RV K H v k.data as)∧TupK k) vs ls∧Few ls ∧
 ∀ p L,H p=none->(L.map (·.2)).Nodup->(∀ k,k∈L.map (·.2)↔k∈ls)->(∀ q∈L,RowT K H q)->Q (.ref p) (upd H p (SetNH P w p L))
end
end DL
namespace DL
open PySem PySem.Spec L2
open PyProof.Rows hiding St
variable [Tbs] [Bas]
abbrev dT (k:NestedKey):T:=k.data
section
variable {X:Cx}
theorem RowT.pres {K:PySem.W.Frag} {H H' : Hp} {q:Row} (h:RowT K H q) (p:fL H H'):RowT K H' q:=⟨RV.ext (p.ext (F:=fun _=>False)) h.1 (fun _ m=>nomatch m),h.2⟩
theorem Tz.mono {K:PySem.W.Frag} {P:Program} {w:World} {xs:List V} {H:Hp} {Q Q' : VK} (h:Tz K P w xs H Q) (k : ∀ v H,Q v H->Q' v H):Tz K P w xs H Q':=by
 obtain ⟨l,ls,e,a,b,q⟩:=h
 exact ⟨l,ls,e,a,b,fun p ks h1 h2 h3 h4=>k _ _ (q p ks h1 h2 h3 h4)⟩
theorem Zd.mono {K:PySem.W.Frag} {P:Program} {w:World} {xs:List V} {H:Hp} {Q Q' : VK} (h:Zd K P w xs H Q) (k : ∀ v H,Q v H->Q' v H):Zd K P w xs H Q':=by
 obtain ⟨l,vs,ls,e,a,b,c,q⟩:=h
 exact ⟨l,vs,ls,e,a,b,c,fun p L h1 h2 h3 h4=>k _ _ (q p L h1 h2 h3 h4)⟩
end
end DL
namespace DL
open PySem PySem.Spec L2
open PyProof.Rows hiding St
variable [Tbs] [Bas] {wk:Bool}
def QT (j:Nat) (g:GT) (tt:BT) (te:XT) (vs:List Nat):XT:=fun ρ Q=>gY ρ j fun ts=>ts.length≤16777216∧iQ g tt te vs ts [] (dw (ρ.set j none) vs) fun acc ρ2=>Q (.val (.lst acc)) (ρ2.set j (some (.lst ts)))
end DL
namespace DL
open PySem PySem.Spec L2
open PyProof.Rows hiding St
open PySem.Calls
end DL
namespace DL
open PySem PySem.Spec L2 GenW
open PyProof.Rows hiding St
section
variable [Tbs] [Bas]
structure aAZ where
 nx:List T->aM->Prop
 bk:List T->aM->Prop:=fun _ _=>False
 ct:List T->aM->Prop:=fun _ _=>False
structure FinY (K:PySem.W.Frag) (H:Hp) (fp:Nat->List Addr) (G:List Addr) (Da:aAZ) (D:GEnds):Prop where
 nx : ∀ vs ts σ' H' ρ' fp',RS K σ' H' ρ' fp' G->Ext H (Fo fp) H' (Fo fp')->RPs K H' (Or1 (Fo fp') G) vs ts->Da.nx ts ρ'->D.nx vs σ' H'
 bk : ∀ vs ts σ' H' ρ' fp',RS K σ' H' ρ' fp' G->Ext H (Fo fp) H' (Fo fp')->RPs K H' (Or1 (Fo fp') G) vs ts->Da.bk ts ρ'->D.bk vs σ' H'
 ct : ∀ vs ts σ' H' ρ' fp',RS K σ' H' ρ' fp' G->Ext H (Fo fp) H' (Fo fp')->RPs K H' (Or1 (Fo fp') G) vs ts->Da.ct ts ρ'->D.ct vs σ' H'
theorem FinY.later {K:PySem.W.Frag} {H H1:Hp} {fp fp1:Nat->List Addr} {G:List Addr} {Da:aAZ} {D:GEnds} (f:FinY K H fp G Da D) (x:Ext H (Fo fp) H1 (Fo fp1)):FinY K H1 fp1 G Da D :=
 ⟨fun vs ts σ' H' ρ' fp' R y r h=>f.nx vs ts σ' H' ρ' fp' R (x.trans y) r h,fun vs ts σ' H' ρ' fp' R y r h=>f.bk vs ts σ' H' ρ' fp' R (x.trans y) r h,fun vs ts σ' H' ρ' fp' R y r h=>f.ct vs ts σ' H' ρ' fp' R (x.trans y) r h⟩
end
end DL
namespace DL
open PySem PySem.Spec L2
open PyProof.Rows hiding St
variable [Tbs] [Bas]
abbrev ZTs:=aM->(List T->aM->Prop)->Prop
def LZ (K:PySem.W.Frag) (t:ZTs):TA:=fun σ H Q => ∃ ρ fp G Qa,RS K σ H ρ fp G∧t ρ Qa ∧
 ∀ vs ts H1 ρ1 fp1,RS K σ H1 ρ1 fp1 G->RPs K H1 (Or1 (Fo fp1) G) vs ts->Ext H (Fo fp) H1 (Fo fp1)->Qa ts ρ1->Q vs H1
structure ZXs (X:Cx) (es:List Expr) (t:ZTs):Prop where
 pa:PA X es (LZ X.K t)
def zNil:ZTs:=fun ρ Q=>Q [] ρ
def Ze (t:XT) (u:ZTs):ZTs:=fun ρ Q=>t ρ fun p ρ1=>fV p ρ1 fun y ρ2=>u ρ2 fun ts ρ3=>Q (y :: ts) ρ3
def Zf:T->Option (List T)
 | .tuple ts=>some ts
 | _=>none
def Wx (t:XT) (u:ZTs):ZTs:=fun ρ Q=>t ρ fun p ρ1=>fV p ρ1 fun y ρ2=>match Zf y with
 | some xs=>u ρ2 fun ts ρ3=>Q (xs++ts) ρ3
 | none=>False
def Zg (u:ZTs):XT:=fun ρ Q=>u ρ fun ts ρ1=>ts.length≤16777216∧Q (.val (.pure (.tuple ts))) ρ1
section
variable {X:Cx} {e:Expr} {es:List Expr} {t:XT} {u:ZTs} {pos p:Pos}
theorem Zh:ZXs X [] zNil:=by
 refine ⟨PA.imp pa_nil ?_⟩
 rintro σ H Q ⟨ρ,fp,G,Qa,R,h,fin⟩
 exact fin [] [] H ρ fp R .nil Ext.refl h
theorem Wy (h1:EX X e t) (h2:ZXs X es u) (hs:starEach (e :: es) X.env=(false,eval e X.env) :: starEach es X.env:=by rfl):ZXs X (e :: es) (Ze t u):=by
 refine ⟨PA.imp (pa_cons h1.pe h2.pa hs) ?_⟩
 rintro σ H Q ⟨ρ,fp,G,Qa,R,h,fin⟩
 refine ⟨ρ,fp,G,_,R,h,fun v p A H1 ρ1 fp1 R1 r1 x1 h1 => ?_⟩
 obtain ⟨y,ρ2,fp2,R2,r2,i2,h2⟩:=jR R1 r1 h1
 have x2:Ext H (Fo fp) H1 (Fo fp2):=x1.or.weak (fun _ z=>z) i2
 exact ⟨ρ2,fp2,G,_,R2,h2,fun vs ts H3 ρ3 fp3 R3 r3 x3 h3=>fin (v :: vs) (y :: ts) H3 ρ3 fp3 R3 (.cons (r2.ext (x3.addG G)) r3) (x2.trans x3) h3⟩
theorem QV (h1:EX X e t) (h2:ZXs X es u) (hs:starEach (.Starred e p :: es) X.env=(true,eval e X.env) :: starEach es X.env:=by rfl):ZXs X (.Starred e p :: es) (Wx t u):=by
 refine ⟨PA.imp (StX.pa_star h1.pe h2.pa hs) ?_⟩
 rintro σ H Q ⟨ρ,fp,G,Qa,R,h,fin⟩
 refine ⟨ρ,fp,G,_,R,h,fun v p A H1 ρ1 fp1 R1 r1 x1 h1 => ?_⟩
 obtain ⟨y,ρ2,fp2,R2,r2,i2,h2⟩:=jR R1 r1 h1
 have x2:Ext H (Fo fp) H1 (Fo fp2):=x1.or.weak (fun _ z=>z) i2
 split at h2
 ·rename_i xs ey
  unfold Zf at ey
  split at ey
  ·cases ey
   obtain ⟨a,vs0,rfl,sq,rr⟩:=r2.tupE
   exact ⟨a,vs0,rfl, .inl sq,ρ2,fp2,G,_,R2,h2,fun vs ts H3 ρ3 fp3 R3 r3 x3 h3=>fin (vs0++vs) (_++ts) H3 ρ3 fp3 R3 (Paired.app (RPs.ext (x3.addG G) rr) r3) (x2.trans x3) h3⟩
  ·cases ey
 ·exact h2.elim
theorem Zi {x1} (h:ZXs X es u):EX X (.Tuple es x1 pos) (Zg u):=by
 refine ⟨PE.imp (T8 h.pa) ?_⟩
 rintro σ H Q ⟨ρ,fp,G,Qa,R,h,fin⟩
 refine ⟨ρ,fp,G,_,R,h,fun vs ts H1 ρ1 fp1 R1 r1 x1 h1 => ?_⟩
 obtain ⟨hl,h1⟩:=h1
 refine ⟨by rw [Paired.len r1,sizeLine_eq];exact hl,fun p its np => ?_⟩
 exact xC.tup (lu (G:=G) R1 (fun a m=>m) x1 fin) np r1 h1
end
end DL
namespace DL
open PySem PySem.Spec L2
open PyProof.Rows hiding St
variable [Tbs] [Bas]
abbrev keysOf (l:List (Key×T)):List T:=l.map fun p=>rD p.1
end DL
namespace DL
open PySem PySem.Spec L2
open PyProof.Rows hiding St
end DL
namespace DL
open PySem PySem.Spec L2 PySem.AutoSeq1
open PyProof.Rows hiding St
end DL
namespace DL
open PySem PySem.Spec L2
open PyProof.Rows hiding St
variable [Tbs] [Bas]
section
variable {X:Cx} {x:Str} {px apos cpos:Pos}
theorem aB0 (j:Nat) (hN:X.N[j]? = some x)
  (hv:Vis X.env.scope x:=by first | exact Or.inl rfl | exact Or.inr (Or.inl rfl) | exact Or.inr (Or.inr rfl)) (hd:(x == ("__debug__" : Str))=false:=by decide) (hcd:(x == ("__classdict__" : Str))=false:=by decide)
  (hbase:attributeBase (.Name x px) "pop" X.env (eval (.Name x px) X.env)=eval (.Name x px) X.env:=by rfl)
  (hfew:((backTo cpos (starEach [] X.env)).all (fun x => !x.1) && (backToKw cpos (keywordEach [] X.env)).all (fun x=>x.1.isSome)
   && decide (([]:List Expr).length+([]:List Keyword).length+(if ([]:List Keyword).isEmpty then 0 else 1)<30))=true:=by rfl)
  (hline:(apos.endLine == cpos.line)=true:=by rfl) :
  EX X (.Call (.Attribute (.Name x px) "pop" apos) [] [] cpos) (tPop j):=by
 refine ⟨PE.imp (pe_bm0 PySem.F.plainAttrs_list PySem.F.slot_list_pop PySem.F.type_list_pop mt_pop (pe_var hN hv hd hcd) hbase hline) ?_⟩
 rintro σ H Q ⟨ρ,fp,G,Qa,R,h,fin⟩
 obtain ⟨ts,e0,h⟩:=oH h
 obtain ⟨a,vs,hv0,f0,h0,r0⟩:=R.lstE e0
 split at h
 ·rename_i y ey
  rw [← Paired.len r0] at ey
  obtain ⟨w,hw,rw_⟩:=Paired.at r0 ey
  have ux:Ext H (Fo fp) (upd H a (.lst vs.dropLast)) (Fo fp):=fW h0 trivial ⟨j,by rw [f0];exact List.mem_singleton.mpr rfl⟩ fun _ z=>z
  obtain ⟨R3,x3⟩:=R.mut (u' := .lst vs.dropLast) (o' := .lst ts.dropLast) e0 hv0 f0 h0 trivial ⟨a,_,rfl,rfl,upd_same,RPs.extG ux (Paired.dropL r0)⟩
  refine ⟨.ref a,hv0, .inl ⟨rfl,_,SqL.of h0⟩,a,vs,w,rfl,rfl,h0,hw, ?_⟩
  exact fin w (.val (.pure y)) [] _ _ fp R3 (lO (rw_.ext (ux.addG G))) (x3.weak (fun _ z=>z) fun a z=>z.elim (fun q=>q) fun m=>(List.not_mem_nil m).elim) h
 ·exact h.elim
end
end DL
namespace DL
open PySem PySem.Spec L2
open PyProof.Rows hiding St
variable [Tbs] [Bas] {wk wk1:Bool}
section
variable {K:PySem.W.Frag} {σ : St} {H:Hp}
theorem LX.mono {t:XT} {Q Q' : VK} (h:LX K t σ H Q) (w : ∀ v H,Q v H->Q' v H):LX K t σ H Q' :=
 let ⟨ρ,fp,G,Qa,R,q,f⟩:=h;⟨ρ,fp,G,Qa,R,q,fun v p A H' ρ' fp' a b c d=>w _ _ (f v p A H' ρ' fp' a b c d)⟩
theorem LT.mono {t:BT} {Q Q' : Bool->Hp->Prop} (h:LT K t σ H Q) (w : ∀ v H,Q v H->Q' v H):LT K t σ H Q' :=
 let ⟨ρ,fp,G,Qa,R,q,f⟩:=h;⟨ρ,fp,G,Qa,R,q,fun b H' ρ' fp' a c d=>w _ _ (f b H' ρ' fp' a c d)⟩
theorem LG.mono {P:Nat->Bool} {g:GT} {v:V} {Q Q' : St->Hp->Prop} (h:LG wk K P g v σ H Q) (w : ∀ σ H,Q σ H->Q' σ H):LG wk K P g v σ H Q' :=
 let ⟨ρ,fp,G,Qa,t,R,r,q,f⟩:=h;⟨ρ,fp,G,Qa,t,R,r,q,fun σ' ρ' fp' a b c d e=>w _ _ (f σ' ρ' fp' a b c d e)⟩
end
end DL
namespace L2
open PySem PySem.Spec
open PyProof.Rows hiding St
end L2
namespace DL
open PySem PySem.Spec L2
open PyProof.Rows hiding St
end DL
namespace PySem
open Sem (wp)
end PySem
namespace DL
open PySem PySem.Spec L2 RZ
open PyProof.Rows hiding St
end DL
namespace DL
open PySem PySem.Spec L2
open PyProof.Rows hiding St
section
variable {X:Cx} {CX:CXT} {k:Nat} {f C:Addr} {fd:FuncData} {ps:List Str} {sp:Sp} {E:L2.St->XK} {x:Str} {p pos:Pos} {e:Expr} {es:List Expr} {t:TA}
theorem Us {pins:List (Addr×Obj)} {σ : L2.St} {H:Hp} {s:Shared} {Q:VK} {us:List Value} {vs:List V} (M:Mk X.K C f) (F:FnG X.prog X.w X.K X.mg X.base CX k f fd ps sp) (hr:Rm (k+1) X.A) (hb:Binds X.K fd ps []) (hx:PassesAt CX X σ (E σ))
  (I:L2.Inv X pins σ H s) (r:Vals vs us) (h : ∀ x dx,H x=none->H dx=none->dx≠x->sp (.ref x :: vs) (upd (upd H dx (.own x)) x (.ins C dx [])) (fun v H2=>v = .non∧Q (.ref x) H2) (E σ)) :
  wpAny (model X.prog X.w) X.A (call (.ref C) us) (EP X pins σ Q) X.xe s:=by
 have hq:=h (s.heap.objs.size+1) s.heap.objs.size (HOk.fresh I.hok (Nat.le_succ _)) (HOk.fresh I.hok (Nat.le_refl _)) (Nat.ne_of_lt (Nat.lt_succ_self _))
 have I2:=Inv.made (C:=C) I
 have r2:Vals (V.ref (s.heap.objs.size+1) :: vs) (Value.ref (s.heap.objs.size+1) :: us) := .cons rfl r
 have hl:(Value.ref (s.heap.objs.size+1) :: us).length=ps.length:=r2.length.symm.trans (F.len _ _ _ _ hq)
 have hb':=hb _ (Value.ref (s.heap.objs.size+1) :: us) I2.kIn (by rw [List.append_nil];exact hl)
 rw [List.append_nil] at hb'
 refine wpAny_call (make_map I.kIn M.makes M.init (beq_iff_eq.mp M.fn) (codeAny_mono (F.run _ X.stack _ _ ⟨_, []⟩ _ _ _ (E σ) ⟨hr.room.make C us [],hr.gd⟩ (I2.env0.make C us []) hb' r2 hq) fun r s' hq' => ?_))
 match r,hq' with
 | .error e,hq'=>exact hx pins _ _ e s' I2 hq'
 | .ok (.ret u),hq' =>
  obtain ⟨v,H',I3,rv,ev,q3⟩:=I2.after hq'
  subst ev
  exact ⟨rv, .ref _,H',I3,rfl,q3⟩
theorem Wz (M:Mk X.K C f) (F:FnG X.prog X.w X.K X.mg X.base CX k f fd ps sp) (hr:Rm (k+1) X.A) (hg:Gl X x) (hm:X.mg x=some (.ref C)) (hb:Binds X.K fd ps []) (hx : ∀ σ,PassesAt CX X σ (E σ))
  (ha:PA X (e :: es) t) (hdb:(x == ("__debug__" : Str))=false:=by decide) (he:starEach (e :: es) X.env=(false,eval e X.env) :: starEach es X.env:=by rfl) (hpl:(backTo pos (starEach es X.env)).any (·.1)=false:=by rfl) :
  PE X (.Call (.Name x p) (e :: es) [] pos) (fun σ H Q=>t σ H fun vs H1 => ∀ x dx,H1 x=none->H1 dx=none->dx≠x->sp (.ref x :: vs) (upd (upd H1 dx (.own x)) x (.ins C dx [])) (fun v H2=>v = .non∧Q (.ref x) H2) (E σ)):=by
 refine ⟨fun pins s σ H Q I h=>wpAny_Call_Name_kw (ld_glob I hg hm ?_ hdb)⟩
 exact PySem.W.callWith_K (h₀:=X.base) I.ok.mod.kin M.kp (thn (ha.run pos pins s σ H _ I h) fun us s1 ⟨vs,H1,I1,r,q⟩=>⟨I1.kIn,Us M F hr hb (hx σ) I1 r q⟩) he hpl
end
section
variable [Tbs]
theorem RS0.pres0 {K:PySem.W.Frag} {σ : L2.St} {H H' : Hp} {ρ : aM} {fp:Nat->List Addr} {G:List Addr} (R:RS0 K σ H ρ fp G) (p:fL H H'):RS0 K σ H' ρ fp G :=
 ⟨fun i o e=>let ⟨v,h,r⟩:=R.ex i o e;⟨v,h,r.pres p⟩,R.non,R.dj,R.nd,R.gf,fun a m=>let ⟨u,e⟩:=R.gi a m;⟨u,p a u e⟩,R.len,R.tb.ext p⟩
theorem Mj.pres {K:PySem.W.Frag} {n:Nat} {spec:uU} {vs:List V} {H H2:Hp} {E:XK} (h:Mj K n spec vs H (fun _ _=>False) E) (p:fL H H2):Mj K n spec vs H2 (fun _ _=>False) E:=by
 obtain ⟨os,G,Qa,Ea,hl,R,hs,fin,finE⟩:=h
 exact ⟨os,G,Qa,Ea,hl,R.pres0 p,hs,fun v o A H' ro nd ng x q=>fin v o A H' ro nd ng (p.ext.trans x) q,fun cls d e H' xo x q=>finE cls d e H' xo (p.ext.trans x) q⟩
variable [Bas]
theorem LA.mono {K:PySem.W.Frag} {n:Nat} {ts:XTs} {σ : L2.St} {H:Hp} {P P' : List V->Hp->Prop} (h:LA K n ts σ H P) (g : ∀ vs H1,P vs H1->P' vs H1):LA K n ts σ H P':=by
 obtain ⟨ρ,fp,G,Qa,R,h,fin⟩:=h
 exact ⟨ρ,fp,G,Qa,R,h,fun vs ps A H1 ρ1 fp1 hl R1 r1 nd1 ng1 x1 h1=>g _ _ (fin vs ps A H1 ρ1 fp1 hl R1 r1 nd1 ng1 x1 h1)⟩
end
variable [Tbs]
theorem aB1 {K:PySem.W.Frag} {C f:Addr} (h:mkB K C f=true):Mk K C f:=by
 unfold mkB at h
 obtain ⟨h1,h⟩:=ba2 h
 obtain ⟨h2,h⟩:=ba2 h
 obtain ⟨h3,h4⟩:=ba2 h
 exact ⟨h1,of_decide_eq_true h2,h3,h4⟩
end DL
namespace DL
open PySem PySem.Spec L2
open PyProof.Rows hiding St
structure FnW (P:Program) (w:World) (K:PySem.W.Frag) (mg:Str->Option Value) (base:Heap) (CX:CXT) (k:Nat) (f:Addr) (ks:List Str) (sp:Sp):Prop where
 run : ∀ (A:Around) (outer:List Env) (s:Shared) (H:Hp) (us:List Value) (vs:List V) (Q:VK) (E:XK),Rm k A->Env0 P w K mg base A outer s H->Vals vs us->vs.length=ks.length->sp vs H Q E ->
  codeAny (model P w) A (.call (.ref f) ⟨[],ks.zip us⟩) (CR CX outer P w H s Q E) s
end DL
namespace DL.ZL
open DL PySem PySem.Spec L2 RZ
open PyProof.Rows hiding St
structure ZS (d z TI TO i1 i2 l1 l2:Addr) (xs ys:Array Value) (k:Nat) (h:Heap):Prop where
 ti:IsPair h TI (.ref i1) (.ref i2)
 n1:h.IsListIter i1 l1 k
 n2:h.IsListIter i2 l2 k
 t1:h.IsList l1 xs
 t2:h.IsList l2 ys
 out:(IsZip h z TI TO .none ∧ ∃ a b,IsPair h TO a b) ∨ ∃ T f oT,IsZipHeld h z TI TO T f∧h.get? T=some oT∧T≠z∧T≠i1∧T≠i2∧T≠d
section
variable {prog:Program} {w:World} {A:Around} {E:Value->Shared->Prop} {s:Shared} {d z TI TO i1 i2 l1 l2:Addr} {xs ys:Array Value} {k:Nat} {h h' : Heap}
theorem ZS.frame (st:ZS d z TI TO i1 i2 l1 l2 xs ys k h) (hd:d∉[z,TI,TO,i1,i2,l1,l2]) (kp : ∀ b o,b≠d->h.get? b=some o->h'.get? b=some o):ZS d z TI TO i1 i2 l1 l2 xs ys k h':=by
 simp only [List.mem_cons,List.not_mem_nil,or_false,not_or] at hd
 obtain ⟨dz,dTI,dTO,d1,d2,dl1,dl2⟩:=hd
 refine ⟨kp _ _ (Ne.symm dTI) st.ti,st.n1.at fun o e=>kp _ o (Ne.symm d1) e,st.n2.at fun o e=>kp _ o (Ne.symm d2) e,st.t1.at fun o e=>kp _ o (Ne.symm dl1) e,st.t2.at fun o e=>kp _ o (Ne.symm dl2) e, ?_⟩
 rcases st.out with ⟨h1,a,b,h2⟩ | ⟨T,f,oT,h1,h2,q1,q2,q3,q4⟩
 ·exact .inl ⟨kp _ _ (Ne.symm dz) h1,a,b,kp _ _ (Ne.symm dTO) h2⟩
 ·exact .inr ⟨T,f,oT,kp _ _ (Ne.symm dz) h1,kp _ _ q4 h2,q1,q2,q3,q4⟩
theorem Ag {T:Addr} {f:Bool} {oT:Obj} {x y:Value} {Q:Value->Shared->Prop} (D:ZipApart z TI TO i1 i2 l1 l2)
  (hz:IsZipHeld s.heap z TI TO T f) (hT:s.heap.get? T=some oT) (hTI:IsPair s.heap TI (.ref i1) (.ref i2))
  (h1:s.heap.IsListIter i1 l1 k) (h2:s.heap.IsListIter i2 l2 k) (hl1:s.heap.IsList l1 xs) (hl2:s.heap.IsList l2 ys) (hx:xs[k]? = some x) (hy:ys[k]? = some y)
  (hQ : ∀ h',IsZipHeld h' z TI TO T true->h'.IsListIter i1 l1 (k+1)->h'.IsListIter i2 l2 (k+1)->IsPair h' s.heap.objs.size x y->h'.objs.size=s.heap.objs.size+1 ->
   (∀ c o,c≠z->c≠i1->c≠i2->s.heap.get? c=some o->h'.get? c=some o)->Q (.ref s.heap.objs.size) { s with heap:=h' }) :
  wpAny (model prog w) A (Builtin.«zip.__next__» ⟨[.ref z], []⟩) (fun fin s' => ∃ v,fin = .done (.ret v)∧Q v s') E s:=by
 show wpAny _ _ (field (.ref z) 2 >>= _) _ _ _
 refine wpAny_bind (wpAny_field (x := .bool false) hz rfl rfl ?_)
 show wpAny _ _ (field (.ref z) 3 >>= _) _ _ _
 refine wpAny_bind (wpAny_field (x := .ref TI) hz rfl rfl ?_)
 refine wpAny_bind (wpAny_seqItems (s:=s) hTI rfl ?_)
 show wpAny _ _ (Builtin.SmallTypes.ownedTupleIsFree (.ref z) >>= _) _ _ _
 refine wpAny_bind (wpAny_tupleHeld_zip (oT:=oT) hz hT fun g1 hz1 e1 => ?_)
 simp only [Bool.false_eq_true,if_false]
 refine wpAny_bind ?_
 rw [← Array.forIn_toList]
 simp only [List.forIn_cons,List.forIn_nil]
 refine wpAny_bind (wpAny_bind (wpAny_holding ?_))
 show wpAny _ _ (Builtin.SmallTypes.nextOf (.ref i1) >>= _) _ _ _
 refine wpAny_bind (wpAny_nextOf_list_item (s := { s with heap:=g1 }) (x:=x) (h1.extBut e1.extBut D.i1z) (hl1.extBut e1.extBut D.l1z) hx fun g2 n2 e2=>wpAny_pure ?_)
 refine wpAny_pure ?_
 refine wpAny_bind (wpAny_bind (wpAny_holding ?_))
 show wpAny _ _ (Builtin.SmallTypes.nextOf (.ref i2) >>= _) _ _ _
 refine wpAny_bind (wpAny_nextOf_list_item (s := { s with heap:=g2 }) (x:=y) ((h2.extBut e1.extBut D.i2z).extBut e2.extBut D.i12.symm) ((hl2.extBut e1.extBut D.l2z).extBut e2.extBut D.l2i1) hy fun g3 n3 e3=>wpAny_pure ?_)
 refine wpAny_pure (wpAny_pure ?_)
 show wpAny _ _ (newTuple [x,y] >>= _) _ _ _
 refine wpAny_bind (wpAny_newTuple ?_)
 have sz:g3.objs.size=s.heap.objs.size:=by rw [e3.1,e2.1,e1.1]
 have hz3:IsZipHeld g3 z TI TO T true:=e3.extBut _ _ D.i2z.symm (e2.extBut _ _ D.i1z.symm hz1)
 have kp : ∀ c o,c≠z->c≠i1->c≠i2->s.heap.get? c=some o->g3.get? c=some o:=fun c o c1 c2 c3 e=>e3.extBut _ _ c3 (e2.extBut _ _ c2 (e1.extBut _ _ c1 e))
 have n4:g3.IsListIter i1 l1 (k+1):=n2.extBut e3.extBut D.i12
 refine wpAny_pure ⟨_,rfl, ?_⟩
 show Q (.ref g3.objs.size) _
 have hp:IsPair (g3.push { cls := .type "tuple",data := .seq #[x,y] }) g3.objs.size x y:=Heap.get?_push_size _ rfl
 have s4:(g3.push { cls := .type "tuple",data := .seq #[x,y] }).objs.size=g3.objs.size+1:=Heap.size_push ..
 rw [sz] at hp s4 ⊢
 exact hQ _ (Heap.get?_push_of_some _ hz3) (n4.at fun o e=>Heap.get?_push_of_some _ e) (n3.at fun o e=>Heap.get?_push_of_some _ e) hp s4 fun c o c1 c2 c3 e=>Heap.get?_push_of_some _ (kp c o c1 c2 c3 e)
theorem FJ {T:Addr} {f:Bool} {oT:Obj} {Q:Fin->Shared->Prop} (hh:A.handled=none) (D:ZipApart z TI TO i1 i2 l1 l2)
  (hz:IsZipHeld s.heap z TI TO T f) (hT:s.heap.get? T=some oT) (hTI:IsPair s.heap TI (.ref i1) (.ref i2))
  (h1:s.heap.IsListIter i1 l1 k) (h2:s.heap.IsListIter i2 l2 k) (hl1:s.heap.IsList l1 xs) (hl2:s.heap.IsList l2 ys) (hend:xs[k]? = none∨ys[k]? = none)
  (hE : ∀ h' e,(∀ c o,c≠z->c≠i1->c≠i2->s.heap.get? c=some o->h'.get? c=some o)->(∃ o,h'.get? e=some o∧o.cls = .type "StopIteration")->E (.ref e) { s with heap:=h' }) :
  wpAny (model prog w) A (Builtin.«zip.__next__» ⟨[.ref z], []⟩) Q E s:=by
 show wpAny _ _ (field (.ref z) 2 >>= _) _ _ _
 refine wpAny_bind (wpAny_field (x := .bool false) hz rfl rfl ?_)
 show wpAny _ _ (field (.ref z) 3 >>= _) _ _ _
 refine wpAny_bind (wpAny_field (x := .ref TI) hz rfl rfl ?_)
 refine wpAny_bind (wpAny_seqItems (s:=s) hTI rfl ?_)
 show wpAny _ _ (Builtin.SmallTypes.ownedTupleIsFree (.ref z) >>= _) _ _ _
 refine wpAny_bind (wpAny_tupleHeld_zip (oT:=oT) hz hT fun g1 hz1 e1 => ?_)
 simp only [Bool.false_eq_true,if_false]
 refine wpAny_bind ?_
 rw [← Array.forIn_toList]
 simp only [List.forIn_cons,List.forIn_nil]
 refine wpAny_bind (wpAny_bind (wpAny_holding ?_))
 show wpAny _ _ (Builtin.SmallTypes.nextOf (.ref i1) >>= _) _ _ _
 cases hx:xs[k]? with
 | none =>
  refine wpAny_bind (wpAny_nextOf_list_end (s := { s with heap:=g1 }) hh (h1.extBut e1.extBut D.i1z) (hl1.extBut e1.extBut D.l1z) hx fun g2 e e2 he => ?_)
  exact hE g2 e (fun c o c1 c2 _ x=>e2 _ _ c2 (e1.extBut _ _ c1 x)) he
 | some x =>
  have hy:ys[k]? = none:=by rcases hend with q | q;rw [hx] at q;cases q;exact q
  refine wpAny_bind (wpAny_nextOf_list_item (s := { s with heap:=g1 }) (x:=x) (h1.extBut e1.extBut D.i1z) (hl1.extBut e1.extBut D.l1z) hx fun g2 n2 e2=>wpAny_pure ?_)
  refine wpAny_pure ?_
  refine wpAny_bind (wpAny_bind (wpAny_holding ?_))
  show wpAny _ _ (Builtin.SmallTypes.nextOf (.ref i2) >>= _) _ _ _
  refine wpAny_bind (wpAny_nextOf_list_end (s := { s with heap:=g2 }) hh ((h2.extBut e1.extBut D.i2z).extBut e2.extBut D.i12.symm) ((hl2.extBut e1.extBut D.l2z).extBut e2.extBut D.l2i1) hy fun g3 e e3 he => ?_)
  exact hE g3 e (fun c o c1 c2 c3 x=>e3 _ _ c3 (e2.extBut _ _ c2 (e1.extBut _ _ c1 x))) he
theorem ZS.item {x y:Value} {Q:Option Value->Shared->Prop} (D:ZipApart z TI TO i1 i2 l1 l2) (st:ZS d z TI TO i1 i2 l1 l2 xs ys k s.heap) (hd:d<s.heap.objs.size) (hx:xs[k]? = some x) (hy:ys[k]? = some y)
  (hQ : ∀ h',ZS d z TI TO i1 i2 l1 l2 xs ys (k+1) h'->IsPair h' s.heap.objs.size x y->(∀ c o,c∉[z,TO,i1,i2]->s.heap.get? c=some o->h'.get? c=some o)->Q (some (.ref s.heap.objs.size)) { s with heap:=h' }) :
  wpAny (model prog w) A (pyNext (.ref z)) Q E s:=by
 have ne : ∀ {c o},s.heap.get? c=some o->s.heap.objs.size≠c:=fun e=>Nat.ne_of_gt (Heap.lt_size e)
 have m1:s.heap.objs.size≠i1:=let ⟨_,e,_⟩:=st.n1;ne e
 have m2:s.heap.objs.size≠i2:=let ⟨_,e,_⟩:=st.n2;ne e
 rcases st.out with ⟨hz,a,b,hTO⟩ | ⟨T,f,oT,hz,hT,q1,q2,q3,q4⟩
 ·refine wpAny_pyNext_zip_item D hz st.ti hTO st.n1 st.n2 st.t1 st.t2 hx hy fun g a1 a2 a3 a4 a5 a6 kp=>hQ g ⟨kp _ _ D.TIz D.TITO D.TIi1 D.TIi2 st.ti,a3,a4, ?_, ?_, .inr ⟨_,false,_,a1,a5,ne hz,m1,m2,Nat.ne_of_gt hd⟩⟩ a5 fun c o hc e => ?_
  ·exact st.t1.at fun o e=>kp _ o D.l1z D.l1TO D.l1i1 D.l1i2 e
  ·exact st.t2.at fun o e=>kp _ o D.l2z D.l2TO D.l2i1 D.l2i2 e
  ·exact kp c o (fun q=>hc (by simp [q])) (fun q=>hc (by simp [q])) (fun q=>hc (by simp [q])) (fun q=>hc (by simp [q])) e
 ·have hTy:s.TypeIs (.ref z) "zip" := ⟨_,hz,rfl⟩
  unfold pyNext
  refine wpAny_bind (wpAny_attempt (wpAny_callSpecial?_slot (name := "__next__") hTy F.slot_zip_next (wpAny_call_entry F.slot_zip_next hTy F.entry_zip_next (Ag D hz hT st.ti st.n1 st.n2 st.t1 st.t2 hx hy fun g a1 a3 a4 a5 a6 kp=>wpAny_pure (hQ g ⟨kp _ _ D.TIz D.TIi1 D.TIi2 st.ti,a3,a4, ?_, ?_, .inr ⟨T,true,oT,a1,kp _ _ q1 q2 q3 hT,q1,q2,q3,q4⟩⟩ a5 fun c o hc e => ?_)) (F.args_zip_next_1 _))))
  ·exact st.t1.at fun o e=>kp _ o D.l1z D.l1i1 D.l1i2 e
  ·exact st.t2.at fun o e=>kp _ o D.l2z D.l2i1 D.l2i2 e
  ·exact kp c o (fun q=>hc (by simp [q])) (fun q=>hc (by simp [q])) (fun q=>hc (by simp [q])) e
theorem ZS.done {Q:Option Value->Shared->Prop} (hh:A.handled=none) (D:ZipApart z TI TO i1 i2 l1 l2) (st:ZS d z TI TO i1 i2 l1 l2 xs ys k s.heap) (hend:xs[k]? = none∨ys[k]? = none)
  (hQ : ∀ h',(∀ c o,c∉[z,TO,i1,i2]->s.heap.get? c=some o->h'.get? c=some o)->Q none { s with heap:=h' }):wpAny (model prog w) A (pyNext (.ref z)) Q E s:=by
 rcases st.out with ⟨hz,a,b,hTO⟩ | ⟨T,f,oT,hz,hT,q1,q2,q3,q4⟩
 ·exact wpAny_pyNext_zip_end hh D hz st.ti hTO st.n1 st.n2 st.t1 st.t2 hend fun g kp=>hQ g fun c o hc e=>kp c o (fun q=>hc (by simp [q])) (fun q=>hc (by simp [q])) (fun q=>hc (by simp [q])) (fun q=>hc (by simp [q])) e
 ·have hTy:s.TypeIs (.ref z) "zip" := ⟨_,hz,rfl⟩
  unfold pyNext
  refine wpAny_bind (wpAny_attempt (wpAny_callSpecial?_slot (name := "__next__") hTy F.slot_zip_next (wpAny_call_entry F.slot_zip_next hTy F.entry_zip_next (FJ hh D hz hT st.ti st.n1 st.n2 st.t1 st.t2 hend fun g e kp he => ?_) (F.args_zip_next_1 _))))
  obtain ⟨o,ho,hc⟩:=he
  refine wpAny_bind (wpAny_isInstance (T := "StopIteration") (b:=true) ⟨o,ho,hc⟩ isSubtype_stop ?_)
  exact wpAny_pure (hQ _ fun c o hc e=>kp c o (fun q=>hc (by simp [q])) (fun q=>hc (by simp [q])) (fun q=>hc (by simp [q])) e)
end
end DL.ZL
namespace DL
open PySem PySem.Spec L2
open PyProof.Rows hiding St
variable [Tbs] [Bas]
theorem RP.key {K:PySem.W.Frag} {H:Hp} {F:Addr->Prop} {v:V} {k:NestedKey} (h:RP K H F v k.data) (t:TupK k) : ∃ b,v = .ref b:=by
 obtain ⟨⟨l,rfl⟩,_⟩:=t
 obtain ⟨b,_,e,_⟩:=RP.tupP (ts:=NestedKey.datas l) h
 exact ⟨b,e⟩
end DL
namespace DL
open PySem PySem.Spec L2
open PyProof.Rows hiding St
variable [Tbs] [Bas]
section
variable {X:Cx} {P:Nat->Bool} {e ei:Expr} {te ti:XT} {x:Str} {px pos spos:Pos}
theorem RTt.ext {K:PySem.W.Frag} {H H' : Hp} {F F' : Addr->Prop} (x:Ext H F H' F') {es:List DictEntry} {l:List (NestedKey×T)} (r:RTt K H F es l):RTt K H' F' es l :=
 Paired.mapP r fun p q z=>⟨z.1,z.2.1,let ⟨b,e,y⟩:=z.2.2.1;⟨b,e,y.ext x⟩,let ⟨v,e,y⟩:=z.2.2.2;⟨v,e,y.ext x⟩⟩
end
end DL
namespace DL
open PySem PySem.Spec L2
open PyProof.Rows hiding St
variable [Tbs] [Bas]
def YS (l:List (Key×List T)) (k:Key):List (Key×List T):=l.filter fun p=>decide (p.1≠k)
section
variable {K:PySem.W.Frag} {H H' : Hp} {F F' : Addr->Prop}
theorem RDL.mem {k:Key} {b:Addr} : ∀ {kvs:List (Key×V)} {kts:List (Key×List T)} {bs:List Addr},RDL K H F kvs kts bs->valV kvs k=some (.ref b)->b∈bs
 | _,_,_, .nil,e=>by cases e
 | _,_,_, .cons (k:=k0) (b:=b0) (kvs:=kvs) h q r,e=>by
  by_cases c:k0=k
  ·rw [valV_pos (p:=(k0,V.ref b0)) c] at e
   injection e with e;injection e with e;subst e
   exact List.mem_cons_self
  ·rw [valV_neg (p:=(k0,V.ref b0)) c] at e
   exact List.mem_cons_of_mem _ (RDL.mem r e)
theorem RDL.drop (k:Key) : ∀ {kvs:List (Key×V)} {kts:List (Key×List T)} {bs:List Addr},RDL K H F kvs kts bs->bs.Nodup -> ∃ bs',RDL K H F (dropK kvs k) (YS kts k) bs'∧(∀ x∈bs',x∈bs)∧bs'.Nodup ∧ ∀ b,valV kvs k=some (.ref b)->b∉bs'
 | _,_,_, .nil,_=>⟨[], .nil,fun _ m=>m, .nil,fun _ _ m=>nomatch m⟩
 | _,_,_, .cons (k:=k0) (b:=b0) (kvs:=kvs) (kts:=kts) (bs:=bs) h q r,nd=>by
  obtain ⟨n1,n2⟩:=List.nodup_cons.mp nd
  obtain ⟨bs',r',h1,h2,h3⟩:=RDL.drop k r n2
  unfold dropK YS at *
  by_cases c:k0=k
  ·rw [List.filter_cons,List.filter_cons]
   have c1:decide (k0≠k)=false:=decide_eq_false fun z=>z c
   simp only [c1]
   refine ⟨bs',r',fun x m=>List.mem_cons_of_mem _ (h1 x m),h2,fun b e m => ?_⟩
   rw [valV_pos (p:=(k0,V.ref b0)) c] at e
   injection e with e;injection e with e;subst e
   exact n1 (h1 _ m)
  ·rw [List.filter_cons,List.filter_cons]
   have c1:decide (k0≠k)=true:=decide_eq_true c
   simp only [c1]
   refine ⟨b0 :: bs', .cons h q r',fun x m => ?_,List.nodup_cons.mpr ⟨fun m=>n1 (h1 _ m),h2⟩,fun b e m => ?_⟩
   ·rcases List.mem_cons.mp m with rfl | m
    ·exact List.mem_cons_self
    ·exact List.mem_cons_of_mem _ (h1 x m)
   ·rw [valV_neg (p:=(k0,V.ref b0)) c] at e
    rcases List.mem_cons.mp m with rfl | m
    ·exact n1 (RDL.mem r e)
    ·exact h3 b e m
end
end DL
namespace DL
open PySem PySem.Spec L2
open PyProof.Rows hiding St
section
variable [Tbs] [Bas]
theorem vals_ints {K:PySem.W.Frag} {H:Hp} {F:Addr->Prop} : ∀ {es:List DictEntry} {l:List (NestedKey×T)} {ns:List Int},RTt K H F es l->l.map (·.2)=ns.map PyData.int->Paired (fun (e:DictEntry) (n:Int) => ∃ t,e.val=Value.int n t) es ns
 | _,_, [], .nil,_ => .nil
 | _,_,_ :: _, .nil,h=>nomatch h
 | _,_, [], .cons _ _,h=>nomatch h
 | _,_,n :: ns, .cons ⟨_,_,_,v,h5,h6⟩ t,h=>by
  rw [List.map_cons,List.map_cons] at h
  injection h with e1 e2
  rw [e1] at h6
  have:=RP.intE h6
  subst this
  exact .cons h5 (vals_ints t e2)
end
section
variable [Tbs]
structure LH where
 x:Str
 np:Pos
 c:Value
 nm:Option (Str×Nat)
 st:Stmt
 su:List Stmt
 pos:Pos
 isC:Str->Bool
 th:ST
def LH.tr (h:LH):Option Nat×(Str->Bool)×ST:=(h.nm.map (·.2),h.isC,h.th)
structure LHOk [Bas] (X:Cx) (P:Nat->Bool) (h:LH):Prop where
 hc:Names X h.x h.c
 hn : ∀ n i,h.nm=some (n,i)->X.N[i]? = some n∧X.env.kindOf n=some .local
 hx : ∀ m∈Tbs.nms,PySem.W.exmOne X.K (.ref (Tbs.cad m)) h.c=some (h.isC m)
 hsu : ∀ (a:Addr) (pn:List (Addr×Obj)),SXs (X.suite a pn) P (h.st :: h.su) h.th
inductive Ut [Bas] (X:Cx) (P:Nat->Bool):List LH->Prop
 | nil:Ut X P []
 | cons {h:LH} {r:List LH}:LHOk X P h->Ut X P r->Ut X P (h :: r)
theorem Ut.all [Bas] {X:Cx} {P:Nat->Bool} : ∀ {l:List LH},Ut X P l -> ∀ h∈l,LHOk X P h
 | _, .nil,_,m=>nomatch m
 | _, .cons h r,x,m=>(List.mem_cons.mp m).elim (fun e=>e▸h) (r.all x)
end
variable [Tbs] [Bas]
def EmpD (s:Shared) (z:Value):Prop := ∃ a o n,z = .ref a∧(a == sysModules)=false∧s.heap.get? a=some o∧o.ExactDict∧o.data = .dict #[] n
theorem EmpD.of (P:Program) (w:World) {s:Shared} {a:Addr} {o:Obj} {n:Nat} (h1:s.heap.get? a=some o) (h2:o.ExactDict) (h3:o.data = .dict #[] n):s.heap.DictOf (mixKind P w) a [] :=
 ⟨o, #[],n,h1,h2,h3,fun e m=>absurd m (by simp), .nil,by simp⟩
end DL
namespace DL
open PySem PySem.Spec L2
open PyProof.Rows hiding St
section
variable [Tbs]
variable {K:PySem.W.Frag} {σ : L2.St} {H H' : Hp} {F:Addr->Prop} {ρ : aM} {fp:Nat->List Addr} {G:List Addr} {A:List Addr}
theorem RIn.keys : ∀ {vs:List (Str×V)} {fs:List (Str×Fl)} {A:List Addr},RIn K H F vs fs A->vs.map (·.1)=fs.map (·.1)
 | _,_,_, .nil=>rfl
 | _,_,_, .cons _ _ r=>by rw [List.map_cons,List.map_cons,RIn.keys r]
theorem RIn.at : ∀ {vs:List (Str×V)} {fs:List (Str×Fl)} {A:List Addr},RIn K H F vs fs A -> ∀ {n:Nat} {f:Str} {l:Fl},fs[n]? = some (f,l) -> ∃ v B,vs.lookup f=some v∧RFl K H F v l B ∧ ∀ a∈B,a∈A
 | _,_,_, .nil,_,_,_,e=>by simp at e
 | _,_,_, .cons (f:=g) h _ r,0,f,l,e=>by
  rw [List.getElem?_cons_zero] at e
  cases e
  exact ⟨_,_,by simp [List.lookup],h,fun a m=>List.mem_append_left _ m⟩
 | _,_,_, .cons (f:=g) h n0 r,n+1,f,l,e=>by
  rw [List.getElem?_cons_succ] at e
  obtain ⟨v,B,e1,e2,e3⟩:=RIn.at r e
  have ne:g≠f:=fun q=>n0 _ (List.mem_of_getElem? e) q.symm
  have hb:(f == g)=false:=beq_eq_false_iff_ne.mpr (Ne.symm ne)
  exact ⟨v,B,by rw [List.lookup_cons,hb];exact e1,e2,fun a m=>List.mem_append_right _ (e3 a m)⟩
end
def Ht (c f:Str) (n:Nat) (P:Fl->Prop):Option (Option O)->Prop
 | some (some (.ins c' fs))=>c'=c∧match fs[n]? with
  | some (g,l)=>g=f∧P l
  | none=>False
 | _=>False
def Ml (P:T->Prop):Fl->Prop
 | .val t=>P t
 | _=>False
section
variable [Tbs] [Bas]
variable {K:PySem.W.Frag} {σ : L2.St} {H H' : Hp} {ρ : aM} {fp:Nat->List Addr} {G:List Addr} {A:List Addr} {c f:Str} {n i:Nat}
theorem Zj {P:Fl->Prop} (h:Ht c f n P ρ[i]?) : ∃ fs l,ρ[i]? = some (some (.ins c fs))∧fs[n]? = some (f,l)∧P l:=by
 unfold Ht at h
 split at h
 ·rename_i c' fs e
  obtain ⟨rfl,h⟩:=h
  split at h
  ·rename_i g l e2
   obtain ⟨rfl,h⟩:=h
   exact ⟨fs,l,e,e2,h⟩
  ·exact h.elim
 ·exact h.elim
theorem Zk (R:RS K σ H ρ fp G) {fs:List (Str×Fl)} {l:Fl} (e : ρ[i]? = some (some (.ins c fs))) (e2:fs[n]? = some (f,l)) :
  ∃ a dx vs v B,σ[i]? = some (some (.ref a))∧H a=some (.ins (Tbs.cad c) dx vs)∧vs.lookup f=some v∧RFl K H (Or1 (Fo fp) G) v l B ∧ ∀ a∈B,a∈fp i:=by
 obtain ⟨v,hv,a,dx,vs,B,rfl,eA,ha,rn⟩:=R.ex i _ e
 obtain ⟨u,B',h1,h2,h3⟩:=rn.at e2
 exact ⟨a,dx,vs,u,B',hv,ha,h1,h2,fun b m=>eA▸List.mem_cons_of_mem _ (h3 b m)⟩
def tFv (i:Nat) (c f:Str) (n:Nat):XT:=fun ρ Q=>Ht c f n (Ml fun t=>Q (.val (.pure t)) ρ) ρ[i]?
variable {X:Cx} {x:Str} {px pa pos:Pos} {eb:Expr} {tb ta:XT}
theorem xr (i:Nat) (hc:Cls X.K (Tbs.cad c)) (hn:NoAttr X.K (Tbs.cad c) f) (hN:X.N[i]? = some x:=by rfl) (hv:Vis X.env.scope x:=by first | exact Or.inl rfl | exact Or.inr (Or.inl rfl) | exact Or.inr (Or.inr rfl)) (hd:(x == ("__debug__" : Str))=false:=by decide)
  (hcd:(x == ("__classdict__" : Str))=false:=by decide) (hb:attributeBase (.Name x px) f X.env (eval (.Name x px) X.env)=eval (.Name x px) X.env:=by rfl):EX X (.Attribute (.Name x px) f pos) (tFv i c f n):=by
 refine ⟨PE.imp (pe_fld (pe_var (i:=i) hN hv hd hcd) hb) ?_⟩
 rintro σ H Q ⟨ρ,fp,G,Qa,R,h,fin⟩
 obtain ⟨fs,l,e1,e2,h⟩:=Zj h
 cases l with
 | val t =>
  obtain ⟨a,dx,vs,v,B,h1,h2,h3,⟨rfl,h4⟩,_⟩:=Zk R e1 e2
  exact ⟨_,h1,a,_,dx,vs,v,rfl,h2,hc,hn,h3,fin v (.val (.pure t)) [] H ρ fp R (lO h4) (fL.refl.extA pZ) h⟩
 | dtt b kts=>exact h.elim
 | dtf kts=>exact h.elim
end
section
variable [Tbs]
variable {K:PySem.W.Frag} {H H' : Hp} {F F' : Addr->Prop}
theorem YT {fs:List (Str×Fl)} {n:Nat} {f:Str} {l l' : Fl} (e:fs[n]? = some (f,l)) {g:Str} (h : ∀ p∈fs,p.1≠g) : ∀ p∈fs.set n (f,l'),p.1≠g:=fun p m=>by
 rcases List.mem_or_eq_of_mem_set m with m | rfl
 ·exact h p m
 ·exact h (f,l) (List.mem_of_getElem? e)
theorem RIn.put {b:Addr} {u:HO} {f:Str} {kts kts' : List (NestedKey×T)} (ux : ∀ v t,RP K H F v t->RP K (L2.upd H b u) F v t) (uz : ∀ v l,RDz K H F v l->RDz K (L2.upd H b u) F v l) (hn:RFl K (L2.upd H b u) F (.ref b) (.dtt b kts') [b]) : ∀ {vs:List (Str×V)} {fs:List (Str×Fl)} {A:List Addr},RIn K H F vs fs A->A.Nodup -> ∀ {n:Nat},fs[n]? = some (f, .dtt b kts)->RIn K (L2.upd H b u) F vs (fs.set n (f, .dtt b kts')) A
 | _,_,_, .nil,_,_,e=>by simp at e
 | _,_,_, .cons (A:=A) (B:=B) h n0 r,nd,0,e=>by
  rw [List.getElem?_cons_zero] at e
  cases e
  obtain ⟨rfl,rfl,_⟩:=h
  rw [List.set_cons_zero]
  refine .cons hn n0 (r.imp ux uz fun a m w e _ => ?_)
  rw [upd_ne]
  ·exact e
  ·rintro rfl
   exact (List.nodup_append.mp nd).2.2 a (List.mem_singleton.mpr rfl) a m rfl
 | _,_,_, .cons (A:=A) (B:=B) h n0 r,nd,n+1,e=>by
  rw [List.getElem?_cons_succ] at e
  rw [List.set_cons_succ]
  have mb:b∈B:=by
   obtain ⟨v,C,_,⟨_,eC,_⟩,hC⟩:=r.at e
   exact hC b (eC▸List.mem_singleton.mpr rfl)
  refine .cons (h.imp ux uz fun a m w e' _ => ?_) (YT e n0) (RIn.put ux uz hn r (List.nodup_append.mp nd).2.1 e)
  rw [upd_ne]
  ·exact e'
  ·rintro rfl
   exact (List.nodup_append.mp nd).2.2 a m a mb rfl
theorem RIn.app {f:Str} {v:V} {l:Fl} {B:List Addr} (h:RFl K H F v l B) {vs:List (Str×V)} {fs:List (Str×Fl)} {A:List Addr} (r:RIn K H F vs fs A) (nf : ∀ p∈fs,p.1≠f):RIn K H F (putF f v vs) (fs++[(f,l)]) (A++B):=by
 induction r with
 | nil =>
  have:=RIn.cons (f:=f) (fs:=[]) (vs:=[]) h (fun p m=>absurd m (by simp)) (RIn.nil (K:=K) (H:=H) (F:=F))
  simpa [putF] using this
 | @cons g v1 l1 vs fs A C h1 n0 r ih =>
  have ne:g≠f:=nf (g,_) List.mem_cons_self
  have ih:=ih fun p m=>nf p (List.mem_cons_of_mem _ m)
  unfold putF
  rw [if_neg ne,List.cons_append,List.append_assoc]
  refine .cons h1 (fun p m => ?_) ih
  rcases List.mem_append.mp m with m | m
  ·exact n0 p m
  ·rw [List.mem_singleton.mp m]
   exact Ne.symm ne
end
variable [Tbs] [Bas]
section
variable {X:Cx} {P:Nat->Bool} {e ei:Expr} {te ti:XT} {x c f:Str} {n:Nat} {px pa pos spos:Pos}
def YW (i:Nat) (c f:Str) (te:XT):ST:=fun D ρ=>te ρ fun p ρ1=>fV p ρ1 fun y ρ2=>nwK c f (fun fs=>D.nx (ρ2.set i (some (.ins c (fs++[(f, .val y)]))))) ρ2[i]?
where nwK (c f:Str) (P:List (Str×Fl)->Prop):Option (Option O)->Prop
 | some (some (.ins c' fs))=>c'=c∧(fs.all fun p => !decide (p.1=f))=true∧fs.length<1000∧P fs
 | _=>False
theorem aB2 {c f:Str} {i:Nat} {ρ : aM} {P:List (Str×Fl)->Prop} (h:YW.nwK c f P ρ[i]?) : ∃ fs,ρ[i]? = some (some (.ins c fs))∧(∀ p∈fs,p.1≠f)∧fs.length<1000∧P fs:=by
 unfold YW.nwK at h
 split at h
 ·rename_i c' fs e
  obtain ⟨rfl,h1,h2,h3⟩:=h
  exact ⟨fs,e,fun p m=>by simpa using List.all_eq_true.mp h1 p m,h2,h3⟩
 ·exact h.elim
theorem RIn.len {K:PySem.W.Frag} {H:Hp} {F:Addr->Prop} {vs:List (Str×V)} {fs:List (Str×Fl)} {A:List Addr} (r:RIn K H F vs fs A):vs.length=fs.length:=by
 have:=congrArg List.length r.keys
 rwa [List.length_map,List.length_map] at this
theorem Uu (i:Nat) (hc:Cls X.K (Tbs.cad c)) (hn:NoAttr X.K (Tbs.cad c) f) (he:EX X e te) (hN:X.N[i]? = some x:=by rfl)
  (hv:Vis X.env.scope x:=by first | exact Or.inl rfl | exact Or.inr (Or.inl rfl) | exact Or.inr (Or.inr rfl)) (hd:(x == ("__debug__" : Str))=false:=by decide) (hcd:(x == ("__classdict__" : Str))=false:=by decide)
  (hs:swapsWith e (some (.Attribute (.Name x px) f spos)) pos.line X.env=pure false:=by rfl) :
  SX X P (.Assign [.Attribute (.Name x px) f spos] e pos) (YW i c f te):=by
 refine ⟨PS.imp (ps_fld (pe_var (i:=i) hN hv hd hcd) he.pe hs) ?_⟩
 rintro D σ H ⟨ρ,fp,G,Da,R,h,fin⟩
 refine ⟨ρ,fp,G,_,R,h,fun v p A H1 ρ1 fp1 R1 r1 x1 h1 => ?_⟩
 obtain ⟨y,ρ2,fp2,R2,r2,i2,h2⟩:=jR R1 r1 h1
 obtain ⟨fs,e0,nf,lf,h3⟩:=aB2 h2
 obtain ⟨v',hv',a,dx,vs,B,rfl,eA,ha,rn⟩:=R2.ex i _ e0
 have x2:Ext H (Fo fp) H1 (Fo fp2):=x1.or.weak (fun _ z=>z) i2
 refine ⟨.ref a,hv',a,_,dx,vs,rfl,ha,hc,hn,by rw [rn.len];exact lf, ?_⟩
 have ma:a∈fp2 i:=by rw [eA];exact List.mem_cons_self
 have ndf:=R2.nd i
 rw [eA] at ndf
 have ux:Ext H1 (Fo fp2) (upd H1 a (.ins (Tbs.cad c) dx (putF f v vs))) (Fo fp2):=fW ha trivial ⟨i,ma⟩ fun _ z=>z
 have rn' : RIn X.K (upd H1 a (.ins (Tbs.cad c) dx (putF f v vs))) (Or1 (Fo fp2) G) vs fs B:=rn.imp (fun _ _ z=>RP.ext z (ux.addG G)) (fun _ _ z=>RDz.ext z (ux.addG G)) fun b m w e _=>by
  rw [upd_ne]
  ·exact e
  ·rintro rfl
   exact (List.nodup_cons.mp ndf).1 m
 have rn2:=RIn.app (f:=f) (l := .val y) (B:=[]) ⟨rfl,RP.ext r2 (ux.addG G)⟩ rn' nf
 rw [List.append_nil] at rn2
 obtain ⟨R4,x4⟩:=R2.mutG (u' := .ins (Tbs.cad c) dx (putF f v vs)) (o' := .ins c (fs++[(f, .val y)])) e0 hv' ma ha trivial ⟨a,dx,_,B,rfl,eA,upd_same,rn2⟩
 exact fin.nx σ _ _ fp2 R4 (x2.trans x4) .refl h3
end
end DL
namespace DL
open PySem PySem.Spec L2
open PyProof.Rows hiding St
section
variable {X:Cx} {CX:CXT} {k:Nat} {f C:Addr} {fd:FuncData} {ps:List Str} {sp:Sp} {E:L2.St->XK} {m:Str} {p pos apos:Pos} {o e:Expr} {es:List Expr} {ta:TE} {t:TA}
theorem JX {pl:Sem Bool} (he:PE X o ta) (c:Cls X.K C) (hm:Meth X.K C m f) (F:FnG X.prog X.w X.K X.mg X.base CX k f fd ps sp) (hr:Rm k X.A) (hb:Binds X.K fd ps []) (hx : ∀ σ,PassesAt CX X σ (E σ)) (ha:PA X (e :: es) t)
  (hst:starEach (e :: es) X.env=(false,eval e X.env) :: starEach es X.env:=by rfl) (hpl:(backTo pos (starEach es X.env)).any (·.1)=false:=by rfl)
  (ht:eval (.Call (.Attribute o m apos) (e :: es) [] pos) X.env=(do
   let ov ← eval o X.env
   standAt apos.atName
   let (f,first) ← holding [ov] (getMethod ov m pl)
   callWith pos f first (backTo pos (starEach (e :: es) X.env)) (backToKw pos (keywordEach [] X.env))):=by rfl) :
  PE X (.Call (.Attribute o m apos) (e :: es) [] pos) (fun σ H Q=>ta σ H fun x H1=>(∃ a dx fs,x = .ref a∧H1 a=some (.ins C dx fs)∧fs.lookup m=none)∧t σ H1 fun vs H2=>sp (x :: vs) H2 Q (E σ)):=by
 refine ⟨fun pins s σ H Q I h => ?_⟩
 refine PySem.W.methodCall_KW (pl:=pl) (thn (he.run pins s σ H _ I h) fun u s1 ⟨x,H1,I1,rx,⟨a,dx,fs,ex,ea,l⟩,q⟩ => ?_) ht
 subst ex
 obtain rfl:u=Value.ref a:=rx
 refine getmeth_ok I1 ea c hm l ?_
 refine PySem.W.callWith_K (first:=[.ref a]) (h₀:=X.base) I.ok.mod.kin hm.kp (thn (ha.run pos pins s1 σ H1 _ I1 q) fun us s2 ⟨vs,H2,I2,r,q2⟩=>⟨I2.kIn, ?_⟩) hst hpl
 exact UL (us := .ref a :: us) (vs := .ref a :: vs) F hr hb (hx σ) I2 (.cons rfl r) q2
theorem Lj {pl:Sem Bool} (he:PE X o ta) (c:Cls X.K C) (hm:Meth X.K C m f) (F:FnG X.prog X.w X.K X.mg X.base CX k f fd ps sp) (hr:Rm k X.A) (hb:Binds X.K fd ps []) (hx : ∀ σ,PassesAt CX X σ (E σ))
  (ht:eval (.Call (.Attribute o m apos) [] [] pos) X.env=(do
   let ov ← eval o X.env
   standAt apos.atName
   let (f,first) ← holding [ov] (getMethod ov m pl)
   callWith pos f first (backTo pos (starEach [] X.env)) (backToKw pos (keywordEach [] X.env))):=by rfl) :
  PE X (.Call (.Attribute o m apos) [] [] pos) (fun σ H Q=>ta σ H fun x H1=>(∃ a dx fs,x = .ref a∧H1 a=some (.ins C dx fs)∧fs.lookup m=none)∧sp [x] H1 Q (E σ)):=by
 refine ⟨fun pins s σ H Q I h => ?_⟩
 refine PySem.W.methodCall_KW (pl:=pl) (thn (he.run pins s σ H _ I h) fun u s1 ⟨x,H1,I1,rx,⟨a,dx,fs,ex,ea,l⟩,q⟩ => ?_) ht
 subst ex
 obtain rfl:u=Value.ref a:=rx
 refine getmeth_ok I1 ea c hm l ?_
 exact PySem.W.callWith_K0 (first:=[.ref a]) I1.kIn hm.kp (UL (us:=[.ref a]) (vs:=[.ref a]) F hr hb (hx σ) I1 (.cons rfl .nil) q)
end
section
variable [Tbs] [Bas]
def xF (c m:Str):Option O->Prop
 | some (.ins c' fs)=>c'=c∧(fs.all fun p => !decide (p.1=m))=true
 | _=>False
theorem X3 {c m:Str} {o:Option O} (h:xF c m o) : ∃ fs,o=some (.ins c fs) ∧ ∀ p∈fs,p.1≠m:=by
 unfold xF at h
 split at h
 ·rename_i c' fs
  obtain ⟨rfl,h⟩:=h
  exact ⟨fs,rfl,fun p mm=>by simpa using List.all_eq_true.mp h p mm⟩
 ·exact h.elim
def Gk (c m:Str) (t:XT):XT:=fun ρ Q=>t ρ fun p ρ1=>xF c m (p.get ρ1)∧Q p ρ1
theorem CJ {K:PySem.W.Frag} {c m:Str} {t:XT} {σ : L2.St} {H:Hp} {Q:VK} (h:LX K (Gk c m t) σ H Q) :
  LX K t σ H fun x H1=>(∃ a dx fs,x = .ref a∧H1 a=some (.ins (Tbs.cad c) dx fs)∧fs.lookup m=none)∧Q x H1:=by
 obtain ⟨ρ,fp,G,Qa,R,h,fin⟩:=h
 refine ⟨ρ,fp,G,_,R,h,fun v p A H1 ρ1 fp1 R1 r1 x1 h1=>⟨?_,fin v p A H1 ρ1 fp1 R1 r1 x1 h1.2⟩⟩
 obtain ⟨fs,e,nf⟩:=X3 h1.1
 obtain ⟨a,dx,vs,B,rfl,ha,rn⟩:=r1.rw0 R1 e
 refine ⟨a,dx,vs,rfl,ha, ?_⟩
 rw [List.lookup_eq_none_iff]
 intro q hq
 have : q.1∈fs.map (·.1):=by rw [← rn.keys];exact List.mem_map.mpr ⟨q,hq,rfl⟩
 obtain ⟨p',h1,h2⟩:=List.mem_map.mp this
 have:=nf p' h1
 simp only [bne_iff_ne,ne_eq]
 intro z
 exact this (h2.trans z.symm)
theorem yC {K:PySem.W.Frag} {n:Nat} {t:XT} {ts:XTs} {σ : L2.St} {H:Hp} {Q:List V->Hp->Prop} (h:LA K (n+1) (aD t ts) σ H Q):LX K t σ H fun x H1=>LA K n ts σ H1 fun vs H2=>Q (x :: vs) H2:=by
  obtain ⟨ρ,fp,G,Qa,R,h,fin⟩:=h
  refine ⟨ρ,fp,G,_,R,h,fun v p A H1 ρ1 fp1 R1 r1 x1 h1 => ?_⟩
  refine ⟨ρ1,fp1,A++G,_,R1,h1,fun vs ps B H2 ρ2 fp2 hl R2 r2 nd2 ng2 x2 h2 => ?_⟩
  have m1 : ∀ a,a∈B++(A++G)↔a∈A++(B++G):=fun a=>by simp only [List.mem_append];exact ⟨fun z=>by rcases z with z | z | z<;>simp [z],fun z=>by rcases z with z | z | z<;>simp [z]⟩
  have w1 : ∀ a,Or1 (Fo fp2) ((A++B)++G) a->Or1 (Fo fp2) (B++(A++G)) a:=fun a z=>z.imp (fun q=>q) fun m=>(m1 a).mpr (by rw [List.append_assoc] at m;exact m)
  have x' : Ext H (Fo fp) H2 (Or1 (Fo fp2) (A++B)):=by
    have:=x1.trans (x2.addG A)
    exact this.weak (fun _ z=>z) fun a z=>Or1.app.mp (Or1.perm.mp z)
  have R2' : RS K σ H2 ρ2 fp2 ((A++B)++G):=R2.sub fun a m=>(m1 a).mpr (by rw [List.append_assoc] at m;exact m)
  have low : ∀ {vs:List V} {ps:List Opd} {C:List Addr},nH K σ H2 (Or1 (Fo fp2) (B++(A++G))) ρ2 vs ps C->nH K σ H2 (Or1 (Fo fp2) ((A++B)++G)) ρ2 vs ps C:=fun r=>by
    induction r with
    | nil=>exact .nil
    | val r _ ih=>exact .val (r.weak w1) ih
    | slot a b _ ih=>exact .slot a b ih
  cases p with
  | val o =>
    have ndA:(A++B).Nodup:=List.nodup_append.mpr ⟨r1.2.1,nd2,fun a m b n e=>ng2 b n (e▸List.mem_append_left _ m)⟩
    refine fin (v :: vs) (.val o :: ps) (A++B) H2 ρ2 fp2 (congrArg (· + 1) hl) R2' (.val ?_ (low r2)) ndA (fun a m z => ?_) x' h2.2
    · exact (RO.step r1.1 x2 fun a m=>R1.gf a (List.mem_append_left _ m)).weak w1
    · exact (List.mem_append.mp m).elim (fun m=>r1.2.2 a m z) fun m=>ng2 a m (List.mem_append_right _ z)
  | slot j =>
    obtain ⟨rfl,hv,_⟩:=r1
    exact fin (v :: vs) (.slot j :: ps) B H2 ρ2 fp2 (congrArg (· + 1) hl) R2' (.slot hv (h2.1 j rfl) (low r2)) nd2 (fun a m z=>ng2 a m (by simpa using z)) x' h2.2
theorem QW {K:PySem.W.Frag} {σ : L2.St} {H:Hp} {Q:List V->Hp->Prop} (h:LA K 0 aH σ H Q):Q [] H:=by
 obtain ⟨ρ,fp,G,Qa,R,h,fin⟩:=h
 exact fin [] [] [] H ρ fp rfl R .nil .nil pZ (fL.refl.extA pZ) h
theorem LX.imp2 {K:PySem.W.Frag} {t:XT} {σ : L2.St} {H:Hp} {Q Q' : VK} (h:LX K t σ H Q) (w : ∀ v H',Q v H'->Q' v H'):LX K t σ H Q':=by
 obtain ⟨ρ,fp,G,Qa,R,h,fin⟩:=h
 exact ⟨ρ,fp,G,Qa,R,h,fun v p A H1 ρ1 fp1 R1 r1 x1 h1=>w _ _ (fin v p A H1 ρ1 fp1 R1 r1 x1 h1)⟩
def Rz (c m:Str) (fl:List Bool) (spec:bU) (t:XT) (ts:XTs):XT:=aV (true :: fl) spec (aD (Gk c m t) ts)
section
variable {X:Cx} {k:Nat} {f:Addr} {fd:FuncData} {ps:List Str} {c m:Str} {p pos apos:Pos} {o e:Expr} {es:List Expr} {t:XT} {ts:XTs} {fl:List Bool} {spec:bU}
theorem Zm (hc:Cls X.K (Tbs.cad c)) (hm:Meth X.K (Tbs.cad c) m f) (F:FnG X.prog X.w X.K X.mg X.base CX0 k f fd ps (ASp X.K (true :: fl) spec)) (hr:Rm k X.A) (hb:Binds X.K fd ps []) (h0:EX X o t) (ha:EXs X (e :: es) ts) {pl:Sem Bool}
  (hst:starEach (e :: es) X.env=(false,eval e X.env) :: starEach es X.env:=by rfl) (hpl:(backTo pos (starEach es X.env)).any (·.1)=false:=by rfl)
  (ht:eval (.Call (.Attribute o m apos) (e :: es) [] pos) X.env=(do
   let ov ← eval o X.env
   standAt apos.atName
   let (f,first) ← holding [ov] (getMethod ov m pl)
   callWith pos f first (backTo pos (starEach (e :: es) X.env)) (backToKw pos (keywordEach [] X.env))):=by rfl):EX X (.Call (.Attribute o m apos) (e :: es) [] pos) (Rz c m fl spec t ts):=by
 refine ⟨PE.imp (JX (E:=fun _=>E0) h0.pe hc hm F hr hb (fun σ pins H s e s' I h=>pass0 pins σ H s e s' I h) ha.pa hst hpl ht) fun σ H Q h => ?_⟩
 have h1:=yr (n:=(e :: es).length+1) (E:=E0) h
 unfold tCall at h1
 simp only [List.append_nil] at h1
 exact CJ (yC h1)
theorem X4 (hc:Cls X.K (Tbs.cad c)) (hm:Meth X.K (Tbs.cad c) m f) (F:FnG X.prog X.w X.K X.mg X.base CX0 k f fd ps (ASp X.K (true :: fl) spec)) (hr:Rm k X.A) (hb:Binds X.K fd ps []) (h0:EX X o t) {pl:Sem Bool}
  (ht:eval (.Call (.Attribute o m apos) [] [] pos) X.env=(do
   let ov ← eval o X.env
   standAt apos.atName
   let (f,first) ← holding [ov] (getMethod ov m pl)
   callWith pos f first (backTo pos (starEach [] X.env)) (backToKw pos (keywordEach [] X.env))):=by rfl):EX X (.Call (.Attribute o m apos) [] [] pos) (Rz c m fl spec t aH):=by
 refine ⟨PE.imp (Lj (E:=fun _=>E0) h0.pe hc hm F hr hb (fun σ pins H s e s' I h=>pass0 pins σ H s e s' I h) ht) fun σ H Q h => ?_⟩
 have h1:=yr (n:=1) (E:=E0) h
 unfold tCall at h1
 simp only [List.append_nil] at h1
 exact (CJ (yC h1)).imp2 fun v H' q=>⟨q.1,QW q.2⟩
end
theorem nH.pres {K:PySem.W.Frag} {σ : L2.St} {H H' : Hp} {F F' : Addr->Prop} {ρ : aM} {A:List Addr} (w : ∀ a,F' a->F a∨H a=none) (pr:fL H H') {vs:List V} {ps:List Opd} (h:nH K σ H F ρ vs ps A):nH K σ H' F' ρ vs ps A:=by
 induction h with
 | nil=>exact .nil
 | val r _ ih=>exact .val ((r.grow w).pres pr) ih
 | slot a b _ ih=>exact .slot a b ih
def aB3 (c:Str) (fl:List Bool) (spec:bU) (ts:XTs):XT:=fun ρ Q=>ts ρ fun ps ρ1=>rE fl ps ρ1 fun os _ ρ2=>spec (.ins c [] :: os) fun o outs=>o = .pure .none ∧ ∃ i,outs=[i]∧Q (.val i) ρ2
theorem aB4 {K:PySem.W.Frag} {n:Nat} {c:Str} {fl:List Bool} {spec:bU} {ts:XTs} {σ : L2.St} {H:Hp} {Q:VK} {E:XK} (hfl : ∀ i,fl.getD i false=false) (h:LX K (aB3 c fl spec ts) σ H Q) :
    LA K n ts σ H fun vs H1 => ∀ x dx,H1 x=none->H1 dx=none->dx≠x->ASp K (true :: fl) spec (.ref x :: vs) (upd (upd H1 dx (.own x)) x (.ins (Tbs.cad c) dx [])) (fun v H2=>v = .non∧Q (.ref x) H2) E:=by
  obtain ⟨ρ,fp,G,Qa,R,h,fin⟩:=h
  refine ⟨ρ,fp,G,_,R,h,fun vs ps A H0 ρ1 fp1 hl R1 r1 nd1 ng1 x1 h1 x dx nx ndx ne => ?_⟩
  have pr:fL H0 (upd (upd H0 dx (.own x)) x (.ins (Tbs.cad c) dx [])):=(fL.upd ndx).trans (fL.upd (by rw [upd_ne (Ne.symm ne)];exact nx))
  generalize hH1:upd (upd H0 dx (.own x)) x (.ins (Tbs.cad c) dx [])=H1 at pr
  have hx1:H1 x=some (.ins (Tbs.cad c) dx []):=by rw [← hH1];exact upd_same
  have xA:x∉A:=fun m=>by obtain ⟨u,e⟩:=R1.gi x (List.mem_append_left _ m);rw [nx] at e;cases e
  have xG:x∉G:=fun m=>by obtain ⟨u,e⟩:=R1.gi x (List.mem_append_right _ m);rw [nx] at e;cases e
  have R1a:RS K σ H1 ρ1 fp1 ([x]++(A++G)):=R1.new pr (fun a m=>by rw [List.mem_singleton.mp m];exact nx) fun a m=>⟨.ins (Tbs.cad c) dx [],by rw [List.mem_singleton.mp m];exact hx1⟩
  have R1b:RS K σ H1 ρ1 fp1 (([x]++A)++G):=by rw [List.append_assoc];exact R1a
  have wF : ∀ a,Or1 (Fo fp1) (([x]++A)++G) a->Or1 (Fo fp1) (A++G) a∨H0 a=none:=fun a z=>by
    rcases z with z | z
    · exact .inl (.inl z)
    · rw [List.append_assoc] at z
      rcases List.mem_append.mp z with z | z
      · rw [List.mem_singleton.mp z];exact .inr nx
      · exact .inl (.inr z)
  have r1b:nH K σ H1 (Or1 (Fo fp1) (([x]++A)++G)) ρ1 (.ref x :: vs) (.val (.ins c []) :: ps) ([x]++A) := .val ⟨x,dx, [], [],rfl,rfl,hx1, .nil⟩ (r1.pres wF pr)
  have h1b:rE (true :: fl) (.val (.ins c []) :: ps) ρ1 fun os _ ρ2=>spec os fun o outs=>o = .pure .none ∧ ∃ i,outs=[i]∧Qa (.val i) ρ2:=h1
  obtain ⟨os,js,ρ2,fp2,Bs,R2,r2,d2,g2,i2,l2,z2,n2,h2⟩:=zr r1b R1b R.g0 (fun a z=>z) (fun a m=>by
    rcases List.mem_append.mp m with m | m
    · rw [List.mem_singleton.mp m];exact xG
    · exact ng1 a m) (List.nodup_append.mpr ⟨by simp,nd1,fun a m b m' e=>xA (by rw [← List.mem_singleton.mp m,e];exact m')⟩) h1b
  have hG : ∀ a,a∈v5 ρ2 fp2++G↔Fo fp2 a∨a∈G:=fun a=>by rw [List.mem_append,R2.all]
  refine ⟨os,fun i=>Bs.getD i [],v5 ρ2 fp2++G,_,n2,RCs.rs R2 r2 d2 g2 hG,z2,h2,fun v o A' outs H' fp' R' z' ro nd' ng' x' lo q => ?_⟩
  obtain ⟨rfl,i,rfl,q⟩:=q
  refine ⟨ro.2.noneE, ?_⟩
  have lo2:os.length=(true :: fl).length:=by
    have:=r2.len.1
    rw [← n2];exact this.symm
  obtain ⟨o0,os',rfl⟩ : ∃ o0 os',os=o0 :: os':=by
    cases os with
    | nil=>simp at lo2
    | cons a b=>exact ⟨a,b,rfl⟩
  obtain ⟨v0,hv0,ri⟩:=R'.ex 0 i rfl
  obtain rfl:v0=V.ref x:=by
    simp only [List.map_cons,List.getElem?_cons_zero] at hv0
    cases hv0;rfl
  have fa : ∀ a,a∈fp' 0->Fo fp' a:=fun a m=>⟨0,m⟩
  have xs:Ext H1 (· ∈ Bs.flatten) H' (· ∈ fp' 0++A'):=x'.weak (fun a z=>jU.mpr z) fun a m=>(List.mem_append.mp m).elim (fun m => .inl (fa a m)) .inr
  have R3:RS K σ H' ρ2 fp2 ((fp' 0++A')++G):=R2.thru xs (fun a m z=>g2 a z m) fun a m=>(List.mem_append.mp m).elim (fun m=>let ⟨u,e,_⟩:=R'.there a (fa a m);⟨u,e⟩) fun m=>let ⟨u,e,_⟩:=ro.there a m;⟨u,e⟩
  have R4:RS K σ H' ρ2 fp2 (fp' 0++G):=R3.sub (fun a m=>by
    rcases List.mem_append.mp m with m | m
    · exact List.mem_append_left _ (List.mem_append_left _ m)
    · exact List.mem_append_right _ m) fun a m=>List.mem_append_right _ (R.g0 a m)
  have ng : ∀ a∈fp' 0,a∉G:=fun a m z=>R'.gf a (List.mem_append_right _ ((hG a).mpr (.inr z))) (fa a m)
  refine fin (.ref x) (.val i) (fp' 0) H' ρ2 fp2 R4 ⟨ri.weak fun a z => ?_,R'.nd 0,ng⟩ ?_ q
  · rcases z with z | z
    · exact .inr (List.mem_append_right _ ((hG a).mpr (.inl z)))
    · rcases List.mem_append.mp z with z | z
      · exact .inl (fa a z)
      · exact .inr (List.mem_append_right _ ((hG a).mpr (.inr z)))
  · have xa:Ext H (Fo fp) H0 (Or1 (Fo fp1) A):=x1
    have xb:Ext H0 (Or1 (Fo fp1) A) H1 (fun a=>Or1 (Fo fp1) A a∨a∈[x]):=pr.extA fun a m=>by rw [List.mem_singleton.mp m];exact nx
    have xc:=(x'.addP (Fo fp2))
    refine (xa.trans xb).trans (xc.weak (fun a z => ?_) fun a z => ?_)
    · rcases i2 a (z.imp (fun q=>q) fun z=>jU.mpr z) with y | y
      · exact .inl (.inl y)
      · rcases List.mem_append.mp y with y | y
        · exact .inr y
        · exact .inl (.inr y)
    · rcases z with z | z
      · exact .inl z
      · exact .inr (.inl (fa a z))
section
variable {X:Cx} {k:Nat} {f:Addr} {fd:FuncData} {ps:List Str} {c x:Str} {p pos:Pos} {e:Expr} {es:List Expr} {ts:XTs} {fl:List Bool} {spec:bU}
theorem aB5 (M:Mk X.K (Tbs.cad c) f) (F:FnG X.prog X.w X.K X.mg X.base CX0 k f fd ps (ASp X.K (true :: fl) spec)) (hr:Rm (k+1) X.A) (hg:Gl X x) (hm:X.mg x=some (.ref (Tbs.cad c))) (hb:Binds X.K fd ps []) (ha:EXs X (e :: es) ts)
  (hfl:(fl.all fun b => !b)=true:=by rfl) (hdb:(x == ("__debug__" : Str))=false:=by decide) (he:starEach (e :: es) X.env=(false,eval e X.env) :: starEach es X.env:=by rfl) (hpl:(backTo pos (starEach es X.env)).any (·.1)=false:=by rfl) :
  EX X (.Call (.Name x p) (e :: es) [] pos) (aB3 c fl spec ts):=by
 refine ⟨PE.imp (Wz (E:=fun _=>E0) M F hr hg hm hb (fun σ pins H s e s' I h=>pass0 pins σ H s e s' I h) ha.pa hdb he hpl) fun σ H Q h=>aB4 (fun i => ?_) h⟩
 rw [List.getD_eq_getElem?_getD]
 cases q:fl[i]? with
 | none=>rfl
 | some b =>
  have:=List.all_eq_true.mp hfl b (List.mem_of_getElem? q)
  simpa using this
end
end
variable [Tbs]
theorem RTt.weak {K:PySem.W.Frag} {H:Hp} {F F' : Addr->Prop} {es:List DictEntry} {l:List (NestedKey×T)} (r:RTt K H F es l) (w : ∀ a,F' a->F a):RTt K H F' es l :=
 Paired.mapP r fun _ _ z=>⟨z.1,z.2.1,let ⟨b,e,y⟩:=z.2.2.1;⟨b,e,y.weak w⟩,let ⟨v,e,y⟩:=z.2.2.2;⟨v,e,y.weak w⟩⟩
variable [Bas] {wk:Bool}
end DL
namespace DL
open PySem PySem.Spec L2
open PyProof.Rows hiding St
theorem X5 {K:PySem.W.Frag} {C:Addr} (h:Yr K C=true):Cls K C:=by
 unfold Yr at h
 obtain ⟨h1,h⟩:=ba2 h
 obtain ⟨h2,h⟩:=ba2 h
 obtain ⟨h3,h4⟩:=ba2 h
 exact ⟨h1,h2,h3,of_decide_eq_true h4⟩
theorem Ah {K:PySem.W.Frag} {C:Addr} {f:Str} (h:Dt K C f=true):NoAttr K C f:=by
 unfold Dt eqS at h
 have:=of_decide_eq_true h
 exact this
theorem wX {K:PySem.W.Frag} {C f:Addr} {m:Str} (h:KQ K C m f=true):Meth K C m f:=by
 unfold KQ at h
 obtain ⟨h1,h⟩:=ba2 h
 obtain ⟨h2,h3⟩:=ba2 h
 exact ⟨of_decide_eq_true h1,h2,h3⟩
def FnS (P:Program) (w:World) (K:PySem.W.Frag) (mg:Str->Option Value) (base:Heap) (CX:CXT) (k:Nat) (f:Addr) (sp:Sp):Prop :=
 ∀ (A:Around) (outer:List Env) (s:Shared) (H:Hp) (us:List Value) (vs:List V) (Q:VK) (E:XK),Rm k A->Env0 P w K mg base A outer s H->Vals vs us->sp vs H Q E ->
  codeAny (model P w) A (.call (.ref f) ⟨us, []⟩) (CR CX outer P w H s Q E) s
section
variable {P:Program} {w:World} {K:PySem.W.Frag} {mg:Str->Option Value} {base:Heap} {x qual:Str} {params:Arguments} {body:List Stmt} {scope:Scope} {f:Addr} {fd:FuncData} {CX:CXT} {k:Nat} {sp:Sp} {N:List Str} {pv:Str}
theorem FnS.mono {j:Nat} (F:FnS P w K mg base CX j f sp) (h:j≤k):FnS P w K mg base CX k f sp:=fun A outer s H us vs Q E hr=>F A outer s H us vs Q E (hr.mono h)
theorem FnS.imp {sp' : Sp} (F:FnS P w K mg base CX k f sp) (h : ∀ vs H Q E,sp' vs H Q E->sp vs H Q E):FnS P w K mg base CX k f sp':=fun A outer s H us vs Q E hr e0 r hs=>F A outer s H us vs Q E hr e0 r (h _ _ _ _ hs)
variable [Tbs]
end
end DL
namespace DL
open PySem PySem.Spec L2 PySem.W
open Sem (wp)
open PyProof.Rows hiding St
end DL
namespace DL
open PySem PySem.Spec L2
open PyProof.Rows hiding St
section
variable {P:Program} {w:World} {A:Around} {E:Value->Shared->Prop} {s:Shared} {a:Addr} {L:List Row} {es:Array (Int×Value)} {ep:Nat} {t:SetTable}
structure YX (P:Program) (w:World) (h:Heap) (a:Addr) (L:List Row) (es:Array (Int×Value)) (ep:Nat) (t:SetTable):Prop where
 ob : ∃ o,h.get? a=some o∧o.ExactSet∧o.data = .set es ep t
 rows:es.toList=L.map (hRow w)
 tab:Yw t (L.map fun p=>p.2.hash w)
 nd:(L.map (·.2)).Nodup
 tup : ∀ p∈L,IsN h p.2 p.1
 room:L.length * 5<t.mask * 3
 few:L.length<300
theorem YX.size (R:YX P w s.heap a L es ep t):es.size=L.length:=by
 rw [← Array.length_toList,R.rows,List.length_map]
theorem YX.place (R:YX P w s.heap a L es ep t):t.place.toList.length=L.length:=by
 have:=R.tab.sz
 rw [List.length_map] at this
 rw [Array.length_toList,this]
theorem YX.fits (R:YX P w s.heap a L es ep t):t.fits es.size=true:=by
 have h1:=R.place
 rw [Array.length_toList] at h1
 have h2:=R.size
 have h3:=R.room
 unfold SetTable.fits SetTable.fill
 rw [R.tab.dm,Bool.and_eq_true,beq_iff_eq,decide_eq_true_eq]
 show t.place.size=es.size∧t.place.size+0≤t.mask
 omega
theorem YX.typeIs (R:YX P w s.heap a L es ep t):s.TypeIs (.ref a) "set" := let ⟨o,ho,hx,_⟩:=R.ob;⟨o,ho,hx.1⟩
theorem Ur.typeIs (R:Ur P w s.heap a L es ep t):s.TypeIs (.ref a) "set" := let ⟨o,ho,hx,_⟩:=R.ob;⟨o,ho,hx.1⟩
end
variable [Tbs] [Bas] {wk wk1:Bool}
def RSt (K:PySem.W.Frag) (H:Hp) (F:Addr->Prop) (L:List Row) (ks:List NestedKey):Prop:=(L.map (·.2)).Nodup∧(∀ k,k∈L.map (·.2)↔k∈ks) ∧ ∀ q∈L,RP K H F (.ref q.1) q.2.data∧TupK q.2
theorem RSt.ext {K:PySem.W.Frag} {H H' : Hp} {F F' : Addr->Prop} (x:Ext H F H' F') {L:List Row} {ks:List NestedKey} (r:RSt K H F L ks):RSt K H' F' L ks:=⟨r.1,r.2.1,fun q m=>⟨(r.2.2 q m).1.ext x,(r.2.2 q m).2⟩⟩
theorem RSt.weak {K:PySem.W.Frag} {H:Hp} {F F' : Addr->Prop} {L:List Row} {ks:List NestedKey} (r:RSt K H F L ks) (w : ∀ a,F' a->F a):RSt K H F' L ks:=⟨r.1,r.2.1,fun q m=>⟨(r.2.2 q m).1.weak w,(r.2.2 q m).2⟩⟩
end DL
namespace DL
open PySem PySem.Spec L2
open PyProof.Rows hiding St
variable [Tbs] [Bas]
section
variable {K:PySem.W.Frag} {σ : St} {H H' : Hp} {F F' : Addr->Prop} {fp:Nat->List Addr} {ρ : aM} {v:V} {G:List Addr} {j:Nat} {ls:List (List T)}
theorem RLL.len : ∀ {us:List V} {ls:List (List T)} {bs:List Addr},RLL K H F us ls bs->us.length=ls.length
 | _,_,_, .nil=>rfl
 | _,_,_, .cons _ _ r=>by rw [List.length_cons,List.length_cons,r.len]
end
end DL
namespace DL
open PySem PySem.Spec L2
open PyProof.Rows hiding St
theorem Rm.in1 {k:Nat} {A:Around} (r:Rm (k+1) A):Rm k A.in1:=⟨r.room.in1,r.gd⟩
section
variable {X:Cx} {CX:CXT} {k:Nat} {f C p g a dx:Addr} {fd:FuncData} {ps:List Str} {sp:Sp} {E:L2.St->XK} {m x:Str} {pos apos px:Pos} {o e b:Expr} {ta tb:TE} {fs:List (Str×V)}
theorem X6 (he:PE X e ta) (c:Cls X.K C) (hp:PropOf X.K C m p g) (F:FnG X.prog X.w X.K X.mg X.base CX0 k g fd ps sp) (hr:Rm (k+1) X.A) (hb:Binds X.K fd ps [])
  (hab:attributeBase e m X.env (eval e X.env)=eval e X.env:=by rfl) :
  PE X (.Attribute e m pos) (fun σ H Q=>ta σ H fun x H1=>(∃ a dx fs,x = .ref a∧H1 a=some (.ins C dx fs))∧sp [x] H1 Q C8.E0):=by
 refine ⟨fun pins s σ H Q I h => ?_⟩
 refine attr_of hab (thn (he.run pins s σ H _ I h) fun u s1 ⟨x,H1,I1,rx,⟨a,dx,fs,ex,ea⟩,q⟩ => ?_)
 subst ex
 obtain rfl:u=Value.ref a:=rx
 obtain ⟨mA,O,_,_,_,_⟩:=ins_get I1.hok ea
 obtain ⟨od,J,_⟩:=O.look
 obtain ⟨rest,hrec⟩:=hp.rec_
 have I2:=I1.tok (s1.toks+1)
 have hl:([Value.ref a]).length=ps.length:=F.len _ _ _ _ q
 have hb':=hb { s1 with toks:=s1.toks+1 } [.ref a] I2.kIn (by rw [List.append_nil];exact hl)
 rw [List.append_nil] at hb'
 have hc:(PySem.W.clsIn X.K C).isSome=true:=by
  obtain ⟨cd,hc,_⟩:=PySem.W.any_some c.hd
  rw [hc]
  rfl
 refine PySem.W.get_bind I1.kIn J (PySem.W.plainGet_of (c.get m)).1 (PySem.W.findObj_data hc hp.at_ hp.get hp.tak) (PySem.W.plainGet_of (c.get m)).2 (wpAny_call (PySem.W.prop_get (s := { s1 with toks:=s1.toks+1 }) I1.kIn hrec ?_))
 refine codeAny_mono (F.run X.A.in1 X.stack { s1 with toks:=s1.toks+1 } H1 ⟨[.ref a], []⟩ [.ref a] [.ref a] Q C8.E0 hr.in1 I2.env0.in1 hb' (.cons rfl .nil) q) fun r s' hq => ?_
 cases r with
 | error er=>exact False.elim hq
 | ok fl =>
  cases fl with
  | ret u =>
   obtain ⟨v,H',I3,rv,q3⟩:=I2.after hq
   show wpAny _ _ (handedOut u) _ _ _
   rw [PySem.W.handedOut_of (handed_of rv)]
   exact wpAny_pure ⟨v,H',I3,rv,q3⟩
  | next=>exact False.elim hq
  | brk=>exact False.elim hq
  | cont=>exact False.elim hq
def rLenI (C:Addr) (sp:Sp) (E:XK):List V->Hp->VK->Prop:=fun xs H Q => ∃ a dx fs,xs=[V.ref a]∧H a=some (.ins C dx fs)∧sp [.ref a] H (fun z H'=>(∃ i:Int,z = .int i∧(0≤i∧i<2 ^ 63))∧Q z H') E
theorem Uv (c:Cls X.K C) (hs:PySem.W.findIn X.K (.ref C) "__len__" = some (some (.ref g))) (hf:PySem.W.isFn X.K (.ref g)=true) (F:FnG X.prog X.w X.K X.mg X.base CX0 k g fd ps sp) (hr:Rm (k+1) X.A) (hb:Binds X.K fd ps []):CallR X (.builtin "len") (rLenI C sp C8.E0):=by
 intro pins s σ H xs us Q I r h
 obtain ⟨a,dx,fs,rfl,ha,q⟩:=h
 obtain ⟨u,rfl,ru⟩:=r.one
 cases (show u=Value.ref a from ru)
 obtain ⟨mA,O,_,_,_,_⟩:=ins_get I.hok ha
 obtain ⟨od,J,_⟩:=O.look
 obtain ⟨mm,hF⟩:=I.fr
 refine PySem.W.len_K hF I.ok.mod.kin J hs hf ?_
 have hl:([Value.ref a]).length=ps.length:=F.len _ _ _ _ q
 have hb':=hb s [.ref a] I.kIn (by rw [List.append_nil];exact hl)
 rw [List.append_nil] at hb'
 refine wpAny_call (codeAny_mono (F.run X.A.in1 X.stack s H ⟨[.ref a], []⟩ [.ref a] [.ref a] _ _ hr.in1 I.env0.in1 hb' (.cons rfl .nil) q) fun r s' hq => ?_)
 cases r with
 | error er=>exact pass0 pins σ H s er s' I hq
 | ok fl =>
  cases fl with
  | ret u =>
   obtain ⟨v,H',I3,rv,⟨i,rfl,hi⟩,q3⟩:=I.after hq
   obtain ⟨t,rfl⟩:=(show ∃ t,u=Value.int i t from rv)
   exact ⟨hi, .int i,H',I3.tok _,⟨_,rfl⟩,q3⟩
  | next=>exact False.elim hq
  | brk=>exact False.elim hq
  | cont=>exact False.elim hq
end
section
variable [Tbs] [Bas]
def S7 (c m:Str) (spec:bU) (t:XT):XT:=aV [true] spec (aD (Gk c m t) aH)
def JZ (c:Str) (spec:bU) (t:XT):XT:=fun ρ Q=>aV [true] spec (aD (Gk c "__len__" t) aH) ρ fun p ρ'=>(∃ o,p = .val o ∧ ∃ i:Int,o = .pure (.int i)∧(0≤i∧i<2 ^ 63))∧Q p ρ'
section
variable {X:Cx} {k:Nat} {g p:Addr} {fd:FuncData} {ps:List Str} {c c' m x:Str} {pos apos px:Pos} {o e b:Expr} {t ta tb:XT} {spec:bU}
theorem Ja (hc:Cls X.K (Tbs.cad c)) (hp:PropOf X.K (Tbs.cad c) m p g) (F:FnG X.prog X.w X.K X.mg X.base CX0 k g fd ps (ASp X.K [true] spec)) (hr:Rm (k+1) X.A) (hb:Binds X.K fd ps []) (h0:EX X o t)
  (hab:attributeBase o m X.env (eval o X.env)=eval o X.env:=by rfl):EX X (.Attribute o m pos) (S7 c m spec t):=by
 refine ⟨PE.imp (X6 h0.pe hc hp F hr hb hab) fun σ H Q h => ?_⟩
 have h1:=yr (n:=1) (E:=C8.E0) h
 unfold tCall at h1
 simp only [List.append_nil] at h1
 exact (CJ (yC h1)).imp2 fun v H' q=>⟨let ⟨a,dx,fs,e,ha,_⟩:=q.1;⟨a,dx,fs,e,ha⟩,QW q.2⟩
theorem LX.post {K:PySem.W.Frag} {σ : L2.St} {H:Hp} {t:XT} {Pa:O->Prop} {P:V->Prop} {Q:VK} (hP : ∀ v o H F A,Pa o->RO K H F v o A->P v) (h:LX K (fun ρ Qa=>t ρ fun p ρ'=>(∃ o,p = .val o∧Pa o)∧Qa p ρ') σ H Q):LX K t σ H fun z H'=>P z∧Q z H':=by
 obtain ⟨ρ,fp,G,Qa,R,h,fin⟩:=h
 refine ⟨ρ,fp,G,_,R,h,fun v p A H1 ρ1 fp1 R1 r1 x1 h1 => ?_⟩
 obtain ⟨⟨o,rfl,hp⟩,q⟩:=h1
 exact ⟨hP v o _ _ _ hp r1.1,fin v (.val o) A H1 ρ1 fp1 R1 r1 x1 q⟩
theorem Zo (hc:Cls X.K (Tbs.cad c)) (hs:PySem.W.findIn X.K (.ref (Tbs.cad c)) "__len__" = some (some (.ref g))) (hf:PySem.W.isFn X.K (.ref g)=true) (F:FnG X.prog X.w X.K X.mg X.base CX0 k g fd ps (ASp X.K [true] spec)) (hr:Rm (k+1) X.A) (hb:Binds X.K fd ps [])
  (hg:Gl X x) (hm:X.mg x=none) (hv:bootBuiltins x=some (.builtin "len")) (h0:EX X o t) (hn:x ≠ "__name__" := by decide) (hdb:(x == ("__debug__" : Str))=false:=by decide)
  (he:starEach [o] X.env=(false,eval o X.env) :: starEach [] X.env:=by rfl) (hpl:(backTo pos (starEach [] X.env)).any (·.1)=false:=by rfl):EX X (.Call (.Name x px) [o] [] pos) (JZ c spec t):=by
 refine ⟨PE.imp (pe_callB (Uv hc hs hf F hr hb) hg hm hv (pa_cons h0.pe pa_nil he) hn hdb he hpl) fun σ H Q h => ?_⟩
 have h2:LX X.K (aV [true] spec (aD (Gk c "__len__" t) aH)) σ H fun z H'=>(∃ i:Int,z = .int i∧(0≤i∧i<2 ^ 63))∧Q z H' :=
  LX.post (Pa:=fun o => ∃ i:Int,o = .pure (.int i)∧(0≤i∧i<2 ^ 63)) (fun v o H F A hp r=>by
   obtain ⟨i,rfl,hi⟩:=hp
   obtain ⟨_,r⟩:=r
   exact ⟨i,RP.intE r,hi⟩) h
 have h1:=yr (n:=1) (E:=C8.E0) h2
 unfold tCall at h1
 simp only [List.append_nil] at h1
 refine (CJ (yC h1)).imp2 fun v H' q => ?_
 obtain ⟨⟨a,dx,fs,rfl,ha,_⟩,q2⟩:=q
 exact ⟨a,dx,fs,rfl,ha,QW q2⟩
end
section
variable {K:PySem.W.Frag} {H:Hp} {F:Addr->Prop}
theorem RIn.setV {f:Str} {v:V} {t t0:T} (h:RP K H F v t) : ∀ {vs:List (Str×V)} {fs:List (Str×Fl)} {A:List Addr},RIn K H F vs fs A -> ∀ {n:Nat},fs[n]? = some (f, .val t0)->RIn K H F (putF f v vs) (fs.set n (f, .val t)) A
 | _,_,_, .nil,_,e=>by simp at e
 | _,_,_, .cons (A:=A) (B:=B) h1 n0 r,0,e=>by
  rw [List.getElem?_cons_zero] at e
  cases e
  obtain ⟨rfl,_⟩:=h1
  rw [List.set_cons_zero]
  unfold putF
  rw [if_pos rfl]
  exact .cons ⟨rfl,h⟩ n0 r
 | _,_,_, .cons (f:=g) (A:=A) (B:=B) h1 n0 r,n+1,e=>by
  rw [List.getElem?_cons_succ] at e
  rw [List.set_cons_succ]
  have ne:g≠f:=fun z=>n0 _ (List.mem_of_getElem? e) z.symm
  unfold putF
  rw [if_neg ne]
  exact .cons h1 (YT e n0) (RIn.setV h r e)
end
def KN (i:Nat) (c f:Str) (n:Nat) (te:XT):ST:=fun D ρ=>te ρ fun p ρ1=>fV p ρ1 fun y ρ2=>fldS c f n (fun fs=>D.nx (ρ2.set i (some (.ins c (fs.set n (f, .val y)))))) ρ2[i]?
where fldS (c f:Str) (n:Nat) (P:List (Str×Fl)->Prop):Option (Option O)->Prop
 | some (some (.ins c' fs))=>c'=c∧(∃ t0,fs[n]? = some (f, .val t0))∧fs.length<1000∧P fs
 | _=>False
theorem Zq {c f:Str} {n i:Nat} {ρ : aM} {P:List (Str×Fl)->Prop} (h:KN.fldS c f n P ρ[i]?) : ∃ fs t0,ρ[i]? = some (some (.ins c fs))∧fs[n]? = some (f, .val t0)∧fs.length<1000∧P fs:=by
 unfold KN.fldS at h
 split at h
 ·rename_i c' fs e
  obtain ⟨rfl,⟨t0,h1⟩,h2,h3⟩:=h
  exact ⟨fs,t0,e,h1,h2,h3⟩
 ·exact h.elim
section
variable {X:Cx} {c f x:Str} {n:Nat} {e:Expr} {te:XT} {px spos pos:Pos} {P:Nat->Bool}
theorem aB6 (i:Nat) (hc:Cls X.K (Tbs.cad c)) (hn:NoAttr X.K (Tbs.cad c) f) (he:EX X e te) (hN:X.N[i]? = some x:=by rfl)
  (hv:Vis X.env.scope x:=by first | exact Or.inl rfl | exact Or.inr (Or.inl rfl) | exact Or.inr (Or.inr rfl)) (hd:(x == ("__debug__" : Str))=false:=by decide) (hcd:(x == ("__classdict__" : Str))=false:=by decide)
  (hs:swapsWith e (some (.Attribute (.Name x px) f spos)) pos.line X.env=pure false:=by rfl) :
  SX X P (.Assign [.Attribute (.Name x px) f spos] e pos) (KN i c f n te):=by
 refine ⟨PS.imp (ps_fld (pe_var (i:=i) hN hv hd hcd) he.pe hs) ?_⟩
 rintro D σ H ⟨ρ,fp,G,Da,R,h,fin⟩
 refine ⟨ρ,fp,G,_,R,h,fun v p A H1 ρ1 fp1 R1 r1 x1 h1 => ?_⟩
 obtain ⟨y,ρ2,fp2,R2,r2,i2,h2⟩:=jR R1 r1 h1
 obtain ⟨fs,t0,e0,en,lf,h3⟩:=Zq h2
 obtain ⟨v',hv',a,dx,vs,B,rfl,eA,ha,rn⟩:=R2.ex i _ e0
 have x2:Ext H (Fo fp) H1 (Fo fp2):=x1.or.weak (fun _ z=>z) i2
 refine ⟨.ref a,hv',a,_,dx,vs,rfl,ha,hc,hn,by rw [rn.len];exact lf, ?_⟩
 have ma:a∈fp2 i:=by rw [eA];exact List.mem_cons_self
 have ndf:=R2.nd i
 rw [eA] at ndf
 have ux:Ext H1 (Fo fp2) (upd H1 a (.ins (Tbs.cad c) dx (putF f v vs))) (Fo fp2):=fW ha trivial ⟨i,ma⟩ fun _ z=>z
 have rn' : RIn X.K (upd H1 a (.ins (Tbs.cad c) dx (putF f v vs))) (Or1 (Fo fp2) G) vs fs B:=rn.imp (fun _ _ z=>RP.ext z (ux.addG G)) (fun _ _ z=>RDz.ext z (ux.addG G)) fun b m w e _=>by
  rw [upd_ne]
  ·exact e
  ·rintro rfl
   exact (List.nodup_cons.mp ndf).1 m
 have rn2:=RIn.setV (RP.ext r2 (ux.addG G)) rn' en
 obtain ⟨R4,x4⟩:=R2.mutG (u' := .ins (Tbs.cad c) dx (putF f v vs)) (o' := .ins c (fs.set n (f, .val y))) e0 hv' ma ha trivial ⟨a,dx,_,B,rfl,eA,upd_same,rn2⟩
 exact fin.nx σ _ _ fp2 R4 (x2.trans x4) .refl h3
end
end
theorem pFun {K:PySem.W.Frag} {d:He.DefD} (e:pfW K d.at_=d.val) (c:pOk K d=true) : ∃ fd,FunD K d.name d.qual d.params d.body d.scope (d.dvs K) (d.kws K) (pAd K d.at_) fd:=by
 obtain ⟨h1,h2⟩:=ba2 c
 unfold pfW at e
 split at e
 ·rename_i oc od fd osl lk
  rw [lk] at h2
  obtain ⟨a1,a2,a3,a4,a5,a6,a7,a8,a9,a10,a11,a12,a13,a14,a15⟩:=fd
  obtain ⟨k1,h2⟩:=ba2 h2
  obtain ⟨k2,k3⟩:=ba2 h2
  have e:(some (a1,a2,a3,a4,a5,a6,a7,a15):He.FnW)=d.val:=e
  unfold He.DefD.val at e
  simp only [Option.some.injEq,Prod.mk.injEq] at e
  obtain ⟨rfl,rfl,rfl,rfl,rfl,rfl,rfl,rfl⟩:=e
  exact ⟨_,⟨oc,od,a8,a9,a10,a11,a12,a13,a14,osl,rfl,lk,k1,He.dflB_ok k2,He.kwdB_ok k3⟩,h1⟩
 ·cases e
theorem Ys.def_ {pf:List He.DefD} {K:PySem.W.Frag} (c:Ys pf K) (i:Nat) {d:He.DefD} (h:pf[i]? = some d:=by rfl) : ∃ fd,FunD K d.name d.qual d.params d.body d.scope (d.dvs K) (d.kws K) (pAd K d.at_) fd:=by
 have e:=congrArg (fun l:List He.FnW=>l[i]?) c.2
 simp only [List.getElem?_map,h,Option.map_some,Option.some.injEq] at e
 exact pFun e (List.all_eq_true.mp c.1 d (List.mem_of_getElem? h))
section
open He
end
theorem Dm {K:PySem.W.Frag} {C p g:Addr} {m:Str} (h:Qz K C m p g=true):PropOf K C m p g:=by
 unfold Qz at h
 obtain ⟨h1,h⟩:=ba2 h
 obtain ⟨h2,h⟩:=ba2 h
 obtain ⟨h3,h4⟩:=ba2 h
 refine ⟨of_decide_eq_true h1,of_decide_eq_true h2,of_decide_eq_true h3, ?_⟩
 split at h4
 ·rename_i z rest q
  exact ⟨rest,by rw [q,of_decide_eq_true h4]⟩
 ·cases h4
end DL
namespace DL
open PySem PySem.Spec L2 LamX
open PyProof.Rows hiding St
def FP (X:Cx) (scope:Scope) (s:Shared) (H:Hp):Prop := ∀ y c,(cloFrom X.env.cells scope.names []).lookup y=some c->H c=none ∧ ∃ w,s.heap.IsCell c w
theorem QX {X:Cx} {A:Around} {outer:List Env} {s:Shared} {H:Hp} {E:XK} {scope:Scope} {f c' : Addr} {pins:List (Addr×Obj)} {σ : L2.St} {H1:Hp} {s1:Shared} {j:Nat} {x:Str} {v:V} (hc:FP X scope s H) (I:Inv (lamCx X A outer s H E scope f c') pins σ H1 s1) (hN:X.N[j]? = some x) (hy:scope.names.lookup x=some .free) (e : σ[j]? = some (some v)) :
  ∃ c w u,(cloFrom X.env.cells scope.names []).lookup x=some c∧s.heap.IsCell c w∧RelV v u∧w=some u:=by
 obtain ⟨m,hn,hl⟩:=I.loc
 obtain ⟨u,r,q⟩:=hl j x v hN e (.inr (.inr hy))
 rcases q with ⟨k,_⟩ | ⟨_,c,hcx,z⟩
 ·have k:scope.names.lookup x=some .local:=k
  rw [hy] at k;cases k
 ·have hcx:(cloFrom X.env.cells scope.names []).lookup x=some c:=hcx
  obtain ⟨n,w,o,ho,hd⟩:=hc x c hcx
  obtain ⟨sl,q⟩:=I.base.any ho n (by show c∉([]:List Addr);simp)
  obtain ⟨o2,ho2,hd2⟩:=z
  rw [q] at ho2
  cases ho2
  have hd2:o.data = .cell (some u):=hd2
  rw [hd] at hd2
  injection hd2 with hd2
  exact ⟨c,w,u,hcx,⟨o,ho,hd⟩,r,hd2⟩
theorem X7 {X:Cx} {A:Around} {outer:List Env} {s:Shared} {H:Hp} {E:XK} {scope:Scope} {f c' : Addr} {pins pins' : List (Addr×Obj)} {σ σ' : L2.St} {H1 H2:Hp} {s1 s2:Shared} {j:Nat} {x:Str} {a a' : Addr} (hc:FP X scope s H) (I:Inv (lamCx X A outer s H E scope f c') pins σ H1 s1) (I' : Inv (lamCx X A outer s H E scope f c') pins' σ' H2 s2)
  (hN:X.N[j]? = some x) (hy:scope.names.lookup x=some .free) (e : σ[j]? = some (some (.ref a))) (e' : σ'[j]? = some (some (.ref a'))):a'=a:=by
 obtain ⟨c1,w1,u1,l1,⟨o1,ho1,hd1⟩,r1,q1⟩:=QX hc I hN hy e
 obtain ⟨c2,w2,u2,l2,⟨o2,ho2,hd2⟩,r2,q2⟩:=QX hc I' hN hy e'
 rw [l1] at l2
 cases l2
 rw [ho1] at ho2
 cases ho2
 rw [hd1,q1,q2] at hd2
 injection hd2 with hd2
 injection hd2 with hd2
 have r1:u1=Value.ref a:=r1
 have r2:u2=Value.ref a':=r2
 rw [r1,r2] at hd2
 injection hd2 with hd2
 exact hd2.symm
theorem Takes.inv {X:Cx} {W W' : L2.WX} (t:Takes X W) (h : ∀ c d σ H pins s,Inv X pins σ H s->W' c d σ H->W c d σ H):Takes X W':=fun u s' ⟨a,B,sI,pins,σ,H,cls,d,e,I,nb,up,sky,na,os,ag,w⟩ =>
 t u s' ⟨a,B,sI,pins,σ,H,cls,d,e,I,nb,up,sky,na,os,ag,h _ _ _ _ _ _ I w⟩
section
variable {X:Cx} {pins:List (Addr×Obj)} {σ : L2.St} {H:Hp} {s:Shared}
theorem X8 {CXg:CXT} {Eg:XK} {Ng:List Str} {qg:Str} {sg:Scope} {g f c' : Addr} {cdg pm ctv:Value} {params:Arguments} {body:Expr} {scope:Scope} {k i:Nat} {a:Str} {pn:List (Addr×Obj)} {xe:Value->Shared->Prop} {E:XK} {tb:TE} {p1 p2:Pos}
  (I:Inv X pins σ H s) (L:LamS X.env.scope scope) (hf:s.heap.get? f=some (PySem.W.kla_obj "<lambda>" (X.env.qual ++ "<lambda>") params body scope (cloFrom X.env.cells scope.names []) pm c' ctv)) (hfn:H f=none) (hfr:f∉frs X.stack)
  (hbind:bindArgs (PySem.W.kla_fn "<lambda>" (X.env.qual ++ "<lambda>") params body scope (cloFrom X.env.cells scope.names []) pm (.ref c') ctv) ⟨[], []⟩=pure [])
  (hr:Rm (k+1) (X.A.deeper (envOfC qg sg s.heap.objs.size g cdg)))
  (hbody : ∀ (A:Around) (outer:List Env) (s:Shared) (H:Hp),FP X scope s H->Rm k (A.deeper (lamEnv X scope s.heap.objs.size f c'))->PE (lamCx X A outer s H E scope f c') body tb)
  (hN:Ng[i]? = some a) (hv:Vis sg a) {pinsZ:List (Addr×Obj)} {sZ:Shared} {σZ:L2.St} {HZ:Hp} {Q:VK} (IZ:Inv ((cxOf CXg X.prog X.w X.K X.mg X.base Ng qg sg g cdg X.A X.stack s H Eg).tr pn xe) pinsZ σZ HZ sZ)
  (hx:PassesAt (L2.CX X.prog X.w) ((cxOf CXg X.prog X.w X.K X.mg X.base Ng qg sg g cdg X.A X.stack s H Eg).tr pn xe) σZ E) (hs : σZ[i]? = some (some (.ref f))) (hc:HZ c'=some (CodeO c' (X.env.qual ++ "<lambda>"))) (ht:tb σ HZ Q)
  (hd:(a == ("__debug__" : Str))=false:=by decide) (hcd:(a == ("__classdict__" : Str))=false:=by decide) :
  wpAny (model X.prog X.w) ((cxOf CXg X.prog X.w X.K X.mg X.base Ng qg sg g cdg X.A X.stack s H Eg).tr pn xe).A (eval (.Call (.Name a p1) [] [] p2) ((cxOf CXg X.prog X.w X.K X.mg X.base Ng qg sg g cdg X.A X.stack s H Eg).tr pn xe).env) (EP ((cxOf CXg X.prog X.w X.K X.mg X.base Ng qg sg g cdg X.A X.stack s H Eg).tr pn xe) pinsZ σZ Q) ((cxOf CXg X.prog X.w X.K X.mg X.base Ng qg sg g cdg X.A X.stack s H Eg).tr pn xe).xe sZ:=by
 refine wpAny_Call_Name_kw (thn ((pe_var (pos:=p1) (i:=i) hN hv hd hcd).run pinsZ sZ σZ HZ (fun v H1=>v = .ref f∧H1=HZ) IZ ⟨.ref f,hs,rfl,rfl⟩) fun u s1 ⟨v,H1,I1,r1,q1⟩ => ?_)
 obtain ⟨rfl,eH⟩:=q1
 rw [eH] at I1
 obtain rfl:u=Value.ref f:=r1
 have of1:=I1.base.keep f _ hf hfn hfr (fun z=>nomatch (show f∈([]:List Addr) from z))
 refine PySem.W.callWith_F0 ⟨_,_,_,_,of1⟩ ?_
 have un:Un (frs X.stack) [] H HZ s.heap s1.heap:=I1.base
 obtain ⟨⟨oc,vs,t,hoc,hdc,hvc⟩,_,_⟩:=I1.hok c' _ hc
 have cellsK:FP X scope s1 HZ:=fun y c e=>by
  have cm:X.env.cells.lookup y=some c:=by
   rcases cloFrom_mem (PySem.mem_of_lookup e) with hm | ⟨h1,h2⟩
   ·cases hm
   ·obtain ⟨c1,hc⟩:=(L.has I.ok) _ h1 rfl
    have hc:X.env.cells.lookup y=some c1:=hc
    have e2:c=c1:=by
     rw [h2,hc]<;>rfl
    rw [e2];exact hc
  obtain ⟨v,o,ho,hd⟩:=I.cell y c cm
  have n:=I.freeC y c cm
  obtain ⟨sl,q⟩:=un.any ho n (by simp)
  exact ⟨un.free c o ho n (by simp),v,_,q,hd⟩
 have rc:codeAny (model X.prog X.w) (X.A.deeper (envOfC qg sg s.heap.objs.size g cdg)) (.call (.ref f) ⟨[], []⟩) (CR (L2.CX X.prog X.w) (envOfC qg sg s.heap.objs.size g cdg :: X.stack) X.prog X.w HZ s1 Q E) s1:=by
  refine PySem.W.kla_callFunE hr.room.depth of1 rfl L.co L.gen rfl ⟨c',oc,vs,t,rfl,hoc,hdc,hvc⟩ ?_
  rw [hbind]
  refine wpAny_pure (wpAny_newFunctionEnv (fun y hy=>(L.own y hy).2) (fun y hy=>absurd hy (by simp)) (fun h₁ hns hsb=>⟨I1.nolimit.fresh _ hsb, ?_⟩) L.kind)
  show codeAny _ _ (.expr body (lamEnv X scope s1.heap.objs.size f c')) _ _
  have kp : ∀ b o,s1.heap.get? b=some o->h₁.get? b=some o:=fun b o e=>hsb.extBut b o (Nat.ne_of_lt (Heap.lt_size e)) (Heap.get?_push_of_some _ e)
  have J:Inv (lamCx X (X.A.deeper (envOfC qg sg s.heap.objs.size g cdg)) (envOfC qg sg s.heap.objs.size g cdg :: X.stack) s1 HZ E scope f c') [] σ HZ { s1 with heap:=h₁,toks:=s1.toks+([]:List (Str×Value)).length } :=
   lam_start2 I L I1.env0 hr.room.hd un hns kp
  refine PySem.W.kla_codeExpr (wpAny_mono ((hbody _ _ s1 HZ cellsK (hr.deeper _)).run [] _ _ HZ Q J ht) (fun v s' hq => ?_) fun e s' hq=>hq)
  obtain ⟨w',H',J',rv,q⟩:=hq
  exact ⟨w',H',J'.os,J'.bare,J'.base,J'.hok,rv,q⟩
 refine wpAny_call (codeAny_mono rc fun r s' hq => ?_)
 cases r with
 | error e=>exact hx pinsZ HZ s1 e s' I1 hq
 | ok fl =>
  cases fl with
  | ret u=>exact I1.after hq
  | next=>exact False.elim hq
  | brk=>exact False.elim hq
  | cont=>exact False.elim hq
end
abbrev TkI:=List (Str×Fl)->(List (Str×Fl)->O->Prop)->(List (Str×Fl)->Exc->Prop)->Prop
def XC (k:Thk) (j:Nat) (c:Str) (spec:TkI) (Ea:Exc->aM->Prop):XT:=fun ρ Q => ∃ fs,ρ[0]? = some (some (.thi k j c fs))∧spec fs (fun fs' o=>Q (.val o) (ρ.set 0 (some (.thi k j c fs')))) fun fs' e=>Ea e (ρ.set 0 (some (.thi k j c fs')))
def wY (tb:(Exc->aM->Prop)->XT) (ts:List (Option T)) (j:Nat) (c:Str):TkI:=fun fs Qa Ea =>
 tb (fun e ρ' => ∃ fs',ρ'=(vwE ts).set j (some (.ins c fs'))∧Ea fs' e) ((vwE ts).set j (some (.ins c fs))) fun p ρ' => ∃ fs',ρ'=(vwE ts).set j (some (.ins c fs')) ∧ ∃ o,p = .val o∧Qa fs' o
def XD (Cg:TkI->List (Str×Fl)->(List (Str×Fl)->O->Prop)->Prop) (j:Nat) (c:Str) (tb:(Exc->aM->Prop)->XT):XT:=fun ρ Q => ∃ fs,ρ[j]? = some (some (.ins c fs))∧Cg (wY tb (vws ρ) j c) fs fun fs' o=>Q (.val o) (ρ.set j (some (.ins c fs')))
def Uw (k:Thk) (j:Nat) (c:Str) (Qa:List (Str×Fl)->O->Prop):qY where
 nx:=fun ρ => ∃ fs,ρ[0]? = some (some (.thi k j c fs))∧Qa fs (.pure .none)
 rt:=fun o ρ => ∃ fs,ρ[0]? = some (some (.thi k j c fs))∧Qa fs o
section
variable [Tbs]
theorem RS0.vwI {K:PySem.W.Frag} {σ : L2.St} {H:Hp} {F:Addr->Prop} {ts:List (Option T)} {A G:List Addr} {j:Nat} {v:V} {o:O} (hl:ts.length=σ.length) (h : ∀ (i:Nat) (t:T),ts[i]? = some (some t) -> ∃ u,σ[i]? = some (some u)∧RP K H F u t)
  (w : ∀ a,a∈A∨a∈G->F a) (gi : ∀ a∈G, ∃ u,H a=some u) (tb:LamX.Tabs Tbs.T H) (tj:ts[j]? = some none) (hv : σ[j]? = some (some v)) (r:RO K H F v o A) (d:A.Nodup) (ag : ∀ a∈A,a∉G) :
  RS0 K σ H ((vwE ts).set j (some o)) (bz (fun _=>[]) j A) G:=by
 letI:Bas:=⟨H,fun _=>False, []⟩
 have fo : ∀ a,Fo (bz (fun _=>[]) j A) a->a∈A:=fun a z=>z.set.elim (fun ⟨_,m⟩=>nomatch m) fun m=>m
 have hj:j<(vwE ts).length:=by
  obtain ⟨q,_⟩:=List.getElem?_eq_some_iff.mp tj
  unfold vwE
  rw [List.length_map];exact q
 have R0:RS0 K σ H (vwE ts) (fun _=>[]) (A++G):=RS0.vw hl h (fun a m=>w a (List.mem_append.mp m)) (fun a m=>(List.mem_append.mp m).elim (fun m=>let ⟨u,e,_⟩:=r.there a m;⟨u,e⟩) (gi a)) tb
 refine ⟨fun i u e => ?_,fun i e => ?_,fun i k a m z => ?_,fun i => ?_,fun a m z=>ag a (fo a z) m,gi,by rw [List.length_set];exact R0.len,tb⟩
 ·rw [aM.get_set] at e
  by_cases q:j=i
  ·subst q
   rw [if_pos rfl,if_pos hj] at e
   cases e
   exact ⟨v,hv,by rw [eX];exact r.weak fun a z=>w a (z.imp (fo a) fun m=>m)⟩
  ·rw [if_neg q] at e
   obtain ⟨x,hx,r'⟩:=R0.ex i u e
   exact ⟨x,hx,by rw [bY fun z=>q z.symm];exact r'.weak fun a z => .inr (List.mem_append.mpr (z.imp (fo a) fun m=>m))⟩
 ·by_cases q:i=j
  ·subst q
   exact absurd (by rw [aM.get_set,if_pos rfl,if_pos hj]) (e o)
  ·rw [bY q]
 ·by_cases q:i=j
  ·by_cases q' : k=j
   ·rw [q,q']
   ·rw [bY q'] at z;cases z
  ·rw [bY q] at m;cases m
 ·by_cases q:i=j
  ·rw [q,eX];exact d
  ·rw [bY q];exact .nil
theorem RS0.vwI_fp {K:PySem.W.Frag} {σ : L2.St} {H:Hp} {ts:List (Option T)} {G:List Addr} {j:Nat} {o:O} {fp:Nat->List Addr} (R:RS0 K σ H ((vwE ts).set j (some o)) fp G) : ∀ a,Fo fp a->a∈fp j:=by
 letI:Bas:=⟨H,fun _=>False, []⟩
 rintro a ⟨i,m⟩
 by_cases q:j=i
 ·rw [q];exact m
 ·exfalso
  by_cases h : ∃ u,((vwE ts).set j (some o))[i]? = some (some u)
  ·obtain ⟨u,e⟩:=h
   obtain ⟨x,_,r⟩:=R.ex i u e
   rw [aM.get_set,if_neg q] at e
   unfold vwE at e
   rw [List.getElem?_map] at e
   cases k:ts[i]? with
   | none=>rw [k] at e;cases e
   | some w =>
    rw [k] at e
    cases w with
    | none=>cases e
    | some t =>
     cases e
     rw [r.1] at m;cases m
  ·rw [R.non i fun o e=>h ⟨o,e⟩] at m;cases m
theorem Qc (B:Bas) {K:PySem.W.Frag} {σZ σ' : L2.St} {HZ H' : Hp} {ρZ:aM} {fpZ fp' : Nat->List Addr} {GZ GL A:List Addr} {v0:V} {kk:Thk} {j:Nat} {c:Str} {fs fs' : List (Str×Fl)}
    (RZ : @RS _ B K σZ HZ ρZ fpZ GZ) (h0 : ρZ[0]? = some (some (.thi kk j c fs))) (hv0 : σZ[0]? = some (some v0)) (hGL : ∀ a,a∈GL↔Fo (bz fpZ 0 []) a∨a∈GZ)
    (R' : RS0 K σ' H' ((vwE kk.ts).set j (some (.ins c fs'))) fp' (A++GL)) (hst : ∀ v',σ'[j]? = some (some v')->kk.st[j]? = some (some v'))
    (x' : Ext HZ (· ∈ fpZ 0) H' (Or1 (Fo fp') A)) (hA : ∀ a∈A, ∃ u,H' a=some u) (hAG : ∀ a∈A,a∉GL) :
    @RS _ B K σZ H' (ρZ.set 0 (some (.thi kk j c fs'))) (bz (bz fpZ 0 []) 0 (fp' j)) (A++GZ)∧Ext HZ (Fo fpZ) H' (Or1 (Fo (bz (bz fpZ 0 []) 0 (fp' j))) A):=by
  obtain ⟨RN,rN⟩ := @RS.move _ B _ _ _ _ _ _ _ _ _ RZ h0 hv0
  obtain ⟨rk,tj,aI,dx,vs,BI,stI,eA,hI,rin⟩:=rN
  have fo':=RS0.vwI_fp R'
  have x3:Ext HZ (· ∈ fpZ 0) H' (· ∈ fp' j++A):=x'.weak (fun a z=>z) fun a m=>(List.mem_append.mp m).elim (fun m => .inl ⟨j,m⟩) .inr
  have R3 := @RS.thru _ B _ _ _ _ _ _ _ _ _ RN x3 (fun a m z=>RZ.gf a m ⟨0,z⟩) (fun a m=>(List.mem_append.mp m).elim (fun m=>let ⟨u,e,_⟩:=R'.there a ⟨j,m⟩;⟨u,e⟩) (hA a)) RZ.g0
  rw [List.append_assoc] at R3
  have fw : ∀ a,Fo (bz (bz fpZ 0 []) 0 (fp' j)) a->Fo (bz fpZ 0 []) a∨a∈fp' j:=fun a z=>z.set
  have wL : ∀ a,Or1 (Fo (bz (bz fpZ 0 []) 0 (fp' j))) (A++GZ) a->Or1 (Or1 (Fo fp') A) GL a:=fun a z=>by
    rcases z with z | z
    · rcases fw a z with z | z
      · exact .inr ((hGL a).mpr (.inl z))
      · exact .inl (.inl ⟨j,z⟩)
    · rcases List.mem_append.mp z with z | z
      · exact .inl (.inr z)
      · exact .inr ((hGL a).mpr (.inr z))
  have rk2:RK K H' (Or1 (Or1 (Fo fp') A) GL) v0 kk:=(rk.weak (F':=Or1 (· ∈ fpZ 0) GL) fun a z=>by
    rcases z with z | z
    · exact .inr (List.mem_append_left _ z)
    · exact ((hGL a).mp z).imp (fun q=>q) (List.mem_append_right _)).ext (x'.addG GL)
  have hj:j<(vwE kk.ts).length:=by
    obtain ⟨q,_⟩:=List.getElem?_eq_some_iff.mp tj
    unfold vwE
    rw [List.length_map];exact q
  obtain ⟨v',hv',r'⟩:=R'.ex j (.ins c fs') (by rw [List.getElem?_set_self hj])
  have r2:RO K H' (Or1 (Fo (bz (bz fpZ 0 []) 0 (fp' j))) (A++GZ)) v' (.ins c fs') (fp' j):=r'.weak fun a z=>(wL a z).elim (fun z=>z.imp (fun q=>q) (List.mem_append_left _)) fun m => .inr (List.mem_append_right _ m)
  obtain ⟨a',dx',vs',B',e',eA',hI',rin'⟩:=r2
  have h0l:0<ρZ.length:=(List.getElem?_eq_some_iff.mp h0).1
  letI:Bas:=B
  have R4:=RS.upd (A:=fp' j) (G:=A++GZ) (j:=0) (v:=v0) (o := .thi kk j c fs') (σ':=σZ) R3 (fun a m z=>by
      rcases List.mem_append.mp z with z | z
      · exact R'.gf a (List.mem_append_left _ z) ⟨j,m⟩
      · exact R'.gf a (List.mem_append_right _ ((hGL a).mpr (.inr z))) ⟨j,m⟩) (R'.nd j) (by rw [List.length_set];exact h0l) (fun i v _ h=>h) hv0 rfl
    ⟨rk2.weak wL,tj,a',dx',vs',B',by rw [hst v' hv',e'],eA',hI',rin'⟩ (fun a z=>List.mem_append_right _ (RZ.g0 a z))
  rw [List.set_set] at R4
  refine ⟨R4,(x'.addP (Fo (bz fpZ 0 []))).weak (fun a z => ?_) fun a z => ?_⟩
  · rcases z with z | z
    · exact z.set.elim (fun q=>q) fun m=>(List.not_mem_nil m).elim
    · exact ⟨0,z⟩
  · rcases z with z | z
    · rcases fw a z with z | z
      · exact .inl z
      · exact .inr (.inl ⟨j,z⟩)
    · exact .inr (.inr z)
def YZ (K:PySem.W.Frag) (tb:(Exc->aM->Prop)->XT) (E:XK) (j:Nat):TE:=fun σ H Q => ∃ (B:Bas) (Ea:Exc->aM->Prop) (a0:Addr),σ[j]? = some (some (.ref a0))∧(∀ cls d σ' H',(∀ a',σ'[j]? = some (some (.ref a'))->a'=a0) -> @WE _ B K Ea cls d σ' H'->E cls d H') ∧ @LX _ B K (tb Ea) σ H Q
theorem Ux {X:Cx} {A:Around} {outer:List Env} {s:Shared} {H:Hp} {E:XK} {scope:Scope} {f c' : Addr} {body:Expr} {tb:(Exc->aM->Prop)->XT} {j:Nat} {x:Str} (hc:FP X scope s H) (hN:X.N[j]? = some x) (hy:scope.names.lookup x=some .free)
  (h : ∀ (B:Bas) (Ea:Exc->aM->Prop),Takes (lamCx X A outer s H E scope f c') (@WE _ B X.K Ea) -> @EX _ B (lamCx X A outer s H E scope f c') body (tb Ea)):PE (lamCx X A outer s H E scope f c') body (YZ X.K tb E j):=by
 refine ⟨fun pins s' σ' H' Q I h' => ?_⟩
 obtain ⟨B,Ea,a0,ea,hW,h'⟩:=h'
 exact (h B Ea (Takes.inv (takes_of (X:=lamCx X A outer s H E scope f c') (E:=E) rfl rfl rfl rfl) fun cls d σ2 H2 pins2 s2 I2 w=>hW cls d σ2 H2 (fun a' e'=>X7 hc I I2 hN hy ea e') w)).pe.run pins s' σ' H' Q I h'
def Qe (P:Program) (w:World) (K:PySem.W.Frag) (mg:Str->Option Value) (base:Heap) (Ng:List Str) (x:Str) (sg:Scope) (a:Str) (bg:List Stmt) (tg:Thk->Nat->Str->TkI->ST):Prop :=
 ∀ (g:Addr) (cdg:Value) (A:Around) (outer:List Env) (s:Shared) (H:Hp) (k:Thk) (j:Nat) (c:Str) (spec:TkI),
  (∀ (B:Bas) (pn:List (Addr×Obj)) (xe:Value->Shared->Prop) (Eb:Exc->aM->Prop) (p1 p2:Pos),Takes ((cxOf C8.CX0 P w K mg base Ng x sg g cdg A outer s H C8.E0).tr pn xe) (@WE _ B K Eb) ->
   @EX _ B ((cxOf C8.CX0 P w K mg base Ng x sg g cdg A outer s H C8.E0).tr pn xe) (.Call (.Name a p1) [] [] p2) (XC k j c spec Eb)) ->
  ∀ B:Bas, @SXs _ B (cxOf C8.CX0 P w K mg base Ng x sg g cdg A outer s H C8.E0).nox (fun _=>false) bg (tg k j c spec)
theorem FQ [B0:Bas] {X:Cx} {Cg:TkI->List (Str×Fl)->(List (Str×Fl)->O->Prop)->Prop} {tb:(Exc->aM->Prop)->XT} {tg:Thk->Nat->Str->TkI->ST} {x a y:Str} {jm:Nat} {cI:Str} {g c P:Addr} {k:Nat} {pg:Arguments} {bg:List Stmt} {sg:Scope} {fd:FuncData} {Ng:List Str}
    {params:Arguments} {body:Expr} {scope:Scope} {p lpos pos:Pos} (hg:Gl X x) (hm:X.mg x=some (.ref g)) (F:FunD X.K x x pg bg sg [] [] g fd) (hb:L2.Binds X.K fd [a] []) (Sg:FnScope Ng [a] sg) (hNg:Ng[0]? = some a) (hva:Vis sg a)
    (GT:Qe X.prog X.w X.K X.mg X.base Ng x sg a bg tg) (rd : ∀ k spec fs Qa,Cg spec fs Qa->tg k jm cI spec (Uw k jm cI Qa) (aK Ng.length [.thi k jm cI fs]))
    (LD:aAn X.base X.mg X.env.code (X.env.qual ++ "<lambda>") c P) (hr:Rm (k+2) X.A) (L:LamS X.env.scope scope) (hdef:defaultsOf params X.env=([], [])) (hNj:X.N[jm]? = some y) (hyf:scope.names.lookup y=some .free)
    (hbind : ∀ (q:Str) (cl:List (Str×Addr)) (pm cv ctv:Value),bindArgs (PySem.W.kla_fn "<lambda>" q params body scope cl pm cv ctv) ⟨[], []⟩=pure [])
    (hbody : ∀ (A:Around) (outer:List Env) (s:Shared) (H:Hp) (E:XK) (f c' : Addr),Rm k (A.deeper (lamEnv X scope s.heap.objs.size f c')) ->
      ∀ (B:Bas) (Ea:Exc->aM->Prop),Takes (lamCx X A outer s H E scope f c') (@WE _ B X.K Ea) -> @EX _ B (lamCx X A outer s H E scope f c') body (tb Ea))
    (hdb:(x == ("__debug__" : Str))=false:=by decide) (hd:(a == ("__debug__" : Str))=false:=by decide) (hcd:(a == ("__classdict__" : Str))=false:=by decide) :
    EX X (.Call (.Name x p) [.Lambda params body scope lpos] [] pos) (XD Cg jm cI tb):=by
  refine ⟨⟨fun pins s σ H Q I h => ?_⟩⟩
  obtain ⟨ρ,fp,G,Qa,R,⟨fs,hj,h⟩,fin⟩:=h
  obtain ⟨vj,hvj,_⟩:=R.ex jm _ hj
  obtain ⟨oc,od,dV,kV,doc,pm,an,cdv,ct,osl,rfl,lk,hcg,_,_⟩:=F.ex
  refine wpAny_Call_Name_kw (ld_glob I hg hm ?_ hdb)
  refine PySem.W.callWith_K (h₀:=X.base) I.ok.mod.kin F.kp ?_ (by rfl) (by rfl)
  show wpAny _ _ (spliced ((false,eval (.Lambda params body scope lpos) X.env) :: backTo pos (starEach [] X.env))) _ _ s
  refine Calls.spliced_cons (UV I LD.tb LD.cd LD.mem LD.one R.tb hdef (L.has I.ok) fun f c' pm' ctv H1 s' I1 eN T1 dm hf hfn hfr hco => ?_)
  refine Calls.spliced_nil ⟨I1.kIn, ?_⟩
  have R1:RS X.K σ H1 ρ fp G:=by
    have x:Ext H (· ∈ ([]:List Addr)) H1 (· ∈ ([]:List Addr)):=ExtN.toExt eN T1 dm
    exact (show RS X.K σ H ρ fp ([]++G) from R).thru x (fun a _ z=>nomatch z) fun a m=>nomatch m
  have x1:Ext H (Fo fp) H1 (Fo fp):=ExtN.toExt eN T1 dm
  obtain ⟨Rm',rm⟩:=R1.move hj hvj
  let kk:Thk:=⟨f,c',X.env.qual ++ "<lambda>",σ,vws ρ⟩
  let GM:List Addr:=v5 (ρ.set jm none) (bz fp jm [])++G
  have hGM : ∀ a,a∈GM↔Fo (bz fp jm []) a∨a∈G:=fun a=>by rw [List.mem_append,Rm'.all]
  have AG : ∀ a∈fp jm,a∉GM:=fun a m z=>by
    rcases (hGM a).mp z with z | z
    · exact Rm'.gf a (List.mem_append_left _ m) z
    · exact R1.gf a z ⟨jm,m⟩
  have tj:(vws ρ)[jm]? = some none:=by unfold vws;rw [List.getElem?_map,hj];rfl
  have rc:codeAny (model X.prog X.w) X.A (.call (.ref g) ⟨[.ref f], []⟩) (CR C8.CX0 X.stack X.prog X.w H1 s' Q C8.E0) s':=by
    refine run_ofS (N:=Ng) (ps:=[a]) (us:=[.ref f]) (vs:=[.ref f]) lk hcg Sg hr.room I1.env0 (hb s' [.ref f] I1.kIn rfl) (.cons rfl .nil) rfl fun _ => ?_
    have hrZ:=hr.deeper (envOfC x sg s'.heap.objs.size g cdv)
    let BZ:Unit->Bas:=fun _=>⟨H1,(· ∈ fp jm),GM⟩
    refine ⟨@LS _ (BZ ()) X.K (fun _=>false) (tg kk jm cI (wY tb (vws ρ) jm cI)),(@SXs.pss _ (BZ ()) _ _ _ _ (GT g cdv X.A X.stack s' H1 kk jm cI (wY tb (vws ρ) jm cI) (fun B pn xe Eb p1 p2 tk => ?_) (BZ ()))).nox, ?_⟩
    ·
      refine @EX.mk _ B _ _ _ ⟨fun pinsZ sZ σZ HZ QZ IZ hZ => ?_⟩
      obtain ⟨ρZ,fpZ,GZ,QaZ,RZ,⟨fsZ,h0,hs⟩,finZ⟩:=hZ
      obtain ⟨v0,hv0,r0⟩:=RZ.ex 0 _ h0
      obtain ⟨RN,rN⟩ := @RS.move _ B _ _ _ _ _ _ _ _ _ RZ h0 hv0
      have rN0:=rN
      obtain ⟨⟨ev,hc2,hl2,ht2⟩,tjz,aI,dx,vs,BI,stI,eA,hI,rin⟩:=rN
      subst ev
      let GL:List Addr:=v5 (ρZ.set 0 none) (bz fpZ 0 [])++GZ
      have hGL : ∀ a,a∈GL↔Fo (bz fpZ 0 []) a∨a∈GZ:=fun a=>by rw [List.mem_append,RN.all]
      have agL : ∀ a∈fpZ 0,a∉GL:=fun a m z=>by
        rcases (hGL a).mp z with z | z
        · exact RN.gf a (List.mem_append_left _ m) z
        · exact RZ.gf a z ⟨0,m⟩
      have giL : ∀ a∈GL, ∃ u,HZ a=some u:=fun a m=>by
        rcases (hGL a).mp m with z | z
        · exact let ⟨u,e,_⟩:=RN.toRS0.there a z;⟨u,e⟩
        · exact RZ.gi a z
      have foL : ∀ a,Fo (bz (fun _=>[]) jm (fpZ 0)) a->a∈fpZ 0:=fun a z=>z.set.elim (fun ⟨_,m⟩=>nomatch m) fun m=>m
      refine X8 (k:=k) (E:=fun cls d H' => @WE _ B X.K Eb cls d σZ H') (tb:=YZ X.K tb (fun cls d H' => @WE _ B X.K Eb cls d σZ H') jm) (i:=0) I1 L hf hfn hfr (hbind _ _ _ _ _) hrZ (fun A outer s H hc hr2=>Ux hc hNj hyf (hbody A outer s H _ f c' hr2)) hNg hva IZ (passAt tk σZ) hv0 hc2 ?_ hd hcd
      let BL:Unit->Bas:=fun _=>⟨HZ,(· ∈ fpZ 0),GL⟩
      have RL0:RS0 X.K σ HZ ((vwE (vws ρ)).set jm (some (.ins cI fsZ))) (bz (fun _=>[]) jm (fpZ 0)) GL :=
        RS0.vwI (F:=Or1 (Fo (bz fpZ 0 [])) (fpZ 0++GZ)) hl2 ht2 (fun a z=>by
          rcases z with z | z
          · exact .inr (List.mem_append_left _ z)
          · exact ((hGL a).mp z).imp (fun q=>q) (List.mem_append_right _)) giL RZ.tb tjz stI ⟨aI,dx,vs,BI,rfl,eA,hI,rin⟩ (RZ.nd 0) agL
      refine ⟨BL (),fun e ρ' => ∃ fs',ρ'=(vwE (vws ρ)).set jm (some (.ins cI fs'))∧Eb e (ρZ.set 0 (some (.thi kk jm cI fs'))),aI,stI,fun cls d σ' H' same hw => ?_,(vwE (vws ρ)).set jm (some (.ins cI fsZ)),bz (fun _=>[]) jm (fpZ 0),GL,_,
        @RS.mk _ (BL ()) _ _ _ _ _ _ RL0 (Ext.refl.weak (fun _ z=>z) fun a z=>z.1.elim (foL a) fun m=>absurd m z.2) (fun _ m=>m),hs,fun v p A H' ρ' fp' R' ro x' hq => ?_⟩
      · obtain ⟨e,ρ',fp',G',R',xo,fs',rfl,q⟩:=hw
        have b1 := @RS.bs _ (BL ()) _ _ _ _ _ _ R'
        have g1 : ∀ a∈GL,a∈G' := @RS.g0 _ (BL ()) _ _ _ _ _ _ R'
        have R2 := @RS.sub _ (BL ()) _ _ _ _ _ _ ([]++GL) R' g1 (fun a z=>z)
        have hj2:jm<(vwE (vws ρ)).length:=by
          obtain ⟨q,_⟩:=List.getElem?_eq_some_iff.mp tj
          unfold vwE
          rw [List.length_map];exact q
        obtain ⟨v1,hv1,a1,dx1,vs1,B1,rfl,_⟩:=R'.ex jm (.ins cI fs') (by rw [List.getElem?_set_self hj2])
        have e1:=same a1 hv1
        subst e1
        obtain ⟨R4,x4⟩:=Qc (A:=[]) (GL:=GL) B RZ h0 hv0 hGL (@RS.toRS0 _ (BL ()) _ _ _ _ _ _ R2) (fun v' e'=>by rw [hv1] at e'; rw [← e'];exact stI) (b1.weak (fun a z=>z) fun a z=>z.elim (fun z=>⟨.inl z,fun m=>R'.gf a (g1 a m) z⟩) fun m=>(List.not_mem_nil m).elim) (fun a m=>(List.not_mem_nil m).elim) (fun a m=>(List.not_mem_nil m).elim)
        refine ⟨e,_,_,GZ,R4,xo.weak fun a z => ?_,q⟩
        rcases z with z | z
        · rcases z.set with z | z
          · exact .inr (g1 a ((hGL a).mpr (.inl z)))
          · exact .inl ⟨jm,z⟩
        · exact .inr (g1 a ((hGL a).mpr (.inr z)))
      · obtain ⟨fs',rfl,o,rfl,q⟩:=hq
        obtain ⟨ro,nd,ng⟩:=ro
        obtain ⟨R4,x4⟩:=Qc (GL:=GL) B RZ h0 hv0 hGL (@RS.toRS0 _ (BL ()) _ _ _ _ _ _ R') (fun v' e'=>e') (x'.weak foL fun a z=>z) (fun a m=>let ⟨u,e,_⟩:=ro.there a m;⟨u,e⟩) ng
        refine finZ v (.val o) A H' _ _ R4 ⟨ro.weak fun a z => ?_,nd,fun a m z=>ng a m ((hGL a).mpr (.inr z))⟩ x4 q
        rcases z with z | z
        · rcases z.set with z | z
          · exact .inr (List.mem_append_right _ ((hGL a).mpr (.inl z)))
          · exact .inl ⟨jm,z⟩
        · rcases List.mem_append.mp z with z | z
          · exact .inr (List.mem_append_left _ z)
          · exact .inr (List.mem_append_right _ ((hGL a).mpr (.inr z)))
    ·
      have foS : ∀ a,Fo (bz (fun _=>[]) 0 (fp jm)) a->a∈fp jm:=fun a z=>z.set.elim (fun ⟨_,m⟩=>nomatch m) fun m=>m
      have giM : ∀ a∈GM, ∃ u,H1 a=some u:=fun a m=>by
        rcases (hGM a).mp m with z | z
        · exact let ⟨u,e,_⟩:=Rm'.toRS0.there a z;⟨u,e⟩
        · exact R1.gi a z
      have wM : ∀ a,Or1 (Fo (bz (fun _=>[]) 0 (fp jm))) GM a->Or1 (Fo (bz fp jm [])) (fp jm++G) a:=fun a z=>by
        rcases z with z | z
        · exact .inr (List.mem_append_left _ (foS a z))
        · exact ((hGM a).mp z).imp (fun q=>q) (List.mem_append_right _)
      have R' : RS0 X.K ([V.ref f].map some) H1 ([O.thi kk jm cI fs].map some) (bz (fun _=>[]) 0 (fp jm)) GM:=by
        refine ⟨fun i o e => ?_,fun i e => ?_,fun i k' a m z => ?_,fun i => ?_,fun a m z=>AG a (foS a z) m,giM,rfl,T1⟩
        · cases i with
          | succ i=>simp at e
          | zero =>
            cases e
            have rm2:=rm.weak wM
            obtain ⟨ai,dx,vs,BI,ev,eA,hI,rin⟩:=rm2
            refine ⟨.ref f,rfl,⟨rfl,hco,by show (vws ρ).length=σ.length;unfold vws;rw [List.length_map,R.len],fun j' t ej => ?_⟩,tj,ai,dx,vs,BI,by show σ[jm]? = _;rw [hvj,ev],by rw [eX];exact eA,hI,rin⟩
            have hne:j'≠jm:=fun q=>by rw [q,tj] at ej;cases ej
            obtain ⟨u,h1,_,h2⟩:=Rm'.ex j' (.pure t) (by rw [aM.get_set,if_neg fun q=>hne q.symm];exact aAU ej)
            exact ⟨u,h1,h2.weak wM⟩
        · cases i with
          | zero=>exact absurd rfl (e (.thi kk jm cI fs))
          | succ i=>rw [bY (by omega)]
        · by_cases q:i=0
          · by_cases q' : k'=0
            · rw [q,q']
            · rw [bY q'] at z;cases z
          · rw [bY q] at m;cases m
        · by_cases q:i=0
          · rw [q,eX];exact R1.nd jm
          · rw [bY q];exact .nil
      have R0 : @RS _ (BZ ()) X.K (L2.start Ng [.ref f]) H1 (aK Ng.length [.thi kk jm cI fs]) (bz (fun _=>[]) 0 (fp jm)) GM:=by
        unfold L2.start aK
        refine @RS.mk _ (BZ ()) _ _ _ _ _ _ ⟨fun i o e => ?_,fun i e => ?_,R'.dj,R'.nd,R'.gf,R'.gi,by simp,R'.tb⟩ (Ext.refl.weak (fun _ z=>z) fun a z=>z.1.elim (foS a) fun m=>absurd m z.2) fun _ m=>m
        · obtain ⟨v,hv,r⟩:=R'.ex i o (lF.mp e)
          exact ⟨v,lF.mpr hv,r⟩
        · exact R'.non i fun o z=>e o (lF.mpr z)
      have done : ∀ v o A' σ' H' ρ' fp' fs', @RS _ (BZ ()) X.K σ' H' ρ' fp' (A'++GM)->ρ'[0]? = some (some (.thi kk jm cI fs'))->RO X.K H' (Or1 (Fo fp') (A'++GM)) v o A'->A'.Nodup->(∀ a∈A',a∉GM)->Ext H1 (Fo (bz (fun _=>[]) 0 (fp jm))) H' (Or1 (Fo fp') A')->Qa (.val o) (ρ.set jm (some (.ins cI fs')))->Q v H':=fun v o A' σ' H' ρ' fp' fs' R' e0 ro nd ng x' q=>by
        obtain ⟨v0,hv0,_,_,a',dx',vs',B',stI,eA',hI',rin'⟩:=R'.ex 0 _ e0
        have x2:Ext H1 (· ∈ fp jm) H' (· ∈ fp' 0++A'):=x'.weak foS fun a m=>(List.mem_append.mp m).elim (fun m => .inl ⟨0,m⟩) .inr
        have R3:=RS.thru Rm' x2 (fun a m z=>R1.gf a m ⟨jm,z⟩) (fun a m=>(List.mem_append.mp m).elim (fun m=>let ⟨u,e,_⟩:=RS0.there (@RS.toRS0 _ (BZ ()) _ _ _ _ _ _ R') a ⟨0,m⟩;⟨u,e⟩) fun m=>let ⟨u,e,_⟩:=ro.there a m;⟨u,e⟩) R1.g0
        rw [List.append_assoc] at R3
        have wN : ∀ a,Or1 (Fo (bz (bz fp jm []) jm (fp' 0))) (A'++G) a->Or1 (Fo fp') (A'++GM) a:=fun a z=>by
          rcases z with z | z
          · rcases z.set with z | z
            · exact .inr (List.mem_append_right _ ((hGM a).mpr (.inl z)))
            · exact .inl ⟨0,z⟩
          · rcases List.mem_append.mp z with z | z
            · exact .inr (List.mem_append_left _ z)
            · exact .inr (List.mem_append_right _ ((hGM a).mpr (.inr z)))
        have hjl:jm<ρ.length:=(List.getElem?_eq_some_iff.mp hj).1
        have ev:vj = .ref a':=by
          have stI : σ[jm]? = some (some (.ref a')):=stI
          rw [hvj] at stI
          injection stI with stI
          injection stI
        have r2:RO X.K H' (Or1 (Fo fp') (A'++GM)) vj (.ins cI fs') (fp' 0):=⟨a',dx',vs',B',ev,eA',hI',rin'⟩
        have R4:=RS.upd (A:=fp' 0) (G:=A'++G) (j:=jm) (v:=vj) (o := .ins cI fs') (σ':=σ) R3 (fun a m z=>by
          rcases List.mem_append.mp z with z | z
          · exact R'.gf a (List.mem_append_left _ z) ⟨0,m⟩
          · exact R'.gf a (List.mem_append_right _ ((hGM a).mpr (.inr z))) ⟨0,m⟩) (R'.nd 0) (by rw [List.length_set];exact hjl) (fun i v _ h=>h) hvj rfl (r2.weak wN) (fun a z=>List.mem_append_right _ (R1.g0 a z))
        rw [List.set_set] at R4
        have x3:Ext H1 (Fo fp) H' (Or1 (Fo (bz (bz fp jm []) jm (fp' 0))) A'):=(x'.addP (Fo (bz fp jm []))).weak (fun a z=>by
          rcases z with z | z
          · exact z.set.elim (fun q=>q) fun m=>(List.not_mem_nil m).elim
          · exact ⟨jm,foS a z⟩) fun a z=>by
          rcases z with z | z
          · rcases z.set with z | z
            · exact .inl z
            · exact .inr (.inl ⟨0,z⟩)
          · exact .inr (.inr z)
        exact fin v (.val o) A' H' _ _ R4 ⟨ro.weak wN,nd,fun a m z=>ng a m ((hGM a).mpr (.inr z))⟩ (x1.trans x3) q
      let DD:qY:=Uw kk jm cI fun fs' o=>Qa (.val o) (ρ.set jm (some (.ins cI fs')))
      refine ⟨aK Ng.length [.thi kk jm cI fs],_,GM,DD,R0,rd kk _ fs _ h, @aAw.mk _ (BZ ()) _ _ _ _ _ _ _ _ (fun σ' H' ρ' fp' R' x' pe hq => ?_) (fun _ _ _ _ _ _ _ hq=>False.elim hq) (fun _ _ _ _ _ _ _ hq=>False.elim hq) (fun v o A' σ' H' ρ' fp' R' ro nd ng x' pe hq => ?_)⟩
      · obtain ⟨fs',e0,hq⟩:=hq
        exact done .non (.pure .none) [] σ' H' ρ' fp' fs' R' e0 (Du RP.non) .nil pZ (x'.weak (fun _ y=>y) fun a y=>y.elim (fun q=>q) fun m=>(List.not_mem_nil m).elim) hq
      · obtain ⟨fs',e0,hq⟩:=hq
        exact done v o A' σ' H' ρ' fp' fs' R' e0 ro nd ng x' hq
  refine wpAny_call (codeAny_mono rc fun r s2 hq => ?_)
  cases r with
  | error e=>exact (show False from hq).elim
  | ok fl =>
    cases fl with
    | ret u=>exact I1.after hq
    | next=>exact False.elim hq
    | brk=>exact False.elim hq
    | cont=>exact False.elim hq
end
end DL
namespace DL
open PySem PySem.Spec L2
open PyProof.Rows hiding St
section
variable [Tbs]
abbrev qK:=List O->(O->List O->Prop)->(Exc->List O->Prop)->Prop
def Lk (K:PySem.W.Frag) (fl:List Bool) (spec:qK):Sp:=fun vs H Q E => ∃ os fp G Qa Ea,vs.length=fl.length∧RS0 K (vs.map some) H (os.map some) fp G∧(∀ i,fl.getD i false=false->fp i=[])∧spec os Qa Ea ∧
 (∀ v o A outs H' fp',RS0 K (vs.map some) H' ((uR fl os outs).map some) fp' (A++G)->(∀ i,fl.getD i false=false->fp' i=[])->RO K H' (Or1 (Fo fp') (A++G)) v o A->A.Nodup->(∀ a∈A,a∉G)->Ext H (Fo fp) H' (Or1 (Fo fp') A) ->
  outs.length=(fl.filter id).length->Qa o outs->Q v H') ∧
 ∀ cls d e outs H' fp',RS0 K (vs.map some) H' ((uR fl os outs).map some) fp' G->(∀ i,fl.getD i false=false->fp' i=[])->XOk K H' (Or1 (Fo fp') G) cls d e->Ext H (Fo fp) H' (Fo fp') ->
  outs.length=(fl.filter id).length->Ea e outs->E cls d H'
end
section
variable [Tbs] [Bas]
def Hu (fl:List Bool) (spec:qK) (Ea:Exc->aM->Prop) (ts:XTs):XT:=fun ρ Q=>ts ρ fun ps ρ1=>rE fl ps ρ1 fun os js ρ2=>spec os (fun o outs=>Q (.val o) (rG js outs ρ2)) fun e outs=>Ea e (rG js outs ρ2)
theorem Jb {K:PySem.W.Frag} {n:Nat} {fl:List Bool} {spec:qK} {Ea:Exc->aM->Prop} {ts:XTs} {σ : L2.St} {H:Hp} {Q:VK} (h:LX K (Hu fl spec Ea ts) σ H Q) :
    LA K n ts σ H fun vs H1=>Lk K fl spec vs H1 Q fun cls d H'=>WE K Ea cls d σ H':=by
  obtain ⟨ρ,fp,G,Qa,R,h,fin⟩:=h
  refine ⟨ρ,fp,G,_,R,h,fun vs ps A H1 ρ1 fp1 hl R1 r1 nd1 ng1 x1 h1 => ?_⟩
  obtain ⟨os,js,ρ2,fp2,Bs,R2,r2,d2,g2,i2,l2,z2,n2,h2⟩:=zr r1 R1 R.g0 (fun a z=>z) ng1 nd1 h1
  have hG : ∀ a,a∈v5 ρ2 fp2++G↔Fo fp2 a∨a∈G:=fun a=>by rw [List.mem_append,R2.all]
  have give : ∀ (A' : List Addr) (outs:List O) (H' : Hp) (fp' : Nat->List Addr),RS0 K (vs.map some) H' ((uR fl os outs).map some) fp' (A'++(v5 ρ2 fp2++G))->(∀ a∈A', ∃ u,H' a=some u)->(∀ a∈A',a∉v5 ρ2 fp2++G)->Ext H1 (Fo fun i=>Bs.getD i []) H' (Or1 (Fo fp') A')->outs.length=(fl.filter id).length ->
      ∃ fp3,RS K σ H' (rG js outs ρ2) fp3 (A'++G)∧(∀ a,Fo fp3 a->Fo fp2 a∨Fo fp' a)∧Ext H (Fo fp) H' (Or1 (Fo fp3) A'):=fun A' outs H' fp' R' hi ng' x' lo=>by
    have fa : ∀ a,a∈v5 ((uR fl os outs).map some) fp'↔Fo fp' a:=fun a=>R'.all
    generalize hW:v5 ((uR fl os outs).map some) fp'=W at fa
    have xs:Ext H1 (· ∈ Bs.flatten) H' (· ∈ W++A'):=x'.weak (fun a z=>jU.mpr z) fun a m=>(List.mem_append.mp m).elim (fun m => .inl ((fa a).mp m)) .inr
    have R3:RS K σ H' ρ2 fp2 ((W++A')++G):=R2.thru xs (fun a m z=>g2 a z m) fun a m=>(List.mem_append.mp m).elim (fun m=>let ⟨u,e,_⟩:=R'.there a ((fa a).mp m);⟨u,e⟩) fun m=>hi a m
    obtain ⟨fp3,R4,i3⟩:=TY l2 (G:=A'++G) R' (by rw [← r2.len.1]) lo (by rw [List.append_assoc] at R3;exact R3) (fun a m=>List.mem_append_right _ (R.g0 a m)) (fun i a m=>(fa a).mpr ⟨i,m⟩) (fun a m z=>R'.gf a (by
        simp only [List.mem_append] at z ⊢
        rcases z with z | z
        · exact .inl z
        · exact .inr (.inr z)) ((fa a).mp m)) (fun a z=>by
        rcases z with z | z | z
        · exact .inr (List.mem_append_right _ ((hG a).mpr (.inl z)))
        · exact .inl ((fa a).mp z)
        · simp only [List.mem_append] at z ⊢
          rcases z with z | z
          · exact .inr (.inl z)
          · exact .inr (.inr (.inr z)))
    refine ⟨fp3,R4,i3,x1.trans ((x'.addP (Fo fp2)).weak (fun a z => ?_) fun a z => ?_)⟩
    · exact (i2 a (z.imp (fun q=>q) fun z=>jU.mpr z))
    · rcases z with z | z
      · exact (i3 a z).imp (fun q=>q) .inl
      · exact .inr (.inr z)
  refine ⟨os,fun i=>Bs.getD i [],v5 ρ2 fp2++G,_,_,n2,RCs.rs R2 r2 d2 g2 hG,z2,h2,fun v o A' outs H' fp' R' z' ro nd' ng' x' lo q => ?_,fun cls d e outs H' fp' R' z' xo x' lo q => ?_⟩
  · obtain ⟨fp3,R4,i3,x3⟩:=give A' outs H' fp' R' (fun a m=>let ⟨u,e,_⟩:=ro.there a m;⟨u,e⟩) ng' x' lo
    refine fin v (.val o) A' H' _ fp3 R4 ⟨ro.weak fun a z => ?_,nd',fun a m z=>ng' a m (List.mem_append_right _ z)⟩ x3 q
    rcases z with z | z
    · rcases i3 a z with z | z
      · exact .inr (List.mem_append_right _ ((hG a).mpr (.inl z)))
      · exact .inl z
    · simp only [List.mem_append] at z ⊢
      rcases z with z | z
      · exact .inr (by simp [z])
      · exact .inr (by simp [z])
  · obtain ⟨fp3,R4,i3,x3⟩:=give [] outs H' fp' R' (fun a m=>(List.not_mem_nil m).elim) (fun a m=>(List.not_mem_nil m).elim) (x'.weak (fun a z=>z) fun a z=>z.elim (fun z=>z) fun m=>(List.not_mem_nil m).elim) lo
    refine ⟨e,_,fp3,G,R4,xo.weak fun a z => ?_,q⟩
    rcases z with z | z
    · rcases i3 a z with z | z
      · exact .inr ((hG a).mpr (.inl z))
      · exact .inl z
    · exact .inr ((hG a).mpr (.inr z))
end
def Ln (a:Addr) (c:Str) (Qa:O->List O->Prop):qY where
 nx:=fun ρ => ∃ fs',ρ[0]? = some (some (.ina a c fs'))∧Qa (.pure .none) [.ins c fs']
 rt:=fun o ρ => ∃ fs',ρ[0]? = some (some (.ina a c fs'))∧Qa o [.ins c fs']
def XF (a:Addr) (c:Str) (Ea:Exc->List O->Prop):Exc->aM->Prop:=fun e ρ => ∃ fs',ρ[0]? = some (some (.ina a c fs'))∧Ea e [.ins c fs']
theorem Qg : ∀ (n:Nat) (os:List O),uR (List.replicate n false) os []=os
 | 0,os=>by cases os<;>rfl
 | n+1, []=>rfl
 | n+1,o :: os=>by
  rw [List.replicate_succ]
  show o :: uR (List.replicate n false) os []=_
  rw [Qg n os]
theorem XH (n:Nat) : ∀ i,i≠0->(true :: List.replicate n false).getD i false=false:=fun i hi=>by
 cases i with
 | zero=>exact absurd rfl hi
 | succ i =>
  rw [List.getD_cons_succ,List.getD_eq_getElem?_getD]
  cases q:(List.replicate n false)[i]? with
  | none=>rfl
  | some b=>rw [(List.mem_replicate.mp (List.mem_of_getElem? q)).2];rfl
section
variable [Tbs]
variable {P:Program} {w:World} {K:PySem.W.Frag} {mg:Str->Option Value} {base:Heap} {x qual:Str} {params:Arguments} {body:List Stmt} {scope:Scope} {f:Addr} {fd:FuncData}
theorem Qh {σ' : L2.St} {H H' : Hp} {ρ' : aM} {fp fp' : Nat->List Addr} {A G:List Addr} {vs:List V} {a:Addr} {c:Str} {fs fs' : List (Str×Fl)} {os' : List O} (R:RS0 K (vs.map some) H ((O.ins c fs :: os').map some) fp G) (hz : ∀ i,i≠0->fp i=[]) (hv0:vs[0]? = some (.ref a))
  (R' : RS0 K σ' H' ρ' fp' (A++G)) (e0 : ρ'[0]? = some (some (.ina a c fs'))) (x' : Ext H (Fo fp) H' (Or1 (Fo fp') A)) :
  RS0 K (vs.map some) H' ((O.ins c fs' :: os').map some) (bz (fun _=>[]) 0 (fp' 0)) (A++G) ∧ ∀ b,Fo (bz (fun _=>[]) 0 (fp' 0)) b->Fo fp' b:=by
 letI:Bas:=⟨H,fun _=>False, []⟩
 have fo : ∀ b,Fo (bz (fun _=>[]) 0 (fp' 0)) b->Fo fp' b:=fun b z=>z.set.elim (fun ⟨_,m⟩=>nomatch m) fun m=>⟨0,m⟩
 have wo : ∀ b,Or1 (Fo (bz (fun _=>[]) 0 (fp' 0))) (A++G) b->Or1 (Fo fp') (A++G) b:=fun b z=>z.imp (fo b) fun m=>m
 have R2:=R'
 refine ⟨⟨fun i o e => ?_,fun i e => ?_,fun i k m y z => ?_,fun i => ?_,fun b m z=>R'.gf b m (fo b z),R'.gi,by have:=R.len;simpa using this,R'.tb⟩,fo⟩
 ·cases i with
  | zero =>
   cases e
   obtain ⟨v,hv,ev,dx,ws,BI,eA,hI,rin⟩:=R'.ex 0 _ e0
   have r:RO K H' (Or1 (Fo fp') (A++G)) (.ref a) (.ins c fs') (fp' 0):=⟨a,dx,ws,BI,rfl,eA,hI,rin⟩
   exact ⟨.ref a,by rw [List.getElem?_map,hv0];rfl,by rw [eX];exact r.weak wo⟩
  | succ i =>
   obtain ⟨v,hv,r⟩:=R.ex (i+1) o e
   rw [hz (i+1) (by omega)] at r
   refine ⟨v,hv, ?_⟩
   rw [bY (by omega)]
   exact ((r.ext (x'.addG G)) fun b m=>(List.not_mem_nil m).elim).weak fun b z=>(wo b z).elim (fun z => .inl (.inl z)) fun m=>(List.mem_append.mp m).elim (fun m => .inl (.inr m)) .inr
 ·cases i with
  | zero=>exact absurd rfl (e (.ins c fs'))
  | succ i=>rw [bY (by omega)]
 ·by_cases q:i=0
  ·by_cases q' : k=0
   ·rw [q,q']
   ·rw [bY q'] at z;cases z
  ·rw [bY q] at y;cases y
 ·by_cases q:i=0
  ·rw [q,eX];exact R'.nd 0
  ·rw [bY q];exact .nil
theorem Uy {N ps:List Str} {k n:Nat} {spec:qK} (tb:(Exc->aM->Prop)->ST) (F:FunD K x qual params body scope [] [] f fd) (S:FnScope N ps scope) (hps:ps.length=n+1)
  (hbody : ∀ (cdv:Value) (A:Around) (outer:List Env) (s:Shared) (H:Hp) (E:XK),Rm k (A.deeper (envOfC qual scope s.heap.objs.size f cdv)) ->
   ∀ (B:Bas) (Ea:Exc->aM->Prop),Takes (cxOf (L2.CX P w) P w K mg base N qual scope f cdv A outer s H E) (@WE _ B K Ea) ->
    PassesOwn (model P w) (cxOf (L2.CX P w) P w K mg base N qual scope f cdv A outer s H E).A (cxOf (L2.CX P w) P w K mg base N qual scope f cdv A outer s H E).env (cxOf (L2.CX P w) P w K mg base N qual scope f cdv A outer s H E).xe ->
    @SXs _ B (cxOf (L2.CX P w) P w K mg base N qual scope f cdv A outer s H E) (fun _=>false) body (tb Ea))
  (rd : ∀ os Qa Ea,os.length=n+1->spec os Qa Ea -> ∃ c fs os',os = .ins c fs :: os' ∧ ∀ a,tb (XF a c Ea) (Ln a c Qa) (aK N.length (.ina a c fs :: os'))) :
  FnG P w K mg base (L2.CX P w) (k+1) f fd ps (Lk K (true :: List.replicate n false) spec):=by
 refine Th F S (fun vs H Q E ⟨os,fp,G,Qa,Ea,h,_⟩=>by rw [h,hps];simp) fun cdv A outer s H vs Q E hr h => ?_
 obtain ⟨os,fp,G,Qa,Ea,hl,R,z,hs,fin,finE⟩:=h
 have hl:vs.length=n+1:=by rw [hl];simp
 have hlo:os.length=vs.length:=by simpa using R.len
 obtain ⟨c,fs,os',rfl,ht⟩:=rd os Qa Ea (by omega) hs
 obtain ⟨v0,hv0,a,dx,ws,BI,rfl,eA,hI,rin⟩:=R.ex 0 (.ins c fs) rfl
 have hz : ∀ i,i≠0->fp i=[]:=fun i hi=>z i (XH n i hi)
 have hv1:vs[0]? = some (.ref a):=by
  rw [List.getElem?_map] at hv0
  cases q:vs[0]? with
  | none=>rw [q] at hv0;cases hv0
  | some v=>rw [q] at hv0;cases hv0;rfl
 letI B:Bas:=⟨H,Fo fp,G⟩
 have R0:RS K (L2.start N vs) H (aK N.length (.ina a c fs :: os')) fp G:=by
  unfold L2.start aK
  refine ⟨⟨fun i o e => ?_,fun i e => ?_,R.dj,R.nd,R.gf,R.gi,by simp at hlo ⊢; omega,R.tb⟩,Ext.refl.weak (fun _ z=>z) fun a z=>z.1.elim (fun q=>q) fun m=>absurd m z.2,fun _ m=>m⟩
  ·have e:=lF.mp e
   cases i with
   | zero =>
    cases e
    exact ⟨.ref a,lF.mpr hv0,rfl,dx,ws,BI,eA,hI,rin⟩
   | succ i =>
    obtain ⟨v,hv,r⟩:=R.ex (i+1) o e
    exact ⟨v,lF.mpr hv,r⟩
  ·by_cases q:i=0
   ·subst q
    exact absurd (lF.mpr rfl) (e (.ina a c fs))
   ·exact hz i q
 have lf:([O.ins c fs]:List O).length=((true :: List.replicate n false).filter id).length:=by simp
 have pf : ∀ fs',uR (true :: List.replicate n false) (.ins c fs :: os') [.ins c fs'] = .ins c fs' :: os':=fun fs'=>by
  show O.ins c fs' :: uR (List.replicate n false) os' []=_
  rw [Qg]
 have fz : ∀ (fp' : Nat->List Addr) i,(true :: List.replicate n false).getD i false=false->bz (fun _=>[]) 0 (fp' 0) i=[]:=fun fp' i hi=>by
  cases i with
  | zero=>cases hi
  | succ i=>rw [bY (by omega)]
 have done : ∀ v o A' σ' H' ρ' fp' fs',RS K σ' H' ρ' fp' (A'++G)->ρ'[0]? = some (some (.ina a c fs'))->RO K H' (Or1 (Fo fp') (A'++G)) v o A'->A'.Nodup->(∀ a∈A',a∉G)->Ext H (Fo fp) H' (Or1 (Fo fp') A')->Qa o [.ins c fs']->Q v H':=fun v o A' σ' H' ρ' fp' fs' R' e0 ro nd ng x' q=>by
  obtain ⟨R3,fo⟩:=Qh R hz hv1 R'.toRS0 e0 x'
  exact fin v o A' [.ins c fs'] H' _ (by rw [pf];exact R3) (fz fp') (ro.weak fun b z=>z.imp (fo b) fun m=>m) nd ng (x'.weak (fun _ z=>z) fun b z=>z.imp (fo b) fun m=>m) lf q
 refine ⟨LS K (fun _=>false) (tb (XF a c Ea)),(hbody cdv A outer s H E hr B (XF a c Ea) ?_ ?_).pss,aK N.length (.ina a c fs :: os'),fp,G,Ln a c Qa,R0,ht a,fun σ' H' ρ' fp' R' x' pe hq => ?_,fun _ _ _ _ _ _ _ hq=>hq.elim,fun _ _ _ _ _ _ _ hq=>hq.elim,fun v o A' σ' H' ρ' fp' R' ro nd ng x' pe hq => ?_⟩
 ·refine Takes.imp (takes_of (X:=cxOf (L2.CX P w) P w K mg base N qual scope f cdv A outer s H E) (E:=E) rfl rfl rfl rfl) fun cls d σ' H' hw => ?_
  obtain ⟨e,ρ',fp',G',R',xo,fs',e0,q⟩:=hw
  have g1 : ∀ a∈G,a∈G':=R'.g0
  have R2:RS K σ' H' ρ' fp' ([]++G):=R'.sub g1 fun a m=>m
  have x' : Ext H (Fo fp) H' (Or1 (Fo fp') []):=R'.bs.weak (fun _ z=>z) fun b z=>z.elim (fun z=>⟨.inl z,fun m=>R'.gf b (g1 b m) z⟩) fun m=>(List.not_mem_nil m).elim
  obtain ⟨R3,fo⟩:=Qh R hz hv1 R2.toRS0 e0 x'
  exact finE cls d e [.ins c fs'] H' _ (by rw [pf];exact R3) (fz fp') (xo.weak fun b z=>z.imp (fo b) (g1 b)) (x'.weak (fun _ z=>z) fun b z => .inl (fo b z)) lf q
 ·exact passes_of rfl
 ·obtain ⟨fs',e0,q⟩:=hq
  exact done .non (.pure .none) [] σ' H' ρ' fp' fs' R' e0 (Du RP.non) .nil pZ (x'.weak (fun _ y=>y) fun a y=>y.elim (fun q=>q) fun m=>(List.not_mem_nil m).elim) q
 ·obtain ⟨fs',e0,q⟩:=hq
  exact done v o A' σ' H' ρ' fp' fs' R' e0 ro nd ng x' q
end
section
variable [Tbs]
theorem RO.ina_ins {K:PySem.W.Frag} {H:Hp} {F:Addr->Prop} {v:V} {a:Addr} {c:Str} {fs:List (Str×Fl)} {A:List Addr} (h:RO K H F v (.ina a c fs) A):RO K H F v (.ins c fs) A :=
 let ⟨e,dx,vs,B,eA,hI,r⟩:=h;⟨a,dx,vs,B,e,eA,hI,r⟩
theorem RO.ins_ina {K:PySem.W.Frag} {H:Hp} {F:Addr->Prop} {a:Addr} {c:Str} {fs:List (Str×Fl)} {A:List Addr} (h:RO K H F (.ref a) (.ins c fs) A):RO K H F (.ref a) (.ina a c fs) A:=by
 obtain ⟨a',dx,vs,B,e,eA,hI,r⟩:=h
 cases e
 exact ⟨rfl,dx,vs,B,eA,hI,r⟩
variable [Bas]
theorem RS.as {K:PySem.W.Frag} {σ : L2.St} {H:Hp} {ρ : aM} {fp:Nat->List Addr} {G:List Addr} {j:Nat} {o o' : O} (R:RS K σ H ρ fp G) (e : ρ[j]? = some (some o)) (h : ∀ v,σ[j]? = some (some v)->RO K H (Or1 (Fo fp) G) v o (fp j)->RO K H (Or1 (Fo fp) G) v o' (fp j)):RS K σ H (ρ.set j (some o')) fp G:=by
 have hj:j<ρ.length:=(List.getElem?_eq_some_iff.mp e).1
 refine ⟨⟨fun i u q => ?_,fun i q => ?_,R.dj,R.nd,R.gf,R.gi,by rw [List.length_set];exact R.len,R.tb⟩,R.bs,R.g0⟩
 ·rw [aM.get_set] at q
  by_cases k:j=i
  ·subst k
   rw [if_pos rfl,if_pos hj] at q
   cases q
   obtain ⟨v,hv,r⟩:=R.ex j o e
   exact ⟨v,hv,h v hv r⟩
  ·rw [if_neg k] at q
   exact R.ex i u q
 ·by_cases k:j=i
  ·subst k
   exact absurd (by rw [aM.get_set,if_pos rfl,if_pos hj]) (q o')
  ·refine R.non i fun u z=>q u ?_
   rw [aM.get_set,if_neg k];exact z
def XJ (j:Nat) (t:XT):XT:=fun ρ Q => ∃ a c fs,ρ[j]? = some (some (.ina a c fs))∧t (ρ.set j (some (.ins c fs))) fun p ρ'=>(∃ o,p = .val o) ∧ ∃ fs',ρ'[j]? = some (some (.ins c fs'))∧Q p (ρ'.set j (some (.ina a c fs')))
theorem aB7 {K:PySem.W.Frag} {j:Nat} {t:XT} {σ : L2.St} {H:Hp} {Q:VK} (h:LX K (XJ j t) σ H Q):LX K t σ H Q:=by
 obtain ⟨ρ,fp,G,Qa,R,⟨a,c,fs,e,h⟩,fin⟩:=h
 obtain ⟨v0,hv0,r0⟩:=R.ex j _ e
 obtain ⟨rfl,_⟩:=r0
 refine ⟨ρ.set j (some (.ins c fs)),fp,G,_,R.as e fun v _ r=>r.ina_ins,h,fun v p A H1 ρ1 fp1 R1 r1 x1 h1 => ?_⟩
 obtain ⟨⟨o,rfl⟩,fs',e1,q⟩:=h1
 exact fin v (.val o) A H1 _ fp1 (R1.as e1 fun v hv r=>by
  rw [hv0] at hv
  cases hv
  exact r.ins_ina) r1 x1 q
theorem Hv {X:Cx} {e:Expr} {j:Nat} {t:XT} (h:EX X e t):EX X e (XJ j t):=⟨PE.imp h.pe fun σ H Q z=>aB7 z⟩
end
section
variable [Tbs] [Bas]
def vD (c m:Str) (fl:List Bool) (spec:qK) (Ea:Exc->aM->Prop) (t:XT) (ts:XTs):XT:=Hu (true :: fl) spec Ea (aD (Gk c m t) ts)
variable {X:Cx} {k:Nat} {f:Addr} {fd:FuncData} {ps:List Str} {c m:Str} {p pos apos:Pos} {o e:Expr} {es:List Expr} {t:XT} {ts:XTs} {fl:List Bool} {spec:qK} {Ea:Exc->aM->Prop}
theorem Qi (hc:Cls X.K (Tbs.cad c)) (hm:Meth X.K (Tbs.cad c) m f) (F:FnG X.prog X.w X.K X.mg X.base (L2.CX X.prog X.w) k f fd ps (Lk X.K (true :: fl) spec)) (hr:Rm k X.A) (hb:Binds X.K fd ps []) (tk:Takes X (WE X.K Ea)) (h0:EX X o t) (ha:EXs X (e :: es) ts) {pl:Sem Bool}
  (hst:starEach (e :: es) X.env=(false,eval e X.env) :: starEach es X.env:=by rfl) (hpl:(backTo pos (starEach es X.env)).any (·.1)=false:=by rfl)
  (ht:eval (.Call (.Attribute o m apos) (e :: es) [] pos) X.env=(do
   let ov ← eval o X.env
   standAt apos.atName
   let (f,first) ← holding [ov] (getMethod ov m pl)
   callWith pos f first (backTo pos (starEach (e :: es) X.env)) (backToKw pos (keywordEach [] X.env))):=by rfl):EX X (.Call (.Attribute o m apos) (e :: es) [] pos) (vD c m fl spec Ea t ts):=by
 refine ⟨PE.imp (JX (E:=fun σ cls d H'=>WE X.K Ea cls d σ H') h0.pe hc hm F hr hb (fun σ=>passAt tk σ) ha.pa hst hpl ht) fun σ H Q h => ?_⟩
 exact CJ (yC (Jb (n:=(e :: es).length+1) h))
theorem Uz (hc:Cls X.K (Tbs.cad c)) (hm:Meth X.K (Tbs.cad c) m f) (F:FnG X.prog X.w X.K X.mg X.base (L2.CX X.prog X.w) k f fd ps (Lk X.K (true :: fl) spec)) (hr:Rm k X.A) (hb:Binds X.K fd ps []) (tk:Takes X (WE X.K Ea)) (h0:EX X o t) {pl:Sem Bool}
  (ht:eval (.Call (.Attribute o m apos) [] [] pos) X.env=(do
   let ov ← eval o X.env
   standAt apos.atName
   let (f,first) ← holding [ov] (getMethod ov m pl)
   callWith pos f first (backTo pos (starEach [] X.env)) (backToKw pos (keywordEach [] X.env))):=by rfl):EX X (.Call (.Attribute o m apos) [] [] pos) (vD c m fl spec Ea t aH):=by
 refine ⟨PE.imp (Lj (E:=fun σ cls d H'=>WE X.K Ea cls d σ H') h0.pe hc hm F hr hb (fun σ=>passAt tk σ) ht) fun σ H Q h => ?_⟩
 exact (CJ (yC (Jb (n:=1) h))).imp2 fun v H' q=>⟨q.1,QW q.2⟩
theorem LA.imp2 {K:PySem.W.Frag} {n:Nat} {ts:XTs} {σ : L2.St} {H:Hp} {Q Q' : List V->Hp->Prop} (h:LA K n ts σ H Q) (w : ∀ v H',Q v H'->Q' v H'):LA K n ts σ H Q':=by
 obtain ⟨ρ,fp,G,Qa,R,h,fin⟩:=h
 exact ⟨ρ,fp,G,Qa,R,h,fun vs ps A H1 ρ1 fp1 hl R1 r1 nd1 ng1 x1 h1=>w _ _ (fin vs ps A H1 ρ1 fp1 hl R1 r1 nd1 ng1 x1 h1)⟩
theorem Lk.impE {K:PySem.W.Frag} {fl:List Bool} {spec:qK} {vs:List V} {H:Hp} {Q:VK} {E E' : XK} (h:Lk K fl spec vs H Q E) (w : ∀ cls d H',E cls d H'->E' cls d H'):Lk K fl spec vs H Q E':=by
 obtain ⟨os,fp,G,Qa,Ea,h1,h2,h3,h4,h5,h6⟩:=h
 exact ⟨os,fp,G,Qa,Ea,h1,h2,h3,h4,h5,fun cls d e outs H' fp' R z xo x lo q=>w _ _ _ (h6 cls d e outs H' fp' R z xo x lo q)⟩
def Zr (j:Nat) (a:Addr) (c:Str) (Ea:Exc->aM->Prop):Exc->aM->Prop:=fun e ρ' => ∃ fs',ρ'[j]? = some (some (.ins c fs'))∧Ea e (ρ'.set j (some (.ina a c fs')))
theorem aB8 {K:PySem.W.Frag} {j:Nat} {a:Addr} {cls:Value} {d:Option Addr} {σ : L2.St} {H:Hp} (hv : σ[j]? = some (some (.ref a))) (h:WE K (Zr j a c Ea) cls d σ H):WE K Ea cls d σ H:=by
 obtain ⟨e,ρ,fp,G,R,xo,fs',e1,q⟩:=h
 exact ⟨e,_,fp,G,R.as e1 fun v hv' r=>by
  rw [hv] at hv'
  cases hv'
  exact r.ins_ina,xo,q⟩
def Nu (j:Nat) (c m:Str) (fl:List Bool) (spec:qK) (Ea:Exc->aM->Prop) (t:XT) (ts:XTs):XT:=fun ρ Q => ∃ a fs,ρ[j]? = some (some (.ina a c fs))∧vD c m fl spec (Zr j a c Ea) t ts (ρ.set j (some (.ins c fs))) fun p ρ'=>(∃ o,p = .val o) ∧ ∃ fs',ρ'[j]? = some (some (.ins c fs'))∧Q p (ρ'.set j (some (.ina a c fs')))
theorem V1 {K:PySem.W.Frag} {j:Nat} {σ : L2.St} {H:Hp} {Q:VK} (h:LX K (Nu j c m fl spec Ea t ts) σ H Q) : ∃ a,σ[j]? = some (some (.ref a))∧LX K (vD c m fl spec (Zr j a c Ea) t ts) σ H Q:=by
 obtain ⟨ρ,fp,G,Qa,R,⟨a,fs,e,h⟩,fin⟩:=h
 obtain ⟨v0,hv0,r0⟩:=R.ex j _ e
 obtain ⟨rfl,_⟩:=r0
 refine ⟨a,hv0,ρ.set j (some (.ins c fs)),fp,G,_,R.as e fun v _ r=>r.ina_ins,h,fun v p A H1 ρ1 fp1 R1 r1 x1 h1 => ?_⟩
 obtain ⟨⟨o,rfl⟩,fs',e1,q⟩:=h1
 exact fin v (.val o) A H1 _ fp1 (R1.as e1 fun v hv r=>by
  rw [hv0] at hv
  cases hv
  exact r.ins_ina) r1 x1 q
theorem V2 {j:Nat} (hc:Cls X.K (Tbs.cad c)) (hm:Meth X.K (Tbs.cad c) m f) (F:FnG X.prog X.w X.K X.mg X.base (L2.CX X.prog X.w) k f fd ps (Lk X.K (true :: fl) spec)) (hr:Rm k X.A) (hb:Binds X.K fd ps []) (tk:Takes X (WE X.K Ea)) (h0:EX X o t) (ha:EXs X (e :: es) ts) {pl:Sem Bool}
  (hst:starEach (e :: es) X.env=(false,eval e X.env) :: starEach es X.env:=by rfl) (hpl:(backTo pos (starEach es X.env)).any (·.1)=false:=by rfl)
  (ht:eval (.Call (.Attribute o m apos) (e :: es) [] pos) X.env=(do
   let ov ← eval o X.env
   standAt apos.atName
   let (f,first) ← holding [ov] (getMethod ov m pl)
   callWith pos f first (backTo pos (starEach (e :: es) X.env)) (backToKw pos (keywordEach [] X.env))):=by rfl):EX X (.Call (.Attribute o m apos) (e :: es) [] pos) (Nu j c m fl spec Ea t ts):=by
 refine ⟨PE.imp (JX (E:=fun σ cls d H'=>WE X.K Ea cls d σ H') h0.pe hc hm F hr hb (fun σ=>passAt tk σ) ha.pa hst hpl ht) fun σ H Q h => ?_⟩
 obtain ⟨a,hv,h⟩:=V1 h
 exact (CJ (yC (Jb (n:=(e :: es).length+1) h))).imp2 fun v H' q=>⟨q.1,q.2.imp2 fun vs H2 z=>z.impE fun cls d H3 y=>aB8 hv y⟩
end
section
variable [Tbs] [Bas]
def Zt (i:Nat) (c f:Str) (n:Nat) (te:XT):ST:=fun D ρ=>te ρ fun p ρ1=>fV p ρ1 fun y ρ2 => ∃ a fs t0,ρ2[i]? = some (some (.ina a c fs))∧fs[n]? = some (f, .val t0)∧fs.length<1000∧D.nx (ρ2.set i (some (.ina a c (fs.set n (f, .val y)))))
variable {X:Cx} {c f x:Str} {n:Nat} {e:Expr} {te:XT} {px spos pos:Pos} {P:Nat->Bool}
theorem Zu (i:Nat) (hc:Cls X.K (Tbs.cad c)) (hn:NoAttr X.K (Tbs.cad c) f) (he:EX X e te) (hN:X.N[i]? = some x:=by rfl)
  (hv:Vis X.env.scope x:=by first | exact Or.inl rfl | exact Or.inr (Or.inl rfl) | exact Or.inr (Or.inr rfl)) (hd:(x == ("__debug__" : Str))=false:=by decide) (hcd:(x == ("__classdict__" : Str))=false:=by decide)
  (hs:swapsWith e (some (.Attribute (.Name x px) f spos)) pos.line X.env=pure false:=by rfl) :
  SX X P (.Assign [.Attribute (.Name x px) f spos] e pos) (Zt i c f n te):=by
 refine ⟨PS.imp (ps_fld (pe_var (i:=i) hN hv hd hcd) he.pe hs) ?_⟩
 rintro D σ H ⟨ρ,fp,G,Da,R,h,fin⟩
 refine ⟨ρ,fp,G,_,R,h,fun v p A H1 ρ1 fp1 R1 r1 x1 h1 => ?_⟩
 obtain ⟨y,ρ2,fp2,R2,r2,i2,h2⟩:=jR R1 r1 h1
 obtain ⟨a,fs,t0,e0,en,lf,h3⟩:=h2
 obtain ⟨v',hv',ev,dx,vs,B,eA,ha,rn⟩:=R2.ex i _ e0
 subst ev
 have x2:Ext H (Fo fp) H1 (Fo fp2):=x1.or.weak (fun _ z=>z) i2
 refine ⟨.ref a,hv',a,_,dx,vs,rfl,ha,hc,hn,by rw [rn.len];exact lf, ?_⟩
 have ma:a∈fp2 i:=by rw [eA];exact List.mem_cons_self
 have ndf:=R2.nd i
 rw [eA] at ndf
 have ux:Ext H1 (Fo fp2) (upd H1 a (.ins (Tbs.cad c) dx (putF f v vs))) (Fo fp2):=fW ha trivial ⟨i,ma⟩ fun _ z=>z
 have rn' : RIn X.K (upd H1 a (.ins (Tbs.cad c) dx (putF f v vs))) (Or1 (Fo fp2) G) vs fs B:=rn.imp (fun _ _ z=>RP.ext z (ux.addG G)) (fun _ _ z=>RDz.ext z (ux.addG G)) fun b m w e _=>by
  rw [upd_ne]
  ·exact e
  ·rintro rfl
   exact (List.nodup_cons.mp ndf).1 m
 have rn2:=RIn.setV (RP.ext r2 (ux.addG G)) rn' en
 obtain ⟨R4,x4⟩:=R2.mutG (u' := .ins (Tbs.cad c) dx (putF f v vs)) (o' := .ina a c (fs.set n (f, .val y))) e0 hv' ma ha trivial ⟨rfl,dx,_,B,eA,upd_same,rn2⟩
 exact fin.nx σ _ _ fp2 R4 (x2.trans x4) .refl h3
end
def Jc (K:PySem.W.Frag) (C:Addr):Sp:=fun vs H Q _ => ∃ a,vs=[.ref a]∧H a=some (exo a C none)∧Q .non H
structure V3 (K:PySem.W.Frag) (C fI:Addr):Prop where
 ox:OexC K C
 ini:PySem.W.findIn K (.ref C) "__init__" = some (some (.ref fI))
 ti:PySem.W.typeIn K (.ref fI)=some (.type "function")
section
variable {P:Program} {w:World} {K:PySem.W.Frag} {mg:Str->Option Value} {base:Heap} {qual:Str} {scope:Scope} {params:Arguments} {f C fI B:Addr} {fd:FuncData} {txt bx:Str} {p1 p2 p3 p4 p5 p6:Pos} {kk:Nat}
theorem XM (bT:Wm K mg bx B) (cT:V3 K C fI)
  (F:FunD K "__init__" qual params [.Expr (.Call (.Attribute (.Name bx p1) "__init__" p2) [.Name "self" p3, .Constant (.str txt) kk p4] [] p5) p6] scope [] [] f fd)
  (S:FnScope ["self"] ["self"] scope) (hb : ∀ (cdv:Value) (L f:Addr),(envOfC qual scope L f cdv).kindOf bx=some .globalImplicit)
  (hd1:(bx == ("__debug__" : Str))=false)
  (v0 : ∀ (cdv:Value) (L f:Addr),Vis (envOfC qual scope L f cdv).scope "self")
  (hc : ∀ (env:Env), ∃ pl,eval (.Call (.Attribute (.Name bx p1) "__init__" p2) [.Name "self" p3, .Constant (.str txt) kk p4] [] p5) env=(do
   let ov ← eval (.Name bx p1) env
   standAt p2.atName
   let (f,first) ← holding [ov] (getMethod ov "__init__" pl)
   callWith p5 f first (backTo p5 (starEach [.Name "self" p3, .Constant (.str txt) kk p4] env)) (backToKw p5 (keywordEach [] env))))
  (hs : ∀ env,swapsWith (.Call (.Attribute (.Name bx p1) "__init__" p2) [.Name "self" p3, .Constant (.str txt) kk p4] [] p5) none p6.line env=pure false) :
  FnOk P w K mg base CX0 1 f fd ["self"] (Jc K C):=by
 refine F.ok S (fun vs H Q E ⟨a,h,_⟩=>by rw [h];rfl) fun cdv A outer s H vs Q E hr h => ?_
 obtain ⟨a,rfl,ha,q⟩:=h
 obtain ⟨pl,hc⟩:=hc (cxOf CX0 P w K mg base ["self"] qual scope f cdv A outer s H E).nox.env
 let X:=(cxOf CX0 P w K mg base ["self"] qual scope f cdv A outer s H E).nox
 have n0:X.N[0]? = some ("self" : Str):=rfl
 have e0 : ∀ {pos:Pos},PE X (.Name "self" pos) (tVar 0):=fun {pos}=>pe_var n0 (v0 cdv _ _) (by decide) (by decide)
 have st1:PS X (.Expr (.Call (.Attribute (.Name bx p1) "__init__" p2) [.Name "self" p3, .Constant (.str txt) kk p4] [] p5) p6) _ :=
  ps_expr (QF (X:=X) (pl:=pl) bT (hb cdv _ _) (pa_cons e0 (pa_cons pe_str pa_nil)) hc hd1) (hs _)
 refine ⟨_,PSs.nox (pss_one st1), ?_⟩
 have g0:(L2.start ["self"] [V.ref a])[0]? = some (some (V.ref a)):=rfl
 refine ⟨_,g0, ?_⟩
 exact ⟨a,C, [.str txt],rfl,by simp,cT.ox,ha,q⟩
end
def tMkO0 (C:Addr) (sp:Sp):L2.St->Hp->XK->Prop:=fun σ H Q => ∀ a,H a=none->sp [.ref a] (upd H a (exo a C none)) (fun v H2=>v = .non∧H2 a=some (exo a C none)∧Q (.ref C) none (del H2 a)) (fun _ _ _=>False)
section
variable {X:Cx}
theorem Zv {pins:List (Addr×Obj)} {σ : L2.St} {H1 H2:Hp} {Q:XK} {hp hp2 h2:Heap} {g1 g2:Array GenState} {d1 d2:Drawn} {t1 t2:Nat} {os1 os2:OsState} {a C:Addr} (T:Raises X (.ref C)) (I1:Inv X pins σ H1 ⟨hp,g1,d1,t1,os1⟩)
  (ha:hp.objs.size≤a) (k : ∀ b o,hp.get? b=some o->hp2.get? b=some o) (un:Un (frs X.stack) [] (upd H1 a (exo a C none)) H2 hp2 h2) (hok:HOk X.prog X.w H2 h2) (ho:os2=os1) (hb:AllBare g2)
  (ea:H2 a=some (exo a C none)) (q:Q (.ref C) none (del H2 a)):MkP X pins σ Q (.ref a) ⟨h2,g2,d2,t2,os2⟩:=by
 obtain ⟨t0,hoe⟩:=exo_at hok ea
 have hn:H1 a=none:=I1.hok.fresh ha
 obtain ⟨G,g1',g2'⟩:=restrict h2 fun b=>decide (b≠a)
 have gk : ∀ b,b≠a->G.get? b=h2.get? b:=fun b hb=>g1' b (decide_eq_true hb)
 have ge:G.get? a=none:=g2' a (by simp)
 have nha : ∀ {b:Addr} {o:Obj},hp.get? b=some o->b≠a:=fun {b o} z=>Nat.ne_of_lt (Nat.lt_of_lt_of_le (Heap.lt_size z) ha)
 have up : ∀ {b:Addr},b≠a->H1 b=none->upd H1 a (exo a C none) b=none:=fun {b} hb n=>by rw [upd_ne hb];exact n
 have U:Un (frs X.stack) [] H1 (del H2 a) hp G := {
  keep:=fun b o z n hf hx=>by
   rw [gk b (nha z)]
   exact un.keep b o (k b o z) (up (nha z) n) hf hx
  slot:=fun b o z n hf hx=>by
   rw [gk b (nha z)]
   exact un.slot b o (k b o z) (up (nha z) n) hf hx
  free:=fun b o z n hx=>by
   rw [del_ne (nha z)]
   exact un.free b o (k b o z) (up (nha z) n) hx
  there:=fun b o z hx=>by
   rw [gk b (nha z)]
   exact un.there b o (k b o z) hx
  tups:=fun b xs z=>by
   rw [del_ne (ne_of_none z hn)]
   exact un.tups b xs (by rw [upd_ne (ne_of_none z hn)];exact z)
  frzs:=fun b o v z=>by
   rw [del_ne (ne_of_none z hn)]
   exact un.frzs b o v (by rw [upd_ne (ne_of_none z hn)];exact z)
  tbls:=fun b ps z=>by
   rw [del_ne (ne_of_none z hn)]
   exact un.tbls b ps (by rw [upd_ne (ne_of_none z hn)];exact z) }
 have hok3:HOk X.prog X.w (del H2 a) G:=fun b o z=>by
  have hba:b≠a:=fun e=>by
   rw [e,del_same] at z
   cases z
  rw [del_ne hba] at z
  have noa : ∀ {c:Addr},H2 c=some (.own b)->c≠a:=fun {c} hc=>at_ne ea hc exo_own
  exact (hok b o z).stay (fun c v hc y=>by
    have hca:c≠a:=by
     rcases hc with hc | hc
     ·rw [hc]
      exact hba
     ·exact noa hc
    rw [gk c hca]
    exact y)
   (fun c hc=>by rw [del_ne (noa hc)];exact hc) (fun c xs hc=>by rw [del_ne (at_ne ea hc exo_tup)];exact hc)
 have J:Inv X pins σ (del H2 a) ⟨G,g2,d2,t2,os2⟩:=I1.call' (ch:=[]) ho U hok3 hb (fun b z=>absurd z (by simp))
 refine ⟨a,_,_,⟨G,g2,d2,t2,os2⟩,_, .ref C,none,rfl,J,fun b o z => ?_,ge,hoe,⟨rfl,rfl⟩,rfl,rfl,del_same,rfl,hb,T,q⟩
 by_cases hba:b=a
 ·rw [hba,ge] at z
  cases z
 ·exact (gk b hba).symm.trans z
theorem XN {CX:CXT} {x:Str} {C fI:Addr} {k:Nat} {fd:FuncData} {ps:List Str} {sp:Sp} {p pos:Pos} (T:OexC X.K C) (iC:PySem.W.findIn X.K (.ref C) "__init__" = some (some (.ref fI))) (tI:PySem.W.typeIn X.K (.ref fI)=some (.type "function"))
  (F1:FnOk X.prog X.w X.K X.mg X.base CX k fI fd ps sp) (hr:Room (k+1) X.A) (hb:Binds X.K fd ps []) (hx:Passes CX X (fun _ _ _=>False)) (hg:Gl X x) (hm:X.mg x=some (.ref C))
  (hdb:(x == ("__debug__" : Str))=false:=by decide) :
  PMk X (.Call (.Name x p) [] [] pos) (tMkO0 C sp):=by
 intro pins s σ H Q I1 q1
 obtain ⟨nm,q,N,bs,bm,sn,sub,ab,col,dd,k0,k1,k2,k3,k5,hC,hbm⟩:=T.cls
 refine wpAny_Call_Name_kw (ld_glob I1 hg hm ?_ hdb)
 refine PySem.W.callWith_K0 I1.kIn T.kC ?_
 obtain ⟨hp,g,dr,tk,os⟩:=s
 have hsz:hp.objs.size≤hp.objs.size+1:=Nat.le_succ _
 have hn:H (hp.objs.size+1)=none:=I1.hok.fresh hsz
 have hq:=q1 (hp.objs.size+1) hn
 have kk : ∀ b o,hp.get? b=some o->((hp.push (PySem.W.kdv_tup [])).push (PySem.HandSPX.excO C hp.objs.size)).get? b=some o:=fun b o e=>Heap.get?_push_of_some _ (Heap.get?_push_of_some _ e)
 have hget:((hp.push (PySem.W.kdv_tup [])).push (PySem.HandSPX.excO C hp.objs.size)).get? (hp.objs.size+1)=some (PySem.HandSPX.excO C hp.objs.size):=by heap_get
 have I2:Inv X pins σ (upd H (hp.objs.size+1) (exo (hp.objs.size+1) C none)) ⟨(hp.push (PySem.W.kdv_tup [])).push (PySem.HandSPX.excO C hp.objs.size),g,dr,tk,os⟩ :=
  I1.laid (t':=tk) (a:=hp.objs.size+1) (o:=exo (hp.objs.size+1) C none) (h':=(hp.push (PySem.W.kdv_tup [])).push (PySem.HandSPX.excO C hp.objs.size)) kk hsz (exo_ok hget)
 have r2:Vals [V.ref (hp.objs.size+1)] [Value.ref (hp.objs.size+1)] := .cons rfl .nil
 have hl : [Value.ref (hp.objs.size+1)].length=ps.length:=by
  have e:=r2.length
  rw [F1.len _ _ _ _ hq] at e
  exact e.symm
 refine wpAny_call (PySem.HandSPX.call_own F.excBase_ValueError (fun Y=>PySem.HandSPX.refsVE_contains Y bm hbm) (I1.kIn _ _ hC) (PySem.W.looks_findIn I1.kIn iC) (fun self=>PySem.W.bind_fn I1.kIn self tI) (by rw [sizeLine_eq];exact Nat.zero_le _)
  (codeAny_mono (F1.run _ X.stack _ _ ⟨[Value.ref (hp.objs.size+1)], []⟩ [Value.ref (hp.objs.size+1)] _ _ (fun _ _ _=>False) (hr.make C [] []) (I2.env0.make C [] []) (hb _ [Value.ref (hp.objs.size+1)] I2.kIn hl) r2 hq) fun r s' hq' => ?_))
 cases r with
 | error er=>exact hx pins σ _ _ er s' I2 hq'
 | ok fl =>
  cases fl with
  | ret u =>
   obtain ⟨v,H2,os2,bare2,un2,hok2,rv,ev,ea,q2⟩:=hq'
   subst ev
   obtain ⟨h2,g2,d2,t2,os'⟩:=s'
   exact ⟨rv,Zv (raises_own T.exC T.tyC) I1 hsz kk un2 hok2 os2 bare2 ea q2⟩
  | next=>exact False.elim hq'
  | brk=>exact False.elim hq'
  | cont=>exact False.elim hq'
end
section
variable [Tbs] [Bas]
def Nv (nm:Str) (Ea:Exc->aM->Prop):ST:=fun D ρ=>Ea ⟨nm,none⟩ ρ
theorem XQ {H:Hp} {a:Addr} {u:HO} (ha:H a=none):del (upd H a u) a=H:=by
 funext b
 by_cases q:b=a
 ·rw [q,del_same,ha]
 ·rw [del_ne q,upd_ne q]
theorem V4 {X:Cx} {P:Nat->Bool} {k:Nat} {nm x:Str} {fI:Addr} {fd:FuncData} {ps:List Str} {Ea:Exc->aM->Prop} {p p2 pos:Pos} (hc:X.calm=true) (tk:Takes X (WE X.K Ea)) (T:V3 X.K (Tbs.cad nm) fI) (hn:nm∈Tbs.nms)
  (F:FnOk X.prog X.w X.K X.mg X.base CX0 k fI fd ps (Jc X.K (Tbs.cad nm))) (hr:Room (k+1) X.A) (hb:Binds X.K fd ps []) (hg:Gl X x) (hm:X.mg x=some (.ref (Tbs.cad nm)))
  (hdb:(x == ("__debug__" : Str))=false:=by decide) :
  SX X P (.Raise (some (.Call (.Name x p) [] [] p2)) none pos) (Nv nm Ea):=by
 refine ⟨PS.imp (ps_raise hc tk (XN T.ox T.ini T.ti F hr hb pass0 hg hm hdb)) ?_⟩
 rintro D σ H ⟨ρ,fp,G,Da,R,h,f⟩
 intro a na
 refine ⟨a,rfl,upd_same,rfl,upd_same, ?_⟩
 rw [XQ na]
 refine ⟨⟨nm,none⟩,ρ,fp,G,R,⟨rfl,hn,fun _=>rfl,fun f' t' e' => ?_⟩,h⟩
 cases e'
end
section
variable [Tbs] [Bas]
structure aB9 (K:PySem.W.Frag) (C:Addr) (f:Str) (i:Int):Prop where
 cv : ∃ mc t,ClX.CRead K C mc∧PySem.W.findCls K (.ref C) mc f=some (.val (.int i t))
 ov : ∃ t,PySem.W.plainGet K C f=true∧PySem.W.hasDictIn K C=true∧PySem.W.findIn K (.ref C) f=some (some (.int i t))∧PySem.W.specialIn K (.int i t) "__get__" = some none
theorem Zw {X:Cx} {c x f:Str} {i:Int} {p pos:Pos} (k:aB9 X.K (Tbs.cad c) f i) (hg:Gl X x) (hm:X.mg x=some (.ref (Tbs.cad c))) (hd:(x == ("__debug__" : Str))=false:=by decide)
  (hb:attributeBase (.Name x p) f X.env (eval (.Name x p) X.env)=eval (.Name x p) X.env:=by rfl):EX X (.Attribute (.Name x p) f pos) (bJ (.int i)):=by
 obtain ⟨mc,t,r,e⟩:=k.cv
 refine ⟨PE.imp (ClX.pe_cval (pe_glob (v := .ref (Tbs.cad c)) hg hm rfl hd) hb) ?_⟩
 rintro σ H Q ⟨ρ,fp,G,Qa,R,h,fin⟩
 exact ⟨Tbs.cad c,mc, .int i, .int i t,rfl,r,⟨e,⟨t,rfl⟩⟩,fin (.int i) (.val (.pure (.int i))) [] H ρ fp R (lO (RP.int i)) (fL.refl.extA pZ) h⟩
def tICn (c f:Str) (i:Int) (t:XT):XT:=fun ρ Q=>Gk c f t ρ fun _ ρ1=>Q (.val (.pure (.int i))) ρ1
theorem Zx {X:Cx} {c f:Str} {i:Int} {e:Expr} {te:XT} {pos:Pos} (k:aB9 X.K (Tbs.cad c) f i) (he:EX X e te) (hc:PySem.W.copiedNames.contains f=false:=by decide +kernel)
  (hb:attributeBase e f X.env (eval e X.env)=eval e X.env:=by rfl):EX X (.Attribute e f pos) (tICn c f i te):=by
 obtain ⟨t,k1,k2,k3,k4⟩:=k.ov
 refine ⟨⟨fun pins s σ H Q I h => ?_⟩⟩
 have h' : LX X.K (Gk c f te) σ H fun _ H1=>Q (.int i) H1:=by
  obtain ⟨ρ,fp,G,Qa,R,h,fin⟩:=h
  exact ⟨ρ,fp,G,_,R,h,fun v p A H1 ρ1 fp1 R1 r1 x1 h1=>fin (.int i) (.val (.pure (.int i))) [] H1 ρ1 fp1 (R1.sub (fun a m=>List.mem_append_right _ m) R.g0) (lO (RP.int i)) (x1.weak (fun _ z=>z) fun a z=>z.elim .inl fun m=>(List.not_mem_nil m).elim) h1⟩
 refine attr_of hb (thn (he.pe.run pins s σ H _ I (CJ h')) fun u s1 ⟨x,H1,I1,rx,⟨a,dx,fs,ex,ea,l⟩,q⟩ => ?_)
 subst ex
 obtain rfl:u=Value.ref a:=rx
 obtain ⟨mA,O,rr,_,_,_⟩:=ins_get I1.hok ea
 have hn:mA f=none:=RelO.none_of (by rw [← l];exact rr f)
 obtain ⟨od,J,hl⟩:=O.look
 exact PySem.W.get_value I1.kIn J (PySem.W.plainGet_of k1).1 (PySem.W.findObj_cls k2 k3 k4 rfl hc (by rw [hl f,hn])) rfl ⟨.int i,H1,I1.tok _,⟨t,rfl⟩,q⟩
end
section
theorem XR {K:PySem.W.Frag} {C:Addr} (h:aAs K C=true):V3 K C (He.ma K C "__init__"):=by
 obtain ⟨h1,h⟩:=ba2 h
 obtain ⟨h2,h⟩:=ba2 h
 obtain ⟨h3,h⟩:=ba2 h
 obtain ⟨h4,h⟩:=ba2 h
 obtain ⟨h5,h⟩:=ba2 h
 obtain ⟨h7,h8⟩:=ba2 h
 exact ⟨⟨Ud h1,of_decide_eq_true h2,of_decide_eq_true h3,of_decide_eq_true h4,h5⟩,of_decide_eq_true h7,of_decide_eq_true h8⟩
theorem XS {K:PySem.W.Frag} {C:Addr} {f:Str} {i:Int} (h:Yt K C f i=true):aB9 K C f i:=by
 unfold Yt at h
 obtain ⟨h1,h⟩:=ba2 h
 obtain ⟨h2,h⟩:=ba2 h
 obtain ⟨h3,h4⟩:=ba2 h
 obtain ⟨a1,a2⟩:=ba2 h1
 obtain ⟨b1,b2⟩:=ba2 h3
 constructor
 ·split at h2
  ·rename_i j t e
   exact ⟨.type "type",t,⟨a1,of_decide_eq_true a2⟩,by rw [e,of_decide_eq_true h2]⟩
  ·cases h2
 ·split at h4
  ·rename_i j t e
   obtain ⟨c1,c2⟩:=ba2 h4
   have ej:j=i:=of_decide_eq_true c1
   subst ej
   exact ⟨t,b1,b2,e,of_decide_eq_true c2⟩
  ·cases h4
end
section
variable [Tbs] [Bas]
theorem Do {c f:Str} {n:Nat} {a:Addr} {fs:List (Str×Fl)} {ρ : aM} {Q:Opd->aM->Prop}:XJ 0 (tFv 0 c f n) (some (.ina a c fs) :: ρ) Q=Ht c f n (Ml fun t=>Q (.val (.pure t)) (some (.ina a c fs) :: ρ)) (some (some (.ins c fs))):=by
 refine propext ⟨?_, ?_⟩
 ·rintro ⟨a',c',fs',e,h⟩
  have e:some (some (O.ina a c fs))=some (some (O.ina a' c' fs')):=e
  cases e
  have h:Ht c f n (Ml fun t=>(∃ o,Opd.val (.pure t) = .val o) ∧ ∃ fs',(some (O.ins c fs) :: ρ)[0]? = some (some (.ins c fs'))∧Q (.val (.pure t)) ((some (O.ins c fs) :: ρ).set 0 (some (.ina a c fs')))) (some (some (.ins c fs))):=h
  unfold Ht at h ⊢
  refine ⟨h.1, ?_⟩
  obtain ⟨_,h⟩:=h
  revert h
  cases fs[n]? with
  | none=>exact fun h=>h
  | some x =>
   obtain ⟨g,l⟩:=x
   cases l with
   | val t =>
    rintro ⟨e,h⟩
    obtain ⟨_,fs2,e2,h⟩:=h
    have e2:some (some (O.ins c fs))=some (some (O.ins c fs2)):=e2
    cases e2
    exact ⟨e,h⟩
   | _=>exact fun h=>h.2.elim
 ·intro h
  refine ⟨a,c,fs,rfl, ?_⟩
  show Ht c f n (Ml fun t=>(∃ o,Opd.val (.pure t) = .val o) ∧ ∃ fs',(some (O.ins c fs) :: ρ)[0]? = some (some (.ins c fs'))∧Q (.val (.pure t)) ((some (O.ins c fs) :: ρ).set 0 (some (.ina a c fs')))) (some (some (.ins c fs)))
  unfold Ht at h ⊢
  refine ⟨h.1, ?_⟩
  obtain ⟨_,h⟩:=h
  revert h
  cases fs[n]? with
  | none=>exact fun h=>h
  | some x =>
   obtain ⟨g,l⟩:=x
   cases l with
   | val t=>exact fun h=>⟨h.1,⟨_,rfl⟩,fs,rfl,h.2⟩
   | _=>exact fun h=>h.2.elim
theorem aBa {k:Thk} {j:Nat} {c:Str} {spec:TkI} {Ea:Exc->aM->Prop} {fs:List (Str×Fl)} {ρ : aM} {Q:Opd->aM->Prop}:XC k j c spec Ea (some (.thi k j c fs) :: ρ) Q=spec fs (fun fs' o=>Q (.val o) (some (.thi k j c fs') :: ρ)) (fun fs' e=>Ea e (some (.thi k j c fs') :: ρ)):=by
 refine propext ⟨?_,fun h=>⟨fs,rfl,h⟩⟩
 rintro ⟨fs',e,h⟩
 have e:some (some (O.thi k j c fs))=some (some (O.thi k j c fs')):=e
 cases e
 exact h
theorem XX {k:Thk} {j:Nat} {c:Str} {Qa:List (Str×Fl)->O->Prop} {fs:List (Str×Fl)} {ρ : aM} {o:O}:(Uw k j c Qa).rt o (some (.thi k j c fs) :: ρ)=Qa fs o:=by
 refine propext ⟨?_,fun h=>⟨fs,rfl,h⟩⟩
 rintro ⟨fs',e,h⟩
 have e:some (some (O.thi k j c fs))=some (some (O.thi k j c fs')):=e
 cases e
 exact h
theorem Xa {k:Thk} {j:Nat} {c:Str} {Qa:List (Str×Fl)->O->Prop} {fs:List (Str×Fl)} {ρ : aM}:(Uw k j c Qa).nx (some (.thi k j c fs) :: ρ)=Qa fs (.pure .none):=by
 refine propext ⟨?_,fun h=>⟨fs,rfl,h⟩⟩
 rintro ⟨fs',e,h⟩
 have e:some (some (O.thi k j c fs))=some (some (O.thi k j c fs')):=e
 cases e
 exact h
theorem Yb {Cg:TkI->List (Str×Fl)->(List (Str×Fl)->O->Prop)->Prop} {c:Str} {tb:(Exc->aM->Prop)->XT} {fs:List (Str×Fl)} {ρ : aM} {Q:Opd->aM->Prop} (h:Cg (wY tb (vws (some (.ins c fs) :: ρ)) 0 c) fs fun fs' o=>Q (.val o) (some (.ins c fs') :: ρ)):XD Cg 0 c tb (some (.ins c fs) :: ρ) Q:=⟨fs,rfl,h⟩
end
end DL
namespace WS
open PySem PySem.Spec L2 DL
open PyProof.Rows hiding St
def sO:Str := "abcdefghijklmnopqrstuvwxyz"
def seqT (b:Bool) (ts:List T):T:=if b=true then .tuple ts else .list ts
def Dk (n:Nat) (o:O):Prop := ∃ a b c:Int,o = .lst [.int a, .int b, .int c]∧0≤a∧a<10 ^ 300∧0≤b∧b<2305843009213693921∧0≤c∧c≤n
theorem Dk.mono {n m:Nat} {o:O} (h:Dk n o) (l:n≤m):Dk m o:=by
 obtain ⟨a,b,c,e,h1,h2,h3,h4,h5,h6⟩:=h
 exact ⟨a,b,c,e,h1,h2,h3,h4,h5,by omega⟩
def Bd (k:Nat) (i:Int):Prop:=i.natAbs<2 ^ k
theorem Bd.add {a b:Nat} {i j:Int} (h1:Bd a i) (h2:Bd b j):Bd (a+b+1) (i+j):=by
 unfold Bd at *
 have e1:2 ^ a≤2 ^ (a+b):=Nat.pow_le_pow_right (by decide) (by omega)
 have e2:2 ^ b≤2 ^ (a+b):=Nat.pow_le_pow_right (by decide) (by omega)
 have e3:2 ^ (a+b+1)=2 * 2 ^ (a+b):=by rw [Nat.pow_succ,Nat.mul_comm]
 omega
theorem Bd.mul {a b:Nat} {i j:Int} (h1:Bd a i) (h2:Bd b j):Bd (a+b) (i * j):=wide_lt h1 h2
theorem Bd.of {k:Nat} {i j:Int} (h0:0≤i) (h:i≤j) (hj:Bd k j):Bd k i:=Nat.lt_of_le_of_lt (by omega) hj
theorem Bd.log {a:Nat} {i:Int} (h:Bd a i) (h0:0<a):i.natAbs.log2<a:=PySem.Flt.log2_lt_of h0 h
theorem Ql {a b:Nat} {i j:Int} (h1:Bd a i) (h2:Bd b j) (h0:0<a) (h3:0<b) (h:a+b≤1000000):i.natAbs.log2+j.natAbs.log2<1000000:=wide_mul h1 h2 h0 h3 h
theorem Qm {k:Nat} {i j:Int} (h:0<j) (hj:Bd k j):Bd k (i % j):=by
 have h1:=Int.emod_nonneg i (by omega:j≠0)
 have h2:=Int.emod_lt_of_pos i h
 unfold Bd at *
 omega
theorem at3_0 {α : Type} (a b c : α):atI [a,b,c] 0=some a:=rfl
theorem at3_1 {α : Type} (a b c : α):atI [a,b,c] 1=some b:=rfl
theorem at3_2 {α : Type} (a b c : α):atI [a,b,c] 2=some c:=rfl
theorem ix3_0:ixN 3 0=some 0:=rfl
theorem ix3_2:ixN 3 2=some 2:=rfl
theorem at5 (p q r s t:T) (i:Int) : ∃ z,atI [p,q,r,s,t] (i % 5)=some z∧z∈[p,q,r,s,t]:=by
 have : i % 5=0∨i % 5=1∨i % 5=2∨i % 5=3∨i % 5=4:=by omega
 rcases this with e | e | e | e | e<;>rw [e]
 ·exact ⟨p,rfl,by simp⟩
 ·exact ⟨q,rfl,by simp⟩
 ·exact ⟨r,rfl,by simp⟩
 ·exact ⟨s,rfl,by simp⟩
 ·exact ⟨t,rfl,by simp⟩
def au:bU:=fun os Q => ∃ n d m,n≤1000000∧os=[d, .pure (.int m)]∧Dk n d∧1≤m∧m≤1000000000 ∧ ∀ r d',0≤r->r<m->Dk (n+1) d'->Q (.pure (.int r)) [d']
def sS:ST:=(eO (sIf (mV (bF gGt (bF gIx (aF 0) (bJ (.int 0))) (bJ (.int 0)))) (eO (jT 2 (bF uw (bF gIx (aF 0) (bJ (.int 0))) (aF 1)))
 (eO (gh 0 (bF lA (bF gIx (aF 0) (bJ (.int 0))) (aF 1)) (bJ (.int 0)))
 (j6 (fun j=>[true,false].getD j false) (aF 2)))) gD)
 (eO (gh 0 (bF gG (bF gIx (aF 0) (bJ (.int 2))) (bJ (.int 1))) (bJ (.int 2)))
 (eO (jT 3 (bF gIx (gA (aD (bJ (.int 2147483647)) (aD (bJ (.int 2147483629)) (aD (bJ (.int 2147483587)) (aD (bJ (.int 2147483579)) (aD (bJ (.int 2147483563)) aH)))))) (bF uw (bF gIx (aF 0) (bJ (.int 2))) (bJ (.int 5)))))
 (eO (jT 4 (bF uw (bF xJ (bF gG (bF gG (bF gIx (aF 0) (bJ (.int 1))) (bF ul (bF ul (bJ (.int 98317)) (bF gIx (aF 0) (bJ (.int 2)))) (bF gIx (aF 0) (bJ (.int 2))))) (bJ (.int 43))) (bJ (.int 3))) (aF 3)))
 (j6 (fun j=>[true,false].getD j false) (bF uw (bF lA (bF uw (bF ul (aF 4) (bF gG (bF uw (aF 4) (bJ (.int 10007))) (bF ul (bJ (.int 83)) (bF gIx (aF 0) (bJ (.int 2)))))) (bJ (.int 2305843009213693907))) (bJ (.int 89))) (aF 1)))))))
theorem Lp (os:List O) (Qa:O->List O->Prop) (_:os.length=2) (h:au os Qa):sS (aP [true,false] Qa) (aK 5 os):=by
 obtain ⟨n,d,m,hn,rfl,⟨a,b,c,rfl,ha,ha2,hb,hb2,hc,hc2⟩,h1,h2,h⟩:=h
 unfold sS
 simp only [eO,gD,j6,nJ,eY,sIf,jT,gh,xD,uo,Bg,zm,bOr,wR,mV,bOf,aF,bJ,bF,xf,aH,aD,g2,g1,gN,dH,aq,aV,cZ,gA,dD,dM,tRg,rgK.eq_1,dU,dG.eq_1,dF.eq_1,jM,Bf,km,DR,eZ,rY,Option.some.injEq,exists_eq,exists_eq',false_implies,Opd.slot.injEq,forall_eq,forall_eq',bO,Ca,yx,lC,GP,nQ,ph,cX,eU,gY,dJ,gW,iW,bK,nM,GJ,bH,iV,cD,iU,mD,m9,fV,cA,rE,rG,zu,gG,jO,dX,dY,dZ,dh,jV,dN,dO,dR,uv,lA,uw,xJ,v4,gGe,gGt,gLe,gLt,gEq,gNe,uh,gIs,iK,rF,cP,zp,xj,xK,gM2,cH,cW,fU,lB,gIx,Opd.get,aM.at,O.frz,lsO,tuO,rR,O.fz,O.alias,m7,aP,Bj,dI,aK,dw,List.getElem?_cons_zero,List.getElem?_cons_succ,List.length_cons,List.length_nil,List.map_cons,List.map_nil,List.set_cons_zero,List.set_cons_succ,List.replicate_succ,List.replicate_zero,List.cons_append,List.nil_append,List.getD_cons_zero,List.getD_cons_succ,if_true,if_false,Bool.false_eq_true,reduceIte,reduceCtorEq,Bool.not_true,Bool.not_false,implies_true,true_and,and_true,Nat.sub_self,Nat.reduceAdd,Nat.reduceSub,Nat.zero_add,List.all_cons,List.all_nil,Bool.and_true,Bool.true_and,at3_0,at3_1,at3_2,ix3_0,ix3_2]
 have bm:Bd 31 m:=by unfold Bd;omega
 have bc:Bd 21 (c+1):=by unfold Bd;omega
 have bb:Bd 62 b:=by unfold Bd;omega
 by_cases g:0<a
 ·rw [decide_eq_true g,if_pos rfl]
  refine ⟨by omega,rfl,by omega,Nat.lt_trans (bm.log (by decide)) (by decide),h _ _ (Int.emod_nonneg _ (by omega)) (Int.emod_lt_of_pos _ (by omega)) ?_⟩
  have e1:0≤a / m:=Int.ediv_nonneg ha (by omega)
  have e2:a / m≤a:=Int.ediv_le_self _ ha
  exact ⟨_,_,_,rfl,e1,by omega,hb,hb2,hc,by omega⟩
 ·rw [decide_eq_false g,if_neg Bool.false_ne_true]
  refine ⟨by decide, ?_⟩
  obtain ⟨z,e,hz⟩:=at5 (.int 2147483647) (.int 2147483629) (.int 2147483587) (.int 2147483579) (.int 2147483563) (c+1)
  rw [e]
  obtain ⟨p,rfl,hp,hp2⟩ : ∃ p:Int,z = .int p∧0<p∧p<2147483648:=by
   simp only [List.mem_cons,List.not_mem_nil,or_false] at hz
   rcases hz with rfl | rfl | rfl | rfl | rfl<;>exact ⟨_,rfl,by decide,by decide⟩
  have bp:Bd 31 p:=by unfold Bd;omega
  have k1:Bd 17 98317:=by unfold Bd;decide
  have k2:Bd 7 83:=by unfold Bd;decide
  have k3:Bd 14 10007:=by unfold Bd;decide
  have k4:Bd 6 43:=by unfold Bd;decide
  have m1:=k1.mul bc
  have m2:=m1.mul bc
  have m3:=(bb.add m2).add k4
  have q1:=Qm (i:=(b+98317 * (c+1) * (c+1)+43) ^ Int.toNat 3) hp bp
  have q2:=(Qm (i:=(b+98317 * (c+1) * (c+1)+43) ^ Int.toNat 3 % p) (by decide:(0:Int)<10007) k3).add (k2.mul bc)
  refine ⟨rfl,Ql k1 bc (by decide) (by decide) (by decide),Ql m1 bc (by decide) (by decide) (by decide),by decide,by decide,Nat.lt_trans (m3.log (by decide)) (by decide),hp,rfl,by decide,Ql k2 bc (by decide) (by decide) (by decide),Ql q1 q2 (by decide) (by decide) (by decide),by decide,by decide,by decide,by omega, ?_⟩
  exact h _ _ (Int.emod_nonneg _ (by omega)) (Int.emod_lt_of_pos _ (by omega)) ⟨_,_,_,rfl,ha,ha2,hb,hb2,by omega,by omega⟩
def seq2:List O->Option (O×List T)
 | [d, .pure (.list ts)]=>some (d,ts)
 | [d, .pure (.tuple ts)]=>some (d,ts)
 | _=>none
theorem Zy {os:List O} {d:O} {ts:List T} (h:seq2 os=some (d,ts)):os=[d, .pure (.list ts)]∨os=[d, .pure (.tuple ts)]:=by
 unfold seq2 at h
 split at h
 ·cases h;exact .inl rfl
 ·cases h;exact .inr rfl
 ·cases h
def bQ:bU:=fun os Q => ∃ n d ts,n≤1000000∧seq2 os=some (d,ts)∧Dk n d∧ts≠[]∧ts.length≤1000000 ∧ ∀ t d',t∈ts->Dk (n+1) d'->Q (.pure t) [d']
def wZ:ST:=(j6 (fun j=>[true,false].getD j false) (bF gIx (aF 1) (aV [true,false] au (aD (aF 0) (aD (aq rF (aD (aF 1) aH)) aH)))))
theorem Dk.frz {n:Nat} {o:O} (h:Dk n o) : ∃ ds,o = .lst ds:=by obtain ⟨a,b,c,rfl,_⟩:=h;exact ⟨_,rfl⟩
theorem Qn {ts:List T} {r:Int} (h0:0≤r) (h1:r<ts.length) : ∃ t,atI ts r=some t∧t∈ts:=by
 have hl:r.toNat<ts.length:=by omega
 refine ⟨ts[r.toNat], ?_,List.getElem_mem _⟩
 unfold atI ixN
 rw [if_pos h0,if_pos h1]
 exact List.getElem?_eq_getElem hl
theorem Ny (os:List O) (Qa:O->List O->Prop) (_:os.length=2) (h:bQ os Qa):wZ (aP [true,false] Qa) (aK 2 os):=by
 obtain ⟨n,d,ts,hn,hs,hd,hne,hl,h⟩:=h
 obtain ⟨ds,rfl⟩:=hd.frz
 have hp:0<ts.length:=List.length_pos_iff.mpr hne
 unfold wZ
 rcases Zy hs with rfl | rfl
 all_goals
  simp only [eO,gD,j6,nJ,eY,sIf,jT,gh,xD,uo,Bg,zm,bOr,wR,mV,bOf,aF,bJ,bF,xf,aH,aD,g2,g1,gN,dH,aq,aV,cZ,gA,dD,dM,tRg,rgK.eq_1,dU,dG.eq_1,dF.eq_1,jM,Bf,km,DR,eZ,rY,Option.some.injEq,exists_eq,exists_eq',false_implies,Opd.slot.injEq,forall_eq,forall_eq',bO,Ca,yx,lC,GP,nQ,ph,cX,eU,gY,dJ,gW,iW,bK,nM,GJ,bH,iV,cD,iU,mD,m9,fV,cA,rE,rG,zu,gG,jO,dX,dY,dZ,dh,jV,dN,dO,dR,uv,lA,uw,xJ,v4,gGe,gGt,gLe,gLt,gEq,gNe,uh,gIs,iK,rF,cP,zp,xj,xK,gM2,cH,cW,fU,lB,gIx,Opd.get,aM.at,O.frz,lsO,tuO,rR,O.fz,O.alias,m7,aP,Bj,dI,aK,dw,List.getElem?_cons_zero,List.getElem?_cons_succ,List.length_cons,List.length_nil,List.map_cons,List.map_nil,List.set_cons_zero,List.set_cons_succ,List.replicate_succ,List.replicate_zero,List.cons_append,List.nil_append,List.getD_cons_zero,List.getD_cons_succ,if_true,if_false,Bool.false_eq_true,reduceIte,reduceCtorEq,Bool.not_true,Bool.not_false,implies_true,true_and,and_true,Nat.sub_self,Nat.reduceAdd,Nat.reduceSub,Nat.zero_add,List.all_cons,List.all_nil,Bool.and_true,Bool.true_and]
  refine ⟨n,_,_,hn,rfl,hd,by omega,by omega,fun r d' h0 h1 hd' => ?_⟩
  obtain ⟨ds',rfl⟩:=hd'.frz
  obtain ⟨t,e,m⟩:=Qn h0 h1
  simp only [eO,gD,j6,nJ,eY,sIf,jT,gh,xD,uo,Bg,zm,bOr,wR,mV,bOf,aF,bJ,bF,xf,aH,aD,g2,g1,gN,dH,aq,aV,cZ,gA,dD,dM,tRg,rgK.eq_1,dU,dG.eq_1,dF.eq_1,jM,Bf,km,DR,eZ,rY,Option.some.injEq,exists_eq,exists_eq',false_implies,Opd.slot.injEq,forall_eq,forall_eq',bO,Ca,yx,lC,GP,nQ,ph,cX,eU,gY,dJ,gW,iW,bK,nM,GJ,bH,iV,cD,iU,mD,m9,fV,cA,rE,rG,zu,gG,jO,dX,dY,dZ,dh,jV,dN,dO,dR,uv,lA,uw,xJ,v4,gGe,gGt,gLe,gLt,gEq,gNe,uh,gIs,iK,rF,cP,zp,xj,xK,gM2,cH,cW,fU,lB,gIx,Opd.get,aM.at,O.frz,lsO,tuO,rR,O.fz,O.alias,m7,aP,Bj,dI,aK,dw,List.getElem?_cons_zero,List.getElem?_cons_succ,List.length_cons,List.length_nil,List.map_cons,List.map_nil,List.set_cons_zero,List.set_cons_succ,List.replicate_succ,List.replicate_zero,List.cons_append,List.nil_append,List.getD_cons_zero,List.getD_cons_succ,if_true,if_false,Bool.false_eq_true,reduceIte,reduceCtorEq,Bool.not_true,Bool.not_false,implies_true,true_and,and_true,Nat.sub_self,Nat.reduceAdd,Nat.reduceSub,Nat.zero_add,List.all_cons,List.all_nil,Bool.and_true,Bool.true_and]
  rw [e]
  exact h t _ m hd'
def qL:bU:=fun os Q => ∃ ts k,os=[.pure (.list ts), .pure (.int k)]∧(∀ t∈ts, ∃ i:Int,t = .int i)∧0≤k∧k≤100 ∧ ∀ d,Dk 0 d->Q d []
def sU:ST:=(eO (jT 2 (bF gG (bF ul (bJ (.int 17)) (aF 1)) (bJ (.int 9))))
 (eO (sIf (mV (bF gLt (aF 1) (aq rF (aD (aF 0) aH)))) (jT 2 (bF gIx (aF 0) (aF 1))) gD)
 (eO (jT 3 (bF ul (bF uw (aq zp (aD (aF 2) aH)) (bF xJ (bF xJ (bJ (.int 10)) (bJ (.int 60))) (bJ (.int 5)))) (aq xj (aD (bF gGe (aq zp (aD (aF 2) aH)) (bF xJ (bJ (.int 10)) (bJ (.int 18)))) aH))))
 (j6 (fun j=>[false,false].getD j false) (gA (aD (aF 3) (aD (bF uw (bF gG (bF gG (bF ul (bF uw (aF 2) (bJ (.int 2305843009213693951))) (bJ (.int 69857))) (bF ul (bF ul (bJ (.int 7907)) (aF 1)) (aF 1))) (bJ (.int 23))) (bJ (.int 2305843009213693921))) (aD (bJ (.int 0)) aH))))))))
theorem Qo {k c a:Int} {Q:O->List O->Prop} (h0:0≤k) (h1:k≤100) (h : ∀ d,Dk 0 d->Q d []) :
  0≤(60:Int)∧(60:Int)≤1000∧(Int.natAbs 10).log2<100000∧0≤(5:Int)∧(5:Int)≤1000∧((10:Int) ^ Int.toNat 60).natAbs.log2<100000∧0<((10:Int) ^ Int.toNat 60) ^ Int.toNat 5∧0≤(18:Int)∧(18:Int)≤1000∧(Int.natAbs 10).log2<100000 ∧
   (a % ((10:Int) ^ Int.toNat 60) ^ Int.toNat 5).natAbs.log2+(if decide ((10:Int) ^ Int.toNat 18≤a)=true then (1:Int) else 0).natAbs.log2<1000000∧Nat.blt 3 4=true∧0<(2305843009213693951:Int) ∧
   (c % 2305843009213693951).natAbs.log2+(Int.natAbs 69857).log2<1000000∧(Int.natAbs 7907).log2+k.natAbs.log2<1000000∧(7907 * k).natAbs.log2+k.natAbs.log2<1000000∧0<(2305843009213693921:Int) ∧
   Q (O.lst [PyData.int (a % ((10:Int) ^ Int.toNat 60) ^ Int.toNat 5 * if decide ((10:Int) ^ Int.toNat 18≤a)=true then 1 else 0),PyData.int ((c % 2305843009213693951 * 69857+7907 * k * k+23) % 2305843009213693921),PyData.int 0]) []:=by
 have e300:((10:Int) ^ Int.toNat 60) ^ Int.toNat 5=10 ^ 300:=by decide +kernel
 rw [e300]
 have p300:(0:Int)<10 ^ 300:=by decide +kernel
 have bk:Bd 7 k:=by unfold Bd;omega
 have b2:=Bd.mul (i:=7907) (a:=13) (by unfold Bd;decide) bk
 have b3:Bd 1000 ((10:Int) ^ 300):=by unfold Bd;decide +kernel
 have b4:=Qm (i:=a) p300 b3
 have m0:=Int.emod_nonneg a (by omega:(10:Int) ^ 300≠0)
 have m1:=Int.emod_lt_of_pos a p300
 have b5:=Qm (i:=c) (j:=2305843009213693951) (k:=62) (by decide) (by unfold Bd;decide)
 have l4:=b4.log (by decide)
 have l5:=b5.log (by decide)
 have lk:=bk.log (by decide)
 have l2:=b2.log (by decide)
 refine ⟨by decide,by decide,by decide,by decide,by decide,by decide +kernel,p300,by decide,by decide,by decide, ?_,rfl,by decide, ?_, ?_, ?_,by decide,h _ ⟨_,_,_,rfl, ?_, ?_,Int.emod_nonneg _ (by decide),Int.emod_lt_of_pos _ (by decide),by decide,by decide⟩⟩
 ·split
  ·have : (Int.natAbs 1).log2=0:=by decide
   omega
  ·have : (Int.natAbs 0).log2=0:=by decide
   omega
 ·have : (Int.natAbs 69857).log2=16:=by decide
  omega
 ·have : (Int.natAbs 7907).log2=12:=by decide
  omega
 ·omega
 ·split<;>omega
 ·split<;>omega
theorem Lq (os:List O) (Qa:O->List O->Prop) (_:os.length=2) (h:qL os Qa):sU (aP [false,false] Qa) (aK 4 os):=by
 obtain ⟨ts,k,rfl,hi,h0,h1,h⟩:=h
 unfold sU
 have lk:k.natAbs.log2<7:=Bd.log (by unfold Bd;omega) (by decide)
 have l17:(Int.natAbs 17).log2=4:=by decide
 (try simp only [eO,gD,j6,nJ,eY,sIf,jT,xD,uo,Bg,zm,bOr,wR,mV,bJ,bF,xf,aH,aD,dH,aq,aV,cZ,gA,dD,dM,tRg,rgK.eq_1,dU,dG.eq_1,dF.eq_1,jM,Bf,km,DR,eZ,rY,nQ,dJ.eq_1,bH,iV.eq_1,cD.eq_1,iU.eq_1,cA,rG.eq_1,rG.eq_2,Dh,zu,J9,dW.eq_1,dW.eq_2,dW.eq_3,dW.eq_4,dW.eq_5,dW.eq_6,dW.eq_7,dW.eq_8,dW.eq_9,dW.eq_10,dW.eq_11,dW.eq_12,JD,JF,O.fz.eq_1,O.fz.eq_2,O.fz.eq_3,O.fz.eq_4,O.alias.eq_1,O.alias.eq_2,O.alias.eq_3,O.alias.eq_4,O.alias.eq_5,O.alias.eq_6,O.alias.eq_7,O.alias.eq_8,O.alias.eq_9,O.alias.eq_10,O.alias.eq_11,O.alias.eq_12,atK.eq_1,JB,JC,JG,JH,JK,JL,Pr,JM,JN,Pu,lstK.eq_1,mX,g2K.eq_1,g2_k,g1K.eq_1,g1_k,gNK.eq_1,gN_k,boK.eq_1,Wi,aAN.eq_1,Px,U9.eq_1,Py,Q3,Lf.eq_1,Lg.eq_1,Wt,xq,Ry.eq_1,Rx.eq_1,QS,Um.eq_1,Ul.eq_1,Wv,Uq.eq_1,Uo.eq_1,Wu.eq_1,Ww.eq_1,tOrS,aAY.eq_1,La.eq_1,La.eq_2,La.eq_3,La.eq_4,Q4,Ro.eq_1,Ro.eq_2,Ro.eq_3,Q5,UG.eq_1,JP,itK.eq_1,JQ,UJ.eq_1,JR,Vu.eq_1,Vu.eq_2,Q6,Gj.eq_1,Gj.eq_2,De,aAO.eq_1,Q7,aAP.eq_1,zA,zB,Ld.eq_1,Df,Le.eq_1,Dg,bO.eq_1,bK.eq_1,bK.eq_2,bK.eq_3,gG.eq_1,gG.eq_2,gG.eq_3,gG.eq_4,gG.eq_5,gG.eq_6,jO.eq_1,jO.eq_2,dX,dY,dZ,dh,jV.eq_1,dN,dO,dR,Gi.eq_1,uv.eq_1,uv.eq_2,lA.eq_1,uw.eq_1,xJ.eq_1,v4.eq_1,v4.eq_2,gGe.eq_1,gGt.eq_1,gLe.eq_1,gLt.eq_1,gLt.eq_2,gEq.eq_1,gNe.eq_1,gNe.eq_2,gNe.eq_3,gNe.eq_4,uh.eq_1,uh.eq_2,gIs.eq_1,iK.eq_1,rF.eq_1,rF.eq_2,cP.eq_1,zp.eq_1,xj.eq_1,xj.eq_2,xK.eq_1,xK.eq_2,xK.eq_3,gM2.eq_1,cH.eq_1,cH.eq_2,cW.eq_1,cW.eq_2,Gg,fU.eq_1,Et.eq_1,qI.eq_1,lB.eq_1,gM2S.eq_1,gIsB.eq_1,xN,Hr,Ho,Ae,Pk,QT,gIx.eq_1,gIx.eq_2,ati0,ati1,ati2,Option.some.injEq,exists_eq,exists_eq',false_implies,Opd.slot.injEq,forall_eq,forall_eq',Opd.get.eq_1,Opd.get.eq_2,JS,zE,O.frz.eq_1,O.frz.eq_2,Iu,O.frz.eq_4,lsO.eq_1,lsO.eq_2,tuO.eq_1,Q8,Q9,QC,aP,dI,aK,dw,List.getElem?_cons_zero,List.getElem?_cons_succ,List.length_cons,List.length_nil,List.map_cons,List.map_nil,List.set_cons_zero,List.set_cons_succ,List.replicate_succ,List.replicate_zero,List.cons_append,List.nil_append,List.getD_cons_zero,List.getD_cons_succ,if_true,if_false,Bool.false_eq_true,reduceIte,reduceCtorEq,Bool.not_true,Bool.not_false,implies_true,true_and,and_true,Nat.sub_self,Nat.reduceAdd,Nat.reduceSub,Nat.zero_add,List.all_cons,List.all_nil,Bool.and_true,Bool.true_and])
 refine ⟨by omega,rfl, ?_⟩
 by_cases g:k<ts.length
 ·rw [decide_eq_true g,if_pos rfl]
  obtain ⟨t,e,m⟩:=Qn h0 g
  obtain ⟨c,rfl⟩:=hi t m
  rw [e]
  (try simp only [eO,gD,j6,nJ,eY,sIf,jT,xD,uo,Bg,zm,bOr,wR,mV,bJ,bF,xf,aH,aD,dH,aq,aV,cZ,gA,dD,dM,tRg,rgK.eq_1,dU,dG.eq_1,dF.eq_1,jM,Bf,km,DR,eZ,rY,nQ,dJ.eq_1,bH,iV.eq_1,cD.eq_1,iU.eq_1,cA,rG.eq_1,rG.eq_2,Dh,zu,J9,dW.eq_1,dW.eq_2,dW.eq_3,dW.eq_4,dW.eq_5,dW.eq_6,dW.eq_7,dW.eq_8,dW.eq_9,dW.eq_10,dW.eq_11,dW.eq_12,JD,JF,O.fz.eq_1,O.fz.eq_2,O.fz.eq_3,O.fz.eq_4,O.alias.eq_1,O.alias.eq_2,O.alias.eq_3,O.alias.eq_4,O.alias.eq_5,O.alias.eq_6,O.alias.eq_7,O.alias.eq_8,O.alias.eq_9,O.alias.eq_10,O.alias.eq_11,O.alias.eq_12,atK.eq_1,JB,JC,JG,JH,JK,JL,Pr,JM,JN,Pu,lstK.eq_1,mX,g2K.eq_1,g2_k,g1K.eq_1,g1_k,gNK.eq_1,gN_k,boK.eq_1,Wi,aAN.eq_1,Px,U9.eq_1,Py,Q3,Lf.eq_1,Lg.eq_1,Wt,xq,Ry.eq_1,Rx.eq_1,QS,Um.eq_1,Ul.eq_1,Wv,Uq.eq_1,Uo.eq_1,Wu.eq_1,Ww.eq_1,tOrS,aAY.eq_1,La.eq_1,La.eq_2,La.eq_3,La.eq_4,Q4,Ro.eq_1,Ro.eq_2,Ro.eq_3,Q5,UG.eq_1,JP,itK.eq_1,JQ,UJ.eq_1,JR,Vu.eq_1,Vu.eq_2,Q6,Gj.eq_1,Gj.eq_2,De,aAO.eq_1,Q7,aAP.eq_1,zA,zB,Ld.eq_1,Df,Le.eq_1,Dg,bO.eq_1,bK.eq_1,bK.eq_2,bK.eq_3,gG.eq_1,gG.eq_2,gG.eq_3,gG.eq_4,gG.eq_5,gG.eq_6,jO.eq_1,jO.eq_2,dX,dY,dZ,dh,jV.eq_1,dN,dO,dR,Gi.eq_1,uv.eq_1,uv.eq_2,lA.eq_1,uw.eq_1,xJ.eq_1,v4.eq_1,v4.eq_2,gGe.eq_1,gGt.eq_1,gLe.eq_1,gLt.eq_1,gLt.eq_2,gEq.eq_1,gNe.eq_1,gNe.eq_2,gNe.eq_3,gNe.eq_4,uh.eq_1,uh.eq_2,gIs.eq_1,iK.eq_1,rF.eq_1,rF.eq_2,cP.eq_1,zp.eq_1,xj.eq_1,xj.eq_2,xK.eq_1,xK.eq_2,xK.eq_3,gM2.eq_1,cH.eq_1,cH.eq_2,cW.eq_1,cW.eq_2,Gg,fU.eq_1,Et.eq_1,qI.eq_1,lB.eq_1,gM2S.eq_1,gIsB.eq_1,xN,Hr,Ho,Ae,Pk,QT,gIx.eq_1,gIx.eq_2,ati0,ati1,ati2,Option.some.injEq,exists_eq,exists_eq',false_implies,Opd.slot.injEq,forall_eq,forall_eq',Opd.get.eq_1,Opd.get.eq_2,JS,zE,O.frz.eq_1,O.frz.eq_2,Iu,O.frz.eq_4,lsO.eq_1,lsO.eq_2,tuO.eq_1,Q8,Q9,QC,aP,dI,aK,dw,List.getElem?_cons_zero,List.getElem?_cons_succ,List.length_cons,List.length_nil,List.map_cons,List.map_nil,List.set_cons_zero,List.set_cons_succ,List.replicate_succ,List.replicate_zero,List.cons_append,List.nil_append,List.getD_cons_zero,List.getD_cons_succ,if_true,if_false,Bool.false_eq_true,reduceIte,reduceCtorEq,Bool.not_true,Bool.not_false,implies_true,true_and,and_true,Nat.sub_self,Nat.reduceAdd,Nat.reduceSub,Nat.zero_add,List.all_cons,List.all_nil,Bool.and_true,Bool.true_and])
  exact ⟨rfl,Qo h0 h1 h⟩
 ·rw [decide_eq_false g,if_neg Bool.false_ne_true]
  exact Qo h0 h1 h
theorem Hw {k w d b:Nat} {ts:List T} (h : ∀ t∈ts,Gd k d b t) (hw:ts.length * k≤w):Gds w d b ts :=
 ⟨Nat.le_trans (U7 fun t m=>(h t m).w) hw,fun t m=>(h t m).d,fun t m=>(h t m).l⟩
def Zz (t:T):Prop := ∃ x:Str,t = .str x∧x.length≤8∧asc x=true
def upS (ts:List T):Prop := ∃ ys:List Str,ts=ys.map PyData.str∧ys.Pairwise fun a b=>a.cps.toList<b.cps.toList
def V5 (x:Str):Prop := ∃ st∈(["", "x", "step", "release"]:List Str), ∃ c:Nat,97≤c∧c≤122∧x=st++⟨#[c]⟩
def aBb (t:T):Prop := ∃ x:Str,t = .str x∧V5 x
theorem V5.len {x:Str} (h:V5 x):x.length=1∨x.length=2∨x.length=5∨(x.length=8∧x.cps.toList.head? = some 114):=by
 obtain ⟨st,hs,c,_,_,rfl⟩:=h
 have e1:(⟨#[c]⟩:Str).length=1:=rfl
 simp only [List.mem_cons,List.not_mem_nil,or_false] at hs
 rcases hs with rfl | rfl | rfl | rfl
 ·exact .inl (by rw [strLen_append,e1];rfl)
 ·exact .inr (.inl (by rw [strLen_append,e1];rfl))
 ·exact .inr (.inr (.inl (by rw [strLen_append,e1];rfl)))
 ·exact .inr (.inr (.inr ⟨by rw [strLen_append,e1];rfl,rfl⟩))
def aA0 (ys:List Str):Prop := ∃ st∈(["", "x", "step", "release"]:List Str), ∀ y∈ys, ∃ c:Nat,97≤c∧c≤122∧y=st++⟨#[c]⟩
def oneS (ts:List T):Prop := ∃ st∈(["", "x", "step", "release"]:List Str), ∀ t∈ts, ∃ c:Nat,97≤c∧c≤122∧t = .str (st++⟨#[c]⟩)
def fD:bU:=fun os Q => ∃ n d k,n≤900000∧os=[d, .pure (.int (k:Nat))]∧Dk n d∧k≤20 ∧ ∀ ts d',ts.length=k->(∀ t∈ts,Zz t)->upS ts->(∀ t∈ts,aBb t)->oneS ts->Dk (n+2) d'->Q (.lst ts) [d']
def qM:ST:=(eO (uo [2,3] (aD (aV [true,false] bQ (aD (aF 0) (aD (gA (aD (bJ (.str "")) (aD (bJ (.str "")) (aD (bJ (.str "x")) (aD (bJ (.str "step")) (aD (bJ (.str "release")) aH)))))) aH))) (aD (aV [true,false] au (aD (aF 0) (aD (bJ (.int 26)) aH))) aH)))
 (eO (jT 4 (bJ (.str "abcdefghijklmnopqrstuvwxyz")))
 (j6 (fun j=>[true,false].getD j false) (aq Gg (aD (eZ (dJ (aD (aF 1) aH)) (bH 5) rY (bF gG (aF 2) (bF gIx (aF 4) (bF uw (bF gG (aF 3) (bF ul (bJ (.int 5)) (aF 5))) (bJ (.int 26))))) [5]) aH)))))
theorem Hz (f:T->Str) : ∀ ts:List T,vB (ts.map fun t => .str (f t))=some (ts.map f)
 | []=>rfl
 | t :: ts=>by simp [vB,Hz f ts]
theorem FT {lo:Int} {n:Nat} {t:T} (h:t∈bV lo n) : ∃ i:Int,(lo≤i∧i<lo+n)∧t = .int i:=by
 unfold bV at h
 obtain ⟨i,hi,rfl⟩:=List.mem_map.mp h
 have:=List.mem_range.mp hi
 exact ⟨_,⟨by omega,by omega⟩,rfl⟩
def nmS (st:Str) (r:Int):T->Str
 | .int i=>st++⟨#[(atI sO.cps.toList ((r+5 * i) % 26)).getD 0]⟩
 | _=>st
theorem yD (st:Str) (r i:Int):nmS st r (.int i)=st++⟨#[(atI sO.cps.toList ((r+5 * i) % 26)).getD 0]⟩:=rfl
theorem Ai (i:Int) : ∃ c,atI sO.cps.toList (i % 26)=some c:=by
 have h0:=Int.emod_nonneg i (by decide:(26:Int)≠0)
 have h1:=Int.emod_lt_of_pos i (by decide:(0:Int)<26)
 have hl:sO.cps.toList.length=26:=by decide +kernel
 unfold atI ixN
 rw [if_pos h0,if_pos (by omega)]
 exact ⟨_,List.getElem?_eq_getElem (by omega)⟩
theorem Qp : ∀ c∈sO.cps.toList,97≤c∧c≤122:=by decide +kernel
theorem Xb : ∀ c∈sO.cps.toList,c<128:=by decide +kernel
theorem Nz {α : Type} {l:List α} {i:Int} {x : α} (h:atI l i=some x):x∈l:=by
 unfold atI at h
 cases e:ixN l.length i with
 | none=>rw [e] at h;cases h
 | some j=>rw [e] at h;exact List.mem_of_getElem? h
theorem aA1 (a b:Str):(a++b).length=a.length+b.length:=strLen_append a b
theorem S8:sO.cps.toList.Nodup:=by decide +kernel
theorem aBc {st:Str} {r i j:Int} (h0:0≤i) (hi:i<26) (h1:0≤j) (hj:j<26) (e:nmS st r (.int i)=nmS st r (.int j)):i=j:=by
 obtain ⟨c,hc⟩:=Ai (r+5 * i)
 obtain ⟨d,hd⟩:=Ai (r+5 * j)
 rw [yD,yD,hc,hd] at e
 have e2:c=d:=by
  have : (st++(⟨#[c]⟩:Str)).cps.toList=(st++(⟨#[d]⟩:Str)).cps.toList:=congrArg (fun z:Str=>z.cps.toList) e
  rw [PySem.Str.cps_append,PySem.Str.cps_append,Array.toList_append,Array.toList_append] at this
  have:=List.append_cancel_left this
  simpa using this
 subst e2
 have a0:=Int.emod_nonneg (r+5 * i) (by decide:(26:Int)≠0)
 have a1:=Int.emod_lt_of_pos (r+5 * i) (by decide:(0:Int)<26)
 have b0:=Int.emod_nonneg (r+5 * j) (by decide:(26:Int)≠0)
 have b1:=Int.emod_lt_of_pos (r+5 * j) (by decide:(0:Int)<26)
 have hl:sO.cps.toList.length=26:=by decide +kernel
 unfold atI ixN at hc hd
 rw [if_pos a0,if_pos (by omega)] at hc
 rw [if_pos b0,if_pos (by omega)] at hd
 rw [Option.bind_some] at hc hd
 have:=(List.getElem?_inj (by omega) S8).mp (hc.trans hd.symm)
 omega
theorem Xc {st:Str} {r:Int} {n:Nat} (h:n≤26):((bV 0 n).map (nmS st r)).Nodup:=by
 unfold bV
 rw [List.map_map]
 refine List.pairwise_map.mpr (List.nodup_range.imp_of_mem fun {a b} ha hb ne q=>ne ?_)
 have ha:=List.mem_range.mp ha
 have hb:=List.mem_range.mp hb
 have:=aBc (st:=st) (r:=r) (i:=0+a) (j:=0+b) (by omega) (by omega) (by omega) (by omega) q
 omega
theorem aBd {a b:Str} (h:ltCps b.cps.toList a.cps.toList=false) (ne:a≠b):a.cps.toList<b.cps.toList:=by
 rw [ltCps_eq] at h
 have h:=of_decide_eq_false h
 rcases Nat.lt_or_ge 0 1 with _ | _
 ·by_cases q:a.cps.toList<b.cps.toList
  ·exact q
  ·exact absurd (PySem.Str.ext' (Array.toList_inj.mp (List.le_antisymm (List.not_lt.mp h) (List.not_lt.mp q)))) ne
 ·omega
theorem V6 : ∀ (r:List Str) (p:Str),risingS p r=true->(p :: r).Nodup->(p :: r).Pairwise fun a b=>a.cps.toList<b.cps.toList
 | [],p,_,_=>by simp
 | x :: r,p,h,nd=>by
  unfold risingS at h
  cases q:ltCps x.cps.toList p.cps.toList with
  | true=>rw [q] at h;cases h
  | false =>
   rw [q] at h
   obtain ⟨n1,n2⟩:=List.nodup_cons.mp nd
   have ih:=V6 r x h n2
   have hp:p.cps.toList<x.cps.toList:=aBd q fun e=>n1 (e▸List.mem_cons_self)
   refine List.pairwise_cons.mpr ⟨fun y hy => ?_,ih⟩
   rcases List.mem_cons.mp hy with rfl | hy
   ·exact hp
   ·exact List.lt_trans hp ((List.pairwise_cons.mp ih).1 y hy)
theorem up_of {ys:List Str} (h:sortedS ys=true) (nd:ys.Nodup):ys.Pairwise fun a b=>a.cps.toList<b.cps.toList:=by
 cases ys with
 | nil=>exact .nil
 | cons p r=>exact V6 r p h nd
theorem Jd (os:List O) (Qa:O->List O->Prop) (_:os.length=2) (h:fD os Qa):qM (aP [true,false] Qa) (aK 6 os):=by
 obtain ⟨n,d,k,hn,rfl,hd,hk,h⟩:=h
 obtain ⟨ds,rfl⟩:=hd.frz
 unfold qM
 simp only [eO,gD,j6,nJ,eY,sIf,jT,gh,xD,uo,Bg,zm,bOr,wR,mV,bOf,aF,bJ,bF,xf,aH,aD,g2,g1,gN,dH,aq,aV,cZ,gA,dD,dM,tRg,rgK.eq_1,dU,dG.eq_1,dF.eq_1,jM,Bf,km,DR,eZ,rY,Option.some.injEq,exists_eq,exists_eq',false_implies,Opd.slot.injEq,forall_eq,forall_eq',bO,Ca,yx,lC,GP,nQ,ph,cX,eU,gY,dJ,gW,iW,bK,nM,GJ,bH,iV,cD,iU,mD,m9,fV,cA,rE,rG,zu,gG,jO,dX,dY,dZ,dh,jV,dN,dO,dR,uv,lA,uw,xJ,v4,gGe,gGt,gLe,gLt,gEq,gNe,uh,gIs,iK,rF,cP,zp,xj,xK,gM2,cH,cW,fU,lB,gIx,Opd.get,aM.at,O.frz,lsO,tuO,rR,O.fz,O.alias,m7,aP,Bj,dI,aK,dw,List.getElem?_cons_zero,List.getElem?_cons_succ,List.length_cons,List.length_nil,List.map_cons,List.map_nil,List.set_cons_zero,List.set_cons_succ,List.replicate_succ,List.replicate_zero,List.cons_append,List.nil_append,List.getD_cons_zero,List.getD_cons_succ,if_true,if_false,Bool.false_eq_true,reduceIte,reduceCtorEq,Bool.not_true,Bool.not_false,implies_true,true_and,and_true,Nat.sub_self,Nat.reduceAdd,Nat.reduceSub,Nat.zero_add,List.all_cons,List.all_nil,Bool.and_true,Bool.true_and]
 refine ⟨n,_,_,by omega,rfl,hd,by simp,by simp,fun t d' ht hd' => ?_⟩
 obtain ⟨ds',rfl⟩:=hd'.frz
 simp only [eO,gD,j6,nJ,eY,sIf,jT,gh,xD,uo,Bg,zm,bOr,wR,mV,bOf,aF,bJ,bF,xf,aH,aD,g2,g1,gN,dH,aq,aV,cZ,gA,dD,dM,tRg,rgK.eq_1,dU,dG.eq_1,dF.eq_1,jM,Bf,km,DR,eZ,rY,Option.some.injEq,exists_eq,exists_eq',false_implies,Opd.slot.injEq,forall_eq,forall_eq',bO,Ca,yx,lC,GP,nQ,ph,cX,eU,gY,dJ,gW,iW,bK,nM,GJ,bH,iV,cD,iU,mD,m9,fV,cA,rE,rG,zu,gG,jO,dX,dY,dZ,dh,jV,dN,dO,dR,uv,lA,uw,xJ,v4,gGe,gGt,gLe,gLt,gEq,gNe,uh,gIs,iK,rF,cP,zp,xj,xK,gM2,cH,cW,fU,lB,gIx,Opd.get,aM.at,O.frz,lsO,tuO,rR,O.fz,O.alias,m7,aP,Bj,dI,aK,dw,List.getElem?_cons_zero,List.getElem?_cons_succ,List.length_cons,List.length_nil,List.map_cons,List.map_nil,List.set_cons_zero,List.set_cons_succ,List.replicate_succ,List.replicate_zero,List.cons_append,List.nil_append,List.getD_cons_zero,List.getD_cons_succ,if_true,if_false,Bool.false_eq_true,reduceIte,reduceCtorEq,Bool.not_true,Bool.not_false,implies_true,true_and,and_true,Nat.sub_self,Nat.reduceAdd,Nat.reduceSub,Nat.zero_add,List.all_cons,List.all_nil,Bool.and_true,Bool.true_and]
 refine ⟨n+1,_,_,by omega,rfl,hd',by decide,by decide,fun r d' h0 h1 hd' => ?_⟩
 obtain ⟨ds',rfl⟩:=hd'.frz
 simp only [eO,gD,j6,nJ,eY,sIf,jT,gh,xD,uo,Bg,zm,bOr,wR,mV,bOf,aF,bJ,bF,xf,aH,aD,g2,g1,gN,dH,aq,aV,cZ,gA,dD,dM,tRg,rgK.eq_1,dU,dG.eq_1,dF.eq_1,jM,Bf,km,DR,eZ,rY,Option.some.injEq,exists_eq,exists_eq',false_implies,Opd.slot.injEq,forall_eq,forall_eq',bO,Ca,yx,lC,GP,nQ,ph,cX,eU,gY,dJ,gW,iW,bK,nM,GJ,bH,iV,cD,iU,mD,m9,fV,cA,rE,rG,zu,gG,jO,dX,dY,dZ,dh,jV,dN,dO,dR,uv,lA,uw,xJ,v4,gGe,gGt,gLe,gLt,gEq,gNe,uh,gIs,iK,rF,cP,zp,xj,xK,gM2,cH,cW,fU,lB,gIx,Opd.get,aM.at,O.frz,lsO,tuO,rR,O.fz,O.alias,m7,aP,Bj,dI,aK,dw,List.getElem?_cons_zero,List.getElem?_cons_succ,List.length_cons,List.length_nil,List.map_cons,List.map_nil,List.set_cons_zero,List.set_cons_succ,List.replicate_succ,List.replicate_zero,List.cons_append,List.nil_append,List.getD_cons_zero,List.getD_cons_succ,if_true,if_false,Bool.false_eq_true,reduceIte,reduceCtorEq,Bool.not_true,Bool.not_false,implies_true,true_and,and_true,Nat.sub_self,Nat.reduceAdd,Nat.reduceSub,Nat.zero_add,List.all_cons,List.all_nil,Bool.and_true,Bool.true_and]
 obtain ⟨st,rfl,hst,hsa,hsm⟩ : ∃ st:Str,t = .str st∧st.length≤7∧asc st=true∧st∈(["", "x", "step", "release"]:List Str):=by
  simp only [List.mem_cons,List.not_mem_nil,or_false] at ht
  rcases ht with rfl | rfl | rfl | rfl | rfl
  ·exact ⟨_,rfl,by decide,by decide +kernel, .head _⟩
  ·exact ⟨_,rfl,by decide,by decide +kernel, .head _⟩
  ·exact ⟨_,rfl,by decide,by decide +kernel, .tail _ (.head _)⟩
  ·exact ⟨_,rfl,by decide,by decide +kernel, .tail _ (.tail _ (.head _))⟩
  ·exact ⟨_,rfl,by decide,by decide +kernel, .tail _ (.tail _ (.tail _ (.head _)))⟩
 refine ⟨rfl,rfl,by omega,by omega, ?_⟩
 refine Eu (fun t => .str (nmS st r t)) _ _ (fun t m Q' acc ts' q => ?_) ?_
 ·obtain ⟨i,hi,rfl⟩:=FT m
  unfold iQ
  simp only [eO,gD,j6,nJ,eY,sIf,jT,gh,xD,uo,Bg,zm,bOr,wR,mV,bOf,aF,bJ,bF,xf,aH,aD,g2,g1,gN,dH,aq,aV,cZ,gA,dD,dM,tRg,rgK.eq_1,dU,dG.eq_1,dF.eq_1,jM,Bf,km,DR,eZ,rY,Option.some.injEq,exists_eq,exists_eq',false_implies,Opd.slot.injEq,forall_eq,forall_eq',bO,Ca,yx,lC,GP,nQ,ph,cX,eU,gY,dJ,gW,iW,bK,nM,GJ,bH,iV,cD,iU,mD,m9,fV,cA,rE,rG,zu,gG,jO,dX,dY,dZ,dh,jV,dN,dO,dR,uv,lA,uw,xJ,v4,gGe,gGt,gLe,gLt,gEq,gNe,uh,gIs,iK,rF,cP,zp,xj,xK,gM2,cH,cW,fU,lB,gIx,Opd.get,aM.at,O.frz,lsO,tuO,rR,O.fz,O.alias,m7,aP,Bj,dI,aK,dw,List.getElem?_cons_zero,List.getElem?_cons_succ,List.length_cons,List.length_nil,List.map_cons,List.map_nil,List.set_cons_zero,List.set_cons_succ,List.replicate_succ,List.replicate_zero,List.cons_append,List.nil_append,List.getD_cons_zero,List.getD_cons_succ,if_true,if_false,Bool.false_eq_true,reduceIte,reduceCtorEq,Bool.not_true,Bool.not_false,implies_true,true_and,and_true,Nat.sub_self,Nat.reduceAdd,Nat.reduceSub,Nat.zero_add,List.all_cons,List.all_nil,Bool.and_true,Bool.true_and]
  obtain ⟨c,hc⟩:=Ai (r+5 * i)
  have e:nmS st r (.int i)=st++⟨#[c]⟩:=by rw [yD,hc];rfl
  rw [e] at q
  refine ⟨rfl,by
   have : (5:Int).natAbs.log2=2:=by decide
   have h2:Bd 5 i:=by unfold Bd;omega
   have:=h2.log (by decide)
   omega,by decide,by decide, ?_⟩
  have hc' : atI (Str.ofString "abcdefghijklmnopqrstuvwxyz").cps.toList ((r+5 * i) % 26)=some c:=hc
  rw [hc']
  refine ⟨?_,q⟩
  have : (⟨#[c]⟩:Str).length=1:=rfl
  omega
 ·refine .inl ?_
  simp only [fU,lsO]
  rw [List.nil_append,Hz]
  simp only [eO,gD,j6,nJ,eY,sIf,jT,gh,xD,uo,Bg,zm,bOr,wR,mV,bOf,aF,bJ,bF,xf,aH,aD,g2,g1,gN,dH,aq,aV,cZ,gA,dD,dM,tRg,rgK.eq_1,dU,dG.eq_1,dF.eq_1,jM,Bf,km,DR,eZ,rY,Option.some.injEq,exists_eq,exists_eq',false_implies,Opd.slot.injEq,forall_eq,forall_eq',bO,Ca,yx,lC,GP,nQ,ph,cX,eU,gY,dJ,gW,iW,bK,nM,GJ,bH,iV,cD,iU,mD,m9,fV,cA,rE,rG,zu,gG,jO,dX,dY,dZ,dh,jV,dN,dO,dR,uv,lA,uw,xJ,v4,gGe,gGt,gLe,gLt,gEq,gNe,uh,gIs,iK,rF,cP,zp,xj,xK,gM2,cH,cW,fU,lB,gIx,Opd.get,aM.at,O.frz,lsO,tuO,rR,O.fz,O.alias,m7,aP,Bj,dI,aK,dw,List.getElem?_cons_zero,List.getElem?_cons_succ,List.length_cons,List.length_nil,List.map_cons,List.map_nil,List.set_cons_zero,List.set_cons_succ,List.replicate_succ,List.replicate_zero,List.cons_append,List.nil_append,List.getD_cons_zero,List.getD_cons_succ,if_true,if_false,Bool.false_eq_true,reduceIte,reduceCtorEq,Bool.not_true,Bool.not_false,implies_true,true_and,and_true,Nat.sub_self,Nat.reduceAdd,Nat.reduceSub,Nat.zero_add,List.all_cons,List.all_nil,Bool.and_true,Bool.true_and]
  have hl:((bV 0 ((k:Int)).toNat).map (nmS st r)).length=k:=by simp [bV]
  refine ⟨by rw [hl];omega,fun ys hp hso=>h _ _ (by rw [List.length_map,hp.length_eq,hl]) (fun t m => ?_) ⟨ys,rfl,up_of hso (hp.nodup_iff.mpr (Xc (by omega)))⟩ (fun t m => ?_) ⟨st,hsm,fun t m => ?_⟩ hd'⟩
  ·obtain ⟨y,hy,rfl⟩:=List.mem_map.mp m
   obtain ⟨z,hz,rfl⟩:=List.mem_map.mp (hp.mem_iff.mp hy)
   obtain ⟨i,_,rfl⟩:=FT hz
   obtain ⟨c,hc⟩:=Ai (r+5 * i)
   have hc2:c<128:=Xb c (Nz hc)
   refine ⟨_,rfl, ?_, ?_⟩
   ·rw [yD,aA1]
    have : ((⟨#[(atI sO.cps.toList ((r+5 * i) % 26)).getD 0]⟩:Str)).length=1:=rfl
    omega
   ·rw [yD,hc]
    exact ZQ hsa (ZR hc2)
  ·obtain ⟨y,hy,rfl⟩:=List.mem_map.mp m
   obtain ⟨z,hz,rfl⟩:=List.mem_map.mp (hp.mem_iff.mp hy)
   obtain ⟨i,_,rfl⟩:=FT hz
   obtain ⟨c,hc⟩:=Ai (r+5 * i)
   have hc2:=Qp c (Nz hc)
   refine ⟨_,rfl,st,hsm,c,hc2.1,hc2.2, ?_⟩
   rw [yD,hc];rfl
  ·obtain ⟨y,hy,rfl⟩:=List.mem_map.mp m
   obtain ⟨z,hz,rfl⟩:=List.mem_map.mp (hp.mem_iff.mp hy)
   obtain ⟨i,_,rfl⟩:=FT hz
   obtain ⟨c,hc⟩:=Ai (r+5 * i)
   have hc2:=Qp c (Nz hc)
   refine ⟨c,hc2.1,hc2.2, ?_⟩
   rw [yD,hc];rfl
theorem V7 {n:Nat} {ds ts:List T} {Q:O->List O->Prop} (hn:n≤1000000) (hd:Dk n (.lst ds)) (hne:ts≠[]) (hl:ts.length≤1000000) (h : ∀ t d',t∈ts->Dk (n+1) d'->Q (.pure t) [d']):bQ [.lst ds, .pure (.list ts)] Q :=
 ⟨n,_,ts,hn,rfl,hd,hne,hl,h⟩
end WS
local macro_rules
 | `(tactic| sizeOf_list_dec) => `(tactic| simp only [DL.eO,DL.gD,DL.j6,DL.nJ,DL.eY,DL.sIf,DL.jT,DL.xD,DL.uo,DL.Bg,DL.zm,DL.bOr,DL.wR,DL.mV,DL.bJ,DL.bF,DL.xf,DL.aH,DL.aD,DL.dH,DL.aq,DL.aV,DL.cZ,DL.gA,DL.dD,DL.dM,DL.tRg,DL.rgK.eq_1,DL.dU,DL.dG.eq_1,DL.dF.eq_1,DL.jM,DL.Bf,DL.km,DL.DR,DL.eZ,DL.rY,DL.nQ,DL.dJ.eq_1,DL.bH,DL.iV.eq_1,DL.cD.eq_1,DL.iU.eq_1,DL.cA,DL.rG.eq_1,DL.rG.eq_2,DL.Dh,DL.zu,DL.J9,DL.dW.eq_1,DL.dW.eq_2,DL.dW.eq_3,DL.dW.eq_4,DL.dW.eq_5,DL.dW.eq_6,DL.dW.eq_7,DL.dW.eq_8,DL.dW.eq_9,DL.dW.eq_10,DL.dW.eq_11,DL.dW.eq_12,DL.JD,DL.JF,DL.O.fz.eq_1,DL.O.fz.eq_2,DL.O.fz.eq_3,DL.O.fz.eq_4,DL.O.alias.eq_1,DL.O.alias.eq_2,DL.O.alias.eq_3,DL.O.alias.eq_4,DL.O.alias.eq_5,DL.O.alias.eq_6,DL.O.alias.eq_7,DL.O.alias.eq_8,DL.O.alias.eq_9,DL.O.alias.eq_10,DL.O.alias.eq_11,DL.O.alias.eq_12,DL.atK.eq_1,DL.JB,DL.JC,DL.JG,DL.JH,DL.JK,DL.JL,DL.Pr,DL.JM,DL.JN,DL.Pu,DL.lstK.eq_1,DL.mX,DL.g2K.eq_1,DL.g2_k,DL.g1K.eq_1,DL.g1_k,DL.gNK.eq_1,DL.gN_k,DL.boK.eq_1,DL.Wi,DL.aAN.eq_1,DL.Px,DL.U9.eq_1,DL.Py,DL.Q3,DL.Lf.eq_1,DL.Lg.eq_1,DL.Wt,DL.xq,DL.Ry.eq_1,DL.Rx.eq_1,DL.QS,DL.Um.eq_1,DL.Ul.eq_1,DL.Wv,DL.Uq.eq_1,DL.Uo.eq_1,DL.Wu.eq_1,DL.Ww.eq_1,DL.tOrS,DL.aAY.eq_1,DL.La.eq_1,DL.La.eq_2,DL.La.eq_3,DL.La.eq_4,DL.Q4,DL.Ro.eq_1,DL.Ro.eq_2,DL.Ro.eq_3,DL.Q5,DL.UG.eq_1,DL.JP,DL.itK.eq_1,DL.JQ,DL.UJ.eq_1,DL.JR,DL.Vu.eq_1,DL.Vu.eq_2,DL.Q6,DL.Gj.eq_1,DL.Gj.eq_2,DL.De,DL.aAO.eq_1,DL.Q7,DL.aAP.eq_1,DL.zA,DL.zB,DL.Ld.eq_1,DL.Df,DL.Le.eq_1,DL.Dg,DL.bO.eq_1,DL.bK.eq_1,DL.bK.eq_2,DL.bK.eq_3,DL.gG.eq_1,DL.gG.eq_2,DL.gG.eq_3,DL.gG.eq_4,DL.gG.eq_5,DL.gG.eq_6,DL.jO.eq_1,DL.jO.eq_2,DL.dX,DL.dY,DL.dZ,DL.dh,DL.jV.eq_1,DL.dN,DL.dO,DL.dR,DL.Gi.eq_1,DL.uv.eq_1,DL.uv.eq_2,DL.lA.eq_1,DL.uw.eq_1,DL.xJ.eq_1,DL.v4.eq_1,DL.v4.eq_2,DL.gGe.eq_1,DL.gGt.eq_1,DL.gLe.eq_1,DL.gLt.eq_1,DL.gLt.eq_2,DL.gEq.eq_1,DL.gNe.eq_1,DL.gNe.eq_2,DL.gNe.eq_3,DL.gNe.eq_4,DL.uh.eq_1,DL.uh.eq_2,DL.gIs.eq_1,DL.iK.eq_1,DL.rF.eq_1,DL.rF.eq_2,DL.cP.eq_1,DL.zp.eq_1,DL.xj.eq_1,DL.xj.eq_2,DL.xK.eq_1,DL.xK.eq_2,DL.xK.eq_3,DL.gM2.eq_1,DL.cH.eq_1,DL.cH.eq_2,DL.cW.eq_1,DL.cW.eq_2,DL.Gg,DL.fU.eq_1,DL.Et.eq_1,DL.qI.eq_1,DL.lB.eq_1,DL.gM2S.eq_1,DL.gIsB.eq_1,DL.xN,DL.Hr,DL.Ho,DL.Ae,DL.Pk,DL.QT,DL.gIx.eq_1,DL.gIx.eq_2,DL.ati0,DL.ati1,DL.ati2,Option.some.injEq,exists_eq,exists_eq',false_implies,DL.Opd.slot.injEq,forall_eq,forall_eq',DL.Opd.get.eq_1,DL.Opd.get.eq_2,DL.JS,DL.zE,DL.O.frz.eq_1,DL.O.frz.eq_2,DL.Iu,DL.O.frz.eq_4,DL.lsO.eq_1,DL.lsO.eq_2,DL.tuO.eq_1,DL.Q8,DL.Q9,DL.QC,DL.aP,DL.dI,DL.aK,DL.dw,List.getElem?_cons_zero,List.getElem?_cons_succ,List.length_cons,List.length_nil,List.map_cons,List.map_nil,List.set_cons_zero,List.set_cons_succ,List.replicate_succ,List.replicate_zero,List.cons_append,List.nil_append,List.getD_cons_zero,List.getD_cons_succ,if_true,if_false,Bool.false_eq_true,reduceIte,reduceCtorEq,Bool.not_true,Bool.not_false,implies_true,true_and,and_true,Nat.sub_self,Nat.reduceAdd,Nat.reduceSub,Nat.zero_add,List.all_cons,List.all_nil,Bool.and_true,Bool.true_and])
namespace WS
open PySem PySem.Spec L2 DL
open PyProof.Rows hiding St
theorem IK {x:Str} (h:asc x=true):PyData.canLay0 (.str x)=true:=by
 unfold asc at h
 simp only [PyData.canLay0,PyData.strOk]
 rw [Array.all_eq_true_iff_forall_mem]
 exact fun c m=>decide_eq_true (Nat.lt_trans (of_decide_eq_true (List.all_eq_true.mp h c (by simpa using m))) (by decide))
def lQ:bU:=fun os Q => ∃ n d b ts,n+ts.length≤900000∧os=[d, .pure (seqT b ts)]∧Dk n d∧ts.length≤1000∧(∀ t∈ts,PyData.canLay0 t=true∧t.depth≤100) ∧ ∀ ts' d',ts'.Perm ts->Dk (n+ts.length) d'->Q (.lst ts') [d']
def mY:ST:=(eY (cX 3 (Ow 2 (aV [true,false] au (aD (aF 0) (aD (aq rF (aD (aF 2) aH)) aH))))))
def nR:ST:=(eO (uo [2,3] (aD (aq cH (aD (aF 1) aH)) (aD (gA aH) aH)))
 (eO (TQ (mV (bF gNe (aF 2) (gA aH))) mY)
 (j6 (fun j=>[true,false].getD j false) (aF 3))))
theorem erase_perm {ts:List T} {i:Nat} {t:T} (h:ts[i]? = some t):(t :: ts.eraseIdx i).Perm ts:=L2.erase_perm ts i t h
theorem O2 {ts:List T} (h : ∀ t∈ts,PyData.canLay0 t=true):PyData.canLayAll0 ts=true:=by
 induction ts with
 | nil=>rfl
 | cons t ts ih =>
  simp only [PyData.canLayAll0,Bool.and_eq_true]
  exact ⟨h t List.mem_cons_self,ih fun u m=>h u (List.mem_cons_of_mem _ m)⟩
theorem IV {x1:Option O} {D:qY} : ∀ (k n:Nat) (ds left found:List T),left.length=k->n+k≤900000->found.length+k≤1000->Dk n (.lst ds)->(∀ t∈left,PyData.canLay0 t=true∧t.depth≤100) ->
  (∀ ds' found',Dk (n+k) (.lst ds')->found'.Perm (left++found)->D.nx [some (.lst ds'),x1,some (.lst []),some (.lst found')]) ->
  Bh (mV (bF gNe (aF 2) (gA aH))) mY D (k+1) [some (.lst ds),x1,some (.lst left),some (.lst found)]
 | 0,n,ds,left,found,hl,hn,hf,hd,hc,nx=>by
  obtain rfl:=List.length_eq_zero_iff.mp hl
  unfold Bh
  (try sizeOf_list_dec)
  refine ⟨by decide,by decide,by decide, ?_⟩
  rw [if_neg (by simp [PyData.eqv,PyData.eqvAll])]
  exact nx ds found hd (by simp)
 | k+1,n,ds,left,found,hl,hn,hf,hd,hc,nx=>by
  unfold Bh
  (try sizeOf_list_dec)
  refine ⟨by simp only [PyData.canLay0];exact O2 fun t m=>(hc t m).1,by decide,by simp [PyData.depth,PyData.depthAll], ?_⟩
  rw [if_pos (by cases left with | nil=>simp at hl | cons a l=>simp [PyData.eqv,PyData.eqvAll])]
  unfold mY
  (try sizeOf_list_dec)
  refine ⟨n,_,_,by omega,rfl,hd,by omega,by omega,fun r d' h0 h1 hd' => ?_⟩
  obtain ⟨ds',rfl⟩:=hd'.frz
  (try sizeOf_list_dec)
  have hr:r.toNat<left.length:=by omega
  have ei:ixN left.length r=some r.toNat:=by
   unfold ixN
   rw [if_pos h0,if_pos h1]
  have eg:left[r.toNat]? = some left[r.toNat]:=List.getElem?_eq_getElem hr
  rw [ei]
  (try sizeOf_list_dec)
  rw [eg]
  (try sizeOf_list_dec)
  refine ⟨by omega, ?_⟩
  have hp:=erase_perm eg
  refine IV k (n+1) _ _ _ (by rw [List.length_eraseIdx_of_lt hr];omega) (by omega) (by simp;omega) hd' (fun t m=>hc t (List.mem_of_mem_eraseIdx m)) fun ds2 f2 hd2 hp2=>nx ds2 f2 (by rw [show n+(k+1)=n+1+k by omega];exact hd2) (hp2.trans ?_)
  refine List.Perm.trans ?_ (List.Perm.append_right found hp)
  rw [List.cons_append]
  exact List.perm_append_comm.trans (by
   rw [List.append_assoc]
   exact (List.perm_append_comm (l₁:=found) (l₂:=[left[r.toNat]]++left.eraseIdx r.toNat)).trans (by simp))
theorem Gm (os:List O) (Qa:O->List O->Prop) (_:os.length=2) (h:lQ os Qa):nR (aP [true,false] Qa) (aK 4 os):=by
 obtain ⟨n,d,b,ts,hn,rfl,hd,hl,hc,h⟩:=h
 obtain ⟨ds,rfl⟩:=hd.frz
 unfold nR
 cases b<;>((try sizeOf_list_dec);repeat (simp only [TQ,seqT];(try sizeOf_list_dec)))
 all_goals
  refine ⟨rfl,ts.length+1,IV ts.length n ds ts [] rfl hn (by simpa using hl) hd hc fun ds' f' hd' hp => ?_⟩
  (try sizeOf_list_dec)
  exact h _ _ (by simpa using hp) hd'
theorem Lr {α : Type} [DecidableEq α] : ∀ {ms ns:List α},ms.Nodup->(∀ x∈ms,x∈ns)->ms.length≤ns.length
 | [],_,_,_=>Nat.zero_le _
 | x :: ms,ns,nd,h=>by
  obtain ⟨h1,h2⟩:=List.nodup_cons.mp nd
  have hx:=h x List.mem_cons_self
  have e:=List.length_erase_of_mem hx
  have hp:0<ns.length:=List.length_pos_of_mem hx
  have:=Lr (ns:=ns.erase x) h2 fun y hy=>(List.mem_erase_of_ne (fun z:y=x=>h1 (z▸hy))).mpr (h y (List.mem_cons_of_mem _ hy))
  rw [List.length_cons]
  omega
end WS
namespace WS
open PySem PySem.Spec L2 DL
open PyProof.Rows hiding St
local instance:Tbs:=⟨[],fun _=>0, [],fun _=>0⟩
local instance:Bas:=⟨fun _=>none,fun _=>False, []⟩
abbrev Up (ys:List Str):Prop:=ys.Pairwise fun a b=>a.cps.toList<b.cps.toList
def pLt2 (u v:Str×Str):Prop:=u.1.cps.toList<v.1.cps.toList∨(u.1=v.1∧u.2.cps.toList<v.2.cps.toList)
structure nU (ys:List Str) (us:List (Str×Str)):Prop where
 up:Up ys
 n1:1≤ys.length
 n2:ys.length≤12
 nm : ∀ y∈ys,y.length≤8∧asc y=true
 m:us.length≤40
 tk : ∀ u∈us,u.1∈ys∧u.2∈ys∧u.1.cps.toList<u.2.cps.toList
 od:us.Pairwise pLt2
def lD (u:Str×Str):T := .tuple [.str u.1, .str u.2]
def oE (ys:List Str) (us:List (Str×Str)):T := .tuple [.tuple (ys.map PyData.str), .tuple (us.map lD)]
def jW:bU:=fun os Q => ∃ n d, ∃ (k:Nat) (b:Bool),n≤800000∧os=[d, .pure (.int (k:Nat)), .pure (.bool b)]∧Dk n d∧1≤k∧k≤12 ∧ ∀ ys us d',nU ys us->aA0 ys->ys.length=k->(b=true -> ∃ c:Str->Int,(∀ s∈ys,c s=0∨c s=1) ∧ ∀ u∈us,c u.1≠c u.2)->Dk (n+200) d'->Q (.pure (oE ys us)) [d']
def lG:ST:=(eO (jT 10 (Bf (km (aF 2)) (bF gNe (bF gIx (aF 6) (aF 7)) (bF gIx (aF 6) (aF 9)))))
 (sIf (zm (mV (aF 10)) (zm (mV (bF gLt (aq rF (aD (aF 4) aH)) (bJ (.int 40)))) (mV (bF gEq (aV [true,false] au (aD (aF 0) (aD (aF 5) aH))) (bJ (.int 0)))))) (eY (cX 4 (cZ (aD (aF 8) (aD (bF gIx (aF 3) (aF 9)) aH))))) gD))
def lH:ST:=(xD (dJ (aD (bF gG (aF 7) (bJ (.int 1))) (aD (aF 1) aH))) (bH 9) lG)
def lU:ST:=(eO (uo [3,4,5] (aD (aV [true,false] fD (aD (aF 0) (aD (aF 1) aH))) (aD (gA aH) (aD (aV [true,false] bQ (aD (aF 0) (aD (gA (aD (bJ (.int 1)) (aD (bJ (.int 2)) (aD (bJ (.int 3)) (aD (bJ (.int 6)) aH))))) aH))) aH))))
 (eO (jT 6 (eZ (iW (aF 3)) (bH 11) rY (aV [true,false] au (aD (aF 0) (aD (bJ (.int 2)) aH))) [11]))
 (eO (xD (nM (aD (aF 3) aH)) (iV 2 (cD (bH 7) (cD (bH 8) iU))) lH)
 (j6 (fun j=>[true,false,false].getD j false) (cZ (aD (aq cW (aD (aF 3) aH)) (aD (aq cW (aD (aF 4) aH)) aH)))))))
def V8 (ds:List T) (k:Nat) (b:Bool) (ss us:List T) (q:Int) (acc:List T) (x7 x8 x9 x10:Option O):aM :=
 [some (.lst ds),some (.pure (.int k)),some (.pure (.bool b)),some (.pure (.list ss)),some (.lst us),some (.pure (.int q)),some (.lst acc),x7,x8,x9,x10,none]
def tkOk (ys:List Str) (u:Str×Str):Prop:=u.1∈ys∧u.2∈ys∧u.1.cps.toList<u.2.cps.toList
theorem V9 {ys:List Str} (h:Up ys) {i j:Nat} {a b:Str} (hi:ys[i]? = some a) (hj:ys[j]? = some b) (lt:i<j):a.cps.toList<b.cps.toList:=by
 obtain ⟨li,ei⟩:=List.getElem?_eq_some_iff.mp hi
 obtain ⟨lj,ej⟩:=List.getElem?_eq_some_iff.mp hj
 have:=List.pairwise_iff_getElem.mp h i j li lj lt
 rw [ei,ej] at this;exact this
structure TA (ys:List Str) (us:List (Str×Str)) (i j:Nat):Prop where
 tk : ∀ u∈us,tkOk ys u
 bf : ∀ u∈us, ∃ a b,ys[a]? = some u.1∧ys[b]? = some u.2∧(a<i∨(a=i∧b<j))
 od:us.Pairwise pLt2
theorem TA.mono {ys:List Str} {us:List (Str×Str)} {i j i' j' : Nat} (h:TA ys us i j) (l:i<i'∨(i=i'∧j≤j')):TA ys us i' j' :=
 ⟨h.tk,fun u m=>by obtain ⟨a,b,e1,e2,q⟩:=h.bf u m;exact ⟨a,b,e1,e2,by omega⟩,h.od⟩
theorem TA.put {ys:List Str} {us:List (Str×Str)} {i j:Nat} {x y:Str} (hup:Up ys) (h:TA ys us i j) (hx:ys[i]? = some x) (hy:ys[j]? = some y) (l:i<j):TA ys (us++[(x,y)]) i (j+1):=by
 refine ⟨fun u m => ?_,fun u m => ?_, ?_⟩
 ·rcases List.mem_append.mp m with m | m
  ·exact h.tk u m
  ·obtain rfl:=List.mem_singleton.mp m
   exact ⟨List.mem_of_getElem? hx,List.mem_of_getElem? hy,V9 hup hx hy l⟩
 ·rcases List.mem_append.mp m with m | m
  ·obtain ⟨a,b,e1,e2,q⟩:=h.bf u m
   exact ⟨a,b,e1,e2,by omega⟩
  ·obtain rfl:=List.mem_singleton.mp m
   exact ⟨i,j,hx,hy,by omega⟩
 ·refine List.pairwise_append.mpr ⟨h.od,by simp,fun u m v mv => ?_⟩
  obtain rfl:=List.mem_singleton.mp mv
  obtain ⟨a,b,e1,e2,q⟩:=h.bf u m
  rcases q with q | ⟨rfl,q⟩
  ·exact .inl (V9 hup e1 hx q)
  ·rw [e1] at hx
   exact .inr ⟨Option.some.inj hx,V9 hup e2 hy q⟩
theorem zF {α : Type} {l:List α} {i:Nat} {t : α} {r:List α} (h:l.drop i=t :: r):l[i]? = some t∧l.drop (i+1)=r∧i<l.length:=by
 have h1:i<l.length:=by
  rcases Nat.lt_or_ge i l.length with q | q
  ·exact q
  ·rw [List.drop_eq_nil_of_le q] at h;cases h
 rw [List.drop_eq_getElem_cons h1] at h
 injection h with e1 e2
 exact ⟨by rw [List.getElem?_eq_getElem h1,e1],e2,h1⟩
theorem vG {g:GT} {tb:ST} {D:qY} (Inv:Nat->aM->Prop) (L:List T) : ∀ (ts:List T) (i:Nat) (ρ : aM),L.drop i=ts->i≤L.length ->
  (∀ i t ρ (D' : qY),L[i]? = some t->Inv i ρ->(∀ ρ',Inv (i+1) ρ'->D'.nx ρ')->(∀ ρ',Inv (i+1) ρ'->D'.ct ρ')->D'.rt=D.rt->D'.bk=D.nx->g t ρ fun ρ1=>tb D' ρ1) ->
  Inv i ρ->(∀ ρ',Inv L.length ρ'->D.nx ρ')->Mr g tb D ts ρ
 | [],i,ρ,e,le,_,h,q=>by
  unfold Mr
  have : i=L.length:=by have:=List.drop_eq_nil_iff.mp e;omega
  subst this
  exact q _ h
 | t :: ts,i,ρ,e,le,st,h,q=>by
  obtain ⟨e1,e2,lt⟩:=zF e
  have nxt : ∀ ρ',Inv (i+1) ρ'->Mr g tb D ts ρ':=fun ρ' h'=>vG Inv L ts (i+1) ρ' e2 lt st h' q
  unfold Mr
  exact st i t ρ _ e1 h nxt nxt rfl rfl
theorem Ls {lo:Int} {n i:Nat} {t:T} (h:(bV lo n)[i]? = some t):i<n∧t = .int (lo+i):=by
 unfold bV at h
 rw [List.getElem?_map] at h
 by_cases q:i<n
 ·rw [List.getElem?_range q] at h
  cases h
  exact ⟨q,rfl⟩
 ·rw [List.getElem?_eq_none (by simpa using q)] at h;cases h
theorem aA2 {ys:List Str} {j:Nat} (h:j<ys.length) : ∃ y,ys[j]? = some y∧y∈ys∧atI (ys.map PyData.str) (j:Int)=some (.str y):=by
 refine ⟨ys[j],List.getElem?_eq_getElem h,List.getElem_mem _, ?_⟩
 unfold atI ixN
 rw [if_pos (by omega),if_pos (by rw [List.length_map];omega),Option.bind_some,List.getElem?_map,show ((j:Int)).toNat=j from rfl,List.getElem?_eq_getElem h]
 rfl
def SD (b:Bool) (acc:List T) (ys:List Str) (us:List (Str×Str)):Prop:=b=true -> ∀ u∈us, ∀ i j:Nat,ys[i]? = some u.1->ys[j]? = some u.2->acc[i]? ≠ acc[j]?
theorem Yc {ys:List Str} (h:Up ys) {i j:Nat} {a:Str} (hi:ys[i]? = some a) (hj:ys[j]? = some a):i=j:=by
 rcases Nat.lt_trichotomy i j with q | q | q
 ·exact absurd (V9 h hi hj q) (List.lt_irrefl _)
 ·exact q
 ·exact absurd (V9 h hj hi q) (List.lt_irrefl _)
theorem SD.put {b:Bool} {acc:List T} {ys:List Str} {us:List (Str×Str)} {i j:Nat} {x y:Str} (hup:Up ys) (h:SD b acc ys us) (hx:ys[i]? = some x) (hy:ys[j]? = some y) (ne:b=true->acc[i]? ≠ acc[j]?):SD b acc ys (us++[(x,y)]):=fun hb u m i' j' ei ej=>by
 rcases List.mem_append.mp m with m | m
 ·exact h hb u m i' j' ei ej
 ·obtain rfl:=List.mem_singleton.mp m
  rw [Yc hup ei hx,Yc hup ej hy]
  exact ne hb
theorem SD.col {acc:List T} {ys:List Str} {us:List (Str×Str)} (hup:Up ys) (h:SD true acc ys us) (hl:acc.length=ys.length) (ha : ∀ t∈acc, ∃ z:Int,t = .int z∧(z=0∨z=1)) (hu : ∀ u∈us,u.1∈ys∧u.2∈ys) : ∃ c:Str->Int,(∀ s∈ys,c s=0∨c s=1) ∧ ∀ u∈us,c u.1≠c u.2:=by
 let c:Str->Int:=fun s=>match acc[ys.idxOf s]? with
  | some (.int z)=>z
  | _=>0
 have at_ : ∀ s∈ys, ∃ z:Int,acc[ys.idxOf s]? = some (.int z)∧(z=0∨z=1)∧c s=z∧ys[ys.idxOf s]? = some s:=fun s hs=>by
  have lt:=List.idxOf_lt_length_iff.mpr hs
  obtain ⟨z,e,hz⟩:=ha _ (List.getElem_mem (l:=acc) (by rw [hl];exact lt))
  have e2:acc[ys.idxOf s]? = some (.int z):=by rw [List.getElem?_eq_getElem (by rw [hl];exact lt),e]
  refine ⟨z,e2,hz, ?_, ?_⟩
  ·show (match acc[ys.idxOf s]? with | some (.int z)=>z | _=>0)=z
   rw [e2]
  ·rw [List.getElem?_eq_getElem lt,List.getElem_idxOf lt]
 refine ⟨c,fun s hs => ?_,fun u hm => ?_⟩
 ·obtain ⟨z,_,hz,e,_⟩:=at_ s hs
  rw [e];exact hz
 ·obtain ⟨h1,h2⟩:=hu u hm
  obtain ⟨z,a1,_,e1,p1⟩:=at_ _ h1
  obtain ⟨w,a2,_,e2,p2⟩:=at_ _ h2
  intro q
  have:=h rfl u hm _ _ p1 p2
  rw [a1,a2] at this
  rw [e1,e2] at q
  exact this (by rw [q])
theorem aBe {m k:Nat} {b:Bool} {ys:List Str} {us:List (Str×Str)} {acc ds:List T} {q:Int} {i j:Nat} {one:Str} {x10:Option O} {D:qY} (hm:m≤900000) (hd:Dk m (.lst ds)) (hss:ys.length=k) (hup:Up ys) (hacc:acc.length=k) (hai : ∀ t∈acc, ∃ z:Int,t = .int z) (hq1:1≤q) (hq2:q≤6)
  (hi:i<j) (hj:j<k) (hone:ys[i]? = some one) (hus:us.length≤40) (hut:TA ys us i j) (hsd:SD b acc ys us)
  (nx : ∀ (ds' : List T) (us' : List (Str×Str)) (x10' : Option O),Dk (m+1) (.lst ds')->us'.length≤40->TA ys us' i (j+1)->SD b acc ys us'->D.nx (V8 ds' k b (ys.map PyData.str) (us'.map lD) q acc (some (.pure (.int i))) (some (.pure (.str one))) (some (.pure (.int j))) x10')) :
  lG D (V8 ds k b (ys.map PyData.str) (us.map lD) q acc (some (.pure (.int i))) (some (.pure (.str one))) (some (.pure (.int j))) x10):=by
 obtain ⟨ti,ei,mi⟩:=Qn (ts:=acc) (r:=i) (by omega) (by omega)
 obtain ⟨tj,ej,mj⟩:=Qn (ts:=acc) (r:=j) (by omega) (by omega)
 obtain ⟨si,es0,ms,es⟩:=aA2 (ys:=ys) (j:=j) (by omega)
 obtain ⟨zi,rfl⟩:=hai _ mi
 obtain ⟨zj,rfl⟩:=hai _ mj
 unfold lG V8
 unfold V8 at nx
 have ap:us.map lD++[PyData.tuple [PyData.str one,PyData.str si]]=(us++[(one,si)]).map lD:=by rw [List.map_append];rfl
 have tk:TA ys (us++[(one,si)]) i (j+1):=hut.put hup hone es0 hi
 have hut:TA ys us i (j+1):=hut.mono (by omega)
 have ai:acc[i]? = some (.int zi):=aAQ (i:=(i:Int)) (by omega) ei
 have aj:acc[j]? = some (.int zj):=aAQ (i:=(j:Int)) (by omega) ej
 cases b with
 | false =>
  simp only [eO,gD,j6,nJ,eY,sIf,jT,gh,xD,uo,Bg,zm,bOr,wR,mV,bOf,aF,bJ,bF,xf,aH,aD,g2,g1,gN,dH,aq,aV,cZ,gA,dD,dM,tRg,rgK.eq_1,dU,dG.eq_1,dF.eq_1,jM,Bf,km,DR,eZ,rY,Option.some.injEq,exists_eq,exists_eq',false_implies,Opd.slot.injEq,forall_eq,forall_eq',bO,Ca,yx,lC,GP,nQ,ph,cX,eU,gY,dJ,gW,iW,bK,nM,GJ,bH,iV,cD,iU,mD,m9,fV,cA,rE,rG,zu,gG,jO,dX,dY,dZ,dh,jV,dN,dO,dR,uv,lA,uw,xJ,v4,gGe,gGt,gLe,gLt,gEq,gNe,uh,gIs,iK,rF,cP,zp,xj,xK,gM2,cH,cW,fU,lB,gIx,Opd.get,aM.at,O.frz,lsO,tuO,rR,O.fz,O.alias,m7,aP,Bj,dI,aK,dw,List.getElem?_cons_zero,List.getElem?_cons_succ,List.length_cons,List.length_nil,List.map_cons,List.map_nil,List.set_cons_zero,List.set_cons_succ,List.replicate_succ,List.replicate_zero,List.cons_append,List.nil_append,List.getD_cons_zero,List.getD_cons_succ,if_true,if_false,Bool.false_eq_true,reduceIte,reduceCtorEq,Bool.not_true,Bool.not_false,implies_true,true_and,and_true,Nat.sub_self,Nat.reduceAdd,Nat.reduceSub,Nat.zero_add,List.all_cons,List.all_nil,Bool.and_true,Bool.true_and]
  refine ⟨rfl, ?_⟩
  by_cases g:((us.map lD).length:Int)<40
  ·rw [decide_eq_true g,if_pos rfl]
   rw [List.length_map] at g
   refine ⟨m,_,q,by omega,rfl,hd,hq1,by omega,fun r d' h0 h1 hd' => ?_⟩
   obtain ⟨ds',rfl⟩:=hd'.frz
   simp only [eO,gD,j6,nJ,eY,sIf,jT,gh,xD,uo,Bg,zm,bOr,wR,mV,bOf,aF,bJ,bF,xf,aH,aD,g2,g1,gN,dH,aq,aV,cZ,gA,dD,dM,tRg,rgK.eq_1,dU,dG.eq_1,dF.eq_1,jM,Bf,km,DR,eZ,rY,Option.some.injEq,exists_eq,exists_eq',false_implies,Opd.slot.injEq,forall_eq,forall_eq',bO,Ca,yx,lC,GP,nQ,ph,cX,eU,gY,dJ,gW,iW,bK,nM,GJ,bH,iV,cD,iU,mD,m9,fV,cA,rE,rG,zu,gG,jO,dX,dY,dZ,dh,jV,dN,dO,dR,uv,lA,uw,xJ,v4,gGe,gGt,gLe,gLt,gEq,gNe,uh,gIs,iK,rF,cP,zp,xj,xK,gM2,cH,cW,fU,lB,gIx,Opd.get,aM.at,O.frz,lsO,tuO,rR,O.fz,O.alias,m7,aP,Bj,dI,aK,dw,List.getElem?_cons_zero,List.getElem?_cons_succ,List.length_cons,List.length_nil,List.map_cons,List.map_nil,List.set_cons_zero,List.set_cons_succ,List.replicate_succ,List.replicate_zero,List.cons_append,List.nil_append,List.getD_cons_zero,List.getD_cons_succ,if_true,if_false,Bool.false_eq_true,reduceIte,reduceCtorEq,Bool.not_true,Bool.not_false,implies_true,true_and,and_true,Nat.sub_self,Nat.reduceAdd,Nat.reduceSub,Nat.zero_add,List.all_cons,List.all_nil,Bool.and_true,Bool.true_and,es]
   refine ⟨by simp [jN],by simp [PyData.depth], ?_⟩
   by_cases gr:r=0
   ·subst gr
    rw [if_pos (by simp [PyData.eqv])]
    refine ⟨by rw [List.length_map];omega, ?_⟩
    rw [ap]
    exact nx _ _ _ hd' (by rw [List.length_append];simp;omega) tk (hsd.put hup hone es0 fun h=>by cases h)
   ·rw [if_neg (by simp [PyData.eqv,gr])]
    exact nx _ _ _ hd' hus hut hsd
  ·rw [decide_eq_false g,if_neg Bool.false_ne_true]
   exact nx _ _ _ (hd.mono (by omega)) hus hut hsd
 | true =>
  simp only [eO,gD,j6,nJ,eY,sIf,jT,gh,xD,uo,Bg,zm,bOr,wR,mV,bOf,aF,bJ,bF,xf,aH,aD,g2,g1,gN,dH,aq,aV,cZ,gA,dD,dM,tRg,rgK.eq_1,dU,dG.eq_1,dF.eq_1,jM,Bf,km,DR,eZ,rY,Option.some.injEq,exists_eq,exists_eq',false_implies,Opd.slot.injEq,forall_eq,forall_eq',bO,Ca,yx,lC,GP,nQ,ph,cX,eU,gY,dJ,gW,iW,bK,nM,GJ,bH,iV,cD,iU,mD,m9,fV,cA,rE,rG,zu,gG,jO,dX,dY,dZ,dh,jV,dN,dO,dR,uv,lA,uw,xJ,v4,gGe,gGt,gLe,gLt,gEq,gNe,uh,gIs,iK,rF,cP,zp,xj,xK,gM2,cH,cW,fU,lB,gIx,Opd.get,aM.at,O.frz,lsO,tuO,rR,O.fz,O.alias,m7,aP,Bj,dI,aK,dw,List.getElem?_cons_zero,List.getElem?_cons_succ,List.length_cons,List.length_nil,List.map_cons,List.map_nil,List.set_cons_zero,List.set_cons_succ,List.replicate_succ,List.replicate_zero,List.cons_append,List.nil_append,List.getD_cons_zero,List.getD_cons_succ,if_true,if_false,Bool.false_eq_true,reduceIte,reduceCtorEq,Bool.not_true,Bool.not_false,implies_true,true_and,and_true,Nat.sub_self,Nat.reduceAdd,Nat.reduceSub,Nat.zero_add,List.all_cons,List.all_nil,Bool.and_true,Bool.true_and,ei,ej]
  refine ⟨rfl, ?_⟩
  by_cases gz:zi=zj
  ·rw [if_neg (by simp [gz])]
   exact nx _ _ _ (hd.mono (by omega)) hus hut hsd
  rw [if_pos (by simp [gz])]
  by_cases g:((us.map lD).length:Int)<40
  ·rw [decide_eq_true g,if_pos rfl]
   rw [List.length_map] at g
   refine ⟨m,_,q,by omega,rfl,hd,hq1,by omega,fun r d' h0 h1 hd' => ?_⟩
   obtain ⟨ds',rfl⟩:=hd'.frz
   simp only [eO,gD,j6,nJ,eY,sIf,jT,gh,xD,uo,Bg,zm,bOr,wR,mV,bOf,aF,bJ,bF,xf,aH,aD,g2,g1,gN,dH,aq,aV,cZ,gA,dD,dM,tRg,rgK.eq_1,dU,dG.eq_1,dF.eq_1,jM,Bf,km,DR,eZ,rY,Option.some.injEq,exists_eq,exists_eq',false_implies,Opd.slot.injEq,forall_eq,forall_eq',bO,Ca,yx,lC,GP,nQ,ph,cX,eU,gY,dJ,gW,iW,bK,nM,GJ,bH,iV,cD,iU,mD,m9,fV,cA,rE,rG,zu,gG,jO,dX,dY,dZ,dh,jV,dN,dO,dR,uv,lA,uw,xJ,v4,gGe,gGt,gLe,gLt,gEq,gNe,uh,gIs,iK,rF,cP,zp,xj,xK,gM2,cH,cW,fU,lB,gIx,Opd.get,aM.at,O.frz,lsO,tuO,rR,O.fz,O.alias,m7,aP,Bj,dI,aK,dw,List.getElem?_cons_zero,List.getElem?_cons_succ,List.length_cons,List.length_nil,List.map_cons,List.map_nil,List.set_cons_zero,List.set_cons_succ,List.replicate_succ,List.replicate_zero,List.cons_append,List.nil_append,List.getD_cons_zero,List.getD_cons_succ,if_true,if_false,Bool.false_eq_true,reduceIte,reduceCtorEq,Bool.not_true,Bool.not_false,implies_true,true_and,and_true,Nat.sub_self,Nat.reduceAdd,Nat.reduceSub,Nat.zero_add,List.all_cons,List.all_nil,Bool.and_true,Bool.true_and,es]
   refine ⟨by simp [jN],by simp [PyData.depth], ?_⟩
   by_cases gr:r=0
   ·subst gr
    rw [if_pos (by simp [PyData.eqv])]
    refine ⟨by rw [List.length_map];omega, ?_⟩
    rw [ap]
    exact nx _ _ _ hd' (by rw [List.length_append];simp;omega) tk (hsd.put hup hone es0 fun _ e=>gz (by rw [ai,aj] at e;injection e with e;injection e))
   ·rw [if_neg (by simp [PyData.eqv,gr])]
    exact nx _ _ _ hd' hus hut hsd
  ·rw [decide_eq_false g,if_neg Bool.false_ne_true]
   exact nx _ _ _ (hd.mono (by omega)) hus hut hsd
theorem aBf {m k:Nat} {b:Bool} {ys:List Str} {us:List (Str×Str)} {acc ds:List T} {q:Int} {i:Nat} {one:Str} {x9 x10:Option O} {D:qY} (hm:m≤850000) (hd:Dk m (.lst ds)) (hss:ys.length=k) (hk:k≤12) (hup:Up ys) (hacc:acc.length=k) (hai : ∀ t∈acc, ∃ z:Int,t = .int z) (hq1:1≤q) (hq2:q≤6)
  (hone:ys[i]? = some one) (hi:i<k) (hus:us.length≤40) (hut:TA ys us i 0) (hsd:SD b acc ys us)
  (nx : ∀ (ds' : List T) (us' : List (Str×Str)) (x9' x10' : Option O),Dk (m+12) (.lst ds')->us'.length≤40->TA ys us' (i+1) 0->SD b acc ys us'->D.nx (V8 ds' k b (ys.map PyData.str) (us'.map lD) q acc (some (.pure (.int i))) (some (.pure (.str one))) x9' x10')) :
  lH D (V8 ds k b (ys.map PyData.str) (us.map lD) q acc (some (.pure (.int i))) (some (.pure (.str one))) x9 x10):=by
 unfold lH V8
 unfold V8 at nx
 simp only [eO,gD,j6,nJ,eY,sIf,jT,gh,xD,uo,Bg,zm,bOr,wR,mV,bOf,aF,bJ,bF,xf,aH,aD,g2,g1,gN,dH,aq,aV,cZ,gA,dD,dM,tRg,rgK.eq_1,dU,dG.eq_1,dF.eq_1,jM,Bf,km,DR,eZ,rY,Option.some.injEq,exists_eq,exists_eq',false_implies,Opd.slot.injEq,forall_eq,forall_eq',bO,Ca,yx,lC,GP,nQ,ph,cX,eU,gY,dJ,gW,iW,bK,nM,GJ,bH,iV,cD,iU,mD,m9,fV,cA,rE,rG,zu,gG,jO,dX,dY,dZ,dh,jV,dN,dO,dR,uv,lA,uw,xJ,v4,gGe,gGt,gLe,gLt,gEq,gNe,uh,gIs,iK,rF,cP,zp,xj,xK,gM2,cH,cW,fU,lB,gIx,Opd.get,aM.at,O.frz,lsO,tuO,rR,O.fz,O.alias,m7,aP,Bj,dI,aK,dw,List.getElem?_cons_zero,List.getElem?_cons_succ,List.length_cons,List.length_nil,List.map_cons,List.map_nil,List.set_cons_zero,List.set_cons_succ,List.replicate_succ,List.replicate_zero,List.cons_append,List.nil_append,List.getD_cons_zero,List.getD_cons_succ,if_true,if_false,Bool.false_eq_true,reduceIte,reduceCtorEq,Bool.not_true,Bool.not_false,implies_true,true_and,and_true,Nat.sub_self,Nat.reduceAdd,Nat.reduceSub,Nat.zero_add,List.all_cons,List.all_nil,Bool.and_true,Bool.true_and]
 repeat refine And.intro (by omega) ?_
 refine vG (fun c ρ => ∃ ds us x9 x10,Dk (m+c) (.lst ds)∧us.length≤40∧TA ys us i (i+1+c)∧SD b acc ys us∧ρ=V8 ds k b (ys.map PyData.str) (us.map lD) q acc (some (.pure (.int i))) (some (.pure (.str one))) x9 x10) (bV ((i:Int)+1) ((k:Int) - (i+1)).toNat) _ 0 _ rfl (by omega) (fun c t ρ D' mt hinv n1 _ _ _ => ?_) ⟨ds,us,x9,x10,hd,hus,hut.mono (by omega),hsd,rfl⟩ fun ρ hinv => ?_
 ·obtain ⟨hc,rfl⟩:=Ls mt
  obtain ⟨ds,us,x9,x10,hd,hus,hut,hsd,rfl⟩:=hinv
  rw [show ((i:Int)+1+(c:Nat))=((i+1+c:Nat):Int) from by omega]
  refine ⟨rfl, ?_⟩
  exact aBe (m:=m+c) (by omega) hd hss hup hacc hai hq1 hq2 (by omega) (by omega) hone hus hut hsd fun ds' us' x10' h1 h2 h3 h4=>n1 _ ⟨ds',us',_,_,h1,h2,h3.mono (by omega),h4,rfl⟩
 ·obtain ⟨ds,us,x9,x10,hd,hus,hut,hsd,rfl⟩:=hinv
  have hl:(bV ((i:Int)+1) ((k:Int) - (i+1)).toNat).length≤12:=by simp [bV];omega
  exact nx ds us x9 x10 (hd.mono (by omega)) hus (hut.mono (by omega)) hsd
theorem aA3 {ys:List Str} {c:Nat} {t:T} (h:(cQ (ys.map PyData.str))[c]? = some t) : ∃ u:Str,c<ys.length∧ys[c]? = some u∧t = .tuple [.int c, .str u]:=by
 obtain ⟨hc,e⟩:=List.getElem?_eq_some_iff.mp h
 unfold cQ at hc e
 have hl:c<ys.length:=by simpa using hc
 rw [List.getElem_zipWith] at e
 simp only [List.getElem_range,List.getElem_map] at e
 exact ⟨ys[c],hl,List.getElem?_eq_getElem hl,e.symm⟩
theorem FW (os:List O) (Qa:O->List O->Prop) (_:os.length=3) (h:jW os Qa):lU (aP [true,false,false] Qa) (aK 12 os):=by
 obtain ⟨n,d,k,b,hn,rfl,hd,hk1,hk,h⟩:=h
 obtain ⟨ds,rfl⟩:=hd.frz
 unfold lU
 simp only [eO,gD,j6,nJ,eY,sIf,jT,gh,xD,uo,Bg,zm,bOr,wR,mV,bOf,aF,bJ,bF,xf,aH,aD,g2,g1,gN,dH,aq,aV,cZ,gA,dD,dM,tRg,rgK.eq_1,dU,dG.eq_1,dF.eq_1,jM,Bf,km,DR,eZ,rY,Option.some.injEq,exists_eq,exists_eq',false_implies,Opd.slot.injEq,forall_eq,forall_eq',bO,Ca,yx,lC,GP,nQ,ph,cX,eU,gY,dJ,gW,iW,bK,nM,GJ,bH,iV,cD,iU,mD,m9,fV,cA,rE,rG,zu,gG,jO,dX,dY,dZ,dh,jV,dN,dO,dR,uv,lA,uw,xJ,v4,gGe,gGt,gLe,gLt,gEq,gNe,uh,gIs,iK,rF,cP,zp,xj,xK,gM2,cH,cW,fU,lB,gIx,Opd.get,aM.at,O.frz,lsO,tuO,rR,O.fz,O.alias,m7,aP,Bj,dI,aK,dw,List.getElem?_cons_zero,List.getElem?_cons_succ,List.length_cons,List.length_nil,List.map_cons,List.map_nil,List.set_cons_zero,List.set_cons_succ,List.replicate_succ,List.replicate_zero,List.cons_append,List.nil_append,List.getD_cons_zero,List.getD_cons_succ,if_true,if_false,Bool.false_eq_true,reduceIte,reduceCtorEq,Bool.not_true,Bool.not_false,implies_true,true_and,and_true,Nat.sub_self,Nat.reduceAdd,Nat.reduceSub,Nat.zero_add,List.all_cons,List.all_nil,Bool.and_true,Bool.true_and]
 refine ⟨n,_,k,by omega,rfl,hd,by omega,fun ss d' hss hsn hup hfm hst hd' => ?_⟩
 obtain ⟨ys,rfl,hup⟩:=hup
 obtain ⟨ds',rfl⟩:=hd'.frz
 rw [List.length_map] at hss
 simp only [eO,gD,j6,nJ,eY,sIf,jT,gh,xD,uo,Bg,zm,bOr,wR,mV,bOf,aF,bJ,bF,xf,aH,aD,g2,g1,gN,dH,aq,aV,cZ,gA,dD,dM,tRg,rgK.eq_1,dU,dG.eq_1,dF.eq_1,jM,Bf,km,DR,eZ,rY,Option.some.injEq,exists_eq,exists_eq',false_implies,Opd.slot.injEq,forall_eq,forall_eq',bO,Ca,yx,lC,GP,nQ,ph,cX,eU,gY,dJ,gW,iW,bK,nM,GJ,bH,iV,cD,iU,mD,m9,fV,cA,rE,rG,zu,gG,jO,dX,dY,dZ,dh,jV,dN,dO,dR,uv,lA,uw,xJ,v4,gGe,gGt,gLe,gLt,gEq,gNe,uh,gIs,iK,rF,cP,zp,xj,xK,gM2,cH,cW,fU,lB,gIx,Opd.get,aM.at,O.frz,lsO,tuO,rR,O.fz,O.alias,m7,aP,Bj,dI,aK,dw,List.getElem?_cons_zero,List.getElem?_cons_succ,List.length_cons,List.length_nil,List.map_cons,List.map_nil,List.set_cons_zero,List.set_cons_succ,List.replicate_succ,List.replicate_zero,List.cons_append,List.nil_append,List.getD_cons_zero,List.getD_cons_succ,if_true,if_false,Bool.false_eq_true,reduceIte,reduceCtorEq,Bool.not_true,Bool.not_false,implies_true,true_and,and_true,Nat.sub_self,Nat.reduceAdd,Nat.reduceSub,Nat.zero_add,List.all_cons,List.all_nil,Bool.and_true,Bool.true_and]
 refine ⟨n+2,_,_,by omega,rfl,hd',by simp,by simp,fun sh d' hsh hd' => ?_⟩
 obtain ⟨ds',rfl⟩:=hd'.frz
 obtain ⟨q,rfl,hq1,hq2⟩ : ∃ q:Int,sh = .int q∧1≤q∧q≤6:=by
  simp only [List.mem_cons,List.not_mem_nil,or_false] at hsh
  rcases hsh with rfl | rfl | rfl | rfl<;>exact ⟨_,rfl,by decide,by decide⟩
 simp only [eO,gD,j6,nJ,eY,sIf,jT,gh,xD,uo,Bg,zm,bOr,wR,mV,bOf,aF,bJ,bF,xf,aH,aD,g2,g1,gN,dH,aq,aV,cZ,gA,dD,dM,tRg,rgK.eq_1,dU,dG.eq_1,dF.eq_1,jM,Bf,km,DR,eZ,rY,Option.some.injEq,exists_eq,exists_eq',false_implies,Opd.slot.injEq,forall_eq,forall_eq',bO,Ca,yx,lC,GP,nQ,ph,cX,eU,gY,dJ,gW,iW,bK,nM,GJ,bH,iV,cD,iU,mD,m9,fV,cA,rE,rG,zu,gG,jO,dX,dY,dZ,dh,jV,dN,dO,dR,uv,lA,uw,xJ,v4,gGe,gGt,gLe,gLt,gEq,gNe,uh,gIs,iK,rF,cP,zp,xj,xK,gM2,cH,cW,fU,lB,gIx,Opd.get,aM.at,O.frz,lsO,tuO,rR,O.fz,O.alias,m7,aP,Bj,dI,aK,dw,List.getElem?_cons_zero,List.getElem?_cons_succ,List.length_cons,List.length_nil,List.map_cons,List.map_nil,List.set_cons_zero,List.set_cons_succ,List.replicate_succ,List.replicate_zero,List.cons_append,List.nil_append,List.getD_cons_zero,List.getD_cons_succ,if_true,if_false,Bool.false_eq_true,reduceIte,reduceCtorEq,Bool.not_true,Bool.not_false,implies_true,true_and,and_true,Nat.sub_self,Nat.reduceAdd,Nat.reduceSub,Nat.zero_add,List.all_cons,List.all_nil,Bool.and_true,Bool.true_and]
 refine ⟨rfl,z9 (fun i acc ρ => ∃ ds,Dk (n+3+i) (.lst ds)∧acc.length=i∧(∀ t∈acc, ∃ z:Int,t = .int z∧(z=0∨z=1)) ∧
  ρ=[some (.lst ds),some (.pure (.int k)),some (.pure (.bool b)),some (.pure (.list (ys.map PyData.str))),some (.lst []),some (.pure (.int q)),none,none,none,none,none,none]) k _ 0 _ _ (by rw [List.length_map];omega) (fun i t acc ρ ts' Q' m hik hi nx => ?_) ⟨_,hd',rfl,by simp,rfl⟩ fun acc ρ hi => ?_⟩
 ·obtain ⟨ds,hd,hl,ha,rfl⟩:=hi
  unfold iQ
  simp only [eO,gD,j6,nJ,eY,sIf,jT,gh,xD,uo,Bg,zm,bOr,wR,mV,bOf,aF,bJ,bF,xf,aH,aD,g2,g1,gN,dH,aq,aV,cZ,gA,dD,dM,tRg,rgK.eq_1,dU,dG.eq_1,dF.eq_1,jM,Bf,km,DR,eZ,rY,Option.some.injEq,exists_eq,exists_eq',false_implies,Opd.slot.injEq,forall_eq,forall_eq',bO,Ca,yx,lC,GP,nQ,ph,cX,eU,gY,dJ,gW,iW,bK,nM,GJ,bH,iV,cD,iU,mD,m9,fV,cA,rE,rG,zu,gG,jO,dX,dY,dZ,dh,jV,dN,dO,dR,uv,lA,uw,xJ,v4,gGe,gGt,gLe,gLt,gEq,gNe,uh,gIs,iK,rF,cP,zp,xj,xK,gM2,cH,cW,fU,lB,gIx,Opd.get,aM.at,O.frz,lsO,tuO,rR,O.fz,O.alias,m7,aP,Bj,dI,aK,dw,List.getElem?_cons_zero,List.getElem?_cons_succ,List.length_cons,List.length_nil,List.map_cons,List.map_nil,List.set_cons_zero,List.set_cons_succ,List.replicate_succ,List.replicate_zero,List.cons_append,List.nil_append,List.getD_cons_zero,List.getD_cons_succ,if_true,if_false,Bool.false_eq_true,reduceIte,reduceCtorEq,Bool.not_true,Bool.not_false,implies_true,true_and,and_true,Nat.sub_self,Nat.reduceAdd,Nat.reduceSub,Nat.zero_add,List.all_cons,List.all_nil,Bool.and_true,Bool.true_and]
  refine ⟨rfl,n+3+i,_,2,by omega,rfl,hd,by decide,by decide,fun r d' h0 h1 hd' => ?_⟩
  obtain ⟨ds',rfl⟩:=hd'.frz
  simp only [eO,gD,j6,nJ,eY,sIf,jT,gh,xD,uo,Bg,zm,bOr,wR,mV,bOf,aF,bJ,bF,xf,aH,aD,g2,g1,gN,dH,aq,aV,cZ,gA,dD,dM,tRg,rgK.eq_1,dU,dG.eq_1,dF.eq_1,jM,Bf,km,DR,eZ,rY,Option.some.injEq,exists_eq,exists_eq',false_implies,Opd.slot.injEq,forall_eq,forall_eq',bO,Ca,yx,lC,GP,nQ,ph,cX,eU,gY,dJ,gW,iW,bK,nM,GJ,bH,iV,cD,iU,mD,m9,fV,cA,rE,rG,zu,gG,jO,dX,dY,dZ,dh,jV,dN,dO,dR,uv,lA,uw,xJ,v4,gGe,gGt,gLe,gLt,gEq,gNe,uh,gIs,iK,rF,cP,zp,xj,xK,gM2,cH,cW,fU,lB,gIx,Opd.get,aM.at,O.frz,lsO,tuO,rR,O.fz,O.alias,m7,aP,Bj,dI,aK,dw,List.getElem?_cons_zero,List.getElem?_cons_succ,List.length_cons,List.length_nil,List.map_cons,List.map_nil,List.set_cons_zero,List.set_cons_succ,List.replicate_succ,List.replicate_zero,List.cons_append,List.nil_append,List.getD_cons_zero,List.getD_cons_succ,if_true,if_false,Bool.false_eq_true,reduceIte,reduceCtorEq,Bool.not_true,Bool.not_false,implies_true,true_and,and_true,Nat.sub_self,Nat.reduceAdd,Nat.reduceSub,Nat.zero_add,List.all_cons,List.all_nil,Bool.and_true,Bool.true_and]
  refine nx _ _ ⟨ds',hd',by simp [hl],fun t mt => ?_,rfl⟩
  rcases List.mem_append.mp mt with mt | mt
  ·exact ha t mt
  ·exact ⟨r,List.mem_singleton.mp mt,by omega⟩
 ·obtain ⟨ds2,hd2,hl2,ha2,rfl⟩:=hi
  simp only [eO,gD,j6,nJ,eY,sIf,jT,gh,xD,uo,Bg,zm,bOr,wR,mV,bOf,aF,bJ,bF,xf,aH,aD,g2,g1,gN,dH,aq,aV,cZ,gA,dD,dM,tRg,rgK.eq_1,dU,dG.eq_1,dF.eq_1,jM,Bf,km,DR,eZ,rY,Option.some.injEq,exists_eq,exists_eq',false_implies,Opd.slot.injEq,forall_eq,forall_eq',bO,Ca,yx,lC,GP,nQ,ph,cX,eU,gY,dJ,gW,iW,bK,nM,GJ,bH,iV,cD,iU,mD,m9,fV,cA,rE,rG,zu,gG,jO,dX,dY,dZ,dh,jV,dN,dO,dR,uv,lA,uw,xJ,v4,gGe,gGt,gLe,gLt,gEq,gNe,uh,gIs,iK,rF,cP,zp,xj,xK,gM2,cH,cW,fU,lB,gIx,Opd.get,aM.at,O.frz,lsO,tuO,rR,O.fz,O.alias,m7,aP,Bj,dI,aK,dw,List.getElem?_cons_zero,List.getElem?_cons_succ,List.length_cons,List.length_nil,List.map_cons,List.map_nil,List.set_cons_zero,List.set_cons_succ,List.replicate_succ,List.replicate_zero,List.cons_append,List.nil_append,List.getD_cons_zero,List.getD_cons_succ,if_true,if_false,Bool.false_eq_true,reduceIte,reduceCtorEq,Bool.not_true,Bool.not_false,implies_true,true_and,and_true,Nat.sub_self,Nat.reduceAdd,Nat.reduceSub,Nat.zero_add,List.all_cons,List.all_nil,Bool.and_true,Bool.true_and]
  refine ⟨rfl,vG (fun c ρ => ∃ ds us x7 x8 x9 x10,Dk (n+3+k+12 * c) (.lst ds)∧us.length≤40∧TA ys us c 0∧SD b acc ys us∧ρ=V8 ds k b (ys.map PyData.str) (us.map lD) q acc x7 x8 x9 x10) (cQ (ys.map PyData.str)) _ 0 _ rfl (by omega) (fun c t ρ D' mt hinv n1 _ _ _ => ?_) ⟨ds2, [],none,none,none,none,hd2,by simp,⟨by simp,by simp,by simp⟩,(fun _ _ m=>nomatch m),rfl⟩ fun ρ hinv => ?_⟩
  ·obtain ⟨u,hj,hu,rfl⟩:=aA3 mt
   obtain ⟨ds,us,x7,x8,x9,x10,hd,hus,hut,hsd,rfl⟩:=hinv
   refine ⟨rfl,rfl,rfl, ?_⟩
   exact aBf (m:=n+3+k+12 * c) (by omega) hd hss hk hup (by omega) (fun t m=>let ⟨z,e,_⟩:=ha2 t m;⟨z,e⟩) hq1 hq2 hu (by omega) hus hut hsd fun ds' us' x9' x10' h1 h2 h3 h4=>n1 _ ⟨ds',us',_,_,_,_,h1.mono (by omega),h2,h3,h4,rfl⟩
  ·obtain ⟨ds,us,x7,x8,x9,x10,hd,hus,hut,hsd,rfl⟩:=hinv
   rw [Ii,List.length_map] at hd
   unfold V8
   simp only [eO,gD,j6,nJ,eY,sIf,jT,gh,xD,uo,Bg,zm,bOr,wR,mV,bOf,aF,bJ,bF,xf,aH,aD,g2,g1,gN,dH,aq,aV,cZ,gA,dD,dM,tRg,rgK.eq_1,dU,dG.eq_1,dF.eq_1,jM,Bf,km,DR,eZ,rY,Option.some.injEq,exists_eq,exists_eq',false_implies,Opd.slot.injEq,forall_eq,forall_eq',bO,Ca,yx,lC,GP,nQ,ph,cX,eU,gY,dJ,gW,iW,bK,nM,GJ,bH,iV,cD,iU,mD,m9,fV,cA,rE,rG,zu,gG,jO,dX,dY,dZ,dh,jV,dN,dO,dR,uv,lA,uw,xJ,v4,gGe,gGt,gLe,gLt,gEq,gNe,uh,gIs,iK,rF,cP,zp,xj,xK,gM2,cH,cW,fU,lB,gIx,Opd.get,aM.at,O.frz,lsO,tuO,rR,O.fz,O.alias,m7,aP,Bj,dI,aK,dw,List.getElem?_cons_zero,List.getElem?_cons_succ,List.length_cons,List.length_nil,List.map_cons,List.map_nil,List.set_cons_zero,List.set_cons_succ,List.replicate_succ,List.replicate_zero,List.cons_append,List.nil_append,List.getD_cons_zero,List.getD_cons_succ,if_true,if_false,Bool.false_eq_true,reduceIte,reduceCtorEq,Bool.not_true,Bool.not_false,implies_true,true_and,and_true,Nat.sub_self,Nat.reduceAdd,Nat.reduceSub,Nat.zero_add,List.all_cons,List.all_nil,Bool.and_true,Bool.true_and]
   refine h ys us _ ⟨hup,by omega,by omega,fun y hy => ?_,hus,hut.tk,hut.od⟩ (by obtain ⟨st,hs,f⟩:=hst;exact ⟨st,hs,fun y hy=>by obtain ⟨c,c1,c2,e⟩:=f _ (List.mem_map_of_mem hy);exact ⟨c,c1,c2,by injection e⟩⟩) (by omega) (fun hb=>by subst hb;exact hsd.col hup (by omega) ha2 fun u m=>⟨(hut.tk u m).1,(hut.tk u m).2.1⟩) (hd.mono (by omega))
   ·obtain ⟨x,ex,h1,h2⟩:=hsn _ (List.mem_map_of_mem hy)
    cases ex
    exact ⟨h1,h2⟩
end WS
namespace WC
open PySem PySem.Spec L2 DL WS
open PyProof.Rows hiding St
local instance:Tbs:=⟨[],fun _=>0, [],fun _=>0⟩
local instance:Bas:=⟨fun _=>none,fun _=>False, []⟩
theorem VB {o:O} {ts:List T} {l:List (Key×T)} {Q:O->Prop} (h1:rR o=some ts) (h2:z8 ts=some l) (h:Q (.dct (Bv [] l))):xO [o] Q:=by
 unfold xO;dsimp only;rw [h1];dsimp only;rw [h2];exact h
def Dq (us:List (Str×Str)) (s:Str):List Str:=us.flatMap fun u=>(if s=u.1 then [u.2] else [])++(if s=u.2 then [u.1] else [])
def srt (l:List Str):List T:=(l.map PyData.str).mergeSort dLe
def tabL (ys:List Str) (us:List (Str×Str)):List (Key×T):=ys.map fun s=>(Sum.inr s,PyData.list (srt (Dq us s)))
def dcL (ys:List Str) (f:Str->List Str):List (Key×List T):=ys.map fun s=>(Sum.inr s,(f s).map PyData.str)
theorem vH : ∀ a b:Str,(Sum.inr a:Key)=Sum.inr b->a=b:=fun _ _ e=>by injection e
theorem Yd {l:List Nat} : ¬ l<l:=List.lt_irrefl l
theorem zG {ys:List Str} (h:Up ys):ys.Nodup:=List.Pairwise.imp (S:=fun a b=>a≠b) (fun {a b} q=>fun e=>by subst e;exact Yd q) h
theorem Xd (us:List (Str×Str)) (u:Str×Str) (s:Str):Dq (us++[u]) s=Dq us s++((if s=u.1 then [u.2] else [])++(if s=u.2 then [u.1] else [])):=by
 unfold Dq;rw [List.flatMap_append];simp
theorem O3 (us:List (Str×Str)) (s:Str):(Dq us s).length≤2 * us.length:=by
 unfold Dq
 rw [List.length_flatMap]
 induction us with
 | nil=>simp
 | cons u us ih =>
  rw [List.map_cons,List.sum_cons,List.length_cons]
  have : ((if s=u.1 then [u.2] else [])++(if s=u.2 then [u.1] else [])).length≤2:=by
   rw [List.length_append];split<;>split<;>simp
  omega
theorem VD {ys:List Str} {f:Str->List Str} {a b:Str} (nd:ys.Nodup) (ha:a∈ys) (hb:b∈ys) (ne:a≠b) :
  klk (dcL ys f) (.inr a)=some ((f a).map PyData.str) ∧
  klk (U3 (dcL ys f) (.inr a) ((f a).map PyData.str++[.str b])) (.inr b)=some ((f b).map PyData.str) ∧
  U3 (U3 (dcL ys f) (.inr a) ((f a).map PyData.str++[.str b])) (.inr b) ((f b).map PyData.str++[.str a])=dcL ys fun s=>f s++((if s=a then [b] else [])++(if s=b then [a] else [])):=by
 have e1:U3 (dcL ys f) (.inr a) ((f a).map PyData.str++[.str b])=ys.map fun s=>(Sum.inr s,if s=a then (f a).map PyData.str++[PyData.str b] else (f s).map PyData.str):=Iw (f:=Sum.inr) vH a _ ys nd
 refine ⟨Nf (f:=Sum.inr) vH a ys ha, ?_, ?_⟩
 ·rw [e1]
  have:=Nf (f:=(Sum.inr:Str->Key)) (g:=fun s=>if s=a then (f a).map PyData.str++[PyData.str b] else (f s).map PyData.str) vH b ys hb
  rw [this,if_neg (Ne.symm ne)]
 ·rw [e1]
  have:=Iw (f:=(Sum.inr:Str->Key)) (g:=fun s=>if s=a then (f a).map PyData.str++[PyData.str b] else (f s).map PyData.str) vH b ((f b).map PyData.str++[PyData.str a]) ys nd
  rw [this]
  unfold dcL
  refine List.map_congr_left fun s _ => ?_
  refine Prod.ext rfl ?_
  dsimp only
  by_cases h1:s=a
  ·subst h1
   rw [if_neg ne,if_pos rfl,if_pos rfl,if_neg ne];simp
  ·by_cases h2:s=b
   ·subst h2
    rw [if_pos rfl,if_neg h1,if_pos rfl];simp
   ·rw [if_neg h2,if_neg h1,if_neg h1,if_neg h2];simp
theorem yE {n0:Option O} {Q:List (Key×List T)->aM->Prop} : ∀ (rest done:List Str),(done++rest).Nodup->Q (dcL (done++rest) fun _=>[]) [n0,none,none,none,none,none] ->
  xM (bH 4) (aF 4) [4] (rest.map PyData.str) (dcL done fun _=>[]) [n0,none,none,none,none,none] Q
 | [],done,_,q=>by rw [List.append_nil] at q;exact q
 | s :: rest,done,nd,q=>by
  rw [List.map_cons,xM]
  (try sizeOf_list_dec)
  refine ⟨rfl, .inr s,rfl, ?_, ?_⟩
  ·unfold klk dcL
   rw [List.find?_eq_none.mpr fun p hp => ?_]
   ·rfl
   ·obtain ⟨x,hx,rfl⟩:=List.mem_map.mp hp
    intro e
    have:=vH _ _ (of_decide_eq_true e)
    exact (List.nodup_append.mp nd).2.2 x hx s List.mem_cons_self this
  ·have:=yE (n0:=n0) (Q:=Q) rest (done++[s]) (by simpa using nd) (by simpa using q)
   have e:dcL (done++[s]) (fun _=>[])=dcL done (fun _=>[])++[((Sum.inr s:Key),([]:List T))]:=by unfold dcL;rw [List.map_append];rfl
   rw [e] at this
   exact this
theorem oF {l:List Str}:PySem.W.AllAlike (l.map PyData.str)∧PySem.W.Sortable (l.map PyData.str) ∧ ∀ t∈l.map PyData.str,t.depth≤100:=by
 refine ⟨fun d hd e he => ?_, .inr fun d hd => ?_,fun d hd => ?_⟩
 ·obtain ⟨x,_,rfl⟩:=List.mem_map.mp hd
  obtain ⟨y,_,rfl⟩:=List.mem_map.mp he
  simp [PySem.W.alike]
 ·obtain ⟨x,_,rfl⟩:=List.mem_map.mp hd
  simp
 ·obtain ⟨x,_,rfl⟩:=List.mem_map.mp hd
  simp [PyData.depth]
theorem Xe {ys:List Str} (f:Str->T) (nd:ys.Nodup):((ys.map fun s=>((Sum.inr s:Key),f s)).map (·.1)).Nodup:=by
 rw [List.map_map]
 exact List.pairwise_map.mpr (nd.imp fun ne e=>ne (vH _ _ e))
theorem Ly (f:Str->T) : ∀ ys:List Str,z8 (ys.map fun s => .tuple [.str s,f s])=some (ys.map fun s=>(Sum.inr s,f s))
 | []=>rfl
 | y :: ys=>by rw [List.map_cons,z8,Ly f ys];rfl
def fG:bU:=fun os Q => ∃ ys us,os=[.pure (oE ys us)]∧nU ys us∧Q (.dct (tabL ys us)) []
def lV:bU:=fG
theorem FZ {n0 n1 n2 n3:Option O} {Q:List (Key×T)->aM->Prop} {f:Str->List Str} (hl : ∀ s,(f s).length≤100) : ∀ (rest done:List Str),(done++rest).Nodup->Q ((done++rest).map fun s=>(Sum.inr s, .list (srt (f s)))) [n0,n1,n2,n3,none,none] ->
  Bw (iV 2 (cD (bH 4) (cD (bH 5) iU))) rY (aF 4) (aq Gg (aD (aF 5) aH)) [4,5] (rest.map fun s => .tuple [.str s, .list ((f s).map PyData.str)]) (done.map fun s=>(Sum.inr s, .list (srt (f s)))) [n0,n1,n2,n3,none,none] Q
 | [],done,_,q=>by rw [List.append_nil] at q;exact q
 | s :: rest,done,nd,q=>by
  rw [List.map_cons,Bw]
  (try sizeOf_list_dec)
  refine ⟨rfl,rfl, .inr s,rfl, .inr ⟨oF.1,oF.2.1,oF.2.2,by rw [List.length_map];have:=hl s;omega, ?_⟩⟩
  rw [Pn]
  ·have:=FZ (n0:=n0) (n1:=n1) (n2:=n2) (n3:=n3) (Q:=Q) hl rest (done++[s]) (by simpa using nd) (by simpa using q)
   rw [List.map_append] at this
   exact this
  ·intro p hp e
   obtain ⟨x,hx,rfl⟩:=List.mem_map.mp hp
   exact (List.nodup_append.mp nd).2.2 x hx s List.mem_cons_self (vH _ _ e)
def nA:ST:=(eO (eY (LC 1 2 3))
 (eY (LC 1 3 2)))
def j7:ST:=(eO (jT 1 (xN (iW (bF gIx (aF 0) (bJ (.int 0)))) (bH 4) (aF 4) [4]))
 (eO (xD (iW (bF gIx (aF 0) (bJ (.int 1)))) (iV 2 (cD (bH 2) (cD (bH 3) iU))) nA)
 (j6 (fun j=>[false].getD j false) (Ae 1 (iV 2 (cD (bH 4) (cD (bH 5) iU))) rY (aF 4) (aq Gg (aD (aF 5) aH)) [4,5]))))
def uV:ST:=(eO (eY (LC 1 2 3))
 (eY (LC 1 3 2)))
def nW:ST:=(eO (jT 1 (xN (iW (bF gIx (aF 0) (bJ (.int 0)))) (bH 4) (aF 4) [4]))
 (eO (xD (iW (bF gIx (aF 0) (bJ (.int 1)))) (iV 2 (cD (bH 2) (cD (bH 3) iU))) uV)
 (j6 (fun j=>[false].getD j false) (aq xO (aD (Ho 1 (iV 2 (cD (bH 4) (cD (bH 5) iU))) rY (cZ (aD (aF 4) (aD (aq Gg (aD (aF 5) aH)) aH))) [4,5]) aH)))))
theorem Aj {ys:List Str} (nd:ys.Nodup) {D:qY} {tb:ST} (hb : ∀ D a b f x4 x5,a∈ys->b∈ys->a≠b->(∀ s,(f s).length≤100)->D.nx [x4,some (.dcl (dcL ys fun s=>f s++((if s=a then [b] else [])++(if s=b then [a] else [])))),some (.pure (.str a)),some (.pure (.str b)),x5,x5] ->
      tb D [x4,some (.dcl (dcL ys f)),some (.pure (.str a)),some (.pure (.str b)),x5,x5]) {n0:Option O} :
    ∀ (rest done:List (Str×Str)) (n2 n3:Option O),done.length+rest.length≤40->(∀ u∈rest,tkOk ys u)->(∀ n2 n3,D.nx [n0,some (.dcl (dcL ys (Dq (done++rest)))),n2,n3,none,none]) ->
    Mr (iV 2 (cD (bH 2) (cD (bH 3) iU))) tb D (rest.map lD) [n0,some (.dcl (dcL ys (Dq done))),n2,n3,none,none]
  | [],done,n2,n3,_,_,q=>by rw [List.append_nil] at q;exact q n2 n3
  | u :: rest,done,n2,n3,hl,hu,q=>by
    rw [List.map_cons,Mr]
    rw [show lD u=PyData.tuple [PyData.str u.1,PyData.str u.2] from rfl]
    (try sizeOf_list_dec)
    refine ⟨rfl,rfl, ?_⟩
    obtain ⟨h1,h2,h3⟩:=hu u List.mem_cons_self
    refine hb _ _ _ _ _ _ h1 h2 (fun e=>Yd (e▸h3)) (fun s=>by have:=O3 done s;rw [List.length_cons] at hl;omega) ?_
    have:=Aj nd hb (n0:=n0) rest (done++[u]) (some (.pure (.str u.1))) (some (.pure (.str u.2))) (by rw [List.length_append,List.length_singleton];rw [List.length_cons] at hl;omega) (fun v hv=>hu v (List.mem_cons_of_mem _ hv)) (by simpa using q)
    have e:dcL ys (Dq (done++[u]))=dcL ys fun s=>Dq done s++((if s=u.1 then [u.2] else [])++(if s=u.2 then [u.1] else [])):=by
      unfold dcL;exact List.map_congr_left fun s _=>by rw [Xd]
    rw [e] at this
    exact this
theorem zH (os:List O) (Qa:O->List O->Prop) (_:os.length=1) (h:fG os Qa):j7 (aP [false] Qa) (aK 6 os):=by
 obtain ⟨ys,us,rfl,net,h⟩:=h
 have nd:=zG net.up
 unfold j7 oE
 (try sizeOf_list_dec)
 refine yE (n0:=_) ys [] (by simpa using nd) ?_
 (try sizeOf_list_dec)
 refine ⟨rfl, ?_⟩
 refine Aj nd (fun D a b f x4 x5 ha hb ne hf k => ?_) us [] none none (by simpa using net.m) net.tk fun n2 n3 => ?_
 ·obtain ⟨k1,k2,k3⟩:=VD (f:=f) nd ha hb ne
  unfold nA
  (try sizeOf_list_dec)
  refine ⟨_, .inr a, .str b,_,rfl,rfl,rfl,k1,by rw [List.length_map];have:=hf a;omega, ?_⟩
  (try sizeOf_list_dec)
  refine ⟨_, .inr b, .str a,_,rfl,rfl,rfl,k2,by rw [List.length_map];have:=hf b;omega, ?_⟩
  rw [k3]
  exact k
 ·(try sizeOf_list_dec)
  refine ⟨_,_,rfl,rfl, ?_, ?_⟩
  ·unfold dcL;rw [List.length_map,List.length_map];have:=net.n2;omega
  ·have e:((dcL ys (Dq ([]++us))).map fun p=>(p.1,PyData.list p.2)).map LQ=ys.map fun s=>PyData.tuple [.str s, .list ((Dq us s).map PyData.str)]:=by
    unfold dcL;rw [List.map_map,List.map_map];rfl
   rw [List.nil_append] at e
   rw [e]
   exact FZ (f:=Dq us) (fun s=>by have:=O3 us s;have:=net.m;omega) ys [] (by simpa using nd) h
theorem Gn (os:List O) (Qa:O->List O->Prop) (_:os.length=1) (h:lV os Qa):nW (aP [false] Qa) (aK 6 os):=by
 obtain ⟨ys,us,rfl,net,h⟩:=h
 have nd:=zG net.up
 unfold nW oE
 (try sizeOf_list_dec)
 refine yE (n0:=_) ys [] (by simpa using nd) ?_
 (try sizeOf_list_dec)
 refine ⟨rfl, ?_⟩
 refine Aj nd (fun D a b f x4 x5 ha hb ne hf k => ?_) us [] none none (by simpa using net.m) net.tk fun n2 n3 => ?_
 ·obtain ⟨k1,k2,k3⟩:=VD (f:=f) nd ha hb ne
  unfold uV
  (try sizeOf_list_dec)
  refine ⟨_, .inr a, .str b,_,rfl,rfl,rfl,k1,by rw [List.length_map];have:=hf a;omega, ?_⟩
  (try sizeOf_list_dec)
  refine ⟨_, .inr b, .str a,_,rfl,rfl,rfl,k2,by rw [List.length_map];have:=hf b;omega, ?_⟩
  rw [k3]
  exact k
 ·(try sizeOf_list_dec)
  refine ⟨_,_,rfl,rfl, ?_, ?_⟩
  ·unfold dcL;rw [List.length_map,List.length_map];have:=net.n2;omega
  ·have e:((dcL ys (Dq ([]++us))).map fun p=>(p.1,PyData.list p.2)).map LQ=ys.map fun s=>PyData.tuple [.str s, .list ((Dq us s).map PyData.str)]:=by
    unfold dcL;rw [List.map_map,List.map_map];rfl
   rw [List.nil_append] at e
   rw [e]
   refine Eu (fun t=>match t with | .tuple [a, .list ts] => .tuple [a, .list (ts.mergeSort dLe)] | t=>t) _ _ (fun t m Q' acc ts' q => ?_) ?_
   ·obtain ⟨s,_,rfl⟩:=List.mem_map.mp m
    rw [iQ]
    (try sizeOf_list_dec)
    refine ⟨rfl,rfl, .inr ⟨oF.1,oF.2.1,oF.2.2,by rw [List.length_map];have:=O3 us s;have:=net.m;omega,q⟩⟩
   ·rw [List.nil_append,List.map_map]
    refine VB rfl (Ly (fun s => .list (srt (Dq us s))) ys) ?_
    rw [qJ _ [] (by rw [List.nil_append];exact Xe _ nd),List.nil_append]
    exact h
end WC
namespace WS
open PySem PySem.Spec L2 DL
open PyProof.Rows hiding St
open PySem.W (dataLt alike)
abbrev dLt (a b:T):Prop:=dataLt a b=true
theorem aA4 {a:T} : ¬ dLt a a:=by
 unfold dLt dataLt
 rw [lex_irrefl]
 simp
theorem VF {a b c:T} (h:dLt a b) (k:dLt b c):dLt a c:=lex_trans _ _ _ h k
theorem VG (a b c:T) (h:dLe a b=true) (k:dLe b c=true):dLe a c=true:=by
 unfold dLe at *
 rw [Bool.not_eq_true'] at *
 cases e:dataLt c a with
 | false=>rfl
 | true =>
  rcases lex_negTrans _ (PySem.W.keyToks b) _ e with q | q
  ·exact (Bool.false_ne_true (k.symm.trans q)).elim
  ·exact (Bool.false_ne_true (h.symm.trans q)).elim
theorem VH (a b:T):(dLe a b || dLe b a)=true:=by
 unfold dLe
 cases e:dataLt b a with
 | false=>rfl
 | true =>
  cases e2:dataLt a b with
  | false=>rfl
  | true=>exact (aA4 (VF (a:=b) (b:=a) e e2)).elim
theorem aA5 {x y:T} (h:alike x y=true) (h1:dataLt x y=false) (h2:dataLt y x=false):PyData.eqv x y=true:=by
 have e:=lex_total _ _ h1 h2
 cases q:PyData.eqv x y with
 | true=>rfl
 | false =>
  have:=(PySem.W.toks_eqv x y h).2 q [] [.inl 0]
  rw [e,PySem.W.lex_pre,lex_irrefl] at this
  cases this
mutual
theorem Xf : ∀ {k l:NestedKey},PyData.eqv k.data l.data=true->k=l
 | .none, .none,_=>rfl
 | .num i, .num j,h=>by
  have h:PyData.eqv (.int i) (.int j)=true:=h
  have : i=j:=by simpa [PyData.eqv] using h
  rw [this]
 | .text x, .text y,h=>by
  have h:PyData.eqv (.str x) (.str y)=true:=h
  have : x=y:=by simpa [PyData.eqv] using h
  rw [this]
 | .tup a, .tup b,h=>by
  have h:PyData.eqv (.tuple (NestedKey.datas a)) (.tuple (NestedKey.datas b))=true:=h
  have h2:PyData.eqvAll (NestedKey.datas a) (NestedKey.datas b)=true:=by simpa [PyData.eqv] using h
  rw [eqv_datas h2]
 | .none, .num _,h=>by simp [NestedKey.data,PyData.eqv] at h
 | .none, .text _,h=>by simp [NestedKey.data,PyData.eqv] at h
 | .none, .tup _,h=>by simp [NestedKey.data,PyData.eqv] at h
 | .num _, .none,h=>by simp [NestedKey.data,PyData.eqv] at h
 | .num _, .text _,h=>by simp [NestedKey.data,PyData.eqv] at h
 | .num _, .tup _,h=>by simp [NestedKey.data,PyData.eqv] at h
 | .text _, .none,h=>by simp [NestedKey.data,PyData.eqv] at h
 | .text _, .num _,h=>by simp [NestedKey.data,PyData.eqv] at h
 | .text _, .tup _,h=>by simp [NestedKey.data,PyData.eqv] at h
 | .tup _, .none,h=>by simp [NestedKey.data,PyData.eqv] at h
 | .tup _, .num _,h=>by simp [NestedKey.data,PyData.eqv] at h
 | .tup _, .text _,h=>by simp [NestedKey.data,PyData.eqv] at h
theorem eqv_datas : ∀ {a b:List NestedKey},PyData.eqvAll (NestedKey.datas a) (NestedKey.datas b)=true->a=b
 | [], [],_=>rfl
 | k :: a,l :: b,h=>by
  have h:PyData.eqvAll (k.data :: NestedKey.datas a) (l.data :: NestedKey.datas b)=true:=h
  rw [PyData.eqvAll,Bool.and_eq_true] at h
  rw [Xf h.1,eqv_datas h.2]
 | [],_ :: _,h=>by simp [NestedKey.datas,PyData.eqvAll] at h
 | _ :: _, [],h=>by simp [NestedKey.datas,PyData.eqvAll] at h
end
mutual
theorem Xg : ∀ (k:NestedKey),PyData.eqv k.data k.data=true
 | .none=>by simp [NestedKey.data,PyData.eqv]
 | .num i=>by simp [NestedKey.data,PyData.eqv]
 | .text x=>by simp [NestedKey.data,PyData.eqv]
 | .tup a=>by
  show PyData.eqv (.tuple (NestedKey.datas a)) (.tuple (NestedKey.datas a))=true
  rw [PyData.eqv];exact eqvs_self a
theorem eqvs_self : ∀ (a:List NestedKey),PyData.eqvAll (NestedKey.datas a) (NestedKey.datas a)=true
 | []=>by simp [NestedKey.datas,PyData.eqvAll]
 | k :: a=>by
  show PyData.eqvAll (k.data :: NestedKey.datas a) (k.data :: NestedKey.datas a)=true
  rw [PyData.eqvAll,Xg k,eqvs_self a];rfl
end
mutual
theorem Qq : ∀ (k l:NestedKey),jN k.data l.data=true
 | .tup a, .tup b=>by
  show jN (.tuple (NestedKey.datas a)) (.tuple (NestedKey.datas b))=true
  simp only [jN];exact cmp_datas a b
 | .none,l=>by cases l<;>rfl
 | .num _,l=>by cases l<;>rfl
 | .text _,l=>by cases l<;>rfl
 | .tup _, .none=>rfl
 | .tup _, .num _=>rfl
 | .tup _, .text _=>rfl
theorem cmp_datas : ∀ (a b:List NestedKey),cmpOks (NestedKey.datas a) (NestedKey.datas b)=true
 | [], []=>rfl
 | [],_ :: _=>rfl
 | _ :: _, []=>rfl
 | k :: a,l :: b=>by
  show cmpOks (k.data :: NestedKey.datas a) (l.data :: NestedKey.datas b)=true
  simp only [cmpOks,Qq k l,cmp_datas a b,Bool.and_self]
end
abbrev zJ (t:T):Prop := ∃ k:NestedKey,t=k.data
theorem wg : ∀ {ts:List T},(∀ t∈ts,zJ t) -> ∃ ks,ts=NestedKey.datas ks
 | [],_=>⟨[],rfl⟩
 | t :: ts,h=>by
  obtain ⟨k,rfl⟩:=h t List.mem_cons_self
  obtain ⟨ks,e⟩:=wg fun t m=>h t (List.mem_cons_of_mem _ m)
  exact ⟨k :: ks,by rw [e];rfl⟩
theorem Xh {ts us:List T} (h1 : ∀ t∈ts,zJ t) (h2 : ∀ t∈us,zJ t):PyData.eqvAll ts us=true↔ts=us:=by
 obtain ⟨a,rfl⟩:=wg h1
 obtain ⟨b,rfl⟩:=wg h2
 exact ⟨fun h=>by rw [eqv_datas h],fun h=>by rw [h];exact eqvs_self b⟩
end WS
namespace WE
open PySem PySem.Spec L2 DL WS
open PyProof.Rows hiding St
theorem zF {α : Type} {l:List α} {i:Nat} {t : α} {r:List α} (h:l.drop i=t :: r):l[i]? = some t∧l.drop (i+1)=r∧i<l.length:=by
 have h1:i<l.length:=by
  rcases Nat.lt_or_ge i l.length with q | q
  ·exact q
  ·rw [List.drop_eq_nil_of_le q] at h;cases h
 rw [List.drop_eq_getElem_cons h1] at h
 injection h with e1 e2
 exact ⟨by rw [List.getElem?_eq_getElem h1,e1],e2,h1⟩
theorem vG {g:GT} {tb:ST} {D:qY} (Inv:Nat->aM->Prop) (L:List T) : ∀ (ts:List T) (i:Nat) (ρ : aM),L.drop i=ts->i≤L.length ->
  (∀ i t ρ (D' : qY),L[i]? = some t->Inv i ρ->(∀ ρ',Inv (i+1) ρ'->D'.nx ρ')->(∀ ρ',Inv (i+1) ρ'->D'.ct ρ')->D'.rt=D.rt->D'.bk=D.nx->g t ρ fun ρ1=>tb D' ρ1) ->
  Inv i ρ->(∀ ρ',Inv L.length ρ'->D.nx ρ')->Mr g tb D ts ρ
 | [],i,ρ,e,le,_,h,q=>by
  unfold Mr
  have : i=L.length:=by have:=List.drop_eq_nil_iff.mp e;omega
  subst this
  exact q _ h
 | t :: ts,i,ρ,e,le,st,h,q=>by
  obtain ⟨e1,e2,lt⟩:=zF e
  have nxt : ∀ ρ',Inv (i+1) ρ'->Mr g tb D ts ρ':=fun ρ' h'=>vG Inv L ts (i+1) ρ' e2 lt st h' q
  unfold Mr
  exact st i t ρ _ e1 h nxt nxt rfl rfl
theorem Qs {g:GT} {tt:BT} {te:XT} {vs:List Nat} {Q:List T->aM->Prop} (Inv:Nat->List T->aM->Prop) (L:List T) : ∀ (ts:List T) (i:Nat) (acc:List T) (ρ : aM),L.drop i=ts->i≤L.length ->
  (∀ i t acc ρ ts' (Q' : List T->aM->Prop),L[i]? = some t->Inv i acc ρ->(∀ acc' ρ',Inv (i+1) acc' ρ'->iQ g tt te vs ts' acc' ρ' Q')->iQ g tt te vs (t :: ts') acc ρ Q') ->
  Inv i acc ρ->(∀ acc' ρ',Inv L.length acc' ρ'->Q acc' ρ')->iQ g tt te vs ts acc ρ Q
 | [],i,acc,ρ,e,le,_,h,q=>by
  unfold iQ
  have : i=L.length:=by have:=List.drop_eq_nil_iff.mp e;omega
  subst this
  exact q _ _ h
 | t :: ts,i,acc,ρ,e,le,st,h,q=>by
  obtain ⟨e1,e2,lt⟩:=zF e
  exact st i t acc ρ ts Q e1 h fun acc' ρ' h'=>Qs Inv L ts (i+1) acc' ρ' e2 lt st h' q
theorem aA6 {ts:List T} {r:Int} (h0:0≤r) (h1:r<ts.length) : ∃ t,atI ts r=some t∧ts[r.toNat]? = some t:=by
 unfold atI ixN
 rw [if_pos h0,if_pos (by omega),Option.bind_some]
 obtain ⟨t,e⟩ : ∃ t,ts[r.toNat]? = some t:=⟨_,List.getElem?_eq_getElem (by omega)⟩
 exact ⟨t,e,e⟩
theorem Ls {lo:Int} {n i:Nat} {t:T} (h:(bV lo n)[i]? = some t):i<n∧t = .int (lo+i):=by
 unfold bV at h
 rw [List.getElem?_map] at h
 by_cases q:i<n
 ·rw [List.getElem?_range q] at h
  cases h
  exact ⟨q,rfl⟩
 ·rw [List.getElem?_eq_none (by simpa using q)] at h;cases h
theorem Fb {α : Type} {l:List α} {i:Nat} {a : α} (h:l[i]? = some a):l.take (i+1)=l.take i++[a]:=by
 rw [List.take_succ,h];rfl
def Lz (t:T):Prop := ∃ (x:Str) (vs:List Int),t = .tuple [.str x, .tuple (vs.map PyData.int)]∧x.length≤8∧asc x=true∧(1≤vs.length∧vs.length≤10)∧vs.Nodup ∧ ∀ v∈vs,0≤v∧v≤2000000000
def hdT:T->T
 | .tuple (a :: _)=>a
 | t=>t
structure Xi (rs:List T):Prop where
 row : ∀ t∈rs,Lz t
 nd:(rs.map hdT).Nodup
 n1:1≤rs.length
 n2:rs.length≤20
 fm : ∀ t∈rs.map hdT,aBb t
 up:upS (rs.map hdT)
theorem Ye {ss:List T} (h:upS ss):ss.Nodup:=by
 obtain ⟨ys,rfl,h⟩:=h
 have : ys.Nodup:=List.Pairwise.imp (S:=fun a b=>a≠b) (fun {a b} q=>fun e=>by subst e;exact List.lt_irrefl _ q) h
 exact List.Pairwise.map (S:=fun a b=>a≠b) PyData.str (fun a b ne e=>ne (by cases e;rfl)) this
def jX:bU:=fun os Q => ∃ n d, ∃ k:Nat,n≤800000∧os=[d, .pure (.int k)]∧Dk n d∧1≤k∧k≤12 ∧ ∀ rs d',Xi rs->rs.length=k->Dk (n+100) d'->Q (.pure (.tuple rs)) [d']
def rK:ST:=(eO (jT 5 (eZ (dJ (aD (bF gG (bJ (.int 1)) (aV [true,false] au (aD (aF 0) (aD (bJ (.int 3)) aH)))) aH)) (bH 6) rY (aV [true,false] au (aD (aF 0) (aD (aF 3) aH))) [6]))
 (eY (cX 2 (cZ (aD (aF 4) (aD (aq cW (aD (aq qI (aD (aF 5) aH)) aH)) aH))))))
def lW:ST:=(eO (uo [2,3] (aD (gA aH) (aD (aV [true,false] bQ (aD (aF 0) (aD (gA (aD (bJ (.int 3)) (aD (bJ (.int 6)) (aD (bJ (.int 12)) (aD (bF xJ (bJ (.int 10)) (bJ (.int 9))) aH))))) aH))) aH)))
 (eO (xD (iW (aV [true,false] fD (aD (aF 0) (aD (aF 1) aH)))) (bH 4) rK)
 (j6 (fun j=>[true,false].getD j false) (aq cW (aD (aF 2) aH)))))
theorem Fd (os:List O) (Qa:O->List O->Prop) (_:os.length=2) (h:jX os Qa):lW (aP [true,false] Qa) (aK 7 os):=by
 obtain ⟨n,d,k,hn,rfl,hd,hk1,hk,h⟩:=h
 obtain ⟨ds,rfl⟩:=hd.frz
 unfold lW
 (try sizeOf_list_dec)
 refine ⟨by decide,by decide,by decide,V7 (by omega) hd (by simp) (by simp) fun mo d' mm hd' => ?_⟩
 obtain ⟨ds',rfl⟩:=hd'.frz
 obtain ⟨m,rfl,hm1,hm2⟩ : ∃ m:Int,mo = .int m∧1≤m∧m≤1000000000:=by
  simp only [List.mem_cons,List.not_mem_nil,or_false] at mm
  rcases mm with rfl | rfl | rfl | rfl
  ·exact ⟨_,rfl,by decide,by decide⟩
  ·exact ⟨_,rfl,by decide,by decide⟩
  ·exact ⟨_,rfl,by decide,by decide⟩
  ·exact ⟨_,rfl,by decide,by decide⟩
 (try sizeOf_list_dec)
 refine ⟨rfl,n+1,_,k,by omega,rfl,hd',by omega,fun ss d' hss hsn hup hfm hst hd' => ?_⟩
 obtain ⟨ds',rfl⟩:=hd'.frz
 (try sizeOf_list_dec)
 refine vG (fun c ρ => ∃ ds fo x4 x5 x6,Dk (n+3+4 * c) (.lst ds)∧fo.length=c∧(∀ t∈fo,Lz t)∧fo.map hdT=ss.take c ∧
  ρ=[some (.lst ds),some (.pure (.int k)),some (.lst fo),some (.pure (.int m)),x4,x5,x6]) ss _ 0 _ rfl (by omega) (fun c t ρ D' mt hinv n1 _ _ _ => ?_) ⟨ds', [],none,none,none,hd',rfl,by simp,rfl,rfl⟩ fun ρ hinv => ?_
 ·obtain ⟨ds,fo,x4,x5,x6,hd,hl,hf,hh,rfl⟩:=hinv
  have hc:c<k:=by have:=(List.getElem?_eq_some_iff.mp mt).1;omega
  obtain ⟨x,rfl,hx1,hx2⟩:=hsn t (List.mem_of_getElem? mt)
  refine ⟨rfl, ?_⟩
  unfold rK
  (try sizeOf_list_dec)
  refine ⟨n+3+4 * c,_,_,by omega,rfl,hd,by decide,by decide,fun r d' h0 h1 hd' => ?_⟩
  obtain ⟨ds',rfl⟩:=hd'.frz
  ((try sizeOf_list_dec);repeat (simp only [eZ];(try sizeOf_list_dec)))
  refine ⟨by omega,by omega,z9 (fun i acc ρ => ∃ ds x6,Dk (n+3+4 * c+1+i) (.lst ds)∧acc.length=i∧(∀ t∈acc, ∃ z:Int,t = .int z∧0≤z∧z<1000000000) ∧
   ρ=[some (.lst ds),some (.pure (.int k)),some (.lst fo),some (.pure (.int m)),some (.pure (.str x)),x5,x6]) (1+r).toNat _ 0 _ _ (by simp [bV]) (fun i u acc ρ ts' Q' m2 hik hi nx => ?_) ⟨_,_,hd',rfl,by simp,rfl⟩ fun acc ρ hi => ?_⟩
  ·obtain ⟨ds,x6,hd,hl,ha,rfl⟩:=hi
   unfold iQ
   (try sizeOf_list_dec)
   refine ⟨rfl,n+3+4 * c+1+i,_,m,by omega,rfl,hd,hm1,hm2,fun r d' h0 h1 hd' => ?_⟩
   obtain ⟨ds',rfl⟩:=hd'.frz
   (try sizeOf_list_dec)
   refine nx _ _ ⟨ds',_,hd',by simp [hl],fun t mt => ?_,rfl⟩
   rcases List.mem_append.mp mt with mt | mt
   ·exact ha t mt
   ·exact ⟨r,List.mem_singleton.mp mt,h0,by omega⟩
  ·obtain ⟨ds,x6,hd,hl,ha,rfl⟩:=hi
   (try sizeOf_list_dec)
   obtain ⟨ns,rfl⟩ : ∃ ns:List Int,acc=ns.map .int:=by
    refine ⟨acc.map fun t=>match t with | .int i=>i | _=>0, ?_⟩
    rw [List.map_map]
    refine (List.map_id acc).symm.trans (List.map_congr_left fun t m => ?_)
    obtain ⟨z,rfl,_⟩:=ha t m
    rfl
   refine ⟨rfl,by omega, .inl ⟨ns,rfl,fun ms nd hmem so => ?_⟩⟩
   have hms:ms.length≤4:=by
    have:=Lr nd fun x hx=>(hmem x).mp hx
    simp at hl
    omega
   refine ⟨by omega,n1 _ ⟨ds,_,_,_,_,hd.mono (by omega),by simp [hl];omega,fun t mt => ?_, ?_,rfl⟩⟩
   ·rcases List.mem_append.mp mt with mt | mt
    ·exact hf t mt
    ·obtain rfl:=List.mem_singleton.mp mt
     have h1:1≤ms.length:=by
      have e0:0<ns.length:=by
       simp at hl
       omega
      have:=(hmem ns[0]).mpr (List.getElem_mem e0)
      exact List.length_pos_of_mem this
     refine ⟨x,ms,rfl,hx1,hx2,⟨h1,by omega⟩,nd,fun v mv => ?_⟩
     obtain ⟨z',e,h0,h1⟩:=ha (.int v) (List.mem_map_of_mem ((hmem v).mp mv))
     cases e
     exact ⟨h0,by omega⟩
   ·rw [List.map_append,hh,Fb mt];rfl
 ·obtain ⟨ds,fo,x4,x5,x6,hd,hl,hf,hh,rfl⟩:=hinv
  (try sizeOf_list_dec)
  exact h _ _ ⟨hf,by rw [hh,List.take_length];exact Ye hup,by omega,by omega,by rw [hh,List.take_length];exact hfm,by rw [hh,List.take_length];exact hup⟩ (by omega) (hd.mono (by omega))
theorem Xj {t:T} (h:Zz t):PyData.canLay0 t=true∧t.depth≤100:=by
 obtain ⟨x,rfl,_,ha⟩:=h
 exact ⟨IK ha,by simp [PyData.depth]⟩
theorem Am : ∀ xs ys:List T,(∀ t∈xs, ∃ i:Int,t = .int i)->(∀ t∈ys, ∃ i:Int,t = .int i)->PySem.W.alikeAll xs ys=true
 | [],_,_,_=>by cases ‹List T› <;> simp [PySem.W.alikeAll]
 | _ :: _, [],_,_=>by simp [PySem.W.alikeAll]
 | x :: xs,y :: ys,hx,hy=>by
  obtain ⟨i,rfl⟩:=hx x List.mem_cons_self
  obtain ⟨j,rfl⟩:=hy y List.mem_cons_self
  simp only [PySem.W.alikeAll,PySem.W.alike,Bool.true_and]
  exact Am xs ys (fun t m=>hx t (List.mem_cons_of_mem _ m)) fun t m=>hy t (List.mem_cons_of_mem _ m)
theorem zK {vs:List Int} : ∀ t∈vs.map PyData.int, ∃ i:Int,t = .int i:=fun t m=>by
 obtain ⟨i,_,rfl⟩:=List.mem_map.mp m
 exact ⟨i,rfl⟩
theorem S9 {rs:List T} (h : ∀ t∈rs,Lz t):PySem.W.AllAlike rs∧PySem.W.Sortable rs ∧ ∀ t∈rs,t.depth≤100:=by
 refine ⟨fun d hd e he => ?_, .inl fun d hd => ?_,fun d hd => ?_⟩
 ·obtain ⟨x,us,rfl,_⟩:=h d hd
  obtain ⟨y,vs,rfl,_⟩:=h e he
  simp only [PySem.W.alike,PySem.W.alikeAll,Bool.true_and,Bool.and_true]
  exact Am _ _ zK zK
 ·obtain ⟨x,us,rfl,_⟩:=h d hd
  exact ⟨.str x, [.tuple (us.map PyData.int)],rfl⟩
 ·obtain ⟨x,us,rfl,_⟩:=h d hd
  have : PyData.depthAll (us.map PyData.int)≤0:=Af.mpr fun t m=>by
   obtain ⟨i,rfl⟩:=zK t m
   simp [PyData.depth]
  simp only [PyData.depth,PyData.depthAll]
  omega
theorem SJ {x y:Str} (h:x≠y) (k : ¬ y.cps.toList<x.cps.toList):x.cps.toList<y.cps.toList:=by
 have h1:PySem.W.dataLt (.str y) (.str x)=false:=by rw [PySem.W.dataLt_str];exact decide_eq_false k
 cases e:PySem.W.dataLt (.str x) (.str y) with
 | true=>rw [PySem.W.dataLt_str] at e;exact of_decide_eq_true e
 | false =>
  have:=aA5 (x := .str x) (y := .str y) (by simp [PySem.W.alike]) e h1
  simp [PyData.eqv] at this
  exact absurd this h
theorem VJ {rs:List T} (h : ∀ t∈rs,Lz t) (nd:(rs.map hdT).Nodup):upS ((rs.mergeSort dLe).map hdT):=by
 have pm:=List.mergeSort_perm rs dLe
 have pw:=List.pairwise_mergeSort (le:=dLe) VG VH rs
 have nd2:((rs.mergeSort dLe).map hdT).Nodup:=(pm.map hdT).nodup_iff.mpr nd
 have hr : ∀ t∈rs.mergeSort dLe,Lz t:=fun t m=>h t (pm.mem_iff.mp m)
 generalize rs.mergeSort dLe=l at pw nd2 hr
 have e:l.map hdT=(l.map fun t=>match hdT t with | .str x=>x | _ => "").map PyData.str:=by
  rw [List.map_map]
  refine List.map_congr_left fun t m => ?_
  obtain ⟨x,vs,rfl,_⟩:=hr t m
  rfl
 refine ⟨_,e,List.pairwise_map.mpr ?_⟩
 refine ((List.pairwise_map.mp nd2).and pw).imp_of_mem fun {a c} ha hc q => ?_
 obtain ⟨q1,q2⟩:=q
 obtain ⟨x,vs,rfl,_⟩:=hr a ha
 obtain ⟨y,us,rfl,_⟩:=hr c hc
 have ne:x≠y:=fun z=>q1 (by rw [z];rfl)
 unfold dLe at q2
 rw [Bool.not_eq_true',PySem.W.dataLt_pair (by simp [PySem.W.alike]) (by simp only [PySem.W.alike];exact Am _ _ zK zK),if_neg (by simp [PyData.eqv];exact fun z=>ne z.symm),PySem.W.dataLt_str] at q2
 exact SJ ne (of_decide_eq_false q2)
structure ChF (rs ss:List T) (b:Int) (k m:Nat):Prop where
 b0:0≤b
 len:rs.length=k+1+m
 hd:rs.map hdT=ss
 lo : ∀ j:Nat,j<k+1 -> ∃ z,rs[j]? = some (.tuple [z, .tuple [.int (b+j), .int (b+j+1)]])
 hi : ∀ a:Nat,a<m -> ∃ (z:T) (j:Nat) (vs:List Int),j<k+1∧rs[k+1+a]? = some (.tuple [z, .tuple (vs.map PyData.int)])∧(vs=[b+j,b+j+1]∨vs=[b+j]∨vs=[b+30+a]∨vs=[b+j,b+j+1,b+45+a])
def nY:bU:=fun os Q => ∃ n d, ∃ k m:Nat,n≤800000∧os=[d, .pure (.int k), .pure (.int m)]∧Dk n d∧k≤11∧m≤8 ∧ ∀ rs ss b d',Xi (rs.mergeSort dLe)->ChF rs ss b k m->Dk (n+100) d'->Q (.pure (.tuple [.tuple (rs.mergeSort dLe), .tuple (ss.take (k+1))])) [d']
def vI:ST:=(eO (jT 7 (bF gIx (bF gIx (aF 6) (aV [true,false] au (aD (aF 0) (aD (bF gG (aF 1) (bJ (.int 1))) aH)))) (bJ (.int 1))))
 (eO (jT 8 (gA (aD (aF 7) (aD (yx (aF 7) none (some (bJ (.int 1)))) (aD (cZ (aD (bF gG (bF gG (aF 4) (bJ (.int 30))) (aF 5)) aH)) (aD (bF gG (aF 7) (cZ (aD (bF gG (bF gG (aF 4) (bJ (.int 45))) (aF 5)) aH))) aH))))))
 (eY (cX 6 (cZ (aD (bF gIx (aF 3) (bF gG (bF gG (aF 1) (bJ (.int 1))) (aF 5))) (aD (aV [true,false] bQ (aD (aF 0) (aD (aF 8) aH))) aH)))))))
def qN:ST:=(eO (jT 3 (aV [true,false] lQ (aD (aF 0) (aD (aV [true,false] fD (aD (aF 0) (aD (bF gG (bF gG (aF 1) (bJ (.int 1))) (aF 2)) aH))) aH))))
 (eO (jT 4 (aV [true,false] bQ (aD (aF 0) (aD (gA (aD (bJ (.int 0)) (aD (bJ (.int 5)) (aD (bF jO (bF xJ (bJ (.int 10)) (bJ (.int 9))) (bJ (.int 60))) aH)))) aH))))
 (eO (jT 6 (eZ (dJ (aD (bF gG (aF 1) (bJ (.int 1))) aH)) (bH 5) rY (cZ (aD (bF gIx (aF 3) (aF 5)) (aD (cZ (aD (bF gG (aF 4) (aF 5)) (aD (bF gG (bF gG (aF 4) (aF 5)) (bJ (.int 1))) aH))) aH))) [5]))
 (eO (xD (dJ (aD (aF 2) aH)) (bH 5) vI)
 (j6 (fun j=>[true,false,false].getD j false) (cZ (aD (aq cW (aD (aq Gg (aD (aF 6) aH)) aH)) (aD (aq cW (aD (yx (aF 3) none (some (bF gG (aF 1) (bJ (.int 1))))) aH)) aH))))))))
theorem Je (os:List O) (Qa:O->List O->Prop) (_:os.length=3) (h:nY os Qa):qN (aP [true,false,false] Qa) (aK 9 os):=by
 obtain ⟨n,d,k,m,hn,rfl,hd,hk,hm,h⟩:=h
 obtain ⟨ds,rfl⟩:=hd.frz
 unfold qN
 (try sizeOf_list_dec)
 refine ⟨n,_,k+1+m,by omega,rfl,hd,by omega,fun ss d' hss hsn hup hfm hst hd' => ?_⟩
 obtain ⟨ds',rfl⟩:=hd'.frz
 (try sizeOf_list_dec)
 refine ⟨n+2,_,false,ss,by omega,rfl,hd',by omega,fun t m=>Xj (hsn t m),fun ss2 d' hp hd' => ?_⟩
 obtain ⟨ds',rfl⟩:=hd'.frz
 have hs2 : ∀ t∈ss2,Zz t:=fun t m=>hsn t (hp.mem_iff.mp m)
 have nd2:ss2.Nodup:=hp.nodup_iff.mpr (Ye hup)
 have hl2:ss2.length=k+1+m:=hp.length_eq.trans hss
 (try sizeOf_list_dec)
 refine ⟨rfl,by decide,by decide,by decide,V7 (by omega) hd' (by simp) (by simp) fun bo d' mm hd' => ?_⟩
 obtain ⟨ds',rfl⟩:=hd'.frz
 obtain ⟨b,rfl,hb1,hb2⟩ : ∃ b:Int,bo = .int b∧0≤b∧b≤1000000000:=by
  simp only [List.mem_cons,List.not_mem_nil,or_false] at mm
  rcases mm with rfl | rfl | rfl
  ·exact ⟨_,rfl,by decide,by decide⟩
  ·exact ⟨_,rfl,by decide,by decide⟩
  ·exact ⟨_,rfl,by decide,by decide⟩
 have first : ∀ (rs:List T) (y:T),y∈rs->True:=fun _ _ _=>trivial
 ((try sizeOf_list_dec);repeat (simp only [eZ];(try sizeOf_list_dec)))
 refine ⟨rfl,by omega,by omega,Qs (fun i acc ρ => ∃ x5,acc.length=i∧acc.map hdT=ss2.take i∧(∀ j:Nat,j<i -> ∃ z,acc[j]? = some (.tuple [z, .tuple [.int (b+j), .int (b+j+1)]])∧z∈ss2) ∧
  ρ=[some (.lst ds'),some (.pure (.int k)),some (.pure (.int m)),some (.lst ss2),some (.pure (.int b)),x5,none,none,none]) _ _ 0 _ _ rfl (by omega) (fun i u acc ρ ts' Q' m2 hi nx => ?_) ⟨none,rfl,rfl,fun j hj=>by omega,rfl⟩ fun acc ρ hi => ?_⟩
 ·obtain ⟨x5,hl,ha,hr,rfl⟩:=hi
  obtain ⟨hj,rfl⟩:=Ls m2
  obtain ⟨y,ey,my⟩:=aA6 (ts:=ss2) (r:=0+i) (by omega) (by omega)
  unfold iQ
  ((try sizeOf_list_dec);repeat (simp only [ey];(try sizeOf_list_dec)))
  refine ⟨rfl,nx _ _ ⟨_,by simp [hl], ?_,fun j hj => ?_,rfl⟩⟩
  ·rw [List.map_append,ha,Fb (i:=i) (a:=y) (by simpa using my)];rfl
  ·by_cases q:j<i
   ·obtain ⟨z,e,hz⟩:=hr j q
    exact ⟨z,by rw [List.getElem?_append_left (by omega)];exact e,hz⟩
   ·obtain rfl:j=i:=by omega
    refine ⟨y, ?_,List.mem_of_getElem? my⟩
    rw [List.getElem?_append_right (by omega),hl]
    simp
 ·obtain ⟨x5,hl,ha,hr,rfl⟩:=hi
  have hl:acc.length=k+1:=by rw [hl];simp [bV]
  have hr : ∀ j:Nat,j<k+1 -> ∃ z,acc[j]? = some (.tuple [z, .tuple [.int (b+j), .int (b+j+1)]])∧z∈ss2:=fun j hj=>hr j (by simp [bV];omega)
  have ha:acc.map hdT=ss2.take (k+1):=by rw [ha];congr 1;simp [bV]
  have row : ∀ t∈acc,Lz t:=fun t mt=>by
   obtain ⟨j,hj⟩:=List.getElem?_of_mem mt
   have lt:=(List.getElem?_eq_some_iff.mp hj).1
   obtain ⟨z,e,hz⟩:=hr j (by omega)
   rw [hj] at e;cases e
   obtain ⟨x,rfl,h1,h2⟩:=hs2 z hz
   refine ⟨x, [b+j,b+j+1],rfl,h1,h2,by simp,by simp;omega,fun v mv => ?_⟩
   simp only [List.mem_cons,List.not_mem_nil,or_false] at mv
   rcases mv with rfl | rfl<;>omega
  (try sizeOf_list_dec)
  refine ⟨rfl,by omega,by omega,vG (fun c ρ => ∃ ds rs x5 x7 x8,Dk (n+2+ss.length+1+2 * c) (.lst ds)∧rs.length=k+1+c∧(∀ t∈rs,Lz t)∧rs.map hdT=ss2.take (k+1+c)∧(∀ j:Nat,j<k+1 -> ∃ z,rs[j]? = some (.tuple [z, .tuple [.int (b+j), .int (b+j+1)]])∧z∈ss2)∧(∀ a:Nat,a<c -> ∃ (z:T) (j:Nat) (vs:List Int),j<k+1∧rs[k+1+a]? = some (.tuple [z, .tuple (vs.map PyData.int)])∧(vs=[b+j,b+j+1]∨vs=[b+j]∨vs=[b+30+a]∨vs=[b+j,b+j+1,b+45+a])) ∧
   ρ=[some (.lst ds),some (.pure (.int k)),some (.pure (.int m)),some (.lst ss2),some (.pure (.int b)),x5,some (.lst rs),x7,x8]) _ _ 0 _ rfl (by omega) (fun c t ρ D' mt hinv n1 _ _ _ => ?_) ⟨ds',acc,_,_,_,hd',hl,row,ha,hr,(fun a h=>absurd h (Nat.not_lt_zero _)),rfl⟩ fun ρ hinv => ?_⟩
  ·obtain ⟨ds,rs,x5,x7,x8,hd,hl,ha,hh,hr,hq,rfl⟩:=hinv
   obtain ⟨hc,rfl⟩:=Ls mt
   refine ⟨rfl, ?_⟩
   unfold vI
   (try sizeOf_list_dec)
   refine ⟨n+2+ss.length+1+2 * c,_,_,by omega,rfl,hd,by omega,by omega,fun r d' h0 h1 hd' => ?_⟩
   obtain ⟨ds',rfl⟩:=hd'.frz
   obtain ⟨y,ey,my⟩:=aA6 (ts:=rs) (r:=r) h0 (by omega)
   obtain ⟨z0,ez0,_⟩:=hr r.toNat (by omega)
   rw [my] at ez0;cases ez0
   obtain ⟨z,ez,mz⟩:=aA6 (ts:=ss2) (r:=k+1+(0+c)) (by omega) (by omega)
   ((try sizeOf_list_dec);repeat (simp only [ey,ez];(try sizeOf_list_dec)))
   refine ⟨rfl,by simp,rfl,V7 (by omega) hd' (by simp) (by simp) fun vo d' mm hd' => ?_⟩
   obtain ⟨ds2,rfl⟩:=hd'.frz
   obtain ⟨x,rfl,q1,q2⟩:=hs2 z (List.mem_of_getElem? mz)
   have hvo : ∃ vs:List Int,vo = .tuple (vs.map PyData.int)∧(1≤vs.length∧vs.length≤10)∧vs.Nodup∧(∀ v∈vs,0≤v∧v≤2000000000)∧(vs=[b+(r.toNat:Nat),b+(r.toNat:Nat)+1]∨vs=[b+(r.toNat:Nat)]∨vs=[b+30+(c:Nat)]∨vs=[b+(r.toNat:Nat),b+(r.toNat:Nat)+1,b+45+(c:Nat)]):=by
    simp only [List.mem_cons,List.not_mem_nil,or_false] at mm
    rcases mm with rfl | rfl | rfl | rfl
    ·exact ⟨[b+r.toNat,b+r.toNat+1],rfl,by simp,by simp;omega,fun v mv=>by simp at mv;omega, .inl rfl⟩
    ·exact ⟨[b+r.toNat],rfl,by simp,by simp,fun v mv=>by simp at mv;omega, .inr (.inl rfl)⟩
    ·exact ⟨[b+30+(0+c)],rfl,by simp,by simp,fun v mv=>by simp at mv;omega, .inr (.inr (.inl (by rw [Int.zero_add])))⟩
    ·exact ⟨[b+r.toNat,b+r.toNat+1,b+45+(0+c)],rfl,by simp,by simp;omega,fun v mv=>by simp at mv;omega, .inr (.inr (.inr (by rw [Int.zero_add])))⟩
   obtain ⟨vs,rfl,p1,p2,p3,p4⟩:=hvo
   (try sizeOf_list_dec)
   refine ⟨by omega,n1 _ ⟨ds2,_,_,_,_,hd',by simp [hl];omega,fun t mt => ?_, ?_,fun j hj => ?_,fun a hac => ?_,rfl⟩⟩
   ·rcases List.mem_append.mp mt with mt | mt
    ·exact ha t mt
    ·obtain rfl:=List.mem_singleton.mp mt
     exact ⟨x,vs,rfl,q1,q2,p1,p2,p3⟩
   ·rw [List.map_append,hh,show k+1+(c+1)=k+1+c+1 from rfl,Fb (i:=k+1+c) (a := .str x) (by rw [← mz];congr 1;omega)];rfl
   ·obtain ⟨z,e,hz⟩:=hr j hj
    exact ⟨z,by rw [List.getElem?_append_left (by omega)];exact e,hz⟩
   ·by_cases q:a<c
    ·obtain ⟨z,j,vs',h1,h2,h3⟩:=hq a q
     exact ⟨z,j,vs',h1,by rw [List.getElem?_append_left (by omega)];exact h2,h3⟩
    ·obtain rfl:a=c:=by omega
     exact ⟨.str x,r.toNat,vs,by omega,by rw [List.getElem?_append_right (by omega),hl];simp,p4⟩
  ·obtain ⟨ds,rs,x5,x7,x8,hd,hl,ha,hh,hr,hq,rfl⟩:=hinv
   obtain ⟨r1,r2,r3⟩:=S9 ha
   have hrl:(bV 0 (m:Int).toNat).length=m:=by simp [bV]
   (try sizeOf_list_dec)
   refine .inr ⟨r1,r2,r3,by simp [bV] at hl;omega, ?_⟩
   have pm:=List.mergeSort_perm rs dLe
   have hrl2:rs.length=k+1+m:=by simp [bV] at hl;omega
   have hh2:rs.map hdT=ss2:=by rw [hh];exact List.take_of_length_le (by simp;omega)
   have ec:Ik ss2 none (some ((k:Int)+1))=ss2.take (k+1):=by rw [JT (by omega),show ((k:Int)+1).toNat=k+1 by omega]
   try rw [ec]
   refine h _ _ b _ ⟨fun t mt=>ha t (pm.mem_iff.mp mt), ?_, ?_, ?_,fun t mt=>hfm t (hp.mem_iff.mp (List.mem_of_mem_take (by rw [← hh];exact (pm.map hdT).mem_iff.mp mt))), ?_⟩ ⟨by omega,hrl2,hh2,fun j hj => ?_,fun a hac=>hq a (by simpa using hac)⟩ (hd.mono ?_)
   ·refine (pm.map hdT).nodup_iff.mpr ?_
    rw [hh]
    exact nd2.sublist (List.take_sublist _ _)
   ·rw [pm.length_eq];omega
   ·rw [pm.length_eq];omega
   ·exact VJ (fun t mt=>ha t mt) (by rw [hh2];exact nd2)
   ·obtain ⟨z,e,_⟩:=hr j hj
    exact ⟨z,e⟩
   ·simp [bV];omega
end WE
namespace WE
open PySem PySem.Spec L2 DL WS
open PyProof.Rows hiding St
local instance:Tbs:=⟨[],fun _=>0, [],fun _=>0⟩
local instance:Bas:=⟨fun _=>none,fun _=>False, []⟩
def Mp (p:Str×List Int):T := .tuple [.str p.1, .tuple (p.2.map PyData.int)]
structure Ao (R:List (Str×List Int)):Prop where
 nm : ∀ p∈R,p.1.length≤8∧asc p.1=true
 vs : ∀ p∈R,(1≤p.2.length∧p.2.length≤10)∧p.2.Nodup ∧ ∀ v∈p.2,0≤v∧v≤2000000000
 nd:(R.map (·.1)).Nodup
 n1:1≤R.length
 n2:R.length≤20
 up:(R.map (·.1)).Pairwise fun a b=>a.cps.toList<b.cps.toList
theorem M3 : ∀ {rs:List T},(∀ t∈rs,Lz t) -> ∃ R:List (Str×List Int),rs=R.map Mp ∧ ∀ p∈R,(p.1.length≤8∧asc p.1=true)∧(1≤p.2.length∧p.2.length≤10)∧p.2.Nodup ∧ ∀ v∈p.2,0≤v∧v≤2000000000
 | [],_=>⟨[],rfl,fun _ m=>nomatch m⟩
 | t :: rs,h=>by
  obtain ⟨R,rfl,hR⟩:=M3 fun t m=>h t (List.mem_cons_of_mem _ m)
  obtain ⟨x,vs,rfl,h1,h2,h3⟩:=h t List.mem_cons_self
  refine ⟨(x,vs) :: R,rfl,fun p m => ?_⟩
  rcases List.mem_cons.mp m with rfl | m
  ·exact ⟨⟨h1,h2⟩,h3⟩
  ·exact hR p m
theorem Xi.list {rs:List T} (h:Xi rs) : ∃ R,rs=R.map Mp∧Ao R:=by
 obtain ⟨R,rfl,hR⟩:=M3 h.row
 refine ⟨R,rfl,⟨fun p m=>(hR p m).1,fun p m=>(hR p m).2, ?_,by simpa using h.n1,by simpa using h.n2, ?_⟩⟩
 all_goals have e:(R.map Mp).map hdT=(R.map (·.1)).map PyData.str:=by rw [List.map_map,List.map_map];rfl
 rotate_left
 ·obtain ⟨zs,ez,hz⟩:=h.up
  rw [e] at ez
  have : R.map (·.1)=zs:=(List.map_inj_right fun _ _ q=>by injection q).mp ez
  rw [this];exact hz
 have nd:=h.nd
 rw [e] at nd
 exact (List.pairwise_map.mp nd).imp fun ne e=>ne (by rw [e])
def look (R:List (Str×List Int)) (x:Str):Option (List Int):=(R.find? fun p=>decide (p.1=x)).map (·.2)
def kl (R:List (Str×List Int)):List (Key×T):=R.map fun p=>(Sum.inr p.1, .tuple (p.2.map PyData.int))
theorem IW : ∀ R:List (Str×List Int),z8 (R.map Mp)=some (kl R)
 | []=>rfl
 | p :: R=>by
  rw [List.map_cons,z8,IW R]
  rfl
theorem Yg {a b:Str}:decide ((Sum.inr a:Key)=Sum.inr b)=decide (a=b):=by
 by_cases h:a=b
 ·subst h;simp
 ·have : (Sum.inr a:Key)≠Sum.inr b:=fun e=>h (by injection e)
  simp [h,this]
theorem wj (x:Str) : ∀ R:List (Str×List Int),z7 (kl R) (.inr x)=(look R x).map fun vs => .tuple (vs.map PyData.int)
 | []=>rfl
 | p :: R=>by
  have ih:=wj x R
  unfold z7 look kl at ih ⊢
  rw [List.map_cons,List.find?_cons,List.find?_cons]
  dsimp only
  rw [Yg]
  cases decide (p.1=x) with
  | true=>rfl
  | false=>exact ih
theorem Xk {R:List (Str×List Int)} (h:(R.map (·.1)).Nodup):((kl R).map (·.1)).Nodup:=by
 unfold kl
 rw [List.map_map]
 have e:(R.map ((·.1) ∘ fun p:Str×List Int=>((Sum.inr p.1:Key),(PyData.tuple (p.2.map PyData.int)))))=(R.map (·.1)).map (Sum.inr:Str->Key):=by rw [List.map_map];rfl
 rw [e]
 exact List.Pairwise.map (S:=fun a b=>a≠b) _ (fun a b ne e=>ne (by injection e)) h
theorem Aq {R:List (Str×List Int)} (hR:Ao R) {o:O} (ho:rR o=some (R.map Mp)) {Q:O->Prop} (q:Q (.dct (kl R))):xO [o] Q:=by
 unfold xO
 dsimp only
 rw [ho]
 dsimp only
 rw [IW]
 dsimp only
 rw [qJ _ _ (by simpa using Xk hR.nd)]
 simpa using q
theorem oJ {R:List (Str×List Int)} {x:Str} (h:x∈R.map (·.1)) : ∃ vs,look R x=some vs∧(x,vs)∈R:=by
 obtain ⟨p,hp,rfl⟩:=List.mem_map.mp h
 unfold look
 cases e:R.find? fun q=>decide (q.1=p.1) with
 | none =>
  have:=List.find?_eq_none.mp e p hp
  simp at this
 | some q =>
  have h1:=List.find?_some e
  have h2:=List.mem_of_find?_eq_some e
  exact ⟨q.2,rfl,by rw [← of_decide_eq_true h1];exact h2⟩
theorem VL {R:List (Str×List Int)} {x:Str} (h:x∉R.map (·.1)):look R x=none:=by
 unfold look
 rw [List.find?_eq_none.mpr]
 ·rfl
 ·intro p hp e
  exact h (List.mem_map.mpr ⟨p,hp,of_decide_eq_true e⟩)
theorem yF {R:List (Str×List Int)} {x:Str}:(look R x).isSome=decide (x∈R.map (·.1)):=by
 by_cases h:x∈R.map (·.1)
 ·obtain ⟨vs,e,_⟩:=oJ h
  rw [e];simp [h]
 ·rw [VL h];simp [h]
def aA7 (R:List (Str×List Int)):T->Bool
 | .str x=>decide (x∈R.map (·.1))
 | _=>false
def lX:bU:=fun os Q => ∃ R v,os=[.pure (.tuple (R.map Mp)), .pure v]∧Ao R∧Q (.pure (.bool (aA7 R v))) []
def nZ:ST:=(j6 (fun j=>[false,false].getD j false) (jM (Ca "str" (aF 1)) (bF (gInD false) (aF 1) (aq xO (aD (aF 0) aH)))))
theorem Gp (os:List O) (Qa:O->List O->Prop) (_:os.length=2) (h:lX os Qa):nZ (aP [false,false] Qa) (aK 2 os):=by
 obtain ⟨R,v,rfl,hR,h⟩:=h
 unfold nZ
 cases v with
 | str x =>
  ((try sizeOf_list_dec);repeat (simp only [Iz];(try sizeOf_list_dec)))
  refine Aq hR rfl ?_
  unfold gInD
  simp only [dcX,DL.Ip,wj,Option.isSome_map,yF,Bool.false_xor]
  exact h
 | _=>((try sizeOf_list_dec);repeat (simp only [Iz];(try sizeOf_list_dec)));exact h
def eV:uU:=fun os Qa Ea => ∃ R v,os=[.pure (.tuple (R.map Mp)), .pure v]∧Ao R∧(aA7 R v=true->Qa (.pure .none))∧(aA7 R v=false->Ea ⟨"NoRelease",some ("value",v)⟩)
def jY (Ea:Exc->Prop):ST:=(sIf (wR (mV (aV [false,false] lX (aD (aF 0) (aD (aF 1) aH))))) (Ez "NoRelease" "value" (fun e _=>Ea e) (aD (aF 1) aH)) gD)
theorem Ci (os:List O) (Qa:O->Prop) (Ea:Exc->Prop) (_:os.length=2) (h:eV os Qa Ea):jY Ea (Cd Qa) (aK 2 os):=by
 obtain ⟨R,v,rfl,hR,h1,h2⟩:=h
 unfold jY
 (try sizeOf_list_dec)
 refine ⟨R,v,rfl,hR, ?_⟩
 (try sizeOf_list_dec)
 cases e:aA7 R v with
 | true=>((try sizeOf_list_dec);repeat (simp only [Cd];(try sizeOf_list_dec)));exact h1 e
 | false=>((try sizeOf_list_dec);repeat (simp only [Cd,Ez];(try sizeOf_list_dec)));exact h2 e
theorem lJ {α : Type} {g:GT} {tt:BT} {te:XT} {vs:List Nat} {ρ : aM} {Q:List T->aM->Prop} (i f : α->T) (p : α->Bool) : ∀ (as:List α) (acc:List T),
  (∀ a∈as, ∀ Q' : List T->aM->Prop, ∀ acc' ts',(p a=true->iQ g tt te vs ts' (acc'++[f a]) ρ Q')->(p a=false->iQ g tt te vs ts' acc' ρ Q')->iQ g tt te vs (i a :: ts') acc' ρ Q')->Q (acc++(as.filter p).map f) ρ->iQ g tt te vs (as.map i) acc ρ Q
 | [],acc,_,q=>by simpa [iQ] using q
 | a :: as,acc,h,q=>by
  refine h a List.mem_cons_self Q acc (as.map i) (fun e => ?_) fun e => ?_
  ·exact lJ i f p as _ (fun t m=>h t (List.mem_cons_of_mem _ m)) (by simpa [List.filter_cons,e] using q)
  ·exact lJ i f p as _ (fun t m=>h t (List.mem_cons_of_mem _ m)) (by simpa [List.filter_cons,e] using q)
def vJ (vs ws:List Int):Bool:=ws.any fun v=>vs.contains v
theorem Qt {v:Int} {vs:List Int}:((vs.map PyData.int).all fun z=>jN z (.int v) && decide (min z.depth (PyData.int v).depth≤150))=true:=by
 refine List.all_eq_true.mpr fun z hz => ?_
 obtain ⟨i,_,rfl⟩:=List.mem_map.mp hz
 simp [jN,PyData.depth]
theorem Qu {v:Int} {vs:List Int}:((vs.map PyData.int).any fun z=>PyData.eqv z (.int v))=vs.contains v:=by
 rw [Bool.eq_iff_iff,List.any_eq_true,List.contains_iff_mem]
 constructor
 ·rintro ⟨z,m,e⟩
  obtain ⟨i,m',rfl⟩:=List.mem_map.mp m
  simp [PyData.eqv] at e
  exact e▸m'
 ·intro m
  exact ⟨.int v,List.mem_map_of_mem m,by simp [PyData.eqv]⟩
def Dr:bU:=fun os Q => ∃ R x vs,os=[.pure (.tuple (R.map Mp)), .pure (.str x)]∧Ao R∧look R x=some vs∧Q (.lst ((R.filter fun p=>vJ vs p.2).map fun p => .str p.1)) []
def Jf:ST:=(eO (jT 2 (bF Mi (aq xO (aD (aF 0) aH)) (aF 1)))
 (j6 (fun j=>[false,false].getD j false) (eZ (iW (aF 0)) (iV 2 (cD (bH 3) (cD (bH 4) iU))) (mV (aq (cP fun bs=>bs.any id) (aD (eZ (iW (aF 4)) (bH 5) rY (bF (uh false) (aF 5) (aF 2)) [5]) aH))) (aF 3) [3,4])))
theorem Xl (os:List O) (Qa:O->List O->Prop) (_:os.length=2) (h:Dr os Qa):Jf (aP [false,false] Qa) (aK 6 os):=by
 obtain ⟨R,x,vs,rfl,hR,hx,h⟩:=h
 have hv:vs.length≤10:=by
  have hm:x∈R.map (·.1):=by
   have:=yF (R:=R) (x:=x)
   rw [hx] at this
   simpa using this.symm
  obtain ⟨us,e,m⟩:=oJ hm
  rw [hx] at e;cases e
  exact (hR.vs _ m).1.2
 have hl:=hR.n2
 unfold Jf
 (try sizeOf_list_dec)
 refine Aq hR rfl ?_
 refine Iv (l:=kl R) (k := .inr x) (y := .tuple (vs.map PyData.int)) rfl rfl (by rw [wj,hx];rfl) ?_
 refine ⟨rfl, ?_⟩
 refine lJ Mp (fun p => .str p.1) (fun p=>vJ vs p.2) R [] (fun p hp Q' acc' ts' h1 h2 => ?_) ?_
 ·have hw:=(hR.vs p hp).1.2
  unfold iQ
  ((try sizeOf_list_dec);repeat (simp only [Mp];(try sizeOf_list_dec)))
  refine ⟨by simp,rfl,lJ PyData.int (fun v => .bool (vs.contains v)) (fun _=>true) p.2 [] (fun v hv Q'' acc'' ts'' k1 _ => ?_) ?_⟩
  ·unfold iQ
   (try sizeOf_list_dec)
   refine ⟨rfl,Qt, ?_⟩
   rw [Qu,Bool.false_xor]
   exact k1 rfl
  ·have e:mW ([]++(p.2.filter fun _=>true).map fun v=>PyData.bool (vs.contains v))=some (p.2.map fun v=>vs.contains v):=by
    rw [List.nil_append,List.filter_eq_self.mpr fun _ _=>rfl]
    induction p.2 with
    | nil=>rfl
    | cons v l ih=>rw [List.map_cons,mW,ih];rfl
   have e2:((p.2.map fun v=>vs.contains v).any id)=vJ vs p.2:=by unfold vJ;rw [List.any_map];rfl
   rw [e]
   dsimp only
   rw [e2]
   cases q:vJ vs p.2 with
   | true=>(try sizeOf_list_dec);exact h1 q
   | false=>(try sizeOf_list_dec);exact h2 q
 ·exact h
theorem VM {R:List (Str×List Int)} (hR:Ao R) {p:Str×List Int} (hp:p∈R):look R p.1=some p.2:=by
 obtain ⟨vs,e,m⟩:=oJ (List.mem_map_of_mem (f:=(·.1)) hp)
 rw [e]
 congr 1
 have nd:=hR.nd
 obtain ⟨i,hi,ei⟩:=List.mem_iff_getElem.mp hp
 obtain ⟨j,hj,ej⟩:=List.mem_iff_getElem.mp m
 have:=(List.nodup_iff_pairwise_ne.mp nd)
 have inj:i=j:=by
  refine (List.getElem_inj (xs:=R.map (·.1)) nd (h₀:=by simpa using hi) (h₁:=by simpa using hj)).mp ?_
  rw [List.getElem_map,List.getElem_map,ei,ej]
 subst inj
 rw [ei] at ej
 rw [ej]
theorem Xm {R:List (Str×List Int)} (hR:Ao R) {y:Str} {vs ws:List Int} (hy:look R y=some ws):decide (y∈(R.filter fun p=>vJ vs p.2).map (·.1))=vJ vs ws:=by
 rw [Bool.eq_iff_iff,decide_eq_true_iff]
 constructor
 ·intro m
  obtain ⟨p,hp,rfl⟩:=List.mem_map.mp m
  obtain ⟨h1,h2⟩:=List.mem_filter.mp hp
  rw [VM hR h1] at hy
  cases hy
  exact h2
 ·intro h
  have hm:y∈R.map (·.1):=by
   have:=yF (R:=R) (x:=y)
   rw [hy] at this
   simpa using this.symm
  obtain ⟨us,e,m⟩:=oJ hm
  rw [hy] at e;cases e
  exact List.mem_map.mpr ⟨_,List.mem_filter.mpr ⟨m,h⟩,rfl⟩
theorem Xn {R:List (Str×List Int)} {v:T} (h:aA7 R v=true) : ∃ x vs,v = .str x∧look R x=some vs:=by
 cases v with
 | str x =>
  obtain ⟨vs,e,_⟩:=oJ (of_decide_eq_true h)
  exact ⟨x,vs,rfl,e⟩
 | _=>cases h
end WE
namespace WV
open PySem PySem.Spec L2 DL WS WE
open PyProof.Rows hiding St
local instance:Tbs:=⟨[],fun _=>0, [],fun _=>0⟩
local instance:Bas:=⟨fun _=>none,fun _=>False, []⟩
abbrev Rows:=List (Str×List Int)
abbrev xH (R:Rows):T := .tuple (R.map Mp)
def rn (ys xs:List Str) (y:Str):Str:=(((ys.zip xs).find? fun p=>decide (p.1=y)).map (·.2)).getD ""
def lk (R:Rows) (x:Str):List Int:=(look R x).getD []
def mt (R:Rows) (x y:Str):Bool:=vJ (lk R x) (lk R y)
theorem SM (vs ws:List Int):vJ vs ws=vJ ws vs:=by
 rw [Bool.eq_iff_iff]
 unfold vJ
 simp only [List.any_eq_true,List.contains_iff_mem]
 exact ⟨fun ⟨v,h1,h2⟩=>⟨v,h2,h1⟩,fun ⟨v,h1,h2⟩=>⟨v,h2,h1⟩⟩
theorem VN (R:Rows) (x y:Str):mt R x y=mt R y x:=SM _ _
theorem aA8 {R:Rows} {x:Str} (h:x∈R.map (·.1)):look R x=some (lk R x):=by
 obtain ⟨vs,e,_⟩:=oJ h
 unfold lk
 rw [e];rfl
theorem aBg {R:Rows} (hR:Ao R) {x:Str} (h:x∈R.map (·.1)):1≤(lk R x).length∧(lk R x).length≤10:=by
 obtain ⟨vs,e,m⟩:=oJ h
 unfold lk
 rw [e]
 exact (hR.vs _ m).1
theorem Jg : ∀ {ys xs:List Str} {y:Str},y∈ys->xs.length=ys.length -> ∃ x,(ys.zip xs).find? (fun p=>decide (p.1=y))=some (y,x)∧x∈xs
 | [],_,_,m,_=>nomatch m
 | _ :: _, [],_,_,l=>by simp at l
 | a :: ys,b :: xs,y,m,l=>by
  rw [List.zip_cons_cons,List.find?_cons]
  by_cases e:a=y
  ·subst e
   exact ⟨b,by simp,List.mem_cons_self⟩
  ·obtain ⟨x,h1,h2⟩:=Jg (ys:=ys) (xs:=xs) (y:=y) ((List.mem_cons.mp m).resolve_left fun q=>e q.symm) (by simpa using l)
   exact ⟨x,by simpa [e] using h1,List.mem_cons_of_mem _ h2⟩
theorem Yh {ys xs:List Str} {y:Str} (m:y∈ys) (l:xs.length=ys.length):rn ys xs y∈xs:=by
 obtain ⟨x,e,h⟩:=Jg m l
 unfold rn
 rw [e];exact h
def Qv (ys xs:List Str):List (Key×T):=(ys.map Sum.inr).zip (xs.map PyData.str)
theorem VP : ∀ ys xs:List Str,Qv ys xs=(ys.zip xs).map fun p=>((Sum.inr p.1:Key),PyData.str p.2)
 | [],_=>rfl
 | _ :: _, []=>rfl
 | a :: ys,b :: xs=>by
  unfold Qv at *
  rw [List.map_cons,List.map_cons,List.zip_cons_cons,List.zip_cons_cons,List.map_cons]
  congr 1
  exact VP ys xs
theorem VR {ys xs:List Str} {y:Str} (m:y∈ys) (l:xs.length=ys.length):z7 (Qv ys xs) (.inr y)=some (.str (rn ys xs y)):=by
 obtain ⟨x,e,_⟩:=Jg m l
 unfold z7 rn
 rw [VP,List.find?_map,e]
 have e2:((fun p:Key×T=>decide (p.1=Sum.inr y)) ∘ fun p:Str×Str=>((Sum.inr p.1:Key),PyData.str p.2))=fun p:Str×Str=>decide (p.1=y):=by
  funext p
  exact Yg
 first | rw [e2,e] | skip
 rfl
theorem Va {ys xs:List Str} (h:ys.Nodup) (l:xs.length=ys.length):((Qv ys xs).map (·.1)).Nodup:=by
 have e:(Qv ys xs).map (·.1)=(ys.map Sum.inr:List Key):=by
  unfold Qv
  rw [List.map_fst_zip]
  simp [l]
 rw [e]
 exact List.Pairwise.map (S:=fun a b=>a≠b) _ (fun a b ne e=>ne (by injection e)) h
theorem zG {ys:List Str} (h:Up ys):ys.Nodup:=List.Pairwise.imp (S:=fun a b=>a≠b) (fun {a b} q=>fun e=>by subst e;exact List.lt_irrefl _ q) h
theorem M4 {ys xs:List Str} (h:ys.Nodup) (l:xs.length=ys.length) {Q:O->Prop} (q:Q (.dct (Qv ys xs))):CG [.pure (.tuple (ys.map PyData.str)), .pure (.tuple (xs.map PyData.str))] Q:=by
 unfold CG
 dsimp only
 rw [QQ]
 dsimp only
 have:=qJ (Qv ys xs) [] (by simpa using Va h l)
 unfold Qv at this
 rw [this]
 simpa [Qv] using q
theorem runs {ys xs:List Str} {y:Str} (m:y∈ys) (l:xs.length=ys.length) {Q:O->Prop} (q:Q (.pure (.str (rn ys xs y)))):Mi (.dct (Qv ys xs)) (.pure (.str y)) Q :=
 Iv (l:=Qv ys xs) (k := .inr y) (y := .str (rn ys xs y)) rfl rfl (VR m l) q
def aBh:T->Str
 | .str x=>x
 | _ => ""
theorem aA9 {α : Type} (f : α->Bool) (l:List α):mW ([]++(l.filter fun _=>true).map fun u=>PyData.bool (f u))=some (l.map f):=by
 rw [List.nil_append,List.filter_eq_self.mpr fun _ _=>rfl]
 induction l with
 | nil=>rfl
 | cons v l ih=>rw [List.map_cons,mW,ih];rfl
def jD:bU:=fun os Q => ∃ R x y,os=[.pure (xH R), .pure (.str x), .pure (.str y)]∧Ao R∧x∈R.map (·.1)∧y∈R.map (·.1)∧Q (.pure (.bool (mt R x y))) []
def ni:ST:=(eO (jT 3 (aq xO (aD (aq cH (aD (aF 0) aH)) aH)))
 (j6 (fun j=>[false,false,false].getD j false) (aq (cP fun bs=>bs.any id) (aD (eZ (iW (bF Mi (aF 3) (aF 1))) (bH 4) rY (bF (uh false) (aF 4) (bF Mi (aF 3) (aF 2))) [4]) aH))))
theorem Gq (os:List O) (Qa:O->List O->Prop) (_:os.length=3) (h:jD os Qa):ni (aP [false,false,false] Qa) (aK 5 os):=by
 obtain ⟨R,x,y,rfl,hR,hx,hy,h⟩:=h
 unfold ni
 (try sizeOf_list_dec)
 have l1:=(aBg hR hx).2
 have rl:=hR.n2
 have row : ∀ {z:Str} {Q:O->Prop},z∈R.map (·.1)->Q (.pure (.tuple ((lk R z).map PyData.int)))->Mi (.dct (kl R)) (.pure (.str z)) Q:=fun {z Q} hz q =>
  Iv (l:=kl R) (k := .inr z) (y := .tuple ((lk R z).map PyData.int)) rfl rfl (by rw [wj,aA8 hz];rfl) q
 refine Aq hR rfl ?_
 refine ⟨rfl, ?_⟩
 ((try sizeOf_list_dec);repeat (simp only [eZ];(try sizeOf_list_dec)))
 refine row hx ?_
 refine ⟨trivial, ?_⟩
 (try sizeOf_list_dec)
 refine lJ PyData.int (fun v => .bool ((lk R y).contains v)) (fun _=>true) (lk R x) [] (fun v hv Q'' acc'' ts'' k1 _ => ?_) ?_
 ·unfold iQ
  (try sizeOf_list_dec)
  refine ⟨rfl,row hy ?_⟩
  (try sizeOf_list_dec)
  refine ⟨Qt, ?_⟩
  rw [Qu,Bool.false_xor]
  exact k1 rfl
 ·have e:=aA9 (fun v=>(lk R y).contains v) (lk R x)
  rw [e]
  dsimp only
  have e2:(((lk R x).map fun v=>(lk R y).contains v).any id)=mt R x y:=by
   rw [VN];unfold mt vJ;rw [List.any_map];rfl
  rw [e2]
  exact h
end WV
namespace WV
open PySem PySem.Spec L2 DL WS WE WC
open PyProof.Rows hiding St
local instance:Tbs:=⟨[],fun _=>0, [],fun _=>0⟩
local instance:Bas:=⟨fun _=>none,fun _=>False, []⟩
def Xo (ys:List Str):T->Bool
 | .str x=>decide (x∈ys)
 | _=>false
theorem Yi {v:Str} {vs:List Str}:((vs.map PyData.str).any fun z=>PyData.eqv z (.str v))=decide (v∈vs):=by
 rw [Bool.eq_iff_iff,List.any_eq_true,decide_eq_true_iff]
 constructor
 ·rintro ⟨z,m,e⟩
  obtain ⟨i,m',rfl⟩:=List.mem_map.mp m
  simp [PyData.eqv] at e
  exact e▸m'
 ·intro m
  exact ⟨.str v,List.mem_map_of_mem m,by simp [PyData.eqv]⟩
theorem Yj {v:Str} {vs:List Str}:((vs.map PyData.str).all fun z=>jN z (.str v) && decide (min z.depth (PyData.str v).depth≤150))=true:=by
 refine List.all_eq_true.mpr fun z hz => ?_
 obtain ⟨i,_,rfl⟩:=List.mem_map.mp hz
 simp [jN,PyData.depth]
theorem Xp {ys:List Str} {v:T} (h:Xo ys v=true) : ∃ x,v = .str x∧x∈ys:=by
 cases v with
 | str x=>exact ⟨x,rfl,of_decide_eq_true h⟩
 | _=>cases h
def lY:bU:=fun os Q => ∃ ys us v,os=[.pure (oE ys us), .pure v]∧Q (.pure (.bool (Xo ys v))) []
def nj:ST:=(j6 (fun j=>[false,false].getD j false) (jM (Ca "str" (aF 1)) (bF (uh false) (aF 1) (bF gIx (aF 0) (bJ (.int 0))))))
theorem Gr (os:List O) (Qa:O->List O->Prop) (_:os.length=2) (h:lY os Qa):nj (aP [false,false] Qa) (aK 2 os):=by
 obtain ⟨ys,us,v,rfl,h⟩:=h
 unfold nj oE
 cases v with
 | str x =>
  ((try sizeOf_list_dec);repeat (simp only [Iz];(try sizeOf_list_dec)))
  exact ⟨Yj,by rw [Yi,Bool.false_xor];exact h⟩
 | _=>((try sizeOf_list_dec);repeat (simp only [Iz];(try sizeOf_list_dec)));exact h
def jK:uU:=fun os Qa Ea => ∃ ys us v,os=[.pure (oE ys us), .pure v]∧(Xo ys v=true->Qa (.pure .none))∧(Xo ys v=false->Ea ⟨"NoService",some ("value",v)⟩)
def jZ (Ea:Exc->Prop):ST:=(sIf (wR (mV (aV [false,false] lY (aD (aF 0) (aD (aF 1) aH))))) (Ez "NoService" "value" (fun e _=>Ea e) (aD (aF 1) aH)) gD)
theorem Cj (os:List O) (Qa:O->Prop) (Ea:Exc->Prop) (_:os.length=2) (h:jK os Qa Ea):jZ Ea (Cd Qa) (aK 2 os):=by
 obtain ⟨ys,us,v,rfl,h1,h2⟩:=h
 unfold jZ
 (try sizeOf_list_dec)
 refine ⟨ys,us,v,rfl, ?_⟩
 (try sizeOf_list_dec)
 cases e:Xo ys v with
 | true=>((try sizeOf_list_dec);repeat (simp only [Cd];(try sizeOf_list_dec)));exact h1 e
 | false=>((try sizeOf_list_dec);repeat (simp only [Cd,Ez];(try sizeOf_list_dec)));exact h2 e
theorem Xq {ys:List Str} {us:List (Str×Str)} {s:Str} (h:s∈ys):z7 (tabL ys us) (.inr s)=some (.list (srt (Dq us s))):=LR (f:=Sum.inr) vH s ys h
theorem Vb {ys:List Str} {us:List (Str×Str)} {s:Str} (h:s∈ys) {Q:O->Prop} (q:Q (.pure (.list (srt (Dq us s))))):Mi (.dct (tabL ys us)) (.pure (.str s)) Q :=
 Iv (l:=tabL ys us) (k := .inr s) (y := .list (srt (Dq us s))) rfl rfl (Xq h) q
theorem O4 {l:List Str} {t:T} (h:t∈srt l) : ∃ x∈l,t = .str x:=by
 unfold srt at h
 obtain ⟨x,hx,rfl⟩:=List.mem_map.mp ((List.mergeSort_perm _ _).mem_iff.mp h)
 exact ⟨x,hx,rfl⟩
theorem O5 {ys:List Str} {us:List (Str×Str)} (hN:nU ys us) {s t:Str} (h:t∈Dq us s):t∈ys:=by
 unfold Dq at h
 rw [List.mem_flatMap] at h
 obtain ⟨u,hu,h⟩:=h
 obtain ⟨h1,h2,_⟩:=hN.tk u hu
 rcases List.mem_append.mp h with h | h
 ·split at h
  ·rw [List.mem_singleton.mp h];exact h2
  ·cases h
 ·split at h
  ·rw [List.mem_singleton.mp h];exact h1
  ·cases h
def M5 (R:Rows) (ys xs:List Str) (us:List (Str×Str)) (s r:Str):List T:=(srt (Dq us s)).filter fun t => !mt R r (rn ys xs (aBh t))
def Vv (R:Rows) (ys xs:List Str):Prop:=xs.length=ys.length ∧ ∀ x∈xs,x∈R.map (·.1)
def nq:bU:=fun os Q => ∃ R ys us xs s r,os=[.pure (oE ys us), .pure (xH R), .pure (.tuple (xs.map PyData.str)), .pure (.str s), .pure (.str r)]∧nU ys us∧Ao R∧Vv R ys xs∧s∈ys∧r∈R.map (·.1)∧Q (.pure (.tuple (M5 R ys xs us s r))) []
def qO:ST:=(eO (uo [5,6] (aD (aq CG (aD (bF gIx (aF 0) (bJ (.int 0))) (aD (aF 2) aH))) (aD (aV [false,false] Dr (aD (aF 1) (aD (aF 4) aH))) aH)))
 (j6 (fun j=>[false,false,false,false,false].getD j false) (aq cW (aD (eZ (iW (bF Mi (aV [false] fG (aD (aF 0) aH)) (aF 3))) (bH 7) (mV (bF (uh true) (bF Mi (aF 5) (aF 7)) (aF 6))) (aF 7) [7]) aH))))
theorem Jh (os:List O) (Qa:O->List O->Prop) (_:os.length=5) (h:nq os Qa):qO (aP [false,false,false,false,false] Qa) (aK 8 os):=by
 obtain ⟨R,ys,us,xs,s,r,rfl,hN,hR,⟨hl,hx⟩,hs,hr,h⟩:=h
 unfold qO
 unfold oE
 (try sizeOf_list_dec)
 refine M4 (zG hN.up) hl ?_
 refine ⟨R,r,lk R r,rfl,hR,aA8 hr, ?_⟩
 ((try sizeOf_list_dec);repeat (simp only [eZ];(try sizeOf_list_dec)))
 refine ⟨rfl,ys,us,rfl,hN, ?_⟩
 (try sizeOf_list_dec)
 refine Vb hs ?_
 refine ⟨trivial, ?_⟩
 (try sizeOf_list_dec)
 have key:=lJ (g:=bH 7) (tt:=(mV (bF (uh true) (bF Mi (aF 5) (aF 7)) (aF 6)))) (te:=aF 7) (vs:=[7]) (ρ:=[some (.pure (.tuple [.tuple (ys.map PyData.str), .tuple (us.map lD)])),
  some (.pure (xH R)),some (.pure (.tuple (xs.map PyData.str))),some (.pure (.str s)),some (.pure (.str r)),some (.dct (Qv ys xs)),some (.lst ((R.filter fun p=>vJ (lk R r) p.2).map fun p => .str p.1)),none]) (Q:=fun acc ρ2=>Qa (.pure (.tuple acc)) []) id id (fun t => !mt R r (rn ys xs (aBh t))) (srt (Dq us s)) [] (fun t m Q' acc' ts' h1 h2 => ?_) ?_
 ·rw [List.map_id] at key
  exact key
 ·obtain ⟨y,hy,rfl⟩:=O4 m
  have my:=O5 hN hy
  have r1:=hx _ (Yh my hl)
  unfold iQ
  ((try sizeOf_list_dec);repeat (simp only [id];(try sizeOf_list_dec)))
  refine ⟨rfl,runs my hl ?_⟩
  have el:((R.filter fun p=>vJ (lk R r) p.2).map fun p=>PyData.str p.1)=((R.filter fun p=>vJ (lk R r) p.2).map (·.1)).map PyData.str:=(List.map_map (g:=PyData.str) (f:=fun p:Str×List Int=>p.1)).symm
  rw [el]
  refine ⟨trivial,Yj, ?_⟩
  simp only [O.frz,Yi,Xm hR (aA8 r1)]
  rw [← el]
  have e:aBh (PyData.str y)=y:=rfl
  simp only [id,e] at h1 h2
  cases q:mt R r (rn ys xs y) with
  | true =>
   have q' : vJ (lk R r) (lk R (rn ys xs y))=true:=q
   simp only [q',Bool.true_xor,Bool.not_true,Bool.false_eq_true,if_false]
   exact h2 (by simp [q])
  | false =>
   have q' : vJ (lk R r) (lk R (rn ys xs y))=false:=q
   simp only [q',Bool.true_xor,Bool.not_false,if_true]
   exact h1 (by simp [q])
 ·rw [List.map_id,List.nil_append]
  exact h
def sV:uU:=fun os Qa Ea => ∃ R ys us xs v w,os=[.pure (oE ys us), .pure (xH R), .pure (.tuple (xs.map PyData.str)), .pure v, .pure w]∧nU ys us∧Ao R∧Vv R ys xs∧(Xo ys v=false->Ea ⟨"NoService",some ("value",v)⟩)∧(Xo ys v=true->aA7 R w=false->Ea ⟨"NoRelease",some ("value",w)⟩) ∧
 (∀ s r,v = .str s->w = .str r->s∈ys->r∈R.map (·.1)->Qa (.pure (.tuple (M5 R ys xs us s r))))
def wu (Ea:Exc->Prop):ST:=(eO (eY (xP [false,false] jK (fun e _=>Ea e) (aD (aF 0) (aD (aF 3) aH))))
 (eO (eY (xP [false,false] eV (fun e _=>Ea e) (aD (aF 1) (aD (aF 4) aH))))
 (j6 (fun _=>false) (aV [false,false,false,false,false] nq (aD (aF 0) (aD (aF 1) (aD (aF 2) (aD (aF 3) (aD (aF 4) aH)))))))))
theorem O6 (os:List O) (Qa:O->Prop) (Ea:Exc->Prop) (_:os.length=5) (h:sV os Qa Ea):wu Ea (Cd Qa) (aK 5 os):=by
 obtain ⟨R,ys,us,xs,v,w,rfl,hN,hR,hS,h1,h2,h3⟩:=h
 unfold wu
 ((try sizeOf_list_dec);repeat (simp only [xP];(try sizeOf_list_dec)))
 refine ⟨ys,us,v,rfl,fun e1 => ?_,h1⟩
 refine ⟨R,w,rfl,hR,fun e2 => ?_,h2 e1⟩
 obtain ⟨s,rfl,ms⟩:=Xp e1
 obtain ⟨r,vs,rfl,er⟩:=Xn e2
 have mr:r∈R.map (·.1):=of_decide_eq_true e2
 refine ⟨R,ys,us,xs,s,r,rfl,hN,hR,hS,ms,mr, ?_⟩
 exact h3 s r rfl rfl ms mr
abbrev stT (xs:List Str):T := .tuple (xs.map PyData.str)
def M6 (ys xs:List Str) (p:Str×Str):List Str:=xs.set (ys.idxOf p.1) p.2
def Qw (R:Rows) (ys:List Str) (p:Str×Str):Prop:=p.1∈ys∧p.2∈R.map (·.1)
theorem aAa {R:Rows} {ys xs:List Str} {p:Str×Str} (h:Vv R ys xs) (hp:Qw R ys p):Vv R ys (M6 ys xs p):=by
 refine ⟨by unfold M6;rw [List.length_set];exact h.1,fun x m => ?_⟩
 rcases List.mem_or_eq_of_mem_set m with m | rfl
 ·exact h.2 x m
 ·exact hp.2
theorem Vc {xs:List Str} {i:Nat} {r:Str} (h:i<xs.length):(xs.map PyData.str).take i++[PyData.str r]++(xs.map PyData.str).drop (i+1)=(xs.set i r).map PyData.str:=by
 rw [List.set_eq_take_append_cons_drop,if_pos h]
 simp [List.map_take,List.map_drop]
theorem Yk {ys:List Str} {s:Str} (h:s∈ys):ys.idxOf s<ys.length:=List.idxOf_lt_length_iff.mpr h
theorem yG : ∀ xs:List Str,vB (xs.map PyData.str)=some xs
 | []=>rfl
 | x :: xs=>by rw [List.map_cons,vB,yG xs];rfl
def aBi (x:Str):Prop:=x.length≤8∧asc x=true
theorem Fe {R:Rows} (hR:Ao R) : ∀ x∈R.map (·.1),aBi x:=fun x m=>by
 obtain ⟨p,hp,rfl⟩:=List.mem_map.mp m
 exact hR.nm p hp
abbrev B0:Nat:=10 ^ 20+2
def ww:bU:=fun os Q => ∃ ys us xs s r,os=[.pure (oE ys us), .pure (stT xs), .pure (.str s), .pure (.str r)]∧ys.length≤12∧xs.length=ys.length∧s∈ys∧Q (.pure (stT (M6 ys xs (s,r)))) []
def zL:ST:=(eO (jT 4 (xq (bF gIx (aF 0) (bJ (.int 0))) (aF 2)))
 (j6 (fun j=>[false,false,false,false].getD j false) (Zg (Wx (yx (aF 1) none (some (aF 4))) (Ze (aF 3) (Wx (yx (aF 1) (some (bF gG (aF 4) (bJ (.int 1)))) none) zNil))))))
theorem SN (os:List O) (Qa:O->List O->Prop) (_:os.length=4) (h:ww os Qa):zL (aP [false,false,false,false] Qa) (aK 5 os):=by
 obtain ⟨ys,us,xs,s,r,rfl,n2,hl,hs,h⟩:=h
 have hi:ys.idxOf s<xs.length:=by rw [hl];exact Yk hs
 unfold zL oE
 (try simp only [eO,gD,j6,nJ,eY,sIf,jT,xD,uo,Bg,zm,bOr,wR,mV,bJ,bF,xf,aH,aD,dH,aq,aV,cZ,gA,dD,dM,tRg,rgK.eq_1,dU,dG.eq_1,dF.eq_1,jM,Bf,km,DR,eZ,rY,nQ,dJ.eq_1,bH,iV.eq_1,cD.eq_1,iU.eq_1,cA,rG.eq_1,rG.eq_2,Dh,zu,J9,dW.eq_1,dW.eq_2,dW.eq_3,dW.eq_4,dW.eq_5,dW.eq_6,dW.eq_7,dW.eq_8,dW.eq_9,dW.eq_10,dW.eq_11,dW.eq_12,JD,JF,O.fz.eq_1,O.fz.eq_2,O.fz.eq_3,O.fz.eq_4,O.alias.eq_1,O.alias.eq_2,O.alias.eq_3,O.alias.eq_4,O.alias.eq_5,O.alias.eq_6,O.alias.eq_7,O.alias.eq_8,O.alias.eq_9,O.alias.eq_10,O.alias.eq_11,O.alias.eq_12,atK.eq_1,JB,JC,JG,JH,JK,JL,Pr,JM,JN,Pu,lstK.eq_1,mX,g2K.eq_1,g2_k,g1K.eq_1,g1_k,gNK.eq_1,gN_k,boK.eq_1,Wi,aAN.eq_1,Px,U9.eq_1,Py,Q3,Lf.eq_1,Lg.eq_1,Wt,xq,Ry.eq_1,Rx.eq_1,QS,Um.eq_1,Ul.eq_1,Wv,Uq.eq_1,Uo.eq_1,Wu.eq_1,Ww.eq_1,tOrS,aAY.eq_1,La.eq_1,La.eq_2,La.eq_3,La.eq_4,Q4,Ro.eq_1,Ro.eq_2,Ro.eq_3,Q5,UG.eq_1,JP,itK.eq_1,JQ,UJ.eq_1,JR,Vu.eq_1,Vu.eq_2,Q6,Gj.eq_1,Gj.eq_2,De,aAO.eq_1,Q7,aAP.eq_1,zA,zB,Ld.eq_1,Df,Le.eq_1,Dg,bO.eq_1,bK.eq_1,bK.eq_2,bK.eq_3,gG.eq_1,gG.eq_2,gG.eq_3,gG.eq_4,gG.eq_5,gG.eq_6,jO.eq_1,jO.eq_2,dX,dY,dZ,dh,jV.eq_1,dN,dO,dR,Gi.eq_1,uv.eq_1,uv.eq_2,lA.eq_1,uw.eq_1,xJ.eq_1,v4.eq_1,v4.eq_2,gGe.eq_1,gGt.eq_1,gLe.eq_1,gLt.eq_1,gLt.eq_2,gEq.eq_1,gNe.eq_1,gNe.eq_2,gNe.eq_3,gNe.eq_4,uh.eq_1,uh.eq_2,gIs.eq_1,iK.eq_1,rF.eq_1,rF.eq_2,cP.eq_1,zp.eq_1,xj.eq_1,xj.eq_2,xK.eq_1,xK.eq_2,xK.eq_3,gM2.eq_1,cH.eq_1,cH.eq_2,cW.eq_1,cW.eq_2,Gg,fU.eq_1,Et.eq_1,qI.eq_1,lB.eq_1,gM2S.eq_1,gIsB.eq_1,xN,Hr,Ho,Ae,Pk,QT,gIx.eq_1,gIx.eq_2,ati0,ati1,ati2,Option.some.injEq,exists_eq,exists_eq',false_implies,Opd.slot.injEq,forall_eq,forall_eq',Opd.get.eq_1,Opd.get.eq_2,JS,zE,O.frz.eq_1,O.frz.eq_2,Iu,O.frz.eq_4,lsO.eq_1,lsO.eq_2,tuO.eq_1,Q8,Q9,QC,aP,dI,aK,dw,List.getElem?_cons_zero,List.getElem?_cons_succ,List.length_cons,List.length_nil,List.map_cons,List.map_nil,List.set_cons_zero,List.set_cons_succ,List.replicate_succ,List.replicate_zero,List.cons_append,List.nil_append,List.getD_cons_zero,List.getD_cons_succ,if_true,if_false,Bool.false_eq_true,reduceIte,reduceCtorEq,Bool.not_true,Bool.not_false,implies_true,true_and,and_true,Nat.sub_self,Nat.reduceAdd,Nat.reduceSub,Nat.zero_add,List.all_cons,List.all_nil,Bool.and_true,Bool.true_and,Zg,Ze,Wx,zNil,Zf.eq_1])
 rw [yG]
 dsimp only
 have e1:Ik (xs.map PyData.str) none (some ((ys.idxOf s:Nat):Int))=(xs.map PyData.str).take (ys.idxOf s):=by rw [JT (by omega),Int.toNat_natCast]
 have e2:Ik (xs.map PyData.str) (some (((ys.idxOf s:Nat):Int)+1)) none=(xs.map PyData.str).drop (ys.idxOf s+1):=by rw [QD (by omega),show (((ys.idxOf s:Nat):Int)+1).toNat=ys.idxOf s+1 by omega]
 have e3:=Vc (r:=r) hi
 rw [List.append_assoc,List.singleton_append] at e3
 simp only [e1,e2,List.append_nil,e3]
 refine ⟨hs,rfl,by rw [List.length_map,List.length_set];omega,h⟩
end WV
namespace WG
open PySem PySem.Spec L2 DL WS WE WC WV
open PyProof.Rows hiding St
local instance:Tbs:=⟨[],fun _=>0, [],fun _=>0⟩
local instance:Bas:=⟨fun _=>none,fun _=>False, []⟩
abbrev ns (R:Rows):List Str:=R.map (·.1)
abbrev allA (ys:List Str) (a:Str):List Str:=List.replicate ys.length a
theorem Vd {R:Rows} {x:Str} (h:x∈ns R):aA7 R (.str x)=true:=decide_eq_true h
theorem Ji {ys:List Str} {us:List (Str×Str)} {Q:O->Prop} (q:Q (.pure (.tuple (ys.map PyData.str)))):gIx (.pure (oE ys us)) (.pure (.int 0)) Q:=by
 unfold oE
 (try sizeOf_list_dec)
 exact q
theorem Ve {r:Str} (n:Nat):aAl ((n:Nat):Int) [PyData.str r]=(List.replicate n r).map PyData.str:=by
 unfold aAl
 rw [Int.toNat_natCast,List.map_replicate]
 induction n with
 | zero=>rfl
 | succ n ih=>rw [List.replicate_succ,List.flatten_cons,ih,List.replicate_succ];rfl
def zM:bU:=fun os Q => ∃ ys us r,os=[.pure (oE ys us), .pure (.str r)]∧1≤ys.length∧ys.length≤12∧Q (.pure (stT (allA ys r))) []
def Ds:ST:=(j6 (fun j=>[false,false].getD j false) (bF ul (cZ (aD (aF 1) aH)) (aq rF (aD (bF gIx (aF 0) (bJ (.int 0))) aH))))
theorem Vf (os:List O) (Qa:O->List O->Prop) (_:os.length=2) (h:zM os Qa):Ds (aP [false,false] Qa) (aK 2 os):=by
 obtain ⟨ys,us,r,rfl,n1,n2,h⟩:=h
 unfold Ds oE
 (try sizeOf_list_dec)
 rw [List.length_map]
 refine ⟨by omega,by omega,by omega,by omega, ?_⟩
 rw [Ve]
 exact h
theorem Vg (s:Str):zJ (.str s):=⟨.text s,rfl⟩
theorem Yl {ts:List T} (h : ∀ t∈ts,zJ t):zJ (.tuple ts):=by
 obtain ⟨ks,e⟩:=wg h
 exact ⟨.tup ks,by rw [e];rfl⟩
theorem Ym {α : Type} {f : α->T} (h : ∀ a,zJ (f a)) (as:List α):zJ (.tuple (as.map f)):=Yl fun t m=>by
 obtain ⟨a,_,rfl⟩:=List.mem_map.mp m
 exact h a
theorem fk_eq {t u:T} (ht:zJ t) (hu:zJ u):PyData.eqv t u=true↔t=u:=by
 have:=Xh (ts:=[t]) (us:=[u]) (fun x m=>by rw [List.mem_singleton.mp m];exact ht) (fun x m=>by rw [List.mem_singleton.mp m];exact hu)
 simp only [PyData.eqvAll,Bool.and_true,List.cons.injEq,and_true] at this
 exact this
theorem O7 {t:T} (ht:zJ t):PyData.eqv t t=true:=(fk_eq ht ht).mpr rfl
theorem aBj {t u:T} (ht:zJ t) (hu:zJ u):jN t u=true:=by
 obtain ⟨a,rfl⟩:=ht
 obtain ⟨b,rfl⟩:=hu
 exact Qq a b
theorem aBk {α : Type} {f : α->T} {as:List α} (h : ∀ a∈as,PyData.canLay0 (f a)=true):PyData.canLay0 (.tuple (as.map f))=true:=by
 simp only [PyData.canLay0]
 exact WS.O2 fun t m=>by
  obtain ⟨a,ha,rfl⟩:=List.mem_map.mp m
  exact h a ha
theorem Yn:PyData.canLay0 (.tuple [])=true:=aBk (f:=PyData.str) (as:=[]) fun _ m=>nomatch m
theorem fl_sv {ys:List Str} {us:List (Str×Str)} (hN:nU ys us) {x:Str} (h:x∈ys):PyData.canLay0 (.str x)=true:=WS.IK (hN.nm x h).2
def moT (xs:List Str) (l:List (Str×Str)) (p:T):T := .tuple [stT xs, .tuple (l.map lD),p]
def flO (R:Rows) (ys:List Str) (us:List (Str×Str)) (m:T):O := .ins "Fleet" [("network_held", .val (oE ys us)),("catalog_held", .val (xH R)),("moment", .val m)]
def nu:bU:=fun os Q => ∃ R ys us s,os=[.ins "Fleet" [], .pure (oE ys us), .pure (xH R), .pure (.str s)]∧nU ys us∧Ao R∧s∈ns R∧Q (.pure .none) [flO R ys us (moT (allA ys s) [] .none)]
def qP:ST:=(eO (eY (xP [false,false] eV (fun _ _=>False) (aD (aF 2) (aD (aF 3) aH))))
 (eO (YW 0 "Fleet" "network_held" (aF 1))
 (eO (YW 0 "Fleet" "catalog_held" (aF 2))
 (YW 0 "Fleet" "moment" (cZ (aD (aV [false,false] zM (aD (aF 1) (aD (aF 3) aH))) (aD (cZ aH) (aD (bJ .none) aH))))))))
theorem Jj (os:List O) (Qa:O->List O->Prop) (_:os.length=4) (h:nu os Qa):qP (aP [true,false,false,false] Qa) (aK 4 os):=by
 obtain ⟨R,ys,us,s,rfl,hN,hR,hs,h⟩:=h
 unfold qP YW
 ((try sizeOf_list_dec);repeat (simp only [xP];(try sizeOf_list_dec)))
 refine ⟨R, .str s,rfl,hR,fun _ => ?_,fun z=>absurd z (by rw [Vd hs];simp)⟩
 ((try sizeOf_list_dec);repeat (simp only [YW.nwK.eq_1,KN.fldS.eq_1];(try sizeOf_list_dec)))
 refine ⟨by decide,rfl,by decide,ys,us,s,rfl,hN.n1,hN.n2, ?_⟩
 (try sizeOf_list_dec)
 exact ⟨rfl,by decide,h⟩
def jE:bU:=fun os Q => ∃ R ys us xs l p,os=[flO R ys us (moT xs l p)]∧Q (.pure (stT xs)) [flO R ys us (moT xs l p)]
def o5:ST:=(j6 (fun j=>[true].getD j false) (bF gIx (tFv 0 "Fleet" "moment" 2) (bJ (.int 0))))
theorem Gu (os:List O) (Qa:O->List O->Prop) (_:os.length=1) (h:jE os Qa):o5 (aP [true] Qa) (aK 1 os):=by
 obtain ⟨R,ys,us,xs,l,p,rfl,h⟩:=h
 unfold o5 flO moT
 ((try sizeOf_list_dec);repeat (simp only [tFv,Ht.eq_1,Ml.eq_1,KN.fldS.eq_1];(try sizeOf_list_dec)))
 exact h
def jc:bU:=fun os Q => ∃ R ys us xs l p,os=[flO R ys us (moT xs l p)]∧l.length≤10000∧Q (.pure (.int (l.length:Int))) [flO R ys us (moT xs l p)]
def qQ:ST:=(j6 (fun j=>[true].getD j false) (aq rF (aD (bF gIx (tFv 0 "Fleet" "moment" 2) (bJ (.int 1))) aH)))
theorem Jk (os:List O) (Qa:O->List O->Prop) (_:os.length=1) (h:jc os Qa):qQ (aP [true] Qa) (aK 1 os):=by
 obtain ⟨R,ys,us,xs,l,p,rfl,hl,h⟩:=h
 unfold qQ flO moT
 ((try sizeOf_list_dec);repeat (simp only [tFv,Ht.eq_1,Ml.eq_1,KN.fldS.eq_1];(try sizeOf_list_dec)))
 rw [List.length_map]
 exact h
def mF:bU:=fun os Q => ∃ R ys us xs l p,os=[flO R ys us (moT xs l p)]∧Q (.pure (.tuple (l.map lD))) [flO R ys us (moT xs l p)]
def sW:ST:=(j6 (fun j=>[true].getD j false) (bF gIx (tFv 0 "Fleet" "moment" 2) (bJ (.int 1))))
theorem M7 (os:List O) (Qa:O->List O->Prop) (_:os.length=1) (h:mF os Qa):sW (aP [true] Qa) (aK 1 os):=by
 obtain ⟨R,ys,us,xs,l,p,rfl,h⟩:=h
 unfold sW flO moT
 ((try sizeOf_list_dec);repeat (simp only [tFv,Ht.eq_1,Ml.eq_1,KN.fldS.eq_1];(try sizeOf_list_dec)))
 exact h
def gq:bU:=fun os Q => ∃ R ys us m,os=[flO R ys us m]∧nU ys us∧Q (.pure (.int (ys.length:Int))) [flO R ys us m]
def jd:ST:=(j6 (fun j=>[true].getD j false) (aq rF (aD (bF gIx (tFv 0 "Fleet" "network_held" 0) (bJ (.int 0))) aH)))
theorem Ck (os:List O) (Qa:O->List O->Prop) (_:os.length=1) (h:gq os Qa):jd (aP [true] Qa) (aK 1 os):=by
 obtain ⟨R,ys,us,m,rfl,hN,h⟩:=h
 unfold jd flO
 ((try sizeOf_list_dec);repeat (simp only [tFv,Ht.eq_1,Ml.eq_1,KN.fldS.eq_1];(try sizeOf_list_dec)))
 refine Ji ?_
 (try sizeOf_list_dec)
 rw [List.length_map]
 exact h
def lZ:bU:=fun os Q => ∃ R ys us xs l p zs r,os=[flO R ys us (moT xs l p), .pure (stT zs), .pure (.tuple (r.map lD))]∧l.length+r.length≤10000∧Q (.pure .none) [flO R ys us (moT zs (l++r) (moT xs l p))]
def o7:ST:=(KN 0 "Fleet" "moment" 2 (cZ (aD (aF 1) (aD (bF gG (bF gIx (tFv 0 "Fleet" "moment" 2) (bJ (.int 1))) (aF 2)) (aD (tFv 0 "Fleet" "moment" 2) aH)))))
theorem Gv (os:List O) (Qa:O->List O->Prop) (_:os.length=3) (h:lZ os Qa):o7 (aP [true,false,false] Qa) (aK 3 os):=by
 obtain ⟨R,ys,us,xs,l,p,zs,r,rfl,hl,h⟩:=h
 unfold o7 flO moT KN
 ((try sizeOf_list_dec);repeat (simp only [tFv,Ht.eq_1,Ml.eq_1,KN.fldS.eq_1];(try sizeOf_list_dec)))
 rw [← List.map_append]
 exact ⟨by rw [List.length_map,List.length_map];omega,⟨_,rfl⟩,by decide,h⟩
def iD:bU:=fun os Q => ∃ R ys us m,os=[flO R ys us m]∧Q (.pure (oE ys us)) [flO R ys us m]
def je:ST:=(j6 (fun j=>[true].getD j false) (tFv 0 "Fleet" "network_held" 0))
theorem Cm (os:List O) (Qa:O->List O->Prop) (_:os.length=1) (h:iD os Qa):je (aP [true] Qa) (aK 1 os):=by
 obtain ⟨R,ys,us,m,rfl,h⟩:=h
 unfold je flO
 ((try sizeOf_list_dec);repeat (simp only [tFv,Ht.eq_1,Ml.eq_1,KN.fldS.eq_1];(try sizeOf_list_dec)))
 exact h
def iG:bU:=fun os Q => ∃ R ys us m,os=[flO R ys us m]∧Q (.pure (xH R)) [flO R ys us m]
def jf:ST:=(j6 (fun j=>[true].getD j false) (tFv 0 "Fleet" "catalog_held" 1))
theorem Cp (os:List O) (Qa:O->List O->Prop) (_:os.length=1) (h:iG os Qa):jf (aP [true] Qa) (aK 1 os):=by
 obtain ⟨R,ys,us,m,rfl,h⟩:=h
 unfold jf flO
 ((try sizeOf_list_dec);repeat (simp only [tFv,Ht.eq_1,Ml.eq_1,KN.fldS.eq_1];(try sizeOf_list_dec)))
 exact h
theorem aBl {R:Rows} (hR:Ao R) : ∀ t∈R.map Mp,Gd 22 2 B0 t:=fun t m=>by
 obtain ⟨p,hp,rfl⟩:=List.mem_map.mp m
 obtain ⟨h1,h2⟩:=hR.nm p hp
 obtain ⟨⟨_,h3⟩,_,h4⟩:=hR.vs p hp
 have g1:Gd 9 1 B0 (.str p.1):=Gd.str (by omega) h2
 have g2:Gds 10 0 B0 (p.2.map PyData.int):=Hw (k:=1) (fun t m=>by
  obtain ⟨v,hv,rfl⟩:=List.mem_map.mp m
  have:=h4 v hv
  exact Gd.int (by unfold B0;omega)) (by rw [List.length_map];omega)
 exact (Gd.tup (Gds.app (Gds.one g1) (Gds.one (Gd.tup g2)))).mono (by omega) (by omega) (Nat.le_refl _)
theorem aBm {R:Rows} (hR:Ao R):Gd 500 3 B0 (xH R):=by
 have rl:=hR.n2
 exact (Gd.tup (Hw (aBl hR) (w:=440) (by rw [List.length_map];omega))).mono (by omega) (by omega) (Nat.le_refl _)
theorem aBn {ys:List Str} {us:List (Str×Str)} (hN:nU ys us):Gd 1200 3 B0 (oE ys us):=by
 have n2:=hN.n2
 have m:=hN.m
 have g1:Gds 120 1 B0 (ys.map PyData.str):=Hw (k:=9) (fun t m=>by
  obtain ⟨x,hx,rfl⟩:=List.mem_map.mp m
  have:=hN.nm x hx
  exact Gd.str (by omega) this.2) (by rw [List.length_map];omega)
 have g2:Gds 840 1 B0 (us.map lD):=Hw (k:=21) (fun t m=>by
  obtain ⟨u,hu,rfl⟩:=List.mem_map.mp m
  obtain ⟨h1,h2,_⟩:=hN.tk u hu
  have a1:=hN.nm _ h1
  have a2:=hN.nm _ h2
  have b1:Gd 9 0 B0 (.str u.1):=Gd.str (by omega) a1.2
  have b2:Gd 9 0 B0 (.str u.2):=Gd.str (by omega) a2.2
  exact (Gd.tup (Gds.app (Gds.one b1) (Gds.one b2))).mono (by omega) (by omega) (Nat.le_refl _)) (by rw [List.length_map];omega)
 exact (Gd.tup (Gds.app (Gds.one (Gd.tup g1)) (Gds.one (Gd.tup g2)))).mono (by omega) (by omega) (Nat.le_refl _)
theorem st_gd {R:Rows} {ys xs:List Str} (hR:Ao R) (hS:Vv R ys xs) (hl:ys.length≤12):Gd 150 1 B0 (stT xs):=by
 have hx:=hS.1
 have g1:Gds 120 0 B0 (xs.map PyData.str):=Hw (k:=9) (fun t m=>by
  obtain ⟨x,hx,rfl⟩:=List.mem_map.mp m
  have:=Fe hR x (hS.2 x hx)
  exact Gd.str (by have:=this.1;omega) this.2) (by rw [List.length_map];omega)
 exact (Gd.tup g1).mono (by omega) (by omega) (Nat.le_refl _)
abbrev Mo:=List Str×List (Str×Str)
def moH:List Mo->T
 | [] => .none
 | m :: hs=>moT m.1 m.2 (moH hs)
def o8:qK:=fun os Qa Ea => ∃ R ys us m hs,os=[flO R ys us (moH (m :: hs))]∧(hs=[]->Ea ⟨"NothingToUndo",none⟩ [flO R ys us (moH (m :: hs))])∧(hs≠[]->Qa (.pure .none) [flO R ys us (moH hs)])
def qR (Ea:Exc->aM->Prop):ST:=(eO (sIf (mV (bF gIs (bF gIx (XJ 0 (tFv 0 "Fleet" "moment" 2)) (bJ (.int 2))) (bJ .none))) (Nv "NothingToUndo" Ea) gD)
 (Zt 0 "Fleet" "moment" 2 (bF gIx (XJ 0 (tFv 0 "Fleet" "moment" 2)) (bJ (.int 2)))))
theorem Jl (os:List O) (Qa:O->List O->Prop) (Ea:Exc->List O->Prop) (_:os.length=0+1) (h:o8 os Qa Ea) : ∃ c fs os',os = .ins c fs :: os' ∧ ∀ a,qR (XF a c Ea) (Ln a c Qa) (aK 1 (.ina a c fs :: os')):=by
 obtain ⟨R,ys,us,m,hs,rfl,h1,h2⟩:=h
 refine ⟨"Fleet",_, [],rfl,fun a => ?_⟩
 unfold qR Nv Zt
 cases hs with
 | nil =>
  have h1:=h1 rfl
  unfold moH moH moT at h1 ⊢
  ((try sizeOf_list_dec);repeat (simp only [Do,Ht.eq_1,Ml.eq_1,KN.fldS.eq_1];(try sizeOf_list_dec)))
  exact ⟨_,rfl,h1⟩
 | cons m2 hs =>
  have h2:=h2 (List.cons_ne_nil _ _)
  unfold moH moT at ⊢
  unfold moH moT at h2 ⊢
  ((try sizeOf_list_dec);repeat (simp only [Do,Ht.eq_1,Ml.eq_1,KN.fldS.eq_1];(try sizeOf_list_dec)))
  rw [if_neg (by exact Bool.false_ne_true)]
  ((try sizeOf_list_dec);repeat (simp only [Do,Ht.eq_1,Ml.eq_1,KN.fldS.eq_1];(try sizeOf_list_dec)))
  exact ⟨a,_,_,rfl,rfl,by simp only [List.length_cons,List.length_nil];omega,_,rfl,h2⟩
theorem Vh {R:Rows} {ys xs:List Str} {us:List (Str×Str)} {s r:Str} (hN:nU ys us) {t:T} (h:t∈M5 R ys xs us s r) : ∃ y∈ys,t = .str y:=by
 unfold M5 at h
 obtain ⟨y,hy,e⟩:=O4 (List.mem_filter.mp h).1
 exact ⟨y,O5 hN hy,e⟩
theorem Vi {R:Rows} {ys xs:List Str} {us:List (Str×Str)} {s r:Str} (hN:nU ys us):PyData.canLay0 (.tuple (M5 R ys xs us s r))=true:=by
 simp only [PyData.canLay0]
 exact WS.O2 fun t m=>by
  obtain ⟨y,hy,rfl⟩:=Vh hN m
  exact fl_sv hN hy
theorem Vj {R:Rows} {ys xs:List Str} {us:List (Str×Str)} {s r:Str} (hN:nU ys us):zJ (.tuple (M5 R ys xs us s r)):=Yl fun t m=>by
 obtain ⟨y,hy,rfl⟩:=Vh hN m
 exact Vg y
theorem Vk {R:Rows} {ys xs:List Str} {us:List (Str×Str)} {s r:Str} (hN:nU ys us):(PyData.tuple (M5 R ys xs us s r)).depth≤1:=by
 have : PyData.depthAll (M5 R ys xs us s r)≤0:=Af.mpr fun t m=>by
  obtain ⟨y,hy,rfl⟩:=Vh hN m
  simp [PyData.depth]
 simp only [PyData.depth]
 omega
theorem Vl {w:List T} (h:w≠[]):PyData.eqv (.tuple w) (.tuple [])=false:=by
 cases w with
 | nil=>exact absurd rfl h
 | cons a w=>rfl
def cY:qK:=fun os Qa Ea => ∃ R ys us xs l p s r,os=[flO R ys us (moT xs l p), .pure (.str s), .pure (.str r)]∧nU ys us∧Ao R∧Vv R ys xs∧s∈ys∧r∈ns R ∧
 (M5 R ys xs us s r=[]->Qa (.pure .none) [flO R ys us (moT xs l p)])∧(M5 R ys xs us s r≠[]->Ea ⟨"Blocked",some ("services", .tuple (M5 R ys xs us s r))⟩ [flO R ys us (moT xs l p)])
def d7 (Ea:Exc->aM->Prop):ST:=(eO (jT 3 (xP [false,false,false,false,false] sV Ea (aD (XJ 0 (tFv 0 "Fleet" "network_held" 0)) (aD (XJ 0 (tFv 0 "Fleet" "catalog_held" 1)) (aD (bF gIx (XJ 0 (tFv 0 "Fleet" "moment" 2)) (bJ (.int 0))) (aD (aF 1) (aD (aF 2) aH)))))))
 (sIf (mV (bF gNe (aF 3) (cZ aH))) (Ez "Blocked" "services" Ea (aD (aF 3) aH)) gD))
theorem qC (os:List O) (Qa:O->List O->Prop) (Ea:Exc->List O->Prop) (_:os.length=2+1) (h:cY os Qa Ea) : ∃ c fs os',os = .ins c fs :: os' ∧ ∀ a,d7 (XF a c Ea) (Ln a c Qa) (aK 4 (.ina a c fs :: os')):=by
 obtain ⟨R,ys,us,xs,l,p,s,r,rfl,hN,hR,ok,hs,hr,h1,h2⟩:=h
 refine ⟨"Fleet",_, [.pure (.str s), .pure (.str r)],rfl,fun a => ?_⟩
 unfold d7 moT
 ((try sizeOf_list_dec);repeat (simp only [xP,Do,Ht.eq_1,Ml.eq_1,KN.fldS.eq_1];(try sizeOf_list_dec)))
 refine ⟨R,ys,us,xs,_,_,rfl,hN,hR,ok,fun z=>absurd z (by rw [show Xo ys (.str s)=true from by simp [Xo,hs]];exact Bool.noConfusion),fun _ z=>absurd z (by rw [Vd hr];exact Bool.noConfusion),fun s' r' e1 e2 _ _ => ?_⟩
 cases e1
 cases e2
 have c1:=Vi (R:=R) (xs:=xs) (s:=s) (r:=r) hN
 have c2:=Vj (R:=R) (xs:=xs) (s:=s) (r:=r) hN
 have c3:=Vk (R:=R) (xs:=xs) (s:=s) (r:=r) hN
 generalize M5 R ys xs us s r=w at h1 h2 c1 c2 c3 ⊢
 ((try sizeOf_list_dec);repeat (simp only [Ez];(try sizeOf_list_dec)))
 refine ⟨rfl,c1,Yn,Nat.le_trans (Nat.min_le_left _ _) (Nat.le_trans c3 (by decide)), ?_⟩
 by_cases e:w=[]
 ·subst e
  rw [O7 (t := .tuple []) (Ym Vg []),if_neg (by simp)]
  exact ⟨_,rfl,h1 rfl⟩
 ·rw [Vl e,if_pos (by simp)]
  exact ⟨_,rfl,h2 e⟩
def iH:qK:=fun os Qa Ea => ∃ R ys us xs l p s r,os=[flO R ys us (moT xs l p), .pure (.str s), .pure (.str r)]∧nU ys us∧Ao R∧Vv R ys xs∧s∈ys∧r∈ns R∧l.length≤9000 ∧
 (M5 R ys xs us s r=[]->Qa (.pure .none) [flO R ys us (moT (M6 ys xs (s,r)) (l++[(s,r)]) (moT xs l p))])∧(M5 R ys xs us s r≠[]->Ea ⟨"Blocked",some ("services", .tuple (M5 R ys xs us s r))⟩ [flO R ys us (moT xs l p)])
def jg (Ea:Exc->aM->Prop):ST:=(eO (eY (Nu 0 "Fleet" "check_replacement" [false,false] cY Ea (aF 0) (aD (aF 1) (aD (aF 2) aH))))
 (eY (XJ 0 (Rz "Fleet" "store" [false,false] lZ (aF 0) (aD (aV [false,false,false,false] ww (aD (tFv 0 "Fleet" "network_held" 0) (aD (bF gIx (tFv 0 "Fleet" "moment" 2) (bJ (.int 0))) (aD (aF 1) (aD (aF 2) aH))))) (aD (cZ (aD (cZ (aD (aF 1) (aD (aF 2) aH))) aH)) aH))))))
theorem Cq (os:List O) (Qa:O->List O->Prop) (Ea:Exc->List O->Prop) (_:os.length=2+1) (h:iH os Qa Ea) : ∃ c fs os',os = .ins c fs :: os' ∧ ∀ a,jg (XF a c Ea) (Ln a c Qa) (aK 3 (.ina a c fs :: os')):=by
 obtain ⟨R,ys,us,xs,l,p,s,r,rfl,hN,hR,ok,hs,hr,hl,h1,h2⟩:=h
 refine ⟨"Fleet", [("network_held", .val (oE ys us)),("catalog_held", .val (xH R)),("moment", .val (moT xs l p))], [.pure (.str s), .pure (.str r)],rfl,fun a => ?_⟩
 generalize hm:moT xs l p=m at h1 h2
 unfold jg
 rw [eO,eY]
 refine ⟨a,_,rfl, ?_⟩
 unfold vD Hu
 ((try sizeOf_list_dec);repeat (simp only [Gk,xF.eq_1];(try sizeOf_list_dec)))
 subst hm
 refine ⟨rfl,R,ys,us,xs,l,p,s,r,rfl,hN,hR,ok,hs,hr,fun hw=>⟨⟨_,rfl⟩,_,rfl, ?_⟩,fun hw=>⟨_,rfl,_,rfl,h2 hw⟩⟩
 have h1:=h1 hw
 generalize hm:moT xs l p=m at h1 h2
 refine ⟨a,_,_,rfl, ?_⟩
 unfold DL.Rz
 ((try sizeOf_list_dec);repeat (simp only [xP,Gk,xF.eq_1,tFv,Ht.eq_1,Ml.eq_1,KN.fldS.eq_1];(try sizeOf_list_dec)))
 have ix : ∀ Q:O->Prop,Q (.pure (stT xs))->gIx (.pure (moT xs l p)) (.pure (.int 0)) Q:=fun Q q=>by
  unfold moT
  (try sizeOf_list_dec)
  exact q
 refine ⟨rfl, ?_⟩
 rw [← hm]
 refine ix _ ?_
 (try sizeOf_list_dec)
 refine ⟨ys,us,xs,s,r,rfl,hN.n2,ok.1,hs, ?_⟩
 refine ⟨R,ys,us,xs,l,p,M6 ys xs (s,r), [(s,r)],rfl,by simp only [List.length_cons,List.length_nil];omega,⟨_,rfl⟩,_,rfl,_,rfl, ?_⟩
 rw [hm]
 exact h1
def qT:bU:=fun os Q => ∃ n d, ∃ k:Nat,n≤500000∧os=[d, .pure (.int k)]∧Dk n d∧1≤k∧k≤12 ∧
 ∀ ys us R s d',nU ys us->Ao R->s∈ns R->Dk (n+500) d'->Q (.pure (.tuple [oE ys us,xH R, .str s])) [d']
def sX:ST:=(eO (uo [2,3] (aD (aV [true,false,false] jW (aD (aF 0) (aD (bF gG (bJ (.int 1)) (aV [true,false] au (aD (aF 0) (aD (aF 1) aH)))) (aD (bJ (.bool true)) aH)))) (aD (aV [true,false] jX (aD (aF 0) (aD (bF gG (bJ (.int 1)) (aV [true,false] au (aD (aF 0) (aD (bJ (.int 8)) aH)))) aH))) aH)))
 (eO (sIf (mV (bF gGt (aV [true,false] au (aD (aF 0) (aD (bJ (.int 3)) aH))) (bJ (.int 0)))) (jT 3 (bF gIx (aV [true,false,false] nY (aD (aF 0) (aD (bF gG (bJ (.int 1)) (aV [true,false] au (aD (aF 0) (aD (bJ (.int 4)) aH)))) (aD (aV [true,false] au (aD (aF 0) (aD (bJ (.int 4)) aH))) aH)))) (bJ (.int 0)))) gD)
 (j6 (fun j=>[true,false].getD j false) (cZ (aD (aF 2) (aD (aF 3) (aD (bF gIx (aV [true,false] bQ (aD (aF 0) (aD (aF 3) aH))) (bJ (.int 0))) aH)))))))
theorem Xr {n m:Nat} {k:Int} {ds:List T} {ys:List Str} {us:List (Str×Str)} {R:Rows} {Qa:O->List O->Prop} (hn:m≤600000) (hd:Dk m (.lst ds)) (hR:Ao R)
  (h : ∀ s d',s∈ns R->Dk (m+1) d'->Qa (.pure (.tuple [oE ys us,xH R, .str s])) [d']) :
  ((j6 (fun j=>[true,false].getD j false) (cZ (aD (aF 2) (aD (aF 3) (aD (bF gIx (aV [true,false] bQ (aD (aF 0) (aD (aF 3) aH))) (bJ (.int 0))) aH)))))) (aP [true,false] Qa) [some (.lst ds),some (.pure (.int k)),some (.pure (oE ys us)),some (.pure (xH R))]:=by
 have r1:=hR.n1
 have r2:=hR.n2
 (try sizeOf_list_dec)
 refine ⟨m,_,R.map Mp,by omega,rfl,hd,fun e => ?_,by rw [List.length_map];omega,fun t d' mt hd' => ?_⟩
 ·have:=congrArg List.length e
  rw [List.length_map,List.length_nil] at this
  omega
 ·obtain ⟨p,hp,rfl⟩:=List.mem_map.mp mt
  obtain ⟨ds',rfl⟩:=hd'.frz
  ((try sizeOf_list_dec);repeat (simp only [Mp];(try sizeOf_list_dec)))
  exact h p.1 _ (List.mem_map_of_mem hp) hd'
theorem M8 (os:List O) (Qa:O->List O->Prop) (_:os.length=2) (h:qT os Qa):sX (aP [true,false] Qa) (aK 4 os):=by
 obtain ⟨n,d,k,hn,rfl,hd,k1,k2,h⟩:=h
 obtain ⟨ds,rfl⟩:=hd.frz
 unfold sX
 have fin : ∀ (m:Nat) (ds:List T) (ys:List Str) (us:List (Str×Str)) (R:Rows),nU ys us->Ao R->m≤n+410->Dk m (.lst ds)->((j6 (fun j=>[true,false].getD j false) (cZ (aD (aF 2) (aD (aF 3) (aD (bF gIx (aV [true,false] bQ (aD (aF 0) (aD (aF 3) aH))) (bJ (.int 0))) aH)))))) (aP [true,false] Qa) [some (.lst ds),some (.pure (.int k)),some (.pure (oE ys us)),some (.pure (xH R))]:=fun m ds ys us R hN hR hm hd =>
  Xr (n:=n) (by omega) hd hR fun s d' hs hd'=>h ys us R s d' hN hR hs (hd'.mono (by omega))
 generalize (j6 (fun j=>[true,false].getD j false) (cZ (aD (aF 2) (aD (aF 3) (aD (bF gIx (aV [true,false] bQ (aD (aF 0) (aD (aF 3) aH))) (bJ (.int 0))) aH)))))=K at fin ⊢
 generalize aP [true,false] Qa=D at fin ⊢
 (try sizeOf_list_dec)
 refine ⟨n,_,_,by omega,rfl,hd,by omega,by omega,fun r d' h0 h1 hd' => ?_⟩
 obtain ⟨ds',rfl⟩:=hd'.frz
 (try sizeOf_list_dec)
 refine ⟨n+1,_,(1+r).toNat,true,by omega,by rw [Int.toNat_of_nonneg (by omega)],hd',by omega,by omega,fun ys us d' hN _ _ _ hd' => ?_⟩
 obtain ⟨ds',rfl⟩:=hd'.frz
 (try sizeOf_list_dec)
 refine ⟨n+201,_,_,by omega,rfl,hd',by decide,by decide,fun r2 d' k0 k1 hd' => ?_⟩
 obtain ⟨ds',rfl⟩:=hd'.frz
 (try sizeOf_list_dec)
 refine ⟨n+202,_,(1+r2).toNat,by omega,by rw [Int.toNat_of_nonneg (by omega)],hd',by omega,by omega,fun rs d' hrs _ hd' => ?_⟩
 obtain ⟨ds',rfl⟩:=hd'.frz
 obtain ⟨R,rfl,hR⟩:=hrs.list
 (try sizeOf_list_dec)
 refine ⟨rfl,n+302,_,_,by omega,rfl,hd',by decide,by decide,fun r3 d' k0 k1 hd' => ?_⟩
 obtain ⟨ds',rfl⟩:=hd'.frz
 (try sizeOf_list_dec)
 split
 ·refine ⟨n+303,_,_,by omega,rfl,hd',by decide,by decide,fun r4 d' j0 j1 hd' => ?_⟩
  obtain ⟨ds',rfl⟩:=hd'.frz
  (try sizeOf_list_dec)
  refine ⟨n+304,_,_,by omega,rfl,hd',by decide,by decide,fun r5 d' i0 i1 hd' => ?_⟩
  obtain ⟨ds',rfl⟩:=hd'.frz
  (try sizeOf_list_dec)
  refine ⟨n+305,_,(1+r4).toNat,r5.toNat,by omega,by rw [Int.toNat_of_nonneg (by omega),Int.toNat_of_nonneg i0],hd',by omega,by omega,fun rs ns b d' hrs _ hd' => ?_⟩
  obtain ⟨ds',rfl⟩:=hd'.frz
  obtain ⟨R,e,hR⟩:=hrs.list
  rw [e]
  (try sizeOf_list_dec)
  exact ⟨rfl,fin _ _ _ _ _ hN hR (by omega) hd'⟩
 ·exact fin _ _ _ _ _ hN hR (by omega) hd'
def sY:bU:=fun os Q => ∃ R ys us xs s r,os=[.pure (oE ys us), .pure (xH R), .pure (stT xs), .pure (.str s), .pure (.str r)]∧nU ys us∧Ao R∧Vv R ys xs∧s∈ys∧r∈ns R∧Q (.pure (.tuple (M5 R ys xs us s r))) []
def wy:ST:=(eO (jT 5 (aq CG (aD (bF gIx (aF 0) (bJ (.int 0))) (aD (aF 2) aH))))
 (j6 (fun j=>[false,false,false,false,false].getD j false) (aq cW (aD (eZ (iW (bF Mi (aV [false] lV (aD (aF 0) aH)) (aF 3))) (bH 6) (wR (mV (aV [false,false,false] jD (aD (aF 1) (aD (bF Mi (aF 5) (aF 6)) (aD (aF 4) aH)))))) (aF 6) [6]) aH))))
theorem O8 (os:List O) (Qa:O->List O->Prop) (_:os.length=5) (h:sY os Qa):wy (aP [false,false,false,false,false] Qa) (aK 7 os):=by
 obtain ⟨R,ys,us,xs,s,r,rfl,hN,hR,ok,hs,hr,h⟩:=h
 unfold wy
 unfold oE
 ((try sizeOf_list_dec);repeat (simp only [eZ];(try sizeOf_list_dec)))
 obtain ⟨hl,hx⟩:=ok
 refine M4 (WV.zG hN.up) hl ?_
 refine ⟨rfl,ys,us,rfl,hN, ?_⟩
 (try sizeOf_list_dec)
 refine Vb hs ?_
 refine ⟨trivial, ?_⟩
 (try sizeOf_list_dec)
 have key:=lJ (g:=bH 6) (tt:=wR (mV (aV [false,false,false] jD (aD (aF 1) (aD (bF Mi (aF 5) (aF 6)) (aD (aF 4) aH)))))) (te:=aF 6) (vs:=[6]) (ρ:=[some (.pure (.tuple [.tuple (ys.map PyData.str), .tuple (us.map lD)])),
  some (.pure (xH R)),some (.pure (stT xs)),some (.pure (.str s)),some (.pure (.str r)),some (.dct (Qv ys xs)),none]) (Q:=fun acc ρ2=>Qa (.pure (.tuple acc)) []) id id (fun t => !mt R r (rn ys xs (aBh t))) (srt (Dq us s)) [] (fun t m Q' acc' ts' h1 h2 => ?_) ?_
 ·rw [List.map_id] at key
  exact key
 ·obtain ⟨y,hy,rfl⟩:=O4 m
  have my:=O5 hN hy
  have r1:=hx _ (Yh my hl)
  unfold iQ
  ((try sizeOf_list_dec);repeat (simp only [id];(try sizeOf_list_dec)))
  refine ⟨rfl,runs my hl ?_⟩
  (try sizeOf_list_dec)
  refine ⟨R,rn ys xs y,r,rfl,hR,r1,hr, ?_⟩
  (try sizeOf_list_dec)
  have e:aBh (PyData.str y)=y:=rfl
  simp only [id,e] at h1 h2
  rw [VN] at h1 h2
  cases q:mt R (rn ys xs y) r with
  | true =>
   rw [q] at h2
   simp only [Bool.not_true,Bool.false_eq_true,if_false]
   exact h2 rfl
  | false =>
   rw [q] at h1
   simp only [Bool.not_false,if_true]
   exact h1 rfl
 ·rw [List.map_id,List.nil_append]
  exact h
def sr:bU:=fun os Q => ∃ ys us xs s r,os=[.pure (oE ys us), .pure (stT xs), .pure (.str s), .pure (.str r)]∧ys.length≤12∧xs.length=ys.length∧s∈ys∧Q (.pure (stT (M6 ys xs (s,r)))) []
def xB:ST:=(eO (jT 4 (xq (bF gIx (aF 0) (bJ (.int 0))) (aF 2)))
 (j6 (fun j=>[false,false,false,false].getD j false) (bF gG (bF gG (yx (aF 1) none (some (aF 4))) (cZ (aD (aF 3) aH))) (yx (aF 1) (some (bF gG (aF 4) (bJ (.int 1)))) none))))
theorem O9 (os:List O) (Qa:O->List O->Prop) (_:os.length=4) (h:sr os Qa):xB (aP [false,false,false,false] Qa) (aK 5 os):=by
 obtain ⟨ys,us,xs,s,r,rfl,n2,hl,hs,h⟩:=h
 unfold xB oE
 (try sizeOf_list_dec)
 have hi:ys.idxOf s<xs.length:=by rw [hl];exact Yk hs
 rw [yG]
 dsimp only
 have e1:Ik (xs.map PyData.str) none (some ((ys.idxOf s:Nat):Int))=(xs.map PyData.str).take (ys.idxOf s):=by rw [JT (by omega),Int.toNat_natCast]
 have e2:Ik (xs.map PyData.str) (some (((ys.idxOf s:Nat):Int)+1)) none=(xs.map PyData.str).drop (ys.idxOf s+1):=by rw [QD (by omega),show (((ys.idxOf s:Nat):Int)+1).toNat=ys.idxOf s+1 by omega]
 have e3:=Vc (r:=r) hi
 simp only [e1,e2]
 refine ⟨hs,rfl, ?_, ?_, ?_⟩
 ·rw [List.length_take,List.length_map];omega
 ·rw [List.length_append,List.length_take,List.length_drop,List.length_map];simp only [List.length_cons,List.length_nil];omega
 ·rw [e3]
  exact h
def Vm (m:Mo):T := .tuple [stT m.1, .tuple (m.2.map lD)]
def zq (hs:List Mo):List T:=(hs.map Vm).reverse
structure Vn (R:Rows) (ys:List Str) (n:Nat) (hs:List Mo):Prop where
 st : ∀ m∈hs,Vv R ys m.1∧(∀ p∈m.2,Qw R ys p)∧m.2.length≤n
 n:hs.length≤n+1
def jQ:bU:=fun os Q => ∃ R ys us m hs,os=[flO R ys us (moH (m :: hs)), .pure (oE ys us), .pure (xH R), .lst (zq (m :: hs))]∧nU ys us∧Ao R∧Vn R ys 30 (m :: hs)∧Q (.pure (.bool true)) [flO R ys us (moH (m :: hs)), .lst (zq (m :: hs))]
def t7:ST:=(eO (jT 4 (gA (aD (S7 "Fleet" "state" jE (aF 0)) (aD (Rz "Fleet" "log" [] mF (aF 0) aH) (aD (S7 "Fleet" "made" jc (aF 0)) (aD (S7 "Fleet" "network" iD (aF 0)) (aD (S7 "Fleet" "catalog" iG (aF 0)) (aD (JZ "Fleet" gq (aF 0)) aH))))))))
 (j6 (fun j=>[true,false,false,true].getD j false) (bF gEq (aq lB (aD (aF 4) aH)) (aq lB (aD (gA (aD (bF gIx (bF gIx (aF 3) (xf v4 (bJ (.int 1)))) (bJ (.int 0))) (aD (bF gIx (bF gIx (aF 3) (xf v4 (bJ (.int 1)))) (bJ (.int 1))) (aD (aq rF (aD (bF gIx (bF gIx (aF 3) (xf v4 (bJ (.int 1)))) (bJ (.int 1))) aH)) (aD (aF 1) (aD (aF 2) (aD (aq rF (aD (bF gIx (aF 1) (bJ (.int 0))) aH)) aH))))))) aH)))))
theorem Jm {m:Mo} {hs:List Mo}:zq (m :: hs)=zq hs++[Vm m]:=by
 unfold zq
 rw [List.map_cons,List.reverse_cons]
theorem Vo {hs:List Mo}:(zq hs).length=hs.length:=by
 unfold zq
 rw [List.length_reverse,List.length_map]
theorem aBo {l:List T} {x:T}:atI (l++[x]) (-1)=some x:=by
 unfold atI ixN
 rw [if_neg (by omega),if_pos (by rw [List.length_append,List.length_singleton];omega)]
 show (l++[x])[_]? = _
 have : ((-1:Int)+((l++[x]).length:Nat)).toNat=l.length:=by rw [List.length_append,List.length_singleton];omega
 rw [this,List.getElem?_append_right (Nat.le_refl _),Nat.sub_self]
 rfl
theorem Yo {m:Mo} {hs:List Mo}:atI (zq (m :: hs)) (-1)=some (Vm m):=by
 rw [Jm]
 exact aBo
theorem aBp {R:Rows} {ys:List Str} {us:List (Str×Str)} (hN:nU ys us) (hR:Ao R) {l:List (Str×Str)} (h : ∀ p∈l,Qw R ys p) (hl:l.length≤30):Gd 700 2 B0 (.tuple (l.map lD)):=by
 have g2:Gds 630 1 B0 (l.map lD):=Hw (k:=21) (fun t m=>by
  obtain ⟨u,hu,rfl⟩:=List.mem_map.mp m
  obtain ⟨h1,h2⟩:=h u hu
  have a1:=hN.nm _ h1
  have a2:=Fe hR _ h2
  have b1:Gd 9 0 B0 (.str u.1):=Gd.str (by omega) a1.2
  have b2:Gd 9 0 B0 (.str u.2):=Gd.str (by have:=a2.1;omega) a2.2
  exact (Gd.tup (Gds.app (Gds.one b1) (Gds.one b2))).mono (by omega) (by omega) (Nat.le_refl _)) (by rw [List.length_map];omega)
 exact (Gd.tup g2).mono (by omega) (by omega) (Nat.le_refl _)
theorem aAb {R:Rows} {ys:List Str} {us:List (Str×Str)} {m:Mo} (hN:nU ys us) (hR:Ao R) (h1:Vv R ys m.1) (h2 : ∀ p∈m.2,Qw R ys p) (hl:m.2.length≤30) :
  (PyData.list [stT m.1, .tuple (m.2.map lD), .int m.2.length,oE ys us,xH R, .int ys.length]).showable=true∧(PyData.list [stT m.1, .tuple (m.2.map lD), .int m.2.length,oE ys us,xH R, .int ys.length]).depth≤150∧(PyData.list [stT m.1, .tuple (m.2.map lD), .int m.2.length,oE ys us,xH R, .int ys.length]).shown.length≤16777216:=by
 have n2:=hN.n2
 have g1:Gd 700 3 B0 (stT m.1):=(st_gd hR h1 n2).mono (by omega) (by omega) (Nat.le_refl _)
 have g2:Gd 700 3 B0 (.tuple (m.2.map lD)):=(aBp hN hR h2 hl).mono (by omega) (by omega) (Nat.le_refl _)
 have g3:Gd 1 3 B0 (.int (m.2.length:Int)):=Gd.int (by unfold B0;omega)
 have g4:Gd 1200 3 B0 (oE ys us):=aBn hN
 have g5:Gd 500 3 B0 (xH R):=aBm hR
 have g6:Gd 1 3 B0 (.int (ys.length:Int)):=Gd.int (by unfold B0;omega)
 have g:=Gd.lst (Gds.cons g1 (Gds.cons g2 (Gds.cons g3 (Gds.cons g4 (Gds.cons g5 (Gds.one g6))))))
 have sh:=Pq (b:=B0) (by decide) _ g.l
 have gw:=g.w
 have gd:=g.d
 exact ⟨Ey (b:=B0) (by decide) _ g.l,by omega,by omega⟩
abbrev aAp (R:Rows) (ys:List Str) (us:List (Str×Str)) (m:T):O := .ins "Fleet" [("network_held", .val (oE ys us)),("catalog_held", .val (xH R)),("moment", .val m)]
section
variable {R:Rows} {ys:List Str} {us:List (Str×Str)} {m:Mo} {hs:List Mo} {Q:O->List O->Prop} {mm:T}
theorem aAc (hm:moH (m :: hs)=mm) (q:Q (.pure (stT m.1)) [aAp R ys us mm]):jE [.ins "Fleet" [("network_held", .val (oE ys us)),("catalog_held", .val (xH R)),("moment", .val mm)]] Q:=by
 subst hm
 exact ⟨R,ys,us,m.1,m.2,moH hs,rfl,q⟩
theorem q_log (hm:moH (m :: hs)=mm) (q:Q (.pure (.tuple (m.2.map lD))) [aAp R ys us mm]):mF [.ins "Fleet" [("network_held", .val (oE ys us)),("catalog_held", .val (xH R)),("moment", .val mm)]] Q:=by
 subst hm
 exact ⟨R,ys,us,m.1,m.2,moH hs,rfl,q⟩
theorem aBq (hm:moH (m :: hs)=mm) (hl:m.2.length≤10000) (q:Q (.pure (.int (m.2.length:Int))) [aAp R ys us mm]):jc [.ins "Fleet" [("network_held", .val (oE ys us)),("catalog_held", .val (xH R)),("moment", .val mm)]] Q:=by
 subst hm
 exact ⟨R,ys,us,m.1,m.2,moH hs,rfl,hl,q⟩
theorem q_net (q:Q (.pure (oE ys us)) [aAp R ys us mm]):iD [.ins "Fleet" [("network_held", .val (oE ys us)),("catalog_held", .val (xH R)),("moment", .val mm)]] Q:=⟨R,ys,us,mm,rfl,q⟩
theorem q_cat (q:Q (.pure (xH R)) [aAp R ys us mm]):iG [.ins "Fleet" [("network_held", .val (oE ys us)),("catalog_held", .val (xH R)),("moment", .val mm)]] Q:=⟨R,ys,us,mm,rfl,q⟩
theorem q_len (hN:nU ys us) (q:Q (.pure (.int (ys.length:Int))) [aAp R ys us mm]):gq [.ins "Fleet" [("network_held", .val (oE ys us)),("catalog_held", .val (xH R)),("moment", .val mm)]] Q:=⟨R,ys,us,mm,rfl,hN,q⟩
end
theorem M9 (os:List O) (Qa:O->List O->Prop) (_:os.length=4) (h:jQ os Qa):t7 (aP [true,false,false,true] Qa) (aK 5 os):=by
 obtain ⟨R,ys,us,m,hs,rfl,hN,hR,hi,h⟩:=h
 unfold t7
 rw [eO]
 unfold DL.Rz DL.S7
 generalize hq:zq (m :: hs)=rl
 generalize hm:moH (m :: hs)=mm
 unfold flO
 ((try sizeOf_list_dec);repeat (simp only [Gk,xF.eq_1,DL.JZ];(try sizeOf_list_dec)))
 refine ⟨rfl,aAc hm ?_⟩
 ((try sizeOf_list_dec);repeat (simp only [Gk,xF.eq_1,DL.JZ];(try sizeOf_list_dec)))
 refine ⟨rfl,q_log hm ?_⟩
 ((try sizeOf_list_dec);repeat (simp only [Gk,xF.eq_1,DL.JZ];(try sizeOf_list_dec)))
 have lm:=(hi.st m List.mem_cons_self).2.2
 refine ⟨rfl,aBq hm (by omega) ?_⟩
 ((try sizeOf_list_dec);repeat (simp only [Gk,xF.eq_1,DL.JZ];(try sizeOf_list_dec)))
 refine ⟨rfl,q_net ?_⟩
 ((try sizeOf_list_dec);repeat (simp only [Gk,xF.eq_1,DL.JZ];(try sizeOf_list_dec)))
 refine ⟨rfl,q_cat ?_⟩
 ((try sizeOf_list_dec);repeat (simp only [Gk,xF.eq_1,DL.JZ];(try sizeOf_list_dec)))
 refine ⟨rfl,q_len hN ?_⟩
 ((try sizeOf_list_dec);repeat (simp only [Gk,xF.eq_1,DL.JZ];(try sizeOf_list_dec)))
 have n2:=hN.n2
 have e1:atI rl (-1)=some (Vm m):=by rw [← hq];exact Yo
 rw [e1]
 unfold Vm
 obtain ⟨t1,t2,t3⟩:=aAb (m:=m) hN hR (hi.st m List.mem_cons_self).1 (hi.st m List.mem_cons_self).2.1 lm
 refine ⟨⟨_,rfl,_,rfl,by omega,by omega⟩,rfl,t1,t2,t3, ?_⟩
 have net0 : ∀ Q:O->Prop,Q (.pure (.tuple (ys.map PyData.str)))->gIx (.pure (oE ys us)) (.pure (.int 0)) Q:=fun Q q=>Ji q
 have l1:(m.2.map lD).length=m.2.length:=List.length_map ..
 have l2:(ys.map PyData.str).length=ys.length:=List.length_map ..
 (try sizeOf_list_dec)
 refine net0 _ ?_
 (try sizeOf_list_dec)
 rw [l1,l2]
 refine ⟨t1,t2,t3,by simp [jN],by simp [PyData.depth], ?_⟩
 have e : ∀ z:Str,PyData.eqv (.str z) (.str z)=true:=fun z=>by simp [PyData.eqv]
 rw [e]
 subst hm
 subst hq
 exact h
abbrev upL:List Str:=["NoRelease", "NoService", "Unreachable", "NotTwoSided", "Blocked", "Mixed", "NothingToUndo"]
def iI:TkI->List (Str×Fl)->(List (Str×Fl)->O->Prop)->Prop:=fun spec fs Qa=>spec fs (fun fs' _=>Qa fs' (.pure .none)) fun fs' e=>if qX ["NoRelease", "NoService", "Unreachable", "NotTwoSided", "Blocked", "Mixed", "NothingToUndo"] e.nm=true then Nat.blt 2 3=true∧Nat.blt 1 3=true∧Qa fs' (.exc e) else False
def jh (k:Thk) (j:Nat) (c:Str) (spec:TkI):ST:=(eO (jT 1 (bJ .none))
 (eO (sTry 2 (qX ["NoRelease", "NoService", "Unreachable", "NotTwoSided", "Blocked", "Mixed", "NothingToUndo"]) (fun Eb=>(eY (XC k j c spec Eb))) (jT 1 (aF 2)) (fun _ _=>False))
 (j6 (fun _=>false) (aF 1))))
theorem xQ (k:Thk) (j:Nat) (c:Str) (spec:TkI) (fs:List (Str×Fl)) (Qa:List (Str×Fl)->O->Prop) (h:iI spec fs Qa):jh k j c spec (Uw k j c Qa) (aK 3 [.thi k j c fs]):=by
 unfold jh
 unfold iI at h
 ((try sizeOf_list_dec);repeat (simp only [sTry,aBa,XX,Xa];(try sizeOf_list_dec)))
 exact ⟨rfl,h⟩
theorem aAd {j:Nat} {ρ : aM} {l:List T} {y:T} {Q:Opd->aM->Prop} (e : ρ[j]? = some (some (.lst (l++[y])))) (q:Q (.val (.pure y)) (ρ.set j (some (.lst l)))):tPop j ρ Q:=by
 unfold tPop gY
 rw [e]
 dsimp only
 rw [List.length_append,List.length_singleton,Nat.add_sub_cancel,List.getElem?_append_right (Nat.le_refl _),Nat.sub_self,List.getElem?_cons_zero,List.dropLast_concat]
 exact q
theorem aBr {i j:Int}:PyData.eqv (.int i) (.int j)=decide (i=j):=by
 have h:PyData.eqv (.int i) (.int j)=(i == j):=by simp [PyData.eqv]
 rw [h]
 by_cases e:i=j
 ·subst e;simp
 ·simp [e]
theorem u1:qX upL "NothingToUndo" = true:=by decide +kernel
theorem u2:qX ["NothingToUndo"] "NothingToUndo" = true:=by decide +kernel
theorem u3:qX ["Blocked"] "NothingToUndo" = false:=by decide +kernel
theorem u4:qX upL "Blocked" = true:=by decide +kernel
theorem u5:qX ["Blocked"] "Blocked" = true:=by decide +kernel
theorem u6:qX ["NothingToUndo"] "Blocked" = false:=by decide +kernel
def lg:bU:=fun os Q => ∃ R ys us m hs,os=[flO R ys us (moH (m :: hs)), .lst (zq (m :: hs))]∧hs.length≤100∧(hs=[]->Q (.pure (.bool true)) [flO R ys us (moH [m]), .lst (zq [m])])∧(hs≠[]->Q (.pure (.bool true)) [flO R ys us (moH hs), .lst (zq hs)])
def o9:ST:=(eO (jT 2 (XD iI 0 "Fleet" (fun Ea=>(vD "Fleet" "undo" [] o8 Ea (aF 0) aH))))
 (eO (sIf (mV (bF gEq (aq rF (aD (aF 1) aH)) (bJ (.int 1)))) (j6 (fun j=>[true,true].getD j false) (jM (YH (qX ["NothingToUndo"]) (aF 2)) (km (YH (qX ["Blocked"]) (aF 2))))) gD)
 (eO (eY (tPop 1))
 (j6 (fun j=>[true,true].getD j false) (bF gIs (aF 2) (bJ .none))))))
theorem Gx (os:List O) (Qa:O->List O->Prop) (_:os.length=2) (h:lg os Qa):o9 (aP [true,true] Qa) (aK 3 os):=by
 obtain ⟨R,ys,us,m,hs,rfl,hl,h1,h2⟩:=h
 unfold o9
 generalize hT:eO (sIf _ _ _) _=K
 generalize hD:aP [true,true] Qa=D
 generalize hq:zq (m :: hs)=rl
 have el:rl.length=hs.length+1:=by rw [← hq,Vo,List.length_cons]
 unfold flO
 (try sizeOf_list_dec)
 refine Yb ?_
 ((try sizeOf_list_dec);repeat (simp only [iI,wY,vws,vwE,ZX,vD,Hu,Gk,xF.eq_1,Option.map_some,Option.map_none];(try sizeOf_list_dec)))
 refine ⟨rfl,R,ys,us,m,hs,rfl,fun e=>⟨_,rfl, ?_⟩,fun e=>⟨_,rfl,_,rfl,rfl, ?_⟩⟩
 ·rw [if_pos u1]
  refine ⟨rfl,rfl,rfl, ?_⟩
  rw [← hT]
  have h1:=h1 e
  subst e
  rw [hq] at h1
  generalize moH [m]=mm at h1 ⊢
  ((try sizeOf_list_dec);repeat (simp only [YH,u2,u3];(try sizeOf_list_dec)))
  refine ⟨by simp [jN],by simp [PyData.depth], ?_⟩
  rw [aBr,el,if_pos (by simp)]
  rw [← hD]
  exact h1 rfl
 ·rw [← hT]
  have h2:=h2 e
  generalize moH hs=mm at h2 ⊢
  ((try sizeOf_list_dec);repeat (simp only [YH,u2,u3];(try sizeOf_list_dec)))
  have lh:hs.length≠0:=fun z=>e (List.eq_nil_of_length_eq_zero z)
  refine ⟨by simp [jN],by simp [PyData.depth], ?_⟩
  rw [aBr,el,if_neg (by simp;omega), ← hq,Jm]
  refine aAd (j:=1) (l:=zq hs) (y:=Vm m) rfl ?_
  (try sizeOf_list_dec)
  rw [← hD]
  exact h2
def jL:bU:=fun os Q => ∃ R ys us m hs n s r,os=[flO R ys us (moH (m :: hs)), .pure (oE ys us), .pure (xH R), .lst (zq (m :: hs)), .pure (.str s), .pure (.str r)]∧nU ys us∧Ao R∧Vn R ys n (m :: hs)∧n≤29∧s∈ys∧r∈ns R ∧
 ∀ hs',Vn R ys (n+1) hs'->hs'≠[]->Q (.pure (.bool true)) [flO R ys us (moH hs'), .lst (zq hs')]
def ji:ST:=(eO (jT 6 (aV [false,false,false,false,false] sY (aD (aF 1) (aD (aF 2) (aD (bF gIx (bF gIx (aF 3) (xf v4 (bJ (.int 1)))) (bJ (.int 0))) (aD (aF 4) (aD (aF 5) aH)))))))
 (eO (sIf (mV (bF gNe (aF 6) (cZ aH))) (eO (jT 7 (XD iI 0 "Fleet" (fun Ea=>(vD "Fleet" "replace" [false,false] iH Ea (aF 0) (aD (aF 4) (aD (aF 5) aH))))))
 (j6 (fun j=>[true,false,false,true,false,false].getD j false) (jM (YH (qX ["Blocked"]) (aF 7)) (jM (km (YH (qX ["NothingToUndo"]) (aF 7))) (bF gEq (tXfl "services" (aF 7)) (aF 6)))))) gD)
 (eO (eY (cX 3 (cZ (aD (aV [false,false,false,false] sr (aD (aF 1) (aD (bF gIx (bF gIx (aF 3) (xf v4 (bJ (.int 1)))) (bJ (.int 0))) (aD (aF 4) (aD (aF 5) aH))))) (aD (bF gG (bF gIx (bF gIx (aF 3) (xf v4 (bJ (.int 1)))) (bJ (.int 1))) (cZ (aD (cZ (aD (aF 4) (aD (aF 5) aH))) aH))) aH)))))
 (j6 (fun j=>[true,false,false,true,false,false].getD j false) (bF gIs (vD "Fleet" "replace" [false,false] iH (fun _ _=>False) (aF 0) (aD (aF 4) (aD (aF 5) aH))) (bJ .none))))))
theorem Cr (os:List O) (Qa:O->List O->Prop) (_:os.length=6) (h:jL os Qa):ji (aP [true,false,false,true,false,false] Qa) (aK 8 os):=by
 obtain ⟨R,ys,us,m,hs,n,s,r,rfl,hN,hR,hi,hn,hs',hr,h⟩:=h
 unfold ji
 obtain ⟨ok,lok,ln⟩:=hi.st m List.mem_cons_self
 have hn1:=hi.n
 generalize hD:aP [true,false,false,true,false,false] Qa=D
 generalize hT1:eO (eY _) _=K1
 generalize hT2:eO (jT 7 _) _=K2
 have e1:atI (zq (m :: hs)) (-1)=some (Vm m):=Yo
 generalize hq:zq (m :: hs)=rl at h e1
 unfold flO moH
 generalize hm:moT m.1 m.2 (moH hs)=mm
 ((try sizeOf_list_dec);repeat (simp only [e1,Vm];(try sizeOf_list_dec)))
 refine ⟨R,ys,us,m.1,s,r,rfl,hN,hR,ok,hs',hr, ?_⟩
 (try sizeOf_list_dec)
 have c1:=Vi (R:=R) (xs:=m.1) (s:=s) (r:=r) hN
 have c2:=Vj (R:=R) (xs:=m.1) (s:=s) (r:=r) hN
 have c3:=Vk (R:=R) (xs:=m.1) (s:=s) (r:=r) hN
 generalize hw:M5 R ys m.1 us s r=w at c1 c2 c3
 refine ⟨rfl,c1,Yn,Nat.le_trans (Nat.min_le_left _ _) (Nat.le_trans c3 (by decide)), ?_⟩
 by_cases ew:w=[]
 ·rw [ew,O7 (t := .tuple []) (Ym Vg []),if_neg (by simp), ← hT1]
  subst hm
  generalize hm:moT m.1 m.2 (moH hs)=mm
  ((try sizeOf_list_dec);repeat (simp only [e1,Vm];(try sizeOf_list_dec)))
  refine ⟨ys,us,m.1,s,r,rfl,hN.n2,ok.1,hs', ?_⟩
  ((try sizeOf_list_dec);repeat (simp only [e1,Vm];(try sizeOf_list_dec)))
  refine ⟨by rw [List.length_map];omega,by rw [← hq,Vo];omega, ?_⟩
  unfold vD Hu
  ((try sizeOf_list_dec);repeat (simp only [Gk,xF.eq_1];(try sizeOf_list_dec)))
  subst hm
  refine ⟨rfl,R,ys,us,m.1,m.2,moH hs,s,r,rfl,hN,hR,ok,hs',hr,by omega,fun _ => ?_,fun e=>absurd (hw.trans ew) e⟩
  have h:=h ((M6 ys m.1 (s,r),m.2++[(s,r)]) :: m :: hs) ⟨fun x mx => ?_,by rw [List.length_cons];omega⟩ (List.cons_ne_nil _ _)
  ·rw [Jm,hq] at h
   unfold Vm at h
   rw [List.map_append] at h
   unfold moH moH at h
   generalize hm:moT (M6 ys m.1 (s,r)) (m.2++[(s,r)]) (moT m.1 m.2 (moH hs))=mm at h ⊢
   unfold flO
   (try sizeOf_list_dec)
   rw [← hD]
   exact h
  ·rcases List.mem_cons.mp mx with rfl | mx
   ·refine ⟨aAa ok ⟨hs',hr⟩,fun p mp => ?_,by rw [List.length_append,List.length_singleton];omega⟩
    rcases List.mem_append.mp mp with mp | mp
    ·exact lok p mp
    ·rw [List.mem_singleton.mp mp];exact ⟨hs',hr⟩
   ·obtain ⟨a1,a2,a3⟩:=hi.st x mx
    exact ⟨a1,a2,by omega⟩
 ·rw [Vl ew,if_pos (by simp), ← hT2]
  (try sizeOf_list_dec)
  refine Yb ?_
  ((try sizeOf_list_dec);repeat (simp only [iI,wY,vws,vwE,ZX,vD,Hu,Gk,xF.eq_1,Option.map_some,Option.map_none];(try sizeOf_list_dec)))
  subst hm
  refine ⟨rfl,R,ys,us,m.1,m.2,moH hs,s,r,rfl,hN,hR,ok,hs',hr,by omega,fun e=>absurd (hw.symm.trans e) ew,fun _=>⟨_,rfl, ?_⟩⟩
  rw [hw,if_pos u4]
  refine ⟨rfl,rfl,rfl, ?_⟩
  have h:=h (m :: hs) ⟨fun x mx => ?_,by omega⟩ (List.cons_ne_nil _ _)
  ·unfold moH at h
   generalize hm:moT m.1 m.2 (moH hs)=mm at h ⊢
   ((try sizeOf_list_dec);repeat (simp only [YH,tXfl,u5,u6];(try sizeOf_list_dec)))
   refine ⟨aBj c2 c2,Nat.le_trans (Nat.min_le_left _ _) (Nat.le_trans c3 (by decide)), ?_⟩
   rw [O7 c2, ← hD]
   rw [hq] at h
   exact h
  ·obtain ⟨a1,a2,a3⟩:=hi.st x mx
   exact ⟨a1,a2,by omega⟩
def oK:ST:=(eO (sIf (mV (bF gEq (aV [true,false] au (aD (aF 0) (aD (bJ (.int 5)) aH))) (bJ (.int 0)))) (sIf (wR (mV (aV [true,true] lg (aD (aF 4) (aD (aF 5) aH))))) (j6 (fun j=>[true].getD j false) (bJ (.bool false))) gD) (sIf (wR (mV (aV [true,false,false,true,false,false] jL (aD (aF 4) (aD (aF 1) (aD (aF 2) (aD (aF 5) (aD (aV [true,false] bQ (aD (aF 0) (aD (bF gIx (aF 1) (bJ (.int 0))) aH))) (aD (bF gIx (aV [true,false] bQ (aD (aF 0) (aD (aF 2) aH))) (bJ (.int 0))) aH))))))))) (j6 (fun j=>[true].getD j false) (bJ (.bool false))) gD))
 (sIf (wR (mV (aV [true,false,false,true] jQ (aD (aF 4) (aD (aF 1) (aD (aF 2) (aD (aF 5) aH))))))) (j6 (fun j=>[true].getD j false) (bJ (.bool false))) gD))
def qU:ST:=(eO (Bg (iV 3 (cD (bH 1) (cD (bH 2) (cD (bH 3) iU)))) (aV [true,false] qT (aD (aF 0) (aD (bJ (.int 12)) aH))))
 (eO (uo [4,5] (aD (aB3 "Fleet" [false,false,false] nu (aD (aF 1) (aD (aF 2) (aD (aF 3) aH)))) (aD (gA (aD (cZ (aD (bF ul (cZ (aD (aF 3) aH)) (aq rF (aD (bF gIx (aF 1) (bJ (.int 0))) aH))) (aD (cZ aH) aH))) aH)) aH)))
 (eO (xD (dJ (aD (bJ (.int 30)) aH)) (bH 6) oK)
 (j6 (fun j=>[true].getD j false) (jM (bF gEq (bJ (.int 12)) (bJ (.int 12))) (bF gEq (tICn "Fleet" "MOST_SERVICES" 12 (aF 4)) (bJ (.int 12))))))))
theorem Vn.mono {R:Rows} {ys:List Str} {n k:Nat} {hs:List Mo} (h:Vn R ys n hs) (l:n≤k):Vn R ys k hs:=⟨fun m mm=>let ⟨a,b,c⟩:=h.st m mm;⟨a,b,by omega⟩,by have:=h.n;omega⟩
theorem Xu {n c:Nat} {ds:List T} {R:Rows} {ys:List Str} {us:List (Str×Str)} {s:Str} {hs:List Mo} {x6:Option O} {D:qY} (hn:n≤500000) (hd:Dk n (.lst ds)) (hN:nU ys us) (hR:Ao R) (hi:Vn R ys c hs) (ne:hs≠[]) (hc:c≤29)
  (nx : ∀ ds' hs',Dk (n+10) (.lst ds')->Vn R ys (c+1) hs'->hs'≠[]->D.nx [some (.lst ds'),some (.pure (oE ys us)),some (.pure (xH R)),some (.pure (.str s)),some (flO R ys us (moH hs')),some (.lst (zq hs')),x6]) :
  oK D [some (.lst ds),some (.pure (oE ys us)),some (.pure (xH R)),some (.pure (.str s)),some (flO R ys us (moH hs)),some (.lst (zq hs)),x6]:=by
 have r1:=hR.n1
 have r2:=hR.n2
 have n1:=hN.n1
 have n2:=hN.n2
 cases hs with
 | nil=>exact absurd rfl ne
 | cons m hs =>
 have up:Vn R ys (c+1) (m :: hs):=⟨fun x mx=>let ⟨a1,a2,a3⟩:=hi.st x mx;⟨a1,a2,by omega⟩,by have:=hi.n;omega⟩
 have hn1:=hi.n
 have same : ∀ (ds:List T) (hs' : List Mo),Dk (n+10) (.lst ds)->Vn R ys (c+1) hs'->hs'≠[]->((sIf (wR (mV (aV [true,false,false,true] jQ (aD (aF 4) (aD (aF 1) (aD (aF 2) (aD (aF 5) aH))))))) (j6 (fun j=>[true].getD j false) (bJ (.bool false))) gD)) D [some (.lst ds),some (.pure (oE ys us)),some (.pure (xH R)),some (.pure (.str s)),some (flO R ys us (moH hs')),some (.lst (zq hs')),x6]:=fun ds hs' hd hi' ne'=>by
  obtain ⟨m',hs2,rfl⟩ : ∃ a b,hs'=a :: b:=by
   cases hs' with
   | nil=>exact absurd rfl ne'
   | cons a b=>exact ⟨a,b,rfl⟩
  have q:=nx ds (m' :: hs2) hd hi' ne'
  generalize hm:moH (m' :: hs2)=mm at q
  generalize hr:zq (m' :: hs2)=rl at q
  unfold flO
  (try sizeOf_list_dec)
  subst hm
  subst hr
  refine ⟨R,ys,us,m',hs2,rfl,hN,hR,hi'.mono (by omega), ?_⟩
  generalize hm:moH (m' :: hs2)=mm at q
  generalize hr:zq (m' :: hs2)=rl at q
  unfold flO at q ⊢
  (try sizeOf_list_dec)
  exact q
 unfold oK
 generalize (sIf (wR (mV (aV [true,false,false,true] jQ (aD (aF 4) (aD (aF 1) (aD (aF 2) (aD (aF 5) aH))))))) (j6 (fun j=>[true].getD j false) (bJ (.bool false))) gD)=K at same ⊢
 generalize hm:moH (m :: hs)=mm
 generalize hr:zq (m :: hs)=rl
 unfold flO
 (try sizeOf_list_dec)
 refine ⟨n,_,_,by omega,rfl,hd,by decide,by decide,fun r d' k0 k1 hd' => ?_⟩
 obtain ⟨ds',rfl⟩:=hd'.frz
 (try sizeOf_list_dec)
 refine ⟨by simp [jN],by simp [PyData.depth], ?_⟩
 split
 ·subst hm
  subst hr
  refine ⟨R,ys,us,m,hs,rfl,by simp only [List.length_cons] at hn1;omega,fun e => ?_,fun e => ?_⟩
  ·subst e
   have q:=same ds' [m] (hd'.mono (by omega)) up (List.cons_ne_nil _ _)
   generalize hm:moH [m]=mm at q
   generalize hr:zq [m]=rl at q
   unfold flO at q ⊢
   (try sizeOf_list_dec)
   exact q
  ·have q:=same ds' hs (hd'.mono (by omega)) ⟨fun x mx=>up.st x (List.mem_cons_of_mem _ mx),by simp only [List.length_cons] at hn1;omega⟩ e
   generalize hm:moH hs=mm at q
   generalize hr:zq hs=rl at q
   unfold flO at q ⊢
   (try sizeOf_list_dec)
   exact q
 ·refine Ji ?_
  (try sizeOf_list_dec)
  refine ⟨n+1,_,ys.map PyData.str,by omega,rfl,hd',fun e => ?_,by rw [List.length_map];omega,fun t d' mt hd' => ?_⟩
  ·have:=congrArg List.length e
   rw [List.length_map,List.length_nil] at this
   omega
  obtain ⟨y,hy,rfl⟩:=List.mem_map.mp mt
  obtain ⟨ds',rfl⟩:=hd'.frz
  (try sizeOf_list_dec)
  refine ⟨n+2,_,R.map Mp,by omega,rfl,hd',fun e => ?_,by rw [List.length_map];omega,fun t d' mt hd' => ?_⟩
  ·have:=congrArg List.length e
   rw [List.length_map,List.length_nil] at this
   omega
  obtain ⟨p,hp,rfl⟩:=List.mem_map.mp mt
  obtain ⟨ds',rfl⟩:=hd'.frz
  ((try sizeOf_list_dec);repeat (simp only [Mp];(try sizeOf_list_dec)))
  subst hm
  subst hr
  refine ⟨R,ys,us,m,hs,c,y,p.1,rfl,hN,hR,hi,hc,hy,List.mem_map_of_mem hp,fun hs' hi' ne' => ?_⟩
  have q:=same ds' hs' (hd'.mono (by omega)) hi' ne'
  generalize hm:moH hs'=mm at q
  generalize hr:zq hs'=rl at q
  unfold flO at q ⊢
  (try sizeOf_list_dec)
  exact q
def oA:bU:=fun os Q => ∃ d,os=[d]∧Dk 0 d ∧ ∀ d',Q (.pure (.bool true)) [d']
theorem Jo (os:List O) (Qa:O->List O->Prop) (_:os.length=1) (h:oA os Qa):qU (aP [true] Qa) (aK 7 os):=by
 obtain ⟨d,rfl,hd,h⟩:=h
 obtain ⟨ds,rfl⟩:=hd.frz
 unfold qU
 generalize hT:eO (xD _ _ _) _=K
 generalize hD:aP [true] Qa=D
 (try sizeOf_list_dec)
 refine ⟨0,_,12,by omega,rfl,hd,by omega,by omega,fun ys us R s d' hN hR hs hd' => ?_⟩
 obtain ⟨ds',rfl⟩:=hd'.frz
 ((try sizeOf_list_dec);repeat (simp only [aB3];(try sizeOf_list_dec)))
 have y2:=hN.n2
 refine ⟨rfl,rfl,rfl,R,ys,us,s,rfl,hN,hR,hs,rfl,_,rfl,Ji ?_⟩
 ((try sizeOf_list_dec);repeat (simp only [aB3];(try sizeOf_list_dec)))
 rw [List.length_map]
 have y1:=hN.n1
 refine ⟨by omega,by omega,by omega,by omega,rfl, ?_⟩
 rw [Ve, ← hT]
 generalize hf:flO R ys us (moT (allA ys s) [] .none)=F
 (try sizeOf_list_dec)
 rw [← hf]
 refine ⟨by decide,by decide,WE.vG (fun c ρ => ∃ ds hs x6,Dk (500+10 * c) (.lst ds)∧Vn R ys c hs∧hs≠[]∧ρ=[some (.lst ds),some (.pure (oE ys us)),some (.pure (xH R)),some (.pure (.str s)),some (flO R ys us (moH hs)),some (.lst (zq hs)),x6]) _ _ 0 _ rfl (by omega) (fun c t ρ D' mt hinv n1 _ _ _ => ?_) ⟨ds', [(allA ys s, [])],none,hd',⟨fun m mm => ?_,by simp⟩,List.cons_ne_nil _ _,rfl⟩ fun ρ hinv => ?_⟩
 ·obtain ⟨ds,hs,x6,hd,hi,ne,rfl⟩:=hinv
  obtain ⟨hc,rfl⟩:=WE.Ls mt
  have hc:c<30:=by simpa using hc
  refine ⟨rfl, ?_⟩
  refine Xu (n:=500+10 * c) (by omega) hd hN hR hi ne (by omega) fun ds' hs' hd' hi' ne'=>n1 _ ⟨_,_,_,hd'.mono (by omega),hi',ne',rfl⟩
 ·rw [List.mem_singleton.mp mm]
  exact ⟨⟨List.length_replicate,fun x mx=>by rw [(List.mem_replicate.mp mx).2];exact hs⟩,fun _ m=>(List.not_mem_nil m).elim,by simp⟩
 ·obtain ⟨ds,hs,x6,hd,hi,ne,rfl⟩:=hinv
  generalize hm:moH hs=mm
  unfold flO
  ((try sizeOf_list_dec);repeat (simp only [tICn,Gk,xF.eq_1];(try sizeOf_list_dec)))
  have e12:PyData.eqv (.int 12) (.int 12)=true:=by simp [PyData.eqv]
  rw [e12]
  rw [if_pos rfl]
  refine ⟨by simp [jN],by simp [PyData.depth],rfl,by simp [jN],by simp [PyData.depth], ?_⟩
  rw [← hD]
  exact h _
def Vp:bU:=fun os Q => ∃ ts,os=[.pure (.list ts)]∧(∀ t∈ts, ∃ i:Int,t = .int i)∧Q (.pure (.bool true)) []
def Xv:ST:=(j6 (fun j=>[false].getD j false) (aq (cP fun bs=>bs.all id) (aD (eZ (dJ (aD (aq (gM2 fun i j=>if j>i then j else i) (aD (bJ (.int 1)) (aD (aq (gM2 fun i j=>if j<i then j else i) (aD (bJ (.int 2)) (aD (aq rF (aD (aF 0) aH)) aH))) aH))) aH)) (bH 1) rY (aV [true] oA (aD (aV [false,false] qL (aD (aF 0) (aD (aF 1) aH))) aH)) [1]) aH)))
theorem aBs (os:List O) (Qa:O->List O->Prop) (_:os.length=1) (h:Vp os Qa):Xv (aP [false] Qa) (aK 2 os):=by
 obtain ⟨ts,rfl,hi,h⟩:=h
 unfold Xv
 ((try sizeOf_list_dec);repeat (simp only [eZ];(try sizeOf_list_dec)))
 obtain ⟨m,e,h1,h2⟩ : ∃ m:Int,(if (if (ts.length:Int)<2 then (ts.length:Int) else 2)>1 then (if (ts.length:Int)<2 then (ts.length:Int) else 2) else 1)=m∧1≤m∧m≤2:=⟨_,rfl,by split<;>split<;>omega,by split<;>split<;>omega⟩
 rw [e]
 refine ⟨by omega,by omega,z9 (fun i acc ρ=>(∃ n,acc=List.replicate n (.bool true)) ∧ ∃ x1,ρ=[some (.pure (.list ts)),x1]) m.toNat _ 0 _ _ (by simp [bV]) (fun i t acc ρ ts' Q' mt hik hinv nx => ?_) ⟨⟨0,rfl⟩,none,rfl⟩ fun acc ρ hinv => ?_⟩
 ·obtain ⟨⟨n,rfl⟩,x1,rfl⟩:=hinv
  obtain ⟨j,hj,rfl⟩:=FT mt
  unfold iQ
  (try sizeOf_list_dec)
  refine ⟨rfl,ts,j,rfl,hi,by omega,by omega,fun d hd => ?_⟩
  refine ⟨_,rfl,hd,fun d' => ?_⟩
  exact ⟨trivial,nx _ _ ⟨⟨n+1,by rw [List.replicate_succ']<;>rfl⟩,_,rfl⟩⟩
 ·obtain ⟨⟨n,rfl⟩,x1,rfl⟩:=hinv
  have e1:mW (List.replicate n (PyData.bool true))=some (List.replicate n true):=by
   have:=Ew (fun _=>true) (List.replicate n PyData.none)
   simpa using this
  rw [e1]
  have e2:(List.replicate n true).all id=true:=by simp
  simp only [e2]
  exact h
end WG
namespace WG
open PySem PySem.Spec L2 DL WS WE WC WV
open PyProof.Rows hiding St
variable [Tbs]
def top (i:Nat):Stmt:=PySem.Challenge.pw_gridupgrade_k61_fleets_beside_a_record.main.body.getD i (.Pass ⟨0,0,0,0⟩)
abbrev FnP (K:PySem.W.Frag) (x:Str) (st:Stmt) (f:Addr) (fd:FuncData):Prop:=FunD K x x (defArgs st) (defBody st) (defScope st) [] [] f fd
theorem xR:FnScope ["catalog", "value"] ["catalog", "value"] (defScope (top 11)):=⟨rfl,rfl,rfl,by decide +kernel,rfl,by decide +kernel,by decide +kernel⟩
theorem Gy {P:Program} {w:World} {K:PySem.W.Frag} {mg:Str->Option Value} {base:Heap} {f:Addr} {fd:FuncData} (F:FnP K "has_release" (top 11) f fd)
  (cG:mg "isinstance" = none)
  (SQ:mg "str" = none)
  (jj:mg "dict" = none)
  {spec:bU} (rd : ∀ os Qa,os.length=2->spec os Qa->nZ (aP [false,false] Qa) (aK 2 os)):FnG P w K mg base CX0 (0+1) f fd ["catalog", "value"] (ASp K [false,false] spec):=by
 refine eE (N:=["catalog", "value"]) [false,false] nZ F xR rfl (fun cdv A outer s H E hr B => ?_) rd
 have hr0:=hr.mono (Nat.zero_le _)
 have hu:=hr0.room.un
 have nd:=xR.nd
 exact rW (aR (cU (Hh (Y9 PN (by rfl) cG (by rfl) SQ YD (aC 1)) (Hg (uP (ZP (hu1 hu) false) (aC 1) (du (sJ rfl) (by rfl) jj Io (aA (aC 0) aG)) (by rfl)))))) (by rfl)
theorem uW:FnScope ["catalog", "value"] ["catalog", "value"] (defScope (top 12)):=⟨rfl,rfl,rfl,by decide +kernel,rfl,by decide +kernel,by decide +kernel⟩
theorem Cu {P:Program} {w:World} {K:PySem.W.Frag} {mg:Str->Option Value} {base:Heap} {f:Addr} {fd:FuncData} (F:FnP K "check_release" (top 12) f fd)
  {t8:Addr} {jk:FuncData} (tD:FnG P w K mg base CX0 1 t8 jk ["catalog", "value"] (ASp K [false,false] lX)) (tE:mg "has_release" = some (.ref t8)) (Jp:PySem.W.keepIn K (.ref t8)=true) (tG:Binds K jk ["catalog", "value"] [])
  {Ff:Addr} {oM:FuncData} (tH:Ce K (Tbs.cad "NoRelease") Ff "value") (yH:("NoRelease" : Str)∈Tbs.nms) (yI:FnOk P w K mg base CX0 1 Ff oM ["self", "value"] (Bx K (Tbs.cad "NoRelease") "value")) (yJ:Binds K oM ["self", "value"] []) (yK:mg "NoRelease" = some (.ref (Tbs.cad "NoRelease")))
  {spec:uU} (rd : ∀ os Qa Ea,os.length=2->spec os Qa Ea->jY Ea (Cd Qa) (aK 2 os)):FnG P w K mg base (L2.CX P w) (2+1) f fd ["catalog", "value"] (Mj K [false,false].length spec):=by
 refine UT (N:=["catalog", "value"]) jY F uW (fun cdv A outer s H E hr B Ea tk hp => ?_) rd
 have hr0:=hr.mono (Nat.zero_le _)
 have hu:=hr0.room.un
 have nd:=uW.nd
 exact rW (aR (yo (Hf (Be (ak tD (hr.mono (by omega)) (by rfl) tE Jp tG (aA (aC 0) (aA (aC 1) aG))))) (aR (JW rfl tk tH yH yI (hr.room.mono (by omega)) yJ (by rfl) yK (aA (aC 1) aG))) lE)) (by rfl)
theorem Qx:FnScope ["catalog", "name", "versions", "other", "its", "version"] ["catalog", "name"] (defScope (top 13)):=⟨rfl,rfl,rfl,by decide +kernel,rfl,by decide +kernel,by decide +kernel⟩
theorem Xw {P:Program} {w:World} {K:PySem.W.Frag} {mg:Str->Option Value} {base:Heap} {f:Addr} {fd:FuncData} (F:FnP K "mates" (top 13) f fd)
  (jj:mg "dict" = none)
  (Sd:mg "any" = none)
  {spec:bU} (rd : ∀ os Qa,os.length=2->spec os Qa->Jf (aP [false,false] Qa) (aK 6 os)):FnG P w K mg base CX0 (0+1) f fd ["catalog", "name"] (ASp K [false,false] spec):=by
 refine eE (N:=["catalog", "name", "versions", "other", "its", "version"]) [false,false] Jf F Qx rfl (fun cdv A outer s H E hr B => ?_) rd
 have hr0:=hr.mono (Nat.zero_le _)
 have hu:=hr0.room.un
 have nd:=Qx.nd
 exact rW (aO (gJ 2 nd rfl (Or.inr rfl) (cM (sH (hu1 hu)) (du (sJ rfl) (by rfl) jj Io (aA (aC 0) aG)) (aC 1) (fun _ _=>rfl)))
  (aR (cU (Mv rfl nd (v7 (aC 0)) (blkOk_by (own:=[("other",3),("its",4)]) (by rfl)) (fun _ _ _ _ _=>(Dy (n:=2) rfl (gK (cR 3 nd rfl (by first | exact Or.inl rfl | exact Or.inr rfl)) (gK (cR 4 nd rfl (by first | exact Or.inl rfl | exact Or.inr rfl)) xg)))) (fun _ _ _ _ _=>(Ms (Be (cO (Ka rfl) (by rfl) Sd YB (aA (Mv rfl nd (v7 (aC 4)) (blkOk_by (own:=[("version",5)]) (by rfl)) (fun _ _ _ _ _=>(cR 5 nd rfl (by first | exact Or.inl rfl | exact Or.inr rfl))) (fun _ _ _ _ _=>oG) (fun _ _ _ _ _=>(uP (Tn hu) (aC 5) (aC 2) (by rfl)))) aG))))) (fun _ _ _ _ _=>(aC 3)))))) (by rfl)
theorem xT:FnScope ["network", "value"] ["network", "value"] (defScope (top 19)):=⟨rfl,rfl,rfl,by decide +kernel,rfl,by decide +kernel,by decide +kernel⟩
theorem Gz {P:Program} {w:World} {K:PySem.W.Frag} {mg:Str->Option Value} {base:Heap} {f:Addr} {fd:FuncData} (F:FnP K "has_service" (top 19) f fd)
  (cG:mg "isinstance" = none)
  (SQ:mg "str" = none)
  {spec:bU} (rd : ∀ os Qa,os.length=2->spec os Qa->nj (aP [false,false] Qa) (aK 2 os)):FnG P w K mg base CX0 (0+1) f fd ["network", "value"] (ASp K [false,false] spec):=by
 refine eE (N:=["network", "value"]) [false,false] nj F xT rfl (fun cdv A outer s H E hr B => ?_) rd
 have hr0:=hr.mono (Nat.zero_le _)
 have hu:=hr0.room.un
 have nd:=xT.nd
 exact rW (aR (cU (Hh (Y9 PN (by rfl) cG (by rfl) SQ YD (aC 1)) (Hg (uP (Tn hu) (aC 1) (cM ao (aC 0) aJ (fun _ _=>rfl)) (by rfl)))))) (by rfl)
theorem qW:FnScope ["network", "found", "one", "other", "service", "some"] ["network"] (defScope (top 20)):=⟨rfl,rfl,rfl,by decide +kernel,rfl,by decide +kernel,by decide +kernel⟩
theorem zN {P:Program} {w:World} {K:PySem.W.Frag} {mg:Str->Option Value} {base:Heap} {f:Addr} {fd:FuncData} (F:FnP K "neighbour_table" (top 20) f fd)
  (gM:mg "sorted" = none)
  {spec:bU} (rd : ∀ os Qa,os.length=1->spec os Qa->j7 (aP [false] Qa) (aK 6 os)):FnG P w K mg base CX0 (0+1) f fd ["network"] (ASp K [false] spec):=by
 refine eE (N:=["network", "found", "one", "other", "service", "some"]) [false] j7 F qW rfl (fun cdv A outer s H E hr B => ?_) rd
 have hr0:=hr.mono (Nat.zero_le _)
 have hu:=hr0.room.un
 have nd:=qW.nd
 exact rW (aO (U5 1  rfl nd rfl rfl rfl (v7 (cM ao (aC 0) aJ (fun _ _=>rfl))) (blkOk_by (own:=[("service",4)]) (by rfl)) (fun _ _ _ _ _=>(cR 4 nd rfl (by first | exact Or.inl rfl | exact Or.inr rfl))) (fun _ _ _ _ _=>(aC 4)))
  (aO (EY PassesOwn.never rfl (v7 (cM ao (aC 0) aJ (fun _ _=>rfl))) (Dy (n:=2) rfl (gK (cR 2 nd rfl (Or.inl rfl)) (gK (cR 3 nd rfl (Or.inl rfl)) xg))) (aO (jC (Dd 1 2 3 (hu1 hu) rfl rfl rfl))
  (aR (jC (Dd 1 3 2 (hu1 hu) rfl rfl rfl)))))
  (aR (cU (Ri 1 rfl nd rfl (blkOk_by (own:=[("service",4),("some",5)]) (by rfl)) (fun _ _ _ _ _=>(Dy (n:=2) rfl (gK (cR 4 nd rfl (by first | exact Or.inl rfl | exact Or.inr rfl)) (gK (cR 5 nd rfl (by first | exact Or.inl rfl | exact Or.inr rfl)) xg)))) (fun _ _ _ _ _=>oG) (fun _ _ _ _ _=>(aC 4)) (fun _ _ _ _ _=>(cO (wV hu) (by rfl) gM vC (aA (aC 5) aG)))))))) (by rfl)
theorem uX:FnScope ["network", "value"] ["network", "value"] (defScope (top 21)):=⟨rfl,rfl,rfl,by decide +kernel,rfl,by decide +kernel,by decide +kernel⟩
theorem Cv {P:Program} {w:World} {K:PySem.W.Frag} {mg:Str->Option Value} {base:Heap} {f:Addr} {fd:FuncData} (F:FnP K "check_service" (top 21) f fd)
  {tK:Addr} {jn:FuncData} (tL:FnG P w K mg base CX0 1 tK jn ["network", "value"] (ASp K [false,false] lY)) (tM:mg "has_service" = some (.ref tK)) (Jq:PySem.W.keepIn K (.ref tK)=true) (tO:Binds K jn ["network", "value"] [])
  {Fg:Addr} {oN:FuncData} (tQ:Ce K (Tbs.cad "NoService") Fg "value") (yL:("NoService" : Str)∈Tbs.nms) (yM:FnOk P w K mg base CX0 1 Fg oN ["self", "value"] (Bx K (Tbs.cad "NoService") "value")) (yN:Binds K oN ["self", "value"] []) (yO:mg "NoService" = some (.ref (Tbs.cad "NoService")))
  {spec:uU} (rd : ∀ os Qa Ea,os.length=2->spec os Qa Ea->jZ Ea (Cd Qa) (aK 2 os)):FnG P w K mg base (L2.CX P w) (2+1) f fd ["network", "value"] (Mj K [false,false].length spec):=by
 refine UT (N:=["network", "value"]) jZ F uX (fun cdv A outer s H E hr B Ea tk hp => ?_) rd
 have hr0:=hr.mono (Nat.zero_le _)
 have hu:=hr0.room.un
 have nd:=uX.nd
 exact rW (aR (yo (Hf (Be (ak tL (hr.mono (by omega)) (by rfl) tM Jq tO (aA (aC 0) (aA (aC 1) aG))))) (aR (JW rfl tk tQ yL yM (hr.room.mono (by omega)) yN (by rfl) yO (aA (aC 1) aG))) lE)) (by rfl)
theorem zP:FnScope ["network", "catalog", "state", "service", "release", "running", "fitting", "other"] ["network", "catalog", "state", "service", "release"] (defScope (top 31)):=⟨rfl,rfl,rfl,by decide +kernel,rfl,by decide +kernel,by decide +kernel⟩
theorem Jr {P:Program} {w:World} {K:PySem.W.Frag} {mg:Str->Option Value} {base:Heap} {f:Addr} {fd:FuncData} (F:FnP K "in_the_way" (top 31) f fd)
  (jj:mg "dict" = none)
  (Sh:mg "zip" = none)
  {OD:Addr} {Fj:FuncData} (OJ:FnG P w K mg base CX0 1 OD Fj ["catalog", "name"] (ASp K [false,false] Dr)) (Oa:mg "mates" = some (.ref OD)) (aAe:PySem.W.keepIn K (.ref OD)=true) (Oc:Binds K Fj ["catalog", "name"] [])
  {lK:Addr} {fX:FuncData} (lL:FnG P w K mg base CX0 1 lK fX ["network"] (ASp K [false] fG)) (lM:mg "neighbour_table" = some (.ref lK)) (Ar:PySem.W.keepIn K (.ref lK)=true) (lN:Binds K fX ["network"] [])
  (iJ:mg "tuple" = none)
  {spec:bU} (rd : ∀ os Qa,os.length=5->spec os Qa->qO (aP [false,false,false,false,false] Qa) (aK 8 os)):FnG P w K mg base CX0 (1+1) f fd ["network", "catalog", "state", "service", "release"] (ASp K [false,false,false,false,false] spec):=by
 refine eE (N:=["network", "catalog", "state", "service", "release", "running", "fitting", "other"]) [false,false,false,false,false] qO F zP rfl (fun cdv A outer s H E hr B => ?_) rd
 have hr0:=hr.mono (Nat.zero_le _)
 have hu:=hr0.room.un
 have nd:=zP.nd
 exact rW (aO (Im 5 6 rfl nd rfl rfl (Or.inr rfl) (Or.inr rfl) (aA (Rw rfl (by rfl) jj (by rfl) Sh (aA (cM ao (aC 0) aJ (fun _ _=>rfl)) (aA (aC 2) aG))) (aA (ak OJ (hr.mono (by omega)) (by rfl) Oa aAe Oc (aA (aC 1) (aA (aC 4) aG))) aG)))
  (aR (cU (du (iZ rfl) (by rfl) iJ qH (aA (Mv rfl nd (v7 (cM (sH (hu1 hu)) (ak lL (hr.mono (by omega)) (by rfl) lM Ar lN (aA (aC 0) aG)) (aC 3) (fun _ _=>rfl))) (blkOk_by (own:=[("other",7)]) (by rfl)) (fun _ _ _ _ _=>(cR 7 nd rfl (by first | exact Or.inl rfl | exact Or.inr rfl))) (fun _ _ _ _ _=>(Ms (uQ (Tp hu) (cM (sH (hu1 hu)) (aC 5) (aC 7) (fun _ _=>rfl)) (aC 6) (by rfl)))) (fun _ _ _ _ _=>(aC 7))) aG))))) (by rfl)
theorem Fp:FnScope ["network", "catalog", "state", "service", "release"] ["network", "catalog", "state", "service", "release"] (defScope (top 32)):=⟨rfl,rfl,rfl,by decide +kernel,rfl,by decide +kernel,by decide +kernel⟩
theorem Od {P:Program} {w:World} {K:PySem.W.Frag} {mg:Str->Option Value} {base:Heap} {f:Addr} {fd:FuncData} (F:FnP K "blockers" (top 32) f fd)
  {oO:Addr} {ie:FuncData} (oR:FnG P w K mg base (L2.CX P w) 3 oO ie ["network", "value"] (Mj K [false,false].length jK)) (oU:mg "check_service" = some (.ref oO)) (Fq:PySem.W.keepIn K (.ref oO)=true) (oV:Binds K ie ["network", "value"] [])
  {eG:Addr} {d8:FuncData} (fY:FnG P w K mg base (L2.CX P w) 3 eG d8 ["catalog", "value"] (Mj K [false,false].length eV)) (fZ:mg "check_release" = some (.ref eG)) (oW:PySem.W.keepIn K (.ref eG)=true) (fj:Binds K d8 ["catalog", "value"] [])
  {vK:Addr} {mG:FuncData} (vL:FnG P w K mg base CX0 2 vK mG ["network", "catalog", "state", "service", "release"] (ASp K [false,false,false,false,false] nq)) (vM:mg "in_the_way" = some (.ref vK)) (MF:PySem.W.keepIn K (.ref vK)=true) (vN:Binds K mG ["network", "catalog", "state", "service", "release"] [])
  {spec:uU} (rd : ∀ os Qa Ea,os.length=5->spec os Qa Ea->wu Ea (Cd Qa) (aK 5 os)):FnG P w K mg base (L2.CX P w) (3+1) f fd ["network", "catalog", "state", "service", "release"] (Mj K [false,false,false,false,false].length spec):=by
 refine UT (N:=["network", "catalog", "state", "service", "release"]) wu F Fp (fun cdv A outer s H E hr B Ea tk hp => ?_) rd
 have hr0:=hr.mono (Nat.zero_le _)
 have hu:=hr0.room.un
 have nd:=Fp.nd
 exact rW (aO (jC (Di (fl:=[false,false]) oR (hr.mono (by omega)) (by rfl) oU Fq oV tk (aA (aC 0) (aA (aC 3) aG))))
  (aO (jC (Di (fl:=[false,false]) fY (hr.mono (by omega)) (by rfl) fZ oW fj tk (aA (aC 1) (aA (aC 4) aG))))
  (aR (cU (ak vL (hr.mono (by omega)) (by rfl) vM MF vN (aA (aC 0) (aA (aC 1) (aA (aC 2) (aA (aC 3) (aA (aC 4) aG)))))))))) (by rfl)
theorem Ib:FnScope ["network", "state", "service", "release", "at"] ["network", "state", "service", "release"] (defScope (top 33)):=⟨rfl,rfl,rfl,by decide +kernel,rfl,by decide +kernel,by decide +kernel⟩
theorem Sq {P:Program} {w:World} {K:PySem.W.Frag} {mg:Str->Option Value} {base:Heap} {f:Addr} {fd:FuncData} (F:FnP K "changed" (top 33) f fd)
  {spec:bU} (rd : ∀ os Qa,os.length=4->spec os Qa->zL (aP [false,false,false,false] Qa) (aK 5 os)):FnG P w K mg base CX0 (0+1) f fd ["network", "state", "service", "release"] (ASp K [false,false,false,false] spec):=by
 refine eE (N:=["network", "state", "service", "release", "at"]) [false,false,false,false] zL F Ib rfl (fun cdv A outer s H E hr B => ?_) rd
 have hr0:=hr.mono (Nat.zero_le _)
 have hu:=hr0.room.un
 have nd:=Ib.nd
 exact rW (aO (gJ 4 nd rfl (Or.inl rfl) (Lh (cM ao (aC 0) aJ (fun _ _=>rfl)) (aC 2)))
  (aR (cU (Zi (QV (wU (aC 1) Ac (Ad (aC 4))) (Wy (aC 3) (QV (wU (aC 1) (Ad (bA cC (aC 4) aJ)) Ac) Zh))))))) (by rfl)
theorem MJ:FnScope ["network", "release"] ["network", "release"] (defScope (top 36)):=⟨rfl,rfl,rfl,by decide +kernel,rfl,by decide +kernel,by decide +kernel⟩
theorem Vq {P:Program} {w:World} {K:PySem.W.Frag} {mg:Str->Option Value} {base:Heap} {f:Addr} {fd:FuncData} (F:FnP K "all_at" (top 36) f fd)
  (ig:mg "len" = none)
  {spec:bU} (rd : ∀ os Qa,os.length=2->spec os Qa->Ds (aP [false,false] Qa) (aK 2 os)):FnG P w K mg base CX0 (0+1) f fd ["network", "release"] (ASp K [false,false] spec):=by
 refine eE (N:=["network", "release"]) [false,false] Ds F MJ rfl (fun cdv A outer s H E hr B => ?_) rd
 have hr0:=hr.mono (Nat.zero_le _)
 have hu:=hr0.room.un
 have nd:=MJ.nd
 exact rW (aR (cU (bA jJ (gH (aA (aC 1) aG)) (cO gj (by rfl) ig rJ (aA (cM ao (aC 0) aJ (fun _ _=>rfl)) aG))))) (by rfl)
theorem zQ:FnScope ["self", "network", "catalog", "start"] ["self", "network", "catalog", "start"] (defScope (bW (top 51) 1)):=⟨rfl,rfl,rfl,by decide +kernel,rfl,by decide +kernel,by decide +kernel⟩
theorem Jt {P:Program} {w:World} {K:PySem.W.Frag} {mg:Str->Option Value} {base:Heap} {f:Addr} {fd:FuncData} (F:FunD K "__init__" "Fleet.__init__" (defArgs (bW (top 51) 1)) (defBody (bW (top 51) 1)) (defScope (bW (top 51) 1)) [] [] f fd)
  {eG:Addr} {d8:FuncData} (fY:FnG P w K mg base (L2.CX P w) 3 eG d8 ["catalog", "value"] (Mj K [false,false].length eV)) (fZ:mg "check_release" = some (.ref eG)) (oW:PySem.W.keepIn K (.ref eG)=true) (fj:Binds K d8 ["catalog", "value"] [])
  (aZ:Cls K (Tbs.cad "Fleet"))
  (aQ:NoAttr K (Tbs.cad "Fleet") "network_held")
  (bM:NoAttr K (Tbs.cad "Fleet") "catalog_held")
  {Ju:Addr} {zR:FuncData} (Jv:FnG P w K mg base CX0 1 Ju zR ["network", "release"] (ASp K [false,false] zM)) (Jw:mg "all_at" = some (.ref Ju)) (Xx:PySem.W.keepIn K (.ref Ju)=true) (Jx:Binds K zR ["network", "release"] [])
  (aN:NoAttr K (Tbs.cad "Fleet") "moment")
  {spec:bU} (rd : ∀ os Qa,os.length=4->spec os Qa->qP (aP [true,false,false,false] Qa) (aK 4 os)):FnG P w K mg base CX0 (3+1) f fd ["self", "network", "catalog", "start"] (ASp K [true,false,false,false] spec):=by
 refine eE (N:=["self", "network", "catalog", "start"]) [true,false,false,false] qP F zQ rfl (fun cdv A outer s H E hr B => ?_) rd
 have hr0:=hr.mono (Nat.zero_le _)
 have hu:=hr0.room.un
 have nd:=zQ.nd
 exact rW (aO (jC (Di (fl:=[false,false]) fY (hr.mono (by omega)) (by rfl) fZ oW fj tkNo (aA (aC 2) (aA (aC 3) aG))))
  (aO (Uu 0 aZ aQ (aC 1))
  (aO (Uu 0 aZ bM (aC 2))
  (aR (Uu 0 aZ aN (gH (aA (ak Jv (hr.mono (by omega)) (by rfl) Jw Xx Jx (aA (aC 1) (aA (aC 3) aG))) (aA (gH aG) (aA KR aG))))))))) (by rfl)
theorem uY:FnScope ["self"] ["self"] (defScope (bW (top 51) 3)):=⟨rfl,rfl,rfl,by decide +kernel,rfl,by decide +kernel,by decide +kernel⟩
theorem Cy {P:Program} {w:World} {K:PySem.W.Frag} {mg:Str->Option Value} {base:Heap} {f:Addr} {fd:FuncData} (F:FunD K "__len__" "Fleet.__len__" (defArgs (bW (top 51) 3)) (defBody (bW (top 51) 3)) (defScope (bW (top 51) 3)) [] [] f fd)
  (aZ:Cls K (Tbs.cad "Fleet"))
  (aQ:NoAttr K (Tbs.cad "Fleet") "network_held")
  (ig:mg "len" = none)
  {spec:bU} (rd : ∀ os Qa,os.length=1->spec os Qa->jd (aP [true] Qa) (aK 1 os)):FnG P w K mg base CX0 (0+1) f fd ["self"] (ASp K [true] spec):=by
 refine eE (N:=["self"]) [true] jd F uY rfl (fun cdv A outer s H E hr B => ?_) rd
 have hr0:=hr.mono (Nat.zero_le _)
 have hu:=hr0.room.un
 have nd:=uY.nd
 exact rW (aR (cU (cO gj (by rfl) ig rJ (aA (cM ao (xr 0 aZ aQ) aJ (fun _ _=>rfl)) aG)))) (by rfl)
theorem uZ:FnScope ["self"] ["self"] (defScope (bW (top 51) 4)):=⟨rfl,rfl,rfl,by decide +kernel,rfl,by decide +kernel,by decide +kernel⟩
theorem Cz {P:Program} {w:World} {K:PySem.W.Frag} {mg:Str->Option Value} {base:Heap} {f:Addr} {fd:FuncData} (F:FunD K "network" "Fleet.network" (defArgs (bW (top 51) 4)) (defBody (bW (top 51) 4)) (defScope (bW (top 51) 4)) [] [] f fd)
  (aZ:Cls K (Tbs.cad "Fleet"))
  (aQ:NoAttr K (Tbs.cad "Fleet") "network_held")
  {spec:bU} (rd : ∀ os Qa,os.length=1->spec os Qa->je (aP [true] Qa) (aK 1 os)):FnG P w K mg base CX0 (0+1) f fd ["self"] (ASp K [true] spec):=by
 refine eE (N:=["self"]) [true] je F uZ rfl (fun cdv A outer s H E hr B => ?_) rd
 have hr0:=hr.mono (Nat.zero_le _)
 have hu:=hr0.room.un
 have nd:=uZ.nd
 exact rW (aR (cU (xr 0 aZ aQ))) (by rfl)
theorem ue:FnScope ["self"] ["self"] (defScope (bW (top 51) 5)):=⟨rfl,rfl,rfl,by decide +kernel,rfl,by decide +kernel,by decide +kernel⟩
theorem DG {P:Program} {w:World} {K:PySem.W.Frag} {mg:Str->Option Value} {base:Heap} {f:Addr} {fd:FuncData} (F:FunD K "catalog" "Fleet.catalog" (defArgs (bW (top 51) 5)) (defBody (bW (top 51) 5)) (defScope (bW (top 51) 5)) [] [] f fd)
  (aZ:Cls K (Tbs.cad "Fleet"))
  (bM:NoAttr K (Tbs.cad "Fleet") "catalog_held")
  {spec:bU} (rd : ∀ os Qa,os.length=1->spec os Qa->jf (aP [true] Qa) (aK 1 os)):FnG P w K mg base CX0 (0+1) f fd ["self"] (ASp K [true] spec):=by
 refine eE (N:=["self"]) [true] jf F ue rfl (fun cdv A outer s H E hr B => ?_) rd
 have hr0:=hr.mono (Nat.zero_le _)
 have hu:=hr0.room.un
 have nd:=ue.nd
 exact rW (aR (cU (xr 0 aZ bM))) (by rfl)
theorem xU:FnScope ["self"] ["self"] (defScope (bW (top 51) 6)):=⟨rfl,rfl,rfl,by decide +kernel,rfl,by decide +kernel,by decide +kernel⟩
theorem HD {P:Program} {w:World} {K:PySem.W.Frag} {mg:Str->Option Value} {base:Heap} {f:Addr} {fd:FuncData} (F:FunD K "state" "Fleet.state" (defArgs (bW (top 51) 6)) (defBody (bW (top 51) 6)) (defScope (bW (top 51) 6)) [] [] f fd)
  (aZ:Cls K (Tbs.cad "Fleet"))
  (aN:NoAttr K (Tbs.cad "Fleet") "moment")
  {spec:bU} (rd : ∀ os Qa,os.length=1->spec os Qa->o5 (aP [true] Qa) (aK 1 os)):FnG P w K mg base CX0 (0+1) f fd ["self"] (ASp K [true] spec):=by
 refine eE (N:=["self"]) [true] o5 F xU rfl (fun cdv A outer s H E hr B => ?_) rd
 have hr0:=hr.mono (Nat.zero_le _)
 have hu:=hr0.room.un
 have nd:=xU.nd
 exact rW (aR (cU (cM ao (xr 0 aZ aN) aJ (fun _ _=>rfl)))) (by rfl)
theorem zU:FnScope ["self"] ["self"] (defScope (bW (top 51) 7)):=⟨rfl,rfl,rfl,by decide +kernel,rfl,by decide +kernel,by decide +kernel⟩
theorem Jy {P:Program} {w:World} {K:PySem.W.Frag} {mg:Str->Option Value} {base:Heap} {f:Addr} {fd:FuncData} (F:FunD K "made" "Fleet.made" (defArgs (bW (top 51) 7)) (defBody (bW (top 51) 7)) (defScope (bW (top 51) 7)) [] [] f fd)
  (aZ:Cls K (Tbs.cad "Fleet"))
  (aN:NoAttr K (Tbs.cad "Fleet") "moment")
  (ig:mg "len" = none)
  {spec:bU} (rd : ∀ os Qa,os.length=1->spec os Qa->qQ (aP [true] Qa) (aK 1 os)):FnG P w K mg base CX0 (0+1) f fd ["self"] (ASp K [true] spec):=by
 refine eE (N:=["self"]) [true] qQ F zU rfl (fun cdv A outer s H E hr B => ?_) rd
 have hr0:=hr.mono (Nat.zero_le _)
 have hu:=hr0.room.un
 have nd:=zU.nd
 exact rW (aR (cU (cO gj (by rfl) ig rJ (aA (cM ao (xr 0 aZ aN) aJ (fun _ _=>rfl)) aG)))) (by rfl)
theorem CK:FnScope ["self"] ["self"] (defScope (bW (top 51) 8)):=⟨rfl,rfl,rfl,by decide +kernel,rfl,by decide +kernel,by decide +kernel⟩
theorem MK {P:Program} {w:World} {K:PySem.W.Frag} {mg:Str->Option Value} {base:Heap} {f:Addr} {fd:FuncData} (F:FunD K "log" "Fleet.log" (defArgs (bW (top 51) 8)) (defBody (bW (top 51) 8)) (defScope (bW (top 51) 8)) [] [] f fd)
  (aZ:Cls K (Tbs.cad "Fleet"))
  (aN:NoAttr K (Tbs.cad "Fleet") "moment")
  {spec:bU} (rd : ∀ os Qa,os.length=1->spec os Qa->sW (aP [true] Qa) (aK 1 os)):FnG P w K mg base CX0 (0+1) f fd ["self"] (ASp K [true] spec):=by
 refine eE (N:=["self"]) [true] sW F CK rfl (fun cdv A outer s H E hr B => ?_) rd
 have hr0:=hr.mono (Nat.zero_le _)
 have hu:=hr0.room.un
 have nd:=CK.nd
 exact rW (aR (cU (cM ao (xr 0 aZ aN) aJ (fun _ _=>rfl)))) (by rfl)
theorem xV:FnScope ["self", "present", "replacements"] ["self", "present", "replacements"] (defScope (bW (top 51) 9)):=⟨rfl,rfl,rfl,by decide +kernel,rfl,by decide +kernel,by decide +kernel⟩
theorem HF {P:Program} {w:World} {K:PySem.W.Frag} {mg:Str->Option Value} {base:Heap} {f:Addr} {fd:FuncData} (F:FunD K "store" "Fleet.store" (defArgs (bW (top 51) 9)) (defBody (bW (top 51) 9)) (defScope (bW (top 51) 9)) [] [] f fd)
  (aZ:Cls K (Tbs.cad "Fleet"))
  (aN:NoAttr K (Tbs.cad "Fleet") "moment")
  {spec:bU} (rd : ∀ os Qa,os.length=3->spec os Qa->o7 (aP [true,false,false] Qa) (aK 3 os)):FnG P w K mg base CX0 (0+1) f fd ["self", "present", "replacements"] (ASp K [true,false,false] spec):=by
 refine eE (N:=["self", "present", "replacements"]) [true,false,false] o7 F xV rfl (fun cdv A outer s H E hr B => ?_) rd
 have hr0:=hr.mono (Nat.zero_le _)
 have hu:=hr0.room.un
 have nd:=xV.nd
 exact rW (aR (aB6 (n:=2) 0 aZ aN (gH (aA (aC 1) (aA (bA cC (cM ao (xr 0 aZ aN) aJ (fun _ _=>rfl)) (aC 2)) (aA (xr 0 aZ aN) aG)))))) (by rfl)
theorem jB:FnScope ["self", "service", "release", "found"] ["self", "service", "release"] (defScope (bW (top 51) 10)):=⟨rfl,rfl,rfl,by decide +kernel,rfl,by decide +kernel,by decide +kernel⟩
theorem qD {P:Program} {w:World} {K:PySem.W.Frag} {mg:Str->Option Value} {base:Heap} {f:Addr} {fd:FuncData} (F:FunD K "check_replacement" "Fleet.check_replacement" (defArgs (bW (top 51) 10)) (defBody (bW (top 51) 10)) (defScope (bW (top 51) 10)) [] [] f fd)
  (aZ:Cls K (Tbs.cad "Fleet"))
  (aQ:NoAttr K (Tbs.cad "Fleet") "network_held")
  (bM:NoAttr K (Tbs.cad "Fleet") "catalog_held")
  (aN:NoAttr K (Tbs.cad "Fleet") "moment")
  {Av:Addr} {rM:FuncData} (Ax:FnG P w K mg base (L2.CX P w) 4 Av rM ["network", "catalog", "state", "service", "release"] (Mj K [false,false,false,false,false].length sV)) (Ay:mg "blockers" = some (.ref Av)) (Ss:PySem.W.keepIn K (.ref Av)=true) (Az:Binds K rM ["network", "catalog", "state", "service", "release"] [])
  {MN:Addr} {vO:FuncData} (zV:Ce K (Tbs.cad "Blocked") MN "services") (Ft:("Blocked" : Str)∈Tbs.nms) (Fv:FnOk P w K mg base CX0 1 MN vO ["self", "services"] (Bx K (Tbs.cad "Blocked") "services")) (Fw:Binds K vO ["self", "services"] []) (jo:mg "Blocked" = some (.ref (Tbs.cad "Blocked")))
  {spec:qK} (rd : ∀ os Qa Ea,os.length=2+1->spec os Qa Ea -> ∃ c fs os',os = .ins c fs :: os' ∧ ∀ a,d7 (XF a c Ea) (Ln a c Qa) (aK 4 (.ina a c fs :: os'))):FnG P w K mg base (L2.CX P w) (4+1) f fd ["self", "service", "release"] (Lk K [true,false,false] spec):=by
 refine Uy (N:=["self", "service", "release", "found"]) (n:=2) d7 F jB rfl (fun cdv A outer s H E hr B Ea tk hp => ?_) rd
 have hr0:=hr.mono (Nat.zero_le _)
 have hu:=hr0.room.un
 have nd:=jB.nd
 exact rW (aO (gJ 3 nd rfl (Or.inl rfl) (Di (fl:=[false,false,false,false,false]) Ax (hr.mono (by omega)) (by rfl) Ay Ss Az tk (aA (Hv (xr 0 aZ aQ)) (aA (Hv (xr 0 aZ bM)) (aA (cM ao (Hv (xr 0 aZ aN)) aJ (fun _ _=>rfl)) (aA (aC 1) (aA (aC 2) aG)))))))
  (aR (yo (uQ (PB hu) (aC 3) (gH aG) (nomark _)) (aR (JW rfl tk zV Ft Fv (hr.room.mono (by omega)) Fw (by rfl) jo (aA (aC 3) aG))) lE))) (by rfl)
theorem uf:FnScope ["self", "service", "release"] ["self", "service", "release"] (defScope (bW (top 51) 11)):=⟨rfl,rfl,rfl,by decide +kernel,rfl,by decide +kernel,by decide +kernel⟩
theorem DK {P:Program} {w:World} {K:PySem.W.Frag} {mg:Str->Option Value} {base:Heap} {f:Addr} {fd:FuncData} (F:FunD K "replace" "Fleet.replace" (defArgs (bW (top 51) 11)) (defBody (bW (top 51) 11)) (defScope (bW (top 51) 11)) [] [] f fd)
  {jF:Addr} {cJ:FuncData} (fM:FnG P w K mg base (L2.CX P w) 5 jF cJ ["self", "service", "release"] (Lk K [true,false,false] cY)) (fO:Binds K cJ ["self", "service", "release"] [])
  (aZ:Cls K (Tbs.cad "Fleet"))
  (fP:Meth K (Tbs.cad "Fleet") "check_replacement" jF)
  {zW:Addr} {jr:FuncData} (tR:FnG P w K mg base CX0 1 zW jr ["self", "present", "replacements"] (ASp K [true,false,false] lZ)) (tU:Binds K jr ["self", "present", "replacements"] [])
  (tV:Meth K (Tbs.cad "Fleet") "store" zW)
  (aQ:NoAttr K (Tbs.cad "Fleet") "network_held")
  (aN:NoAttr K (Tbs.cad "Fleet") "moment")
  {Fx:Addr} {vP:FuncData} (Fy:FnG P w K mg base CX0 1 Fx vP ["network", "state", "service", "release"] (ASp K [false,false,false,false] ww)) (G3:mg "changed" = some (.ref Fx)) (Vr:PySem.W.keepIn K (.ref Fx)=true) (G4:Binds K vP ["network", "state", "service", "release"] [])
  {spec:qK} (rd : ∀ os Qa Ea,os.length=2+1->spec os Qa Ea -> ∃ c fs os',os = .ins c fs :: os' ∧ ∀ a,jg (XF a c Ea) (Ln a c Qa) (aK 3 (.ina a c fs :: os'))):FnG P w K mg base (L2.CX P w) (5+1) f fd ["self", "service", "release"] (Lk K [true,false,false] spec):=by
 refine Uy (N:=["self", "service", "release"]) (n:=2) jg F uf rfl (fun cdv A outer s H E hr B Ea tk hp => ?_) rd
 have hr0:=hr.mono (Nat.zero_le _)
 have hu:=hr0.room.un
 have nd:=uf.nd
 exact rW (aO (jC (V2 (j:=0) (fl:=[false,false]) (c := "Fleet") aZ fP fM (hr.mono (by omega)) fO tk (aC 0) (aA (aC 1) (aA (aC 2) aG))))
  (aR (jC (Hv (Zm (fl:=[false,false]) (c := "Fleet") aZ tV tR (hr.mono (by omega)) tU (aC 0) (aA (ak Fy (hr.mono (by omega)) (by rfl) G3 Vr G4 (aA (xr 0 aZ aQ) (aA (cM ao (xr 0 aZ aN) aJ (fun _ _=>rfl)) (aA (aC 1) (aA (aC 2) aG))))) (aA (gH (aA (gH (aA (aC 1) (aA (aC 2) aG))) aG)) aG))))))) (by rfl)
theorem zX:FnScope ["self"] ["self"] (defScope (bW (top 51) 15)):=⟨rfl,rfl,rfl,by decide +kernel,rfl,by decide +kernel,by decide +kernel⟩
theorem Jz {P:Program} {w:World} {K:PySem.W.Frag} {mg:Str->Option Value} {base:Heap} {f:Addr} {fd:FuncData} (F:FunD K "undo" "Fleet.undo" (defArgs (bW (top 51) 15)) (defBody (bW (top 51) 15)) (defScope (bW (top 51) 15)) [] [] f fd)
  (aZ:Cls K (Tbs.cad "Fleet"))
  (aN:NoAttr K (Tbs.cad "Fleet") "moment")
  {vQ:Addr} {il:FuncData} (jt:V3 K (Tbs.cad "NothingToUndo") vQ) (oX:("NothingToUndo" : Str)∈Tbs.nms) (oY:FnOk P w K mg base CX0 1 vQ il ["self"] (Jc K (Tbs.cad "NothingToUndo"))) (oZ:Binds K il ["self"] []) (cV:mg "NothingToUndo" = some (.ref (Tbs.cad "NothingToUndo")))
  {spec:qK} (rd : ∀ os Qa Ea,os.length=0+1->spec os Qa Ea -> ∃ c fs os',os = .ins c fs :: os' ∧ ∀ a,qR (XF a c Ea) (Ln a c Qa) (aK 1 (.ina a c fs :: os'))):FnG P w K mg base (L2.CX P w) (2+1) f fd ["self"] (Lk K [true] spec):=by
 refine Uy (N:=["self"]) (n:=0) qR F zX rfl (fun cdv A outer s H E hr B Ea tk hp => ?_) rd
 have hr0:=hr.mono (Nat.zero_le _)
 have hu:=hr0.room.un
 have nd:=zX.nd
 exact rW (aO (yo (uQ Tq (cM ao (Hv (xr 0 aZ aN)) aJ (fun _ _=>rfl)) KR (nomark _)) (aR (V4 rfl tk jt oX oY (hr.room.mono (by omega)) oZ (by rfl) cV)) lE)
  (aR (Zu (n:=2) 0 aZ aN (cM ao (Hv (xr 0 aZ aN)) aJ (fun _ _=>rfl))))) (by rfl)
theorem CN:FnScope ["_law_script", "_law_k", "_law_cell", "_law_own"] ["_law_script", "_law_k"] (defScope (top 53)):=⟨rfl,rfl,rfl,by decide +kernel,rfl,by decide +kernel,by decide +kernel⟩
theorem MP {P:Program} {w:World} {K:PySem.W.Frag} {mg:Str->Option Value} {base:Heap} {f:Addr} {fd:FuncData} (F:FnP K "_law_deck" (top 53) f fd)
  (ig:mg "len" = none)
  (Xy:mg "abs" = none)
  (aAf:mg "int" = none)
  {spec:bU} (rd : ∀ os Qa,os.length=2->spec os Qa->sU (aP [false,false] Qa) (aK 4 os)):FnG P w K mg base CX0 (0+1) f fd ["_law_script", "_law_k"] (ASp K [false,false] spec):=by
 refine eE (N:=["_law_script", "_law_k", "_law_cell", "_law_own"]) [false,false] sU F CN rfl (fun cdv A outer s H E hr B => ?_) rd
 have hr0:=hr.mono (Nat.zero_le _)
 have hu:=hr0.room.un
 have nd:=CN.nd
 exact rW (aO (gJ 2 nd rfl (Or.inl rfl) (bA cC (bA jJ aJ (aC 1)) aJ))
  (aO (yo (uQ (Y8 hu) (aC 1) (cO gj (by rfl) ig rJ (aA (aC 0) aG)) (nomark _)) (aR (gJ 2 nd rfl (Or.inl rfl) (cM ao (aC 0) (aC 1) (fun _ _=>rfl)))) lE)
  (aO (gJ 3 nd rfl (Or.inl rfl) (bA jJ (bA qb (cO Kc (by rfl) Xy YC (aA (aC 2) aG)) (bA Aa (bA Aa aJ aJ) aJ)) (du Tt (by rfl) aAf aAF (aA (uP aAB (cO Kc (by rfl) Xy YC (aA (aC 2) aG)) (bA Aa aJ aJ) (nomark _)) aG))))
  (aR (cU (qF (aA (aC 3) (aA (bA qb (bA cC (bA cC (bA jJ (bA qb (aC 2) aJ) aJ) (bA jJ (bA jJ aJ (aC 1)) (aC 1))) aJ) aJ) (aA aJ aG))))))))) (by rfl)
theorem CP:FnScope ["_law_deck_here", "_law_many", "_law_digit", "_law_prime", "_law_mixed"] ["_law_deck_here", "_law_many"] (defScope (top 54)):=⟨rfl,rfl,rfl,by decide +kernel,rfl,by decide +kernel,by decide +kernel⟩
theorem MT {P:Program} {w:World} {K:PySem.W.Frag} {mg:Str->Option Value} {base:Heap} {f:Addr} {fd:FuncData} (F:FnP K "_law_draw" (top 54) f fd)
  {spec:bU} (rd : ∀ os Qa,os.length=2->spec os Qa->sS (aP [true,false] Qa) (aK 5 os)):FnG P w K mg base CX0 (0+1) f fd ["_law_deck_here", "_law_many"] (ASp K [true,false] spec):=by
 refine eE (N:=["_law_deck_here", "_law_many", "_law_digit", "_law_prime", "_law_mixed"]) [true,false] sS F CP rfl (fun cdv A outer s H E hr B => ?_) rd
 have hr0:=hr.mono (Nat.zero_le _)
 have hu:=hr0.room.un
 have nd:=CP.nd
 exact rW (aO (yo (uQ Y7 (cM ao (aC 0) aJ (fun _ _=>rfl)) aJ (nomark _)) (aO (gJ 2 nd rfl (Or.inl rfl) (bA qb (cM ao (aC 0) aJ (fun _ _=>rfl)) (aC 1)))
  (aO (Ox 0 rfl (bA P0 (cM ao (aC 0) aJ (fun _ _=>rfl)) (aC 1)) aJ)
  (aR (cU (aC 2))))) lE)
  (aO (Ox 0 rfl (bA cC (cM ao (aC 0) aJ (fun _ _=>rfl)) aJ) aJ)
  (aO (gJ 3 nd rfl (Or.inl rfl) (cM ao (qF (aA aJ (aA aJ (aA aJ (aA aJ (aA aJ aG)))))) (bA qb (cM ao (aC 0) aJ (fun _ _=>rfl)) aJ) (fun _ _=>rfl)))
  (aO (gJ 4 nd rfl (Or.inl rfl) (bA qb (bA Aa (bA cC (bA cC (cM ao (aC 0) aJ (fun _ _=>rfl)) (bA jJ (bA jJ aJ (cM ao (aC 0) aJ (fun _ _=>rfl))) (cM ao (aC 0) aJ (fun _ _=>rfl)))) aJ) aJ) (aC 3)))
  (aR (cU (bA qb (bA P0 (bA qb (bA jJ (aC 4) (bA cC (bA qb (aC 4) aJ) (bA jJ aJ (cM ao (aC 0) aJ (fun _ _=>rfl))))) aJ) aJ) (aC 1)))))))) (by rfl)
theorem G5:FnScope ["_law_deck_here", "_law_items"] ["_law_deck_here", "_law_items"] (defScope (top 55)):=⟨rfl,rfl,rfl,by decide +kernel,rfl,by decide +kernel,by decide +kernel⟩
theorem Oe {P:Program} {w:World} {K:PySem.W.Frag} {mg:Str->Option Value} {base:Heap} {f:Addr} {fd:FuncData} (F:FnP K "_law_any" (top 55) f fd)
  (ig:mg "len" = none)
  {aU:Addr} {az:FuncData} (aW:FnG P w K mg base CX0 1 aU az ["_law_deck_here", "_law_many"] (ASp K [true,false] au)) (aX:mg "_law_draw" = some (.ref aU)) (bL:PySem.W.keepIn K (.ref aU)=true) (aY:Binds K az ["_law_deck_here", "_law_many"] [])
  {spec:bU} (rd : ∀ os Qa,os.length=2->spec os Qa->wZ (aP [true,false] Qa) (aK 2 os)):FnG P w K mg base CX0 (1+1) f fd ["_law_deck_here", "_law_items"] (ASp K [true,false] spec):=by
 refine eE (N:=["_law_deck_here", "_law_items"]) [true,false] wZ F G5 rfl (fun cdv A outer s H E hr B => ?_) rd
 have hr0:=hr.mono (Nat.zero_le _)
 have hu:=hr0.room.un
 have nd:=G5.nd
 exact rW (aR (cU (cM ao (aC 1) (ak aW (hr.mono (by omega)) (by rfl) aX bL aY (aA (aC 0) (aA (cO gj (by rfl) ig rJ (aA (aC 1) aG)) aG))) (fun _ _=>rfl)))) (by rfl)
theorem xW:FnScope ["_law_deck_here", "_law_items", "_law_left", "_law_found"] ["_law_deck_here", "_law_items"] (defScope (top 56)):=⟨rfl,rfl,rfl,by decide +kernel,rfl,by decide +kernel,by decide +kernel⟩
theorem HH {P:Program} {w:World} {K:PySem.W.Frag} {mg:Str->Option Value} {base:Heap} {f:Addr} {fd:FuncData} (F:FnP K "_law_turned" (top 56) f fd)
  (zY:mg "list" = none)
  (ig:mg "len" = none)
  {aU:Addr} {az:FuncData} (aW:FnG P w K mg base CX0 1 aU az ["_law_deck_here", "_law_many"] (ASp K [true,false] au)) (aX:mg "_law_draw" = some (.ref aU)) (bL:PySem.W.keepIn K (.ref aU)=true) (aY:Binds K az ["_law_deck_here", "_law_many"] [])
  {spec:bU} (rd : ∀ os Qa,os.length=2->spec os Qa->nR (aP [true,false] Qa) (aK 4 os)):FnG P w K mg base CX0 (1+1) f fd ["_law_deck_here", "_law_items"] (ASp K [true,false] spec):=by
 refine eE (N:=["_law_deck_here", "_law_items", "_law_left", "_law_found"]) [true,false] nR F xW rfl (fun cdv A outer s H E hr B => ?_) rd
 have hr0:=hr.mono (Nat.zero_le _)
 have hu:=hr0.room.un
 have nd:=xW.nd
 exact rW (aO (N5 2 3 rfl nd rfl rfl rfl rfl (aA (du (Hj rfl) (by rfl) zY Tw (aA (aC 1) aG)) (aA (qF aG) aG)) rfl)
  (aO (W4 PassesOwn.never (uQ (PB hu) (aC 2) (qF aG) (nomark _)) (aR (jC (v9 3 rfl (WF 2 rfl (ak aW (hr.mono (by omega)) (by rfl) aX bL aY (aA (aC 0) (aA (cO gj (by rfl) ig rJ (aA (aC 2) aG)) aG))))))))
  (aR (cU (aC 3))))) (by rfl)
theorem za:FnScope ["_law_deck_here", "_law_many", "_law_stem", "_law_first", "_law_letters", "_law_at"] ["_law_deck_here", "_law_many"] (defScope (top 57)):=⟨rfl,rfl,rfl,by decide +kernel,rfl,by decide +kernel,by decide +kernel⟩
theorem K6 {P:Program} {w:World} {K:PySem.W.Frag} {mg:Str->Option Value} {base:Heap} {f:Addr} {fd:FuncData} (F:FnP K "_law_names" (top 57) f fd)
  {bR:Addr} {bZ:FuncData} (bh:FnG P w K mg base CX0 2 bR bZ ["_law_deck_here", "_law_items"] (ASp K [true,false] bQ)) (bj:mg "_law_any" = some (.ref bR)) (di:PySem.W.keepIn K (.ref bR)=true) (bu:Binds K bZ ["_law_deck_here", "_law_items"] [])
  {aU:Addr} {az:FuncData} (aW:FnG P w K mg base CX0 1 aU az ["_law_deck_here", "_law_many"] (ASp K [true,false] au)) (aX:mg "_law_draw" = some (.ref aU)) (bL:PySem.W.keepIn K (.ref aU)=true) (aY:Binds K az ["_law_deck_here", "_law_many"] [])
  (gQ:mg "range" = none)
  (gM:mg "sorted" = none)
  {spec:bU} (rd : ∀ os Qa,os.length=2->spec os Qa->qM (aP [true,false] Qa) (aK 6 os)):FnG P w K mg base CX0 (2+1) f fd ["_law_deck_here", "_law_many"] (ASp K [true,false] spec):=by
 refine eE (N:=["_law_deck_here", "_law_many", "_law_stem", "_law_first", "_law_letters", "_law_at"]) [true,false] qM F za rfl (fun cdv A outer s H E hr B => ?_) rd
 have hr0:=hr.mono (Nat.zero_le _)
 have hu:=hr0.room.un
 have nd:=za.nd
 exact rW (aO (Im 2 3 rfl nd rfl rfl (Or.inr rfl) (Or.inr rfl) (aA (ak bh (hr.mono (by omega)) (by rfl) bj di bu (aA (aC 0) (aA (qF (aA HY (aA HY (aA HY (aA HY (aA HY aG)))))) aG))) (aA (ak aW (hr.mono (by omega)) (by rfl) aX bL aY (aA (aC 0) (aA aJ aG))) aG)))
  (aO (gJ 4 nd rfl (Or.inr rfl) HY)
  (aR (cU (cO (wV hu) (by rfl) gM vC (aA (Mv rfl nd (rH (by rfl) gQ (aA (aC 1) aG)) (blkOk_by (own:=[("_law_at",5)]) (by rfl)) (fun _ _ _ _ _=>(cR 5 nd rfl (by first | exact Or.inl rfl | exact Or.inr rfl))) (fun _ _ _ _ _=>oG) (fun _ _ _ _ _=>(bA cC (aC 2) (cM ao (aC 4) (bA qb (bA cC (aC 3) (bA jJ aJ (aC 5))) aJ) (fun _ _=>rfl))))) aG)))))) (by rfl)
theorem zb:FnScope ["_law_deck_here", "_law_steps", "_law_more", "_law_names_here", "_law_base", "_law_at", "_law_rows", "_law_near", "_law_some"] ["_law_deck_here", "_law_steps", "_law_more"] (defScope (top 58)):=⟨rfl,rfl,rfl,by decide +kernel,rfl,by decide +kernel,by decide +kernel⟩
theorem K7 {P:Program} {w:World} {K:PySem.W.Frag} {mg:Str->Option Value} {base:Heap} {f:Addr} {fd:FuncData} (F:FnP K "_law_chain" (top 58) f fd)
  {d9:Addr} {dC:FuncData} (fH:FnG P w K mg base CX0 3 d9 dC ["_law_deck_here", "_law_many"] (ASp K [true,false] fD)) (fJ:mg "_law_names" = some (.ref d9)) (mH:PySem.W.keepIn K (.ref d9)=true) (fK:Binds K dC ["_law_deck_here", "_law_many"] [])
  {tW:Addr} {ju:FuncData} (tX:FnG P w K mg base CX0 2 tW ju ["_law_deck_here", "_law_items"] (ASp K [true,false] lQ)) (tY:mg "_law_turned" = some (.ref tW)) (K8:PySem.W.keepIn K (.ref tW)=true) (tZ:Binds K ju ["_law_deck_here", "_law_items"] [])
  {bR:Addr} {bZ:FuncData} (bh:FnG P w K mg base CX0 2 bR bZ ["_law_deck_here", "_law_items"] (ASp K [true,false] bQ)) (bj:mg "_law_any" = some (.ref bR)) (di:PySem.W.keepIn K (.ref bR)=true) (bu:Binds K bZ ["_law_deck_here", "_law_items"] [])
  (gQ:mg "range" = none)
  {aU:Addr} {az:FuncData} (aW:FnG P w K mg base CX0 1 aU az ["_law_deck_here", "_law_many"] (ASp K [true,false] au)) (aX:mg "_law_draw" = some (.ref aU)) (bL:PySem.W.keepIn K (.ref aU)=true) (aY:Binds K az ["_law_deck_here", "_law_many"] [])
  (gM:mg "sorted" = none)
  (iJ:mg "tuple" = none)
  {spec:bU} (rd : ∀ os Qa,os.length=3->spec os Qa->qN (aP [true,false,false] Qa) (aK 9 os)):FnG P w K mg base CX0 (3+1) f fd ["_law_deck_here", "_law_steps", "_law_more"] (ASp K [true,false,false] spec):=by
 refine eE (N:=["_law_deck_here", "_law_steps", "_law_more", "_law_names_here", "_law_base", "_law_at", "_law_rows", "_law_near", "_law_some"]) [true,false,false] qN F zb rfl (fun cdv A outer s H E hr B => ?_) rd
 have hr0:=hr.mono (Nat.zero_le _)
 have hu:=hr0.room.un
 have nd:=zb.nd
 exact rW (aO (gJ 3 nd rfl (Or.inr rfl) (ak tX (hr.mono (by omega)) (by rfl) tY K8 tZ (aA (aC 0) (aA (ak fH (hr.mono (by omega)) (by rfl) fJ mH fK (aA (aC 0) (aA (bA cC (bA cC (aC 1) aJ) (aC 2)) aG))) aG))))
  (aO (gJ 4 nd rfl (Or.inr rfl) (ak bh (hr.mono (by omega)) (by rfl) bj di bu (aA (aC 0) (aA (qF (aA aJ (aA aJ (aA (bA Z8 (bA Aa aJ aJ) aJ) aG)))) aG))))
  (aO (Ig 6  rfl nd rfl rfl rfl (rH (by rfl) gQ (aA (bA cC (aC 1) aJ) aG)) (blkOk_by (own:=[("_law_at",5)]) (by rfl)) (fun _ _ _ _ _=>(cR 5 nd rfl (by first | exact Or.inl rfl | exact Or.inr rfl))) (fun _ _ _ _ _=>oG) (fun _ _ _ _ _=>(gH (aA (cM ao (aC 3) (aC 5) (fun _ _=>rfl)) (aA (gH (aA (bA cC (aC 4) (aC 5)) (aA (bA cC (bA cC (aC 4) (aC 5)) aJ) aG))) aG)))))
  (aO (EY PassesOwn.never rfl (rH (by rfl) gQ (aA (aC 2) aG)) (cR 5 nd rfl (Or.inl rfl)) (aO (gJ 7 nd rfl (Or.inl rfl) (cM ao (cM ao (aC 6) (ak aW (hr.mono (by omega)) (by rfl) aX bL aY (aA (aC 0) (aA (bA cC (aC 1) aJ) aG))) (fun _ _=>rfl)) aJ (fun _ _=>rfl)))
  (aO (gJ 8 nd rfl (Or.inl rfl) (qF (aA (aC 7) (aA (wU (aC 7) Ac (Ad aJ)) (aA (gH (aA (bA cC (bA cC (aC 4) aJ) (aC 5)) aG)) (aA (bA cC (aC 7) (gH (aA (bA cC (bA cC (aC 4) aJ) (aC 5)) aG))) aG))))))
  (aR (jC (v9 6 rfl (gH (aA (cM ao (aC 3) (bA cC (bA cC (aC 1) aJ) (aC 5)) (fun _ _=>rfl)) (aA (ak bh (hr.mono (by omega)) (by rfl) bj di bu (aA (aC 0) (aA (aC 8) aG))) aG)))))))))
  (aR (cU (gH (aA (du (iZ rfl) (by rfl) iJ qH (aA (cO (wV hu) (by rfl) gM vC (aA (aC 6) aG)) aG)) (aA (du (iZ rfl) (by rfl) iJ qH (aA (wU (aC 3) Ac (Ad (bA cC (aC 1) aJ))) aG)) aG))))))))) (by rfl)
theorem vR:FnScope ["_law_deck_here", "_law_many", "_law_found", "_law_most", "_law_name", "_law_versions", "_law_turn"] ["_law_deck_here", "_law_many"] (defScope (top 59)):=⟨rfl,rfl,rfl,by decide +kernel,rfl,by decide +kernel,by decide +kernel⟩
theorem G6 {P:Program} {w:World} {K:PySem.W.Frag} {mg:Str->Option Value} {base:Heap} {f:Addr} {fd:FuncData} (F:FnP K "_law_catalog" (top 59) f fd)
  {bR:Addr} {bZ:FuncData} (bh:FnG P w K mg base CX0 2 bR bZ ["_law_deck_here", "_law_items"] (ASp K [true,false] bQ)) (bj:mg "_law_any" = some (.ref bR)) (di:PySem.W.keepIn K (.ref bR)=true) (bu:Binds K bZ ["_law_deck_here", "_law_items"] [])
  {d9:Addr} {dC:FuncData} (fH:FnG P w K mg base CX0 3 d9 dC ["_law_deck_here", "_law_many"] (ASp K [true,false] fD)) (fJ:mg "_law_names" = some (.ref d9)) (mH:PySem.W.keepIn K (.ref d9)=true) (fK:Binds K dC ["_law_deck_here", "_law_many"] [])
  {aU:Addr} {az:FuncData} (aW:FnG P w K mg base CX0 1 aU az ["_law_deck_here", "_law_many"] (ASp K [true,false] au)) (aX:mg "_law_draw" = some (.ref aU)) (bL:PySem.W.keepIn K (.ref aU)=true) (aY:Binds K az ["_law_deck_here", "_law_many"] [])
  (gQ:mg "range" = none)
  (gM:mg "sorted" = none)
  (aAg:mg "set" = none)
  (iJ:mg "tuple" = none)
  {spec:bU} (rd : ∀ os Qa,os.length=2->spec os Qa->lW (aP [true,false] Qa) (aK 7 os)):FnG P w K mg base CX0 (3+1) f fd ["_law_deck_here", "_law_many"] (ASp K [true,false] spec):=by
 refine eE (N:=["_law_deck_here", "_law_many", "_law_found", "_law_most", "_law_name", "_law_versions", "_law_turn"]) [true,false] lW F vR rfl (fun cdv A outer s H E hr B => ?_) rd
 have hr0:=hr.mono (Nat.zero_le _)
 have hu:=hr0.room.un
 have nd:=vR.nd
 exact rW (aO (Im 2 3 rfl nd rfl rfl (Or.inl rfl) (Or.inr rfl) (aA (qF aG) (aA (ak bh (hr.mono (by omega)) (by rfl) bj di bu (aA (aC 0) (aA (qF (aA aJ (aA aJ (aA aJ (aA (bA Aa aJ aJ) aG))))) aG))) aG)))
  (aO (EY PassesOwn.never rfl (v7 (ak fH (hr.mono (by omega)) (by rfl) fJ mH fK (aA (aC 0) (aA (aC 1) aG)))) (cR 4 nd rfl (Or.inl rfl)) (aO (Ig 5  rfl nd rfl rfl rfl (rH (by rfl) gQ (aA (bA cC aJ (ak aW (hr.mono (by omega)) (by rfl) aX bL aY (aA (aC 0) (aA aJ aG)))) aG)) (blkOk_by (own:=[("_law_turn",6)]) (by rfl)) (fun _ _ _ _ _=>(cR 6 nd rfl (by first | exact Or.inl rfl | exact Or.inr rfl))) (fun _ _ _ _ _=>oG) (fun _ _ _ _ _=>(ak aW (hr.mono (by omega)) (by rfl) aX bL aY (aA (aC 0) (aA (aC 3) aG)))))
  (aR (jC (v9 2 rfl (gH (aA (aC 4) (aA (du (iZ rfl) (by rfl) iJ qH (aA (Rf rfl (by rfl) gM (by rfl) aAg vC aAG (aA (aC 5) aG)) aG)) aG))))))))
  (aR (cU (du (iZ rfl) (by rfl) iJ qH (aA (aC 2) aG)))))) (by rfl)
theorem vU:FnScope ["_law_deck_here", "_law_many", "_law_is_sided", "_law_services", "_law_talks", "_law_share", "_law_side", "_law_at", "_law_one", "_law_to", "_law_is_wanted", "_law_service"] ["_law_deck_here", "_law_many", "_law_is_sided"] (defScope (top 60)):=⟨rfl,rfl,rfl,by decide +kernel,rfl,by decide +kernel,by decide +kernel⟩
theorem G7 {P:Program} {w:World} {K:PySem.W.Frag} {mg:Str->Option Value} {base:Heap} {f:Addr} {fd:FuncData} (F:FnP K "_law_network" (top 60) f fd)
  {d9:Addr} {dC:FuncData} (fH:FnG P w K mg base CX0 3 d9 dC ["_law_deck_here", "_law_many"] (ASp K [true,false] fD)) (fJ:mg "_law_names" = some (.ref d9)) (mH:PySem.W.keepIn K (.ref d9)=true) (fK:Binds K dC ["_law_deck_here", "_law_many"] [])
  {bR:Addr} {bZ:FuncData} (bh:FnG P w K mg base CX0 2 bR bZ ["_law_deck_here", "_law_items"] (ASp K [true,false] bQ)) (bj:mg "_law_any" = some (.ref bR)) (di:PySem.W.keepIn K (.ref bR)=true) (bu:Binds K bZ ["_law_deck_here", "_law_items"] [])
  {aU:Addr} {az:FuncData} (aW:FnG P w K mg base CX0 1 aU az ["_law_deck_here", "_law_many"] (ASp K [true,false] au)) (aX:mg "_law_draw" = some (.ref aU)) (bL:PySem.W.keepIn K (.ref aU)=true) (aY:Binds K az ["_law_deck_here", "_law_many"] [])
  (yP:mg "enumerate" = none)
  (gQ:mg "range" = none)
  (ig:mg "len" = none)
  (iJ:mg "tuple" = none)
  {spec:bU} (rd : ∀ os Qa,os.length=3->spec os Qa->lU (aP [true,false,false] Qa) (aK 12 os)):FnG P w K mg base CX0 (3+1) f fd ["_law_deck_here", "_law_many", "_law_is_sided"] (ASp K [true,false,false] spec):=by
 refine eE (N:=["_law_deck_here", "_law_many", "_law_is_sided", "_law_services", "_law_talks", "_law_share", "_law_side", "_law_at", "_law_one", "_law_to", "_law_is_wanted", "_law_service"]) [true,false,false] lU F vU rfl (fun cdv A outer s H E hr B => ?_) rd
 have hr0:=hr.mono (Nat.zero_le _)
 have hu:=hr0.room.un
 have nd:=vU.nd
 exact rW (aO (Z6 3 4 5 rfl nd rfl rfl rfl rfl rfl rfl (aA (ak fH (hr.mono (by omega)) (by rfl) fJ mH fK (aA (aC 0) (aA (aC 1) aG))) (aA (qF aG) (aA (ak bh (hr.mono (by omega)) (by rfl) bj di bu (aA (aC 0) (aA (qF (aA aJ (aA aJ (aA aJ (aA aJ aG))))) aG))) aG))) rfl)
  (aO (Ig 6  rfl nd rfl rfl rfl (v7 (aC 3)) (blkOk_by (own:=[("_law_service",11)]) (by rfl)) (fun _ _ _ _ _=>(cR 11 nd rfl (by first | exact Or.inl rfl | exact Or.inr rfl))) (fun _ _ _ _ _=>oG) (fun _ _ _ _ _=>(ak aW (hr.mono (by omega)) (by rfl) aX bL aY (aA (aC 0) (aA aJ aG)))))
  (aO (EY PassesOwn.never rfl (Z5 (by rfl) yP (aA (aC 3) aG)) (Dy (n:=2) rfl (gK (cR 7 nd rfl (Or.inl rfl)) (gK (cR 8 nd rfl (Or.inl rfl)) xg))) (aR (EY PassesOwn.never rfl (Tc (by rfl) gQ (aA (bA cC (aC 7) aJ) (aA (aC 1) aG))) (cR 9 nd rfl (Or.inl rfl)) (aO (gJ 10 nd rfl (Or.inl rfl) (ex_or (T9 (aC 2)) (Hg (uP (PB hu) (cM ao (aC 6) (aC 7) (fun _ _=>rfl)) (cM ao (aC 6) (aC 9) (fun _ _=>rfl)) (nomark _)))))
  (aR (yo (Y4 (Be (aC 10)) (Y4 (uQ (Y8 hu) (cO gj (by rfl) ig rJ (aA (aC 4) aG)) aJ (nomark _)) (Yy (uQ (El hu) (ak aW (hr.mono (by omega)) (by rfl) aX bL aY (aA (aC 0) (aA (aC 5) aG))) aJ (nomark _))))).tx (aR (jC (v9 4 rfl (gH (aA (aC 8) (aA (cM ao (aC 3) (aC 9) (fun _ _=>rfl)) aG)))))) lE))))))
  (aR (cU (gH (aA (du (iZ rfl) (by rfl) iJ qH (aA (aC 3) aG)) (aA (du (iZ rfl) (by rfl) iJ qH (aA (aC 4) aG)) aG)))))))) (by rfl)
theorem xX:FnScope ["_law_catalog_here", "_law_one", "_law_other", "_law_rows", "_law_number"] ["_law_catalog_here", "_law_one", "_law_other"] (defScope (top 61)):=⟨rfl,rfl,rfl,by decide +kernel,rfl,by decide +kernel,by decide +kernel⟩
theorem HJ {P:Program} {w:World} {K:PySem.W.Frag} {mg:Str->Option Value} {base:Heap} {f:Addr} {fd:FuncData} (F:FnP K "_law_shared" (top 61) f fd)
  (zY:mg "list" = none)
  (jj:mg "dict" = none)
  (Sd:mg "any" = none)
  {spec:bU} (rd : ∀ os Qa,os.length=3->spec os Qa->ni (aP [false,false,false] Qa) (aK 5 os)):FnG P w K mg base CX0 (0+1) f fd ["_law_catalog_here", "_law_one", "_law_other"] (ASp K [false,false,false] spec):=by
 refine eE (N:=["_law_catalog_here", "_law_one", "_law_other", "_law_rows", "_law_number"]) [false,false,false] ni F xX rfl (fun cdv A outer s H E hr B => ?_) rd
 have hr0:=hr.mono (Nat.zero_le _)
 have hu:=hr0.room.un
 have nd:=xX.nd
 exact rW (aO (gJ 3 nd rfl (Or.inr rfl) (du (sJ rfl) (by rfl) jj Io (aA (du (Hj rfl) (by rfl) zY Tw (aA (aC 0) aG)) aG)))
  (aR (cU (cO (Ka rfl) (by rfl) Sd YB (aA (Mv rfl nd (v7 (cM (sH (hu1 hu)) (aC 3) (aC 1) (fun _ _=>rfl))) (blkOk_by (own:=[("_law_number",4)]) (by rfl)) (fun _ _ _ _ _=>(cR 4 nd rfl (by first | exact Or.inl rfl | exact Or.inr rfl))) (fun _ _ _ _ _=>oG) (fun _ _ _ _ _=>(uP (Tn hu) (aC 4) (cM (sH (hu1 hu)) (aC 3) (aC 2) (fun _ _=>rfl)) (by rfl)))) aG))))) (by rfl)
theorem xY:FnScope ["_law_network_here", "_law_found", "_law_one", "_law_other", "_law_service", "_law_some"] ["_law_network_here"] (defScope (top 62)):=⟨rfl,rfl,rfl,by decide +kernel,rfl,by decide +kernel,by decide +kernel⟩
theorem HQ {P:Program} {w:World} {K:PySem.W.Frag} {mg:Str->Option Value} {base:Heap} {f:Addr} {fd:FuncData} (F:FnP K "_law_beside" (top 62) f fd)
  (jj:mg "dict" = none)
  (gM:mg "sorted" = none)
  {spec:bU} (rd : ∀ os Qa,os.length=1->spec os Qa->nW (aP [false] Qa) (aK 6 os)):FnG P w K mg base CX0 (0+1) f fd ["_law_network_here"] (ASp K [false] spec):=by
 refine eE (N:=["_law_network_here", "_law_found", "_law_one", "_law_other", "_law_service", "_law_some"]) [false] nW F xY rfl (fun cdv A outer s H E hr B => ?_) rd
 have hr0:=hr.mono (Nat.zero_le _)
 have hu:=hr0.room.un
 have nd:=xY.nd
 exact rW (aO (gJ 1 nd rfl (Or.inl rfl) (Wf rfl nd (by rfl) jj (by rfl) (v7 (cM ao (aC 0) aJ (fun _ _=>rfl))) (blkOk_by (own:=[("_law_service",4)]) (by rfl)) (fun _ _ _ _ _=>(cR 4 nd rfl (by first | exact Or.inl rfl | exact Or.inr rfl))) (fun _ _ _ _ _=>(aC 4))))
  (aO (EY PassesOwn.never rfl (v7 (cM ao (aC 0) aJ (fun _ _=>rfl))) (Dy (n:=2) rfl (gK (cR 2 nd rfl (Or.inl rfl)) (gK (cR 3 nd rfl (Or.inl rfl)) xg))) (aO (jC (Dd 1 2 3 (hu1 hu) rfl rfl rfl))
  (aR (jC (Dd 1 3 2 (hu1 hu) rfl rfl rfl)))))
  (aR (cU (du (sJ rfl) (by rfl) jj Io (aA (Rh 1 rfl nd rfl (blkOk_by (own:=[("_law_service",4),("_law_some",5)]) (by rfl)) (fun _ _ _ _ _=>(Dy (n:=2) rfl (gK (cR 4 nd rfl (by first | exact Or.inl rfl | exact Or.inr rfl)) (gK (cR 5 nd rfl (by first | exact Or.inl rfl | exact Or.inr rfl)) xg)))) (fun _ _ _ _ _=>oG) (fun _ _ _ _ _=>(gH (aA (aC 4) (aA (cO (wV hu) (by rfl) gM vC (aA (aC 5) aG)) aG))))) aG)))))) (by rfl)
theorem qd:FnScope ["_law_ask", "_law_caught_here", "error"] ["_law_ask"] (defScope (top 63)):=⟨rfl,rfl,rfl,by decide +kernel,rfl,by decide +kernel,by decide +kernel⟩
theorem jw {P:Program} {w:World} {K:PySem.W.Frag} {mg:Str->Option Value} {base:Heap}
  (fQ:mg "UpgradeError" = some (.ref (Tbs.cad "UpgradeError")))
  (qj : ∀ m∈Tbs.nms,PySem.W.exmOne K (.ref (Tbs.cad m)) (.ref (Tbs.cad "UpgradeError"))=some (qX ["NoRelease", "NoService", "Unreachable", "NotTwoSided", "Blocked", "Mixed", "NothingToUndo"] m))
  : Qe P w K mg base ["_law_ask", "_law_caught_here", "error"] "_law_caught" (defScope (top 63)) "_law_ask" (defBody (top 63)) jh:=by
 intro g cdv A outer s H k j c spec act B
 have nd:=qd.nd
 exact rW (aO (gJ 1 nd rfl (Or.inl rfl) KR)
  (aO (aAR (i:=2) (isC:=(qX ["NoRelease", "NoService", "Unreachable", "NotTwoSided", "Blocked", "Mixed", "NothingToUndo"])) (tb:=fun Eb=>(eY (XC k j c spec Eb))) rfl rfl rfl nd rfl rfl ⟨(by rfl),(by decide), .inl fQ⟩ tkNo (fun _=>rfl) qj (fun B pn xe Eb tkT hpT=>(aR (jC (act _ _ _ _ _ _ tkT)))) (fun a pn=>(aR (gJ 1 nd rfl (Or.inl rfl) (aC 2)))))
  (aR (cU (aC 1))))) (by rfl)
theorem CQ:FnScope ["_law_deck_here", "_law_most", "_law_net", "_law_rows"] ["_law_deck_here", "_law_most"] (defScope (top 64)):=⟨rfl,rfl,rfl,by decide +kernel,rfl,by decide +kernel,by decide +kernel⟩
theorem Ma {P:Program} {w:World} {K:PySem.W.Frag} {mg:Str->Option Value} {base:Heap} {f:Addr} {fd:FuncData} (F:FnP K "_law_case" (top 64) f fd)
  {aU:Addr} {az:FuncData} (aW:FnG P w K mg base CX0 1 aU az ["_law_deck_here", "_law_many"] (ASp K [true,false] au)) (aX:mg "_law_draw" = some (.ref aU)) (bL:PySem.W.keepIn K (.ref aU)=true) (aY:Binds K az ["_law_deck_here", "_law_many"] [])
  {ql:Addr} {jG:FuncData} (qm:FnG P w K mg base CX0 4 ql jG ["_law_deck_here", "_law_many", "_law_is_sided"] (ASp K [true,false,false] jW)) (qp:mg "_law_network" = some (.ref ql)) (HR:PySem.W.keepIn K (.ref ql)=true) (qu:Binds K jG ["_law_deck_here", "_law_many", "_law_is_sided"] [])
  {qw:Addr} {jH:FuncData} (rA:FnG P w K mg base CX0 4 qw jH ["_law_deck_here", "_law_many"] (ASp K [true,false] jX)) (rB:mg "_law_catalog" = some (.ref qw)) (HS:PySem.W.keepIn K (.ref qw)=true) (rC:Binds K jH ["_law_deck_here", "_law_many"] [])
  {vW:Addr} {mJ:FuncData} (vX:FnG P w K mg base CX0 4 vW mJ ["_law_deck_here", "_law_steps", "_law_more"] (ASp K [true,false,false] nY)) (vY:mg "_law_chain" = some (.ref vW)) (Mf:PySem.W.keepIn K (.ref vW)=true) (vZ:Binds K mJ ["_law_deck_here", "_law_steps", "_law_more"] [])
  {bR:Addr} {bZ:FuncData} (bh:FnG P w K mg base CX0 2 bR bZ ["_law_deck_here", "_law_items"] (ASp K [true,false] bQ)) (bj:mg "_law_any" = some (.ref bR)) (di:PySem.W.keepIn K (.ref bR)=true) (bu:Binds K bZ ["_law_deck_here", "_law_items"] [])
  {spec:bU} (rd : ∀ os Qa,os.length=2->spec os Qa->sX (aP [true,false] Qa) (aK 4 os)):FnG P w K mg base CX0 (4+1) f fd ["_law_deck_here", "_law_most"] (ASp K [true,false] spec):=by
 refine eE (N:=["_law_deck_here", "_law_most", "_law_net", "_law_rows"]) [true,false] sX F CQ rfl (fun cdv A outer s H E hr B => ?_) rd
 have hr0:=hr.mono (Nat.zero_le _)
 have hu:=hr0.room.un
 have nd:=CQ.nd
 exact rW (aO (N5 2 3 rfl nd rfl rfl rfl rfl (aA (ak qm (hr.mono (by omega)) (by rfl) qp HR qu (aA (aC 0) (aA (bA cC aJ (ak aW (hr.mono (by omega)) (by rfl) aX bL aY (aA (aC 0) (aA (aC 1) aG)))) (aA Vy aG)))) (aA (ak rA (hr.mono (by omega)) (by rfl) rB HS rC (aA (aC 0) (aA (bA cC aJ (ak aW (hr.mono (by omega)) (by rfl) aX bL aY (aA (aC 0) (aA aJ aG)))) aG))) aG)) rfl)
  (aO (yo (uQ Y7 (ak aW (hr.mono (by omega)) (by rfl) aX bL aY (aA (aC 0) (aA aJ aG))) aJ (nomark _)) (aR (gJ 3 nd rfl (Or.inl rfl) (cM ao (ak vX (hr.mono (by omega)) (by rfl) vY Mf vZ (aA (aC 0) (aA (bA cC aJ (ak aW (hr.mono (by omega)) (by rfl) aX bL aY (aA (aC 0) (aA aJ aG)))) (aA (ak aW (hr.mono (by omega)) (by rfl) aX bL aY (aA (aC 0) (aA aJ aG))) aG)))) aJ (fun _ _=>rfl)))) lE)
  (aR (cU (gH (aA (aC 2) (aA (aC 3) (aA (cM ao (ak bh (hr.mono (by omega)) (by rfl) bj di bu (aA (aC 0) (aA (aC 3) aG))) aJ (fun _ _=>rfl)) aG)))))))) (by rfl)
theorem G8:FnScope ["_law_net", "_law_rows", "_law_here", "_law_service", "_law_name", "_law_running", "_law_one"] ["_law_net", "_law_rows", "_law_here", "_law_service", "_law_name"] (defScope (top 65)):=⟨rfl,rfl,rfl,by decide +kernel,rfl,by decide +kernel,by decide +kernel⟩
theorem Og {P:Program} {w:World} {K:PySem.W.Frag} {mg:Str->Option Value} {base:Heap} {f:Addr} {fd:FuncData} (F:FnP K "_law_way" (top 65) f fd)
  (jj:mg "dict" = none)
  (zY:mg "list" = none)
  (Sh:mg "zip" = none)
  {u9:Addr} {jx:FuncData} (uA:FnG P w K mg base CX0 1 u9 jx ["_law_catalog_here", "_law_one", "_law_other"] (ASp K [false,false,false] jD)) (uB:mg "_law_shared" = some (.ref u9)) (K9:PySem.W.keepIn K (.ref u9)=true) (uC:Binds K jx ["_law_catalog_here", "_law_one", "_law_other"] [])
  {uD:Addr} {jy:FuncData} (uE:FnG P w K mg base CX0 1 uD jy ["_law_network_here"] (ASp K [false] lV)) (uF:mg "_law_beside" = some (.ref uD)) (KC:PySem.W.keepIn K (.ref uD)=true) (uG:Binds K jy ["_law_network_here"] [])
  (iJ:mg "tuple" = none)
  {spec:bU} (rd : ∀ os Qa,os.length=5->spec os Qa->wy (aP [false,false,false,false,false] Qa) (aK 7 os)):FnG P w K mg base CX0 (1+1) f fd ["_law_net", "_law_rows", "_law_here", "_law_service", "_law_name"] (ASp K [false,false,false,false,false] spec):=by
 refine eE (N:=["_law_net", "_law_rows", "_law_here", "_law_service", "_law_name", "_law_running", "_law_one"]) [false,false,false,false,false] wy F G8 rfl (fun cdv A outer s H E hr B => ?_) rd
 have hr0:=hr.mono (Nat.zero_le _)
 have hu:=hr0.room.un
 have nd:=G8.nd
 exact rW (aO (gJ 5 nd rfl (Or.inr rfl) (Nr rfl (by rfl) jj (by rfl) zY (by rfl) Sh (aA (cM ao (aC 0) aJ (fun _ _=>rfl)) (aA (aC 2) aG))))
  (aR (cU (du (iZ rfl) (by rfl) iJ qH (aA (Mv rfl nd (v7 (cM (sH (hu1 hu)) (ak uE (hr.mono (by omega)) (by rfl) uF KC uG (aA (aC 0) aG)) (aC 3) (fun _ _=>rfl))) (blkOk_by (own:=[("_law_one",6)]) (by rfl)) (fun _ _ _ _ _=>(cR 6 nd rfl (by first | exact Or.inl rfl | exact Or.inr rfl))) (fun _ _ _ _ _=>(Ms (Hf (Be (ak uA (hr.mono (by omega)) (by rfl) uB K9 uC (aA (aC 1) (aA (cM (sH (hu1 hu)) (aC 5) (aC 6) (fun _ _=>rfl)) (aA (aC 4) aG)))))))) (fun _ _ _ _ _=>(aC 6))) aG))))) (by rfl)
theorem G9:FnScope ["_law_net", "_law_here", "_law_service", "_law_name", "_law_at"] ["_law_net", "_law_here", "_law_service", "_law_name"] (defScope (top 66)):=⟨rfl,rfl,rfl,by decide +kernel,rfl,by decide +kernel,by decide +kernel⟩
theorem Oh {P:Program} {w:World} {K:PySem.W.Frag} {mg:Str->Option Value} {base:Heap} {f:Addr} {fd:FuncData} (F:FnP K "_law_put" (top 66) f fd)
  {spec:bU} (rd : ∀ os Qa,os.length=4->spec os Qa->xB (aP [false,false,false,false] Qa) (aK 5 os)):FnG P w K mg base CX0 (0+1) f fd ["_law_net", "_law_here", "_law_service", "_law_name"] (ASp K [false,false,false,false] spec):=by
 refine eE (N:=["_law_net", "_law_here", "_law_service", "_law_name", "_law_at"]) [false,false,false,false] xB F G9 rfl (fun cdv A outer s H E hr B => ?_) rd
 have hr0:=hr.mono (Nat.zero_le _)
 have hu:=hr0.room.un
 have nd:=G9.nd
 exact rW (aO (gJ 4 nd rfl (Or.inl rfl) (Lh (cM ao (aC 0) aJ (fun _ _=>rfl)) (aC 2)))
  (aR (cU (bA cC (bA cC (wU (aC 1) Ac (Ad (aC 4))) (gH (aA (aC 3) aG))) (wU (aC 1) (Ad (bA cC (aC 4) aJ)) Ac))))) (by rfl)
theorem CT:FnScope ["_law_fleet", "_law_net", "_law_rows", "_law_past", "_law_told"] ["_law_fleet", "_law_net", "_law_rows", "_law_past"] (defScope (top 67)):=⟨rfl,rfl,rfl,by decide +kernel,rfl,by decide +kernel,by decide +kernel⟩
theorem Mg {P:Program} {w:World} {K:PySem.W.Frag} {mg:Str->Option Value} {base:Heap} {f:Addr} {fd:FuncData} (F:FnP K "_law_same" (top 67) f fd)
  {zf:Addr} {kE:FuncData} (uH:FnG P w K mg base CX0 1 zf kE ["self"] (ASp K [true] jE)) (uI:Binds K kE ["self"] [])
  (aZ:Cls K (Tbs.cad "Fleet"))
  {HW:Addr} (uJ:PropOf K (Tbs.cad "Fleet") "state" HW zf)
  {GD:Addr} {oh:FuncData} (yQ:FnG P w K mg base CX0 1 GD oh ["self"] (ASp K [true] mF)) (yR:Binds K oh ["self"] [])
  (yS:Meth K (Tbs.cad "Fleet") "log" GD)
  {CV:Addr} {mK:FuncData} (vf:FnG P w K mg base CX0 1 CV mK ["self"] (ASp K [true] jc)) (vg:Binds K mK ["self"] [])
  {KD:Addr} (vh:PropOf K (Tbs.cad "Fleet") "made" KD CV)
  {vp:Addr} {ir:FuncData} (ou:FnG P w K mg base CX0 1 vp ir ["self"] (ASp K [true] iD)) (pA:Binds K ir ["self"] [])
  {DN:Addr} (pC:PropOf K (Tbs.cad "Fleet") "network" DN vp)
  {vq:Addr} {iw:FuncData} (pF:FnG P w K mg base CX0 1 vq iw ["self"] (ASp K [true] iG)) (pH:Binds K iw ["self"] [])
  {DP:Addr} (pJ:PropOf K (Tbs.cad "Fleet") "catalog" DP vq)
  {vz:Addr} {iz:FuncData} (pK:FnG P w K mg base CX0 1 vz iz ["self"] (ASp K [true] gq)) (pM:Binds K iz ["self"] [])
  (kJ:Meth K (Tbs.cad "Fleet") "__len__" vz)
  (ig:mg "len" = none)
  (Qy:mg "repr" = none)
  {spec:bU} (rd : ∀ os Qa,os.length=4->spec os Qa->t7 (aP [true,false,false,true] Qa) (aK 5 os)):FnG P w K mg base CX0 (2+1) f fd ["_law_fleet", "_law_net", "_law_rows", "_law_past"] (ASp K [true,false,false,true] spec):=by
 refine eE (N:=["_law_fleet", "_law_net", "_law_rows", "_law_past", "_law_told"]) [true,false,false,true] t7 F CT rfl (fun cdv A outer s H E hr B => ?_) rd
 have hr0:=hr.mono (Nat.zero_le _)
 have hu:=hr0.room.un
 have nd:=CT.nd
 exact rW (aO (gJ 4 nd rfl (Or.inl rfl) (qF (aA (Ja (c := "Fleet") aZ uJ uH (hr.mono (by omega)) uI (aC 0)) (aA (X4 (fl:=[]) (c := "Fleet") aZ yS yQ (hr.mono (by omega)) yR (aC 0)) (aA (Ja (c := "Fleet") aZ vh vf (hr.mono (by omega)) vg (aC 0)) (aA (Ja (c := "Fleet") aZ pC ou (hr.mono (by omega)) pA (aC 0)) (aA (Ja (c := "Fleet") aZ pJ pF (hr.mono (by omega)) pH (aC 0)) (aA (Zo (c := "Fleet") aZ kJ.at_ kJ.fn pK (hr.mono (by omega)) pM (by rfl) ig rJ (aC 0)) aG))))))))
  (aR (cU (uP (El hu) (cO (Hi hr0) (by rfl) Qy Tv (aA (aC 4) aG)) (cO (Hi hr0) (by rfl) Qy Tv (aA (qF (aA (cM ao (cM ao (aC 3) (RD Ab aJ) (fun _ _=>rfl)) aJ (fun _ _=>rfl)) (aA (cM ao (cM ao (aC 3) (RD Ab aJ) (fun _ _=>rfl)) aJ (fun _ _=>rfl)) (aA (cO gj (by rfl) ig rJ (aA (cM ao (cM ao (aC 3) (RD Ab aJ) (fun _ _=>rfl)) aJ (fun _ _=>rfl)) aG)) (aA (aC 1) (aA (aC 2) (aA (cO gj (by rfl) ig rJ (aA (cM ao (aC 1) aJ (fun _ _=>rfl)) aG)) aG))))))) aG)) (nomark _))))) (by rfl)
theorem xZ:FnScope ["_law_fleet", "_law_past", "_law_caught_here"] ["_law_fleet", "_law_past"] (defScope (top 68)):=⟨rfl,rfl,rfl,by decide +kernel,rfl,by decide +kernel,by decide +kernel⟩
theorem HX {P:Program} {w:World} {K:PySem.W.Frag} {mg:Str->Option Value} {base:Heap} {f:Addr} {fd:FuncData} (F:FnP K "_law_undone" (top 68) f fd)
  {c__law_undone P__law_undone:Addr} (uK:aAn base mg fd.code (("_law_undone" : Str) ++ ".<locals>." ++ "<lambda>") c__law_undone P__law_undone)
  {kW:Addr} {gR:FuncData} (mZ:Qe P w K mg base ["_law_ask", "_law_caught_here", "error"] "_law_caught" (defScope (top 63)) "_law_ask" (defBody (top 63)) jh) (gU:FnP K "_law_caught" (top 63) kW gR) (j8:mg "_law_caught" = some (.ref kW)) (j9:Binds K gR ["_law_ask"] [])
  {CW:Addr} {mO:FuncData} (w6:FnG P w K mg base (L2.CX P w) 3 CW mO ["self"] (Lk K [true] o8)) (wA:Binds K mO ["self"] [])
  (aZ:Cls K (Tbs.cad "Fleet"))
  (wB:Meth K (Tbs.cad "Fleet") "undo" CW)
  (ig:mg "len" = none)
  (hE : ∀ m∈Tbs.nms,ExcC K (Tbs.cad m))
  (cV:mg "NothingToUndo" = some (.ref (Tbs.cad "NothingToUndo")))
  (fu : ∀ m∈Tbs.nms,PySem.W.kitOne K (.ref (Tbs.cad m)) (.ref (Tbs.cad "NothingToUndo"))=some (qX ["NothingToUndo"] m))
  (cG:mg "isinstance" = none)
  (jo:mg "Blocked" = some (.ref (Tbs.cad "Blocked")))
  (rO : ∀ m∈Tbs.nms,PySem.W.kitOne K (.ref (Tbs.cad m)) (.ref (Tbs.cad "Blocked"))=some (qX ["Blocked"] m))
  {spec:bU} (rd : ∀ os Qa,os.length=2->spec os Qa->o9 (aP [true,true] Qa) (aK 3 os)):FnG P w K mg base CX0 (11+1) f fd ["_law_fleet", "_law_past"] (ASp K [true,true] spec):=by
 refine Uc (N:=["_law_fleet", "_law_past", "_law_caught_here"]) [true,true] o9 F xZ rfl (fun cdv A outer s H E hcd hr B => ?_) rd
 have lam:=uK
 rw [hcd] at lam
 have hr0:=hr.mono (Nat.zero_le _)
 have hu:=hr0.room.un
 have nd:=xZ.nd
 exact rW (aO (gJ 2 nd rfl (Or.inl rfl) (FQ (k:=9) (y := "_law_fleet") (jm:=0) (cI := "Fleet") (by rfl) j8 gU j9 qd rfl (Or.inl rfl) mZ (fun k=>xQ k _ _) lam (hr.mono (by omega)) (show LamX.LamS (defScope (top 68)) _ from LamX.lamS_by (by decide +kernel)) rfl rfl (by rfl) (fun _ _ _ _ _=>rfl) (fun A outer s H E f c' hr2 B Ea tkL=>(Uz (fl:=[]) (c := "Fleet") aZ wB w6 (hr2.mono (by omega)) wA tkL (aC 0) ))))
  (aO (yo (uQ (El hu) (cO gj (by rfl) ig rJ (aA (aC 1) aG)) aJ (nomark _)) (aR (cU (Hh (QH hE fu (by rfl) cG (aC 2) (QG (by rfl) cV)) (Hg (T9 (QH hE rO (by rfl) cG (aC 2) (QG (by rfl) jo))))))) lE)
  (aO (jC (aB0 1 rfl))
  (aR (cU (uP Tq (aC 2) KR (nomark _))))))) (by rfl)
theorem ug:FnScope ["_law_fleet", "_law_net", "_law_rows", "_law_past", "_law_service", "_law_name", "_law_way_here", "_law_caught_here"] ["_law_fleet", "_law_net", "_law_rows", "_law_past", "_law_service", "_law_name"] (defScope (top 69)):=⟨rfl,rfl,rfl,by decide +kernel,rfl,by decide +kernel,by decide +kernel⟩
theorem DQ {P:Program} {w:World} {K:PySem.W.Frag} {mg:Str->Option Value} {base:Heap} {f:Addr} {fd:FuncData} (F:FnP K "_law_replaced" (top 69) f fd)
  {BJ:Addr} {rP:FuncData} (BK:FnG P w K mg base CX0 2 BJ rP ["_law_net", "_law_rows", "_law_here", "_law_service", "_law_name"] (ASp K [false,false,false,false,false] sY)) (BP:mg "_law_way" = some (.ref BJ)) (Su:PySem.W.keepIn K (.ref BJ)=true) (BR:Binds K rP ["_law_net", "_law_rows", "_law_here", "_law_service", "_law_name"] [])
  {c__law_replaced P__law_replaced:Addr} (pN:aAn base mg fd.code (("_law_replaced" : Str) ++ ".<locals>." ++ "<lambda>") c__law_replaced P__law_replaced)
  {kW:Addr} {gR:FuncData} (mZ:Qe P w K mg base ["_law_ask", "_law_caught_here", "error"] "_law_caught" (defScope (top 63)) "_law_ask" (defBody (top 63)) jh) (gU:FnP K "_law_caught" (top 63) kW gR) (j8:mg "_law_caught" = some (.ref kW)) (j9:Binds K gR ["_law_ask"] [])
  {wC:Addr} {j5:FuncData} (kY:FnG P w K mg base (L2.CX P w) 6 wC j5 ["self", "service", "release"] (Lk K [true,false,false] iH)) (kZ:Binds K j5 ["self", "service", "release"] [])
  (aZ:Cls K (Tbs.cad "Fleet"))
  (kh:Meth K (Tbs.cad "Fleet") "replace" wC)
  (hE : ∀ m∈Tbs.nms,ExcC K (Tbs.cad m))
  (jo:mg "Blocked" = some (.ref (Tbs.cad "Blocked")))
  (rO : ∀ m∈Tbs.nms,PySem.W.kitOne K (.ref (Tbs.cad m)) (.ref (Tbs.cad "Blocked"))=some (qX ["Blocked"] m))
  (cG:mg "isinstance" = none)
  (cV:mg "NothingToUndo" = some (.ref (Tbs.cad "NothingToUndo")))
  (fu : ∀ m∈Tbs.nms,PySem.W.kitOne K (.ref (Tbs.cad m)) (.ref (Tbs.cad "NothingToUndo"))=some (qX ["NothingToUndo"] m))
  (yU : ∀ m∈Tbs.nms,PySem.W.findIn K (.ref (Tbs.cad m)) "services" = some none)
  {BV:Addr} {rQ:FuncData} (BW:FnG P w K mg base CX0 1 BV rQ ["_law_net", "_law_here", "_law_service", "_law_name"] (ASp K [false,false,false,false] sr)) (BX:mg "_law_put" = some (.ref BV)) (Sv:PySem.W.keepIn K (.ref BV)=true) (Ba:Binds K rQ ["_law_net", "_law_here", "_law_service", "_law_name"] [])
  {spec:bU} (rd : ∀ os Qa,os.length=6->spec os Qa->ji (aP [true,false,false,true,false,false] Qa) (aK 8 os)):FnG P w K mg base CX0 (11+1) f fd ["_law_fleet", "_law_net", "_law_rows", "_law_past", "_law_service", "_law_name"] (ASp K [true,false,false,true,false,false] spec):=by
 refine Uc (N:=["_law_fleet", "_law_net", "_law_rows", "_law_past", "_law_service", "_law_name", "_law_way_here", "_law_caught_here"]) [true,false,false,true,false,false] ji F ug rfl (fun cdv A outer s H E hcd hr B => ?_) rd
 have lam:=pN
 rw [hcd] at lam
 have hr0:=hr.mono (Nat.zero_le _)
 have hu:=hr0.room.un
 have nd:=ug.nd
 exact rW (aO (gJ 6 nd rfl (Or.inl rfl) (ak BK (hr.mono (by omega)) (by rfl) BP Su BR (aA (aC 1) (aA (aC 2) (aA (cM ao (cM ao (aC 3) (RD Ab aJ) (fun _ _=>rfl)) aJ (fun _ _=>rfl)) (aA (aC 4) (aA (aC 5) aG)))))))
  (aO (yo (uQ (PB hu) (aC 6) (gH aG) (nomark _)) (aO (gJ 7 nd rfl (Or.inl rfl) (FQ (k:=9) (y := "_law_fleet") (jm:=0) (cI := "Fleet") (by rfl) j8 gU j9 qd rfl (Or.inl rfl) mZ (fun k=>xQ k _ _) lam (hr.mono (by omega)) (show LamX.LamS (defScope (top 69)) _ from LamX.lamS_by (by decide +kernel)) rfl rfl (by rfl) (fun _ _ _ _ _=>rfl) (fun A outer s H E f c' hr2 B Ea tkL=>(Qi (fl:=[false,false]) (c := "Fleet") aZ kh kY (hr2.mono (by omega)) kZ tkL (aC 0) (aA (aC 4) (aA (aC 5) aG))))))
  (aR (cU (Hh (QH hE rO (by rfl) cG (aC 7) (QG (by rfl) jo)) (Hh (T9 (QH hE fu (by rfl) cG (aC 7) (QG (by rfl) cV))) (Hg (uP (El hu) (aAT hE yU (aC 7)) (aC 6) (nomark _)))))))) lE)
  (aO (jC (v9 3 rfl (gH (aA (ak BW (hr.mono (by omega)) (by rfl) BX Sv Ba (aA (aC 1) (aA (cM ao (cM ao (aC 3) (RD Ab aJ) (fun _ _=>rfl)) aJ (fun _ _=>rfl)) (aA (aC 4) (aA (aC 5) aG))))) (aA (bA cC (cM ao (cM ao (aC 3) (RD Ab aJ) (fun _ _=>rfl)) aJ (fun _ _=>rfl)) (gH (aA (gH (aA (aC 4) (aA (aC 5) aG))) aG))) aG)))))
  (aR (cU (uP Tq (Qi (fl:=[false,false]) (c := "Fleet") aZ kh kY (hr.mono (by omega)) kZ tkNo (aC 0) (aA (aC 4) (aA (aC 5) aG))) KR (nomark _))))))) (by rfl)
theorem zg:FnScope ["_law_deck_here", "_law_net", "_law_rows", "_law_start", "_law_fleet", "_law_past", "_law_turn"] ["_law_deck_here"] (defScope (top 70)):=⟨rfl,rfl,rfl,by decide +kernel,rfl,by decide +kernel,by decide +kernel⟩
theorem KH {P:Program} {w:World} {K:PySem.W.Frag} {mg:Str->Option Value} {base:Heap} {f:Addr} {fd:FuncData} (F:FnP K "_law_right" (top 70) f fd)
  {yV:Addr} {pO:FuncData} (yW:FnG P w K mg base CX0 5 yV pO ["_law_deck_here", "_law_most"] (ASp K [true,false] qT)) (yX:mg "_law_case" = some (.ref yV)) (Oi:PySem.W.keepIn K (.ref yV)=true) (yZ:Binds K pO ["_law_deck_here", "_law_most"] [])
  {CZ:Addr} {mQ:FuncData} (wD:FnG P w K mg base CX0 4 CZ mQ ["self", "network", "catalog", "start"] (ASp K [true,false,false,false] nu)) (wG:Binds K mQ ["self", "network", "catalog", "start"] [])
  (Oj:Mk K (Tbs.cad "Fleet") CZ) (Bb:mg "Fleet" = some (.ref (Tbs.cad "Fleet")))
  (ig:mg "len" = none)
  (gQ:mg "range" = none)
  {aU:Addr} {az:FuncData} (aW:FnG P w K mg base CX0 1 aU az ["_law_deck_here", "_law_many"] (ASp K [true,false] au)) (aX:mg "_law_draw" = some (.ref aU)) (bL:PySem.W.keepIn K (.ref aU)=true) (aY:Binds K az ["_law_deck_here", "_law_many"] [])
  {uL:Addr} {jA:FuncData} (uM:FnG P w K mg base CX0 12 uL jA ["_law_fleet", "_law_past"] (ASp K [true,true] lg)) (uN:mg "_law_undone" = some (.ref uL)) (KJ:PySem.W.keepIn K (.ref uL)=true) (uO:Binds K jA ["_law_fleet", "_law_past"] [])
  {bR:Addr} {bZ:FuncData} (bh:FnG P w K mg base CX0 2 bR bZ ["_law_deck_here", "_law_items"] (ASp K [true,false] bQ)) (bj:mg "_law_any" = some (.ref bR)) (di:PySem.W.keepIn K (.ref bR)=true) (bu:Binds K bZ ["_law_deck_here", "_law_items"] [])
  {pP:Addr} {g8:FuncData} (pQ:FnG P w K mg base CX0 12 pP g8 ["_law_fleet", "_law_net", "_law_rows", "_law_past", "_law_service", "_law_name"] (ASp K [true,false,false,true,false,false] jL)) (pU:mg "_law_replaced" = some (.ref pP)) (GF:PySem.W.keepIn K (.ref pP)=true) (pW:Binds K g8 ["_law_fleet", "_law_net", "_law_rows", "_law_past", "_law_service", "_law_name"] [])
  {yc:Addr} {pX:FuncData} (yd:FnG P w K mg base CX0 3 yc pX ["_law_fleet", "_law_net", "_law_rows", "_law_past"] (ASp K [true,false,false,true] jQ)) (ye:mg "_law_same" = some (.ref yc)) (Ol:PySem.W.keepIn K (.ref yc)=true) (yf:Binds K pX ["_law_fleet", "_law_net", "_law_rows", "_law_past"] [])
  (eQ:aB9 K (Tbs.cad "Fleet") "MOST_SERVICES" 12)
  (Bb:mg "Fleet" = some (.ref (Tbs.cad "Fleet")))
  {spec:bU} (rd : ∀ os Qa,os.length=1->spec os Qa->qU (aP [true] Qa) (aK 7 os)):FnG P w K mg base CX0 (12+1) f fd ["_law_deck_here"] (ASp K [true] spec):=by
 refine eE (N:=["_law_deck_here", "_law_net", "_law_rows", "_law_start", "_law_fleet", "_law_past", "_law_turn"]) [true] qU F zg rfl (fun cdv A outer s H E hr B => ?_) rd
 have hr0:=hr.mono (Nat.zero_le _)
 have hu:=hr0.room.un
 have nd:=zg.nd
 exact rW (aO (aAy (ak yW (hr.mono (by omega)) (by rfl) yX Oi yZ (aA (aC 0) (aA aJ aG))) (Dy (n:=3) rfl (gK (cR 1 nd rfl (Or.inl rfl)) (gK (cR 2 nd rfl (Or.inl rfl)) (gK (cR 3 nd rfl (Or.inl rfl)) xg)))))
  (aO (N5 4 5 rfl nd rfl rfl rfl rfl (aA (aB5 (fl:=[false,false,false]) (c := "Fleet") Oj wD (hr.mono (by omega)) (by rfl) Bb wG (aA (aC 1) (aA (aC 2) (aA (aC 3) aG)))) (aA (qF (aA (gH (aA (bA jJ (gH (aA (aC 3) aG)) (cO gj (by rfl) ig rJ (aA (cM ao (aC 1) aJ (fun _ _=>rfl)) aG))) (aA (gH aG) aG))) aG)) aG)) rfl)
  (aO (EY PassesOwn.never rfl (rH (by rfl) gQ (aA aJ aG)) (cR 6 nd rfl (Or.inl rfl)) (aO (yo (uQ (El hu) (ak aW (hr.mono (by omega)) (by rfl) aX bL aY (aA (aC 0) (aA aJ aG))) aJ (nomark _)) (aR (yo (Hf (Be (ak uM (hr.mono (by omega)) (by rfl) uN KJ uO (aA (aC 4) (aA (aC 5) aG))))) (aR (cU Vy)) lE)) (aR (yo (Hf (Be (ak pQ (hr.mono (by omega)) (by rfl) pU GF pW (aA (aC 4) (aA (aC 1) (aA (aC 2) (aA (aC 5) (aA (ak bh (hr.mono (by omega)) (by rfl) bj di bu (aA (aC 0) (aA (cM ao (aC 1) aJ (fun _ _=>rfl)) aG))) (aA (cM ao (ak bh (hr.mono (by omega)) (by rfl) bj di bu (aA (aC 0) (aA (aC 2) aG))) aJ (fun _ _=>rfl)) aG))))))))) (aR (cU Vy)) lE)))
  (aR (yo (Hf (Be (ak yd (hr.mono (by omega)) (by rfl) ye Ol yf (aA (aC 4) (aA (aC 1) (aA (aC 2) (aA (aC 5) aG))))))) (aR (cU Vy)) lE))))
  (aR (cU (Hh (uP (El hu) (Zw eQ (by rfl) Bb) aJ (nomark _)) (Hg (uP (El hu) (Zx eQ (aC 4)) aJ (nomark _))))))))) (by rfl)
theorem Yp:FnScope ["_law_script", "_law_k"] ["_law_script"] (defScope (top 71)):=⟨rfl,rfl,rfl,by decide +kernel,rfl,by decide +kernel,by decide +kernel⟩
theorem aBt {P:Program} {w:World} {K:PySem.W.Frag} {mg:Str->Option Value} {base:Heap} {f:Addr} {fd:FuncData} (F:FnP K "law" (top 71) f fd)
  (ig:mg "len" = none)
  (aAh:mg "min" = none)
  (aAi:mg "max" = none)
  (gQ:mg "range" = none)
  {yg:Addr} {pY:FuncData} (yh:FnG P w K mg base CX0 1 yg pY ["_law_script", "_law_k"] (ASp K [false,false] qL)) (yj:mg "_law_deck" = some (.ref yg)) (Om:PySem.W.keepIn K (.ref yg)=true) (ym:Binds K pY ["_law_script", "_law_k"] [])
  {wH:Addr} {mU:FuncData} (wI:FnG P w K mg base CX0 13 wH mU ["_law_deck_here"] (ASp K [true] oA)) (wJ:mg "_law_right" = some (.ref wH)) (Mh:PySem.W.keepIn K (.ref wH)=true) (wO:Binds K mU ["_law_deck_here"] [])
  (aAj:mg "all" = none)
  {spec:bU} (rd : ∀ os Qa,os.length=1->spec os Qa->Xv (aP [false] Qa) (aK 2 os)):FnG P w K mg base CX0 (13+1) f fd ["_law_script"] (ASp K [false] spec):=by
 refine eE (N:=["_law_script", "_law_k"]) [false] Xv F Yp rfl (fun cdv A outer s H E hr B => ?_) rd
 have hr0:=hr.mono (Nat.zero_le _)
 have hu:=hr0.room.un
 have nd:=Yp.nd
 exact rW (aR (cU (cO (Tr rfl) (by rfl) aAj aAC (aA (Mv rfl nd (rH (by rfl) gQ (aA (cO (RM rfl) (by rfl) aAi aAD (aA aJ (aA (cO (RQ rfl) (by rfl) aAh aAE (aA aJ (aA (cO gj (by rfl) ig rJ (aA (aC 0) aG)) aG))) aG))) aG)) (blkOk_by (own:=[("_law_k",1)]) (by rfl)) (fun _ _ _ _ _=>(cR 1 nd rfl (by first | exact Or.inl rfl | exact Or.inr rfl))) (fun _ _ _ _ _=>oG) (fun _ _ _ _ _=>(ak wI (hr.mono (by omega)) (by rfl) wJ Mh wO (aA (ak yh (hr.mono (by omega)) (by rfl) yj Om ym (aA (aC 0) (aA (aC 1) aG))) aG)))) aG)))) (by rfl)
end WG
namespace Lw
open PySem PySem.Spec L2 DL WG WS WE WC WV
open PyProof.Rows hiding St
theorem aAk {P:Program} (w:World) {K:PySem.W.Frag} {h:Heap} {mg:Str->Option Value} {fa:Addr} (X:K.In h) (Gh:h.Ns mainGlobals mg) (hfa:mg ("law" : Str)=some (.ref fa)) (cx:DL.aAr Hd.fa Hd.fn Hd.pf Hd.tf Hd.ex w h K) :
  ∃ (K:PySem.W.Frag) (fd:FuncData) (cs:List (Addr×Addr)) (sp:Sp),K.In h∧(∀ p∈cs,h.get? p.2=some { cls := .none,data := .fields #[] })∧(∀ p∈cs,K.lookup p.2=none)∧(∀ p∈cs,PySem.W.CodeHd h p.1 p.2) ∧
   (∀ (s:Shared) (u:Value),BindsTo s fd ⟨[u], []⟩ [("_law_script",u)]) ∧
   (∀ (H:Hp) (a:Addr) (ns:List Int),ns.length≤63->UW cs H->SqL K H a (ns.map V.int)->sp [.ref a] H (fun v _=>v = .bl true) fun _ _ _=>False) ∧
   ∀ base:Heap,K.In base->base.Ns mainGlobals mg->(∀ p∈cs,LamX.TabB base mg p.1 p.2)->FnG P w K mg base CX0 14 fa fd ["_law_script"] sp:=by
 have cp:=cx.p
 have cx:=cx.x
 have c:=cx.t.d
 have xx:=cx.more
 unfold Hd.ex at xx
 obtain ⟨e_exc,xx⟩:=ba2 xx
 obtain ⟨e_one_NoRelease,xx⟩:=ba2 xx
 obtain ⟨e_one_NoService,xx⟩:=ba2 xx
 obtain ⟨e_one_Unreachable,xx⟩:=ba2 xx
 obtain ⟨e_one_NotTwoSided,xx⟩:=ba2 xx
 obtain ⟨e_one_Blocked,xx⟩:=ba2 xx
 obtain ⟨e_one_Mixed,xx⟩:=ba2 xx
 obtain ⟨e_one_NothingToUndo,xx⟩:=ba2 xx
 obtain ⟨e_mk_Fleet,xx⟩:=ba2 xx
 obtain ⟨e_y_Fleet___len__,xx⟩:=ba2 xx
 obtain ⟨e_p_Fleet_network,xx⟩:=ba2 xx
 obtain ⟨e_p_Fleet_catalog,xx⟩:=ba2 xx
 obtain ⟨e_p_Fleet_state,xx⟩:=ba2 xx
 obtain ⟨e_p_Fleet_made,xx⟩:=ba2 xx
 obtain ⟨e_y_Fleet_log,xx⟩:=ba2 xx
 obtain ⟨e_y_Fleet_store,xx⟩:=ba2 xx
 obtain ⟨e_y_Fleet_check_replacement,xx⟩:=ba2 xx
 obtain ⟨e_y_Fleet_replace,xx⟩:=ba2 xx
 obtain ⟨e_y_Fleet_undo,xx⟩:=ba2 xx
 obtain ⟨e_cn_Fleet_MOST_SERVICES,xx⟩:=ba2 xx
 obtain ⟨e_c_Fleet,xx⟩:=ba2 xx
 obtain ⟨e_a_Fleet_network_held,xx⟩:=ba2 xx
 obtain ⟨e_a_Fleet_catalog_held,xx⟩:=ba2 xx
 obtain ⟨e_a_Fleet_moment,xx⟩:=ba2 xx
 obtain ⟨e_base_UpgradeError,xx⟩:=ba2 xx
 obtain ⟨e_no_services,xx⟩:=ba2 xx
 obtain ⟨e_lam_0_1,xx⟩:=ba2 xx
 obtain ⟨e_q_NothingToUndo,xx⟩:=ba2 xx
 obtain ⟨e_q_Blocked,xx⟩:=ba2 xx
 have e_x_UpgradeError:=xx
 letI TT:Tbs:=⟨[((He.cT K ("_law_undone",none)).2,(("_law_undone" : Str) ++ ".<locals>." ++ "<lambda>")),((He.cT K ("_law_replaced",none)).2,(("_law_replaced" : Str) ++ ".<locals>." ++ "<lambda>"))],He.ga K,Hd.nms,NestedKey.hash w⟩
 have hE : ∀ m∈Tbs.nms,ExcC K (Tbs.cad m):=fun m hm=>Za (Ug e_exc m hm)
 have yU : ∀ m∈Tbs.nms,PySem.W.findIn K (.ref (Tbs.cad m)) "services" = some none:=fun m hm=>of_decide_eq_true (Ug e_no_services m hm)
 have fu:=QJ e_q_NothingToUndo
 have rO:=QJ e_q_Blocked
 have qj:=Zb e_x_UpgradeError
 obtain ⟨jk,D_has_release⟩:=c.def_ 1 (d:=Hd.mkD "has_release" (Hd.top 11)) rfl
 have tE:=He.glo_ok X Gh (c.fact 1 (f := .glo "has_release") rfl)
 have tG:Binds K jk ["catalog", "value"] []:=FunD.bindsN D_has_release fun _ _ _ _ _ _ us hl=>match us,hl with | [_,_],_=>rfl
 obtain ⟨d8,D_check_release⟩:=c.def_ 2 (d:=Hd.mkD "check_release" (Hd.top 12)) rfl
 have fZ:=He.glo_ok X Gh (c.fact 2 (f := .glo "check_release") rfl)
 have fj:Binds K d8 ["catalog", "value"] []:=FunD.bindsN D_check_release fun _ _ _ _ _ _ us hl=>match us,hl with | [_,_],_=>rfl
 obtain ⟨Fj,D_mates⟩:=c.def_ 3 (d:=Hd.mkD "mates" (Hd.top 13)) rfl
 have Oa:=He.glo_ok X Gh (c.fact 3 (f := .glo "mates") rfl)
 have Oc:Binds K Fj ["catalog", "name"] []:=FunD.bindsN D_mates fun _ _ _ _ _ _ us hl=>match us,hl with | [_,_],_=>rfl
 obtain ⟨jn,D_has_service⟩:=c.def_ 8 (d:=Hd.mkD "has_service" (Hd.top 19)) rfl
 have tM:=He.glo_ok X Gh (c.fact 8 (f := .glo "has_service") rfl)
 have tO:Binds K jn ["network", "value"] []:=FunD.bindsN D_has_service fun _ _ _ _ _ _ us hl=>match us,hl with | [_,_],_=>rfl
 obtain ⟨fX,D_neighbour_table⟩:=c.def_ 9 (d:=Hd.mkD "neighbour_table" (Hd.top 20)) rfl
 have lM:=He.glo_ok X Gh (c.fact 9 (f := .glo "neighbour_table") rfl)
 have lN:Binds K fX ["network"] []:=FunD.bindsN D_neighbour_table fun _ _ _ _ _ _ us hl=>match us,hl with | [_],_=>rfl
 obtain ⟨ie,D_check_service⟩:=c.def_ 10 (d:=Hd.mkD "check_service" (Hd.top 21)) rfl
 have oU:=He.glo_ok X Gh (c.fact 10 (f := .glo "check_service") rfl)
 have oV:Binds K ie ["network", "value"] []:=FunD.bindsN D_check_service fun _ _ _ _ _ _ us hl=>match us,hl with | [_,_],_=>rfl
 obtain ⟨mG,D_in_the_way⟩:=c.def_ 19 (d:=Hd.mkD "in_the_way" (Hd.top 31)) rfl
 have vM:=He.glo_ok X Gh (c.fact 19 (f := .glo "in_the_way") rfl)
 have vN:Binds K mG ["network", "catalog", "state", "service", "release"] []:=FunD.bindsN D_in_the_way fun _ _ _ _ _ _ us hl=>match us,hl with | [_,_,_,_,_],_=>rfl
 obtain ⟨rM,D_blockers⟩:=c.def_ 20 (d:=Hd.mkD "blockers" (Hd.top 32)) rfl
 have Ay:=He.glo_ok X Gh (c.fact 20 (f := .glo "blockers") rfl)
 have Az:Binds K rM ["network", "catalog", "state", "service", "release"] []:=FunD.bindsN D_blockers fun _ _ _ _ _ _ us hl=>match us,hl with | [_,_,_,_,_],_=>rfl
 obtain ⟨vP,D_changed⟩:=c.def_ 21 (d:=Hd.mkD "changed" (Hd.top 33)) rfl
 have G3:=He.glo_ok X Gh (c.fact 21 (f := .glo "changed") rfl)
 have G4:Binds K vP ["network", "state", "service", "release"] []:=FunD.bindsN D_changed fun _ _ _ _ _ _ us hl=>match us,hl with | [_,_,_,_],_=>rfl
 obtain ⟨zR,D_all_at⟩:=c.def_ 23 (d:=Hd.mkD "all_at" (Hd.top 36)) rfl
 have Jw:=He.glo_ok X Gh (c.fact 23 (f := .glo "all_at") rfl)
 have Jx:Binds K zR ["network", "release"] []:=FunD.bindsN D_all_at fun _ _ _ _ _ _ us hl=>match us,hl with | [_,_],_=>rfl
 obtain ⟨pY,D__law_deck⟩:=c.def_ 32 (d:=Hd.mkD "_law_deck" (Hd.top 53)) rfl
 have yj:=He.glo_ok X Gh (c.fact 32 (f := .glo "_law_deck") rfl)
 have ym:Binds K pY ["_law_script", "_law_k"] []:=FunD.bindsN D__law_deck fun _ _ _ _ _ _ us hl=>match us,hl with | [_,_],_=>rfl
 obtain ⟨az,D__law_draw⟩:=c.def_ 33 (d:=Hd.mkD "_law_draw" (Hd.top 54)) rfl
 have aX:=He.glo_ok X Gh (c.fact 33 (f := .glo "_law_draw") rfl)
 have aY:Binds K az ["_law_deck_here", "_law_many"] []:=FunD.bindsN D__law_draw fun _ _ _ _ _ _ us hl=>match us,hl with | [_,_],_=>rfl
 obtain ⟨bZ,D__law_any⟩:=c.def_ 34 (d:=Hd.mkD "_law_any" (Hd.top 55)) rfl
 have bj:=He.glo_ok X Gh (c.fact 34 (f := .glo "_law_any") rfl)
 have bu:Binds K bZ ["_law_deck_here", "_law_items"] []:=FunD.bindsN D__law_any fun _ _ _ _ _ _ us hl=>match us,hl with | [_,_],_=>rfl
 obtain ⟨ju,D__law_turned⟩:=c.def_ 35 (d:=Hd.mkD "_law_turned" (Hd.top 56)) rfl
 have tY:=He.glo_ok X Gh (c.fact 35 (f := .glo "_law_turned") rfl)
 have tZ:Binds K ju ["_law_deck_here", "_law_items"] []:=FunD.bindsN D__law_turned fun _ _ _ _ _ _ us hl=>match us,hl with | [_,_],_=>rfl
 obtain ⟨dC,D__law_names⟩:=c.def_ 36 (d:=Hd.mkD "_law_names" (Hd.top 57)) rfl
 have fJ:=He.glo_ok X Gh (c.fact 36 (f := .glo "_law_names") rfl)
 have fK:Binds K dC ["_law_deck_here", "_law_many"] []:=FunD.bindsN D__law_names fun _ _ _ _ _ _ us hl=>match us,hl with | [_,_],_=>rfl
 obtain ⟨mJ,D__law_chain⟩:=c.def_ 37 (d:=Hd.mkD "_law_chain" (Hd.top 58)) rfl
 have vY:=He.glo_ok X Gh (c.fact 37 (f := .glo "_law_chain") rfl)
 have vZ:Binds K mJ ["_law_deck_here", "_law_steps", "_law_more"] []:=FunD.bindsN D__law_chain fun _ _ _ _ _ _ us hl=>match us,hl with | [_,_,_],_=>rfl
 obtain ⟨jH,D__law_catalog⟩:=c.def_ 38 (d:=Hd.mkD "_law_catalog" (Hd.top 59)) rfl
 have rB:=He.glo_ok X Gh (c.fact 38 (f := .glo "_law_catalog") rfl)
 have rC:Binds K jH ["_law_deck_here", "_law_many"] []:=FunD.bindsN D__law_catalog fun _ _ _ _ _ _ us hl=>match us,hl with | [_,_],_=>rfl
 obtain ⟨jG,D__law_network⟩:=c.def_ 39 (d:=Hd.mkD "_law_network" (Hd.top 60)) rfl
 have qp:=He.glo_ok X Gh (c.fact 39 (f := .glo "_law_network") rfl)
 have qu:Binds K jG ["_law_deck_here", "_law_many", "_law_is_sided"] []:=FunD.bindsN D__law_network fun _ _ _ _ _ _ us hl=>match us,hl with | [_,_,_],_=>rfl
 obtain ⟨jx,D__law_shared⟩:=c.def_ 40 (d:=Hd.mkD "_law_shared" (Hd.top 61)) rfl
 have uB:=He.glo_ok X Gh (c.fact 40 (f := .glo "_law_shared") rfl)
 have uC:Binds K jx ["_law_catalog_here", "_law_one", "_law_other"] []:=FunD.bindsN D__law_shared fun _ _ _ _ _ _ us hl=>match us,hl with | [_,_,_],_=>rfl
 obtain ⟨jy,D__law_beside⟩:=c.def_ 41 (d:=Hd.mkD "_law_beside" (Hd.top 62)) rfl
 have uF:=He.glo_ok X Gh (c.fact 41 (f := .glo "_law_beside") rfl)
 have uG:Binds K jy ["_law_network_here"] []:=FunD.bindsN D__law_beside fun _ _ _ _ _ _ us hl=>match us,hl with | [_],_=>rfl
 obtain ⟨gR,gU⟩:=c.def_ 42 (d:=Hd.mkD "_law_caught" (Hd.top 63)) rfl
 have j8:=He.glo_ok X Gh (c.fact 42 (f := .glo "_law_caught") rfl)
 have j9:Binds K gR ["_law_ask"] []:=FunD.bindsN gU fun _ _ _ _ _ _ us hl=>match us,hl with | [_],_=>rfl
 obtain ⟨pO,D__law_case⟩:=c.def_ 43 (d:=Hd.mkD "_law_case" (Hd.top 64)) rfl
 have yX:=He.glo_ok X Gh (c.fact 43 (f := .glo "_law_case") rfl)
 have yZ:Binds K pO ["_law_deck_here", "_law_most"] []:=FunD.bindsN D__law_case fun _ _ _ _ _ _ us hl=>match us,hl with | [_,_],_=>rfl
 obtain ⟨rP,D__law_way⟩:=c.def_ 44 (d:=Hd.mkD "_law_way" (Hd.top 65)) rfl
 have BP:=He.glo_ok X Gh (c.fact 44 (f := .glo "_law_way") rfl)
 have BR:Binds K rP ["_law_net", "_law_rows", "_law_here", "_law_service", "_law_name"] []:=FunD.bindsN D__law_way fun _ _ _ _ _ _ us hl=>match us,hl with | [_,_,_,_,_],_=>rfl
 obtain ⟨rQ,D__law_put⟩:=c.def_ 45 (d:=Hd.mkD "_law_put" (Hd.top 66)) rfl
 have BX:=He.glo_ok X Gh (c.fact 45 (f := .glo "_law_put") rfl)
 have Ba:Binds K rQ ["_law_net", "_law_here", "_law_service", "_law_name"] []:=FunD.bindsN D__law_put fun _ _ _ _ _ _ us hl=>match us,hl with | [_,_,_,_],_=>rfl
 obtain ⟨pX,D__law_same⟩:=c.def_ 46 (d:=Hd.mkD "_law_same" (Hd.top 67)) rfl
 have ye:=He.glo_ok X Gh (c.fact 46 (f := .glo "_law_same") rfl)
 have yf:Binds K pX ["_law_fleet", "_law_net", "_law_rows", "_law_past"] []:=FunD.bindsN D__law_same fun _ _ _ _ _ _ us hl=>match us,hl with | [_,_,_,_],_=>rfl
 obtain ⟨jA,D__law_undone⟩:=c.def_ 47 (d:=Hd.mkD "_law_undone" (Hd.top 68)) rfl
 have uN:=He.glo_ok X Gh (c.fact 47 (f := .glo "_law_undone") rfl)
 have uO:Binds K jA ["_law_fleet", "_law_past"] []:=FunD.bindsN D__law_undone fun _ _ _ _ _ _ us hl=>match us,hl with | [_,_],_=>rfl
 obtain ⟨g8,D__law_replaced⟩:=c.def_ 48 (d:=Hd.mkD "_law_replaced" (Hd.top 69)) rfl
 have pU:=He.glo_ok X Gh (c.fact 48 (f := .glo "_law_replaced") rfl)
 have pW:Binds K g8 ["_law_fleet", "_law_net", "_law_rows", "_law_past", "_law_service", "_law_name"] []:=FunD.bindsN D__law_replaced fun _ _ _ _ _ _ us hl=>match us,hl with | [_,_,_,_,_,_],_=>rfl
 obtain ⟨mU,D__law_right⟩:=c.def_ 49 (d:=Hd.mkD "_law_right" (Hd.top 70)) rfl
 have wJ:=He.glo_ok X Gh (c.fact 49 (f := .glo "_law_right") rfl)
 have wO:Binds K mU ["_law_deck_here"] []:=FunD.bindsN D__law_right fun _ _ _ _ _ _ us hl=>match us,hl with | [_],_=>rfl
 obtain ⟨d_law,D_law⟩:=c.def_ 50 (d:=Hd.mkD "law" (Hd.top 71)) rfl
 have e:=hfa.symm.trans (He.glo_ok X Gh (c.fact 50 (f := .glo "law") rfl))
 cases e
 have g_law:=He.glo_ok X Gh (c.fact 50 (f := .glo "law") rfl)
 have b_law:Binds K d_law ["_law_script"] []:=FunD.bindsN D_law fun _ _ _ _ _ _ us hl=>match us,hl with | [_],_=>rfl
 have fQ:mg "UpgradeError" = some (.ref (Tbs.cad "UpgradeError")):=He.glo_ok X Gh (c.fact 51 (f := .glo "UpgradeError") rfl)
 have yK:mg "NoRelease" = some (.ref (Tbs.cad "NoRelease")):=He.glo_ok X Gh (c.fact 52 (f := .glo "NoRelease") rfl)
 have yO:mg "NoService" = some (.ref (Tbs.cad "NoService")):=He.glo_ok X Gh (c.fact 53 (f := .glo "NoService") rfl)
 have g_Unreachable:mg "Unreachable" = some (.ref (Tbs.cad "Unreachable")):=He.glo_ok X Gh (c.fact 54 (f := .glo "Unreachable") rfl)
 have g_NotTwoSided:mg "NotTwoSided" = some (.ref (Tbs.cad "NotTwoSided")):=He.glo_ok X Gh (c.fact 55 (f := .glo "NotTwoSided") rfl)
 have jo:mg "Blocked" = some (.ref (Tbs.cad "Blocked")):=He.glo_ok X Gh (c.fact 56 (f := .glo "Blocked") rfl)
 have g_Mixed:mg "Mixed" = some (.ref (Tbs.cad "Mixed")):=He.glo_ok X Gh (c.fact 57 (f := .glo "Mixed") rfl)
 have cV:mg "NothingToUndo" = some (.ref (Tbs.cad "NothingToUndo")):=He.glo_ok X Gh (c.fact 58 (f := .glo "NothingToUndo") rfl)
 have g_Pairing:mg "Pairing" = some (.ref (Tbs.cad "Pairing")):=He.glo_ok X Gh (c.fact 59 (f := .glo "Pairing") rfl)
 have Bb:mg "Fleet" = some (.ref (Tbs.cad "Fleet")):=He.glo_ok X Gh (c.fact 60 (f := .glo "Fleet") rfl)
 obtain ⟨oM,D_NoRelease⟩:=c.def_ 51 (d:=Hd.mkM "NoRelease" "__init__" (bW (Hd.top 3) 0)) rfl
 have yJ:Binds K oM ["self", "value"] []:=FunD.bindsN D_NoRelease fun _ _ _ _ _ _ us hl=>match us,hl with | [_,_],_=>rfl
 have yH:("NoRelease" : Str)∈Tbs.nms:=(show ("NoRelease" : Str)∈Hd.nms by decide +kernel)
 have tH:Ce K (Tbs.cad "NoRelease") (He.ma K (He.ga K "NoRelease") "__init__") "value" := wW e_one_NoRelease
 obtain ⟨oN,D_NoService⟩:=c.def_ 52 (d:=Hd.mkM "NoService" "__init__" (bW (Hd.top 4) 0)) rfl
 have yN:Binds K oN ["self", "value"] []:=FunD.bindsN D_NoService fun _ _ _ _ _ _ us hl=>match us,hl with | [_,_],_=>rfl
 have yL:("NoService" : Str)∈Tbs.nms:=(show ("NoService" : Str)∈Hd.nms by decide +kernel)
 have tQ:Ce K (Tbs.cad "NoService") (He.ma K (He.ga K "NoService") "__init__") "value" := wW e_one_NoService
 obtain ⟨d_Unreachable,D_Unreachable⟩:=c.def_ 53 (d:=Hd.mkM "Unreachable" "__init__" (bW (Hd.top 5) 0)) rfl
 have b_Unreachable:Binds K d_Unreachable ["self", "names"] []:=FunD.bindsN D_Unreachable fun _ _ _ _ _ _ us hl=>match us,hl with | [_,_],_=>rfl
 have n_Unreachable:("Unreachable" : Str)∈Tbs.nms:=(show ("Unreachable" : Str)∈Hd.nms by decide +kernel)
 have T_Unreachable:Ce K (Tbs.cad "Unreachable") (He.ma K (He.ga K "Unreachable") "__init__") "names" := wW e_one_Unreachable
 obtain ⟨d_NotTwoSided,D_NotTwoSided⟩:=c.def_ 54 (d:=Hd.mkM "NotTwoSided" "__init__" (bW (Hd.top 6) 0)) rfl
 have b_NotTwoSided:Binds K d_NotTwoSided ["self", "cycle"] []:=FunD.bindsN D_NotTwoSided fun _ _ _ _ _ _ us hl=>match us,hl with | [_,_],_=>rfl
 have n_NotTwoSided:("NotTwoSided" : Str)∈Tbs.nms:=(show ("NotTwoSided" : Str)∈Hd.nms by decide +kernel)
 have T_NotTwoSided:Ce K (Tbs.cad "NotTwoSided") (He.ma K (He.ga K "NotTwoSided") "__init__") "cycle" := wW e_one_NotTwoSided
 obtain ⟨vO,D_Blocked⟩:=c.def_ 55 (d:=Hd.mkM "Blocked" "__init__" (bW (Hd.top 7) 0)) rfl
 have Fw:Binds K vO ["self", "services"] []:=FunD.bindsN D_Blocked fun _ _ _ _ _ _ us hl=>match us,hl with | [_,_],_=>rfl
 have Ft:("Blocked" : Str)∈Tbs.nms:=(show ("Blocked" : Str)∈Hd.nms by decide +kernel)
 have zV:Ce K (Tbs.cad "Blocked") (He.ma K (He.ga K "Blocked") "__init__") "services" := wW e_one_Blocked
 obtain ⟨d_Mixed,D_Mixed⟩:=c.def_ 56 (d:=Hd.mkM "Mixed" "__init__" (bW (Hd.top 8) 0)) rfl
 have b_Mixed:Binds K d_Mixed ["self", "present"] []:=FunD.bindsN D_Mixed fun _ _ _ _ _ _ us hl=>match us,hl with | [_,_],_=>rfl
 have n_Mixed:("Mixed" : Str)∈Tbs.nms:=(show ("Mixed" : Str)∈Hd.nms by decide +kernel)
 have T_Mixed:Ce K (Tbs.cad "Mixed") (He.ma K (He.ga K "Mixed") "__init__") "present" := wW e_one_Mixed
 obtain ⟨il,D_NothingToUndo⟩:=c.def_ 57 (d:=Hd.mkM "NothingToUndo" "__init__" (bW (Hd.top 9) 0)) rfl
 have oZ:Binds K il ["self"] []:=FunD.bindsN D_NothingToUndo fun _ _ _ _ _ _ us hl=>match us,hl with | [_],_=>rfl
 have oX:("NothingToUndo" : Str)∈Tbs.nms:=(show ("NothingToUndo" : Str)∈Hd.nms by decide +kernel)
 have jt:V3 K (Tbs.cad "NothingToUndo") (He.ma K (He.ga K "NothingToUndo") "__init__"):=XR e_one_NothingToUndo
 obtain ⟨mQ,D_Fleet_init⟩:=c.def_ 58 (d:=Hd.mkM "Fleet" "__init__" (bW (Hd.top 51) 1)) rfl
 have wG:Binds K mQ ["self", "network", "catalog", "start"] []:=FunD.bindsN D_Fleet_init fun _ _ _ _ _ _ us hl=>match us,hl with | [_,_,_,_],_=>rfl
 have Oj:Mk K (Tbs.cad "Fleet") (He.ma K (He.ga K "Fleet") "__init__"):=aB1 e_mk_Fleet
 obtain ⟨iz,D_Fleet___len__⟩:=c.def_ 59 (d:=Hd.mkM "Fleet" "__len__" (bW (Hd.top 51) 3)) rfl
 have pM:Binds K iz ["self"] []:=FunD.bindsN D_Fleet___len__ fun _ _ _ _ _ _ us hl=>match us,hl with | [_],_=>rfl
 have kJ:Meth K (Tbs.cad "Fleet") "__len__" (He.ma K (He.ga K "Fleet") "__len__"):=wX e_y_Fleet___len__
 obtain ⟨oh,D_Fleet_log⟩:=c.def_ 60 (d:=Hd.mkM "Fleet" "log" (bW (Hd.top 51) 8)) rfl
 have yR:Binds K oh ["self"] []:=FunD.bindsN D_Fleet_log fun _ _ _ _ _ _ us hl=>match us,hl with | [_],_=>rfl
 have yS:Meth K (Tbs.cad "Fleet") "log" (He.ma K (He.ga K "Fleet") "log"):=wX e_y_Fleet_log
 obtain ⟨jr,D_Fleet_store⟩:=c.def_ 61 (d:=Hd.mkM "Fleet" "store" (bW (Hd.top 51) 9)) rfl
 have tU:Binds K jr ["self", "present", "replacements"] []:=FunD.bindsN D_Fleet_store fun _ _ _ _ _ _ us hl=>match us,hl with | [_,_,_],_=>rfl
 have tV:Meth K (Tbs.cad "Fleet") "store" (He.ma K (He.ga K "Fleet") "store"):=wX e_y_Fleet_store
 obtain ⟨cJ,D_Fleet_check_replacement⟩:=c.def_ 62 (d:=Hd.mkM "Fleet" "check_replacement" (bW (Hd.top 51) 10)) rfl
 have fO:Binds K cJ ["self", "service", "release"] []:=FunD.bindsN D_Fleet_check_replacement fun _ _ _ _ _ _ us hl=>match us,hl with | [_,_,_],_=>rfl
 have fP:Meth K (Tbs.cad "Fleet") "check_replacement" (He.ma K (He.ga K "Fleet") "check_replacement"):=wX e_y_Fleet_check_replacement
 obtain ⟨j5,D_Fleet_replace⟩:=c.def_ 63 (d:=Hd.mkM "Fleet" "replace" (bW (Hd.top 51) 11)) rfl
 have kZ:Binds K j5 ["self", "service", "release"] []:=FunD.bindsN D_Fleet_replace fun _ _ _ _ _ _ us hl=>match us,hl with | [_,_,_],_=>rfl
 have kh:Meth K (Tbs.cad "Fleet") "replace" (He.ma K (He.ga K "Fleet") "replace"):=wX e_y_Fleet_replace
 obtain ⟨mO,D_Fleet_undo⟩:=c.def_ 64 (d:=Hd.mkM "Fleet" "undo" (bW (Hd.top 51) 15)) rfl
 have wA:Binds K mO ["self"] []:=FunD.bindsN D_Fleet_undo fun _ _ _ _ _ _ us hl=>match us,hl with | [_],_=>rfl
 have wB:Meth K (Tbs.cad "Fleet") "undo" (He.ma K (He.ga K "Fleet") "undo"):=wX e_y_Fleet_undo
 obtain ⟨ir,D_Fleet_network⟩:=cp.def_ 0 (d:=Hd.mkM "Fleet" "network" (bW (Hd.top 51) 4)) rfl
 have pA:Binds K ir ["self"] []:=FunD.bindsN D_Fleet_network fun _ _ _ _ _ _ us hl=>match us,hl with | [_],_=>rfl
 have pC:PropOf K (Tbs.cad "Fleet") "network" (prA K ("Fleet",some "network")) (pAd K ("Fleet",some "network")):=Dm e_p_Fleet_network
 obtain ⟨iw,D_Fleet_catalog⟩:=cp.def_ 1 (d:=Hd.mkM "Fleet" "catalog" (bW (Hd.top 51) 5)) rfl
 have pH:Binds K iw ["self"] []:=FunD.bindsN D_Fleet_catalog fun _ _ _ _ _ _ us hl=>match us,hl with | [_],_=>rfl
 have pJ:PropOf K (Tbs.cad "Fleet") "catalog" (prA K ("Fleet",some "catalog")) (pAd K ("Fleet",some "catalog")):=Dm e_p_Fleet_catalog
 obtain ⟨kE,D_Fleet_state⟩:=cp.def_ 2 (d:=Hd.mkM "Fleet" "state" (bW (Hd.top 51) 6)) rfl
 have uI:Binds K kE ["self"] []:=FunD.bindsN D_Fleet_state fun _ _ _ _ _ _ us hl=>match us,hl with | [_],_=>rfl
 have uJ:PropOf K (Tbs.cad "Fleet") "state" (prA K ("Fleet",some "state")) (pAd K ("Fleet",some "state")):=Dm e_p_Fleet_state
 obtain ⟨mK,D_Fleet_made⟩:=cp.def_ 3 (d:=Hd.mkM "Fleet" "made" (bW (Hd.top 51) 7)) rfl
 have vg:Binds K mK ["self"] []:=FunD.bindsN D_Fleet_made fun _ _ _ _ _ _ us hl=>match us,hl with | [_],_=>rfl
 have vh:PropOf K (Tbs.cad "Fleet") "made" (prA K ("Fleet",some "made")) (pAd K ("Fleet",some "made")):=Dm e_p_Fleet_made
 have eQ:aB9 K (Tbs.cad "Fleet") "MOST_SERVICES" 12:=XS e_cn_Fleet_MOST_SERVICES
 have aZ:Cls K (Tbs.cad "Fleet"):=X5 e_c_Fleet
 have aQ:NoAttr K (Tbs.cad "Fleet") "network_held" := Ah e_a_Fleet_network_held
 have bM:NoAttr K (Tbs.cad "Fleet") "catalog_held" := Ah e_a_Fleet_catalog_held
 have aN:NoAttr K (Tbs.cad "Fleet") "moment" := Ah e_a_Fleet_moment
 have ig:=He.free_ok X Gh (c.fact 73 (f := .free "len") rfl)
 have aAh:=He.free_ok X Gh (c.fact 81 (f := .free "min") rfl)
 have aAi:=He.free_ok X Gh (c.fact 79 (f := .free "max") rfl)
 have gQ:=He.free_ok X Gh (c.fact 65 (f := .free "range") rfl)
 have aAj:=He.free_ok X Gh (c.fact 70 (f := .free "all") rfl)
 have Xy:=He.free_ok X Gh (c.fact 78 (f := .free "abs") rfl)
 have aAf:=He.free_ok X Gh (c.fact 75 (f := .free "int") rfl)
 have yP:=He.free_ok X Gh (c.fact 67 (f := .free "enumerate") rfl)
 have iJ:=He.free_ok X Gh (c.fact 64 (f := .free "tuple") rfl)
 have gM:=He.free_ok X Gh (c.fact 66 (f := .free "sorted") rfl)
 have aAg:=He.free_ok X Gh (c.fact 80 (f := .free "set") rfl)
 have zY:=He.free_ok X Gh (c.fact 74 (f := .free "list") rfl)
 have cG:=He.free_ok X Gh (c.fact 71 (f := .free "isinstance") rfl)
 have SQ:=He.free_ok X Gh (c.fact 72 (f := .free "str") rfl)
 have jj:=He.free_ok X Gh (c.fact 68 (f := .free "dict") rfl)
 have Sh:=He.free_ok X Gh (c.fact 77 (f := .free "zip") rfl)
 have Sd:=He.free_ok X Gh (c.fact 69 (f := .free "any") rfl)
 have Qy:=He.free_ok X Gh (c.fact 76 (f := .free "repr") rfl)
 have bl:=FunD.bindsA (ps:=["_law_script"]) D_law fun _ _ _ _ _ _ us hl=>match us,hl with | [_],_=>rfl
 refine ⟨K,d_law,Hd.tf.map (He.cT K),ASp K [false] Vp,X,fun z hz => ?_,fun z hz => ?_,fun z hz => ?_,fun s v=>bl s [v] rfl,fun H a ns hl hO hS=>Wj (Rq hO fun z hz => ?_) hS ⟨_,rfl,fun t m=>by obtain ⟨i,_,rfl⟩:=List.mem_map.mp m;exact ⟨i,rfl⟩,rfl⟩ fun _=>rfl,fun base KB GB TB => ?_⟩
 ·obtain ⟨y,hy,rfl⟩:=List.mem_map.mp hz;exact cx.empty y hy
 ·obtain ⟨y,hy,rfl⟩:=List.mem_map.mp hz;exact cx.out y hy
 ·obtain ⟨y,hy,rfl⟩:=List.mem_map.mp hz;exact PySem.W.codeHd_of_K X (cx.hd y hy)
 ·have hz:z∈([((He.cT K ("_law_undone",none)).2,(("_law_undone" : Str) ++ ".<locals>." ++ "<lambda>")),((He.cT K ("_law_replaced",none)).2,(("_law_replaced" : Str) ++ ".<locals>." ++ "<lambda>"))]:List (Addr×Str)):=hz
  simp only [List.mem_cons,List.not_mem_nil,or_false] at hz
  rcases hz with rfl | rfl
  ·exact List.mem_map.mpr ⟨_,List.mem_map.mpr ⟨("_law_undone",none),List.mem_cons_self,rfl⟩,rfl⟩
  ·exact List.mem_map.mpr ⟨_,List.mem_map.mpr ⟨("_law_replaced",none),(List.mem_cons_of_mem _ List.mem_cons_self),rfl⟩,rfl⟩
 have uK:aAn base mg jA.code (("_law_undone" : Str) ++ ".<locals>." ++ "<lambda>") (He.cT K ("_law_undone",none)).1 (He.cT K ("_law_undone",none)).2:=Ue (p:=("_law_undone",none)) D__law_undone (TB _ (List.mem_map.mpr ⟨("_law_undone",none),List.mem_cons_self,rfl⟩)) List.mem_cons_self fun z hz ez=>by
  have hz:z∈([((He.cT K ("_law_undone",none)).2,(("_law_undone" : Str) ++ ".<locals>." ++ "<lambda>")),((He.cT K ("_law_replaced",none)).2,(("_law_replaced" : Str) ++ ".<locals>." ++ "<lambda>"))]:List (Addr×Str)):=hz
  simp only [List.mem_cons,List.not_mem_nil,or_false] at hz
  rcases hz with rfl | rfl
  ·rfl
  ·exact absurd ez.symm (of_decide_eq_true e_lam_0_1)
 have pN:aAn base mg g8.code (("_law_replaced" : Str) ++ ".<locals>." ++ "<lambda>") (He.cT K ("_law_replaced",none)).1 (He.cT K ("_law_replaced",none)).2:=Ue (p:=("_law_replaced",none)) D__law_replaced (TB _ (List.mem_map.mpr ⟨("_law_replaced",none),(List.mem_cons_of_mem _ List.mem_cons_self),rfl⟩)) (List.mem_cons_of_mem _ List.mem_cons_self) fun z hz ez=>by
  have hz:z∈([((He.cT K ("_law_undone",none)).2,(("_law_undone" : Str) ++ ".<locals>." ++ "<lambda>")),((He.cT K ("_law_replaced",none)).2,(("_law_replaced" : Str) ++ ".<locals>." ++ "<lambda>"))]:List (Addr×Str)):=hz
  simp only [List.mem_cons,List.not_mem_nil,or_false] at hz
  rcases hz with rfl | rfl
  ·exact absurd ez (of_decide_eq_true e_lam_0_1)
  ·rfl
 have yI:FnOk P w K mg base CX0 1 (He.ma K (He.ga K "NoRelease") "__init__") oM ["self", "value"] (Bx K (Tbs.cad "NoRelease") "value"):=Nk (Dj fQ e_base_UpgradeError) tH D_NoRelease ⟨rfl,rfl,rfl,by decide +kernel,rfl,by decide +kernel,by decide +kernel⟩ (fun _ _ _=>rfl) (by decide) (by decide) (by decide) (fun _ _ _ => .inl rfl) (fun _ _ _ => .inl rfl) (fun _=>⟨_,rfl⟩) (fun _=>rfl) (fun _=>rfl)
 have yM:FnOk P w K mg base CX0 1 (He.ma K (He.ga K "NoService") "__init__") oN ["self", "value"] (Bx K (Tbs.cad "NoService") "value"):=Nk (Dj fQ e_base_UpgradeError) tQ D_NoService ⟨rfl,rfl,rfl,by decide +kernel,rfl,by decide +kernel,by decide +kernel⟩ (fun _ _ _=>rfl) (by decide) (by decide) (by decide) (fun _ _ _ => .inl rfl) (fun _ _ _ => .inl rfl) (fun _=>⟨_,rfl⟩) (fun _=>rfl) (fun _=>rfl)
 have Fv:FnOk P w K mg base CX0 1 (He.ma K (He.ga K "Blocked") "__init__") vO ["self", "services"] (Bx K (Tbs.cad "Blocked") "services"):=Nk (Dj fQ e_base_UpgradeError) zV D_Blocked ⟨rfl,rfl,rfl,by decide +kernel,rfl,by decide +kernel,by decide +kernel⟩ (fun _ _ _=>rfl) (by decide) (by decide) (by decide) (fun _ _ _ => .inl rfl) (fun _ _ _ => .inl rfl) (fun _=>⟨_,rfl⟩) (fun _=>rfl) (fun _=>rfl)
 have oY:FnOk P w K mg base CX0 1 (He.ma K (He.ga K "NothingToUndo") "__init__") il ["self"] (Jc K (Tbs.cad "NothingToUndo")):=XM (Dj fQ e_base_UpgradeError) jt D_NothingToUndo ⟨rfl,rfl,rfl,by decide +kernel,rfl,by decide +kernel,by decide +kernel⟩ (fun _ _ _=>rfl) (by decide) (fun _ _ _ => .inl rfl) (fun _=>⟨_,rfl⟩) (fun _=>rfl)
 have yh:FnG P w K mg base CX0 1 _ pY ["_law_script", "_law_k"] (ASp K [false,false] qL):=WG.MP D__law_deck ig Xy aAf (rd:=Lq)
 have aW:FnG P w K mg base CX0 1 _ az ["_law_deck_here", "_law_many"] (ASp K [true,false] au):=WG.MT D__law_draw  (rd:=Lp)
 have bh:FnG P w K mg base CX0 2 _ bZ ["_law_deck_here", "_law_items"] (ASp K [true,false] bQ):=WG.Oe D__law_any ig aW aX D__law_draw.kp aY (rd:=Ny)
 have fH:FnG P w K mg base CX0 3 _ dC ["_law_deck_here", "_law_many"] (ASp K [true,false] fD):=WG.K6 D__law_names bh bj D__law_any.kp bu aW aX D__law_draw.kp aY gQ gM (rd:=Jd)
 have qm:FnG P w K mg base CX0 4 _ jG ["_law_deck_here", "_law_many", "_law_is_sided"] (ASp K [true,false,false] jW):=WG.G7 D__law_network fH fJ D__law_names.kp fK bh bj D__law_any.kp bu aW aX D__law_draw.kp aY yP gQ ig iJ (rd:=FW)
 have rA:FnG P w K mg base CX0 4 _ jH ["_law_deck_here", "_law_many"] (ASp K [true,false] jX):=WG.G6 D__law_catalog bh bj D__law_any.kp bu fH fJ D__law_names.kp fK aW aX D__law_draw.kp aY gQ gM aAg iJ (rd:=Fd)
 have tX:FnG P w K mg base CX0 2 _ ju ["_law_deck_here", "_law_items"] (ASp K [true,false] lQ):=WG.HH D__law_turned zY ig aW aX D__law_draw.kp aY (rd:=Gm)
 have vX:FnG P w K mg base CX0 4 _ mJ ["_law_deck_here", "_law_steps", "_law_more"] (ASp K [true,false,false] nY):=WG.K7 D__law_chain fH fJ D__law_names.kp fK tX tY D__law_turned.kp tZ bh bj D__law_any.kp bu gQ aW aX D__law_draw.kp aY gM iJ (rd:=Je)
 have yW:FnG P w K mg base CX0 5 _ pO ["_law_deck_here", "_law_most"] (ASp K [true,false] qT):=WG.Ma D__law_case aW aX D__law_draw.kp aY qm qp D__law_network.kp qu rA rB D__law_catalog.kp rC vX vY D__law_chain.kp vZ bh bj D__law_any.kp bu (rd:=M8)
 have tD:FnG P w K mg base CX0 1 _ jk ["catalog", "value"] (ASp K [false,false] lX):=WG.Gy D_has_release cG SQ jj (rd:=Gp)
 have fY:FnG P w K mg base (L2.CX P w) 3 _ d8 ["catalog", "value"] (Mj K [false,false].length eV):=WG.Cu D_check_release tD tE D_has_release.kp tG tH yH yI yJ yK (rd:=Ci)
 have Jv:FnG P w K mg base CX0 1 _ zR ["network", "release"] (ASp K [false,false] zM):=WG.Vq D_all_at ig (rd:=Vf)
 have wD:FnG P w K mg base CX0 4 _ mQ ["self", "network", "catalog", "start"] (ASp K [true,false,false,false] nu):=WG.Jt D_Fleet_init fY fZ D_check_release.kp fj aZ aQ bM Jv Jw D_all_at.kp Jx aN (rd:=Jj)
 have jw:=WG.jw (P:=P) (w:=w) (K:=K) (mg:=mg) (base:=base) fQ qj
 have w6:FnG P w K mg base (L2.CX P w) 3 _ mO ["self"] (Lk K [true] o8):=WG.Jz D_Fleet_undo aZ aN jt oX oY oZ cV (rd:=Jl)
 have uM:FnG P w K mg base CX0 12 _ jA ["_law_fleet", "_law_past"] (ASp K [true,true] lg):=WG.HX D__law_undone uK jw gU j8 j9 w6 wA aZ wB ig hE cV fu cG jo rO (rd:=Gx)
 have uA:FnG P w K mg base CX0 1 _ jx ["_law_catalog_here", "_law_one", "_law_other"] (ASp K [false,false,false] jD):=WG.HJ D__law_shared zY jj Sd (rd:=Gq)
 have uE:FnG P w K mg base CX0 1 _ jy ["_law_network_here"] (ASp K [false] lV):=WG.HQ D__law_beside jj gM (rd:=Gn)
 have BK:FnG P w K mg base CX0 2 _ rP ["_law_net", "_law_rows", "_law_here", "_law_service", "_law_name"] (ASp K [false,false,false,false,false] sY):=WG.Og D__law_way jj zY Sh uA uB D__law_shared.kp uC uE uF D__law_beside.kp uG iJ (rd:=O8)
 have tL:FnG P w K mg base CX0 1 _ jn ["network", "value"] (ASp K [false,false] lY):=WG.Gz D_has_service cG SQ (rd:=Gr)
 have oR:FnG P w K mg base (L2.CX P w) 3 _ ie ["network", "value"] (Mj K [false,false].length jK):=WG.Cv D_check_service tL tM D_has_service.kp tO tQ yL yM yN yO (rd:=Cj)
 have OJ:FnG P w K mg base CX0 1 _ Fj ["catalog", "name"] (ASp K [false,false] Dr):=WG.Xw D_mates jj Sd (rd:=Xl)
 have lL:FnG P w K mg base CX0 1 _ fX ["network"] (ASp K [false] fG):=WG.zN D_neighbour_table gM (rd:=zH)
 have vL:FnG P w K mg base CX0 2 _ mG ["network", "catalog", "state", "service", "release"] (ASp K [false,false,false,false,false] nq):=WG.Jr D_in_the_way jj Sh OJ Oa D_mates.kp Oc lL lM D_neighbour_table.kp lN iJ (rd:=Jh)
 have Ax:FnG P w K mg base (L2.CX P w) 4 _ rM ["network", "catalog", "state", "service", "release"] (Mj K [false,false,false,false,false].length sV):=WG.Od D_blockers oR oU D_check_service.kp oV fY fZ D_check_release.kp fj vL vM D_in_the_way.kp vN (rd:=O6)
 have fM:FnG P w K mg base (L2.CX P w) 5 _ cJ ["self", "service", "release"] (Lk K [true,false,false] cY):=WG.qD D_Fleet_check_replacement aZ aQ bM aN Ax Ay D_blockers.kp Az zV Ft Fv Fw jo (rd:=qC)
 have tR:FnG P w K mg base CX0 1 _ jr ["self", "present", "replacements"] (ASp K [true,false,false] lZ):=WG.HF D_Fleet_store aZ aN (rd:=Gv)
 have Fy:FnG P w K mg base CX0 1 _ vP ["network", "state", "service", "release"] (ASp K [false,false,false,false] ww):=WG.Sq D_changed  (rd:=SN)
 have kY:FnG P w K mg base (L2.CX P w) 6 _ j5 ["self", "service", "release"] (Lk K [true,false,false] iH):=WG.DK D_Fleet_replace fM fO aZ fP tR tU tV aQ aN Fy G3 D_changed.kp G4 (rd:=Cq)
 have BW:FnG P w K mg base CX0 1 _ rQ ["_law_net", "_law_here", "_law_service", "_law_name"] (ASp K [false,false,false,false] sr):=WG.Oh D__law_put  (rd:=O9)
 have pQ:FnG P w K mg base CX0 12 _ g8 ["_law_fleet", "_law_net", "_law_rows", "_law_past", "_law_service", "_law_name"] (ASp K [true,false,false,true,false,false] jL):=WG.DQ D__law_replaced BK BP D__law_way.kp BR pN jw gU j8 j9 kY kZ aZ kh hE jo rO cG cV fu yU BW BX D__law_put.kp Ba (rd:=Cr)
 have uH:FnG P w K mg base CX0 1 _ kE ["self"] (ASp K [true] jE):=WG.HD D_Fleet_state aZ aN (rd:=Gu)
 have yQ:FnG P w K mg base CX0 1 _ oh ["self"] (ASp K [true] mF):=WG.MK D_Fleet_log aZ aN (rd:=M7)
 have vf:FnG P w K mg base CX0 1 _ mK ["self"] (ASp K [true] jc):=WG.Jy D_Fleet_made aZ aN ig (rd:=Jk)
 have ou:FnG P w K mg base CX0 1 _ ir ["self"] (ASp K [true] iD):=WG.Cz D_Fleet_network aZ aQ (rd:=Cm)
 have pF:FnG P w K mg base CX0 1 _ iw ["self"] (ASp K [true] iG):=WG.DG D_Fleet_catalog aZ bM (rd:=Cp)
 have pK:FnG P w K mg base CX0 1 _ iz ["self"] (ASp K [true] gq):=WG.Cy D_Fleet___len__ aZ aQ ig (rd:=Ck)
 have yd:FnG P w K mg base CX0 3 _ pX ["_law_fleet", "_law_net", "_law_rows", "_law_past"] (ASp K [true,false,false,true] jQ):=WG.Mg D__law_same uH uI aZ uJ yQ yR yS vf vg vh ou pA pC pF pH pJ pK pM kJ ig Qy (rd:=M9)
 have wI:FnG P w K mg base CX0 13 _ mU ["_law_deck_here"] (ASp K [true] oA):=WG.KH D__law_right yW yX D__law_case.kp yZ wD wG Oj Bb ig gQ aW aX D__law_draw.kp aY uM uN D__law_undone.kp uO bh bj D__law_any.kp bu pQ pU D__law_replaced.kp pW yd ye D__law_same.kp yf eQ Bb (rd:=Jo)
 have F_law:FnG P w K mg base CX0 14 _ d_law ["_law_script"] (ASp K [false] Vp):=WG.aBt D_law ig aAh aAi gQ yh yj D__law_deck.kp ym wI wJ D__law_right.kp wO aAj (rd:=aBs)
 exact F_law
end Lw
open PySem PySem.W PySem.Calls PyProof.Rows
theorem PySem.Challenge.cw_gridupgrade_k61_fleets_beside_a_record_holds : PySem.Challenge.rw_gridupgrade_k61_fleets_beside_a_record.Holds := by
 w_on;o_law
 refine HandSHeadRun.head_any (r:=OpenLaw.row PySem.Challenge.rw_gridupgrade_k61_fleets_beside_a_record) (q:=view (OpenLaw.row PySem.Challenge.rw_gridupgrade_k61_fleets_beside_a_record).prog [71]) (H:=Hd.hk) (ob:=Hd.ob) (M:=7300) (loose:=Hd.lo) (d:=HandSHeadRun.topDef (OpenLaw.row PySem.Challenge.rw_gridupgrade_k61_fleets_beside_a_record).prog 71) (kwd:=[]) Hd.ob_eq
  (by kernel_rfl) (fun s=>by kernel_rfl) Hd.run (by kernel_rfl) (by kernel_rfl) (by kernel_rfl) (by rfl) (by first | assumption | decide +kernel) (by decide +kernel) ⟨rfl,rfl,rfl,rfl,rfl,by decide +kernel⟩ ?hw ?hc
 case hw=>w_witness2
 case hc =>
  refine DL.Ub (l:=PySem.Challenge.rw_gridupgrade_k61_fleets_beside_a_record) (n:=63) (k:=14) (x := "_law_script") rfl (by decide) (by kernel_rfl) ⟨rfl,by decide,by decide⟩ ?F
  intro w mg fa h Y G hmg0
  obtain ⟨K,KX,c⟩:=Y
  have hmg:mg ("law" : PySem.Str)=some (.ref fa):=by
   have e:(HandSHeadRun.topDef (OpenLaw.row PySem.Challenge.rw_gridupgrade_k61_fleets_beside_a_record).prog 71).name=("law" : PySem.Str):=by kernel_rfl
   rw [← e]
   exact hmg0
  exact Lw.aAk w KX G hmg c
