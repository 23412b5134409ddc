import PyProof.Rows.All
import PyProof.Rows.IntBool
import Wide.All
import OpenK.AllK
import Wide.FinOn
import KE.KStateDown
import HandS.ForMost
import HandS.NoneIn
import HandS.SetFor
import HandS.ForExc
import HandS.TupAny
import HandS.Wide
import HandS.Flow
import HandS.More
import HandS.Ends
import HandS.Defaults
import HandS.MakeKwOnly
import HandS.Head0
import HandS.Head1
import HandS.Head2
import HandS.HeadEnd
import HandS.HeadHook1
import HandS.HeadHook2
import HandS.HeadNt
import HandS.Words
import HandS.WordsExc
import HandS.Style
import HandS.SortKw
import HandS.IsInst
import HandS.Small
import HandS.Deep
import HandS.ClsMeth
import HandS.CallLocal
import KE.SortKeyHeap
import KE.IntTextText
import KE.KIntText
import KE.KOpsOwn
import OpenK.KMeth
import OpenK.KOps
import PyProof.ReprBulk
import PyProof.ReprRoads
import HandS.HeadHook3
import HandS.HeadHook4
import HandS.Lambda
import HandS.ExcField
import HandS.ExcInit
import KE.KDictKeyed
import KE.KeyNested
import HandS.EndTab
import HandS.TupSets
import PyProof.Conv_bool
import HandS.Set
import HandS.Strs
import PyProof.Rows.SortShellAny
import KE.KFmtOwn
import PyProof.InstEq
import HandS.Conv
import HandS.ForDict
import HandS.WordsDict
import HandS.ExcIs
import KE.KExcIs
import HandS.TryOnly
import HandS.RaiseMore
import HandS.Text
import HandS.Steps
import HandS.Walk
import KE.KDictPairs
import KE.SortData
import HandS.DictTup
import HandS.Records
import KE.SortCalls
import PyProof.P3Eq
import KE.KLam
import KE.DataMinKey
import KE.KDictWalk
import HandS.Property
import KE.DataMinMax
import KE.DataFind
import KE.LtData
import HandS.List
import PyProof.ListCopy
import PyProof.CallStr
import HandS.Zip
import KE.GoesZip
import KE.GoesMore
import KE.GoesEnum
import HandS.RevRange
import HandS.Iter
import KE.KDictDisplayH
import HandS.Dict
import PyProof.ListMulRoad
import PyProof.FactsAll.tuple_2
import HandS.Base
import HandS.Call
import HandS.TupMul
import HandS.SortInts
import KE.KSortTup
import PyProof.CollectIter
import PyProof.TupleIter
import PyProof.WalksMore
import HandS.SetKeys
import HandS.FStr
import HandS.Comp
import HandS.Exc
import HandS.ExcOwn
import HandS.HotCalls
import PyProof.StrOps2
import HandS.DictComp
import HandS.Sort
import HandS.TupLe
import HandS.ExcValue
import PySem.Challenge.RW_byteholds_k17_errors_kept
set_option Elab.async false
set_option linter.all false
set_option maxRecDepth 100000
set_option maxHeartbeats 4000000
namespace DL
open PySem PySem.Spec PyProof.Rows L2
def subSt (st : Stmt) (j : Nat) : Stmt := match st with
  | .ClassDef _ _ _ b _ _ _ _ _ _ _ => b.getD j (.Pass ⟨0, 0, 0, 0⟩)
  | _ => .Pass ⟨0, 0, 0, 0⟩
abbrev Fc := PySem.W.Frag → Bool
def obsF (fs : List Fc) (fn : List He5.DefA) (K : PySem.W.Frag) : He.AlD := ((fs.all fun f => f K) && fn.all fun d => d.ok K, fn.map fun d => He5.fnA K (d.at_ K))
def SaysF (fs : List Fc) (fn : List He5.DefA) (K : PySem.W.Frag) : Prop := obsF fs fn K = He5.valA fn
def fcGlo (x : Str) : Fc := fun K => (He.Fa.glo x).ok K
def fcFree (x : Str) : Fc := fun K => (He.Fa.free x).ok K
abbrev IsT := List (Str × Bool)
def fcExc (n : Str) : Fc := fun K => decide ((PySem.W.clsIn K (He.ga K n)).isSome = true) && (He.eqO (PySem.W.findIn K (.ref (He.ga K n)) "__getattribute__") (some (some (.builtin "BaseException.__getattribute__"))) && (He.eqO (PySem.W.findIn K (.ref (He.ga K n)) "__getattr__") (some none) &&
  (decide (PySem.W.subIn K (.ref (He.ga K n)) (.type "BaseException") = some true) && (He.eqO (PySem.W.findIn K (.ref (He.ga K n)) "__class__") (some (some (.builtin "object.__class__"))) && (He.eqO (PySem.W.specialIn K (.builtin "object.__class__") "__get__") (some (some (.builtin "getset_descriptor.__get__"))) &&
  (decide (PySem.W.takesIn K (.builtin "object.__class__") = some true) && decide (PySem.W.mroIn K (He.ga K n) (.type "object") = some true)))))))
abbrev TyT := List (String × Bool)
def fcIse (C : Str) (tb : IsT) (tt : TyT) : Fc := fun K => fcExc C K && ((tb.all fun p => decide (PySem.W.kitOne K (.ref (He.ga K C)) (.ref (He.ga K p.1)) = some p.2)) && tt.all fun p => decide (PySem.W.kitOne K (.ref (He.ga K C)) (.type p.1) = some p.2))
def isVI (r : Option PySem.W.CFound) : Bool := match r with
  | some (.val (.builtin i)) => i == "ValueError.__init__"
  | _ => false
def fcBas (n : Str) : Fc := fun K => PySem.W.readsIn K (He.ga K n) (.type "type") && (He.eqO (PySem.W.specialIn K (.ref (He.ga K n)) "__getattribute__") (some (some (.builtin "type.__getattribute__"))) &&
  isVI (PySem.W.findCls K (.ref (He.ga K n)) (.type "type") "__init__"))
def oexB (K : PySem.W.Frag) (C : Addr) : Bool := match K.lookup C with
  | some ⟨.type "type", _, .cls cd, sl⟩ => (match cd.mro, sl.toList with
    | .ref C' :: bm, [_, _, _, _, some (.builtin n), _] => C' == C && (n == "ValueError.__new__" && (!cd.hasDel && (cd.hasDict && PySem.HandSPX.refsVE bm)))
    | _, _ => false)
  | _ => false
def fcOx (n : Str) : Fc := fun K => oexB K (He.ga K n) && (He.eqO (PySem.W.findIn K (.ref (He.ga K n)) "__setattr__") (some (some (.builtin "object.__setattr__"))) && (decide (PySem.W.subIn K (.ref (He.ga K n)) (.type "BaseException") = some true) &&
  (decide (PySem.W.typeIn K (.ref (He.ga K n)) = some (.type "type")) && (PySem.W.keepIn K (.ref (He.ga K n)) && (He.eqO (PySem.W.findIn K (.ref (He.ga K n)) "__init__") (some (some (.ref (He.ma K (He.ga K n) "__init__")))) &&
  decide (PySem.W.typeIn K (.ref (He.ma K (He.ga K n) "__init__")) = some (.type "function")))))))
def lamDefs : List (He.Defn × Str) := [(("Table", some "in_the_way"), "Table.in_the_way.<locals>.<lambda>"), (("Table", some "locks"), "Table.locks.<locals>.<lambda>")]
def knownT (K : PySem.W.Frag) (p : He.Defn) : Bool := PySem.W.codeHdIn K (He.cT K p).1 (He.cT K p).2
def tabL (K : PySem.W.Frag) : List (Addr × Str) := (lamDefs.filter fun p => knownT K p.1).map fun p => ((He.cT K p.1).2, p.2)
def fcXf (n f : Str) : Fc := fun K => L2.xfB K (He.ga K n) && decide (PySem.W.findIn K (.ref (He.ga K n)) f = some none)
def TabsE (K : PySem.W.Frag) (h : Heap) : Prop := (∀ p ∈ tabL K, h.get? p.1 = some { cls := .none, data := .fields #[] } ∧ K.lookup p.1 = none) ∧ ∀ p ∈ tabL K, ∀ q ∈ tabL K, p.1 = q.1 → p.2 = q.2
theorem TabsE.keeps {K : PySem.W.Frag} {h h' : Heap} (t : TabsE K h) (k : ∀ b o, h.get? b = some o → h'.get? b = some o) : TabsE K h' := ⟨fun p hp => ⟨k _ _ (t.1 p hp).1, (t.1 p hp).2⟩, t.2⟩
def tabsE (g : Addr → Option Obj) (K : PySem.W.Frag) : Bool := (tabL K).all (fun p => match g p.1 with
  | some o => He.emptyTab o
  | none => false) && (tabL K).all fun p => (tabL K).all fun q => decide (p.1 = q.1 → p.2 = q.2)
theorem tabsE_ok {g : Addr → Option Obj} {as : List Addr} {h : Heap} (e : g = h.get?) (t : tabsE g (He.frT g as) = true) : TabsE (He.frT g as) h := by
  unfold tabsE at t
  rw [Bool.and_eq_true] at t
  refine ⟨fun p hp => ?_, fun p hp q hq => of_decide_eq_true (List.all_eq_true.mp (List.all_eq_true.mp t.2 p hp) q hq)⟩
  have h1 := List.all_eq_true.mp t.1 p hp
  cases q : g p.1 with
  | none => rw [q] at h1; cases h1
  | some o =>
    rw [q] at h1
    refine ⟨?_, He.frT_none q h1⟩
    rw [← e, q, He.emptyTab_eq h1]
def obsFT (fs : List Fc) (fn : List He5.DefA) (g : Addr → Option Obj) (K : PySem.W.Frag) : He.AlD := ((obsF fs fn K).1 && tabsE g K, (obsF fs fn K).2)
end DL

namespace DL
open PySem PySem.Spec PyProof.Rows L2
def fcLe (n : Str) : Fc := fun K => PySem.W.excIn K (He.ga K n) [.type "ValueError", .type "Exception", .type "BaseException", .type "object"] "ValueError.__new__" && PySem.W.keepIn K (.ref (He.ga K n))
end DL

namespace K17
open PySem PySem.Spec PyProof.Rows L2 DL
def top (i : Nat) : Stmt := PySem.Challenge.pw_byteholds_k17_errors_kept.main.body.getD i (.Pass ⟨0, 0, 0, 0⟩)
abbrev s_Wrong___init__ : Stmt := subSt (top 2) 0
abbrev s_Unfit___init__ : Stmt := subSt (top 3) 0
abbrev s_Held___init__ : Stmt := subSt (top 4) 0
abbrev s_TooMany___init__ : Stmt := subSt (top 5) 0
abbrev s_NoProcess___init__ : Stmt := subSt (top 6) 0
abbrev s_Waiting___init__ : Stmt := subSt (top 7) 0
abbrev s_NoDescriptor___init__ : Stmt := subSt (top 8) 0
abbrev s_Full___init__ : Stmt := subSt (top 9) 0
abbrev s_Ring___init__ : Stmt := subSt (top 10) 0
abbrev s_Idle___init__ : Stmt := subSt (top 11) 0
abbrev s_Nothing___init__ : Stmt := subSt (top 12) 0
abbrev s_NoEntry___init__ : Stmt := subSt (top 13) 0
abbrev s_NoText___init__ : Stmt := subSt (top 14) 0
abbrev s_NoCommand___init__ : Stmt := subSt (top 15) 0
abbrev s_law_bag : Stmt := top 17
abbrev s_law_take : Stmt := top 18
abbrev s_law_kinds : Stmt := top 21
abbrev s_law_thing : Stmt := top 19
abbrev s_law_made : Stmt := top 20
abbrev s_law : Stmt := top 22
def dd_Wrong___init__ : He5.DefA := ⟨fun K => He.ma K (He.ga K "Wrong") "__init__", "__init__", "Wrong.__init__", defArgs s_Wrong___init__, defBody s_Wrong___init__, defScope s_Wrong___init__, [], []⟩
def dd_Unfit___init__ : He5.DefA := ⟨fun K => He.ma K (He.ga K "Unfit") "__init__", "__init__", "Unfit.__init__", defArgs s_Unfit___init__, defBody s_Unfit___init__, defScope s_Unfit___init__, [], []⟩
def dd_Held___init__ : He5.DefA := ⟨fun K => He.ma K (He.ga K "Held") "__init__", "__init__", "Held.__init__", defArgs s_Held___init__, defBody s_Held___init__, defScope s_Held___init__, [], []⟩
def dd_TooMany___init__ : He5.DefA := ⟨fun K => He.ma K (He.ga K "TooMany") "__init__", "__init__", "TooMany.__init__", defArgs s_TooMany___init__, defBody s_TooMany___init__, defScope s_TooMany___init__, [], []⟩
def dd_NoProcess___init__ : He5.DefA := ⟨fun K => He.ma K (He.ga K "NoProcess") "__init__", "__init__", "NoProcess.__init__", defArgs s_NoProcess___init__, defBody s_NoProcess___init__, defScope s_NoProcess___init__, [], []⟩
def dd_Waiting___init__ : He5.DefA := ⟨fun K => He.ma K (He.ga K "Waiting") "__init__", "__init__", "Waiting.__init__", defArgs s_Waiting___init__, defBody s_Waiting___init__, defScope s_Waiting___init__, [], []⟩
def dd_NoDescriptor___init__ : He5.DefA := ⟨fun K => He.ma K (He.ga K "NoDescriptor") "__init__", "__init__", "NoDescriptor.__init__", defArgs s_NoDescriptor___init__, defBody s_NoDescriptor___init__, defScope s_NoDescriptor___init__, [], []⟩
def dd_Full___init__ : He5.DefA := ⟨fun K => He.ma K (He.ga K "Full") "__init__", "__init__", "Full.__init__", defArgs s_Full___init__, defBody s_Full___init__, defScope s_Full___init__, [], []⟩
def dd_Ring___init__ : He5.DefA := ⟨fun K => He.ma K (He.ga K "Ring") "__init__", "__init__", "Ring.__init__", defArgs s_Ring___init__, defBody s_Ring___init__, defScope s_Ring___init__, [], []⟩
def dd_Idle___init__ : He5.DefA := ⟨fun K => He.ma K (He.ga K "Idle") "__init__", "__init__", "Idle.__init__", defArgs s_Idle___init__, defBody s_Idle___init__, defScope s_Idle___init__, [], []⟩
def dd_Nothing___init__ : He5.DefA := ⟨fun K => He.ma K (He.ga K "Nothing") "__init__", "__init__", "Nothing.__init__", defArgs s_Nothing___init__, defBody s_Nothing___init__, defScope s_Nothing___init__, [], []⟩
def dd_NoEntry___init__ : He5.DefA := ⟨fun K => He.ma K (He.ga K "NoEntry") "__init__", "__init__", "NoEntry.__init__", defArgs s_NoEntry___init__, defBody s_NoEntry___init__, defScope s_NoEntry___init__, [], []⟩
def dd_NoText___init__ : He5.DefA := ⟨fun K => He.ma K (He.ga K "NoText") "__init__", "__init__", "NoText.__init__", defArgs s_NoText___init__, defBody s_NoText___init__, defScope s_NoText___init__, [], []⟩
def dd_NoCommand___init__ : He5.DefA := ⟨fun K => He.ma K (He.ga K "NoCommand") "__init__", "__init__", "NoCommand.__init__", defArgs s_NoCommand___init__, defBody s_NoCommand___init__, defScope s_NoCommand___init__, [], []⟩
def dd_law_bag : He5.DefA := ⟨fun K => He.ga K "_law_bag", "_law_bag", "_law_bag", defArgs s_law_bag, defBody s_law_bag, defScope s_law_bag, [], []⟩
def dd_law_take : He5.DefA := ⟨fun K => He.ga K "_law_take", "_law_take", "_law_take", defArgs s_law_take, defBody s_law_take, defScope s_law_take, [], []⟩
def dd_law_kinds : He5.DefA := ⟨fun K => He.ga K "_law_kinds", "_law_kinds", "_law_kinds", defArgs s_law_kinds, defBody s_law_kinds, defScope s_law_kinds, [], []⟩
def dd_law_thing : He5.DefA := ⟨fun K => He.ga K "_law_thing", "_law_thing", "_law_thing", defArgs s_law_thing, defBody s_law_thing, defScope s_law_thing, [], []⟩
def dd_law_made : He5.DefA := ⟨fun K => He.ga K "_law_made", "_law_made", "_law_made", defArgs s_law_made, defBody s_law_made, defScope s_law_made, [], []⟩
def dd_law : He5.DefA := ⟨fun K => He.ga K "law", "law", "law", defArgs s_law, defBody s_law, defScope s_law, [], []⟩
def fnl : List He5.DefA := [dd_Wrong___init__, dd_Unfit___init__, dd_Held___init__, dd_TooMany___init__, dd_NoProcess___init__, dd_Waiting___init__, dd_NoDescriptor___init__, dd_Full___init__, dd_Ring___init__, dd_Idle___init__, dd_Nothing___init__, dd_NoEntry___init__, dd_NoText___init__, dd_NoCommand___init__, dd_law_bag, dd_law_take, dd_law_kinds, dd_law_thing, dd_law_made, dd_law]
def fcl : List Fc := [fcFree "ValueError", fcFree "abs", fcFree "dict", fcFree "int", fcFree "isinstance", fcFree "len", fcFree "list", fcFree "range", fcFree "repr", fcGlo "Full", fcGlo "Held", fcGlo "Idle", fcGlo "LockError", fcGlo "NoCommand", fcGlo "NoDescriptor", fcGlo "NoEntry", fcGlo "NoProcess", fcGlo "NoText", fcGlo "Nothing", fcGlo "Ring", fcGlo "TooMany", fcGlo "Unfit", fcGlo "Waiting", fcGlo "Wrong", fcBas "LockError", fcLe "LockError", fcXf "NoEntry" "at", fcXf "NoDescriptor" "descriptor", fcXf "Held" "first", fcXf "Held" "last", fcXf "Held" "level", fcXf "TooMany" "limit", fcXf "Full" "limit", fcXf "Ring" "members", fcXf "Held" "owner", fcXf "Wrong" "place", fcXf "Waiting" "process", fcXf "NoProcess" "process", fcXf "Idle" "process", fcIse "Wrong" [("Full", false), ("Held", false), ("Idle", false), ("LockError", true), ("NoCommand", false), ("NoDescriptor", false), ("NoEntry", false), ("NoProcess", false), ("NoText", false), ("Nothing", false), ("Ring", false), ("TooMany", false), ("Unfit", false), ("Waiting", false), ("Wrong", true)] [("ValueError", true)], fcIse "Waiting" [("Full", false), ("Held", false), ("Idle", false), ("LockError", true), ("NoCommand", false), ("NoDescriptor", false), ("NoEntry", false), ("NoProcess", false), ("NoText", false), ("Nothing", false), ("Ring", false), ("TooMany", false), ("Unfit", false), ("Waiting", true), ("Wrong", false)] [("ValueError", true)], fcIse "Unfit" [("Full", false), ("Held", false), ("Idle", false), ("LockError", true), ("NoCommand", false), ("NoDescriptor", false), ("NoEntry", false), ("NoProcess", false), ("NoText", false), ("Nothing", false), ("Ring", false), ("TooMany", false), ("Unfit", true), ("Waiting", false), ("Wrong", false)] [("ValueError", true)], fcIse "TooMany" [("Full", false), ("Held", false), ("Idle", false), ("LockError", true), ("NoCommand", false), ("NoDescriptor", false), ("NoEntry", false), ("NoProcess", false), ("NoText", false), ("Nothing", false), ("Ring", false), ("TooMany", true), ("Unfit", false), ("Waiting", false), ("Wrong", false)] [("ValueError", true)], fcIse "Ring" [("Full", false), ("Held", false), ("Idle", false), ("LockError", true), ("NoCommand", false), ("NoDescriptor", false), ("NoEntry", false), ("NoProcess", false), ("NoText", false), ("Nothing", false), ("Ring", true), ("TooMany", false), ("Unfit", false), ("Waiting", false), ("Wrong", false)] [("ValueError", true)], fcIse "Nothing" [("Full", false), ("Held", false), ("Idle", false), ("LockError", true), ("NoCommand", false), ("NoDescriptor", false), ("NoEntry", false), ("NoProcess", false), ("NoText", false), ("Nothing", true), ("Ring", false), ("TooMany", false), ("Unfit", false), ("Waiting", false), ("Wrong", false)] [("ValueError", true)], fcIse "NoText" [("Full", false), ("Held", false), ("Idle", false), ("LockError", true), ("NoCommand", false), ("NoDescriptor", false), ("NoEntry", false), ("NoProcess", false), ("NoText", true), ("Nothing", false), ("Ring", false), ("TooMany", false), ("Unfit", false), ("Waiting", false), ("Wrong", false)] [("ValueError", true)], fcIse "NoProcess" [("Full", false), ("Held", false), ("Idle", false), ("LockError", true), ("NoCommand", false), ("NoDescriptor", false), ("NoEntry", false), ("NoProcess", true), ("NoText", false), ("Nothing", false), ("Ring", false), ("TooMany", false), ("Unfit", false), ("Waiting", false), ("Wrong", false)] [("ValueError", true)], fcIse "NoEntry" [("Full", false), ("Held", false), ("Idle", false), ("LockError", true), ("NoCommand", false), ("NoDescriptor", false), ("NoEntry", true), ("NoProcess", false), ("NoText", false), ("Nothing", false), ("Ring", false), ("TooMany", false), ("Unfit", false), ("Waiting", false), ("Wrong", false)] [("ValueError", true)], fcIse "NoDescriptor" [("Full", false), ("Held", false), ("Idle", false), ("LockError", true), ("NoCommand", false), ("NoDescriptor", true), ("NoEntry", false), ("NoProcess", false), ("NoText", false), ("Nothing", false), ("Ring", false), ("TooMany", false), ("Unfit", false), ("Waiting", false), ("Wrong", false)] [("ValueError", true)], fcIse "NoCommand" [("Full", false), ("Held", false), ("Idle", false), ("LockError", true), ("NoCommand", true), ("NoDescriptor", false), ("NoEntry", false), ("NoProcess", false), ("NoText", false), ("Nothing", false), ("Ring", false), ("TooMany", false), ("Unfit", false), ("Waiting", false), ("Wrong", false)] [("ValueError", true)], fcIse "LockError" [("Full", false), ("Held", false), ("Idle", false), ("LockError", true), ("NoCommand", false), ("NoDescriptor", false), ("NoEntry", false), ("NoProcess", false), ("NoText", false), ("Nothing", false), ("Ring", false), ("TooMany", false), ("Unfit", false), ("Waiting", false), ("Wrong", false)] [("ValueError", true)], fcIse "Idle" [("Full", false), ("Held", false), ("Idle", true), ("LockError", true), ("NoCommand", false), ("NoDescriptor", false), ("NoEntry", false), ("NoProcess", false), ("NoText", false), ("Nothing", false), ("Ring", false), ("TooMany", false), ("Unfit", false), ("Waiting", false), ("Wrong", false)] [("ValueError", true)], fcIse "Held" [("Full", false), ("Held", true), ("Idle", false), ("LockError", true), ("NoCommand", false), ("NoDescriptor", false), ("NoEntry", false), ("NoProcess", false), ("NoText", false), ("Nothing", false), ("Ring", false), ("TooMany", false), ("Unfit", false), ("Waiting", false), ("Wrong", false)] [("ValueError", true)], fcIse "Full" [("Full", true), ("Held", false), ("Idle", false), ("LockError", true), ("NoCommand", false), ("NoDescriptor", false), ("NoEntry", false), ("NoProcess", false), ("NoText", false), ("Nothing", false), ("Ring", false), ("TooMany", false), ("Unfit", false), ("Waiting", false), ("Wrong", false)] [("ValueError", true)], fcGlo "_law_bag", fcGlo "_law_take", fcGlo "_law_kinds", fcGlo "_law_thing", fcOx "NoCommand", fcOx "NoText", fcOx "NoEntry", fcOx "Nothing", fcOx "Idle", fcOx "Ring", fcOx "Full", fcOx "NoDescriptor", fcOx "Waiting", fcOx "NoProcess", fcOx "TooMany", fcOx "Held", fcOx "Unfit", fcOx "Wrong", fcGlo "_law_made", fcGlo "law"]
abbrev RW : PySem.W.OpenRow := PySem.W.OpenLaw.row PySem.Challenge.rw_byteholds_k17_errors_kept
def allA : List Addr := List.range 1000
def obsL (g : Addr → Option Obj) : He.AlD := obsFT fcl fnl g (He.frT g allA)
abbrev hkD : PySem.W.Hook where
  α := He.AlD
  obs := fun z => obsL z.heap.get?
  val := fun _ => He5.valA fnl
  says := fun _ hp => ∃ K : PySem.W.Frag, K.In hp ∧ SaysF fcl fnl K ∧ TabsE K hp
  of := fun _ z q => by
    have q : obsFT fcl fnl z.heap.get? (He.frT z.heap.get? allA) = He5.valA fnl := q
    have q1 : ((obsF fcl fnl (He.frT z.heap.get? allA)).1 && tabsE z.heap.get? (He.frT z.heap.get? allA)) = true := congrArg (·.1) q
    have q2 : (obsF fcl fnl (He.frT z.heap.get? allA)).2 = (He5.valA fnl).2 := congrArg (·.2) q
    rw [Bool.and_eq_true] at q1
    exact ⟨_, He.frT_in, Prod.ext q1.1 q2, tabsE_ok rfl q1.2⟩
  keeps := fun _ _ _ ⟨K, hK, c, t⟩ q => ⟨K, PySem.W.Frag.In.keeps hK q, c, t.keeps q⟩
def obD (s : PySem.W.SharedT) : He.AlD := obsL (HandSHeadRun.getT s)
theorem obD_eq (s : PySem.W.SharedT) : obD s = hkD.obs s.abs := by
  have e : HandSHeadRun.getT s = s.abs.heap.get? := funext (HandSHeadRun.getT_eq s)
  show obsL (HandSHeadRun.getT s) = obsL s.abs.heap.get?
  rw [e]
theorem ranD (w : World) : HandSHeadRun.RunEq RW (PySem.W.view RW.prog [22]) hkD obD 6000 ("LockError" :: "Wrong" :: "Unfit" :: "Held" :: "TooMany" :: "NoProcess" :: "Waiting" :: "NoDescriptor" :: "Full" :: "Ring" :: "Idle" :: "Nothing" :: "NoEntry" :: "NoText" :: "NoCommand" :: "_law_bag" :: "_law_take" :: "_law_thing" :: "_law_made" :: "_law_kinds" :: []) w := by
  intro os
  kernel_rfl
end K17

namespace DL
open PySem L2

inductive D where
  | non | bl (b : Bool) | int (i : Int) | str (x : Str) | ty (n : String) | ref (a : Addr)
  | tup (ds : List D) | lst (ds : List D) | scr (ds : List D) | ins (C : Str) (fs : List (Str × D)) | cls (n : Str) | dct (kvs : List (Key × D))
  | exn (a : Addr) (od : Option Addr) (C : Str) (fs : List (Str × D))
inductive SV where
  | fr (d : D) | cell (k : Nat)
inductive Cell where
  | lst (xs : List SV) | ins (C : Str) (fs : List (Str × SV)) | tup (xs : List SV) | dic (kvs : List (Key × SV)) | dit (kvs : List (List Key × SV)) | dil (kvs : List (List Key × SV)) | dkl (kvs : List (Key × SV)) | err (C : Str) | exc (C : Str) (fs : List (Str × SV)) | nd (kvs : List (List (List Int) × Bool))
abbrev Store := List Cell
abbrev Slots := List (Option SV)
structure Exc where
  cls : Str
  fs : List (Str × D)
inductive Res (α : Type) where
  | ok (a : α) | exc (e : Exc) (r : Slots) (s : Store) | stuck
def Res.bind {α β : Type} : Res α → (α → Res β) → Res β
  | .ok a, f => f a
  | .exc e r s, _ => .exc e r s
  | .stuck, _ => .stuck
def holds {α : Type} (r : Res α) (Q : α → Prop) (E : Exc → Slots → Store → Prop) : Prop := match r with
  | .ok a => Q a
  | .exc e r s => E e r s
  | .stuck => False
theorem holds_bind {α β : Type} {r : Res α} {f : α → Res β} {Q : β → Prop} {E : Exc → Slots → Store → Prop} (h : holds (r.bind f) Q E) : holds r (fun a => holds (f a) Q E) E := by
  cases r <;> exact h
theorem holds_imp {α : Type} {r : Res α} {Q Q' : α → Prop} {E E' : Exc → Slots → Store → Prop} (h : holds r Q E) (hq : ∀ a, Q a → Q' a) (he : ∀ e r s, E e r s → E' e r s) : holds r Q' E' := by
  cases r with
  | ok a => exact hq a h
  | exc e r s => exact he e r s h
  | stuck => exact h

def unT : Option HO → Option HO
  | some (.tbl _) => none
  | o => o
theorem unT_some {o : Option HO} {u : HO} (h : unT o = some u) : o = some u ∧ ∀ ps, u ≠ .tbl ps := by
  unfold unT at h
  split at h
  · cases h
  · rename_i o' hn
    subst h
    exact ⟨rfl, fun ps e => hn ps (by rw [e])⟩
theorem unT_of {u : HO} (h : ∀ ps, u ≠ .tbl ps) : unT (some u) = some u := by
  unfold unT
  split
  · rename_i ps e
    exact (h ps (Option.some.inj e)).elim
  · rfl
def hide (ph : List Addr) (H : Hp) : Hp := fun a => if a ∈ ph then none else unT (H a)
theorem hide_tb {ph : List Addr} {H : Hp} {a : Addr} {o : HO} (h : hide ph H a = some o) : (a ∉ ph ∧ H a = some o) ∧ ∀ ps, o ≠ .tbl ps := by
  unfold hide at h
  split at h
  · cases h
  · obtain ⟨h1, h2⟩ := unT_some h
    exact ⟨⟨by assumption, h1⟩, h2⟩
theorem hide_some {ph : List Addr} {H : Hp} {a : Addr} {o : HO} (h : hide ph H a = some o) : a ∉ ph ∧ H a = some o := (hide_tb h).1
theorem hide_of {ph : List Addr} {H : Hp} {a : Addr} {o : HO} (h1 : a ∉ ph) (h : H a = some o) (hn : ∀ ps, o ≠ .tbl ps := by intro _ z; cases z) : hide ph H a = some o := by
  unfold hide
  rw [if_neg h1, h]; exact unT_of hn
def TbOk (K : PySem.W.Frag) (H : Hp) : Prop := LamX.Tabs (tabL K) H ∧ ∀ p ∈ tabL K, ∀ q ∈ tabL K, p.1 = q.1 → p.2 = q.2
theorem TbOk.ext {K : PySem.W.Frag} {H H' : Hp} (t : TbOk K H) (e : ∀ b o, H b = some o → H' b = some o) : TbOk K H' := ⟨t.1.ext e, t.2⟩
theorem TbOk.wr {K : PySem.W.Frag} {H : Hp} {p : Addr} {o u : HO} (t : TbOk K H) (h : H p = some u) (h1 : ∀ ps, u ≠ .tbl ps) (h2 : ∀ q, u ≠ LamX.CodeO p q) : TbOk K (upd H p o) := by
  refine ⟨fun q hq => ?_, t.2⟩
  obtain ⟨ps, e1, e2, e3⟩ := t.1 q hq
  refine ⟨ps, ?_, e2, fun pos cv hc => ?_⟩
  · rw [upd_ne (fun e : q.1 = p => h1 ps (by rw [e, h] at e1; exact Option.some.inj e1))]; exact e1
  · obtain ⟨c, e4, e5⟩ := e3 pos cv hc
    refine ⟨c, e4, ?_⟩
    rw [upd_ne (fun e : c = p => by subst e; exact h2 q.2 (Option.some.inj (h.symm.trans e5)))]; exact e5

mutual
inductive Den (K : PySem.W.Frag) (F : Hp) : V → D → Prop
  | non : Den K F .non .non
  | bl (b : Bool) : Den K F (.bl b) (.bl b)
  | int (i : Int) : Den K F (.int i) (.int i)
  | str (x : Str) : Den K F (.str x) (.str x)
  | ty (n : String) : Den K F (.ty n) (.ty n)
  | ref (a : Addr) : Den K F (.ref a) (.ref a)
  | cls (n : Str) : Den K F (.ref (He.ga K n)) (.cls n)
  | tup {a : Addr} {vs : List V} {ds : List D} : F a = some (.tup vs) → Dens K F vs ds → Den K F (.ref a) (.tup ds)
  | lst {a : Addr} {vs : List V} {ds : List D} : F a = some (.lst vs) → Dens K F vs ds → Den K F (.ref a) (.lst ds)
  | scr {a : Addr} {vs : List V} {ds : List D} : SqL K F a vs → Dens K F vs ds → Den K F (.ref a) (.scr ds)
  | ins {a dx : Addr} {C : Str} {vs : List (Str × V)} {fs : List (Str × D)} : F a = some (.ins (He.ga K C) dx vs) → DenF K F vs fs → Den K F (.ref a) (.ins C fs)
  | dct {a : Addr} {vs : List (Key × V)} {ds : List (Key × D)} : F a = some (.dK vs) → DenK K F vs ds → Den K F (.ref a) (.dct ds)
  | exn0 (a : Addr) (C : Str) : Den K F (.ref a) (.exn a none C [])
  | exn {a d : Addr} {C : Str} {vs : List (Str × V)} {fs : List (Str × D)} : F d = some (.xd vs) → DenF K F vs fs → Den K F (.ref a) (.exn a (some d) C fs)
inductive Dens (K : PySem.W.Frag) (F : Hp) : List V → List D → Prop
  | nil : Dens K F [] []
  | cons {v : V} {vs : List V} {d : D} {ds : List D} : Den K F v d → Dens K F vs ds → Dens K F (v :: vs) (d :: ds)
inductive DenF (K : PySem.W.Frag) (F : Hp) : List (Str × V) → List (Str × D) → Prop
  | nil : DenF K F [] []
  | cons {x : Str} {v : V} {vs : List (Str × V)} {d : D} {ds : List (Str × D)} : Den K F v d → DenF K F vs ds → DenF K F ((x, v) :: vs) ((x, d) :: ds)
inductive DenK (K : PySem.W.Frag) (F : Hp) : List (Key × V) → List (Key × D) → Prop
  | nil : DenK K F [] []
  | cons {x : Key} {v : V} {vs : List (Key × V)} {d : D} {ds : List (Key × D)} : Den K F v d → DenK K F vs ds → DenK K F ((x, v) :: vs) ((x, d) :: ds)
end
def Sub (F F' : Hp) : Prop := ∀ a o, F a = some o → F' a = some o
section
variable {K : PySem.W.Frag} {F F' : Hp}
theorem Sub.rd (h : Sub F F') {a : Addr} {u : HO} (r : Rd F a u) : Rd F' a u := by
  rcases r with r | ⟨o, r⟩
  · exact .inl (h _ _ r)
  · exact .inr ⟨o, h _ _ r⟩
theorem Sub.sqL (h : Sub F F') {a : Addr} {xs : List V} (r : SqL K F a xs) : SqL K F' a xs := r.imp h.rd id
theorem Sub.sqT (h : Sub F F') {a : Addr} {xs : List V} (r : SqT K F a xs) : SqT K F' a xs := r.imp h.rd id
mutual
theorem Den.mono (h : Sub F F') : ∀ {v : V} {d : D}, Den K F v d → Den K F' v d
  | _, _, .non => .non
  | _, _, .bl b => .bl b
  | _, _, .int b => .int b
  | _, _, .str b => .str b
  | _, _, .ty b => .ty b
  | _, _, .ref b => .ref b
  | _, _, .cls b => .cls b
  | _, _, .tup s r => .tup (h _ _ s) (Dens.mono h r)
  | _, _, .lst s r => .lst (h _ _ s) (Dens.mono h r)
  | _, _, .scr s r => .scr (h.sqL s) (Dens.mono h r)
  | _, _, .ins s r => .ins (h _ _ s) (DenF.mono h r)
  | _, _, .dct s r => .dct (h _ _ s) (DenK.mono h r)
  | _, _, .exn0 a C => .exn0 a C
  | _, _, .exn s r => .exn (h _ _ s) (DenF.mono h r)
theorem Dens.mono (h : Sub F F') : ∀ {vs : List V} {ds : List D}, Dens K F vs ds → Dens K F' vs ds
  | _, _, .nil => .nil
  | _, _, .cons a r => .cons (Den.mono h a) (Dens.mono h r)
theorem DenF.mono (h : Sub F F') : ∀ {vs : List (Str × V)} {ds : List (Str × D)}, DenF K F vs ds → DenF K F' vs ds
  | _, _, .nil => .nil
  | _, _, .cons a r => .cons (Den.mono h a) (DenF.mono h r)
theorem DenK.mono (h : Sub F F') : ∀ {vs : List (Key × V)} {ds : List (Key × D)}, DenK K F vs ds → DenK K F' vs ds
  | _, _, .nil => .nil
  | _, _, .cons a r => .cons (Den.mono h a) (DenK.mono h r)
end
theorem Dens.len : ∀ {vs : List V} {ds : List D}, Dens K F vs ds → vs.length = ds.length
  | _, _, .nil => rfl
  | _, _, .cons _ r => by simp [Dens.len r]
theorem Dens.get : ∀ {vs : List V} {ds : List D} {i : Nat} {d : D}, Dens K F vs ds → ds[i]? = some d → ∃ v, vs[i]? = some v ∧ Den K F v d
  | _, _, _, _, .nil, e => by simp at e
  | _, _, 0, _, .cons a r, e => by simp at e; subst e; exact ⟨_, rfl, a⟩
  | _, _, i + 1, _, .cons a r, e => by
    obtain ⟨v, h1, h2⟩ := Dens.get (i := i) r (by simpa using e)
    exact ⟨v, by simpa using h1, h2⟩
theorem Dens.app : ∀ {vs ws : List V} {ds es : List D}, Dens K F vs ds → Dens K F ws es → Dens K F (vs ++ ws) (ds ++ es)
  | _, _, _, _, .nil, s => s
  | _, _, _, _, .cons a r, s => .cons a (Dens.app r s)
theorem Dens.take : ∀ {vs : List V} {ds : List D} (n : Nat), Dens K F vs ds → Dens K F (vs.take n) (ds.take n)
  | _, _, 0, _ => .nil
  | _, _, _ + 1, .nil => .nil
  | _, _, n + 1, .cons a r => .cons a (Dens.take n r)
theorem Dens.drop : ∀ {vs : List V} {ds : List D} (n : Nat), Dens K F vs ds → Dens K F (vs.drop n) (ds.drop n)
  | _, _, 0, r => r
  | _, _, _ + 1, .nil => .nil
  | _, _, n + 1, .cons _ r => Dens.drop n r
theorem Dens.of_ints : ∀ (ns : List Int), Dens K F (ns.map V.int) (ns.map D.int)
  | [] => .nil
  | n :: ns => .cons (.int n) (Dens.of_ints ns)
theorem DenF.look {f : Str} : ∀ {vs : List (Str × V)} {ds : List (Str × D)} {d : D}, DenF K F vs ds → ds.lookup f = some d → ∃ v, vs.lookup f = some v ∧ Den K F v d
  | _, _, _, .nil, e => by simp at e
  | _, _, _, .cons (x := x) a r, e => by
    rw [List.lookup_cons] at e ⊢
    cases q : f == x with
    | true => rw [q] at e; simp at e; subst e; exact ⟨_, rfl, a⟩
    | false => rw [q] at e; exact DenF.look r e
end

def DenS (K : PySem.W.Frag) (ph : List Addr) (H : Hp) (v : V) : SV → Prop
  | .fr d => Den K (hide ph H) v d
  | .cell k => ∃ p, ph[k]? = some p ∧ v = .ref p
abbrev DenSs (K : PySem.W.Frag) (ph : List Addr) (H : Hp) : List V → List SV → Prop := Paired (DenS K ph H)
abbrev DenSF (K : PySem.W.Frag) (ph : List Addr) (H : Hp) : List (Str × V) → List (Str × SV) → Prop := Paired fun p q => p.1 = q.1 ∧ DenS K ph H p.2 q.2
abbrev DenSK {κ : Type} (K : PySem.W.Frag) (ph : List Addr) (H : Hp) : List (κ × V) → List (κ × SV) → Prop := Paired fun p q => p.1 = q.1 ∧ DenS K ph H p.2 q.2
abbrev NK := List (List Int)
def nkD (k : NK) : D := .tup (k.map fun l => .tup (l.map .int))
def nkHash (k : NK) : Int := reduceHash (Builtin.Tuple.tupleHashOf (k.map fun l => reduceHash (Builtin.Tuple.tupleHashOf (l.map hashInt))))
def nent (x : NK × Addr × Bool) : DictEntry := ⟨nkHash x.1, .ref x.2.1, .bool x.2.2⟩
def NdR (p : Addr) (xs : List (NK × Addr × Bool)) (h : Heap) : Prop := (p == sysModules) = false ∧ xs.length ≤ sizeLine ∧ (xs.map (·.1)).Nodup ∧ ∃ o es ep, h.get? p = some o ∧ o.ExactDict ∧ o.data = .dict es ep ∧ es.toList = xs.map nent
def NdO (p : Addr) (xs : List (NK × Addr × Bool)) : HO := .ext (NdR p xs)
def NdP (K : PySem.W.Frag) (F : Hp) (kv : NK × Bool) (x : NK × Addr × Bool) : Prop := x.1 = kv.1 ∧ x.2.2 = kv.2 ∧ Den K F (.ref x.2.1) (nkD kv.1)
theorem ndO_code {p : Addr} {xs : List (NK × Addr × Bool)} {q : Str} : NdO p xs ≠ LamX.CodeO p q := fun z => by
  unfold NdO LamX.CodeO at z
  have g := congrFun (HO.ext.inj z) ⟨Array.replicate (p + 1) ({ cls := .none, data := .fields #[.none, .str q default] } : Obj), {}⟩
  have k : (⟨Array.replicate (p + 1) ({ cls := .none, data := .fields #[.none, .str q default] } : Obj), {}⟩ : Heap).get? p = some ({ cls := .none, data := .fields #[.none, .str q default] } : Obj) := by
    unfold Heap.get?
    simp
  obtain ⟨_, _, _, o, es, ep, h1, _, h2, _⟩ := g.mpr ⟨_, _, _, k, rfl, rfl⟩
  rw [k] at h1
  cases h1
  cases h2
def CellAt (K : PySem.W.Frag) (ph : List Addr) (H : Hp) (p : Addr) : Cell → Prop
  | .lst xs => ∃ vs, H p = some (.lst vs) ∧ DenSs K ph H vs xs
  | .ins C fs => ∃ dx vs, H p = some (.ins (He.ga K C) dx vs) ∧ DenSF K ph H vs fs
  | .tup xs => ∃ vs, H p = some (.tup vs) ∧ DenSs K ph H vs xs
  | .dic kvs => ∃ vs, H p = some (.dK vs) ∧ DenSK K ph H vs kvs
  | .dit kvs => ∃ vs, H p = some (.dT vs) ∧ DenSK K ph H vs kvs
  | .dil kvs => ∃ od vs, H p = some (.frz od (.dT vs)) ∧ DenSK K ph H vs kvs
  | .dkl kvs => ∃ od vs, H p = some (.frz od (.dK vs)) ∧ DenSK K ph H vs kvs
  | .err C => ∃ dx fs, H p = some (exo p (He.ga K C) (some dx)) ∧ hide ph H dx = some (exd dx fs)
  | .exc C fs => (∃ dx vs, H p = some (exo p (He.ga K C) (some dx)) ∧ hide ph H dx = some (exd dx vs) ∧ DenSF K ph H vs fs) ∨ (fs = [] ∧ H p = some (exo p (He.ga K C) none))
  | .nd kvs => ∃ xs, H p = some (NdO p xs) ∧ Paired (NdP K (hide ph H)) kvs xs
theorem exo_code {p C : Addr} {d : Option Addr} {q : Str} : exo p C d ≠ LamX.CodeO p q := fun z => by
  unfold exo LamX.CodeO at z
  have f := HO.ext.inj z
  have g := congrFun f ⟨Array.replicate (p + 1) ({ cls := .ref C, dict := d, data := .fields #[.ref 0, .none, .none, .none, .bool false, .none] } : Obj), {}⟩
  have k : (⟨Array.replicate (p + 1) ({ cls := .ref C, dict := d, data := .fields #[.ref 0, .none, .none, .none, .bool false, .none] } : Obj), {}⟩ : Heap).get? p = some ({ cls := .ref C, dict := d, data := .fields #[.ref 0, .none, .none, .none, .bool false, .none] } : Obj) := by
    unfold Heap.get?
    simp
  obtain ⟨oc, vs, t, h1, h2, h3⟩ := g.mp ⟨0, k⟩
  rw [k] at h1
  cases h1
  cases h2
  cases h3
structure Good (K : PySem.W.Frag) (ph : List Addr) (H : Hp) (S : Store) : Prop where
  nd : ph.Nodup
  cells : Paired (CellAt K ph H) ph S
  tb : TbOk K H
structure Ext (ph : List Addr) (H : Hp) (ph' : List Addr) (H' : Hp) : Prop where
  pre : ∃ ps, ph' = ph ++ ps ∧ ∀ p ∈ ps, H p = none
  keep : ∀ a o, H a = some o → a ∉ ph → (∀ ps, o ≠ .tbl ps) → H' a = some o
  trk : ∀ a, H' a = none → H a = none
  frz : ∀ a od u, H a = some (.frz od u) → H' a = some (.frz od u)
theorem Ext.refl (ph : List Addr) (H : Hp) : Ext ph H ph H := ⟨⟨[], by simp, by simp⟩, fun _ _ h _ _ => h, fun _ h => h, fun _ _ _ h => h⟩
theorem Ext.trans {p1 p2 p3 : List Addr} {H1 H2 H3 : Hp} (a : Ext p1 H1 p2 H2) (b : Ext p2 H2 p3 H3) : Ext p1 H1 p3 H3 := by
  obtain ⟨x, rfl, hx⟩ := a.pre
  obtain ⟨y, rfl, hy⟩ := b.pre
  refine ⟨⟨x ++ y, by simp, fun p hp => ?_⟩, fun c o h n m => b.keep c o (a.keep c o h n m) ?_ m, fun c h => a.trk c (b.trk c h), fun c od u h => b.frz c od u (a.frz c od u h)⟩
  · rcases List.mem_append.mp hp with h | h
    · exact hx p h
    · exact a.trk p (hy p h)
  · intro hc
    rcases List.mem_append.mp hc with h' | h'
    · exact n h'
    · have := hx c h'; rw [h] at this; cases this
theorem Ext.sub {ph ph' : List Addr} {H H' : Hp} (e : Ext ph H ph' H') : Sub (hide ph H) (hide ph' H') := fun a o h => by
  obtain ⟨⟨h1, h2⟩, h3⟩ := hide_tb h
  obtain ⟨ps, rfl, hps⟩ := e.pre
  refine hide_of (fun hm => ?_) (e.keep a o h2 h1 h3) h3
  rcases List.mem_append.mp hm with q | q
  · exact h1 q
  · have := hps a q; rw [h2] at this; cases this
section
variable {K : PySem.W.Frag} {ph ph' : List Addr} {H H' : Hp} {S : Store}
theorem DenS.mono (e : Ext ph H ph' H') {v : V} {x : SV} (h : DenS K ph H v x) : DenS K ph' H' v x := by
  cases x with
  | fr d => exact Den.mono e.sub h
  | cell k =>
    obtain ⟨p, h1, h2⟩ := h
    obtain ⟨ps, rfl, _⟩ := e.pre
    refine ⟨p, ?_, h2⟩
    rw [List.getElem?_append_left (List.getElem?_eq_some_iff.mp h1).1]; exact h1
theorem DenSs.mono (e : Ext ph H ph' H') {vs : List V} {xs : List SV} (h : DenSs K ph H vs xs) : DenSs K ph' H' vs xs := Paired.mapP h fun _ _ => DenS.mono e
theorem DenSF.mono (e : Ext ph H ph' H') {vs : List (Str × V)} {xs : List (Str × SV)} (h : DenSF K ph H vs xs) : DenSF K ph' H' vs xs := Paired.mapP h fun _ _ q => ⟨q.1, q.2.mono e⟩
theorem DenSK.mono {κ : Type} (e : Ext ph H ph' H') {vs : List (κ × V)} {xs : List (κ × SV)} (h : DenSK K ph H vs xs) : DenSK K ph' H' vs xs := Paired.mapP h fun _ _ q => ⟨q.1, q.2.mono e⟩
theorem paired_imp {α β : Type} {P Q : α → β → Prop} : ∀ {l : List α} {m : List β}, Paired P l m → (∀ a b, a ∈ l → P a b → Q a b) → Paired Q l m
  | _, _, .nil, _ => .nil
  | _, _, .cons h t, f => .cons (f _ _ List.mem_cons_self h) (paired_imp t fun a b m => f a b (List.mem_cons_of_mem _ m))
theorem paired_get {α β : Type} {P : α → β → Prop} : ∀ {l : List α} {m : List β} {k : Nat} {b : β}, Paired P l m → m[k]? = some b → ∃ a, l[k]? = some a ∧ P a b
  | _, _, _, _, .nil, e => by simp at e
  | _, _, 0, _, .cons h t, e => by simp at e; subst e; exact ⟨_, rfl, h⟩
  | _, _, k + 1, _, .cons h t, e => by
    obtain ⟨v, h1, h2⟩ := paired_get (k := k) t (by simpa using e)
    exact ⟨v, by simpa using h1, h2⟩
theorem paired_set {α β : Type} {P Q : α → β → Prop} {y : β} : ∀ {l : List α} {m : List β} {k : Nat} {x : α}, Paired P l m → l[k]? = some x → (∀ j a b, j ≠ k → l[j]? = some a → P a b → Q a b) → Q x y → Paired Q l (m.set k y)
  | _, _, _, _, .nil, e, _, _ => by simp at e
  | _, _, 0, _, .cons h t, e, f, q => by
    simp at e; subst e
    refine .cons q (paired_imp t fun a b m hp => ?_)
    obtain ⟨j, hj, ej⟩ := List.getElem_of_mem m
    exact f (j + 1) a b (by omega) (by simp [List.getElem?_eq_getElem hj, ej]) hp
  | _, _, k + 1, x, .cons h t, e, f, q => .cons (f 0 _ _ (by omega) (by simp) h) (paired_set (k := k) (x := x) t (by simpa using e) (fun j a b hj ha hp => f (j + 1) a b (by omega) (by simpa using ha) hp) q)
theorem CellAt.mono (e : Ext ph H ph' H') {p : Addr} {c : Cell} (hp : ∀ o, H p = some o → H' p = some o) (h : CellAt K ph H p c) : CellAt K ph' H' p c := by
  cases c with
  | lst xs => obtain ⟨vs, h1, h2⟩ := h; exact ⟨vs, hp _ h1, h2.mono e⟩
  | ins C fs => obtain ⟨dx, vs, h1, h2⟩ := h; exact ⟨dx, vs, hp _ h1, h2.mono e⟩
  | tup xs => obtain ⟨vs, h1, h2⟩ := h; exact ⟨vs, hp _ h1, h2.mono e⟩
  | dic kvs => obtain ⟨vs, h1, h2⟩ := h; exact ⟨vs, hp _ h1, DenSK.mono e h2⟩
  | dit kvs => obtain ⟨vs, h1, h2⟩ := h; exact ⟨vs, hp _ h1, DenSK.mono e h2⟩
  | dil kvs => obtain ⟨od, vs, h1, h2⟩ := h; exact ⟨od, vs, hp _ h1, DenSK.mono e h2⟩
  | dkl kvs => obtain ⟨od, vs, h1, h2⟩ := h; exact ⟨od, vs, hp _ h1, DenSK.mono e h2⟩
  | err C => obtain ⟨dx, fs, h1, h2⟩ := h; exact ⟨dx, fs, hp _ h1, e.sub _ _ h2⟩
  | exc C fs =>
    rcases h with ⟨dx, vs, h1, h2, h3⟩ | ⟨h1, h2⟩
    · exact .inl ⟨dx, vs, hp _ h1, e.sub _ _ h2, h3.mono e⟩
    · exact .inr ⟨h1, hp _ h2⟩
  | nd kvs => obtain ⟨xs, h1, h2⟩ := h; exact ⟨xs, hp _ h1, Paired.mapP h2 fun _ _ q => ⟨q.1, q.2.1, Den.mono e.sub q.2.2⟩⟩
theorem CellAt.there {p : Addr} {c : Cell} (h : CellAt K ph H p c) : ∃ o, H p = some o := by
  cases c with
  | lst xs => obtain ⟨vs, h1, _⟩ := h; exact ⟨_, h1⟩
  | ins C fs => obtain ⟨dx, vs, h1, _⟩ := h; exact ⟨_, h1⟩
  | tup xs => obtain ⟨vs, h1, _⟩ := h; exact ⟨_, h1⟩
  | dic kvs => obtain ⟨vs, h1, _⟩ := h; exact ⟨_, h1⟩
  | dit kvs => obtain ⟨vs, h1, _⟩ := h; exact ⟨_, h1⟩
  | dil kvs => obtain ⟨od, vs, h1, _⟩ := h; exact ⟨_, h1⟩
  | dkl kvs => obtain ⟨od, vs, h1, _⟩ := h; exact ⟨_, h1⟩
  | err C => obtain ⟨dx, fs, h1, _⟩ := h; exact ⟨_, h1⟩
  | exc C fs =>
    rcases h with ⟨dx, vs, h1, _⟩ | ⟨_, h2⟩
    · exact ⟨_, h1⟩
    · exact ⟨_, h2⟩
  | nd kvs => obtain ⟨xs, h1, _⟩ := h; exact ⟨_, h1⟩
theorem CellAt.thereN {p : Addr} {c : Cell} (h : CellAt K ph H p c) : ∃ o, H p = some o ∧ (∀ ps, o ≠ .tbl ps) ∧ ∀ q, o ≠ LamX.CodeO p q := by
  cases c with
  | lst xs => obtain ⟨vs, h1, _⟩ := h; exact ⟨_, h1, fun _ z => (nomatch z), fun _ z => (by unfold LamX.CodeO at z; nomatch z)⟩
  | ins C fs => obtain ⟨dx, vs, h1, _⟩ := h; exact ⟨_, h1, fun _ z => (nomatch z), fun _ z => (by unfold LamX.CodeO at z; nomatch z)⟩
  | tup xs => obtain ⟨vs, h1, _⟩ := h; exact ⟨_, h1, fun _ z => (nomatch z), fun _ z => (by unfold LamX.CodeO at z; nomatch z)⟩
  | dic kvs => obtain ⟨vs, h1, _⟩ := h; exact ⟨_, h1, fun _ z => (nomatch z), fun _ z => (by unfold LamX.CodeO at z; nomatch z)⟩
  | dit kvs => obtain ⟨vs, h1, _⟩ := h; exact ⟨_, h1, fun _ z => (nomatch z), fun _ z => (by unfold LamX.CodeO at z; nomatch z)⟩
  | dil kvs => obtain ⟨od, vs, h1, _⟩ := h; exact ⟨_, h1, fun _ z => (nomatch z), fun _ z => (by unfold LamX.CodeO at z; nomatch z)⟩
  | dkl kvs => obtain ⟨od, vs, h1, _⟩ := h; exact ⟨_, h1, fun _ z => (nomatch z), fun _ z => (by unfold LamX.CodeO at z; nomatch z)⟩
  | err C => obtain ⟨dx, fs, h1, _⟩ := h; exact ⟨_, h1, fun _ z => exo_tbl z, fun _ z => exo_code z⟩
  | exc C fs =>
    rcases h with ⟨dx, vs, h1, _⟩ | ⟨_, h2⟩
    · exact ⟨_, h1, fun _ z => exo_tbl z, fun _ z => exo_code z⟩
    · exact ⟨_, h2, fun _ z => exo_tbl z, fun _ z => exo_code z⟩
  | nd kvs => obtain ⟨xs, h1, _⟩ := h; exact ⟨_, h1, fun _ z => (by unfold NdO at z; nomatch z), fun _ z => ndO_code z⟩
theorem Good.len (g : Good K ph H S) : ph.length = S.length := g.cells.length
theorem Good.at (g : Good K ph H S) {k : Nat} {c : Cell} (h : S[k]? = some c) : ∃ p, ph[k]? = some p ∧ CellAt K ph H p c := paired_get g.cells h
theorem Good.there (g : Good K ph H S) {p : Addr} (h : p ∈ ph) : ∃ o, H p = some o := by
  obtain ⟨k, hk, e⟩ := List.getElem_of_mem h
  have hk' : k < S.length := by rw [← g.len]; exact hk
  obtain ⟨q, h1, h2⟩ := g.at (List.getElem?_eq_getElem hk')
  rw [List.getElem?_eq_getElem hk] at h1
  cases h1
  rw [e] at h2
  exact h2.there
theorem Good.new (g : Good K ph H S) {p : Addr} (h : H p = none) : p ∉ ph := fun m => by
  obtain ⟨o, e⟩ := g.there m
  rw [h] at e; cases e
theorem Ext.fresh {p : Addr} {o : HO} (h : H p = none) : Ext ph H ph (upd H p o) :=
  ⟨⟨[], by simp, by simp⟩, fun a u e _ _ => by rw [upd_ne (ne_of_none e h)]; exact e, fun a e => by
    by_cases q : a = p
    · rw [q]; exact h
    · rw [upd_ne q] at e; exact e, fun a od u e => by rw [upd_ne (ne_of_none e h)]; exact e⟩
theorem Good.fresh (g : Good K ph H S) {p : Addr} {o : HO} (h : H p = none) : Good K ph (upd H p o) S :=
  ⟨g.nd, paired_imp g.cells fun a c _ hc => hc.mono (Ext.fresh h) fun u e => by rw [upd_ne (ne_of_none e h)]; exact e, g.tb.ext fun b u e => by rw [upd_ne (ne_of_none e h)]; exact e⟩
theorem Ext.cell {p : Addr} {o : HO} (h : H p = none) : Ext ph H (ph ++ [p]) (upd H p o) :=
  ⟨⟨[p], rfl, fun q hq => by rw [List.mem_singleton.mp hq]; exact h⟩, (Ext.fresh (ph := ph) h).keep, (Ext.fresh (ph := ph) h).trk, (Ext.fresh (ph := ph) h).frz⟩
theorem paired_snoc {α β : Type} {P : α → β → Prop} {a : α} {b : β} {l : List α} {m : List β} (h : Paired P l m) (q : P a b) : Paired P (l ++ [a]) (m ++ [b]) := Paired.snoc h q
theorem Good.cell (g : Good K ph H S) {p : Addr} {o : HO} {c : Cell} (h : H p = none) (hc : CellAt K (ph ++ [p]) (upd H p o) p c) : Good K (ph ++ [p]) (upd H p o) (S ++ [c]) := by
  refine ⟨List.nodup_append.mpr ⟨g.nd, by simp, fun a ha b hb e => ?_⟩, paired_snoc (paired_imp g.cells fun a u _ hu => hu.mono (Ext.cell h) fun w e => by rw [upd_ne (ne_of_none e h)]; exact e) hc, g.tb.ext fun b u e => by rw [upd_ne (ne_of_none e h)]; exact e⟩
  have := List.mem_singleton.mp hb
  subst this; subst e
  exact g.new h ha
theorem hide_upd {p : Addr} {o : HO} (h : p ∈ ph) : hide ph (upd H p o) = hide ph H := by
  funext a
  unfold hide
  by_cases q : a ∈ ph
  · rw [if_pos q, if_pos q]
  · rw [if_neg q, if_neg q, upd_ne (fun e : a = p => q (e ▸ h))]
theorem Ext.write {p : Addr} {o : HO} (h : p ∈ ph) (hf : ∀ od u, H p ≠ some (.frz od u)) : Ext ph H ph (upd H p o) :=
  ⟨⟨[], by simp, by simp⟩, fun a u e n _ => by rw [upd_ne (fun q : a = p => n (q ▸ h))]; exact e, fun a e => by
    by_cases q : a = p
    · rw [q, upd_same] at e; cases e
    · rw [upd_ne q] at e; exact e, fun a od u e => by
    by_cases q : a = p
    · exact (hf od u (q ▸ e)).elim
    · rw [upd_ne q]; exact e⟩
theorem nofrz {p : Addr} {o : HO} (e : H p = some o) (h : ∀ od u, o ≠ .frz od u) : ∀ od u, H p ≠ some (.frz od u) := fun od u z => by
  rw [e] at z; cases z; exact h _ _ rfl
theorem DenS.writ {p : Addr} {o : HO} (h : p ∈ ph) {v : V} {x : SV} (d : DenS K ph H v x) : DenS K ph (upd H p o) v x := by
  cases x with
  | fr d' => show Den K (hide ph (upd H p o)) v d'; rw [hide_upd h]; exact d
  | cell k => exact d
theorem DenSK.writ {κ : Type} {p : Addr} {o : HO} (h : p ∈ ph) {vs : List (κ × V)} {xs : List (κ × SV)} (d : DenSK K ph H vs xs) : DenSK K ph (upd H p o) vs xs := Paired.mapP d fun _ _ q => ⟨q.1, q.2.writ h⟩
theorem CellAt.writ {p q : Addr} {o : HO} (h : p ∈ ph) (hq : q ≠ p) {c : Cell} (d : CellAt K ph H q c) : CellAt K ph (upd H p o) q c := by
  cases c with
  | lst xs => obtain ⟨vs, h1, h2⟩ := d; exact ⟨vs, by rw [upd_ne hq]; exact h1, Paired.mapP h2 fun _ _ => DenS.writ h⟩
  | ins C fs => obtain ⟨dx, vs, h1, h2⟩ := d; exact ⟨dx, vs, by rw [upd_ne hq]; exact h1, Paired.mapP h2 fun _ _ q => ⟨q.1, q.2.writ h⟩⟩
  | tup xs => obtain ⟨vs, h1, h2⟩ := d; exact ⟨vs, by rw [upd_ne hq]; exact h1, Paired.mapP h2 fun _ _ => DenS.writ h⟩
  | dic kvs => obtain ⟨vs, h1, h2⟩ := d; exact ⟨vs, by rw [upd_ne hq]; exact h1, DenSK.writ h h2⟩
  | dit kvs => obtain ⟨vs, h1, h2⟩ := d; exact ⟨vs, by rw [upd_ne hq]; exact h1, DenSK.writ h h2⟩
  | dil kvs => obtain ⟨od, vs, h1, h2⟩ := d; exact ⟨od, vs, by rw [upd_ne hq]; exact h1, DenSK.writ h h2⟩
  | dkl kvs => obtain ⟨od, vs, h1, h2⟩ := d; exact ⟨od, vs, by rw [upd_ne hq]; exact h1, DenSK.writ h h2⟩
  | err C => obtain ⟨dx, fs, h1, h2⟩ := d; exact ⟨dx, fs, by rw [upd_ne hq]; exact h1, by rw [hide_upd h]; exact h2⟩
  | exc C fs =>
    rcases d with ⟨dx, vs, h1, h2, h3⟩ | ⟨h1, h2⟩
    · exact .inl ⟨dx, vs, by rw [upd_ne hq]; exact h1, by rw [hide_upd h]; exact h2, Paired.mapP h3 fun _ _ q => ⟨q.1, q.2.writ h⟩⟩
    · exact .inr ⟨h1, by rw [upd_ne hq]; exact h2⟩
  | nd kvs => obtain ⟨xs, h1, h2⟩ := d; exact ⟨xs, by rw [upd_ne hq]; exact h1, by rw [hide_upd h]; exact h2⟩
theorem nodup_at {l : List Addr} (n : l.Nodup) {i j : Nat} {a : Addr} (h1 : l[i]? = some a) (h2 : l[j]? = some a) : i = j := by
  obtain ⟨k1, e1⟩ := List.getElem?_eq_some_iff.mp h1
  obtain ⟨k2, e2⟩ := List.getElem?_eq_some_iff.mp h2
  exact (List.getElem_inj n).mp (e1.trans e2.symm)
theorem Good.write (g : Good K ph H S) {k : Nat} {p : Addr} {o : HO} {c : Cell} (hp : ph[k]? = some p) (hc : CellAt K ph (upd H p o) p c) : Good K ph (upd H p o) (S.set k c) := by
  have hm : p ∈ ph := List.mem_of_getElem? hp
  obtain ⟨c0, hc0⟩ : ∃ c0, S[k]? = some c0 := by
    have := (List.getElem?_eq_some_iff.mp hp).1
    rw [g.len] at this
    exact ⟨_, List.getElem?_eq_getElem this⟩
  obtain ⟨p', h1, h2⟩ := g.at hc0
  rw [hp] at h1; cases h1
  obtain ⟨u, hu, u1, u2⟩ := h2.thereN
  exact ⟨g.nd, paired_set g.cells hp (fun j a b hj ha hb => hb.writ hm (fun q : a = p => hj (nodup_at g.nd (q ▸ ha) hp))) hc, g.tb.wr hu u1 u2⟩
end
end DL

namespace DL
open PySem L2

structure XW (K : PySem.W.Frag) where
  rel : List Addr → Hp → Exc → Slots → Store → Prop
  mono : ∀ ph H ph' H' e r S, Ext ph H ph' H' → rel ph H e r S → rel ph' H' e r S
abbrev EM := Slots → Store → Res (SV × Store)
abbrev TM := Slots → Store → Res (Bool × Store)
abbrev AM := Slots → Store → Res (List SV × Store)
def SlotsOk (K : PySem.W.Frag) (ph : List Addr) (H : Hp) (sg : L2.St) (rho : Slots) : Prop :=
  rho.length ≤ sg.length ∧ ∀ (i : Nat) (x : SV), rho[i]? = some (some x) → ∃ v, sg[i]? = some (some v) ∧ DenS K ph H v x
theorem SlotsOk.mono {K : PySem.W.Frag} {ph ph' : List Addr} {H H' : Hp} {sg : L2.St} {rho : Slots} (e : Ext ph H ph' H') (h : SlotsOk K ph H sg rho) : SlotsOk K ph' H' sg rho :=
  ⟨h.1, fun i x q => let ⟨v, a, b⟩ := h.2 i x q; ⟨v, a, b.mono e⟩⟩
theorem SlotsOk.set {K : PySem.W.Frag} {ph : List Addr} {H : Hp} {sg : L2.St} {rho : Slots} (h : SlotsOk K ph H sg rho) (i : Nat) {v : V} {x : SV} (hv : DenS K ph H v x) : SlotsOk K ph H (sg.set i (some v)) (rho.set i (some x)) := by
  refine ⟨by simpa using h.1, fun j y q => ?_⟩
  by_cases e : i = j
  · subst e
    by_cases hi : i < rho.length
    · rw [List.getElem?_set_self hi] at q
      have := Option.some.inj (Option.some.inj q)
      subst this
      exact ⟨v, List.getElem?_set_self (Nat.lt_of_lt_of_le hi h.1), hv⟩
    · rw [List.getElem?_eq_none (by simpa using hi)] at q; cases q
  · rw [List.getElem?_set_ne e] at q
    rw [List.getElem?_set_ne e]
    exact h.2 j y q
def post (K : PySem.W.Frag) (ph : List Addr) (H : Hp) (Q : VK) : SV × Store → Prop := fun r =>
  ∀ ph' v H', Ext ph H ph' H' → Good K ph' H' r.2 → DenS K ph' H' v r.1 → Q v H'
def postT (K : PySem.W.Frag) (ph : List Addr) (H : Hp) (Q : Bool → Hp → Prop) : Bool × Store → Prop := fun r =>
  ∀ ph' H', Ext ph H ph' H' → Good K ph' H' r.2 → Q r.1 H'
def postA (K : PySem.W.Frag) (ph : List Addr) (H : Hp) (Q : List V → Hp → Prop) : List SV × Store → Prop := fun r =>
  ∀ ph' vs H', Ext ph H ph' H' → Good K ph' H' r.2 → DenSs K ph' H' vs r.1 → Q vs H'
theorem post.mono {K : PySem.W.Frag} {ph ph' : List Addr} {H H' : Hp} {Q : VK} (e : Ext ph H ph' H') (r : SV × Store) (h : post K ph H Q r) : post K ph' H' Q r := fun p v G a g d => h p v G (e.trans a) g d
theorem postT.mono {K : PySem.W.Frag} {ph ph' : List Addr} {H H' : Hp} {Q : Bool → Hp → Prop} (e : Ext ph H ph' H') (r : Bool × Store) (h : postT K ph H Q r) : postT K ph' H' Q r := fun p G a g => h p G (e.trans a) g
theorem postA.mono {K : PySem.W.Frag} {ph ph' : List Addr} {H H' : Hp} {Q : List V → Hp → Prop} (e : Ext ph H ph' H') (r : List SV × Store) (h : postA K ph H Q r) : postA K ph' H' Q r := fun p v G a g d => h p v G (e.trans a) g d
section
variable {X : Cx} {W : XW X.K}
structure PD (X : Cx) (W : XW X.K) (e : Expr) (m : EM) : Prop where
  ex : ∃ t, PE X e t ∧ ∀ (ph : List Addr) (S : Store) (H : Hp) (sg : L2.St) (rho : Slots) (Q : VK), Good X.K ph H S → SlotsOk X.K ph H sg rho →
    holds (m rho S) (post X.K ph H Q) (W.rel ph H) → t sg H Q
structure PDT (X : Cx) (W : XW X.K) (e : Expr) (m : TM) : Prop where
  ex : ∃ t, PT X e t ∧ ∀ (ph : List Addr) (S : Store) (H : Hp) (sg : L2.St) (rho : Slots) (Q : Bool → Hp → Prop), Good X.K ph H S → SlotsOk X.K ph H sg rho →
    holds (m rho S) (postT X.K ph H Q) (W.rel ph H) → t sg H Q
structure PDA (X : Cx) (W : XW X.K) (es : List Expr) (m : AM) : Prop where
  ex : ∃ t, PA X es t ∧ ∀ (ph : List Addr) (S : Store) (H : Hp) (sg : L2.St) (rho : Slots) (Q : List V → Hp → Prop), Good X.K ph H S → SlotsOk X.K ph H sg rho →
    holds (m rho S) (postA X.K ph H Q) (W.rel ph H) → t sg H Q

def eV (i : Nat) : EM := fun rho S => match rho[i]? with
  | some (some x) => .ok (x, S)
  | _ => .stuck
def eC (d : D) : EM := fun _ S => .ok (.fr d, S)
theorem pd_v (i : Nat) {x : Str} {pos : Pos} (hN : X.N[i]? = some x := by rfl) (hv : Vis X.env.scope x := by first | exact Or.inl rfl | exact Or.inr (Or.inl rfl) | exact Or.inr (Or.inr rfl)) (hd : (x == ("__debug__" : Str)) = false := by decide)
    (hcd : (x == ("__classdict__" : Str)) = false := by decide) : PD X W (.Name x pos) (eV i) := by
  refine ⟨_, pe_var hN hv hd hcd, fun ph S H sg rho Q g so h => ?_⟩
  unfold eV at h
  split at h
  · rename_i y hy
    obtain ⟨v, h1, h2⟩ := so.2 i y hy
    exact ⟨v, h1, h ph v H (Ext.refl _ _) g h2⟩
  · exact h.elim
theorem pd_const {e : Expr} {v : V} {d : D} (h : PE X e (tC v)) (hd : ∀ F, Den X.K F v d) : PD X W e (eC d) :=
  ⟨_, h, fun ph S H sg rho Q g so hq => hq ph v H (Ext.refl _ _) g (hd _)⟩
theorem pd_int {i : Int} {j pos} : PD X W (.Constant (.int i) j pos) (eC (.int i)) := pd_const pe_int fun _ => .int _
theorem pd_bl {b : Bool} {j pos} : PD X W (.Constant (.bool b) j pos) (eC (.bl b)) := pd_const pe_bl fun _ => .bl _
theorem pd_non {j pos} : PD X W (.Constant .none j pos) (eC .non) := pd_const pe_non fun _ => .non
theorem pd_str {x : Str} {j pos} : PD X W (.Constant (.str x) j pos) (eC (.str x)) := pd_const pe_str fun _ => .str _

abbrev G1 := SV → Store → Res (SV × Store)
abbrev G2 := SV → SV → Store → Res (SV × Store)
abbrev GA := List SV → Store → Res (SV × Store)
def Op2 (X : Cx) (W : XW X.K) (r : R2) (g : G2) : Prop := ∀ (ph : List Addr) (S : Store) (H : Hp) (x y : V) (a b : SV) (Q : VK), Good X.K ph H S → DenS X.K ph H x a → DenS X.K ph H y b →
  holds (g a b S) (post X.K ph H Q) (W.rel ph H) → r x y H Q
def Op1 (X : Cx) (W : XW X.K) (r : V → Hp → VK → Prop) (g : G1) : Prop := ∀ (ph : List Addr) (S : Store) (H : Hp) (x : V) (a : SV) (Q : VK), Good X.K ph H S → DenS X.K ph H x a →
  holds (g a S) (post X.K ph H Q) (W.rel ph H) → r x H Q
def OpA (X : Cx) (W : XW X.K) (r : List V → Hp → VK → Prop) (g : GA) : Prop := ∀ (ph : List Addr) (S : Store) (H : Hp) (xs : List V) (as : List SV) (Q : VK), Good X.K ph H S → DenSs X.K ph H xs as →
  holds (g as S) (post X.K ph H Q) (W.rel ph H) → r xs H Q
def e2 (g : G2) (a b : EM) : EM := fun rho S => (a rho S).bind fun x => (b rho x.2).bind fun y => g x.1 y.1 y.2
def e1 (g : G1) (a : EM) : EM := fun rho S => (a rho S).bind fun x => g x.1 x.2
variable {a b : Expr} {ma mb : EM} {pos : Pos}
theorem snd2 {ta tb : TE} {r : R2} {g : G2}
    (ha : ∀ (ph : List Addr) (S : Store) (H : Hp) (sg : L2.St) (rho : Slots) (Q : VK), Good X.K ph H S → SlotsOk X.K ph H sg rho → holds (ma rho S) (post X.K ph H Q) (W.rel ph H) → ta sg H Q)
    (hb : ∀ (ph : List Addr) (S : Store) (H : Hp) (sg : L2.St) (rho : Slots) (Q : VK), Good X.K ph H S → SlotsOk X.K ph H sg rho → holds (mb rho S) (post X.K ph H Q) (W.rel ph H) → tb sg H Q)
    (hr : Op2 X W r g) (ph : List Addr) (S : Store) (H : Hp) (sg : L2.St) (rho : Slots) (Q : VK) (gd : Good X.K ph H S) (so : SlotsOk X.K ph H sg rho)
    (h : holds (e2 g ma mb rho S) (post X.K ph H Q) (W.rel ph H)) : ta sg H fun x H1 => tb sg H1 fun y H2 => r x y H2 Q := by
  refine ha ph S H sg rho _ gd so (holds_imp (holds_bind h) (fun x hx => ?_) fun _ _ _ q => q)
  intro ph1 v1 H1 x1 g1 d1
  refine hb ph1 x.2 H1 sg rho _ g1 (so.mono x1) (holds_imp (holds_bind hx) (fun y hy => ?_) fun e r s q => W.mono _ _ _ _ e r s x1 q)
  intro ph2 v2 H2 x2 g2 d2
  exact hr ph2 y.2 H2 v1 v2 x.1 y.1 Q g2 (d1.mono x2) d2 (holds_imp hy (fun c => post.mono (x1.trans x2) c) fun e r s q => W.mono _ _ _ _ e r s (x1.trans x2) q)
theorem pd_2 {op : Operator} {r : R2} {g : G2} (ho : OpR X (binaryOp op) r) (hr : Op2 X W r g) (ha : PD X W a ma) (hb : PD X W b mb) : PD X W (.BinOp a op b pos) (e2 g ma mb) := by
  obtain ⟨ta, pa, sa⟩ := ha.ex
  obtain ⟨tb, pb, sb⟩ := hb.ex
  exact ⟨_, pe_op ho pa pb, fun ph S H sg rho Q gd so h => snd2 sa sb hr ph S H sg rho Q gd so h⟩
theorem pd_cmp {op : CmpOp} {r : R2} {g : G2} (ho : OpR X (compareOp op) r) (hr : Op2 X W r g) (ha : PD X W a ma) (hb : PD X W b mb) (hm : behindInMarks op b = false := by first | exact nomark _ | rfl) : PD X W (.Compare a [op] [b] pos) (e2 g ma mb) := by
  obtain ⟨ta, pa, sa⟩ := ha.ex
  obtain ⟨tb, pb, sb⟩ := hb.ex
  exact ⟨_, pe_cmpR ho pa pb hm, fun ph S H sg rho Q gd so h => snd2 sa sb hr ph S H sg rho Q gd so h⟩
theorem pd_1 {op : UnaryOp} {r : V → Hp → VK → Prop} {g : G1} (ho : UnR X (unaryOp op) r) (hr : Op1 X W r g) (ha : PD X W a ma) : PD X W (.UnaryOp op a pos) (e1 g ma) := by
  obtain ⟨ta, pa, sa⟩ := ha.ex
  refine ⟨_, pe_un ho pa, fun ph S H sg rho Q gd so h => sa ph S H sg rho _ gd so (holds_imp (holds_bind h) (fun x hx => ?_) fun _ _ _ q => q)⟩
  intro ph1 v1 H1 x1 g1 d1
  exact hr ph1 x.2 H1 v1 x.1 Q g1 d1 (holds_imp hx (fun c => post.mono x1 c) fun e r s q => W.mono _ _ _ _ e r s x1 q)

def aN : AM := fun _ S => .ok ([], S)
def aC (a : EM) (r : AM) : AM := fun rho S => (a rho S).bind fun x => (r rho x.2).bind fun y => .ok (x.1 :: y.1, y.2)
theorem pda_nil : PDA X W [] aN := ⟨_, pa_nil, fun ph S H sg rho Q g so h => h ph [] H (Ext.refl _ _) g .nil⟩
theorem pda_cons {es : List Expr} {mr : AM} (ha : PD X W a ma) (hr : PDA X W es mr) (hs : starEach (a :: es) X.env = (false, eval a X.env) :: starEach es X.env := by rfl) : PDA X W (a :: es) (aC ma mr) := by
  obtain ⟨ta, pa, sa⟩ := ha.ex
  obtain ⟨tr, pr, sr⟩ := hr.ex
  refine ⟨_, pa_cons pa pr hs, fun ph S H sg rho Q gd so h => sa ph S H sg rho _ gd so (holds_imp (holds_bind h) (fun x hx => ?_) fun _ _ _ q => q)⟩
  intro ph1 v1 H1 x1 g1 d1
  refine sr ph1 x.2 H1 sg rho _ g1 (so.mono x1) (holds_imp (holds_bind hx) (fun y hy => ?_) fun e r s q => W.mono _ _ _ _ e r s x1 q)
  intro ph2 vs H2 x2 g2 d2
  exact hy ph2 (v1 :: vs) H2 (x1.trans x2) g2 (.cons (d1.mono x2) d2)
def eA (g : GA) (m : AM) : EM := fun rho S => (m rho S).bind fun x => g x.1 x.2
theorem sndA {t : TA} {m : AM} {r : List V → Hp → VK → Prop} {g : GA}
    (ha : ∀ (ph : List Addr) (S : Store) (H : Hp) (sg : L2.St) (rho : Slots) (Q : List V → Hp → Prop), Good X.K ph H S → SlotsOk X.K ph H sg rho → holds (m rho S) (postA X.K ph H Q) (W.rel ph H) → t sg H Q)
    (hr : OpA X W r g) (ph : List Addr) (S : Store) (H : Hp) (sg : L2.St) (rho : Slots) (Q : VK) (gd : Good X.K ph H S) (so : SlotsOk X.K ph H sg rho)
    (h : holds (eA g m rho S) (post X.K ph H Q) (W.rel ph H)) : t sg H fun xs H1 => r xs H1 Q := by
  refine ha ph S H sg rho _ gd so (holds_imp (holds_bind h) (fun x hx => ?_) fun _ _ _ q => q)
  intro ph1 vs H1 x1 g1 d1
  exact hr ph1 x.2 H1 vs x.1 Q g1 d1 (holds_imp hx (fun c => post.mono x1 c) fun e r s q => W.mono _ _ _ _ e r s x1 q)

def allFr : List SV → Option (List D)
  | [] => some []
  | .fr d :: r => (allFr r).map (d :: ·)
  | .cell _ :: _ => none
theorem allFr_map : ∀ ds : List D, allFr (ds.map SV.fr) = some ds
  | [] => rfl
  | d :: ds => by simp [allFr, allFr_map ds]
theorem allFr_eq : ∀ {xs : List SV} {ds : List D}, allFr xs = some ds → xs = ds.map SV.fr
  | [], ds, h => by simp [allFr] at h; subst h; rfl
  | .fr d :: r, ds, h => by
    simp only [allFr, Option.map_eq_some_iff] at h
    obtain ⟨es, h1, rfl⟩ := h
    rw [allFr_eq h1]; rfl
  | .cell _ :: _, _, h => by simp [allFr] at h
theorem dens_of {K : PySem.W.Frag} {ph : List Addr} {H : Hp} : ∀ {ds : List D} {vs : List V}, DenSs K ph H vs (ds.map SV.fr) → Dens K (hide ph H) vs ds
  | [], _, .nil => .nil
  | d :: ds, _, .cons h t => .cons h (dens_of t)
theorem of_dens {K : PySem.W.Frag} {ph : List Addr} {H : Hp} : ∀ {ds : List D} {vs : List V}, Dens K (hide ph H) vs ds → DenSs K ph H vs (ds.map SV.fr)
  | _, _, .nil => .nil
  | _, _, .cons h t => .cons h (of_dens t)
def newL (m : Bool) (xs : List SV) (S : Store) : Res (SV × Store) := if xs.length ≤ sizeLine then (if m then .ok (.cell S.length, S ++ [.lst xs]) else match allFr xs with
  | some ds => .ok (.fr (.lst ds), S)
  | none => .stuck) else .stuck
def newT (xs : List SV) (S : Store) : Res (SV × Store) := if xs.length ≤ sizeLine then (match allFr xs with
  | some ds => .ok (.fr (.tup ds), S)
  | none => .stuck) else .stuck
theorem newL_ok {K : PySem.W.Frag} {ph : List Addr} {H : Hp} {S : Store} {vs : List V} {xs : List SV} {m : Bool} {Q : VK} {E : Exc → Slots → Store → Prop} (g : Good K ph H S) (d : DenSs K ph H vs xs) (h : holds (newL m xs S) (post K ph H Q) E) :
    vs.length ≤ sizeLine ∧ ∀ p, H p = none → Q (.ref p) (upd H p (.lst vs)) := by
  unfold newL at h
  split at h
  · rename_i hz
    refine ⟨by rw [d.length]; exact hz, fun p hp => ?_⟩
    cases m with
    | true =>
      have e : Ext ph H (ph ++ [p]) (upd H p (.lst vs)) := Ext.cell hp
      exact h (ph ++ [p]) (.ref p) _ e (g.cell hp ⟨vs, upd_same, d.mono e⟩) ⟨p, by rw [← g.len]; simp, rfl⟩
    | false =>
      simp only [Bool.false_eq_true, if_false] at h
      split at h
      · rename_i ds hd
        have e : Ext ph H ph (upd H p (.lst vs)) := Ext.fresh hp
        refine h ph (.ref p) _ e (g.fresh hp) (.lst (vs := vs) (hide_of (g.new hp) upd_same) ?_)
        have d' := d.mono e
        rw [allFr_eq hd] at d'
        exact dens_of d'
      · exact h.elim
  · exact h.elim
theorem newT_ok {K : PySem.W.Frag} {ph : List Addr} {H : Hp} {S : Store} {vs : List V} {xs : List SV} {Q : VK} {E : Exc → Slots → Store → Prop} (g : Good K ph H S) (d : DenSs K ph H vs xs) (h : holds (newT xs S) (post K ph H Q) E) :
    vs.length ≤ sizeLine ∧ ∀ p, H p = none → Q (.ref p) (upd H p (.tup vs)) := by
  unfold newT at h
  split at h
  · rename_i hz
    refine ⟨by rw [d.length]; exact hz, fun p hp => ?_⟩
    split at h
    · rename_i ds hd
      have e : Ext ph H ph (upd H p (.tup vs)) := Ext.fresh hp
      refine h ph (.ref p) _ e (g.fresh hp) (.tup (vs := vs) (hide_of (g.new hp) upd_same) ?_)
      have d' := d.mono e
      rw [allFr_eq hd] at d'
      exact dens_of d'
    · exact h.elim
  · exact h.elim
def newTC (xs : List SV) (S : Store) : Res (SV × Store) := if xs.length ≤ sizeLine then .ok (.cell S.length, S ++ [.tup xs]) else .stuck
theorem newTC_ok {K : PySem.W.Frag} {ph : List Addr} {H : Hp} {S : Store} {vs : List V} {xs : List SV} {Q : VK} {E : Exc → Slots → Store → Prop} (g : Good K ph H S) (d : DenSs K ph H vs xs) (h : holds (newTC xs S) (post K ph H Q) E) :
    vs.length ≤ sizeLine ∧ ∀ p, H p = none → Q (.ref p) (upd H p (.tup vs)) := by
  unfold newTC at h
  split at h
  · rename_i hz
    refine ⟨by rw [d.length]; exact hz, fun p hp => ?_⟩
    have e : Ext ph H (ph ++ [p]) (upd H p (.tup vs)) := Ext.cell hp
    exact h (ph ++ [p]) (.ref p) _ e (g.cell hp ⟨vs, upd_same, d.mono e⟩) ⟨p, by rw [← g.len]; simp, rfl⟩
  · exact h.elim
theorem pd_tupC {es : List Expr} {m : AM} {k : Nat} (h : PDA X W es m) : PD X W (.Tuple es k pos) (eA newTC m) := by
  obtain ⟨t, p, s⟩ := h.ex
  exact ⟨_, pe_tup p, fun ph S H sg rho Q gd so h => sndA (r := fun xs H1 Q => xs.length ≤ sizeLine ∧ ∀ p, H1 p = none → Q (.ref p) (upd H1 p (.tup xs))) s (fun _ _ _ _ _ _ g d hq => newTC_ok g d hq) ph S H sg rho Q gd so h⟩
theorem pd_lst {es : List Expr} {m : AM} (c : Bool) (h : PDA X W es m) : PD X W (.List es pos) (eA (newL c) m) := by
  obtain ⟨t, p, s⟩ := h.ex
  exact ⟨_, pe_lst p, fun ph S H sg rho Q gd so h => sndA (r := fun xs H1 Q => xs.length ≤ sizeLine ∧ ∀ p, H1 p = none → Q (.ref p) (upd H1 p (.lst xs))) s (fun _ _ _ _ _ _ g d hq => newL_ok g d hq) ph S H sg rho Q gd so h⟩
theorem pd_tup {es : List Expr} {m : AM} {k : Nat} (h : PDA X W es m) : PD X W (.Tuple es k pos) (eA newT m) := by
  obtain ⟨t, p, s⟩ := h.ex
  exact ⟨_, pe_tup p, fun ph S H sg rho Q gd so h => sndA (r := fun xs H1 Q => xs.length ≤ sizeLine ∧ ∀ p, H1 p = none → Q (.ref p) (upd H1 p (.tup xs))) s (fun _ _ _ _ _ _ g d hq => newT_ok g d hq) ph S H sg rho Q gd so h⟩
end

def snap0 (S : Store) : SV → Option D
  | .fr d => some d
  | .cell k => match S[k]? with
    | some (.lst xs) => (allFr xs).map D.lst
    | _ => none
def allSn (f : SV → Option D) : List SV → Option (List D)
  | [] => some []
  | x :: xs => match f x, allSn f xs with
    | some d, some ds => some (d :: ds)
    | _, _ => none
def snap (S : Store) : SV → Option D
  | .fr d => some d
  | .cell k => match S[k]? with
    | some (.lst xs) => (allSn (snap0 S) xs).map D.lst
    | some (.tup xs) => (allSn (snap0 S) xs).map D.tup
    | _ => none
theorem allSn_map {f : SV → Option D} (h : ∀ d, f (.fr d) = some d) : ∀ ds : List D, allSn f (ds.map SV.fr) = some ds
  | [] => rfl
  | d :: ds => by simp only [List.map_cons, allSn, h, allSn_map h ds]
theorem hide_sub {ph : List Addr} {H : Hp} : Sub (hide ph H) H := fun _ _ h => (hide_some h).2
theorem snap0_ok {K : PySem.W.Frag} {ph : List Addr} {H : Hp} {S : Store} {v : V} {x : SV} {d : D} (g : Good K ph H S) (h : DenS K ph H v x) (e : snap0 S x = some d) : Den K H v d := by
  cases x with
  | fr d' => simp [snap0] at e; subst e; exact Den.mono hide_sub h
  | cell k =>
    obtain ⟨p, h1, rfl⟩ := h
    unfold snap0 at e
    dsimp only at e
    split at e
    · rename_i xs hk
      simp only [Option.map_eq_some_iff] at e
      obtain ⟨ds, h2, rfl⟩ := e
      obtain ⟨q, h3, vs, h4, h5⟩ := g.at hk
      rw [h1] at h3; cases h3
      rw [allFr_eq h2] at h5
      exact .lst h4 (Dens.mono hide_sub (dens_of h5))
    · cases e
theorem snaps_ok {K : PySem.W.Frag} {ph : List Addr} {H : Hp} {S : Store} (g : Good K ph H S) : ∀ {vs : List V} {xs : List SV} {ds : List D}, DenSs K ph H vs xs → allSn (snap0 S) xs = some ds → Dens K H vs ds
  | _, _, ds, .nil, e => by simp [allSn] at e; subst e; exact .nil
  | _, _, ds, .cons h t, e => by
    unfold allSn at e
    split at e
    · rename_i d r h1 h2
      cases e
      exact .cons (snap0_ok g h h1) (snaps_ok g t h2)
    · cases e
theorem snap_ok {K : PySem.W.Frag} {ph : List Addr} {H : Hp} {S : Store} {v : V} {x : SV} {d : D} (g : Good K ph H S) (h : DenS K ph H v x) (e : snap S x = some d) : Den K H v d := by
  cases x with
  | fr d' => simp [snap] at e; subst e; exact Den.mono hide_sub h
  | cell k =>
    obtain ⟨p, h1, rfl⟩ := h
    unfold snap at e
    dsimp only at e
    split at e
    · rename_i xs hk
      simp only [Option.map_eq_some_iff] at e
      obtain ⟨ds, h2, rfl⟩ := e
      obtain ⟨q, h3, vs, h4, h5⟩ := g.at hk
      rw [h1] at h3; cases h3
      exact .lst h4 (snaps_ok g h5 h2)
    · rename_i xs hk
      simp only [Option.map_eq_some_iff] at e
      obtain ⟨ds, h2, rfl⟩ := e
      obtain ⟨q, h3, vs, h4, h5⟩ := g.at hk
      rw [h1] at h3; cases h3
      exact .tup h4 (snaps_ok g h5 h2)
    · cases e
def rdL (S : Store) : SV → Option (List SV)
  | .fr (.lst ds) => some (ds.map SV.fr)
  | .cell k => match S[k]? with
    | some (.lst xs) => some xs
    | _ => none
  | _ => none
theorem rdL_at {K : PySem.W.Frag} {ph : List Addr} {H : Hp} {S : Store} {v : V} {x : SV} {xs : List SV} (g : Good K ph H S) (h : DenS K ph H v x) (e : rdL S x = some xs) : ∃ a vs, v = .ref a ∧ H a = some (.lst vs) ∧ DenSs K ph H vs xs := by
  cases x with
  | fr d =>
    cases d with
    | lst ds =>
      simp [rdL] at e; subst e
      cases h with
      | lst s r => exact ⟨_, _, rfl, hide_sub _ _ s, of_dens r⟩
    | _ => simp [rdL] at e
  | cell k =>
    obtain ⟨p, h1, rfl⟩ := h
    unfold rdL at e
    dsimp only at e
    split at e
    · rename_i ys hk
      cases e
      obtain ⟨q, h3, vs, h4, h5⟩ := g.at hk
      rw [h1] at h3; cases h3
      exact ⟨p, vs, rfl, h4, h5⟩
    · cases e
def rdS (S : Store) : SV → Option (List SV)
  | .fr (.scr ds) => some (ds.map SV.fr)
  | x => rdL S x
theorem rdS_ok {K : PySem.W.Frag} {ph : List Addr} {H : Hp} {S : Store} {v : V} {x : SV} {xs : List SV} (g : Good K ph H S) (h : DenS K ph H v x) (e : rdS S x = some xs) : ∃ a vs, v = .ref a ∧ SqL K H a vs ∧ DenSs K ph H vs xs := by
  unfold rdS at e
  split at e
  · cases e
    cases h with
    | scr s r => exact ⟨_, _, rfl, hide_sub.sqL s, of_dens r⟩
  · obtain ⟨a, vs, h1, h2, h3⟩ := rdL_at g h e
    exact ⟨a, vs, h1, .of h2, h3⟩
end DL

namespace DL
open PySem L2

mutual
def py : D → PyData
  | .non => .none
  | .bl b => .bool b
  | .int i => .int i
  | .str x => .str x
  | .tup ds => .tuple (pys ds)
  | .lst ds => .list (pys ds)
  | .scr ds => .list (pys ds)
  | .ty _ => .none
  | .ref _ => .none
  | .ins _ _ => .none
  | .cls _ => .none
  | .exn _ _ _ _ => .none
  | .dct _ => .none
def pys : List D → List PyData
  | [] => []
  | d :: ds => py d :: pys ds
end
mutual
def isP : D → Bool
  | .non | .bl _ | .int _ | .str _ => true
  | .tup ds => isPs ds
  | .lst ds => isPs ds
  | .scr ds => isPs ds
  | .ty _ | .ref _ | .ins _ _ | .cls _ | .dct _ | .exn _ _ _ _ => false
def isPs : List D → Bool
  | [] => true
  | d :: ds => isP d && isPs ds
end
section
variable {K : PySem.W.Frag} {H : Hp}
mutual
theorem dp_of : ∀ {d : D} {v : V}, isP d = true → Den K H v d → Dp K H v (py d)
  | .non, _, _, .non => by simp only [py]; exact .non
  | .bl _, _, _, .bl _ => by simp only [py]; exact .bl _
  | .int _, _, _, .int _ => by simp only [py]; exact .int _
  | .str _, _, _, .str _ => by simp only [py]; exact .str _
  | .tup ds, _, h, .tup s r => by simp only [py]; exact .tup (.inl (.inl s)) (dps_of (by simpa only [isP] using h) r)
  | .lst ds, _, h, .lst s r => by simp only [py]; exact .lst (.of s) (dps_of (by simpa only [isP] using h) r)
  | .scr ds, _, h, .scr s r => by simp only [py]; exact .lst s (dps_of (by simpa only [isP] using h) r)
  | .ty _, _, h, _ => by simp [isP] at h
  | .ref _, _, h, _ => by simp [isP] at h
  | .ins _ _, _, h, _ => by simp [isP] at h
  | .cls _, _, h, _ => by simp [isP] at h
  | .exn _ _ _ _, _, h, _ => by simp [isP] at h
  | .dct _, _, h, _ => by simp [isP] at h
theorem dps_of : ∀ {ds : List D} {vs : List V}, isPs ds = true → Dens K H vs ds → DpAll K H vs (pys ds)
  | [], _, _, .nil => by simp only [pys]; exact .nil
  | d :: ds, _, h, .cons a r => by
    simp only [isPs, Bool.and_eq_true] at h
    simp only [pys]; exact .cons (dp_of h.1 a) (dps_of h.2 r)
end
end
def plain (d : D) : Bool := isP d && SeqAt.shaped (py d)
def deq (a b : D) : Bool := PyData.eqv (py a) (py b)
instance decCMul (i j : Int) : Decidable (CMul i j) := by unfold CMul; infer_instance
instance decCMulW (i j : Int) : Decidable (CMulW i j) := by unfold CMulW; infer_instance
instance decCDiv (i j : Int) : Decidable (CDiv i j) := by unfold CDiv; infer_instance
instance decCDivW (i j : Int) : Decidable (CDivW i j) := by unfold CDivW; infer_instance
instance decCPow (i j : Int) : Decidable (CPow i j) := by unfold CPow; infer_instance
def okV (d : D) (S : Store) : Res (SV × Store) := .ok (.fr d, S)
def addG (c : Bool) : G2 := fun a b S => match a, b with
  | .fr (.int i), .fr (.int j) => okV (.int (i + j)) S
  | .fr (.str i), .fr (.str j) => if i.length + j.length ≤ sizeLine then okV (.str (i ++ j)) S else .stuck
  | .fr (.tup xs), .fr (.tup ys) => if xs.length + ys.length ≤ sizeLine then okV (.tup (xs ++ ys)) S else .stuck
  | _, _ => match rdL S a, rdL S b with
    | some xs, some ys => newL c (xs ++ ys) S
    | _, _ => .stuck
def subG : G2 := fun a b S => match a, b with
  | .fr (.int i), .fr (.int j) => okV (.int (i - j)) S
  | _, _ => .stuck
def mulG (c : Bool) : G2 := fun a b S => match a, b with
  | .fr (.int i), .fr (.int j) => if CMul i j ∨ CMulW i j then okV (.int (i * j)) S else .stuck
  | _, .fr (.int k) => match rdL S a with
    | some xs => if -(2 ^ 63) ≤ k ∧ k < 2 ^ 63 ∧ xs.length * k.toNat ≤ sizeLine then newL c (List.replicate k.toNat xs).flatten S else .stuck
    | none => .stuck
  | _, _ => .stuck
def fdivG : G2 := fun a b S => match a, b with
  | .fr (.int i), .fr (.int j) => if CDiv i j ∨ CDivW i j then okV (.int (i / j)) S else .stuck
  | _, _ => .stuck
def modG : G2 := fun a b S => match a, b with
  | .fr (.int i), .fr (.int j) => if 0 < j then okV (.int (i % j)) S else .stuck
  | _, _ => .stuck
def powG : G2 := fun a b S => match a, b with
  | .fr (.int i), .fr (.int j) => if CPow i j then okV (.int (i ^ j.toNat)) S else .stuck
  | _, _ => .stuck
def negG : G1 := fun a S => match a with
  | .fr (.int i) => okV (.int (-i)) S
  | _ => .stuck
def cmpG (p : Int → Int → Bool) : G2 := fun a b S => match a, b with
  | .fr (.int i), .fr (.int j) => okV (.bl (p i j)) S
  | _, _ => .stuck
abbrev ltG : G2 := cmpG fun i j => decide (i < j)
abbrev gtG : G2 := cmpG fun i j => decide (j < i)
abbrev geG : G2 := cmpG fun i j => decide (j ≤ i)
def eqD (d e : D) : Option Bool := match d, e with
  | .str x, .str y => some (decide (x = y))
  | _, _ => if plain d && plain e then some (deq d e) else none
def eqG (n : Bool) : G2 := fun a b S => match snap S a, snap S b with
  | some d, some e => match eqD d e with
    | some r => okV (.bl (if n then !r else r)) S
    | none => .stuck
  | _, _ => .stuck
def isNon : SV → Bool
  | .fr .non => true
  | _ => false
def isG (n : Bool) : G2 := fun a b S => match b with
  | .fr .non => okV (.bl (if n then !isNon a else isNon a)) S
  | _ => .stuck
section
variable {X : Cx} {W : XW X.K}
theorem fin_v {ph : List Addr} {S : Store} {H : Hp} {v : V} {d : D} {Q : VK} {E : Exc → Slots → Store → Prop} (g : Good X.K ph H S) (hd : Den X.K (hide ph H) v d) (h : holds (okV d S) (post X.K ph H Q) E) : Q v H :=
  h ph v H (Ext.refl _ _) g hd
theorem d_int {K : PySem.W.Frag} {F : Hp} {v : V} {i : Int} (h : Den K F v (.int i)) : v = .int i := by cases h; rfl
theorem d_bl {K : PySem.W.Frag} {F : Hp} {v : V} {i : Bool} (h : Den K F v (.bl i)) : v = .bl i := by cases h; rfl
theorem d_str {K : PySem.W.Frag} {F : Hp} {v : V} {i : Str} (h : Den K F v (.str i)) : v = .str i := by cases h; rfl
theorem d_non {K : PySem.W.Frag} {F : Hp} {v : V} (h : Den K F v .non) : v = .non := by cases h; rfl
theorem d_tupH {K : PySem.W.Frag} {F : Hp} {v : V} {ds : List D} (h : Den K F v (.tup ds)) : ∃ a vs, v = .ref a ∧ F a = some (.tup vs) ∧ Dens K F vs ds := by cases h; exact ⟨_, _, rfl, by assumption, by assumption⟩
theorem d_tup {K : PySem.W.Frag} {F : Hp} {v : V} {ds : List D} (h : Den K F v (.tup ds)) : ∃ a vs, v = .ref a ∧ SqT K F a vs ∧ Dens K F vs ds := by
  obtain ⟨a, vs, e, h1, h2⟩ := d_tupH h
  exact ⟨a, vs, e, .inl (.inl h1), h2⟩
abbrev rAddAll (K : PySem.W.Frag) : R2 := fun x y H Q => rI0 (fun i j => .int (i + j)) x y H Q ∨ (∃ i j, x = .str i ∧ y = .str j ∧ i.length + j.length ≤ sizeLine ∧ Q (.str (i ++ j)) H) ∨ rCatA K x y H Q ∨ rCat x y H Q
theorem op_addAll : OpR X (binaryOp .Add) (rAddAll X.K) := op_add.or (op_add_str.or (op_catA.or op_cat))
theorem add_ok (c : Bool) : Op2 X W (rAddAll X.K) (addG c) := by
  intro ph S H x y a b Q g da db h
  unfold addG at h
  split at h
  · rw [d_int da, d_int db]
    exact .inl ⟨_, _, rfl, rfl, fin_v g (.int _) h⟩
  · split at h
    · rw [d_str da, d_str db]
      exact .inr (.inl ⟨_, _, rfl, rfl, by assumption, fin_v g (.str _) h⟩)
    · exact h.elim
  · split at h
    · rename_i xs ys hz
      obtain ⟨p, vs, rfl, s1, r1⟩ := d_tupH da
      obtain ⟨q, ws, rfl, s2, r2⟩ := d_tupH db
      have l1 := r1.len
      have l2 := r2.len
      refine .inr (.inr (.inl ⟨p, q, vs, ws, rfl, rfl, hide_sub.sqT (.inl (.inl s1)), hide_sub.sqT (.inl (.inl s2)), by omega, fun e => ?_, fun _ e => ?_, fun _ _ t ht => ?_⟩))
      · subst e
        have : xs = [] := List.length_eq_zero_iff.mp (by simpa using l1.symm)
        subst this
        exact fin_v g (.tup s2 r2) h
      · subst e
        have : ys = [] := List.length_eq_zero_iff.mp (by simpa using l2.symm)
        subst this
        rw [List.append_nil] at h
        exact fin_v g (.tup s1 r1) h
      · have e : Ext ph H ph (upd H t (.tup (vs ++ ws))) := Ext.fresh ht
        exact h ph (.ref t) _ e (g.fresh ht) (.tup (hide_of (g.new ht) upd_same) ((r1.mono e.sub).app (r2.mono e.sub)))
    · exact h.elim
  · split at h
    · rename_i xs ys h1 h2
      obtain ⟨p, vs, rfl, s1, r1⟩ := rdL_at g da h1
      obtain ⟨q, ws, rfl, s2, r2⟩ := rdL_at g db h2
      have z := newL_ok g (vs := vs ++ ws) (by
        clear h h1 h2 s1 s2
        induction r1 with
        | nil => exact r2
        | cons a t ih => exact .cons a ih) h
      exact .inr (.inr (.inr ⟨p, q, vs, ws, rfl, rfl, s1, s2, by simpa using z.1, z.2⟩))
    · exact h.elim
theorem int2_ok {C : Int → Int → Prop} {f : Int → Int → V} {x y : V} {i j : Int} {ph : List Addr} {H : Hp} {K : PySem.W.Frag} {Q : VK} (da : Den K (hide ph H) x (.int i)) (db : Den K (hide ph H) y (.int j)) (hc : C i j) (hq : Q (f i j) H) : rI C f x y H Q := by
  rw [d_int da, d_int db]
  exact ⟨_, _, rfl, rfl, hc, hq⟩
theorem paired_append {α β : Type} {P : α → β → Prop} : ∀ {l l' : List α} {m m' : List β}, Paired P l m → Paired P l' m' → Paired P (l ++ l') (m ++ m')
  | _, _, _, _, .nil, s => s
  | _, _, _, _, .cons a t, s => .cons a (paired_append t s)
theorem paired_rep {α β : Type} {P : α → β → Prop} {l : List α} {m : List β} (h : Paired P l m) : ∀ k : Nat, Paired P (List.replicate k l).flatten (List.replicate k m).flatten
  | 0 => .nil
  | k + 1 => by rw [List.replicate_succ, List.replicate_succ, List.flatten_cons, List.flatten_cons]; exact paired_append h (paired_rep h k)
abbrev rMulAll : R2 := fun x y H Q => rI CMul (fun i j => .int (i * j)) x y H Q ∨ rI CMulW (fun i j => .int (i * j)) x y H Q ∨ rRep x y H Q
theorem op_mulAll : OpR X (binaryOp .Mult) rMulAll := op_mul.or (op_mulW.or op_rep)
theorem mul_ok (c : Bool) : Op2 X W rMulAll (mulG c) := by
  intro ph S H x y a b Q g da db h
  unfold mulG at h
  split at h
  · split at h
    · rename_i hc
      rcases hc with hc | hc
      · exact .inl (int2_ok da db hc (fin_v g (.int _) h))
      · exact .inr (.inl (int2_ok da db hc (fin_v g (.int _) h)))
    · exact h.elim
  · split at h
    · rename_i xs hx
      split at h
      · rename_i hk
        obtain ⟨p, vs, rfl, s1, r1⟩ := rdL_at g da hx
        rw [d_int db]
        have z := newL_ok g (paired_rep r1 _) h
        exact .inr (.inr ⟨p, _, vs, rfl, rfl, s1, hk.1, hk.2.1, by rw [r1.length]; exact hk.2.2, z.2⟩)
      · exact h.elim
    · exact h.elim
  · exact h.elim
abbrev rDivAll : R2 := fun x y H Q => rI CDiv (fun i j => .int (i / j)) x y H Q ∨ rI CDivW (fun i j => .int (i / j)) x y H Q
theorem op_divAll : OpR X (binaryOp .FloorDiv) rDivAll := op_fdiv.or op_fdivW
theorem fdiv_ok : Op2 X W rDivAll fdivG := by
  intro ph S H x y a b Q g da db h
  unfold fdivG at h
  split at h
  · split at h
    · rename_i hc
      rcases hc with hc | hc
      · exact .inl (int2_ok da db hc (fin_v g (.int _) h))
      · exact .inr (int2_ok da db hc (fin_v g (.int _) h))
    · exact h.elim
  · exact h.elim
theorem mod_ok : Op2 X W (rI (fun _ j => 0 < j) fun i j => .int (i % j)) modG := by
  intro ph S H x y a b Q g da db h
  unfold modG at h
  split at h
  · split at h
    · exact int2_ok (C := fun _ j => 0 < j) da db (by assumption) (fin_v g (.int _) h)
    · exact h.elim
  · exact h.elim
theorem pow_ok : Op2 X W (rI CPow fun i j => .int (i ^ j.toNat)) powG := by
  intro ph S H x y a b Q g da db h
  unfold powG at h
  split at h
  · split at h
    · exact int2_ok da db (by assumption) (fin_v g (.int _) h)
    · exact h.elim
  · exact h.elim
theorem neg_ok : Op1 X W (rU fun i => .int (-i)) negG := by
  intro ph S H x a Q g da h
  unfold negG at h
  split at h
  · rw [d_int da]; exact ⟨_, rfl, fin_v g (.int _) h⟩
  · exact h.elim
theorem cmp_ok {p : Int → Int → Bool} : Op2 X W (rI0 fun i j => .bl (p i j)) (cmpG p) := by
  intro ph S H x y a b Q g da db h
  unfold cmpG at h
  split at h
  · rw [d_int da, d_int db]; exact ⟨_, _, rfl, rfl, fin_v g (.bl _) h⟩
  · exact h.elim
theorem d_strH {K : PySem.W.Frag} {H : Hp} {v : V} {x : Str} (h : Den K H v (.str x)) : v = .str x := by cases h; rfl
abbrev rEqAll (K : PySem.W.Frag) : R2 := fun x y H Q => rEqD K x y H Q ∨ rEq x y H Q
abbrev rNeAll (K : PySem.W.Frag) : R2 := fun x y H Q => rNeD K x y H Q ∨ rNe x y H Q
theorem eq_ok : Op2 X W (rEqAll X.K) (eqG false) := by
  intro ph S H x y a b Q g da db h
  unfold eqG at h
  split at h
  · rename_i d e h1 h2
    have n1 := snap_ok g da h1
    have n2 := snap_ok g db h2
    unfold eqD at h
    split at h
    · rename_i r hr
      split at hr
      · rename_i s1 s2
        cases hr
        rw [d_strH n1, d_strH n2]
        refine .inr ⟨rfl, fin_v (E := W.rel ph H) g (Den.bl _) ?_⟩
        have e : decide (V.str s1 = V.str s2) = decide (s1 = s2) := by simp
        rw [e]
        simpa using h
      · split at hr
        · rename_i hp
          cases hr
          simp only [Bool.and_eq_true, plain] at hp
          exact .inl ⟨py d, py e, dp_of hp.1.1 n1, dp_of hp.2.1 n2, hp.1.2, hp.2.2, fin_v g (.bl _) h⟩
        · cases hr
    · exact h.elim
  · exact h.elim
theorem ne_ok : Op2 X W (rNeAll X.K) (eqG true) := by
  intro ph S H x y a b Q g da db h
  unfold eqG at h
  split at h
  · rename_i d e h1 h2
    have n1 := snap_ok g da h1
    have n2 := snap_ok g db h2
    unfold eqD at h
    split at h
    · rename_i r hr
      split at hr
      · rename_i s1 s2
        cases hr
        rw [d_strH n1, d_strH n2]
        refine .inr ⟨rfl, fin_v (E := W.rel ph H) g (Den.bl _) ?_⟩
        have e : decide (V.str s1 = V.str s2) = decide (s1 = s2) := by simp
        rw [e]
        simpa using h
      · split at hr
        · rename_i hp
          cases hr
          simp only [Bool.and_eq_true, plain] at hp
          exact .inl ⟨py d, py e, dp_of hp.1.1 n1, dp_of hp.2.1 n2, hp.1.2, hp.2.2, fin_v g (.bl _) h⟩
        · cases hr
    · exact h.elim
  · exact h.elim
variable {a b : Expr} {ma mb : EM} {pos : Pos}
theorem pd_add (c : Bool) (ha : PD X W a ma) (hb : PD X W b mb) : PD X W (.BinOp a .Add b pos) (e2 (addG c) ma mb) := pd_2 op_addAll (add_ok c) ha hb
theorem pd_mul (c : Bool) (ha : PD X W a ma) (hb : PD X W b mb) : PD X W (.BinOp a .Mult b pos) (e2 (mulG c) ma mb) := pd_2 op_mulAll (mul_ok c) ha hb
theorem pd_fdiv (ha : PD X W a ma) (hb : PD X W b mb) : PD X W (.BinOp a .FloorDiv b pos) (e2 fdivG ma mb) := pd_2 op_divAll fdiv_ok ha hb
theorem pd_mod (ha : PD X W a ma) (hb : PD X W b mb) : PD X W (.BinOp a .Mod b pos) (e2 modG ma mb) := pd_2 op_mod mod_ok ha hb
theorem pd_pow (ha : PD X W a ma) (hb : PD X W b mb) : PD X W (.BinOp a .Pow b pos) (e2 powG ma mb) := pd_2 op_pow pow_ok ha hb
theorem pd_neg (ha : PD X W a ma) : PD X W (.UnaryOp .USub a pos) (e1 negG ma) := pd_1 un_neg neg_ok ha
theorem pd_eq (hu : X.A.units + 64 < cLine) (ha : PD X W a ma) (hb : PD X W b mb) : PD X W (.Compare a [.Eq] [b] pos) (e2 (eqG false) ma mb) := pd_cmp ((op_eqD hu).or op_eq) eq_ok ha hb
end
end DL

namespace DL
open PySem L2

def truthD : D → Option Bool
  | .non => some false
  | .bl b => some b
  | .int i => some (i != 0)
  | .str x => if x.length ≤ sizeLine then some ((x.length : Int) != 0) else none
  | .tup ds => some (!ds.isEmpty)
  | .lst ds => some (!ds.isEmpty)
  | _ => none
def truth (S : Store) : SV → Option Bool
  | .fr d => truthD d
  | .cell k => match S[k]? with
    | some (.lst xs) => some (!xs.isEmpty)
    | _ => none
theorem paired_empty {α β : Type} {P : α → β → Prop} {l : List α} {m : List β} (h : Paired P l m) : l.isEmpty = m.isEmpty := by
  cases h <;> rfl
theorem dens_empty {K : PySem.W.Frag} {F : Hp} {vs : List V} {ds : List D} (h : Dens K F vs ds) : vs.isEmpty = ds.isEmpty := by
  cases h <;> rfl
theorem truth_ok {K : PySem.W.Frag} {ph : List Addr} {S : Store} {H : Hp} {v : V} {x : SV} {k : Bool} (g : Good K ph H S) (h : DenS K ph H v x) (e : truth S x = some k) : TruV K v H k := by
  cases x with
  | fr d =>
    have e : truthD d = some k := e
    cases d with
    | non => rw [d_non h]; simp [truthD] at e; exact e
    | bl b => rw [d_bl h]; simp [truthD] at e; exact e.symm
    | int i => rw [d_int h]; simp only [truthD, Option.some.injEq] at e; exact e.symm
    | str z =>
      rw [d_str h]
      simp only [truthD] at e
      split at e
      · exact ⟨by assumption, (Option.some.inj e).symm⟩
      · cases e
    | tup ds =>
      obtain ⟨a, vs, rfl, s, r⟩ := d_tup h
      simp only [truthD, Option.some.injEq] at e
      exact .inr (.inl ⟨vs, hide_sub.sqT s, by rw [← e, dens_empty r]⟩)
    | lst ds =>
      cases h with
      | lst s r =>
        simp only [truthD, Option.some.injEq] at e
        exact .inl ⟨_, .of (hide_sub _ _ s), by rw [← e, dens_empty r]⟩
    | _ => simp [truthD] at e
  | cell n =>
    obtain ⟨p, h1, rfl⟩ := h
    simp only [truth] at e
    split at e
    · rename_i xs hk
      obtain ⟨q, h3, vs, h4, h5⟩ := g.at hk
      rw [h1] at h3; cases h3
      simp only [Option.some.injEq] at e
      exact .inl ⟨_, .of h4, by rw [← e, paired_empty h5]⟩
    · cases e

section
variable {X : Cx} {W : XW X.K} {a b c : Expr} {ma mb mc : EM} {pos : Pos}
def eTr (m : EM) (t f : SV × Store → Res (SV × Store)) : EM := fun rho S => (m rho S).bind fun x => match truth x.2 x.1 with
  | some true => t x
  | some false => f x
  | none => .stuck
def eAnd (a b : EM) : EM := fun rho S => eTr a (fun x => b rho x.2) (fun x => .ok x) rho S
def eOr (a b : EM) : EM := fun rho S => eTr a (fun x => .ok x) (fun x => b rho x.2) rho S
def eNot (a : EM) : EM := fun rho S => eTr a (fun x => okV (.bl false) x.2) (fun x => okV (.bl true) x.2) rho S
abbrev SndE (X : Cx) (W : XW X.K) (t : TE) (m : EM) : Prop := ∀ (ph : List Addr) (S : Store) (H : Hp) (sg : L2.St) (rho : Slots) (Q : VK), Good X.K ph H S → SlotsOk X.K ph H sg rho →
    holds (m rho S) (post X.K ph H Q) (W.rel ph H) → t sg H Q
abbrev SndT (X : Cx) (W : XW X.K) (t : TT) (m : TM) : Prop := ∀ (ph : List Addr) (S : Store) (H : Hp) (sg : L2.St) (rho : Slots) (Q : Bool → Hp → Prop), Good X.K ph H S → SlotsOk X.K ph H sg rho →
    holds (m rho S) (postT X.K ph H Q) (W.rel ph H) → t sg H Q
def tV (m : EM) : TM := fun rho S => (m rho S).bind fun x => match truth x.2 x.1 with
  | some k => .ok (k, x.2)
  | none => .stuck
def tB (m : EM) : TM := fun rho S => (m rho S).bind fun x => match x.1 with
  | .fr (.bl k) => .ok (k, x.2)
  | _ => .stuck
theorem pt_v (ha : PD X W a ma) (he : ∀ whole, isTrue a X.env whole = (do let v ← whole; standAt a.pos; holding [v] (truthy v)) := by intro _; rfl) : PDT X W a (tV ma) := by
  obtain ⟨ta, pa, sa⟩ := ha.ex
  refine ⟨_, pt_truth pa he, fun ph S H sg rho Q g so h => sa ph S H sg rho _ g so (holds_imp (holds_bind h) (fun x hx => ?_) fun _ _ _ q => q)⟩
  intro ph1 v1 H1 x1 g1 d1
  revert hx
  cases e : truth x.2 x.1 with
  | none => exact fun hx => hx.elim
  | some k => exact fun hx => ⟨k, truth_ok g1 d1 e, hx ph1 H1 x1 g1⟩
theorem tB_post {K : PySem.W.Frag} {ph : List Addr} {H : Hp} {Q : Bool → Hp → Prop} {E : Exc → Slots → Store → Prop} {x : SV × Store} (hx : holds (match x.1 with | .fr (.bl k) => Res.ok (k, x.2) | _ => .stuck) (postT K ph H Q) E) : post K ph H (fun y H' => ∃ k, y = .bl k ∧ Q k H') x := by
  intro ph1 v1 H1 x1 g1 d1
  obtain ⟨sv, S'⟩ := x
  dsimp only at *
  split at hx
  · exact ⟨_, d_bl d1, hx ph1 H1 x1 g1⟩
  · exact hx.elim
theorem pt_of {r : TE} {m : EM} (hp : PT X a (tTest r)) (hs : SndE X W r m) : PDT X W a (tB m) :=
  ⟨_, hp, fun ph S H sg rho Q g so h => hs ph S H sg rho _ g so (holds_imp (holds_bind h) (fun x hx => tB_post hx) fun _ _ _ q => q)⟩
theorem pt_2 {op : CmpOp} {r : R2} {g : G2} (ho : OpR X (compareOp op) r) (hr : Op2 X W r g) (ha : PD X W a ma) (hb : PD X W b mb) (hm : behindInMarks op b = false := by first | exact nomark _ | rfl) : PDT X W (.Compare a [op] [b] pos) (tB (e2 g ma mb)) := by
  obtain ⟨ta, pa, sa⟩ := ha.ex
  obtain ⟨tb, pb, sb⟩ := hb.ex
  exact pt_of (pt_cmpR ho pa pb hm) fun ph S H sg rho Q gd so h => snd2 sa sb hr ph S H sg rho Q gd so h
theorem pt_lt (ha : PD X W a ma) (hb : PD X W b mb) : PDT X W (.Compare a [.Lt] [b] pos) (tB (e2 ltG ma mb)) := pt_2 op_lt cmp_ok ha hb
theorem pt_gt (ha : PD X W a ma) (hb : PD X W b mb) : PDT X W (.Compare a [.Gt] [b] pos) (tB (e2 gtG ma mb)) := pt_2 op_gt cmp_ok ha hb
theorem pt_ge (ha : PD X W a ma) (hb : PD X W b mb) : PDT X W (.Compare a [.GtE] [b] pos) (tB (e2 geG ma mb)) := pt_2 op_ge cmp_ok ha hb
theorem pt_eq (hu : X.A.units + 64 < cLine) (ha : PD X W a ma) (hb : PD X W b mb) : PDT X W (.Compare a [.Eq] [b] pos) (tB (e2 (eqG false) ma mb)) := pt_2 ((op_eqD hu).or op_eq) eq_ok ha hb
theorem pt_ne (hu : X.A.units + 64 < cLine) (ha : PD X W a ma) (hb : PD X W b mb) : PDT X W (.Compare a [.NotEq] [b] pos) (tB (e2 (eqG true) ma mb)) := pt_2 ((op_neD hu).or op_ne) ne_ok ha hb
def eCh (g g' : G2) (a b c : EM) : EM := fun rho S => (a rho S).bind fun x => (b rho x.2).bind fun y => (g x.1 y.1 y.2).bind fun z => match z.1 with
  | .fr (.bl true) => (c rho z.2).bind fun w => g' y.1 w.1 w.2
  | .fr (.bl false) => okV (.bl false) z.2
  | _ => .stuck
structure PDW (X : Cx) (W : XW X.K) (e : Expr) (m : TM) : Prop where
  ex : ∃ t, PW X e t ∧ SndT X W t m
def tNt (m : TM) : TM := fun rho S => (m rho S).bind fun x => .ok (!x.1, x.2)
def tAn (m n : TM) : TM := fun rho S => (m rho S).bind fun x => if x.1 then n rho x.2 else .ok (false, x.2)
def tOo (m n : TM) : TM := fun rho S => (m rho S).bind fun x => if x.1 then .ok (true, x.2) else n rho x.2
theorem pt_w {m : TM} (h : PDW X W a m) : PDT X W a m := by
  obtain ⟨t, p, s⟩ := h.ex
  exact ⟨t, p.pt, s⟩
theorem pt_nt {m : TM} (h : PDT X W a m) : PDT X W (.UnaryOp .Not a pos) (tNt m) := by
  obtain ⟨t, p, s⟩ := h.ex
  refine ⟨_, pt_not p, fun ph S H sg rho Q g so h => s ph S H sg rho _ g so (holds_imp (holds_bind h) (fun x hx => ?_) fun _ _ _ q => q)⟩
  exact fun ph1 H1 x1 g1 => hx ph1 H1 x1 g1
theorem pw_a1 {m : TM} (h : PDT X W a m) : PDW X W (.BoolOp .And [a] pos) m := by
  obtain ⟨t, p, s⟩ := h.ex
  exact ⟨t, pw_and1 p, s⟩
theorem pw_o1 {m : TM} (h : PDT X W a m) : PDW X W (.BoolOp .Or [a] pos) m := by
  obtain ⟨t, p, s⟩ := h.ex
  exact ⟨t, pw_or1 p, s⟩
theorem pw_a {m n : TM} {rest : List Expr} (h : PDT X W a m) (h2 : PDW X W (.BoolOp .And (b :: rest) pos) n) : PDW X W (.BoolOp .And (a :: b :: rest) pos) (tAn m n) := by
  obtain ⟨t, p, s⟩ := h.ex
  obtain ⟨t2, p2, s2⟩ := h2.ex
  refine ⟨_, pw_and p p2, fun ph S H sg rho Q g so h => s ph S H sg rho _ g so (holds_imp (holds_bind h) (fun x hx => ?_) fun _ _ _ q => q)⟩
  intro ph1 H1 x1 g1
  obtain ⟨k, S1⟩ := x
  cases k with
  | true => exact s2 ph1 S1 H1 sg rho Q g1 (so.mono x1) (holds_imp hx (fun c => postT.mono x1 c) fun e r s q => W.mono _ _ _ _ e r s x1 q)
  | false => exact hx ph1 H1 x1 g1
theorem pw_o {m n : TM} {rest : List Expr} (h : PDT X W a m) (h2 : PDW X W (.BoolOp .Or (b :: rest) pos) n) : PDW X W (.BoolOp .Or (a :: b :: rest) pos) (tOo m n) := by
  obtain ⟨t, p, s⟩ := h.ex
  obtain ⟨t2, p2, s2⟩ := h2.ex
  refine ⟨_, pw_or p p2, fun ph S H sg rho Q g so h => s ph S H sg rho _ g so (holds_imp (holds_bind h) (fun x hx => ?_) fun _ _ _ q => q)⟩
  intro ph1 H1 x1 g1
  obtain ⟨k, S1⟩ := x
  cases k with
  | false => exact s2 ph1 S1 H1 sg rho Q g1 (so.mono x1) (holds_imp hx (fun c => postT.mono x1 c) fun e r s q => W.mono _ _ _ _ e r s x1 q)
  | true => exact hx ph1 H1 x1 g1
def eIf (t : TM) (a b : EM) : EM := fun rho S => (t rho S).bind fun x => if x.1 then a rho x.2 else b rho x.2
end
end DL

namespace DL
open PySem L2

theorem atI_pair {α β : Type} {P : α → β → Prop} {l : List α} {m : List β} {i : Int} {b : β} (h : Paired P l m) (e : atI m i = some b) : ∃ a, atI l i = some a ∧ P a b := by
  unfold atI at e ⊢
  rw [h.length]
  cases q : ixN m.length i with
  | none => rw [q] at e; simp at e
  | some j =>
    rw [q] at e
    exact paired_get h (by simpa using e)
def cutA {α : Type} (xs : List α) (lo hi : Option Int) : List α := (xs.drop (HT.sIx xs.length 0 lo)).take (HT.sIx xs.length xs.length hi - HT.sIx xs.length 0 lo)
theorem paired_drop {α β : Type} {P : α → β → Prop} : ∀ {l : List α} {m : List β} (n : Nat), Paired P l m → Paired P (l.drop n) (m.drop n)
  | _, _, 0, r => r
  | _, _, _ + 1, .nil => .nil
  | _, _, n + 1, .cons _ r => paired_drop n r
theorem paired_take {α β : Type} {P : α → β → Prop} : ∀ {l : List α} {m : List β} (n : Nat), Paired P l m → Paired P (l.take n) (m.take n)
  | _, _, 0, _ => .nil
  | _, _, _ + 1, .nil => .nil
  | _, _, n + 1, .cons a r => .cons a (paired_take n r)
theorem paired_cut {α β : Type} {P : α → β → Prop} {l : List α} {m : List β} (h : Paired P l m) (lo hi : Option Int) : Paired P (cutA l lo hi) (cutA m lo hi) := by
  unfold cutA
  rw [h.length]
  exact paired_take _ (paired_drop _ h)
def newL0 (m : Bool) (xs : List SV) (S : Store) : Res (SV × Store) := if m then .ok (.cell S.length, S ++ [.lst xs]) else match allFr xs with
  | some ds => .ok (.fr (.lst ds), S)
  | none => .stuck
theorem newL0_ok {K : PySem.W.Frag} {ph : List Addr} {H : Hp} {S : Store} {vs : List V} {xs : List SV} {m : Bool} {Q : VK} {E : Exc → Slots → Store → Prop} (g : Good K ph H S) (d : DenSs K ph H vs xs) (h : holds (newL0 m xs S) (post K ph H Q) E) :
    ∀ p, H p = none → Q (.ref p) (upd H p (.lst vs)) := fun p hp => by
  unfold newL0 at h
  cases m with
  | true =>
    have e : Ext ph H (ph ++ [p]) (upd H p (.lst vs)) := Ext.cell hp
    exact h (ph ++ [p]) (.ref p) _ e (g.cell hp ⟨vs, upd_same, d.mono e⟩) ⟨p, by rw [← g.len]; simp, rfl⟩
  | false =>
    simp only [Bool.false_eq_true, if_false] at h
    split at h
    · rename_i ds hd
      have e : Ext ph H ph (upd H p (.lst vs)) := Ext.fresh hp
      refine h ph (.ref p) _ e (g.fresh hp) (.lst (vs := vs) (hide_of (g.new hp) upd_same) ?_)
      have d' := d.mono e
      rw [allFr_eq hd] at d'
      exact dens_of d'
    · exact h.elim
section
variable {X : Cx} {W : XW X.K} {a b c : Expr} {ma mb mc : EM} {pos : Pos}

def ixG : G2 := fun a b S => match b with
  | .fr (.int i) => match rdS S a with
    | some xs => match atI xs i with
      | some x => .ok (x, S)
      | none => .stuck
    | none => match a with
      | .fr (.tup ds) => match atI ds i with
        | some d => okV d S
        | none => .stuck
      | .fr (.str z) => if z.length ≤ sizeLine then match atI z.cps.toList i with
        | some c => okV (.str ⟨#[c]⟩) S
        | none => .stuck else .stuck
      | _ => .stuck
  | _ => .stuck
theorem atI_dens {K : PySem.W.Frag} {F : Hp} {vs : List V} {ds : List D} {i : Int} {d : D} (h : Dens K F vs ds) (e : atI ds i = some d) : ∃ v, atI vs i = some v ∧ Den K F v d := by
  unfold atI at e ⊢
  rw [h.len]
  cases q : ixN ds.length i with
  | none => rw [q] at e; simp at e
  | some j =>
    rw [q] at e
    exact h.get (by simpa using e)
theorem ix_ok : Op2 X W (rIx X.K) ixG := by
  intro ph S H x y a b Q g da db h
  unfold ixG at h
  split at h
  · rw [d_int db]
    split at h
    · rename_i xs hx
      obtain ⟨p, vs, rfl, s, r⟩ := rdS_ok g da hx
      split at h
      · rename_i z hz
        obtain ⟨v, hv, dv⟩ := atI_pair r hz
        exact .inl ⟨p, vs, _, v, rfl, rfl, s, hv, h ph v H (Ext.refl _ _) g dv⟩
      · exact h.elim
    · split at h
      · obtain ⟨p, vs, rfl, s, r⟩ := d_tup da
        split at h
        · rename_i d hd
          obtain ⟨v, hv, dv⟩ := atI_dens r hd
          exact .inr (.inl ⟨p, vs, _, v, rfl, rfl, hide_sub.sqT s, hv, h ph v H (Ext.refl _ _) g dv⟩)
        · exact h.elim
      · rw [d_str da]
        split at h
        · split at h
          · rename_i hz _ c hc
            exact .inr (.inr ⟨_, _, c, rfl, rfl, hz, hc, fin_v g (.str _) h⟩)
          · exact h.elim
        · exact h.elim
      · exact h.elim
  · exact h.elim
theorem pd_ix (ha : PD X W a ma) (hb : PD X W b mb) (hs : PlainIx b := by intro _ _; rfl) : PD X W (.Subscript a b pos) (e2 ixG ma mb) := by
  obtain ⟨ta, pa, sa⟩ := ha.ex
  obtain ⟨tb, pb, sb⟩ := hb.ex
  exact ⟨_, pe_ix ix_seq pa pb hs, fun ph S H sg rho Q gd so h => snd2 sa sb ix_ok ph S H sg rho Q gd so h⟩

abbrev PM := Slots → Store → Res (Option Int × Store)
def postP (K : PySem.W.Frag) (ph : List Addr) (H : Hp) (Q : Option Int → Hp → Prop) : Option Int × Store → Prop := fun r => ∀ ph' H', Ext ph H ph' H' → Good K ph' H' r.2 → Q r.1 H'
structure PDO (X : Cx) (W : XW X.K) (e : Option Expr) (m : PM) : Prop where
  ex : ∃ t, PO X e t ∧ ∀ (ph : List Addr) (S : Store) (H : Hp) (sg : L2.St) (rho : Slots) (Q : Option Int → Hp → Prop), Good X.K ph H S → SlotsOk X.K ph H sg rho →
    holds (m rho S) (postP X.K ph H Q) (W.rel ph H) → t sg H Q
def pN : PM := fun _ S => .ok (none, S)
def pS (m : EM) : PM := fun rho S => (m rho S).bind fun x => match x.1 with
  | .fr (.int i) => .ok (some i, x.2)
  | _ => .stuck
theorem po_n : PDO X W none pN := ⟨_, po_none, fun ph S H sg rho Q g so h => h ph H (Ext.refl _ _) g⟩
theorem po_s (ha : PD X W a ma) : PDO X W (some a) (pS ma) := by
  obtain ⟨ta, pa, sa⟩ := ha.ex
  refine ⟨_, po_some pa, fun ph S H sg rho Q g so h => sa ph S H sg rho _ g so (holds_imp (holds_bind h) (fun x hx => ?_) fun _ _ _ q => q)⟩
  intro ph1 v1 H1 x1 g1 d1
  obtain ⟨sv, S1⟩ := x
  dsimp only at *
  split at hx
  · exact ⟨_, d_int d1, hx ph1 H1 x1 g1⟩
  · exact hx.elim
def slG (c : Bool) (a : SV) (lo hi : Option Int) (S : Store) : Res (SV × Store) := match rdS S a with
  | some xs => newL0 c (cutA xs lo hi) S
  | none => match a with
    | .fr (.tup ds) => okV (.tup (cutA ds lo hi)) S
    | .fr (.str z) => if z.length ≤ sizeLine then okV (.str (cutS z lo hi)) S else .stuck
    | _ => .stuck
abbrev rSlAll (K : PySem.W.Frag) : V → Option Int → Option Int → Hp → VK → Prop := fun x lo hi H Q => rSlL K x lo hi H Q ∨ rSlA K x lo hi H Q ∨ rSlS x lo hi H Q
theorem sl_all : SlR X (rSlAll X.K) := sl_list.or (sl_tupA.or sl_str)
theorem dens_cut {K : PySem.W.Frag} {F : Hp} {vs : List V} {ds : List D} (h : Dens K F vs ds) (lo hi : Option Int) : Dens K F (cutA vs lo hi) (cutA ds lo hi) := by
  unfold cutA
  rw [h.len]
  exact (h.drop _).take _
theorem sl_ok {c : Bool} {ph : List Addr} {S : Store} {H : Hp} {x : V} {a : SV} {lo hi : Option Int} {Q : VK} (g : Good X.K ph H S) (da : DenS X.K ph H x a) (h : holds (slG c a lo hi S) (post X.K ph H Q) (W.rel ph H)) : rSlAll X.K x lo hi H Q := by
  unfold slG at h
  split at h
  · rename_i xs hx
    obtain ⟨p, vs, rfl, s, r⟩ := rdS_ok g da hx
    exact .inl ⟨p, vs, rfl, s, newL0_ok g (paired_cut r lo hi) h⟩
  · split at h
    · rename_i ds _
      obtain ⟨p, vs, rfl, s, r⟩ := d_tupH da
      refine .inr (.inl ⟨p, vs, rfl, hide_sub.sqT (.inl (.inl s)), fun hw => ?_, fun hw t ht => ?_⟩)
      · have e : cutA ds lo hi = ds := by
          unfold cutA
          rw [← r.len, hw.1, hw.2, r.len]
          simp
        rw [e] at h
        exact fin_v g (.tup s r) h
      · have e : Ext ph H ph (upd H t (.tup (cutV vs lo hi))) := Ext.fresh ht
        exact h ph (.ref t) _ e (g.fresh ht) (.tup (hide_of (g.new ht) upd_same) (dens_cut (r.mono e.sub) lo hi))
    · rw [d_str da]
      split at h
      · exact .inr (.inr ⟨_, rfl, by assumption, fin_v g (.str _) h⟩)
      · exact h.elim
    · exact h.elim
def eSl (c : Bool) (a : EM) (lo hi : PM) : EM := fun rho S => (a rho S).bind fun x => (lo rho x.2).bind fun l => (hi rho l.2).bind fun u => slG c x.1 l.1 u.1 u.2
theorem pd_sl (c : Bool) {lo hi : Option Expr} {ml mh : PM} {p2 : Pos} (ha : PD X W a ma) (hl : PDO X W lo ml) (hh : PDO X W hi mh) : PD X W (.Subscript a (.Slice lo hi none p2) pos) (eSl c ma ml mh) := by
  obtain ⟨ta, pa, sa⟩ := ha.ex
  obtain ⟨tl, pl, sl⟩ := hl.ex
  obtain ⟨tu, pu, su⟩ := hh.ex
  refine ⟨_, pe_slice sl_all pa pl pu, fun ph S H sg rho Q g so h => sa ph S H sg rho _ g so (holds_imp (holds_bind h) (fun x hx => ?_) fun _ _ _ q => q)⟩
  intro ph1 v1 H1 x1 g1 d1
  refine sl ph1 x.2 H1 sg rho _ g1 (so.mono x1) (holds_imp (holds_bind hx) (fun y hy => ?_) fun e r s q => W.mono _ _ _ _ e r s x1 q)
  intro ph2 H2 x2 g2
  refine su ph2 y.2 H2 sg rho _ g2 (so.mono (x1.trans x2)) (holds_imp (holds_bind hy) (fun z hz => ?_) fun e r s q => W.mono _ _ _ _ e r s (x1.trans x2) q)
  intro ph3 H3 x3 g3
  have x13 := x1.trans (x2.trans x3)
  exact sl_ok (W := W) g3 (d1.mono (x2.trans x3)) (holds_imp hz (fun c => post.mono x13 c) fun e r s q => W.mono _ _ _ _ e r s x13 q)

theorem pd_callB {x : Str} {p : Pos} {id : String} {es : List Expr} {m : AM} {r : List V → Hp → VK → Prop} {g : GA} (hc : CallR X (.builtin id) r) (hr : OpA X W r g) (hm : X.mg x = none) (hv : bootBuiltins x = some (.builtin id)) (ha : PDA X W (a :: es) m) (hg : Gl X x := by rfl)
    (hn : x ≠ "__name__" := by decide) (hdb : (x == ("__debug__" : Str)) = false := by decide)
    (he : starEach (a :: es) X.env = (false, eval a X.env) :: starEach es X.env := by rfl) (hpl : (backTo pos (starEach es X.env)).any (·.1) = false := by rfl) : PD X W (.Call (.Name x p) (a :: es) [] pos) (eA g m) := by
  obtain ⟨t, pa, sa⟩ := ha.ex
  exact ⟨_, pe_callB hc hg hm hv pa hn hdb he hpl, fun ph S H sg rho Q gd so h => sndA (r := r) sa hr ph S H sg rho Q gd so h⟩
theorem pd_callTy {x : Str} {p : Pos} {T : String} {es : List Expr} {m : AM} {r : List V → Hp → VK → Prop} {g : GA} (hc : CallR X (.type T) r) (hr : OpA X W r g) (hm : X.mg x = none) (hv : bootBuiltins x = some (.type T)) (ha : PDA X W (a :: es) m) (hg : Gl X x := by rfl)
    (hn : x ≠ "__name__" := by decide) (hdb : (x == ("__debug__" : Str)) = false := by decide)
    (he : starEach (a :: es) X.env = (false, eval a X.env) :: starEach es X.env := by rfl) (hpl : (backTo pos (starEach es X.env)).any (·.1) = false := by rfl) : PD X W (.Call (.Name x p) (a :: es) [] pos) (eA g m) := by
  obtain ⟨t, pa, sa⟩ := ha.ex
  exact ⟨_, pe_callTy hc hg hm hv pa hn hdb he hpl, fun ph S H sg rho Q gd so h => sndA (r := r) sa hr ph S H sg rho Q gd so h⟩
theorem one_of {K : PySem.W.Frag} {ph : List Addr} {H : Hp} {vs : List V} {x : SV} (h : DenSs K ph H vs [x]) : ∃ v, vs = [v] ∧ DenS K ph H v x := by
  cases h with
  | cons h t => cases t; exact ⟨_, rfl, h⟩
theorem two_of {K : PySem.W.Frag} {ph : List Addr} {H : Hp} {vs : List V} {x y : SV} (h : DenSs K ph H vs [x, y]) : ∃ v u, vs = [v, u] ∧ DenS K ph H v x ∧ DenS K ph H u y := by
  cases h with
  | cons h t =>
    obtain ⟨u, rfl, q⟩ := one_of t
    exact ⟨_, u, rfl, h, q⟩
def lenS (S : Store) (a : SV) : Option Nat := match rdS S a with
  | some xs => some xs.length
  | none => match a with
    | .fr (.tup ds) => some ds.length
    | .fr (.str z) => if z.length ≤ sizeLine then some z.length else none
    | _ => none
theorem lenS_ok {K : PySem.W.Frag} {ph : List Addr} {S : Store} {H : Hp} {v : V} {x : SV} {n : Nat} (g : Good K ph H S) (h : DenS K ph H v x) (e : lenS S x = some n) : LenV K v H n := by
  unfold lenS at e
  split at e
  · rename_i xs hx
    obtain ⟨p, vs, rfl, s, r⟩ := rdS_ok g h hx
    cases e
    exact .inl ⟨vs, s, r.length.symm⟩
  · split at e
    · obtain ⟨p, vs, rfl, s, r⟩ := d_tup h
      cases e
      exact .inr ⟨vs, hide_sub.sqT s, r.len.symm⟩
    · rw [d_str h]
      split at e
      · cases e; exact ⟨by assumption, rfl⟩
      · cases e
    · cases e
def lenG : GA := fun as S => match as with
  | [a] => match lenS S a with
    | some n => okV (.int n) S
    | none => .stuck
  | _ => .stuck
theorem len_ok : OpA X W (fun xs H Q => ∃ x n, xs = [x] ∧ LenV X.K x H n ∧ Q (.int n) H) lenG := by
  intro ph S H xs as Q g d h
  unfold lenG at h
  split at h
  · obtain ⟨v, rfl, dv⟩ := one_of d
    split at h
    · rename_i n hn
      exact ⟨v, n, rfl, lenS_ok g dv hn, fin_v g (.int _) h⟩
    · exact h.elim
  · exact h.elim
def absG : GA := fun as S => match as with
  | [.fr (.int i)] => okV (.int (if i < 0 then -i else i)) S
  | _ => .stuck
theorem abs_ok : OpA X W (fun xs H Q => ∃ i, xs = [.int i] ∧ Q (.int (if i < 0 then -i else i)) H) absG := by
  intro ph S H xs as Q g d h
  unfold absG at h
  split at h
  · obtain ⟨v, rfl, dv⟩ := one_of d
    rw [d_int dv]
    exact ⟨_, rfl, fin_v g (.int _) h⟩
  · exact h.elim
def intG : GA := fun as S => match as with
  | [.fr (.int i)] => okV (.int i) S
  | [.fr (.bl k)] => okV (.int (if k then 1 else 0)) S
  | _ => .stuck
theorem int_ok : OpA X W (fun xs H Q => (∃ i, xs = [.int i] ∧ Q (.int i) H) ∨ ∃ k, xs = [.bl k] ∧ Q (.int (if k then 1 else 0)) H) intG := by
  intro ph S H xs as Q g d h
  unfold intG at h
  split at h
  · obtain ⟨v, rfl, dv⟩ := one_of d
    rw [d_int dv]
    exact .inl ⟨_, rfl, fin_v g (.int _) h⟩
  · obtain ⟨v, rfl, dv⟩ := one_of d
    rw [d_bl dv]
    exact .inr ⟨_, rfl, fin_v g (.int _) h⟩
  · exact h.elim
def max2G : GA := fun as S => match as with
  | [.fr (.int i), .fr (.int j)] => okV (.int (if j > i then j else i)) S
  | _ => .stuck
def min2G : GA := fun as S => match as with
  | [.fr (.int i), .fr (.int j)] => okV (.int (if j < i then j else i)) S
  | _ => .stuck
end
end DL

namespace DL
open PySem PySem.Spec PyProof.Rows L2

inductive RV where
  | val (x : SV) | new (c : Cell)
abbrev FnM := List SV → Store → Res (RV × Store)
inductive Fl where
  | nx | bk | ct | rt (x : SV)
abbrev SM := Slots → Store → Res (Fl × Slots × Store)
def SV.below (n : Nat) : SV → Bool
  | .fr _ => true
  | .cell k => decide (k < n)
def Cell.below (n : Nat) : Cell → Bool
  | .lst xs => xs.all (SV.below n)
  | .ins _ fs => fs.all fun p => p.2.below n
  | .tup xs => xs.all (SV.below n)
  | .dic kvs => kvs.all fun p => p.2.below n
  | .dit kvs => kvs.all fun p => p.2.below n
  | .dil kvs => kvs.all fun p => p.2.below n
  | .dkl kvs => kvs.all fun p => p.2.below n
  | .err _ => true
  | .exc _ fs => fs.all fun p => p.2.below n
  | .nd _ => true
theorem below_map (n : Nat) (ds : List D) : (ds.map SV.fr).all (SV.below n) = true := by
  simp [SV.below]
def frzC (S : Store) (n : Nat) : SV → Option D
  | .fr d => some d
  | .cell j => if n ≤ j then (match S[j]? with
    | some (.lst ys) => (allFr ys).map D.lst
    | _ => none) else none
def frzA (S : Store) (n : Nat) : List SV → Option (List D)
  | [] => some []
  | x :: xs => match frzC S n x, frzA S n xs with
    | some d, some ds => some (d :: ds)
    | _, _ => none
def leaveT (S : Store) (n : Nat) : Cell → Res (RV × Store)
  | .tup xs => match frzA S n xs with
    | some ds => .ok (.val (.fr (.tup ds)), S.take n)
    | none => .stuck
  | _ => .stuck
def leave (n : Nat) (x : SV) (S : Store) : Res (RV × Store) := if (S.take n).all (Cell.below n) then (match x with
  | .fr d => .ok (.val (.fr d), S.take n)
  | .cell k => if k < n then .ok (.val (.cell k), S.take n) else match S[k]? with
    | some c => if c.below n then .ok (.new c, S.take n) else leaveT S n c
    | none => .stuck) else .stuck
def leaveF (n : Nat) (r : Fl × Slots × Store) : Res (RV × Store) := match r.1 with
  | .nx => leave n (.fr .non) r.2.2
  | .rt x => leave n x r.2.2
  | _ => .stuck
def fnM (np n : Nat) (b : SM) : FnM := fun as S => if as.length = np then (b (as.map some ++ List.replicate (n - as.length) none) S).bind (leaveF S.length) else .stuck
section
variable {K : PySem.W.Frag} {ph ph' ph2 : List Addr} {H H' : Hp} {S : Store}
theorem sub_hide (h : ∀ a ∈ ph2, a ∈ ph') : Sub (hide ph' H) (hide ph2 H) := fun a o e => by
  obtain ⟨⟨h1, h2⟩, h3⟩ := hide_tb e
  exact hide_of (fun m => h1 (h a m)) h2 h3
theorem DenS.shrink {n : Nat} (h : ∀ a ∈ ph2, a ∈ ph') (hk : ∀ k, k < n → ph2[k]? = ph'[k]?) {v : V} {x : SV} (hb : x.below n = true) (d : DenS K ph' H v x) : DenS K ph2 H v x := by
  cases x with
  | fr d' => exact Den.mono (sub_hide h) d
  | cell k =>
    obtain ⟨p, h1, h2⟩ := d
    exact ⟨p, by rw [hk k (by simpa [SV.below] using hb)]; exact h1, h2⟩
theorem paired_all {α β : Type} {P Q : α → β → Prop} {f : β → Bool} (hi : ∀ a b, f b = true → P a b → Q a b) : ∀ {l : List α} {m : List β}, Paired P l m → m.all f = true → Paired Q l m
  | _, _, .nil, _ => .nil
  | _, _, .cons h t, e => by
    simp only [List.all_cons, Bool.and_eq_true] at e
    exact .cons (hi _ _ e.1 h) (paired_all hi t e.2)
theorem CellAt.shrink {n : Nat} (h : ∀ a ∈ ph2, a ∈ ph') (hk : ∀ k, k < n → ph2[k]? = ph'[k]?) {p : Addr} {c : Cell} (hb : c.below n = true) (d : CellAt K ph' H p c) : CellAt K ph2 H p c := by
  cases c with
  | lst xs =>
    obtain ⟨vs, h1, h2⟩ := d
    exact ⟨vs, h1, paired_all (f := SV.below n) (fun a b hb q => DenS.shrink h hk hb q) h2 (show xs.all (SV.below n) = true from hb)⟩
  | ins C fs =>
    obtain ⟨dx, vs, h1, h2⟩ := d
    exact ⟨dx, vs, h1, paired_all (f := fun p : Str × SV => p.2.below n) (fun a b hb q => ⟨q.1, DenS.shrink h hk hb q.2⟩) h2 (show (fs.all fun p => p.2.below n) = true from hb)⟩
  | tup xs =>
    obtain ⟨vs, h1, h2⟩ := d
    exact ⟨vs, h1, paired_all (f := SV.below n) (fun a b hb q => DenS.shrink h hk hb q) h2 (show xs.all (SV.below n) = true from hb)⟩
  | dic kvs =>
    obtain ⟨vs, h1, h2⟩ := d
    exact ⟨vs, h1, paired_all (f := fun p : Key × SV => p.2.below n) (fun a b hb q => ⟨q.1, DenS.shrink h hk hb q.2⟩) h2 (show (kvs.all fun p => p.2.below n) = true from hb)⟩
  | dit kvs =>
    obtain ⟨vs, h1, h2⟩ := d
    exact ⟨vs, h1, paired_all (f := fun p : List Key × SV => p.2.below n) (fun a b hb q => ⟨q.1, DenS.shrink h hk hb q.2⟩) h2 (show (kvs.all fun p => p.2.below n) = true from hb)⟩
  | dil kvs =>
    obtain ⟨od, vs, h1, h2⟩ := d
    exact ⟨od, vs, h1, paired_all (f := fun p : List Key × SV => p.2.below n) (fun a b hb q => ⟨q.1, DenS.shrink h hk hb q.2⟩) h2 (show (kvs.all fun p => p.2.below n) = true from hb)⟩
  | dkl kvs =>
    obtain ⟨od, vs, h1, h2⟩ := d
    exact ⟨od, vs, h1, paired_all (f := fun p : Key × SV => p.2.below n) (fun a b hb q => ⟨q.1, DenS.shrink h hk hb q.2⟩) h2 (show (kvs.all fun p => p.2.below n) = true from hb)⟩
  | err C =>
    obtain ⟨dx, fs, h1, h2⟩ := d
    exact ⟨dx, fs, h1, sub_hide h _ _ h2⟩
  | exc C fs =>
    rcases d with ⟨dx, vs, h1, h2, h3⟩ | ⟨h1, h2⟩
    · exact .inl ⟨dx, vs, h1, sub_hide h _ _ h2, paired_all (f := fun p : Str × SV => p.2.below n) (fun a b hb q => ⟨q.1, DenS.shrink h hk hb q.2⟩) h3 (show (fs.all fun p => p.2.below n) = true from hb)⟩
    · exact .inr ⟨h1, h2⟩
  | nd kvs =>
    obtain ⟨xs, h1, h2⟩ := d
    exact ⟨xs, h1, Paired.mapP h2 fun _ _ q => ⟨q.1, q.2.1, Den.mono (sub_hide h) q.2.2⟩⟩
theorem paired_at {α β : Type} {P : α → β → Prop} : ∀ {l : List α} {m : List β} {k : Nat} {a : α} {b : β}, Paired P l m → l[k]? = some a → m[k]? = some b → P a b
  | _, _, _, _, _, .nil, e, _ => by simp at e
  | _, _, 0, _, _, .cons h t, e, e' => by simp at e e'; subst e; subst e'; exact h
  | _, _, k + 1, _, _, .cons h t, e, e' => paired_at (k := k) t (by simpa using e) (by simpa using e')
theorem Good.cut (g0 : Good K ph H S) (x : Ext ph H ph' H') {S' : Store} (g : Good K ph' H' S') (hb : (S'.take S.length).all (Cell.below S.length) = true) : Good K ph H' (S'.take S.length) := by
  obtain ⟨ps, rfl, hps⟩ := x.pre
  have hl := g0.len
  refine ⟨g0.nd, ?_, g.tb⟩
  have q := paired_take S.length g.cells
  rw [← hl] at q hb
  rw [List.take_left'  (by rw [hl])] at q
  rw [← hl]
  refine paired_all (f := Cell.below ph.length) (fun p c hc d => CellAt.shrink (n := ph.length) (fun a m => List.mem_append_left _ m) (fun k hk => ?_) hc d) q hb
  rw [List.getElem?_append_left hk]
theorem Ext.back (x : Ext ph H ph' H') : Ext ph H ph H' := ⟨⟨[], by simp, by simp⟩, x.keep, x.trk, x.frz⟩
def DenR (K : PySem.W.Frag) (ph : List Addr) (H0 H : Hp) (v : V) (S : Store) : RV → Prop
  | .val x => DenS K ph H v x
  | .new c => ∃ p, v = .ref p ∧ H0 p = none ∧ Good K (ph ++ [p]) H (S ++ [c])
def postF (K : PySem.W.Frag) (ph : List Addr) (H : Hp) (Q : VK) : RV × Store → Prop := fun r => ∀ v H', Ext ph H ph H' → Good K ph H' r.2 → DenR K ph H H' v r.2 r.1 → Q v H'
theorem frz_den {ps : List Addr} {S' : Store} (hn : ∀ p ∈ ps, p ∉ ph) (g : Good K (ph ++ ps) H' S') : ∀ {vs : List V} {xs : List SV} {ds : List D}, DenSs K (ph ++ ps) H' vs xs → frzA S' ph.length xs = some ds → Dens K (hide ph H') vs ds
  | _, _, ds, .nil, e => by
    simp only [frzA, Option.some.injEq] at e
    subst e
    exact .nil
  | v :: vs, x :: xs, ds, .cons h t, e => by
    unfold frzA at e
    split at e
    · rename_i d es h1 h2
      cases e
      refine .cons ?_ (frz_den hn g t h2)
      cases x with
      | fr d' =>
        simp only [frzC, Option.some.injEq] at h1
        subst h1
        exact Den.mono (sub_hide fun a m => List.mem_append_left _ m) h
      | cell j =>
        obtain ⟨p, hp, rfl⟩ := h
        have h1 : (if ph.length ≤ j then (match S'[j]? with | some (.lst ys) => (allFr ys).map D.lst | _ => none) else none) = some d := h1
        split at h1
        · rename_i hj
          split at h1
          · rename_i ys hys
            simp only [Option.map_eq_some_iff] at h1
            obtain ⟨zs, hz, rfl⟩ := h1
            have hm : p ∈ ps := by
              rw [List.getElem?_append_right hj] at hp
              exact List.mem_of_getElem? hp
            obtain ⟨ws, h4, h5⟩ := paired_at g.cells hp hys
            rw [allFr_eq hz] at h5
            exact .lst (hide_of (hn p hm) h4) (Dens.mono (sub_hide fun a m => List.mem_append_left _ m) (dens_of h5))
          · cases h1
        · cases h1
    · cases e
theorem leave_ok {Q : VK} {E : Exc → Slots → Store → Prop} (g0 : Good K ph H S) (x : Ext ph H ph' H') {S' : Store} (g : Good K ph' H' S') {v : V} {sv : SV} (d : DenS K ph' H' v sv) (h : holds (leave S.length sv S') (postF K ph H Q) E) : Q v H' := by
  unfold leave at h
  split at h
  · rename_i hb
    have gc := g0.cut x g hb
    obtain ⟨ps, rfl, hps⟩ := x.pre
    have hl := g0.len
    split at h
    · exact h v H' x.back gc (DenS.shrink (n := 0) (ph2 := ph) (fun a m => List.mem_append_left _ m) (fun k hk => by omega) rfl d)
    · obtain ⟨p, h1, rfl⟩ := d
      rename_i k
      split at h
      · rename_i hk
        refine h _ H' x.back gc ⟨p, ?_, rfl⟩
        rw [List.getElem?_append_left (by omega)] at h1
        exact h1
      · rename_i hk
        split at h
        · rename_i c hc
          split at h
          · rename_i hcb
            have hp : p ∈ ps := by
              rw [List.getElem?_append_right (by omega)] at h1
              exact List.mem_of_getElem? h1
            have hm : ∀ a ∈ ph ++ [p], a ∈ ph ++ ps := fun a m => by
              rcases List.mem_append.mp m with m | m
              · exact List.mem_append_left _ m
              · rw [List.mem_singleton.mp m]; exact List.mem_append_right _ hp
            have hn : p ∉ ph := fun m => by
              obtain ⟨o, e⟩ := g0.there m
              rw [hps p hp] at e; cases e
            have hix : ∀ j, j < S.length → (ph ++ [p])[j]? = (ph ++ ps)[j]? := fun j hj => by
              rw [List.getElem?_append_left (by omega), List.getElem?_append_left (by omega)]
            refine h _ H' x.back gc ⟨p, rfl, hps p hp, ⟨?_, ?_, g.tb⟩⟩
            · exact List.nodup_append.mpr ⟨g0.nd, by simp, fun a ha b hb' e => hn (by rw [← List.mem_singleton.mp hb', ← e]; exact ha)⟩
            · have q := paired_take S.length g.cells
              rw [List.take_left' hl] at q
              exact paired_snoc (paired_all (f := Cell.below S.length) (fun p' c' hc' d' => CellAt.shrink (n := S.length) hm hix hc' d') q hb) (CellAt.shrink (n := S.length) hm hix hcb (paired_at g.cells h1 hc))
          · unfold leaveT at h
            split at h
            · rename_i xs hxs
              split at h
              · rename_i ds hds
                have hp : ∀ q ∈ ps, q ∉ ph := fun q hq m => by
                  obtain ⟨o, e⟩ := g0.there m
                  rw [hps q hq] at e; cases e
                have hpm : p ∈ ps := by
                  rw [List.getElem?_append_right (by omega)] at h1
                  exact List.mem_of_getElem? h1
                obtain ⟨ws, h4, h5⟩ := paired_at g.cells h1 hc
                rw [← hl] at hds
                exact h _ H' x.back gc (Den.tup (vs := ws) (hide_of (hp p hpm) h4) (frz_den hp g h5 hds))
              · exact h.elim
            · exact h.elim
        · exact h.elim
  · exact h.elim
end

def postS (K : PySem.W.Frag) (ph : List Addr) (H : Hp) (Dn : Ends) : Fl × Slots × Store → Prop := fun r => ∀ ph' sg H', Ext ph H ph' H' → Good K ph' H' r.2.2 → SlotsOk K ph' H' sg r.2.1 → match r.1 with
  | .nx => Dn.nx sg H'
  | .bk => Dn.bk sg H'
  | .ct => Dn.ct sg H'
  | .rt x => ∀ v, DenS K ph' H' v x → Dn.rt v H'
theorem postS.mono {K : PySem.W.Frag} {ph ph' : List Addr} {H H' : Hp} {Dn : Ends} (e : Ext ph H ph' H') (r : Fl × Slots × Store) (h : postS K ph H Dn r) : postS K ph' H' Dn r := fun p s G a g d => h p s G (e.trans a) g d
abbrev SndS (X : Cx) (W : XW X.K) (t : TS) (m : SM) : Prop := ∀ (ph : List Addr) (S : Store) (H : Hp) (sg : L2.St) (rho : Slots) (Dn : Ends), Good X.K ph H S → SlotsOk X.K ph H sg rho →
    holds (m rho S) (postS X.K ph H Dn) (W.rel ph H) → t Dn sg H
structure PSD (X : Cx) (W : XW X.K) (st : Stmt) (m : SM) : Prop where
  ex : ∃ t, PS X st t ∧ SndS X W t m
structure PSDs (X : Cx) (W : XW X.K) (st : List Stmt) (m : SM) : Prop where
  ex : ∃ t, PSs X st t ∧ SndS X W t m

def ExD (K : PySem.W.Frag) (F : Hp) (e : Exc) (cls : Value) (d : Option Addr) : Prop := cls = .ref (He.ga K e.cls) ∧ ((d = none ∧ e.fs = []) ∨ (e.fs ≠ [] ∧ ∃ a vs, d = some a ∧ F a = some (.xd vs) ∧ DenF K F vs e.fs))
theorem ExD.mono {K : PySem.W.Frag} {F F' : Hp} (h : Sub F F') {e : Exc} {cls : Value} {d : Option Addr} (x : ExD K F e cls d) : ExD K F' e cls d :=
  ⟨x.1, x.2.imp id fun ⟨n, a, vs, q1, q2, q3⟩ => ⟨n, a, vs, q1, h _ _ q2, DenF.mono h q3⟩⟩
def XW.of (K : PySem.W.Frag) (Wq : L2.WX) : XW K := ⟨fun ph H e r S => ∀ ph' H' sg cls d, Ext ph H ph' H' → Good K ph' H' S → SlotsOk K ph' H' sg r → ExD K (hide ph' H') e cls d → Wq cls d sg H', fun _ _ _ _ _ _ _ x q ph' H' sg cls d y => q ph' H' sg cls d (x.trans y)⟩
def postX (K : PySem.W.Frag) (ph : List Addr) (H : Hp) (E : XK) : Exc → Slots → Store → Prop := fun e _ S => ∀ ph' H' cls d, Ext ph H ph' H' → Good K ph' H' S → ExD K (hide ph' H') e cls d → E cls d H'
abbrev XW.fn (K : PySem.W.Frag) (E : XK) : XW K := XW.of K fun cls d _ H => E cls d H
def spD (K : PySem.W.Frag) (m : FnM) : Sp := fun vs H Q E => ∃ ph S as, Good K ph H S ∧ DenSs K ph H vs as ∧ holds (m as S) (postF K ph H Q) (postX K ph H E)
def XW.none (K : PySem.W.Frag) : XW K := ⟨fun _ _ _ _ _ => False, fun _ _ _ _ _ _ _ _ h => h⟩
structure FnD (P : Program) (w : World) (K : PySem.W.Frag) (mg : Str → Option Value) (base : Heap) (k : Nat) (f : Addr) (fd : FuncData) (ps : List Str) (m : FnM) : Prop where
  len : ∀ vs H Q E, spD K m vs H Q E → vs.length = ps.length
  run : ∀ (A : Around) (outer : List Env) (s : Shared) (H : Hp) (args : Args) (us : List Value) (vs : List V) (Q : VK) (E : XK), A.guards = some [] → Room k A → Env0 P w K mg base A outer s H →
    BindsTo s fd args (ps.zip us) → Vals vs us → spD K m vs H Q E → codeAny (model P w) A (.call (.ref f) args) (CR (L2.CX P w) outer P w H s Q E) s
section
variable {P : Program} {w : World} {K : PySem.W.Frag} {mg : Str → Option Value} {base : Heap}
theorem spD_len {np n : Nat} {b : SM} {vs : List V} {H : Hp} {Q : VK} {E : XK} (h : spD K (fnM np n b) vs H Q E) : vs.length = np := by
  obtain ⟨ph, S, as, g, d, h⟩ := h
  unfold fnM at h
  split at h
  · rw [d.length]; assumption
  · exact h.elim
theorem fnD_of {k : Nat} {f : Addr} {name qual : Str} {params : Arguments} {body : List Stmt} {scope : Scope} {dV kV doc pm cdv ct oc : Value} {an od : Option Addr} {osl : Array (Option Value)} {N ps : List Str} {b : SM}
    (lk : K.lookup f = some ⟨oc, od, .func (PySem.W.fnOf name qual params body scope dV kV doc pm an cdv ct), osl⟩) (hcd : PySem.W.codeIn K cdv qual = true) (Sc : FnScope N ps scope)
    (hb : ∀ (A : Around) (outer : List Env) (s : Shared) (H : Hp) (E : XK), (A.deeper (envOfC qual scope s.heap.objs.size f cdv)).guards = some [] → Room k (A.deeper (envOfC qual scope s.heap.objs.size f cdv)) →
      PSDs (cxOf (L2.CX P w) P w K mg base N qual scope f cdv A outer s H E) (XW.fn K E) body b) :
    FnD P w K mg base (k + 1) f (PySem.W.fnOf name qual params body scope dV kV doc pm an cdv ct) ps (fnM ps.length N.length b) := by
  refine ⟨fun vs H Q E h => spD_len h, ?_⟩
  intro A outer s H args us vs Q E hgd hroom e0 hbind rv hsp
  have len0 : vs.length = ps.length := spD_len hsp
  have KX : K.In s.heap := e0.mod.kin.keeps fun b o e => (e0.bs b o e).1
  have lim : s.heap.NoLimit := e0.mod.nolimit.keeps fun b o e => (e0.bs b o e).1
  have kinds : ∀ y ∈ ps.zip us, scope.names.lookup y.1 = some .local ∨ (scope.names.lookup y.1 = some .cell ∧ ((cellsFrom (s.heap.objs.size + 1) scope.names []).lookup y.1).isSome = true) := by
    rintro ⟨n, v⟩ hy
    cases Sc.par n (List.of_mem_zip hy).1 with
    | inl q => exact .inl q
    | inr q => exact .inr ⟨q, PySem.W.cellsFrom_some _ _ _ (.inl q)⟩
  refine codeAny_call_function hroom.depth (KX _ _ lk) rfl Sc.co Sc.gen rfl (PySem.W.codeRec_of KX hcd) (hbind _ _ _ _ ?_)
  refine wpAny_newFunctionEnv_cells Sc.kind kinds fun env he s1 x => ?_
  subst he
  refine ⟨lim.keeps x.toInCall.keep, codeAny_func ?_⟩
  obtain ⟨t, ht, snd⟩ := (hb A outer s H E hgd (hroom.deeper _)).ex
  have I : Inv (cxOf (L2.CX P w) P w K mg base N qual scope f cdv A outer s H E) [] (L2.start N vs) H s1 := inv_start Sc hroom.hd e0 len0 rv x
  have done : ∀ {sg' : L2.St} {H' : Hp} {v : V} {u : Value} {s' : Shared}, Inv (cxOf (L2.CX P w) P w K mg base N qual scope f cdv A outer s H E) [] sg' H' s' → RelV v u → Q v H' → CE outer P w H s Q u s' := by
    intro sg' H' v u s' J rv q
    exact ⟨v, H', J.os, J.bare, J.base, J.hok, rv, q⟩
  have rd : t { nx := fun _ H' => Q .non H', rt := Q } (L2.start N vs) H := by
    obtain ⟨ph, S, as, g, d, hh⟩ := hsp
    have la : as.length = ps.length := by rw [← d.length]; exact len0
    unfold fnM at hh
    rw [if_pos la] at hh
    refine snd ph S H (L2.start N vs) _ _ g ⟨by simp [L2.start, d.length], fun i x hi => ?_⟩ (holds_imp (holds_bind hh) (fun r hr => ?_) fun _ _ _ q ph' H' _ cls d x' g' _ z => q ph' H' cls d x' g' z)
    · have hi' : (as.map some ++ List.replicate (N.length - as.length) none)[i]? = some (some x) := hi
      by_cases hlt : i < as.length
      · rw [List.getElem?_append_left (by simpa using hlt), List.getElem?_map] at hi'
        cases q : as[i]? with
        | none => rw [q] at hi'; cases hi'
        | some y =>
          rw [q] at hi'
          have e := Option.some.inj (Option.some.inj hi')
          subst e
          obtain ⟨v, h1, h2⟩ := paired_get d q
          refine ⟨v, ?_, h2⟩
          unfold L2.start
          rw [List.getElem?_append_left (by rw [List.length_map, d.length]; exact hlt), List.getElem?_map, h1]
          rfl
      · rw [List.getElem?_append_right (by simpa using hlt)] at hi'
        have := List.getElem?_replicate (n := N.length - as.length) (a := (none : Option SV)) (i := i - (as.map some).length)
        rw [this] at hi'
        split at hi' <;> cases hi'
    · intro ph' sg' H' x' g' so'
      obtain ⟨fl, rho', S'⟩ := r
      cases fl with
      | nx => exact leave_ok g x' g' (v := .non) (sv := .fr .non) Den.non hr
      | rt sv => exact fun v dv => leave_ok g x' g' dv hr
      | bk => exact hr.elim
      | ct => exact hr.elim
  refine wpAny_mono (ht.run [] s1 (L2.start N vs) H _ I rd) (fun fl s' hs => ?_) fun e s' hs => hs
  cases fl with
  | ret u =>
    obtain ⟨v, sg', H', J, rv, q⟩ := hs
    exact done J rv q
  | next =>
    obtain ⟨sg', H', J, q⟩ := hs
    exact done (v := V.non) (u := Value.none) J rfl q
  | brk => exact hs.choose_spec.choose_spec.2.elim
  | cont => exact hs.choose_spec.choose_spec.2.elim
structure CalD (P : Program) (w : World) (K : PySem.W.Frag) (mg : Str → Option Value) (base : Heap) (k : Nat) (x : Str) (m : FnM) : Prop where
  ex : ∃ f fd ps, mg x = some (.ref f) ∧ PySem.W.keepIn K (.ref f) = true ∧ Binds K fd ps [] ∧ FnD P w K mg base k f fd ps m
theorem calD_of {k : Nat} {x : Str} {st : Stmt} {f : Addr} {fd : FuncData} {N ps : List Str} {b : SM} (F : Fun K x x st f fd) (hm : mg x = some (.ref f)) (hbd : Binds K fd ps []) (Sc : FnScope N ps (defScope st))
    (hb : ∀ (cdv : Value) (A : Around) (outer : List Env) (s : Shared) (H : Hp) (E : XK), (A.deeper (envOfC x (defScope st) s.heap.objs.size f cdv)).guards = some [] → Room k (A.deeper (envOfC x (defScope st) s.heap.objs.size f cdv)) →
      PSDs (cxOf (L2.CX P w) P w K mg base N x (defScope st) f cdv A outer s H E) (XW.fn K E) (defBody st) b) : CalD P w K mg base (k + 1) x (fnM ps.length N.length b) := by
  obtain ⟨oc, od, kV, doc, pm, an, cdv, ct, osl, rfl, lk, hcd⟩ := F.ex
  exact ⟨f, _, ps, hm, F.kp, hbd, fnD_of lk hcd Sc fun A outer s H E => hb cdv A outer s H E⟩
end
def noX (r : Res (RV × Store)) : Res (RV × Store) := match r with
  | .exc _ _ _ => .stuck
  | x => x
def allFrK : List (Key × SV) → Option (List (Key × D))
  | [] => some []
  | (k, .fr d) :: r => (allFrK r).map ((k, d) :: ·)
  | _ => none
theorem denK_of {K : PySem.W.Frag} {ph : List Addr} {H : Hp} : ∀ {vs : List (Key × V)} {kvs : List (Key × SV)} {ds : List (Key × D)}, DenSK K ph H vs kvs → allFrK kvs = some ds → DenK K (hide ph H) vs ds
  | _, [], ds, .nil, e => by
    simp only [allFrK, Option.some.injEq] at e
    subst e
    exact .nil
  | (k', v) :: vs, (k, .fr d) :: r, ds, .cons h t, e => by
    simp only [allFrK, Option.map_eq_some_iff] at e
    obtain ⟨es, h1, rfl⟩ := e
    obtain ⟨h2, h3⟩ := h
    dsimp only at h2
    subst h2
    exact .cons h3 (denK_of t h1)
  | _ :: _, (k, .cell _) :: r, ds, .cons h t, e => by simp [allFrK] at e
def freeze : Cell → Option D
  | .lst xs => (allFr xs).map D.lst
  | .dic kvs => (allFrK kvs).map D.dct
  | .ins _ _ => none
  | .tup _ => none
  | .dit _ => none
  | .dil _ => none
  | .dkl _ => none
  | .err _ => none
  | .exc _ _ => none
  | .nd _ => none
def back (c : Bool) (r : RV × Store) : Res (SV × Store) := match r.1 with
  | .val x => .ok (x, r.2)
  | .new cl => if c then .ok (.cell r.2.length, r.2 ++ [cl]) else match freeze cl with
    | some d => .ok (.fr d, r.2)
    | none => .stuck
def eCall (f : FnM) (c : Bool) (m : AM) : EM := fun rho S => (m rho S).bind fun x => (noX (f x.1 x.2)).bind (back c)
section
variable {X : Cx} {W : XW X.K} {e : Expr} {es : List Expr} {pos p : Pos} {m : AM}
theorem back_ok {ph ph1 : List Addr} {H H1 : Hp} {Q : VK} {c : Bool} {r : RV × Store} {E : Exc → Slots → Store → Prop} (x1 : Ext ph H ph1 H1) (h : holds (back c r) (post X.K ph H Q) E) : postF X.K ph1 H1 Q r := by
  intro v H2 x2 g2 d2
  obtain ⟨rv, S2⟩ := r
  cases rv with
  | val x => exact h ph1 v H2 (x1.trans x2) g2 d2
  | new cl =>
    obtain ⟨q, rfl, hn, g3⟩ := d2
    have x3 : Ext ph1 H1 (ph1 ++ [q]) H2 := ⟨⟨[q], rfl, fun a ha => by rw [List.mem_singleton.mp ha]; exact hn⟩, x2.keep, x2.trk, x2.frz⟩
    unfold back at h
    dsimp only at h g2 g3
    cases c with
    | true => exact h (ph1 ++ [q]) (.ref q) H2 (x1.trans x3) g3 ⟨q, by rw [← g2.len]; simp, rfl⟩
    | false =>
      simp only [Bool.false_eq_true, if_false] at h
      split at h
      · rename_i d hd
        refine h ph1 (.ref q) H2 (x1.trans x2) g2 ?_
        have cq : CellAt X.K (ph1 ++ [q]) H2 q cl := paired_at (k := S2.length) g3.cells (by rw [← g2.len]; simp) (by simp)
        cases cl with
        | lst xs =>
          obtain ⟨vs, h4, h5⟩ := cq
          simp only [freeze, Option.map_eq_some_iff] at hd
          obtain ⟨ds, h6, rfl⟩ := hd
          rw [allFr_eq h6] at h5
          have hq : q ∉ ph1 := fun mm => by
            have := g3.nd
            rw [List.nodup_append] at this
            exact this.2.2 q mm q (by simp) rfl
          exact .lst (hide_of hq h4) (Dens.mono (sub_hide fun a ha => List.mem_append_left _ ha) (dens_of h5))
        | ins C fs => simp [freeze] at hd
        | tup xs => simp [freeze] at hd
        | dit xs => simp [freeze] at hd
        | dil xs => simp [freeze] at hd
        | dkl xs => simp [freeze] at hd
        | err C => simp [freeze] at hd
        | exc C fs => simp [freeze] at hd
        | nd C => simp [freeze] at hd
        | dic kvs =>
          simp only [freeze, Option.map_eq_some_iff] at hd
          obtain ⟨ds, h6, rfl⟩ := hd
          obtain ⟨vs, h4, h5⟩ := cq
          have hq : q ∉ ph1 := fun mm => by
            have := g3.nd
            rw [List.nodup_append] at this
            exact this.2.2 q mm q (by simp) rfl
          exact .dct (hide_of hq h4) (DenK.mono (sub_hide fun a ha => List.mem_append_left _ ha) (denK_of h5 h6))
      · exact h.elim
theorem noX_ok {r : Res (RV × Store)} {Q : RV × Store → Prop} {E E' : Exc → Slots → Store → Prop} (h : holds (noX r) Q E) : holds r Q E' := by
  cases r with
  | ok a => exact h
  | exc _ _ _ => exact h.elim
  | stuck => exact h
theorem pe_callD {k j : Nat} {x : Str} {f : FnM} {t : TA} (c : CalD X.prog X.w X.K X.mg X.base k x f) (hr : Room j X.A) (hk : k ≤ j) (hgd : X.A.guards = some []) (hg : Gl X x) (ha : PA X (e :: es) t)
    (hdb : (x == ("__debug__" : Str)) = false) (he : starEach (e :: es) X.env = (false, eval e X.env) :: starEach es X.env) (hpl : (backTo pos (starEach es X.env)).any (·.1) = false) :
    PE X (.Call (.Name x p) (e :: es) [] pos) (fun sg H Q => t sg H fun vs H1 => spD X.K f vs H1 Q E0) := by
  obtain ⟨g, fd, ps, hm, hkp, hbd, F⟩ := c.ex
  refine ⟨fun pins s sg H Q I h => wpAny_Call_Name_kw (ld_glob I hg hm ?_ hdb)⟩
  refine PySem.W.callWith_K (h₀ := X.base) I.ok.mod.kin hkp (thn (ha.run pos pins s sg H _ I h) fun us s1 ⟨vs, H1, I1, r, q⟩ => ⟨I1.kIn, ?_⟩) he hpl
  have hl : (us ++ []).length = ps.length := by rw [List.append_nil, ← r.length]; exact F.len _ _ _ _ q
  have bt := hbd s1 us I1.kIn hl
  rw [List.append_nil] at bt
  refine wpAny_call (codeAny_mono (F.run X.A X.stack s1 H1 ⟨us, []⟩ us vs Q E0 hgd (hr.mono hk) I1.env0 bt r q) fun r s' hq => ?_)
  cases r with
  | error e => exact passL pins sg H1 s1 e s' I1 hq
  | ok fl =>
    cases fl with
    | ret u => exact I1.after hq
    | next => exact False.elim hq
    | brk => exact False.elim hq
    | cont => exact False.elim hq
theorem pd_call {k j : Nat} {x : Str} {f : FnM} (cc : Bool) (c : CalD X.prog X.w X.K X.mg X.base k x f) (hr : Room j X.A) (hk : k ≤ j) (hgd : X.A.guards = some []) (ha : PDA X W (e :: es) m) (hg : Gl X x := by rfl)
    (hdb : (x == ("__debug__" : Str)) = false := by decide) (he : starEach (e :: es) X.env = (false, eval e X.env) :: starEach es X.env := by rfl) (hpl : (backTo pos (starEach es X.env)).any (·.1) = false := by rfl) : PD X W (.Call (.Name x p) (e :: es) [] pos) (eCall f cc m) := by
  obtain ⟨t, pa, sa⟩ := ha.ex
  refine ⟨_, pe_callD c hr hk hgd hg pa hdb he hpl, fun ph S H sg rho Q gd so h => sa ph S H sg rho _ gd so (holds_imp (holds_bind h) (fun y hy => ?_) fun _ _ _ q => q)⟩
  intro ph1 vs H1 x1 g1 d1
  exact ⟨ph1, y.2, y.1, g1, d1, noX_ok (holds_imp (holds_bind hy) (fun r hr => back_ok x1 hr) fun _ _ _ q => q)⟩
end
end DL

namespace DL
open PySem PySem.Spec PyProof.Rows L2

section
variable {X : Cx} {W : XW X.K} {a b c : Expr} {ma mb mc : EM} {pos : Pos}
def sNx : SM := fun rho S => .ok (.nx, rho, S)
def sSeq (m n : SM) : SM := fun rho S => (m rho S).bind fun r => match r.1 with
  | .nx => n r.2.1 r.2.2
  | f => .ok (f, r.2.1, r.2.2)
theorem pss_n : PSDs X W [] sNx := ⟨_, pss_nil, fun ph S H sg rho Dn g so h => h ph sg H (Ext.refl _ _) g so⟩
theorem pss_c {st : Stmt} {rest : List Stmt} {m n : SM} (h1 : PSD X W st m) (h2 : PSDs X W rest n) : PSDs X W (st :: rest) (sSeq m n) := by
  obtain ⟨t, p, s⟩ := h1.ex
  obtain ⟨t2, p2, s2⟩ := h2.ex
  refine ⟨_, pss_cons p p2, fun ph S H sg rho Dn g so h => s ph S H sg rho _ g so (holds_imp (holds_bind h) (fun r hr => ?_) fun _ _ _ q => q)⟩
  intro ph1 sg1 H1 x1 g1 so1
  obtain ⟨fl, rho1, S1⟩ := r
  cases fl with
  | nx => exact s2 ph1 S1 H1 sg1 rho1 Dn g1 so1 (holds_imp hr (fun c => postS.mono x1 c) fun e r s q => W.mono _ _ _ _ e r s x1 q)
  | bk => exact hr ph1 sg1 H1 x1 g1 so1
  | ct => exact hr ph1 sg1 H1 x1 g1 so1
  | rt x => exact hr ph1 sg1 H1 x1 g1 so1
theorem pss_1 {st : Stmt} {m : SM} (h1 : PSD X W st m) : PSDs X W [st] m := by
  obtain ⟨t, p, s⟩ := h1.ex
  exact ⟨t, pss_one p, s⟩
def sBk : SM := fun rho S => .ok (.bk, rho, S)
def sCt : SM := fun rho S => .ok (.ct, rho, S)
def sRet (m : EM) : SM := fun rho S => (m rho S).bind fun x => .ok (.rt x.1, rho, x.2)
theorem psd_ret (ha : PD X W a ma) : PSD X W (.Return (some a) pos) (sRet ma) := by
  obtain ⟨ta, pa, sa⟩ := ha.ex
  refine ⟨_, ps_ret pa, fun ph S H sg rho Dn g so h => sa ph S H sg rho _ g so (holds_imp (holds_bind h) (fun x hx => ?_) fun _ _ _ q => q)⟩
  exact fun ph1 v1 H1 x1 g1 d1 => hx ph1 sg H1 x1 g1 (so.mono x1) v1 d1
def sRetN : SM := fun rho S => .ok (.rt (.fr .non), rho, S)
def sIf (t : TM) (m n : SM) : SM := fun rho S => (t rho S).bind fun x => if x.1 then m rho x.2 else n rho x.2
theorem psd_if {l1 l2 : List Stmt} {m : TM} {m1 m2 : SM} (ht : PDT X W c m) (h1 : PSDs X W l1 m1) (h2 : PSDs X W l2 m2) : PSD X W (.If c l1 l2 pos) (sIf m m1 m2) := by
  obtain ⟨t, p, s⟩ := ht.ex
  obtain ⟨t1, p1, s1⟩ := h1.ex
  obtain ⟨t2, p2, s2⟩ := h2.ex
  refine ⟨_, ps_if p p1 p2, fun ph S H sg rho Dn g so h => s ph S H sg rho _ g so (holds_imp (holds_bind h) (fun x hx => ?_) fun _ _ _ q => q)⟩
  intro ph1 H1 x1 g1
  obtain ⟨k, S1⟩ := x
  have up : ∀ {r : Res (Fl × Slots × Store)}, holds r (postS X.K ph H Dn) (W.rel ph H) → holds r (postS X.K ph1 H1 Dn) (W.rel ph1 H1) := fun q => holds_imp q (fun c => postS.mono x1 c) fun e r s q => W.mono _ _ _ _ e r s x1 q
  cases k with
  | true => exact s1 ph1 S1 H1 sg rho Dn g1 (so.mono x1) (up hx)
  | false => exact s2 ph1 S1 H1 sg rho Dn g1 (so.mono x1) (up hx)
def sEx (m : EM) : SM := fun rho S => (m rho S).bind fun x => .ok (.nx, rho, x.2)
theorem psd_expr (ha : PD X W a ma) (hs : swapsWith a none pos.line X.env = pure false := by rfl) : PSD X W (.Expr a pos) (sEx ma) := by
  obtain ⟨ta, pa, sa⟩ := ha.ex
  refine ⟨_, ps_expr pa hs, fun ph S H sg rho Dn g so h => sa ph S H sg rho _ g so (holds_imp (holds_bind h) (fun x hx => ?_) fun _ _ _ q => q)⟩
  exact fun ph1 v1 H1 x1 g1 d1 => hx ph1 sg H1 x1 g1 (so.mono x1)

abbrev GM := SV → Slots → Store → Res (Slots × Store)
abbrev GMs := List SV → Slots → Store → Res (Slots × Store)
def Out (is : List Nat) (sg sg' : L2.St) : Prop := sg'.length = sg.length ∧ ∀ i, i ∉ is → sg'[i]? = sg[i]?
def postG (K : PySem.W.Frag) (ph : List Addr) (H : Hp) (is : List Nat) (sg : L2.St) (Q : L2.St → Hp → Prop) : Slots × Store → Prop := fun r =>
  ∀ ph' sg' H', Ext ph H ph' H' → Good K ph' H' r.2 → SlotsOk K ph' H' sg' r.1 → Out is sg sg' → Q sg' H'
structure PGD (X : Cx) (W : XW X.K) (is : List Nat) (tg : Expr) (m : GM) : Prop where
  ex : ∃ t, PG X tg t ∧ ∀ (ph : List Addr) (S : Store) (H : Hp) (sg : L2.St) (rho : Slots) (v : V) (x : SV) (Q : L2.St → Hp → Prop), Good X.K ph H S → SlotsOk X.K ph H sg rho → DenS X.K ph H v x →
    holds (m x rho S) (postG X.K ph H is sg Q) (W.rel ph H) → t v sg H Q
structure PGDs (X : Cx) (W : XW X.K) (is : List Nat) (tg : List Expr) (m : GMs) : Prop where
  ex : ∃ t, PGs X tg t ∧ ∀ (ph : List Addr) (S : Store) (H : Hp) (sg : L2.St) (rho : Slots) (vs : List V) (xs : List SV) (Q : L2.St → Hp → Prop), Good X.K ph H S → SlotsOk X.K ph H sg rho → DenSs X.K ph H vs xs →
    holds (m xs rho S) (postG X.K ph H is sg Q) (W.rel ph H) → t vs sg H Q
def gNm (i : Nat) : GM := fun x rho S => .ok (rho.set i (some x), S)
theorem out_set (sg : L2.St) (i : Nat) (v : Option V) : Out [i] sg (sg.set i v) := ⟨by simp, fun j hj => List.getElem?_set_ne (fun e => hj (by simp [e]))⟩
theorem Out.trans {is js : List Nat} {s1 s2 s3 : L2.St} (a : Out is s1 s2) (b : Out js s2 s3) : Out (is ++ js) s1 s3 :=
  ⟨b.1.trans a.1, fun i hi => (b.2 i (fun h => hi (List.mem_append_right _ h))).trans (a.2 i (fun h => hi (List.mem_append_left _ h)))⟩
theorem pgd_name {i : Nat} {x : Str} (hN : X.N.Nodup) (hi : X.N[i]? = some x := by rfl) (hx : Loc X.env.scope x := by first | exact Or.inl rfl | exact Or.inr rfl) (hf : X.fn x = true ∨ X.env.scope.names.lookup x = some .local := by first | exact .inl rfl | exact .inr rfl) : PGD X W [i] (.Name x pos) (gNm i) := by
  refine ⟨_, pg_name hN hi hx hf, fun ph S H sg rho v x Q g so d h => ?_⟩
  exact h ph _ H (Ext.refl _ _) g (so.set i d) (out_set _ _ _)
def gNl : GMs := fun xs rho S => match xs with
  | [] => .ok (rho, S)
  | _ => .stuck
def gCs (m : GM) (n : GMs) : GMs := fun xs rho S => match xs with
  | x :: r => (m x rho S).bind fun q => n r q.1 q.2
  | [] => .stuck
theorem pgds_nil : PGDs X W [] [] gNl := by
  refine ⟨_, pgs_nil, fun ph S H sg rho vs xs Q g so d h => ?_⟩
  cases d with
  | nil => exact ⟨rfl, h ph sg H (Ext.refl _ _) g so ⟨rfl, fun _ _ => rfl⟩⟩
  | cons _ _ => exact h.elim
theorem pgds_cons {is js : List Nat} {e : Expr} {es : List Expr} {m : GM} {n : GMs} (h1 : PGD X W is e m) (h2 : PGDs X W js es n) (hs : (assignEach (e :: es) X.env).map (·.2) = assign e X.env :: (assignEach es X.env).map (·.2) := by rfl) : PGDs X W (is ++ js) (e :: es) (gCs m n) := by
  obtain ⟨t, p, s⟩ := h1.ex
  obtain ⟨t2, p2, s2⟩ := h2.ex
  refine ⟨_, pgs_cons p p2 hs, fun ph S H sg rho vs xs Q g so d h => ?_⟩
  cases d with
  | nil => exact h.elim
  | cons d1 d2 =>
    refine ⟨_, _, rfl, s ph S H sg rho _ _ _ g so d1 (holds_imp (holds_bind h) (fun r hr => ?_) fun _ _ _ q => q)⟩
    intro ph1 sg1 H1 x1 g1 so1 o1
    refine s2 ph1 r.2 H1 sg1 r.1 _ _ Q g1 so1 (DenSs.mono x1 d2) (holds_imp hr (fun c hc => ?_) fun e r s q => W.mono _ _ _ _ e r s x1 q)
    exact fun ph2 sg2 H2 x2 g2 so2 o2 => hc ph2 sg2 H2 (x1.trans x2) g2 so2 (o1.trans o2)
def gTu (n : Nat) (m : GMs) : GM := fun x rho S => match x with
  | .fr (.tup ds) => if ds.length = n then m (ds.map SV.fr) rho S else .stuck
  | _ => .stuck
theorem paired_set2 {α β : Type} {P : α → β → Prop} {x : α} {y : β} : ∀ {l : List α} {m : List β} (n : Nat), Paired P l m → P x y → Paired P (l.set n x) (m.set n y)
  | _, _, _, .nil, _ => .nil
  | _, _, 0, .cons _ t, q => .cons q t
  | _, _, n + 1, .cons h t, q => .cons h (paired_set2 n t q)
def setL (o i v : SV) (S : Store) : Res Store := match o, i with
  | .cell k, .fr (.int j) => match S[k]? with
    | some (.lst xs) => match ixN xs.length j with
      | some n => .ok (S.set k (.lst (xs.set n v)))
      | none => .stuck
    | _ => .stuck
  | _, _ => .stuck
theorem setL_ok {ph : List Addr} {S : Store} {H : Hp} {o i v : V} {so si sv : SV} {Q : Hp → Prop} {E : Exc → Slots → Store → Prop} (g : Good X.K ph H S) (d1 : DenS X.K ph H o so) (d2 : DenS X.K ph H i si) (d3 : DenS X.K ph H v sv)
    (h : holds (setL so si sv S) (fun S' => ∀ ph' H', Ext ph H ph' H' → Good X.K ph' H' S' → Q H') E) : rSetL o i v H Q := by
  unfold setL at h
  split at h
  · rename_i k j
    split at h
    · rename_i xs hk
      split at h
      · rename_i n hn
        obtain ⟨p, h1, rfl⟩ := d1
        obtain ⟨q, h3, vs, h4, h5⟩ := g.at hk
        rw [h1] at h3; cases h3
        rw [d_int d2]
        refine ⟨p, vs, j, n, rfl, rfl, h4, by rw [h5.length]; exact hn, ?_⟩
        have hm : p ∈ ph := List.mem_of_getElem? h1
        have e : Ext ph H ph (upd H p (.lst (vs.set n v))) := Ext.write hm (nofrz h4 fun _ _ z => nomatch z)
        refine h ph _ e (g.write h1 ⟨_, upd_same, ?_⟩)
        exact paired_set2 n (DenSs.mono e h5) (d3.mono e)
      · exact h.elim
    · exact h.elim
  · exact h.elim
def gSb (mo mi : EM) : GM := fun x rho S => (mo rho S).bind fun o => (mi rho o.2).bind fun i => (setL o.1 i.1 x i.2).bind fun S' => .ok (rho, S')
theorem pgd_sub (ha : PD X W a ma) (hb : PD X W b mb) (hass : ∀ v, assign (.Subscript a b pos) X.env v = (do
      let ov ← holding [v] (eval a X.env)
      let iv ← holding [v, ov] (eval b X.env)
      standAt pos
      holding [v, ov, iv] (setItem ov iv v)
      release [v, ov, iv] []) := by intro _; rfl) : PGD X W [] (.Subscript a b pos) (gSb ma mb) := by
  obtain ⟨ta, pa, sa⟩ := ha.ex
  obtain ⟨tb, pb, sb⟩ := hb.ex
  refine ⟨_, pg_sub pa pb set_list hass, fun ph S H sg rho v x Q g so d h => sa ph S H sg rho _ g so (holds_imp (holds_bind h) (fun o ho => ?_) fun _ _ _ q => q)⟩
  intro ph1 v1 H1 x1 g1 d1
  refine sb ph1 o.2 H1 sg rho _ g1 (so.mono x1) (holds_imp (holds_bind ho) (fun i hi => ?_) fun e r s q => W.mono _ _ _ _ e r s x1 q)
  intro ph2 v2 H2 x2 g2 d2
  refine setL_ok g2 (d1.mono x2) d2 (d.mono (x1.trans x2)) (holds_imp (holds_bind hi) (fun S3 h3 => ?_) fun e r s q => q)
  intro ph3 H3 x3 g3
  have x13 := x1.trans (x2.trans x3)
  exact h3 ph3 sg H3 x13 g3 (so.mono x13) ⟨rfl, fun _ _ => rfl⟩
def sAs (m : EM) (g : GM) : SM := fun rho S => (m rho S).bind fun x => (g x.1 rho x.2).bind fun r => .ok (.nx, r.1, r.2)
theorem psd_asg {is : List Nat} {tg : Expr} {g : GM} (ha : PD X W a ma) (hg : PGD X W is tg g) (hs : swapsWithSole [tg] a pos.line X.env = pure false := by rfl) (hw : swappedStores [tg] a X.env = pure none := by rfl)
    (h1 : (assignEach [tg] X.env).map (·.2) = [assign tg X.env] := by rfl) : PSD X W (.Assign [tg] a pos) (sAs ma g) := by
  obtain ⟨ta, pa, sa⟩ := ha.ex
  obtain ⟨tt, pt, st⟩ := hg.ex
  refine ⟨_, ps_asg pa pt hs hw h1, fun ph S H sg rho Dn gd so h => sa ph S H sg rho _ gd so (holds_imp (holds_bind h) (fun x hx => ?_) fun _ _ _ q => q)⟩
  intro ph1 v1 H1 x1 g1 d1
  refine st ph1 x.2 H1 sg rho v1 x.1 _ g1 (so.mono x1) d1 (holds_imp (holds_bind hx) (fun r hr => ?_) fun e r s q => W.mono _ _ _ _ e r s x1 q)
  exact fun ph2 sg2 H2 x2 g2 so2 _ => hr ph2 sg2 H2 (x1.trans x2) g2 so2
def sSet (i : Nat) (m : EM) : SM := fun rho S => (m rho S).bind fun x => .ok (.nx, rho.set i (some x.1), x.2)
theorem psd_set {i : Nat} {x : Str} {pos' : Pos} (hN : X.N.Nodup) (ha : PD X W a ma) (hi : X.N[i]? = some x := by rfl) (hx : Loc X.env.scope x := by first | exact Or.inl rfl | exact Or.inr rfl)
    (hs : swapsWith a (some (.Name x pos')) pos.line X.env = pure false := by rfl) (hf : X.fn x = true ∨ X.env.scope.names.lookup x = some .local := by first | exact .inl rfl | exact .inr rfl) : PSD X W (.Assign [.Name x pos'] a pos) (sSet i ma) := by
  obtain ⟨ta, pa, sa⟩ := ha.ex
  refine ⟨_, ps_set hN hi hx pa hs hf, fun ph S H sg rho Dn g so h => sa ph S H sg rho _ g so (holds_imp (holds_bind h) (fun x hx => ?_) fun _ _ _ q => q)⟩
  exact fun ph1 v1 H1 x1 g1 d1 => hx ph1 _ H1 x1 g1 ((so.mono x1).set i d1)
def sPar (i j : Nat) (m : AM) : SM := fun rho S => (m rho S).bind fun x => match x.1 with
  | [u, v] => .ok (.nx, (rho.set i (some u)).set j (some v), x.2)
  | _ => .stuck
theorem psd_par {i j : Nat} {x y : Str} {m : AM} {px py pt : Pos} {kt k2 : Nat} {pt2 : Pos} (hc : X.calm = true) (hN : X.N.Nodup) (ha : PDA X W [a, b] m) (hi : X.N[i]? = some x := by rfl) (hj : X.N[j]? = some y := by rfl) (hij : i ≠ j := by decide)
    (hx : X.env.scope.names.lookup x = some .local := by rfl) (hy : X.env.scope.names.lookup y = some .local := by rfl) (hw : swappedStores [.Tuple [.Name x px, .Name y py] kt pt] (.Tuple [a, b] k2 pt2) X.env = pure (some [x, y]) := by rfl)
    (hs : swapsWithSole [.Tuple [.Name x px, .Name y py] kt pt] (.Tuple [a, b] k2 pt2) pos.line X.env = pure false := by rfl) : PSD X W (.Assign [.Tuple [.Name x px, .Name y py] kt pt] (.Tuple [a, b] k2 pt2) pos) (sPar i j m) := by
  obtain ⟨t, p, s⟩ := ha.ex
  refine ⟨_, ps_par hc hN hi hj hij hx hy p hw hs, fun ph S H sg rho Dn g so h => s ph S H sg rho _ g so (holds_imp (holds_bind h) (fun z hz => ?_) fun _ _ _ q => q)⟩
  intro ph1 vs H1 x1 g1 d1
  obtain ⟨xs, S1⟩ := z
  dsimp only at *
  split at hz
  · obtain ⟨v, u, rfl, dv, du⟩ := two_of d1
    exact ⟨v, u, rfl, hz ph1 _ H1 x1 g1 (((so.mono x1).set i dv).set j du)⟩
  · exact hz.elim
def addI (x y : SV) : Option SV := match x, y with
  | .fr (.int i), .fr (.int j) => some (.fr (.int (i + j)))
  | _, _ => none
def getL (o i : SV) (S : Store) : Option SV := match i with
  | .fr (.int j) => if 0 ≤ j then match rdS S o with
    | some xs => atI xs j
    | none => none else none
  | _ => none
def sAugS (mo mi me : EM) : SM := fun rho S => (mo rho S).bind fun o => (mi rho o.2).bind fun i => match getL o.1 i.1 i.2 with
  | some old => (me rho i.2).bind fun y => match addI old y.1 with
    | some z => (setL o.1 i.1 z y.2).bind fun S' => .ok (.nx, rho, S')
    | none => .stuck
  | none => .stuck
def rIx0 (K : PySem.W.Frag) : V → V → Hp → VK → Prop := fun x y H Q => ∃ p xs i v, x = .ref p ∧ y = .int i ∧ 0 ≤ i ∧ SqL K H p xs ∧ atI xs i = some v ∧ Q v H
theorem pget_list : PGet X (rIx0 X.K) := by
  intro pins s sg H o i ov iv Q I r1 r2 h
  obtain ⟨p, xs, k, v, rfl, rfl, h0, hq, hv, q⟩ := h
  cases r1
  obtain ⟨t, rfl⟩ := r2
  obtain ⟨its, rv, pl, hz⟩ := I.list hq
  obtain ⟨j, hj, hx, hlt, hlo, hhi⟩ := atI_get hv
  obtain ⟨u, hu, ru⟩ := rv.get hx
  have hs : sizeLine = 16777216 := sizeLine_eq
  have hjk : k.toNat = j := by
    rw [seqIndex_of h0 hhi] at hj
    exact Option.some.inj hj
  exact wpAny_getItem_list (k := k) pl.isList h0 (by omega) (by rw [hjk]; simpa using hu) ⟨v, H, I, ru, q⟩
theorem ip_add2 : PIp X .Add (ipI fun i j => i + j) := ip_add
theorem psd_augS {oe ie ve : Expr} {mo mi me : EM} {tpos : Pos} (ho : PD X W oe mo) (hi : PD X W ie mi) (he : PD X W ve me)
    (ha : ∀ ov iv new, augStore ie ov iv new = (do holding [new, ov, iv] (setItem ov iv new); release [new, ov, iv] []; pure .next) := by intros; rfl) : PSD X W (.AugAssign (.Subscript oe ie tpos) .Add ve pos) (sAugS mo mi me) := by
  obtain ⟨to, po, so'⟩ := ho.ex
  obtain ⟨ti, pi, si⟩ := hi.ex
  obtain ⟨te, pe, se⟩ := he.ex
  refine ⟨_, ps_augS po pi pget_list pe ip_add2 set_list ha, fun ph S H sg rho Dn g so h => so' ph S H sg rho _ g so (holds_imp (holds_bind h) (fun o hx => ?_) fun _ _ _ q => q)⟩
  intro ph1 v1 H1 x1 g1 d1
  refine si ph1 o.2 H1 sg rho _ g1 (so.mono x1) (holds_imp (holds_bind hx) (fun i hy => ?_) fun e r s q => W.mono _ _ _ _ e r s x1 q)
  intro ph2 v2 H2 x2 g2 d2
  have d12 := d1.mono x2
  obtain ⟨iv, S2⟩ := i
  dsimp only at hy g2 d2
  split at hy
  · rename_i old hold
    unfold getL at hold
    split at hold
    · rename_i j
      split at hold
      · rename_i hj0
        split at hold
        · rename_i xs hxs
          obtain ⟨p, vs, e1, s1, r1⟩ := rdS_ok g2 d12 hxs
          subst e1
          obtain ⟨w', hw', dw⟩ := atI_pair r1 hold
          refine ⟨p, vs, j, w', rfl, d_int d2, hj0, s1, hw', ?_⟩
          refine se ph2 S2 H2 sg rho _ g2 (so.mono (x1.trans x2)) (holds_imp (holds_bind hy) (fun y hz => ?_) fun e r s q => W.mono _ _ _ _ e r s (x1.trans x2) q)
          intro ph3 v3 H3 x3 g3 d3
          obtain ⟨yv, S3⟩ := y
          dsimp only at hz g3 d3
          split at hz
          · rename_i z hzz
            unfold addI at hzz
            split at hzz
            · rename_i n1 n2
              cases hzz
              refine ⟨n1, n2, d_int dw, d_int d3, ?_⟩
              refine setL_ok g3 (d12.mono x3) (d2.mono x3) (sv := .fr (.int (n1 + n2))) (Den.int (n1 + n2)) (holds_imp (holds_bind hz) (fun S4 h4 => ?_) fun e r s q => q)
              intro ph4 H4 x4 g4
              have x14 := x1.trans (x2.trans (x3.trans x4))
              exact h4 ph4 sg H4 x14 g4 (so.mono x14)
            · cases hzz
          · exact hz.elim
        · cases hold
      · cases hold
    · cases hold
  · exact hy.elim
end
end DL

namespace DL
open PySem PySem.Spec PyProof.Rows L2

structure Wk where
  xs : List SV
  lk : Store → Prop
abbrev IM := Slots → Store → Res (Wk × Store)
structure WalkOk (K : PySem.W.Frag) (ph : List Addr) (H : Hp) (J : It) (w : Wk) : Prop where
  go : ∀ (i : Nat) (x : SV) (ph' : List Addr) (H' : Hp) (S' : Store), w.xs[i]? = some x → Ext ph H ph' H' → Good K ph' H' S' → w.lk S' → J.go i H'
  yld : ∀ (i : Nat) (x : SV) (ph' : List Addr) (H' : Hp) (S' : Store) (v : V) (H2 : Hp), w.xs[i]? = some x → Ext ph H ph' H' → Good K ph' H' S' → w.lk S' → J.yld i H' v H2 → Ext ph' H' ph' H2 ∧ Good K ph' H2 S' ∧ DenS K ph' H2 v x
  stop : ∀ (i : Nat) (ph' : List Addr) (H' : Hp) (S' : Store), w.xs.length ≤ i → Ext ph H ph' H' → Good K ph' H' S' → w.lk S' → J.stop i H'
def postI (K : PySem.W.Frag) (ph : List Addr) (H : Hp) (R : It → Hp → Prop) : Wk × Store → Prop := fun r => ∀ ph' H' J, Ext ph H ph' H' → Good K ph' H' r.2 → WalkOk K ph' H' J r.1 → R J H'
structure PID (X : Cx) (W : XW X.K) (tg iter : Expr) (m : IM) : Prop where
  ex : ∃ t, PI X tg iter t ∧ ∀ (ph : List Addr) (S : Store) (H : Hp) (sg : L2.St) (rho : Slots) (R : It → Hp → Prop), Good X.K ph H S → SlotsOk X.K ph H sg rho →
    holds (m rho S) (postI X.K ph H R) (W.rel ph H) → t sg H R
theorem WalkOk.mono {K : PySem.W.Frag} {ph ph2 : List Addr} {H H2 : Hp} {J : It} {w : Wk} (e : Ext ph H ph2 H2) (h : WalkOk K ph H J w) : WalkOk K ph2 H2 J w :=
  ⟨fun i x p G S a b => h.go i x p G S a (e.trans b), fun i x p G S v G2 a b => h.yld i x p G S v G2 a (e.trans b), fun i p G S a b => h.stop i p G S a (e.trans b)⟩
def iSeq (m : EM) : IM := fun rho S => (m rho S).bind fun x => match x.1 with
  | .fr (.tup _) => .stuck
  | .fr _ => match rdS x.2 x.1 with
    | some xs => .ok (⟨xs, fun _ => True⟩, x.2)
    | none => .stuck
  | .cell k => match rdL x.2 (.cell k) with
    | some xs => .ok (⟨xs, fun S' => S'[k]? = some (.lst xs)⟩, x.2)
    | none => .stuck
def iTp (m : EM) : IM := fun rho S => (m rho S).bind fun x => match x.1 with
  | .fr (.tup ds) => .ok (⟨ds.map SV.fr, fun _ => True⟩, x.2)
  | _ => .stuck
section
variable {X : Cx} {W : XW X.K} {a b c tg : Expr} {ma mb mc : EM} {pos : Pos}
theorem walk_fix {K : PySem.W.Frag} {ph : List Addr} {H : Hp} {p : Addr} {vs : List V} {xs : List SV} {lk : Store → Prop} (s : SqL K (hide ph H) p vs) (r : DenSs K ph H vs xs) : WalkOk K ph H (Itl K p) ⟨xs, lk⟩ where
  go := fun i x ph' H' S' hx e g _ => by
    obtain ⟨v, hv, _⟩ := paired_get r hx
    exact ⟨vs, v, hide_sub.sqL (e.sub.sqL s), hv⟩
  yld := fun i x ph' H' S' v H2 hx e g _ y => by
    obtain ⟨rfl, y⟩ := y
    obtain ⟨v', hv, d⟩ := paired_get r hx
    have := y vs (hide_sub.sqL (e.sub.sqL s))
    rw [this] at hv
    cases hv
    exact ⟨Ext.refl _ _, g, d.mono e⟩
  stop := fun i ph' H' S' hi e g _ => ⟨vs, hide_sub.sqL (e.sub.sqL s), by rw [r.length]; exact hi⟩
theorem walk_cell {K : PySem.W.Frag} {ph : List Addr} {H : Hp} {p : Addr} {k : Nat} {xs : List SV} (hp : ph[k]? = some p) : WalkOk K ph H (Itl K p) ⟨xs, fun S' => S'[k]? = some (.lst xs)⟩ where
  go := fun i x ph' H' S' hx e g hk => by
    obtain ⟨q, h1, vs, h2, h3⟩ := g.at hk
    obtain ⟨ps, rfl, _⟩ := e.pre
    rw [List.getElem?_append_left (List.getElem?_eq_some_iff.mp hp).1, hp] at h1
    cases h1
    obtain ⟨v, hv, _⟩ := paired_get h3 hx
    exact ⟨vs, v, .of h2, hv⟩
  yld := fun i x ph' H' S' v H2 hx e g hk y => by
    obtain ⟨rfl, y⟩ := y
    obtain ⟨q, h1, vs, h2, h3⟩ := g.at hk
    have hp' : ph'[k]? = some p := by
      obtain ⟨ps, rfl, _⟩ := e.pre
      rw [List.getElem?_append_left (List.getElem?_eq_some_iff.mp hp).1, hp]
    rw [hp'] at h1
    cases h1
    obtain ⟨v', hv, d⟩ := paired_get h3 hx
    have := y vs (.of h2)
    rw [this] at hv
    cases hv
    exact ⟨Ext.refl _ _, g, d⟩
  stop := fun i ph' H' S' hi e g hk => by
    obtain ⟨q, h1, vs, h2, h3⟩ := g.at hk
    obtain ⟨ps, rfl, _⟩ := e.pre
    rw [List.getElem?_append_left (List.getElem?_eq_some_iff.mp hp).1, hp] at h1
    cases h1
    exact ⟨vs, .of h2, by rw [h3.length]; exact hi⟩
theorem rdS_fr {K : PySem.W.Frag} {ph : List Addr} {H : Hp} {S : Store} {v : V} {d : D} {xs : List SV} (h : DenS K ph H v (.fr d)) (e : rdS S (.fr d) = some xs) : ∃ a vs, v = .ref a ∧ SqL K (hide ph H) a vs ∧ DenSs K ph H vs xs := by
  cases d with
  | lst ds => simp [rdS, rdL] at e; subst e; cases h with | lst s r => exact ⟨_, _, rfl, .of s, of_dens r⟩
  | scr ds => simp [rdS] at e; subst e; cases h with | scr s r => exact ⟨_, _, rfl, s, of_dens r⟩
  | _ => simp [rdS, rdL] at e
theorem pid_seq (ha : PD X W a ma) : PID X W tg a (iSeq ma) := by
  obtain ⟨ta, pa, sa⟩ := ha.ex
  refine ⟨_, pi_list pa, fun ph S H sg rho R g so h => sa ph S H sg rho _ g so (holds_imp (holds_bind h) (fun x hx => ?_) fun _ _ _ q => q)⟩
  intro ph1 v1 H1 x1 g1 d1
  obtain ⟨sv, S1⟩ := x
  dsimp only at *
  split at hx
  · exact hx.elim
  · split at hx
    · rename_i xs he
      obtain ⟨p, vs, rfl, s, r⟩ := rdS_fr d1 he
      exact ⟨p, rfl, ⟨vs, hide_sub.sqL s⟩, hx ph1 H1 _ x1 g1 (walk_fix s r)⟩
    · exact hx.elim
  · split at hx
    · rename_i k xs he
      obtain ⟨p, h1, rfl⟩ := id d1
      obtain ⟨q, vs, e1, h2, h3⟩ := rdL_at g1 d1 he
      cases e1
      exact ⟨p, rfl, ⟨vs, .of h2⟩, hx ph1 H1 _ x1 g1 (walk_cell h1)⟩
    · exact hx.elim
def rngS (lo : Int) (n : Nat) : List SV := (List.range n).map fun i => .fr (.int (lo + (i : Nat)))
theorem walk_range {K : PySem.W.Frag} {ph : List Addr} {H : Hp} {lo : Int} {n : Nat} {lk : Store → Prop} : WalkOk K ph H (Itr lo n) ⟨rngS lo n, lk⟩ where
  go := fun i x ph' H' S' hx e g _ => by
    have := (List.getElem?_eq_some_iff.mp hx).1
    simpa [rngS, Itr] using this
  yld := fun i x ph' H' S' v H2 hx e g _ y => by
    obtain ⟨rfl, rfl⟩ := y
    have h1 := (List.getElem?_eq_some_iff.mp hx).1
    have hx' : (rngS lo n)[i]? = some x := hx
    have hi : i < n := by simpa [rngS] using h1
    rw [rngS, List.getElem?_map, List.getElem?_range hi] at hx'
    cases hx'
    exact ⟨Ext.refl _ _, g, Den.int _⟩
  stop := fun i ph' H' S' hi e g _ => by simpa [rngS, Itr] using hi
def iR1 (m : AM) : IM := fun rho S => (m rho S).bind fun x => match x.1 with
  | [.fr (.int j)] => if -(2 ^ 62) ≤ j ∧ j < 2 ^ 62 then .ok (⟨rngS 0 j.toNat, fun _ => True⟩, x.2) else .stuck
  | _ => .stuck
def iR2 (m : AM) : IM := fun rho S => (m rho S).bind fun x => match x.1 with
  | [.fr (.int i), .fr (.int j)] => if -(2 ^ 62) ≤ i ∧ i < 2 ^ 62 ∧ -(2 ^ 62) ≤ j ∧ j < 2 ^ 62 then .ok (⟨rngS i (j - i).toNat, fun _ => True⟩, x.2) else .stuck
  | _ => .stuck
theorem pid_range1 {m : AM} {p : Pos} (hm : X.mg "range" = none) (ha : PDA X W [a] m) (hg : Gl X "range" := by rfl) (hs : starEach [a] X.env = [(false, eval a X.env)] := by rfl) : PID X W tg (.Call (.Name "range" p) [a] [] pos) (iR1 m) := by
  obtain ⟨t, pt, st⟩ := ha.ex
  refine ⟨_, pi_range1 hg hm pt hs, fun ph S H sg rho R g so h => st ph S H sg rho _ g so (holds_imp (holds_bind h) (fun x hx => ?_) fun _ _ _ q => q)⟩
  intro ph1 vs H1 x1 g1 d1
  obtain ⟨xs, S1⟩ := x
  dsimp only at *
  split at hx
  · split at hx
    · rename_i j hj
      obtain ⟨v, rfl, dv⟩ := one_of d1
      rw [d_int dv]
      exact ⟨j, rfl, hj.1, hj.2, hx ph1 H1 _ x1 g1 walk_range⟩
    · exact hx.elim
  · exact hx.elim
open Classical in
noncomputable def loopM (lk : Store → Prop) (g : GM) (b : SM) : List SV → SM
  | [] => fun rho S => if lk S then .ok (.nx, rho, S) else .stuck
  | x :: xs => fun rho S => if lk S then (g x rho S).bind fun r => (b r.1 r.2).bind fun q => match q.1 with
    | .nx => loopM lk g b xs q.2.1 q.2.2
    | .ct => loopM lk g b xs q.2.1 q.2.2
    | .bk => .ok (.nx, q.2.1, q.2.2)
    | .rt v => .ok (.rt v, q.2.1, q.2.2) else .stuck
noncomputable def sFor (im : IM) (g : GM) (b : SM) : SM := fun rho S => (im rho S).bind fun w => loopM w.1.lk g b w.1.xs rho w.2
theorem psd_for {is : List Nat} {body : List Stmt} {im : IM} {g : GM} {mb : SM} (hc : X.calm = true) (hp : PassesOwn (model X.prog X.w) X.A X.env X.xe) (hi : PID X W tg a im) (hg : PGD X W is tg g) (hb : PSDs X W body mb)
    (hs : ∀ x, foldedSetIterable a X.env x = pure x := by intro _; rfl) : PSD X W (.For tg a body [] pos) (sFor im g mb) := by
  obtain ⟨ti, pi, si⟩ := hi.ex
  obtain ⟨tt, pt, st⟩ := hg.ex
  obtain ⟨tb, pb, sb⟩ := hb.ex
  refine ⟨_, ps_for hp hc pi pt pb hs, fun ph S H sg rho Dn gd so h => si ph S H sg rho _ gd so (holds_imp (holds_bind h) (fun w hw => ?_) fun _ _ _ q => q)⟩
  intro ph1 H1 J x1 g1 wk
  obtain ⟨⟨xs, lk⟩, S1⟩ := w
  dsimp only at hw g1
  refine ⟨fun i m sg' H' => m = xs.length - i ∧ i ≤ xs.length ∧ ∃ ph' S' rho', Ext ph1 H1 ph' H' ∧ Good X.K ph' H' S' ∧ SlotsOk X.K ph' H' sg' rho' ∧ holds (loopM lk g mb (xs.drop i) rho' S') (postS X.K ph' H' Dn) (W.rel ph' H'),
    ⟨_, rfl, Nat.zero_le _, ph1, S1, rho, Ext.refl _ _, g1, so.mono x1, holds_imp hw (fun c => postS.mono x1 c) fun e r s q => W.mono _ _ _ _ e r s x1 q⟩, ?_⟩
  rintro i m sg2 H2 ⟨rfl, hle, ph2, S2, rho2, x2, g2, so2, h2⟩
  by_cases hi : i < xs.length
  · right
    rw [List.drop_eq_getElem_cons hi] at h2
    unfold loopM at h2
    split at h2
    · rename_i hlk
      have hx : (⟨xs, lk⟩ : Wk).xs[i]? = some xs[i] := List.getElem?_eq_getElem hi
      refine ⟨wk.go i xs[i] ph2 H2 S2 hx x2 g2 hlk, fun sg' H' => ∃ ph' S' rho', Ext ph1 H1 ph' H' ∧ Good X.K ph' H' S' ∧ SlotsOk X.K ph' H' sg' rho' ∧ holds (loopM lk g mb (xs.drop (i + 1)) rho' S') (postS X.K ph' H' Dn) (W.rel ph' H'), fun sg' H' q => ⟨xs.length - (i + 1), by omega, rfl, hi, q⟩, fun v H3 y => ?_⟩
      obtain ⟨x3, g3, d3⟩ := wk.yld i xs[i] ph2 H2 S2 v H3 hx x2 g2 hlk y
      refine st ph2 S2 H3 sg2 rho2 v xs[i] _ g3 (so2.mono x3) d3 (holds_imp (holds_bind h2) (fun r hr => ?_) fun e r s q => W.mono _ _ _ _ e r s x3 q)
      intro ph4 sg4 H4 x4 g4 so4 _
      have x34 := x3.trans x4
      refine sb ph4 r.2 H4 sg4 r.1 _ g4 so4 (holds_imp (holds_bind hr) (fun q hq => ?_) fun e r s q => W.mono _ _ _ _ e r s x34 q)
      intro ph5 sg5 H5 x5 g5 so5
      have x35 := x34.trans x5
      obtain ⟨fl, rho5, S5⟩ := q
      dsimp only at *
      cases fl with
      | nx => exact ⟨ph5, S5, rho5, x2.trans x35, g5, so5, holds_imp hq (fun c => postS.mono x35 c) fun e r s q => W.mono _ _ _ _ e r s x35 q⟩
      | ct => exact ⟨ph5, S5, rho5, x2.trans x35, g5, so5, holds_imp hq (fun c => postS.mono x35 c) fun e r s q => W.mono _ _ _ _ e r s x35 q⟩
      | bk => exact hq ph5 sg5 H5 x35 g5 so5
      | rt x => exact fun v' dv' => hq ph5 sg5 H5 x35 g5 so5 v' dv'
    · exact h2.elim
  · left
    have e : i = xs.length := by omega
    subst e
    rw [List.drop_length] at h2
    unfold loopM at h2
    split at h2
    · rename_i hlk
      exact ⟨wk.stop xs.length ph2 H2 S2 (Nat.le_refl _) x2 g2 hlk, h2 ph2 sg2 H2 (Ext.refl _ _) g2 so2⟩
    · exact h2.elim

end
end DL

namespace DL
open PySem PySem.Spec PyProof.Rows L2

def tOf (K : PySem.W.Frag) (W : XW K) (m : EM) : TE := fun sg H Q => ∃ ph S rho, Good K ph H S ∧ SlotsOk K ph H sg rho ∧ holds (m rho S) (post K ph H Q) (W.rel ph H)
def tOfT (K : PySem.W.Frag) (W : XW K) (m : TM) : TT := fun sg H Q => ∃ ph S rho, Good K ph H S ∧ SlotsOk K ph H sg rho ∧ holds (m rho S) (postT K ph H Q) (W.rel ph H)
def tOfG (K : PySem.W.Frag) (W : XW K) (is : List Nat) (m : GM) : TG := fun v sg H Q => ∃ ph S rho x, Good K ph H S ∧ SlotsOk K ph H sg rho ∧ DenS K ph H v x ∧ holds (m x rho S) (postG K ph H is sg Q) (W.rel ph H)
section
variable {X : Cx} {W : XW X.K} {a b c tg : Expr} {ma mb mc : EM} {pos : Pos}
theorem PD.pe (h : PD X W a ma) : PE X a (tOf X.K W ma) := by
  obtain ⟨t, p, s⟩ := h.ex
  refine ⟨fun pins s' sg H Q I q => ?_⟩
  obtain ⟨ph, S, rho, g, so, hh⟩ := q
  exact p.run pins s' sg H Q I (s ph S H sg rho Q g so hh)
theorem PDT.pt (h : PDT X W a m) : PT X a (tOfT X.K W m) := by
  obtain ⟨t, p, s⟩ := h.ex
  refine ⟨fun pins s' sg H Q I q => ?_⟩
  obtain ⟨ph, S, rho, g, so, hh⟩ := q
  exact p.run pins s' sg H Q I (s ph S H sg rho Q g so hh)
theorem PGD.pg {is : List Nat} {m : GM} (h : PGD X W is a m) : PG X a (tOfG X.K W is m) := by
  obtain ⟨t, p, s⟩ := h.ex
  refine ⟨fun pins s' sg H v u Q I r q => ?_⟩
  obtain ⟨ph, S, rho, x, g, so, d, hh⟩ := q
  exact p.run pins s' sg H v u Q I r (s ph S H sg rho v x Q g so d hh)

def wipeR (rho : Slots) : List Nat → Slots
  | [] => rho
  | v :: vs => (wipeR rho vs).set v none
theorem wipeR_len (rho : Slots) : ∀ vs : List Nat, (wipeR rho vs).length = rho.length
  | [] => rfl
  | v :: vs => by unfold wipeR; rw [List.length_set, wipeR_len rho vs]
theorem wipeR_get {rho : Slots} {i : Nat} {x : SV} : ∀ {vs : List Nat}, (wipeR rho vs)[i]? = some (some x) → rho[i]? = some (some x) ∧ i ∉ vs
  | [], h => ⟨h, by simp⟩
  | v :: vs, h => by
    unfold wipeR at h
    by_cases hi : v = i
    · subst hi
      by_cases hv : v < (wipeR rho vs).length
      · rw [List.getElem?_set_self hv] at h; cases h
      · rw [List.getElem?_eq_none (by rw [List.length_set]; omega)] at h; cases h
    · rw [List.getElem?_set_ne hi] at h
      obtain ⟨h1, h2⟩ := wipeR_get h
      exact ⟨h1, fun m => by rcases List.mem_cons.mp m with e | m; exact hi e.symm; exact h2 m⟩
theorem wipe_in {sg : L2.St} {i : Nat} : ∀ {vs : List Nat}, i ∈ vs → (wipe sg vs)[i]? = if i < sg.length then some none else none
  | [], h => nomatch h
  | v :: vs, h => by
    unfold wipe
    by_cases hi : v = i
    · subst hi
      by_cases hv : v < sg.length
      · rw [if_pos hv, List.getElem?_set_self (by rw [wipe_length]; exact hv)]
      · rw [if_neg hv, List.getElem?_eq_none (by rw [List.length_set, wipe_length]; omega)]
    · rw [List.getElem?_set_ne hi]
      exact wipe_in (by rcases List.mem_cons.mp h with e | m; exact absurd e.symm hi; exact m)
theorem wipe_eq {sg sg2 : L2.St} {is vs : List Nat} (h : ∀ i ∈ is, i ∈ vs) (o : Out is (wipe sg vs) sg2) : wipe sg2 vs = wipe sg vs := by
  obtain ⟨o1, o2⟩ := o
  rw [wipe_length] at o1
  apply List.ext_getElem?
  intro i
  by_cases hi : i ∈ vs
  · rw [wipe_in hi, wipe_in hi, o1]
  · rw [wipe_out hi, o2 i fun m => hi (h i m)]
theorem SlotsOk.wiped {K : PySem.W.Frag} {ph : List Addr} {H : Hp} {sg : L2.St} {rho : Slots} (so : SlotsOk K ph H sg rho) (vs : List Nat) : SlotsOk K ph H (wipe sg vs) (wipeR rho vs) := by
  refine ⟨by rw [wipe_length, wipeR_len]; exact so.1, fun i x h => ?_⟩
  obtain ⟨h1, h2⟩ := wipeR_get h
  rw [wipe_out h2]
  exact so.2 i x h1

def unS (n : Nat) (S : Store) : Option (Store × List SV) := match S.drop n with
  | [.lst acc] => some (S.take n, acc)
  | _ => none
theorem unS_app {S : Store} {acc : List SV} {n : Nat} (h : S.length = n) : unS n (S ++ [.lst acc]) = some (S, acc) := by
  subst h
  unfold unS
  rw [List.drop_left', List.take_left'] <;> simp
theorem unS_some {n : Nat} {S S' : Store} {acc : List SV} (h : unS n S = some (S', acc)) (hn : n ≤ S.length) : S = S' ++ [.lst acc] ∧ S'.length = n := by
  unfold unS at h
  split at h
  · rename_i a e
    simp only [Option.some.injEq, Prod.mk.injEq] at h
    obtain ⟨rfl, rfl⟩ := h
    refine ⟨?_, by simp [hn]⟩
    rw [← e, List.take_append_drop]
  · cases h
open Classical in
noncomputable def lcM (lk : Store → Prop) (g : GM) (t : TM) (e : EM) (own : List Nat) (rho : Slots) : List SV → Store → List SV → Res (List SV × Store)
  | [], S, acc => if lk (S ++ [.lst acc]) then .ok (acc, S) else .stuck
  | x :: xs, S, acc => if lk (S ++ [.lst acc]) then (g x (wipeR rho own) (S ++ [.lst acc])).bind fun r => (t r.1 r.2).bind fun k => if k.1 then (e r.1 k.2).bind fun y => match unS S.length y.2 with
      | some q => if q.2.length < sizeLine then lcM lk g t e own rho xs q.1 (q.2 ++ [y.1]) else .stuck
      | none => .stuck
    else (match unS S.length k.2 with
      | some q => lcM lk g t e own rho xs q.1 q.2
      | none => .stuck) else .stuck
def lcEnd (c : Bool) (acc : List SV) (S : Store) : Res (SV × Store) := if c then .ok (.cell S.length, S ++ [.lst acc]) else if S.all (Cell.below S.length) then match allFr acc with
  | some ds => .ok (.fr (.lst ds), S)
  | none => .stuck else .stuck
def tTr : TM := fun _ S => .ok (true, S)
theorem lcEnd_ok {K : PySem.W.Frag} {ph : List Addr} {H H' : Hp} {D : Addr} {acc : List SV} {S0 S : Store} {c : Bool} {Q : VK} {E : Exc → Slots → Store → Prop} (g0 : Good K ph H S0) (hD : H D = none) (x : Ext ph H (ph ++ [D]) H') (g : Good K (ph ++ [D]) H' (S ++ [.lst acc]))
    (h : holds (lcEnd c acc S) (post K ph H Q) E) : Q (.ref D) H' := by
  have hl : ph.length = S.length := by have := g.len; simpa using this
  unfold lcEnd at h
  cases c with
  | true => exact h (ph ++ [D]) (.ref D) H' x g ⟨D, by rw [← hl]; simp, rfl⟩
  | false =>
    simp only [Bool.false_eq_true, if_false] at h
    split at h
    · rename_i hb
      split at h
      · rename_i ds hd
        have hm : ∀ a ∈ ph, a ∈ ph ++ [D] := fun a m => List.mem_append_left _ m
        have hk : ∀ k, k < S.length → ph[k]? = (ph ++ [D])[k]? := fun k hk => by rw [List.getElem?_append_left (by omega)]
        obtain ⟨vs, h4, h5⟩ : CellAt K (ph ++ [D]) H' D (.lst acc) := paired_at (k := S.length) g.cells (by rw [← hl]; simp) (by simp)
        have q := paired_take S.length g.cells
        rw [List.take_left' rfl, List.take_left' hl] at q
        refine h ph (.ref D) H' x.back ⟨g0.nd, paired_all (f := Cell.below S.length) (fun p c hc d => CellAt.shrink (n := S.length) hm hk hc d) q hb, g.tb⟩ ?_
        rw [allFr_eq hd] at h5
        exact .lst (hide_of (g0.new hD) h4) (Dens.mono (sub_hide hm) (dens_of h5))
      · exact h.elim
    · exact h.elim
def noE {α : Type} (r : Res α) : Res α := match r with
  | .exc _ _ _ => .stuck
  | x => x
abbrev Blk (X : Cx) (scope : Scope) (s : Shared) (H : Hp) (C : Addr) (cl : List (Str × Addr)) (fp : List Addr) : Cx := X.blk s H scope (compEnvC scope cl C X.env) fp
theorem lc_snd {wi : TI} {im : IM} {is own : List Nat} {g : GM} {t : TM} {e : EM} {cc : Bool} (hown : ∀ i ∈ is, i ∈ own)
    (si : ∀ (ph : List Addr) (S : Store) (H : Hp) (sg : L2.St) (rho : Slots) (R : It → Hp → Prop), Good X.K ph H S → SlotsOk X.K ph H sg rho → holds (im rho S) (postI X.K ph H R) (W.rel ph H) → wi sg H R) :
    SndE X W (tLc wi (tOfG X.K (XW.none X.K) is g) (tOfT X.K (XW.none X.K) t) (tOf X.K (XW.none X.K) e) own) (fun rho S => (im rho S).bind fun w => (noE (lcM w.1.lk g t e own rho w.1.xs w.2 [])).bind fun r => lcEnd cc r.1 r.2) := by
  intro ph S H sg rho Q gd so h
  refine si ph S H sg rho _ gd so (holds_imp (holds_bind h) (fun w hw => ?_) fun _ _ _ q => q)
  intro ph1 H1 J x1 g1 wk D hD
  obtain ⟨⟨xs, lk⟩, S1⟩ := w
  dsimp only at hw g1
  have so1 := so.mono x1
  have x0 : Ext ph1 H1 (ph1 ++ [D]) (upd H1 D (.lst [])) := Ext.cell hD
  have gD : Good X.K (ph1 ++ [D]) (upd H1 D (.lst [])) (S1 ++ [.lst []]) := g1.cell hD ⟨[], upd_same, .nil⟩
  have fin : ∀ (acc : List SV) (S' : Store) (H' : Hp), Ext (ph1 ++ [D]) (upd H1 D (.lst [])) (ph1 ++ [D]) H' → Good X.K (ph1 ++ [D]) H' (S' ++ [.lst acc]) → holds (lcEnd cc acc S') (post X.K ph H Q) (W.rel ph H) → Q (.ref D) H' := fun acc S' H' x' g' q =>
    lcEnd_ok g1 hD (x0.trans x') g' (holds_imp q (fun c => post.mono x1 c) fun _ _ _ z => z)
  have start0 : holds (lcM lk g t e own rho xs S1 []) (fun r => holds (lcEnd cc r.1 r.2) (post X.K ph H Q) (W.rel ph H)) (fun _ _ _ => False) := by
    revert hw
    cases lcM lk g t e own rho xs S1 [] with
    | ok r => exact fun q => q
    | exc _ _ _ => exact fun q => q.elim
    | stuck => exact fun q => q.elim
  refine ⟨fun i m H' => m = xs.length - i ∧ i ≤ xs.length ∧ ∃ S' acc, S'.length = S1.length ∧ Ext (ph1 ++ [D]) (upd H1 D (.lst [])) (ph1 ++ [D]) H' ∧ Good X.K (ph1 ++ [D]) H' (S' ++ [.lst acc]) ∧
      holds (lcM lk g t e own rho (xs.drop i) S' acc) (fun r => holds (lcEnd cc r.1 r.2) (post X.K ph H Q) (W.rel ph H)) (fun _ _ _ => False), ⟨_, rfl, Nat.zero_le _, S1, [], rfl, Ext.refl _ _, gD, start0⟩, ?_⟩
  rintro i m H2 ⟨rfl, hle, S2, acc, hl2, x2, g2, h2⟩
  by_cases hi : i < xs.length
  · right
    rw [List.drop_eq_getElem_cons hi] at h2
    unfold lcM at h2
    split at h2
    · rename_i hlk
      have hx : (⟨xs, lk⟩ : Wk).xs[i]? = some xs[i] := List.getElem?_eq_getElem hi
      refine ⟨wk.go i xs[i] _ H2 _ hx (x0.trans x2) g2 hlk, fun H' => ∃ S' acc, S'.length = S1.length ∧ Ext (ph1 ++ [D]) (upd H1 D (.lst [])) (ph1 ++ [D]) H' ∧ Good X.K (ph1 ++ [D]) H' (S' ++ [.lst acc]) ∧
        holds (lcM lk g t e own rho (xs.drop (i + 1)) S' acc) (fun r => holds (lcEnd cc r.1 r.2) (post X.K ph H Q) (W.rel ph H)) (fun _ _ _ => False), fun H' q => ⟨xs.length - (i + 1), by omega, rfl, hi, q⟩, fun v H3 y => ?_⟩
      obtain ⟨x3, g3, d3⟩ := wk.yld i xs[i] _ H2 _ v H3 hx (x0.trans x2) g2 hlk y
      have so3 := (so1.mono (x0.trans (x2.trans x3))).wiped own
      refine ⟨_, _, _, xs[i], g3, so3, d3, holds_imp (holds_bind h2) (fun r hr => ?_) fun _ _ _ z => z⟩
      intro ph4 sg4 H4 x4 g4 so4 o4
      refine ⟨wipe_eq hown o4, ph4, r.2, r.1, g4, so4, holds_imp (holds_bind hr) (fun k hk => ?_) fun _ _ _ z => z⟩
      intro ph5 H5 x5 g5
      obtain ⟨kb, S5⟩ := k
      dsimp only at hk g5
      have x35 := x3.trans (x4.trans x5)
      -- the cells are those ahead of the turn
      have same : ∀ {ph' : List Addr} {H' : Hp} {S' S6 : Store} {acc' : List SV}, Ext (ph1 ++ [D]) H2 ph' H' → Good X.K ph' H' S' → unS S2.length S' = some (S6, acc') → ph' = ph1 ++ [D] ∧ S' = S6 ++ [.lst acc'] ∧ S6.length = S1.length := by
        intro ph' H' S' S6 acc' x' g' hu
        have gl2 := g2.len
        obtain ⟨ps, rfl, _⟩ := x'.pre
        have gl := g'.len
        simp only [List.length_append, List.length_cons, List.length_nil] at gl gl2
        obtain ⟨e1, e2⟩ := unS_some hu (by omega)
        refine ⟨?_, e1, e2.trans hl2⟩
        subst e1
        simp only [List.length_append, List.length_cons, List.length_nil] at gl
        have : ps.length = 0 := by omega
        rw [List.length_eq_zero_iff.mp this, List.append_nil]
      cases kb with
      | false =>
        simp only [Bool.false_eq_true, if_false] at hk ⊢
        split at hk
        · rename_i q hq
          obtain ⟨S6, acc'⟩ := q
          obtain ⟨rfl, rfl, l6⟩ := same x35 g5 hq
          exact ⟨S6, acc', l6, x2.trans x35, g5, hk⟩
        · exact hk.elim
      | true =>
        simp only [if_true] at hk ⊢
        refine ⟨ph5, S5, r.1, g5, so4.mono x5, holds_imp (holds_bind hk) (fun y hy => ?_) fun _ _ _ z => z⟩
        intro ph6 v6 H6 x6 g6 d6
        have x36 := x35.trans x6
        obtain ⟨yv, S7⟩ := y
        dsimp only at hy g6 d6
        split at hy
        · rename_i q hq
          obtain ⟨S8, acc'⟩ := q
          obtain ⟨rfl, rfl, l8⟩ := same x36 g6 hq
          split at hy
          · rename_i hz
            have hp : (ph1 ++ [D])[S8.length]? = some D := by rw [l8, ← g1.len]; simp
            obtain ⟨vs, h4, h5⟩ : CellAt X.K (ph1 ++ [D]) H6 D (.lst acc') := paired_at (k := S8.length) g6.cells hp (by simp)
            have hm : D ∈ ph1 ++ [D] := by simp
            have xw : Ext (ph1 ++ [D]) H6 (ph1 ++ [D]) (upd H6 D (.lst (vs ++ [v6]))) := Ext.write hm (nofrz h4 fun _ _ z => nomatch z)
            refine ⟨vs, h4, by rw [h5.length]; exact hz, S8, acc' ++ [yv], l8, (x2.trans x36).trans xw, ?_, hy⟩
            have gw := g6.write (o := .lst (vs ++ [v6])) (c := .lst (acc' ++ [yv])) hp ⟨vs ++ [v6], upd_same, paired_snoc (DenSs.mono xw h5) (d6.mono xw)⟩
            rw [List.set_append_right _ _ (Nat.le_refl _)] at gw
            simpa using gw
          · exact hy.elim
        · exact hy.elim
    · exact h2.elim
  · left
    have e : i = xs.length := by omega
    subst e
    rw [List.drop_length] at h2
    unfold lcM at h2
    split at h2
    · rename_i hlk
      exact ⟨wk.stop xs.length _ H2 _ (Nat.le_refl _) (x0.trans x2) g2 hlk, fin acc S2 H2 x2 g2 h2⟩
    · exact h2.elim
end
end DL

namespace DL
open PySem PySem.Spec PyProof.Rows L2

theorem hu80 {k : Nat} {A : Around} (hr : Room k A) : A.units + 80 < cLine := by
  have := hr.un
  omega
section
variable {X : Cx} {W : XW X.K} {a b c tg : Expr} {ma mb mc : EM} {pos : Pos}
noncomputable def eLC (cc : Bool) (im : IM) (g : GM) (t : TM) (e : EM) (own : List Nat) : EM := fun rho S => (im rho S).bind fun w => (noE (lcM w.1.lk g t e own rho w.1.xs w.2 [])).bind fun r => lcEnd cc r.1 r.2
structure PDTs (X : Cx) (W : XW X.K) (ifs : List Expr) (m : TM) : Prop where
  ts : PTs X ifs (tOfT X.K W m)
theorem pts_n : PDTs X W [] tTr := ⟨⟨fun pins s sg H Q I h => by
  obtain ⟨ph, S, rho, g, so, q⟩ := h
  exact pts_nil.run pins s sg H Q I (q ph H (Ext.refl _ _) g)⟩⟩
theorem pd_lc (cc : Bool) {elt iter : Expr} {ifs : List Expr} {scope : Scope} {own : List (Str × Nat)} {is : List Nat} {im : IM} {g : GM} {t : TM} {e : EM} (hc : X.calm = true) (hN : X.N.Nodup) (hi : PID X W tg iter im) (ok : BlkOk X.N X.env.scope scope own)
    (hg : ∀ (s : Shared) (H : Hp) (C : Addr) (cl : List (Str × Addr)) (fp : List Addr), PGD (Blk X scope s H C cl fp) (XW.none X.K) is tg g) (ht : ∀ (s : Shared) (H : Hp) (C : Addr) (cl : List (Str × Addr)) (fp : List Addr), PDTs (Blk X scope s H C cl fp) (XW.none X.K) ifs t)
    (he : ∀ (s : Shared) (H : Hp) (C : Addr) (cl : List (Str × Addr)) (fp : List Addr), PD (Blk X scope s H C cl fp) (XW.none X.K) elt e) (hown : ∀ i ∈ is, i ∈ own.map (·.2) := by decide) (hs : ∀ x, foldedSetIterable iter X.env x = pure x := by intro _; rfl) :
    PD X W (.ListComp elt [⟨tg, iter, ifs, 0⟩] scope pos) (eLC cc im g t e (own.map (·.2))) := by
  obtain ⟨ti, pi, si⟩ := hi.ex
  exact ⟨_, pe_lc (g := tOfG X.K (XW.none X.K) is g) (tt := tOfT X.K (XW.none X.K) t) (te := tOf X.K (XW.none X.K) e) hc hN pi ok (fun s H C cl fp => (hg s H C cl fp).pg) (fun s H C cl fp => (ht s H C cl fp).ts) (fun s H C cl fp => (he s H C cl fp).pe) hs, lc_snd hown si⟩
def OpM (X : Cx) (W : XW X.K) (r : V → List V → Hp → VK → Prop) (g : SV → List SV → Store → Res (SV × Store)) : Prop := ∀ (ph : List Addr) (S : Store) (H : Hp) (x : V) (a : SV) (xs : List V) (as : List SV) (Q : VK), Good X.K ph H S → DenS X.K ph H x a → DenSs X.K ph H xs as →
  holds (g a as S) (post X.K ph H Q) (W.rel ph H) → r x xs H Q
def tyS (T : String) (S : Store) (a : SV) : Bool := match a with
  | .fr (.str _) => T == "str"
  | x => T == "list" && (rdL S x).isSome
theorem tyS_ok {K : PySem.W.Frag} {ph : List Addr} {S : Store} {H : Hp} {v : V} {a : SV} {T : String} (g : Good K ph H S) (d : DenS K ph H v a) (h : tyS T S a = true) : tyV K T v H := by
  unfold tyS at h
  split at h
  · rw [d_str d]; exact (show T = "str" by simpa using h)
  · simp only [Bool.and_eq_true, beq_iff_eq] at h
    obtain ⟨xs, hx⟩ := Option.isSome_iff_exists.mp h.2
    obtain ⟨p, vs, rfl, h1, _⟩ := rdL_at g d hx
    exact .inl ⟨h.1, vs, .of h1⟩
abbrev GMt := SV → List SV → Store → Res (SV × Store)
def eMt (T : String) (g : GMt) (o : EM) (m : AM) : EM := fun rho S => (o rho S).bind fun x => if tyS T x.2 x.1 then (m rho x.2).bind fun y => g x.1 y.1 y.2 else .stuck
def eMt0 (T : String) (g : GMt) (o : EM) : EM := fun rho S => (o rho S).bind fun x => if tyS T x.2 x.1 then g x.1 [] x.2 else .stuck
theorem pd_mt {T id : String} {name : Str} {apos cpos : Pos} {e : Expr} {es : List Expr} {m : AM} {r : V → List V → Hp → VK → Prop} {g : GMt} (pa : PlainAttrs T) (slot : Slot T name id) (hty : typeOf (.builtin id) = pure (.type "method_descriptor")) (hm : MtR X id r) (hr : OpM X W r g) (ho : PD X W a ma) (ha : PDA X W (e :: es) m)
    (hbase : attributeBase a name X.env (eval a X.env) = eval a X.env := by rfl)
    (hfew : ((backTo cpos (starEach (e :: es) X.env)).all (fun x => !x.1) && (backToKw cpos (keywordEach [] X.env)).all (fun x => x.1.isSome)
      && decide ((e :: es).length + ([] : List Keyword).length + (if ([] : List Keyword).isEmpty then 0 else 1) < 30)) = true := by rfl)
    (hline : (apos.endLine == cpos.line) = true := by rfl) (hs : starEach (e :: es) X.env = (false, eval e X.env) :: starEach es X.env := by rfl) (hplain : (backTo cpos (starEach es X.env)).any (·.1) = false := by rfl) :
    PD X W (.Call (.Attribute a name apos) (e :: es) [] cpos) (eMt T g ma m) := by
  obtain ⟨to, po, so'⟩ := ho.ex
  obtain ⟨t, pt, st⟩ := ha.ex
  refine ⟨_, pe_bm pa slot hty hm po pt hbase hfew hline hs hplain, fun ph S H sg rho Q gd so h => so' ph S H sg rho _ gd so (holds_imp (holds_bind h) (fun x hx => ?_) fun _ _ _ q => q)⟩
  intro ph1 v1 H1 x1 g1 d1
  split at hx
  · rename_i ht
    refine ⟨tyS_ok g1 d1 ht, st ph1 x.2 H1 sg rho _ g1 (so.mono x1) (holds_imp (holds_bind hx) (fun y hy => ?_) fun e r s q => W.mono _ _ _ _ e r s x1 q)⟩
    intro ph2 vs H2 x2 g2 d2
    exact hr ph2 y.2 H2 v1 x.1 vs y.1 Q g2 (d1.mono x2) d2 (holds_imp hy (fun c => post.mono (x1.trans x2) c) fun e r s q => W.mono _ _ _ _ e r s (x1.trans x2) q)
  · exact hx.elim
def cellOf (S : Store) : SV → Option (Nat × List SV)
  | .cell k => match S[k]? with
    | some (.lst xs) => some (k, xs)
    | _ => none
  | _ => none
theorem cellOf_ok {K : PySem.W.Frag} {ph : List Addr} {S : Store} {H : Hp} {v : V} {a : SV} {k : Nat} {xs : List SV} (g : Good K ph H S) (d : DenS K ph H v a) (h : cellOf S a = some (k, xs)) : ∃ p vs, v = .ref p ∧ ph[k]? = some p ∧ H p = some (.lst vs) ∧ DenSs K ph H vs xs := by
  cases a with
  | fr _ => cases h
  | cell j =>
    obtain ⟨p, h1, rfl⟩ := d
    simp only [cellOf] at h
    split at h
    · rename_i ys hy
      simp only [Option.some.injEq, Prod.mk.injEq] at h
      obtain ⟨rfl, rfl⟩ := h
      obtain ⟨q, h3, vs, h4, h5⟩ := g.at hy
      rw [h1] at h3; cases h3
      exact ⟨p, vs, rfl, h1, h4, h5⟩
    · cases h
theorem put_ok {ph : List Addr} {S : Store} {H : Hp} {p : Addr} {k : Nat} {vs : List V} {xs : List SV} {v : V} {sv : SV} {Q : VK} {E : Exc → Slots → Store → Prop} (g : Good X.K ph H S) (hp : ph[k]? = some p) {vs0 : List V} (hH : H p = some (.lst vs0)) (d : DenSs X.K ph H vs xs) (dv : DenS X.K ph H v sv)
    (h : holds (Res.ok (sv, S.set k (.lst xs))) (post X.K ph H Q) E) : Q v (upd H p (.lst vs)) := by
  have e : Ext ph H ph (upd H p (.lst vs)) := Ext.write (List.mem_of_getElem? hp) (nofrz hH fun _ _ z => nomatch z)
  exact h ph v _ e (g.write hp ⟨vs, upd_same, DenSs.mono e d⟩) (dv.mono e)
def non : SV := .fr .non
theorem den_non {K : PySem.W.Frag} {ph : List Addr} {H : Hp} : DenS K ph H .non non := Den.non
def appendG : GMt := fun a as S => match cellOf S a, as with
  | some (k, xs), [y] => if xs.length < sizeLine then .ok (non, S.set k (.lst (xs ++ [y]))) else .stuck
  | _, _ => .stuck
theorem append_ok : OpM X W rAppend appendG := by
  intro ph S H x a xs as Q g d ds h
  unfold appendG at h
  split at h
  · rename_i k ys y hk
    obtain ⟨p, vs, rfl, h1, h2, h3⟩ := cellOf_ok g d hk
    obtain ⟨v, rfl, dv⟩ := one_of ds
    split at h
    · rename_i hz
      exact ⟨p, vs, v, rfl, rfl, h2, by rw [h3.length]; exact hz, put_ok g h1 h2 (paired_snoc h3 dv) den_non h⟩
    · exact h.elim
  · exact h.elim
theorem paired_rev {α β : Type} {P : α → β → Prop} : ∀ {l : List α} {m : List β}, Paired P l m → Paired P l.reverse m.reverse
  | _, _, .nil => .nil
  | _, _, .cons h t => by rw [List.reverse_cons, List.reverse_cons]; exact paired_snoc (paired_rev t) h
end
end DL

namespace DL
open PySem PySem.Spec PyProof.Rows L2

def Tells (n : Nat) (m : FnM) : Prop := ∀ ns : List Int, ns.length ≤ n → ∃ S' : Store, m [.fr (.scr (ns.map D.int))] [] = .ok (.val (.fr (.bl true)), S')
theorem sqL_nil {K : PySem.W.Frag} {H : Hp} {a : Addr} {vs : List V} (h : SqL K H a vs) : SqL K (hide [] H) a vs := by
  rcases h with (h | ⟨od, h⟩) | h
  · exact .inl (.inl (hide_of (by simp) h))
  · exact .inl (.inr ⟨od, hide_of (by simp) h⟩)
  · exact .inr h
theorem spD_law {K : PySem.W.Frag} {m : FnM} {n : Nat} (hm : Tells n m) {H : Hp} {a : Addr} {ns : List Int} (hl : ns.length ≤ n) (sq : SqL K H a (ns.map V.int)) (tb : TbOk K H) : spD K m [.ref a] H (fun v _ => v = .bl true) fun _ _ _ => False := by
  obtain ⟨S', e⟩ := hm ns hl
  refine ⟨[], [], [.fr (.scr (ns.map D.int))], ⟨List.nodup_nil, .nil, tb⟩, .cons ?_ .nil, ?_⟩
  · exact Den.scr (vs := ns.map V.int) (sqL_nil sq) (Dens.of_ints ns)
  · rw [e]
    intro v H' _ _ d
    exact d_bl (show DenS K [] H' v (.fr (.bl true)) from d)
def TBs (K : PySem.W.Frag) (mg : Str → Option Value) (base : Heap) : Prop := ∀ p ∈ lamDefs, knownT K p.1 = true → LamX.TabB base mg (He.cT K p.1).1 (He.cT K p.1).2
theorem tabL_mem {K : PySem.W.Frag} {p : He.Defn × Str} (h : p ∈ lamDefs) (hk : knownT K p.1 = true) : ((He.cT K p.1).2, p.2) ∈ tabL K := List.mem_map.mpr ⟨p, List.mem_filter.mpr ⟨h, hk⟩, rfl⟩
theorem tabL_of {K : PySem.W.Frag} {q : Addr × Str} (h : q ∈ tabL K) : ∃ p ∈ lamDefs, knownT K p.1 = true ∧ q = ((He.cT K p.1).2, p.2) := by
  obtain ⟨p, hp, e⟩ := List.mem_map.mp h
  obtain ⟨h1, h2⟩ := List.mem_filter.mp hp
  exact ⟨p, h1, h2, e.symm⟩
theorem told {P : Program} {w : World} {K : PySem.W.Frag} {mg mb : Str → Option Value} {k n : Nat} {x : Str} {m : FnM} {fl al : Addr} {sh : Shared} {us : List Value} {zs : List Int}
    (kin : K.In sh.heap) (gn : sh.heap.Ns mainGlobals mg) (bn : sh.heap.Ns builtinsNs mb) (bb : ∀ y : Str, y ≠ "__name__" → mb y = bootBuiltins y) (nl : sh.heap.NoLimit) (ng : sh.gens = #[]) (tE : TabsE K sh.heap)
    (hbm : ∃ (bm : Addr) (ob : Obj), mg "__builtins__" = some (.ref bm) ∧ bm ≠ builtinsNs ∧ sh.heap.get? bm = some ob ∧ ob.cls = .type "module" ∧ ob.dict = some builtinsNs ∧ ob.data = .plain)
    (at_ : sh.heap.get? al = some { cls := .type "list", data := .seq us.toArray }) (iv : IntsAre us zs) (lz : zs.length ≤ n) (hn : n ≤ sizeLine) (rm : Room k callerA) (hx : mg x = some (.ref fl))
    (F : ∀ base : Heap, K.In base → base.Ns mainGlobals mg → TBs K mg base → CalD P w K mg base k x m) (hm : Tells n m) :
    codeAny (model P w) callerA (.call (.ref fl) ⟨[.ref al], []⟩) (fun r s' => r = .ok (.ret (.bool true)) ∧ OldK sh.heap s'.heap ∧ s'.os = sh.os ∧ AllBare s'.gens) sh := by
  have rel := vals_ints iv
  have hlen := iv.length
  obtain ⟨tE, tI⟩ := tE
  let ts := (tabL K).map (·.1)
  have isT : ∀ b : Addr, b ∈ ts → sh.heap.get? b = some { cls := .none, data := .fields #[] } ∧ K.lookup b = none := fun b hb => by
    obtain ⟨p, hp, e⟩ := List.mem_map.mp hb
    rw [← e]
    exact tE p hp
  have aT : al ∉ ts := fun z => by
    have q := (isT al z).1
    rw [at_] at q
    cases (congrArg Obj.data (Option.some.inj q) : Data.seq us.toArray _ = Data.fields #[])
  have hC : ∀ p ∈ lamDefs, knownT K p.1 = true → (He.cT K p.1).2 ∈ ts ∧ PySem.W.CodeHd sh.heap (He.cT K p.1).1 (He.cT K p.1).2 := fun p hp hk => ⟨List.mem_map.mpr ⟨_, tabL_mem hp hk, rfl⟩, PySem.W.codeHd_of_K kin hk⟩
  obtain ⟨H, only, sql, hok, own, off, tabs⟩ : ∃ H : Hp, (∀ b, H b = none ∨ b ∈ ts ∨ ∃ o xs, H b = some (.frz o (.lst xs))) ∧ SqL K H al (zs.map V.int) ∧ HOk P w H sh.heap ∧ (∀ b, H b ≠ none → b = al ∨ b ∈ ts) ∧ (H al ≠ none → K.lookup al = none) ∧ (∀ b ∈ ts, H b = some (.tbl #[])) := by
    cases q : K.lookup al with
    | some o =>
      have e := kin al o q
      rw [at_] at e
      cases e
      refine ⟨fun b => if b ∈ ts then some (.tbl #[]) else none, fun b => ?_, .inr ⟨_, us.toArray, _, q, rfl, rfl, rfl, by rw [List.size_toArray, hlen]; omega, by simpa using rel⟩, fun b u z => ?_, fun b z => ?_, fun z => absurd (if_neg aT) z, fun b hb => if_pos hb⟩
      · by_cases hb : b ∈ ts
        · exact .inr (.inl hb)
        · exact .inl (if_neg hb)
      · by_cases hb : b ∈ ts
        · cases (if_pos hb).symm.trans z
          exact (isT b hb).1
        · cases (if_neg hb).symm.trans z
      · by_cases hb : b ∈ ts
        · exact .inr hb
        · exact absurd (if_neg hb) z
    | none =>
      refine ⟨fun b => if b = al then some (.frz { cls := .type "list", data := .seq us.toArray } (.lst (zs.map V.int))) else if b ∈ ts then some (.tbl #[]) else none, fun b => ?_, .inl (.inr ⟨{ cls := .type "list", data := .seq us.toArray }, if_pos rfl⟩), fun b u z => ?_, fun b z => ?_, fun _ => rfl, fun b hb => (if_neg (fun e : b = al => aT (e ▸ hb))).trans (if_pos hb)⟩
      · by_cases e : b = al
        · exact .inr (.inr ⟨_, _, if_pos e⟩)
        · by_cases hb : b ∈ ts
          · exact .inr (.inl hb)
          · exact .inl ((if_neg e).trans (if_neg hb))
      · by_cases e : b = al
        · have z2 := (if_pos e).symm.trans z
          cases z2
          subst e
          exact ⟨at_, by rw [List.length_map]; omega, us, _, rel, at_⟩
        · have z1 := (if_neg e).symm.trans z
          by_cases hb : b ∈ ts
          · cases (if_pos hb).symm.trans z1
            exact (isT b hb).1
          · cases (if_neg hb).symm.trans z1
      · by_cases e : b = al
        · exact .inl e
        · by_cases hb : b ∈ ts
          · exact .inr hb
          · exact absurd ((if_neg e).trans (if_neg hb)) z
  have noD : ∀ {b : Addr} {o : Obj}, sh.heap.get? b = some o → (∀ vs n, o.data ≠ .seq vs n) → o.data ≠ .fields #[] → H b = none := fun {b o} e h1 h2 => by
    cases q : H b with
    | none => rfl
    | some u =>
      rcases own b (by rw [q]; simp) with e' | e'
      · rw [e', at_] at e
        cases e
        exact (h1 _ _ rfl).elim
      · rw [(isT b e').1] at e
        cases e
        exact (h2 rfl).elim
  have plain_of : ∀ {b : Addr} {o : Obj} {es : Array DictEntry} {ep : Nat}, sh.heap.get? b = some o → o.data = .dict es ep → H b = none := fun {b o es ep} g dd => noD g (fun vs n z => by rw [dd] at z; cases z) (fun z => by rw [dd] at z; cases z)
  have hid_ns : ∀ {b : Addr} {f : Str → Option Value}, sh.heap.Ns b f → (hidT sh.heap H).Ns b f := fun {b f} ⟨o, es, ep, g, dd, rr⟩ => ⟨o, es, ep, hidT_get g (plain_of g dd), dd, rr⟩
  have kb : K.In (hidT sh.heap H) := fun b o g => hidT_get (kin b o g) (by
    cases q : H b with
    | none => rfl
    | some u =>
      rcases own b (by rw [q]; simp) with eb | eb
      · subst eb
        have := off (by rw [q]; simp)
        rw [this] at g; cases g
      · rw [(isT b eb).2] at g; cases g)
  have TB : TBs K mg (hidT sh.heap H) := fun p hp hk => by
    obtain ⟨hpt, hcd⟩ := hC p hp hk
    have hTp := (isT _ hpt).1
    refine ⟨PySem.W.codeHd_of_K kb hk, ?_, fun z => ?_⟩
    · obtain ⟨bm, ob, b1, b2, b3, b4, b5, b6⟩ := hbm
      have nG : bm ≠ mainGlobals := fun q => by
        obtain ⟨o, es, ep, e, hd, _⟩ := gn
        rw [q, e] at b3
        cases b3
        rw [hd] at b6
        cases b6
      have nP : bm ≠ (He.cT K p.1).2 := fun q => by
        rw [q, hTp] at b3
        cases b3
        cases b6
      refine ⟨bm, ob, b1, b2, nG, nP, hidT_get b3 (noD b3 (fun vs n z => ?_) fun z => ?_), b4, b5, b6⟩
      · rw [b6] at z
        cases z
      · rw [b6] at z
        cases z
    · obtain ⟨o, es, ep, e, hd, _⟩ := gn
      rw [z, hTp] at e
      cases e
      cases hd
  have md : Mod K mg (hidT sh.heap H) := ⟨kb, hid_ns gn, ⟨mb, hid_ns bn, bb⟩, by obtain ⟨c, h1, h2⟩ := nl; exact ⟨c, hid_ns h1, h2⟩⟩
  have ev : Env0 P w K mg (hidT sh.heap H) callerA [] sh H :=
    ⟨rfl, md, fun b o g => of_hidT g, Nat.le_of_eq (hidT_size _ _), trivial, fun b hb => (nomatch (show b ∈ ([] : List Addr) from hb)), hok, .of_eq ng⟩
  obtain ⟨f2, fd, ps, hx2, hkp, hbd, FF⟩ := (F _ kb (hid_ns gn) TB).ex
  rw [hx] at hx2; cases hx2
  have tb : TbOk K H := ⟨fun p hp => .nil (tabs _ (List.mem_map.mpr ⟨p, hp, rfl⟩)), tI⟩
  have sp := spD_law (K := K) hm lz sql tb
  have hp : ps.length = 1 := (FF.len _ _ _ _ sp).symm
  have hb := hbd sh [.ref al] kin (by rw [hp]; rfl)
  refine codeAny_mono (FF.run callerA [] sh H ⟨[.ref al], []⟩ [.ref al] [.ref al] _ _ rfl rm ev hb (.cons rfl .nil) sp) fun r s' hr => ?_
  cases r with
  | error e =>
    obtain ⟨_, _, _, _, _, _, _, _, _, _, _, _, z⟩ := hr
    exact z.elim
  | ok fo =>
    cases fo with
    | next => exact False.elim hr
    | brk => exact False.elim hr
    | cont => exact False.elim hr
    | ret u =>
      obtain ⟨v, H2, eo, br, un, hok2, rv, q⟩ := hr
      subst q
      obtain rfl : u = Value.bool true := rv
      have key : ∀ b o, b ∉ ts → sh.heap.get? b = some o → s'.heap.get? b = some o := fun b o nb g => by
        rcases only b with z | z | ⟨o2, xs, z⟩
        · exact un.keep b o g z (by intro y; cases y) (by simp)
        · exact absurd z nb
        · have g1 := (hok b _ z).1
          have g2 := (hok2 b _ (un.frzs b o2 _ z)).1
          rw [g] at g1; cases g1
          exact g2
      have grown : ∀ b ∈ ts, ∃ more : Array Value, s'.heap.get? b = some { cls := .none, data := .fields more } := fun b hb => by
        obtain ⟨more, z⟩ := un.tbls b #[] (tabs b hb)
        exact ⟨_, hok2 b _ z⟩
      refine ⟨rfl, ⟨fun b o e => ?_, fun b o e => ?_⟩, eo, br⟩
      · by_cases hb : b ∈ ts
        · obtain ⟨q, hq, eq⟩ := List.mem_map.mp hb
          obtain ⟨p, hp, hk, e2⟩ := tabL_of hq
          obtain ⟨more, hm⟩ := grown b hb
          have hTp := (isT b hb).1
          rw [hTp] at e
          cases e
          have eb : (He.cT K p.1).2 = b := by rw [← eq, e2]
          have hcd := (hC p hp hk).2
          rw [eb] at hcd
          exact .inr (.inl ⟨(hcd.tab hTp).isCodeTable, rfl, #[], more, rfl, by rw [Array.empty_append]; exact hm⟩)
        · exact .inl (key b o hb e)
      · by_cases hb : b ∈ ts
        · obtain ⟨more, hm⟩ := grown b hb
          exact ⟨_, hm⟩
        · exact ⟨o, key b o hb e⟩
theorem walkD {l : PySem.W.OpenLaw} {n k : Nat} {q : Program} {loose : List Str} {XP : (Str → Option Value) → Heap → Prop} {YP : World → Heap → Prop} {d : DefRec} {m : FnM}
    (h1 : l.most = some n) (h2 : n ≤ sizeLine) (h3 : d.params.defaults = []) (rm : Room k callerA)
    (F : ∀ (w : World) (mg : Str → Option Value) (h : Heap), YP w h → h.Ns mainGlobals mg → ∃ K : PySem.W.Frag, K.In h ∧ TabsE K h ∧ ∀ base : Heap, K.In base → base.Ns mainGlobals mg → TBs K mg base → CalD l.prog w K mg base k d.name m)
    (hm : Tells n m) : PySem.W.WalkO q loose XP YP l.row.toRowW d [] (fun f vs => PySem.call f vs) := by
  refine Att.attach_call h1 h3 fun w sa sh mg mb fl o pm cd doc al us zs G Y _ _ _ hx ho hz hlz hng => ?_
  obtain ⟨K, kin, tE, FF⟩ := F w mg sh.heap Y G.T.g
  exact told kin G.T.g G.T.b G.T.builtins G.T.nolimit hng tE G.T.bmain ho hz hlz h2 rm hx FF hm
end DL

namespace DL
open PySem PySem.Spec PyProof.Rows L2

section
variable {prog : Program} {w : World} {A : Around} {E : Value → Shared → Prop} {s : Shared} {K : PySem.W.Frag}
end
def keyI : SV → Option Int
  | .fr (.tup (.int i :: _)) => some i
  | _ => none
def keys : List SV → Option (List (SV × Int))
  | [] => some []
  | x :: xs => match keyI x, keys xs with
    | some i, some r => some ((x, i) :: r)
    | _, _ => none
def sortF (ps : List (SV × Int)) : List SV := (ps.mergeSort fun a b => decide (a.2 ≤ b.2)).map (·.1)
def sortG (c : Bool) (a : SV) (S : Store) : Res (SV × Store) := match rdS S a with
  | some xs => match keys xs with
    | some ps => newL0 c (sortF ps) S
    | none => .stuck
  | none => .stuck
section
variable {X : Cx} {W : XW X.K} {a : Expr} {ma : EM} {pos : Pos}
def eSortF (c : Bool) (m : EM) : EM := fun rho S => (m rho S).bind fun x => sortG c x.1 x.2
end
end DL

namespace DL
open PySem PySem.Spec PyProof.Rows L2

def insOf (S : Store) : SV → Option (Str × List (Str × SV))
  | .fr (.ins n fs) => some (n, fs.map fun p => (p.1, .fr p.2))
  | .cell k => match S[k]? with
    | some (.ins n fs) => some (n, fs)
    | _ => none
  | _ => none
section
variable {K : PySem.W.Frag} {ph : List Addr} {H : Hp} {S : Store}
theorem denSF_of : ∀ {vs : List (Str × V)} {fs : List (Str × D)}, DenF K (hide ph H) vs fs → DenSF K ph H vs (fs.map fun p => (p.1, SV.fr p.2))
  | _, _, .nil => .nil
  | _, _, .cons a r => .cons ⟨rfl, a⟩ (denSF_of r)
theorem insOf_ok {v : V} {x : SV} {n : Str} {fs : List (Str × SV)} (g : Good K ph H S) (d : DenS K ph H v x) (h : insOf S x = some (n, fs)) : ∃ a dx vs, v = .ref a ∧ H a = some (.ins (He.ga K n) dx vs) ∧ DenSF K ph H vs fs := by
  cases x with
  | fr d' =>
    cases d' with
    | ins m gs =>
      simp only [insOf, Option.some.injEq, Prod.mk.injEq] at h
      obtain ⟨rfl, rfl⟩ := h
      cases d with
      | ins s r => exact ⟨_, _, _, rfl, (hide_some s).2, denSF_of r⟩
    | _ => simp [insOf] at h
  | cell k =>
    obtain ⟨p, h1, rfl⟩ := d
    simp only [insOf] at h
    split at h
    · rename_i m gs hk
      simp only [Option.some.injEq, Prod.mk.injEq] at h
      obtain ⟨rfl, rfl⟩ := h
      obtain ⟨q, h3, dx, vs, h4, h5⟩ := g.at hk
      rw [h1] at h3; cases h3
      exact ⟨p, dx, vs, rfl, h4, h5⟩
    · cases h
def putS (f : Str) (v : SV) : List (Str × SV) → List (Str × SV)
  | [] => [(f, v)]
  | (g, x) :: r => if g = f then (g, v) :: r else (g, x) :: putS f v r
end
def fldG (ns : List Str) (f : Str) (x : SV) (S : Store) : Res (SV × Store) := match insOf S x with
  | some (n, fs) => if n ∈ ns then (match fs.lookup f with
    | some y => .ok (y, S)
    | none => .stuck) else .stuck
  | none => .stuck
def eFld (ns : List Str) (f : Str) (o : EM) : EM := fun rho S => (o rho S).bind fun x => fldG ns f x.1 x.2
section
variable {X : Cx} {W : XW X.K} {o e : Expr} {mo m : EM} {pos : Pos} {ns : List Str} {f : Str}
def sFldM (ns : List Str) (f : Str) (o m : EM) : SM := fun rho S => (m rho S).bind fun y => (o rho y.2).bind fun x => match x.1 with
  | .cell k => match x.2[k]? with
    | some (.ins n fs) => if n ∈ ns ∧ fs.length < 1000 then .ok (.nx, rho, x.2.set k (.ins n (putS f y.1 fs))) else .stuck
    | _ => .stuck
  | _ => .stuck
end

structure FunAt (P : Program) (w : World) (K : PySem.W.Frag) (mg : Str → Option Value) (base : Heap) (k : Nat) (f : Addr) (m : FnM) : Prop where
  ex : ∃ fd ps, PySem.W.keepIn K (.ref f) = true ∧ PySem.W.isFn K (.ref f) = true ∧ Binds K fd ps [] ∧ FnD P w K mg base k f fd ps m
section
variable {X : Cx} {pins : List (Addr × Obj)} {s : Shared} {σ : L2.St} {H : Hp} {A : Around} {k : Nat} {f : Addr} {m : FnM}
theorem runD {us : List Value} {vs : List V} {Q : VK} (F : FunAt X.prog X.w X.K X.mg X.base k f m) (e0 : Env0 X.prog X.w X.K X.mg X.base A X.stack s H) (hr : Room k A) (hg : A.guards = some []) (I : Inv X pins σ H s) (r : Vals vs us) (h : spD X.K m vs H Q E0) :
    wpAny (model X.prog X.w) A (call (.ref f) us) (EP X pins σ Q) X.xe s := by
  obtain ⟨fd, ps, _, _, hb, FF⟩ := F.ex
  have hl : (us ++ []).length = ps.length := by rw [List.append_nil, ← r.length]; exact FF.len _ _ _ _ h
  have bt := hb s us I.kIn hl
  rw [List.append_nil] at bt
  refine wpAny_call (codeAny_mono (FF.run A X.stack s H ⟨us, []⟩ us vs Q E0 hg hr e0 bt r h) fun r s' hq => ?_)
  cases r with
  | error e => exact passL pins σ H s e s' I hq
  | ok fl =>
    cases fl with
    | ret u => exact I.after hq
    | next => exact False.elim hq
    | brk => exact False.elim hq
    | cont => exact False.elim hq
end
end DL

namespace DL
open PySem PySem.Spec PyProof.Rows L2

abbrev Tbl := List (Str × FnM)
structure MetD (P : Program) (w : World) (K : PySem.W.Frag) (mg : Str → Option Value) (base : Heap) (k : Nat) (nm n : Str) (m : FnM) : Prop where
  ex : ∃ f, Cls K (He.ga K n) ∧ Meth K (He.ga K n) nm f ∧ FunAt P w K mg base k f m
section
variable {P : Program} {w : World} {K : PySem.W.Frag} {mg : Str → Option Value} {base : Heap} {j k : Nat} {nm n : Str} {m : FnM} {tbl : Tbl}
theorem FnD.mono {f : Addr} {fd : FuncData} {ps : List Str} (F : FnD P w K mg base j f fd ps m) (h : j ≤ k) : FnD P w K mg base k f fd ps m :=
  ⟨F.len, fun A outer s H args us vs Q E hg hr => F.run A outer s H args us vs Q E hg (hr.mono h)⟩
theorem FunAt.mono {f : Addr} (F : FunAt P w K mg base j f m) (h : j ≤ k) : FunAt P w K mg base k f m := by
  obtain ⟨fd, ps, a, b, c, d⟩ := F.ex
  exact ⟨fd, ps, a, b, c, d.mono h⟩
theorem MetD.mono (h : MetD P w K mg base j nm n m) (hk : j ≤ k) : MetD P w K mg base k nm n m := by
  obtain ⟨f, a, b, c⟩ := h.ex
  exact ⟨f, a, b, c.mono hk⟩
theorem tbl_mem {n : Str} {m : FnM} : ∀ {tbl : Tbl}, tbl.lookup n = some m → (n, m) ∈ tbl
  | [], h => by simp at h
  | (a, x) :: r, h => by
    rw [List.lookup_cons] at h
    cases q : n == a with
    | true =>
      rw [q] at h
      cases h
      have e : n = a := by simpa using q
      subst e
      exact List.mem_cons_self
    | false => rw [q] at h; exact List.mem_cons_of_mem _ (tbl_mem h)
end
def metOf (tbl : Tbl) (nm : Str) (S : Store) (x : SV) : Option FnM := match insOf S x with
  | some (n, fs) => if (fs.lookup nm).isNone then tbl.lookup n else none
  | none => none
def eMeth (cc : Bool) (tbl : Tbl) (nm : Str) (o : EM) (m : AM) : EM := fun rho S => (o rho S).bind fun x => match metOf tbl nm x.2 x.1 with
  | some f => (m rho x.2).bind fun y => (noX (f (x.1 :: y.1) y.2)).bind (back cc)
  | none => .stuck
section
variable {X : Cx} {W : XW X.K} {o e : Expr} {es : List Expr} {mo : EM} {m : AM} {pos apos : Pos} {nm : Str} {tbl : Tbl} {k : Nat}
def eMeth0 (cc : Bool) (tbl : Tbl) (nm : Str) (o : EM) : EM := fun rho S => (o rho S).bind fun x => match metOf tbl nm x.2 x.1 with
  | some f => (noX (f [x.1] x.2)).bind (back cc)
  | none => .stuck
end

def allFrF : List (Str × SV) → Option (List (Str × D))
  | [] => some []
  | (n, .fr d) :: r => (allFrF r).map ((n, d) :: ·)
  | (_, .cell _) :: _ => none
def mkEnd (c : Bool) (k : Nat) (r : RV × Store) : Res (SV × Store) := match r.1 with
  | .val (.fr .non) => match r.2[k]? with
    | some (.ins n fs) => if c then .ok (.cell k, r.2) else if (r.2.take k).all (Cell.below k) then match allFrF fs with
      | some ds => .ok (.fr (.ins n ds), r.2.take k)
      | none => .stuck else .stuck
    | _ => .stuck
  | _ => .stuck
def eMake (c : Bool) (n : Str) (f : FnM) (m : AM) : EM := fun rho S => (m rho S).bind fun y => (noX (f (.cell y.2.length :: y.1) (y.2 ++ [.ins n []]))).bind (mkEnd c y.2.length)
section
variable {X : Cx} {W : XW X.K} {e : Expr} {es : List Expr} {m : AM} {pos p : Pos} {n : Str} {k : Nat} {f : FnM}
end
end DL

namespace DL
open PySem PySem.Spec PyProof.Rows L2

section
variable {X : Cx} {W : XW X.K} {pos : Pos}
def intsOf : List SV → Option (List Int)
  | [] => some []
  | .fr (.int i) :: r => (intsOf r).map (i :: ·)
  | _ => none
def tyN (S : Store) : SV → Option String
  | .fr .non => some "NoneType"
  | .fr (.bl _) => some "bool"
  | .fr (.int _) => some "int"
  | .fr (.str _) => some "str"
  | .fr (.tup _) => some "tuple"
  | .fr (.lst _) => some "list"
  | .fr (.scr _) => some "list"
  | .fr (.dct _) => some "dict"
  | .cell k => match S[k]? with
    | some (.lst _) => some "list"
    | some (.dic _) => some "dict"
    | some (.dit _) => some "dict"
    | _ => none
  | _ => none
def kin (a b : String) : Option Bool := if a ∈ ["NoneType", "bool", "int", "str", "tuple", "list", "dict"] ∧ b ∈ ["bool", "int", "str", "tuple", "list", "dict"] then some (a == b || (a == "bool" && b == "int")) else none
theorem kin_ok {a b : String} {r : Bool} (h : kin a b = some r) : kitB a b = some r := by
  unfold kin at h
  split at h
  · rename_i hm
    cases h
    obtain ⟨h1, h2⟩ := hm
    have key : ∀ x ∈ ["NoneType", "bool", "int", "str", "tuple", "list", "dict"], ∀ y ∈ ["bool", "int", "str", "tuple", "list", "dict"], kitB x y = some (x == y || (x == "bool" && y == "int")) := by decide +kernel
    exact key a h1 b h2
  · cases h
theorem sqL_ty {K : PySem.W.Frag} {H : Hp} {a : Addr} {xs : List V} (h : SqL K H a xs) : TyX K H (.ref a) (.type "list") := by
  rcases h with (h | ⟨o, h⟩) | ⟨o, its, n, hk, hc, _⟩
  · exact .base (.lst h)
  · exact .base (.frz h)
  · exact .kList hk hc
theorem sqT_ty {K : PySem.W.Frag} {H : Hp} {a : Addr} {xs : List V} (h : SqT K H a xs) : TyX K H (.ref a) (.type "tuple") := by
  rcases h with (h | ⟨o, h⟩) | ⟨o, its, n, hk, hc, _⟩
  · exact .base (.tup h)
  · exact .fTuple h
  · exact .kTuple hk hc
theorem tyN_ok {K : PySem.W.Frag} {ph : List Addr} {S : Store} {H : Hp} {v : V} {x : SV} {t : String} (g : Good K ph H S) (d : DenS K ph H v x) (h : tyN S x = some t) : TyX K H v (.type t) := by
  unfold tyN at h
  split at h
  · cases h; rw [d_non d]; exact .base .non
  · cases h; rw [d_bl d]; exact .base (.bl _)
  · cases h; rw [d_int d]; exact .base (.int _)
  · cases h; rw [d_str d]; exact .base (.str _)
  · cases h
    obtain ⟨p, vs, rfl, s, r⟩ := d_tup d
    exact sqT_ty (hide_sub.sqT s)
  · cases h
    obtain ⟨p, vs, rfl, s, r⟩ := rdS_ok g d rfl
    exact sqL_ty s
  · cases h
    obtain ⟨p, vs, rfl, s, r⟩ := rdS_ok g d rfl
    exact sqL_ty s
  · cases h
    cases (show Den K (hide ph H) v _ from d) with
    | dct e r => exact .base (.dK (hide_some e).2)
  · split at h
    · rename_i k xs hk
      cases h
      obtain ⟨p, vs, rfl, s, r⟩ := rdS_ok (xs := xs) g d (by simp [rdS, rdL, hk])
      exact sqL_ty s
    · rename_i k kvs hk
      cases h
      obtain ⟨p, hp, rfl⟩ := d
      obtain ⟨vs, h4, h5⟩ := paired_at g.cells hp hk
      exact .base (.dK h4)
    · rename_i k kvs hk
      cases h
      obtain ⟨p, hp, rfl⟩ := d
      obtain ⟨vs, h4, h5⟩ := paired_at g.cells hp hk
      exact .base (.dT h4)
    · cases h
  · cases h
def isiG : GA := fun as S => match as with
  | [x, .fr (.ty b)] => match (tyN S x).bind fun a => kin a b with
    | some r => okV (.bl r) S
    | none => .stuck
  | _ => .stuck
theorem isi_ok : OpA X W (rIsi X.K) isiG := by
  intro ph S H xs as Q g d h
  unfold isiG at h
  split at h
  · rename_i x b
    obtain ⟨v, u, rfl, dv, du⟩ := two_of d
    split at h
    · rename_i r hr
      obtain ⟨a, ha, hk⟩ := Option.bind_eq_some_iff.mp hr
      have e : u = .ty b := by cases (show Den X.K (hide ph H) u (.ty b) from du); rfl
      subst e
      exact ⟨v, .ty b, .type a, .type b, r, rfl, .ty b, tyN_ok g dv ha, kit_ty (kin_ok hk), fin_v g (.bl _) h⟩
    · exact h.elim
  · exact h.elim
theorem pd_ty {x : Str} {T : String} (hm : X.mg x = none) (hv : bootBuiltins x = some (.type T)) (hg : Gl X x := by rfl) (hn : x ≠ "__name__" := by decide) (hdb : (x == ("__debug__" : Str)) = false := by decide) : PD X W (.Name x pos) (eC (.ty T)) :=
  pd_const ⟨fun pins s σ H Q I h => ld_blt I hg hm hv ⟨.ty T, H, I, rfl, h⟩ hn hdb⟩ fun _ => .ty _
end
end DL

namespace DL
open PySem PySem.Spec PyProof.Rows L2

structure OpD (P : Program) (w : World) (K : PySem.W.Frag) (mg : Str → Option Value) (base : Heap) (k : Nat) (nm n : Str) (m : FnM) : Prop where
  ex : ∃ f, PySem.W.findIn K (.ref (He.ga K n)) nm = some (some (.ref f)) ∧ PySem.W.selfFirst K (He.ga K n) = true ∧ FunAt P w K mg base k f m
def OpsD (P : Program) (w : World) (K : PySem.W.Frag) (mg : Str → Option Value) (base : Heap) (k : Nat) (nm : Str) (tbl : Tbl) : Prop := ∀ p ∈ tbl, OpD P w K mg base k nm p.1 p.2
section
variable {P : Program} {w : World} {K : PySem.W.Frag} {mg : Str → Option Value} {base : Heap} {j k : Nat} {nm n : Str} {m : FnM} {tbl : Tbl}
theorem OpD.mono (h : OpD P w K mg base j nm n m) (hk : j ≤ k) : OpD P w K mg base k nm n m := by
  obtain ⟨f, a, b, c⟩ := h.ex
  exact ⟨f, a, b, c.mono hk⟩
theorem ops_nil : OpsD P w K mg base k nm [] := fun _ h => nomatch h
end
section
variable {X : Cx} {W : XW X.K} {pins : List (Addr × Obj)} {s : Shared} {σ : L2.St} {H : Hp} {k : Nat} {tbl : Tbl} {a b : Expr} {ma mb : EM} {pos : Pos}
def rOwnIn (K : PySem.W.Frag) (tbl : Tbl) (ng : Bool) : R2 := fun x y H Q => ∃ b n dx vs f, y = .ref b ∧ H b = some (.ins (He.ga K n) dx vs) ∧ tbl.lookup n = some f ∧ spD K f [.ref b, x] H (fun v H' => ∃ r, v = .bl r ∧ Q (.bl (if ng then !r else r)) H') E0
theorem truthy_bl {Q : VK} {v : Value} {s' : Shared} {E : Value → Shared → Prop} (ng : Bool) (h : EP X pins σ (fun v H' => ∃ r, v = .bl r ∧ Q (.bl (if ng then !r else r)) H') v s') :
    wpAny (model X.prog X.w) X.A (truthy v) (fun b => EP X pins σ Q (.bool (if ng then !b else b))) E s' := by
  obtain ⟨x, H', I, rx, r, rfl, q⟩ := h
  obtain rfl : v = Value.bool r := rx
  exact wpAny_truthy_bool ⟨.bl (if ng then !r else r), H', I, rfl, q⟩
theorem op_ownIn (T : OpsD X.prog X.w X.K X.mg X.base k "__contains__" tbl) (hr : Room k X.A) (hgd : X.A.guards = some []) : OpR X (compareOp .In) (rOwnIn X.K tbl false) := by
  intro pins s σ H x y v u Q I rx ry h
  obtain ⟨b, n, dx, vs, f, rfl, ha, hf, q⟩ := h
  obtain rfl : u = Value.ref b := ry
  obtain ⟨g, hfi, hsf, F⟩ := (T _ (tbl_mem hf)).ex
  obtain ⟨mA, J, _⟩ := ins_get I.hok ha
  obtain ⟨od, J, _⟩ := J.look
  obtain ⟨m, hF⟩ := I.fr
  obtain ⟨_, _, _, hfn, _⟩ := F.ex
  exact PySem.W.in_K hF I.ok.mod.kin J hfi hfn (wpAny_mono (runD (us := [.ref b, v]) (vs := [.ref b, x]) F I.env0 hr hgd I (.cons rfl (.cons rx .nil)) q) (fun v' s' hq => truthy_bl false hq) fun _ _ e => e)
def blEnd (ng : Bool) (r : RV × Store) : Res (SV × Store) := match r.1 with
  | .val (.fr (.bl b)) => okV (.bl (if ng then !b else b)) r.2
  | _ => .stuck
theorem blEnd_ok {ph : List Addr} {H : Hp} {Q : VK} {ng : Bool} {r : RV × Store} {E : Exc → Slots → Store → Prop} (h : holds (blEnd ng r) (post X.K ph H Q) E) : postF X.K ph H (fun v H' => ∃ r, v = .bl r ∧ Q (.bl (if ng then !r else r)) H') r := by
  intro v H2 x2 g2 d2
  obtain ⟨rv, S2⟩ := r
  unfold blEnd at h
  dsimp only at *
  split at h
  · rename_i b
    exact ⟨b, d_bl (show DenS X.K ph H2 v (.fr (.bl b)) from d2), h ph _ H2 x2 g2 (Den.bl _)⟩
  · exact h.elim
def ownInG (tbl : Tbl) (ng : Bool) : G2 := fun x b S => match insOf S b with
  | some (n, _) => (match tbl.lookup n with
    | some f => (noX (f [b, x] S)).bind (blEnd ng)
    | none => .stuck)
  | _ => .stuck
theorem ownIn_ok (ng : Bool) : Op2 X W (rOwnIn X.K tbl ng) (ownInG tbl ng) := by
  intro ph S H x y a b Q g da db h
  unfold ownInG at h
  split at h
  · rename_i n fs h1
    obtain ⟨p, dx, vs, rfl, e1, _⟩ := insOf_ok g db h1
    split at h
    · rename_i f hf
      exact ⟨p, n, dx, vs, f, rfl, e1, hf, ph, S, [b, a], g, .cons db (.cons da .nil), noX_ok (holds_imp (holds_bind h) (fun r hr => blEnd_ok hr) fun _ _ _ q => q)⟩
    · exact h.elim
  · exact h.elim
end
end DL

namespace DLB
open PySem
section
variable {prog : Program} {w : World} {A : Around} {E : Value → Shared → Prop} {s : Shared}
end
end DLB

namespace DL
open PySem PySem.Spec PyProof.Rows L2
section
variable {X : Cx} {W : XW X.K} {pins : List (Addr × Obj)} {s : Shared} {σ : L2.St} {H : Hp} {k : Nat} {tbl : Tbl} {a b : Expr} {ma mb : EM} {pos : Pos}
def inLG (ng : Bool) : G2 := fun x b S => match snap S x, snap S b with
  | some d, some (.lst ds) => if plain d && plain (.lst ds) then okV (.bl (if ng then !(ds.any fun z => deq z d) else ds.any fun z => deq z d)) S else .stuck
  | some d, some (.scr ds) => if plain d && plain (.lst ds) then okV (.bl (if ng then !(ds.any fun z => deq z d) else ds.any fun z => deq z d)) S else .stuck
  | _, _ => .stuck
theorem any_pys (d : PyData) : ∀ ds : List D, ((pys ds).any fun z => PyData.eqv z d) = ds.any fun z => PyData.eqv (py z) d
  | [] => rfl
  | z :: ds => by rw [pys, List.any_cons, List.any_cons, any_pys d ds]
def inG (tbl : Tbl) (ng : Bool) : G2 := fun x b S => match insOf S b with
  | some _ => ownInG tbl ng x b S
  | none => inLG ng x b S
theorem inL_ok {ph : List Addr} {S : Store} {H : Hp} {x y : V} {a b : SV} {ng : Bool} {Q : VK} {E : Exc → Slots → Store → Prop} (g : Good X.K ph H S) (da : DenS X.K ph H x a) (db : DenS X.K ph H y b) (h : holds (inLG ng a b S) (post X.K ph H Q) E) :
    ∃ d ds, Dp X.K H x d ∧ Dp X.K H y (.list ds) ∧ SeqAt.shaped d = true ∧ SeqAt.shaped (.list ds) = true ∧ Q (.bl (if ng then !(ds.any fun z => PyData.eqv z d) else ds.any fun z => PyData.eqv z d)) H := by
  unfold inLG at h
  split at h
  · rename_i d ds h1 h2
    split at h
    · rename_i hp
      simp only [Bool.and_eq_true, plain] at hp
      have q1 := dp_of hp.1.1 (snap_ok g da h1)
      have q2 := dp_of hp.2.1 (snap_ok g db h2)
      have hs := hp.2.2
      simp only [py] at q2 hs
      refine ⟨py d, pys ds, q1, q2, hp.1.2, hs, ?_⟩
      rw [any_pys]
      exact fin_v g (.bl _) h
    · exact h.elim
  · rename_i d ds h1 h2
    split at h
    · rename_i hp
      simp only [Bool.and_eq_true, plain] at hp
      have q1 := dp_of hp.1.1 (snap_ok g da h1)
      have e : isP (.scr ds) = true := by simpa only [isP] using hp.2.1
      have q2 := dp_of e (snap_ok g db h2)
      have hs := hp.2.2
      simp only [py] at q2 hs
      refine ⟨py d, pys ds, q1, q2, hp.1.2, hs, ?_⟩
      rw [any_pys]
      exact fin_v g (.bl _) h
    · exact h.elim
  · exact h.elim
theorem in_ok : Op2 X W (fun x y H Q => rInD X.K x y H Q ∨ rOwnIn X.K tbl false x y H Q) (inG tbl false) := by
  intro ph S H x y a b Q g da db h
  unfold inG at h
  split at h
  · exact .inr (ownIn_ok false ph S H x y a b Q g da db h)
  · exact .inl (inL_ok (ng := false) g da db h)
theorem pt_in (T : OpsD X.prog X.w X.K X.mg X.base k "__contains__" tbl) (hr : Room k X.A) (hgd : X.A.guards = some []) (hu : X.A.units + 65 < cLine) (ha : PD X W a ma) (hb : PD X W b mb) (hm : behindInMarks .In b = false := by first | exact nomark _ | rfl) : PDT X W (.Compare a [.In] [b] pos) (tB (e2 (inG tbl false) ma mb)) :=
  pt_2 ((op_inD hu).or (op_ownIn T hr hgd)) in_ok ha hb hm
end
end DL

namespace DL
open PySem PySem.Spec PyProof.Rows L2

section
variable {X : Cx} {W : XW X.K} {e : Expr} {es : List Expr} {m : AM} {pos p apos : Pos} {nm n : Str} {k : Nat} {f : FnM}
theorem pd_cls (hm : X.mg n = some (.ref (He.ga X.K n))) (hg : Gl X n := by rfl) (hdb : (n == ("__debug__" : Str)) = false := by decide) : PD X W (.Name n pos) (eC (.cls n)) :=
  pd_const (pe_glob hg hm (v := .ref (He.ga X.K n)) rfl hdb) fun _ => .cls n
theorem d_cls {K : PySem.W.Frag} {F : Hp} {v : V} {n : Str} (h : Den K F v (.cls n)) : v = .ref (He.ga K n) := by cases h; rfl
end
end DL

namespace DL
open PySem PySem.Spec PyProof.Rows L2

section
variable {P : Program} {w : World} {K : PySem.W.Frag} {mg : Str → Option Value} {base : Heap}
end
section
variable {fs : List Fc} {fn : List He5.DefA} {K : PySem.W.Frag}
theorem SaysF.fact (c : SaysF fs fn K) (i : Nat) {f : Fc} (h : fs[i]? = some f := by rfl) : f K = true := by
  have q : (obsF fs fn K).1 = true := by rw [show obsF fs fn K = He5.valA fn from c]; rfl
  exact List.all_eq_true.mp (Bool.and_eq_true_iff.mp q).1 f (List.mem_of_getElem? h)
theorem SaysF.def_ (c : SaysF fs fn K) (i : Nat) {d : He5.DefA} (h : fn[i]? = some d := by rfl) : ∃ fd, L2.FunD K d.name d.qual d.params d.body d.scope (d.dvs K) (d.kws K) (d.at_ K) fd := by
  have q : (obsF fs fn K).1 = true := by rw [show obsF fs fn K = He5.valA fn from c]; rfl
  have q2 : (obsF fs fn K).2 = (He5.valA fn).2 := by rw [show obsF fs fn K = He5.valA fn from c]
  have q3 : (fn.map fun d => He5.fnA K (d.at_ K))[i]? = (fn.map He5.DefA.val)[i]? := by rw [show fn.map (fun d => He5.fnA K (d.at_ K)) = fn.map He5.DefA.val from q2]
  rw [List.getElem?_map, List.getElem?_map, h] at q3
  exact He5.DefA.funD (Option.some.inj q3) (List.all_eq_true.mp (Bool.and_eq_true_iff.mp q).2 d (List.mem_of_getElem? h))
end
section
variable {P : Program} {w : World} {K : PySem.W.Frag} {mg : Str → Option Value} {base h : Heap} {k : Nat} {n m f x y : Str} {g : FnM}
end
theorem u65 {k : Nat} {A : Around} (hr : Room k A) : A.units + 65 < cLine := by
  have := hr.un
  omega
end DL

namespace DL
open PySem PySem.Spec PyProof.Rows L2

def Held (K : PySem.W.Frag) (ph : List Addr) (H : Hp) (lk : Store → Prop) (a : Addr) (ds : List D) : Prop :=
  ∀ (ph' : List Addr) (H' : Hp) (S' : Store), Ext ph H ph' H' → Good K ph' H' S' → lk S' → ∃ vs, SqL K H' a vs ∧ DenSs K ph' H' vs (ds.map SV.fr)
def srcM (S : Store) : SV → Option (List D × (Store → Prop))
  | .fr (.tup _) => none
  | .fr d => ((rdS S (.fr d)).bind allFr).map fun ds => (ds, fun _ => True)
  | .cell k => (rdL S (.cell k)).bind fun xs => (allFr xs).map fun ds => (ds, fun S' => S'[k]? = some (.lst xs))
def enF (n : Nat) : List D → List SV
  | [] => []
  | d :: ds => .fr (.tup [.int (n : Nat), d]) :: enF (n + 1) ds
def iEn (m : AM) : IM := fun rho S => (m rho S).bind fun x => match x.1 with
  | [a] => match srcM x.2 a with
    | some (ds, lk) => .ok (⟨enF 0 ds, lk⟩, x.2)
    | none => .stuck
  | _ => .stuck
def ziF (ds es : List D) : List SV := List.zipWith (fun d e => SV.fr (.tup [d, e])) ds es
def iZi (m : AM) : IM := fun rho S => (m rho S).bind fun x => match x.1 with
  | [a, b] => match srcM x.2 a, srcM x.2 b with
    | some (ds, lk), some (es, lk') => .ok (⟨ziF ds es, fun S => lk S ∧ lk' S⟩, x.2)
    | _, _ => .stuck
  | _ => .stuck
section
variable {X : Cx} {W : XW X.K} {a b : Expr} {pos p tpos : Pos} {elts : List Expr} {kk : Nat} {m : AM}
end
end DL

namespace DL
open PySem PySem.Spec PyProof.Rows L2

section
variable {P : Program} {w : World} {A : Around} {E : Value → Shared → Prop} {s : Shared}
abbrev bare (w : World) : Obj := { cls := .type "set", dict := none, data := .set #[] 0 (.fresh 0 0 (!w.params.followText "set-order")) }
end
end DL

namespace DL
open PySem PySem.Spec PyProof.Rows L2

def insU (k : Int) : List Int → List Int
  | [] => [k]
  | x :: xs => if k < x then k :: x :: xs else if k = x then x :: xs else x :: insU k xs
def asc (ns : List Int) : List Int := ns.foldr insU []
theorem nodup_le : ∀ {xs ys : List Int}, xs.Nodup → (∀ x ∈ xs, x ∈ ys) → xs.length ≤ ys.length
  | [], _, _, _ => Nat.zero_le _
  | x :: xs, ys, h, k => by
    obtain ⟨h1, h2⟩ := List.nodup_cons.mp h
    have hx := k x List.mem_cons_self
    have l := List.length_erase_of_mem hx
    have q := nodup_le (ys := ys.erase x) h2 fun y hy => by
      have ne : y ≠ x := fun e => by subst e; exact h1 hy
      exact (List.mem_erase_of_ne ne).mpr (k y (List.mem_cons_of_mem _ hy))
    have p := List.length_pos_of_mem hx
    simp only [List.length_cons]
    omega
def rSetL (X : Cx) : List V → Hp → VK → Prop := fun xs H Q => ∃ (l : Addr) (ns : List Int), xs = [V.ref l] ∧ SqL X.K H l (ns.map V.int) ∧ ns.length < 4000 ∧
  ∀ (p : Addr) (n : Nat), n = (asc ns).length → H p = none → Q (.ref p) (upd H p (SetO X.w p (fun j => decide (j ∈ ns)) n))
theorem vals_ints : ∀ {us : List Value} {ns : List Int}, IntsAre us ns → Vals (ns.map V.int) us
  | _, _, .nil => .nil
  | _, _, .cons _ t r => .cons ⟨t, rfl⟩ (vals_ints r)
section
variable {X : Cx} {W : XW X.K} {a : Expr} {m : EM} {p p2 q pos : Pos}
def sortSetG (c : Bool) (x : SV) (S : Store) : Res (SV × Store) := match (rdS S x).bind intsOf with
  | some ns => if ns.length < 4000 ∧ (asc ns).length < 4000 then newL0 c ((asc ns).map fun i => SV.fr (.int i)) S else .stuck
  | none => .stuck
def eSortSet (c : Bool) (m : EM) : EM := fun rho S => (m rho S).bind fun x => sortSetG c x.1 x.2
end
end DL

namespace DL
open PySem PySem.Spec PyProof.Rows L2

section
variable {X : Cx} {W : XW X.K} {pos : Pos}
def gUl (n : Nat) (m : GMs) : GM := fun x rho S => match rdS S x with
  | some xs => if xs.length = n then m xs rho S else .stuck
  | none => .stuck
def sPar3 (i j l : Nat) (m : AM) : SM := fun rho S => (m rho S).bind fun x => match x.1 with
  | [u, v, w] => .ok (.nx, ((rho.set i (some u)).set j (some v)).set l (some w), x.2)
  | _ => .stuck
end
end DL

namespace DL
open PySem PySem.Spec PyProof.Rows L2

section
variable {X : Cx} {W : XW X.K} {e : Expr} {es : List Expr} {m : AM} {t : TA} {pos p apos : Pos} {nm n : Str} {k : Nat} {f : FnM}
def eCmA (cc : Bool) (n : Str) (f : FnM) (m : AM) : EM := fun rho S => (m rho S).bind fun y => (noX (f (.fr (.cls n) :: y.1) y.2)).bind (back cc)
end
section
variable {X : Cx} {W : XW X.K} {a : Expr} {m : EM} {k : Nat} {p1 p2 p3 pos : Pos}
def revG (c : Bool) (x : SV) (S : Store) : Res (SV × Store) := match rdS S x with
  | some xs => newL0 c xs.reverse S
  | none => .stuck
def eRev (c : Bool) (m : EM) : EM := fun rho S => (m rho S).bind fun x => revG c x.1 x.2
end
end DL

namespace DL
open PySem PySem.Spec PyProof.Rows L2
def isBG (n : Bool) : G2 := fun a b S => match a, b with
  | .fr (.bl x), .fr (.bl y) => okV (.bl (if n then !decide (x = y) else decide (x = y))) S
  | _, _ => .stuck
section
variable {X : Cx} {W : XW X.K}
variable {a b : Expr} {ma mb : EM} {pos : Pos}
end
theorem r_isB (n x y : Bool) (S : Store) : isBG n (.fr (.bl x)) (.fr (.bl y)) S = .ok (.fr (.bl (if n then !decide (x = y) else decide (x = y))), S) := id rfl
end DL

namespace DL
open PySem PySem.Spec PyProof.Rows L2
section
variable {P : Program} {w : World} {K : PySem.W.Frag} {mg : Str → Option Value} {base : Heap}
end
def fillN (f : FnM) : FnM := fun as S => f (as ++ [.fr .non]) S
def k_cw1 (n : Nat) (f : FnM) (cc : Bool) (xs : List SV) (y : List SV × Store) : Res (SV × Store) := if xs.length = n ∧ y.1.length = 1 then (noX (f (xs ++ y.1) y.2)).bind (back cc) else .stuck
def k_cw (n : Nat) (f : FnM) (cc : Bool) (mk : AM) (rho : Slots) (x : List SV × Store) : Res (SV × Store) := (mk rho x.2).bind (k_cw1 n f cc x.1)
def eCallW (n : Nat) (f : FnM) (cc : Bool) (m mk : AM) : EM := fun rho S => (m rho S).bind (k_cw n f cc mk rho)
theorem r_cw (n : Nat) (f : FnM) (cc : Bool) (m mk : AM) (rho : Slots) (S : Store) : eCallW n f cc m mk rho S = (m rho S).bind (k_cw n f cc mk rho) := id rfl
theorem s_cw (n : Nat) (f : FnM) (cc : Bool) (mk : AM) (rho : Slots) (xs : List SV) (S : Store) : k_cw n f cc mk rho (xs, S) = (mk rho S).bind (k_cw1 n f cc xs) := id rfl
theorem s_cw1 {n : Nat} {xs : List SV} (h : xs.length = n) (f : FnM) (cc : Bool) (y : SV) (S : Store) : k_cw1 n f cc xs ([y], S) = (noX (f (xs ++ [y]) S)).bind (back cc) := if_pos ⟨h, rfl⟩
theorem r_fill (f : FnM) (as : List SV) (S : Store) : fillN f as S = f (as ++ [.fr .non]) S := id rfl
section
variable {X : Cx} {W : XW X.K} {x : Str} {p pos : Pos} {e : Expr} {es : List Expr} {m : AM}
end
section
variable {K : PySem.W.Frag} {x qual key : Str} {params : Arguments} {body : List Stmt} {scope : Scope} {f : Addr} {fd : FuncData} {ps : List Str}
end
end DL

namespace DL
open PySem PySem.Spec PyProof.Rows L2
section
variable {X : Cx} {W : XW X.K}
end
end DL

namespace DLN
open PySem PySem.W PySem.Calls PyProof.Rows
section
variable {prog : Program} {w : World} {A : Around} {E : Value → Shared → Prop} {s : Shared} {K : Frag} {x C L f : Addr} {h₀ : Heap} {m : Str → Option Value} {ox : Obj} {od : Option Obj} {name : Str} {b tb : Value}
end
end DLN
namespace DL
open PySem PySem.Spec PyProof.Rows L2
section
variable {X : Cx} {W : XW X.K} {pins : List (Addr × Obj)} {s : Shared} {σ : L2.St} {H : Hp} {k : Nat} {tbl : Tbl} {ns : List Str} {a b : Expr} {ma mb : EM} {pos : Pos}
end
end DL

namespace DL
open PySem PySem.Spec PyProof.Rows L2
section
variable {K : PySem.W.Frag} {ph : List Addr} {H : Hp} {S : Store} {n : Nat}
end
section
variable {X : Cx} {W : XW X.K}
end
end DL

namespace DL
open PySem PySem.Spec PyProof.Rows L2
section
variable {X : Cx} {W : XW X.K} {a b : Expr} {ma mb : EM} {pos p p2 pos2 : Pos}
end
end DL

namespace DL
open PySem PySem.Spec PyProof.Rows L2

section
variable {κ : Type} [DecidableEq κ] {α : Type}
def lookK (kvs : List (κ × α)) (k : κ) : Option α := (kvs.find? fun kv => decide (kv.1 = k)).map (·.2)
def setK (kvs : List (κ × α)) (k : κ) (v : α) : List (κ × α) :=
  if (kvs.any fun kv => decide (kv.1 = k)) = true then kvs.map (fun kv => if kv.1 = k then (kv.1, v) else kv) else kvs ++ [(k, v)]
theorem anyK_ok {K : PySem.W.Frag} {ph : List Addr} {H : Hp} (k : κ) : ∀ {vs : List (κ × V)} {xs : List (κ × SV)}, DenSK K ph H vs xs → (vs.any fun kv => decide (kv.1 = k)) = (xs.any fun kv => decide (kv.1 = k))
  | _, _, .nil => rfl
  | _, _, .cons h t => by simp only [List.any_cons]; rw [h.1, anyK_ok k t]
theorem repl_ok {K : PySem.W.Frag} {ph : List Addr} {H : Hp} (k : κ) {v : V} {x : SV} (d : DenS K ph H v x) : ∀ {vs : List (κ × V)} {xs : List (κ × SV)}, DenSK K ph H vs xs →
    DenSK K ph H (vs.map fun kv => if kv.1 = k then (kv.1, v) else kv) (xs.map fun kv => if kv.1 = k then (kv.1, x) else kv)
  | _, _, .nil => .nil
  | _, _, .cons (a := p) (b := q) h t => by
    simp only [List.map_cons]
    refine .cons ?_ (repl_ok k d t)
    have e := h.1
    by_cases c : p.1 = k
    · rw [if_pos c, if_pos (e ▸ c)]
      exact ⟨e, d⟩
    · rw [if_neg c, if_neg (e ▸ c)]
      exact h
theorem setK_ok {K : PySem.W.Frag} {ph : List Addr} {H : Hp} (k : κ) {v : V} {x : SV} (d : DenS K ph H v x) {vs : List (κ × V)} {xs : List (κ × SV)} (h : DenSK K ph H vs xs) : DenSK K ph H (putK vs k v) (setK xs k x) := by
  unfold putK setK
  rw [anyK_ok k h]
  split
  · exact repl_ok k d h
  · exact Paired.snoc h ⟨rfl, d⟩
end
def keyOf : D → Option Key
  | .int i => some (.inl i)
  | .str x => some (.inr x)
  | _ => none
theorem keyOf_ok {K : PySem.W.Frag} {F : Hp} {v : V} {d : D} {k : Key} (h : Den K F v d) (e : keyOf d = some k) : v = kV k := by
  cases h <;> simp [keyOf] at e <;> subst e <;> rfl
section
variable {X : Cx} {W : XW X.K} {a b c : Expr} {ma mb mc : EM} {pos : Pos}
def eDN (m : Bool) : EM := fun _ S => if m then .ok (.cell S.length, S ++ [.dic []]) else .ok (.fr (.dct []), S)
theorem pd_dn (m : Bool) : PD X W (.Dict [] [] pos) (eDN m) := by
  refine ⟨_, pe_dnewK, fun ph S H sg rho Q g so h p hp => ?_⟩
  unfold eDN at h
  cases m with
  | true =>
    have e : Ext ph H (ph ++ [p]) (upd H p (.dK [])) := Ext.cell hp
    exact h (ph ++ [p]) (.ref p) _ e (g.cell hp ⟨[], upd_same, .nil⟩) ⟨p, by rw [← g.len]; simp, rfl⟩
  | false =>
    have e : Ext ph H ph (upd H p (.dK [])) := Ext.fresh hp
    exact h ph (.ref p) _ e (g.fresh hp) (.dct (vs := []) (hide_of (g.new hp) upd_same) .nil)
def putD (o i x : SV) (S : Store) : Res Store := match o, i with
  | .cell j, .fr d => match S[j]? with
    | some (.dic kvs) => match keyOf d with
      | some k => if kvs.length < sizeLine then .ok (S.set j (.dic (setK kvs k x))) else .stuck
      | none => .stuck
    | _ => .stuck
  | _, _ => .stuck
def rPutD : V → V → V → Hp → (Hp → Prop) → Prop := fun o i v H Q => ∃ a H', o = .ref a ∧ DPut H a i v H' ∧ Q H'
theorem set_dict (hu : X.A.units + 80 < cLine) : PSet X rPutD := by
  intro pins s σ H o i v ov iv u Q I ro ri rv ⟨a, H', e, g, q⟩
  subst e
  cases (show ov = Value.ref a from ro)
  exact d_setItem (by omega) I g ri rv fun s' I' => ⟨H', I', q⟩
theorem putD_ok {ph : List Addr} {S : Store} {H : Hp} {o i v : V} {so si sv : SV} {Q : Hp → Prop} {E : Exc → Slots → Store → Prop} (g : Good X.K ph H S) (d1 : DenS X.K ph H o so) (d2 : DenS X.K ph H i si) (d3 : DenS X.K ph H v sv)
    (h : holds (putD so si sv S) (fun S' => ∀ ph' H', Ext ph H ph' H' → Good X.K ph' H' S' → Q H') E) : rPutD o i v H Q := by
  unfold putD at h
  split at h
  · rename_i j d
    split at h
    · rename_i kvs hj
      split at h
      · rename_i k hk
        split at h
        · rename_i hl
          obtain ⟨p, h1, rfl⟩ := d1
          obtain ⟨q, h3, vs, h4, h5⟩ := g.at hj
          rw [h1] at h3; cases h3
          have ei := keyOf_ok d2 hk
          have hm : p ∈ ph := List.mem_of_getElem? h1
          have e : Ext ph H ph (upd H p (.dK (putK vs k v))) := Ext.write hm (nofrz h4 fun _ _ z => nomatch z)
          refine ⟨p, _, rfl, by rw [ei]; exact DPut.k h4 (by rw [h5.length]; exact hl), h ph _ e (g.write h1 ⟨_, upd_same, ?_⟩)⟩
          exact setK_ok k (d3.mono e) (DenSK.mono e h5)
        · exact h.elim
      · exact h.elim
    · exact h.elim
  · exact h.elim
def gPt (mo mi : EM) : GM := fun x rho S => (mo rho S).bind fun o => (mi rho o.2).bind fun i => (putD o.1 i.1 x i.2).bind fun S' => .ok (rho, S')
theorem pgd_put (hu : X.A.units + 80 < cLine) (ha : PD X W a ma) (hb : PD X W b mb) (hass : ∀ v, assign (.Subscript a b pos) X.env v = (do
      let ov ← holding [v] (eval a X.env)
      let iv ← holding [v, ov] (eval b X.env)
      standAt pos
      holding [v, ov, iv] (setItem ov iv v)
      release [v, ov, iv] []) := by intro _; rfl) : PGD X W [] (.Subscript a b pos) (gPt ma mb) := by
  obtain ⟨ta, pa, sa⟩ := ha.ex
  obtain ⟨tb, pb, sb⟩ := hb.ex
  refine ⟨_, pg_sub pa pb (set_dict hu) hass, fun ph S H sg rho v x Q g so d h => sa ph S H sg rho _ g so (holds_imp (holds_bind h) (fun o ho => ?_) fun _ _ _ q => q)⟩
  intro ph1 v1 H1 x1 g1 d1
  refine sb ph1 o.2 H1 sg rho _ g1 (so.mono x1) (holds_imp (holds_bind ho) (fun i hi => ?_) fun e r s q => W.mono _ _ _ _ e r s x1 q)
  intro ph2 v2 H2 x2 g2 d2
  refine putD_ok g2 (d1.mono x2) d2 (d.mono (x1.trans x2)) (holds_imp (holds_bind hi) (fun S3 h3 => ?_) fun e r s q => q)
  intro ph3 H3 x3 g3
  have x13 := x1.trans (x2.trans x3)
  exact h3 ph3 sg H3 x13 g3 (so.mono x13) ⟨rfl, fun _ _ => rfl⟩
abbrev DM := Slots → Store → Res (List (Key × SV) × Store)
def postD (K : PySem.W.Frag) (ph : List Addr) (H : Hp) (Q : List (V × V) → Hp → Prop) : List (Key × SV) × Store → Prop := fun r =>
  ∀ ph' vs H', Ext ph H ph' H' → Good K ph' H' r.2 → DenSK K ph' H' vs r.1 → Q (vs.map fun kv => (kV kv.1, kv.2)) H'
structure PDP (X : Cx) (W : XW X.K) (pos : Pos) (ks : List (Option Expr)) (es : List Expr) (m : DM) : Prop where
  ex : ∃ t, PPs X pos ks es t ∧ ∀ (ph : List Addr) (S : Store) (H : Hp) (sg : L2.St) (rho : Slots) (Q : List (V × V) → Hp → Prop), Good X.K ph H S → SlotsOk X.K ph H sg rho →
    holds (m rho S) (postD X.K ph H Q) (W.rel ph H) → tPairs t sg H Q
def dN : DM := fun _ S => .ok ([], S)
def dC (mk mv : EM) (r : DM) : DM := fun rho S => (mk rho S).bind fun x => (mv rho x.2).bind fun y => (r rho y.2).bind fun z => match x.1 with
  | .fr d => match keyOf d with
    | some k => .ok ((k, y.1) :: z.1, z.2)
    | none => .stuck
  | _ => .stuck
theorem pdp_n : PDP X W pos [] [] dN := ⟨[], pps_nil, fun ph S H sg rho Q g so h => h ph [] H (Ext.refl _ _) g .nil⟩
theorem pdp_c {ks : List (Option Expr)} {es : List Expr} {mr : DM} (ha : PD X W a ma) (hb : PD X W b mb) (hr : PDP X W pos ks es mr) : PDP X W pos (some a :: ks) (b :: es) (dC ma mb mr) := by
  obtain ⟨ta, pa, sa⟩ := ha.ex
  obtain ⟨tb, pb, sb⟩ := hb.ex
  obtain ⟨tr, pr, sr⟩ := hr.ex
  refine ⟨_, pps_cons pa pb pr, fun ph S H sg rho Q gd so h => ?_⟩
  show ta sg H fun x H1 => tb sg H1 fun y H2 => tPairs tr sg H2 fun ps H3 => Q ((x, y) :: ps) H3
  refine sa ph S H sg rho _ gd so (holds_imp (holds_bind h) (fun x hx => ?_) fun _ _ _ q => q)
  intro ph1 v1 H1 x1 g1 d1
  refine sb ph1 x.2 H1 sg rho _ g1 (so.mono x1) (holds_imp (holds_bind hx) (fun y hy => ?_) fun e r s q => W.mono _ _ _ _ e r s x1 q)
  intro ph2 v2 H2 x2 g2 d2
  refine sr ph2 y.2 H2 sg rho _ g2 ((so.mono x1).mono x2) (holds_imp (holds_bind hy) (fun z hz => ?_) fun e r s q => W.mono _ _ _ _ e r s (x1.trans x2) q)
  intro ph3 vs H3 x3 g3 d3
  obtain ⟨xv, S1⟩ := x
  dsimp only at *
  split at hz
  · split at hz
    · rename_i k hk
      have e : v1 = kV k := keyOf_ok d1 hk
      subst e
      exact hz ph3 ((k, v2) :: vs) H3 (x1.trans (x2.trans x3)) g3 (.cons ⟨rfl, d2.mono x3⟩ d3)
    · exact hz.elim
  · exact hz.elim
def mergeS (kvs more : List (Key × SV)) : List (Key × SV) := more.foldl (fun acc kv => setK acc kv.1 kv.2) kvs
theorem mergeS_ok {K : PySem.W.Frag} {ph : List Addr} {H : Hp} : ∀ {more : List (Key × V)} {xs : List (Key × SV)} {vs : List (Key × V)} {kvs : List (Key × SV)}, DenSK K ph H more xs → DenSK K ph H vs kvs → DenSK K ph H (mergeK vs more) (mergeS kvs xs)
  | _, _, _, _, .nil, r => r
  | _, _, vs, kvs, .cons (a := p) (b := q) h t, r => by
    show DenSK K ph H (mergeK (putK vs p.1 p.2) _) (mergeS (setK kvs q.1 q.2) _)
    rw [h.1]
    exact mergeS_ok t (setK_ok q.1 h.2 r)
def eDs (m : DM) : EM := fun rho S => (m rho (S ++ [.dic []])).bind fun r => if r.1.length ≤ 15 then (match r.2[S.length]? with
  | some (.dic []) => .ok (.cell S.length, r.2.set S.length (.dic (mergeS [] r.1)))
  | _ => .stuck) else .stuck
theorem pd_ds {ks : List (Option Expr)} {es : List Expr} {m : DM} (h : PDP X W pos ks es m) (hall : ks.all (·.isSome) = true := by rfl) (hl : ks.length = es.length := by rfl) (h0 : ks ≠ [] := by exact List.cons_ne_nil _ _)
    (h15 : ks.length ≤ 15 := by decide) : PD X W (.Dict ks es pos) (eDs m) := by
  obtain ⟨t, p, s⟩ := h.ex
  refine ⟨_, pe_disp p hall hl h0 h15, fun ph S H sg rho Q g so hh q hq => ?_⟩
  have e0 : Ext ph H (ph ++ [q]) (upd H q (.dK [])) := Ext.cell hq
  have g0 : Good X.K (ph ++ [q]) (upd H q (.dK [])) (S ++ [.dic []]) := g.cell hq ⟨[], upd_same, .nil⟩
  refine s (ph ++ [q]) _ _ sg rho _ g0 (so.mono e0) (holds_imp (holds_bind hh) (fun r hr => ?_) fun e r s w => W.mono _ _ _ _ e r s e0 w)
  intro ph1 vs H1 x1 g1 d1
  obtain ⟨kvs, S1⟩ := r
  dsimp only at *
  split at hr
  · rename_i h15'
    split at hr
    · rename_i hk
      have hq1 : ph1[S.length]? = some q := by
        obtain ⟨ps, rfl, _⟩ := x1.pre
        rw [← g.len]; simp
      obtain ⟨q', h3, us, h4, h5⟩ := g1.at hk
      rw [hq1] at h3; cases h3
      cases h5
      have hm : q ∈ ph1 := List.mem_of_getElem? hq1
      have ew : Ext ph1 H1 ph1 (upd H1 q (.dK (mergeK [] vs))) := Ext.write hm (nofrz h4 fun _ _ z => nomatch z)
      refine ⟨h4, vs, rfl, by rw [d1.length]; exact h15', ?_⟩
      refine hr ph1 (.ref q) _ (e0.trans (x1.trans ew)) (g1.write hq1 ⟨_, upd_same, ?_⟩) ⟨q, hq1, rfl⟩
      exact mergeS_ok (DenSK.mono ew d1) .nil
    · exact hr.elim
  · exact hr.elim
end
end DL

namespace DL
open PySem PySem.Spec PyProof.Rows L2

def pyKy : Key → PyData
  | .inl i => .int i
  | .inr x => .str x
mutual
def pyX : D → PyData
  | .non => .none
  | .bl b => .bool b
  | .int i => .int i
  | .str x => .str x
  | .tup ds => .tuple (pyXs ds)
  | .lst ds => .list (pyXs ds)
  | .scr ds => .list (pyXs ds)
  | .ty _ => .none
  | .ref _ => .none
  | .ins _ _ => .none
  | .cls _ => .none
  | .exn _ _ _ _ => .none
  | .dct kvs => .dict (pyXk kvs)
def pyXs : List D → List PyData
  | [] => []
  | d :: ds => pyX d :: pyXs ds
def pyXk : List (Key × D) → List (PyData × PyData)
  | [] => []
  | (k, d) :: r => (pyKy k, pyX d) :: pyXk r
end
mutual
def isX : D → Bool
  | .non | .bl _ | .int _ | .str _ => true
  | .tup ds => isXs ds
  | .lst ds => isXs ds
  | .scr ds => isXs ds
  | .dct kvs => isXk kvs
  | .ty _ | .ref _ | .ins _ _ | .cls _ | .exn _ _ _ _ => false
def isXs : List D → Bool
  | [] => true
  | d :: ds => isX d && isXs ds
def isXk : List (Key × D) → Bool
  | [] => true
  | (_, d) :: r => isX d && isXk r
end
mutual
inductive RD (h : Heap) : Value → PyData → Prop
  | none : RD h .none .none
  | bool (b) : RD h (.bool b) (.bool b)
  | int (i t) : RD h (.int i t) (.int i)
  | str (x t) : RD h (.str x t) (.str x)
  | list {a o vs n xs} : h.get? a = some o → o.cls = .type "list" → o.data = .seq vs n → RDs h vs.toList xs → RD h (.ref a) (.list xs)
  | tuple {a o vs n xs} : h.get? a = some o → o.cls = .type "tuple" → o.data = .seq vs n → RDs h vs.toList xs → RD h (.ref a) (.tuple xs)
  | dict {a o es n kvs} : h.get? a = some o → o.cls = .type "dict" → o.data = .dict es n → (a == sysModules) = false → RDs h (es.toList.map (·.key)) (kvs.map (·.1)) → RDs h (es.toList.map (·.val)) (kvs.map (·.2)) → RD h (.ref a) (.dict kvs)
inductive RDs (h : Heap) : List Value → List PyData → Prop
  | nil : RDs h [] []
  | cons {v vs d ds} : RD h v d → RDs h vs ds → RDs h (v :: vs) (d :: ds)
end
section
variable {h : Heap}
mutual
theorem RD.reads : ∀ {v : Value} {d : PyData}, RD h v d → ∃ as, Reads h v d as
  | _, _, .none => ⟨_, .none⟩
  | _, _, .bool b => ⟨_, .bool b⟩
  | _, _, .int i t => ⟨_, .int i t⟩
  | _, _, .str x t => ⟨_, .str x t⟩
  | _, _, .list h1 h2 h3 h4 => let ⟨_, r⟩ := h4.reads; ⟨_, .list h1 h2 h3 r⟩
  | _, _, .tuple h1 h2 h3 h4 => let ⟨_, r⟩ := h4.reads; ⟨_, .tuple h1 h2 h3 r⟩
  | _, _, .dict h1 h2 h3 _ h5 h6 => let ⟨_, r1⟩ := h5.reads; let ⟨_, r2⟩ := h6.reads; ⟨_, .dict h1 h2 h3 r1 r2⟩
theorem RDs.reads : ∀ {v : List Value} {d : List PyData}, RDs h v d → ∃ as, ReadsAll h v d as
  | _, _, .nil => ⟨_, .nil⟩
  | _, _, .cons a r => let ⟨_, x⟩ := a.reads; let ⟨_, y⟩ := r.reads; ⟨_, .cons x y⟩
end
end
section
variable {X : Cx} {pins : List (Addr × Obj)} {σ : L2.St} {H : Hp} {s : Shared}
mutual
theorem rd_x (I : Inv X pins σ H s) : ∀ {d : D} {v : V} {u : Value}, isX d = true → Den X.K H v d → RelV v u → RD s.heap u (pyX d)
  | .non, _, _, _, .non, r => by cases r; simp only [pyX]; exact .none
  | .bl b, _, _, _, .bl _, r => by cases r; simp only [pyX]; exact .bool b
  | .int i, _, _, _, .int _, r => by obtain ⟨t, rfl⟩ := r; simp only [pyX]; exact .int i t
  | .str x, _, _, _, .str _, r => by obtain ⟨t, rfl⟩ := r; simp only [pyX]; exact .str x t
  | .tup ds, _, _, hx, .tup hs q, r => by
    cases r
    obtain ⟨its, rv, ⟨o, ho, hc, n, hd⟩, _⟩ := I.tuple (.inl (.inl hs))
    simp only [pyX]
    exact .tuple ho hc hd (rds_x I (by simpa only [isX] using hx) q rv)
  | .lst ds, _, _, hx, .lst hs q, r => by
    cases r
    obtain ⟨its, rv, ⟨o, n, ho, hc, _, hd⟩, _⟩ := I.list (SqL.of hs)
    simp only [pyX]
    exact .list ho hc hd (rds_x I (by simpa only [isX] using hx) q rv)
  | .scr ds, _, _, hx, .scr hs q, r => by
    cases r
    obtain ⟨its, rv, ⟨o, n, ho, hc, _, hd⟩, _⟩ := I.list hs
    simp only [pyX]
    exact .list ho hc hd (rds_x I (by simpa only [isX] using hx) q rv)
  | .dct kvs, _, _, hx, .dct e q, r => by
    cases r
    obtain ⟨_, hd, vs, r0, o, es, ep, h1, h2, h3, _, h5, _⟩ := dk_of I.hok e
    obtain ⟨p1, p2⟩ := rdk_x I (by simpa only [isX] using hx) q r0 h5
    simp only [pyX]
    exact .dict h1 h2.1 h3 hd p1 p2
  | .ty _, _, _, hx, _, _ => by simp [isX] at hx
  | .ref _, _, _, hx, _, _ => by simp [isX] at hx
  | .ins _ _, _, _, hx, _, _ => by simp [isX] at hx
  | .cls _, _, _, hx, _, _ => by simp [isX] at hx
  | .exn _ _ _ _, _, _, hx, _, _ => by simp [isX] at hx
theorem rds_x (I : Inv X pins σ H s) : ∀ {ds : List D} {vs : List V} {us : List Value}, isXs ds = true → Dens X.K H vs ds → Vals vs us → RDs s.heap us (pyXs ds)
  | [], _, _, _, .nil, r => by cases r; simp only [pyXs]; exact .nil
  | d :: ds, _, _, hx, .cons a q, r => by
    cases r with
    | cons r1 r2 =>
      simp only [isXs, Bool.and_eq_true] at hx
      simp only [pyXs]
      exact .cons (rd_x I hx.1 a r1) (rds_x I hx.2 q r2)
theorem rdk_x (I : Inv X pins σ H s) : ∀ {kvs : List (Key × D)} {vs : List (Key × V)} {us : List (Key × Value)} {es : List DictEntry}, isXk kvs = true → DenK X.K H vs kvs → KV vs us → Pairs (mixKind X.prog X.w) es us →
    RDs s.heap (es.map (·.key)) ((pyXk kvs).map (·.1)) ∧ RDs s.heap (es.map (·.val)) ((pyXk kvs).map (·.2))
  | [], _, _, _, _, .nil, r, p => by
    cases r
    cases p
    simp only [pyXk]
    exact ⟨.nil, .nil⟩
  | (k, d) :: kvs, _, _, _, hx, .cons a q, r, p => by
    cases r with
    | cons r1 r2 =>
      cases p with
      | cons p1 p2 p3 =>
        simp only [isXk, Bool.and_eq_true] at hx
        obtain ⟨t1, t2⟩ := rdk_x I hx.2 q r2 p3
        simp only [pyXk, List.map_cons]
        refine ⟨.cons ?_ t1, .cons (by rw [p2]; exact rd_x I hx.1 a r1.2) t2⟩
        have ek := r1.1
        simp only at ek
        rw [← ek] at p1
        rcases keyIs_shape p1 with ⟨i, t, e1, e2⟩ | ⟨x, t, e1, e2⟩
        · rw [e1, e2]; exact .int i t
        · rw [e1, e2]; exact .str x t
end
end
section
variable {prog : Program} {w : World} {h₀ : Heap}
mutual
theorem rk_x : ∀ {v : Value} {d : PyData}, RD h₀ v d → d.showable = true → d.shown.length ≤ sizeLine → ∃ bs, ReadAtMost h₀ d.depth bs ∧ ReprK prog w bs h₀ d.depth v d.shown
  | _, _, .none, _, _ => ⟨[], (fun _ h => nomatch h), by simp only [PyData.shown]; exact .of_is ReprIs.none _ _ _⟩
  | _, _, .bool b, _, _ => ⟨[], (fun _ h => nomatch h), by simp only [PyData.shown]; exact .of_is (ReprIs.bool b) _ _ _⟩
  | _, _, .int i t, hs, _ => ⟨[], (fun _ h => nomatch h), by simp only [PyData.shown]; exact .of_is (ReprIs.int t (by simpa [PyData.showable] using hs)) _ _ _⟩
  | _, _, .str x t, _, hz => ⟨[], (fun _ h => nomatch h), by simp only [PyData.shown]; exact .of_is (ReprIs.str x t (by simpa only [PyData.shown] using hz)) _ _ _⟩
  | _, _, .list (a := a) (vs := vs) (xs := xs) h1 h2 h3 h4, hs, hz => by
    have hz' : (listText (PyData.shownAll xs)).length ≤ sizeLine := by simpa only [PyData.shown] using hz
    obtain ⟨bs, hb, hk⟩ := rks_x h4 (by simpa [PyData.showable] using hs) fun t ht => Nat.le_trans (listText_mem_le ht) hz'
    obtain ⟨as, r⟩ := RD.reads (.list h1 h2 h3 h4)
    have hna : a ∉ bs := not_mem_of_deeper r (by simp only [PyData.depth]; omega) hb
    refine ⟨a :: bs, ReadAtMost.cons r (by simp only [PyData.depth]; omega) hb, ?_⟩
    simp only [PyData.depth, PyData.shown]
    obtain ⟨l⟩ := vs
    cases l with
    | nil =>
      cases (show RDs h₀ [] xs from h4)
      simp only [PyData.shownAll, listText_nil]
      exact ReprK.listEmpty h1 h2 h3
    | cons x l => exact ReprK.list h1 h2 h3 hna (by simpa using hk.length_eq) fun i y e => hk.item i y (by simpa using e)
  | _, _, .tuple (a := a) (xs := xs) h1 h2 h3 h4, hs, hz => by
    have hz' : (tupleText (PyData.shownAll xs)).length ≤ sizeLine := by simpa only [PyData.shown] using hz
    obtain ⟨bs, hb, hk⟩ := rks_x h4 (by simpa [PyData.showable] using hs) fun t ht => Nat.le_trans (tupleText_mem_le ht) hz'
    obtain ⟨as, r⟩ := RD.reads (.tuple h1 h2 h3 h4)
    have hna : a ∉ bs := not_mem_of_deeper r (by simp only [PyData.depth]; omega) hb
    refine ⟨a :: bs, ReadAtMost.cons r (by simp only [PyData.depth]; omega) hb, ?_⟩
    simp only [PyData.depth, PyData.shown]
    exact ReprK.tuple h1 h2 h3 hna hk
  | _, _, .dict (a := a) (es := es) (kvs := kvs) h1 h2 h3 h4 h5 h6, hs, hz => by
    have hz' : (dictText (PyData.shownKv kvs)).length ≤ sizeLine := by simpa only [PyData.shown] using hz
    obtain ⟨hs1, hs2⟩ := PyData.showableKv_split kvs (by simpa [PyData.showable] using hs)
    obtain ⟨b1, hb1, k1⟩ := rks_x h5 hs1 (fun t ht => let ⟨p, hp, hl⟩ := PyData.shownKv_key_le kvs t ht; Nat.le_trans hl (Nat.le_trans (dictText_mem_le hp) hz'))
    obtain ⟨b2, hb2, k2⟩ := rks_x h6 hs2 (fun t ht => let ⟨p, hp, hl⟩ := PyData.shownKv_val_le kvs t ht; Nat.le_trans hl (Nat.le_trans (dictText_mem_le hp) hz'))
    have hb : ReadAtMost h₀ (PyData.depthKv kvs) (b1 ++ b2) := (hb1.mono (PyData.depthAll_keys_le kvs)).append (hb2.mono (PyData.depthAll_vals_le kvs))
    obtain ⟨as, r⟩ := RD.reads (.dict h1 h2 h3 h4 h5 h6)
    have hna : a ∉ b1 ++ b2 := not_mem_of_deeper r (by simp only [PyData.depth]; omega) hb
    refine ⟨a :: (b1 ++ b2), ReadAtMost.cons r (by simp only [PyData.depth]; omega) hb, ?_⟩
    simp only [PyData.depth, PyData.shown, PyData.shownKv_eq]
    exact ReprK.dict h1 h2 h3 h4 hna (ReprEntriesK.of_two es.toList _ _ (k1.more_le (fun b hb => List.mem_append_left _ hb) (PyData.depthAll_keys_le kvs)) (k2.more_le (fun b hb => List.mem_append_right _ hb) (PyData.depthAll_vals_le kvs)))
theorem rks_x : ∀ {vs : List Value} {ds : List PyData}, RDs h₀ vs ds → PyData.showableAll ds = true → (∀ t ∈ PyData.shownAll ds, t.length ≤ sizeLine) →
    ∃ bs, ReadAtMost h₀ (PyData.depthAll ds) bs ∧ ReprAllK prog w bs h₀ (PyData.depthAll ds) vs (PyData.shownAll ds)
  | _, _, .nil, _, _ => ⟨[], (fun _ h => nomatch h), by simp only [PyData.shownAll]; exact .nil⟩
  | _, _, .cons (d := d) (ds := ds) r rs, hs, hz => by
    have hs' : d.showable = true ∧ PyData.showableAll ds = true := by simpa [PyData.showableAll] using hs
    obtain ⟨b1, hb1, k1⟩ := rk_x r hs'.1 (hz _ (by simp [PyData.shownAll]))
    obtain ⟨b2, hb2, k2⟩ := rks_x rs hs'.2 fun t ht => hz t (by simp only [PyData.shownAll]; exact List.mem_cons_of_mem _ ht)
    refine ⟨b1 ++ b2, ?_, ?_⟩
    · simp only [PyData.depthAll]
      exact (hb1.mono (Nat.le_max_left _ _)).append (hb2.mono (Nat.le_max_right _ _))
    · simp only [PyData.depthAll, PyData.shownAll]
      exact .cons ((k1.more fun b hb => List.mem_append_left _ hb).level_le (Nat.le_max_left _ _)) (k2.more_le (fun b hb => List.mem_append_right _ hb) (Nat.le_max_right _ _))
end
theorem repr_x {A : Around} {E : Value → Shared → Prop} {s : Shared} {Q : Value → Shared → Prop} {a : Addr} {d : PyData} (r : RD s.heap (.ref a) d) (hs : d.showable = true) (hg : A.guards = some []) (hu : A.units + (d.depth + 1) < cLine)
    (hQ : ∀ h' u tk, (∀ b o, s.heap.get? b = some o → h'.get? b = some o) → Q (.str d.shown u) { s with heap := h', toks := tk }) (hsz : d.shown.length ≤ sizeLine) :
    wpAny (model prog w) A (call (.builtin "repr") [.ref a]) Q E s := by
  cases r with
  | list h1 h2 h3 h4 =>
    rename_i o vs n xs
    have hz' : (listText (PyData.shownAll xs)).length ≤ sizeLine := by simpa only [PyData.shown] using hsz
    obtain ⟨bs, hb, hk⟩ := rks_x (prog := prog) (w := w) h4 (by simpa [PyData.showable] using hs) fun t ht => Nat.le_trans (listText_mem_le ht) hz'
    obtain ⟨as, r⟩ := RD.reads (.list h1 h2 h3 h4)
    have hna : a ∉ bs := not_mem_of_deeper r (by simp only [PyData.depth]; omega) hb
    simp only [PyData.depth] at hu
    simp only [PyData.shown] at hQ
    refine call_repr_slot (T := "list") (idr := "list.__repr__") (by omega) ⟨o, h1, h2⟩ F.slot_list_repr.toG ?_
    have hu' : A.in1.units + (PyData.depthAll xs + 1) < cLine := by show A.units + 1 + _ < _; omega
    obtain ⟨l⟩ := vs
    cases l with
    | nil =>
      cases (show RDs s.heap [] xs from h4)
      simp only [PyData.shownAll, listText_nil] at hQ
      exact call_list_repr_empty ⟨o, h1, h2⟩ h1 h3 ⟨_, _, rfl, hQ s.heap _ _ fun _ _ e => e⟩
    | cons x l =>
      exact call_list_reprK h1 h2 h3 hna (by simpa using hk.length_eq) (fun i y e => hk.item i y (by simpa using e)) hg (fun b _ => Clear.nil b) hu' (fun _ _ e => e) (fun h' u tk q => ⟨_, _, rfl, hQ h' u tk q⟩) hz'
  | tuple h1 h2 h3 h4 =>
    rename_i o vs n xs
    have hz' : (tupleText (PyData.shownAll xs)).length ≤ sizeLine := by simpa only [PyData.shown] using hsz
    obtain ⟨bs, hb, hk⟩ := rks_x (prog := prog) (w := w) h4 (by simpa [PyData.showable] using hs) fun t ht => Nat.le_trans (tupleText_mem_le ht) hz'
    obtain ⟨as, r⟩ := RD.reads (.tuple h1 h2 h3 h4)
    have hna : a ∉ bs := not_mem_of_deeper r (by simp only [PyData.depth]; omega) hb
    simp only [PyData.depth] at hu
    simp only [PyData.shown] at hQ
    refine call_repr_slot (T := "tuple") (idr := "tuple.__repr__") (by omega) ⟨o, h1, h2⟩ F.slot_tuple_repr ?_
    have hu' : A.in1.units + (PyData.depthAll xs + 1) < cLine := by show A.units + 1 + _ < _; omega
    exact call_tuple_reprK h1 h2 h3 hna hk hg (fun b _ => Clear.nil b) hu' (fun _ _ e => e) (fun h' u tk q => ⟨_, _, rfl, hQ h' u tk q⟩) hz'
  | dict h1 h2 h3 h4 h5 h6 =>
    rename_i o es n kvs
    have hz' : (dictText (PyData.shownKv kvs)).length ≤ sizeLine := by simpa only [PyData.shown] using hsz
    obtain ⟨hs1, hs2⟩ := PyData.showableKv_split kvs (by simpa [PyData.showable] using hs)
    obtain ⟨b1, hb1, k1⟩ := rks_x (prog := prog) (w := w) h5 hs1 (fun t ht => let ⟨p, hp, hl⟩ := PyData.shownKv_key_le kvs t ht; Nat.le_trans hl (Nat.le_trans (dictText_mem_le hp) hz'))
    obtain ⟨b2, hb2, k2⟩ := rks_x (prog := prog) (w := w) h6 hs2 (fun t ht => let ⟨p, hp, hl⟩ := PyData.shownKv_val_le kvs t ht; Nat.le_trans hl (Nat.le_trans (dictText_mem_le hp) hz'))
    have hb : ReadAtMost s.heap (PyData.depthKv kvs) (b1 ++ b2) := (hb1.mono (PyData.depthAll_keys_le kvs)).append (hb2.mono (PyData.depthAll_vals_le kvs))
    obtain ⟨as, r⟩ := RD.reads (.dict h1 h2 h3 h4 h5 h6)
    have hna : a ∉ b1 ++ b2 := not_mem_of_deeper r (by simp only [PyData.depth]; omega) hb
    simp only [PyData.depth] at hu
    simp only [PyData.shown, PyData.shownKv_eq] at hQ
    refine call_repr_slot (T := "dict") (idr := "dict.__repr__") (by omega) ⟨o, h1, h2⟩ F.slot_dict_repr ?_
    have hu' : A.in1.units + (PyData.depthKv kvs + 1) < cLine := by show A.units + 1 + _ < _; omega
    exact call_dict_reprK h1 h2 h3 h4 hna (ReprEntriesK.of_two es.toList _ _ (k1.more_le (fun b hb => List.mem_append_left _ hb) (PyData.depthAll_keys_le kvs)) (k2.more_le (fun b hb => List.mem_append_right _ hb) (PyData.depthAll_vals_le kvs))) hg (fun b _ => Clear.nil b) hu' (fun _ _ e => e) (fun h' u tk q => ⟨_, _, rfl, hQ h' u tk q⟩) (by rw [← PyData.shownKv_eq]; exact hz')
end
def rOkX (d : D) : Bool := isX d && (pyX d).showable && (pyX d).leavesShort 130 && decide ((pyX d).bulk ≤ 100000) && decide ((pyX d).depth ≤ 64)
def rTxtX (d : D) : Str := (pyX d).shown
section
variable {X : Cx} {W : XW X.K}
def rReprX (K : PySem.W.Frag) : List V → Hp → VK → Prop := fun xs H Q => ∃ x d, xs = [x] ∧ Den K H x d ∧ rOkX d = true ∧ Q (.str (rTxtX d)) H
theorem call_reprX (hg : X.A.guards = some []) (hu : X.A.units + 80 < cLine) : CallR X (.builtin "repr") (rReprX X.K) := by
  intro pins s sg H xs us Q I r h
  obtain ⟨x, d, rfl, hd, ho, q⟩ := h
  obtain ⟨u, rfl, rx⟩ := vals1 r
  unfold rOkX at ho
  simp only [Bool.and_eq_true, decide_eq_true_eq] at ho
  obtain ⟨⟨⟨⟨hx, h1⟩, h2⟩, h3⟩, h4⟩ := ho
  have rd := rd_x I hx hd rx
  have hlen : (pyX d).shown.length ≤ sizeLine := by
    have q := PyData.shown_le_bulk 130 (by decide) (pyX d) h2
    have e : sizeLine = 16777216 := sizeLine_eq
    omega
  unfold rTxtX at q
  generalize pyX d = z at *
  have go : ∀ a, u = .ref a → wpAny (model X.prog X.w) X.A (call (.builtin "repr") [u]) (EP X pins sg Q) X.xe s := by
    rintro a rfl
    refine repr_x rd h1 hg (by omega) (fun h' u tk hk => ?_) hlen
    exact ⟨.str z.shown, H, I.kept hk, ⟨_, rfl⟩, q⟩
  cases rd with
  | none => exact PySem.P.repr_of_none ⟨.str _, H, I.tok _, ⟨_, rfl⟩, by simpa only [PyData.shown] using q⟩
  | bool b => exact PySem.P.repr_of_bool ⟨.str _, H, I.tok _, ⟨_, rfl⟩, by cases b <;> simpa [PyData.shown] using q⟩
  | int i t => exact PySem.P.repr_of_int (by simpa [PyData.showable] using h1) ⟨.str _, H, I.tok _, ⟨_, rfl⟩, by simpa only [PyData.shown] using q⟩
  | str z t => exact PySem.P.repr_of_str ⟨.str _, H, I.tok _, ⟨_, rfl⟩, by simpa only [PyData.shown] using q⟩ (by simpa only [PyData.shown] using hlen)
  | list _ _ _ _ => exact go _ rfl
  | tuple _ _ _ _ => exact go _ rfl
  | dict _ _ _ _ _ _ => exact go _ rfl
end
end DL

namespace DL
open PySem PySem.Spec PyProof.Rows L2
def gTuC (n : Nat) (m : GMs) : GM := fun x rho S => match x with
  | .cell k => match S[k]? with
    | some (.tup xs) => if xs.length = n then m xs rho S else .stuck
    | _ => .stuck
  | _ => .stuck
theorem dSs_len {K : PySem.W.Frag} {ph : List Addr} {H : Hp} {vs : List V} {xs : List SV} (h : DenSs K ph H vs xs) : vs.length = xs.length := by
  induction h with
  | nil => rfl
  | cons _ _ ih => simp [ih]
theorem pgd_tupC {X : Cx} {W : XW X.K} {is : List Nat} {es : List Expr} {k n : Nat} {m : GMs} {pos : Pos} (hc : X.calm = true) (h : PGDs X W is es m) (hn : (assignEach es X.env).length = n := by rfl) (hst : (assignEach es X.env).findIdx? (·.1) = none := by rfl) : PGD X W is (.Tuple es k pos) (gTuC n m) := by
  obtain ⟨t, p, s⟩ := h.ex
  refine ⟨_, pg_tup hc p hn hst, fun ph S H sg rho v x Q g so d h => ?_⟩
  unfold gTuC at h
  split at h
  · rename_i k
    split at h
    · rename_i xs hk
      split at h
      · rename_i hl
        obtain ⟨q, hq, rfl⟩ := d
        obtain ⟨vs, h4, h5⟩ := paired_at g.cells hq hk
        exact ⟨q, vs, rfl, .inl (.inl h4), by rw [dSs_len h5]; exact hl, s ph S H sg rho _ _ Q g so h5 h⟩
      · exact h.elim
    · exact h.elim
  · exact h.elim
end DL

namespace DL
open PySem PySem.Spec PyProof.Rows L2
def cutX (n : Nat) (rho : Slots) (r : Res (RV × Store)) : Res (RV × Store) := match r with
  | .exc e _ S' => if (S'.take n).all (Cell.below n) = true then .exc e rho (S'.take n) else .stuck
  | x => x
def eCallX (f : FnM) (c : Bool) (m : AM) : EM := fun rho S => (m rho S).bind fun x => (cutX x.2.length rho (f x.1 x.2)).bind (back c)
section
variable {X : Cx} {Wq : WX} {e : Expr} {es : List Expr} {pos p : Pos} {m : AM}
end
theorem lookup_mem {α β : Type} [BEq α] [LawfulBEq α] {k : α} {v : β} : ∀ {l : List (α × β)}, l.lookup k = some v → (k, v) ∈ l
  | [], h => by cases h
  | (a, b) :: l, h => by
    rw [List.lookup_cons] at h
    cases e : k == a with
    | true =>
      rw [e] at h
      cases h
      rw [eq_of_beq e]
      exact List.mem_cons_self
    | false =>
      rw [e] at h
      exact List.mem_cons_of_mem _ (lookup_mem h)
abbrev SX := Addr → Option Addr → Exc → SM
theorem SlotsOk.wipe {K : PySem.W.Frag} {ph : List Addr} {H : Hp} {sg : L2.St} {rho : Slots} (h : SlotsOk K ph H sg rho) (i : Nat) : SlotsOk K ph H (sg.set i none) (rho.set i none) := by
  refine ⟨by simpa using h.1, fun j x q => ?_⟩
  by_cases e : i = j
  · subst e
    rw [List.getElem?_set] at q
    split at q
    · split at q <;> cases q
    · exact absurd rfl ‹_›
  · rw [List.getElem?_set_ne e] at q ⊢
    exact h.2 j x q
section
variable {X : Cx} {Wq : WX} {pos pos' np : Pos} {x n : Str} {c : Value} {i : Nat} {body suite : List Stmt} {b0 : Stmt} {mb : SM} {ms : SX} {tb : IsT}
end
structure ExcOk (K : PySem.W.Frag) (C : Addr) : Prop where
  cl : (PySem.W.clsIn K C).isSome = true
  ga : PySem.W.findIn K (.ref C) "__getattribute__" = some (some (.builtin "BaseException.__getattribute__"))
  gg : PySem.W.findIn K (.ref C) "__getattr__" = some none
  sub : PySem.W.subIn K (.ref C) (.type "BaseException") = some true
  ha : PySem.W.findIn K (.ref C) "__class__" = some (some (.builtin "object.__class__"))
  hn : PySem.W.specialIn K (.builtin "object.__class__") "__get__" = some (some (.builtin "getset_descriptor.__get__"))
  ht : PySem.W.takesIn K (.builtin "object.__class__") = some true
  hm : PySem.W.mroIn K C (.type "object") = some true
theorem excOk_of {K : PySem.W.Frag} {n : Str} (c : fcExc n K = true) : ExcOk K (He.ga K n) := by
  unfold fcExc at c
  simp only [Bool.and_eq_true] at c
  obtain ⟨h1, h2, h3, h4, h5, h6, h7, h8⟩ := c
  exact ⟨of_decide_eq_true h1, He.eqO_ok h2, He.eqO_ok h3, of_decide_eq_true h4, He.eqO_ok h5, He.eqO_ok h6, of_decide_eq_true h7, of_decide_eq_true h8⟩
structure IseOk (K : PySem.W.Frag) (C : Str) (tb : IsT) (tt : TyT) : Prop where
  ex : ExcOk K (He.ga K C)
  own : ∀ p ∈ tb, PySem.W.kitOne K (.ref (He.ga K C)) (.ref (He.ga K p.1)) = some p.2
  ty : ∀ p ∈ tt, PySem.W.kitOne K (.ref (He.ga K C)) (.type p.1) = some p.2
theorem ise_of {K : PySem.W.Frag} {C : Str} {tb : IsT} {tt : TyT} (c : fcIse C tb tt K = true) : IseOk K C tb tt := by
  unfold fcIse at c
  simp only [Bool.and_eq_true] at c
  obtain ⟨h1, h2, h3⟩ := c
  exact ⟨excOk_of h1, fun p hp => of_decide_eq_true (List.all_eq_true.mp h2 p hp), fun p hp => of_decide_eq_true (List.all_eq_true.mp h3 p hp)⟩
abbrev IseT := List (Str × IsT × TyT)
def IsesOk (K : PySem.W.Frag) (t : IseT) : Prop := ∀ p ∈ t, IseOk K p.1 p.2.1 p.2.2
theorem ises_nil {K : PySem.W.Frag} : IsesOk K [] := fun _ h => nomatch h
theorem ises_cons {K : PySem.W.Frag} {C : Str} {tb : IsT} {tt : TyT} {t : IseT} (h : IsesOk K t) (c : fcIse C tb tt K = true) : IsesOk K ((C, tb, tt) :: t) := fun p hp => (List.mem_cons.mp hp).elim (fun e => e ▸ ise_of c) (h p)
def clsB (tb : IsT) (tt : TyT) : D → Option Bool
  | .cls c => tb.lookup c
  | .ty t => tt.lookup t
  | _ => none
theorem clsB_ok {K : PySem.W.Frag} {F : Hp} {C : Str} {tb : IsT} {tt : TyT} (T : IseOk K C tb tt) {v : V} {d : D} {b : Bool} (k : Den K F v d) (h : clsB tb tt d = some b) : ∃ u, ClsV v u ∧ PySem.W.kitOne K (.ref (He.ga K C)) u = some b := by
  unfold clsB at h
  split at h
  · rename_i c
    obtain rfl := d_cls k
    exact ⟨_, .own _, T.own _ (lookup_mem h)⟩
  · rename_i t
    cases k
    exact ⟨_, .ty t, T.ty _ (lookup_mem h)⟩
  · cases h
end DL

namespace DL
open PySem PySem.Spec PyProof.Rows L2
structure BasI (K : PySem.W.Frag) (L : Addr) : Prop where
  rd : PySem.W.readsIn K L (.type "type") = true
  ga : PySem.W.specialIn K (.ref L) "__getattribute__" = some (some (.builtin "type.__getattribute__"))
  vi : PySem.W.findCls K (.ref L) (.type "type") "__init__" = some (.val (.builtin "ValueError.__init__"))
theorem isVI_ok {r : Option PySem.W.CFound} (h : isVI r = true) : r = some (.val (.builtin "ValueError.__init__")) := by
  unfold isVI at h
  split at h
  · rw [eq_of_beq h]
  · cases h
theorem bas_of {K : PySem.W.Frag} {n : Str} (c : fcBas n K = true) : BasI K (He.ga K n) := by
  unfold fcBas at c
  simp only [Bool.and_eq_true] at c
  exact ⟨c.1, He.eqO_ok c.2.1, isVI_ok c.2.2⟩
section
variable {X : Cx} {e : Expr} {es : List Expr} {ta : TA} {x : Str} {L : Addr} {p1 p2 pos : Pos}
theorem pe_oinit {pl : Sem Bool} (hg : Gl X x) (gL : X.mg x = some (.ref L)) (B : BasI X.K L) (ha : PA X (e :: es) ta) (hdb : (x == ("__debug__" : Str)) = false := by decide)
    (hc : eval (.Call (.Attribute (.Name x p1) "__init__" p2) (e :: es) [] pos) X.env = (do
      let ov ← eval (.Name x p1) X.env
      standAt p2.atName
      let (f, first) ← holding [ov] (getMethod ov "__init__" pl)
      callWith pos f first (backTo pos (starEach (e :: es) X.env)) (backToKw pos (keywordEach [] X.env))) := by rfl)
    (he : starEach (e :: es) X.env = (false, eval e X.env) :: starEach es X.env := by rfl) (hpl : (backTo pos (starEach es X.env)).any (·.1) = false := by rfl) :
    PE X (.Call (.Attribute (.Name x p1) "__init__" p2) (e :: es) [] pos) (tVeI X.K ta) := by
  refine ⟨fun pins s σ H Q I h => ?_⟩
  refine PySem.W.methodCall_KW (ld_glob I hg gL ?_ hdb) hc
  refine PySem.W.method_cls I.kIn B.ga (PySem.W.cls_value I.kIn B.rd B.vi (show PySem.W.handedIn (.builtin "ValueError.__init__") = true by decide +kernel) ?_)
  show wpAny _ _ (callWith pos (Value.builtin "ValueError.__init__") [] (backTo pos (starEach (e :: es) X.env)) []) _ _ _
  refine PyProof.Rows.callWith_method1 (thn (ha.run pos pins _ σ H _ (I.tok _) h) fun us s1 ⟨vs, H1, I1, r1, a, C, ws, ev, hl, T, ea, q⟩ => ?_) he hpl
  subst ev
  cases r1 with
  | @cons _ u0 _ ur ra rw' =>
    obtain rfl : u0 = Value.ref a := ra
    have hlen : ur.length ≤ sizeLine := by
      rw [← Paired.length rw', sizeLine_eq]
      omega
    exact oinit_ok T I1 ea hlen fun s' J => ⟨.non, H1, J, rfl, q⟩
end
theorem oexB_ok {K : PySem.W.Frag} {C : Addr} (c : oexB K C = true) : ∃ nm q N bs bm sn sub ab col dd k0 k1 k2 k3 k5, K.lookup C = some (excClassObj nm q C N bs bm true sn sub ab col dd k0 k1 k2 k3 k5 "ValueError.__new__") ∧ PySem.HandSPX.refsVE bm = true := by
  unfold oexB at c
  split at c
  · rename_i dd cd sl ho
    split at c
    · rename_i C' bm k0 k1 k2 k3 n k5 hm hs
      simp only [Bool.and_eq_true, beq_iff_eq, Bool.not_eq_true'] at c
      obtain ⟨rfl, rfl, hdel, hd, hv⟩ := c
      obtain ⟨nm, bs, mro, ns, qn, hdi, sn, sub, ab, col, del⟩ := cd
      dsimp only at hm hdel hd
      subst hm hdel hd
      have hsl : sl = #[k0, k1, k2, k3, some (.builtin "ValueError.__new__"), k5] := by
        obtain ⟨l⟩ := sl
        simp only at hs
        rw [hs]
      subst hsl
      exact ⟨nm, qn, ns, bs, bm, sn, sub, ab, col, dd, k0, k1, k2, k3, k5, ho, hv⟩
    · cases c
  · cases c
structure OxC (K : PySem.W.Frag) (C fI : Addr) : Prop where
  ox : OexC K C
  iC : PySem.W.findIn K (.ref C) "__init__" = some (some (.ref fI))
  tI : PySem.W.typeIn K (.ref fI) = some (.type "function")
theorem ox_of {K : PySem.W.Frag} {n : Str} (c : fcOx n K = true) : OxC K (He.ga K n) (He.ma K (He.ga K n) "__init__") := by
  unfold fcOx at c
  simp only [Bool.and_eq_true] at c
  obtain ⟨h1, h2, h3, h4, h5, h6, h7⟩ := c
  exact ⟨⟨oexB_ok h1, He.eqO_ok h2, of_decide_eq_true h3, of_decide_eq_true h4, h5⟩, He.eqO_ok h6, of_decide_eq_true h7⟩
def sp0 (K : PySem.W.Frag) : Sp := fun vs H Q _ => ∃ a C : Addr, vs = [.ref a] ∧ OexC K C ∧ H a = some (exo a C none) ∧ Q .non H
theorem sp0_len {K : PySem.W.Frag} (vs : List V) (H : Hp) (Q : VK) (E : XK) (h : sp0 K vs H Q E) : vs.length = ["self"].length := by
  obtain ⟨a, C, rfl, _⟩ := h
  rfl
theorem xread0 {K : PySem.W.Frag} {vs : List V} {H : Hp} {Q : VK} {E : XK} {z : Str} (h : sp0 K vs H Q E) : tSeq (tDrop (tVeI K (tCons (tVar 0) (tCons (tC (.str z)) tNil)))) tNext { nx := fun _ H' => Q .non H', rt := Q } (L2.start ["self"] vs) H := by
  obtain ⟨a, C, rfl, T, ea, q⟩ := h
  exact ⟨.ref a, rfl, a, C, [.str z], rfl, (by simp), T, ea, q⟩
section
variable {X : Cx} {pos : Pos}
end
structure ExI (P : Program) (w : World) (K : PySem.W.Frag) (mg : Str → Option Value) (base : Heap) (k : Nat) (C : Str) : Prop where
  ex : ∃ fd, OxC K (He.ga K C) (He.ma K (He.ga K C) "__init__") ∧ FnOk P w K mg base CX0 k (He.ma K (He.ga K C) "__init__") fd ["self"] (sp0 K) ∧ Binds K fd ["self"] [] ∧ mg C = some (.ref (He.ga K C))
theorem exi_of {P : Program} {w : World} {K : PySem.W.Frag} {mg : Str → Option Value} {base : Heap} {k : Nat} {C : Str} {fd : FuncData} (g : mg C = some (.ref (He.ga K C))) (T : OxC K (He.ga K C) (He.ma K (He.ga K C) "__init__"))
    (F : FnOk P w K mg base CX0 k (He.ma K (He.ga K C) "__init__") fd ["self"] (sp0 K)) (hb : Binds K fd ["self"] []) : ExI P w K mg base k C := ⟨fd, T, F, hb, g⟩
end DL

namespace DL
open PySem PySem.Spec PyProof.Rows L2
abbrev KnM := List SV → Store → Res (SV × Store)
def leaveK (r : Fl × Slots × Store) : Res (SV × Store) := match r.1 with
  | .nx => .ok (.fr .non, r.2.2)
  | .rt x => .ok (x, r.2.2)
  | _ => .stuck
def fnK (np n : Nat) (b : SM) : KnM := fun as S => if as.length = np then (b (as.map some ++ List.replicate (n - as.length) none) S).bind leaveK else .stuck
def spK (K : PySem.W.Frag) (m : KnM) : Sp := fun vs H Q E => ∃ ph S as, Good K ph H S ∧ DenSs K ph H vs as ∧ holds (m as S) (post K ph H Q) (postX K ph H E)
structure FnDK (P : Program) (w : World) (K : PySem.W.Frag) (mg : Str → Option Value) (base : Heap) (k : Nat) (f : Addr) (fd : FuncData) (ps : List Str) (m : KnM) : Prop where
  len : ∀ vs H Q E, spK K m vs H Q E → vs.length = ps.length
  run : ∀ (A : Around) (outer : List Env) (s : Shared) (H : Hp) (args : Args) (us : List Value) (vs : List V) (Q : VK) (E : XK), A.guards = some [] → Room k A → Env0 P w K mg base A outer s H →
    BindsTo s fd args (ps.zip us) → Vals vs us → spK K m vs H Q E → codeAny (model P w) A (.call (.ref f) args) (CR (L2.CX P w) outer P w H s Q E) s
section
variable {P : Program} {w : World} {K : PySem.W.Frag} {mg : Str → Option Value} {base : Heap}
theorem spK_len {np n : Nat} {b : SM} {vs : List V} {H : Hp} {Q : VK} {E : XK} (h : spK K (fnK np n b) vs H Q E) : vs.length = np := by
  obtain ⟨ph, S, as, g, d, h⟩ := h
  unfold fnK at h
  split at h
  · rw [d.length]; assumption
  · exact h.elim
theorem fnDK_of {k : Nat} {f : Addr} {name qual : Str} {params : Arguments} {body : List Stmt} {scope : Scope} {dV kV doc pm cdv ct oc : Value} {an od : Option Addr} {osl : Array (Option Value)} {N ps : List Str} {b : SM}
    (lk : K.lookup f = some ⟨oc, od, .func (PySem.W.fnOf name qual params body scope dV kV doc pm an cdv ct), osl⟩) (hcd : PySem.W.codeIn K cdv qual = true) (Sc : FnScope N ps scope)
    (hb : ∀ (A : Around) (outer : List Env) (s : Shared) (H : Hp) (E : XK), (A.deeper (envOfC qual scope s.heap.objs.size f cdv)).guards = some [] → Room k (A.deeper (envOfC qual scope s.heap.objs.size f cdv)) →
      PSDs (cxOf (L2.CX P w) P w K mg base N qual scope f cdv A outer s H E) (XW.fn K E) body b) :
    FnDK P w K mg base (k + 1) f (PySem.W.fnOf name qual params body scope dV kV doc pm an cdv ct) ps (fnK ps.length N.length b) := by
  refine ⟨fun vs H Q E h => spK_len h, ?_⟩
  intro A outer s H args us vs Q E hgd hroom e0 hbind rv hsp
  have len0 : vs.length = ps.length := spK_len hsp
  have KX : K.In s.heap := e0.mod.kin.keeps fun b o e => (e0.bs b o e).1
  have lim : s.heap.NoLimit := e0.mod.nolimit.keeps fun b o e => (e0.bs b o e).1
  have kinds : ∀ y ∈ ps.zip us, scope.names.lookup y.1 = some .local ∨ (scope.names.lookup y.1 = some .cell ∧ ((cellsFrom (s.heap.objs.size + 1) scope.names []).lookup y.1).isSome = true) := by
    rintro ⟨n, v⟩ hy
    cases Sc.par n (List.of_mem_zip hy).1 with
    | inl q => exact .inl q
    | inr q => exact .inr ⟨q, PySem.W.cellsFrom_some _ _ _ (.inl q)⟩
  refine codeAny_call_function hroom.depth (KX _ _ lk) rfl Sc.co Sc.gen rfl (PySem.W.codeRec_of KX hcd) (hbind _ _ _ _ ?_)
  refine wpAny_newFunctionEnv_cells Sc.kind kinds fun env he s1 x => ?_
  subst he
  refine ⟨lim.keeps x.toInCall.keep, codeAny_func ?_⟩
  obtain ⟨t, ht, snd⟩ := (hb A outer s H E hgd (hroom.deeper _)).ex
  have I : Inv (cxOf (L2.CX P w) P w K mg base N qual scope f cdv A outer s H E) [] (L2.start N vs) H s1 := inv_start Sc hroom.hd e0 len0 rv x
  have done : ∀ {sg' : L2.St} {H' : Hp} {v : V} {u : Value} {s' : Shared}, Inv (cxOf (L2.CX P w) P w K mg base N qual scope f cdv A outer s H E) [] sg' H' s' → RelV v u → Q v H' → CE outer P w H s Q u s' := by
    intro sg' H' v u s' J rv q
    exact ⟨v, H', J.os, J.bare, J.base, J.hok, rv, q⟩
  have rd : t { nx := fun _ H' => Q .non H', rt := Q } (L2.start N vs) H := by
    obtain ⟨ph, S, as, g, d, hh⟩ := hsp
    have la : as.length = ps.length := by rw [← d.length]; exact len0
    unfold fnK at hh
    rw [if_pos la] at hh
    refine snd ph S H (L2.start N vs) _ _ g ⟨by simp [L2.start, d.length], fun i x hi => ?_⟩ (holds_imp (holds_bind hh) (fun r hr => ?_) fun _ _ _ q ph' H' _ cls d x' g' _ z => q ph' H' cls d x' g' z)
    · have hi' : (as.map some ++ List.replicate (N.length - as.length) none)[i]? = some (some x) := hi
      by_cases hlt : i < as.length
      · rw [List.getElem?_append_left (by simpa using hlt), List.getElem?_map] at hi'
        cases q : as[i]? with
        | none => rw [q] at hi'; cases hi'
        | some y =>
          rw [q] at hi'
          have e := Option.some.inj (Option.some.inj hi')
          subst e
          obtain ⟨v, h1, h2⟩ := paired_get d q
          refine ⟨v, ?_, h2⟩
          unfold L2.start
          rw [List.getElem?_append_left (by rw [List.length_map, d.length]; exact hlt), List.getElem?_map, h1]
          rfl
      · rw [List.getElem?_append_right (by simpa using hlt)] at hi'
        have := List.getElem?_replicate (n := N.length - as.length) (a := (none : Option SV)) (i := i - (as.map some).length)
        rw [this] at hi'
        split at hi' <;> cases hi'
    · intro ph' sg' H' x' g' so'
      obtain ⟨fl, rho', S'⟩ := r
      cases fl with
      | nx => exact hr ph' .non H' x' g' den_non
      | rt sv => exact fun v dv => hr ph' v H' x' g' dv
      | bk => exact hr.elim
      | ct => exact hr.elim
  refine wpAny_mono (ht.run [] s1 (L2.start N vs) H _ I rd) (fun fl s' hs => ?_) fun e s' hs => hs
  cases fl with
  | ret u =>
    obtain ⟨v, sg', H', J, rv, q⟩ := hs
    exact done J rv q
  | next =>
    obtain ⟨sg', H', J, q⟩ := hs
    exact done (v := V.non) (u := Value.none) J rfl q
  | brk => exact hs.choose_spec.choose_spec.2.elim
  | cont => exact hs.choose_spec.choose_spec.2.elim
structure CalK (P : Program) (w : World) (K : PySem.W.Frag) (mg : Str → Option Value) (base : Heap) (k : Nat) (x : Str) (m : KnM) : Prop where
  ex : ∃ f fd ps, mg x = some (.ref f) ∧ PySem.W.keepIn K (.ref f) = true ∧ Binds K fd ps [] ∧ FnDK P w K mg base k f fd ps m
theorem calK_of {k : Nat} {x : Str} {st : Stmt} {f : Addr} {fd : FuncData} {N ps : List Str} {b : SM} (F : Fun K x x st f fd) (hm : mg x = some (.ref f)) (hbd : Binds K fd ps []) (Sc : FnScope N ps (defScope st))
    (hb : ∀ (cdv : Value) (A : Around) (outer : List Env) (s : Shared) (H : Hp) (E : XK), (A.deeper (envOfC x (defScope st) s.heap.objs.size f cdv)).guards = some [] → Room k (A.deeper (envOfC x (defScope st) s.heap.objs.size f cdv)) →
      PSDs (cxOf (L2.CX P w) P w K mg base N x (defScope st) f cdv A outer s H E) (XW.fn K E) (defBody st) b) : CalK P w K mg base (k + 1) x (fnK ps.length N.length b) := by
  obtain ⟨oc, od, kV, doc, pm, an, cdv, ct, osl, rfl, lk, hcd⟩ := F.ex
  exact ⟨f, _, ps, hm, F.kp, hbd, fnDK_of lk hcd Sc fun A outer s H E => hb cdv A outer s H E⟩
end
def eCallK (f : KnM) (m : AM) : EM := fun rho S => (m rho S).bind fun x => match f x.1 x.2 with
  | .exc _ _ _ => .stuck
  | r => r
section
variable {X : Cx} {W : XW X.K} {Wq : WX} {e : Expr} {es : List Expr} {pos p : Pos} {m : AM}
theorem pe_callKE {k j : Nat} {x : Str} {f : KnM} {t : TA} {Ef : L2.St → XK} (hx : ∀ sg, PassesAt (L2.CX X.prog X.w) X sg (Ef sg)) (c : CalK X.prog X.w X.K X.mg X.base k x f) (hr : Room j X.A) (hk : k ≤ j) (hgd : X.A.guards = some []) (hg : Gl X x) (ha : PA X (e :: es) t)
    (hdb : (x == ("__debug__" : Str)) = false) (he : starEach (e :: es) X.env = (false, eval e X.env) :: starEach es X.env) (hpl : (backTo pos (starEach es X.env)).any (·.1) = false) :
    PE X (.Call (.Name x p) (e :: es) [] pos) (fun sg H Q => t sg H fun vs H1 => spK X.K f vs H1 Q (Ef sg)) := by
  obtain ⟨g, fd, ps, hm, hkp, hbd, F⟩ := c.ex
  refine ⟨fun pins s sg H Q I h => wpAny_Call_Name_kw (ld_glob I hg hm ?_ hdb)⟩
  refine PySem.W.callWith_K (h₀ := X.base) I.ok.mod.kin hkp (thn (ha.run pos pins s sg H _ I h) fun us s1 ⟨vs, H1, I1, r, q⟩ => ⟨I1.kIn, ?_⟩) he hpl
  have hl : (us ++ []).length = ps.length := by rw [List.append_nil, ← r.length]; exact F.len _ _ _ _ q
  have bt := hbd s1 us I1.kIn hl
  rw [List.append_nil] at bt
  refine wpAny_call (codeAny_mono (F.run X.A X.stack s1 H1 ⟨us, []⟩ us vs Q (Ef sg) hgd (hr.mono hk) I1.env0 bt r q) fun r s' hq => ?_)
  cases r with
  | error e => exact hx sg pins H1 s1 e s' I1 hq
  | ok fl =>
    cases fl with
    | ret u => exact I1.after hq
    | next => exact False.elim hq
    | brk => exact False.elim hq
    | cont => exact False.elim hq
theorem pd_callK {k j : Nat} {x : Str} {f : KnM} (c : CalK X.prog X.w X.K X.mg X.base k x f) (hr : Room j X.A) (hk : k ≤ j) (hgd : X.A.guards = some []) (ha : PDA X W (e :: es) m) (hg : Gl X x := by rfl)
    (hdb : (x == ("__debug__" : Str)) = false := by decide) (he : starEach (e :: es) X.env = (false, eval e X.env) :: starEach es X.env := by rfl) (hpl : (backTo pos (starEach es X.env)).any (·.1) = false := by rfl) : PD X W (.Call (.Name x p) (e :: es) [] pos) (eCallK f m) := by
  obtain ⟨t, pa, sa⟩ := ha.ex
  refine ⟨_, pe_callKE (Ef := fun _ => E0) (fun sg pins H s e s' I h => passL pins sg H s e s' I h) c hr hk hgd hg pa hdb he hpl, fun ph S H sg rho Q gd so h => sa ph S H sg rho _ gd so (holds_imp (holds_bind h) (fun y hy => ?_) fun _ _ _ q => q)⟩
  intro ph1 vs H1 x1 g1 d1
  refine ⟨ph1, y.2, y.1, g1, d1, ?_⟩
  cases q : f y.1 y.2 with
  | ok r =>
    rw [q] at hy
    exact post.mono x1 r hy
  | exc e r s => rw [q] at hy; exact hy.elim
  | stuck => rw [q] at hy; exact hy
end
end DL

namespace DL
open PySem PySem.Spec PyProof.Rows L2
section
variable {X : Cx} {W : XW X.K} {a b c : Expr} {ma mb mc : EM} {pos : Pos}
end
end DL

namespace DL
open PySem PySem.Spec PyProof.Rows L2
section
variable {X : Cx} {W : XW X.K} {a b c : Expr} {ma mb mc : EM} {pos : Pos}
end
end DL

namespace DL
open PySem PySem.Spec PyProof.Rows L2
section
variable {X : Cx} {W : XW X.K} {a b c : Expr} {ma mb mc : EM} {pos : Pos}
end
end DL

namespace HT
open PySem PySem.Spec PyProof.Rows
section
variable {prog : Program} {w : World} {A : Around} {E : Value → Shared → Prop} {s : Shared}
end
end HT
namespace DL
open PySem PySem.Spec PyProof.Rows L2
section
variable {X : Cx}
end
section
variable {X : Cx} {W : XW X.K} {a : Expr} {m : EM} {k : Nat} {p1 p2 p3 pos : Pos}
end
end DL

namespace DL
open PySem PySem.Spec PyProof.Rows L2
section
variable {X : Cx} {W : XW X.K} {a : Expr} {m : EM}
end
end DL

namespace DL
open PySem PySem.Spec PyProof.Rows L2
section
variable {X : Cx} {W : XW X.K} {a b c tg : Expr} {ma mb mc : EM} {pos : Pos}
def CPowW (i j : Int) : Prop := 0 ≤ j ∧ (Builtin.Int.intBits i : Int) * j ≤ 2 ^ 27
instance decCPowW (i j : Int) : Decidable (CPowW i j) := by unfold CPowW; infer_instance
end
section
variable {X : Cx} {W : XW X.K} {pos p : Pos}
end
end DL

namespace DL
open PySem PySem.Spec PyProof.Rows L2

section
variable {X : Cx} {pins : List (Addr × Obj)} {σ : L2.St} {H : Hp} {s : Shared} {d : Addr} {o : Obj}
end
section
variable {P : Program} {w : World} {K : PySem.W.Frag} {d : Addr} {o : Obj} {es : Array DictEntry} {ep : Nat}
end
section
variable {X : Cx} {tg e : Expr} {td : TE} {apos cpos : Pos}
end

end DL

namespace DL
open PySem PySem.Spec PyProof.Rows L2

def keyD : Key → D
  | .inl i => .int i
  | .inr x => .str x
def keyL : List D → Option (List Key)
  | [] => some []
  | d :: ds => match keyOf d, keyL ds with
    | some k, some ks => some (k :: ks)
    | _, _ => none
def keyT : SV → Option (List Key)
  | .fr (.tup ds) => keyL ds
  | _ => none
def tupK (k : List Key) : D := .tup (k.map keyD)
def SV.isCell : SV → Bool
  | .cell _ => true
  | _ => false
def ktC : Cell → Bool
  | .tup xs => xs.any SV.isCell
  | _ => true
def ktOk (S : Store) : Bool := S.all ktC
def rdTD (S : Store) : SV → Option (List (List Key × SV))
  | .cell k => match S[k]? with
    | some (.dit kvs) => some kvs
    | some (.dil kvs) => some kvs
    | _ => none
  | _ => none
section
variable {X : Cx} {W : XW X.K} {a b c : Expr} {ma mb mc : EM} {pos : Pos}
def eDNT : EM := fun _ S => .ok (.cell S.length, S ++ [.dit []])
def putTD (o i x : SV) (S : Store) : Res Store := match o, keyT i with
  | .cell j, some k => match S[j]? with
    | some (.dit kvs) => if kvs.length < sizeLine then .ok (S.set j (.dit (setK kvs k x))) else .stuck
    | _ => .stuck
  | _, _ => .stuck
def gPtT (mo mi : EM) : GM := fun x rho S => (mo rho S).bind fun o => (mi rho o.2).bind fun i => (putTD o.1 i.1 x i.2).bind fun S' => .ok (rho, S')
def getTG (o k z : SV) (S : Store) : Res (SV × Store) := match rdTD S o, keyT k with
  | some kvs, some key => .ok ((lookK kvs key).getD z, S)
  | _, _ => .stuck
def eGetT (mo mk mx : EM) : EM := fun rho S => (mo rho S).bind fun o => if (rdTD o.2 o.1).isSome then (mk rho o.2).bind fun k => (mx rho k.2).bind fun z => getTG o.1 k.1 z.1 z.2 else .stuck
def eMtT (g : GMt) (o : EM) (m : AM) : EM := fun rho S => (o rho S).bind fun x => match x.1 with
  | .cell j => match x.2[j]? with
    | some (.dit _) => (m rho x.2).bind fun y => g x.1 y.1 y.2
    | _ => .stuck
  | _ => .stuck
def itemsT : List (List Key × SV) → Option (List SV)
  | [] => some []
  | (k, .fr d) :: r => (itemsT r).map (SV.fr (.tup [tupK k, d]) :: ·)
  | (_, .cell _) :: _ => none
def lkd (S : Store) : SV → Option (List (List Key × SV))
  | .cell k => match S[k]? with
    | some (.dil kvs) => some kvs
    | _ => none
  | _ => none
def ktP : Store → Prop := fun S => ktOk S = true
def iItT (m : EM) : IM := fun rho S => (m rho S).bind fun x => match lkd x.2 x.1 with
  | some kvs => match itemsT kvs with
    | some xs => .ok (⟨xs, ktP⟩, x.2)
    | none => .stuck
  | none => .stuck
def iKyT (m : EM) : IM := fun rho S => (m rho S).bind fun x => match lkd x.2 x.1 with
  | some kvs => .ok (⟨kvs.map fun p => .fr (tupK p.1), ktP⟩, x.2)
  | none => .stuck
inductive Pth where
  | v (i : Nat) | f (i : Nat) (n : Str)
def Pth.at : Pth → Slots → Store → Option Nat
  | .v i, rho, _ => match rho[i]? with
    | some (some (.cell k)) => some k
    | _ => none
  | .f i n, rho, S => match rho[i]? with
    | some (some x) => match insOf S x with
      | some (_, fs) => match fs.lookup n with
        | some (.cell k) => some k
        | _ => none
      | none => none
    | _ => none
theorem SlotsOk.writ {K : PySem.W.Frag} {ph : List Addr} {H : Hp} {sg : L2.St} {rho : Slots} {p : Addr} {o : HO} (hm : p ∈ ph) (h : SlotsOk K ph H sg rho) : SlotsOk K ph (upd H p o) sg rho :=
  ⟨h.1, fun i x q => let ⟨v, a, b⟩ := h.2 i x q; ⟨v, a, b.writ hm⟩⟩
def tOwn (tbl : Tbl) (m : EM) : TM := fun rho S => (m rho S).bind fun x => match insOf x.2 x.1 with
  | some (n, _) => match tbl.lookup n with
    | some f => (noX (f [x.1] x.2)).bind fun r => match r.1 with
      | .val (.fr (.bl b)) => .ok (b, r.2)
      | _ => .stuck
    | none => .stuck
  | none => .stuck
end

structure FunAtK (P : Program) (w : World) (K : PySem.W.Frag) (mg : Str → Option Value) (base : Heap) (k : Nat) (f : Addr) (m : KnM) : Prop where
  ex : ∃ fd ps, PySem.W.keepIn K (.ref f) = true ∧ PySem.W.isFn K (.ref f) = true ∧ Binds K fd ps [] ∧ FnDK P w K mg base k f fd ps m
section
variable {P : Program} {w : World} {K : PySem.W.Frag} {mg : Str → Option Value} {base : Heap}
end
def noXK (r : Res (SV × Store)) : Res (SV × Store) := match r with
  | .exc _ _ _ => .stuck
  | x => x
def mkEndK (k : Nat) (r : SV × Store) : Res (SV × Store) := match r.1 with
  | .fr .non => .ok (.cell k, r.2)
  | _ => .stuck
def eMakeK0 (n : Str) (f : KnM) : EM := fun _ S => (noXK (f [.cell S.length] (S ++ [.ins n []]))).bind (mkEndK S.length)
section
variable {X : Cx} {W : XW X.K} {pos p : Pos} {n : Str} {k : Nat} {f : KnM}
end
end DL

namespace DL
open PySem PySem.Spec PyProof.Rows L2 PySem.W

section
variable {prog : Program} {w : World} {A : Around} {s : Shared}
end
end DL

namespace DL
open PySem PySem.Spec PyProof.Rows L2 LamX

section
variable {X : Cx} {pins : List (Addr × Obj)} {σ : L2.St} {H : Hp} {s : Shared}
end
section
variable {prog : Program} {w : World} {A : Around} {E : Value → Shared → Prop} {s : Shared}
def KeyN (hb : Heap) (ps : List PyData) (s₁ : Shared) (v : Value) (s₂ : Shared) : Prop := ∃ h' tk a o vs n, s₂ = { s₁ with heap := h', toks := tk } ∧ (∀ b o, s₁.heap.get? b = some o → h'.get? b = some o) ∧ v = .ref a ∧ s₁.heap.objs.size ≤ a ∧ h'.get? a = some o ∧ o.cls = .type "tuple" ∧ o.data = .seq vs n ∧ ReadsAll hb vs.toList ps []
theorem KeyN.pure {hb : Heap} {ps : List PyData} {s₁ s₂ : Shared} {v : Value} (k : KeyN hb ps s₁ v s₂) (h : ∀ b o, hb.get? b = some o → s₁.heap.get? b = some o) : PySem.W.KeyPure (.tuple ps) s₁ v s₂ := by
  obtain ⟨h', tk, a, o, vs, n, rfl, k1, rfl, k2, k3, k4, k5, k6⟩ := k
  exact ⟨h', tk, rfl, k1, .tuple k3 k4 k5 (ReadsAll.keeps (fun b o e => k1 b o (h b o e)) k6)⟩
end
def minP {α : Type} (kd : α → PyData) (x : α) (xs : List α) : α := xs.foldl (fun a y => if PySem.W.dataLt (kd y) (kd a) then y else a) x
end DL

namespace DL
open PySem PySem.Spec PyProof.Rows L2 LamX

section
variable {P : Program} {w : World} {K : PySem.W.Frag} {mg : Str → Option Value} {base : Heap}
end
abbrev KG := D → Option (List PyData)
def keysG (kG : KG) : List D → Option (List (D × List PyData))
  | [] => some []
  | d :: ds => match kG d, keysG kG ds with
    | some k, some r => some ((d, k) :: r)
    | _, _ => none
def kd {α : Type} (p : α × List PyData) : PyData := .tuple p.2
def ksOk (ps : List (D × List PyData)) : Bool := ps.all fun p => decide ((kd p).depth ≤ 20) && !p.2.isEmpty && ps.all fun q => PySem.W.alike (kd p) (kd q)
def sortK (ps : List (D × List PyData)) : List D := (ps.mergeSort (PySem.W.dataLe false kd)).map (·.1)
def sortLG (kG : KG) (c : Bool) (a : SV) (S : Store) : Res (SV × Store) := match rdS S a with
  | some xs => match allFr xs with
    | some ds => match keysG kG ds with
      | some ps => if ksOk ps = true then newL0 c ((sortK ps).map SV.fr) S else .stuck
      | none => .stuck
    | none => .stuck
  | none => .stuck
def minLG (kG : KG) (a : SV) (S : Store) : Res (SV × Store) := match rdS S a with
  | some xs => match allFr xs with
    | some ds => match keysG kG ds with
      | some (p :: ps) => if ksOk (p :: ps) = true then okV (minP kd p ps).1 S else .stuck
      | _ => .stuck
    | none => .stuck
  | none => .stuck
section
variable {X : Cx} {W : XW X.K} {a : Expr} {ma : EM} {pos : Pos}
def eSortL (kG : KG) (c : Bool) (m : EM) : EM := fun rho S => (m rho S).bind fun x => sortLG kG c x.1 x.2
def eMinL (kG : KG) (m : EM) : EM := fun rho S => (m rho S).bind fun x => minLG kG x.1 x.2
end
end DL

namespace DL
open PySem PySem.Spec PyProof.Rows L2

section
variable {P : Program} {w : World} {K : PySem.W.Frag} {d : Addr} {o : Obj} {es : Array DictEntry} {ep : Nat} {tg : Expr}
end
section
variable {X : Cx} {tg e : Expr} {td : TE} {apos cpos : Pos}
end
def iVlT (m : EM) : IM := fun rho S => (m rho S).bind fun x => match lkd x.2 x.1 with
  | some kvs => .ok (⟨kvs.map (·.2), ktP⟩, x.2)
  | none => .stuck
section
variable {X : Cx} {W : XW X.K} {a b c : Expr} {ma mb mc : EM} {pos : Pos}
end
def eProp (cc : Bool) (n : Str) (f : FnM) (o : EM) : EM := fun rho S => (o rho S).bind fun x => match insOf x.2 x.1 with
  | some (n', _) => if n' = n then (noX (f [x.1] x.2)).bind (back cc) else .stuck
  | none => .stuck
section
variable {X : Cx} {W : XW X.K} {a : Expr} {ma : EM} {pos : Pos}
end
def spX (K : PySem.W.Frag) (fs : List Str) : Sp := fun vs H Q _ => ∃ (a C : Addr) (ws : List V), vs = .ref a :: ws ∧ ws.length = fs.length ∧ OexC K C ∧ (∀ f ∈ fs, PySem.W.findIn K (.ref C) f = some none) ∧ H a = some (exo a C none) ∧
  ∀ (dx : Addr) (H' : Hp), H dx = none → dx ≠ a → H' a = some (exo a C (some dx)) → H' dx = some (exd dx (fs.zip ws).reverse) → (∀ b, b ≠ a → b ≠ dx → H' b = H b) → Q .non H'
theorem spX1_len {K : PySem.W.Frag} {f p : Str} (vs : List V) (H : Hp) (Q : VK) (E : XK) (h : spX K [f] vs H Q E) : vs.length = (["self", p] : List Str).length := by
  obtain ⟨a, C, ws, rfl, h, _⟩ := h
  simp [h]
theorem spX4_len {K : PySem.W.Frag} {f1 f2 f3 f4 p1 p2 p3 p4 : Str} (vs : List V) (H : Hp) (Q : VK) (E : XK) (h : spX K [f1, f2, f3, f4] vs H Q E) : vs.length = (["self", p1, p2, p3, p4] : List Str).length := by
  obtain ⟨a, C, ws, rfl, h, _⟩ := h
  simp [h]
theorem xread1 {K : PySem.W.Frag} {vs : List V} {H : Hp} {Q : VK} {E : XK} {z f p : Str} (h : spX K [f] vs H Q E) :
    tSeq (tDrop (tVeI K (tCons (tVar 0) (tCons (tC (.str z)) tNil)))) (tSeq (tOst K f (tVar 0) (tVar 1)) tNext) { nx := fun _ H' => Q .non H', rt := Q } (L2.start ["self", p] vs) H := by
  obtain ⟨a, C, ws, rfl, hl, T, hf, ea, q⟩ := h
  match ws, hl with
  | [v1], _ =>
    refine ⟨.ref a, rfl, a, C, [.str z], rfl, (by simp), T, ea, ?_⟩
    refine ⟨v1, rfl, .ref a, rfl, a, C, rfl, T, hf f (by simp), .inl ⟨ea, fun dx hd ne => q dx _ hd ne upd_same (by rw [upd_ne ne, upd_same]; rfl) fun b h1 h2 => by rw [upd_ne h1, upd_ne h2]⟩⟩
theorem xread4 {K : PySem.W.Frag} {vs : List V} {H : Hp} {Q : VK} {E : XK} {z f1 f2 f3 f4 p1 p2 p3 p4 : Str} (h : spX K [f1, f2, f3, f4] vs H Q E) :
    tSeq (tDrop (tVeI K (tCons (tVar 0) (tCons (tC (.str z)) tNil)))) (tSeq (tOst K f1 (tVar 0) (tVar 1)) (tSeq (tOst K f2 (tVar 0) (tVar 2)) (tSeq (tOst K f3 (tVar 0) (tVar 3)) (tSeq (tOst K f4 (tVar 0) (tVar 4)) tNext))))
      { nx := fun _ H' => Q .non H', rt := Q } (L2.start ["self", p1, p2, p3, p4] vs) H := by
  obtain ⟨a, C, ws, rfl, hl, T, hf, ea, q⟩ := h
  match ws, hl with
  | [v1, v2, v3, v4], _ =>
    refine ⟨.ref a, rfl, a, C, [.str z], rfl, (by simp), T, ea, ?_⟩
    refine ⟨v1, rfl, .ref a, rfl, a, C, rfl, T, hf f1 (by simp), .inl ⟨ea, fun dx hd ne => ?_⟩⟩
    have e1 : upd (upd H dx (exd dx [(f1, v1)])) a (exo a C (some dx)) a = some (exo a C (some dx)) := upd_same
    have e2 : upd (upd H dx (exd dx [(f1, v1)])) a (exo a C (some dx)) dx = some (exd dx [(f1, v1)]) := by rw [upd_ne ne, upd_same]
    have k : ∀ b, b ≠ a → b ≠ dx → upd (upd H dx (exd dx [(f1, v1)])) a (exo a C (some dx)) b = H b := fun b h1 h2 => by rw [upd_ne h1, upd_ne h2]
    generalize upd (upd H dx (exd dx [(f1, v1)])) a (exo a C (some dx)) = G at e1 e2 k
    have na : a ≠ dx := Ne.symm ne
    refine ⟨v2, rfl, .ref a, rfl, a, C, rfl, T, hf f2 (by simp), .inr ⟨dx, _, e1, e2, by simp, ?_⟩⟩
    refine ⟨v3, rfl, .ref a, rfl, a, C, rfl, T, hf f3 (by simp), .inr ⟨dx, _, by rw [upd_ne na]; exact e1, upd_same, by simp, ?_⟩⟩
    refine ⟨v4, rfl, .ref a, rfl, a, C, rfl, T, hf f4 (by simp), .inr ⟨dx, _, by rw [upd_ne na, upd_ne na]; exact e1, upd_same, by simp, ?_⟩⟩
    refine q dx _ hd ne (by rw [upd_ne na, upd_ne na, upd_ne na]; exact e1) (by rw [upd_same]; rfl) fun b h1 h2 => by rw [upd_ne h2, upd_ne h2, upd_ne h2]; exact k b h1 h2
structure ExF (P : Program) (w : World) (K : PySem.W.Frag) (mg : Str → Option Value) (base : Heap) (k : Nat) (C : Str) (fs : List Str) : Prop where
  ex : ∃ fd ps, OxC K (He.ga K C) (He.ma K (He.ga K C) "__init__") ∧ FnOk P w K mg base CX0 k (He.ma K (He.ga K C) "__init__") fd ps (spX K fs) ∧ Binds K fd ps [] ∧ mg C = some (.ref (He.ga K C)) ∧ ∀ f ∈ fs, L2.XfC K (He.ga K C) ∧ PySem.W.findIn K (.ref (He.ga K C)) f = some none
theorem xf_nil {K : PySem.W.Frag} {C : Str} : ∀ f ∈ ([] : List Str), L2.XfC K (He.ga K C) ∧ PySem.W.findIn K (.ref (He.ga K C)) f = some none := fun _ h => nomatch h
theorem xf_of {K : PySem.W.Frag} {C f : Str} (c : fcXf C f K = true) : L2.XfC K (He.ga K C) ∧ PySem.W.findIn K (.ref (He.ga K C)) f = some none := by
  unfold fcXf at c
  rw [Bool.and_eq_true] at c
  exact ⟨L2.xfB_ok c.1, of_decide_eq_true c.2⟩
theorem xf_cons {K : PySem.W.Frag} {C f : Str} {fs : List Str} (c : fcXf C f K = true) (h : ∀ f ∈ fs, L2.XfC K (He.ga K C) ∧ PySem.W.findIn K (.ref (He.ga K C)) f = some none) : ∀ g ∈ f :: fs, L2.XfC K (He.ga K C) ∧ PySem.W.findIn K (.ref (He.ga K C)) g = some none := fun g hg =>
  (List.mem_cons.mp hg).elim (fun e => e ▸ xf_of c) (h g)
theorem exf_of {P : Program} {w : World} {K : PySem.W.Frag} {mg : Str → Option Value} {base : Heap} {k : Nat} {C : Str} {fs ps : List Str} {fd : FuncData} (g : mg C = some (.ref (He.ga K C))) (T : OxC K (He.ga K C) (He.ma K (He.ga K C) "__init__"))
    (F : FnOk P w K mg base CX0 k (He.ma K (He.ga K C) "__init__") fd ps (spX K fs)) (hb : Binds K fd ps []) (h : ∀ f ∈ fs, L2.XfC K (He.ga K C) ∧ PySem.W.findIn K (.ref (He.ga K C)) f = some none) : ExF P w K mg base k C fs := ⟨fd, ps, T, F, hb, g, h⟩
def sRsF (C : Str) (fs : List Str) (m : AM) : SM := fun rho S => (m rho S).bind fun x => match allFr x.1 with
  | some ds => if ds.length = fs.length ∧ fs.length ≤ 900 ∧ fs ≠ [] then .exc ⟨C, (fs.zip ds).reverse⟩ rho x.2 else .stuck
  | none => .stuck
section
variable {X : Cx} {Wq : WX} {pos p : Pos} {e : Expr} {es : List Expr} {m : AM}
end
def XfsOk (K : PySem.W.Frag) (f : Str) (Cs : List Str) : Prop := ∀ C ∈ Cs, L2.XfC K (He.ga K C) ∧ PySem.W.findIn K (.ref (He.ga K C)) f = some none
theorem xfs_nil {K : PySem.W.Frag} {f : Str} : XfsOk K f [] := fun _ h => nomatch h
theorem xfs_cons {K : PySem.W.Frag} {C f : Str} {Cs : List Str} (c : fcXf C f K = true) (h : XfsOk K f Cs) : XfsOk K f (C :: Cs) := fun D hD => (List.mem_cons.mp hD).elim (fun e => e ▸ xf_of c) (h D)
section
variable {X : Cx} {a : Addr} {oe : Obj} {d : Option Addr} {pn : List (Addr × Obj)} {ex : Expr} {m : EM} {pos : Pos} {f : Str} {e : Exc} {Cs : List Str}
end
def eMethX (cc : Bool) (tbl : Tbl) (nm : Str) (o : EM) (m : AM) : EM := fun rho S => (o rho S).bind fun x => match metOf tbl nm x.2 x.1 with
  | some f => (m rho x.2).bind fun y => (cutX y.2.length rho (f (x.1 :: y.1) y.2)).bind (back cc)
  | none => .stuck
section
variable {X : Cx} {Wq : WX} {o e : Expr} {es : List Expr} {mo : EM} {m : AM} {nm : Str} {tbl : Tbl} {apos pos : Pos} {k : Nat}
end
end DL

namespace DL
open PySem PySem.Spec PyProof.Rows L2 PySem.W PySem.SeqAt

section
variable {A : Around} {s : Shared}
end
end DL

namespace DL
open PySem PySem.Spec PyProof.Rows L2
section
variable {prog : Program} {w : World} {A : Around} {s : Shared} {R : Result → Shared → Prop}
end
end DL

namespace DL
open PySem PySem.Spec PyProof.Rows L2
section
variable {X : Cx} {Wq : WX} {e : Expr} {es : List Expr} {m : AM} {pos p : Pos} {n : Str} {k : Nat} {f : FnM}
end
section
variable {X : Cx} {W : XW X.K} {e : Expr} {es : List Expr} {ta : TA} {m : AM} {pos p : Pos}
theorem pe_oexV {x : Str} {C fI : Addr} {k : Nat} {fd : FuncData} {ps : List Str} {sp : Sp} (T : OxC X.K C fI) (F1 : FnOk X.prog X.w X.K X.mg X.base CX0 k fI fd ps sp) (hr : Room (k + 1) X.A) (hb : Binds X.K fd ps []) (hg : Gl X x) (hm : X.mg x = some (.ref C)) (ha : PA X (e :: es) ta)
    (hdb : (x == ("__debug__" : Str)) = false) (he : starEach (e :: es) X.env = (false, eval e X.env) :: starEach es X.env) (hpl : (backTo pos (starEach es X.env)).any (·.1) = false) :
    PE X (.Call (.Name x p) (e :: es) [] pos) (fun σ H Q => ta σ H fun vs H1 => vs.length ≤ 1000 ∧ ∀ a, H1 a = none → sp (.ref a :: vs) (upd H1 a (exo a C none)) (fun v H2 => v = .non ∧ Q (.ref a) H2) (fun _ _ _ => False)) := by
  refine ⟨fun pins s σ H Q I h => ?_⟩
  obtain ⟨nm, q, N, bs, bm, sn, sub, ab, col, dd, k0, k1, k2, k3, k5, hC, hbm⟩ := T.ox.cls
  refine wpAny_Call_Name_kw (ld_glob I hg hm ?_ hdb)
  refine PySem.W.callWith_K (h₀ := X.base) I.ok.mod.kin T.ox.kC (thn (ha.run pos pins s σ H _ I h) fun us s1 ⟨vs, H1, I1, r1, hz, q1⟩ => ⟨I1.kIn, ?_⟩) he hpl
  show wpAny _ _ (call (.ref C) us) _ _ _
  obtain ⟨hp, g, dr, tk, os⟩ := s1
  have hsz : hp.objs.size ≤ hp.objs.size + 1 := Nat.le_succ _
  have hn : H1 (hp.objs.size + 1) = none := I1.hok.fresh hsz
  have hq := q1 (hp.objs.size + 1) hn
  have kk : ∀ b o, hp.get? b = some o → ((hp.push (PySem.W.kdv_tup us)).push (PySem.HandSPX.excO C hp.objs.size)).get? b = some o := fun b o e => Heap.get?_push_of_some _ (Heap.get?_push_of_some _ e)
  have hget : ((hp.push (PySem.W.kdv_tup us)).push (PySem.HandSPX.excO C hp.objs.size)).get? (hp.objs.size + 1) = some (PySem.HandSPX.excO C hp.objs.size) := by heap_get
  have I2 : Inv X pins σ (upd H1 (hp.objs.size + 1) (exo (hp.objs.size + 1) C none)) ⟨(hp.push (PySem.W.kdv_tup us)).push (PySem.HandSPX.excO C hp.objs.size), g, dr, tk, os⟩ :=
    I1.laid (t' := tk) (a := hp.objs.size + 1) (o := exo (hp.objs.size + 1) C none) (h' := (hp.push (PySem.W.kdv_tup us)).push (PySem.HandSPX.excO C hp.objs.size)) kk hsz (exo_ok hget)
  have r2 : Vals (V.ref (hp.objs.size + 1) :: vs) (Value.ref (hp.objs.size + 1) :: us) := .cons rfl r1
  have hl : (Value.ref (hp.objs.size + 1) :: us ++ []).length = ps.length := by
    rw [List.append_nil, ← r2.length]
    exact F1.len _ _ _ _ hq
  have hus : us.length ≤ sizeLine := by
    rw [← Paired.length r1, sizeLine_eq]
    omega
  have bt := hb ⟨(hp.push (PySem.W.kdv_tup us)).push (PySem.HandSPX.excO C hp.objs.size), g, dr, tk, os⟩ (Value.ref (hp.objs.size + 1) :: us) I2.kIn hl
  rw [List.append_nil] at bt
  refine wpAny_call (PySem.HandSPX.call_own F.excBase_ValueError (fun Y => PySem.HandSPX.refsVE_contains Y bm hbm) (I1.kIn _ _ hC) (PySem.W.looks_findIn I1.kIn T.iC) (fun self => PySem.W.bind_fn I1.kIn self T.tI) hus
    (codeAny_mono (F1.run _ X.stack _ _ ⟨Value.ref (hp.objs.size + 1) :: us, []⟩ (Value.ref (hp.objs.size + 1) :: us) _ _ (fun _ _ _ => False) (hr.make C us []) (I2.env0.make C us []) bt r2 hq) fun r s' hq' => ?_))
  cases r with
  | error er => exact pass0 pins σ _ _ er s' I2 hq'
  | ok fl =>
    cases fl with
    | ret u =>
      obtain ⟨v, H2, I3, rv, ev, q2⟩ := I2.after hq'
      subst ev
      exact ⟨rv, ⟨V.ref (hp.objs.size + 1), H2, I3, rfl, q2⟩⟩
    | next => exact False.elim hq'
    | brk => exact False.elim hq'
    | cont => exact False.elim hq'
end
end DL

namespace DL
open PySem PySem.Spec PyProof.Rows L2
end DL

namespace DL
open PySem PySem.Spec PyProof.Rows L2
section
variable {X : Cx} {W : XW X.K} {a b : Expr} {pos p tpos : Pos} {elts : List Expr} {kk : Nat} {m : AM}
end
section
variable {X : Cx} {W : XW X.K} {a b c : Expr} {ma mb mc : EM} {pos : Pos} {n : Str} {kvs : List (Str × Str)}
end
section
variable {X : Cx} {W : XW X.K} {a b c : Expr} {ma mb mc : EM} {pos : Pos}
end
end DL

namespace DL
open PySem PySem.Spec PyProof.Rows L2
section
variable {X : Cx} {W : XW X.K} {e : Expr} {es : List Expr} {m : AM} {pos p : Pos} {n : Str} {k : Nat} {f : KnM}
end
end DL

namespace DL
open PySem PySem.Spec PyProof.Rows L2
section
variable {X : Cx} {W : XW X.K} {a b c : Expr} {ma mb mc : EM} {pos : Pos} {tg : Expr}
end
section
variable {X : Cx} {W : XW X.K} {a b c : Expr} {ma mb mc : EM} {pos : Pos} {tg : Expr}
end
section
variable {X : Cx} {W : XW X.K} {a b c : Expr} {ma mb mc : EM} {pos : Pos}
end
end DL

namespace DL
open PySem PySem.Spec PyProof.Rows L2
section
variable {P : Program} {w : World} {K : PySem.W.Frag} {mg : Str → Option Value} {base : Heap}
end
section
variable {X : Cx} {W : XW X.K} {pos : Pos}
end
end DL

namespace DL
open PySem PySem.Spec PyProof.Rows L2
section
variable {X : Cx} {Wq : WX} {e : Expr} {es : List Expr} {m : AM} {pos p : Pos} {n : Str} {k : Nat} {f : KnM}
end
end DL

namespace DL
open PySem PySem.Spec PyProof.Rows L2
section
variable {X : Cx} {W : XW X.K} {a tg : Expr} {ma : EM}
end
end DL

namespace DL
open PySem PySem.Spec PyProof.Rows L2
section
variable {X : Cx} {W : XW X.K} {a b c : Expr} {ma mb mc : EM} {pos : Pos}
end
end DL

namespace DL
open PySem PySem.Spec PyProof.Rows L2
section
variable {X : Cx}
end
section
variable {X : Cx} {W : XW X.K}
end
end DL

namespace DL
open PySem PySem.Spec PyProof.Rows L2
section
variable {X : Cx} {W : XW X.K} {a b c : Expr} {ma mb mc : EM} {pos p p2 pos2 q : Pos}
end
section
variable {X : Cx} {pins : List (Addr × Obj)} {σ : L2.St} {H : Hp} {s : Shared} {a : Addr} {r : Value} {d : V} {k : List Key} {b : Addr} {A : Around} {E : Value → Shared → Prop}
end
section
variable {X : Cx} {W : XW X.K} {a b c : Expr} {ma mb mc : EM}
end
end DL

namespace DL
open PySem PySem.Spec PyProof.Rows L2
section
variable {X : Cx} {W : XW X.K}
end
end DL

namespace DL
open PySem PySem.Spec PyProof.Rows L2
section
variable {X : Cx} {W : XW X.K} {a : Expr} {ma : EM} {pos : Pos}
end
end DL

namespace DL
open PySem PySem.Spec PyProof.Rows L2
section
variable {prog : Program} {w : World} {A : Around} {E : Value → Shared → Prop} {s : Shared}
end
section
variable {P : Program} {w : World} {A : Around} {E : Value → Shared → Prop} {s : Shared}
end
end DL

namespace DL
open PySem PySem.Spec PyProof.Rows L2
section
variable {P : Program} {w : World} {A : Around} {E : Value → Shared → Prop} {s : Shared}
end
section
variable {X : Cx}
end
section
variable {K : PySem.W.Frag} {ph : List Addr} {H : Hp}
end
section
variable {X : Cx} {W : XW X.K} {a : Expr} {m : EM} {p p2 q pos : Pos}
end
end DL

namespace DL
open PySem PySem.Spec PyProof.Rows L2
section
variable {prog : Program} {w : World} {A : Around} {E : Value → Shared → Prop} {s : Shared}
end
section
variable {X : Cx}
end
section
variable {X : Cx} {W : XW X.K}
end
end DL

namespace DL
open PySem PySem.Spec PyProof.Rows L2
section
variable {X : Cx} {W : XW X.K} {a b c : Expr} {ma mb mc : EM}
end
end DL

namespace DL
open PySem PySem.Spec PyProof.Rows L2
section
variable {X : Cx} {W : XW X.K}
end
end DL

namespace DL
open PySem PySem.Spec PyProof.Rows L2
section
variable {X : Cx} {W : XW X.K}
end
end DL

namespace DL
open PySem PySem.Spec PyProof.Rows L2
section
variable {X : Cx} {W : XW X.K} {a b : Expr} {ma mb : EM} {pos : Pos}
end
end DL

namespace DL
open PySem PySem.Spec PyProof.Rows L2
section
variable {M : Model} {A : Around} {E : Value → Shared → Prop} {s : Shared} {env : Env}
end
section
variable {X : Cx} {Wq : WX}
def TakesF (X : Cx) (W : WX) : Prop := ∀ sg, PassesAt (L2.CX X.prog X.w) X sg (WE W sg)
theorem Takes.f (t : Takes X Wq) : TakesF X Wq := fun sg => passAt t sg
end
end DL

namespace DL
open PySem PySem.Spec PyProof.Rows L2
section
variable {X : Cx} {Wq : WX}
end
section
variable {X : Cx} {Wq : WX} {a b c tg : Expr} {pos : Pos}
end
end DL

namespace DL
open PySem PySem.Spec PyProof.Rows L2 L2H
section
variable {P : Program} {w : World} {K : PySem.W.Frag} {mg : Str → Option Value} {base : Heap}
end
theorem _root_.L2H.RoomH.units {k : Nat} {A : Around} (hr : RoomH k A) : A.units + 64 < cLine := by
  have := hr.un
  omega
section
variable {X : Cx} {W : XW X.K} {e0 : Expr} {es : List Expr} {pos p : Pos} {m : AM} {a : Addr} {oe : Obj} {e : Exc} {d : Option Addr}
end
section
variable {X : Cx} {W : XW X.K}
end
end DL

namespace DL
open PySem PySem.Spec PyProof.Rows L2

def allSnK (f : SV → Option D) : List (Key × SV) → Option (List (Key × D))
  | [] => some []
  | (k, x) :: xs => match f x, allSnK f xs with
    | some d, some ds => some ((k, d) :: ds)
    | _, _ => none
def snapN (S : Store) : Nat → SV → Option D
  | 0, x => snap S x
  | _ + 1, .fr d => some d
  | n + 1, .cell k => match S[k]? with
    | some (.lst xs) => (allSn (snapN S n) xs).map D.lst
    | some (.tup xs) => (allSn (snapN S n) xs).map D.tup
    | some (.dic kvs) => (allSnK (snapN S n) kvs).map D.dct
    | _ => none
theorem allSnK_ok {K : PySem.W.Frag} {ph : List Addr} {H : Hp} {f : SV → Option D} (hf : ∀ {v : V} {x : SV} {d : D}, DenS K ph H v x → f x = some d → Den K H v d) :
    ∀ {vs : List (Key × V)} {xs : List (Key × SV)} {ds : List (Key × D)}, DenSK K ph H vs xs → allSnK f xs = some ds → DenK K H vs ds
  | [], [], ds, .nil, e => by simp [allSnK] at e; subst e; exact .nil
  | (k1, v) :: vs, (k2, x) :: xs, ds, .cons h t, e => by
    obtain ⟨h1, h2⟩ := h
    dsimp only at h1 h2
    subst h1
    unfold allSnK at e
    split at e
    · rename_i d r q1 q2
      cases e
      exact .cons (hf h2 q1) (allSnK_ok hf t q2)
    · cases e
theorem allSn_ok {K : PySem.W.Frag} {ph : List Addr} {H : Hp} {S : Store} {f : SV → Option D} (hf : ∀ {v : V} {x : SV} {d : D}, DenS K ph H v x → f x = some d → Den K H v d) :
    ∀ {vs : List V} {xs : List SV} {ds : List D}, DenSs K ph H vs xs → allSn f xs = some ds → Dens K H vs ds
  | _, _, ds, .nil, e => by simp [allSn] at e; subst e; exact .nil
  | _, _, ds, .cons h t, e => by
    unfold allSn at e
    split at e
    · rename_i d r h1 h2
      cases e
      exact .cons (hf h h1) (allSn_ok (S := S) hf t h2)
    · cases e
theorem snapN_ok {K : PySem.W.Frag} {ph : List Addr} {H : Hp} {S : Store} (g : Good K ph H S) : ∀ (n : Nat) {v : V} {x : SV} {d : D}, DenS K ph H v x → snapN S n x = some d → Den K H v d
  | 0, v, x, d, h, e => snap_ok g h e
  | n + 1, v, .fr d', d, h, e => by
    simp only [snapN, Option.some.injEq] at e
    subst e
    exact Den.mono hide_sub h
  | n + 1, v, .cell k, d, h, e => by
    obtain ⟨p, h1, rfl⟩ := h
    unfold snapN at e
    split at e
    · rename_i xs hk
      simp only [Option.map_eq_some_iff] at e
      obtain ⟨ds, h2, rfl⟩ := e
      obtain ⟨q, h3, vs, h4, h5⟩ := g.at hk
      rw [h1] at h3; cases h3
      exact .lst h4 (allSn_ok (S := S) (fun a b => snapN_ok g n a b) h5 h2)
    · rename_i xs hk
      simp only [Option.map_eq_some_iff] at e
      obtain ⟨ds, h2, rfl⟩ := e
      obtain ⟨q, h3, vs, h4, h5⟩ := g.at hk
      rw [h1] at h3; cases h3
      exact .tup h4 (allSn_ok (S := S) (fun a b => snapN_ok g n a b) h5 h2)
    · rename_i xs hk
      simp only [Option.map_eq_some_iff] at e
      obtain ⟨ds, h2, rfl⟩ := e
      obtain ⟨q, h3, vs, h4, h5⟩ := g.at hk
      rw [h1] at h3; cases h3
      exact .dct h4 (allSnK_ok (fun a b => snapN_ok g n a b) h5 h2)
    · cases e
def reprNG : GA := fun as S => match as with
  | [a] => match snapN S 2 a with
    | some d => if rOkX d then okV (.str (rTxtX d)) S else .stuck
    | none => .stuck
  | _ => .stuck
section
variable {X : Cx} {W : XW X.K}
theorem reprN_ok : OpA X W (rReprX X.K) reprNG := by
  intro ph S H xs as Q g d h
  unfold reprNG at h
  split at h
  · obtain ⟨v, rfl, dv⟩ := one_of d
    split at h
    · rename_i e he
      split at h
      · rename_i hp
        exact ⟨v, e, rfl, snapN_ok g 2 dv he, hp, fin_v g (.str _) h⟩
      · exact h.elim
    · exact h.elim
  · exact h.elim
end

section
variable {X : Cx} {W : XW X.K}
end

abbrev TblK := List (Str × KnM)
structure MetKD (P : Program) (w : World) (K : PySem.W.Frag) (mg : Str → Option Value) (base : Heap) (k : Nat) (nm n : Str) (m : KnM) : Prop where
  ex : ∃ f, Cls K (He.ga K n) ∧ Meth K (He.ga K n) nm f ∧ FunAtK P w K mg base k f m
section
variable {P : Program} {w : World} {K : PySem.W.Frag} {mg : Str → Option Value} {base : Heap} {j k : Nat} {nm n : Str} {m : KnM} {tbl : TblK}
theorem FnDK.mono {f : Addr} {fd : FuncData} {ps : List Str} (F : FnDK P w K mg base j f fd ps m) (h : j ≤ k) : FnDK P w K mg base k f fd ps m :=
  ⟨F.len, fun A outer s H args us vs Q E hg hr => F.run A outer s H args us vs Q E hg (hr.mono h)⟩
theorem FunAtK.mono {f : Addr} (F : FunAtK P w K mg base j f m) (h : j ≤ k) : FunAtK P w K mg base k f m := by
  obtain ⟨fd, ps, a, b, c, d⟩ := F.ex
  exact ⟨fd, ps, a, b, c, d.mono h⟩
theorem MetKD.mono (h : MetKD P w K mg base j nm n m) (hk : j ≤ k) : MetKD P w K mg base k nm n m := by
  obtain ⟨f, a, b, c⟩ := h.ex
  exact ⟨f, a, b, c.mono hk⟩
end
section
variable {X : Cx} {W : XW X.K} {o e : Expr} {es : List Expr} {mo : EM} {m : AM} {pos apos : Pos} {nm : Str} {tbl : TblK} {k : Nat} {A : Around} {H : Hp} {s : Shared} {pins : List (Addr × Obj)} {σ : L2.St} {f : Addr} {mk : KnM}
end
end DL

namespace DL
open PySem PySem.Spec PyProof.Rows L2

section
variable {X : Cx} {W : XW X.K}
variable {tg : Expr} {pos : Pos}
end
end DL

namespace DL
open PySem PySem.Spec PyProof.Rows L2

section
variable {X : Cx} {W : XW X.K} {tg a : Expr} {es : List Expr} {m : AM} {x : Str} {p pos : Pos}
end
end DL

namespace DL
open PySem PySem.Spec PyProof.Rows L2

section
variable {P : Program} {w : World} {K : PySem.W.Frag} {F H : Hp} {h : Heap}
end
section
variable {X : Cx} {pos : Pos}
end
section
variable {X : Cx} {o i : Expr} {pos : Pos} {td ty : TE}
end
section
variable {K : PySem.W.Frag} {F : Hp}
end
section
variable {X : Cx} {W : XW X.K} {a b : Expr} {ma mb : EM} {pos : Pos}
end
end DL

namespace DL
open PySem PySem.Spec PyProof.Rows L2
def tOfI (K : PySem.W.Frag) (W : XW K) (m : IM) : TI := fun sg H R => ∃ ph S rho, Good K ph H S ∧ SlotsOk K ph H sg rho ∧ holds (m rho S) (postI K ph H R) (W.rel ph H)
theorem PID.pi {X : Cx} {W : XW X.K} {tg iter : Expr} {m : IM} (h : PID X W tg iter m) : PI X tg iter (tOfI X.K W m) := by
  obtain ⟨t, p, s⟩ := h.ex
  refine ⟨fun pins s' sg H R I q => ?_⟩
  obtain ⟨ph, S, rho, g, so, hh⟩ := q
  exact p.run pins s' sg H R I (s ph S H sg rho R g so hh)
section
variable {X : Cx} {W : XW X.K}
variable {tg tg1 : Expr} {pos : Pos}
end
end DL

namespace DL
open PySem PySem.Spec PyProof.Rows L2
section
variable {prog : Program} {w : World} {A : Around} {R : Result → Shared → Prop} {s : Shared} {kx vx t0 i0 t1 i1 : Expr} {ifs0 ifs1 : List Expr} {scope : Scope} {pos : Pos} {it acc : Value} {D : Addr} {env : Env}
end

section
variable {X : Cx}
end
section
variable {X : Cx} {W : XW X.K}
variable {tg tg1 : Expr} {pos : Pos}
end
end DL

namespace DL
open PySem PySem.Spec PyProof.Rows L2
section
variable {X : Cx}
end
section
variable {X : Cx} {W : XW X.K}
variable {tg : Expr} {pos : Pos}
end
end DL

namespace DL
open PySem PySem.Spec PyProof.Rows L2
def ItrK (k : Bool) (h : Heap) (i a : Addr) (j : Nat) : Prop := if k then h.IsTupleIter i a j else h.IsListIter i a j
theorem ItrK.at {k : Bool} {h h' : Heap} {i a : Addr} {j : Nat} (x : ItrK k h i a j) (hk : ∀ o, h.get? i = some o → h'.get? i = some o) : ItrK k h' i a j := by
  cases k
  · exact Heap.IsListIter.at (h := h) x hk
  · exact Heap.IsTupleIter.at (h := h) x hk
section
variable {X : Cx} {W : XW X.K} {a b : Expr} {pos p tpos : Pos} {elts : List Expr} {kk : Nat} {m : AM}
end
section
variable {X : Cx} {W : XW X.K} {a b : Expr} {ma mb : EM} {pos : Pos}
end
section
variable {X : Cx} {W : XW X.K} {e : Expr} {es : List Expr} {pos p : Pos} {m : AM}
end
end DL

namespace DL
open PySem PySem.Spec PyProof.Rows L2
section
variable {X : Cx}
end
section
variable {X : Cx} {W : XW X.K}
end
section
variable {X : Cx} {W : XW X.K}
end
section
variable {X : Cx} {W : XW X.K}
end
end DL

namespace DL
open PySem PySem.Spec PyProof.Rows L2
section
variable {X : Cx}
end
section
variable {X : Cx} {W : XW X.K} {tg : Expr} {pos : Pos}
end
end DL

namespace DL
open PySem PySem.Spec PyProof.Rows L2

section
variable {X : Cx}
variable {W : XW X.K} {a b : Expr} {ma mb : EM} {pos : Pos}
end

section
variable {X : Cx} {W : XW X.K}
end
section
variable {X : Cx} {W : XW X.K} {a b : Expr} {ma mb : EM} {pos : Pos}
end
end DL

namespace DL
open PySem PySem.Spec PyProof.Rows L2
section
variable {X : Cx} {W : XW X.K}
end
end DL

namespace DL
open PySem PySem.Spec PyProof.Rows L2
section
variable {X : Cx} {W : XW X.K}
end
end DL

namespace DL
open PySem PySem.Spec PyProof.Rows L2
theorem dSF_zip {K : PySem.W.Frag} {ph : List Addr} {H : Hp} : ∀ {fs : List Str} {vs : List V} {xs : List SV}, DenSs K ph H vs xs → DenSF K ph H (fs.zip vs) (fs.zip xs)
  | [], _, _, _ => by simp; exact .nil
  | _ :: _, _, _, .nil => .nil
  | _ :: fs, _, _, .cons a r => .cons ⟨rfl, a⟩ (dSF_zip r)
def eErrV (C : Str) (fs : List Str) (m : AM) : EM := fun rho S => (m rho S).bind fun x => if x.1.length = fs.length then .ok (.cell x.2.length, x.2 ++ [.exc C (fs.zip x.1).reverse]) else .stuck
def eErr0 (C : Str) : EM := fun _ S => .ok (.cell S.length, S ++ [.exc C []])
section
variable {X : Cx} {W : XW X.K} {e : Expr} {es : List Expr} {ta : TA} {m : AM} {pos p : Pos}
theorem pd_errV {C : Str} {fs : List Str} {k : Nat} (T : ExF X.prog X.w X.K X.mg X.base k C fs) (hr : Room (k + 1) X.A) (ha : PDA X W (e :: es) m) (hz : fs.length ≤ 900 := by decide) (hg : Gl X C := by rfl) (hdb : (C == ("__debug__" : Str)) = false := by decide)
    (he : starEach (e :: es) X.env = (false, eval e X.env) :: starEach es X.env := by rfl) (hpl : (backTo pos (starEach es X.env)).any (·.1) = false := by rfl) :
    PD X W (.Call (.Name C p) (e :: es) [] pos) (eErrV C fs m) := by
  obtain ⟨fd, ps, O, F, hb, g, hx⟩ := T.ex
  obtain ⟨t, pa, st⟩ := ha.ex
  refine ⟨_, pe_oexV O F hr hb hg g pa hdb he hpl, fun ph S H sg rho Q gd so h => st ph S H sg rho _ gd so (holds_imp (holds_bind h) (fun x hx' => ?_) fun _ _ _ q => q)⟩
  intro ph1 vs H1 x1 g1 d1
  obtain ⟨xs, S1⟩ := x
  dsimp only at *
  split at hx'
  · rename_i hl
    have hlen : vs.length = fs.length := by rw [d1.length]; exact hl
    refine ⟨by omega, fun a ha1 => ⟨a, He.ga X.K C, vs, rfl, hlen, O.ox, fun f hf => (hx f hf).2, upd_same, fun dx H' hd ne e1 e2 e3 => ⟨rfl, ?_⟩⟩⟩
    have hd0 : H1 dx = none := by rw [upd_ne ne] at hd; exact hd
    have eH : H' = upd (upd H1 dx (exd dx (fs.zip vs).reverse)) a (exo a (He.ga X.K C) (some dx)) := by
      funext b
      by_cases z : b = a
      · rw [z, upd_same, e1]
      · rw [upd_ne z]
        by_cases y : b = dx
        · rw [y, upd_same, e2]
        · rw [upd_ne y, e3 b z y, upd_ne z]
    subst eH
    have hda : dx ≠ a := ne
    have xa : DL.Ext ph1 H1 ph1 (upd H1 dx (exd dx (fs.zip vs).reverse)) := Ext.fresh hd0
    have ga := g1.fresh (o := exd dx (fs.zip vs).reverse) hd0
    have ha2 : upd H1 dx (exd dx (fs.zip vs).reverse) a = none := by rw [upd_ne (fun e => hda e.symm)]; exact ha1
    have xb : DL.Ext ph1 (upd H1 dx (exd dx (fs.zip vs).reverse)) (ph1 ++ [a]) (upd (upd H1 dx (exd dx (fs.zip vs).reverse)) a (exo a (He.ga X.K C) (some dx))) := Ext.cell ha2
    have gb : Good X.K (ph1 ++ [a]) (upd (upd H1 dx (exd dx (fs.zip vs).reverse)) a (exo a (He.ga X.K C) (some dx))) (S1 ++ [.exc C (fs.zip xs).reverse]) := ga.cell ha2 (.inl ⟨dx, _, upd_same, hide_of (fun mm => by
        rcases List.mem_append.mp mm with q | q
        · exact g1.new hd0 q
        · exact hda (List.mem_singleton.mp q)) (by rw [upd_ne hda]; exact upd_same) (fun _ z => by unfold exd at z; cases z), paired_rev (dSF_zip (DenSs.mono xb (DenSs.mono xa d1)))⟩)
    exact hx' (ph1 ++ [a]) (.ref a) _ (x1.trans (xa.trans xb)) gb ⟨a, by rw [← g1.len]; simp, rfl⟩
  · exact hx'.elim
theorem pe_oex0V {x : Str} {C fI : Addr} {k : Nat} {fd : FuncData} (T : OxC X.K C fI) (F1 : FnOk X.prog X.w X.K X.mg X.base CX0 k fI fd ["self"] (sp0 X.K)) (hr : Room (k + 1) X.A) (hb : Binds X.K fd ["self"] []) (hg : Gl X x) (hm : X.mg x = some (.ref C))
    (hdb : (x == ("__debug__" : Str)) = false := by decide) : PE X (.Call (.Name x p) [] [] pos) (fun _ H Q => ∀ a, H a = none → Q (.ref a) (upd H a (exo a C none))) := by
  refine ⟨fun pins s σ H Q I h => ?_⟩
  obtain ⟨nm, q, N, bs, bm, sn, sub, ab, col, dd, k0, k1, k2, k3, k5, hC, hbm⟩ := T.ox.cls
  refine wpAny_Call_Name_kw (ld_glob I hg hm ?_ hdb)
  refine PySem.W.callWith_K0 I.kIn T.ox.kC ?_
  show wpAny _ _ (call (.ref C) []) _ _ _
  obtain ⟨hp, g, dr, tk, os⟩ := s
  have hsz : hp.objs.size ≤ hp.objs.size + 1 := Nat.le_succ _
  have hn : H (hp.objs.size + 1) = none := I.hok.fresh hsz
  have kk : ∀ b o, hp.get? b = some o → ((hp.push (PySem.W.kdv_tup [])).push (PySem.HandSPX.excO C hp.objs.size)).get? b = some o := fun b o e => Heap.get?_push_of_some _ (Heap.get?_push_of_some _ e)
  have hget : ((hp.push (PySem.W.kdv_tup [])).push (PySem.HandSPX.excO C hp.objs.size)).get? (hp.objs.size + 1) = some (PySem.HandSPX.excO C hp.objs.size) := by heap_get
  have I2 : Inv X pins σ (upd H (hp.objs.size + 1) (exo (hp.objs.size + 1) C none)) ⟨(hp.push (PySem.W.kdv_tup [])).push (PySem.HandSPX.excO C hp.objs.size), g, dr, tk, os⟩ :=
    I.laid (t' := tk) (a := hp.objs.size + 1) (o := exo (hp.objs.size + 1) C none) (h' := (hp.push (PySem.W.kdv_tup [])).push (PySem.HandSPX.excO C hp.objs.size)) kk hsz (exo_ok hget)
  have r2 : Vals [V.ref (hp.objs.size + 1)] [Value.ref (hp.objs.size + 1)] := .cons rfl .nil
  have hq : sp0 X.K [V.ref (hp.objs.size + 1)] (upd H (hp.objs.size + 1) (exo (hp.objs.size + 1) C none)) (fun v H2 => v = .non ∧ Q (.ref (hp.objs.size + 1)) H2) (fun _ _ _ => False) :=
    ⟨_, C, rfl, T.ox, upd_same, rfl, h _ hn⟩
  refine wpAny_call (PySem.HandSPX.call_own F.excBase_ValueError (fun Y => PySem.HandSPX.refsVE_contains Y bm hbm) (I.kIn _ _ hC) (PySem.W.looks_findIn I.kIn T.iC) (fun self => PySem.W.bind_fn I.kIn self T.tI) (show ([] : List Value).length ≤ sizeLine by rw [sizeLine_eq]; decide)
    (codeAny_mono (F1.run _ X.stack _ _ ⟨[Value.ref (hp.objs.size + 1)], []⟩ [Value.ref (hp.objs.size + 1)] _ _ (fun _ _ _ => False) (hr.make C [] []) (I2.env0.make C [] []) (hb _ [Value.ref (hp.objs.size + 1)] I2.kIn rfl) r2 hq) fun r s' hq' => ?_))
  cases r with
  | error er => exact pass0 pins σ _ _ er s' I2 hq'
  | ok fl =>
    cases fl with
    | ret u =>
      obtain ⟨v, H2, I3, rv, ev, q2⟩ := I2.after hq'
      subst ev
      exact ⟨rv, ⟨V.ref (hp.objs.size + 1), H2, I3, rfl, q2⟩⟩
    | next => exact False.elim hq'
    | brk => exact False.elim hq'
    | cont => exact False.elim hq'
theorem exc0_cell {ph : List Addr} {H : Hp} {S : Store} {a : Addr} {C : Str} (g : Good X.K ph H S) (ha : H a = none) : Good X.K (ph ++ [a]) (upd H a (exo a (He.ga X.K C) none)) (S ++ [.exc C []]) :=
  g.cell ha (.inr ⟨rfl, upd_same⟩)
theorem pd_err0 {C : Str} {k : Nat} (T : ExI X.prog X.w X.K X.mg X.base k C) (hr : Room (k + 1) X.A) (hg : Gl X C := by rfl) (hdb : (C == ("__debug__" : Str)) = false := by decide) :
    PD X W (.Call (.Name C p) [] [] pos) (eErr0 C) := by
  obtain ⟨fd, O, F, hb, g⟩ := T.ex
  refine ⟨_, pe_oex0V O F hr hb hg g hdb, fun ph S H sg rho Q gd so h => fun a ha => ?_⟩
  have xb : DL.Ext ph H (ph ++ [a]) (upd H a (exo a (He.ga X.K C) none)) := Ext.cell ha
  exact h (ph ++ [a]) (.ref a) _ xb (exc0_cell gd ha) ⟨a, by rw [← gd.len]; simp, rfl⟩
structure LeOk (K : PySem.W.Frag) (mg : Str → Option Value) (C : Str) : Prop where
  ex : PySem.W.excIn K (He.ga K C) [.type "ValueError", .type "Exception", .type "BaseException", .type "object"] "ValueError.__new__" = true
  kC : PySem.W.keepIn K (.ref (He.ga K C)) = true
  g : mg C = some (.ref (He.ga K C))
theorem le_of {K : PySem.W.Frag} {mg : Str → Option Value} {n : Str} (g : mg n = some (.ref (He.ga K n))) (c : fcLe n K = true) : LeOk K mg n := by
  unfold fcLe at c
  rw [Bool.and_eq_true] at c
  exact ⟨c.1, c.2, g⟩
theorem le_call {C : Str} (T : LeOk X.K X.mg C) {pins : List (Addr × Obj)} {σ : L2.St} {H : Hp} {s : Shared} {us : List Value} (hu : us.length ≤ 1000) {Q : VK} (I : Inv X pins σ H s) (h : ∀ a, H a = none → Q (.ref a) (upd H a (exo a (He.ga X.K C) none))) :
    wpAny (model X.prog X.w) X.A (call (.ref (He.ga X.K C)) us) (EP X pins σ Q) X.xe s := by
  obtain ⟨bm, N, nm, qn, bs, hdct, sn, sub, ab, col, dd, k0, k1, k2, k3, k5, mN, hC, hN, hni, T2⟩ := exc_obj I.kIn T.ex
  obtain ⟨hp, g, dr, tk, os⟩ := s
  refine wpAny_call_exc_subT F.excBase_ValueError T2 hC hN hni (fun h' a hm => ?_) (by rw [sizeLine_eq]; omega)
  have hn : H a = none := I.hok.gone hm.new
  obtain ⟨t, ht, _, _⟩ := hm.there
  exact ⟨.ref a, upd H a (exo a (He.ga X.K C) none), I.laidN hm.keeps hm.new hn (exo_ok ht), rfl, h a hn⟩
def eExc (C : Str) (m : AM) : EM := fun rho S => (m rho S).bind fun x => if x.1.length ≤ 1000 then .ok (.cell x.2.length, x.2 ++ [.exc C []]) else .stuck
theorem pd_exc0 {C : Str} (T : LeOk X.K X.mg C) (hg : Gl X C := by rfl) (hdb : (C == ("__debug__" : Str)) = false := by decide) : PD X W (.Call (.Name C p) [] [] pos) (eErr0 C) := by
  refine ⟨fun _ H Q => ∀ a, H a = none → Q (.ref a) (upd H a (exo a (He.ga X.K C) none)), ⟨fun pins s σ H Q I h => ?_⟩, fun ph S H sg rho Q gd so h => fun a ha => ?_⟩
  · refine wpAny_Call_Name_kw (ld_glob I hg T.g ?_ hdb)
    refine PySem.W.callWith_K0 I.kIn T.kC ?_
    exact le_call T (by simp) I h
  · have xb : DL.Ext ph H (ph ++ [a]) (upd H a (exo a (He.ga X.K C) none)) := Ext.cell ha
    exact h (ph ++ [a]) (.ref a) _ xb (exc0_cell gd ha) ⟨a, by rw [← gd.len]; simp, rfl⟩
theorem pe_excV {C : Str} (T : LeOk X.K X.mg C) (ha : PA X (e :: es) ta) (hg : Gl X C) (hdb : (C == ("__debug__" : Str)) = false) (he : starEach (e :: es) X.env = (false, eval e X.env) :: starEach es X.env) (hpl : (backTo pos (starEach es X.env)).any (·.1) = false) :
    PE X (.Call (.Name C p) (e :: es) [] pos) (fun σ H Q => ta σ H fun vs H1 => vs.length ≤ 1000 ∧ ∀ a, H1 a = none → Q (.ref a) (upd H1 a (exo a (He.ga X.K C) none))) := by
  refine ⟨fun pins s σ H Q I h => ?_⟩
  refine wpAny_Call_Name_kw (ld_glob I hg T.g ?_ hdb)
  refine PySem.W.callWith_K (h₀ := X.base) I.ok.mod.kin T.kC (thn (ha.run pos pins s σ H _ I h) fun us s1 ⟨vs, H1, I1, r1, hz, q1⟩ => ⟨I1.kIn, ?_⟩) he hpl
  exact le_call T (by rw [List.nil_append, ← Paired.length r1]; exact hz) I1 q1
theorem pd_excV {C : Str} (T : LeOk X.K X.mg C) (ha : PDA X W (e :: es) m) (hg : Gl X C := by rfl) (hdb : (C == ("__debug__" : Str)) = false := by decide)
    (he : starEach (e :: es) X.env = (false, eval e X.env) :: starEach es X.env := by rfl) (hpl : (backTo pos (starEach es X.env)).any (·.1) = false := by rfl) : PD X W (.Call (.Name C p) (e :: es) [] pos) (eExc C m) := by
  obtain ⟨t, pa, st⟩ := ha.ex
  refine ⟨_, pe_excV T pa hg hdb he hpl, fun ph S H sg rho Q gd so h => st ph S H sg rho _ gd so (holds_imp (holds_bind h) (fun x hx' => ?_) fun _ _ _ q => q)⟩
  intro ph1 vs H1 x1 g1 d1
  obtain ⟨xs, S1⟩ := x
  dsimp only at *
  split at hx'
  · rename_i hl
    refine ⟨by rw [d1.length]; exact hl, fun a ha1 => ?_⟩
    have xb : DL.Ext ph1 H1 (ph1 ++ [a]) (upd H1 a (exo a (He.ga X.K C) none)) := Ext.cell ha1
    exact hx' (ph1 ++ [a]) (.ref a) _ (x1.trans xb) (exc0_cell g1 ha1) ⟨a, by rw [← g1.len]; simp, rfl⟩
  · exact hx'.elim
theorem pe_xfV {f : Str} {te : TE} (he : PE X e te) (hb : attributeBase e f X.env (eval e X.env) = eval e X.env := by rfl) :
    PE X (.Attribute e f pos) (fun σ H Q => te σ H fun x H1 => ∃ (a dx D : Addr) (fs : List (Str × V)) (v : V), x = .ref a ∧ XfC X.K D ∧ PySem.W.findIn X.K (.ref D) f = some none ∧ H1 a = some (exo a D (some dx)) ∧ H1 dx = some (exd dx fs) ∧ fs.lookup f = some v ∧ Q v H1) := by
  refine ⟨fun pins s σ H Q I h => ?_⟩
  refine attr_of hb (thn (he.run pins s σ H _ I h) fun u s1 hh => ?_)
  obtain ⟨x, H1, I1, rx, a, dx, D, fs, v, ex, T, hno, e1, e2, l, q⟩ := hh
  subst ex
  obtain rfl : u = Value.ref a := rx
  obtain ⟨t1, hget⟩ := exo_at I1.hok e1
  obtain ⟨mA, hns, hr⟩ := exd_at I1.hok e2
  obtain ⟨od, ho, hl⟩ := lookIn_ns hns
  obtain ⟨u, hu, ru⟩ := RelO.some_of (v := v) (o := mA f) (by rw [← l]; exact hr f)
  obtain ⟨ox, J⟩ : ∃ ox, PySem.W.InstAt s1.heap a ox D (some od) := ⟨_, hget, rfl, rfl, ho⟩
  exact HandSPX.exc_get I1.kIn J T.ga T.gg T.exC (PySem.W.findObj_own T.hdC hno rfl (by rw [hl, hu])) (handed_of ru) ⟨v, H1, I1.tok _, ru, q⟩
def fldVG (f : Str) (Cs : List Str) (x : SV) (S : Store) : Res (SV × Store) := match x with
  | .cell k => match S[k]? with
    | some (.exc C fs) => if C ∈ Cs then (match fs.lookup f with
      | some y => .ok (y, S)
      | none => .stuck) else .stuck
    | _ => .stuck
  | _ => .stuck
def eFldV (f : Str) (Cs : List Str) (m : EM) : EM := fun rho S => (m rho S).bind fun x => fldVG f Cs x.1 x.2
theorem dSF_look {K : PySem.W.Frag} {ph : List Addr} {H : Hp} {f : Str} : ∀ {vs : List (Str × V)} {ds : List (Str × SV)} {d : SV}, DenSF K ph H vs ds → ds.lookup f = some d → ∃ v, vs.lookup f = some v ∧ DenS K ph H v d
  | _, _, _, .nil, e => by simp at e
  | (x, v) :: vs, (y, z) :: ds, d, .cons h t, e => by
    obtain ⟨h1, h2⟩ := h
    dsimp only at h1 h2
    subst h1
    rw [List.lookup_cons] at e ⊢
    cases q : f == x with
    | true => rw [q] at e; simp at e; subst e; exact ⟨_, rfl, h2⟩
    | false => rw [q] at e; exact dSF_look t e
theorem pd_fldV {f : Str} {Cs : List Str} {me : EM} (T : XfsOk X.K f Cs) (he : PD X W e me) (hb : attributeBase e f X.env (eval e X.env) = eval e X.env := by rfl) : PD X W (.Attribute e f pos) (eFldV f Cs me) := by
  obtain ⟨te, pe, st⟩ := he.ex
  refine ⟨_, pe_xfV pe hb, fun ph S H sg rho Q gd so h => st ph S H sg rho _ gd so (holds_imp (holds_bind h) (fun x hx' => ?_) fun _ _ _ q => q)⟩
  intro ph1 v H1 x1 g1 d1
  obtain ⟨y, S1⟩ := x
  dsimp only at *
  unfold fldVG at hx'
  split at hx'
  · rename_i k
    split at hx'
    · rename_i C fs hk
      split at hx'
      · rename_i hC
        split at hx'
        · rename_i z hz
          obtain ⟨a, ha, rfl⟩ := d1
          obtain ⟨a', ha', hc⟩ := g1.at hk
          rw [ha] at ha'
          cases ha'
          rcases hc with ⟨dx, vs, h1, h2, h3⟩ | ⟨rfl, _⟩
          · obtain ⟨v, l, dv⟩ := dSF_look h3 hz
            obtain ⟨T1, T2⟩ := T C hC
            exact ⟨a, dx, _, vs, v, rfl, T1, T2, h1, hide_sub _ _ h2, l, hx' ph1 v H1 x1 g1 dv⟩
          · simp at hz
        · exact hx'.elim
      · exact hx'.elim
    · exact hx'.elim
  · exact hx'.elim
def rIsW (K : PySem.W.Frag) : List V → Hp → VK → Prop := fun xs H Q => ∃ (a D : Addr) (c : V) (u : Value) (b : Bool), xs = [.ref a, c] ∧ ExcOk K D ∧ ((∃ dx fs, H a = some (exo a D (some dx)) ∧ H dx = some (exd dx fs)) ∨ H a = some (exo a D none)) ∧ ClsV c u ∧ PySem.W.kitOne K (.ref D) u = some b ∧ Q (.bl b) H
theorem call_isW : CallR X (.builtin "isinstance") (rIsW X.K) := by
  intro pins s σ H xs us Q I r h
  obtain ⟨a, D, c, u, b, rfl, C, hd, k, e, q⟩ := h
  obtain ⟨u1, u2, rfl, r1, r2⟩ := vals2 r
  cases (show u1 = Value.ref a from r1)
  obtain ⟨ox, od, J⟩ : ∃ ox od, PySem.W.InstAt s.heap a ox D od := by
    rcases hd with ⟨dx, fs, e1, e2⟩ | e1
    · obtain ⟨t1, hget⟩ := exo_at I.hok e1
      obtain ⟨mA, hns, _⟩ := exd_at I.hok e2
      obtain ⟨od, ho, _⟩ := lookIn_ns hns
      exact ⟨_, some od, hget, rfl, rfl, ho⟩
    · obtain ⟨t1, hget⟩ := exo_at I.hok e1
      exact ⟨_, none, hget, rfl, rfl, True.intro⟩
  have Z := PySem.W.kitx_exc (ox := ox) (od := od) (x := a) C.cl C.ga C.gg C.sub C.ha C.hn C.ht C.hm
  have e3 := k.eq r2
  subst e3
  exact PySem.W.kia_one Z I.kIn J e (fun z => nomatch z) fun tk => ⟨.bl b, H, I.tok tk, rfl, q⟩
def isvW (t : IseT) : GA := fun as S => match as with
  | [.cell k, .fr d] => match S[k]? with
    | some (.exc C _) => match t.lookup C with
      | some (tb, tt) => match clsB tb tt d with
        | some r => okV (.bl r) S
        | none => .stuck
      | none => .stuck
    | _ => .stuck
  | _ => .stuck
theorem isvW_ok {t : IseT} (T : IsesOk X.K t) : OpA X W (rIsW X.K) (isvW t) := by
  intro ph S H xs as Q g d h
  unfold isvW at h
  split at h
  · rename_i k dd
    obtain ⟨v, u, rfl, dv, du⟩ := two_of d
    split at h
    · rename_i C fs hk
      split at h
      · rename_i tb tt hl
        split at h
        · rename_i r hr
          have T1 := T _ (lookup_mem hl)
          obtain ⟨w, cv, ek⟩ := clsB_ok T1 (show Den X.K (hide ph H) u dd from du) hr
          obtain ⟨a, ha, rfl⟩ := dv
          obtain ⟨a', ha', hc⟩ := g.at hk
          rw [ha] at ha'
          cases ha'
          refine ⟨a, _, _, w, r, rfl, T1.ex, ?_, cv, ek, fin_v g (.bl _) h⟩
          rcases hc with ⟨dx, vs, h1, h2, _⟩ | ⟨_, h1⟩
          · exact .inl ⟨dx, vs, h1, hide_sub _ _ h2⟩
          · exact .inr h1
        · exact h.elim
      · exact h.elim
    · exact h.elim
  · exact h.elim
end
end DL

namespace DL
open PySem L2

def WF (S : Store) : Prop := S.all (Cell.below S.length) = true
theorem SV.below_mono {n m : Nat} (h : n ≤ m) {x : SV} (b : x.below n = true) : x.below m = true := by
  cases x with
  | fr _ => rfl
  | cell k => simp only [SV.below, decide_eq_true_eq] at b ⊢; omega
theorem Cell.below_mono {n m : Nat} (h : n ≤ m) {c : Cell} (b : c.below n = true) : c.below m = true := by
  cases c with
  | lst xs =>
    simp only [Cell.below, List.all_eq_true] at b ⊢
    exact fun x hx => SV.below_mono h (b x hx)
  | ins C fs =>
    simp only [Cell.below, List.all_eq_true] at b ⊢
    exact fun x hx => SV.below_mono h (b x hx)
  | tup xs =>
    simp only [Cell.below, List.all_eq_true] at b ⊢
    exact fun x hx => SV.below_mono h (b x hx)
  | dic kvs =>
    simp only [Cell.below, List.all_eq_true] at b ⊢
    exact fun x hx => SV.below_mono h (b x hx)
  | dit kvs =>
    simp only [Cell.below, List.all_eq_true] at b ⊢
    exact fun x hx => SV.below_mono h (b x hx)
  | dil kvs =>
    simp only [Cell.below, List.all_eq_true] at b ⊢
    exact fun x hx => SV.below_mono h (b x hx)
  | dkl kvs =>
    simp only [Cell.below, List.all_eq_true] at b ⊢
    exact fun x hx => SV.below_mono h (b x hx)
  | err C => rfl
  | exc C fs =>
    simp only [Cell.below, List.all_eq_true] at b ⊢
    exact fun x hx => SV.below_mono h (b x hx)
  | nd kvs => rfl
theorem wf_nil : WF [] := rfl
theorem WF.snoc {S : Store} {c : Cell} (h : WF S) (hc : c.below (S.length + 1) = true) : WF (S ++ [c]) := by
  unfold WF at h ⊢
  simp only [List.all_append, List.length_append, List.length_singleton, List.all_cons, List.all_nil, hc, Bool.and_true, Bool.and_eq_true, and_true]
  simp only [List.all_eq_true] at h ⊢
  exact fun x hx => Cell.below_mono (by omega) (h x hx)
theorem WF.set {S : Store} {c : Cell} (h : WF S) (k : Nat) (hc : c.below S.length = true) : WF (S.set k c) := by
  unfold WF at h ⊢
  simp only [List.all_eq_true, List.length_set] at h ⊢
  exact fun x hx => (List.mem_or_eq_of_mem_set hx).elim (h x) fun e => e ▸ hc
theorem leave_val {S : Store} (h : WF S) (d : D) : leave S.length (.fr d) S = .ok (.val (.fr d), S) := by
  unfold leave
  rw [List.take_length, if_pos (show S.all (Cell.below S.length) = true from h)]
theorem leave_more {S T : Store} (h : WF S) (d : D) : leave S.length (.fr d) (S ++ T) = .ok (.val (.fr d), S) := by
  unfold leave
  rw [List.take_left' rfl, if_pos (show S.all (Cell.below S.length) = true from h)]
theorem leave_new {S : Store} {c : Cell} (h : WF S) (hc : c.below S.length = true) : leave S.length (.cell S.length) (S ++ [c]) = .ok (.new c, S) := by
  unfold leave
  rw [List.take_left' rfl, if_pos (show S.all (Cell.below S.length) = true from h)]
  simp [hc]

theorem r_bind {α β : Type} (x : α) (f : α → Res β) : (Res.ok x).bind f = f x := id rfl
theorem r_okV (d : D) (S : Store) : okV d S = .ok (.fr d, S) := id rfl
theorem r_snap (S : Store) (d : D) : snap S (.fr d) = some d := id rfl
theorem r_add (c : Bool) (i j : Int) (S : Store) : addG c (.fr (.int i)) (.fr (.int j)) S = .ok (.fr (.int (i + j)), S) := id rfl
theorem r_sub (i j : Int) (S : Store) : subG (.fr (.int i)) (.fr (.int j)) S = .ok (.fr (.int (i - j)), S) := id rfl
theorem r_neg (i : Int) (S : Store) : negG (.fr (.int i)) S = .ok (.fr (.int (-i)), S) := id rfl
theorem r_mul (c : Bool) (i j : Int) (S : Store) : mulG c (.fr (.int i)) (.fr (.int j)) S = if CMul i j ∨ CMulW i j then .ok (.fr (.int (i * j)), S) else .stuck := id rfl
theorem r_fdiv (i j : Int) (S : Store) : fdivG (.fr (.int i)) (.fr (.int j)) S = if CDiv i j ∨ CDivW i j then .ok (.fr (.int (i / j)), S) else .stuck := id rfl
theorem r_mod (i j : Int) (S : Store) : modG (.fr (.int i)) (.fr (.int j)) S = if 0 < j then .ok (.fr (.int (i % j)), S) else .stuck := id rfl
theorem r_pow (i j : Int) (S : Store) : powG (.fr (.int i)) (.fr (.int j)) S = if CPow i j then .ok (.fr (.int (i ^ j.toNat)), S) else .stuck := id rfl
theorem r_cmp (p : Int → Int → Bool) (i j : Int) (S : Store) : cmpG p (.fr (.int i)) (.fr (.int j)) S = .ok (.fr (.bl (p i j)), S) := id rfl
theorem r_is (n : Bool) (a : SV) (S : Store) : isG n a (.fr .non) S = .ok (.fr (.bl (if n then !isNon a else isNon a)), S) := id rfl
theorem r_eq (n : Bool) {a b : SV} {d e : D} {r : Bool} {S : Store} (h1 : snap S a = some d) (h2 : snap S b = some e) (h3 : eqD d e = some r) : eqG n a b S = .ok (.fr (.bl (if n then !r else r)), S) := by
  unfold eqG
  simp only [h1, h2, h3, okV]
theorem plain_int (i : Int) : plain (.int i) = true := by simp [plain, isP, py, SeqAt.shaped, PyData.canLay0, PyData.depth]
theorem plain_bl (b : Bool) : plain (.bl b) = true := by simp [plain, isP, py, SeqAt.shaped, PyData.canLay0, PyData.depth]
theorem eqD_int (i j : Int) : eqD (.int i) (.int j) = some (decide (i = j)) := by
  simp only [eqD, plain_int, deq, py, PyData.eqv, Bool.and_self, if_true]
  rfl
theorem r_eqI (n : Bool) (i j : Int) (S : Store) : eqG n (.fr (.int i)) (.fr (.int j)) S = .ok (.fr (.bl (if n then !decide (i = j) else decide (i = j))), S) := r_eq n rfl rfl (eqD_int i j)
theorem r_abs (i : Int) (S : Store) : absG [.fr (.int i)] S = .ok (.fr (.int (if i < 0 then -i else i)), S) := id rfl
theorem r_int (i : Int) (S : Store) : intG [.fr (.int i)] S = .ok (.fr (.int i), S) := id rfl
theorem r_max (i j : Int) (S : Store) : max2G [.fr (.int i), .fr (.int j)] S = .ok (.fr (.int (max i j)), S) := by
  show okV (.int (if j > i then j else i)) S = _
  rw [r_okV]
  congr 4
  omega
theorem r_min (i j : Int) (S : Store) : min2G [.fr (.int i), .fr (.int j)] S = .ok (.fr (.int (min i j)), S) := by
  show okV (.int (if j < i then j else i)) S = _
  rw [r_okV]
  congr 4
  omega
theorem atI_nat {α : Type} (xs : List α) (n : Nat) : atI xs (n : Int) = xs[n]? := by
  unfold atI ixN
  by_cases h : n < xs.length
  · rw [if_pos (by omega), if_pos (by omega)]; simp
  · rw [if_pos (by omega), if_neg (by omega)]; simp [List.getElem?_eq_none (Nat.le_of_not_lt h)]
theorem r_lenL {a : SV} {xs : List SV} {S : Store} (h : rdS S a = some xs) : lenG [a] S = .ok (.fr (.int xs.length), S) := by
  unfold lenG lenS
  simp only [h, okV]
theorem r_lenF {ds : List D} {S : Store} : lenG [.fr (.lst ds)] S = .ok (.fr (.int ds.length), S) := by
  rw [r_lenL rfl, List.length_map]
theorem r_lenT {ds : List D} {S : Store} : lenG [.fr (.tup ds)] S = .ok (.fr (.int ds.length), S) := id rfl
noncomputable def bagM : FnM := fnM 1 3 (sRet (eA (newL true) (aC (eC (.int 0)) (aC (eC (.int 1234567891)) (aC (eC (.int 0)) (aC (eLC false (iSeq (eSl false (eV 0) pN (pS (eC (.int 63))))) (gNm 2) tTr (eA absG (aC (eV 2) aN)) [1, 2]) aN))))))
noncomputable def takeA : SM := (sIf (tB (e2 (eqG false) (e2 ixG (eV 0) (eC (.int 0))) (eC (.int 0)))) (sSeq (sSet 2 (eC (.int 0)))
    (sSeq (sIf (tB (e2 (ltG) (e2 ixG (eV 0) (eC (.int 2))) (eA lenG (aC (e2 ixG (eV 0) (eC (.int 3))) aN)))) (sSet 2 (e2 ixG (e2 ixG (eV 0) (eC (.int 3))) (e2 ixG (eV 0) (eC (.int 2))))) sNx)
    (sSeq (sAugS (eV 0) (eC (.int 2)) (eC (.int 1)))
    (sSeq (sIf (tB (e2 (geG) (eV 2) (eC (.int 1000000000000000000)))) (sAs (eV 2) (gSb (eV 0) (eC (.int 0)))) sNx)
    (sSeq (sSet 3 (e2 (addG false) (e2 (addG false) (e2 (mulG false) (e2 ixG (eV 0) (eC (.int 1))) (eC (.int 48271))) (e2 (modG) (eA intG (aC (eV 2) aN)) (eC (.int 2147483647)))) (e2 (mulG false) (eC (.int 7919)) (e2 ixG (eV 0) (eC (.int 2))))))
    (sAs (e2 (modG) (eA intG (aC (eV 3) aN)) (eC (.int 2147483647))) (gSb (eV 0) (eC (.int 1))))))))) sNx)
noncomputable def takeB : SM := (sSeq (sIf (tB (e2 (gtG) (e2 ixG (eV 0) (eC (.int 0))) (eC (.int 0)))) (sSeq (sSet 4 (e2 (modG) (eA intG (aC (e2 ixG (eV 0) (eC (.int 0))) aN)) (eV 1)))
    (sSeq (sAs (e2 (fdivG) (e2 ixG (eV 0) (eC (.int 0))) (eV 1)) (gSb (eV 0) (eC (.int 0))))
    (sRet (eV 4)))) sNx)
    (sSeq (sSet 5 (e2 (modG) (eA intG (aC (e2 (mulG false) (e2 (addG false) (e2 ixG (eV 0) (eC (.int 1))) (eC (.int 1))) (eC (.int 39373))) aN)) (eC (.int 1000000007))))
    (sSeq (sSet 6 (e2 (modG) (eA intG (aC (e2 (mulG false) (e2 (modG) (eA intG (aC (e2 (mulG false) (eV 5) (eV 5)) aN)) (eC (.int 998244353))) (eC (.int 30011))) aN)) (eC (.int 998244353))))
    (sSeq (sIf (tB (e2 (gtG) (eV 1) (eC (.int 1000000)))) (sRet (e2 (modG) (eA intG (aC (e2 (addG false) (e2 (mulG false) (eV 6) (eC (.int 1000000007))) (eV 5)) aN)) (eV 1))) sNx)
    (sRet (e2 (modG) (eA intG (aC (e2 (fdivG) (eV 6) (eC (.int 7))) aN)) (eV 1)))))))
noncomputable def takeM : FnM := fnM 2 7 (sSeq takeA takeB)
theorem eqD_str (x : Str) : eqD (.str x) (.str x) = some true := by simp [eqD]
end DL

namespace DL
open PySem L2

def Ends {α : Type} (r : Res α) (Q : α → Prop) : Prop := ∃ a, r = .ok a ∧ Q a
theorem s_ends {α : Type} (a : α) (Q : α → Prop) : Ends (.ok a) Q = Q a := propext ⟨fun ⟨b, e, h⟩ => by cases e; exact h, fun h => ⟨a, rfl, h⟩⟩
section
variable {g g' : G2} {a b c : EM} {rho : Slots} {S : Store} {x y : SV} {m : AM} {t u : TM} {p q : SM}
def k_1 (g : G1) (r : SV × Store) : Res (SV × Store) := g r.1 r.2
theorem r_1 (g : G1) : e1 g a rho S = (a rho S).bind (k_1 g) := id rfl
theorem s_1 (g : G1) : k_1 g (x, S) = g x S := id rfl
def k_2b (g : G2) (x : SV) (r : SV × Store) : Res (SV × Store) := g x r.1 r.2
def k_2 (g : G2) (b : EM) (rho : Slots) (r : SV × Store) : Res (SV × Store) := (b rho r.2).bind (k_2b g r.1)
theorem r_2 : e2 g a b rho S = (a rho S).bind (k_2 g b rho) := id rfl
theorem s_2 : k_2 g b rho (x, S) = (b rho S).bind (k_2b g x) := id rfl
theorem s_2b : k_2b g x (y, S) = g x y S := id rfl
def k_v (S : Store) : Option (Option SV) → Res (SV × Store)
  | some (some x) => .ok (x, S)
  | _ => .stuck
theorem r_v (i : Nat) : eV i rho S = k_v S rho[i]? := by
  unfold eV k_v
  split <;> first | rfl | (split <;> simp_all)
theorem s_v : k_v S (some (some x)) = .ok (x, S) := id rfl
theorem r_c (d : D) : eC d rho S = .ok (.fr d, S) := id rfl
theorem r_n : aN rho S = .ok ([], S) := id rfl
def k_ab (x : SV) (r : List SV × Store) : Res (List SV × Store) := .ok (x :: r.1, r.2)
def k_a (m : AM) (rho : Slots) (r : SV × Store) : Res (List SV × Store) := (m rho r.2).bind (k_ab r.1)
theorem r_a : aC a m rho S = (a rho S).bind (k_a m rho) := id rfl
theorem s_a : k_a m rho (x, S) = (m rho S).bind (k_ab x) := id rfl
theorem s_ab (xs : List SV) : k_ab x (xs, S) = .ok (x :: xs, S) := id rfl
def k_g (g : GA) (r : List SV × Store) : Res (SV × Store) := g r.1 r.2
theorem r_g (g : GA) : eA g m rho S = (m rho S).bind (k_g g) := id rfl
theorem s_g (g : GA) (xs : List SV) : k_g g (xs, S) = g xs S := id rfl
def k_and (b : EM) (rho : Slots) (x : SV) (S : Store) : Option Bool → Res (SV × Store)
  | some true => b rho S
  | some false => .ok (x, S)
  | none => .stuck
def k_And (b : EM) (rho : Slots) (r : SV × Store) : Res (SV × Store) := k_and b rho r.1 r.2 (truth r.2 r.1)
theorem r_and : eAnd a b rho S = (a rho S).bind (k_And b rho) := by
  unfold eAnd eTr
  congr 1
theorem s_And : k_And b rho (x, S) = k_and b rho x S (truth S x) := id rfl
theorem s_and1 : k_and b rho x S (some true) = b rho S := id rfl
theorem s_and0 : k_and b rho x S (some false) = .ok (x, S) := id rfl
def k_or (b : EM) (rho : Slots) (x : SV) (S : Store) : Option Bool → Res (SV × Store)
  | some true => .ok (x, S)
  | some false => b rho S
  | none => .stuck
def k_Or (b : EM) (rho : Slots) (r : SV × Store) : Res (SV × Store) := k_or b rho r.1 r.2 (truth r.2 r.1)
theorem r_or : eOr a b rho S = (a rho S).bind (k_Or b rho) := by
  unfold eOr eTr
  congr 1
theorem s_Or : k_Or b rho (x, S) = k_or b rho x S (truth S x) := id rfl
theorem s_or1 : k_or b rho x S (some true) = .ok (x, S) := id rfl
theorem s_or0 : k_or b rho x S (some false) = b rho S := id rfl
def k_not (S : Store) : Option Bool → Res (SV × Store)
  | some v => .ok (.fr (.bl (!v)), S)
  | none => .stuck
def k_Not (r : SV × Store) : Res (SV × Store) := k_not r.2 (truth r.2 r.1)
theorem r_not : eNot a rho S = (a rho S).bind k_Not := by
  unfold eNot eTr
  congr 1
  funext z
  unfold k_Not k_not
  split <;> first | rfl | (split <;> simp_all [okV])
theorem s_Not : k_Not (x, S) = k_not S (truth S x) := id rfl
theorem s_not (v : Bool) : k_not S (some v) = .ok (.fr (.bl (!v)), S) := id rfl
def k_if (a b : EM) (rho : Slots) (r : Bool × Store) : Res (SV × Store) := if r.1 then a rho r.2 else b rho r.2
theorem r_if : eIf t a b rho S = (t rho S).bind (k_if a b rho) := id rfl
theorem s_if1 : k_if a b rho (true, S) = a rho S := id rfl
theorem s_if0 : k_if a b rho (false, S) = b rho S := id rfl
def k_chc (g' : G2) (y : SV) (r : SV × Store) : Res (SV × Store) := g' y r.1 r.2
def k_chb (g' : G2) (c : EM) (rho : Slots) (y : SV) (r : SV × Store) : Res (SV × Store) := match r.1 with
  | .fr (.bl true) => (c rho r.2).bind (k_chc g' y)
  | .fr (.bl false) => .ok (.fr (.bl false), r.2)
  | _ => .stuck
def k_cha (g g' : G2) (c : EM) (rho : Slots) (x : SV) (r : SV × Store) : Res (SV × Store) := (g x r.1 r.2).bind (k_chb g' c rho r.1)
def k_ch (g g' : G2) (b c : EM) (rho : Slots) (r : SV × Store) : Res (SV × Store) := (b rho r.2).bind (k_cha g g' c rho r.1)
theorem r_ch : eCh g g' a b c rho S = (a rho S).bind (k_ch g g' b c rho) := id rfl
theorem s_ch : k_ch g g' b c rho (x, S) = (b rho S).bind (k_cha g g' c rho x) := id rfl
theorem s_cha : k_cha g g' c rho x (y, S) = (g x y S).bind (k_chb g' c rho y) := id rfl
theorem s_chb1 : k_chb g' c rho y (.fr (.bl true), S) = (c rho S).bind (k_chc g' y) := id rfl
theorem s_chb0 : k_chb g' c rho y (.fr (.bl false), S) = .ok (.fr (.bl false), S) := id rfl
theorem s_chc : k_chc g' y (x, S) = g' y x S := id rfl
def k_tB (r : SV × Store) : Res (Bool × Store) := match r.1 with
  | .fr (.bl k) => .ok (k, r.2)
  | _ => .stuck
theorem r_tB : tB a rho S = (a rho S).bind k_tB := id rfl
theorem s_tB (k : Bool) : k_tB (.fr (.bl k), S) = .ok (k, S) := id rfl
def k_tv (S : Store) : Option Bool → Res (Bool × Store)
  | some v => .ok (v, S)
  | none => .stuck
def k_tV (r : SV × Store) : Res (Bool × Store) := k_tv r.2 (truth r.2 r.1)
theorem r_tV : tV a rho S = (a rho S).bind k_tV := by
  unfold tV
  congr 1
theorem s_tV : k_tV (x, S) = k_tv S (truth S x) := id rfl
theorem s_tv (v : Bool) : k_tv S (some v) = .ok (v, S) := id rfl
def k_tN (r : Bool × Store) : Res (Bool × Store) := .ok (!r.1, r.2)
theorem r_tN : tNt t rho S = (t rho S).bind k_tN := id rfl
theorem s_tN (v : Bool) : k_tN (v, S) = .ok (!v, S) := id rfl
def k_tA (u : TM) (rho : Slots) (r : Bool × Store) : Res (Bool × Store) := if r.1 then u rho r.2 else .ok (false, r.2)
theorem r_tA : tAn t u rho S = (t rho S).bind (k_tA u rho) := id rfl
theorem s_tA1 : k_tA u rho (true, S) = u rho S := id rfl
theorem s_tA0 : k_tA u rho (false, S) = .ok (false, S) := id rfl
def k_tO (u : TM) (rho : Slots) (r : Bool × Store) : Res (Bool × Store) := if r.1 then .ok (true, r.2) else u rho r.2
theorem r_tO : tOo t u rho S = (t rho S).bind (k_tO u rho) := id rfl
theorem s_tO1 : k_tO u rho (true, S) = .ok (true, S) := id rfl
theorem s_tO0 : k_tO u rho (false, S) = u rho S := id rfl
theorem r_tT : tTr rho S = .ok (true, S) := id rfl
theorem r_trB (v : Bool) : truth S (.fr (.bl v)) = some v := id rfl
theorem r_trI (i : Int) : truth S (.fr (.int i)) = some (i != 0) := id rfl
theorem r_trN : truth S (.fr .non) = some false := id rfl
def k_call (f : FnM) (cc : Bool) (r : List SV × Store) : Res (SV × Store) := (noX (f r.1 r.2)).bind (back cc)
theorem r_call (f : FnM) (cc : Bool) : eCall f cc m rho S = (m rho S).bind (k_call f cc) := id rfl
theorem s_call (f : FnM) (cc : Bool) (xs : List SV) : k_call f cc (xs, S) = (noX (f xs S)).bind (back cc) := id rfl
theorem s_noX (r : RV × Store) : noX (.ok r) = .ok r := id rfl
theorem s_backV (cc : Bool) : back cc (.val x, S) = .ok (x, S) := id rfl
theorem s_backC (l : Cell) : back true (.new l, S) = .ok (.cell S.length, S ++ [l]) := id rfl
def k_frz (S : Store) : Option D → Res (SV × Store)
  | some d => .ok (.fr d, S)
  | none => .stuck
theorem s_backF (l : Cell) : back false (.new l, S) = k_frz S (freeze l) := id rfl
theorem s_frz (d : D) : k_frz S (some d) = .ok (.fr d, S) := id rfl
theorem r_frz (xs : List SV) : freeze (.lst xs) = (allFr xs).map D.lst := id rfl
theorem r_all0 : allFr [] = some [] := id rfl
theorem r_all1 (d : D) (xs : List SV) : allFr (.fr d :: xs) = (allFr xs).map (d :: ·) := id rfl
theorem r_fn1 (n : Nat) (bd : SM) : fnM 1 n bd [x] S = (bd (some x :: List.replicate (n - 1) none) S).bind (leaveF S.length) := id rfl
theorem r_fn2 (n : Nat) (bd : SM) : fnM 2 n bd [x, y] S = (bd (some x :: some y :: List.replicate (n - 2) none) S).bind (leaveF S.length) := id rfl
theorem r_fn3 (n : Nat) (bd : SM) (z : SV) : fnM 3 n bd [x, y, z] S = (bd (some x :: some y :: some z :: List.replicate (n - 3) none) S).bind (leaveF S.length) := id rfl
theorem r_fn4 (n : Nat) (bd : SM) (z w : SV) : fnM 4 n bd [x, y, z, w] S = (bd (some x :: some y :: some z :: some w :: List.replicate (n - 4) none) S).bind (leaveF S.length) := id rfl
theorem r_fn5 (n : Nat) (bd : SM) (z w v : SV) : fnM 5 n bd [x, y, z, w, v] S = (bd (some x :: some y :: some z :: some w :: some v :: List.replicate (n - 5) none) S).bind (leaveF S.length) := id rfl
theorem s_lvR (n : Nat) : leaveF n (.rt x, rho, S) = leave n x S := id rfl
theorem s_lvN (n : Nat) : leaveF n (.nx, rho, S) = leave n (.fr .non) S := id rfl
theorem r_nx : sNx rho S = .ok (.nx, rho, S) := id rfl
theorem r_bk : sBk rho S = .ok (.bk, rho, S) := id rfl
theorem r_ct : sCt rho S = .ok (.ct, rho, S) := id rfl
def k_seq (q : SM) (r : Fl × Slots × Store) : Res (Fl × Slots × Store) := match r.1 with
  | .nx => q r.2.1 r.2.2
  | f => .ok (f, r.2.1, r.2.2)
theorem r_seq : sSeq p q rho S = (p rho S).bind (k_seq q) := id rfl
theorem s_seqN : k_seq q (.nx, rho, S) = q rho S := id rfl
theorem s_seqR : k_seq q (.rt x, rho, S) = .ok (.rt x, rho, S) := id rfl
theorem s_seqB : k_seq q (.bk, rho, S) = .ok (.bk, rho, S) := id rfl
theorem s_seqC : k_seq q (.ct, rho, S) = .ok (.ct, rho, S) := id rfl
def k_ret (rho : Slots) (r : SV × Store) : Res (Fl × Slots × Store) := .ok (.rt r.1, rho, r.2)
theorem r_ret : sRet a rho S = (a rho S).bind (k_ret rho) := id rfl
theorem s_ret : k_ret rho (x, S) = .ok (.rt x, rho, S) := id rfl
theorem r_retN : sRetN rho S = .ok (.rt (.fr .non), rho, S) := id rfl
def k_sif (p q : SM) (rho : Slots) (r : Bool × Store) : Res (Fl × Slots × Store) := if r.1 then p rho r.2 else q rho r.2
theorem r_sif : sIf t p q rho S = (t rho S).bind (k_sif p q rho) := id rfl
theorem s_sif1 : k_sif p q rho (true, S) = p rho S := id rfl
theorem s_sif0 : k_sif p q rho (false, S) = q rho S := id rfl
def k_ex (rho : Slots) (r : SV × Store) : Res (Fl × Slots × Store) := .ok (.nx, rho, r.2)
theorem r_ex : sEx a rho S = (a rho S).bind (k_ex rho) := id rfl
theorem s_ex : k_ex rho (x, S) = .ok (.nx, rho, S) := id rfl
def k_set (i : Nat) (rho : Slots) (r : SV × Store) : Res (Fl × Slots × Store) := .ok (.nx, rho.set i (some r.1), r.2)
theorem r_set (i : Nat) : sSet i a rho S = (a rho S).bind (k_set i rho) := id rfl
theorem s_set (i : Nat) : k_set i rho (x, S) = .ok (.nx, rho.set i (some x), S) := id rfl
def k_par (i j : Nat) (rho : Slots) (r : List SV × Store) : Res (Fl × Slots × Store) := match r.1 with
  | [u, v] => .ok (.nx, (rho.set i (some u)).set j (some v), r.2)
  | _ => .stuck
theorem r_par (i j : Nat) : sPar i j m rho S = (m rho S).bind (k_par i j rho) := id rfl
theorem s_par (i j : Nat) : k_par i j rho ([x, y], S) = .ok (.nx, (rho.set i (some x)).set j (some y), S) := id rfl
def k_gb (r : Slots × Store) : Res (Fl × Slots × Store) := .ok (.nx, r.1, r.2)
def k_as (gm : GM) (rho : Slots) (r : SV × Store) : Res (Fl × Slots × Store) := (gm r.1 rho r.2).bind k_gb
theorem r_as (gm : GM) : sAs a gm rho S = (a rho S).bind (k_as gm rho) := id rfl
theorem s_as (gm : GM) : k_as gm rho (x, S) = (gm x rho S).bind k_gb := id rfl
theorem s_gb : k_gb (rho, S) = .ok (.nx, rho, S) := id rfl
theorem r_gNm (i : Nat) : gNm i x rho S = .ok (rho.set i (some x), S) := id rfl
theorem r_gNl : gNl [] rho S = .ok (rho, S) := id rfl
def k_gCs (ms : GMs) (xs : List SV) (r : Slots × Store) : Res (Slots × Store) := ms xs r.1 r.2
theorem r_gCs (gm : GM) (ms : GMs) (xs : List SV) : gCs gm ms (x :: xs) rho S = (gm x rho S).bind (k_gCs ms xs) := id rfl
theorem s_gCs (ms : GMs) (xs : List SV) : k_gCs ms xs (rho, S) = ms xs rho S := id rfl
theorem r_gTu2 (ms : GMs) (d e : D) : gTu 2 ms (.fr (.tup [d, e])) rho S = ms [.fr d, .fr e] rho S := id rfl
theorem r_gTu3 (ms : GMs) (d e f : D) : gTu 3 ms (.fr (.tup [d, e, f])) rho S = ms [.fr d, .fr e, .fr f] rho S := id rfl
theorem r_gTu4 (ms : GMs) (d e f h : D) : gTu 4 ms (.fr (.tup [d, e, f, h])) rho S = ms [.fr d, .fr e, .fr f, .fr h] rho S := id rfl
def k_st (rho : Slots) (S' : Store) : Res (Slots × Store) := .ok (rho, S')
def k_sb2 (rho : Slots) (v o : SV) (r : SV × Store) : Res (Slots × Store) := (setL o r.1 v r.2).bind (k_st rho)
def k_sb (mi : EM) (rho : Slots) (v : SV) (r : SV × Store) : Res (Slots × Store) := (mi rho r.2).bind (k_sb2 rho v r.1)
theorem r_gSb : gSb a b x rho S = (a rho S).bind (k_sb b rho x) := id rfl
theorem s_sb : k_sb b rho y (x, S) = (b rho S).bind (k_sb2 rho y x) := id rfl
theorem s_sb2 (v : SV) : k_sb2 rho y x (v, S) = (setL x v y S).bind (k_st rho) := id rfl
theorem s_st : k_st rho S = .ok (rho, S) := id rfl
def k_nxS (rho : Slots) (S' : Store) : Res (Fl × Slots × Store) := .ok (.nx, rho, S')
theorem s_nxS : k_nxS rho S = .ok (.nx, rho, S) := id rfl
def k_au3 (rho : Slots) (o i : SV) (S : Store) : Option SV → Res (Fl × Slots × Store)
  | some z => (setL o i z S).bind (k_nxS rho)
  | none => .stuck
def k_au2 (rho : Slots) (o i old : SV) (r : SV × Store) : Res (Fl × Slots × Store) := k_au3 rho o i r.2 (addI old r.1)
def k_au1 (me : EM) (rho : Slots) (o i : SV) (S : Store) : Option SV → Res (Fl × Slots × Store)
  | some old => (me rho S).bind (k_au2 rho o i old)
  | none => .stuck
def k_au0 (me : EM) (rho : Slots) (o : SV) (r : SV × Store) : Res (Fl × Slots × Store) := k_au1 me rho o r.1 r.2 (getL o r.1 r.2)
def k_au (mi me : EM) (rho : Slots) (r : SV × Store) : Res (Fl × Slots × Store) := (mi rho r.2).bind (k_au0 me rho r.1)
theorem r_au : sAugS a b c rho S = (a rho S).bind (k_au b c rho) := by
  unfold sAugS
  congr 1
theorem s_au : k_au b c rho (x, S) = (b rho S).bind (k_au0 c rho x) := id rfl
theorem s_au0 : k_au0 c rho x (y, S) = k_au1 c rho x y S (getL x y S) := id rfl
theorem s_au1 (o i : SV) : k_au1 c rho o i S (some x) = (c rho S).bind (k_au2 rho o i x) := id rfl
theorem s_au2 (o i old : SV) : k_au2 rho o i old (x, S) = k_au3 rho o i S (addI old x) := id rfl
theorem s_au3 (o i : SV) : k_au3 rho o i S (some x) = (setL o i x S).bind (k_nxS rho) := id rfl
theorem r_addI (i j : Int) : addI (.fr (.int i)) (.fr (.int j)) = some (.fr (.int (i + j))) := id rfl
noncomputable def k_for (gm : GM) (bd : SM) (rho : Slots) (r : Wk × Store) : Res (Fl × Slots × Store) := loopM r.1.lk gm bd r.1.xs rho r.2
theorem r_for (im : IM) (gm : GM) (bd : SM) : sFor im gm bd rho S = (im rho S).bind (k_for gm bd rho) := id rfl
theorem s_for (gm : GM) (bd : SM) (w : Wk) : k_for gm bd rho (w, S) = loopM w.lk gm bd w.xs rho S := id rfl
noncomputable def k_turn (lk : Store → Prop) (gm : GM) (bd : SM) (xs : List SV) (q : Fl × Slots × Store) : Res (Fl × Slots × Store) := match q.1 with
  | .nx => loopM lk gm bd xs q.2.1 q.2.2
  | .ct => loopM lk gm bd xs q.2.1 q.2.2
  | .bk => .ok (.nx, q.2.1, q.2.2)
  | .rt v => .ok (.rt v, q.2.1, q.2.2)
def k_body (bd : SM) (r : Slots × Store) : Res (Fl × Slots × Store) := bd r.1 r.2
theorem s_body (bd : SM) : k_body bd (rho, S) = bd rho S := id rfl
theorem res_assoc {α β γ : Type} (r : Res α) (f : α → Res β) (h : β → Res γ) : (r.bind f).bind h = r.bind fun x => (f x).bind h := by cases r <;> rfl
theorem loop_nil {lk : Store → Prop} (gm : GM) (bd : SM) (h : lk S) : loopM lk gm bd [] rho S = .ok (.nx, rho, S) := by
  unfold loopM
  rw [if_pos h]
theorem loop_cons {lk : Store → Prop} (gm : GM) (bd : SM) (xs : List SV) (h : lk S) : loopM lk gm bd (x :: xs) rho S = ((gm x rho S).bind (k_body bd)).bind (k_turn lk gm bd xs) := by
  rw [res_assoc]
  conv => lhs; unfold loopM
  rw [if_pos h]
  rfl
theorem s_turnN (lk : Store → Prop) (gm : GM) (bd : SM) (xs : List SV) : k_turn lk gm bd xs (.nx, rho, S) = loopM lk gm bd xs rho S := id rfl
theorem s_turnC (lk : Store → Prop) (gm : GM) (bd : SM) (xs : List SV) : k_turn lk gm bd xs (.ct, rho, S) = loopM lk gm bd xs rho S := id rfl
theorem s_turnB (lk : Store → Prop) (gm : GM) (bd : SM) (xs : List SV) : k_turn lk gm bd xs (.bk, rho, S) = .ok (.nx, rho, S) := id rfl
theorem s_turnR (lk : Store → Prop) (gm : GM) (bd : SM) (xs : List SV) : k_turn lk gm bd xs (.rt x, rho, S) = .ok (.rt x, rho, S) := id rfl
def k_r1 (r : List SV × Store) : Res (Wk × Store) := match r.1 with
  | [.fr (.int j)] => if -(2 ^ 62) ≤ j ∧ j < 2 ^ 62 then .ok (⟨rngS 0 j.toNat, fun _ => True⟩, r.2) else .stuck
  | _ => .stuck
theorem r_r1 : iR1 m rho S = (m rho S).bind k_r1 := id rfl
theorem s_r1 {j : Int} (h : -(2 ^ 62) ≤ j ∧ j < 2 ^ 62) : k_r1 ([.fr (.int j)], S) = .ok (⟨rngS 0 j.toNat, fun _ => True⟩, S) := if_pos h
def k_r2 (r : List SV × Store) : Res (Wk × Store) := match r.1 with
  | [.fr (.int i), .fr (.int j)] => if -(2 ^ 62) ≤ i ∧ i < 2 ^ 62 ∧ -(2 ^ 62) ≤ j ∧ j < 2 ^ 62 then .ok (⟨rngS i (j - i).toNat, fun _ => True⟩, r.2) else .stuck
  | _ => .stuck
theorem r_r2 : iR2 m rho S = (m rho S).bind k_r2 := id rfl
theorem s_r2 {i j : Int} (h : -(2 ^ 62) ≤ i ∧ i < 2 ^ 62 ∧ -(2 ^ 62) ≤ j ∧ j < 2 ^ 62) : k_r2 ([.fr (.int i), .fr (.int j)], S) = .ok (⟨rngS i (j - i).toNat, fun _ => True⟩, S) := if_pos h
def k_sq (r : SV × Store) : Res (Wk × Store) := match r.1 with
  | .fr (.tup _) => .stuck
  | .fr _ => match rdS r.2 r.1 with
    | some xs => .ok (⟨xs, fun _ => True⟩, r.2)
    | none => .stuck
  | .cell k => match rdL r.2 (.cell k) with
    | some xs => .ok (⟨xs, fun S' => S'[k]? = some (.lst xs)⟩, r.2)
    | none => .stuck
theorem r_sq : iSeq a rho S = (a rho S).bind k_sq := id rfl
theorem s_sqL (ds : List D) : k_sq (.fr (.lst ds), S) = .ok (⟨ds.map SV.fr, fun _ => True⟩, S) := id rfl
theorem s_sqS (ds : List D) : k_sq (.fr (.scr ds), S) = .ok (⟨ds.map SV.fr, fun _ => True⟩, S) := id rfl
theorem s_sqC {k : Nat} {xs : List SV} (h : S[k]? = some (.lst xs)) : k_sq (.cell k, S) = .ok (⟨xs, fun S' => S'[k]? = some (.lst xs)⟩, S) := by
  unfold k_sq rdL
  simp only [h]
def k_tp (r : SV × Store) : Res (Wk × Store) := match r.1 with
  | .fr (.tup ds) => .ok (⟨ds.map SV.fr, fun _ => True⟩, r.2)
  | _ => .stuck
theorem r_tp : iTp a rho S = (a rho S).bind k_tp := id rfl
theorem s_tp (ds : List D) : k_tp (.fr (.tup ds), S) = .ok (⟨ds.map SV.fr, fun _ => True⟩, S) := id rfl
def k_x (S : Store) : Option SV → Res (SV × Store)
  | some x => .ok (x, S)
  | none => .stuck
def k_xd (S : Store) : Option D → Res (SV × Store)
  | some d => .ok (.fr d, S)
  | none => .stuck
theorem r_xT (ds : List D) (i : Int) : ixG (.fr (.tup ds)) (.fr (.int i)) S = k_xd S (atI ds i) := by
  unfold ixG
  simp only [rdS, rdL]
  cases atI ds i <;> rfl
theorem atI_map {α β : Type} (f : α → β) (xs : List α) (i : Int) : atI (xs.map f) i = (atI xs i).map f := by
  unfold atI
  rw [List.length_map]
  cases ixN xs.length i <;> simp
theorem r_xL (ds : List D) (i : Int) : ixG (.fr (.lst ds)) (.fr (.int i)) S = k_xd S (atI ds i) := by
  unfold ixG
  simp only [rdS, rdL, atI_map]
  cases atI ds i <;> rfl
theorem r_xC {k : Nat} {xs : List SV} (h : S[k]? = some (.lst xs)) (i : Int) : ixG (.cell k) (.fr (.int i)) S = k_x S (atI xs i) := by
  unfold ixG
  simp only [rdS, rdL, h]
  cases atI xs i <;> rfl
theorem s_x : k_x S (some x) = .ok (x, S) := id rfl
theorem s_xd (d : D) : k_xd S (some d) = .ok (.fr d, S) := id rfl
theorem at_0 {α : Type} (a : α) (l : List α) : atI (a :: l) 0 = some a := atI_nat (a :: l) 0
theorem at_1 {α : Type} (a b : α) (l : List α) : atI (a :: b :: l) 1 = some b := atI_nat (a :: b :: l) 1
theorem at_2 {α : Type} (a b c : α) (l : List α) : atI (a :: b :: c :: l) 2 = some c := atI_nat (a :: b :: c :: l) 2
theorem at_3 {α : Type} (a b c d : α) (l : List α) : atI (a :: b :: c :: d :: l) 3 = some d := atI_nat (a :: b :: c :: d :: l) 3
theorem at_4 {α : Type} (a b c d e : α) (l : List α) : atI (a :: b :: c :: d :: e :: l) 4 = some e := atI_nat (a :: b :: c :: d :: e :: l) 4
end
end DL

namespace DL
open PySem L2

structure Bag where
  z : Int
  mix : Int
  k : Int
  ns : List Int
structure Bag.Ok (b : Bag) : Prop where
  z0 : 0 ≤ b.z
  m0 : 0 ≤ b.mix
  k0 : 0 ≤ b.k
  n0 : ∀ n ∈ b.ns, 0 ≤ n
def Bag.c (b : Bag) : Cell := .lst [.fr (.int b.z), .fr (.int b.mix), .fr (.int b.k), .fr (.lst (b.ns.map D.int))]
section
variable {b : Bag} {R : Store}
theorem bag_x (b : Bag) (R : Store) (i : Int) : ixG (.cell 0) (.fr (.int i)) (b.c :: R) = k_x (b.c :: R) (atI [.fr (.int b.z), .fr (.int b.mix), .fr (.int b.k), .fr (.lst (b.ns.map D.int))] i) := r_xC rfl i
theorem bag_set0 (v : Int) : setL (.cell 0) (.fr (.int 0)) (.fr (.int v)) (b.c :: R) = .ok ({ b with z := v }.c :: R) := rfl
theorem bag_set1 (v : Int) : setL (.cell 0) (.fr (.int 1)) (.fr (.int v)) (b.c :: R) = .ok ({ b with mix := v }.c :: R) := rfl
theorem bag_set2 (v : Int) : setL (.cell 0) (.fr (.int 2)) (.fr (.int v)) (b.c :: R) = .ok ({ b with k := v }.c :: R) := rfl
theorem bag_get2 : getL (.cell 0) (.fr (.int 2)) (b.c :: R) = some (.fr (.int b.k)) := rfl
theorem WF.bag {b' : Bag} (h : WF (b.c :: R)) : WF (b'.c :: R) := by
  unfold WF at h ⊢
  simpa [Bag.c, Cell.below, SV.below] using h
theorem leave_bag {b' : Bag} (h : WF (b.c :: R)) (d : D) : leave (b.c :: R).length (.fr d) (b'.c :: R) = .ok (.val (.fr d), b'.c :: R) := leave_val (WF.bag (b' := b') h) d
theorem cdiv_of {i j : Int} (h : 0 < j) (h2 : j.natAbs.log2 < 9000) : (CDiv i j ∨ CDivW i j) = True := by simp [CDivW, h, h2]
theorem takeA_run (hb : b.Ok) (many : Int) : Ends (takeA [some (.cell 0), some (.fr (.int many)), none, none, none, none, none] (b.c :: R)) fun r => ∃ b1 x2 x3, Bag.Ok b1 ∧ r = (.nx, [some (.cell 0), some (.fr (.int many)), x2, x3, none, none, none], b1.c :: R) := by
  have c1 : ∀ i : Int, (CMul i 48271 ∨ CMulW i 48271) = True := fun i => by simp [CMul]
  have c2 : ∀ i : Int, (CMul 7919 i ∨ CMulW 7919 i) = True := fun i => by simp [CMul]
  have p1 : (0 : Int) < 2147483647 := by decide
  have e0 : (0 : Int) ≤ b.k + 1 := by have := hb.k0; omega
  have fin : ∀ m : Int, 0 ≤ m % 2147483647 := fun m => Int.emod_nonneg _ (by decide)
  by_cases hz : b.z = 0
  · by_cases hk : b.k < (b.ns.length : Int)
    · obtain ⟨k, hkk⟩ : ∃ k : Nat, b.k = k := ⟨b.k.toNat, by have := hb.k0; omega⟩
      have hlt : k < b.ns.length := by omega
      have hx : atI (b.ns.map D.int) b.k = some (.int b.ns[k]) := by
        rw [hkk, atI_nat, List.getElem?_map, List.getElem?_eq_getElem hlt]
        rfl
      have hn := hb.n0 _ (List.getElem_mem hlt)
      by_cases hc : (1000000000000000000 : Int) ≤ b.ns[k]
      · simp only [r_bind, r_1, s_1, r_2, s_2, s_2b, r_v, s_v, r_c, r_n, r_a, s_a, s_ab, r_g, s_g, r_and, s_And, s_and1, s_and0, r_or, s_Or, s_or1, s_or0, r_not, s_Not, s_not, r_if, s_if1, s_if0, r_ch, s_ch, s_cha, s_chb1, s_chb0, s_chc, r_tB, s_tB, r_tV, s_tV, s_tv, r_tN, s_tN, r_tA, s_tA1, s_tA0, r_tO, s_tO1, s_tO0, r_tT, r_trB, r_trI, r_trN, r_call, s_call, s_noX, s_backV, s_backC, s_backF, s_frz, r_frz, r_all0, r_all1, r_fn1, r_fn2, r_fn3, r_fn4, r_fn5, s_lvR, s_lvN, r_nx, r_bk, r_ct, r_seq, s_seqN, s_seqR, s_seqB, s_seqC, r_ret, s_ret, r_retN, r_sif, s_sif1, s_sif0, r_ex, s_ex, r_set, s_set, r_par, s_par, r_as, s_as, s_gb, r_gNm, r_gNl, r_gCs, s_gCs, r_gTu2, r_gTu3, r_gTu4, r_gSb, s_sb, s_sb2, s_st, s_nxS, r_au, s_au, s_au0, s_au1, s_au2, s_au3, r_addI, r_for, s_for, s_body, s_turnN, s_turnC, s_turnB, s_turnR, r_r1, s_r1, r_r2, s_r2, r_sq, s_sqL, s_sqS, r_tp, s_tp, r_xT, r_xL, s_x, s_xd, at_0, at_1, at_2, at_3, at_4, r_add, r_sub, r_neg, r_mul, r_fdiv, r_mod, r_pow, r_cmp, r_is, r_eqI, r_abs, r_int, r_max, r_min, r_okV, r_snap, r_lenF, r_lenT, DL.isNon, List.replicate_succ, List.replicate_zero, List.set_cons_zero, List.set_cons_succ, List.getElem?_cons_zero, List.getElem?_cons_succ, Option.map_some, Nat.reduceSub, and_self, and_true, true_and, decide_true, decide_false, if_true, if_false, Bool.false_eq_true, Bool.not_true, Bool.not_false, Nat.reduceSub, Nat.reduceAdd, Nat.reduceMul, Nat.reduceLeDiff, takeA, bag_x, bag_set0, bag_set1, bag_set2, bag_get2, hz, hk, hx, hc, c1, c2, p1, List.length_map, s_ends]
        exact ⟨⟨_, _, _, b.ns⟩, _, _, ⟨hn, fin _, e0, hb.n0⟩, rfl⟩
      · simp only [r_bind, r_1, s_1, r_2, s_2, s_2b, r_v, s_v, r_c, r_n, r_a, s_a, s_ab, r_g, s_g, r_and, s_And, s_and1, s_and0, r_or, s_Or, s_or1, s_or0, r_not, s_Not, s_not, r_if, s_if1, s_if0, r_ch, s_ch, s_cha, s_chb1, s_chb0, s_chc, r_tB, s_tB, r_tV, s_tV, s_tv, r_tN, s_tN, r_tA, s_tA1, s_tA0, r_tO, s_tO1, s_tO0, r_tT, r_trB, r_trI, r_trN, r_call, s_call, s_noX, s_backV, s_backC, s_backF, s_frz, r_frz, r_all0, r_all1, r_fn1, r_fn2, r_fn3, r_fn4, r_fn5, s_lvR, s_lvN, r_nx, r_bk, r_ct, r_seq, s_seqN, s_seqR, s_seqB, s_seqC, r_ret, s_ret, r_retN, r_sif, s_sif1, s_sif0, r_ex, s_ex, r_set, s_set, r_par, s_par, r_as, s_as, s_gb, r_gNm, r_gNl, r_gCs, s_gCs, r_gTu2, r_gTu3, r_gTu4, r_gSb, s_sb, s_sb2, s_st, s_nxS, r_au, s_au, s_au0, s_au1, s_au2, s_au3, r_addI, r_for, s_for, s_body, s_turnN, s_turnC, s_turnB, s_turnR, r_r1, s_r1, r_r2, s_r2, r_sq, s_sqL, s_sqS, r_tp, s_tp, r_xT, r_xL, s_x, s_xd, at_0, at_1, at_2, at_3, at_4, r_add, r_sub, r_neg, r_mul, r_fdiv, r_mod, r_pow, r_cmp, r_is, r_eqI, r_abs, r_int, r_max, r_min, r_okV, r_snap, r_lenF, r_lenT, DL.isNon, List.replicate_succ, List.replicate_zero, List.set_cons_zero, List.set_cons_succ, List.getElem?_cons_zero, List.getElem?_cons_succ, Option.map_some, Nat.reduceSub, and_self, and_true, true_and, decide_true, decide_false, if_true, if_false, Bool.false_eq_true, Bool.not_true, Bool.not_false, Nat.reduceSub, Nat.reduceAdd, Nat.reduceMul, Nat.reduceLeDiff, takeA, bag_x, bag_set0, bag_set1, bag_set2, bag_get2, hz, hk, hx, hc, c1, c2, p1, List.length_map, s_ends]
        exact ⟨⟨0, _, b.k + 1, b.ns⟩, _, _, ⟨Int.le_refl 0, fin _, e0, hb.n0⟩, rfl⟩
    · have hc : ¬ (1000000000000000000 : Int) ≤ 0 := by decide
      simp only [r_bind, r_1, s_1, r_2, s_2, s_2b, r_v, s_v, r_c, r_n, r_a, s_a, s_ab, r_g, s_g, r_and, s_And, s_and1, s_and0, r_or, s_Or, s_or1, s_or0, r_not, s_Not, s_not, r_if, s_if1, s_if0, r_ch, s_ch, s_cha, s_chb1, s_chb0, s_chc, r_tB, s_tB, r_tV, s_tV, s_tv, r_tN, s_tN, r_tA, s_tA1, s_tA0, r_tO, s_tO1, s_tO0, r_tT, r_trB, r_trI, r_trN, r_call, s_call, s_noX, s_backV, s_backC, s_backF, s_frz, r_frz, r_all0, r_all1, r_fn1, r_fn2, r_fn3, r_fn4, r_fn5, s_lvR, s_lvN, r_nx, r_bk, r_ct, r_seq, s_seqN, s_seqR, s_seqB, s_seqC, r_ret, s_ret, r_retN, r_sif, s_sif1, s_sif0, r_ex, s_ex, r_set, s_set, r_par, s_par, r_as, s_as, s_gb, r_gNm, r_gNl, r_gCs, s_gCs, r_gTu2, r_gTu3, r_gTu4, r_gSb, s_sb, s_sb2, s_st, s_nxS, r_au, s_au, s_au0, s_au1, s_au2, s_au3, r_addI, r_for, s_for, s_body, s_turnN, s_turnC, s_turnB, s_turnR, r_r1, s_r1, r_r2, s_r2, r_sq, s_sqL, s_sqS, r_tp, s_tp, r_xT, r_xL, s_x, s_xd, at_0, at_1, at_2, at_3, at_4, r_add, r_sub, r_neg, r_mul, r_fdiv, r_mod, r_pow, r_cmp, r_is, r_eqI, r_abs, r_int, r_max, r_min, r_okV, r_snap, r_lenF, r_lenT, DL.isNon, List.replicate_succ, List.replicate_zero, List.set_cons_zero, List.set_cons_succ, List.getElem?_cons_zero, List.getElem?_cons_succ, Option.map_some, Nat.reduceSub, and_self, and_true, true_and, decide_true, decide_false, if_true, if_false, Bool.false_eq_true, Bool.not_true, Bool.not_false, Nat.reduceSub, Nat.reduceAdd, Nat.reduceMul, Nat.reduceLeDiff, takeA, bag_x, bag_set0, bag_set1, bag_set2, bag_get2, hz, hk, hc, c1, c2, p1, List.length_map, s_ends]
      exact ⟨⟨0, _, b.k + 1, b.ns⟩, _, _, ⟨Int.le_refl 0, fin _, e0, hb.n0⟩, rfl⟩
  · simp only [r_bind, r_1, s_1, r_2, s_2, s_2b, r_v, s_v, r_c, r_n, r_a, s_a, s_ab, r_g, s_g, r_and, s_And, s_and1, s_and0, r_or, s_Or, s_or1, s_or0, r_not, s_Not, s_not, r_if, s_if1, s_if0, r_ch, s_ch, s_cha, s_chb1, s_chb0, s_chc, r_tB, s_tB, r_tV, s_tV, s_tv, r_tN, s_tN, r_tA, s_tA1, s_tA0, r_tO, s_tO1, s_tO0, r_tT, r_trB, r_trI, r_trN, r_call, s_call, s_noX, s_backV, s_backC, s_backF, s_frz, r_frz, r_all0, r_all1, r_fn1, r_fn2, r_fn3, r_fn4, r_fn5, s_lvR, s_lvN, r_nx, r_bk, r_ct, r_seq, s_seqN, s_seqR, s_seqB, s_seqC, r_ret, s_ret, r_retN, r_sif, s_sif1, s_sif0, r_ex, s_ex, r_set, s_set, r_par, s_par, r_as, s_as, s_gb, r_gNm, r_gNl, r_gCs, s_gCs, r_gTu2, r_gTu3, r_gTu4, r_gSb, s_sb, s_sb2, s_st, s_nxS, r_au, s_au, s_au0, s_au1, s_au2, s_au3, r_addI, r_for, s_for, s_body, s_turnN, s_turnC, s_turnB, s_turnR, r_r1, s_r1, r_r2, s_r2, r_sq, s_sqL, s_sqS, r_tp, s_tp, r_xT, r_xL, s_x, s_xd, at_0, at_1, at_2, at_3, at_4, r_add, r_sub, r_neg, r_mul, r_fdiv, r_mod, r_pow, r_cmp, r_is, r_eqI, r_abs, r_int, r_max, r_min, r_okV, r_snap, r_lenF, r_lenT, DL.isNon, List.replicate_succ, List.replicate_zero, List.set_cons_zero, List.set_cons_succ, List.getElem?_cons_zero, List.getElem?_cons_succ, Option.map_some, Nat.reduceSub, and_self, and_true, true_and, decide_true, decide_false, if_true, if_false, Bool.false_eq_true, Bool.not_true, Bool.not_false, Nat.reduceSub, Nat.reduceAdd, Nat.reduceMul, Nat.reduceLeDiff, takeA, bag_x, hz, s_ends]
    exact ⟨b, none, none, hb, rfl⟩
theorem takeB_run (hb : b.Ok) (many : Int) (h1 : 0 < many) (h2 : many.natAbs.log2 < 9000) (x2 x3 : Option SV) : Ends (takeB [some (.cell 0), some (.fr (.int many)), x2, x3, none, none, none] (b.c :: R)) fun r => ∃ v b1 rho, 0 ≤ v ∧ v < many ∧ Bag.Ok b1 ∧ r = (.rt (.fr (.int v)), rho, b1.c :: R) := by
  have c1 : ∀ i : Int, (CMul i 39373 ∨ CMulW i 39373) = True := fun i => by simp [CMul]
  have c2 : ∀ i : Int, (CMul i 30011 ∨ CMulW i 30011) = True := fun i => by simp [CMul]
  have c3 : ∀ i : Int, (CMul i 1000000007 ∨ CMulW i 1000000007) = True := fun i => by simp [CMul]
  have c4 : ∀ i : Int, (CMul (i % 1000000007) (i % 1000000007) ∨ CMulW (i % 1000000007) (i % 1000000007)) = True := fun i => by
    have q1 := Int.emod_nonneg i (b := 1000000007) (by decide)
    have q2 := Int.emod_lt_of_pos i (b := 1000000007) (by decide)
    have q3 : -(2 ^ 64) < i % 1000000007 := by omega
    have q4 : i % 1000000007 < 2 ^ 64 := by omega
    simp only [CMul, q3, q4, and_self, true_or]
  have c5 : ∀ i : Int, (CDiv i 7 ∨ CDivW i 7) = True := fun i => by simp [CDiv]
  have cm : ∀ i : Int, (CDiv i many ∨ CDivW i many) = True := fun i => cdiv_of h1 h2
  have p1 : (0 : Int) < 1000000007 := by decide
  have p2 : (0 : Int) < 998244353 := by decide
  have q1 : ∀ m : Int, 0 ≤ m % many := fun m => Int.emod_nonneg _ (by omega)
  have q2 : ∀ m : Int, m % many < many := fun m => Int.emod_lt_of_pos _ h1
  have q3 : 0 ≤ b.z / many := Int.ediv_nonneg hb.z0 (by omega)
  by_cases hz : 0 < b.z
  · simp only [r_bind, r_1, s_1, r_2, s_2, s_2b, r_v, s_v, r_c, r_n, r_a, s_a, s_ab, r_g, s_g, r_and, s_And, s_and1, s_and0, r_or, s_Or, s_or1, s_or0, r_not, s_Not, s_not, r_if, s_if1, s_if0, r_ch, s_ch, s_cha, s_chb1, s_chb0, s_chc, r_tB, s_tB, r_tV, s_tV, s_tv, r_tN, s_tN, r_tA, s_tA1, s_tA0, r_tO, s_tO1, s_tO0, r_tT, r_trB, r_trI, r_trN, r_call, s_call, s_noX, s_backV, s_backC, s_backF, s_frz, r_frz, r_all0, r_all1, r_fn1, r_fn2, r_fn3, r_fn4, r_fn5, s_lvR, s_lvN, r_nx, r_bk, r_ct, r_seq, s_seqN, s_seqR, s_seqB, s_seqC, r_ret, s_ret, r_retN, r_sif, s_sif1, s_sif0, r_ex, s_ex, r_set, s_set, r_par, s_par, r_as, s_as, s_gb, r_gNm, r_gNl, r_gCs, s_gCs, r_gTu2, r_gTu3, r_gTu4, r_gSb, s_sb, s_sb2, s_st, s_nxS, r_au, s_au, s_au0, s_au1, s_au2, s_au3, r_addI, r_for, s_for, s_body, s_turnN, s_turnC, s_turnB, s_turnR, r_r1, s_r1, r_r2, s_r2, r_sq, s_sqL, s_sqS, r_tp, s_tp, r_xT, r_xL, s_x, s_xd, at_0, at_1, at_2, at_3, at_4, r_add, r_sub, r_neg, r_mul, r_fdiv, r_mod, r_pow, r_cmp, r_is, r_eqI, r_abs, r_int, r_max, r_min, r_okV, r_snap, r_lenF, r_lenT, DL.isNon, List.replicate_succ, List.replicate_zero, List.set_cons_zero, List.set_cons_succ, List.getElem?_cons_zero, List.getElem?_cons_succ, Option.map_some, Nat.reduceSub, and_self, and_true, true_and, decide_true, decide_false, if_true, if_false, Bool.false_eq_true, Bool.not_true, Bool.not_false, Nat.reduceSub, Nat.reduceAdd, Nat.reduceMul, Nat.reduceLeDiff, takeB, bag_x, bag_set0, hz, h1, cm, s_ends]
    exact ⟨_, ⟨_, _, _, b.ns⟩, _, q1 _, q2 _, ⟨q3, hb.m0, hb.k0, hb.n0⟩, rfl⟩
  · by_cases hm : (1000000 : Int) < many
    · simp only [r_bind, r_1, s_1, r_2, s_2, s_2b, r_v, s_v, r_c, r_n, r_a, s_a, s_ab, r_g, s_g, r_and, s_And, s_and1, s_and0, r_or, s_Or, s_or1, s_or0, r_not, s_Not, s_not, r_if, s_if1, s_if0, r_ch, s_ch, s_cha, s_chb1, s_chb0, s_chc, r_tB, s_tB, r_tV, s_tV, s_tv, r_tN, s_tN, r_tA, s_tA1, s_tA0, r_tO, s_tO1, s_tO0, r_tT, r_trB, r_trI, r_trN, r_call, s_call, s_noX, s_backV, s_backC, s_backF, s_frz, r_frz, r_all0, r_all1, r_fn1, r_fn2, r_fn3, r_fn4, r_fn5, s_lvR, s_lvN, r_nx, r_bk, r_ct, r_seq, s_seqN, s_seqR, s_seqB, s_seqC, r_ret, s_ret, r_retN, r_sif, s_sif1, s_sif0, r_ex, s_ex, r_set, s_set, r_par, s_par, r_as, s_as, s_gb, r_gNm, r_gNl, r_gCs, s_gCs, r_gTu2, r_gTu3, r_gTu4, r_gSb, s_sb, s_sb2, s_st, s_nxS, r_au, s_au, s_au0, s_au1, s_au2, s_au3, r_addI, r_for, s_for, s_body, s_turnN, s_turnC, s_turnB, s_turnR, r_r1, s_r1, r_r2, s_r2, r_sq, s_sqL, s_sqS, r_tp, s_tp, r_xT, r_xL, s_x, s_xd, at_0, at_1, at_2, at_3, at_4, r_add, r_sub, r_neg, r_mul, r_fdiv, r_mod, r_pow, r_cmp, r_is, r_eqI, r_abs, r_int, r_max, r_min, r_okV, r_snap, r_lenF, r_lenT, DL.isNon, List.replicate_succ, List.replicate_zero, List.set_cons_zero, List.set_cons_succ, List.getElem?_cons_zero, List.getElem?_cons_succ, Option.map_some, Nat.reduceSub, and_self, and_true, true_and, decide_true, decide_false, if_true, if_false, Bool.false_eq_true, Bool.not_true, Bool.not_false, Nat.reduceSub, Nat.reduceAdd, Nat.reduceMul, Nat.reduceLeDiff, takeB, bag_x, bag_set0, hz, h1, hm, c1, c2, c3, c4, c5, p1, p2, s_ends]
      exact ⟨_, b, _, q1 _, q2 _, hb, rfl⟩
    · simp only [r_bind, r_1, s_1, r_2, s_2, s_2b, r_v, s_v, r_c, r_n, r_a, s_a, s_ab, r_g, s_g, r_and, s_And, s_and1, s_and0, r_or, s_Or, s_or1, s_or0, r_not, s_Not, s_not, r_if, s_if1, s_if0, r_ch, s_ch, s_cha, s_chb1, s_chb0, s_chc, r_tB, s_tB, r_tV, s_tV, s_tv, r_tN, s_tN, r_tA, s_tA1, s_tA0, r_tO, s_tO1, s_tO0, r_tT, r_trB, r_trI, r_trN, r_call, s_call, s_noX, s_backV, s_backC, s_backF, s_frz, r_frz, r_all0, r_all1, r_fn1, r_fn2, r_fn3, r_fn4, r_fn5, s_lvR, s_lvN, r_nx, r_bk, r_ct, r_seq, s_seqN, s_seqR, s_seqB, s_seqC, r_ret, s_ret, r_retN, r_sif, s_sif1, s_sif0, r_ex, s_ex, r_set, s_set, r_par, s_par, r_as, s_as, s_gb, r_gNm, r_gNl, r_gCs, s_gCs, r_gTu2, r_gTu3, r_gTu4, r_gSb, s_sb, s_sb2, s_st, s_nxS, r_au, s_au, s_au0, s_au1, s_au2, s_au3, r_addI, r_for, s_for, s_body, s_turnN, s_turnC, s_turnB, s_turnR, r_r1, s_r1, r_r2, s_r2, r_sq, s_sqL, s_sqS, r_tp, s_tp, r_xT, r_xL, s_x, s_xd, at_0, at_1, at_2, at_3, at_4, r_add, r_sub, r_neg, r_mul, r_fdiv, r_mod, r_pow, r_cmp, r_is, r_eqI, r_abs, r_int, r_max, r_min, r_okV, r_snap, r_lenF, r_lenT, DL.isNon, List.replicate_succ, List.replicate_zero, List.set_cons_zero, List.set_cons_succ, List.getElem?_cons_zero, List.getElem?_cons_succ, Option.map_some, Nat.reduceSub, and_self, and_true, true_and, decide_true, decide_false, if_true, if_false, Bool.false_eq_true, Bool.not_true, Bool.not_false, Nat.reduceSub, Nat.reduceAdd, Nat.reduceMul, Nat.reduceLeDiff, takeB, bag_x, bag_set0, hz, h1, hm, c1, c2, c3, c4, c5, p1, p2, s_ends]
      exact ⟨_, b, _, q1 _, q2 _, hb, rfl⟩
theorem take_run (b : Bag) (hb : b.Ok) (many : Int) (h1 : 0 < many) (h2 : many.natAbs.log2 < 9000) (R : Store) (wf : WF (b.c :: R)) :
    ∃ v b', 0 ≤ v ∧ v < many ∧ Bag.Ok b' ∧ WF (b'.c :: R) ∧ takeM [.cell 0, .fr (.int many)] (b.c :: R) = .ok (.val (.fr (.int v)), b'.c :: R) := by
  obtain ⟨_, e1, b1, x2, x3, hb1, rfl⟩ := takeA_run (R := R) hb many
  obtain ⟨_, e2, v, b2, rho, g1, g2, hb2, rfl⟩ := takeB_run (R := R) hb1 many h1 h2 x2 x3
  refine ⟨v, b2, g1, g2, hb2, wf.bag, ?_⟩
  simp only [r_bind, r_1, s_1, r_2, s_2, s_2b, r_v, s_v, r_c, r_n, r_a, s_a, s_ab, r_g, s_g, r_and, s_And, s_and1, s_and0, r_or, s_Or, s_or1, s_or0, r_not, s_Not, s_not, r_if, s_if1, s_if0, r_ch, s_ch, s_cha, s_chb1, s_chb0, s_chc, r_tB, s_tB, r_tV, s_tV, s_tv, r_tN, s_tN, r_tA, s_tA1, s_tA0, r_tO, s_tO1, s_tO0, r_tT, r_trB, r_trI, r_trN, r_call, s_call, s_noX, s_backV, s_backC, s_backF, s_frz, r_frz, r_all0, r_all1, r_fn1, r_fn2, r_fn3, r_fn4, r_fn5, s_lvR, s_lvN, r_nx, r_bk, r_ct, r_seq, s_seqN, s_seqR, s_seqB, s_seqC, r_ret, s_ret, r_retN, r_sif, s_sif1, s_sif0, r_ex, s_ex, r_set, s_set, r_par, s_par, r_as, s_as, s_gb, r_gNm, r_gNl, r_gCs, s_gCs, r_gTu2, r_gTu3, r_gTu4, r_gSb, s_sb, s_sb2, s_st, s_nxS, r_au, s_au, s_au0, s_au1, s_au2, s_au3, r_addI, r_for, s_for, s_body, s_turnN, s_turnC, s_turnB, s_turnR, r_r1, s_r1, r_r2, s_r2, r_sq, s_sqL, s_sqS, r_tp, s_tp, r_xT, r_xL, s_x, s_xd, at_0, at_1, at_2, at_3, at_4, r_add, r_sub, r_neg, r_mul, r_fdiv, r_mod, r_pow, r_cmp, r_is, r_eqI, r_abs, r_int, r_max, r_min, r_okV, r_snap, r_lenF, r_lenT, DL.isNon, List.replicate_succ, List.replicate_zero, List.set_cons_zero, List.set_cons_succ, List.getElem?_cons_zero, List.getElem?_cons_succ, Option.map_some, Nat.reduceSub, and_self, and_true, true_and, decide_true, decide_false, if_true, if_false, Bool.false_eq_true, Bool.not_true, Bool.not_false, Nat.reduceSub, Nat.reduceAdd, Nat.reduceMul, Nat.reduceLeDiff, takeM, e1, e2, leave_bag wf]
end
end DL

namespace DL
open PySem L2

section
variable {a b : EM} {rho : Slots} {S T : Store} {x y : SV} {t : TM} {e : EM} {gm : GM}
def k_ps (r : SV × Store) : Res (Option Int × Store) := match r.1 with
  | .fr (.int i) => .ok (some i, r.2)
  | _ => .stuck
theorem r_ps : pS a rho S = (a rho S).bind k_ps := id rfl
theorem s_ps (i : Int) : k_ps (.fr (.int i), S) = .ok (some i, S) := id rfl
theorem r_pn : pN rho S = .ok (none, S) := id rfl
def k_sl2 (c : Bool) (x : SV) (lo : Option Int) (r : Option Int × Store) : Res (SV × Store) := slG c x lo r.1 r.2
def k_sl1 (c : Bool) (hi : PM) (rho : Slots) (x : SV) (r : Option Int × Store) : Res (SV × Store) := (hi rho r.2).bind (k_sl2 c x r.1)
def k_sl (c : Bool) (lo hi : PM) (rho : Slots) (r : SV × Store) : Res (SV × Store) := (lo rho r.2).bind (k_sl1 c hi rho r.1)
theorem r_sl (c : Bool) (lo hi : PM) : eSl c a lo hi rho S = (a rho S).bind (k_sl c lo hi rho) := id rfl
theorem s_sl (c : Bool) (lo hi : PM) : k_sl c lo hi rho (x, S) = (lo rho S).bind (k_sl1 c hi rho x) := id rfl
theorem s_sl1 (c : Bool) (hi : PM) (l : Option Int) : k_sl1 c hi rho x (l, S) = (hi rho S).bind (k_sl2 c x l) := id rfl
theorem s_sl2 (c : Bool) (l u : Option Int) : k_sl2 c x l (u, S) = slG c x l u S := id rfl
theorem cut_map {α β : Type} (f : α → β) (xs : List α) (l u : Option Int) : cutA (xs.map f) l u = (cutA xs l u).map f := by
  unfold cutA
  simp [List.map_drop, List.map_take]
theorem r_slL (ds : List D) (l u : Option Int) : slG false (.fr (.lst ds)) l u S = .ok (.fr (.lst (cutA ds l u)), S) := by
  unfold slG
  simp only [rdS, rdL, cut_map, newL0, allFr_map, Bool.false_eq_true, if_false]
theorem r_slS (ds : List D) (l u : Option Int) : slG false (.fr (.scr ds)) l u S = .ok (.fr (.lst (cutA ds l u)), S) := by
  unfold slG
  simp only [rdS, cut_map, newL0, allFr_map, Bool.false_eq_true, if_false]
theorem r_slT (c : Bool) (ds : List D) (l u : Option Int) : slG c (.fr (.tup ds)) l u S = .ok (.fr (.tup (cutA ds l u)), S) := id rfl
theorem cut_to {α : Type} (xs : List α) (n : Nat) : cutA xs none (some (n : Int)) = xs.take n := by
  unfold cutA
  rw [HT.sIx_none, HT.sIx_nat, List.drop_zero, Nat.sub_zero]
  by_cases h : n ≤ xs.length
  · rw [Nat.min_eq_left h]
  · rw [Nat.min_eq_right (by omega), List.take_length, List.take_of_length_le (by omega)]
def k_l3 (r : SV × Store) : Res (Option SV × Store) := .ok (some r.1, r.2)
def k_l2 (e : EM) (rho : Slots) (r : Bool × Store) : Res (Option SV × Store) := if r.1 then (e rho r.2).bind k_l3 else .ok (none, r.2)
def k_l1 (t : TM) (e : EM) (r : Slots × Store) : Res (Option SV × Store) := (t r.1 r.2).bind (k_l2 e r.1)
def lcT (gm : GM) (t : TM) (e : EM) (x : SV) (rho : Slots) (S : Store) : Res (Option SV × Store) := (gm x rho S).bind (k_l1 t e)
theorem r_lcT : lcT gm t e x rho S = (gm x rho S).bind (k_l1 t e) := id rfl
theorem s_l1 : k_l1 t e (rho, S) = (t rho S).bind (k_l2 e rho) := id rfl
theorem s_l2t : k_l2 e rho (true, S) = (e rho S).bind k_l3 := id rfl
theorem s_l2f : k_l2 e rho (false, S) = .ok (none, S) := id rfl
theorem s_l3 : k_l3 (x, S) = .ok (some x, S) := id rfl
theorem lc_nil {lk : Store → Prop} {own : List Nat} {acc : List SV} (h : lk (S ++ [.lst acc])) : lcM lk gm t e own rho [] S acc = .ok (acc, S) := by
  unfold lcM
  rw [if_pos h]
theorem lc_some {lk : Store → Prop} {own : List Nat} {acc : List SV} {xs : List SV} {S1 : Store} (h : lk (S ++ [.lst acc])) (hl : acc.length < sizeLine) (hs : S1.length = S.length) (hr : lcT gm t e x (wipeR rho own) (S ++ [.lst acc]) = .ok (some y, S1 ++ [.lst acc])) :
    lcM lk gm t e own rho (x :: xs) S acc = lcM lk gm t e own rho xs S1 (acc ++ [y]) := by
  conv => lhs; unfold lcM
  rw [if_pos h]
  unfold lcT k_l1 k_l2 k_l3 at hr
  cases hg : gm x (wipeR rho own) (S ++ [.lst acc]) with
  | ok r =>
    rw [hg, r_bind] at hr
    rw [r_bind]
    cases ht : t r.1 r.2 with
    | ok k =>
      rw [ht, r_bind] at hr
      rw [r_bind]
      by_cases hk : k.1 = true
      · rw [if_pos hk] at hr ⊢
        cases he : e r.1 k.2 with
        | ok z =>
          rw [he, r_bind] at hr
          rw [r_bind]
          simp only [Res.ok.injEq, Prod.mk.injEq, Option.some.injEq] at hr
          obtain ⟨rfl, h2⟩ := hr
          rw [h2, unS_app hs]
          dsimp only
          rw [if_pos hl]
        | _ => rw [he] at hr; cases hr
      · rw [if_neg hk] at hr
        simp at hr
    | _ => rw [ht] at hr; cases hr
  | _ => rw [hg] at hr; cases hr
theorem lc_map {lk : Store → Prop} {own : List Nat} (f : SV → SV) (hlk : ∀ acc, lk (S ++ [.lst acc])) : ∀ (xs acc : List SV), acc.length + xs.length ≤ sizeLine →
    (∀ x ∈ xs, ∀ acc, lcT gm t e x (wipeR rho own) (S ++ [.lst acc]) = .ok (some (f x), S ++ [.lst acc])) → lcM lk gm t e own rho xs S acc = .ok (acc ++ xs.map f, S)
  | [], acc, _, _ => by rw [lc_nil (hlk _)]; simp
  | x :: xs, acc, hz, h => by
    have hz' : acc.length + (xs.length + 1) ≤ sizeLine := hz
    rw [lc_some (hlk _) (by omega) rfl (h x List.mem_cons_self acc), lc_map f hlk xs (acc ++ [f x]) (by simp; omega) fun z hz => h z (List.mem_cons_of_mem _ hz)]
    simp
noncomputable def k_lce (cc : Bool) (r : List SV × Store) : Res (SV × Store) := lcEnd cc r.1 r.2
noncomputable def k_lc (cc : Bool) (gm : GM) (t : TM) (e : EM) (own : List Nat) (rho : Slots) (r : Wk × Store) : Res (SV × Store) := (noE (lcM r.1.lk gm t e own rho r.1.xs r.2 [])).bind (k_lce cc)
theorem r_lc (cc : Bool) (im : IM) (own : List Nat) : eLC cc im gm t e own rho S = (im rho S).bind (k_lc cc gm t e own rho) := id rfl
theorem s_lc (cc : Bool) (own : List Nat) (w : Wk) : k_lc cc gm t e own rho (w, S) = (noE (lcM w.lk gm t e own rho w.xs S [])).bind (k_lce cc) := id rfl
theorem s_noE {α : Type} (r : α) : noE (.ok r) = .ok r := id rfl
theorem s_lceC (acc : List SV) : k_lce true (acc, S) = .ok (.cell S.length, S ++ [.lst acc]) := id rfl
theorem s_lceF {ds : List D} (wf : WF S) : k_lce false (ds.map SV.fr, S) = .ok (.fr (.lst ds), S) := by
  unfold k_lce lcEnd
  simp only [Bool.false_eq_true, if_false, allFr_map]
  rw [if_pos (show S.all (Cell.below S.length) = true from wf)]
theorem s_wr0 : wipeR rho [] = rho := id rfl
theorem s_wr (v : Nat) (vs : List Nat) : wipeR rho (v :: vs) = (wipeR rho vs).set v none := id rfl
end
def szN {α : Type} : List α → Nat
  | [] => 0
  | _ :: xs => szN xs + 1
theorem szN_eq {α : Type} : ∀ xs : List α, szN xs = xs.length
  | [] => rfl
  | _ :: xs => by rw [szN, szN_eq xs]; rfl
theorem s_sz0 {α : Type} : szN ([] : List α) = 0 := id rfl
theorem s_sz1 {α : Type} (x : α) (xs : List α) : szN (x :: xs) = szN xs + 1 := id rfl
section
variable {S : Store}
def k_nT (n : Nat) (S : Store) (o : Option (List D)) : Res (SV × Store) := if n ≤ 16777216 then (match o with
  | some ds => .ok (.fr (.tup ds), S)
  | none => .stuck) else .stuck
theorem r_nT (xs : List SV) : newT xs S = k_nT (szN xs) S (allFr xs) := by
  unfold newT k_nT
  rw [szN_eq, sizeLine_eq]
  try rfl
theorem s_nT {n : Nat} (h : n ≤ 16777216) (ds : List D) : k_nT n S (some ds) = .ok (.fr (.tup ds), S) := if_pos h
def k_nF (n : Nat) (S : Store) (o : Option (List D)) : Res (SV × Store) := if n ≤ 16777216 then (match o with
  | some ds => .ok (.fr (.lst ds), S)
  | none => .stuck) else .stuck
theorem r_nF (xs : List SV) : newL false xs S = k_nF (szN xs) S (allFr xs) := by
  unfold newL k_nF
  rw [szN_eq, sizeLine_eq]
  try rfl
theorem s_nF {n : Nat} (h : n ≤ 16777216) (ds : List D) : k_nF n S (some ds) = .ok (.fr (.lst ds), S) := if_pos h
def k_nC (n : Nat) (xs : List SV) (S : Store) : Res (SV × Store) := if n ≤ 16777216 then .ok (.cell S.length, S ++ [.lst xs]) else .stuck
theorem r_nC (xs : List SV) : newL true xs S = k_nC (szN xs) xs S := by
  unfold newL k_nC
  rw [szN_eq, sizeLine_eq]
  try rfl
theorem s_nC {n : Nat} (h : n ≤ 16777216) (xs : List SV) : k_nC n xs S = .ok (.cell S.length, S ++ [.lst xs]) := if_pos h
end
def absI (i : Int) : Int := if i < 0 then -i else i
theorem bag_run (ns : List Int) (hn : ns.length ≤ sizeLine) : bagM [.fr (.scr (ns.map D.int))] [] = .ok (.new (Bag.c ⟨0, 1234567891, 0, (ns.take 63).map absI⟩), []) := by
  have e1 : cutA (ns.map D.int) none (some 63) = (ns.take 63).map D.int := by
    rw [show (63 : Int) = ((63 : Nat) : Int) from rfl, cut_to, List.map_take]
  have e2 : lcM (fun _ => True) (gNm 2) tTr (eA absG (aC (eV 2) aN)) [1, 2] [some (.fr (.scr (ns.map D.int))), none, none] (((ns.take 63).map D.int).map SV.fr) [] [] = .ok ((((ns.take 63).map absI).map D.int).map SV.fr, []) := by
    rw [lc_map (fun x => match x with
      | .fr (.int i) => .fr (.int (absI i))
      | z => z) (fun _ => trivial)]
    · simp [Function.comp_def]
    · simp
      omega
    · intro x hx acc
      obtain ⟨d, hd, rfl⟩ := List.mem_map.mp hx
      obtain ⟨i, _, rfl⟩ := List.mem_map.mp hd
      simp only [r_bind, r_1, s_1, r_2, s_2, s_2b, r_v, s_v, r_c, r_n, r_a, s_a, s_ab, r_g, s_g, r_and, s_And, s_and1, s_and0, r_or, s_Or, s_or1, s_or0, r_not, s_Not, s_not, r_if, s_if1, s_if0, r_ch, s_ch, s_cha, s_chb1, s_chb0, s_chc, r_tB, s_tB, r_tV, s_tV, s_tv, r_tN, s_tN, r_tA, s_tA1, s_tA0, r_tO, s_tO1, s_tO0, r_tT, r_trB, r_trI, r_trN, r_call, s_call, s_noX, s_backV, s_backC, s_backF, s_frz, r_frz, r_all0, r_all1, r_fn1, r_fn2, r_fn3, r_fn4, r_fn5, s_lvR, s_lvN, r_nx, r_bk, r_ct, r_seq, s_seqN, s_seqR, s_seqB, s_seqC, r_ret, s_ret, r_retN, r_sif, s_sif1, s_sif0, r_ex, s_ex, r_set, s_set, r_par, s_par, r_as, s_as, s_gb, r_gNm, r_gNl, r_gCs, s_gCs, r_gTu2, r_gTu3, r_gTu4, r_gSb, s_sb, s_sb2, s_st, s_nxS, r_au, s_au, s_au0, s_au1, s_au2, s_au3, r_addI, r_for, s_for, s_body, s_turnN, s_turnC, s_turnB, s_turnR, r_r1, s_r1, r_r2, s_r2, r_sq, s_sqL, s_sqS, r_tp, s_tp, r_xT, r_xL, s_x, s_xd, at_0, at_1, at_2, at_3, at_4, r_add, r_sub, r_neg, r_mul, r_fdiv, r_mod, r_pow, r_cmp, r_is, r_eqI, r_abs, r_int, r_max, r_min, r_okV, r_snap, r_lenF, r_lenT, DL.isNon, List.replicate_succ, List.replicate_zero, List.set_cons_zero, List.set_cons_succ, List.getElem?_cons_zero, List.getElem?_cons_succ, Option.map_some, Nat.reduceSub, and_self, and_true, true_and, decide_true, decide_false, if_true, if_false, Bool.false_eq_true, Bool.not_true, Bool.not_false, Nat.reduceSub, Nat.reduceAdd, Nat.reduceMul, Nat.reduceLeDiff, r_lcT, s_l1, s_l2t, s_l3, s_wr0, s_wr]
      rfl
  simp only [r_bind, r_1, s_1, r_2, s_2, s_2b, r_v, s_v, r_c, r_n, r_a, s_a, s_ab, r_g, s_g, r_and, s_And, s_and1, s_and0, r_or, s_Or, s_or1, s_or0, r_not, s_Not, s_not, r_if, s_if1, s_if0, r_ch, s_ch, s_cha, s_chb1, s_chb0, s_chc, r_tB, s_tB, r_tV, s_tV, s_tv, r_tN, s_tN, r_tA, s_tA1, s_tA0, r_tO, s_tO1, s_tO0, r_tT, r_trB, r_trI, r_trN, r_call, s_call, s_noX, s_backV, s_backC, s_backF, s_frz, r_frz, r_all0, r_all1, r_fn1, r_fn2, r_fn3, r_fn4, r_fn5, s_lvR, s_lvN, r_nx, r_bk, r_ct, r_seq, s_seqN, s_seqR, s_seqB, s_seqC, r_ret, s_ret, r_retN, r_sif, s_sif1, s_sif0, r_ex, s_ex, r_set, s_set, r_par, s_par, r_as, s_as, s_gb, r_gNm, r_gNl, r_gCs, s_gCs, r_gTu2, r_gTu3, r_gTu4, r_gSb, s_sb, s_sb2, s_st, s_nxS, r_au, s_au, s_au0, s_au1, s_au2, s_au3, r_addI, r_for, s_for, s_body, s_turnN, s_turnC, s_turnB, s_turnR, r_r1, s_r1, r_r2, s_r2, r_sq, s_sqL, s_sqS, r_tp, s_tp, r_xT, r_xL, s_x, s_xd, at_0, at_1, at_2, at_3, at_4, r_add, r_sub, r_neg, r_mul, r_fdiv, r_mod, r_pow, r_cmp, r_is, r_eqI, r_abs, r_int, r_max, r_min, r_okV, r_snap, r_lenF, r_lenT, DL.isNon, List.replicate_succ, List.replicate_zero, List.set_cons_zero, List.set_cons_succ, List.getElem?_cons_zero, List.getElem?_cons_succ, Option.map_some, Nat.reduceSub, and_self, and_true, true_and, decide_true, decide_false, if_true, if_false, Bool.false_eq_true, Bool.not_true, Bool.not_false, Nat.reduceSub, Nat.reduceAdd, Nat.reduceMul, Nat.reduceLeDiff, bagM, r_nC, s_nC, s_sz0, s_sz1, r_lc, r_sl, s_sl, s_sl1, s_sl2, r_ps, s_ps, r_pn, r_slS, e1, s_lc, e2, s_noE, s_lceF wf_nil, Option.map_none]
  rfl
end DL

namespace DL
open PySem L2

section
variable {S : Store} {c c' : Cell} {x y : SV} {xs : List SV} {m : AM} {rho : Slots} {o : EM}
theorem get_snoc : (S ++ [c])[S.length]? = some c := by simp
theorem set_snoc : (S ++ [c]).set S.length c' = S ++ [c'] := by simp
theorem last_x (i : Int) : ixG (.cell S.length) (.fr (.int i)) (S ++ [.lst xs]) = k_x (S ++ [.lst xs]) (atI xs i) := r_xC get_snoc i
theorem at_m1 {α : Type} (l : List α) (a : α) : atI (l ++ [a]) (-1) = some a := by
  unfold atI ixN
  rw [if_neg (by decide), List.length_append, List.length_singleton, if_pos (by omega), Option.bind_some]
  have : ((-1 : Int) + ((l.length + 1 : Nat) : Int)).toNat = l.length := by omega
  rw [this]
  simp
theorem last_set (v : SV) (l : List SV) (a : SV) : setL (.cell S.length) (.fr (.int (-1))) v (S ++ [.lst (l ++ [a])]) = .ok (S ++ [.lst (l ++ [v])]) := by
  unfold setL
  have e : ixN (l ++ [a]).length (-1) = some l.length := by
    unfold ixN
    rw [if_neg (by decide), List.length_append, List.length_singleton, if_pos (by omega)]
    congr 1
    omega
  simp only [get_snoc, e, set_snoc]
  congr 4
  simp
def k_mtb (g : GMt) (x : SV) (r : List SV × Store) : Res (SV × Store) := g x r.1 r.2
def k_mt (T : String) (g : GMt) (m : AM) (rho : Slots) (r : SV × Store) : Res (SV × Store) := if tyS T r.2 r.1 then (m rho r.2).bind (k_mtb g r.1) else .stuck
theorem r_mt (T : String) (g : GMt) : eMt T g o m rho S = (o rho S).bind (k_mt T g m rho) := id rfl
theorem s_mt {T : String} (g : GMt) (h : tyS T S x = true) : k_mt T g m rho (x, S) = (m rho S).bind (k_mtb g x) := if_pos h
theorem s_mtb (g : GMt) : k_mtb g x (xs, S) = g x xs S := id rfl
theorem ty_last : tyS "list" (S ++ [.lst xs]) (.cell S.length) = true := by
  unfold tyS
  simp [rdL, get_snoc]
def k_fld (ns : List Str) (f : Str) (r : SV × Store) : Res (SV × Store) := fldG ns f r.1 r.2
theorem r_fld' (ns : List Str) (f : Str) : eFld ns f o rho S = (o rho S).bind (k_fld ns f) := id rfl
theorem s_fld (ns : List Str) (f : Str) : k_fld ns f (x, S) = fldG ns f x S := id rfl
def k_meth0 (cc : Bool) (tbl : Tbl) (nm : Str) (r : SV × Store) : Res (SV × Store) := match metOf tbl nm r.2 r.1 with
  | some f => (noX (f [r.1] r.2)).bind (back cc)
  | none => .stuck
theorem r_meth0 (cc : Bool) (tbl : Tbl) (nm : Str) : eMeth0 cc tbl nm o rho S = (o rho S).bind (k_meth0 cc tbl nm) := id rfl
theorem s_meth0 {cc : Bool} {tbl : Tbl} {nm : Str} {f : FnM} (h : metOf tbl nm S x = some f) : k_meth0 cc tbl nm (x, S) = (noX (f [x] S)).bind (back cc) := by
  unfold k_meth0
  simp only [h]
def k_methb (cc : Bool) (f : FnM) (x : SV) (r : List SV × Store) : Res (SV × Store) := (noX (f (x :: r.1) r.2)).bind (back cc)
def k_meth (cc : Bool) (tbl : Tbl) (nm : Str) (m : AM) (rho : Slots) (r : SV × Store) : Res (SV × Store) := match metOf tbl nm r.2 r.1 with
  | some f => (m rho r.2).bind (k_methb cc f r.1)
  | none => .stuck
theorem r_meth (cc : Bool) (tbl : Tbl) (nm : Str) : eMeth cc tbl nm o m rho S = (o rho S).bind (k_meth cc tbl nm m rho) := id rfl
theorem s_meth {cc : Bool} {tbl : Tbl} {nm : Str} {f : FnM} (h : metOf tbl nm S x = some f) : k_meth cc tbl nm m rho (x, S) = (m rho S).bind (k_methb cc f x) := by
  unfold k_meth
  simp only [h]
theorem s_methb (cc : Bool) (f : FnM) : k_methb cc f x (xs, S) = (noX (f (x :: xs) S)).bind (back cc) := id rfl
def k_make (c : Bool) (n : Str) (f : FnM) (r : List SV × Store) : Res (SV × Store) := (noX (f (.cell r.2.length :: r.1) (r.2 ++ [.ins n []]))).bind (mkEnd c r.2.length)
theorem r_make (c : Bool) (n : Str) (f : FnM) : eMake c n f m rho S = (m rho S).bind (k_make c n f) := id rfl
theorem s_make (c : Bool) (n : Str) (f : FnM) : k_make c n f (xs, S) = (noX (f (.cell S.length :: xs) (S ++ [.ins n []]))).bind (mkEnd c S.length) := id rfl
def k_sfb (ns : List Str) (f : Str) (rho : Slots) (v : SV) (r : SV × Store) : Res (Fl × Slots × Store) := match r.1 with
  | .cell k => match r.2[k]? with
    | some (.ins n fs) => if n ∈ ns ∧ fs.length < 1000 then .ok (.nx, rho, r.2.set k (.ins n (putS f v fs))) else .stuck
    | _ => .stuck
  | _ => .stuck
def k_sf (ns : List Str) (f : Str) (o : EM) (rho : Slots) (r : SV × Store) : Res (Fl × Slots × Store) := (o rho r.2).bind (k_sfb ns f rho r.1)
theorem r_sf (ns : List Str) (f : Str) (p : EM) : sFldM ns f o p rho S = (p rho S).bind (k_sf ns f o rho) := id rfl
theorem s_sf (ns : List Str) (f : Str) : k_sf ns f o rho (x, S) = (o rho S).bind (k_sfb ns f rho x) := id rfl
theorem s_sfb {ns : List Str} {f n : Str} {fs : List (Str × SV)} (h : n ∈ ns ∧ fs.length < 1000) : k_sfb ns f rho x (.cell S.length, S ++ [.ins n fs]) = .ok (.nx, rho, S ++ [.ins n (putS f x fs)]) := by
  unfold k_sfb
  simp only [get_snoc, if_pos h, set_snoc]
def k_sort (c : Bool) (r : SV × Store) : Res (SV × Store) := sortG c r.1 r.2
theorem r_sort (c : Bool) : eSortF c o rho S = (o rho S).bind (k_sort c) := id rfl
theorem s_sort (c : Bool) : k_sort c (x, S) = sortG c x S := id rfl
end
end DL

namespace DL
open PySem L2

section
variable {S : Store} {a : EM} {m : AM} {rho : Slots} {x y : SV}
def k_en (r : List SV × Store) : Res (Wk × Store) := match r.1 with
  | [a] => match srcM r.2 a with
    | some (ds, lk) => .ok (⟨enF 0 ds, lk⟩, r.2)
    | none => .stuck
  | _ => .stuck
theorem r_en : iEn m rho S = (m rho S).bind k_en := id rfl
theorem src_L (ds : List D) : srcM S (.fr (.lst ds)) = some (ds, fun _ => True) := by
  unfold srcM
  simp only [rdS, rdL, Option.bind_some, allFr_map, Option.map_some]
theorem s_enL (ds : List D) : k_en ([.fr (.lst ds)], S) = .ok (⟨enF 0 ds, fun _ => True⟩, S) := by
  unfold k_en
  simp only [src_L]
def k_zi (r : List SV × Store) : Res (Wk × Store) := match r.1 with
  | [a, b] => match srcM r.2 a, srcM r.2 b with
    | some (ds, lk), some (es, lk') => .ok (⟨ziF ds es, fun S => lk S ∧ lk' S⟩, r.2)
    | _, _ => .stuck
  | _ => .stuck
theorem r_zi : iZi m rho S = (m rho S).bind k_zi := id rfl
theorem s_ziL (ds es : List D) : k_zi ([.fr (.lst ds), .fr (.lst es)], S) = .ok (⟨ziF ds es, fun _ => True ∧ True⟩, S) := by
  unfold k_zi
  simp only [src_L]
def k_sst (c : Bool) (r : SV × Store) : Res (SV × Store) := sortSetG c r.1 r.2
theorem r_sst (c : Bool) : eSortSet c a rho S = (a rho S).bind (k_sst c) := id rfl
def k_cmA (cc : Bool) (n : Str) (f : FnM) (r : List SV × Store) : Res (SV × Store) := (noX (f (.fr (.cls n) :: r.1) r.2)).bind (back cc)
theorem r_cmA (cc : Bool) (n : Str) (f : FnM) : eCmA cc n f m rho S = (m rho S).bind (k_cmA cc n f) := id rfl
theorem s_cmA (cc : Bool) (n : Str) (f : FnM) (xs : List SV) : k_cmA cc n f (xs, S) = (noX (f (.fr (.cls n) :: xs) S)).bind (back cc) := id rfl
def k_rev (c : Bool) (r : SV × Store) : Res (SV × Store) := revG c r.1 r.2
theorem r_rev (c : Bool) : eRev c a rho S = (a rho S).bind (k_rev c) := id rfl
theorem s_revF (ds : List D) : k_rev false (.fr (.lst ds), S) = .ok (.fr (.lst ds.reverse), S) := by
  show revG false (.fr (.lst ds)) S = _
  unfold revG newL0
  simp only [rdS, rdL, ← List.map_reverse, allFr_map, Bool.false_eq_true, if_false]
def k_par3 (i j l : Nat) (rho : Slots) (r : List SV × Store) : Res (Fl × Slots × Store) := match r.1 with
  | [u, v, w] => .ok (.nx, ((rho.set i (some u)).set j (some v)).set l (some w), r.2)
  | _ => .stuck
theorem r_par3 (i j l : Nat) : sPar3 i j l m rho S = (m rho S).bind (k_par3 i j l rho) := id rfl
theorem s_par3 (i j l : Nat) (z : SV) : k_par3 i j l rho ([x, y, z], S) = .ok (.nx, ((rho.set i (some x)).set j (some y)).set l (some z), S) := id rfl
theorem r_gUl3 {ms : GMs} (d e f : D) : gUl 3 ms (.fr (.lst [d, e, f])) rho S = ms [.fr d, .fr e, .fr f] rho S := id rfl
def k_mt0 (T : String) (g : GMt) (r : SV × Store) : Res (SV × Store) := if tyS T r.2 r.1 then g r.1 [] r.2 else .stuck
theorem r_mt0' (T : String) (g : GMt) : eMt0 T g a rho S = (a rho S).bind (k_mt0 T g) := id rfl
end
section
variable {S : Store}
def k_nTC (n : Nat) (xs : List SV) (S : Store) : Res (SV × Store) := if n ≤ 16777216 then .ok (.cell S.length, S ++ [.tup xs]) else .stuck
theorem r_nTC (xs : List SV) : newTC xs S = k_nTC (szN xs) xs S := by
  unfold newTC k_nTC
  rw [szN_eq, sizeLine_eq]
  try rfl
theorem s_nTC {n : Nat} (h : n ≤ 16777216) (xs : List SV) : k_nTC n xs S = .ok (.cell S.length, S ++ [.tup xs]) := if_pos h
end
end DL

namespace DL
open PySem PySem.Spec PyProof.Rows L2
section
variable {a b c : EM} {m : AM} {rho : Slots} {S : Store} {x y z : SV} {xs : List SV} {k j : Nat} {kvs : List (List Key × SV)} {key : List Key}
def k_get3 (o k : SV) (r : SV × Store) : Res (SV × Store) := getTG o k r.1 r.2
def k_get2 (o : SV) (mx : EM) (rho : Slots) (r : SV × Store) : Res (SV × Store) := (mx rho r.2).bind (k_get3 o r.1)
def k_get1 (mk mx : EM) (rho : Slots) (r : SV × Store) : Res (SV × Store) := if (rdTD r.2 r.1).isSome then (mk rho r.2).bind (k_get2 r.1 mx rho) else .stuck
theorem r_getT : eGetT a b c rho S = (a rho S).bind (k_get1 b c rho) := id rfl
theorem s_get2 : k_get2 x c rho (y, S) = (c rho S).bind (k_get3 x y) := id rfl
theorem s_get3 : k_get3 x y (z, S) = getTG x y z S := id rfl
def k_ptT3 (rho : Slots) (S' : Store) : Res (Slots × Store) := .ok (rho, S')
def k_ptT2 (x : SV) (rho : Slots) (o : SV) (i : SV × Store) : Res (Slots × Store) := (putTD o i.1 x i.2).bind (k_ptT3 rho)
def k_ptT (mi : EM) (x : SV) (rho : Slots) (o : SV × Store) : Res (Slots × Store) := (mi rho o.2).bind (k_ptT2 x rho o.1)
theorem r_ptT : gPtT a b x rho S = (a rho S).bind (k_ptT b x rho) := id rfl
theorem s_ptT : k_ptT b x rho (y, S) = (b rho S).bind (k_ptT2 x rho y) := id rfl
theorem s_ptT2 : k_ptT2 x rho y (z, S) = (putTD y z x S).bind (k_ptT3 rho) := id rfl
theorem s_ptT3 : k_ptT3 rho S = .ok (rho, S) := id rfl
def k_mtT (g : GMt) (m : AM) (rho : Slots) (r : SV × Store) : Res (SV × Store) := match r.1 with
  | .cell j => match r.2[j]? with
    | some (.dit _) => (m rho r.2).bind (k_mtb g r.1)
    | _ => .stuck
  | _ => .stuck
theorem r_mtT (g : GMt) : eMtT g a m rho S = (a rho S).bind (k_mtT g m rho) := by
  unfold eMtT
  congr 1
def k_itT (r : SV × Store) : Res (Wk × Store) := match lkd r.2 r.1 with
  | some kvs => match itemsT kvs with
    | some xs => .ok (⟨xs, ktP⟩, r.2)
    | none => .stuck
  | none => .stuck
theorem r_itT : iItT a rho S = (a rho S).bind k_itT := id rfl
def k_kyT (r : SV × Store) : Res (Wk × Store) := match lkd r.2 r.1 with
  | some kvs => .ok (⟨kvs.map fun p => .fr (tupK p.1), ktP⟩, r.2)
  | none => .stuck
theorem r_kyT : iKyT a rho S = (a rho S).bind k_kyT := id rfl
theorem r_mkK0 (n : Str) (f : KnM) : eMakeK0 n f rho S = (noXK (f [.cell S.length] (S ++ [.ins n []]))).bind (mkEndK S.length) := id rfl
theorem s_noXK (r : SV × Store) : noXK (.ok r) = .ok r := id rfl
theorem s_mkEndK (T : Store) : mkEndK k (.fr .non, T) = .ok (.cell k, T) := id rfl
def k_tOwn2 (r : RV × Store) : Res (Bool × Store) := match r.1 with
  | .val (.fr (.bl b)) => .ok (b, r.2)
  | _ => .stuck
def k_tOwn (tbl : Tbl) (x : SV × Store) : Res (Bool × Store) := match insOf x.2 x.1 with
  | some (n, _) => match tbl.lookup n with
    | some f => (noX (f [x.1] x.2)).bind k_tOwn2
    | none => .stuck
  | none => .stuck
theorem r_tOwn (tbl : Tbl) : tOwn tbl a rho S = (a rho S).bind (k_tOwn tbl) := id rfl
theorem s_tOwn2 (r : Bool) : k_tOwn2 (.val (.fr (.bl r)), S) = .ok (r, S) := id rfl
def k_cK (f : KnM) (x : List SV × Store) : Res (SV × Store) := match f x.1 x.2 with
  | .exc _ _ _ => .stuck
  | r => r
theorem r_cK (f : KnM) : eCallK f m rho S = (m rho S).bind (k_cK f) := id rfl
theorem s_cK {f : KnM} {r : SV × Store} (h : f xs S = .ok r) : k_cK f (xs, S) = .ok r := by
  unfold k_cK
  simp only [h]
theorem r_dnt : eDNT rho S = .ok (.cell S.length, S ++ [.dit []]) := id rfl
end
section
variable {κ : Type} [DecidableEq κ]
end
end DL

namespace DL
open PySem PySem.Spec PyProof.Rows L2
section
variable {a b c : EM} {m : AM} {rho r : Slots} {S : Store} {x y z : SV} {xs : List SV} {k j : Nat} {kvs : List (List Key × SV)} {key : List Key}
def k_callX (f : FnM) (cc : Bool) (rho : Slots) (x : List SV × Store) : Res (SV × Store) := (cutX x.2.length rho (f x.1 x.2)).bind (back cc)
theorem r_callX (f : FnM) (cc : Bool) : eCallX f cc m rho S = (m rho S).bind (k_callX f cc rho) := id rfl
theorem s_callX (f : FnM) (cc : Bool) : k_callX f cc rho (xs, S) = (cutX S.length rho (f xs S)).bind (back cc) := id rfl
theorem s_cutX (n : Nat) (x : RV × Store) : cutX n rho (.ok x) = .ok x := id rfl
def k_methX2 (cc : Bool) (f : FnM) (x : SV) (rho : Slots) (y : List SV × Store) : Res (SV × Store) := (cutX y.2.length rho (f (x :: y.1) y.2)).bind (back cc)
def k_methX (cc : Bool) (tbl : Tbl) (nm : Str) (m : AM) (rho : Slots) (x : SV × Store) : Res (SV × Store) := match metOf tbl nm x.2 x.1 with
  | some f => (m rho x.2).bind (k_methX2 cc f x.1 rho)
  | none => .stuck
theorem r_methX (cc : Bool) (tbl : Tbl) (nm : Str) : eMethX cc tbl nm a m rho S = (a rho S).bind (k_methX cc tbl nm m rho) := id rfl
theorem s_methX2 (cc : Bool) (f : FnM) : k_methX2 cc f x rho (xs, S) = (cutX S.length rho (f (x :: xs) S)).bind (back cc) := id rfl
def k_rsF (C : Str) (fs : List Str) (rho : Slots) (x : List SV × Store) : Res (Fl × Slots × Store) := match allFr x.1 with
  | some ds => if ds.length = fs.length ∧ fs.length ≤ 900 ∧ fs ≠ [] then .exc ⟨C, (fs.zip ds).reverse⟩ rho x.2 else .stuck
  | none => .stuck
theorem r_rsF (C : Str) (fs : List Str) : sRsF C fs m rho S = (m rho S).bind (k_rsF C fs rho) := id rfl
def k_prop (cc : Bool) (n : Str) (f : FnM) (x : SV × Store) : Res (SV × Store) := match insOf x.2 x.1 with
  | some (n', _) => if n' = n then (noX (f [x.1] x.2)).bind (back cc) else .stuck
  | none => .stuck
theorem r_prop (cc : Bool) (n : Str) (f : FnM) : eProp cc n f a rho S = (a rho S).bind (k_prop cc n f) := id rfl
def k_vlT (r : SV × Store) : Res (Wk × Store) := match lkd r.2 r.1 with
  | some kvs => .ok (⟨kvs.map (·.2), ktP⟩, r.2)
  | none => .stuck
theorem r_vlT : iVlT a rho S = (a rho S).bind k_vlT := id rfl
def k_sortL (kG : KG) (cc : Bool) (x : SV × Store) : Res (SV × Store) := sortLG kG cc x.1 x.2
theorem r_sortL (kG : KG) (cc : Bool) : eSortL kG cc a rho S = (a rho S).bind (k_sortL kG cc) := id rfl
theorem s_sortL (kG : KG) (cc : Bool) : k_sortL kG cc (x, S) = sortLG kG cc x S := id rfl
def k_minL (kG : KG) (x : SV × Store) : Res (SV × Store) := minLG kG x.1 x.2
theorem r_minL (kG : KG) : eMinL kG a rho S = (a rho S).bind (k_minL kG) := id rfl
theorem s_minL (kG : KG) : k_minL kG (x, S) = minLG kG x S := id rfl
end
end DL

namespace DL
open PySem PySem.Spec PyProof.Rows L2
def RR := (And.intro (And.intro (And.intro (And.intro (And.intro (And.intro (And.intro @r_bind (And.intro @r_1 @s_1)) (And.intro (And.intro @r_2 @s_2) (And.intro @s_2b @r_v))) (And.intro (And.intro (And.intro @s_v @r_c) (And.intro @r_n @r_a)) (And.intro (And.intro @s_a @s_ab) (And.intro @r_g @s_g)))) (And.intro (And.intro (And.intro (And.intro @r_and @s_And) (And.intro @s_and1 @s_and0)) (And.intro (And.intro @r_or @s_Or) (And.intro @s_or1 @s_or0))) (And.intro (And.intro (And.intro @r_not @s_Not) (And.intro @s_not @r_if)) (And.intro (And.intro @s_if1 @s_if0) (And.intro @r_ch @s_ch))))) (And.intro (And.intro (And.intro (And.intro (And.intro @s_cha @s_chb1) (And.intro @s_chb0 @s_chc)) (And.intro (And.intro @r_tB @s_tB) (And.intro @r_tV @s_tV))) (And.intro (And.intro (And.intro @s_tv @r_tN) (And.intro @s_tN @r_tA)) (And.intro (And.intro @s_tA1 @s_tA0) (And.intro @r_tO @s_tO1)))) (And.intro (And.intro (And.intro (And.intro @s_tO0 @r_tT) (And.intro @r_trB @r_trI)) (And.intro (And.intro @r_trN @r_call) (And.intro @s_call @s_noX))) (And.intro (And.intro (And.intro @s_backV @s_backC) (And.intro @s_backF @s_frz)) (And.intro (And.intro @r_frz @r_all0) (And.intro @r_all1 @r_fn1)))))) (And.intro (And.intro (And.intro (And.intro (And.intro @r_fn2 (And.intro @r_fn3 @r_fn4)) (And.intro (And.intro @r_fn5 @s_lvR) (And.intro @s_lvN @r_nx))) (And.intro (And.intro (And.intro @r_bk @r_ct) (And.intro @r_seq @s_seqN)) (And.intro (And.intro @s_seqR @s_seqB) (And.intro @s_seqC @r_ret)))) (And.intro (And.intro (And.intro (And.intro @s_ret @r_retN) (And.intro @r_sif @s_sif1)) (And.intro (And.intro @s_sif0 @r_ex) (And.intro @s_ex @r_set))) (And.intro (And.intro (And.intro @s_set @r_par) (And.intro @s_par @r_as)) (And.intro (And.intro @s_as @s_gb) (And.intro @r_gNm @r_gNl))))) (And.intro (And.intro (And.intro (And.intro (And.intro @r_gCs @s_gCs) (And.intro @r_gTu2 @r_gTu3)) (And.intro (And.intro @r_gTu4 @r_gSb) (And.intro @s_sb @s_sb2))) (And.intro (And.intro (And.intro @s_st @s_nxS) (And.intro @r_au @s_au)) (And.intro (And.intro @s_au0 @s_au1) (And.intro @s_au2 @s_au3)))) (And.intro (And.intro (And.intro (And.intro @r_addI @r_for) (And.intro @s_for @s_body)) (And.intro (And.intro @s_turnN @s_turnC) (And.intro @s_turnB @s_turnR))) (And.intro (And.intro (And.intro @r_r1 @s_r1) (And.intro @r_r2 @s_r2)) (And.intro (And.intro @r_sq @s_sqL) (And.intro @s_sqS @r_tp))))))) (And.intro (And.intro (And.intro (And.intro (And.intro (And.intro @s_tp (And.intro @r_xT @r_xL)) (And.intro (And.intro @s_x @s_xd) (And.intro @at_0 @at_1))) (And.intro (And.intro (And.intro @at_2 @at_3) (And.intro @at_4 @r_add)) (And.intro (And.intro @r_sub @r_neg) (And.intro @r_mul @r_fdiv)))) (And.intro (And.intro (And.intro (And.intro @r_mod @r_pow) (And.intro @r_cmp @r_is)) (And.intro (And.intro @r_eqI @r_abs) (And.intro @r_int @r_max))) (And.intro (And.intro (And.intro @r_min @r_okV) (And.intro @r_snap @r_lenF)) (And.intro (And.intro @r_lenT @r_ps) (And.intro @s_ps @r_pn))))) (And.intro (And.intro (And.intro (And.intro (And.intro @r_sl @s_sl) (And.intro @s_sl1 @s_sl2)) (And.intro (And.intro @r_slL @r_slS) (And.intro @r_slT @r_lcT))) (And.intro (And.intro (And.intro @s_l1 @s_l2t) (And.intro @s_l2f @s_l3)) (And.intro (And.intro @r_lc @s_lc) (And.intro @s_noE @s_lceC)))) (And.intro (And.intro (And.intro (And.intro @s_wr0 @s_wr) (And.intro @r_nT @s_nT)) (And.intro (And.intro @r_nF @s_nF) (And.intro @r_nC @s_nC))) (And.intro (And.intro (And.intro @s_sz0 @s_sz1) (And.intro @last_x @at_m1)) (And.intro (And.intro @last_set @r_mt) (And.intro @s_mt @s_mtb)))))) (And.intro (And.intro (And.intro (And.intro (And.intro (And.intro @ty_last @r_fld') (And.intro @s_fld @r_meth0)) (And.intro (And.intro @s_meth0 @r_meth) (And.intro @s_meth @s_methb))) (And.intro (And.intro (And.intro @r_make @s_make) (And.intro @r_sf @s_sf)) (And.intro (And.intro @s_sfb @r_sort) (And.intro @s_sort @r_en)))) (And.intro (And.intro (And.intro (And.intro @s_enL @r_zi) (And.intro @s_ziL @r_sst)) (And.intro (And.intro @r_mt0' @r_gUl3) (And.intro @r_par3 @s_par3))) (And.intro (And.intro (And.intro @r_cmA @s_cmA) (And.intro @r_rev @s_revF)) (And.intro (And.intro @r_cw @s_cw) (And.intro @s_cw1 @r_fill))))) (And.intro (And.intro (And.intro (And.intro (And.intro @r_isB @r_nTC) (And.intro @s_nTC @r_getT)) (And.intro (And.intro @s_get2 @s_get3) (And.intro @r_ptT @s_ptT))) (And.intro (And.intro (And.intro @s_ptT2 @s_ptT3) (And.intro @r_mtT @r_itT)) (And.intro (And.intro @r_kyT @r_mkK0) (And.intro @s_noXK @s_mkEndK)))) (And.intro (And.intro (And.intro (And.intro @r_tOwn @s_tOwn2) (And.intro @r_cK @r_dnt)) (And.intro (And.intro @r_callX @s_callX) (And.intro @s_cutX @r_methX))) (And.intro (And.intro (And.intro @s_methX2 @r_rsF) (And.intro @r_prop @r_vlT)) (And.intro (And.intro @r_sortL @s_sortL) (And.intro @r_minL @s_minL))))))))
end DL

namespace MA

abbrev Span := Int × Option Int
def below (x : Int) : Option Int → Bool
  | none => true
  | some l => decide (x ≤ l)
def cov (s : Span) (x : Int) : Bool := decide (s.1 ≤ x) && below x s.2
def mem (ss : List Span) (x : Int) : Bool := ss.any fun s => cov s x
structure Ok (s : Span) : Prop where
  f0 : 0 ≤ s.1
  l1 : ∀ l, s.2 = some l → s.1 ≤ l
def Nf : Int → List Span → Prop
  | _, [] => True
  | lo, (f, none) :: r => lo ≤ f ∧ r = []
  | lo, (f, some l) :: r => lo ≤ f ∧ f ≤ l ∧ Nf (l + 2) r
theorem Nf.mono {a b : Int} (h : b ≤ a) : ∀ {ss : List Span}, Nf a ss → Nf b ss
  | [], _ => True.intro
  | (f, none) :: r, q => ⟨Int.le_trans h q.1, q.2⟩
  | (f, some l) :: r, q => ⟨Int.le_trans h q.1, q.2⟩
theorem mem_nil (x : Int) : mem [] x = false := rfl
theorem mem_cons (s : Span) (ss : List Span) (x : Int) : mem (s :: ss) x = (cov s x || mem ss x) := rfl
theorem Nf.low {lo x : Int} : ∀ {ss : List Span}, Nf lo ss → x < lo → mem ss x = false
  | [], _, _ => rfl
  | (f, none) :: r, q, h => by
    obtain ⟨q1, rfl⟩ := q
    have : ¬ f ≤ x := by omega
    simp [mem_cons, mem_nil, cov, this]
  | (f, some l) :: r, q, h => by
    obtain ⟨q1, q2, q3⟩ := q
    have : ¬ f ≤ x := by omega
    rw [mem_cons, Nf.low q3 (by omega)]
    simp [cov, this]
theorem Nf.uniq : ∀ {xs ys : List Span} {a b : Int}, Nf a xs → Nf b ys → (∀ x, mem xs x = mem ys x) → xs = ys
  | [], [], _, _, _, _, _ => rfl
  | [], (f, l) :: r, _, _, _, q, h => by
    have z := h f
    have : cov (f, l) f = true := by
      cases l with
      | none => simp [cov, below]
      | some i => simp [cov, below, q.2.1]
    rw [mem_nil, mem_cons, this] at z
    cases z
  | (f, l) :: r, [], _, _, q, _, h => by
    have z := h f
    have : cov (f, l) f = true := by
      cases l with
      | none => simp [cov, below]
      | some i => simp [cov, below, q.2.1]
    rw [mem_nil, mem_cons, this] at z
    cases z
  | (f, l) :: r, (g, k) :: t, a, b, q, p, h => by
    have cf : cov (f, l) f = true := by
      cases l with
      | none => simp [cov, below]
      | some i => simp [cov, below, q.2.1]
    have cg : cov (g, k) g = true := by
      cases k with
      | none => simp [cov, below]
      | some i => simp [cov, below, p.2.1]
    have lowr : ∀ x, x ≤ f → mem r x = false := fun x hx => by
      cases l with
      | none => rw [q.2]; rfl
      | some i => exact q.2.2.low (by have := q.2.1; omega)
    have lowt : ∀ x, x ≤ g → mem t x = false := fun x hx => by
      cases k with
      | none => rw [p.2]; rfl
      | some i => exact p.2.2.low (by have := p.2.1; omega)
    have fg : f = g := by
      rcases Int.lt_trichotomy f g with c | c | c
      · have z := h f
        rw [mem_cons, mem_cons, cf, lowt f (by omega)] at z
        have : cov (g, k) f = false := by simp [cov]; intro; omega
        rw [this] at z
        cases z
      · exact c
      · have z := h g
        rw [mem_cons, mem_cons, cg, lowr g (by omega)] at z
        have : cov (f, l) g = false := by simp [cov]; intro; omega
        rw [this] at z
        cases z
    subst fg
    cases l with
    | none =>
      cases k with
      | none => rw [q.2, p.2]
      | some j =>
        have z := h (j + 1)
        have e1 : cov (f, none) (j + 1) = true := by
          have := p.2.1
          simp [cov, below]; omega
        have e2 : cov (f, some j) (j + 1) = false := by simp [cov, below]; intro; omega
        rw [mem_cons, mem_cons, e1, e2, p.2.2.low (by omega)] at z
        cases z
    | some i =>
      cases k with
      | none =>
        have z := h (i + 1)
        have e1 : cov (f, none) (i + 1) = true := by
          have := q.2.1
          simp [cov, below]; omega
        have e2 : cov (f, some i) (i + 1) = false := by simp [cov, below]; intro; omega
        rw [mem_cons, mem_cons, e1, e2, q.2.2.low (by omega)] at z
        cases z
      | some j =>
        have ij : i = j := by
          rcases Int.lt_trichotomy i j with c | c | c
          · have z := h (i + 1)
            have e1 : cov (f, some j) (i + 1) = true := by
              have := q.2.1
              simp [cov, below]; omega
            have e2 : cov (f, some i) (i + 1) = false := by simp [cov, below]; intro; omega
            rw [mem_cons, mem_cons, e1, e2, q.2.2.low (by omega)] at z
            cases z
          · exact c
          · have z := h (j + 1)
            have e1 : cov (f, some i) (j + 1) = true := by
              have := p.2.1
              simp [cov, below]; omega
            have e2 : cov (f, some j) (j + 1) = false := by simp [cov, below]; intro; omega
            rw [mem_cons, mem_cons, e1, e2, p.2.2.low (by omega)] at z
            cases z
        subst ij
        have rest : r = t := Nf.uniq q.2.2 p.2.2 fun x => by
          by_cases hx : x ≤ i
          · rw [q.2.2.low (by omega), p.2.2.low (by omega)]
          · have z := h x
            have e2 : cov (f, some i) x = false := by simp [cov, below]; intro; omega
            rw [mem_cons, mem_cons, e2] at z
            exact z
        rw [rest]
theorem Nf.ok {lo : Int} (h0 : 0 ≤ lo) : ∀ {ss : List Span}, Nf lo ss → ∀ s ∈ ss, Ok s
  | [], _, s, hs => by cases hs
  | (f, none) :: r, q, s, hs => by
    rw [q.2] at hs
    rcases List.mem_cons.mp hs with rfl | hs
    · exact ⟨by have := q.1; show 0 ≤ f; omega, fun l e => by cases e⟩
    · cases hs
  | (f, some l) :: r, q, s, hs => by
    rcases List.mem_cons.mp hs with rfl | hs
    · exact ⟨by have := q.1; show 0 ≤ f; omega, fun i e => by cases e; exact q.2.1⟩
    · exact Nf.ok (by have := q.1; have := q.2.1; omega) q.2.2 s hs

theorem below_mono {x y : Int} (h : y ≤ x) {l : Option Int} (b : below x l = true) : below y l = true := by
  cases l with
  | none => rfl
  | some i => simp only [below, decide_eq_true_eq] at *; omega
end MA

namespace MB

abbrev St := Int × MA.Span
def lev : List St → Int → Int
  | [], _ => 0
  | (l, s) :: r, x => if MA.cov s x = true then l else lev r x
def Wf : Int → List St → Prop
  | _, [] => True
  | p, (l, f, none) :: r => 1 ≤ l ∧ l ≤ 2 ∧ p ≤ f ∧ r = []
  | p, (l, f, some i) :: r => 1 ≤ l ∧ l ≤ 2 ∧ p ≤ f ∧ f ≤ i ∧ Wf (i + 1) r
def Nf : Int → Int → List St → Prop
  | _, _, [] => True
  | p, q, (l, f, none) :: r => 1 ≤ l ∧ l ≤ 2 ∧ p ≤ f ∧ (f = p → l ≠ q) ∧ r = []
  | p, q, (l, f, some i) :: r => 1 ≤ l ∧ l ≤ 2 ∧ p ≤ f ∧ (f = p → l ≠ q) ∧ f ≤ i ∧ Nf (i + 1) l r
theorem Nf.wf : ∀ {ss : List St} {p q : Int}, Nf p q ss → Wf p ss
  | [], _, _, _ => True.intro
  | (l, f, none) :: r, _, _, h => ⟨h.1, h.2.1, h.2.2.1, h.2.2.2.2⟩
  | (l, f, some i) :: r, _, _, h => ⟨h.1, h.2.1, h.2.2.1, h.2.2.2.2.1, h.2.2.2.2.2.wf⟩
theorem Wf.mono {a b : Int} (h : b ≤ a) : ∀ {ss : List St}, Wf a ss → Wf b ss
  | [], _ => True.intro
  | (l, f, none) :: r, q => ⟨q.1, q.2.1, Int.le_trans h q.2.2.1, q.2.2.2⟩
  | (l, f, some i) :: r, q => ⟨q.1, q.2.1, Int.le_trans h q.2.2.1, q.2.2.2⟩
theorem lev_cons (l : Int) (s : MA.Span) (r : List St) (x : Int) : lev ((l, s) :: r) x = if MA.cov s x = true then l else lev r x := rfl
theorem cov_n {f x : Int} : (MA.cov (f, none) x = true) ↔ f ≤ x := by simp [MA.cov, MA.below]
theorem cov_s {f i x : Int} : (MA.cov (f, some i) x = true) ↔ (f ≤ x ∧ x ≤ i) := by simp [MA.cov, MA.below]
theorem Wf.low {p x : Int} : ∀ {ss : List St}, Wf p ss → x < p → lev ss x = 0
  | [], _, _ => rfl
  | (l, f, none) :: r, q, h => by
    obtain ⟨_, _, q3, rfl⟩ := q
    rw [lev_cons, if_neg (by rw [cov_n]; omega)]
    rfl
  | (l, f, some i) :: r, q, h => by
    obtain ⟨_, _, q3, q4, q5⟩ := q
    rw [lev_cons, if_neg (by rw [cov_s]; omega)]
    exact q5.low (by omega)
theorem Nf.at_ {p q : Int} (hq : 1 ≤ q) : ∀ {ss : List St}, Nf p q ss → lev ss p ≠ q
  | [], _ => by show (0 : Int) ≠ q; omega
  | (l, f, none) :: r, h => by
    obtain ⟨h1, h2, h3, h4, rfl⟩ := h
    rw [lev_cons]
    split
    · rename_i c
      rw [cov_n] at c
      exact h4 (by omega)
    · show (0 : Int) ≠ q
      omega
  | (l, f, some i) :: r, h => by
    obtain ⟨h1, h2, h3, h4, h5, h6⟩ := h
    rw [lev_cons]
    split
    · rename_i c
      rw [cov_s] at c
      exact h4 (by omega)
    · rename_i c
      rw [cov_s] at c
      rw [h6.wf.low (by omega)]
      omega
theorem Nf.uniq : ∀ {xs ys : List St} {p q : Int}, Nf p q xs → Nf p q ys → (∀ x, p ≤ x → lev xs x = lev ys x) → xs = ys
  | [], [], _, _, _, _, _ => rfl
  | [], (l, f, e) :: r, p, q, _, k, h => by
    have hf : p ≤ f ∧ 1 ≤ l ∧ MA.cov (f, e) f = true := by
      cases e with
      | none => exact ⟨k.2.2.1, k.1, cov_n.mpr (Int.le_refl _)⟩
      | some i => exact ⟨k.2.2.1, k.1, cov_s.mpr ⟨Int.le_refl _, k.2.2.2.2.1⟩⟩
    have z := h f hf.1
    rw [lev_cons, if_pos hf.2.2] at z
    have : (0 : Int) = l := z
    omega
  | (l, f, e) :: r, [], p, q, k, _, h => by
    have hf : p ≤ f ∧ 1 ≤ l ∧ MA.cov (f, e) f = true := by
      cases e with
      | none => exact ⟨k.2.2.1, k.1, cov_n.mpr (Int.le_refl _)⟩
      | some i => exact ⟨k.2.2.1, k.1, cov_s.mpr ⟨Int.le_refl _, k.2.2.2.2.1⟩⟩
    have z := h f hf.1
    rw [lev_cons, if_pos hf.2.2] at z
    have : l = (0 : Int) := z
    omega
  | (l, f, e) :: r, (m, g, d) :: t, p, q, k, j, h => by
    have hf : p ≤ f ∧ 1 ≤ l ∧ MA.cov (f, e) f = true ∧ (∀ x, x < f → lev ((l, f, e) :: r) x = 0) := by
      cases e with
      | none => exact ⟨k.2.2.1, k.1, cov_n.mpr (Int.le_refl _), fun x hx => Wf.low (p := f) (ss := (l, f, none) :: r) ⟨k.1, k.2.1, Int.le_refl _, k.2.2.2.2⟩ hx⟩
      | some i => exact ⟨k.2.2.1, k.1, cov_s.mpr ⟨Int.le_refl _, k.2.2.2.2.1⟩, fun x hx => Wf.low (p := f) (ss := (l, f, some i) :: r) ⟨k.1, k.2.1, Int.le_refl _, k.2.2.2.2.1, k.2.2.2.2.2.wf⟩ hx⟩
    have hg : p ≤ g ∧ 1 ≤ m ∧ MA.cov (g, d) g = true ∧ (∀ x, x < g → lev ((m, g, d) :: t) x = 0) := by
      cases d with
      | none => exact ⟨j.2.2.1, j.1, cov_n.mpr (Int.le_refl _), fun x hx => Wf.low (p := g) (ss := (m, g, none) :: t) ⟨j.1, j.2.1, Int.le_refl _, j.2.2.2.2⟩ hx⟩
      | some i => exact ⟨j.2.2.1, j.1, cov_s.mpr ⟨Int.le_refl _, j.2.2.2.2.1⟩, fun x hx => Wf.low (p := g) (ss := (m, g, some i) :: t) ⟨j.1, j.2.1, Int.le_refl _, j.2.2.2.2.1, j.2.2.2.2.2.wf⟩ hx⟩
    have vf : lev ((l, f, e) :: r) f = l := by rw [lev_cons, if_pos hf.2.2.1]
    have vg : lev ((m, g, d) :: t) g = m := by rw [lev_cons, if_pos hg.2.2.1]
    have fg : f = g := by
      rcases Int.lt_trichotomy f g with c | c | c
      · have z := h f hf.1
        rw [vf, hg.2.2.2 f c] at z
        omega
      · exact c
      · have z := h g hg.1
        rw [vg, hf.2.2.2 g c] at z
        omega
    subst fg
    have lm : l = m := by
      have z := h f hf.1
      rw [vf, vg] at z
      exact z
    subst lm
    cases e with
    | none =>
      cases d with
      | none => rw [k.2.2.2.2, j.2.2.2.2]
      | some i =>
        have z := h (i + 1) (by have := j.2.2.2.2.1; omega)
        rw [lev_cons, if_pos (cov_n.mpr (by have := j.2.2.2.2.1; omega)), lev_cons, if_neg (by rw [cov_s]; omega)] at z
        exact absurd z.symm (Nf.at_ j.1 j.2.2.2.2.2)
    | some i =>
      cases d with
      | none =>
        have z := h (i + 1) (by have := k.2.2.2.2.1; omega)
        rw [lev_cons, if_neg (by rw [cov_s]; omega), lev_cons, if_pos (cov_n.mpr (by have := k.2.2.2.2.1; omega))] at z
        exact absurd z (Nf.at_ k.1 k.2.2.2.2.2)
      | some i' =>
        have ii : i = i' := by
          rcases Int.lt_trichotomy i i' with c | c | c
          · have z := h (i + 1) (by have := k.2.2.2.2.1; omega)
            rw [lev_cons, if_neg (by rw [cov_s]; omega), lev_cons, if_pos (cov_s.mpr (by have := k.2.2.2.2.1; omega))] at z
            exact absurd z (Nf.at_ k.1 k.2.2.2.2.2)
          · exact c
          · have z := h (i' + 1) (by have := j.2.2.2.2.1; omega)
            rw [lev_cons, if_pos (cov_s.mpr (by have := j.2.2.2.2.1; omega)), lev_cons, if_neg (by rw [cov_s]; omega)] at z
            exact absurd z.symm (Nf.at_ j.1 j.2.2.2.2.2)
        subst ii
        have rt : r = t := Nf.uniq k.2.2.2.2.2 j.2.2.2.2.2 fun x hx => by
          have z := h x (by have := k.2.2.2.2.1; omega)
          rw [lev_cons, if_neg (by rw [cov_s]; omega), lev_cons, if_neg (by rw [cov_s]; omega)] at z
          exact z
        rw [rt]

def ends : List St → List Int
  | [] => []
  | (_, f, none) :: r => f :: ends r
  | (_, f, some i) :: r => f :: (i + 1) :: ends r
def Cst (F : List Int) (g : Int → Int) : Prop := ∀ x y, x ≤ y → (∀ b ∈ F, ¬ (x < b ∧ b ≤ y)) → g x = g y
theorem Cst.mono {F G : List Int} {g : Int → Int} (h : Cst F g) (k : ∀ b ∈ F, b ∈ G) : Cst G g := fun x y q n => h x y q fun b hb => n b (k b hb)
theorem Nf.change : ∀ {ss : List St} {p q : Int}, Nf p q ss → ∀ b ∈ ends ss, (b = p ∧ lev ss p ≠ q) ∨ (p < b ∧ lev ss b ≠ lev ss (b - 1))
  | [], _, _, _, b, hb => by cases hb
  | (l, f, none) :: r, p, q, h, b, hb => by
    obtain ⟨h1, h2, h3, h4, rfl⟩ := h
    simp only [ends, List.mem_cons, List.not_mem_nil, or_false] at hb
    subst hb
    by_cases c : b = p
    · left
      refine ⟨c, ?_⟩
      rw [lev_cons, if_pos (cov_n.mpr (by omega))]
      exact h4 c
    · right
      refine ⟨by omega, ?_⟩
      rw [lev_cons, if_pos (cov_n.mpr (by omega)), lev_cons, if_neg (by rw [cov_n]; omega)]
      show l ≠ (0 : Int)
      omega
  | (l, f, some i) :: r, p, q, h, b, hb => by
    obtain ⟨h1, h2, h3, h4, h5, h6⟩ := h
    simp only [ends, List.mem_cons] at hb
    rcases hb with rfl | rfl | hb
    · by_cases c : b = p
      · left
        refine ⟨c, ?_⟩
        rw [lev_cons, if_pos (cov_s.mpr (by omega))]
        exact h4 c
      · right
        refine ⟨by omega, ?_⟩
        rw [lev_cons, if_pos (cov_s.mpr (by omega)), lev_cons, if_neg (by rw [cov_s]; omega), h6.wf.low (by omega)]
        omega
    · right
      refine ⟨by omega, ?_⟩
      rw [lev_cons, if_neg (by rw [cov_s]; omega), lev_cons, if_pos (cov_s.mpr (by omega))]
      exact Nf.at_ h1 h6
    · right
      rcases Nf.change h6 b hb with ⟨rfl, c⟩ | ⟨c1, c2⟩
      · refine ⟨by omega, ?_⟩
        rw [lev_cons, if_neg (by rw [cov_s]; omega), lev_cons, if_pos (cov_s.mpr (by omega))]
        exact c
      · refine ⟨by omega, ?_⟩
        rw [lev_cons, if_neg (by rw [cov_s]; omega), lev_cons, if_neg (by rw [cov_s]; omega)]
        exact c2
theorem Cst.mem {F : List Int} {g : Int → Int} (h : Cst F g) {b : Int} (n : g b ≠ g (b - 1)) : b ∈ F := by
  refine Decidable.byContradiction fun c => n (h (b - 1) b (by omega) fun d hd k => ?_).symm
  have : d = b := by omega
  exact c (this ▸ hd)
theorem Nf.ends_in {ss : List St} {F : List Int} (h : Nf 0 0 ss) (h0 : (0 : Int) ∈ F) {g : Int → Int} (hg : ∀ x, 0 ≤ x → lev ss x = g x) (k : Cst F g) : ∀ b ∈ ends ss, b ∈ F := fun b hb => by
  rcases h.change b hb with ⟨rfl, _⟩ | ⟨c1, c2⟩
  · exact h0
  · rw [hg b (by omega), hg (b - 1) (by omega)] at c2
    exact k.mem c2
theorem Wf.firsts : ∀ {ss : List St} {p : Int}, Wf p ss → (ss.map fun s => s.2.1).Pairwise (· < ·) ∧ ∀ b ∈ ss.map (fun s => s.2.1), p ≤ b
  | [], _, _ => ⟨List.Pairwise.nil, fun b hb => by cases hb⟩
  | (l, f, none) :: r, p, h => by
    obtain ⟨h1, h2, h3, rfl⟩ := h
    exact ⟨by simp, fun b hb => by simp only [List.map_cons, List.map_nil, List.mem_singleton] at hb; omega⟩
  | (l, f, some i) :: r, p, h => by
    obtain ⟨h1, h2, h3, h4, h5⟩ := h
    obtain ⟨q1, q2⟩ := h5.firsts
    refine ⟨List.pairwise_cons.mpr ⟨fun b hb => by have := q2 b hb; dsimp only; omega, q1⟩, fun b hb => ?_⟩
    simp only [List.map_cons, List.mem_cons] at hb
    rcases hb with rfl | hb
    · exact h3
    · have := q2 b hb; omega
theorem first_end : ∀ (ss : List St), ∀ b ∈ ss.map (fun s => s.2.1), b ∈ ends ss
  | [], b, hb => by cases hb
  | (l, f, none) :: r, b, hb => by
    simp only [List.map_cons, List.mem_cons, ends] at hb ⊢
    exact hb.imp id (first_end r b)
  | (l, f, some i) :: r, b, hb => by
    simp only [List.map_cons, List.mem_cons, ends] at hb ⊢
    exact hb.imp id fun h => .inr (first_end r b h)
theorem Wf.len_le {ss : List St} {F : List Int} {p : Int} (h : Wf p ss) (k : ∀ b ∈ ends ss, b ∈ F) : ss.length ≤ F.length := by
  have := DL.nodup_le (h.firsts.1.imp fun h => Int.ne_of_lt h) fun x hx => k x (first_end ss x hx)
  rwa [List.length_map] at this

def stp (d : Int) : List (Int × Int) → Int → Int
  | [], _ => d
  | (b, k) :: r, x => if b ≤ x then stp k r x else d
def Asc (ps : List (Int × Int)) : Prop := (ps.map Prod.fst).Pairwise (· < ·)
theorem Asc.tail {c : Int × Int} {r : List (Int × Int)} (h : Asc (c :: r)) : Asc r ∧ ∀ e ∈ r, c.1 < e.1 := by
  obtain ⟨h1, h2⟩ := List.pairwise_cons.mp (show ((c :: r).map Prod.fst).Pairwise (· < ·) from h)
  exact ⟨h2, fun e he => h1 e.1 (List.mem_map_of_mem he)⟩
theorem stp_low {d x : Int} : ∀ {r : List (Int × Int)}, (∀ e ∈ r, x < e.1) → stp d r x = d
  | [], _ => rfl
  | (b, k) :: r, h => by
    have := h (b, k) List.mem_cons_self
    dsimp only at this
    unfold stp
    rw [if_neg (by omega)]
theorem stp_cst : ∀ (r : List (Int × Int)) (d : Int), Cst (r.map Prod.fst) (stp d r)
  | [], d, x, y, _, _ => rfl
  | (b, k) :: r, d, x, y, q, n => by
    have h1 := n b List.mem_cons_self
    have h2 := stp_cst r k x y q fun c hc => n c (List.mem_cons_of_mem _ hc)
    unfold stp
    rw [h2]
    by_cases c : b ≤ x
    · rw [if_pos c, if_pos (by omega)]
    · rw [if_neg c, if_neg (by omega)]
structure Fs (F : List Int) : Prop where
  ex : ∃ r, F = 0 :: r
  asc : F.Pairwise (· < ·)
theorem Fs.zero {F : List Int} (h : Fs F) : (0 : Int) ∈ F := by
  obtain ⟨r, rfl⟩ := h.ex
  exact List.mem_cons_self
theorem Fs.pos {F : List Int} (h : Fs F) : ∀ b ∈ F, 0 ≤ b := by
  obtain ⟨⟨r, rfl⟩, h2⟩ := h
  intro b hb
  rcases List.mem_cons.mp hb with rfl | hb
  · exact Int.le_refl _
  · exact Int.le_of_lt ((List.pairwise_cons.mp h2).1 b hb)
def stGo : Option (Int × Int) → List (Int × Int) → List St
  | none, [] => []
  | some (l, f), [] => [(l, f, none)]
  | none, (b, k) :: r => if k = 0 then stGo none r else stGo (some (k, b)) r
  | some (l, f), (b, k) :: r => if k = l then stGo (some (l, f)) r else (l, f, some (b - 1)) :: (if k = 0 then stGo none r else stGo (some (k, b)) r)
def Lok (ps : List (Int × Int)) : Prop := ∀ e ∈ ps, 0 ≤ e.2 ∧ e.2 ≤ 2
theorem stGo_ok : ∀ (r : List (Int × Int)), Asc r → Lok r →
    (∀ p q : Int, (∀ e ∈ r, p < e.1) → Nf p q (stGo none r) ∧ ∀ x, lev (stGo none r) x = stp 0 r x) ∧
    (∀ l f p q : Int, p ≤ f → (f = p → l ≠ q) → 1 ≤ l → l ≤ 2 → (∀ e ∈ r, f < e.1) → Nf p q (stGo (some (l, f)) r) ∧ ∀ x, lev (stGo (some (l, f)) r) x = if f ≤ x then stp l r x else 0)
  | [], _, _ => by
    refine ⟨fun p q _ => ⟨True.intro, fun x => rfl⟩, fun l f p q h1 h2 h3 h4 _ => ⟨⟨h3, h4, h1, h2, rfl⟩, fun x => ?_⟩⟩
    show lev [(l, f, none)] x = if f ≤ x then l else 0
    rw [lev_cons]
    simp only [cov_n]
    rfl
  | (b, k) :: r, ha, hl => by
    obtain ⟨a1, a2⟩ := ha.tail
    obtain ⟨i1, i2⟩ := stGo_ok r a1 fun e he => hl e (List.mem_cons_of_mem _ he)
    obtain ⟨k0, k2⟩ := hl (b, k) List.mem_cons_self
    dsimp only at a2 k0 k2
    refine ⟨fun p q hp => ?_, fun l f p q h1 h2 h3 h4 hp => ?_⟩
    · have pb := hp (b, k) List.mem_cons_self
      dsimp only at pb
      unfold stGo
      by_cases c : k = 0
      · rw [if_pos c]
        obtain ⟨j1, j2⟩ := i1 p q fun e he => by have := a2 e he; omega
        refine ⟨j1, fun x => ?_⟩
        rw [j2 x]
        show stp 0 r x = if b ≤ x then stp k r x else 0
        rw [c]
        by_cases d : b ≤ x
        · rw [if_pos d]
        · rw [if_neg d]
          exact stp_low fun e he => by have := a2 e he; omega
      · rw [if_neg c]
        obtain ⟨j1, j2⟩ := i2 k b p q (by omega) (by omega) (by omega) k2 a2
        exact ⟨j1, j2⟩
    · have pb := hp (b, k) List.mem_cons_self
      dsimp only at pb
      unfold stGo
      by_cases c : k = l
      · rw [if_pos c]
        obtain ⟨j1, j2⟩ := i2 l f p q h1 h2 h3 h4 fun e he => by have := a2 e he; omega
        refine ⟨j1, fun x => ?_⟩
        rw [j2 x]
        by_cases d : f ≤ x
        · rw [if_pos d, if_pos d]
          show stp l r x = if b ≤ x then stp k r x else l
          by_cases d2 : b ≤ x
          · rw [if_pos d2, c]
          · rw [if_neg d2]
            exact stp_low fun e he => by have := a2 e he; omega
        · rw [if_neg d, if_neg d]
      · rw [if_neg c]
        have tl : ∃ T, T = (if k = 0 then stGo none r else stGo (some (k, b)) r) ∧ Nf (b - 1 + 1) l T ∧ ∀ x, lev T x = if b ≤ x then stp k r x else 0 := by
          refine ⟨_, rfl, ?_⟩
          by_cases c0 : k = 0
          · rw [if_pos c0]
            obtain ⟨j1, j2⟩ := i1 (b - 1 + 1) l fun e he => by have := a2 e he; omega
            refine ⟨j1, fun x => ?_⟩
            rw [j2 x, c0]
            by_cases d : b ≤ x
            · rw [if_pos d]
            · rw [if_neg d]
              exact stp_low fun e he => by have := a2 e he; omega
          · rw [if_neg c0]
            exact i2 k b (b - 1 + 1) l (by omega) (fun _ => c) (by omega) k2 a2
        obtain ⟨T, eT, t1, t2⟩ := tl
        rw [← eT]
        refine ⟨⟨h3, h4, h1, h2, by omega, t1⟩, fun x => ?_⟩
        rw [lev_cons, t2 x]
        simp only [cov_s]
        show (if f ≤ x ∧ x ≤ b - 1 then l else if b ≤ x then stp k r x else 0) = if f ≤ x then (if b ≤ x then stp k r x else l) else 0
        by_cases d : f ≤ x
        · by_cases d2 : b ≤ x
          · rw [if_neg (by omega), if_pos d2, if_pos d, if_pos d2]
          · rw [if_pos (by omega), if_pos d, if_neg d2]
        · rw [if_neg (by omega), if_neg (by omega), if_neg d]
theorem st0_ok {ps : List (Int × Int)} (h : Asc ps) (hl : Lok ps) (h0 : ∀ e ∈ ps, 0 ≤ e.1) : Nf 0 0 (stGo none ps) ∧ ∀ x, lev (stGo none ps) x = stp 0 ps x := by
  cases ps with
  | nil => exact ⟨True.intro, fun _ => rfl⟩
  | cons c r =>
    obtain ⟨b, k⟩ := c
    obtain ⟨a1, a2⟩ := h.tail
    obtain ⟨k0, k2⟩ := hl (b, k) List.mem_cons_self
    have b0 := h0 (b, k) List.mem_cons_self
    dsimp only at a2 k0 k2 b0
    obtain ⟨i1, i2⟩ := stGo_ok r a1 fun e he => hl e (List.mem_cons_of_mem _ he)
    by_cases c0 : k = 0
    · obtain ⟨j1, j2⟩ := i1 0 0 fun e he => by have := a2 e he; omega
      have e : stGo none ((b, k) :: r) = stGo none r := by
        conv => lhs; unfold stGo
        rw [if_pos c0]
      rw [e]
      refine ⟨j1, fun x => ?_⟩
      rw [j2 x]
      show stp 0 r x = if b ≤ x then stp k r x else 0
      rw [c0]
      by_cases d : b ≤ x
      · rw [if_pos d]
      · rw [if_neg d]
        exact stp_low fun e he => by have := a2 e he; omega
    · obtain ⟨j1, j2⟩ := i2 k b 0 0 b0 (by omega) (by omega) k2 a2
      have e : stGo none ((b, k) :: r) = stGo (some (k, b)) r := by
        conv => lhs; unfold stGo
        rw [if_neg c0]
      rw [e]
      exact ⟨j1, j2⟩

def mk (F : List Int) (g : Int → Int) : List St := stGo none (F.map fun b => (b, g b))
structure Hd (F : List Int) (ss : List St) : Prop where
  nf : Nf 0 0 ss
  inn : ∀ b ∈ ends ss, b ∈ F
theorem Hd.wf {F : List Int} {ss : List St} (h : Hd F ss) : Wf 0 ss := h.nf.wf
theorem Hd.len {F : List Int} {ss : List St} (h : Hd F ss) : ss.length ≤ F.length := h.wf.len_le h.inn
theorem Hd.ext {F G : List Int} {xs ys : List St} (h : Hd F xs) (k : Hd G ys) (e : ∀ x, 0 ≤ x → lev xs x = lev ys x) : xs = ys := Nf.uniq h.nf k.nf e
end MB

namespace K17
open PySem PySem.Spec PyProof.Rows L2 DL
abbrev iseT : IseT := [("Full", [("Full", true), ("Held", false), ("Idle", false), ("LockError", true), ("NoCommand", false), ("NoDescriptor", false), ("NoEntry", false), ("NoProcess", false), ("NoText", false), ("Nothing", false), ("Ring", false), ("TooMany", false), ("Unfit", false), ("Waiting", false), ("Wrong", false)], [("ValueError", true)]), ("Held", [("Full", false), ("Held", true), ("Idle", false), ("LockError", true), ("NoCommand", false), ("NoDescriptor", false), ("NoEntry", false), ("NoProcess", false), ("NoText", false), ("Nothing", false), ("Ring", false), ("TooMany", false), ("Unfit", false), ("Waiting", false), ("Wrong", false)], [("ValueError", true)]), ("Idle", [("Full", false), ("Held", false), ("Idle", true), ("LockError", true), ("NoCommand", false), ("NoDescriptor", false), ("NoEntry", false), ("NoProcess", false), ("NoText", false), ("Nothing", false), ("Ring", false), ("TooMany", false), ("Unfit", false), ("Waiting", false), ("Wrong", false)], [("ValueError", true)]), ("LockError", [("Full", false), ("Held", false), ("Idle", false), ("LockError", true), ("NoCommand", false), ("NoDescriptor", false), ("NoEntry", false), ("NoProcess", false), ("NoText", false), ("Nothing", false), ("Ring", false), ("TooMany", false), ("Unfit", false), ("Waiting", false), ("Wrong", false)], [("ValueError", true)]), ("NoCommand", [("Full", false), ("Held", false), ("Idle", false), ("LockError", true), ("NoCommand", true), ("NoDescriptor", false), ("NoEntry", false), ("NoProcess", false), ("NoText", false), ("Nothing", false), ("Ring", false), ("TooMany", false), ("Unfit", false), ("Waiting", false), ("Wrong", false)], [("ValueError", true)]), ("NoDescriptor", [("Full", false), ("Held", false), ("Idle", false), ("LockError", true), ("NoCommand", false), ("NoDescriptor", true), ("NoEntry", false), ("NoProcess", false), ("NoText", false), ("Nothing", false), ("Ring", false), ("TooMany", false), ("Unfit", false), ("Waiting", false), ("Wrong", false)], [("ValueError", true)]), ("NoEntry", [("Full", false), ("Held", false), ("Idle", false), ("LockError", true), ("NoCommand", false), ("NoDescriptor", false), ("NoEntry", true), ("NoProcess", false), ("NoText", false), ("Nothing", false), ("Ring", false), ("TooMany", false), ("Unfit", false), ("Waiting", false), ("Wrong", false)], [("ValueError", true)]), ("NoProcess", [("Full", false), ("Held", false), ("Idle", false), ("LockError", true), ("NoCommand", false), ("NoDescriptor", false), ("NoEntry", false), ("NoProcess", true), ("NoText", false), ("Nothing", false), ("Ring", false), ("TooMany", false), ("Unfit", false), ("Waiting", false), ("Wrong", false)], [("ValueError", true)]), ("NoText", [("Full", false), ("Held", false), ("Idle", false), ("LockError", true), ("NoCommand", false), ("NoDescriptor", false), ("NoEntry", false), ("NoProcess", false), ("NoText", true), ("Nothing", false), ("Ring", false), ("TooMany", false), ("Unfit", false), ("Waiting", false), ("Wrong", false)], [("ValueError", true)]), ("Nothing", [("Full", false), ("Held", false), ("Idle", false), ("LockError", true), ("NoCommand", false), ("NoDescriptor", false), ("NoEntry", false), ("NoProcess", false), ("NoText", false), ("Nothing", true), ("Ring", false), ("TooMany", false), ("Unfit", false), ("Waiting", false), ("Wrong", false)], [("ValueError", true)]), ("Ring", [("Full", false), ("Held", false), ("Idle", false), ("LockError", true), ("NoCommand", false), ("NoDescriptor", false), ("NoEntry", false), ("NoProcess", false), ("NoText", false), ("Nothing", false), ("Ring", true), ("TooMany", false), ("Unfit", false), ("Waiting", false), ("Wrong", false)], [("ValueError", true)]), ("TooMany", [("Full", false), ("Held", false), ("Idle", false), ("LockError", true), ("NoCommand", false), ("NoDescriptor", false), ("NoEntry", false), ("NoProcess", false), ("NoText", false), ("Nothing", false), ("Ring", false), ("TooMany", true), ("Unfit", false), ("Waiting", false), ("Wrong", false)], [("ValueError", true)]), ("Unfit", [("Full", false), ("Held", false), ("Idle", false), ("LockError", true), ("NoCommand", false), ("NoDescriptor", false), ("NoEntry", false), ("NoProcess", false), ("NoText", false), ("Nothing", false), ("Ring", false), ("TooMany", false), ("Unfit", true), ("Waiting", false), ("Wrong", false)], [("ValueError", true)]), ("Waiting", [("Full", false), ("Held", false), ("Idle", false), ("LockError", true), ("NoCommand", false), ("NoDescriptor", false), ("NoEntry", false), ("NoProcess", false), ("NoText", false), ("Nothing", false), ("Ring", false), ("TooMany", false), ("Unfit", false), ("Waiting", true), ("Wrong", false)], [("ValueError", true)]), ("Wrong", [("Full", false), ("Held", false), ("Idle", false), ("LockError", true), ("NoCommand", false), ("NoDescriptor", false), ("NoEntry", false), ("NoProcess", false), ("NoText", false), ("Nothing", false), ("Ring", false), ("TooMany", false), ("Unfit", false), ("Waiting", false), ("Wrong", true)], [("ValueError", true)])]
structure Txt (K : PySem.W.Frag) (mg : Str → Option Value) : Prop where
  n_ValueError : mg "ValueError" = none
  n_abs : mg "abs" = none
  n_dict : mg "dict" = none
  n_int : mg "int" = none
  n_isinstance : mg "isinstance" = none
  n_len : mg "len" = none
  n_list : mg "list" = none
  n_range : mg "range" = none
  n_repr : mg "repr" = none
  g_Full : mg "Full" = some (.ref (He.ga K "Full"))
  g_Held : mg "Held" = some (.ref (He.ga K "Held"))
  g_Idle : mg "Idle" = some (.ref (He.ga K "Idle"))
  g_LockError : mg "LockError" = some (.ref (He.ga K "LockError"))
  g_NoCommand : mg "NoCommand" = some (.ref (He.ga K "NoCommand"))
  g_NoDescriptor : mg "NoDescriptor" = some (.ref (He.ga K "NoDescriptor"))
  g_NoEntry : mg "NoEntry" = some (.ref (He.ga K "NoEntry"))
  g_NoProcess : mg "NoProcess" = some (.ref (He.ga K "NoProcess"))
  g_NoText : mg "NoText" = some (.ref (He.ga K "NoText"))
  g_Nothing : mg "Nothing" = some (.ref (He.ga K "Nothing"))
  g_Ring : mg "Ring" = some (.ref (He.ga K "Ring"))
  g_TooMany : mg "TooMany" = some (.ref (He.ga K "TooMany"))
  g_Unfit : mg "Unfit" = some (.ref (He.ga K "Unfit"))
  g_Waiting : mg "Waiting" = some (.ref (He.ga K "Waiting"))
  g_Wrong : mg "Wrong" = some (.ref (He.ga K "Wrong"))
  bas_LockError : BasI K (He.ga K "LockError")
  le_LockError : LeOk K mg "LockError"
  xf_at : XfsOk K "at" ["NoEntry"]
  xf_descriptor : XfsOk K "descriptor" ["NoDescriptor"]
  xf_first : XfsOk K "first" ["Held"]
  xf_last : XfsOk K "last" ["Held"]
  xf_level : XfsOk K "level" ["Held"]
  xf_limit : XfsOk K "limit" ["Full", "TooMany"]
  xf_members : XfsOk K "members" ["Ring"]
  xf_owner : XfsOk K "owner" ["Held"]
  xf_place : XfsOk K "place" ["Wrong"]
  xf_process : XfsOk K "process" ["Idle", "NoProcess", "Waiting"]
  ises : IsesOk K iseT
section
variable {P : Program} {w : World} {K : PySem.W.Frag} {mg : Str → Option Value} {base : Heap}
theorem sc_Wrong___init__ : FnScope ["self", "place"] ["self", "place"] (defScope s_Wrong___init__) :=
  ⟨rfl, rfl, rfl, by decide +kernel, rfl, by decide +kernel, by decide +kernel⟩
theorem ok_Wrong___init__ (T : Txt K mg) {f : Addr} {fd : FuncData} (F : Fun K "__init__" "Wrong.__init__" s_Wrong___init__ f fd) : FnOk P w K mg base CX0 1 f fd ["self", "place"] (spX K ["place"]) :=
  F.ok sc_Wrong___init__ spX1_len fun cdv A outer s H vs Q E hr hsp => ⟨_, L2.pss_cons (L2.ps_expr (pe_oinit rfl T.g_LockError T.bas_LockError (pa_cons (pv 0) (pa_cons pe_str pa_nil)))) (L2.pss_cons (L2.ps_ost (pv 0) (pv 1)) L2.pss_nil), xread1 hsp⟩
theorem sc_Unfit___init__ : FnScope ["self"] ["self"] (defScope s_Unfit___init__) :=
  ⟨rfl, rfl, rfl, by decide +kernel, rfl, by decide +kernel, by decide +kernel⟩
theorem ok_Unfit___init__ (T : Txt K mg) {f : Addr} {fd : FuncData} (F : Fun K "__init__" "Unfit.__init__" s_Unfit___init__ f fd) : FnOk P w K mg base CX0 1 f fd ["self"] (sp0 K) :=
  F.ok sc_Unfit___init__ sp0_len fun cdv A outer s H vs Q E hr hsp => ⟨_, L2.pss_cons (L2.ps_expr (pe_oinit rfl T.g_LockError T.bas_LockError (pa_cons (pv 0) (pa_cons pe_str pa_nil)))) L2.pss_nil, xread0 hsp⟩
theorem sc_Held___init__ : FnScope ["self", "owner", "level", "first", "last"] ["self", "owner", "level", "first", "last"] (defScope s_Held___init__) :=
  ⟨rfl, rfl, rfl, by decide +kernel, rfl, by decide +kernel, by decide +kernel⟩
theorem ok_Held___init__ (T : Txt K mg) {f : Addr} {fd : FuncData} (F : Fun K "__init__" "Held.__init__" s_Held___init__ f fd) : FnOk P w K mg base CX0 1 f fd ["self", "owner", "level", "first", "last"] (spX K ["owner", "level", "first", "last"]) :=
  F.ok sc_Held___init__ spX4_len fun cdv A outer s H vs Q E hr hsp => ⟨_, L2.pss_cons (L2.ps_expr (pe_oinit rfl T.g_LockError T.bas_LockError (pa_cons (pv 0) (pa_cons pe_str pa_nil)))) (L2.pss_cons (L2.ps_ost (pv 0) (pv 1)) (L2.pss_cons (L2.ps_ost (pv 0) (pv 2)) (L2.pss_cons (L2.ps_ost (pv 0) (pv 3)) (L2.pss_cons (L2.ps_ost (pv 0) (pv 4)) L2.pss_nil)))), xread4 hsp⟩
theorem sc_TooMany___init__ : FnScope ["self", "limit"] ["self", "limit"] (defScope s_TooMany___init__) :=
  ⟨rfl, rfl, rfl, by decide +kernel, rfl, by decide +kernel, by decide +kernel⟩
theorem ok_TooMany___init__ (T : Txt K mg) {f : Addr} {fd : FuncData} (F : Fun K "__init__" "TooMany.__init__" s_TooMany___init__ f fd) : FnOk P w K mg base CX0 1 f fd ["self", "limit"] (spX K ["limit"]) :=
  F.ok sc_TooMany___init__ spX1_len fun cdv A outer s H vs Q E hr hsp => ⟨_, L2.pss_cons (L2.ps_expr (pe_oinit rfl T.g_LockError T.bas_LockError (pa_cons (pv 0) (pa_cons pe_str pa_nil)))) (L2.pss_cons (L2.ps_ost (pv 0) (pv 1)) L2.pss_nil), xread1 hsp⟩
theorem sc_NoProcess___init__ : FnScope ["self", "process"] ["self", "process"] (defScope s_NoProcess___init__) :=
  ⟨rfl, rfl, rfl, by decide +kernel, rfl, by decide +kernel, by decide +kernel⟩
theorem ok_NoProcess___init__ (T : Txt K mg) {f : Addr} {fd : FuncData} (F : Fun K "__init__" "NoProcess.__init__" s_NoProcess___init__ f fd) : FnOk P w K mg base CX0 1 f fd ["self", "process"] (spX K ["process"]) :=
  F.ok sc_NoProcess___init__ spX1_len fun cdv A outer s H vs Q E hr hsp => ⟨_, L2.pss_cons (L2.ps_expr (pe_oinit rfl T.g_LockError T.bas_LockError (pa_cons (pv 0) (pa_cons pe_str pa_nil)))) (L2.pss_cons (L2.ps_ost (pv 0) (pv 1)) L2.pss_nil), xread1 hsp⟩
theorem sc_Waiting___init__ : FnScope ["self", "process"] ["self", "process"] (defScope s_Waiting___init__) :=
  ⟨rfl, rfl, rfl, by decide +kernel, rfl, by decide +kernel, by decide +kernel⟩
theorem ok_Waiting___init__ (T : Txt K mg) {f : Addr} {fd : FuncData} (F : Fun K "__init__" "Waiting.__init__" s_Waiting___init__ f fd) : FnOk P w K mg base CX0 1 f fd ["self", "process"] (spX K ["process"]) :=
  F.ok sc_Waiting___init__ spX1_len fun cdv A outer s H vs Q E hr hsp => ⟨_, L2.pss_cons (L2.ps_expr (pe_oinit rfl T.g_LockError T.bas_LockError (pa_cons (pv 0) (pa_cons pe_str pa_nil)))) (L2.pss_cons (L2.ps_ost (pv 0) (pv 1)) L2.pss_nil), xread1 hsp⟩
theorem sc_NoDescriptor___init__ : FnScope ["self", "descriptor"] ["self", "descriptor"] (defScope s_NoDescriptor___init__) :=
  ⟨rfl, rfl, rfl, by decide +kernel, rfl, by decide +kernel, by decide +kernel⟩
theorem ok_NoDescriptor___init__ (T : Txt K mg) {f : Addr} {fd : FuncData} (F : Fun K "__init__" "NoDescriptor.__init__" s_NoDescriptor___init__ f fd) : FnOk P w K mg base CX0 1 f fd ["self", "descriptor"] (spX K ["descriptor"]) :=
  F.ok sc_NoDescriptor___init__ spX1_len fun cdv A outer s H vs Q E hr hsp => ⟨_, L2.pss_cons (L2.ps_expr (pe_oinit rfl T.g_LockError T.bas_LockError (pa_cons (pv 0) (pa_cons pe_str pa_nil)))) (L2.pss_cons (L2.ps_ost (pv 0) (pv 1)) L2.pss_nil), xread1 hsp⟩
theorem sc_Full___init__ : FnScope ["self", "limit"] ["self", "limit"] (defScope s_Full___init__) :=
  ⟨rfl, rfl, rfl, by decide +kernel, rfl, by decide +kernel, by decide +kernel⟩
theorem ok_Full___init__ (T : Txt K mg) {f : Addr} {fd : FuncData} (F : Fun K "__init__" "Full.__init__" s_Full___init__ f fd) : FnOk P w K mg base CX0 1 f fd ["self", "limit"] (spX K ["limit"]) :=
  F.ok sc_Full___init__ spX1_len fun cdv A outer s H vs Q E hr hsp => ⟨_, L2.pss_cons (L2.ps_expr (pe_oinit rfl T.g_LockError T.bas_LockError (pa_cons (pv 0) (pa_cons pe_str pa_nil)))) (L2.pss_cons (L2.ps_ost (pv 0) (pv 1)) L2.pss_nil), xread1 hsp⟩
theorem sc_Ring___init__ : FnScope ["self", "members"] ["self", "members"] (defScope s_Ring___init__) :=
  ⟨rfl, rfl, rfl, by decide +kernel, rfl, by decide +kernel, by decide +kernel⟩
theorem ok_Ring___init__ (T : Txt K mg) {f : Addr} {fd : FuncData} (F : Fun K "__init__" "Ring.__init__" s_Ring___init__ f fd) : FnOk P w K mg base CX0 1 f fd ["self", "members"] (spX K ["members"]) :=
  F.ok sc_Ring___init__ spX1_len fun cdv A outer s H vs Q E hr hsp => ⟨_, L2.pss_cons (L2.ps_expr (pe_oinit rfl T.g_LockError T.bas_LockError (pa_cons (pv 0) (pa_cons pe_str pa_nil)))) (L2.pss_cons (L2.ps_ost (pv 0) (pv 1)) L2.pss_nil), xread1 hsp⟩
theorem sc_Idle___init__ : FnScope ["self", "process"] ["self", "process"] (defScope s_Idle___init__) :=
  ⟨rfl, rfl, rfl, by decide +kernel, rfl, by decide +kernel, by decide +kernel⟩
theorem ok_Idle___init__ (T : Txt K mg) {f : Addr} {fd : FuncData} (F : Fun K "__init__" "Idle.__init__" s_Idle___init__ f fd) : FnOk P w K mg base CX0 1 f fd ["self", "process"] (spX K ["process"]) :=
  F.ok sc_Idle___init__ spX1_len fun cdv A outer s H vs Q E hr hsp => ⟨_, L2.pss_cons (L2.ps_expr (pe_oinit rfl T.g_LockError T.bas_LockError (pa_cons (pv 0) (pa_cons pe_str pa_nil)))) (L2.pss_cons (L2.ps_ost (pv 0) (pv 1)) L2.pss_nil), xread1 hsp⟩
theorem sc_Nothing___init__ : FnScope ["self"] ["self"] (defScope s_Nothing___init__) :=
  ⟨rfl, rfl, rfl, by decide +kernel, rfl, by decide +kernel, by decide +kernel⟩
theorem ok_Nothing___init__ (T : Txt K mg) {f : Addr} {fd : FuncData} (F : Fun K "__init__" "Nothing.__init__" s_Nothing___init__ f fd) : FnOk P w K mg base CX0 1 f fd ["self"] (sp0 K) :=
  F.ok sc_Nothing___init__ sp0_len fun cdv A outer s H vs Q E hr hsp => ⟨_, L2.pss_cons (L2.ps_expr (pe_oinit rfl T.g_LockError T.bas_LockError (pa_cons (pv 0) (pa_cons pe_str pa_nil)))) L2.pss_nil, xread0 hsp⟩
theorem sc_NoEntry___init__ : FnScope ["self", "at"] ["self", "at"] (defScope s_NoEntry___init__) :=
  ⟨rfl, rfl, rfl, by decide +kernel, rfl, by decide +kernel, by decide +kernel⟩
theorem ok_NoEntry___init__ (T : Txt K mg) {f : Addr} {fd : FuncData} (F : Fun K "__init__" "NoEntry.__init__" s_NoEntry___init__ f fd) : FnOk P w K mg base CX0 1 f fd ["self", "at"] (spX K ["at"]) :=
  F.ok sc_NoEntry___init__ spX1_len fun cdv A outer s H vs Q E hr hsp => ⟨_, L2.pss_cons (L2.ps_expr (pe_oinit rfl T.g_LockError T.bas_LockError (pa_cons (pv 0) (pa_cons pe_str pa_nil)))) (L2.pss_cons (L2.ps_ost (pv 0) (pv 1)) L2.pss_nil), xread1 hsp⟩
theorem sc_NoText___init__ : FnScope ["self"] ["self"] (defScope s_NoText___init__) :=
  ⟨rfl, rfl, rfl, by decide +kernel, rfl, by decide +kernel, by decide +kernel⟩
theorem ok_NoText___init__ (T : Txt K mg) {f : Addr} {fd : FuncData} (F : Fun K "__init__" "NoText.__init__" s_NoText___init__ f fd) : FnOk P w K mg base CX0 1 f fd ["self"] (sp0 K) :=
  F.ok sc_NoText___init__ sp0_len fun cdv A outer s H vs Q E hr hsp => ⟨_, L2.pss_cons (L2.ps_expr (pe_oinit rfl T.g_LockError T.bas_LockError (pa_cons (pv 0) (pa_cons pe_str pa_nil)))) L2.pss_nil, xread0 hsp⟩
theorem sc_NoCommand___init__ : FnScope ["self"] ["self"] (defScope s_NoCommand___init__) :=
  ⟨rfl, rfl, rfl, by decide +kernel, rfl, by decide +kernel, by decide +kernel⟩
theorem ok_NoCommand___init__ (T : Txt K mg) {f : Addr} {fd : FuncData} (F : Fun K "__init__" "NoCommand.__init__" s_NoCommand___init__ f fd) : FnOk P w K mg base CX0 1 f fd ["self"] (sp0 K) :=
  F.ok sc_NoCommand___init__ sp0_len fun cdv A outer s H vs Q E hr hsp => ⟨_, L2.pss_cons (L2.ps_expr (pe_oinit rfl T.g_LockError T.bas_LockError (pa_cons (pv 0) (pa_cons pe_str pa_nil)))) L2.pss_nil, xread0 hsp⟩
theorem sc_law_bag : FnScope ["_law_script", ".0", "_law_cell"] ["_law_script"] (defScope s_law_bag) :=
  ⟨rfl, rfl, rfl, by decide +kernel, rfl, by decide +kernel, by decide +kernel⟩
noncomputable def b_law_bag : SM :=
    (sRet (eA (newL true) (aC (eC (.int 0)) (aC (eC (.int 1234567891)) (aC (eC (.int 0)) (aC (eLC false (iSeq (eSl false (eV 0) pN (pS (eC (.int 63))))) (gNm 2) tTr (eA absG (aC (eV 2) aN)) [1, 2]) aN))))))
noncomputable def m_law_bag : FnM := fnM 1 3 b_law_bag
theorem ok_law_bag (T : Txt K mg) {f : Addr} {fd : FuncData} (F : Fun K "_law_bag" "_law_bag" s_law_bag f fd) (hm : mg "_law_bag" = some (.ref f)) (hb : Binds K fd ["_law_script"] [])  :
    CalD P w K mg base 1 "_law_bag" m_law_bag :=
  calD_of (k := 0) F hm hb sc_law_bag fun cdv A outer s H E hgd hr =>
    (pss_1 (psd_ret (pd_lst true (pda_cons pd_int (pda_cons pd_int (pda_cons pd_int (pda_cons (pd_lc false rfl sc_law_bag.nd (pid_seq (pd_sl false (pd_v 0) po_n (po_s pd_int))) (blkOk_by (own := [(".0", 1), ("_law_cell", 2)]) (by kernel_rfl)) (fun _ _ _ _ _ => (pgd_name (i := 2) sc_law_bag.nd)) (fun _ _ _ _ _ => pts_n) (fun _ _ _ _ _ => (pd_callB call_abs abs_ok T.n_abs PyProof.Rows.boot_abs (pda_cons (pd_v 2) pda_nil)))) pda_nil)))))))
theorem sc_law_take : FnScope ["_law_bag_here", "_law_many", "_law_cell", "_law_mixed", "_law_value", "_law_begin", "_law_second"] ["_law_bag_here", "_law_many"] (defScope s_law_take) :=
  ⟨rfl, rfl, rfl, by decide +kernel, rfl, by decide +kernel, by decide +kernel⟩
noncomputable def b_law_take : SM :=
    (sSeq (sIf (tB (e2 (eqG false) (e2 ixG (eV 0) (eC (.int 0))) (eC (.int 0)))) (sSeq (sSet 2 (eC (.int 0)))
    (sSeq (sIf (tB (e2 (ltG) (e2 ixG (eV 0) (eC (.int 2))) (eA lenG (aC (e2 ixG (eV 0) (eC (.int 3))) aN)))) (sSet 2 (e2 ixG (e2 ixG (eV 0) (eC (.int 3))) (e2 ixG (eV 0) (eC (.int 2))))) sNx)
    (sSeq (sAugS (eV 0) (eC (.int 2)) (eC (.int 1)))
    (sSeq (sIf (tB (e2 (geG) (eV 2) (eC (.int 1000000000000000000)))) (sAs (eV 2) (gSb (eV 0) (eC (.int 0)))) sNx)
    (sSeq (sSet 3 (e2 (addG false) (e2 (addG false) (e2 (mulG false) (e2 ixG (eV 0) (eC (.int 1))) (eC (.int 48271))) (e2 (modG) (eA intG (aC (eV 2) aN)) (eC (.int 2147483647)))) (e2 (mulG false) (eC (.int 7919)) (e2 ixG (eV 0) (eC (.int 2))))))
    (sAs (e2 (modG) (eA intG (aC (eV 3) aN)) (eC (.int 2147483647))) (gSb (eV 0) (eC (.int 1))))))))) sNx)
    (sSeq (sIf (tB (e2 (gtG) (e2 ixG (eV 0) (eC (.int 0))) (eC (.int 0)))) (sSeq (sSet 4 (e2 (modG) (eA intG (aC (e2 ixG (eV 0) (eC (.int 0))) aN)) (eV 1)))
    (sSeq (sAs (e2 (fdivG) (e2 ixG (eV 0) (eC (.int 0))) (eV 1)) (gSb (eV 0) (eC (.int 0))))
    (sRet (eV 4)))) sNx)
    (sSeq (sSet 5 (e2 (modG) (eA intG (aC (e2 (mulG false) (e2 (addG false) (e2 ixG (eV 0) (eC (.int 1))) (eC (.int 1))) (eC (.int 39373))) aN)) (eC (.int 1000000007))))
    (sSeq (sSet 6 (e2 (modG) (eA intG (aC (e2 (mulG false) (e2 (modG) (eA intG (aC (e2 (mulG false) (eV 5) (eV 5)) aN)) (eC (.int 998244353))) (eC (.int 30011))) aN)) (eC (.int 998244353))))
    (sSeq (sIf (tB (e2 (gtG) (eV 1) (eC (.int 1000000)))) (sRet (e2 (modG) (eA intG (aC (e2 (addG false) (e2 (mulG false) (eV 6) (eC (.int 1000000007))) (eV 5)) aN)) (eV 1))) sNx)
    (sRet (e2 (modG) (eA intG (aC (e2 (fdivG) (eV 6) (eC (.int 7))) aN)) (eV 1))))))))
noncomputable def m_law_take : FnM := fnM 2 7 b_law_take
theorem ok_law_take (T : Txt K mg) {f : Addr} {fd : FuncData} (F : Fun K "_law_take" "_law_take" s_law_take f fd) (hm : mg "_law_take" = some (.ref f)) (hb : Binds K fd ["_law_bag_here", "_law_many"] [])  :
    CalD P w K mg base 1 "_law_take" m_law_take :=
  calD_of (k := 0) F hm hb sc_law_take fun cdv A outer s H E hgd hr =>
    (pss_c (psd_if (pt_eq hr.units (pd_ix (pd_v 0) pd_int) pd_int) (pss_c (psd_set (i := 2) sc_law_take.nd pd_int)
    (pss_c (psd_if (pt_lt (pd_ix (pd_v 0) pd_int) (pd_callB call_len len_ok T.n_len PySem.boot_len (pda_cons (pd_ix (pd_v 0) pd_int) pda_nil))) (pss_1 (psd_set (i := 2) sc_law_take.nd (pd_ix (pd_ix (pd_v 0) pd_int) (pd_ix (pd_v 0) pd_int)))) pss_n)
    (pss_c (psd_augS (pd_v 0) pd_int pd_int)
    (pss_c (psd_if (pt_ge (pd_v 2) pd_int) (pss_1 (psd_asg (pd_v 2) (pgd_sub (pd_v 0) pd_int))) pss_n)
    (pss_c (psd_set (i := 3) sc_law_take.nd (pd_add false (pd_add false (pd_mul false (pd_ix (pd_v 0) pd_int) pd_int) (pd_mod (pd_callTy call_int1 int_ok T.n_int PyProof.Rows.boot_int (pda_cons (pd_v 2) pda_nil)) pd_int)) (pd_mul false pd_int (pd_ix (pd_v 0) pd_int))))
    (pss_1 (psd_asg (pd_mod (pd_callTy call_int1 int_ok T.n_int PyProof.Rows.boot_int (pda_cons (pd_v 3) pda_nil)) pd_int) (pgd_sub (pd_v 0) pd_int)))))))) pss_n)
    (pss_c (psd_if (pt_gt (pd_ix (pd_v 0) pd_int) pd_int) (pss_c (psd_set (i := 4) sc_law_take.nd (pd_mod (pd_callTy call_int1 int_ok T.n_int PyProof.Rows.boot_int (pda_cons (pd_ix (pd_v 0) pd_int) pda_nil)) (pd_v 1)))
    (pss_c (psd_asg (pd_fdiv (pd_ix (pd_v 0) pd_int) (pd_v 1)) (pgd_sub (pd_v 0) pd_int))
    (pss_1 (psd_ret (pd_v 4))))) pss_n)
    (pss_c (psd_set (i := 5) sc_law_take.nd (pd_mod (pd_callTy call_int1 int_ok T.n_int PyProof.Rows.boot_int (pda_cons (pd_mul false (pd_add false (pd_ix (pd_v 0) pd_int) pd_int) pd_int) pda_nil)) pd_int))
    (pss_c (psd_set (i := 6) sc_law_take.nd (pd_mod (pd_callTy call_int1 int_ok T.n_int PyProof.Rows.boot_int (pda_cons (pd_mul false (pd_mod (pd_callTy call_int1 int_ok T.n_int PyProof.Rows.boot_int (pda_cons (pd_mul false (pd_v 5) (pd_v 5)) pda_nil)) pd_int) pd_int) pda_nil)) pd_int))
    (pss_c (psd_if (pt_gt (pd_v 1) pd_int) (pss_1 (psd_ret (pd_mod (pd_callTy call_int1 int_ok T.n_int PyProof.Rows.boot_int (pda_cons (pd_add false (pd_mul false (pd_v 6) pd_int) (pd_v 5)) pda_nil)) (pd_v 1)))) pss_n)
    (pss_1 (psd_ret (pd_mod (pd_callTy call_int1 int_ok T.n_int PyProof.Rows.boot_int (pda_cons (pd_fdiv (pd_v 6) pd_int) pda_nil)) (pd_v 1)))))))))
theorem sc_law_kinds : FnScope ["_law_e", "_law_found"] ["_law_e"] (defScope s_law_kinds) :=
  ⟨rfl, rfl, rfl, by decide +kernel, rfl, by decide +kernel, by decide +kernel⟩
noncomputable def b_law_kinds : SM :=
    (sSeq (sSet 1 (eA (newL false) (aC (eA (isvW iseT) (aC (eV 0) (aC (eC (.cls "Wrong")) aN))) (aC (eA (isvW iseT) (aC (eV 0) (aC (eC (.cls "Unfit")) aN))) (aC (eA (isvW iseT) (aC (eV 0) (aC (eC (.cls "Held")) aN))) (aC (eA (isvW iseT) (aC (eV 0) (aC (eC (.cls "TooMany")) aN))) aN))))))
    (sSeq (sSet 1 (e2 (addG false) (eV 1) (eA (newL false) (aC (eA (isvW iseT) (aC (eV 0) (aC (eC (.cls "NoProcess")) aN))) (aC (eA (isvW iseT) (aC (eV 0) (aC (eC (.cls "Waiting")) aN))) (aC (eA (isvW iseT) (aC (eV 0) (aC (eC (.cls "NoDescriptor")) aN))) (aC (eA (isvW iseT) (aC (eV 0) (aC (eC (.cls "Full")) aN))) aN)))))))
    (sSeq (sSet 1 (e2 (addG false) (eV 1) (eA (newL false) (aC (eA (isvW iseT) (aC (eV 0) (aC (eC (.cls "Ring")) aN))) (aC (eA (isvW iseT) (aC (eV 0) (aC (eC (.cls "Idle")) aN))) (aC (eA (isvW iseT) (aC (eV 0) (aC (eC (.cls "Nothing")) aN))) (aC (eA (isvW iseT) (aC (eV 0) (aC (eC (.cls "NoEntry")) aN))) aN)))))))
    (sRet (e2 (addG true) (eV 1) (eA (newL false) (aC (eA (isvW iseT) (aC (eV 0) (aC (eC (.cls "NoText")) aN))) (aC (eA (isvW iseT) (aC (eV 0) (aC (eC (.cls "NoCommand")) aN))) aN))))))))
noncomputable def m_law_kinds : FnM := fnM 1 2 b_law_kinds
theorem ok_law_kinds (T : Txt K mg) {f : Addr} {fd : FuncData} (F : Fun K "_law_kinds" "_law_kinds" s_law_kinds f fd) (hm : mg "_law_kinds" = some (.ref f)) (hb : Binds K fd ["_law_e"] [])  :
    CalD P w K mg base 1 "_law_kinds" m_law_kinds :=
  calD_of (k := 0) F hm hb sc_law_kinds fun cdv A outer s H E hgd hr =>
    (pss_c (psd_set (i := 1) sc_law_kinds.nd (pd_lst false (pda_cons (pd_callB call_isW (isvW_ok T.ises) T.n_isinstance PyProof.Rows.boot_isinstance (pda_cons (pd_v 0) (pda_cons (pd_cls T.g_Wrong) pda_nil))) (pda_cons (pd_callB call_isW (isvW_ok T.ises) T.n_isinstance PyProof.Rows.boot_isinstance (pda_cons (pd_v 0) (pda_cons (pd_cls T.g_Unfit) pda_nil))) (pda_cons (pd_callB call_isW (isvW_ok T.ises) T.n_isinstance PyProof.Rows.boot_isinstance (pda_cons (pd_v 0) (pda_cons (pd_cls T.g_Held) pda_nil))) (pda_cons (pd_callB call_isW (isvW_ok T.ises) T.n_isinstance PyProof.Rows.boot_isinstance (pda_cons (pd_v 0) (pda_cons (pd_cls T.g_TooMany) pda_nil))) pda_nil))))))
    (pss_c (psd_set (i := 1) sc_law_kinds.nd (pd_add false (pd_v 1) (pd_lst false (pda_cons (pd_callB call_isW (isvW_ok T.ises) T.n_isinstance PyProof.Rows.boot_isinstance (pda_cons (pd_v 0) (pda_cons (pd_cls T.g_NoProcess) pda_nil))) (pda_cons (pd_callB call_isW (isvW_ok T.ises) T.n_isinstance PyProof.Rows.boot_isinstance (pda_cons (pd_v 0) (pda_cons (pd_cls T.g_Waiting) pda_nil))) (pda_cons (pd_callB call_isW (isvW_ok T.ises) T.n_isinstance PyProof.Rows.boot_isinstance (pda_cons (pd_v 0) (pda_cons (pd_cls T.g_NoDescriptor) pda_nil))) (pda_cons (pd_callB call_isW (isvW_ok T.ises) T.n_isinstance PyProof.Rows.boot_isinstance (pda_cons (pd_v 0) (pda_cons (pd_cls T.g_Full) pda_nil))) pda_nil)))))))
    (pss_c (psd_set (i := 1) sc_law_kinds.nd (pd_add false (pd_v 1) (pd_lst false (pda_cons (pd_callB call_isW (isvW_ok T.ises) T.n_isinstance PyProof.Rows.boot_isinstance (pda_cons (pd_v 0) (pda_cons (pd_cls T.g_Ring) pda_nil))) (pda_cons (pd_callB call_isW (isvW_ok T.ises) T.n_isinstance PyProof.Rows.boot_isinstance (pda_cons (pd_v 0) (pda_cons (pd_cls T.g_Idle) pda_nil))) (pda_cons (pd_callB call_isW (isvW_ok T.ises) T.n_isinstance PyProof.Rows.boot_isinstance (pda_cons (pd_v 0) (pda_cons (pd_cls T.g_Nothing) pda_nil))) (pda_cons (pd_callB call_isW (isvW_ok T.ises) T.n_isinstance PyProof.Rows.boot_isinstance (pda_cons (pd_v 0) (pda_cons (pd_cls T.g_NoEntry) pda_nil))) pda_nil)))))))
    (pss_1 (psd_ret (pd_add true (pd_v 1) (pd_lst false (pda_cons (pd_callB call_isW (isvW_ok T.ises) T.n_isinstance PyProof.Rows.boot_isinstance (pda_cons (pd_v 0) (pda_cons (pd_cls T.g_NoText) pda_nil))) (pda_cons (pd_callB call_isW (isvW_ok T.ises) T.n_isinstance PyProof.Rows.boot_isinstance (pda_cons (pd_v 0) (pda_cons (pd_cls T.g_NoCommand) pda_nil))) pda_nil)))))))))
theorem sc_law_thing : FnScope ["_law_bag_here", "_law_some"] ["_law_bag_here"] (defScope s_law_thing) :=
  ⟨rfl, rfl, rfl, by decide +kernel, rfl, by decide +kernel, by decide +kernel⟩
noncomputable def b_law_thing : SM :=
    (sSeq (sSet 1 (eA (newL true) (aC (eC .non) (aC (eC (.bl true)) (aC (eC (.int 0)) (aC (e1 negG (eC (.int 5))) (aC (e2 (powG) (eC (.int 10)) (eC (.int 39))) (aC (eC (.str "a")) (aC (eA newT aN) (aC (eA newT (aC (eC (.int 1)) (aC (eC (.str "b")) aN))) (aC (eA (newL true) aN) (aC (eA (newL true) (aC (eC (.int 1)) (aC (eA (newL true) (aC (eC (.int 2)) aN)) aN))) (aC (eDN true) (aC (eDs (dC (eC (.str "a")) (eC (.int 1)) dN)) aN))))))))))))))
    (sRet (e2 ixG (eV 1) (eCall m_law_take false (aC (eV 0) (aC (eC (.int 12)) aN))))))
noncomputable def m_law_thing : KnM := fnK 1 2 b_law_thing
theorem ok_law_thing (T : Txt K mg) {f : Addr} {fd : FuncData} (F : Fun K "_law_thing" "_law_thing" s_law_thing f fd) (hm : mg "_law_thing" = some (.ref f)) (hb : Binds K fd ["_law_bag_here"] []) (c_law_take : CalD P w K mg base 1 "_law_take" m_law_take) :
    CalK P w K mg base 2 "_law_thing" m_law_thing :=
  calK_of (k := 1) F hm hb sc_law_thing fun cdv A outer s H E hgd hr =>
    (pss_c (psd_set (i := 1) sc_law_thing.nd (pd_lst true (pda_cons pd_non (pda_cons pd_bl (pda_cons pd_int (pda_cons (pd_neg pd_int) (pda_cons (pd_pow pd_int pd_int) (pda_cons pd_str (pda_cons (pd_tup pda_nil) (pda_cons (pd_tup (pda_cons pd_int (pda_cons pd_str pda_nil))) (pda_cons (pd_lst true pda_nil) (pda_cons (pd_lst true (pda_cons pd_int (pda_cons (pd_lst true (pda_cons pd_int pda_nil)) pda_nil))) (pda_cons (pd_dn true) (pda_cons (pd_ds (pdp_c pd_str pd_int pdp_n)) pda_nil))))))))))))))
    (pss_1 (psd_ret (pd_ix (pd_v 1) (pd_call false c_law_take hr (by decide) hgd (pda_cons (pd_v 0) (pda_cons pd_int pda_nil)))))))
theorem sc_law_made : FnScope ["_law_bag_here", "_law_a", "_law_b", "_law_c", "_law_d", "_law_errors"] ["_law_bag_here"] (defScope s_law_made) :=
  ⟨rfl, rfl, rfl, by decide +kernel, rfl, by decide +kernel, by decide +kernel⟩
noncomputable def b_law_made : SM :=
    (sSeq (sPar 1 2 (aC (eCallK m_law_thing (aC (eV 0) aN)) (aC (eCallK m_law_thing (aC (eV 0) aN)) aN)))
    (sSeq (sPar 3 4 (aC (eCallK m_law_thing (aC (eV 0) aN)) (aC (eCallK m_law_thing (aC (eV 0) aN)) aN)))
    (sSeq (sSet 5 (eA (newL true) (aC (eErrV "Wrong" ["place"] (aC (eV 1) aN)) (aC (eErr0 "Unfit") (aC (eErrV "Held" ["owner", "level", "first", "last"] (aC (eV 1) (aC (eV 2) (aC (eV 3) (aC (eV 4) aN))))) (aC (eErrV "TooMany" ["limit"] (aC (eV 1) aN)) (aC (eErrV "NoProcess" ["process"] (aC (eV 1) aN)) aN)))))))
    (sSeq (sSet 5 (e2 (addG true) (eV 5) (eA (newL true) (aC (eErrV "Waiting" ["process"] (aC (eV 1) aN)) (aC (eErrV "NoDescriptor" ["descriptor"] (aC (eV 1) aN)) (aC (eErrV "Full" ["limit"] (aC (eV 1) aN)) (aC (eErrV "Ring" ["members"] (aC (eV 1) aN)) (aC (eErrV "Idle" ["process"] (aC (eV 1) aN)) (aC (eErr0 "Nothing") (aC (eErrV "NoEntry" ["at"] (aC (eV 1) aN)) aN))))))))))
    (sSeq (sSet 5 (e2 (addG true) (eV 5) (eA (newL true) (aC (eErr0 "NoText") (aC (eErr0 "NoCommand") aN)))))
    (sRet (eA newTC (aC (eV 5) (aC (eA (newL true) (aC (eV 1) (aC (eV 2) (aC (eV 3) (aC (eV 4) aN))))) aN)))))))))
noncomputable def m_law_made : KnM := fnK 1 6 b_law_made
theorem ok_law_made (T : Txt K mg) {f : Addr} {fd : FuncData} (F : Fun K "_law_made" "_law_made" s_law_made f fd) (hm : mg "_law_made" = some (.ref f)) (hb : Binds K fd ["_law_bag_here"] []) (XI_NoCommand : ExI P w K mg base 1 "NoCommand") (XI_NoText : ExI P w K mg base 1 "NoText") (XI_NoEntry : ExF P w K mg base 1 "NoEntry" ["at"]) (XI_Nothing : ExI P w K mg base 1 "Nothing") (XI_Idle : ExF P w K mg base 1 "Idle" ["process"]) (XI_Ring : ExF P w K mg base 1 "Ring" ["members"]) (XI_Full : ExF P w K mg base 1 "Full" ["limit"]) (XI_NoDescriptor : ExF P w K mg base 1 "NoDescriptor" ["descriptor"]) (XI_Waiting : ExF P w K mg base 1 "Waiting" ["process"]) (XI_NoProcess : ExF P w K mg base 1 "NoProcess" ["process"]) (XI_TooMany : ExF P w K mg base 1 "TooMany" ["limit"]) (XI_Held : ExF P w K mg base 1 "Held" ["owner", "level", "first", "last"]) (XI_Unfit : ExI P w K mg base 1 "Unfit") (XI_Wrong : ExF P w K mg base 1 "Wrong" ["place"]) (c_law_thing : CalK P w K mg base 2 "_law_thing" m_law_thing) :
    CalK P w K mg base 3 "_law_made" m_law_made :=
  calK_of (k := 2) F hm hb sc_law_made fun cdv A outer s H E hgd hr =>
    (pss_c (psd_par (i := 1) (j := 2) rfl sc_law_made.nd (pda_cons (pd_callK c_law_thing hr (by decide) hgd (pda_cons (pd_v 0) pda_nil)) (pda_cons (pd_callK c_law_thing hr (by decide) hgd (pda_cons (pd_v 0) pda_nil)) pda_nil)))
    (pss_c (psd_par (i := 3) (j := 4) rfl sc_law_made.nd (pda_cons (pd_callK c_law_thing hr (by decide) hgd (pda_cons (pd_v 0) pda_nil)) (pda_cons (pd_callK c_law_thing hr (by decide) hgd (pda_cons (pd_v 0) pda_nil)) pda_nil)))
    (pss_c (psd_set (i := 5) sc_law_made.nd (pd_lst true (pda_cons (pd_errV XI_Wrong (hr.mono (by decide)) (pda_cons (pd_v 1) pda_nil)) (pda_cons (pd_err0 XI_Unfit (hr.mono (by decide))) (pda_cons (pd_errV XI_Held (hr.mono (by decide)) (pda_cons (pd_v 1) (pda_cons (pd_v 2) (pda_cons (pd_v 3) (pda_cons (pd_v 4) pda_nil))))) (pda_cons (pd_errV XI_TooMany (hr.mono (by decide)) (pda_cons (pd_v 1) pda_nil)) (pda_cons (pd_errV XI_NoProcess (hr.mono (by decide)) (pda_cons (pd_v 1) pda_nil)) pda_nil)))))))
    (pss_c (psd_set (i := 5) sc_law_made.nd (pd_add true (pd_v 5) (pd_lst true (pda_cons (pd_errV XI_Waiting (hr.mono (by decide)) (pda_cons (pd_v 1) pda_nil)) (pda_cons (pd_errV XI_NoDescriptor (hr.mono (by decide)) (pda_cons (pd_v 1) pda_nil)) (pda_cons (pd_errV XI_Full (hr.mono (by decide)) (pda_cons (pd_v 1) pda_nil)) (pda_cons (pd_errV XI_Ring (hr.mono (by decide)) (pda_cons (pd_v 1) pda_nil)) (pda_cons (pd_errV XI_Idle (hr.mono (by decide)) (pda_cons (pd_v 1) pda_nil)) (pda_cons (pd_err0 XI_Nothing (hr.mono (by decide))) (pda_cons (pd_errV XI_NoEntry (hr.mono (by decide)) (pda_cons (pd_v 1) pda_nil)) pda_nil))))))))))
    (pss_c (psd_set (i := 5) sc_law_made.nd (pd_add true (pd_v 5) (pd_lst true (pda_cons (pd_err0 XI_NoText (hr.mono (by decide))) (pda_cons (pd_err0 XI_NoCommand (hr.mono (by decide))) pda_nil)))))
    (pss_1 (psd_ret (pd_tupC (pda_cons (pd_v 5) (pda_cons (pd_lst true (pda_cons (pd_v 1) (pda_cons (pd_v 2) (pda_cons (pd_v 3) (pda_cons (pd_v 4) pda_nil))))) pda_nil))))))))))
theorem sc_law : FnScope ["_law_script", "_law_bag_here", "_law_turn", "_law_errors", "_law_parts", "_law_k", "_law_e", "_law_a", "_law_held", "_law_told", "_law_part", "_law_base", ".0", "_law_j"] ["_law_script"] (defScope s_law) :=
  ⟨rfl, rfl, rfl, by decide +kernel, rfl, by decide +kernel, by decide +kernel⟩
noncomputable def i_law_1 : SM :=
    (sIf (tOo (tNt (tV (eA (isvW iseT) (aC (eV 11) (aC (eC (.ty "ValueError")) aN))))) (tB (e2 (inG [] false) (eC (.bl true)) (eCall m_law_kinds false (aC (eV 11) aN))))) (sRet (eC (.bl false))) sNx)
noncomputable def f_law_1 : SM :=
    i_law_1
noncomputable def i_law_2 : SM :=
    (sIf (tB (e2 (eqG true) (eA reprNG (aC (e2 (addG true) (eV 9) (eA (newL true) (aC (eFldV "at" ["NoEntry"] (e2 ixG (eV 3) (eC (.int 11)))) aN))) aN)) (eA reprNG (aC (e2 (addG true) (e2 (addG true) (eA (newL true) (aC (eV 7) aN)) (eV 4)) (e2 (mulG true) (eA (newL true) (aC (eV 7) aN)) (eC (.int 8)))) aN)))) (sRet (eC (.bl false))) sNx)
noncomputable def i_law_3 : SM :=
    (sIf (tV (eA isiG (aC (eV 10) (aC (eC (.ty "dict")) aN)))) (sAs (eC (.int 0)) (gPt (eV 10) (eC (.str "x")))) sNx)
noncomputable def i_law_4 : SM :=
    (sIf (tV (eA isiG (aC (eV 10) (aC (eC (.ty "list")) aN)))) (sEx (eMt "list" appendG (eV 10) (aC (eC (.str "x")) aN))) sNx)
noncomputable def i_law_5 : SM :=
    (sIf (tAn (tV (eA isiG (aC (eV 10) (aC (eC (.ty "list")) aN)))) (tB (e2 (eqG false) (eA lenG (aC (eV 10) aN)) (eC (.int 2))))) (sEx (eMt "list" appendG (e2 ixG (eV 10) (eC (.int 1))) (aC (eC (.str "y")) aN))) sNx)
noncomputable def f_law_2 : SM :=
    (sSeq i_law_5
    (sSeq i_law_4
    i_law_3))
noncomputable def i_law_6 : SM :=
    (sIf (tB (e2 (eqG true) (eA reprNG (aC (e2 (addG true) (eV 9) (eA (newL true) (aC (eFldV "at" ["NoEntry"] (e2 ixG (eV 3) (eC (.int 11)))) aN))) aN)) (eA reprNG (aC (e2 (addG true) (e2 (addG true) (eA (newL true) (aC (eV 7) aN)) (eV 4)) (e2 (mulG true) (eA (newL true) (aC (eV 7) aN)) (eC (.int 8)))) aN)))) (sRet (eC (.bl false))) sNx)
noncomputable def i_law_7 : SM :=
    (sIf (tOo (tNt (tV (eA (isvW iseT) (aC (eV 6) (aC (eC (.cls "LockError")) aN))))) (tNt (tV (eA (isvW iseT) (aC (eV 6) (aC (eC (.ty "ValueError")) aN)))))) (sRet (eC (.bl false))) sNx)
noncomputable def i_law_8 : SM :=
    (sIf (tB (e2 (eqG true) (eCall m_law_kinds false (aC (eV 6) aN)) (eLC false (iR1 (aC (eC (.int 14)) aN)) (gNm 13) tTr (e2 (eqG false) (eV 13) (eV 5)) [12, 13]))) (sRet (eC (.bl false))) sNx)
noncomputable def f_law_3 : SM :=
    (sSeq (sSet 6 (e2 ixG (eV 3) (eV 5)))
    (sSeq i_law_8
    i_law_7))
noncomputable def f_law_4 : SM :=
    (sSeq (sAs (eCallK m_law_made (aC (eV 1) aN)) (gTuC 2 (gCs (gNm 3) (gCs (gNm 4) gNl))))
    (sSeq (sFor (iR1 (aC (eC (.int 14)) aN)) (gNm 5) f_law_3)
    (sSeq (sSet 7 (e2 ixG (eV 4) (eC (.int 0))))
    (sSeq (sSet 8 (e2 ixG (eV 3) (eC (.int 2))))
    (sSeq (sSet 9 (eA (newL true) (aC (eFldV "place" ["Wrong"] (e2 ixG (eV 3) (eC (.int 0)))) (aC (eFldV "owner" ["Held"] (eV 8)) (aC (eFldV "level" ["Held"] (eV 8)) (aC (eFldV "first" ["Held"] (eV 8)) (aC (eFldV "last" ["Held"] (eV 8)) (aC (eFldV "limit" ["Full", "TooMany"] (e2 ixG (eV 3) (eC (.int 3)))) (aC (eFldV "process" ["Idle", "NoProcess", "Waiting"] (e2 ixG (eV 3) (eC (.int 4)))) aN)))))))))
    (sSeq (sSet 9 (e2 (addG true) (eV 9) (eA (newL true) (aC (eFldV "process" ["Idle", "NoProcess", "Waiting"] (e2 ixG (eV 3) (eC (.int 5)))) (aC (eFldV "descriptor" ["NoDescriptor"] (e2 ixG (eV 3) (eC (.int 6)))) (aC (eFldV "limit" ["Full", "TooMany"] (e2 ixG (eV 3) (eC (.int 7)))) (aC (eFldV "members" ["Ring"] (e2 ixG (eV 3) (eC (.int 8)))) (aC (eFldV "process" ["Idle", "NoProcess", "Waiting"] (e2 ixG (eV 3) (eC (.int 9)))) aN))))))))
    (sSeq i_law_6
    (sSeq (sFor (iSeq (eV 4)) (gNm 10) f_law_2)
    (sSeq (sSet 9 (eA (newL true) (aC (eFldV "place" ["Wrong"] (e2 ixG (eV 3) (eC (.int 0)))) (aC (eFldV "owner" ["Held"] (eV 8)) (aC (eFldV "level" ["Held"] (eV 8)) (aC (eFldV "first" ["Held"] (eV 8)) (aC (eFldV "last" ["Held"] (eV 8)) (aC (eFldV "limit" ["Full", "TooMany"] (e2 ixG (eV 3) (eC (.int 3)))) (aC (eFldV "process" ["Idle", "NoProcess", "Waiting"] (e2 ixG (eV 3) (eC (.int 4)))) aN)))))))))
    (sSeq (sSet 9 (e2 (addG true) (eV 9) (eA (newL true) (aC (eFldV "process" ["Idle", "NoProcess", "Waiting"] (e2 ixG (eV 3) (eC (.int 5)))) (aC (eFldV "descriptor" ["NoDescriptor"] (e2 ixG (eV 3) (eC (.int 6)))) (aC (eFldV "limit" ["Full", "TooMany"] (e2 ixG (eV 3) (eC (.int 7)))) (aC (eFldV "members" ["Ring"] (e2 ixG (eV 3) (eC (.int 8)))) (aC (eFldV "process" ["Idle", "NoProcess", "Waiting"] (e2 ixG (eV 3) (eC (.int 9)))) aN))))))))
    (sSeq i_law_2
    (sFor (iSeq (eA (newL true) (aC (eExc "LockError" (aC (eC (.str "no")) aN)) (aC (eErr0 "LockError") (aC (eExc "LockError" (aC (eC (.str "a")) (aC (eC (.int 1)) aN))) aN))))) (gNm 11) f_law_1))))))))))))
noncomputable def b_law : SM :=
    (sSeq (sSet 1 (eCall m_law_bag true (aC (eV 0) aN)))
    (sSeq (sFor (iR1 (aC (eC (.int 4)) aN)) (gNm 2) f_law_4)
    (sRet (eC (.bl true)))))
noncomputable def m_law : FnM := fnM 1 14 b_law
theorem ok_law (T : Txt K mg) {f : Addr} {fd : FuncData} (F : Fun K "law" "law" s_law f fd) (hm : mg "law" = some (.ref f)) (hb : Binds K fd ["_law_script"] []) (c_law_kinds : CalD P w K mg base 1 "_law_kinds" m_law_kinds) (c_law_made : CalK P w K mg base 3 "_law_made" m_law_made) (c_law_bag : CalD P w K mg base 1 "_law_bag" m_law_bag) :
    CalD P w K mg base 4 "law" m_law :=
  calD_of (k := 3) F hm hb sc_law fun cdv A outer s H E hgd hr =>
    (pss_c (psd_set (i := 1) sc_law.nd (pd_call true c_law_bag hr (by decide) hgd (pda_cons (pd_v 0) pda_nil)))
    (pss_c (psd_for rfl (passes_of rfl) (pid_range1 T.n_range (pda_cons pd_int pda_nil)) (pgd_name (i := 2) sc_law.nd) (pss_c (psd_asg (pd_callK c_law_made hr (by decide) hgd (pda_cons (pd_v 1) pda_nil)) (pgd_tupC rfl (pgds_cons (pgd_name (i := 3) sc_law.nd) (pgds_cons (pgd_name (i := 4) sc_law.nd) pgds_nil))))
    (pss_c (psd_for rfl (passes_of rfl) (pid_range1 T.n_range (pda_cons pd_int pda_nil)) (pgd_name (i := 5) sc_law.nd) (pss_c (psd_set (i := 6) sc_law.nd (pd_ix (pd_v 3) (pd_v 5)))
    (pss_c (psd_if (pt_ne hr.units (pd_call false c_law_kinds hr (by decide) hgd (pda_cons (pd_v 6) pda_nil)) (pd_lc false rfl sc_law.nd (pid_range1 T.n_range (pda_cons pd_int pda_nil)) (blkOk_by (own := [(".0", 12), ("_law_j", 13)]) (by kernel_rfl)) (fun _ _ _ _ _ => (pgd_name (i := 13) sc_law.nd)) (fun _ _ _ _ _ => pts_n) (fun _ _ _ _ _ => (pd_eq hr.units (pd_v 13) (pd_v 5))))) (pss_1 (psd_ret pd_bl)) pss_n)
    (pss_1 (psd_if (pt_w (pw_o (pt_nt (pt_v (pd_callB call_isW (isvW_ok T.ises) T.n_isinstance PyProof.Rows.boot_isinstance (pda_cons (pd_v 6) (pda_cons (pd_cls T.g_LockError) pda_nil))))) (pw_o1 (pt_nt (pt_v (pd_callB call_isW (isvW_ok T.ises) T.n_isinstance PyProof.Rows.boot_isinstance (pda_cons (pd_v 6) (pda_cons (pd_ty T.n_ValueError PyProof.Rows.Boot.«ValueError») pda_nil)))))))) (pss_1 (psd_ret pd_bl)) pss_n)))))
    (pss_c (psd_set (i := 7) sc_law.nd (pd_ix (pd_v 4) pd_int))
    (pss_c (psd_set (i := 8) sc_law.nd (pd_ix (pd_v 3) pd_int))
    (pss_c (psd_set (i := 9) sc_law.nd (pd_lst true (pda_cons (pd_fldV T.xf_place (pd_ix (pd_v 3) pd_int)) (pda_cons (pd_fldV T.xf_owner (pd_v 8)) (pda_cons (pd_fldV T.xf_level (pd_v 8)) (pda_cons (pd_fldV T.xf_first (pd_v 8)) (pda_cons (pd_fldV T.xf_last (pd_v 8)) (pda_cons (pd_fldV T.xf_limit (pd_ix (pd_v 3) pd_int)) (pda_cons (pd_fldV T.xf_process (pd_ix (pd_v 3) pd_int)) pda_nil)))))))))
    (pss_c (psd_set (i := 9) sc_law.nd (pd_add true (pd_v 9) (pd_lst true (pda_cons (pd_fldV T.xf_process (pd_ix (pd_v 3) pd_int)) (pda_cons (pd_fldV T.xf_descriptor (pd_ix (pd_v 3) pd_int)) (pda_cons (pd_fldV T.xf_limit (pd_ix (pd_v 3) pd_int)) (pda_cons (pd_fldV T.xf_members (pd_ix (pd_v 3) pd_int)) (pda_cons (pd_fldV T.xf_process (pd_ix (pd_v 3) pd_int)) pda_nil))))))))
    (pss_c (psd_if (pt_ne hr.units (pd_callB (call_reprX hgd (hu80 hr)) reprN_ok T.n_repr PyProof.Rows.boot_repr (pda_cons (pd_add true (pd_v 9) (pd_lst true (pda_cons (pd_fldV T.xf_at (pd_ix (pd_v 3) pd_int)) pda_nil))) pda_nil)) (pd_callB (call_reprX hgd (hu80 hr)) reprN_ok T.n_repr PyProof.Rows.boot_repr (pda_cons (pd_add true (pd_add true (pd_lst true (pda_cons (pd_v 7) pda_nil)) (pd_v 4)) (pd_mul true (pd_lst true (pda_cons (pd_v 7) pda_nil)) pd_int)) pda_nil))) (pss_1 (psd_ret pd_bl)) pss_n)
    (pss_c (psd_for rfl (passes_of rfl) (pid_seq (pd_v 4)) (pgd_name (i := 10) sc_law.nd) (pss_c (psd_if (pt_w (pw_a (pt_v (pd_callB call_isi isi_ok T.n_isinstance PyProof.Rows.boot_isinstance (pda_cons (pd_v 10) (pda_cons (pd_ty T.n_list PyProof.Rows.boot_list) pda_nil)))) (pw_a1 (pt_eq hr.units (pd_callB call_len len_ok T.n_len PySem.boot_len (pda_cons (pd_v 10) pda_nil)) pd_int)))) (pss_1 (psd_expr (pd_mt PySem.F.plainAttrs_list PySem.F.slot_list_append PySem.F.type_list_append mt_append append_ok (pd_ix (pd_v 10) pd_int) (pda_cons pd_str pda_nil)))) pss_n)
    (pss_c (psd_if (pt_v (pd_callB call_isi isi_ok T.n_isinstance PyProof.Rows.boot_isinstance (pda_cons (pd_v 10) (pda_cons (pd_ty T.n_list PyProof.Rows.boot_list) pda_nil)))) (pss_1 (psd_expr (pd_mt PySem.F.plainAttrs_list PySem.F.slot_list_append PySem.F.type_list_append mt_append append_ok (pd_v 10) (pda_cons pd_str pda_nil)))) pss_n)
    (pss_1 (psd_if (pt_v (pd_callB call_isi isi_ok T.n_isinstance PyProof.Rows.boot_isinstance (pda_cons (pd_v 10) (pda_cons (pd_ty T.n_dict PyProof.Rows.boot_dict) pda_nil)))) (pss_1 (psd_asg pd_int (pgd_put (hu80 hr) (pd_v 10) pd_str))) pss_n)))))
    (pss_c (psd_set (i := 9) sc_law.nd (pd_lst true (pda_cons (pd_fldV T.xf_place (pd_ix (pd_v 3) pd_int)) (pda_cons (pd_fldV T.xf_owner (pd_v 8)) (pda_cons (pd_fldV T.xf_level (pd_v 8)) (pda_cons (pd_fldV T.xf_first (pd_v 8)) (pda_cons (pd_fldV T.xf_last (pd_v 8)) (pda_cons (pd_fldV T.xf_limit (pd_ix (pd_v 3) pd_int)) (pda_cons (pd_fldV T.xf_process (pd_ix (pd_v 3) pd_int)) pda_nil)))))))))
    (pss_c (psd_set (i := 9) sc_law.nd (pd_add true (pd_v 9) (pd_lst true (pda_cons (pd_fldV T.xf_process (pd_ix (pd_v 3) pd_int)) (pda_cons (pd_fldV T.xf_descriptor (pd_ix (pd_v 3) pd_int)) (pda_cons (pd_fldV T.xf_limit (pd_ix (pd_v 3) pd_int)) (pda_cons (pd_fldV T.xf_members (pd_ix (pd_v 3) pd_int)) (pda_cons (pd_fldV T.xf_process (pd_ix (pd_v 3) pd_int)) pda_nil))))))))
    (pss_c (psd_if (pt_ne hr.units (pd_callB (call_reprX hgd (hu80 hr)) reprN_ok T.n_repr PyProof.Rows.boot_repr (pda_cons (pd_add true (pd_v 9) (pd_lst true (pda_cons (pd_fldV T.xf_at (pd_ix (pd_v 3) pd_int)) pda_nil))) pda_nil)) (pd_callB (call_reprX hgd (hu80 hr)) reprN_ok T.n_repr PyProof.Rows.boot_repr (pda_cons (pd_add true (pd_add true (pd_lst true (pda_cons (pd_v 7) pda_nil)) (pd_v 4)) (pd_mul true (pd_lst true (pda_cons (pd_v 7) pda_nil)) pd_int)) pda_nil))) (pss_1 (psd_ret pd_bl)) pss_n)
    (pss_1 (psd_for rfl (passes_of rfl) (pid_seq (pd_lst true (pda_cons (pd_excV T.le_LockError (pda_cons pd_str pda_nil)) (pda_cons (pd_exc0 T.le_LockError) (pda_cons (pd_excV T.le_LockError (pda_cons pd_str (pda_cons pd_int pda_nil))) pda_nil))))) (pgd_name (i := 11) sc_law.nd) (pss_1 (psd_if (pt_w (pw_o (pt_nt (pt_v (pd_callB call_isW (isvW_ok T.ises) T.n_isinstance PyProof.Rows.boot_isinstance (pda_cons (pd_v 11) (pda_cons (pd_ty T.n_ValueError PyProof.Rows.Boot.«ValueError») pda_nil))))) (pw_o1 (pt_in (ops_nil (k := 0)) (hr.mono (by decide)) hgd (u65 hr) pd_bl (pd_call false c_law_kinds hr (by decide) hgd (pda_cons (pd_v 11) pda_nil)))))) (pss_1 (psd_ret pd_bl)) pss_n))))))))))))))))
    (pss_1 (psd_ret pd_bl))))
end
def oD : Option Int → D
  | none => .non
  | some i => .int i
abbrev spD (s : MA.Span) : D := .tup [.int s.1, oD s.2]
section
variable {S : Store} (wf : WF S)
include wf
end

theorem add_ff {S : Store} (c : Bool) {xs ys : List D} (h : xs.length + ys.length ≤ 16777216) : addG c (.fr (.lst xs)) (.fr (.lst ys)) S = (if c then .ok (.cell S.length, S ++ [.lst ((xs ++ ys).map SV.fr)]) else .ok (.fr (.lst (xs ++ ys)), S)) := by
  have hz := sizeLine_eq
  unfold addG
  simp only [rdL]
  unfold newL
  rw [if_pos (by simpa using (by omega : xs.length + ys.length ≤ sizeLine)), ← List.map_append, allFr_map]
theorem take_is : m_law_take = takeM := rfl
theorem bag_is : m_law_bag = bagM := rfl
theorem wfb (b : Bag) : WF [b.c] := by unfold WF; simp [Bag.c, Cell.below, SV.below]
section
variable {S : Store} (wf : WF S)
include wf
end

abbrev stD (s : MB.St) : D := .tup [.int s.1, .int s.2.1, oD s.2.2]
abbrev stsD (ss : List MB.St) : D := .lst (ss.map stD)
abbrev hdD (ss : List MB.St) : D := .ins "Holding" [("kept", stsD ss)]
section
variable {S : Store} (wf : WF S)
include wf
end

section
variable {S : Store} (wf : WF S)
include wf
end

section
variable {S : Store} (wf : WF S)
include wf
end
structure Wk (F : List Int) (ss : List MB.St) : Prop where
  wf : MB.Wf 0 ss
  inn : ∀ b ∈ MB.ends ss, b ∈ F
structure Few (F : List Int) : Prop where
  z : (0 : Int) ∈ F
  le : F.length < 64
theorem Wk.len {F : List Int} {ss : List MB.St} (h : Wk F ss) : ss.length ≤ F.length := h.wf.len_le h.inn
section
variable {S : Store} (wf : WF S) {F : List Int} (hF : Few F)
include wf hF
end
section
variable {F : List Int} (hF : Few F) {a b : List MB.St} (ha : MB.Hd F a) (hb : MB.Hd F b)
include hF ha
include hb
end
section
variable {F : List Int} (hF : Few F) {a : List MB.St} (ha : MB.Hd F a) {l f : Int} {e : Option Int} (hl : 0 ≤ l ∧ l ≤ 2) (ho : MA.Ok (f, e)) (h1 : f ∈ F) (h2 : ∀ i, e = some i → i + 1 ∈ F)
include hF ha ho h1 h2
include hl
end
section
variable {S : Store} (wf : WF S) {F : List Int} (hF : Few F) {a b : List MB.St} (ha : MB.Hd F a) (hb : MB.Hd F b)
include wf hF ha
include hb
end

section
variable {S : Store} {a b : List MB.St}
end
section
variable {S : Store} (wf : WF S) {F : List Int} (hF : Few F) {a b : List MB.St} (ha : MB.Hd F a)
include wf
include hF ha
end

theorem app_at {S : Store} {k : Nat} {xs : List SV} {y : SV} (h : S[k]? = some (.lst xs)) (hl : xs.length < 16777216) : appendG (.cell k) [y] S = .ok (.fr .non, S.set k (.lst (xs ++ [y]))) := by
  unfold appendG DL.cellOf
  have hz := sizeLine_eq
  simp only [h, hz, if_pos hl]
  rfl
theorem ty_at {S : Store} {k : Nat} {xs : List SV} (h : S[k]? = some (.lst xs)) : tyS "list" S (.cell k) = true := by
  unfold tyS
  simp [rdL, h]
section
variable {c d c' d' e : Cell} {R : Store}
end
def Lv2 (ls : List Int) : Prop := ∀ l ∈ ls, 0 ≤ l ∧ l ≤ 2
theorem zip_fst : ∀ {cs ls : List Int}, ls.length = cs.length → (cs.zip ls).map Prod.fst = cs
  | [], _, _ => by simp
  | c :: cs, [], h => by simp at h
  | c :: cs, l :: ls, h => by simp only [List.zip_cons_cons, List.map_cons, zip_fst (cs := cs) (ls := ls) (by simpa using h)]
section
variable {S : Store} (wf : WF S)
include wf
end

abbrev cellH (cs ls : List Int) : List MB.St := MB.stGo none (cs.zip ls)
section
variable {S : Store} (wf : WF S)
include wf
end
structure Cel (cs ls : List Int) : Prop where
  fs : MB.Fs cs
  le : cs.length < 60
  len : ls.length = cs.length
  lv : Lv2 ls
theorem Cel.hd {cs ls : List Int} (h : Cel cs ls) : MB.Hd cs (cellH cs ls) ∧ ∀ x, MB.lev (cellH cs ls) x = MB.stp 0 (cs.zip ls) x := by
  have a : MB.Asc (cs.zip ls) := by unfold MB.Asc; rw [zip_fst h.len]; exact h.fs.asc
  obtain ⟨q1, q2⟩ := MB.st0_ok a (fun e he => h.lv e.2 (List.of_mem_zip he).2) (fun e he => h.fs.pos e.1 (List.of_mem_zip he).1)
  refine ⟨⟨q1, MB.Nf.ends_in q1 h.fs.zero (fun x _ => q2 x) ?_⟩, q2⟩
  have := MB.stp_cst (cs.zip ls) 0
  rwa [zip_fst h.len] at this
structure InC (cs : List Int) (i : Nat) (x : Int) : Prop where
  ex : ∃ pre c post, cs = pre ++ c :: post ∧ pre.length = i ∧ c ≤ x ∧ ∀ d ∈ post, x < d
theorem stp_zip {c x : Int} {post : List Int} (hc : c ≤ x) (hp : ∀ d ∈ post, x < d) : ∀ (pre ls : List Int) (d : Int), (pre ++ c :: post).Pairwise (· < ·) → ls.length = (pre ++ c :: post).length → MB.stp d ((pre ++ c :: post).zip ls) x = ls.getD pre.length 0
  | [], [], d, _, h => by simp at h
  | [], l :: ls, d, ha, h => by
    show (if c ≤ x then MB.stp l (post.zip ls) x else d) = l
    rw [if_pos hc]
    exact MB.stp_low fun e he => hp e.1 (List.of_mem_zip he).1
  | p :: pre, [], d, _, h => by simp at h
  | p :: pre, l :: ls, d, ha, h => by
    obtain ⟨a1, a2⟩ := List.pairwise_cons.mp (show (p :: (pre ++ c :: post)).Pairwise (· < ·) from ha)
    have := a1 c (by simp)
    show (if p ≤ x then MB.stp l ((pre ++ c :: post).zip ls) x else d) = ls.getD pre.length 0
    rw [if_pos (by omega)]
    exact stp_zip hc hp pre ls l a2 (by simpa using h)
theorem cell_val {cs ls : List Int} (h : Cel cs ls) {i : Nat} {x : Int} (k : InC cs i x) : MB.lev (cellH cs ls) x = ls.getD i 0 := by
  rw [h.hd.2]
  obtain ⟨pre, c, post, e, rfl, h1, h2⟩ := k.ex
  have a := h.fs.asc
  have l := h.len
  rw [e] at a l ⊢
  exact stp_zip h1 h2 pre ls 0 a l
theorem cell_ex {cs : List Int} (h : MB.Fs cs) {x : Int} (hx : 0 ≤ x) : ∃ i, InC cs i x := by
  obtain ⟨⟨r, rfl⟩, ha⟩ := h
  suffices ∀ (r : List Int) (b : Int), (b :: r).Pairwise (· < ·) → b ≤ x → ∃ pre c post, b :: r = pre ++ c :: post ∧ c ≤ x ∧ ∀ d ∈ post, x < d by
    obtain ⟨pre, c, post, h1, h2, h3⟩ := this r 0 ha hx
    exact ⟨pre.length, pre, c, post, h1, rfl, h2, h3⟩
  intro r
  induction r with
  | nil => exact fun b _ h => ⟨[], b, [], rfl, h, fun d hd => by cases hd⟩
  | cons d r ih =>
    intro b hp h
    obtain ⟨p1, p2⟩ := List.pairwise_cons.mp hp
    by_cases q : d ≤ x
    · obtain ⟨pre, c, post, h1, h2, h3⟩ := ih d p2 q
      exact ⟨b :: pre, c, post, by rw [h1]; rfl, h2, h3⟩
    · refine ⟨[], b, d :: r, rfl, h, fun e he => ?_⟩
      rcases List.mem_cons.mp he with rfl | he
      · omega
      · have := (List.pairwise_cons.mp p2).1 e he
        omega
structure Rp (cs ls : List Int) (a : List MB.St) : Prop where
  hd : MB.Hd cs a
  lv : ∀ i x, InC cs i x → MB.lev a x = ls.getD i 0
theorem Rp.eq {cs ls : List Int} {a : List MB.St} (h : Cel cs ls) (k : Rp cs ls a) : a = cellH cs ls := k.hd.ext h.hd.1 fun x hx => by
  obtain ⟨i, hi⟩ := cell_ex h.fs hx
  rw [k.lv i x hi, cell_val h hi]
theorem Lv2.getD {ls : List Int} (h : Lv2 ls) (i : Nat) : 0 ≤ ls.getD i 0 ∧ ls.getD i 0 ≤ 2 := by
  rw [List.getD_eq_getElem?_getD]
  cases q : ls[i]? with
  | none => simp
  | some x => exact h x (List.mem_of_getElem? q)
section
variable {F : List Int} (hF : Few F) {a b : List MB.St} (ha : MB.Hd F a) (hb : MB.Hd F b)
include hF ha hb
end

section
variable {S : Store}
end
section
variable {S : Store} (wf : WF S) {a : List MB.St}
include wf
end
section
variable {S : Store} (wf : WF S) {cs ls : List Int} (hc : Cel cs ls)
include wf hc
end
section
variable {cs l1 l2 : List Int} (c1 : Cel cs l1) (c2 : Cel cs l2)
theorem Cel.x0 {cs ls : List Int} (h : Cel cs ls) {i : Nat} {x : Int} (k : InC cs i x) : 0 ≤ x := by
  obtain ⟨pre, c, post, e, _, h1, _⟩ := k.ex
  have := h.fs.pos c (by rw [e]; simp)
  omega
include c1
include c2
end
theorem bag0 (ns : List Int) (hns : ns.length ≤ 63) : ∃ b0 : Bag, b0.Ok ∧ bagM [.fr (.scr (ns.map D.int))] [] = .ok (.new b0.c, []) := by
  have hz := sizeLine_eq
  refine ⟨_, ?_, bag_run ns (by omega)⟩
  refine ⟨Int.le_refl _, (show (0 : Int) ≤ 1234567891 by decide), Int.le_refl _, fun n hn => ?_⟩
  obtain ⟨m, _, rfl⟩ := List.mem_map.mp hn
  unfold absI
  split <;> omega
theorem tells_of (h : ∀ ns : List Int, ns.length ≤ 63 → Ends (m_law [.fr (.scr (ns.map D.int))] []) fun r => r.1 = .val (.fr (.bl true))) : DL.Tells 63 m_law := by
  intro ns hns
  obtain ⟨⟨v, S'⟩, e, q⟩ := h ns hns
  cases q
  exact ⟨S', e⟩
section
variable {rho r : Slots} {S S' : Store}
theorem r_fnK1 {x : SV} (n : Nat) (b : SM) : fnK 1 n b [x] S = (b ([some x] ++ List.replicate (n - 1) none) S).bind leaveK := id rfl
theorem s_lvK (x : SV) : leaveK (.rt x, rho, S) = .ok (x, S) := id rfl
theorem s_gTuC {k n : Nat} {xs : List SV} (m : GMs) (h : S[k]? = some (.tup xs)) (hl : xs.length = n) : gTuC n m (.cell k) rho S = m xs rho S := by
  unfold gTuC
  simp only [h, if_pos hl]
end

section
variable {rho : Slots} {S : Store}
def k_errV (C : Str) (fs : List Str) (x : List SV × Store) : Res (SV × Store) := if x.1.length = fs.length then .ok (.cell x.2.length, x.2 ++ [.exc C (fs.zip x.1).reverse]) else .stuck
theorem r_errV (C : Str) (fs : List Str) (m : AM) : eErrV C fs m rho S = (m rho S).bind (k_errV C fs) := id rfl
theorem s_errV1 (C f : Str) (a : SV) : k_errV C [f] ([a], S) = .ok (.cell S.length, S ++ [.exc C [(f, a)]]) := id rfl
theorem s_errV4 (C f g h i : Str) (a b c d : SV) : k_errV C [f, g, h, i] ([a, b, c, d], S) = .ok (.cell S.length, S ++ [.exc C [(i, d), (h, c), (g, b), (f, a)]]) := id rfl
theorem r_err0 (C : Str) : eErr0 C rho S = .ok (.cell S.length, S ++ [.exc C []]) := id rfl
def k_exc (C : Str) (x : List SV × Store) : Res (SV × Store) := if x.1.length ≤ 1000 then .ok (.cell x.2.length, x.2 ++ [.exc C []]) else .stuck
theorem r_exc (C : Str) (m : AM) : eExc C m rho S = (m rho S).bind (k_exc C) := id rfl
theorem s_exc1 (C : Str) (a : SV) : k_exc C ([a], S) = .ok (.cell S.length, S ++ [.exc C []]) := id rfl
theorem s_exc2 (C : Str) (a b : SV) : k_exc C ([a, b], S) = .ok (.cell S.length, S ++ [.exc C []]) := id rfl
def k_fldV (f : Str) (Cs : List Str) (x : SV × Store) : Res (SV × Store) := fldVG f Cs x.1 x.2
theorem r_fldV (f : Str) (Cs : List Str) (m : EM) : eFldV f Cs m rho S = (m rho S).bind (k_fldV f Cs) := id rfl
theorem s_fldV {f C : Str} {Cs : List Str} {k : Nat} {fs : List (Str × SV)} {y : SV} (h : S[k]? = some (.exc C fs)) (hC : C ∈ Cs) (hf : fs.lookup f = some y) : k_fldV f Cs (.cell k, S) = .ok (y, S) := by
  unfold k_fldV fldVG
  simp only [h, if_pos hC, hf]
theorem s_isW {t : IseT} {k : Nat} {C : Str} {fs : List (Str × SV)} {d : D} {r : Bool} (h : S[k]? = some (.exc C fs)) (hb : ((t.lookup C).bind fun p => clsB p.1 p.2 d) = some r) : isvW t [.cell k, .fr d] S = .ok (.fr (.bl r), S) := by
  unfold isvW
  simp only [h]
  cases q : t.lookup C with
  | none => rw [q] at hb; cases hb
  | some p =>
    obtain ⟨tb, tt⟩ := p
    rw [q, Option.bind_some] at hb
    simp only [hb, okV]
theorem r_dN1 : eDN true rho S = .ok (.cell S.length, S ++ [.dic []]) := id rfl
theorem r_ds17 : eDs (dC (eC (.str "a")) (eC (.int 1)) dN) rho S = .ok (.cell S.length, S ++ [.dic [(.inr "a", .fr (.int 1))]]) := by
  unfold eDs
  have e0 : dC (eC (.str "a")) (eC (.int 1)) dN rho (S ++ [.dic []]) = .ok ([(.inr "a", .fr (.int 1))], S ++ [.dic []]) := rfl
  rw [e0, r_bind]
  simp only [get_snoc, set_snoc]
  rfl
end
def clsN : List Str := ["Wrong", "Unfit", "Held", "TooMany", "NoProcess", "Waiting", "NoDescriptor", "Full", "Ring", "Idle", "Nothing", "NoEntry", "NoText", "NoCommand"]
def cN (i : Nat) : Str := clsN.getD i "LockError"
theorem is_cls : ∀ i : Fin 15, ∀ j : Fin 14, ((iseT.lookup (cN i.1)).bind fun p => clsB p.1 p.2 (.cls (cN j.1))) = some (decide (i.1 = j.1)) := by decide +kernel
theorem is_base : ∀ i : Fin 15, ((iseT.lookup (cN i.1)).bind fun p => clsB p.1 p.2 (.cls "LockError")) = some true ∧ ((iseT.lookup (cN i.1)).bind fun p => clsB p.1 p.2 (.ty "ValueError")) = some true := by decide +kernel
def bls (i : Nat) : List D := [.bl (decide (i = 0)), .bl (decide (i = 1)), .bl (decide (i = 2)), .bl (decide (i = 3)), .bl (decide (i = 4)), .bl (decide (i = 5)), .bl (decide (i = 6)), .bl (decide (i = 7)), .bl (decide (i = 8)), .bl (decide (i = 9)), .bl (decide (i = 10)), .bl (decide (i = 11)), .bl (decide (i = 12)), .bl (decide (i = 13))]
theorem kinds_run {S : Store} (w : WF S) {i k : Nat} {fs : List (Str × SV)} (hi : i < 15) (h : S[k]? = some (.exc (cN i) fs)) : m_law_kinds [.cell k] S = .ok (.new (.lst ((bls i).map SV.fr)), S) := by
  have f (j : Fin 14) := s_isW h (is_cls ⟨i, hi⟩ j)
  have e0 : isvW iseT [.cell k, .fr (.cls "Wrong")] S = .ok (.fr (.bl (decide (i = 0))), S) := f 0
  have e1 : isvW iseT [.cell k, .fr (.cls "Unfit")] S = .ok (.fr (.bl (decide (i = 1))), S) := f 1
  have e2 : isvW iseT [.cell k, .fr (.cls "Held")] S = .ok (.fr (.bl (decide (i = 2))), S) := f 2
  have e3 : isvW iseT [.cell k, .fr (.cls "TooMany")] S = .ok (.fr (.bl (decide (i = 3))), S) := f 3
  have e4 : isvW iseT [.cell k, .fr (.cls "NoProcess")] S = .ok (.fr (.bl (decide (i = 4))), S) := f 4
  have e5 : isvW iseT [.cell k, .fr (.cls "Waiting")] S = .ok (.fr (.bl (decide (i = 5))), S) := f 5
  have e6 : isvW iseT [.cell k, .fr (.cls "NoDescriptor")] S = .ok (.fr (.bl (decide (i = 6))), S) := f 6
  have e7 : isvW iseT [.cell k, .fr (.cls "Full")] S = .ok (.fr (.bl (decide (i = 7))), S) := f 7
  have e8 : isvW iseT [.cell k, .fr (.cls "Ring")] S = .ok (.fr (.bl (decide (i = 8))), S) := f 8
  have e9 : isvW iseT [.cell k, .fr (.cls "Idle")] S = .ok (.fr (.bl (decide (i = 9))), S) := f 9
  have e10 : isvW iseT [.cell k, .fr (.cls "Nothing")] S = .ok (.fr (.bl (decide (i = 10))), S) := f 10
  have e11 : isvW iseT [.cell k, .fr (.cls "NoEntry")] S = .ok (.fr (.bl (decide (i = 11))), S) := f 11
  have e12 : isvW iseT [.cell k, .fr (.cls "NoText")] S = .ok (.fr (.bl (decide (i = 12))), S) := f 12
  have e13 : isvW iseT [.cell k, .fr (.cls "NoCommand")] S = .ok (.fr (.bl (decide (i = 13))), S) := f 13
  have lv := leave_new (c := .lst ((bls i).map SV.fr)) w (by simp only [Cell.below]; exact below_map _ _)
  unfold bls at lv ⊢
  have a (c : Bool) (xs ys : List D) (hz : xs.length + ys.length ≤ 16777216) := add_ff (S := S) c hz
  have a1 := a false [.bl (decide (i = 0)), .bl (decide (i = 1)), .bl (decide (i = 2)), .bl (decide (i = 3))] [.bl (decide (i = 4)), .bl (decide (i = 5)), .bl (decide (i = 6)), .bl (decide (i = 7))] (by simp)
  have a2 := a false [.bl (decide (i = 0)), .bl (decide (i = 1)), .bl (decide (i = 2)), .bl (decide (i = 3)), .bl (decide (i = 4)), .bl (decide (i = 5)), .bl (decide (i = 6)), .bl (decide (i = 7))] [.bl (decide (i = 8)), .bl (decide (i = 9)), .bl (decide (i = 10)), .bl (decide (i = 11))] (by simp)
  have a3 := a true [.bl (decide (i = 0)), .bl (decide (i = 1)), .bl (decide (i = 2)), .bl (decide (i = 3)), .bl (decide (i = 4)), .bl (decide (i = 5)), .bl (decide (i = 6)), .bl (decide (i = 7)), .bl (decide (i = 8)), .bl (decide (i = 9)), .bl (decide (i = 10)), .bl (decide (i = 11))] [.bl (decide (i = 12)), .bl (decide (i = 13))] (by simp)
  simp only [List.cons_append, List.nil_append, Bool.false_eq_true, if_false, if_true] at a1 a2 a3
  simp only [RR, DL.isNon, List.replicate_succ, List.replicate_zero, List.set_cons_zero, List.set_cons_succ, List.getElem?_cons_zero, List.getElem?_cons_succ, Option.map_some, Nat.reduceSub, and_self, and_true, true_and, decide_true, decide_false, if_true, if_false, Bool.false_eq_true, Bool.not_true, Bool.not_false, Nat.reduceAdd, Nat.reduceMul, Nat.reduceLeDiff, m_law_kinds, b_law_kinds, e0, e1, e2, e3, e4, e5, e6, e7, e8, e9, e10, e11, e12, e13, a1, a2, a3]
  exact lv
theorem eq_bls : ∀ i : Fin 14, eqD (.lst (bls i.1)) (.lst (bls i.1)) = some true := by decide +kernel
theorem noin_bls : plain (.lst (bls 14)) = true ∧ ((bls 14).any fun z => deq z (.bl true)) = false := by decide +kernel

theorem get_app {R T : Store} {k : Nat} {c : Cell} (h : R[k]? = some c) : (R ++ T)[k]? = some c := by rw [List.getElem?_append_left (List.getElem?_eq_some_iff.mp h).1]; exact h
theorem get70 (c : Cell) (R T : Store) (i : Nat) : (c :: (R ++ T))[R.length + (1 + i)]? = T[i]? := by
  rw [show R.length + (1 + i) = R.length + i + 1 by omega, List.getElem?_cons_succ, List.getElem?_append_right (by omega)]
  congr 1
  omega
theorem wf_app70 {S T : Store} (h : WF S) (hT : ∀ c ∈ T, c.below (S.length + T.length) = true) : WF (S ++ T) := by
  unfold WF at h ⊢
  simp only [List.all_append, List.length_append, Bool.and_eq_true, List.all_eq_true] at h ⊢
  exact ⟨fun c hc => Cell.below_mono (Nat.le_add_right _ _) (h c hc), hT⟩
def cf (a m : Nat) : List SV := (List.range m).map fun i => SV.cell (a + i)
def blk (n : Nat) (ps : List (List D)) : Store := .lst (cf (n + 1) ps.length) :: ps.map fun p => .lst (p.map SV.fr)
theorem get71 (c : Cell) (R T : Store) (i : Nat) : (c :: (R ++ T))[R.length + 1 + i]? = T[i]? := by
  rw [Nat.add_assoc]
  exact get70 c R T i
def itT (n : Nat) : List SV := [.fr .non, .fr (.bl true), .fr (.int 0), .fr (.int (-5)), .fr (.int (10 ^ 39)), .fr (.str "a"), .fr (.tup []), .fr (.tup [.int 1, .str "b"]), .cell n, .cell (n + 2), .cell (n + 3), .cell (n + 4)]
def thC (n : Nat) : List Cell := [.lst [], .lst [.fr (.int 2)], .lst [.fr (.int 1), .cell (n + 1)], .dic [], .dic [(.inr "a", .fr (.int 1))], .lst (itT n)]
theorem thC_len (n : Nat) : (thC n).length = 6 := rfl
theorem wf_th {S : Store} (w : WF S) : WF (S ++ thC S.length) := by
  refine wf_app70 w fun c hc => ?_
  rw [thC_len]
  have h : (thC S.length).all (Cell.below (S.length + 6)) = true := by
    simp only [thC, itT, List.all_cons, List.all_nil, Cell.below, SV.below, Bool.and_eq_true, decide_eq_true_eq, and_true, true_and]
    omega
  exact List.all_eq_true.mp h c hc
theorem it_below {n i : Nat} {x : SV} (h : (itT n)[i]? = some x) : x.below (n + 6) = true := by
  have a : (itT n).all (SV.below (n + 6)) = true := by
    simp only [itT, List.all_cons, List.all_nil, SV.below, Bool.and_eq_true, decide_eq_true_eq, and_true, true_and]
    omega
  exact List.all_eq_true.mp a x (List.mem_of_getElem? h)
theorem thing_run (b : Bag) (hb : b.Ok) (R : Store) (w : WF (b.c :: R)) : ∃ (b' : Bag) (i : Nat) (x : SV), Bag.Ok b' ∧ WF (b'.c :: (R ++ thC (R.length + 1))) ∧ i < 12 ∧ (itT (R.length + 1))[i]? = some x ∧
    m_law_thing [.cell 0] (b.c :: R) = .ok (x, b'.c :: (R ++ thC (R.length + 1))) := by
  have w1 : WF (b.c :: (R ++ thC (R.length + 1))) := wf_th w
  obtain ⟨v, b1, l1, u1, k1, w2, e1⟩ := take_run b hb 12 (by decide) (by decide) _ w1
  obtain ⟨i, rfl⟩ : ∃ i : Nat, v = i := ⟨v.toNat, by omega⟩
  have hi : i < 12 := by omega
  obtain ⟨x, hx⟩ : ∃ x, (itT (R.length + 1))[i]? = some x := ⟨_, List.getElem?_eq_getElem (show i < (itT (R.length + 1)).length from hi)⟩
  refine ⟨b1, i, x, k1, w2, hi, hx, ?_⟩
  have p : CPow 10 39 := by decide
  have pp : powG (.fr (.int 10)) (.fr (.int 39)) (b.c :: R) = .ok (.fr (.int (10 ^ 39)), b.c :: R) := by
    rw [r_pow, if_pos p]
    rfl
  have g0 : (b1.c :: (R ++ thC (R.length + 1)))[R.length + 1 + 5]? = some (.lst (itT (R.length + 1))) := get71 _ _ _ _
  have gx : ixG (.cell (R.length + 1 + 5)) (.fr (.int (i : Int))) (b1.c :: (R ++ thC (R.length + 1))) = .ok (x, b1.c :: (R ++ thC (R.length + 1))) := by
    rw [r_xC g0, DL.atI_nat, hx]
    rfl
  simp only [thC, itT, Nat.add_assoc, Nat.reduceAdd] at e1 gx
  simp only [thC, itT]
  simp only [RR, DL.isNon, List.replicate_succ, List.replicate_zero, List.set_cons_zero, List.set_cons_succ, List.getElem?_cons_zero, List.getElem?_cons_succ, Option.map_some, Nat.reduceSub, and_self, and_true, true_and, decide_true, decide_false, if_true, if_false, Bool.false_eq_true, Bool.not_true, Bool.not_false, Nat.reduceAdd, Nat.reduceMul, Nat.reduceLeDiff, m_law_thing, b_law_thing, r_fnK1, pp, r_dN1, r_ds17, List.append_assoc, List.cons_append, List.nil_append, List.length_append, List.length_cons, List.length_nil, take_is, Nat.add_assoc, e1, gx, s_lvK]

theorem get_at {S U : Store} (i : Nat) : (S ++ U)[S.length + i]? = U[i]? := by
  rw [List.getElem?_append_right (by omega)]
  congr 1
  omega
theorem add_cc {S : Store} {j k : Nat} {xs ys : List SV} (h1 : S[j]? = some (.lst xs)) (h2 : S[k]? = some (.lst ys)) (hl : xs.length + ys.length ≤ 1000) : addG true (.cell j) (.cell k) S = .ok (.cell S.length, S ++ [.lst (xs ++ ys)]) := by
  have hs := sizeLine_eq
  have e1 : rdL S (.cell j) = some xs := by unfold rdL; simp only [h1]
  have e2 : rdL S (.cell k) = some ys := by unfold rdL; simp only [h2]
  unfold addG
  simp only [e1, e2]
  unfold newL
  rw [if_pos (by rw [List.length_append]; omega)]
  rfl
def eK (m : Nat) (a b c d : SV) : List Cell := [.exc "Wrong" [("place", a)], .exc "Unfit" [], .exc "Held" [("last", d), ("first", c), ("level", b), ("owner", a)], .exc "TooMany" [("limit", a)], .exc "NoProcess" [("process", a)],
  .lst [.cell m, .cell (m + 1), .cell (m + 2), .cell (m + 3), .cell (m + 4)],
  .exc "Waiting" [("process", a)], .exc "NoDescriptor" [("descriptor", a)], .exc "Full" [("limit", a)], .exc "Ring" [("members", a)], .exc "Idle" [("process", a)], .exc "Nothing" [], .exc "NoEntry" [("at", a)],
  .lst [.cell (m + 6), .cell (m + 7), .cell (m + 8), .cell (m + 9), .cell (m + 10), .cell (m + 11), .cell (m + 12)],
  .lst [.cell m, .cell (m + 1), .cell (m + 2), .cell (m + 3), .cell (m + 4), .cell (m + 6), .cell (m + 7), .cell (m + 8), .cell (m + 9), .cell (m + 10), .cell (m + 11), .cell (m + 12)],
  .exc "NoText" [], .exc "NoCommand" [],
  .lst [.cell (m + 15), .cell (m + 16)],
  .lst [.cell m, .cell (m + 1), .cell (m + 2), .cell (m + 3), .cell (m + 4), .cell (m + 6), .cell (m + 7), .cell (m + 8), .cell (m + 9), .cell (m + 10), .cell (m + 11), .cell (m + 12), .cell (m + 15), .cell (m + 16)],
  .lst [a, b, c, d],
  .tup [.cell (m + 18), .cell (m + 19)]]
theorem wf_eK {S : Store} (w : WF S) {a b c d : SV} (ha : a.below S.length = true) (hb : b.below S.length = true) (hc : c.below S.length = true) (hd : d.below S.length = true) : WF (S ++ eK S.length a b c d) := by
  refine wf_app70 w fun x hx => ?_
  have k : (eK S.length a b c d).length = 21 := rfl
  rw [k]
  have ha := SV.below_mono (Nat.le_add_right _ 21) ha
  have hb := SV.below_mono (Nat.le_add_right _ 21) hb
  have hc := SV.below_mono (Nat.le_add_right _ 21) hc
  have hd := SV.below_mono (Nat.le_add_right _ 21) hd
  have h : (eK S.length a b c d).all (Cell.below (S.length + 21)) = true := by
    simp only [eK, List.all_cons, List.all_nil, Cell.below, ha, hb, hc, hd, Bool.and_self, Bool.and_true, Bool.true_and]
    simp only [SV.below, Bool.and_eq_true, decide_eq_true_eq]
    omega
  exact List.all_eq_true.mp h x hx
theorem errs_run (x0 : Option SV) (a b c d : SV) (x5 : Option SV) (S : Store) :
    (sSeq (sSet 5 (eA (newL true) (aC (eErrV "Wrong" ["place"] (aC (eV 1) aN)) (aC (eErr0 "Unfit") (aC (eErrV "Held" ["owner", "level", "first", "last"] (aC (eV 1) (aC (eV 2) (aC (eV 3) (aC (eV 4) aN))))) (aC (eErrV "TooMany" ["limit"] (aC (eV 1) aN)) (aC (eErrV "NoProcess" ["process"] (aC (eV 1) aN)) aN)))))))
    (sSeq (sSet 5 (DL.e2 (addG true) (eV 5) (eA (newL true) (aC (eErrV "Waiting" ["process"] (aC (eV 1) aN)) (aC (eErrV "NoDescriptor" ["descriptor"] (aC (eV 1) aN)) (aC (eErrV "Full" ["limit"] (aC (eV 1) aN)) (aC (eErrV "Ring" ["members"] (aC (eV 1) aN)) (aC (eErrV "Idle" ["process"] (aC (eV 1) aN)) (aC (eErr0 "Nothing") (aC (eErrV "NoEntry" ["at"] (aC (eV 1) aN)) aN))))))))))
    (sSeq (sSet 5 (DL.e2 (addG true) (eV 5) (eA (newL true) (aC (eErr0 "NoText") (aC (eErr0 "NoCommand") aN)))))
    (sRet (eA newTC (aC (eV 5) (aC (eA (newL true) (aC (eV 1) (aC (eV 2) (aC (eV 3) (aC (eV 4) aN))))) aN)))))))
    [x0, some a, some b, some c, some d, x5] S = .ok (.rt (.cell (S.length + 20)), [x0, some a, some b, some c, some d, some (.cell (S.length + 18))], S ++ eK S.length a b c d) := by
  have A1 : addG true (.cell (S.length + 5)) (.cell (S.length + 13)) (S ++ (eK S.length a b c d).take 14) = .ok (.cell (S.length + 14), S ++ (eK S.length a b c d).take 15) := by
    rw [add_cc ((get_at 5).trans rfl) ((get_at 13).trans rfl) (by simp), List.length_append]
    simp [eK]
  have A2 : addG true (.cell (S.length + 14)) (.cell (S.length + 17)) (S ++ (eK S.length a b c d).take 18) = .ok (.cell (S.length + 18), S ++ (eK S.length a b c d).take 19) := by
    rw [add_cc ((get_at 14).trans rfl) ((get_at 17).trans rfl) (by simp), List.length_append]
    simp [eK]
  simp only [eK, List.take_succ_cons, List.take_zero] at A1 A2
  simp only [eK]
  simp only [RR, DL.isNon, List.replicate_succ, List.replicate_zero, List.set_cons_zero, List.set_cons_succ, List.getElem?_cons_zero, List.getElem?_cons_succ, Option.map_some, Nat.reduceSub, and_self, and_true, true_and, decide_true, decide_false, if_true, if_false, Bool.false_eq_true, Bool.not_true, Bool.not_false, Nat.reduceAdd, Nat.reduceMul, Nat.reduceLeDiff, r_errV, s_errV1, s_errV4, r_err0, List.append_assoc, List.cons_append, List.nil_append, List.length_append, List.length_cons, List.length_nil, A1, A2]
def tsC (n : Nat) : List Cell := thC n ++ (thC (n + 6) ++ (thC (n + 12) ++ thC (n + 18)))
theorem made_run (b : Bag) (hb : b.Ok) (R : Store) (w : WF (b.c :: R)) : ∃ (b' : Bag) (i1 i2 i3 i4 : Nat) (x1 x2 x3 x4 : SV), Bag.Ok b' ∧ WF (b'.c :: (R ++ (tsC (R.length + 1) ++ eK (R.length + 25) x1 x2 x3 x4))) ∧ (i1 < 12 ∧ i2 < 12 ∧ i3 < 12 ∧ i4 < 12) ∧
    ((itT (R.length + 1))[i1]? = some x1 ∧ (itT (R.length + 7))[i2]? = some x2 ∧ (itT (R.length + 13))[i3]? = some x3 ∧ (itT (R.length + 19))[i4]? = some x4) ∧
    m_law_made [.cell 0] (b.c :: R) = .ok (.cell (R.length + 45), b'.c :: (R ++ (tsC (R.length + 1) ++ eK (R.length + 25) x1 x2 x3 x4))) := by
  obtain ⟨b1, i1, x1, k1, w1, h1, g1, e1⟩ := thing_run b hb R w
  obtain ⟨b2, i2, x2, k2, w2, h2, g2, e2⟩ := thing_run b1 k1 _ w1
  obtain ⟨b3, i3, x3, k3, w3, h3, g3, e3⟩ := thing_run b2 k2 _ w2
  obtain ⟨b4, i4, x4, k4, w4, h4, g4, e4⟩ := thing_run b3 k3 _ w3
  simp only [List.length_append, thC_len, List.append_assoc, Nat.add_assoc, Nat.reduceAdd] at g2 g3 g4 e1 e2 e3 e4 w2 w3 w4
  have q := errs_run (some (.cell 0)) x1 x2 x3 x4 none (b4.c :: (R ++ (thC (R.length + 1) ++ (thC (R.length + 7) ++ (thC (R.length + 13) ++ thC (R.length + 19))))))
  have len : (b4.c :: (R ++ (thC (R.length + 1) ++ (thC (R.length + 7) ++ (thC (R.length + 13) ++ thC (R.length + 19)))))).length = R.length + 25 := by
    simp only [List.length_cons, List.length_append, thC_len]
  have w5 := wf_eK w4 (a := x1) (b := x2) (c := x3) (d := x4) (SV.below_mono (by rw [len]; omega) (it_below g1)) (SV.below_mono (by rw [len]; omega) (it_below g2)) (SV.below_mono (by rw [len]; omega) (it_below g3)) (SV.below_mono (by rw [len]; omega) (it_below g4))
  rw [len] at q w5
  simp only [List.cons_append, List.append_assoc, Nat.add_assoc, Nat.reduceAdd] at q w5
  refine ⟨b4, i1, i2, i3, i4, x1, x2, x3, x4, k4, ?_, ⟨h1, h2, h3, h4⟩, ⟨g1, g2, g3, g4⟩, ?_⟩
  · simp only [tsC, List.append_assoc, Nat.add_assoc, Nat.reduceAdd]
    exact w5
  · simp only [tsC, List.append_assoc, Nat.add_assoc, Nat.reduceAdd]
    have A : ∀ X : SM, (sSeq (sPar 1 2 (aC (eCallK m_law_thing (aC (eV 0) aN)) (aC (eCallK m_law_thing (aC (eV 0) aN)) aN))) (sSeq (sPar 3 4 (aC (eCallK m_law_thing (aC (eV 0) aN)) (aC (eCallK m_law_thing (aC (eV 0) aN)) aN))) X)) [some (.cell 0), none, none, none, none, none] (b.c :: R) =
        X [some (.cell 0), some x1, some x2, some x3, some x4, none] (b4.c :: (R ++ (thC (R.length + 1) ++ (thC (R.length + 7) ++ (thC (R.length + 13) ++ thC (R.length + 19)))))) := fun X => by
      simp only [RR, DL.isNon, List.replicate_succ, List.replicate_zero, List.set_cons_zero, List.set_cons_succ, List.getElem?_cons_zero, List.getElem?_cons_succ, Option.map_some, Nat.reduceSub, and_self, and_true, true_and, decide_true, decide_false, if_true, if_false, Bool.false_eq_true, Bool.not_true, Bool.not_false, Nat.reduceAdd, Nat.reduceMul, Nat.reduceLeDiff, s_cK e1, s_cK e2, s_cK e3, s_cK e4]
    unfold m_law_made
    rw [r_fnK1]
    unfold b_law_made
    have rr : ([some (.cell 0)] ++ List.replicate (6 - 1) none : Slots) = [some (.cell 0), none, none, none, none, none] := rfl
    rw [rr, A, q, r_bind, s_lvK]

structure AtL (S : Store) (n : Nat) (U : List Cell) : Prop where
  at_ : ∀ (k : Nat) (c : Cell), U[k]? = some c → S[n + k]? = some c
theorem AtL.app {S T : Store} {n : Nat} {U : List Cell} (h : AtL S n U) : AtL (S ++ T) n U := ⟨fun k c e => get_app (h.at_ k c e)⟩
section
variable {S : Store} {m : Nat} {a b c d : SV}
def u3 (a b c d : SV) : List Cell := [.lst [a, a, b, c, d, a, a], .lst [a, a, a, a, a], .lst [a, a, b, c, d, a, a, a, a, a, a, a]]
theorem err_ix (h : AtL S m (eK m a b c d)) (j : Nat) {y : SV} (hy : ([.cell m, .cell (m + 1), .cell (m + 2), .cell (m + 3), .cell (m + 4), .cell (m + 6), .cell (m + 7), .cell (m + 8), .cell (m + 9), .cell (m + 10), .cell (m + 11), .cell (m + 12), .cell (m + 15), .cell (m + 16)] : List SV)[j]? = some y) : ixG (.cell (m + 18)) (.fr (.int (j : Int))) S = .ok (y, S) := by
  rw [r_xC (h.at_ 18 _ rfl), DL.atI_nat, hy]
  rfl
theorem told_run (h : AtL S m (eK m a b c d)) (x0 x1 x2 x4 x5 x6 x7 x9 x10 x11 x12 x13 : Option SV) (X : SM) :
    (sSeq (sSet 9 (eA (newL true) (aC (eFldV "place" ["Wrong"] (DL.e2 ixG (eV 3) (eC (.int 0)))) (aC (eFldV "owner" ["Held"] (eV 8)) (aC (eFldV "level" ["Held"] (eV 8)) (aC (eFldV "first" ["Held"] (eV 8)) (aC (eFldV "last" ["Held"] (eV 8)) (aC (eFldV "limit" ["Full", "TooMany"] (DL.e2 ixG (eV 3) (eC (.int 3)))) (aC (eFldV "process" ["Idle", "NoProcess", "Waiting"] (DL.e2 ixG (eV 3) (eC (.int 4)))) aN)))))))))
    (sSeq (sSet 9 (DL.e2 (addG true) (eV 9) (eA (newL true) (aC (eFldV "process" ["Idle", "NoProcess", "Waiting"] (DL.e2 ixG (eV 3) (eC (.int 5)))) (aC (eFldV "descriptor" ["NoDescriptor"] (DL.e2 ixG (eV 3) (eC (.int 6)))) (aC (eFldV "limit" ["Full", "TooMany"] (DL.e2 ixG (eV 3) (eC (.int 7)))) (aC (eFldV "members" ["Ring"] (DL.e2 ixG (eV 3) (eC (.int 8)))) (aC (eFldV "process" ["Idle", "NoProcess", "Waiting"] (DL.e2 ixG (eV 3) (eC (.int 9)))) aN)))))))) X))
    [x0, x1, x2, some (.cell (m + 18)), x4, x5, x6, x7, some (.cell (m + 2)), x9, x10, x11, x12, x13] S =
      X [x0, x1, x2, some (.cell (m + 18)), x4, x5, x6, x7, some (.cell (m + 2)), some (.cell (S.length + 2)), x10, x11, x12, x13] (S ++ u3 a b c d) := by
  have h1 : AtL (S ++ [.lst [a, a, b, c, d, a, a]]) m (eK m a b c d) := h.app
  have i0 : ixG (.cell (m + 18)) (.fr (.int 0)) S = .ok (.cell m, S) := err_ix h 0 rfl
  have i3 : ixG (.cell (m + 18)) (.fr (.int 3)) S = .ok (.cell (m + 3), S) := err_ix h 3 rfl
  have i4 : ixG (.cell (m + 18)) (.fr (.int 4)) S = .ok (.cell (m + 4), S) := err_ix h 4 rfl
  have i5 : ixG (.cell (m + 18)) (.fr (.int 5)) (S ++ [.lst [a, a, b, c, d, a, a]]) = .ok (.cell (m + 6), (S ++ [.lst [a, a, b, c, d, a, a]])) := err_ix h1 5 rfl
  have i6 : ixG (.cell (m + 18)) (.fr (.int 6)) (S ++ [.lst [a, a, b, c, d, a, a]]) = .ok (.cell (m + 7), (S ++ [.lst [a, a, b, c, d, a, a]])) := err_ix h1 6 rfl
  have i7 : ixG (.cell (m + 18)) (.fr (.int 7)) (S ++ [.lst [a, a, b, c, d, a, a]]) = .ok (.cell (m + 8), (S ++ [.lst [a, a, b, c, d, a, a]])) := err_ix h1 7 rfl
  have i8 : ixG (.cell (m + 18)) (.fr (.int 8)) (S ++ [.lst [a, a, b, c, d, a, a]]) = .ok (.cell (m + 9), (S ++ [.lst [a, a, b, c, d, a, a]])) := err_ix h1 8 rfl
  have i9 : ixG (.cell (m + 18)) (.fr (.int 9)) (S ++ [.lst [a, a, b, c, d, a, a]]) = .ok (.cell (m + 10), (S ++ [.lst [a, a, b, c, d, a, a]])) := err_ix h1 9 rfl
  have f0 := s_fldV (f := "place") (Cs := ["Wrong"]) (y := a) (show S[m]? = _ from h.at_ 0 _ rfl) (by decide) rfl
  have f1 := s_fldV (f := "owner") (Cs := ["Held"]) (y := a) (h.at_ 2 _ rfl) (by decide) rfl
  have f2 := s_fldV (f := "level") (Cs := ["Held"]) (y := b) (h.at_ 2 _ rfl) (by decide) rfl
  have f3 := s_fldV (f := "first") (Cs := ["Held"]) (y := c) (h.at_ 2 _ rfl) (by decide) rfl
  have f4 := s_fldV (f := "last") (Cs := ["Held"]) (y := d) (h.at_ 2 _ rfl) (by decide) rfl
  have f5 := s_fldV (f := "limit") (Cs := ["Full", "TooMany"]) (y := a) (h.at_ 3 _ rfl) (by decide) rfl
  have f6 := s_fldV (f := "process") (Cs := ["Idle", "NoProcess", "Waiting"]) (y := a) (h.at_ 4 _ rfl) (by decide) rfl
  have f7 := s_fldV (f := "process") (Cs := ["Idle", "NoProcess", "Waiting"]) (y := a) (h1.at_ 6 _ rfl) (by decide) rfl
  have f8 := s_fldV (f := "descriptor") (Cs := ["NoDescriptor"]) (y := a) (h1.at_ 7 _ rfl) (by decide) rfl
  have f9 := s_fldV (f := "limit") (Cs := ["Full", "TooMany"]) (y := a) (h1.at_ 8 _ rfl) (by decide) rfl
  have f10 := s_fldV (f := "members") (Cs := ["Ring"]) (y := a) (h1.at_ 9 _ rfl) (by decide) rfl
  have f11 := s_fldV (f := "process") (Cs := ["Idle", "NoProcess", "Waiting"]) (y := a) (h1.at_ 10 _ rfl) (by decide) rfl
  have A1 : addG true (.cell S.length) (.cell (S.length + 1)) (S ++ (u3 a b c d).take 2) = .ok (.cell (S.length + 2), S ++ u3 a b c d) := by
    have z : (S ++ (u3 a b c d).take 2)[S.length]? = some (.lst [a, a, b, c, d, a, a]) := get_at 0
    rw [add_cc z ((get_at 1).trans rfl) (by simp), List.length_append]
    simp [u3]
  simp only [u3, List.take_succ_cons, List.take_zero] at A1
  simp only [u3]
  simp only [RR, DL.isNon, List.replicate_succ, List.replicate_zero, List.set_cons_zero, List.set_cons_succ, List.getElem?_cons_zero, List.getElem?_cons_succ, Option.map_some, Nat.reduceSub, and_self, and_true, true_and, decide_true, decide_false, if_true, if_false, Bool.false_eq_true, Bool.not_true, Bool.not_false, Nat.reduceAdd, Nat.reduceMul, Nat.reduceLeDiff, r_fldV, i0, i3, i4, i5, i6, i7, i8, i9, f0, f1, f2, f3, f4, f5, f6, f7, f8, f9, f10, f11, List.append_assoc, List.cons_append, List.nil_append, List.length_append, List.length_cons, List.length_nil, A1]
end

structure YOk (B n : Nat) (d : D) : Prop where
  x : isX d = true
  sh : (pyX d).showable = true
  lv : (pyX d).leavesShort 130 = true
  bk : (pyX d).bulk ≤ B
  dp : (pyX d).depth ≤ n
theorem YOk.mono {B C n m : Nat} {d : D} (h : YOk B n d) (h1 : B ≤ C) (h2 : n ≤ m) : YOk C m d := ⟨h.x, h.sh, h.lv, Nat.le_trans h.bk h1, Nat.le_trans h.dp h2⟩
theorem y_seq {B n : Nat} : ∀ {ds : List D}, (∀ d ∈ ds, YOk B n d) → isXs ds = true ∧ PyData.showableAll (pyXs ds) = true ∧ PyData.leavesShortAll 130 (pyXs ds) = true ∧ PyData.bulkAll (pyXs ds) ≤ (B + 1) * ds.length ∧ PyData.depthAll (pyXs ds) ≤ n
  | [], _ => by simp [isXs, pyXs, PyData.showableAll, PyData.leavesShortAll, PyData.bulkAll, PyData.depthAll]
  | d :: ds, h => by
    obtain ⟨a, b, c, e, f⟩ := y_seq (ds := ds) fun x hx => h x (List.mem_cons_of_mem _ hx)
    have o := h d List.mem_cons_self
    have h1 := o.bk
    have h2 := o.dp
    simp only [isXs, pyXs, PyData.showableAll, PyData.leavesShortAll, PyData.bulkAll, PyData.depthAll, o.x, o.sh, o.lv, a, b, c, Bool.and_self, List.length_cons, true_and]
    refine ⟨?_, by omega⟩
    rw [Nat.mul_succ]
    omega
theorem y_lst {B n m : Nat} {ds : List D} (h : ∀ d ∈ ds, YOk B n d) (hl : ds.length ≤ m) : YOk ((B + 1) * m) (n + 1) (.lst ds) := by
  obtain ⟨a, b, c, e, f⟩ := y_seq h
  refine ⟨by simpa only [isX] using a, by simpa only [pyX, PyData.showable] using b, by simpa only [pyX, PyData.leavesShort] using c, ?_, ?_⟩
  · simp only [pyX, PyData.bulk]
    exact Nat.le_trans e (Nat.mul_le_mul_left _ hl)
  · simp only [pyX, PyData.depth]
    omega
theorem YOk.ro {B n : Nat} {d : D} (h : YOk B n d) (hB : B ≤ 100000) (hn : n ≤ 64) : rOkX d = true := by
  have h1 := h.bk
  have h2 := h.dp
  unfold rOkX
  simp only [h.x, h.sh, h.lv, Bool.true_and, Bool.and_eq_true, decide_eq_true_eq]
  omega

theorem allSn_of {P : D → Prop} : ∀ {fs : List (SV → Option D)} {xs : List SV}, (∀ x ∈ xs, ∃ d, (∀ f ∈ fs, f x = some d) ∧ P d) → ∃ ds, (∀ f ∈ fs, allSn f xs = some ds) ∧ (∀ d ∈ ds, P d) ∧ ds.length = xs.length
  | fs, [], _ => ⟨[], fun _ _ => rfl, nofun, rfl⟩
  | fs, x :: xs, h => by
    obtain ⟨d, hd, pd⟩ := h x List.mem_cons_self
    obtain ⟨ds, e, p, l⟩ := allSn_of (fs := fs) (xs := xs) fun y hy => h y (List.mem_cons_of_mem _ hy)
    refine ⟨d :: ds, fun f hf => ?_, fun y hy => ?_, by rw [List.length_cons, List.length_cons, l]⟩
    · rw [allSn, hd f hf, e f hf]
    · rcases List.mem_cons.mp hy with rfl | hy
      · exact pd
      · exact p y hy
structure Sn (S : Store) (x : SV) (d : D) : Prop where
  sn : ∀ T : Store, snapN (S ++ T) 1 x = some d
  ok : YOk 60 3 d
theorem Sn.app {S T : Store} {x : SV} {d : D} (h : Sn S x d) : Sn (S ++ T) x d := ⟨fun U => by rw [List.append_assoc]; exact h.sn _, h.ok⟩
theorem rep_txt {S U V : Store} {j k : Nat} {xs : List SV} (hx : ∀ x ∈ xs, ∃ d, Sn S x d) (hl : xs.length ≤ 20) (h1 : (S ++ U)[j]? = some (.lst xs)) (h2 : (S ++ V)[k]? = some (.lst xs)) :
    ∃ t : Str, reprNG [.cell j] (S ++ U) = .ok (.fr (.str t), S ++ U) ∧ reprNG [.cell k] (S ++ V) = .ok (.fr (.str t), S ++ V) := by
  obtain ⟨ds, e, p, l⟩ := allSn_of (fs := [snapN (S ++ U) 1, snapN (S ++ V) 1]) (xs := xs) (P := YOk 60 3) fun x hx' => by
    obtain ⟨d, h⟩ := hx x hx'
    refine ⟨d, fun f hf => ?_, h.ok⟩
    rcases List.mem_cons.mp hf with rfl | hf
    · exact h.sn _
    · rcases List.mem_singleton.mp hf with rfl
      exact h.sn _
  have y := y_lst p (m := 20) (by omega)
  have ok : rOkX (.lst ds) = true := by
    unfold rOkX
    simp only [y.x, y.sh, y.lv, Bool.true_and, Bool.and_eq_true, decide_eq_true_eq]
    have := y.bk
    have := y.dp
    omega
  have s1 : snapN (S ++ U) 2 (.cell j) = some (.lst ds) := by
    unfold snapN
    simp only [h1, e _ List.mem_cons_self, Option.map_some]
  have s2 : snapN (S ++ V) 2 (.cell k) = some (.lst ds) := by
    unfold snapN
    simp only [h2, e _ (List.mem_cons_of_mem _ List.mem_cons_self), Option.map_some]
  refine ⟨rTxtX (.lst ds), ?_, ?_⟩
  · unfold reprNG
    simp only [s1, ok, if_true, okV]
  · unfold reprNG
    simp only [s2, ok, if_true, okV]
section
variable {S : Store} {m : Nat} {a b c d : SV}
def u7 (a b c d : SV) : List Cell := [.lst [a], .lst [a, a, b, c, d, a, a, a, a, a, a, a, a], .lst [a], .lst [a, a, b, c, d], .lst [a], .lst [a, a, a, a, a, a, a, a], .lst [a, a, b, c, d, a, a, a, a, a, a, a, a]]
theorem mul_cc {S : Store} {k : Nat} {x : SV} (h : S[k]? = some (.lst [x])) : mulG true (.cell k) (.fr (.int 8)) S = .ok (.cell S.length, S ++ [.lst [x, x, x, x, x, x, x, x]]) := by
  have hs := sizeLine_eq
  have e1 : rdL S (.cell k) = some [x] := by unfold rdL; simp only [h]
  unfold mulG
  simp only [e1]
  rw [if_pos ⟨by decide, by decide, by rw [hs]; show 1 * 8 ≤ 16777216; decide⟩]
  unfold newL
  rw [if_pos (by rw [hs]; exact (by decide : (8 : Nat) ≤ 16777216))]
  rfl
theorem cmp_run (h : AtL S m (eK m a b c d)) {t : Nat} (h9 : S[t]? = some (.lst [a, a, b, c, d, a, a, a, a, a, a, a])) (ha : ∃ e, Sn S a e) (hb : ∃ e, Sn S b e) (hc : ∃ e, Sn S c e) (hd : ∃ e, Sn S d e) (x0 x1 x2 x5 x6 x8 x10 x11 x12 x13 : Option SV) :
    i_law_2 [x0, x1, x2, some (.cell (m + 18)), some (.cell (m + 19)), x5, x6, some a, x8, some (.cell t), x10, x11, x12, x13] S =
      .ok (.nx, [x0, x1, x2, some (.cell (m + 18)), some (.cell (m + 19)), x5, x6, some a, x8, some (.cell t), x10, x11, x12, x13], S ++ u7 a b c d) := by
  have i11 : ixG (.cell (m + 18)) (.fr (.int 11)) S = .ok (.cell (m + 12), S) := err_ix h 11 rfl
  have f0 := s_fldV (f := "at") (Cs := ["NoEntry"]) (y := a) (h.at_ 12 _ rfl) (by decide) rfl
  have A1 : addG true (.cell t) (.cell S.length) (S ++ (u7 a b c d).take 1) = .ok (.cell (S.length + 1), S ++ (u7 a b c d).take 2) := by
    have z : (S ++ (u7 a b c d).take 1)[S.length]? = some (.lst [a]) := get_at 0
    rw [add_cc (get_app h9) z (by simp), List.length_append]
    simp [u7]
  have A2 : addG true (.cell (S.length + 2)) (.cell (m + 19)) (S ++ (u7 a b c d).take 3) = .ok (.cell (S.length + 3), S ++ (u7 a b c d).take 4) := by
    rw [add_cc ((get_at 2).trans rfl) (h.app.at_ 19 _ rfl) (by simp), List.length_append]
    simp [u7]
  have M : mulG true (.cell (S.length + 4)) (.fr (.int 8)) (S ++ (u7 a b c d).take 5) = .ok (.cell (S.length + 5), S ++ (u7 a b c d).take 6) := by
    rw [mul_cc (x := a) ((get_at 4).trans rfl), List.length_append]
    simp [u7]
  have A3 : addG true (.cell (S.length + 3)) (.cell (S.length + 5)) (S ++ (u7 a b c d).take 6) = .ok (.cell (S.length + 6), S ++ u7 a b c d) := by
    rw [add_cc ((get_at 3).trans rfl) ((get_at 5).trans rfl) (by simp), List.length_append]
    simp [u7]
  obtain ⟨tx, R1, R2⟩ := rep_txt (S := S) (U := (u7 a b c d).take 2) (V := u7 a b c d) (j := S.length + 1) (k := S.length + 6) (xs := [a, a, b, c, d, a, a, a, a, a, a, a, a]) (fun x hx => by
    simp only [List.mem_cons, List.not_mem_nil, or_false] at hx
    rcases hx with rfl | rfl | rfl | rfl | rfl | rfl | rfl | rfl | rfl | rfl | rfl | rfl | rfl <;> assumption) (by simp) ((get_at 1).trans rfl) ((get_at 6).trans rfl)
  have q (T : Store) : eqG true (.fr (.str tx)) (.fr (.str tx)) T = .ok (.fr (.bl false), T) := r_eq true rfl rfl (eqD_str tx)
  simp only [u7, List.take_succ_cons, List.take_zero] at A1 A2 A3 M R1 R2
  simp only [u7]
  simp only [RR, DL.isNon, List.replicate_succ, List.replicate_zero, List.set_cons_zero, List.set_cons_succ, List.getElem?_cons_zero, List.getElem?_cons_succ, Option.map_some, Nat.reduceSub, and_self, and_true, true_and, decide_true, decide_false, if_true, if_false, Bool.false_eq_true, Bool.not_true, Bool.not_false, Nat.reduceAdd, Nat.reduceMul, Nat.reduceLeDiff, i_law_2, r_fldV, i11, f0, List.append_assoc, List.cons_append, List.nil_append, List.length_append, List.length_cons, List.length_nil, A1, A2, A3, M, R1, R2, q]
def pos17 (k : Nat) : Nat := if k < 5 then k else if k < 12 then k + 1 else k + 3
theorem eK_at (k : Nat) (hk : k < 14) : ∃ fs, (eK m a b c d)[pos17 k]? = some (.exc (cN k) fs) := by
  have : k = 0 ∨ k = 1 ∨ k = 2 ∨ k = 3 ∨ k = 4 ∨ k = 5 ∨ k = 6 ∨ k = 7 ∨ k = 8 ∨ k = 9 ∨ k = 10 ∨ k = 11 ∨ k = 12 ∨ k = 13 := by omega
  rcases this with rfl | rfl | rfl | rfl | rfl | rfl | rfl | rfl | rfl | rfl | rfl | rfl | rfl | rfl <;> exact ⟨_, rfl⟩
theorem eKl_at (k : Nat) (hk : k < 14) : ([.cell m, .cell (m + 1), .cell (m + 2), .cell (m + 3), .cell (m + 4), .cell (m + 6), .cell (m + 7), .cell (m + 8), .cell (m + 9), .cell (m + 10), .cell (m + 11), .cell (m + 12), .cell (m + 15), .cell (m + 16)] : List SV)[k]? = some (.cell (m + pos17 k)) := by
  have : k = 0 ∨ k = 1 ∨ k = 2 ∨ k = 3 ∨ k = 4 ∨ k = 5 ∨ k = 6 ∨ k = 7 ∨ k = 8 ∨ k = 9 ∨ k = 10 ∨ k = 11 ∨ k = 12 ∨ k = 13 := by omega
  rcases this with rfl | rfl | rfl | rfl | rfl | rfl | rfl | rfl | rfl | rfl | rfl | rfl | rfl | rfl <;> rfl
theorem comp17 (w : WF S) (k : Nat) (hk : k < 14) (x0 x1 x2 x3 x4 x6 x7 x8 x9 x10 x11 x12 x13 : Option SV) :
    eLC false (iR1 (aC (eC (.int 14)) aN)) (gNm 13) tTr (DL.e2 (eqG false) (eV 13) (eV 5)) [12, 13] [x0, x1, x2, x3, x4, some (.fr (.int (k : Int))), x6, x7, x8, x9, x10, x11, x12, x13] S = .ok (.fr (.lst (bls k)), S) := by
  have hs := sizeLine_eq
  have s14 : k_r1 ([.fr (.int 14)], S) = .ok (⟨rngS 0 (14 : Int).toNat, fun _ => True⟩, S) := s_r1 (by decide)
  have lm := lc_map (S := S) (lk := fun _ => True) (gm := gNm 13) (t := tTr) (e := DL.e2 (eqG false) (eV 13) (eV 5)) (own := [12, 13]) (rho := [x0, x1, x2, x3, x4, some (.fr (.int (k : Int))), x6, x7, x8, x9, x10, x11, x12, x13]) (fun x => match x with
    | .fr (.int j) => .fr (.bl (decide (j = (k : Int))))
    | x => x) (fun _ => trivial) (rngS 0 (14 : Int).toNat) [] (by simp [rngS]; omega) (fun x hx acc => by
    obtain ⟨j, hj, rfl⟩ := List.mem_map.mp hx
    simp only [RR, DL.isNon, List.replicate_succ, List.replicate_zero, List.set_cons_zero, List.set_cons_succ, List.getElem?_cons_zero, List.getElem?_cons_succ, Option.map_some, Nat.reduceSub, and_self, and_true, true_and, decide_true, decide_false, if_true, if_false, Bool.false_eq_true, Bool.not_true, Bool.not_false, Nat.reduceAdd, Nat.reduceMul, Nat.reduceLeDiff])
  have lc := s_lceF w (ds := bls k)
  have e : ([] : List SV) ++ (rngS 0 (14 : Int).toNat).map (fun x => match x with
    | .fr (.int j) => .fr (.bl (decide (j = (k : Int))))
    | x => x) = (bls k).map SV.fr := by
    have : k = 0 ∨ k = 1 ∨ k = 2 ∨ k = 3 ∨ k = 4 ∨ k = 5 ∨ k = 6 ∨ k = 7 ∨ k = 8 ∨ k = 9 ∨ k = 10 ∨ k = 11 ∨ k = 12 ∨ k = 13 := by omega
    rcases this with rfl | rfl | rfl | rfl | rfl | rfl | rfl | rfl | rfl | rfl | rfl | rfl | rfl | rfl <;> rfl
  rw [e] at lm
  simp only [RR, DL.isNon, List.replicate_succ, List.replicate_zero, List.set_cons_zero, List.set_cons_succ, List.getElem?_cons_zero, List.getElem?_cons_succ, Option.map_some, Nat.reduceSub, and_self, and_true, true_and, decide_true, decide_false, if_true, if_false, Bool.false_eq_true, Bool.not_true, Bool.not_false, Nat.reduceAdd, Nat.reduceMul, Nat.reduceLeDiff, s14, lm, lc]
theorem kind_step (w : WF S) (h : AtL S m (eK m a b c d)) (k : Nat) (hk : k < 14) (x0 x1 x2 x4 x5 x6 x7 x8 x9 x10 x11 x12 x13 : Option SV) :
    (gNm 5 (.fr (.int (k : Int))) [x0, x1, x2, some (.cell (m + 18)), x4, x5, x6, x7, x8, x9, x10, x11, x12, x13] S).bind (k_body f_law_3) =
      .ok (.nx, [x0, x1, x2, some (.cell (m + 18)), x4, some (.fr (.int (k : Int))), some (.cell (m + pos17 k)), x7, x8, x9, x10, x11, x12, x13], S) := by
  obtain ⟨fs, hf⟩ := eK_at (m := m) (a := a) (b := b) (c := c) (d := d) k hk
  have hf := h.at_ _ _ hf
  have ix := err_ix h k (eKl_at k hk)
  have kr := kinds_run w (i := k) (by omega) hf
  have cp := comp17 w k hk x0 x1 x2 (some (.cell (m + 18))) x4 (some (.cell (m + pos17 k))) x7 x8 x9 x10 x11 x12 x13
  simp only [RR, DL.isNon, List.replicate_succ, List.replicate_zero, List.set_cons_zero, List.set_cons_succ, List.getElem?_cons_zero, List.getElem?_cons_succ, Option.map_some, Nat.reduceSub, and_self, and_true, true_and, decide_true, decide_false, if_true, if_false, Bool.false_eq_true, Bool.not_true, Bool.not_false, Nat.reduceAdd, Nat.reduceMul, Nat.reduceLeDiff] at cp
  have bb := is_base ⟨k, by omega⟩
  have b1 := s_isW hf bb.1
  have b2 := s_isW hf bb.2
  have eq := r_eq (S := S) true (a := .fr (.lst (bls k))) (b := .fr (.lst (bls k))) rfl rfl (eq_bls ⟨k, hk⟩)
  have fz : allFr ((bls k).map SV.fr) = some (bls k) := allFr_map _
  simp only [RR, DL.isNon, List.replicate_succ, List.replicate_zero, List.set_cons_zero, List.set_cons_succ, List.getElem?_cons_zero, List.getElem?_cons_succ, Option.map_some, Nat.reduceSub, and_self, and_true, true_and, decide_true, decide_false, if_true, if_false, Bool.false_eq_true, Bool.not_true, Bool.not_false, Nat.reduceAdd, Nat.reduceMul, Nat.reduceLeDiff, f_law_3, i_law_8, i_law_7, ix, kr, fz, cp, eq, b1, b2]
theorem kind_loop (w : WF S) (h : AtL S m (eK m a b c d)) (x0 x1 x2 x4 x7 x8 x9 x10 x11 x12 x13 : Option SV) : ∀ (ks : List Nat), (∀ k ∈ ks, k < 14) → ∀ (x5 x6 : Option SV), ∃ y5 y6 : Option SV,
    loopM (fun _ => True) (gNm 5) f_law_3 (ks.map fun (k : Nat) => SV.fr (.int (k : Int))) [x0, x1, x2, some (.cell (m + 18)), x4, x5, x6, x7, x8, x9, x10, x11, x12, x13] S =
      .ok (.nx, [x0, x1, x2, some (.cell (m + 18)), x4, y5, y6, x7, x8, x9, x10, x11, x12, x13], S)
  | [], _, x5, x6 => ⟨x5, x6, loop_nil _ _ trivial⟩
  | k :: ks, hk, x5, x6 => by
    obtain ⟨y5, y6, ih⟩ := kind_loop w h x0 x1 x2 x4 x7 x8 x9 x10 x11 x12 x13 ks (fun j hj => hk j (List.mem_cons_of_mem _ hj)) (some (.fr (.int (k : Int)))) (some (.cell (m + pos17 k)))
    refine ⟨y5, y6, ?_⟩
    rw [List.map_cons, loop_cons _ _ _ trivial, kind_step w h k (hk k List.mem_cons_self), r_bind, s_turnN, ih]
end

def bentC (n i : Nat) : List Cell := match i with
  | 8 => [.lst [.fr (.str "x")], .lst [.fr (.int 2)], .lst [.fr (.int 1), .cell (n + 1)], .dic [], .dic [(.inr "a", .fr (.int 1))], .lst (itT n)]
  | 9 => [.lst [], .lst [.fr (.int 2), .fr (.str "y")], .lst [.fr (.int 1), .cell (n + 1), .fr (.str "x")], .dic [], .dic [(.inr "a", .fr (.int 1))], .lst (itT n)]
  | 10 => [.lst [], .lst [.fr (.int 2)], .lst [.fr (.int 1), .cell (n + 1)], .dic [(.inr "x", .fr (.int 0))], .dic [(.inr "a", .fr (.int 1))], .lst (itT n)]
  | 11 => [.lst [], .lst [.fr (.int 2)], .lst [.fr (.int 1), .cell (n + 1)], .dic [], .dic [(.inr "a", .fr (.int 1)), (.inr "x", .fr (.int 0))], .lst (itT n)]
  | _ => thC n
theorem i12 {i : Nat} (h : i < 12) : i = 0 ∨ i = 1 ∨ i = 2 ∨ i = 3 ∨ i = 4 ∨ i = 5 ∨ i = 6 ∨ i = 7 ∨ i = 8 ∨ i = 9 ∨ i = 10 ∨ i = 11 := by omega
theorem y_non : YOk 60 3 .non := ⟨by decide +kernel, by decide +kernel, by decide +kernel, by decide +kernel, by decide +kernel⟩
theorem y_tr : YOk 60 3 (.bl true) := ⟨by decide +kernel, by decide +kernel, by decide +kernel, by decide +kernel, by decide +kernel⟩
theorem y_0 : YOk 60 3 (.int 0) := ⟨by decide +kernel, by decide +kernel, by decide +kernel, by decide +kernel, by decide +kernel⟩
theorem y_5 : YOk 60 3 (.int (-5)) := ⟨by decide +kernel, by decide +kernel, by decide +kernel, by decide +kernel, by decide +kernel⟩
theorem y_big : YOk 60 3 (.int (10 ^ 39)) := ⟨by decide +kernel, by decide +kernel, by decide +kernel, by decide +kernel, by decide +kernel⟩
theorem y_a : YOk 60 3 (.str "a") := ⟨by decide +kernel, by decide +kernel, by decide +kernel, by decide +kernel, by decide +kernel⟩
theorem y_t0 : YOk 60 3 (.tup []) := ⟨by decide +kernel, by decide +kernel, by decide +kernel, by decide +kernel, by decide +kernel⟩
theorem y_t1 : YOk 60 3 (.tup [.int 1, .str "b"]) := ⟨by decide +kernel, by decide +kernel, by decide +kernel, by decide +kernel, by decide +kernel⟩
theorem y_l0 : YOk 60 3 (.lst []) ∧ YOk 60 3 (.lst [.str "x"]) := ⟨⟨by decide +kernel, by decide +kernel, by decide +kernel, by decide +kernel, by decide +kernel⟩, ⟨by decide +kernel, by decide +kernel, by decide +kernel, by decide +kernel, by decide +kernel⟩⟩
theorem y_l1 : YOk 60 3 (.lst [.int 1, .lst [.int 2]]) ∧ YOk 60 3 (.lst [.int 1, .lst [.int 2, .str "y"], .str "x"]) := ⟨⟨by decide +kernel, by decide +kernel, by decide +kernel, by decide +kernel, by decide +kernel⟩, ⟨by decide +kernel, by decide +kernel, by decide +kernel, by decide +kernel, by decide +kernel⟩⟩
theorem y_d0 : YOk 60 3 (.dct []) ∧ YOk 60 3 (.dct [(.inr "x", .int 0)]) := ⟨⟨by decide +kernel, by decide +kernel, by decide +kernel, by decide +kernel, by decide +kernel⟩, ⟨by decide +kernel, by decide +kernel, by decide +kernel, by decide +kernel, by decide +kernel⟩⟩
theorem y_d1 : YOk 60 3 (.dct [(.inr "a", .int 1)]) ∧ YOk 60 3 (.dct [(.inr "a", .int 1), (.inr "x", .int 0)]) := ⟨⟨by decide +kernel, by decide +kernel, by decide +kernel, by decide +kernel, by decide +kernel⟩, ⟨by decide +kernel, by decide +kernel, by decide +kernel, by decide +kernel, by decide +kernel⟩⟩
section
variable {S : Store} {n : Nat}
theorem sn_fr {d : D} (y : YOk 60 3 d) : Sn S (.fr d) d := ⟨fun _ => rfl, y⟩
theorem sn_l {k : Nat} {ds : List D} (h : S[k]? = some (.lst (ds.map SV.fr))) (y : YOk 60 3 (.lst ds)) : Sn S (.cell k) (.lst ds) := ⟨fun T => by
  have g : (S ++ T)[k]? = _ := get_app h
  unfold snapN
  simp only [g]
  rw [allSn_map (fun d => by rfl)]
  rfl, y⟩
theorem sn_2 {k j : Nat} {ds : List D} {r : List D} (h : S[k]? = some (.lst (.fr (.int 1) :: .cell j :: r.map SV.fr))) (h2 : S[j]? = some (.lst (ds.map SV.fr))) (y : YOk 60 3 (.lst (.int 1 :: .lst ds :: r))) : Sn S (.cell k) (.lst (.int 1 :: .lst ds :: r)) := ⟨fun T => by
  have g : (S ++ T)[k]? = _ := get_app h
  have g2 : (S ++ T)[j]? = _ := get_app h2
  have s0 : snapN (S ++ T) 0 (.cell j) = some (.lst ds) := by
    unfold snapN snap
    simp only [g2]
    rw [allSn_map (fun d => by rfl)]
    rfl
  unfold snapN
  simp only [g]
  simp only [allSn, s0, show snapN (S ++ T) 0 (.fr (.int 1)) = some (.int 1) from rfl]
  rw [allSn_map (fun d => by rfl)]
  rfl, y⟩
theorem sn_d {k : Nat} {ks : List (Key × Int)} (h : S[k]? = some (.dic (ks.map fun p => (p.1, SV.fr (.int p.2))))) (y : YOk 60 3 (.dct (ks.map fun p => (p.1, D.int p.2)))) : Sn S (.cell k) (.dct (ks.map fun p => (p.1, D.int p.2))) := ⟨fun T => by
  have g : (S ++ T)[k]? = _ := get_app h
  have e : ∀ ks : List (Key × Int), allSnK (snapN (S ++ T) 0) (ks.map fun p => (p.1, SV.fr (.int p.2))) = some (ks.map fun p => (p.1, D.int p.2)) := fun ks => by
    induction ks with
    | nil => rfl
    | cons p ks ih => simp only [List.map_cons, allSnK, ih, show snapN (S ++ T) 0 (.fr (.int p.2)) = some (.int p.2) from rfl]
  unfold snapN
  simp only [g, e, Option.map_some], y⟩
theorem sn_new {i : Nat} {x : SV} (h : AtL S n (thC n)) (hi : i < 12) (hx : (itT n)[i]? = some x) : ∃ d, Sn S x d := by
  rcases i12 hi with rfl | rfl | rfl | rfl | rfl | rfl | rfl | rfl | rfl | rfl | rfl | rfl <;> cases hx
  · exact ⟨_, sn_fr y_non⟩
  · exact ⟨_, sn_fr y_tr⟩
  · exact ⟨_, sn_fr y_0⟩
  · exact ⟨_, sn_fr y_5⟩
  · exact ⟨_, sn_fr y_big⟩
  · exact ⟨_, sn_fr y_a⟩
  · exact ⟨_, sn_fr y_t0⟩
  · exact ⟨_, sn_fr y_t1⟩
  · exact ⟨_, sn_l (ds := []) (h.at_ 0 _ rfl) y_l0.1⟩
  · exact ⟨_, sn_2 (ds := [.int 2]) (r := []) (h.at_ 2 _ rfl) (h.at_ 1 _ rfl) y_l1.1⟩
  · exact ⟨_, sn_d (ks := []) (h.at_ 3 _ rfl) y_d0.1⟩
  · exact ⟨_, sn_d (ks := [(.inr "a", 1)]) (h.at_ 4 _ rfl) y_d1.1⟩
theorem sn_bent {i : Nat} {x : SV} (h : AtL S n (bentC n i)) (hi : i < 12) (hx : (itT n)[i]? = some x) : ∃ d, Sn S x d := by
  rcases i12 hi with rfl | rfl | rfl | rfl | rfl | rfl | rfl | rfl | rfl | rfl | rfl | rfl <;> cases hx
  · exact ⟨_, sn_fr y_non⟩
  · exact ⟨_, sn_fr y_tr⟩
  · exact ⟨_, sn_fr y_0⟩
  · exact ⟨_, sn_fr y_5⟩
  · exact ⟨_, sn_fr y_big⟩
  · exact ⟨_, sn_fr y_a⟩
  · exact ⟨_, sn_fr y_t0⟩
  · exact ⟨_, sn_fr y_t1⟩
  · exact ⟨_, sn_l (ds := [.str "x"]) (h.at_ 0 _ rfl) y_l0.2⟩
  · exact ⟨_, sn_2 (ds := [.int 2, .str "y"]) (r := [.str "x"]) (h.at_ 2 _ rfl) (h.at_ 1 _ rfl) y_l1.2⟩
  · exact ⟨_, sn_d (ks := [(.inr "x", 0)]) (h.at_ 3 _ rfl) y_d0.2⟩
  · exact ⟨_, sn_d (ks := [(.inr "a", 1), (.inr "x", 0)]) (h.at_ 4 _ rfl) y_d1.2⟩
def bend (S : Store) (n i : Nat) : Store := match i with
  | 8 => S.set n (.lst [.fr (.str "x")])
  | 9 => (S.set (n + 1) (.lst [.fr (.int 2), .fr (.str "y")])).set (n + 2) (.lst [.fr (.int 1), .cell (n + 1), .fr (.str "x")])
  | 10 => S.set (n + 3) (.dic [(.inr "x", .fr (.int 0))])
  | 11 => S.set (n + 4) (.dic [(.inr "a", .fr (.int 1)), (.inr "x", .fr (.int 0))])
  | _ => S
theorem bend_len {i : Nat} (hi : i < 12) : (bend S n i).length = S.length := by
  rcases i12 hi with rfl | rfl | rfl | rfl | rfl | rfl | rfl | rfl | rfl | rfl | rfl | rfl <;> simp [bend]
theorem bend_out {i k : Nat} (hi : i < 12) (hk : k < n ∨ n + 6 ≤ k) : (bend S n i)[k]? = S[k]? := by
  rcases i12 hi with rfl | rfl | rfl | rfl | rfl | rfl | rfl | rfl | rfl | rfl | rfl | rfl
  · rfl
  · rfl
  · rfl
  · rfl
  · rfl
  · rfl
  · rfl
  · rfl
  · simp only [bend]; rw [List.getElem?_set_ne (by omega)]
  · simp only [bend]; rw [List.getElem?_set_ne (by omega), List.getElem?_set_ne (by omega)]
  · simp only [bend]; rw [List.getElem?_set_ne (by omega)]
  · simp only [bend]; rw [List.getElem?_set_ne (by omega)]
theorem bend_wf {i : Nat} (w : WF S) (hi : i < 12) (hn : n + 6 ≤ S.length) : WF (bend S n i) := by
  rcases i12 hi with rfl | rfl | rfl | rfl | rfl | rfl | rfl | rfl | rfl | rfl | rfl | rfl
  · exact w
  · exact w
  · exact w
  · exact w
  · exact w
  · exact w
  · exact w
  · exact w
  · exact w.set _ rfl
  · refine (w.set _ rfl).set _ ?_
    simp only [Cell.below, List.all_cons, List.all_nil, SV.below, List.length_set, Bool.and_true, Bool.true_and, decide_eq_true_eq]
    omega
  · exact w.set _ rfl
  · exact w.set _ rfl
theorem k6 {k : Nat} {U : List Cell} {c : Cell} (hl : U.length = 6) (h : U[k]? = some c) : k = 0 ∨ k = 1 ∨ k = 2 ∨ k = 3 ∨ k = 4 ∨ k = 5 := by
  have := (List.getElem?_eq_some_iff.mp h).1
  omega
theorem bend_at {i : Nat} (h : AtL S n (thC n)) (hi : i < 12) (hn : n + 6 ≤ S.length) : AtL (bend S n i) n (bentC n i) := by
  refine ⟨fun k c e => ?_⟩
  rcases i12 hi with rfl | rfl | rfl | rfl | rfl | rfl | rfl | rfl | rfl | rfl | rfl | rfl
  · exact h.at_ k c e
  · exact h.at_ k c e
  · exact h.at_ k c e
  · exact h.at_ k c e
  · exact h.at_ k c e
  · exact h.at_ k c e
  · exact h.at_ k c e
  · exact h.at_ k c e
  · simp only [bend]
    rcases k6 rfl e with rfl | rfl | rfl | rfl | rfl | rfl <;> cases e
    · rw [Nat.add_zero, List.getElem?_set_self (by omega)]
    all_goals (rw [List.getElem?_set_ne (by omega)]; exact h.at_ _ _ rfl)
  · simp only [bend]
    rcases k6 rfl e with rfl | rfl | rfl | rfl | rfl | rfl <;> cases e
    · rw [List.getElem?_set_ne (by omega), List.getElem?_set_ne (by omega)]; exact h.at_ 0 _ rfl
    · rw [List.getElem?_set_ne (by omega), List.getElem?_set_self (by omega)]
    · rw [List.getElem?_set_self (by rw [List.length_set]; omega)]
    all_goals (rw [List.getElem?_set_ne (by omega), List.getElem?_set_ne (by omega)]; exact h.at_ _ _ rfl)
  · simp only [bend]
    rcases k6 rfl e with rfl | rfl | rfl | rfl | rfl | rfl <;> cases e
    all_goals first | (rw [List.getElem?_set_ne (by omega)]; exact h.at_ _ _ rfl) | rw [List.getElem?_set_self (by omega)]
  · simp only [bend]
    rcases k6 rfl e with rfl | rfl | rfl | rfl | rfl | rfl <;> cases e
    all_goals first | (rw [List.getElem?_set_ne (by omega)]; exact h.at_ _ _ rfl) | rw [List.getElem?_set_self (by omega)]
theorem AtL.bend_far {i m : Nat} {U : List Cell} (h : AtL S m U) (hi : i < 12) (hf : m + U.length ≤ n ∨ n + 6 ≤ m) : AtL (bend S n i) m U := ⟨fun k c e => by
  have := (List.getElem?_eq_some_iff.mp e).1
  rw [bend_out hi (by omega)]
  exact h.at_ k c e⟩
end

def k_pt3 (rho : Slots) (S' : Store) : Res (Slots × Store) := .ok (rho, S')
def k_pt2 (x : SV) (rho : Slots) (o : SV) (i : SV × Store) : Res (Slots × Store) := (putD o i.1 x i.2).bind (k_pt3 rho)
def k_pt (mi : EM) (x : SV) (rho : Slots) (o : SV × Store) : Res (Slots × Store) := (mi rho o.2).bind (k_pt2 x rho o.1)
theorem r_gPt (mo mi : EM) (x : SV) (rho : Slots) (S : Store) : gPt mo mi x rho S = (mo rho S).bind (k_pt mi x rho) := id rfl
theorem s_pt (mi : EM) (x o : SV) (rho : Slots) (S : Store) : k_pt mi x rho (o, S) = (mi rho S).bind (k_pt2 x rho o) := id rfl
theorem s_pt2 (x o i : SV) (rho : Slots) (S : Store) : k_pt2 x rho o (i, S) = (putD o i x S).bind (k_pt3 rho) := id rfl
theorem s_pt3 (rho : Slots) (S : Store) : k_pt3 rho S = .ok (rho, S) := id rfl
theorem isi_17 (S : Store) (x : SV) (a b : String) (r : Bool) (h : tyN S x = some a) (k : kin a b = some r) : isiG [x, .fr (.ty b)] S = .ok (.fr (.bl r), S) := by
  unfold isiG
  simp only [h, Option.bind_some, k, okV]
theorem ty_l {S : Store} {k : Nat} {xs : List SV} (h : S[k]? = some (.lst xs)) : tyN S (.cell k) = some "list" := by
  unfold tyN
  simp only [h]
theorem ty_d {S : Store} {k : Nat} {kvs : List (Key × SV)} (h : S[k]? = some (.dic kvs)) : tyN S (.cell k) = some "dict" := by
  unfold tyN
  simp only [h]
theorem len_17 {S : Store} {k : Nat} {xs : List SV} (h : S[k]? = some (.lst xs)) : lenG [.cell k] S = .ok (.fr (.int xs.length), S) := r_lenL (by unfold rdS rdL; simp only [h])
section
variable {S : Store} {n : Nat}
theorem bent_fr {d : D} (hl : isiG [.fr d, .fr (.ty "list")] S = .ok (.fr (.bl false), S)) (hd : isiG [.fr d, .fr (.ty "dict")] S = .ok (.fr (.bl false), S)) (x0 x1 x2 x3 x4 x5 x6 x7 x8 x9 x11 x12 x13 : Option SV) :
    f_law_2 [x0, x1, x2, x3, x4, x5, x6, x7, x8, x9, some (.fr d), x11, x12, x13] S = .ok (.nx, [x0, x1, x2, x3, x4, x5, x6, x7, x8, x9, some (.fr d), x11, x12, x13], S) := by
  simp only [RR, DL.isNon, List.replicate_succ, List.replicate_zero, List.set_cons_zero, List.set_cons_succ, List.getElem?_cons_zero, List.getElem?_cons_succ, Option.map_some, Nat.reduceSub, and_self, and_true, true_and, decide_true, decide_false, if_true, if_false, Bool.false_eq_true, Bool.not_true, Bool.not_false, Nat.reduceAdd, Nat.reduceMul, Nat.reduceLeDiff, f_law_2, i_law_5, i_law_4, i_law_3, hl, hd]
theorem bend_run {i : Nat} {x : SV} (h : AtL S n (thC n)) (hi : i < 12) (hn : n + 6 ≤ S.length) (hx : (itT n)[i]? = some x) (x0 x1 x2 x3 x4 x5 x6 x7 x8 x9 x11 x12 x13 : Option SV) :
    f_law_2 [x0, x1, x2, x3, x4, x5, x6, x7, x8, x9, some x, x11, x12, x13] S = .ok (.nx, [x0, x1, x2, x3, x4, x5, x6, x7, x8, x9, some x, x11, x12, x13], bend S n i) := by
  rcases i12 hi with rfl | rfl | rfl | rfl | rfl | rfl | rfl | rfl | rfl | rfl | rfl | rfl <;> cases hx
  · exact bent_fr rfl rfl ..
  · exact bent_fr rfl rfl ..
  · exact bent_fr rfl rfl ..
  · exact bent_fr rfl rfl ..
  · exact bent_fr rfl rfl ..
  · exact bent_fr rfl rfl ..
  · exact bent_fr rfl rfl ..
  · exact bent_fr rfl rfl ..
  · have g0 : S[n]? = some (.lst []) := h.at_ 0 _ rfl
    have g1 : (S.set n (.lst [.fr (.str "x")]))[n]? = some (.lst [.fr (.str "x")]) := List.getElem?_set_self (by omega)
    have c1 := isi_17 S (.cell n) "list" "list" true (ty_l g0) rfl
    have c2 := isi_17 _ (.cell n) "list" "dict" false (ty_l g1) rfl
    have l1 := len_17 g0
    have a1 := app_at (y := .fr (.str "x")) g0 (by simp)
    have z : decide (((0 : Nat) : Int) = 2) = false := by decide
    rw [List.nil_append] at a1
    rw [List.length_nil] at l1
    simp only [bend]
    simp only [RR, DL.isNon, List.replicate_succ, List.replicate_zero, List.set_cons_zero, List.set_cons_succ, List.getElem?_cons_zero, List.getElem?_cons_succ, Option.map_some, Nat.reduceSub, and_self, and_true, true_and, decide_true, decide_false, if_true, if_false, Bool.false_eq_true, Bool.not_true, Bool.not_false, Nat.reduceAdd, Nat.reduceMul, Nat.reduceLeDiff, f_law_2, i_law_5, i_law_4, i_law_3, c1, c2, l1, z, s_mt appendG (ty_at g0), a1]
  · have g1 : S[n + 1]? = some (.lst [.fr (.int 2)]) := h.at_ 1 _ rfl
    have g2 : S[n + 2]? = some (.lst [.fr (.int 1), .cell (n + 1)]) := h.at_ 2 _ rfl
    have a1 := app_at (y := .fr (.str "y")) g1 (by simp)
    have g3 : (S.set (n + 1) (.lst [.fr (.int 2), .fr (.str "y")]))[n + 2]? = some (.lst [.fr (.int 1), .cell (n + 1)]) := by rw [List.getElem?_set_ne (by omega)]; exact g2
    have a2 := app_at (y := .fr (.str "x")) g3 (by simp)
    have g4 : ((S.set (n + 1) (.lst [.fr (.int 2), .fr (.str "y")])).set (n + 2) (.lst [.fr (.int 1), .cell (n + 1), .fr (.str "x")]))[n + 2]? = some (.lst [.fr (.int 1), .cell (n + 1), .fr (.str "x")]) := List.getElem?_set_self (by rw [List.length_set]; omega)
    have c1 := isi_17 S (.cell (n + 2)) "list" "list" true (ty_l g2) rfl
    have c2 := isi_17 _ (.cell (n + 2)) "list" "list" true (ty_l g3) rfl
    have c3 := isi_17 _ (.cell (n + 2)) "list" "dict" false (ty_l g4) rfl
    have l1 := len_17 g2
    have x1' := r_xC g2 1
    have z : decide (((2 : Nat) : Int) = 2) = true := by decide
    simp only [List.cons_append, List.nil_append] at a1 a2
    simp only [List.length_cons, List.length_nil, Nat.reduceAdd] at l1
    simp only [bend]
    simp only [RR, DL.isNon, List.replicate_succ, List.replicate_zero, List.set_cons_zero, List.set_cons_succ, List.getElem?_cons_zero, List.getElem?_cons_succ, Option.map_some, Nat.reduceSub, and_self, and_true, true_and, decide_true, decide_false, if_true, if_false, Bool.false_eq_true, Bool.not_true, Bool.not_false, Nat.reduceAdd, Nat.reduceMul, Nat.reduceLeDiff, f_law_2, i_law_5, i_law_4, i_law_3, c1, c2, c3, l1, z, x1', s_mt appendG (ty_at g1), s_mt appendG (ty_at g3), a1, a2]
  · have g0 : S[n + 3]? = some (.dic []) := h.at_ 3 _ rfl
    have c1 := isi_17 S (.cell (n + 3)) "dict" "list" false (ty_d g0) rfl
    have c2 := isi_17 S (.cell (n + 3)) "dict" "dict" true (ty_d g0) rfl
    have pt : putD (.cell (n + 3)) (.fr (.str "x")) (.fr (.int 0)) S = .ok (S.set (n + 3) (.dic [(.inr "x", .fr (.int 0))])) := by
      unfold putD
      simp only [g0, DL.keyOf]
      rw [if_pos (by have := sizeLine_eq; rw [List.length_nil]; omega)]
      rfl
    simp only [bend]
    simp only [RR, DL.isNon, List.replicate_succ, List.replicate_zero, List.set_cons_zero, List.set_cons_succ, List.getElem?_cons_zero, List.getElem?_cons_succ, Option.map_some, Nat.reduceSub, and_self, and_true, true_and, decide_true, decide_false, if_true, if_false, Bool.false_eq_true, Bool.not_true, Bool.not_false, Nat.reduceAdd, Nat.reduceMul, Nat.reduceLeDiff, f_law_2, i_law_5, i_law_4, i_law_3, c1, c2, r_gPt, s_pt, s_pt2, s_pt3, pt]
  · have g0 : S[n + 4]? = some (.dic [(.inr "a", .fr (.int 1))]) := h.at_ 4 _ rfl
    have c1 := isi_17 S (.cell (n + 4)) "dict" "list" false (ty_d g0) rfl
    have c2 := isi_17 S (.cell (n + 4)) "dict" "dict" true (ty_d g0) rfl
    have pt : putD (.cell (n + 4)) (.fr (.str "x")) (.fr (.int 0)) S = .ok (S.set (n + 4) (.dic [(.inr "a", .fr (.int 1)), (.inr "x", .fr (.int 0))])) := by
      unfold putD
      simp only [g0, DL.keyOf]
      rw [if_pos (by have := sizeLine_eq; rw [List.length_singleton]; omega)]
      rfl
    simp only [bend]
    simp only [RR, DL.isNon, List.replicate_succ, List.replicate_zero, List.set_cons_zero, List.set_cons_succ, List.getElem?_cons_zero, List.getElem?_cons_succ, Option.map_some, Nat.reduceSub, and_self, and_true, true_and, decide_true, decide_false, if_true, if_false, Bool.false_eq_true, Bool.not_true, Bool.not_false, Nat.reduceAdd, Nat.reduceMul, Nat.reduceLeDiff, f_law_2, i_law_5, i_law_4, i_law_3, c1, c2, r_gPt, s_pt, s_pt2, s_pt3, pt]
end
theorem base_step {S : Store} {k : Nat} {fs : List (Str × SV)} (w : WF S) (h : S[k]? = some (.exc "LockError" fs)) (x0 x1 x2 x3 x4 x5 x6 x7 x8 x9 x10 x11 x12 x13 : Option SV) :
    (gNm 11 (.cell k) [x0, x1, x2, x3, x4, x5, x6, x7, x8, x9, x10, x11, x12, x13] S).bind (k_body f_law_1) = .ok (.nx, [x0, x1, x2, x3, x4, x5, x6, x7, x8, x9, x10, some (.cell k), x12, x13], S) := by
  have b2 := s_isW (t := iseT) h (is_base 14).2
  have kr := kinds_run w (i := 14) (by decide) h
  have fz : allFr ((bls 14).map SV.fr) = some (bls 14) := allFr_map _
  have ni : inG [] false (.fr (.bl true)) (.fr (.lst (bls 14))) S = .ok (.fr (.bl false), S) := by
    unfold inG inLG
    simp only [insOf, hdD, snap, plain_bl, noin_bls.1, noin_bls.2, Bool.and_self, if_true, okV, Bool.false_eq_true, if_false]
  simp only [RR, DL.isNon, List.replicate_succ, List.replicate_zero, List.set_cons_zero, List.set_cons_succ, List.getElem?_cons_zero, List.getElem?_cons_succ, Option.map_some, Nat.reduceSub, and_self, and_true, true_and, decide_true, decide_false, if_true, if_false, Bool.false_eq_true, Bool.not_true, Bool.not_false, Nat.reduceAdd, Nat.reduceMul, Nat.reduceLeDiff, f_law_1, i_law_1, b2, kr, fz, ni]

section
variable {S : Store} {a b c d : SV}
theorem wf_u3 (w : WF S) (ha : a.below S.length = true) (hb : b.below S.length = true) (hc : c.below S.length = true) (hd : d.below S.length = true) : WF (S ++ u3 a b c d) := by
  refine wf_app70 w fun x hx => ?_
  have k : (u3 a b c d).length = 3 := rfl
  rw [k]
  have ha := SV.below_mono (Nat.le_add_right _ 3) ha
  have hb := SV.below_mono (Nat.le_add_right _ 3) hb
  have hc := SV.below_mono (Nat.le_add_right _ 3) hc
  have hd := SV.below_mono (Nat.le_add_right _ 3) hd
  have h : (u3 a b c d).all (Cell.below (S.length + 3)) = true := by
    simp only [u3, List.all_cons, List.all_nil, Cell.below, ha, hb, hc, hd, Bool.and_self]
  exact List.all_eq_true.mp h x hx
theorem wf_u7 (w : WF S) (ha : a.below S.length = true) (hb : b.below S.length = true) (hc : c.below S.length = true) (hd : d.below S.length = true) : WF (S ++ u7 a b c d) := by
  refine wf_app70 w fun x hx => ?_
  have k : (u7 a b c d).length = 7 := rfl
  rw [k]
  have ha := SV.below_mono (Nat.le_add_right _ 7) ha
  have hb := SV.below_mono (Nat.le_add_right _ 7) hb
  have hc := SV.below_mono (Nat.le_add_right _ 7) hc
  have hd := SV.below_mono (Nat.le_add_right _ 7) hd
  have h : (u7 a b c d).all (Cell.below (S.length + 7)) = true := by
    simp only [u7, List.all_cons, List.all_nil, Cell.below, ha, hb, hc, hd, Bool.and_self]
  exact List.all_eq_true.mp h x hx
def lkE (n : Nat) : List Cell := [.exc "LockError" [], .exc "LockError" [], .exc "LockError" [], .lst [.cell n, .cell (n + 1), .cell (n + 2)]]
theorem wf_lkE (w : WF S) : WF (S ++ lkE S.length) := by
  refine wf_app70 w fun x hx => ?_
  have k : (lkE S.length).length = 4 := rfl
  rw [k]
  have h : (lkE S.length).all (Cell.below (S.length + 4)) = true := by
    simp only [lkE, List.all_cons, List.all_nil, Cell.below, SV.below, Bool.and_eq_true, decide_eq_true_eq, and_true, true_and]
    omega
  exact List.all_eq_true.mp h x hx
end
theorem bend_step {S : Store} {n i : Nat} {x : SV} (h : AtL S n (thC n)) (hi : i < 12) (hn : n + 6 ≤ S.length) (hx : (itT n)[i]? = some x) (x0 x1 x2 x3 x4 x5 x6 x7 x8 x9 x10 x11 x12 x13 : Option SV) :
    (gNm 10 x [x0, x1, x2, x3, x4, x5, x6, x7, x8, x9, x10, x11, x12, x13] S).bind (k_body f_law_2) = .ok (.nx, [x0, x1, x2, x3, x4, x5, x6, x7, x8, x9, some x, x11, x12, x13], bend S n i) := by
  simp only [RR, DL.isNon, List.replicate_succ, List.replicate_zero, List.set_cons_zero, List.set_cons_succ, List.getElem?_cons_zero, List.getElem?_cons_succ, Option.map_some, Nat.reduceSub, and_self, and_true, true_and, decide_true, decide_false, if_true, if_false, Bool.false_eq_true, Bool.not_true, Bool.not_false, Nat.reduceAdd, Nat.reduceMul, Nat.reduceLeDiff, bend_run h hi hn hx]
theorem i6_is : i_law_6 = i_law_2 := rfl
theorem tail_run {S : Store} {m n1 n2 n3 n4 i1 i2 i3 i4 : Nat} {a b c d : SV} (w : WF S) (hE : AtL S m (eK m a b c d)) (h1 : AtL S n1 (thC n1)) (h2 : AtL S n2 (thC n2)) (h3 : AtL S n3 (thC n3)) (h4 : AtL S n4 (thC n4))
    (q1 : n1 + 6 ≤ n2) (q2 : n2 + 6 ≤ n3) (q3 : n3 + 6 ≤ n4) (q4 : n4 + 6 ≤ m) (q5 : m + 21 ≤ S.length) (j1 : i1 < 12) (j2 : i2 < 12) (j3 : i3 < 12) (j4 : i4 < 12)
    (g1 : (itT n1)[i1]? = some a) (g2 : (itT n2)[i2]? = some b) (g3 : (itT n3)[i3]? = some c) (g4 : (itT n4)[i4]? = some d) (x0 x1 x2 x5 x6 x7 x8 x9 x10 x11 x12 x13 : Option SV) :
    ∃ (S' : Store) (y5 y6 y7 y8 y9 y10 y11 : Option SV), WF S' ∧ (∀ k c, k < n1 → S[k]? = some c → S'[k]? = some c) ∧
      (sSeq (sFor (iR1 (aC (eC (.int 14)) aN)) (gNm 5) f_law_3)
    (sSeq (sSet 7 (DL.e2 ixG (eV 4) (eC (.int 0))))
    (sSeq (sSet 8 (DL.e2 ixG (eV 3) (eC (.int 2))))
    (sSeq (sSet 9 (eA (newL true) (aC (eFldV "place" ["Wrong"] (DL.e2 ixG (eV 3) (eC (.int 0)))) (aC (eFldV "owner" ["Held"] (eV 8)) (aC (eFldV "level" ["Held"] (eV 8)) (aC (eFldV "first" ["Held"] (eV 8)) (aC (eFldV "last" ["Held"] (eV 8)) (aC (eFldV "limit" ["Full", "TooMany"] (DL.e2 ixG (eV 3) (eC (.int 3)))) (aC (eFldV "process" ["Idle", "NoProcess", "Waiting"] (DL.e2 ixG (eV 3) (eC (.int 4)))) aN)))))))))
    (sSeq (sSet 9 (DL.e2 (addG true) (eV 9) (eA (newL true) (aC (eFldV "process" ["Idle", "NoProcess", "Waiting"] (DL.e2 ixG (eV 3) (eC (.int 5)))) (aC (eFldV "descriptor" ["NoDescriptor"] (DL.e2 ixG (eV 3) (eC (.int 6)))) (aC (eFldV "limit" ["Full", "TooMany"] (DL.e2 ixG (eV 3) (eC (.int 7)))) (aC (eFldV "members" ["Ring"] (DL.e2 ixG (eV 3) (eC (.int 8)))) (aC (eFldV "process" ["Idle", "NoProcess", "Waiting"] (DL.e2 ixG (eV 3) (eC (.int 9)))) aN))))))))
    (sSeq i_law_6
    (sSeq (sFor (iSeq (eV 4)) (gNm 10) f_law_2)
    (sSeq (sSet 9 (eA (newL true) (aC (eFldV "place" ["Wrong"] (DL.e2 ixG (eV 3) (eC (.int 0)))) (aC (eFldV "owner" ["Held"] (eV 8)) (aC (eFldV "level" ["Held"] (eV 8)) (aC (eFldV "first" ["Held"] (eV 8)) (aC (eFldV "last" ["Held"] (eV 8)) (aC (eFldV "limit" ["Full", "TooMany"] (DL.e2 ixG (eV 3) (eC (.int 3)))) (aC (eFldV "process" ["Idle", "NoProcess", "Waiting"] (DL.e2 ixG (eV 3) (eC (.int 4)))) aN)))))))))
    (sSeq (sSet 9 (DL.e2 (addG true) (eV 9) (eA (newL true) (aC (eFldV "process" ["Idle", "NoProcess", "Waiting"] (DL.e2 ixG (eV 3) (eC (.int 5)))) (aC (eFldV "descriptor" ["NoDescriptor"] (DL.e2 ixG (eV 3) (eC (.int 6)))) (aC (eFldV "limit" ["Full", "TooMany"] (DL.e2 ixG (eV 3) (eC (.int 7)))) (aC (eFldV "members" ["Ring"] (DL.e2 ixG (eV 3) (eC (.int 8)))) (aC (eFldV "process" ["Idle", "NoProcess", "Waiting"] (DL.e2 ixG (eV 3) (eC (.int 9)))) aN))))))))
    (sSeq i_law_2
    (sFor (iSeq (eA (newL true) (aC (eExc "LockError" (aC (eC (.str "no")) aN)) (aC (eErr0 "LockError") (aC (eExc "LockError" (aC (eC (.str "a")) (aC (eC (.int 1)) aN))) aN))))) (gNm 11) f_law_1)))))))))))
      [x0, x1, x2, some (.cell (m + 18)), some (.cell (m + 19)), x5, x6, x7, x8, x9, x10, x11, x12, x13] S = .ok (.nx, [x0, x1, x2, some (.cell (m + 18)), some (.cell (m + 19)), y5, y6, y7, y8, y9, y10, y11, x12, x13], S') := by
  have r14 : rngS 0 (14 : Int).toNat = (List.range 14).map fun (k : Nat) => SV.fr (.int (k : Int)) := rfl
  have s14 : k_r1 ([.fr (.int 14)], S) = .ok (⟨rngS 0 (14 : Int).toNat, fun _ => True⟩, S) := s_r1 (by decide)
  obtain ⟨y5, y6, kl⟩ := kind_loop w hE x0 x1 x2 (some (.cell (m + 19))) x7 x8 x9 x10 x11 x12 x13 (List.range 14) (fun k hk => List.mem_range.mp hk) x5 x6
  rw [← r14] at kl
  have ia : ixG (.cell (m + 19)) (.fr (.int 0)) S = .ok (a, S) := by
    rw [r_xC (hE.at_ 19 _ rfl)]
    rfl
  have ie : ixG (.cell (m + 18)) (.fr (.int 2)) S = .ok (.cell (m + 2), S) := err_ix hE 2 rfl
  have A : ∀ X : SM, (sSeq (sFor (iR1 (aC (eC (.int 14)) aN)) (gNm 5) f_law_3) (sSeq (sSet 7 (DL.e2 ixG (eV 4) (eC (.int 0)))) (sSeq (sSet 8 (DL.e2 ixG (eV 3) (eC (.int 2)))) X))) [x0, x1, x2, some (.cell (m + 18)), some (.cell (m + 19)), x5, x6, x7, x8, x9, x10, x11, x12, x13] S =
      X [x0, x1, x2, some (.cell (m + 18)), some (.cell (m + 19)), y5, y6, some a, some (.cell (m + 2)), x9, x10, x11, x12, x13] S := fun X => by
    simp only [RR, DL.isNon, List.replicate_succ, List.replicate_zero, List.set_cons_zero, List.set_cons_succ, List.getElem?_cons_zero, List.getElem?_cons_succ, Option.map_some, Nat.reduceSub, and_self, and_true, true_and, decide_true, decide_false, if_true, if_false, Bool.false_eq_true, Bool.not_true, Bool.not_false, Nat.reduceAdd, Nat.reduceMul, Nat.reduceLeDiff, s14, kl, ia, ie]
  have bel {n i : Nat} {x : SV} (h : (itT n)[i]? = some x) (hn : n + 6 ≤ S.length) : x.below S.length = true := SV.below_mono hn (it_below h)
  have ba := bel g1 (by omega)
  have bb := bel g2 (by omega)
  have bc := bel g3 (by omega)
  have bd := bel g4 (by omega)
  have up {x : SV} {T : Store} (h : x.below S.length = true) (l : S.length ≤ T.length) : x.below T.length = true := SV.below_mono l h
  -- told, compared
  have w2 := wf_u3 w ba bb bc bd
  have l2 : (S ++ u3 a b c d).length = S.length + 3 := by rw [List.length_append]; rfl
  have hE2 : AtL (S ++ u3 a b c d) m (eK m a b c d) := hE.app
  have c1 := cmp_run hE2 (t := S.length + 2) ((get_at 2).trans rfl) (sn_new h1.app j1 g1) (sn_new h2.app j2 g2) (sn_new h3.app j3 g3) (sn_new h4.app j4 g4) x0 x1 x2 y5 y6 (some (.cell (m + 2))) x10 x11 x12 x13
  have w3 := wf_u7 w2 (up ba (by omega)) (up bb (by omega)) (up bc (by omega)) (up bd (by omega))
  generalize hS3 : S ++ u3 a b c d ++ u7 a b c d = S3 at c1 w3
  have l3 : S3.length = S.length + 10 := by rw [← hS3, List.length_append, l2]; rfl
  have low3 : ∀ k c, S[k]? = some c → S3[k]? = some c := fun k c e => by rw [← hS3]; exact get_app (get_app e)
  have at3 : ∀ {n : Nat} {U : List Cell}, AtL S n U → AtL S3 n U := fun h => ⟨fun k c e => low3 _ _ (h.at_ k c e)⟩
  -- bent
  have p1 := at3 h1
  have p2 := at3 h2
  have p3 := at3 h3
  have p4 := at3 h4
  have pE := at3 hE
  have L1 : (bend S3 n1 i1).length = S3.length := bend_len j1
  have L2' : (bend (bend S3 n1 i1) n2 i2).length = S3.length := by rw [bend_len j2, L1]
  have L3 : (bend (bend (bend S3 n1 i1) n2 i2) n3 i3).length = S3.length := by rw [bend_len j3, L2']
  have L4 : (bend (bend (bend (bend S3 n1 i1) n2 i2) n3 i3) n4 i4).length = S3.length := by rw [bend_len j4, L3]
  have t6 (n : Nat) : (thC n).length = 6 := rfl
  have e21 : (eK m a b c d).length = 21 := rfl
  have b6 (n i : Nat) (hi : i < 12) : (bentC n i).length = 6 := by
    rcases i12 hi with rfl | rfl | rfl | rfl | rfl | rfl | rfl | rfl | rfl | rfl | rfl | rfl <;> rfl
  have p2' : AtL (bend S3 n1 i1) n2 (thC n2) := p2.bend_far j1 (by omega)
  have p3' : AtL (bend (bend S3 n1 i1) n2 i2) n3 (thC n3) := (p3.bend_far j1 (by omega)).bend_far j2 (by omega)
  have p4' : AtL (bend (bend (bend S3 n1 i1) n2 i2) n3 i3) n4 (thC n4) := ((p4.bend_far j1 (by omega)).bend_far j2 (by omega)).bend_far j3 (by omega)
  have E1 : AtL (bend S3 n1 i1) m (eK m a b c d) := pE.bend_far j1 (by omega)
  have E2 : AtL (bend (bend S3 n1 i1) n2 i2) m (eK m a b c d) := E1.bend_far j2 (by omega)
  have E3 : AtL (bend (bend (bend S3 n1 i1) n2 i2) n3 i3) m (eK m a b c d) := E2.bend_far j3 (by omega)
  have E4 : AtL (bend (bend (bend (bend S3 n1 i1) n2 i2) n3 i3) n4 i4) m (eK m a b c d) := E3.bend_far j4 (by omega)
  have r1 : AtL (bend (bend (bend (bend S3 n1 i1) n2 i2) n3 i3) n4 i4) n1 (bentC n1 i1) := (((bend_at p1 j1 (by omega)).bend_far j2 (by rw [b6 _ _ j1]; omega)).bend_far j3 (by rw [b6 _ _ j1]; omega)).bend_far j4 (by rw [b6 _ _ j1]; omega)
  have r2 : AtL (bend (bend (bend (bend S3 n1 i1) n2 i2) n3 i3) n4 i4) n2 (bentC n2 i2) := ((bend_at p2' j2 (by omega)).bend_far j3 (by rw [b6 _ _ j2]; omega)).bend_far j4 (by rw [b6 _ _ j2]; omega)
  have r3 : AtL (bend (bend (bend (bend S3 n1 i1) n2 i2) n3 i3) n4 i4) n3 (bentC n3 i3) := (bend_at p3' j3 (by omega)).bend_far j4 (by rw [b6 _ _ j3]; omega)
  have r4 : AtL (bend (bend (bend (bend S3 n1 i1) n2 i2) n3 i3) n4 i4) n4 (bentC n4 i4) := bend_at p4' j4 (by omega)
  have w4 : WF (bend (bend (bend (bend S3 n1 i1) n2 i2) n3 i3) n4 i4) := bend_wf (bend_wf (bend_wf (bend_wf w3 j1 (by omega)) j2 (by omega)) j3 (by omega)) j4 (by omega)
  have B : loopM (fun S' => S'[m + 19]? = some (.lst [a, b, c, d])) (gNm 10) f_law_2 [a, b, c, d] [x0, x1, x2, some (.cell (m + 18)), some (.cell (m + 19)), y5, y6, some a, some (.cell (m + 2)), some (.cell (S.length + 2)), x10, x11, x12, x13] S3 =
      .ok (.nx, [x0, x1, x2, some (.cell (m + 18)), some (.cell (m + 19)), y5, y6, some a, some (.cell (m + 2)), some (.cell (S.length + 2)), some d, x11, x12, x13], bend (bend (bend (bend S3 n1 i1) n2 i2) n3 i3) n4 i4) := by
    rw [loop_cons _ _ _ (pE.at_ 19 _ rfl), bend_step p1 j1 (by omega) g1, r_bind, s_turnN,
      loop_cons _ _ _ (E1.at_ 19 _ rfl), bend_step p2' j2 (by omega) g2, r_bind, s_turnN,
      loop_cons _ _ _ (E2.at_ 19 _ rfl), bend_step p3' j3 (by omega) g3, r_bind, s_turnN,
      loop_cons _ _ _ (E3.at_ 19 _ rfl), bend_step p4' j4 (by omega) g4, r_bind, s_turnN, loop_nil _ _ (E4.at_ 19 _ rfl)]
  have low4 : ∀ k c, k < n1 → S3[k]? = some c → (bend (bend (bend (bend S3 n1 i1) n2 i2) n3 i3) n4 i4)[k]? = some c := fun k c hk e => by
    rw [bend_out j4 (by omega), bend_out j3 (by omega), bend_out j2 (by omega), bend_out j1 (by omega), e]
  have sq : k_sq (.cell (m + 19), S3) = .ok (⟨[a, b, c, d], fun S' => S'[m + 19]? = some (.lst [a, b, c, d])⟩, S3) := s_sqC (pE.at_ 19 _ rfl)
  generalize bend (bend (bend (bend S3 n1 i1) n2 i2) n3 i3) n4 i4 = S4 at L4 E4 r1 r2 r3 r4 w4 B low4
  -- told again
  have w5 := wf_u3 w4 (up ba (by omega)) (up bb (by omega)) (up bc (by omega)) (up bd (by omega))
  have l5 : (S4 ++ u3 a b c d).length = S4.length + 3 := by rw [List.length_append]; rfl
  have hE5 : AtL (S4 ++ u3 a b c d) m (eK m a b c d) := E4.app
  have c2 := cmp_run hE5 (t := S4.length + 2) ((get_at 2).trans rfl) (sn_bent r1.app j1 g1) (sn_bent r2.app j2 g2) (sn_bent r3.app j3 g3) (sn_bent r4.app j4 g4) x0 x1 x2 y5 y6 (some (.cell (m + 2))) (some d) x11 x12 x13
  have w6 := wf_u7 w5 (up ba (by omega)) (up bb (by omega)) (up bc (by omega)) (up bd (by omega))
  generalize hS6 : S4 ++ u3 a b c d ++ u7 a b c d = S6 at c2 w6
  have low6 : ∀ k c, S4[k]? = some c → S6[k]? = some c := fun k c e => by rw [← hS6]; exact get_app (get_app e)
  -- LockError alone
  have w7 := wf_lkE w6
  have d0 : (S6 ++ lkE S6.length)[S6.length]? = some (.exc "LockError" []) := get_at 0
  have d1 : (S6 ++ lkE S6.length)[S6.length + 1]? = some (.exc "LockError" []) := get_at 1
  have d2 : (S6 ++ lkE S6.length)[S6.length + 2]? = some (.exc "LockError" []) := get_at 2
  have d3 : (S6 ++ lkE S6.length)[S6.length + 3]? = some (.lst [.cell S6.length, .cell (S6.length + 1), .cell (S6.length + 2)]) := get_at 3
  have sq2 := s_sqC d3
  have C : loopM (fun S' => S'[S6.length + 3]? = some (.lst [.cell S6.length, .cell (S6.length + 1), .cell (S6.length + 2)])) (gNm 11) f_law_1 [.cell S6.length, .cell (S6.length + 1), .cell (S6.length + 2)] [x0, x1, x2, some (.cell (m + 18)), some (.cell (m + 19)), y5, y6, some a, some (.cell (m + 2)), some (.cell (S4.length + 2)), some d, x11, x12, x13] (S6 ++ lkE S6.length) =
      .ok (.nx, [x0, x1, x2, some (.cell (m + 18)), some (.cell (m + 19)), y5, y6, some a, some (.cell (m + 2)), some (.cell (S4.length + 2)), some d, some (.cell (S6.length + 2)), x12, x13], S6 ++ lkE S6.length) := by
    rw [loop_cons _ _ _ d3, base_step w7 d0, r_bind, s_turnN, loop_cons _ _ _ d3, base_step w7 d1, r_bind, s_turnN, loop_cons _ _ _ d3, base_step w7 d2, r_bind, s_turnN, loop_nil _ _ d3]
  refine ⟨S6 ++ lkE S6.length, y5, y6, some a, some (.cell (m + 2)), some (.cell (S4.length + 2)), some d, some (.cell (S6.length + 2)), w7, fun k c hk e => get_app (low6 _ _ (low4 _ _ hk (low3 _ _ e))), ?_⟩
  rw [A, told_run hE, r_seq, i6_is, c1, r_bind, s_seqN]
  have F : ∀ X : SM, (sSeq (sFor (iSeq (eV 4)) (gNm 10) f_law_2) X) [x0, x1, x2, some (.cell (m + 18)), some (.cell (m + 19)), y5, y6, some a, some (.cell (m + 2)), some (.cell (S.length + 2)), x10, x11, x12, x13] S3 =
      X [x0, x1, x2, some (.cell (m + 18)), some (.cell (m + 19)), y5, y6, some a, some (.cell (m + 2)), some (.cell (S.length + 2)), some d, x11, x12, x13] S4 := fun X => by
    simp only [RR, DL.isNon, List.replicate_succ, List.replicate_zero, List.set_cons_zero, List.set_cons_succ, List.getElem?_cons_zero, List.getElem?_cons_succ, Option.map_some, Nat.reduceSub, and_self, and_true, true_and, decide_true, decide_false, if_true, if_false, Bool.false_eq_true, Bool.not_true, Bool.not_false, Nat.reduceAdd, Nat.reduceMul, Nat.reduceLeDiff, sq, B]
  rw [F, told_run E4, r_seq, c2, r_bind, s_seqN]
  simp only [lkE] at C sq2 ⊢
  simp only [RR, DL.isNon, List.replicate_succ, List.replicate_zero, List.set_cons_zero, List.set_cons_succ, List.getElem?_cons_zero, List.getElem?_cons_succ, Option.map_some, Nat.reduceSub, and_self, and_true, true_and, decide_true, decide_false, if_true, if_false, Bool.false_eq_true, Bool.not_true, Bool.not_false, Nat.reduceAdd, Nat.reduceMul, Nat.reduceLeDiff, r_exc, s_exc1, s_exc2, r_err0, List.append_assoc, List.cons_append, List.nil_append, List.length_append, List.length_cons, List.length_nil, sq2, C]

theorem atl_mk {c : Cell} {R P U Q : Store} : AtL (c :: (R ++ (P ++ (U ++ Q)))) (R.length + 1 + P.length) U := ⟨fun k x e => by
  have h : (c :: (R ++ (P ++ (U ++ Q))))[R.length + 1 + (P.length + k)]? = (P ++ (U ++ Q))[P.length + k]? := get71 ..
  rw [Nat.add_assoc, h, get_at]
  exact get_app e⟩
theorem law_turn (b : Bag) (hb : b.Ok) (R : Store) (w : WF (b.c :: R)) (x : SV) (x0 x2 x3 x4 x5 x6 x7 x8 x9 x10 x11 x12 x13 : Option SV) :
    ∃ (b' : Bag) (R' : Store) (y3 y4 y5 y6 y7 y8 y9 y10 y11 : Option SV), Bag.Ok b' ∧ WF (b'.c :: R') ∧
      (gNm 2 x [x0, some (.cell 0), x2, x3, x4, x5, x6, x7, x8, x9, x10, x11, x12, x13] (b.c :: R)).bind (k_body f_law_4) = .ok (.nx, [x0, some (.cell 0), some x, y3, y4, y5, y6, y7, y8, y9, y10, y11, x12, x13], b'.c :: R') := by
  obtain ⟨b1, i1, i2, i3, i4, a1, a2, a3, a4, k1, w1, ⟨j1, j2, j3, j4⟩, ⟨g1, g2, g3, g4⟩, e1⟩ := made_run b hb R w
  have h1 : AtL (b1.c :: (R ++ (tsC (R.length + 1) ++ eK (R.length + 25) a1 a2 a3 a4))) (R.length + 1) (thC (R.length + 1)) := by
    have := atl_mk (c := b1.c) (R := R) (P := []) (U := thC (R.length + 1)) (Q := thC (R.length + 7) ++ (thC (R.length + 13) ++ (thC (R.length + 19) ++ eK (R.length + 25) a1 a2 a3 a4)))
    simpa only [tsC, List.append_assoc, Nat.add_assoc, Nat.reduceAdd, List.nil_append, List.length_nil] using this
  have h2 : AtL (b1.c :: (R ++ (tsC (R.length + 1) ++ eK (R.length + 25) a1 a2 a3 a4))) (R.length + 7) (thC (R.length + 7)) := by
    have := atl_mk (c := b1.c) (R := R) (P := thC (R.length + 1)) (U := thC (R.length + 7)) (Q := thC (R.length + 13) ++ (thC (R.length + 19) ++ eK (R.length + 25) a1 a2 a3 a4))
    simpa only [tsC, List.append_assoc, Nat.add_assoc, Nat.reduceAdd, thC_len] using this
  have h3 : AtL (b1.c :: (R ++ (tsC (R.length + 1) ++ eK (R.length + 25) a1 a2 a3 a4))) (R.length + 13) (thC (R.length + 13)) := by
    have := atl_mk (c := b1.c) (R := R) (P := thC (R.length + 1) ++ thC (R.length + 7)) (U := thC (R.length + 13)) (Q := thC (R.length + 19) ++ eK (R.length + 25) a1 a2 a3 a4)
    simpa only [tsC, List.append_assoc, Nat.add_assoc, Nat.reduceAdd, thC_len, List.length_append] using this
  have h4 : AtL (b1.c :: (R ++ (tsC (R.length + 1) ++ eK (R.length + 25) a1 a2 a3 a4))) (R.length + 19) (thC (R.length + 19)) := by
    have := atl_mk (c := b1.c) (R := R) (P := thC (R.length + 1) ++ (thC (R.length + 7) ++ thC (R.length + 13))) (U := thC (R.length + 19)) (Q := eK (R.length + 25) a1 a2 a3 a4)
    simpa only [tsC, List.append_assoc, Nat.add_assoc, Nat.reduceAdd, thC_len, List.length_append] using this
  have hE : AtL (b1.c :: (R ++ (tsC (R.length + 1) ++ eK (R.length + 25) a1 a2 a3 a4))) (R.length + 25) (eK (R.length + 25) a1 a2 a3 a4) := by
    have := atl_mk (c := b1.c) (R := R) (P := tsC (R.length + 1)) (U := eK (R.length + 25) a1 a2 a3 a4) (Q := [])
    simpa only [tsC, List.append_assoc, Nat.add_assoc, Nat.reduceAdd, thC_len, List.length_append, List.append_nil] using this
  have hl : (b1.c :: (R ++ (tsC (R.length + 1) ++ eK (R.length + 25) a1 a2 a3 a4))).length = R.length + 46 := by
    have k : (eK (R.length + 25) a1 a2 a3 a4).length = 21 := rfl
    simp only [tsC, List.length_cons, List.length_append, thC_len, k]
  obtain ⟨S', y5, y6, y7, y8, y9, y10, y11, w', low, e⟩ := tail_run w1 hE h1 h2 h3 h4 (by omega) (by omega) (by omega) (by omega) (by rw [hl]; omega) j1 j2 j3 j4 g1 g2 g3 g4 x0 (some (.cell 0)) (some x) x5 x6 x7 x8 x9 x10 x11 x12 x13
  have hd := low 0 b1.c (by omega) rfl
  obtain ⟨R', rfl⟩ : ∃ R', S' = b1.c :: R' := by
    cases S' with
    | nil => cases hd
    | cons z R' =>
      rw [List.getElem?_cons_zero] at hd
      cases hd
      exact ⟨R', rfl⟩
  refine ⟨b1, R', some (.cell (R.length + 43)), some (.cell (R.length + 44)), y5, y6, y7, y8, y9, y10, y11, k1, w', ?_⟩
  have gt : (b1.c :: (R ++ (tsC (R.length + 1) ++ eK (R.length + 25) a1 a2 a3 a4)))[R.length + 45]? = some (.tup [.cell (R.length + 43), .cell (R.length + 44)]) := hE.at_ 20 _ rfl
  have A : ∀ X : SM, (gNm 2 x [x0, some (.cell 0), x2, x3, x4, x5, x6, x7, x8, x9, x10, x11, x12, x13] (b.c :: R)).bind (k_body (sSeq (sAs (eCallK m_law_made (aC (eV 1) aN)) (gTuC 2 (gCs (gNm 3) (gCs (gNm 4) gNl)))) X)) =
      X [x0, some (.cell 0), some x, some (.cell (R.length + 43)), some (.cell (R.length + 44)), x5, x6, x7, x8, x9, x10, x11, x12, x13] (b1.c :: (R ++ (tsC (R.length + 1) ++ eK (R.length + 25) a1 a2 a3 a4))) := fun X => by
    simp only [RR, DL.isNon, List.replicate_succ, List.replicate_zero, List.set_cons_zero, List.set_cons_succ, List.getElem?_cons_zero, List.getElem?_cons_succ, Option.map_some, Nat.reduceSub, and_self, and_true, true_and, decide_true, decide_false, if_true, if_false, Bool.false_eq_true, Bool.not_true, Bool.not_false, Nat.reduceAdd, Nat.reduceMul, Nat.reduceLeDiff, s_cK e1, s_gTuC (n := 2) _ gt rfl]
  unfold f_law_4
  rw [A]
  exact e
theorem law_loop {x0 x12 x13 : Option SV} : ∀ (xs : List SV) (b : Bag) (R : Store) (x2 x3 x4 x5 x6 x7 x8 x9 x10 x11 : Option SV), b.Ok → WF (b.c :: R) → ∃ (b' : Bag) (R' : Store) (y2 y3 y4 y5 y6 y7 y8 y9 y10 y11 : Option SV), WF (b'.c :: R') ∧
    loopM (fun _ => True) (gNm 2) f_law_4 xs [x0, some (.cell 0), x2, x3, x4, x5, x6, x7, x8, x9, x10, x11, x12, x13] (b.c :: R) = .ok (.nx, [x0, some (.cell 0), y2, y3, y4, y5, y6, y7, y8, y9, y10, y11, x12, x13], b'.c :: R')
  | [], b, R, x2, x3, x4, x5, x6, x7, x8, x9, x10, x11, hb, w => ⟨b, R, x2, x3, x4, x5, x6, x7, x8, x9, x10, x11, w, loop_nil _ _ trivial⟩
  | x :: xs, b, R, x2, x3, x4, x5, x6, x7, x8, x9, x10, x11, hb, w => by
    obtain ⟨b1, R1, y3, y4, y5, y6, y7, y8, y9, y10, y11, k1, w1, st⟩ := law_turn b hb R w x x0 x2 x3 x4 x5 x6 x7 x8 x9 x10 x11 x12 x13
    obtain ⟨b2, R2, z2, z3, z4, z5, z6, z7, z8, z9, z10, z11, w2, ih⟩ := law_loop xs b1 R1 (some x) y3 y4 y5 y6 y7 y8 y9 y10 y11 k1 w1 (x0 := x0) (x12 := x12) (x13 := x13)
    refine ⟨b2, R2, z2, z3, z4, z5, z6, z7, z8, z9, z10, z11, w2, ?_⟩
    rw [loop_cons _ _ _ trivial, st, r_bind, s_turnN, ih]
theorem law_run (ns : List Int) (h : ns.length ≤ 63) : Ends (m_law [.fr (.scr (ns.map D.int))] []) fun r => r.1 = .val (.fr (.bl true)) := by
  obtain ⟨b0, hb, e0⟩ := bag0 ns h
  have w0 : WF [b0.c] := wfb b0
  obtain ⟨b1, R1, y2, y3, y4, y5, y6, y7, y8, y9, y10, y11, w1, lp⟩ := law_loop (x0 := some (.fr (.scr (ns.map D.int)))) (x12 := none) (x13 := none) (rngS 0 (4 : Int).toNat) b0 [] none none none none none none none none none none hb w0
  have s4 : k_r1 ([.fr (.int 4)], [b0.c]) = .ok (⟨rngS 0 (4 : Int).toNat, fun _ => True⟩, [b0.c]) := s_r1 (by decide)
  have lv : leave 0 (.fr (.bl true)) (b1.c :: R1) = .ok (.val (.fr (.bl true)), []) := leave_more (S := []) (T := b1.c :: R1) wf_nil (.bl true)
  have e : m_law [.fr (.scr (ns.map D.int))] [] = .ok (.val (.fr (.bl true)), []) := by
    simp only [RR, DL.isNon, List.replicate_succ, List.replicate_zero, List.set_cons_zero, List.set_cons_succ, List.getElem?_cons_zero, List.getElem?_cons_succ, Option.map_some, Nat.reduceSub, and_self, and_true, true_and, decide_true, decide_false, if_true, if_false, Bool.false_eq_true, Bool.not_true, Bool.not_false, Nat.reduceAdd, Nat.reduceMul, Nat.reduceLeDiff, m_law, b_law, bag_is, e0, List.length_nil, List.nil_append, s4, lp]
    exact lv
  rw [e]
  exact ⟨_, rfl, rfl⟩
theorem tells : DL.Tells 63 m_law := tells_of law_run

theorem allD {P : Program} {w : World} {K : PySem.W.Frag} {mg : Str → Option Value} {h base : Heap} (X : K.In h) (G : h.Ns mainGlobals mg) (c : SaysF fcl fnl K) (TB : TBs K mg base) : CalD P w K mg base 4 "law" m_law := by
  have T : Txt K mg := ⟨He.free_ok X G (c.fact 0 (f := fcFree "ValueError") rfl), He.free_ok X G (c.fact 1 (f := fcFree "abs") rfl), He.free_ok X G (c.fact 2 (f := fcFree "dict") rfl), He.free_ok X G (c.fact 3 (f := fcFree "int") rfl), He.free_ok X G (c.fact 4 (f := fcFree "isinstance") rfl), He.free_ok X G (c.fact 5 (f := fcFree "len") rfl), He.free_ok X G (c.fact 6 (f := fcFree "list") rfl), He.free_ok X G (c.fact 7 (f := fcFree "range") rfl), He.free_ok X G (c.fact 8 (f := fcFree "repr") rfl), He.glo_ok X G (c.fact 9 (f := fcGlo "Full") rfl), He.glo_ok X G (c.fact 10 (f := fcGlo "Held") rfl), He.glo_ok X G (c.fact 11 (f := fcGlo "Idle") rfl), He.glo_ok X G (c.fact 12 (f := fcGlo "LockError") rfl), He.glo_ok X G (c.fact 13 (f := fcGlo "NoCommand") rfl), He.glo_ok X G (c.fact 14 (f := fcGlo "NoDescriptor") rfl), He.glo_ok X G (c.fact 15 (f := fcGlo "NoEntry") rfl), He.glo_ok X G (c.fact 16 (f := fcGlo "NoProcess") rfl), He.glo_ok X G (c.fact 17 (f := fcGlo "NoText") rfl), He.glo_ok X G (c.fact 18 (f := fcGlo "Nothing") rfl), He.glo_ok X G (c.fact 19 (f := fcGlo "Ring") rfl), He.glo_ok X G (c.fact 20 (f := fcGlo "TooMany") rfl), He.glo_ok X G (c.fact 21 (f := fcGlo "Unfit") rfl), He.glo_ok X G (c.fact 22 (f := fcGlo "Waiting") rfl), He.glo_ok X G (c.fact 23 (f := fcGlo "Wrong") rfl), bas_of (c.fact 24 (f := fcBas "LockError") rfl), le_of (He.glo_ok X G (c.fact 12 (f := fcGlo "LockError") rfl)) (c.fact 25 (f := fcLe "LockError") rfl), (xfs_cons (c.fact 26 (f := fcXf "NoEntry" "at") rfl) xfs_nil), (xfs_cons (c.fact 27 (f := fcXf "NoDescriptor" "descriptor") rfl) xfs_nil), (xfs_cons (c.fact 28 (f := fcXf "Held" "first") rfl) xfs_nil), (xfs_cons (c.fact 29 (f := fcXf "Held" "last") rfl) xfs_nil), (xfs_cons (c.fact 30 (f := fcXf "Held" "level") rfl) xfs_nil), (xfs_cons (c.fact 32 (f := fcXf "Full" "limit") rfl) (xfs_cons (c.fact 31 (f := fcXf "TooMany" "limit") rfl) xfs_nil)), (xfs_cons (c.fact 33 (f := fcXf "Ring" "members") rfl) xfs_nil), (xfs_cons (c.fact 34 (f := fcXf "Held" "owner") rfl) xfs_nil), (xfs_cons (c.fact 35 (f := fcXf "Wrong" "place") rfl) xfs_nil), (xfs_cons (c.fact 38 (f := fcXf "Idle" "process") rfl) (xfs_cons (c.fact 37 (f := fcXf "NoProcess" "process") rfl) (xfs_cons (c.fact 36 (f := fcXf "Waiting" "process") rfl) xfs_nil))), (ises_cons (ises_cons (ises_cons (ises_cons (ises_cons (ises_cons (ises_cons (ises_cons (ises_cons (ises_cons (ises_cons (ises_cons (ises_cons (ises_cons (ises_cons ises_nil (c.fact 39 (f := fcIse "Wrong" [("Full", false), ("Held", false), ("Idle", false), ("LockError", true), ("NoCommand", false), ("NoDescriptor", false), ("NoEntry", false), ("NoProcess", false), ("NoText", false), ("Nothing", false), ("Ring", false), ("TooMany", false), ("Unfit", false), ("Waiting", false), ("Wrong", true)] [("ValueError", true)]) rfl)) (c.fact 40 (f := fcIse "Waiting" [("Full", false), ("Held", false), ("Idle", false), ("LockError", true), ("NoCommand", false), ("NoDescriptor", false), ("NoEntry", false), ("NoProcess", false), ("NoText", false), ("Nothing", false), ("Ring", false), ("TooMany", false), ("Unfit", false), ("Waiting", true), ("Wrong", false)] [("ValueError", true)]) rfl)) (c.fact 41 (f := fcIse "Unfit" [("Full", false), ("Held", false), ("Idle", false), ("LockError", true), ("NoCommand", false), ("NoDescriptor", false), ("NoEntry", false), ("NoProcess", false), ("NoText", false), ("Nothing", false), ("Ring", false), ("TooMany", false), ("Unfit", true), ("Waiting", false), ("Wrong", false)] [("ValueError", true)]) rfl)) (c.fact 42 (f := fcIse "TooMany" [("Full", false), ("Held", false), ("Idle", false), ("LockError", true), ("NoCommand", false), ("NoDescriptor", false), ("NoEntry", false), ("NoProcess", false), ("NoText", false), ("Nothing", false), ("Ring", false), ("TooMany", true), ("Unfit", false), ("Waiting", false), ("Wrong", false)] [("ValueError", true)]) rfl)) (c.fact 43 (f := fcIse "Ring" [("Full", false), ("Held", false), ("Idle", false), ("LockError", true), ("NoCommand", false), ("NoDescriptor", false), ("NoEntry", false), ("NoProcess", false), ("NoText", false), ("Nothing", false), ("Ring", true), ("TooMany", false), ("Unfit", false), ("Waiting", false), ("Wrong", false)] [("ValueError", true)]) rfl)) (c.fact 44 (f := fcIse "Nothing" [("Full", false), ("Held", false), ("Idle", false), ("LockError", true), ("NoCommand", false), ("NoDescriptor", false), ("NoEntry", false), ("NoProcess", false), ("NoText", false), ("Nothing", true), ("Ring", false), ("TooMany", false), ("Unfit", false), ("Waiting", false), ("Wrong", false)] [("ValueError", true)]) rfl)) (c.fact 45 (f := fcIse "NoText" [("Full", false), ("Held", false), ("Idle", false), ("LockError", true), ("NoCommand", false), ("NoDescriptor", false), ("NoEntry", false), ("NoProcess", false), ("NoText", true), ("Nothing", false), ("Ring", false), ("TooMany", false), ("Unfit", false), ("Waiting", false), ("Wrong", false)] [("ValueError", true)]) rfl)) (c.fact 46 (f := fcIse "NoProcess" [("Full", false), ("Held", false), ("Idle", false), ("LockError", true), ("NoCommand", false), ("NoDescriptor", false), ("NoEntry", false), ("NoProcess", true), ("NoText", false), ("Nothing", false), ("Ring", false), ("TooMany", false), ("Unfit", false), ("Waiting", false), ("Wrong", false)] [("ValueError", true)]) rfl)) (c.fact 47 (f := fcIse "NoEntry" [("Full", false), ("Held", false), ("Idle", false), ("LockError", true), ("NoCommand", false), ("NoDescriptor", false), ("NoEntry", true), ("NoProcess", false), ("NoText", false), ("Nothing", false), ("Ring", false), ("TooMany", false), ("Unfit", false), ("Waiting", false), ("Wrong", false)] [("ValueError", true)]) rfl)) (c.fact 48 (f := fcIse "NoDescriptor" [("Full", false), ("Held", false), ("Idle", false), ("LockError", true), ("NoCommand", false), ("NoDescriptor", true), ("NoEntry", false), ("NoProcess", false), ("NoText", false), ("Nothing", false), ("Ring", false), ("TooMany", false), ("Unfit", false), ("Waiting", false), ("Wrong", false)] [("ValueError", true)]) rfl)) (c.fact 49 (f := fcIse "NoCommand" [("Full", false), ("Held", false), ("Idle", false), ("LockError", true), ("NoCommand", true), ("NoDescriptor", false), ("NoEntry", false), ("NoProcess", false), ("NoText", false), ("Nothing", false), ("Ring", false), ("TooMany", false), ("Unfit", false), ("Waiting", false), ("Wrong", false)] [("ValueError", true)]) rfl)) (c.fact 50 (f := fcIse "LockError" [("Full", false), ("Held", false), ("Idle", false), ("LockError", true), ("NoCommand", false), ("NoDescriptor", false), ("NoEntry", false), ("NoProcess", false), ("NoText", false), ("Nothing", false), ("Ring", false), ("TooMany", false), ("Unfit", false), ("Waiting", false), ("Wrong", false)] [("ValueError", true)]) rfl)) (c.fact 51 (f := fcIse "Idle" [("Full", false), ("Held", false), ("Idle", true), ("LockError", true), ("NoCommand", false), ("NoDescriptor", false), ("NoEntry", false), ("NoProcess", false), ("NoText", false), ("Nothing", false), ("Ring", false), ("TooMany", false), ("Unfit", false), ("Waiting", false), ("Wrong", false)] [("ValueError", true)]) rfl)) (c.fact 52 (f := fcIse "Held" [("Full", false), ("Held", true), ("Idle", false), ("LockError", true), ("NoCommand", false), ("NoDescriptor", false), ("NoEntry", false), ("NoProcess", false), ("NoText", false), ("Nothing", false), ("Ring", false), ("TooMany", false), ("Unfit", false), ("Waiting", false), ("Wrong", false)] [("ValueError", true)]) rfl)) (c.fact 53 (f := fcIse "Full" [("Full", true), ("Held", false), ("Idle", false), ("LockError", true), ("NoCommand", false), ("NoDescriptor", false), ("NoEntry", false), ("NoProcess", false), ("NoText", false), ("Nothing", false), ("Ring", false), ("TooMany", false), ("Unfit", false), ("Waiting", false), ("Wrong", false)] [("ValueError", true)]) rfl))⟩
  obtain ⟨_, F_Wrong___init__⟩ := c.def_ 0 (d := dd_Wrong___init__) rfl
  have B_Wrong___init__ := F_Wrong___init__.bindsN (ps := ["self", "place"]) fun _ _ _ _ _ _ us hl => match us, hl with | [_, _], _ => rfl
  have x_Wrong___init__ := ok_Wrong___init__ (P := P) (w := w) (base := base) T (He5.fun_of F_Wrong___init__)
  obtain ⟨_, F_Unfit___init__⟩ := c.def_ 1 (d := dd_Unfit___init__) rfl
  have B_Unfit___init__ := F_Unfit___init__.bindsN (ps := ["self"]) fun _ _ _ _ _ _ us hl => match us, hl with | [_], _ => rfl
  have x_Unfit___init__ := ok_Unfit___init__ (P := P) (w := w) (base := base) T (He5.fun_of F_Unfit___init__)
  obtain ⟨_, F_Held___init__⟩ := c.def_ 2 (d := dd_Held___init__) rfl
  have B_Held___init__ := F_Held___init__.bindsN (ps := ["self", "owner", "level", "first", "last"]) fun _ _ _ _ _ _ us hl => match us, hl with | [_, _, _, _, _], _ => rfl
  have x_Held___init__ := ok_Held___init__ (P := P) (w := w) (base := base) T (He5.fun_of F_Held___init__)
  obtain ⟨_, F_TooMany___init__⟩ := c.def_ 3 (d := dd_TooMany___init__) rfl
  have B_TooMany___init__ := F_TooMany___init__.bindsN (ps := ["self", "limit"]) fun _ _ _ _ _ _ us hl => match us, hl with | [_, _], _ => rfl
  have x_TooMany___init__ := ok_TooMany___init__ (P := P) (w := w) (base := base) T (He5.fun_of F_TooMany___init__)
  obtain ⟨_, F_NoProcess___init__⟩ := c.def_ 4 (d := dd_NoProcess___init__) rfl
  have B_NoProcess___init__ := F_NoProcess___init__.bindsN (ps := ["self", "process"]) fun _ _ _ _ _ _ us hl => match us, hl with | [_, _], _ => rfl
  have x_NoProcess___init__ := ok_NoProcess___init__ (P := P) (w := w) (base := base) T (He5.fun_of F_NoProcess___init__)
  obtain ⟨_, F_Waiting___init__⟩ := c.def_ 5 (d := dd_Waiting___init__) rfl
  have B_Waiting___init__ := F_Waiting___init__.bindsN (ps := ["self", "process"]) fun _ _ _ _ _ _ us hl => match us, hl with | [_, _], _ => rfl
  have x_Waiting___init__ := ok_Waiting___init__ (P := P) (w := w) (base := base) T (He5.fun_of F_Waiting___init__)
  obtain ⟨_, F_NoDescriptor___init__⟩ := c.def_ 6 (d := dd_NoDescriptor___init__) rfl
  have B_NoDescriptor___init__ := F_NoDescriptor___init__.bindsN (ps := ["self", "descriptor"]) fun _ _ _ _ _ _ us hl => match us, hl with | [_, _], _ => rfl
  have x_NoDescriptor___init__ := ok_NoDescriptor___init__ (P := P) (w := w) (base := base) T (He5.fun_of F_NoDescriptor___init__)
  obtain ⟨_, F_Full___init__⟩ := c.def_ 7 (d := dd_Full___init__) rfl
  have B_Full___init__ := F_Full___init__.bindsN (ps := ["self", "limit"]) fun _ _ _ _ _ _ us hl => match us, hl with | [_, _], _ => rfl
  have x_Full___init__ := ok_Full___init__ (P := P) (w := w) (base := base) T (He5.fun_of F_Full___init__)
  obtain ⟨_, F_Ring___init__⟩ := c.def_ 8 (d := dd_Ring___init__) rfl
  have B_Ring___init__ := F_Ring___init__.bindsN (ps := ["self", "members"]) fun _ _ _ _ _ _ us hl => match us, hl with | [_, _], _ => rfl
  have x_Ring___init__ := ok_Ring___init__ (P := P) (w := w) (base := base) T (He5.fun_of F_Ring___init__)
  obtain ⟨_, F_Idle___init__⟩ := c.def_ 9 (d := dd_Idle___init__) rfl
  have B_Idle___init__ := F_Idle___init__.bindsN (ps := ["self", "process"]) fun _ _ _ _ _ _ us hl => match us, hl with | [_, _], _ => rfl
  have x_Idle___init__ := ok_Idle___init__ (P := P) (w := w) (base := base) T (He5.fun_of F_Idle___init__)
  obtain ⟨_, F_Nothing___init__⟩ := c.def_ 10 (d := dd_Nothing___init__) rfl
  have B_Nothing___init__ := F_Nothing___init__.bindsN (ps := ["self"]) fun _ _ _ _ _ _ us hl => match us, hl with | [_], _ => rfl
  have x_Nothing___init__ := ok_Nothing___init__ (P := P) (w := w) (base := base) T (He5.fun_of F_Nothing___init__)
  obtain ⟨_, F_NoEntry___init__⟩ := c.def_ 11 (d := dd_NoEntry___init__) rfl
  have B_NoEntry___init__ := F_NoEntry___init__.bindsN (ps := ["self", "at"]) fun _ _ _ _ _ _ us hl => match us, hl with | [_, _], _ => rfl
  have x_NoEntry___init__ := ok_NoEntry___init__ (P := P) (w := w) (base := base) T (He5.fun_of F_NoEntry___init__)
  obtain ⟨_, F_NoText___init__⟩ := c.def_ 12 (d := dd_NoText___init__) rfl
  have B_NoText___init__ := F_NoText___init__.bindsN (ps := ["self"]) fun _ _ _ _ _ _ us hl => match us, hl with | [_], _ => rfl
  have x_NoText___init__ := ok_NoText___init__ (P := P) (w := w) (base := base) T (He5.fun_of F_NoText___init__)
  obtain ⟨_, F_NoCommand___init__⟩ := c.def_ 13 (d := dd_NoCommand___init__) rfl
  have B_NoCommand___init__ := F_NoCommand___init__.bindsN (ps := ["self"]) fun _ _ _ _ _ _ us hl => match us, hl with | [_], _ => rfl
  have x_NoCommand___init__ := ok_NoCommand___init__ (P := P) (w := w) (base := base) T (He5.fun_of F_NoCommand___init__)
  obtain ⟨_, F_law_bag⟩ := c.def_ 14 (d := dd_law_bag) rfl
  have B_law_bag := F_law_bag.bindsN (ps := ["_law_script"]) fun _ _ _ _ _ _ us hl => match us, hl with | [_], _ => rfl
  have c_law_bag := ok_law_bag (P := P) (w := w) (base := base) T (He5.fun_of F_law_bag) (He.glo_ok X G (c.fact 54 (f := fcGlo "_law_bag") rfl)) B_law_bag 
  obtain ⟨_, F_law_take⟩ := c.def_ 15 (d := dd_law_take) rfl
  have B_law_take := F_law_take.bindsN (ps := ["_law_bag_here", "_law_many"]) fun _ _ _ _ _ _ us hl => match us, hl with | [_, _], _ => rfl
  have c_law_take := ok_law_take (P := P) (w := w) (base := base) T (He5.fun_of F_law_take) (He.glo_ok X G (c.fact 55 (f := fcGlo "_law_take") rfl)) B_law_take 
  obtain ⟨_, F_law_kinds⟩ := c.def_ 16 (d := dd_law_kinds) rfl
  have B_law_kinds := F_law_kinds.bindsN (ps := ["_law_e"]) fun _ _ _ _ _ _ us hl => match us, hl with | [_], _ => rfl
  have c_law_kinds := ok_law_kinds (P := P) (w := w) (base := base) T (He5.fun_of F_law_kinds) (He.glo_ok X G (c.fact 56 (f := fcGlo "_law_kinds") rfl)) B_law_kinds 
  obtain ⟨_, F_law_thing⟩ := c.def_ 17 (d := dd_law_thing) rfl
  have B_law_thing := F_law_thing.bindsN (ps := ["_law_bag_here"]) fun _ _ _ _ _ _ us hl => match us, hl with | [_], _ => rfl
  have c_law_thing := ok_law_thing (P := P) (w := w) (base := base) T (He5.fun_of F_law_thing) (He.glo_ok X G (c.fact 57 (f := fcGlo "_law_thing") rfl)) B_law_thing c_law_take
  have XI_NoCommand : ExI P w K mg base 1 "NoCommand" := exi_of (He.glo_ok X G (c.fact 13 (f := fcGlo "NoCommand") rfl)) (ox_of (c.fact 58 (f := fcOx "NoCommand") rfl)) x_NoCommand___init__ B_NoCommand___init__
  have XI_NoText : ExI P w K mg base 1 "NoText" := exi_of (He.glo_ok X G (c.fact 17 (f := fcGlo "NoText") rfl)) (ox_of (c.fact 59 (f := fcOx "NoText") rfl)) x_NoText___init__ B_NoText___init__
  have XI_NoEntry : ExF P w K mg base 1 "NoEntry" ["at"] := exf_of (He.glo_ok X G (c.fact 15 (f := fcGlo "NoEntry") rfl)) (ox_of (c.fact 60 (f := fcOx "NoEntry") rfl)) x_NoEntry___init__ B_NoEntry___init__ (xf_cons (c.fact 26 (f := fcXf "NoEntry" "at") rfl) xf_nil)
  have XI_Nothing : ExI P w K mg base 1 "Nothing" := exi_of (He.glo_ok X G (c.fact 18 (f := fcGlo "Nothing") rfl)) (ox_of (c.fact 61 (f := fcOx "Nothing") rfl)) x_Nothing___init__ B_Nothing___init__
  have XI_Idle : ExF P w K mg base 1 "Idle" ["process"] := exf_of (He.glo_ok X G (c.fact 11 (f := fcGlo "Idle") rfl)) (ox_of (c.fact 62 (f := fcOx "Idle") rfl)) x_Idle___init__ B_Idle___init__ (xf_cons (c.fact 38 (f := fcXf "Idle" "process") rfl) xf_nil)
  have XI_Ring : ExF P w K mg base 1 "Ring" ["members"] := exf_of (He.glo_ok X G (c.fact 19 (f := fcGlo "Ring") rfl)) (ox_of (c.fact 63 (f := fcOx "Ring") rfl)) x_Ring___init__ B_Ring___init__ (xf_cons (c.fact 33 (f := fcXf "Ring" "members") rfl) xf_nil)
  have XI_Full : ExF P w K mg base 1 "Full" ["limit"] := exf_of (He.glo_ok X G (c.fact 9 (f := fcGlo "Full") rfl)) (ox_of (c.fact 64 (f := fcOx "Full") rfl)) x_Full___init__ B_Full___init__ (xf_cons (c.fact 32 (f := fcXf "Full" "limit") rfl) xf_nil)
  have XI_NoDescriptor : ExF P w K mg base 1 "NoDescriptor" ["descriptor"] := exf_of (He.glo_ok X G (c.fact 14 (f := fcGlo "NoDescriptor") rfl)) (ox_of (c.fact 65 (f := fcOx "NoDescriptor") rfl)) x_NoDescriptor___init__ B_NoDescriptor___init__ (xf_cons (c.fact 27 (f := fcXf "NoDescriptor" "descriptor") rfl) xf_nil)
  have XI_Waiting : ExF P w K mg base 1 "Waiting" ["process"] := exf_of (He.glo_ok X G (c.fact 22 (f := fcGlo "Waiting") rfl)) (ox_of (c.fact 66 (f := fcOx "Waiting") rfl)) x_Waiting___init__ B_Waiting___init__ (xf_cons (c.fact 36 (f := fcXf "Waiting" "process") rfl) xf_nil)
  have XI_NoProcess : ExF P w K mg base 1 "NoProcess" ["process"] := exf_of (He.glo_ok X G (c.fact 16 (f := fcGlo "NoProcess") rfl)) (ox_of (c.fact 67 (f := fcOx "NoProcess") rfl)) x_NoProcess___init__ B_NoProcess___init__ (xf_cons (c.fact 37 (f := fcXf "NoProcess" "process") rfl) xf_nil)
  have XI_TooMany : ExF P w K mg base 1 "TooMany" ["limit"] := exf_of (He.glo_ok X G (c.fact 20 (f := fcGlo "TooMany") rfl)) (ox_of (c.fact 68 (f := fcOx "TooMany") rfl)) x_TooMany___init__ B_TooMany___init__ (xf_cons (c.fact 31 (f := fcXf "TooMany" "limit") rfl) xf_nil)
  have XI_Held : ExF P w K mg base 1 "Held" ["owner", "level", "first", "last"] := exf_of (He.glo_ok X G (c.fact 10 (f := fcGlo "Held") rfl)) (ox_of (c.fact 69 (f := fcOx "Held") rfl)) x_Held___init__ B_Held___init__ (xf_cons (c.fact 34 (f := fcXf "Held" "owner") rfl) (xf_cons (c.fact 30 (f := fcXf "Held" "level") rfl) (xf_cons (c.fact 28 (f := fcXf "Held" "first") rfl) (xf_cons (c.fact 29 (f := fcXf "Held" "last") rfl) xf_nil))))
  have XI_Unfit : ExI P w K mg base 1 "Unfit" := exi_of (He.glo_ok X G (c.fact 21 (f := fcGlo "Unfit") rfl)) (ox_of (c.fact 70 (f := fcOx "Unfit") rfl)) x_Unfit___init__ B_Unfit___init__
  have XI_Wrong : ExF P w K mg base 1 "Wrong" ["place"] := exf_of (He.glo_ok X G (c.fact 23 (f := fcGlo "Wrong") rfl)) (ox_of (c.fact 71 (f := fcOx "Wrong") rfl)) x_Wrong___init__ B_Wrong___init__ (xf_cons (c.fact 35 (f := fcXf "Wrong" "place") rfl) xf_nil)
  obtain ⟨_, F_law_made⟩ := c.def_ 18 (d := dd_law_made) rfl
  have B_law_made := F_law_made.bindsN (ps := ["_law_bag_here"]) fun _ _ _ _ _ _ us hl => match us, hl with | [_], _ => rfl
  have c_law_made := ok_law_made (P := P) (w := w) (base := base) T (He5.fun_of F_law_made) (He.glo_ok X G (c.fact 72 (f := fcGlo "_law_made") rfl)) B_law_made XI_NoCommand XI_NoText XI_NoEntry XI_Nothing XI_Idle XI_Ring XI_Full XI_NoDescriptor XI_Waiting XI_NoProcess XI_TooMany XI_Held XI_Unfit XI_Wrong c_law_thing
  obtain ⟨_, F_law⟩ := c.def_ 19 (d := dd_law) rfl
  have B_law := F_law.bindsN (ps := ["_law_script"]) fun _ _ _ _ _ _ us hl => match us, hl with | [_], _ => rfl
  have c_law := ok_law (P := P) (w := w) (base := base) T (He5.fun_of F_law) (He.glo_ok X G (c.fact 73 (f := fcGlo "law") rfl)) B_law c_law_kinds c_law_made c_law_bag
  exact c_law
end K17
open PySem PySem.W PySem.Calls PyProof.Rows
theorem PySem.Challenge.cw_byteholds_k17_errors_kept_holds : PySem.Challenge.rw_byteholds_k17_errors_kept.Holds := by
  w_on; o_law
  refine HandSHeadRun.head_any (r := OpenLaw.row PySem.Challenge.rw_byteholds_k17_errors_kept) (q := view (OpenLaw.row PySem.Challenge.rw_byteholds_k17_errors_kept).prog [22]) (H := K17.hkD) (ob := K17.obD) (M := 6000) (loose := ("LockError" :: "Wrong" :: "Unfit" :: "Held" :: "TooMany" :: "NoProcess" :: "Waiting" :: "NoDescriptor" :: "Full" :: "Ring" :: "Idle" :: "Nothing" :: "NoEntry" :: "NoText" :: "NoCommand" :: "_law_bag" :: "_law_take" :: "_law_thing" :: "_law_made" :: "_law_kinds" :: [])) (d := HandSHeadRun.topDef (OpenLaw.row PySem.Challenge.rw_byteholds_k17_errors_kept).prog 22) (kwd := []) K17.obD_eq
    (by kernel_rfl) (fun s => by kernel_rfl) K17.ranD (by kernel_rfl) (by kernel_rfl) (by kernel_rfl) (by rfl) (by first | assumption | decide +kernel) (by decide +kernel) ⟨rfl, rfl, rfl, rfl, rfl, by decide +kernel⟩ ?hw ?hc
  case hw => w_witness2
  case hc =>
    refine DL.walkD (l := PySem.Challenge.rw_byteholds_k17_errors_kept) (n := 63) (k := 4) rfl (by decide) (by kernel_rfl) ⟨rfl, by decide, by decide⟩ (fun w mg h Y G => ?_) K17.tells
    obtain ⟨K, X, c, t⟩ := Y
    have e : (HandSHeadRun.topDef (OpenLaw.row PySem.Challenge.rw_byteholds_k17_errors_kept).prog 22).name = ("law" : PySem.Str) := by kernel_rfl
    refine ⟨K, X, t, fun base _ _ TB => ?_⟩
    rw [e]
    exact K17.allD X G c TB

