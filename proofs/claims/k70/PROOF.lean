import PyProof.Rows.All
import Wide.All
import OpenK.AllK
import Wide.FinOn
import KE.KStateDown
import HandS.ForMost
import HandS.NoneIn
import HandS.SetFor
import HandS.ForExc
import HandS.TupAny
import HandS.Wide
import HandS.Flow
import HandS.More
import HandS.Ends
import HandS.Defaults
import HandS.MakeKwOnly
import HandS.Head0
import HandS.Head1
import HandS.Head2
import HandS.HeadEnd
import HandS.HeadHook1
import HandS.HeadHook2
import HandS.HeadNt
import HandS.Words
import HandS.WordsExc
import HandS.Style
import HandS.SortKw
import HandS.IsInst
import HandS.Small
import HandS.Deep
import HandS.ClsMeth
import HandS.CallLocal
import KE.SortKeyHeap
import KE.IntTextText
import KE.KIntText
import KE.KOpsOwn
import OpenK.KMeth
import OpenK.KOps
import PyProof.ReprBulk
import PyProof.ReprRoads
import HandS.HeadHook3
import HandS.HeadHook4
import HandS.Lambda
import HandS.ExcField
import HandS.ExcInit
import HandS.EndTab
import HandS.TupSets
import PyProof.Conv_bool
import HandS.Set
import HandS.Strs
import PyProof.Rows.SortShellAny
import KE.KFmtOwn
import PyProof.InstEq
import HandS.Conv
import HandS.ForDict
import HandS.WordsDict
import HandS.ExcIs
import KE.KExcIs
import HandS.TryOnly
import HandS.RaiseMore
import HandS.Text
import HandS.Steps
import HandS.Walk
import KE.KDictPairs
import KE.SortData
import HandS.DictTup
import HandS.Records
import KE.SortCalls
import PyProof.P3Eq
import KE.KLam
import KE.DataMinKey
import KE.KDictWalk
import HandS.Property
import KE.DataMinMax
import KE.DataFind
import KE.LtData
import HandS.List
import PyProof.ListCopy
import PyProof.CallStr
import HandS.Zip
import KE.GoesZip
import KE.GoesMore
import KE.GoesEnum
import HandS.RevRange
import HandS.Iter
import KE.KDictDisplayH
import HandS.Dict
import PyProof.ListMulRoad
import PyProof.FactsAll.tuple_2
import HandS.Base
import HandS.Call
import HandS.TupMul
import HandS.SortInts
import KE.KSortTup
import PyProof.CollectIter
import PyProof.TupleIter
import PyProof.WalksMore
import HandS.SetKeys
import HandS.FStr
import HandS.Comp
import HandS.Exc
import HandS.ExcOwn
import HandS.HotCalls
import PyProof.StrOps2
import PySem.Challenge.RW_byteholds_k70_crowds_known
set_option Elab.async false
set_option linter.all false
set_option maxRecDepth 100000
set_option maxHeartbeats 4000000
namespace DL
open PySem PySem.Spec PyProof.Rows L2
def subSt (st : Stmt) (j : Nat) : Stmt := match st with
  | .ClassDef _ _ _ b _ _ _ _ _ _ _ => b.getD j (.Pass ⟨0, 0, 0, 0⟩)
  | _ => .Pass ⟨0, 0, 0, 0⟩
abbrev Fc := PySem.W.Frag → Bool
def obsF (fs : List Fc) (fn : List He5.DefA) (K : PySem.W.Frag) : He.AlD := ((fs.all fun f => f K) && fn.all fun d => d.ok K, fn.map fun d => He5.fnA K (d.at_ K))
def SaysF (fs : List Fc) (fn : List He5.DefA) (K : PySem.W.Frag) : Prop := obsF fs fn K = He5.valA fn
def fcCls (n : Str) : Fc := fun K => (He.Fa.cls n).ok K
def fcNo (n f : Str) : Fc := fun K => (He.Fa.noat n f).ok K
def fcGlo (x : Str) : Fc := fun K => (He.Fa.glo x).ok K
def fcFree (x : Str) : Fc := fun K => (He.Fa.free x).ok K
def fcMeth (n m : Str) : Fc := fun K => (He.Fa.meth n m).ok K
def fcMk (n : Str) : Fc := fun K => (He.Fa.mkr n).ok K
def fcSelf (n : Str) : Fc := fun K => PySem.W.selfFirst K (He.ga K n)
def fcIsi (n : Str) : Fc := fun K => He.eqO (PySem.W.findIn K (.ref (He.ga K n)) "__class__") (some (some (.builtin "object.__class__"))) && (He.eqO (PySem.W.specialIn K (.builtin "object.__class__") "__get__") (some (some (.builtin "getset_descriptor.__get__"))) &&
  (decide (PySem.W.takesIn K (.builtin "object.__class__") = some true) && (decide (PySem.W.mroIn K (He.ga K n) (.type "object") = some true) && (decide (PySem.W.kitOne K (.ref (He.ga K n)) (.ref (He.ga K n)) = some true) &&
  (["NoneType", "bool", "int", "str", "tuple", "list"].all fun t => decide (PySem.W.kitOne K (.type t) (.ref (He.ga K n)) = some false))))))
def fcInt (x : Str) (i : Int) : Fc := fun K => (He.Fa.int x i).ok K
def six : List String := ["NoneType", "bool", "int", "str", "tuple", "list"]
def fcEqs (ns : List Str) : Fc := fun K => (ns.all fun n => He.eqO (PySem.W.findIn K (.ref (He.ga K n)) "__ne__") (some (some (.builtin "object.__ne__")))) && ((ns.all fun n => decide (PySem.W.mroIn K (He.ga K n) (.type "object") = some true)) &&
  ((ns.all fun n => six.all fun t => PySem.W.notFirst K (He.ga K n) (.type t)) && (ns.all fun n => ns.all fun m => PySem.W.notFirst K (He.ga K n) (.ref (He.ga K m)))))
abbrev IsT := List (Str × Bool)
def fcExc (n : Str) : Fc := fun K => decide ((PySem.W.clsIn K (He.ga K n)).isSome = true) && (He.eqO (PySem.W.findIn K (.ref (He.ga K n)) "__getattribute__") (some (some (.builtin "BaseException.__getattribute__"))) && (He.eqO (PySem.W.findIn K (.ref (He.ga K n)) "__getattr__") (some none) &&
  (decide (PySem.W.subIn K (.ref (He.ga K n)) (.type "BaseException") = some true) && (He.eqO (PySem.W.findIn K (.ref (He.ga K n)) "__class__") (some (some (.builtin "object.__class__"))) && (He.eqO (PySem.W.specialIn K (.builtin "object.__class__") "__get__") (some (some (.builtin "getset_descriptor.__get__"))) &&
  (decide (PySem.W.takesIn K (.builtin "object.__class__") = some true) && decide (PySem.W.mroIn K (He.ga K n) (.type "object") = some true)))))))
abbrev TyT := List (String × Bool)
def fcIse (C : Str) (tb : IsT) (tt : TyT) : Fc := fun K => fcExc C K && ((tb.all fun p => decide (PySem.W.kitOne K (.ref (He.ga K C)) (.ref (He.ga K p.1)) = some p.2)) && tt.all fun p => decide (PySem.W.kitOne K (.ref (He.ga K C)) (.type p.1) = some p.2))
def fcExm (C L : Str) (b : Bool) : Fc := fun K => decide (PySem.W.exmOne K (.ref (He.ga K C)) (.ref (He.ga K L)) = some b)
def isVI (r : Option PySem.W.CFound) : Bool := match r with
  | some (.val (.builtin i)) => i == "ValueError.__init__"
  | _ => false
def fcBas (n : Str) : Fc := fun K => PySem.W.readsIn K (He.ga K n) (.type "type") && (He.eqO (PySem.W.specialIn K (.ref (He.ga K n)) "__getattribute__") (some (some (.builtin "type.__getattribute__"))) &&
  isVI (PySem.W.findCls K (.ref (He.ga K n)) (.type "type") "__init__"))
def oexB (K : PySem.W.Frag) (C : Addr) : Bool := match K.lookup C with
  | some ⟨.type "type", _, .cls cd, sl⟩ => (match cd.mro, sl.toList with
    | .ref C' :: bm, [_, _, _, _, some (.builtin n), _] => C' == C && (n == "ValueError.__new__" && (!cd.hasDel && (cd.hasDict && PySem.HandSPX.refsVE bm)))
    | _, _ => false)
  | _ => false
def fcOx (n : Str) : Fc := fun K => oexB K (He.ga K n) && (He.eqO (PySem.W.findIn K (.ref (He.ga K n)) "__setattr__") (some (some (.builtin "object.__setattr__"))) && (decide (PySem.W.subIn K (.ref (He.ga K n)) (.type "BaseException") = some true) &&
  (decide (PySem.W.typeIn K (.ref (He.ga K n)) = some (.type "type")) && (PySem.W.keepIn K (.ref (He.ga K n)) && (He.eqO (PySem.W.findIn K (.ref (He.ga K n)) "__init__") (some (some (.ref (He.ma K (He.ga K n) "__init__")))) &&
  decide (PySem.W.typeIn K (.ref (He.ma K (He.ga K n) "__init__")) = some (.type "function")))))))
def lamDefs : List (He.Defn × Str) := [(("Table", some "in_the_way"), "Table.in_the_way.<locals>.<lambda>"), (("Table", some "locks"), "Table.locks.<locals>.<lambda>")]
def knownT (K : PySem.W.Frag) (p : He.Defn) : Bool := PySem.W.codeHdIn K (He.cT K p).1 (He.cT K p).2
def tabL (K : PySem.W.Frag) : List (Addr × Str) := (lamDefs.filter fun p => knownT K p.1).map fun p => ((He.cT K p.1).2, p.2)
def fcXf (n f : Str) : Fc := fun K => L2.xfB K (He.ga K n) && decide (PySem.W.findIn K (.ref (He.ga K n)) f = some none)
def TabsE (K : PySem.W.Frag) (h : Heap) : Prop := (∀ p ∈ tabL K, h.get? p.1 = some { cls := .none, data := .fields #[] } ∧ K.lookup p.1 = none) ∧ ∀ p ∈ tabL K, ∀ q ∈ tabL K, p.1 = q.1 → p.2 = q.2
theorem TabsE.keeps {K : PySem.W.Frag} {h h' : Heap} (t : TabsE K h) (k : ∀ b o, h.get? b = some o → h'.get? b = some o) : TabsE K h' := ⟨fun p hp => ⟨k _ _ (t.1 p hp).1, (t.1 p hp).2⟩, t.2⟩
def tabsE (g : Addr → Option Obj) (K : PySem.W.Frag) : Bool := (tabL K).all (fun p => match g p.1 with
  | some o => He.emptyTab o
  | none => false) && (tabL K).all fun p => (tabL K).all fun q => decide (p.1 = q.1 → p.2 = q.2)
theorem tabsE_ok {g : Addr → Option Obj} {as : List Addr} {h : Heap} (e : g = h.get?) (t : tabsE g (He.frT g as) = true) : TabsE (He.frT g as) h := by
  unfold tabsE at t
  rw [Bool.and_eq_true] at t
  refine ⟨fun p hp => ?_, fun p hp q hq => of_decide_eq_true (List.all_eq_true.mp (List.all_eq_true.mp t.2 p hp) q hq)⟩
  have h1 := List.all_eq_true.mp t.1 p hp
  cases q : g p.1 with
  | none => rw [q] at h1; cases h1
  | some o =>
    rw [q] at h1
    refine ⟨?_, He.frT_none q h1⟩
    rw [← e, q, He.emptyTab_eq h1]
def obsFT (fs : List Fc) (fn : List He5.DefA) (g : Addr → Option Obj) (K : PySem.W.Frag) : He.AlD := ((obsF fs fn K).1 && tabsE g K, (obsF fs fn K).2)
end DL

namespace K70
open PySem PySem.Spec PyProof.Rows L2 DL
def top (i : Nat) : Stmt := PySem.Challenge.pw_byteholds_k70_crowds_known.main.body.getD i (.Pass ⟨0, 0, 0, 0⟩)
abbrev s_Wrong___init__ : Stmt := subSt (top 3) 0
abbrev s_is_integer : Stmt := top 8
abbrev s_Crowd_programs : Stmt := subSt (top 20) 1
abbrev s_Crowd___eq__ : Stmt := subSt (top 20) 6
abbrev s_law_bag : Stmt := top 22
abbrev s_law_take : Stmt := top 23
abbrev s_law_is_number : Stmt := top 25
abbrev s_is_between : Stmt := top 9
abbrev s_is_byte : Stmt := top 10
abbrev s_law_is_call : Stmt := top 26
abbrev s_law_good : Stmt := top 28
abbrev s_law_odd : Stmt := top 29
abbrev s_span_fault : Stmt := top 11
abbrev s_is_level : Stmt := top 13
abbrev s_law_alike : Stmt := top 24
abbrev s_law_are_programs : Stmt := top 27
abbrev s_law_bent : Stmt := top 30
abbrev s_is_span : Stmt := top 12
abbrev s_is_plain_call : Stmt := top 17
abbrev s_is_program : Stmt := top 18
abbrev s_are_programs : Stmt := top 19
abbrev s_Crowd___init__ : Stmt := subSt (top 20) 0
abbrev s_law_told : Stmt := top 31
abbrev s_law_unlike_right : Stmt := top 32
abbrev s_law_right : Stmt := top 33
abbrev s_law : Stmt := top 34
def dd_Wrong___init__ : He5.DefA := ⟨fun K => He.ma K (He.ga K "Wrong") "__init__", "__init__", "Wrong.__init__", defArgs s_Wrong___init__, defBody s_Wrong___init__, defScope s_Wrong___init__, [], []⟩
def dd_is_integer : He5.DefA := ⟨fun K => He.ga K "is_integer", "is_integer", "is_integer", defArgs s_is_integer, defBody s_is_integer, defScope s_is_integer, [], []⟩
def dd_Crowd_programs : He5.DefA := ⟨fun K => He.ma K (He.ga K "Crowd") "programs", "programs", "Crowd.programs", defArgs s_Crowd_programs, defBody s_Crowd_programs, defScope s_Crowd_programs, [], []⟩
def dd_Crowd___eq__ : He5.DefA := ⟨fun K => He.ma K (He.ga K "Crowd") "__eq__", "__eq__", "Crowd.__eq__", defArgs s_Crowd___eq__, defBody s_Crowd___eq__, defScope s_Crowd___eq__, [], []⟩
def dd_law_bag : He5.DefA := ⟨fun K => He.ga K "_law_bag", "_law_bag", "_law_bag", defArgs s_law_bag, defBody s_law_bag, defScope s_law_bag, [], []⟩
def dd_law_take : He5.DefA := ⟨fun K => He.ga K "_law_take", "_law_take", "_law_take", defArgs s_law_take, defBody s_law_take, defScope s_law_take, [], []⟩
def dd_law_is_number : He5.DefA := ⟨fun K => He.ga K "_law_is_number", "_law_is_number", "_law_is_number", defArgs s_law_is_number, defBody s_law_is_number, defScope s_law_is_number, [], []⟩
def dd_is_between : He5.DefA := ⟨fun K => He.ga K "is_between", "is_between", "is_between", defArgs s_is_between, defBody s_is_between, defScope s_is_between, [], []⟩
def dd_is_byte : He5.DefA := ⟨fun K => He.ga K "is_byte", "is_byte", "is_byte", defArgs s_is_byte, defBody s_is_byte, defScope s_is_byte, [], []⟩
def dd_law_is_call : He5.DefA := ⟨fun K => He.ga K "_law_is_call", "_law_is_call", "_law_is_call", defArgs s_law_is_call, defBody s_law_is_call, defScope s_law_is_call, [], []⟩
def dd_law_good : He5.DefA := ⟨fun K => He.ga K "_law_good", "_law_good", "_law_good", defArgs s_law_good, defBody s_law_good, defScope s_law_good, [], []⟩
def dd_law_odd : He5.DefA := ⟨fun K => He.ga K "_law_odd", "_law_odd", "_law_odd", defArgs s_law_odd, defBody s_law_odd, defScope s_law_odd, [], []⟩
def dd_span_fault : He5.DefA := ⟨fun K => He.ga K "span_fault", "span_fault", "span_fault", defArgs s_span_fault, defBody s_span_fault, defScope s_span_fault, [], []⟩
def dd_is_level : He5.DefA := ⟨fun K => He.ga K "is_level", "is_level", "is_level", defArgs s_is_level, defBody s_is_level, defScope s_is_level, [], []⟩
def dd_law_alike : He5.DefA := ⟨fun K => He.ga K "_law_alike", "_law_alike", "_law_alike", defArgs s_law_alike, defBody s_law_alike, defScope s_law_alike, [], []⟩
def dd_law_are_programs : He5.DefA := ⟨fun K => He.ga K "_law_are_programs", "_law_are_programs", "_law_are_programs", defArgs s_law_are_programs, defBody s_law_are_programs, defScope s_law_are_programs, [], []⟩
def dd_law_bent : He5.DefA := ⟨fun K => He.ga K "_law_bent", "_law_bent", "_law_bent", defArgs s_law_bent, defBody s_law_bent, defScope s_law_bent, [], []⟩
def dd_is_span : He5.DefA := ⟨fun K => He.ga K "is_span", "is_span", "is_span", defArgs s_is_span, defBody s_is_span, defScope s_is_span, [], []⟩
def dd_is_plain_call : He5.DefA := ⟨fun K => He.ga K "is_plain_call", "is_plain_call", "is_plain_call", defArgs s_is_plain_call, defBody s_is_plain_call, defScope s_is_plain_call, [], []⟩
def dd_is_program : He5.DefA := ⟨fun K => He.ga K "is_program", "is_program", "is_program", defArgs s_is_program, defBody s_is_program, defScope s_is_program, [], []⟩
def dd_are_programs : He5.DefA := ⟨fun K => He.ga K "are_programs", "are_programs", "are_programs", defArgs s_are_programs, defBody s_are_programs, defScope s_are_programs, [], []⟩
def dd_Crowd___init__ : He5.DefA := ⟨fun K => He.ma K (He.ga K "Crowd") "__init__", "__init__", "Crowd.__init__", defArgs s_Crowd___init__, defBody s_Crowd___init__, defScope s_Crowd___init__, [], []⟩
def dd_law_told : He5.DefA := ⟨fun K => He.ga K "_law_told", "_law_told", "_law_told", defArgs s_law_told, defBody s_law_told, defScope s_law_told, [], []⟩
def dd_law_unlike_right : He5.DefA := ⟨fun K => He.ga K "_law_unlike_right", "_law_unlike_right", "_law_unlike_right", defArgs s_law_unlike_right, defBody s_law_unlike_right, defScope s_law_unlike_right, [], []⟩
def dd_law_right : He5.DefA := ⟨fun K => He.ga K "_law_right", "_law_right", "_law_right", defArgs s_law_right, defBody s_law_right, defScope s_law_right, [], []⟩
def dd_law : He5.DefA := ⟨fun K => He.ga K "law", "law", "law", defArgs s_law, defBody s_law, defScope s_law, [], []⟩
def fnl : List He5.DefA := [dd_Wrong___init__, dd_is_integer, dd_Crowd_programs, dd_Crowd___eq__, dd_law_bag, dd_law_take, dd_law_is_number, dd_is_between, dd_is_byte, dd_law_is_call, dd_law_good, dd_law_odd, dd_span_fault, dd_is_level, dd_law_alike, dd_law_are_programs, dd_law_bent, dd_is_span, dd_is_plain_call, dd_is_program, dd_are_programs, dd_Crowd___init__, dd_law_told, dd_law_unlike_right, dd_law_right, dd_law]
def fcl : List Fc := [fcFree "ValueError", fcFree "abs", fcFree "all", fcFree "bool", fcFree "int", fcFree "isinstance", fcFree "len", fcFree "list", fcFree "range", fcFree "repr", fcFree "sum", fcFree "tuple", fcGlo "Crowd", fcGlo "LockError", fcGlo "TooMany", fcGlo "Unfit", fcGlo "Wrong", fcInt "MOST_CALLS" (6), fcInt "MOST_LEVEL" (2), fcInt "MOST_PROGRAMS" (4), fcCls "Crowd", fcNo "Crowd" "kept_programs", fcIsi "Crowd", fcBas "LockError", fcXf "Wrong" "place", fcExm "Wrong" "LockError" true, fcIse "Wrong" [("TooMany", false), ("Unfit", false), ("Wrong", true)] [("ValueError", true)], fcEqs ["Crowd"], fcGlo "is_integer", fcMeth "Crowd" "programs", fcMeth "Crowd" "__eq__", fcGlo "_law_bag", fcGlo "_law_take", fcGlo "_law_is_number", fcGlo "is_between", fcGlo "is_byte", fcGlo "_law_is_call", fcGlo "_law_good", fcGlo "_law_odd", fcGlo "span_fault", fcGlo "is_level", fcSelf "Crowd", fcGlo "_law_alike", fcGlo "_law_are_programs", fcGlo "_law_bent", fcGlo "is_span", fcGlo "is_plain_call", fcGlo "is_program", fcGlo "are_programs", fcOx "Wrong", fcMeth "Crowd" "__init__", fcMk "Crowd", fcGlo "_law_told", fcGlo "_law_unlike_right", fcGlo "_law_right", fcGlo "law"]
abbrev RW : PySem.W.OpenRow := PySem.W.OpenLaw.row PySem.Challenge.rw_byteholds_k70_crowds_known
def allA : List Addr := List.range 1000
def obsL (g : Addr → Option Obj) : He.AlD := obsFT fcl fnl g (He.frT g allA)
abbrev hkD : PySem.W.Hook where
  α := He.AlD
  obs := fun z => obsL z.heap.get?
  val := fun _ => He5.valA fnl
  says := fun _ hp => ∃ K : PySem.W.Frag, K.In hp ∧ SaysF fcl fnl K ∧ TabsE K hp
  of := fun _ z q => by
    have q : obsFT fcl fnl z.heap.get? (He.frT z.heap.get? allA) = He5.valA fnl := q
    have q1 : ((obsF fcl fnl (He.frT z.heap.get? allA)).1 && tabsE z.heap.get? (He.frT z.heap.get? allA)) = true := congrArg (·.1) q
    have q2 : (obsF fcl fnl (He.frT z.heap.get? allA)).2 = (He5.valA fnl).2 := congrArg (·.2) q
    rw [Bool.and_eq_true] at q1
    exact ⟨_, He.frT_in, Prod.ext q1.1 q2, tabsE_ok rfl q1.2⟩
  keeps := fun _ _ _ ⟨K, hK, c, t⟩ q => ⟨K, PySem.W.Frag.In.keeps hK q, c, t.keeps q⟩
def obD (s : PySem.W.SharedT) : He.AlD := obsL (HandSHeadRun.getT s)
theorem obD_eq (s : PySem.W.SharedT) : obD s = hkD.obs s.abs := by
  have e : HandSHeadRun.getT s = s.abs.heap.get? := funext (HandSHeadRun.getT_eq s)
  show obsL (HandSHeadRun.getT s) = obsL s.abs.heap.get?
  rw [e]
theorem ranD (w : World) : HandSHeadRun.RunEq RW (PySem.W.view RW.prog [34]) hkD obD 6000 ("_wall" :: "LockError" :: "Wrong" :: "Unfit" :: "TooMany" :: "MOST_LEVEL" :: "is_integer" :: "is_between" :: "is_byte" :: "span_fault" :: "is_span" :: "is_level" :: "MOST_PROGRAMS" :: "MOST_CALLS" :: "is_plain_call" :: "is_program" :: "are_programs" :: "Crowd" :: "_law_bag" :: "_law_take" :: "_law_alike" :: "_law_is_number" :: "_law_is_call" :: "_law_are_programs" :: "_law_good" :: "_law_odd" :: "_law_bent" :: "_law_told" :: "_law_unlike_right" :: "_law_right" :: []) w := by
  intro os
  kernel_rfl
end K70

namespace DL
open PySem L2

inductive D where
  | non | bl (b : Bool) | int (i : Int) | str (x : Str) | ty (n : String) | ref (a : Addr)
  | tup (ds : List D) | lst (ds : List D) | scr (ds : List D) | ins (C : Str) (fs : List (Str × D)) | cls (n : Str) | dct (kvs : List (Key × D))
  | exn (a : Addr) (od : Option Addr) (C : Str) (fs : List (Str × D))
inductive SV where
  | fr (d : D) | cell (k : Nat)
inductive Cell where
  | lst (xs : List SV) | ins (C : Str) (fs : List (Str × SV)) | tup (xs : List SV) | dic (kvs : List (Key × SV)) | dit (kvs : List (List Key × SV)) | dil (kvs : List (List Key × SV)) | dkl (kvs : List (Key × SV)) | err (C : Str)
abbrev Store := List Cell
abbrev Slots := List (Option SV)
structure Exc where
  cls : Str
  fs : List (Str × D)
inductive Res (α : Type) where
  | ok (a : α) | exc (e : Exc) (r : Slots) (s : Store) | stuck
def Res.bind {α β : Type} : Res α → (α → Res β) → Res β
  | .ok a, f => f a
  | .exc e r s, _ => .exc e r s
  | .stuck, _ => .stuck
def holds {α : Type} (r : Res α) (Q : α → Prop) (E : Exc → Slots → Store → Prop) : Prop := match r with
  | .ok a => Q a
  | .exc e r s => E e r s
  | .stuck => False
theorem holds_bind {α β : Type} {r : Res α} {f : α → Res β} {Q : β → Prop} {E : Exc → Slots → Store → Prop} (h : holds (r.bind f) Q E) : holds r (fun a => holds (f a) Q E) E := by
  cases r <;> exact h
theorem holds_imp {α : Type} {r : Res α} {Q Q' : α → Prop} {E E' : Exc → Slots → Store → Prop} (h : holds r Q E) (hq : ∀ a, Q a → Q' a) (he : ∀ e r s, E e r s → E' e r s) : holds r Q' E' := by
  cases r with
  | ok a => exact hq a h
  | exc e r s => exact he e r s h
  | stuck => exact h

def unT : Option HO → Option HO
  | some (.tbl _) => none
  | o => o
theorem unT_some {o : Option HO} {u : HO} (h : unT o = some u) : o = some u ∧ ∀ ps, u ≠ .tbl ps := by
  unfold unT at h
  split at h
  · cases h
  · rename_i o' hn
    subst h
    exact ⟨rfl, fun ps e => hn ps (by rw [e])⟩
theorem unT_of {u : HO} (h : ∀ ps, u ≠ .tbl ps) : unT (some u) = some u := by
  unfold unT
  split
  · rename_i ps e
    exact (h ps (Option.some.inj e)).elim
  · rfl
def hide (ph : List Addr) (H : Hp) : Hp := fun a => if a ∈ ph then none else unT (H a)
theorem hide_tb {ph : List Addr} {H : Hp} {a : Addr} {o : HO} (h : hide ph H a = some o) : (a ∉ ph ∧ H a = some o) ∧ ∀ ps, o ≠ .tbl ps := by
  unfold hide at h
  split at h
  · cases h
  · obtain ⟨h1, h2⟩ := unT_some h
    exact ⟨⟨by assumption, h1⟩, h2⟩
theorem hide_some {ph : List Addr} {H : Hp} {a : Addr} {o : HO} (h : hide ph H a = some o) : a ∉ ph ∧ H a = some o := (hide_tb h).1
theorem hide_of {ph : List Addr} {H : Hp} {a : Addr} {o : HO} (h1 : a ∉ ph) (h : H a = some o) (hn : ∀ ps, o ≠ .tbl ps := by intro _ z; cases z) : hide ph H a = some o := by
  unfold hide
  rw [if_neg h1, h]; exact unT_of hn
def TbOk (K : PySem.W.Frag) (H : Hp) : Prop := LamX.Tabs (tabL K) H ∧ ∀ p ∈ tabL K, ∀ q ∈ tabL K, p.1 = q.1 → p.2 = q.2
theorem TbOk.ext {K : PySem.W.Frag} {H H' : Hp} (t : TbOk K H) (e : ∀ b o, H b = some o → H' b = some o) : TbOk K H' := ⟨t.1.ext e, t.2⟩
theorem TbOk.wr {K : PySem.W.Frag} {H : Hp} {p : Addr} {o u : HO} (t : TbOk K H) (h : H p = some u) (h1 : ∀ ps, u ≠ .tbl ps) (h2 : ∀ q, u ≠ LamX.CodeO p q) : TbOk K (upd H p o) := by
  refine ⟨fun q hq => ?_, t.2⟩
  obtain ⟨ps, e1, e2, e3⟩ := t.1 q hq
  refine ⟨ps, ?_, e2, fun pos cv hc => ?_⟩
  · rw [upd_ne (fun e : q.1 = p => h1 ps (by rw [e, h] at e1; exact Option.some.inj e1))]; exact e1
  · obtain ⟨c, e4, e5⟩ := e3 pos cv hc
    refine ⟨c, e4, ?_⟩
    rw [upd_ne (fun e : c = p => by subst e; exact h2 q.2 (Option.some.inj (h.symm.trans e5)))]; exact e5

mutual
inductive Den (K : PySem.W.Frag) (F : Hp) : V → D → Prop
  | non : Den K F .non .non
  | bl (b : Bool) : Den K F (.bl b) (.bl b)
  | int (i : Int) : Den K F (.int i) (.int i)
  | str (x : Str) : Den K F (.str x) (.str x)
  | ty (n : String) : Den K F (.ty n) (.ty n)
  | ref (a : Addr) : Den K F (.ref a) (.ref a)
  | cls (n : Str) : Den K F (.ref (He.ga K n)) (.cls n)
  | tup {a : Addr} {vs : List V} {ds : List D} : F a = some (.tup vs) → Dens K F vs ds → Den K F (.ref a) (.tup ds)
  | lst {a : Addr} {vs : List V} {ds : List D} : F a = some (.lst vs) → Dens K F vs ds → Den K F (.ref a) (.lst ds)
  | scr {a : Addr} {vs : List V} {ds : List D} : SqL K F a vs → Dens K F vs ds → Den K F (.ref a) (.scr ds)
  | ins {a dx : Addr} {C : Str} {vs : List (Str × V)} {fs : List (Str × D)} : F a = some (.ins (He.ga K C) dx vs) → DenF K F vs fs → Den K F (.ref a) (.ins C fs)
  | dct {a : Addr} {vs : List (Key × V)} {ds : List (Key × D)} : F a = some (.dK vs) → DenK K F vs ds → Den K F (.ref a) (.dct ds)
  | exn0 (a : Addr) (C : Str) : Den K F (.ref a) (.exn a none C [])
  | exn {a d : Addr} {C : Str} {vs : List (Str × V)} {fs : List (Str × D)} : F d = some (.xd vs) → DenF K F vs fs → Den K F (.ref a) (.exn a (some d) C fs)
inductive Dens (K : PySem.W.Frag) (F : Hp) : List V → List D → Prop
  | nil : Dens K F [] []
  | cons {v : V} {vs : List V} {d : D} {ds : List D} : Den K F v d → Dens K F vs ds → Dens K F (v :: vs) (d :: ds)
inductive DenF (K : PySem.W.Frag) (F : Hp) : List (Str × V) → List (Str × D) → Prop
  | nil : DenF K F [] []
  | cons {x : Str} {v : V} {vs : List (Str × V)} {d : D} {ds : List (Str × D)} : Den K F v d → DenF K F vs ds → DenF K F ((x, v) :: vs) ((x, d) :: ds)
inductive DenK (K : PySem.W.Frag) (F : Hp) : List (Key × V) → List (Key × D) → Prop
  | nil : DenK K F [] []
  | cons {x : Key} {v : V} {vs : List (Key × V)} {d : D} {ds : List (Key × D)} : Den K F v d → DenK K F vs ds → DenK K F ((x, v) :: vs) ((x, d) :: ds)
end
def Sub (F F' : Hp) : Prop := ∀ a o, F a = some o → F' a = some o
section
variable {K : PySem.W.Frag} {F F' : Hp}
theorem Sub.rd (h : Sub F F') {a : Addr} {u : HO} (r : Rd F a u) : Rd F' a u := by
  rcases r with r | ⟨o, r⟩
  · exact .inl (h _ _ r)
  · exact .inr ⟨o, h _ _ r⟩
theorem Sub.sqL (h : Sub F F') {a : Addr} {xs : List V} (r : SqL K F a xs) : SqL K F' a xs := r.imp h.rd id
theorem Sub.sqT (h : Sub F F') {a : Addr} {xs : List V} (r : SqT K F a xs) : SqT K F' a xs := r.imp h.rd id
mutual
theorem Den.mono (h : Sub F F') : ∀ {v : V} {d : D}, Den K F v d → Den K F' v d
  | _, _, .non => .non
  | _, _, .bl b => .bl b
  | _, _, .int b => .int b
  | _, _, .str b => .str b
  | _, _, .ty b => .ty b
  | _, _, .ref b => .ref b
  | _, _, .cls b => .cls b
  | _, _, .tup s r => .tup (h _ _ s) (Dens.mono h r)
  | _, _, .lst s r => .lst (h _ _ s) (Dens.mono h r)
  | _, _, .scr s r => .scr (h.sqL s) (Dens.mono h r)
  | _, _, .ins s r => .ins (h _ _ s) (DenF.mono h r)
  | _, _, .dct s r => .dct (h _ _ s) (DenK.mono h r)
  | _, _, .exn0 a C => .exn0 a C
  | _, _, .exn s r => .exn (h _ _ s) (DenF.mono h r)
theorem Dens.mono (h : Sub F F') : ∀ {vs : List V} {ds : List D}, Dens K F vs ds → Dens K F' vs ds
  | _, _, .nil => .nil
  | _, _, .cons a r => .cons (Den.mono h a) (Dens.mono h r)
theorem DenF.mono (h : Sub F F') : ∀ {vs : List (Str × V)} {ds : List (Str × D)}, DenF K F vs ds → DenF K F' vs ds
  | _, _, .nil => .nil
  | _, _, .cons a r => .cons (Den.mono h a) (DenF.mono h r)
theorem DenK.mono (h : Sub F F') : ∀ {vs : List (Key × V)} {ds : List (Key × D)}, DenK K F vs ds → DenK K F' vs ds
  | _, _, .nil => .nil
  | _, _, .cons a r => .cons (Den.mono h a) (DenK.mono h r)
end
theorem Dens.len : ∀ {vs : List V} {ds : List D}, Dens K F vs ds → vs.length = ds.length
  | _, _, .nil => rfl
  | _, _, .cons _ r => by simp [Dens.len r]
theorem Dens.get : ∀ {vs : List V} {ds : List D} {i : Nat} {d : D}, Dens K F vs ds → ds[i]? = some d → ∃ v, vs[i]? = some v ∧ Den K F v d
  | _, _, _, _, .nil, e => by simp at e
  | _, _, 0, _, .cons a r, e => by simp at e; subst e; exact ⟨_, rfl, a⟩
  | _, _, i + 1, _, .cons a r, e => by
    obtain ⟨v, h1, h2⟩ := Dens.get (i := i) r (by simpa using e)
    exact ⟨v, by simpa using h1, h2⟩
theorem Dens.app : ∀ {vs ws : List V} {ds es : List D}, Dens K F vs ds → Dens K F ws es → Dens K F (vs ++ ws) (ds ++ es)
  | _, _, _, _, .nil, s => s
  | _, _, _, _, .cons a r, s => .cons a (Dens.app r s)
theorem Dens.take : ∀ {vs : List V} {ds : List D} (n : Nat), Dens K F vs ds → Dens K F (vs.take n) (ds.take n)
  | _, _, 0, _ => .nil
  | _, _, _ + 1, .nil => .nil
  | _, _, n + 1, .cons a r => .cons a (Dens.take n r)
theorem Dens.drop : ∀ {vs : List V} {ds : List D} (n : Nat), Dens K F vs ds → Dens K F (vs.drop n) (ds.drop n)
  | _, _, 0, r => r
  | _, _, _ + 1, .nil => .nil
  | _, _, n + 1, .cons _ r => Dens.drop n r
theorem Dens.of_ints : ∀ (ns : List Int), Dens K F (ns.map V.int) (ns.map D.int)
  | [] => .nil
  | n :: ns => .cons (.int n) (Dens.of_ints ns)
theorem DenF.look {f : Str} : ∀ {vs : List (Str × V)} {ds : List (Str × D)} {d : D}, DenF K F vs ds → ds.lookup f = some d → ∃ v, vs.lookup f = some v ∧ Den K F v d
  | _, _, _, .nil, e => by simp at e
  | _, _, _, .cons (x := x) a r, e => by
    rw [List.lookup_cons] at e ⊢
    cases q : f == x with
    | true => rw [q] at e; simp at e; subst e; exact ⟨_, rfl, a⟩
    | false => rw [q] at e; exact DenF.look r e
end

def DenS (K : PySem.W.Frag) (ph : List Addr) (H : Hp) (v : V) : SV → Prop
  | .fr d => Den K (hide ph H) v d
  | .cell k => ∃ p, ph[k]? = some p ∧ v = .ref p
abbrev DenSs (K : PySem.W.Frag) (ph : List Addr) (H : Hp) : List V → List SV → Prop := Paired (DenS K ph H)
abbrev DenSF (K : PySem.W.Frag) (ph : List Addr) (H : Hp) : List (Str × V) → List (Str × SV) → Prop := Paired fun p q => p.1 = q.1 ∧ DenS K ph H p.2 q.2
abbrev DenSK {κ : Type} (K : PySem.W.Frag) (ph : List Addr) (H : Hp) : List (κ × V) → List (κ × SV) → Prop := Paired fun p q => p.1 = q.1 ∧ DenS K ph H p.2 q.2
def CellAt (K : PySem.W.Frag) (ph : List Addr) (H : Hp) (p : Addr) : Cell → Prop
  | .lst xs => ∃ vs, H p = some (.lst vs) ∧ DenSs K ph H vs xs
  | .ins C fs => ∃ dx vs, H p = some (.ins (He.ga K C) dx vs) ∧ DenSF K ph H vs fs
  | .tup xs => ∃ vs, H p = some (.tup vs) ∧ DenSs K ph H vs xs
  | .dic kvs => ∃ vs, H p = some (.dK vs) ∧ DenSK K ph H vs kvs
  | .dit kvs => ∃ vs, H p = some (.dT vs) ∧ DenSK K ph H vs kvs
  | .dil kvs => ∃ od vs, H p = some (.frz od (.dT vs)) ∧ DenSK K ph H vs kvs
  | .dkl kvs => ∃ od vs, H p = some (.frz od (.dK vs)) ∧ DenSK K ph H vs kvs
  | .err C => ∃ dx fs, H p = some (exo p (He.ga K C) (some dx)) ∧ hide ph H dx = some (exd dx fs)
theorem exo_code {p C : Addr} {d : Option Addr} {q : Str} : exo p C d ≠ LamX.CodeO p q := fun z => by
  unfold exo LamX.CodeO at z
  have f := HO.ext.inj z
  have g := congrFun f ⟨Array.replicate (p + 1) ({ cls := .ref C, dict := d, data := .fields #[.ref 0, .none, .none, .none, .bool false, .none] } : Obj), {}⟩
  have k : (⟨Array.replicate (p + 1) ({ cls := .ref C, dict := d, data := .fields #[.ref 0, .none, .none, .none, .bool false, .none] } : Obj), {}⟩ : Heap).get? p = some ({ cls := .ref C, dict := d, data := .fields #[.ref 0, .none, .none, .none, .bool false, .none] } : Obj) := by
    unfold Heap.get?
    simp
  obtain ⟨oc, vs, t, h1, h2, h3⟩ := g.mp ⟨0, k⟩
  rw [k] at h1
  cases h1
  cases h2
  cases h3
structure Good (K : PySem.W.Frag) (ph : List Addr) (H : Hp) (S : Store) : Prop where
  nd : ph.Nodup
  cells : Paired (CellAt K ph H) ph S
  tb : TbOk K H
structure Ext (ph : List Addr) (H : Hp) (ph' : List Addr) (H' : Hp) : Prop where
  pre : ∃ ps, ph' = ph ++ ps ∧ ∀ p ∈ ps, H p = none
  keep : ∀ a o, H a = some o → a ∉ ph → (∀ ps, o ≠ .tbl ps) → H' a = some o
  trk : ∀ a, H' a = none → H a = none
  frz : ∀ a od u, H a = some (.frz od u) → H' a = some (.frz od u)
theorem Ext.refl (ph : List Addr) (H : Hp) : Ext ph H ph H := ⟨⟨[], by simp, by simp⟩, fun _ _ h _ _ => h, fun _ h => h, fun _ _ _ h => h⟩
theorem Ext.trans {p1 p2 p3 : List Addr} {H1 H2 H3 : Hp} (a : Ext p1 H1 p2 H2) (b : Ext p2 H2 p3 H3) : Ext p1 H1 p3 H3 := by
  obtain ⟨x, rfl, hx⟩ := a.pre
  obtain ⟨y, rfl, hy⟩ := b.pre
  refine ⟨⟨x ++ y, by simp, fun p hp => ?_⟩, fun c o h n m => b.keep c o (a.keep c o h n m) ?_ m, fun c h => a.trk c (b.trk c h), fun c od u h => b.frz c od u (a.frz c od u h)⟩
  · rcases List.mem_append.mp hp with h | h
    · exact hx p h
    · exact a.trk p (hy p h)
  · intro hc
    rcases List.mem_append.mp hc with h' | h'
    · exact n h'
    · have := hx c h'; rw [h] at this; cases this
theorem Ext.sub {ph ph' : List Addr} {H H' : Hp} (e : Ext ph H ph' H') : Sub (hide ph H) (hide ph' H') := fun a o h => by
  obtain ⟨⟨h1, h2⟩, h3⟩ := hide_tb h
  obtain ⟨ps, rfl, hps⟩ := e.pre
  refine hide_of (fun hm => ?_) (e.keep a o h2 h1 h3) h3
  rcases List.mem_append.mp hm with q | q
  · exact h1 q
  · have := hps a q; rw [h2] at this; cases this
section
variable {K : PySem.W.Frag} {ph ph' : List Addr} {H H' : Hp} {S : Store}
theorem DenS.mono (e : Ext ph H ph' H') {v : V} {x : SV} (h : DenS K ph H v x) : DenS K ph' H' v x := by
  cases x with
  | fr d => exact Den.mono e.sub h
  | cell k =>
    obtain ⟨p, h1, h2⟩ := h
    obtain ⟨ps, rfl, _⟩ := e.pre
    refine ⟨p, ?_, h2⟩
    rw [List.getElem?_append_left (List.getElem?_eq_some_iff.mp h1).1]; exact h1
theorem DenSs.mono (e : Ext ph H ph' H') {vs : List V} {xs : List SV} (h : DenSs K ph H vs xs) : DenSs K ph' H' vs xs := Paired.mapP h fun _ _ => DenS.mono e
theorem DenSF.mono (e : Ext ph H ph' H') {vs : List (Str × V)} {xs : List (Str × SV)} (h : DenSF K ph H vs xs) : DenSF K ph' H' vs xs := Paired.mapP h fun _ _ q => ⟨q.1, q.2.mono e⟩
theorem DenSK.mono {κ : Type} (e : Ext ph H ph' H') {vs : List (κ × V)} {xs : List (κ × SV)} (h : DenSK K ph H vs xs) : DenSK K ph' H' vs xs := Paired.mapP h fun _ _ q => ⟨q.1, q.2.mono e⟩
theorem paired_imp {α β : Type} {P Q : α → β → Prop} : ∀ {l : List α} {m : List β}, Paired P l m → (∀ a b, a ∈ l → P a b → Q a b) → Paired Q l m
  | _, _, .nil, _ => .nil
  | _, _, .cons h t, f => .cons (f _ _ List.mem_cons_self h) (paired_imp t fun a b m => f a b (List.mem_cons_of_mem _ m))
theorem paired_get {α β : Type} {P : α → β → Prop} : ∀ {l : List α} {m : List β} {k : Nat} {b : β}, Paired P l m → m[k]? = some b → ∃ a, l[k]? = some a ∧ P a b
  | _, _, _, _, .nil, e => by simp at e
  | _, _, 0, _, .cons h t, e => by simp at e; subst e; exact ⟨_, rfl, h⟩
  | _, _, k + 1, _, .cons h t, e => by
    obtain ⟨v, h1, h2⟩ := paired_get (k := k) t (by simpa using e)
    exact ⟨v, by simpa using h1, h2⟩
theorem paired_set {α β : Type} {P Q : α → β → Prop} {y : β} : ∀ {l : List α} {m : List β} {k : Nat} {x : α}, Paired P l m → l[k]? = some x → (∀ j a b, j ≠ k → l[j]? = some a → P a b → Q a b) → Q x y → Paired Q l (m.set k y)
  | _, _, _, _, .nil, e, _, _ => by simp at e
  | _, _, 0, _, .cons h t, e, f, q => by
    simp at e; subst e
    refine .cons q (paired_imp t fun a b m hp => ?_)
    obtain ⟨j, hj, ej⟩ := List.getElem_of_mem m
    exact f (j + 1) a b (by omega) (by simp [List.getElem?_eq_getElem hj, ej]) hp
  | _, _, k + 1, x, .cons h t, e, f, q => .cons (f 0 _ _ (by omega) (by simp) h) (paired_set (k := k) (x := x) t (by simpa using e) (fun j a b hj ha hp => f (j + 1) a b (by omega) (by simpa using ha) hp) q)
theorem CellAt.mono (e : Ext ph H ph' H') {p : Addr} {c : Cell} (hp : ∀ o, H p = some o → H' p = some o) (h : CellAt K ph H p c) : CellAt K ph' H' p c := by
  cases c with
  | lst xs => obtain ⟨vs, h1, h2⟩ := h; exact ⟨vs, hp _ h1, h2.mono e⟩
  | ins C fs => obtain ⟨dx, vs, h1, h2⟩ := h; exact ⟨dx, vs, hp _ h1, h2.mono e⟩
  | tup xs => obtain ⟨vs, h1, h2⟩ := h; exact ⟨vs, hp _ h1, h2.mono e⟩
  | dic kvs => obtain ⟨vs, h1, h2⟩ := h; exact ⟨vs, hp _ h1, DenSK.mono e h2⟩
  | dit kvs => obtain ⟨vs, h1, h2⟩ := h; exact ⟨vs, hp _ h1, DenSK.mono e h2⟩
  | dil kvs => obtain ⟨od, vs, h1, h2⟩ := h; exact ⟨od, vs, hp _ h1, DenSK.mono e h2⟩
  | dkl kvs => obtain ⟨od, vs, h1, h2⟩ := h; exact ⟨od, vs, hp _ h1, DenSK.mono e h2⟩
  | err C => obtain ⟨dx, fs, h1, h2⟩ := h; exact ⟨dx, fs, hp _ h1, e.sub _ _ h2⟩
theorem CellAt.there {p : Addr} {c : Cell} (h : CellAt K ph H p c) : ∃ o, H p = some o := by
  cases c with
  | lst xs => obtain ⟨vs, h1, _⟩ := h; exact ⟨_, h1⟩
  | ins C fs => obtain ⟨dx, vs, h1, _⟩ := h; exact ⟨_, h1⟩
  | tup xs => obtain ⟨vs, h1, _⟩ := h; exact ⟨_, h1⟩
  | dic kvs => obtain ⟨vs, h1, _⟩ := h; exact ⟨_, h1⟩
  | dit kvs => obtain ⟨vs, h1, _⟩ := h; exact ⟨_, h1⟩
  | dil kvs => obtain ⟨od, vs, h1, _⟩ := h; exact ⟨_, h1⟩
  | dkl kvs => obtain ⟨od, vs, h1, _⟩ := h; exact ⟨_, h1⟩
  | err C => obtain ⟨dx, fs, h1, _⟩ := h; exact ⟨_, h1⟩
theorem CellAt.thereN {p : Addr} {c : Cell} (h : CellAt K ph H p c) : ∃ o, H p = some o ∧ (∀ ps, o ≠ .tbl ps) ∧ ∀ q, o ≠ LamX.CodeO p q := by
  cases c with
  | lst xs => obtain ⟨vs, h1, _⟩ := h; exact ⟨_, h1, fun _ z => (nomatch z), fun _ z => (by unfold LamX.CodeO at z; nomatch z)⟩
  | ins C fs => obtain ⟨dx, vs, h1, _⟩ := h; exact ⟨_, h1, fun _ z => (nomatch z), fun _ z => (by unfold LamX.CodeO at z; nomatch z)⟩
  | tup xs => obtain ⟨vs, h1, _⟩ := h; exact ⟨_, h1, fun _ z => (nomatch z), fun _ z => (by unfold LamX.CodeO at z; nomatch z)⟩
  | dic kvs => obtain ⟨vs, h1, _⟩ := h; exact ⟨_, h1, fun _ z => (nomatch z), fun _ z => (by unfold LamX.CodeO at z; nomatch z)⟩
  | dit kvs => obtain ⟨vs, h1, _⟩ := h; exact ⟨_, h1, fun _ z => (nomatch z), fun _ z => (by unfold LamX.CodeO at z; nomatch z)⟩
  | dil kvs => obtain ⟨od, vs, h1, _⟩ := h; exact ⟨_, h1, fun _ z => (nomatch z), fun _ z => (by unfold LamX.CodeO at z; nomatch z)⟩
  | dkl kvs => obtain ⟨od, vs, h1, _⟩ := h; exact ⟨_, h1, fun _ z => (nomatch z), fun _ z => (by unfold LamX.CodeO at z; nomatch z)⟩
  | err C => obtain ⟨dx, fs, h1, _⟩ := h; exact ⟨_, h1, fun _ z => exo_tbl z, fun _ z => exo_code z⟩
theorem Good.len (g : Good K ph H S) : ph.length = S.length := g.cells.length
theorem Good.at (g : Good K ph H S) {k : Nat} {c : Cell} (h : S[k]? = some c) : ∃ p, ph[k]? = some p ∧ CellAt K ph H p c := paired_get g.cells h
theorem Good.there (g : Good K ph H S) {p : Addr} (h : p ∈ ph) : ∃ o, H p = some o := by
  obtain ⟨k, hk, e⟩ := List.getElem_of_mem h
  have hk' : k < S.length := by rw [← g.len]; exact hk
  obtain ⟨q, h1, h2⟩ := g.at (List.getElem?_eq_getElem hk')
  rw [List.getElem?_eq_getElem hk] at h1
  cases h1
  rw [e] at h2
  exact h2.there
theorem Good.new (g : Good K ph H S) {p : Addr} (h : H p = none) : p ∉ ph := fun m => by
  obtain ⟨o, e⟩ := g.there m
  rw [h] at e; cases e
theorem Ext.fresh {p : Addr} {o : HO} (h : H p = none) : Ext ph H ph (upd H p o) :=
  ⟨⟨[], by simp, by simp⟩, fun a u e _ _ => by rw [upd_ne (ne_of_none e h)]; exact e, fun a e => by
    by_cases q : a = p
    · rw [q]; exact h
    · rw [upd_ne q] at e; exact e, fun a od u e => by rw [upd_ne (ne_of_none e h)]; exact e⟩
theorem Good.fresh (g : Good K ph H S) {p : Addr} {o : HO} (h : H p = none) : Good K ph (upd H p o) S :=
  ⟨g.nd, paired_imp g.cells fun a c _ hc => hc.mono (Ext.fresh h) fun u e => by rw [upd_ne (ne_of_none e h)]; exact e, g.tb.ext fun b u e => by rw [upd_ne (ne_of_none e h)]; exact e⟩
theorem Ext.cell {p : Addr} {o : HO} (h : H p = none) : Ext ph H (ph ++ [p]) (upd H p o) :=
  ⟨⟨[p], rfl, fun q hq => by rw [List.mem_singleton.mp hq]; exact h⟩, (Ext.fresh (ph := ph) h).keep, (Ext.fresh (ph := ph) h).trk, (Ext.fresh (ph := ph) h).frz⟩
theorem paired_snoc {α β : Type} {P : α → β → Prop} {a : α} {b : β} {l : List α} {m : List β} (h : Paired P l m) (q : P a b) : Paired P (l ++ [a]) (m ++ [b]) := Paired.snoc h q
theorem Good.cell (g : Good K ph H S) {p : Addr} {o : HO} {c : Cell} (h : H p = none) (hc : CellAt K (ph ++ [p]) (upd H p o) p c) : Good K (ph ++ [p]) (upd H p o) (S ++ [c]) := by
  refine ⟨List.nodup_append.mpr ⟨g.nd, by simp, fun a ha b hb e => ?_⟩, paired_snoc (paired_imp g.cells fun a u _ hu => hu.mono (Ext.cell h) fun w e => by rw [upd_ne (ne_of_none e h)]; exact e) hc, g.tb.ext fun b u e => by rw [upd_ne (ne_of_none e h)]; exact e⟩
  have := List.mem_singleton.mp hb
  subst this; subst e
  exact g.new h ha
theorem hide_upd {p : Addr} {o : HO} (h : p ∈ ph) : hide ph (upd H p o) = hide ph H := by
  funext a
  unfold hide
  by_cases q : a ∈ ph
  · rw [if_pos q, if_pos q]
  · rw [if_neg q, if_neg q, upd_ne (fun e : a = p => q (e ▸ h))]
theorem Ext.write {p : Addr} {o : HO} (h : p ∈ ph) (hf : ∀ od u, H p ≠ some (.frz od u)) : Ext ph H ph (upd H p o) :=
  ⟨⟨[], by simp, by simp⟩, fun a u e n _ => by rw [upd_ne (fun q : a = p => n (q ▸ h))]; exact e, fun a e => by
    by_cases q : a = p
    · rw [q, upd_same] at e; cases e
    · rw [upd_ne q] at e; exact e, fun a od u e => by
    by_cases q : a = p
    · exact (hf od u (q ▸ e)).elim
    · rw [upd_ne q]; exact e⟩
theorem nofrz {p : Addr} {o : HO} (e : H p = some o) (h : ∀ od u, o ≠ .frz od u) : ∀ od u, H p ≠ some (.frz od u) := fun od u z => by
  rw [e] at z; cases z; exact h _ _ rfl
theorem DenS.writ {p : Addr} {o : HO} (h : p ∈ ph) {v : V} {x : SV} (d : DenS K ph H v x) : DenS K ph (upd H p o) v x := by
  cases x with
  | fr d' => show Den K (hide ph (upd H p o)) v d'; rw [hide_upd h]; exact d
  | cell k => exact d
theorem DenSK.writ {κ : Type} {p : Addr} {o : HO} (h : p ∈ ph) {vs : List (κ × V)} {xs : List (κ × SV)} (d : DenSK K ph H vs xs) : DenSK K ph (upd H p o) vs xs := Paired.mapP d fun _ _ q => ⟨q.1, q.2.writ h⟩
theorem CellAt.writ {p q : Addr} {o : HO} (h : p ∈ ph) (hq : q ≠ p) {c : Cell} (d : CellAt K ph H q c) : CellAt K ph (upd H p o) q c := by
  cases c with
  | lst xs => obtain ⟨vs, h1, h2⟩ := d; exact ⟨vs, by rw [upd_ne hq]; exact h1, Paired.mapP h2 fun _ _ => DenS.writ h⟩
  | ins C fs => obtain ⟨dx, vs, h1, h2⟩ := d; exact ⟨dx, vs, by rw [upd_ne hq]; exact h1, Paired.mapP h2 fun _ _ q => ⟨q.1, q.2.writ h⟩⟩
  | tup xs => obtain ⟨vs, h1, h2⟩ := d; exact ⟨vs, by rw [upd_ne hq]; exact h1, Paired.mapP h2 fun _ _ => DenS.writ h⟩
  | dic kvs => obtain ⟨vs, h1, h2⟩ := d; exact ⟨vs, by rw [upd_ne hq]; exact h1, DenSK.writ h h2⟩
  | dit kvs => obtain ⟨vs, h1, h2⟩ := d; exact ⟨vs, by rw [upd_ne hq]; exact h1, DenSK.writ h h2⟩
  | dil kvs => obtain ⟨od, vs, h1, h2⟩ := d; exact ⟨od, vs, by rw [upd_ne hq]; exact h1, DenSK.writ h h2⟩
  | dkl kvs => obtain ⟨od, vs, h1, h2⟩ := d; exact ⟨od, vs, by rw [upd_ne hq]; exact h1, DenSK.writ h h2⟩
  | err C => obtain ⟨dx, fs, h1, h2⟩ := d; exact ⟨dx, fs, by rw [upd_ne hq]; exact h1, by rw [hide_upd h]; exact h2⟩
theorem nodup_at {l : List Addr} (n : l.Nodup) {i j : Nat} {a : Addr} (h1 : l[i]? = some a) (h2 : l[j]? = some a) : i = j := by
  obtain ⟨k1, e1⟩ := List.getElem?_eq_some_iff.mp h1
  obtain ⟨k2, e2⟩ := List.getElem?_eq_some_iff.mp h2
  exact (List.getElem_inj n).mp (e1.trans e2.symm)
theorem Good.write (g : Good K ph H S) {k : Nat} {p : Addr} {o : HO} {c : Cell} (hp : ph[k]? = some p) (hc : CellAt K ph (upd H p o) p c) : Good K ph (upd H p o) (S.set k c) := by
  have hm : p ∈ ph := List.mem_of_getElem? hp
  obtain ⟨c0, hc0⟩ : ∃ c0, S[k]? = some c0 := by
    have := (List.getElem?_eq_some_iff.mp hp).1
    rw [g.len] at this
    exact ⟨_, List.getElem?_eq_getElem this⟩
  obtain ⟨p', h1, h2⟩ := g.at hc0
  rw [hp] at h1; cases h1
  obtain ⟨u, hu, u1, u2⟩ := h2.thereN
  exact ⟨g.nd, paired_set g.cells hp (fun j a b hj ha hb => hb.writ hm (fun q : a = p => hj (nodup_at g.nd (q ▸ ha) hp))) hc, g.tb.wr hu u1 u2⟩
end
end DL

namespace DL
open PySem L2

structure XW (K : PySem.W.Frag) where
  rel : List Addr → Hp → Exc → Slots → Store → Prop
  mono : ∀ ph H ph' H' e r S, Ext ph H ph' H' → rel ph H e r S → rel ph' H' e r S
abbrev EM := Slots → Store → Res (SV × Store)
abbrev TM := Slots → Store → Res (Bool × Store)
abbrev AM := Slots → Store → Res (List SV × Store)
def SlotsOk (K : PySem.W.Frag) (ph : List Addr) (H : Hp) (sg : L2.St) (rho : Slots) : Prop :=
  rho.length ≤ sg.length ∧ ∀ (i : Nat) (x : SV), rho[i]? = some (some x) → ∃ v, sg[i]? = some (some v) ∧ DenS K ph H v x
theorem SlotsOk.mono {K : PySem.W.Frag} {ph ph' : List Addr} {H H' : Hp} {sg : L2.St} {rho : Slots} (e : Ext ph H ph' H') (h : SlotsOk K ph H sg rho) : SlotsOk K ph' H' sg rho :=
  ⟨h.1, fun i x q => let ⟨v, a, b⟩ := h.2 i x q; ⟨v, a, b.mono e⟩⟩
theorem SlotsOk.set {K : PySem.W.Frag} {ph : List Addr} {H : Hp} {sg : L2.St} {rho : Slots} (h : SlotsOk K ph H sg rho) (i : Nat) {v : V} {x : SV} (hv : DenS K ph H v x) : SlotsOk K ph H (sg.set i (some v)) (rho.set i (some x)) := by
  refine ⟨by simpa using h.1, fun j y q => ?_⟩
  by_cases e : i = j
  · subst e
    by_cases hi : i < rho.length
    · rw [List.getElem?_set_self hi] at q
      have := Option.some.inj (Option.some.inj q)
      subst this
      exact ⟨v, List.getElem?_set_self (Nat.lt_of_lt_of_le hi h.1), hv⟩
    · rw [List.getElem?_eq_none (by simpa using hi)] at q; cases q
  · rw [List.getElem?_set_ne e] at q
    rw [List.getElem?_set_ne e]
    exact h.2 j y q
def post (K : PySem.W.Frag) (ph : List Addr) (H : Hp) (Q : VK) : SV × Store → Prop := fun r =>
  ∀ ph' v H', Ext ph H ph' H' → Good K ph' H' r.2 → DenS K ph' H' v r.1 → Q v H'
def postT (K : PySem.W.Frag) (ph : List Addr) (H : Hp) (Q : Bool → Hp → Prop) : Bool × Store → Prop := fun r =>
  ∀ ph' H', Ext ph H ph' H' → Good K ph' H' r.2 → Q r.1 H'
def postA (K : PySem.W.Frag) (ph : List Addr) (H : Hp) (Q : List V → Hp → Prop) : List SV × Store → Prop := fun r =>
  ∀ ph' vs H', Ext ph H ph' H' → Good K ph' H' r.2 → DenSs K ph' H' vs r.1 → Q vs H'
theorem post.mono {K : PySem.W.Frag} {ph ph' : List Addr} {H H' : Hp} {Q : VK} (e : Ext ph H ph' H') (r : SV × Store) (h : post K ph H Q r) : post K ph' H' Q r := fun p v G a g d => h p v G (e.trans a) g d
theorem postT.mono {K : PySem.W.Frag} {ph ph' : List Addr} {H H' : Hp} {Q : Bool → Hp → Prop} (e : Ext ph H ph' H') (r : Bool × Store) (h : postT K ph H Q r) : postT K ph' H' Q r := fun p G a g => h p G (e.trans a) g
theorem postA.mono {K : PySem.W.Frag} {ph ph' : List Addr} {H H' : Hp} {Q : List V → Hp → Prop} (e : Ext ph H ph' H') (r : List SV × Store) (h : postA K ph H Q r) : postA K ph' H' Q r := fun p v G a g d => h p v G (e.trans a) g d
section
variable {X : Cx} {W : XW X.K}
structure PD (X : Cx) (W : XW X.K) (e : Expr) (m : EM) : Prop where
  ex : ∃ t, PE X e t ∧ ∀ (ph : List Addr) (S : Store) (H : Hp) (sg : L2.St) (rho : Slots) (Q : VK), Good X.K ph H S → SlotsOk X.K ph H sg rho →
    holds (m rho S) (post X.K ph H Q) (W.rel ph H) → t sg H Q
structure PDT (X : Cx) (W : XW X.K) (e : Expr) (m : TM) : Prop where
  ex : ∃ t, PT X e t ∧ ∀ (ph : List Addr) (S : Store) (H : Hp) (sg : L2.St) (rho : Slots) (Q : Bool → Hp → Prop), Good X.K ph H S → SlotsOk X.K ph H sg rho →
    holds (m rho S) (postT X.K ph H Q) (W.rel ph H) → t sg H Q
structure PDA (X : Cx) (W : XW X.K) (es : List Expr) (m : AM) : Prop where
  ex : ∃ t, PA X es t ∧ ∀ (ph : List Addr) (S : Store) (H : Hp) (sg : L2.St) (rho : Slots) (Q : List V → Hp → Prop), Good X.K ph H S → SlotsOk X.K ph H sg rho →
    holds (m rho S) (postA X.K ph H Q) (W.rel ph H) → t sg H Q

def eV (i : Nat) : EM := fun rho S => match rho[i]? with
  | some (some x) => .ok (x, S)
  | _ => .stuck
def eC (d : D) : EM := fun _ S => .ok (.fr d, S)
theorem pd_v (i : Nat) {x : Str} {pos : Pos} (hN : X.N[i]? = some x := by rfl) (hv : Vis X.env.scope x := by first | exact Or.inl rfl | exact Or.inr (Or.inl rfl) | exact Or.inr (Or.inr rfl)) (hd : (x == ("__debug__" : Str)) = false := by decide)
    (hcd : (x == ("__classdict__" : Str)) = false := by decide) : PD X W (.Name x pos) (eV i) := by
  refine ⟨_, pe_var hN hv hd hcd, fun ph S H sg rho Q g so h => ?_⟩
  unfold eV at h
  split at h
  · rename_i y hy
    obtain ⟨v, h1, h2⟩ := so.2 i y hy
    exact ⟨v, h1, h ph v H (Ext.refl _ _) g h2⟩
  · exact h.elim
theorem pd_const {e : Expr} {v : V} {d : D} (h : PE X e (tC v)) (hd : ∀ F, Den X.K F v d) : PD X W e (eC d) :=
  ⟨_, h, fun ph S H sg rho Q g so hq => hq ph v H (Ext.refl _ _) g (hd _)⟩
theorem pd_int {i : Int} {j pos} : PD X W (.Constant (.int i) j pos) (eC (.int i)) := pd_const pe_int fun _ => .int _
theorem pd_bl {b : Bool} {j pos} : PD X W (.Constant (.bool b) j pos) (eC (.bl b)) := pd_const pe_bl fun _ => .bl _
theorem pd_non {j pos} : PD X W (.Constant .none j pos) (eC .non) := pd_const pe_non fun _ => .non
theorem pd_str {x : Str} {j pos} : PD X W (.Constant (.str x) j pos) (eC (.str x)) := pd_const pe_str fun _ => .str _

abbrev G1 := SV → Store → Res (SV × Store)
abbrev G2 := SV → SV → Store → Res (SV × Store)
abbrev GA := List SV → Store → Res (SV × Store)
def Op2 (X : Cx) (W : XW X.K) (r : R2) (g : G2) : Prop := ∀ (ph : List Addr) (S : Store) (H : Hp) (x y : V) (a b : SV) (Q : VK), Good X.K ph H S → DenS X.K ph H x a → DenS X.K ph H y b →
  holds (g a b S) (post X.K ph H Q) (W.rel ph H) → r x y H Q
def Op1 (X : Cx) (W : XW X.K) (r : V → Hp → VK → Prop) (g : G1) : Prop := ∀ (ph : List Addr) (S : Store) (H : Hp) (x : V) (a : SV) (Q : VK), Good X.K ph H S → DenS X.K ph H x a →
  holds (g a S) (post X.K ph H Q) (W.rel ph H) → r x H Q
def OpA (X : Cx) (W : XW X.K) (r : List V → Hp → VK → Prop) (g : GA) : Prop := ∀ (ph : List Addr) (S : Store) (H : Hp) (xs : List V) (as : List SV) (Q : VK), Good X.K ph H S → DenSs X.K ph H xs as →
  holds (g as S) (post X.K ph H Q) (W.rel ph H) → r xs H Q
def e2 (g : G2) (a b : EM) : EM := fun rho S => (a rho S).bind fun x => (b rho x.2).bind fun y => g x.1 y.1 y.2
def e1 (g : G1) (a : EM) : EM := fun rho S => (a rho S).bind fun x => g x.1 x.2
variable {a b : Expr} {ma mb : EM} {pos : Pos}
theorem snd2 {ta tb : TE} {r : R2} {g : G2}
    (ha : ∀ (ph : List Addr) (S : Store) (H : Hp) (sg : L2.St) (rho : Slots) (Q : VK), Good X.K ph H S → SlotsOk X.K ph H sg rho → holds (ma rho S) (post X.K ph H Q) (W.rel ph H) → ta sg H Q)
    (hb : ∀ (ph : List Addr) (S : Store) (H : Hp) (sg : L2.St) (rho : Slots) (Q : VK), Good X.K ph H S → SlotsOk X.K ph H sg rho → holds (mb rho S) (post X.K ph H Q) (W.rel ph H) → tb sg H Q)
    (hr : Op2 X W r g) (ph : List Addr) (S : Store) (H : Hp) (sg : L2.St) (rho : Slots) (Q : VK) (gd : Good X.K ph H S) (so : SlotsOk X.K ph H sg rho)
    (h : holds (e2 g ma mb rho S) (post X.K ph H Q) (W.rel ph H)) : ta sg H fun x H1 => tb sg H1 fun y H2 => r x y H2 Q := by
  refine ha ph S H sg rho _ gd so (holds_imp (holds_bind h) (fun x hx => ?_) fun _ _ _ q => q)
  intro ph1 v1 H1 x1 g1 d1
  refine hb ph1 x.2 H1 sg rho _ g1 (so.mono x1) (holds_imp (holds_bind hx) (fun y hy => ?_) fun e r s q => W.mono _ _ _ _ e r s x1 q)
  intro ph2 v2 H2 x2 g2 d2
  exact hr ph2 y.2 H2 v1 v2 x.1 y.1 Q g2 (d1.mono x2) d2 (holds_imp hy (fun c => post.mono (x1.trans x2) c) fun e r s q => W.mono _ _ _ _ e r s (x1.trans x2) q)
theorem pd_2 {op : Operator} {r : R2} {g : G2} (ho : OpR X (binaryOp op) r) (hr : Op2 X W r g) (ha : PD X W a ma) (hb : PD X W b mb) : PD X W (.BinOp a op b pos) (e2 g ma mb) := by
  obtain ⟨ta, pa, sa⟩ := ha.ex
  obtain ⟨tb, pb, sb⟩ := hb.ex
  exact ⟨_, pe_op ho pa pb, fun ph S H sg rho Q gd so h => snd2 sa sb hr ph S H sg rho Q gd so h⟩
theorem pd_cmp {op : CmpOp} {r : R2} {g : G2} (ho : OpR X (compareOp op) r) (hr : Op2 X W r g) (ha : PD X W a ma) (hb : PD X W b mb) (hm : behindInMarks op b = false := by first | exact nomark _ | rfl) : PD X W (.Compare a [op] [b] pos) (e2 g ma mb) := by
  obtain ⟨ta, pa, sa⟩ := ha.ex
  obtain ⟨tb, pb, sb⟩ := hb.ex
  exact ⟨_, pe_cmpR ho pa pb hm, fun ph S H sg rho Q gd so h => snd2 sa sb hr ph S H sg rho Q gd so h⟩
theorem pd_1 {op : UnaryOp} {r : V → Hp → VK → Prop} {g : G1} (ho : UnR X (unaryOp op) r) (hr : Op1 X W r g) (ha : PD X W a ma) : PD X W (.UnaryOp op a pos) (e1 g ma) := by
  obtain ⟨ta, pa, sa⟩ := ha.ex
  refine ⟨_, pe_un ho pa, fun ph S H sg rho Q gd so h => sa ph S H sg rho _ gd so (holds_imp (holds_bind h) (fun x hx => ?_) fun _ _ _ q => q)⟩
  intro ph1 v1 H1 x1 g1 d1
  exact hr ph1 x.2 H1 v1 x.1 Q g1 d1 (holds_imp hx (fun c => post.mono x1 c) fun e r s q => W.mono _ _ _ _ e r s x1 q)

def aN : AM := fun _ S => .ok ([], S)
def aC (a : EM) (r : AM) : AM := fun rho S => (a rho S).bind fun x => (r rho x.2).bind fun y => .ok (x.1 :: y.1, y.2)
theorem pda_nil : PDA X W [] aN := ⟨_, pa_nil, fun ph S H sg rho Q g so h => h ph [] H (Ext.refl _ _) g .nil⟩
theorem pda_cons {es : List Expr} {mr : AM} (ha : PD X W a ma) (hr : PDA X W es mr) (hs : starEach (a :: es) X.env = (false, eval a X.env) :: starEach es X.env := by rfl) : PDA X W (a :: es) (aC ma mr) := by
  obtain ⟨ta, pa, sa⟩ := ha.ex
  obtain ⟨tr, pr, sr⟩ := hr.ex
  refine ⟨_, pa_cons pa pr hs, fun ph S H sg rho Q gd so h => sa ph S H sg rho _ gd so (holds_imp (holds_bind h) (fun x hx => ?_) fun _ _ _ q => q)⟩
  intro ph1 v1 H1 x1 g1 d1
  refine sr ph1 x.2 H1 sg rho _ g1 (so.mono x1) (holds_imp (holds_bind hx) (fun y hy => ?_) fun e r s q => W.mono _ _ _ _ e r s x1 q)
  intro ph2 vs H2 x2 g2 d2
  exact hy ph2 (v1 :: vs) H2 (x1.trans x2) g2 (.cons (d1.mono x2) d2)
def eA (g : GA) (m : AM) : EM := fun rho S => (m rho S).bind fun x => g x.1 x.2
theorem sndA {t : TA} {m : AM} {r : List V → Hp → VK → Prop} {g : GA}
    (ha : ∀ (ph : List Addr) (S : Store) (H : Hp) (sg : L2.St) (rho : Slots) (Q : List V → Hp → Prop), Good X.K ph H S → SlotsOk X.K ph H sg rho → holds (m rho S) (postA X.K ph H Q) (W.rel ph H) → t sg H Q)
    (hr : OpA X W r g) (ph : List Addr) (S : Store) (H : Hp) (sg : L2.St) (rho : Slots) (Q : VK) (gd : Good X.K ph H S) (so : SlotsOk X.K ph H sg rho)
    (h : holds (eA g m rho S) (post X.K ph H Q) (W.rel ph H)) : t sg H fun xs H1 => r xs H1 Q := by
  refine ha ph S H sg rho _ gd so (holds_imp (holds_bind h) (fun x hx => ?_) fun _ _ _ q => q)
  intro ph1 vs H1 x1 g1 d1
  exact hr ph1 x.2 H1 vs x.1 Q g1 d1 (holds_imp hx (fun c => post.mono x1 c) fun e r s q => W.mono _ _ _ _ e r s x1 q)

def allFr : List SV → Option (List D)
  | [] => some []
  | .fr d :: r => (allFr r).map (d :: ·)
  | .cell _ :: _ => none
theorem allFr_map : ∀ ds : List D, allFr (ds.map SV.fr) = some ds
  | [] => rfl
  | d :: ds => by simp [allFr, allFr_map ds]
theorem allFr_eq : ∀ {xs : List SV} {ds : List D}, allFr xs = some ds → xs = ds.map SV.fr
  | [], ds, h => by simp [allFr] at h; subst h; rfl
  | .fr d :: r, ds, h => by
    simp only [allFr, Option.map_eq_some_iff] at h
    obtain ⟨es, h1, rfl⟩ := h
    rw [allFr_eq h1]; rfl
  | .cell _ :: _, _, h => by simp [allFr] at h
theorem dens_of {K : PySem.W.Frag} {ph : List Addr} {H : Hp} : ∀ {ds : List D} {vs : List V}, DenSs K ph H vs (ds.map SV.fr) → Dens K (hide ph H) vs ds
  | [], _, .nil => .nil
  | d :: ds, _, .cons h t => .cons h (dens_of t)
theorem of_dens {K : PySem.W.Frag} {ph : List Addr} {H : Hp} : ∀ {ds : List D} {vs : List V}, Dens K (hide ph H) vs ds → DenSs K ph H vs (ds.map SV.fr)
  | _, _, .nil => .nil
  | _, _, .cons h t => .cons h (of_dens t)
def newL (m : Bool) (xs : List SV) (S : Store) : Res (SV × Store) := if xs.length ≤ sizeLine then (if m then .ok (.cell S.length, S ++ [.lst xs]) else match allFr xs with
  | some ds => .ok (.fr (.lst ds), S)
  | none => .stuck) else .stuck
def newT (xs : List SV) (S : Store) : Res (SV × Store) := if xs.length ≤ sizeLine then (match allFr xs with
  | some ds => .ok (.fr (.tup ds), S)
  | none => .stuck) else .stuck
theorem newL_ok {K : PySem.W.Frag} {ph : List Addr} {H : Hp} {S : Store} {vs : List V} {xs : List SV} {m : Bool} {Q : VK} {E : Exc → Slots → Store → Prop} (g : Good K ph H S) (d : DenSs K ph H vs xs) (h : holds (newL m xs S) (post K ph H Q) E) :
    vs.length ≤ sizeLine ∧ ∀ p, H p = none → Q (.ref p) (upd H p (.lst vs)) := by
  unfold newL at h
  split at h
  · rename_i hz
    refine ⟨by rw [d.length]; exact hz, fun p hp => ?_⟩
    cases m with
    | true =>
      have e : Ext ph H (ph ++ [p]) (upd H p (.lst vs)) := Ext.cell hp
      exact h (ph ++ [p]) (.ref p) _ e (g.cell hp ⟨vs, upd_same, d.mono e⟩) ⟨p, by rw [← g.len]; simp, rfl⟩
    | false =>
      simp only [Bool.false_eq_true, if_false] at h
      split at h
      · rename_i ds hd
        have e : Ext ph H ph (upd H p (.lst vs)) := Ext.fresh hp
        refine h ph (.ref p) _ e (g.fresh hp) (.lst (vs := vs) (hide_of (g.new hp) upd_same) ?_)
        have d' := d.mono e
        rw [allFr_eq hd] at d'
        exact dens_of d'
      · exact h.elim
  · exact h.elim
theorem newT_ok {K : PySem.W.Frag} {ph : List Addr} {H : Hp} {S : Store} {vs : List V} {xs : List SV} {Q : VK} {E : Exc → Slots → Store → Prop} (g : Good K ph H S) (d : DenSs K ph H vs xs) (h : holds (newT xs S) (post K ph H Q) E) :
    vs.length ≤ sizeLine ∧ ∀ p, H p = none → Q (.ref p) (upd H p (.tup vs)) := by
  unfold newT at h
  split at h
  · rename_i hz
    refine ⟨by rw [d.length]; exact hz, fun p hp => ?_⟩
    split at h
    · rename_i ds hd
      have e : Ext ph H ph (upd H p (.tup vs)) := Ext.fresh hp
      refine h ph (.ref p) _ e (g.fresh hp) (.tup (vs := vs) (hide_of (g.new hp) upd_same) ?_)
      have d' := d.mono e
      rw [allFr_eq hd] at d'
      exact dens_of d'
    · exact h.elim
  · exact h.elim
def newTC (xs : List SV) (S : Store) : Res (SV × Store) := if xs.length ≤ sizeLine then .ok (.cell S.length, S ++ [.tup xs]) else .stuck
theorem pd_lst {es : List Expr} {m : AM} (c : Bool) (h : PDA X W es m) : PD X W (.List es pos) (eA (newL c) m) := by
  obtain ⟨t, p, s⟩ := h.ex
  exact ⟨_, pe_lst p, fun ph S H sg rho Q gd so h => sndA (r := fun xs H1 Q => xs.length ≤ sizeLine ∧ ∀ p, H1 p = none → Q (.ref p) (upd H1 p (.lst xs))) s (fun _ _ _ _ _ _ g d hq => newL_ok g d hq) ph S H sg rho Q gd so h⟩
theorem pd_tup {es : List Expr} {m : AM} {k : Nat} (h : PDA X W es m) : PD X W (.Tuple es k pos) (eA newT m) := by
  obtain ⟨t, p, s⟩ := h.ex
  exact ⟨_, pe_tup p, fun ph S H sg rho Q gd so h => sndA (r := fun xs H1 Q => xs.length ≤ sizeLine ∧ ∀ p, H1 p = none → Q (.ref p) (upd H1 p (.tup xs))) s (fun _ _ _ _ _ _ g d hq => newT_ok g d hq) ph S H sg rho Q gd so h⟩
end

def snap0 (S : Store) : SV → Option D
  | .fr d => some d
  | .cell k => match S[k]? with
    | some (.lst xs) => (allFr xs).map D.lst
    | _ => none
def allSn (f : SV → Option D) : List SV → Option (List D)
  | [] => some []
  | x :: xs => match f x, allSn f xs with
    | some d, some ds => some (d :: ds)
    | _, _ => none
def snap (S : Store) : SV → Option D
  | .fr d => some d
  | .cell k => match S[k]? with
    | some (.lst xs) => (allSn (snap0 S) xs).map D.lst
    | some (.tup xs) => (allSn (snap0 S) xs).map D.tup
    | _ => none
theorem allSn_map {f : SV → Option D} (h : ∀ d, f (.fr d) = some d) : ∀ ds : List D, allSn f (ds.map SV.fr) = some ds
  | [] => rfl
  | d :: ds => by simp only [List.map_cons, allSn, h, allSn_map h ds]
theorem snap0_fr (S : Store) (d : D) : snap0 S (.fr d) = some d := rfl
theorem hide_sub {ph : List Addr} {H : Hp} : Sub (hide ph H) H := fun _ _ h => (hide_some h).2
theorem snap0_ok {K : PySem.W.Frag} {ph : List Addr} {H : Hp} {S : Store} {v : V} {x : SV} {d : D} (g : Good K ph H S) (h : DenS K ph H v x) (e : snap0 S x = some d) : Den K H v d := by
  cases x with
  | fr d' => simp [snap0] at e; subst e; exact Den.mono hide_sub h
  | cell k =>
    obtain ⟨p, h1, rfl⟩ := h
    unfold snap0 at e
    dsimp only at e
    split at e
    · rename_i xs hk
      simp only [Option.map_eq_some_iff] at e
      obtain ⟨ds, h2, rfl⟩ := e
      obtain ⟨q, h3, vs, h4, h5⟩ := g.at hk
      rw [h1] at h3; cases h3
      rw [allFr_eq h2] at h5
      exact .lst h4 (Dens.mono hide_sub (dens_of h5))
    · cases e
theorem snaps_ok {K : PySem.W.Frag} {ph : List Addr} {H : Hp} {S : Store} (g : Good K ph H S) : ∀ {vs : List V} {xs : List SV} {ds : List D}, DenSs K ph H vs xs → allSn (snap0 S) xs = some ds → Dens K H vs ds
  | _, _, ds, .nil, e => by simp [allSn] at e; subst e; exact .nil
  | _, _, ds, .cons h t, e => by
    unfold allSn at e
    split at e
    · rename_i d r h1 h2
      cases e
      exact .cons (snap0_ok g h h1) (snaps_ok g t h2)
    · cases e
theorem snap_ok {K : PySem.W.Frag} {ph : List Addr} {H : Hp} {S : Store} {v : V} {x : SV} {d : D} (g : Good K ph H S) (h : DenS K ph H v x) (e : snap S x = some d) : Den K H v d := by
  cases x with
  | fr d' => simp [snap] at e; subst e; exact Den.mono hide_sub h
  | cell k =>
    obtain ⟨p, h1, rfl⟩ := h
    unfold snap at e
    dsimp only at e
    split at e
    · rename_i xs hk
      simp only [Option.map_eq_some_iff] at e
      obtain ⟨ds, h2, rfl⟩ := e
      obtain ⟨q, h3, vs, h4, h5⟩ := g.at hk
      rw [h1] at h3; cases h3
      exact .lst h4 (snaps_ok g h5 h2)
    · rename_i xs hk
      simp only [Option.map_eq_some_iff] at e
      obtain ⟨ds, h2, rfl⟩ := e
      obtain ⟨q, h3, vs, h4, h5⟩ := g.at hk
      rw [h1] at h3; cases h3
      exact .tup h4 (snaps_ok g h5 h2)
    · cases e
def rdL (S : Store) : SV → Option (List SV)
  | .fr (.lst ds) => some (ds.map SV.fr)
  | .cell k => match S[k]? with
    | some (.lst xs) => some xs
    | _ => none
  | _ => none
theorem rdL_at {K : PySem.W.Frag} {ph : List Addr} {H : Hp} {S : Store} {v : V} {x : SV} {xs : List SV} (g : Good K ph H S) (h : DenS K ph H v x) (e : rdL S x = some xs) : ∃ a vs, v = .ref a ∧ H a = some (.lst vs) ∧ DenSs K ph H vs xs := by
  cases x with
  | fr d =>
    cases d with
    | lst ds =>
      simp [rdL] at e; subst e
      cases h with
      | lst s r => exact ⟨_, _, rfl, hide_sub _ _ s, of_dens r⟩
    | _ => simp [rdL] at e
  | cell k =>
    obtain ⟨p, h1, rfl⟩ := h
    unfold rdL at e
    dsimp only at e
    split at e
    · rename_i ys hk
      cases e
      obtain ⟨q, h3, vs, h4, h5⟩ := g.at hk
      rw [h1] at h3; cases h3
      exact ⟨p, vs, rfl, h4, h5⟩
    · cases e
def rdS (S : Store) : SV → Option (List SV)
  | .fr (.scr ds) => some (ds.map SV.fr)
  | x => rdL S x
theorem rdS_ok {K : PySem.W.Frag} {ph : List Addr} {H : Hp} {S : Store} {v : V} {x : SV} {xs : List SV} (g : Good K ph H S) (h : DenS K ph H v x) (e : rdS S x = some xs) : ∃ a vs, v = .ref a ∧ SqL K H a vs ∧ DenSs K ph H vs xs := by
  unfold rdS at e
  split at e
  · cases e
    cases h with
    | scr s r => exact ⟨_, _, rfl, hide_sub.sqL s, of_dens r⟩
  · obtain ⟨a, vs, h1, h2, h3⟩ := rdL_at g h e
    exact ⟨a, vs, h1, .of h2, h3⟩
end DL

namespace DL
open PySem L2

mutual
def py : D → PyData
  | .non => .none
  | .bl b => .bool b
  | .int i => .int i
  | .str x => .str x
  | .tup ds => .tuple (pys ds)
  | .lst ds => .list (pys ds)
  | .scr ds => .list (pys ds)
  | .ty _ => .none
  | .ref _ => .none
  | .ins _ _ => .none
  | .cls _ => .none
  | .exn _ _ _ _ => .none
  | .dct _ => .none
def pys : List D → List PyData
  | [] => []
  | d :: ds => py d :: pys ds
end
mutual
def isP : D → Bool
  | .non | .bl _ | .int _ | .str _ => true
  | .tup ds => isPs ds
  | .lst ds => isPs ds
  | .scr ds => isPs ds
  | .ty _ | .ref _ | .ins _ _ | .cls _ | .dct _ | .exn _ _ _ _ => false
def isPs : List D → Bool
  | [] => true
  | d :: ds => isP d && isPs ds
end
section
variable {K : PySem.W.Frag} {H : Hp}
mutual
theorem dp_of : ∀ {d : D} {v : V}, isP d = true → Den K H v d → Dp K H v (py d)
  | .non, _, _, .non => by simp only [py]; exact .non
  | .bl _, _, _, .bl _ => by simp only [py]; exact .bl _
  | .int _, _, _, .int _ => by simp only [py]; exact .int _
  | .str _, _, _, .str _ => by simp only [py]; exact .str _
  | .tup ds, _, h, .tup s r => by simp only [py]; exact .tup (.inl (.inl s)) (dps_of (by simpa only [isP] using h) r)
  | .lst ds, _, h, .lst s r => by simp only [py]; exact .lst (.of s) (dps_of (by simpa only [isP] using h) r)
  | .scr ds, _, h, .scr s r => by simp only [py]; exact .lst s (dps_of (by simpa only [isP] using h) r)
  | .ty _, _, h, _ => by simp [isP] at h
  | .ref _, _, h, _ => by simp [isP] at h
  | .ins _ _, _, h, _ => by simp [isP] at h
  | .cls _, _, h, _ => by simp [isP] at h
  | .exn _ _ _ _, _, h, _ => by simp [isP] at h
  | .dct _, _, h, _ => by simp [isP] at h
theorem dps_of : ∀ {ds : List D} {vs : List V}, isPs ds = true → Dens K H vs ds → DpAll K H vs (pys ds)
  | [], _, _, .nil => by simp only [pys]; exact .nil
  | d :: ds, _, h, .cons a r => by
    simp only [isPs, Bool.and_eq_true] at h
    simp only [pys]; exact .cons (dp_of h.1 a) (dps_of h.2 r)
end
end
def plain (d : D) : Bool := isP d && SeqAt.shaped (py d)
def deq (a b : D) : Bool := PyData.eqv (py a) (py b)
instance decCMul (i j : Int) : Decidable (CMul i j) := by unfold CMul; infer_instance
instance decCMulW (i j : Int) : Decidable (CMulW i j) := by unfold CMulW; infer_instance
instance decCDiv (i j : Int) : Decidable (CDiv i j) := by unfold CDiv; infer_instance
instance decCDivW (i j : Int) : Decidable (CDivW i j) := by unfold CDivW; infer_instance
instance decCPow (i j : Int) : Decidable (CPow i j) := by unfold CPow; infer_instance
def okV (d : D) (S : Store) : Res (SV × Store) := .ok (.fr d, S)
def addG (c : Bool) : G2 := fun a b S => match a, b with
  | .fr (.int i), .fr (.int j) => okV (.int (i + j)) S
  | .fr (.str i), .fr (.str j) => if i.length + j.length ≤ sizeLine then okV (.str (i ++ j)) S else .stuck
  | .fr (.tup xs), .fr (.tup ys) => if xs.length + ys.length ≤ sizeLine then okV (.tup (xs ++ ys)) S else .stuck
  | _, _ => match rdL S a, rdL S b with
    | some xs, some ys => newL c (xs ++ ys) S
    | _, _ => .stuck
def subG : G2 := fun a b S => match a, b with
  | .fr (.int i), .fr (.int j) => okV (.int (i - j)) S
  | _, _ => .stuck
def mulG (c : Bool) : G2 := fun a b S => match a, b with
  | .fr (.int i), .fr (.int j) => if CMul i j ∨ CMulW i j then okV (.int (i * j)) S else .stuck
  | _, .fr (.int k) => match rdL S a with
    | some xs => if -(2 ^ 63) ≤ k ∧ k < 2 ^ 63 ∧ xs.length * k.toNat ≤ sizeLine then newL c (List.replicate k.toNat xs).flatten S else .stuck
    | none => .stuck
  | _, _ => .stuck
def fdivG : G2 := fun a b S => match a, b with
  | .fr (.int i), .fr (.int j) => if CDiv i j ∨ CDivW i j then okV (.int (i / j)) S else .stuck
  | _, _ => .stuck
def modG : G2 := fun a b S => match a, b with
  | .fr (.int i), .fr (.int j) => if 0 < j then okV (.int (i % j)) S else .stuck
  | _, _ => .stuck
def powG : G2 := fun a b S => match a, b with
  | .fr (.int i), .fr (.int j) => if CPow i j then okV (.int (i ^ j.toNat)) S else .stuck
  | _, _ => .stuck
def negG : G1 := fun a S => match a with
  | .fr (.int i) => okV (.int (-i)) S
  | _ => .stuck
def cmpG (p : Int → Int → Bool) : G2 := fun a b S => match a, b with
  | .fr (.int i), .fr (.int j) => okV (.bl (p i j)) S
  | _, _ => .stuck
abbrev ltG : G2 := cmpG fun i j => decide (i < j)
abbrev leG : G2 := cmpG fun i j => decide (i ≤ j)
abbrev gtG : G2 := cmpG fun i j => decide (j < i)
abbrev geG : G2 := cmpG fun i j => decide (j ≤ i)
def eqD (d e : D) : Option Bool := match d, e with
  | .str x, .str y => some (decide (x = y))
  | _, _ => if plain d && plain e then some (deq d e) else none
def eqG (n : Bool) : G2 := fun a b S => match snap S a, snap S b with
  | some d, some e => match eqD d e with
    | some r => okV (.bl (if n then !r else r)) S
    | none => .stuck
  | _, _ => .stuck
def isNon : SV → Bool
  | .fr .non => true
  | _ => false
def isG (n : Bool) : G2 := fun a b S => match b with
  | .fr .non => okV (.bl (if n then !isNon a else isNon a)) S
  | _ => .stuck
section
variable {X : Cx} {W : XW X.K}
theorem fin_v {ph : List Addr} {S : Store} {H : Hp} {v : V} {d : D} {Q : VK} {E : Exc → Slots → Store → Prop} (g : Good X.K ph H S) (hd : Den X.K (hide ph H) v d) (h : holds (okV d S) (post X.K ph H Q) E) : Q v H :=
  h ph v H (Ext.refl _ _) g hd
theorem d_int {K : PySem.W.Frag} {F : Hp} {v : V} {i : Int} (h : Den K F v (.int i)) : v = .int i := by cases h; rfl
theorem d_bl {K : PySem.W.Frag} {F : Hp} {v : V} {i : Bool} (h : Den K F v (.bl i)) : v = .bl i := by cases h; rfl
theorem d_str {K : PySem.W.Frag} {F : Hp} {v : V} {i : Str} (h : Den K F v (.str i)) : v = .str i := by cases h; rfl
theorem d_non {K : PySem.W.Frag} {F : Hp} {v : V} (h : Den K F v .non) : v = .non := by cases h; rfl
theorem d_tupH {K : PySem.W.Frag} {F : Hp} {v : V} {ds : List D} (h : Den K F v (.tup ds)) : ∃ a vs, v = .ref a ∧ F a = some (.tup vs) ∧ Dens K F vs ds := by cases h; exact ⟨_, _, rfl, by assumption, by assumption⟩
theorem d_tup {K : PySem.W.Frag} {F : Hp} {v : V} {ds : List D} (h : Den K F v (.tup ds)) : ∃ a vs, v = .ref a ∧ SqT K F a vs ∧ Dens K F vs ds := by
  obtain ⟨a, vs, e, h1, h2⟩ := d_tupH h
  exact ⟨a, vs, e, .inl (.inl h1), h2⟩
abbrev rAddAll (K : PySem.W.Frag) : R2 := fun x y H Q => rI0 (fun i j => .int (i + j)) x y H Q ∨ (∃ i j, x = .str i ∧ y = .str j ∧ i.length + j.length ≤ sizeLine ∧ Q (.str (i ++ j)) H) ∨ rCatA K x y H Q ∨ rCat x y H Q
theorem op_addAll : OpR X (binaryOp .Add) (rAddAll X.K) := op_add.or (op_add_str.or (op_catA.or op_cat))
theorem add_ok (c : Bool) : Op2 X W (rAddAll X.K) (addG c) := by
  intro ph S H x y a b Q g da db h
  unfold addG at h
  split at h
  · rw [d_int da, d_int db]
    exact .inl ⟨_, _, rfl, rfl, fin_v g (.int _) h⟩
  · split at h
    · rw [d_str da, d_str db]
      exact .inr (.inl ⟨_, _, rfl, rfl, by assumption, fin_v g (.str _) h⟩)
    · exact h.elim
  · split at h
    · rename_i xs ys hz
      obtain ⟨p, vs, rfl, s1, r1⟩ := d_tupH da
      obtain ⟨q, ws, rfl, s2, r2⟩ := d_tupH db
      have l1 := r1.len
      have l2 := r2.len
      refine .inr (.inr (.inl ⟨p, q, vs, ws, rfl, rfl, hide_sub.sqT (.inl (.inl s1)), hide_sub.sqT (.inl (.inl s2)), by omega, fun e => ?_, fun _ e => ?_, fun _ _ t ht => ?_⟩))
      · subst e
        have : xs = [] := List.length_eq_zero_iff.mp (by simpa using l1.symm)
        subst this
        exact fin_v g (.tup s2 r2) h
      · subst e
        have : ys = [] := List.length_eq_zero_iff.mp (by simpa using l2.symm)
        subst this
        rw [List.append_nil] at h
        exact fin_v g (.tup s1 r1) h
      · have e : Ext ph H ph (upd H t (.tup (vs ++ ws))) := Ext.fresh ht
        exact h ph (.ref t) _ e (g.fresh ht) (.tup (hide_of (g.new ht) upd_same) ((r1.mono e.sub).app (r2.mono e.sub)))
    · exact h.elim
  · split at h
    · rename_i xs ys h1 h2
      obtain ⟨p, vs, rfl, s1, r1⟩ := rdL_at g da h1
      obtain ⟨q, ws, rfl, s2, r2⟩ := rdL_at g db h2
      have z := newL_ok g (vs := vs ++ ws) (by
        clear h h1 h2 s1 s2
        induction r1 with
        | nil => exact r2
        | cons a t ih => exact .cons a ih) h
      exact .inr (.inr (.inr ⟨p, q, vs, ws, rfl, rfl, s1, s2, by simpa using z.1, z.2⟩))
    · exact h.elim
theorem int2_ok {C : Int → Int → Prop} {f : Int → Int → V} {x y : V} {i j : Int} {ph : List Addr} {H : Hp} {K : PySem.W.Frag} {Q : VK} (da : Den K (hide ph H) x (.int i)) (db : Den K (hide ph H) y (.int j)) (hc : C i j) (hq : Q (f i j) H) : rI C f x y H Q := by
  rw [d_int da, d_int db]
  exact ⟨_, _, rfl, rfl, hc, hq⟩
theorem sub_ok : Op2 X W (rI0 fun i j => .int (i - j)) subG := by
  intro ph S H x y a b Q g da db h
  unfold subG at h
  split at h
  · rw [d_int da, d_int db]; exact ⟨_, _, rfl, rfl, fin_v g (.int _) h⟩
  · exact h.elim
theorem paired_append {α β : Type} {P : α → β → Prop} : ∀ {l l' : List α} {m m' : List β}, Paired P l m → Paired P l' m' → Paired P (l ++ l') (m ++ m')
  | _, _, _, _, .nil, s => s
  | _, _, _, _, .cons a t, s => .cons a (paired_append t s)
theorem paired_rep {α β : Type} {P : α → β → Prop} {l : List α} {m : List β} (h : Paired P l m) : ∀ k : Nat, Paired P (List.replicate k l).flatten (List.replicate k m).flatten
  | 0 => .nil
  | k + 1 => by rw [List.replicate_succ, List.replicate_succ, List.flatten_cons, List.flatten_cons]; exact paired_append h (paired_rep h k)
abbrev rMulAll : R2 := fun x y H Q => rI CMul (fun i j => .int (i * j)) x y H Q ∨ rI CMulW (fun i j => .int (i * j)) x y H Q ∨ rRep x y H Q
theorem op_mulAll : OpR X (binaryOp .Mult) rMulAll := op_mul.or (op_mulW.or op_rep)
theorem mul_ok (c : Bool) : Op2 X W rMulAll (mulG c) := by
  intro ph S H x y a b Q g da db h
  unfold mulG at h
  split at h
  · split at h
    · rename_i hc
      rcases hc with hc | hc
      · exact .inl (int2_ok da db hc (fin_v g (.int _) h))
      · exact .inr (.inl (int2_ok da db hc (fin_v g (.int _) h)))
    · exact h.elim
  · split at h
    · rename_i xs hx
      split at h
      · rename_i hk
        obtain ⟨p, vs, rfl, s1, r1⟩ := rdL_at g da hx
        rw [d_int db]
        have z := newL_ok g (paired_rep r1 _) h
        exact .inr (.inr ⟨p, _, vs, rfl, rfl, s1, hk.1, hk.2.1, by rw [r1.length]; exact hk.2.2, z.2⟩)
      · exact h.elim
    · exact h.elim
  · exact h.elim
abbrev rDivAll : R2 := fun x y H Q => rI CDiv (fun i j => .int (i / j)) x y H Q ∨ rI CDivW (fun i j => .int (i / j)) x y H Q
theorem op_divAll : OpR X (binaryOp .FloorDiv) rDivAll := op_fdiv.or op_fdivW
theorem fdiv_ok : Op2 X W rDivAll fdivG := by
  intro ph S H x y a b Q g da db h
  unfold fdivG at h
  split at h
  · split at h
    · rename_i hc
      rcases hc with hc | hc
      · exact .inl (int2_ok da db hc (fin_v g (.int _) h))
      · exact .inr (int2_ok da db hc (fin_v g (.int _) h))
    · exact h.elim
  · exact h.elim
theorem mod_ok : Op2 X W (rI (fun _ j => 0 < j) fun i j => .int (i % j)) modG := by
  intro ph S H x y a b Q g da db h
  unfold modG at h
  split at h
  · split at h
    · exact int2_ok (C := fun _ j => 0 < j) da db (by assumption) (fin_v g (.int _) h)
    · exact h.elim
  · exact h.elim
theorem pow_ok : Op2 X W (rI CPow fun i j => .int (i ^ j.toNat)) powG := by
  intro ph S H x y a b Q g da db h
  unfold powG at h
  split at h
  · split at h
    · exact int2_ok da db (by assumption) (fin_v g (.int _) h)
    · exact h.elim
  · exact h.elim
theorem neg_ok : Op1 X W (rU fun i => .int (-i)) negG := by
  intro ph S H x a Q g da h
  unfold negG at h
  split at h
  · rw [d_int da]; exact ⟨_, rfl, fin_v g (.int _) h⟩
  · exact h.elim
theorem cmp_ok {p : Int → Int → Bool} : Op2 X W (rI0 fun i j => .bl (p i j)) (cmpG p) := by
  intro ph S H x y a b Q g da db h
  unfold cmpG at h
  split at h
  · rw [d_int da, d_int db]; exact ⟨_, _, rfl, rfl, fin_v g (.bl _) h⟩
  · exact h.elim
theorem d_strH {K : PySem.W.Frag} {H : Hp} {v : V} {x : Str} (h : Den K H v (.str x)) : v = .str x := by cases h; rfl
abbrev rEqAll (K : PySem.W.Frag) : R2 := fun x y H Q => rEqD K x y H Q ∨ rEq x y H Q
abbrev rNeAll (K : PySem.W.Frag) : R2 := fun x y H Q => rNeD K x y H Q ∨ rNe x y H Q
theorem eq_ok : Op2 X W (rEqAll X.K) (eqG false) := by
  intro ph S H x y a b Q g da db h
  unfold eqG at h
  split at h
  · rename_i d e h1 h2
    have n1 := snap_ok g da h1
    have n2 := snap_ok g db h2
    unfold eqD at h
    split at h
    · rename_i r hr
      split at hr
      · rename_i s1 s2
        cases hr
        rw [d_strH n1, d_strH n2]
        refine .inr ⟨rfl, fin_v (E := W.rel ph H) g (Den.bl _) ?_⟩
        have e : decide (V.str s1 = V.str s2) = decide (s1 = s2) := by simp
        rw [e]
        simpa using h
      · split at hr
        · rename_i hp
          cases hr
          simp only [Bool.and_eq_true, plain] at hp
          exact .inl ⟨py d, py e, dp_of hp.1.1 n1, dp_of hp.2.1 n2, hp.1.2, hp.2.2, fin_v g (.bl _) h⟩
        · cases hr
    · exact h.elim
  · exact h.elim
theorem ne_ok : Op2 X W (rNeAll X.K) (eqG true) := by
  intro ph S H x y a b Q g da db h
  unfold eqG at h
  split at h
  · rename_i d e h1 h2
    have n1 := snap_ok g da h1
    have n2 := snap_ok g db h2
    unfold eqD at h
    split at h
    · rename_i r hr
      split at hr
      · rename_i s1 s2
        cases hr
        rw [d_strH n1, d_strH n2]
        refine .inr ⟨rfl, fin_v (E := W.rel ph H) g (Den.bl _) ?_⟩
        have e : decide (V.str s1 = V.str s2) = decide (s1 = s2) := by simp
        rw [e]
        simpa using h
      · split at hr
        · rename_i hp
          cases hr
          simp only [Bool.and_eq_true, plain] at hp
          exact .inl ⟨py d, py e, dp_of hp.1.1 n1, dp_of hp.2.1 n2, hp.1.2, hp.2.2, fin_v g (.bl _) h⟩
        · cases hr
    · exact h.elim
  · exact h.elim
theorem isNon_eq {K : PySem.W.Frag} {ph : List Addr} {H : Hp} {v : V} {x : SV} (h : DenS K ph H v x) : decide (v = .non) = isNon x := by
  cases x with
  | fr d => cases d <;> cases h <;> first | rfl | simp [isNon]
  | cell k => obtain ⟨p, _, rfl⟩ := h; simp [isNon]
theorem is_ok : Op2 X W (fun x y H Q => y = .non ∧ Q (.bl (decide (x = .non))) H) (isG false) := by
  intro ph S H x y a b Q g da db h
  unfold isG at h
  split at h
  · rw [d_non db, isNon_eq da]; exact ⟨rfl, fin_v g (.bl _) h⟩
  · exact h.elim
theorem isNot_ok : Op2 X W (fun x y H Q => y = .non ∧ Q (.bl (!decide (x = .non))) H) (isG true) := by
  intro ph S H x y a b Q g da db h
  unfold isG at h
  split at h
  · rw [d_non db, isNon_eq da]; exact ⟨rfl, fin_v g (.bl _) h⟩
  · exact h.elim
variable {a b : Expr} {ma mb : EM} {pos : Pos}
theorem pd_add (c : Bool) (ha : PD X W a ma) (hb : PD X W b mb) : PD X W (.BinOp a .Add b pos) (e2 (addG c) ma mb) := pd_2 op_addAll (add_ok c) ha hb
theorem pd_sub (ha : PD X W a ma) (hb : PD X W b mb) : PD X W (.BinOp a .Sub b pos) (e2 subG ma mb) := pd_2 op_sub sub_ok ha hb
theorem pd_mul (c : Bool) (ha : PD X W a ma) (hb : PD X W b mb) : PD X W (.BinOp a .Mult b pos) (e2 (mulG c) ma mb) := pd_2 op_mulAll (mul_ok c) ha hb
theorem pd_fdiv (ha : PD X W a ma) (hb : PD X W b mb) : PD X W (.BinOp a .FloorDiv b pos) (e2 fdivG ma mb) := pd_2 op_divAll fdiv_ok ha hb
theorem pd_mod (ha : PD X W a ma) (hb : PD X W b mb) : PD X W (.BinOp a .Mod b pos) (e2 modG ma mb) := pd_2 op_mod mod_ok ha hb
theorem pd_pow (ha : PD X W a ma) (hb : PD X W b mb) : PD X W (.BinOp a .Pow b pos) (e2 powG ma mb) := pd_2 op_pow pow_ok ha hb
theorem pd_neg (ha : PD X W a ma) : PD X W (.UnaryOp .USub a pos) (e1 negG ma) := pd_1 un_neg neg_ok ha
theorem pd_le (ha : PD X W a ma) (hb : PD X W b mb) : PD X W (.Compare a [.LtE] [b] pos) (e2 leG ma mb) := pd_cmp op_le cmp_ok ha hb
theorem pd_gt (ha : PD X W a ma) (hb : PD X W b mb) : PD X W (.Compare a [.Gt] [b] pos) (e2 gtG ma mb) := pd_cmp op_gt cmp_ok ha hb
theorem pd_ge (ha : PD X W a ma) (hb : PD X W b mb) : PD X W (.Compare a [.GtE] [b] pos) (e2 geG ma mb) := pd_cmp op_ge cmp_ok ha hb
theorem pd_eq (hu : X.A.units + 64 < cLine) (ha : PD X W a ma) (hb : PD X W b mb) : PD X W (.Compare a [.Eq] [b] pos) (e2 (eqG false) ma mb) := pd_cmp ((op_eqD hu).or op_eq) eq_ok ha hb
theorem pd_is (ha : PD X W a ma) (hb : PD X W b mb) : PD X W (.Compare a [.Is] [b] pos) (e2 (isG false) ma mb) := pd_cmp op_isN is_ok ha hb
end
end DL

namespace DL
open PySem L2

def truthD : D → Option Bool
  | .non => some false
  | .bl b => some b
  | .int i => some (i != 0)
  | .str x => if x.length ≤ sizeLine then some ((x.length : Int) != 0) else none
  | .tup ds => some (!ds.isEmpty)
  | .lst ds => some (!ds.isEmpty)
  | _ => none
def truth (S : Store) : SV → Option Bool
  | .fr d => truthD d
  | .cell k => match S[k]? with
    | some (.lst xs) => some (!xs.isEmpty)
    | _ => none
theorem paired_empty {α β : Type} {P : α → β → Prop} {l : List α} {m : List β} (h : Paired P l m) : l.isEmpty = m.isEmpty := by
  cases h <;> rfl
theorem dens_empty {K : PySem.W.Frag} {F : Hp} {vs : List V} {ds : List D} (h : Dens K F vs ds) : vs.isEmpty = ds.isEmpty := by
  cases h <;> rfl
theorem truth_ok {K : PySem.W.Frag} {ph : List Addr} {S : Store} {H : Hp} {v : V} {x : SV} {k : Bool} (g : Good K ph H S) (h : DenS K ph H v x) (e : truth S x = some k) : TruV K v H k := by
  cases x with
  | fr d =>
    have e : truthD d = some k := e
    cases d with
    | non => rw [d_non h]; simp [truthD] at e; exact e
    | bl b => rw [d_bl h]; simp [truthD] at e; exact e.symm
    | int i => rw [d_int h]; simp only [truthD, Option.some.injEq] at e; exact e.symm
    | str z =>
      rw [d_str h]
      simp only [truthD] at e
      split at e
      · exact ⟨by assumption, (Option.some.inj e).symm⟩
      · cases e
    | tup ds =>
      obtain ⟨a, vs, rfl, s, r⟩ := d_tup h
      simp only [truthD, Option.some.injEq] at e
      exact .inr (.inl ⟨vs, hide_sub.sqT s, by rw [← e, dens_empty r]⟩)
    | lst ds =>
      cases h with
      | lst s r =>
        simp only [truthD, Option.some.injEq] at e
        exact .inl ⟨_, .of (hide_sub _ _ s), by rw [← e, dens_empty r]⟩
    | _ => simp [truthD] at e
  | cell n =>
    obtain ⟨p, h1, rfl⟩ := h
    simp only [truth] at e
    split at e
    · rename_i xs hk
      obtain ⟨q, h3, vs, h4, h5⟩ := g.at hk
      rw [h1] at h3; cases h3
      simp only [Option.some.injEq] at e
      exact .inl ⟨_, .of h4, by rw [← e, paired_empty h5]⟩
    · cases e

section
variable {X : Cx} {W : XW X.K} {a b c : Expr} {ma mb mc : EM} {pos : Pos}
def eTr (m : EM) (t f : SV × Store → Res (SV × Store)) : EM := fun rho S => (m rho S).bind fun x => match truth x.2 x.1 with
  | some true => t x
  | some false => f x
  | none => .stuck
def eAnd (a b : EM) : EM := fun rho S => eTr a (fun x => b rho x.2) (fun x => .ok x) rho S
def eOr (a b : EM) : EM := fun rho S => eTr a (fun x => .ok x) (fun x => b rho x.2) rho S
def eNot (a : EM) : EM := fun rho S => eTr a (fun x => okV (.bl false) x.2) (fun x => okV (.bl true) x.2) rho S
abbrev SndE (X : Cx) (W : XW X.K) (t : TE) (m : EM) : Prop := ∀ (ph : List Addr) (S : Store) (H : Hp) (sg : L2.St) (rho : Slots) (Q : VK), Good X.K ph H S → SlotsOk X.K ph H sg rho →
    holds (m rho S) (post X.K ph H Q) (W.rel ph H) → t sg H Q
abbrev SndT (X : Cx) (W : XW X.K) (t : TT) (m : TM) : Prop := ∀ (ph : List Addr) (S : Store) (H : Hp) (sg : L2.St) (rho : Slots) (Q : Bool → Hp → Prop), Good X.K ph H S → SlotsOk X.K ph H sg rho →
    holds (m rho S) (postT X.K ph H Q) (W.rel ph H) → t sg H Q
theorem pd_one {op : BoolOp} (h : PD X W a ma) : PD X W (.BoolOp op [a] pos) ma := by
  obtain ⟨t, p, s⟩ := h.ex
  exact ⟨t, pe_one p, s⟩
theorem pd_and {rest : List Expr} (ha : PD X W a ma) (hb : PD X W (.BoolOp .And (b :: rest) pos) mb) : PD X W (.BoolOp .And (a :: b :: rest) pos) (eAnd ma mb) := by
  obtain ⟨ta, pa, sa⟩ := ha.ex
  obtain ⟨tb, pb, sb⟩ := hb.ex
  refine ⟨_, pe_andT pa pb, fun ph S H sg rho Q g so h => sa ph S H sg rho _ g so (holds_imp (holds_bind h) (fun x hx => ?_) fun _ _ _ q => q)⟩
  intro ph1 v1 H1 x1 g1 d1
  revert hx
  cases e : truth x.2 x.1 with
  | none => exact fun hx => hx.elim
  | some k =>
    intro hx
    refine ⟨k, truth_ok g1 d1 e, ?_⟩
    cases k with
    | true =>
      rw [if_pos rfl]
      exact sb ph1 x.2 H1 sg rho Q g1 (so.mono x1) (holds_imp hx (fun c => post.mono x1 c) fun e r s q => W.mono _ _ _ _ e r s x1 q)
    | false =>
      rw [if_neg Bool.false_ne_true]
      exact hx ph1 v1 H1 x1 g1 d1
theorem pd_or {rest : List Expr} (ha : PD X W a ma) (hb : PD X W (.BoolOp .Or (b :: rest) pos) mb) : PD X W (.BoolOp .Or (a :: b :: rest) pos) (eOr ma mb) := by
  obtain ⟨ta, pa, sa⟩ := ha.ex
  obtain ⟨tb, pb, sb⟩ := hb.ex
  refine ⟨_, pe_orT pa pb, fun ph S H sg rho Q g so h => sa ph S H sg rho _ g so (holds_imp (holds_bind h) (fun x hx => ?_) fun _ _ _ q => q)⟩
  intro ph1 v1 H1 x1 g1 d1
  revert hx
  cases e : truth x.2 x.1 with
  | none => exact fun hx => hx.elim
  | some k =>
    intro hx
    refine ⟨k, truth_ok g1 d1 e, ?_⟩
    cases k with
    | true =>
      rw [if_pos rfl]
      exact hx ph1 v1 H1 x1 g1 d1
    | false =>
      rw [if_neg Bool.false_ne_true]
      exact sb ph1 x.2 H1 sg rho Q g1 (so.mono x1) (holds_imp hx (fun c => post.mono x1 c) fun e r s q => W.mono _ _ _ _ e r s x1 q)
theorem pd_not (ha : PD X W a ma) : PD X W (.UnaryOp .Not a pos) (eNot ma) := by
  obtain ⟨ta, pa, sa⟩ := ha.ex
  refine ⟨_, pe_notT pa, fun ph S H sg rho Q g so h => sa ph S H sg rho _ g so (holds_imp (holds_bind h) (fun x hx => ?_) fun _ _ _ q => q)⟩
  intro ph1 v1 H1 x1 g1 d1
  revert hx
  cases e : truth x.2 x.1 with
  | none => exact fun hx => hx.elim
  | some k =>
    intro hx
    refine ⟨k, truth_ok g1 d1 e, ?_⟩
    cases k with
    | true => exact hx ph1 (.bl false) H1 x1 g1 (.bl _)
    | false => exact hx ph1 (.bl true) H1 x1 g1 (.bl _)

def tV (m : EM) : TM := fun rho S => (m rho S).bind fun x => match truth x.2 x.1 with
  | some k => .ok (k, x.2)
  | none => .stuck
def tB (m : EM) : TM := fun rho S => (m rho S).bind fun x => match x.1 with
  | .fr (.bl k) => .ok (k, x.2)
  | _ => .stuck
theorem pt_v (ha : PD X W a ma) (he : ∀ whole, isTrue a X.env whole = (do let v ← whole; standAt a.pos; holding [v] (truthy v)) := by intro _; rfl) : PDT X W a (tV ma) := by
  obtain ⟨ta, pa, sa⟩ := ha.ex
  refine ⟨_, pt_truth pa he, fun ph S H sg rho Q g so h => sa ph S H sg rho _ g so (holds_imp (holds_bind h) (fun x hx => ?_) fun _ _ _ q => q)⟩
  intro ph1 v1 H1 x1 g1 d1
  revert hx
  cases e : truth x.2 x.1 with
  | none => exact fun hx => hx.elim
  | some k => exact fun hx => ⟨k, truth_ok g1 d1 e, hx ph1 H1 x1 g1⟩
theorem tB_post {K : PySem.W.Frag} {ph : List Addr} {H : Hp} {Q : Bool → Hp → Prop} {E : Exc → Slots → Store → Prop} {x : SV × Store} (hx : holds (match x.1 with | .fr (.bl k) => Res.ok (k, x.2) | _ => .stuck) (postT K ph H Q) E) : post K ph H (fun y H' => ∃ k, y = .bl k ∧ Q k H') x := by
  intro ph1 v1 H1 x1 g1 d1
  obtain ⟨sv, S'⟩ := x
  dsimp only at *
  split at hx
  · exact ⟨_, d_bl d1, hx ph1 H1 x1 g1⟩
  · exact hx.elim
theorem pt_of {r : TE} {m : EM} (hp : PT X a (tTest r)) (hs : SndE X W r m) : PDT X W a (tB m) :=
  ⟨_, hp, fun ph S H sg rho Q g so h => hs ph S H sg rho _ g so (holds_imp (holds_bind h) (fun x hx => tB_post hx) fun _ _ _ q => q)⟩
theorem pt_2 {op : CmpOp} {r : R2} {g : G2} (ho : OpR X (compareOp op) r) (hr : Op2 X W r g) (ha : PD X W a ma) (hb : PD X W b mb) (hm : behindInMarks op b = false := by first | exact nomark _ | rfl) : PDT X W (.Compare a [op] [b] pos) (tB (e2 g ma mb)) := by
  obtain ⟨ta, pa, sa⟩ := ha.ex
  obtain ⟨tb, pb, sb⟩ := hb.ex
  exact pt_of (pt_cmpR ho pa pb hm) fun ph S H sg rho Q gd so h => snd2 sa sb hr ph S H sg rho Q gd so h
theorem pt_lt (ha : PD X W a ma) (hb : PD X W b mb) : PDT X W (.Compare a [.Lt] [b] pos) (tB (e2 ltG ma mb)) := pt_2 op_lt cmp_ok ha hb
theorem pt_gt (ha : PD X W a ma) (hb : PD X W b mb) : PDT X W (.Compare a [.Gt] [b] pos) (tB (e2 gtG ma mb)) := pt_2 op_gt cmp_ok ha hb
theorem pt_ge (ha : PD X W a ma) (hb : PD X W b mb) : PDT X W (.Compare a [.GtE] [b] pos) (tB (e2 geG ma mb)) := pt_2 op_ge cmp_ok ha hb
theorem pt_eq (hu : X.A.units + 64 < cLine) (ha : PD X W a ma) (hb : PD X W b mb) : PDT X W (.Compare a [.Eq] [b] pos) (tB (e2 (eqG false) ma mb)) := pt_2 ((op_eqD hu).or op_eq) eq_ok ha hb
theorem pt_ne (hu : X.A.units + 64 < cLine) (ha : PD X W a ma) (hb : PD X W b mb) : PDT X W (.Compare a [.NotEq] [b] pos) (tB (e2 (eqG true) ma mb)) := pt_2 ((op_neD hu).or op_ne) ne_ok ha hb
theorem pt_is (ha : PD X W a ma) (hb : PD X W b mb) : PDT X W (.Compare a [.Is] [b] pos) (tB (e2 (isG false) ma mb)) := pt_2 op_isN is_ok ha hb
theorem pt_isnot (ha : PD X W a ma) (hb : PD X W b mb) : PDT X W (.Compare a [.IsNot] [b] pos) (tB (e2 (isG true) ma mb)) := pt_2 op_notN isNot_ok ha hb
def eCh (g g' : G2) (a b c : EM) : EM := fun rho S => (a rho S).bind fun x => (b rho x.2).bind fun y => (g x.1 y.1 y.2).bind fun z => match z.1 with
  | .fr (.bl true) => (c rho z.2).bind fun w => g' y.1 w.1 w.2
  | .fr (.bl false) => okV (.bl false) z.2
  | _ => .stuck
theorem ch_snd {ta tb tc : TE} {r r' : R2} {g g' : G2} (sa : SndE X W ta ma) (sb : SndE X W tb mb) (sc : SndE X W tc mc) (hr : Op2 X W r g) (hr' : Op2 X W r' g') : SndE X W (tChain r r' ta tb tc) (eCh g g' ma mb mc) := by
  intro ph S H sg rho Q gd so h
  refine sa ph S H sg rho _ gd so (holds_imp (holds_bind h) (fun x hx => ?_) fun _ _ _ q => q)
  intro ph1 v1 H1 x1 g1 d1
  refine sb ph1 x.2 H1 sg rho _ g1 (so.mono x1) (holds_imp (holds_bind hx) (fun y hy => ?_) fun e r s q => W.mono _ _ _ _ e r s x1 q)
  intro ph2 v2 H2 x2 g2 d2
  refine hr ph2 y.2 H2 v1 v2 x.1 y.1 _ g2 (d1.mono x2) d2 (holds_imp (holds_bind hy) (fun z hz => ?_) fun e r s q => W.mono _ _ _ _ e r s (x1.trans x2) q)
  intro ph3 v3 H3 x3 g3 d3
  have x13 := x1.trans (x2.trans x3)
  obtain ⟨zv, zs⟩ := z
  dsimp only at *
  split at hz
  · refine ⟨true, d_bl d3, ?_⟩
    rw [if_pos rfl]
    refine sc ph3 zs H3 sg rho _ g3 (so.mono x13) (holds_imp (holds_bind hz) (fun w hw => ?_) fun e r s q => W.mono _ _ _ _ e r s x13 q)
    intro ph4 v4 H4 x4 g4 d4
    exact hr' ph4 w.2 H4 v2 v4 y.1 w.1 Q g4 (d2.mono (x3.trans x4)) d4 (holds_imp hw (fun c => post.mono (x13.trans x4) c) fun e r s q => W.mono _ _ _ _ e r s (x13.trans x4) q)
  · refine ⟨false, d_bl d3, ?_⟩
    rw [if_neg Bool.false_ne_true]
    exact hz ph3 (.bl false) H3 x13 g3 (.bl _)
  · exact hz.elim
theorem pd_ch {op op' : CmpOp} {r r' : R2} {g g' : G2} (ho : OpR X (compareOp op) r) (ho' : OpR X (compareOp op') r') (hr : Op2 X W r g) (hr' : Op2 X W r' g') (ha : PD X W a ma) (hb : PD X W b mb) (hc : PD X W c mc)
    (hm : lastMarks [op, op'] [b, c] = false := by with_unfolding_all rfl) : PD X W (.Compare a [op, op'] [b, c] pos) (eCh g g' ma mb mc) := by
  obtain ⟨ta, pa, sa⟩ := ha.ex
  obtain ⟨tb, pb, sb⟩ := hb.ex
  obtain ⟨tc, pc, sc⟩ := hc.ex
  exact ⟨_, pe_chain ho ho' pa pb pc hm, ch_snd sa sb sc hr hr'⟩
theorem pt_ch {op op' : CmpOp} {r r' : R2} {g g' : G2} (ho : OpR X (compareOp op) r) (ho' : OpR X (compareOp op') r') (hr : Op2 X W r g) (hr' : Op2 X W r' g') (ha : PD X W a ma) (hb : PD X W b mb) (hc : PD X W c mc)
    (hm : lastMarks [op, op'] [b, c] = false := by with_unfolding_all rfl) : PDT X W (.Compare a [op, op'] [b, c] pos) (tB (eCh g g' ma mb mc)) := by
  obtain ⟨ta, pa, sa⟩ := ha.ex
  obtain ⟨tb, pb, sb⟩ := hb.ex
  obtain ⟨tc, pc, sc⟩ := hc.ex
  exact pt_of (pt_chain ho ho' pa pb pc hm) (ch_snd sa sb sc hr hr')
structure PDW (X : Cx) (W : XW X.K) (e : Expr) (m : TM) : Prop where
  ex : ∃ t, PW X e t ∧ SndT X W t m
def tNt (m : TM) : TM := fun rho S => (m rho S).bind fun x => .ok (!x.1, x.2)
def tAn (m n : TM) : TM := fun rho S => (m rho S).bind fun x => if x.1 then n rho x.2 else .ok (false, x.2)
def tOo (m n : TM) : TM := fun rho S => (m rho S).bind fun x => if x.1 then .ok (true, x.2) else n rho x.2
theorem pt_w {m : TM} (h : PDW X W a m) : PDT X W a m := by
  obtain ⟨t, p, s⟩ := h.ex
  exact ⟨t, p.pt, s⟩
theorem pt_nt {m : TM} (h : PDT X W a m) : PDT X W (.UnaryOp .Not a pos) (tNt m) := by
  obtain ⟨t, p, s⟩ := h.ex
  refine ⟨_, pt_not p, fun ph S H sg rho Q g so h => s ph S H sg rho _ g so (holds_imp (holds_bind h) (fun x hx => ?_) fun _ _ _ q => q)⟩
  exact fun ph1 H1 x1 g1 => hx ph1 H1 x1 g1
theorem pw_a1 {m : TM} (h : PDT X W a m) : PDW X W (.BoolOp .And [a] pos) m := by
  obtain ⟨t, p, s⟩ := h.ex
  exact ⟨t, pw_and1 p, s⟩
theorem pw_o1 {m : TM} (h : PDT X W a m) : PDW X W (.BoolOp .Or [a] pos) m := by
  obtain ⟨t, p, s⟩ := h.ex
  exact ⟨t, pw_or1 p, s⟩
theorem pw_a {m n : TM} {rest : List Expr} (h : PDT X W a m) (h2 : PDW X W (.BoolOp .And (b :: rest) pos) n) : PDW X W (.BoolOp .And (a :: b :: rest) pos) (tAn m n) := by
  obtain ⟨t, p, s⟩ := h.ex
  obtain ⟨t2, p2, s2⟩ := h2.ex
  refine ⟨_, pw_and p p2, fun ph S H sg rho Q g so h => s ph S H sg rho _ g so (holds_imp (holds_bind h) (fun x hx => ?_) fun _ _ _ q => q)⟩
  intro ph1 H1 x1 g1
  obtain ⟨k, S1⟩ := x
  cases k with
  | true => exact s2 ph1 S1 H1 sg rho Q g1 (so.mono x1) (holds_imp hx (fun c => postT.mono x1 c) fun e r s q => W.mono _ _ _ _ e r s x1 q)
  | false => exact hx ph1 H1 x1 g1
theorem pw_o {m n : TM} {rest : List Expr} (h : PDT X W a m) (h2 : PDW X W (.BoolOp .Or (b :: rest) pos) n) : PDW X W (.BoolOp .Or (a :: b :: rest) pos) (tOo m n) := by
  obtain ⟨t, p, s⟩ := h.ex
  obtain ⟨t2, p2, s2⟩ := h2.ex
  refine ⟨_, pw_or p p2, fun ph S H sg rho Q g so h => s ph S H sg rho _ g so (holds_imp (holds_bind h) (fun x hx => ?_) fun _ _ _ q => q)⟩
  intro ph1 H1 x1 g1
  obtain ⟨k, S1⟩ := x
  cases k with
  | false => exact s2 ph1 S1 H1 sg rho Q g1 (so.mono x1) (holds_imp hx (fun c => postT.mono x1 c) fun e r s q => W.mono _ _ _ _ e r s x1 q)
  | true => exact hx ph1 H1 x1 g1
def eIf (t : TM) (a b : EM) : EM := fun rho S => (t rho S).bind fun x => if x.1 then a rho x.2 else b rho x.2
theorem pd_if {m : TM} (ht : PDT X W c m) (ha : PD X W a ma) (hb : PD X W b mb) : PD X W (.IfExp c a b pos) (eIf m ma mb) := by
  obtain ⟨t, p, s⟩ := ht.ex
  obtain ⟨ta, pa, sa⟩ := ha.ex
  obtain ⟨tb, pb, sb⟩ := hb.ex
  refine ⟨_, pe_ifExp p pa pb, fun ph S H sg rho Q g so h => s ph S H sg rho _ g so (holds_imp (holds_bind h) (fun x hx => ?_) fun _ _ _ q => q)⟩
  intro ph1 H1 x1 g1
  obtain ⟨k, S1⟩ := x
  have up : ∀ {r : Res (SV × Store)}, holds r (post X.K ph H Q) (W.rel ph H) → holds r (post X.K ph1 H1 Q) (W.rel ph1 H1) := fun q => holds_imp q (fun c => post.mono x1 c) fun e r s q => W.mono _ _ _ _ e r s x1 q
  cases k with
  | true => exact sa ph1 S1 H1 sg rho Q g1 (so.mono x1) (up hx)
  | false => exact sb ph1 S1 H1 sg rho Q g1 (so.mono x1) (up hx)
end
end DL

namespace DL
open PySem L2

theorem atI_pair {α β : Type} {P : α → β → Prop} {l : List α} {m : List β} {i : Int} {b : β} (h : Paired P l m) (e : atI m i = some b) : ∃ a, atI l i = some a ∧ P a b := by
  unfold atI at e ⊢
  rw [h.length]
  cases q : ixN m.length i with
  | none => rw [q] at e; simp at e
  | some j =>
    rw [q] at e
    exact paired_get h (by simpa using e)
def cutA {α : Type} (xs : List α) (lo hi : Option Int) : List α := (xs.drop (HT.sIx xs.length 0 lo)).take (HT.sIx xs.length xs.length hi - HT.sIx xs.length 0 lo)
theorem paired_drop {α β : Type} {P : α → β → Prop} : ∀ {l : List α} {m : List β} (n : Nat), Paired P l m → Paired P (l.drop n) (m.drop n)
  | _, _, 0, r => r
  | _, _, _ + 1, .nil => .nil
  | _, _, n + 1, .cons _ r => paired_drop n r
theorem paired_take {α β : Type} {P : α → β → Prop} : ∀ {l : List α} {m : List β} (n : Nat), Paired P l m → Paired P (l.take n) (m.take n)
  | _, _, 0, _ => .nil
  | _, _, _ + 1, .nil => .nil
  | _, _, n + 1, .cons a r => .cons a (paired_take n r)
theorem paired_cut {α β : Type} {P : α → β → Prop} {l : List α} {m : List β} (h : Paired P l m) (lo hi : Option Int) : Paired P (cutA l lo hi) (cutA m lo hi) := by
  unfold cutA
  rw [h.length]
  exact paired_take _ (paired_drop _ h)
def newL0 (m : Bool) (xs : List SV) (S : Store) : Res (SV × Store) := if m then .ok (.cell S.length, S ++ [.lst xs]) else match allFr xs with
  | some ds => .ok (.fr (.lst ds), S)
  | none => .stuck
theorem newL0_ok {K : PySem.W.Frag} {ph : List Addr} {H : Hp} {S : Store} {vs : List V} {xs : List SV} {m : Bool} {Q : VK} {E : Exc → Slots → Store → Prop} (g : Good K ph H S) (d : DenSs K ph H vs xs) (h : holds (newL0 m xs S) (post K ph H Q) E) :
    ∀ p, H p = none → Q (.ref p) (upd H p (.lst vs)) := fun p hp => by
  unfold newL0 at h
  cases m with
  | true =>
    have e : Ext ph H (ph ++ [p]) (upd H p (.lst vs)) := Ext.cell hp
    exact h (ph ++ [p]) (.ref p) _ e (g.cell hp ⟨vs, upd_same, d.mono e⟩) ⟨p, by rw [← g.len]; simp, rfl⟩
  | false =>
    simp only [Bool.false_eq_true, if_false] at h
    split at h
    · rename_i ds hd
      have e : Ext ph H ph (upd H p (.lst vs)) := Ext.fresh hp
      refine h ph (.ref p) _ e (g.fresh hp) (.lst (vs := vs) (hide_of (g.new hp) upd_same) ?_)
      have d' := d.mono e
      rw [allFr_eq hd] at d'
      exact dens_of d'
    · exact h.elim
section
variable {X : Cx} {W : XW X.K} {a b c : Expr} {ma mb mc : EM} {pos : Pos}

def ixG : G2 := fun a b S => match b with
  | .fr (.int i) => match rdS S a with
    | some xs => match atI xs i with
      | some x => .ok (x, S)
      | none => .stuck
    | none => match a with
      | .fr (.tup ds) => match atI ds i with
        | some d => okV d S
        | none => .stuck
      | .fr (.str z) => if z.length ≤ sizeLine then match atI z.cps.toList i with
        | some c => okV (.str ⟨#[c]⟩) S
        | none => .stuck else .stuck
      | _ => .stuck
  | _ => .stuck
theorem atI_dens {K : PySem.W.Frag} {F : Hp} {vs : List V} {ds : List D} {i : Int} {d : D} (h : Dens K F vs ds) (e : atI ds i = some d) : ∃ v, atI vs i = some v ∧ Den K F v d := by
  unfold atI at e ⊢
  rw [h.len]
  cases q : ixN ds.length i with
  | none => rw [q] at e; simp at e
  | some j =>
    rw [q] at e
    exact h.get (by simpa using e)
theorem ix_ok : Op2 X W (rIx X.K) ixG := by
  intro ph S H x y a b Q g da db h
  unfold ixG at h
  split at h
  · rw [d_int db]
    split at h
    · rename_i xs hx
      obtain ⟨p, vs, rfl, s, r⟩ := rdS_ok g da hx
      split at h
      · rename_i z hz
        obtain ⟨v, hv, dv⟩ := atI_pair r hz
        exact .inl ⟨p, vs, _, v, rfl, rfl, s, hv, h ph v H (Ext.refl _ _) g dv⟩
      · exact h.elim
    · split at h
      · obtain ⟨p, vs, rfl, s, r⟩ := d_tup da
        split at h
        · rename_i d hd
          obtain ⟨v, hv, dv⟩ := atI_dens r hd
          exact .inr (.inl ⟨p, vs, _, v, rfl, rfl, hide_sub.sqT s, hv, h ph v H (Ext.refl _ _) g dv⟩)
        · exact h.elim
      · rw [d_str da]
        split at h
        · split at h
          · rename_i hz _ c hc
            exact .inr (.inr ⟨_, _, c, rfl, rfl, hz, hc, fin_v g (.str _) h⟩)
          · exact h.elim
        · exact h.elim
      · exact h.elim
  · exact h.elim
theorem pd_ix (ha : PD X W a ma) (hb : PD X W b mb) (hs : PlainIx b := by intro _ _; rfl) : PD X W (.Subscript a b pos) (e2 ixG ma mb) := by
  obtain ⟨ta, pa, sa⟩ := ha.ex
  obtain ⟨tb, pb, sb⟩ := hb.ex
  exact ⟨_, pe_ix ix_seq pa pb hs, fun ph S H sg rho Q gd so h => snd2 sa sb ix_ok ph S H sg rho Q gd so h⟩

abbrev PM := Slots → Store → Res (Option Int × Store)
def postP (K : PySem.W.Frag) (ph : List Addr) (H : Hp) (Q : Option Int → Hp → Prop) : Option Int × Store → Prop := fun r => ∀ ph' H', Ext ph H ph' H' → Good K ph' H' r.2 → Q r.1 H'
structure PDO (X : Cx) (W : XW X.K) (e : Option Expr) (m : PM) : Prop where
  ex : ∃ t, PO X e t ∧ ∀ (ph : List Addr) (S : Store) (H : Hp) (sg : L2.St) (rho : Slots) (Q : Option Int → Hp → Prop), Good X.K ph H S → SlotsOk X.K ph H sg rho →
    holds (m rho S) (postP X.K ph H Q) (W.rel ph H) → t sg H Q
def pN : PM := fun _ S => .ok (none, S)
def pS (m : EM) : PM := fun rho S => (m rho S).bind fun x => match x.1 with
  | .fr (.int i) => .ok (some i, x.2)
  | _ => .stuck
theorem po_n : PDO X W none pN := ⟨_, po_none, fun ph S H sg rho Q g so h => h ph H (Ext.refl _ _) g⟩
theorem po_s (ha : PD X W a ma) : PDO X W (some a) (pS ma) := by
  obtain ⟨ta, pa, sa⟩ := ha.ex
  refine ⟨_, po_some pa, fun ph S H sg rho Q g so h => sa ph S H sg rho _ g so (holds_imp (holds_bind h) (fun x hx => ?_) fun _ _ _ q => q)⟩
  intro ph1 v1 H1 x1 g1 d1
  obtain ⟨sv, S1⟩ := x
  dsimp only at *
  split at hx
  · exact ⟨_, d_int d1, hx ph1 H1 x1 g1⟩
  · exact hx.elim
def slG (c : Bool) (a : SV) (lo hi : Option Int) (S : Store) : Res (SV × Store) := match rdS S a with
  | some xs => newL0 c (cutA xs lo hi) S
  | none => match a with
    | .fr (.tup ds) => okV (.tup (cutA ds lo hi)) S
    | .fr (.str z) => if z.length ≤ sizeLine then okV (.str (cutS z lo hi)) S else .stuck
    | _ => .stuck
abbrev rSlAll (K : PySem.W.Frag) : V → Option Int → Option Int → Hp → VK → Prop := fun x lo hi H Q => rSlL K x lo hi H Q ∨ rSlA K x lo hi H Q ∨ rSlS x lo hi H Q
theorem sl_all : SlR X (rSlAll X.K) := sl_list.or (sl_tupA.or sl_str)
theorem dens_cut {K : PySem.W.Frag} {F : Hp} {vs : List V} {ds : List D} (h : Dens K F vs ds) (lo hi : Option Int) : Dens K F (cutA vs lo hi) (cutA ds lo hi) := by
  unfold cutA
  rw [h.len]
  exact (h.drop _).take _
theorem sl_ok {c : Bool} {ph : List Addr} {S : Store} {H : Hp} {x : V} {a : SV} {lo hi : Option Int} {Q : VK} (g : Good X.K ph H S) (da : DenS X.K ph H x a) (h : holds (slG c a lo hi S) (post X.K ph H Q) (W.rel ph H)) : rSlAll X.K x lo hi H Q := by
  unfold slG at h
  split at h
  · rename_i xs hx
    obtain ⟨p, vs, rfl, s, r⟩ := rdS_ok g da hx
    exact .inl ⟨p, vs, rfl, s, newL0_ok g (paired_cut r lo hi) h⟩
  · split at h
    · rename_i ds _
      obtain ⟨p, vs, rfl, s, r⟩ := d_tupH da
      refine .inr (.inl ⟨p, vs, rfl, hide_sub.sqT (.inl (.inl s)), fun hw => ?_, fun hw t ht => ?_⟩)
      · have e : cutA ds lo hi = ds := by
          unfold cutA
          rw [← r.len, hw.1, hw.2, r.len]
          simp
        rw [e] at h
        exact fin_v g (.tup s r) h
      · have e : Ext ph H ph (upd H t (.tup (cutV vs lo hi))) := Ext.fresh ht
        exact h ph (.ref t) _ e (g.fresh ht) (.tup (hide_of (g.new ht) upd_same) (dens_cut (r.mono e.sub) lo hi))
    · rw [d_str da]
      split at h
      · exact .inr (.inr ⟨_, rfl, by assumption, fin_v g (.str _) h⟩)
      · exact h.elim
    · exact h.elim
def eSl (c : Bool) (a : EM) (lo hi : PM) : EM := fun rho S => (a rho S).bind fun x => (lo rho x.2).bind fun l => (hi rho l.2).bind fun u => slG c x.1 l.1 u.1 u.2
theorem pd_sl (c : Bool) {lo hi : Option Expr} {ml mh : PM} {p2 : Pos} (ha : PD X W a ma) (hl : PDO X W lo ml) (hh : PDO X W hi mh) : PD X W (.Subscript a (.Slice lo hi none p2) pos) (eSl c ma ml mh) := by
  obtain ⟨ta, pa, sa⟩ := ha.ex
  obtain ⟨tl, pl, sl⟩ := hl.ex
  obtain ⟨tu, pu, su⟩ := hh.ex
  refine ⟨_, pe_slice sl_all pa pl pu, fun ph S H sg rho Q g so h => sa ph S H sg rho _ g so (holds_imp (holds_bind h) (fun x hx => ?_) fun _ _ _ q => q)⟩
  intro ph1 v1 H1 x1 g1 d1
  refine sl ph1 x.2 H1 sg rho _ g1 (so.mono x1) (holds_imp (holds_bind hx) (fun y hy => ?_) fun e r s q => W.mono _ _ _ _ e r s x1 q)
  intro ph2 H2 x2 g2
  refine su ph2 y.2 H2 sg rho _ g2 (so.mono (x1.trans x2)) (holds_imp (holds_bind hy) (fun z hz => ?_) fun e r s q => W.mono _ _ _ _ e r s (x1.trans x2) q)
  intro ph3 H3 x3 g3
  have x13 := x1.trans (x2.trans x3)
  exact sl_ok (W := W) g3 (d1.mono (x2.trans x3)) (holds_imp hz (fun c => post.mono x13 c) fun e r s q => W.mono _ _ _ _ e r s x13 q)

theorem pd_callB {x : Str} {p : Pos} {id : String} {es : List Expr} {m : AM} {r : List V → Hp → VK → Prop} {g : GA} (hc : CallR X (.builtin id) r) (hr : OpA X W r g) (hm : X.mg x = none) (hv : bootBuiltins x = some (.builtin id)) (ha : PDA X W (a :: es) m) (hg : Gl X x := by rfl)
    (hn : x ≠ "__name__" := by decide) (hdb : (x == ("__debug__" : Str)) = false := by decide)
    (he : starEach (a :: es) X.env = (false, eval a X.env) :: starEach es X.env := by rfl) (hpl : (backTo pos (starEach es X.env)).any (·.1) = false := by rfl) : PD X W (.Call (.Name x p) (a :: es) [] pos) (eA g m) := by
  obtain ⟨t, pa, sa⟩ := ha.ex
  exact ⟨_, pe_callB hc hg hm hv pa hn hdb he hpl, fun ph S H sg rho Q gd so h => sndA (r := r) sa hr ph S H sg rho Q gd so h⟩
theorem pd_callTy {x : Str} {p : Pos} {T : String} {es : List Expr} {m : AM} {r : List V → Hp → VK → Prop} {g : GA} (hc : CallR X (.type T) r) (hr : OpA X W r g) (hm : X.mg x = none) (hv : bootBuiltins x = some (.type T)) (ha : PDA X W (a :: es) m) (hg : Gl X x := by rfl)
    (hn : x ≠ "__name__" := by decide) (hdb : (x == ("__debug__" : Str)) = false := by decide)
    (he : starEach (a :: es) X.env = (false, eval a X.env) :: starEach es X.env := by rfl) (hpl : (backTo pos (starEach es X.env)).any (·.1) = false := by rfl) : PD X W (.Call (.Name x p) (a :: es) [] pos) (eA g m) := by
  obtain ⟨t, pa, sa⟩ := ha.ex
  exact ⟨_, pe_callTy hc hg hm hv pa hn hdb he hpl, fun ph S H sg rho Q gd so h => sndA (r := r) sa hr ph S H sg rho Q gd so h⟩
theorem one_of {K : PySem.W.Frag} {ph : List Addr} {H : Hp} {vs : List V} {x : SV} (h : DenSs K ph H vs [x]) : ∃ v, vs = [v] ∧ DenS K ph H v x := by
  cases h with
  | cons h t => cases t; exact ⟨_, rfl, h⟩
theorem two_of {K : PySem.W.Frag} {ph : List Addr} {H : Hp} {vs : List V} {x y : SV} (h : DenSs K ph H vs [x, y]) : ∃ v u, vs = [v, u] ∧ DenS K ph H v x ∧ DenS K ph H u y := by
  cases h with
  | cons h t =>
    obtain ⟨u, rfl, q⟩ := one_of t
    exact ⟨_, u, rfl, h, q⟩
def lenS (S : Store) (a : SV) : Option Nat := match rdS S a with
  | some xs => some xs.length
  | none => match a with
    | .fr (.tup ds) => some ds.length
    | .fr (.str z) => if z.length ≤ sizeLine then some z.length else none
    | _ => none
theorem lenS_ok {K : PySem.W.Frag} {ph : List Addr} {S : Store} {H : Hp} {v : V} {x : SV} {n : Nat} (g : Good K ph H S) (h : DenS K ph H v x) (e : lenS S x = some n) : LenV K v H n := by
  unfold lenS at e
  split at e
  · rename_i xs hx
    obtain ⟨p, vs, rfl, s, r⟩ := rdS_ok g h hx
    cases e
    exact .inl ⟨vs, s, r.length.symm⟩
  · split at e
    · obtain ⟨p, vs, rfl, s, r⟩ := d_tup h
      cases e
      exact .inr ⟨vs, hide_sub.sqT s, r.len.symm⟩
    · rw [d_str h]
      split at e
      · cases e; exact ⟨by assumption, rfl⟩
      · cases e
    · cases e
def lenG : GA := fun as S => match as with
  | [a] => match lenS S a with
    | some n => okV (.int n) S
    | none => .stuck
  | _ => .stuck
theorem len_ok : OpA X W (fun xs H Q => ∃ x n, xs = [x] ∧ LenV X.K x H n ∧ Q (.int n) H) lenG := by
  intro ph S H xs as Q g d h
  unfold lenG at h
  split at h
  · obtain ⟨v, rfl, dv⟩ := one_of d
    split at h
    · rename_i n hn
      exact ⟨v, n, rfl, lenS_ok g dv hn, fin_v g (.int _) h⟩
    · exact h.elim
  · exact h.elim
def absG : GA := fun as S => match as with
  | [.fr (.int i)] => okV (.int (if i < 0 then -i else i)) S
  | _ => .stuck
theorem abs_ok : OpA X W (fun xs H Q => ∃ i, xs = [.int i] ∧ Q (.int (if i < 0 then -i else i)) H) absG := by
  intro ph S H xs as Q g d h
  unfold absG at h
  split at h
  · obtain ⟨v, rfl, dv⟩ := one_of d
    rw [d_int dv]
    exact ⟨_, rfl, fin_v g (.int _) h⟩
  · exact h.elim
def intG : GA := fun as S => match as with
  | [.fr (.int i)] => okV (.int i) S
  | [.fr (.bl k)] => okV (.int (if k then 1 else 0)) S
  | _ => .stuck
theorem int_ok : OpA X W (fun xs H Q => (∃ i, xs = [.int i] ∧ Q (.int i) H) ∨ ∃ k, xs = [.bl k] ∧ Q (.int (if k then 1 else 0)) H) intG := by
  intro ph S H xs as Q g d h
  unfold intG at h
  split at h
  · obtain ⟨v, rfl, dv⟩ := one_of d
    rw [d_int dv]
    exact .inl ⟨_, rfl, fin_v g (.int _) h⟩
  · obtain ⟨v, rfl, dv⟩ := one_of d
    rw [d_bl dv]
    exact .inr ⟨_, rfl, fin_v g (.int _) h⟩
  · exact h.elim
def max2G : GA := fun as S => match as with
  | [.fr (.int i), .fr (.int j)] => okV (.int (if j > i then j else i)) S
  | _ => .stuck
def min2G : GA := fun as S => match as with
  | [.fr (.int i), .fr (.int j)] => okV (.int (if j < i then j else i)) S
  | _ => .stuck
end
end DL

namespace DL
open PySem PySem.Spec PyProof.Rows L2

inductive RV where
  | val (x : SV) | new (c : Cell)
abbrev FnM := List SV → Store → Res (RV × Store)
inductive Fl where
  | nx | bk | ct | rt (x : SV)
abbrev SM := Slots → Store → Res (Fl × Slots × Store)
def SV.below (n : Nat) : SV → Bool
  | .fr _ => true
  | .cell k => decide (k < n)
def Cell.below (n : Nat) : Cell → Bool
  | .lst xs => xs.all (SV.below n)
  | .ins _ fs => fs.all fun p => p.2.below n
  | .tup xs => xs.all (SV.below n)
  | .dic kvs => kvs.all fun p => p.2.below n
  | .dit kvs => kvs.all fun p => p.2.below n
  | .dil kvs => kvs.all fun p => p.2.below n
  | .dkl kvs => kvs.all fun p => p.2.below n
  | .err _ => true
theorem below_map (n : Nat) (ds : List D) : (ds.map SV.fr).all (SV.below n) = true := by
  simp [SV.below]
def frzC (S : Store) (n : Nat) : SV → Option D
  | .fr d => some d
  | .cell j => if n ≤ j then (match S[j]? with
    | some (.lst ys) => (allFr ys).map D.lst
    | _ => none) else none
def frzA (S : Store) (n : Nat) : List SV → Option (List D)
  | [] => some []
  | x :: xs => match frzC S n x, frzA S n xs with
    | some d, some ds => some (d :: ds)
    | _, _ => none
def leaveT (S : Store) (n : Nat) : Cell → Res (RV × Store)
  | .tup xs => match frzA S n xs with
    | some ds => .ok (.val (.fr (.tup ds)), S.take n)
    | none => .stuck
  | _ => .stuck
def leave (n : Nat) (x : SV) (S : Store) : Res (RV × Store) := if (S.take n).all (Cell.below n) then (match x with
  | .fr d => .ok (.val (.fr d), S.take n)
  | .cell k => if k < n then .ok (.val (.cell k), S.take n) else match S[k]? with
    | some c => if c.below n then .ok (.new c, S.take n) else leaveT S n c
    | none => .stuck) else .stuck
def leaveF (n : Nat) (r : Fl × Slots × Store) : Res (RV × Store) := match r.1 with
  | .nx => leave n (.fr .non) r.2.2
  | .rt x => leave n x r.2.2
  | _ => .stuck
def fnM (np n : Nat) (b : SM) : FnM := fun as S => if as.length = np then (b (as.map some ++ List.replicate (n - as.length) none) S).bind (leaveF S.length) else .stuck
section
variable {K : PySem.W.Frag} {ph ph' ph2 : List Addr} {H H' : Hp} {S : Store}
theorem sub_hide (h : ∀ a ∈ ph2, a ∈ ph') : Sub (hide ph' H) (hide ph2 H) := fun a o e => by
  obtain ⟨⟨h1, h2⟩, h3⟩ := hide_tb e
  exact hide_of (fun m => h1 (h a m)) h2 h3
theorem DenS.shrink {n : Nat} (h : ∀ a ∈ ph2, a ∈ ph') (hk : ∀ k, k < n → ph2[k]? = ph'[k]?) {v : V} {x : SV} (hb : x.below n = true) (d : DenS K ph' H v x) : DenS K ph2 H v x := by
  cases x with
  | fr d' => exact Den.mono (sub_hide h) d
  | cell k =>
    obtain ⟨p, h1, h2⟩ := d
    exact ⟨p, by rw [hk k (by simpa [SV.below] using hb)]; exact h1, h2⟩
theorem paired_all {α β : Type} {P Q : α → β → Prop} {f : β → Bool} (hi : ∀ a b, f b = true → P a b → Q a b) : ∀ {l : List α} {m : List β}, Paired P l m → m.all f = true → Paired Q l m
  | _, _, .nil, _ => .nil
  | _, _, .cons h t, e => by
    simp only [List.all_cons, Bool.and_eq_true] at e
    exact .cons (hi _ _ e.1 h) (paired_all hi t e.2)
theorem CellAt.shrink {n : Nat} (h : ∀ a ∈ ph2, a ∈ ph') (hk : ∀ k, k < n → ph2[k]? = ph'[k]?) {p : Addr} {c : Cell} (hb : c.below n = true) (d : CellAt K ph' H p c) : CellAt K ph2 H p c := by
  cases c with
  | lst xs =>
    obtain ⟨vs, h1, h2⟩ := d
    exact ⟨vs, h1, paired_all (f := SV.below n) (fun a b hb q => DenS.shrink h hk hb q) h2 (show xs.all (SV.below n) = true from hb)⟩
  | ins C fs =>
    obtain ⟨dx, vs, h1, h2⟩ := d
    exact ⟨dx, vs, h1, paired_all (f := fun p : Str × SV => p.2.below n) (fun a b hb q => ⟨q.1, DenS.shrink h hk hb q.2⟩) h2 (show (fs.all fun p => p.2.below n) = true from hb)⟩
  | tup xs =>
    obtain ⟨vs, h1, h2⟩ := d
    exact ⟨vs, h1, paired_all (f := SV.below n) (fun a b hb q => DenS.shrink h hk hb q) h2 (show xs.all (SV.below n) = true from hb)⟩
  | dic kvs =>
    obtain ⟨vs, h1, h2⟩ := d
    exact ⟨vs, h1, paired_all (f := fun p : Key × SV => p.2.below n) (fun a b hb q => ⟨q.1, DenS.shrink h hk hb q.2⟩) h2 (show (kvs.all fun p => p.2.below n) = true from hb)⟩
  | dit kvs =>
    obtain ⟨vs, h1, h2⟩ := d
    exact ⟨vs, h1, paired_all (f := fun p : List Key × SV => p.2.below n) (fun a b hb q => ⟨q.1, DenS.shrink h hk hb q.2⟩) h2 (show (kvs.all fun p => p.2.below n) = true from hb)⟩
  | dil kvs =>
    obtain ⟨od, vs, h1, h2⟩ := d
    exact ⟨od, vs, h1, paired_all (f := fun p : List Key × SV => p.2.below n) (fun a b hb q => ⟨q.1, DenS.shrink h hk hb q.2⟩) h2 (show (kvs.all fun p => p.2.below n) = true from hb)⟩
  | dkl kvs =>
    obtain ⟨od, vs, h1, h2⟩ := d
    exact ⟨od, vs, h1, paired_all (f := fun p : Key × SV => p.2.below n) (fun a b hb q => ⟨q.1, DenS.shrink h hk hb q.2⟩) h2 (show (kvs.all fun p => p.2.below n) = true from hb)⟩
  | err C =>
    obtain ⟨dx, fs, h1, h2⟩ := d
    exact ⟨dx, fs, h1, sub_hide h _ _ h2⟩
theorem paired_at {α β : Type} {P : α → β → Prop} : ∀ {l : List α} {m : List β} {k : Nat} {a : α} {b : β}, Paired P l m → l[k]? = some a → m[k]? = some b → P a b
  | _, _, _, _, _, .nil, e, _ => by simp at e
  | _, _, 0, _, _, .cons h t, e, e' => by simp at e e'; subst e; subst e'; exact h
  | _, _, k + 1, _, _, .cons h t, e, e' => paired_at (k := k) t (by simpa using e) (by simpa using e')
theorem Good.cut (g0 : Good K ph H S) (x : Ext ph H ph' H') {S' : Store} (g : Good K ph' H' S') (hb : (S'.take S.length).all (Cell.below S.length) = true) : Good K ph H' (S'.take S.length) := by
  obtain ⟨ps, rfl, hps⟩ := x.pre
  have hl := g0.len
  refine ⟨g0.nd, ?_, g.tb⟩
  have q := paired_take S.length g.cells
  rw [← hl] at q hb
  rw [List.take_left'  (by rw [hl])] at q
  rw [← hl]
  refine paired_all (f := Cell.below ph.length) (fun p c hc d => CellAt.shrink (n := ph.length) (fun a m => List.mem_append_left _ m) (fun k hk => ?_) hc d) q hb
  rw [List.getElem?_append_left hk]
theorem Ext.back (x : Ext ph H ph' H') : Ext ph H ph H' := ⟨⟨[], by simp, by simp⟩, x.keep, x.trk, x.frz⟩
def DenR (K : PySem.W.Frag) (ph : List Addr) (H0 H : Hp) (v : V) (S : Store) : RV → Prop
  | .val x => DenS K ph H v x
  | .new c => ∃ p, v = .ref p ∧ H0 p = none ∧ Good K (ph ++ [p]) H (S ++ [c])
def postF (K : PySem.W.Frag) (ph : List Addr) (H : Hp) (Q : VK) : RV × Store → Prop := fun r => ∀ v H', Ext ph H ph H' → Good K ph H' r.2 → DenR K ph H H' v r.2 r.1 → Q v H'
theorem frz_den {ps : List Addr} {S' : Store} (hn : ∀ p ∈ ps, p ∉ ph) (g : Good K (ph ++ ps) H' S') : ∀ {vs : List V} {xs : List SV} {ds : List D}, DenSs K (ph ++ ps) H' vs xs → frzA S' ph.length xs = some ds → Dens K (hide ph H') vs ds
  | _, _, ds, .nil, e => by
    simp only [frzA, Option.some.injEq] at e
    subst e
    exact .nil
  | v :: vs, x :: xs, ds, .cons h t, e => by
    unfold frzA at e
    split at e
    · rename_i d es h1 h2
      cases e
      refine .cons ?_ (frz_den hn g t h2)
      cases x with
      | fr d' =>
        simp only [frzC, Option.some.injEq] at h1
        subst h1
        exact Den.mono (sub_hide fun a m => List.mem_append_left _ m) h
      | cell j =>
        obtain ⟨p, hp, rfl⟩ := h
        have h1 : (if ph.length ≤ j then (match S'[j]? with | some (.lst ys) => (allFr ys).map D.lst | _ => none) else none) = some d := h1
        split at h1
        · rename_i hj
          split at h1
          · rename_i ys hys
            simp only [Option.map_eq_some_iff] at h1
            obtain ⟨zs, hz, rfl⟩ := h1
            have hm : p ∈ ps := by
              rw [List.getElem?_append_right hj] at hp
              exact List.mem_of_getElem? hp
            obtain ⟨ws, h4, h5⟩ := paired_at g.cells hp hys
            rw [allFr_eq hz] at h5
            exact .lst (hide_of (hn p hm) h4) (Dens.mono (sub_hide fun a m => List.mem_append_left _ m) (dens_of h5))
          · cases h1
        · cases h1
    · cases e
theorem leave_ok {Q : VK} {E : Exc → Slots → Store → Prop} (g0 : Good K ph H S) (x : Ext ph H ph' H') {S' : Store} (g : Good K ph' H' S') {v : V} {sv : SV} (d : DenS K ph' H' v sv) (h : holds (leave S.length sv S') (postF K ph H Q) E) : Q v H' := by
  unfold leave at h
  split at h
  · rename_i hb
    have gc := g0.cut x g hb
    obtain ⟨ps, rfl, hps⟩ := x.pre
    have hl := g0.len
    split at h
    · exact h v H' x.back gc (DenS.shrink (n := 0) (ph2 := ph) (fun a m => List.mem_append_left _ m) (fun k hk => by omega) rfl d)
    · obtain ⟨p, h1, rfl⟩ := d
      rename_i k
      split at h
      · rename_i hk
        refine h _ H' x.back gc ⟨p, ?_, rfl⟩
        rw [List.getElem?_append_left (by omega)] at h1
        exact h1
      · rename_i hk
        split at h
        · rename_i c hc
          split at h
          · rename_i hcb
            have hp : p ∈ ps := by
              rw [List.getElem?_append_right (by omega)] at h1
              exact List.mem_of_getElem? h1
            have hm : ∀ a ∈ ph ++ [p], a ∈ ph ++ ps := fun a m => by
              rcases List.mem_append.mp m with m | m
              · exact List.mem_append_left _ m
              · rw [List.mem_singleton.mp m]; exact List.mem_append_right _ hp
            have hn : p ∉ ph := fun m => by
              obtain ⟨o, e⟩ := g0.there m
              rw [hps p hp] at e; cases e
            have hix : ∀ j, j < S.length → (ph ++ [p])[j]? = (ph ++ ps)[j]? := fun j hj => by
              rw [List.getElem?_append_left (by omega), List.getElem?_append_left (by omega)]
            refine h _ H' x.back gc ⟨p, rfl, hps p hp, ⟨?_, ?_, g.tb⟩⟩
            · exact List.nodup_append.mpr ⟨g0.nd, by simp, fun a ha b hb' e => hn (by rw [← List.mem_singleton.mp hb', ← e]; exact ha)⟩
            · have q := paired_take S.length g.cells
              rw [List.take_left' hl] at q
              exact paired_snoc (paired_all (f := Cell.below S.length) (fun p' c' hc' d' => CellAt.shrink (n := S.length) hm hix hc' d') q hb) (CellAt.shrink (n := S.length) hm hix hcb (paired_at g.cells h1 hc))
          · unfold leaveT at h
            split at h
            · rename_i xs hxs
              split at h
              · rename_i ds hds
                have hp : ∀ q ∈ ps, q ∉ ph := fun q hq m => by
                  obtain ⟨o, e⟩ := g0.there m
                  rw [hps q hq] at e; cases e
                have hpm : p ∈ ps := by
                  rw [List.getElem?_append_right (by omega)] at h1
                  exact List.mem_of_getElem? h1
                obtain ⟨ws, h4, h5⟩ := paired_at g.cells h1 hc
                rw [← hl] at hds
                exact h _ H' x.back gc (Den.tup (vs := ws) (hide_of (hp p hpm) h4) (frz_den hp g h5 hds))
              · exact h.elim
            · exact h.elim
        · exact h.elim
  · exact h.elim
end

def postS (K : PySem.W.Frag) (ph : List Addr) (H : Hp) (Dn : Ends) : Fl × Slots × Store → Prop := fun r => ∀ ph' sg H', Ext ph H ph' H' → Good K ph' H' r.2.2 → SlotsOk K ph' H' sg r.2.1 → match r.1 with
  | .nx => Dn.nx sg H'
  | .bk => Dn.bk sg H'
  | .ct => Dn.ct sg H'
  | .rt x => ∀ v, DenS K ph' H' v x → Dn.rt v H'
theorem postS.mono {K : PySem.W.Frag} {ph ph' : List Addr} {H H' : Hp} {Dn : Ends} (e : Ext ph H ph' H') (r : Fl × Slots × Store) (h : postS K ph H Dn r) : postS K ph' H' Dn r := fun p s G a g d => h p s G (e.trans a) g d
abbrev SndS (X : Cx) (W : XW X.K) (t : TS) (m : SM) : Prop := ∀ (ph : List Addr) (S : Store) (H : Hp) (sg : L2.St) (rho : Slots) (Dn : Ends), Good X.K ph H S → SlotsOk X.K ph H sg rho →
    holds (m rho S) (postS X.K ph H Dn) (W.rel ph H) → t Dn sg H
structure PSD (X : Cx) (W : XW X.K) (st : Stmt) (m : SM) : Prop where
  ex : ∃ t, PS X st t ∧ SndS X W t m
structure PSDs (X : Cx) (W : XW X.K) (st : List Stmt) (m : SM) : Prop where
  ex : ∃ t, PSs X st t ∧ SndS X W t m

def ExD (K : PySem.W.Frag) (F : Hp) (e : Exc) (cls : Value) (d : Option Addr) : Prop := cls = .ref (He.ga K e.cls) ∧ ((d = none ∧ e.fs = []) ∨ (e.fs ≠ [] ∧ ∃ a vs, d = some a ∧ F a = some (.xd vs) ∧ DenF K F vs e.fs))
theorem ExD.mono {K : PySem.W.Frag} {F F' : Hp} (h : Sub F F') {e : Exc} {cls : Value} {d : Option Addr} (x : ExD K F e cls d) : ExD K F' e cls d :=
  ⟨x.1, x.2.imp id fun ⟨n, a, vs, q1, q2, q3⟩ => ⟨n, a, vs, q1, h _ _ q2, DenF.mono h q3⟩⟩
def XW.of (K : PySem.W.Frag) (Wq : L2.WX) : XW K := ⟨fun ph H e r S => ∀ ph' H' sg cls d, Ext ph H ph' H' → Good K ph' H' S → SlotsOk K ph' H' sg r → ExD K (hide ph' H') e cls d → Wq cls d sg H', fun _ _ _ _ _ _ _ x q ph' H' sg cls d y => q ph' H' sg cls d (x.trans y)⟩
def postX (K : PySem.W.Frag) (ph : List Addr) (H : Hp) (E : XK) : Exc → Slots → Store → Prop := fun e _ S => ∀ ph' H' cls d, Ext ph H ph' H' → Good K ph' H' S → ExD K (hide ph' H') e cls d → E cls d H'
abbrev XW.fn (K : PySem.W.Frag) (E : XK) : XW K := XW.of K fun cls d _ H => E cls d H
def spD (K : PySem.W.Frag) (m : FnM) : Sp := fun vs H Q E => ∃ ph S as, Good K ph H S ∧ DenSs K ph H vs as ∧ holds (m as S) (postF K ph H Q) (postX K ph H E)
def XW.none (K : PySem.W.Frag) : XW K := ⟨fun _ _ _ _ _ => False, fun _ _ _ _ _ _ _ _ h => h⟩
structure FnD (P : Program) (w : World) (K : PySem.W.Frag) (mg : Str → Option Value) (base : Heap) (k : Nat) (f : Addr) (fd : FuncData) (ps : List Str) (m : FnM) : Prop where
  len : ∀ vs H Q E, spD K m vs H Q E → vs.length = ps.length
  run : ∀ (A : Around) (outer : List Env) (s : Shared) (H : Hp) (args : Args) (us : List Value) (vs : List V) (Q : VK) (E : XK), A.guards = some [] → Room k A → Env0 P w K mg base A outer s H →
    BindsTo s fd args (ps.zip us) → Vals vs us → spD K m vs H Q E → codeAny (model P w) A (.call (.ref f) args) (CR (L2.CX P w) outer P w H s Q E) s
section
variable {P : Program} {w : World} {K : PySem.W.Frag} {mg : Str → Option Value} {base : Heap}
theorem spD_len {np n : Nat} {b : SM} {vs : List V} {H : Hp} {Q : VK} {E : XK} (h : spD K (fnM np n b) vs H Q E) : vs.length = np := by
  obtain ⟨ph, S, as, g, d, h⟩ := h
  unfold fnM at h
  split at h
  · rw [d.length]; assumption
  · exact h.elim
theorem fnD_of {k : Nat} {f : Addr} {name qual : Str} {params : Arguments} {body : List Stmt} {scope : Scope} {dV kV doc pm cdv ct oc : Value} {an od : Option Addr} {osl : Array (Option Value)} {N ps : List Str} {b : SM}
    (lk : K.lookup f = some ⟨oc, od, .func (PySem.W.fnOf name qual params body scope dV kV doc pm an cdv ct), osl⟩) (hcd : PySem.W.codeIn K cdv qual = true) (Sc : FnScope N ps scope)
    (hb : ∀ (A : Around) (outer : List Env) (s : Shared) (H : Hp) (E : XK), (A.deeper (envOfC qual scope s.heap.objs.size f cdv)).guards = some [] → Room k (A.deeper (envOfC qual scope s.heap.objs.size f cdv)) →
      PSDs (cxOf (L2.CX P w) P w K mg base N qual scope f cdv A outer s H E) (XW.fn K E) body b) :
    FnD P w K mg base (k + 1) f (PySem.W.fnOf name qual params body scope dV kV doc pm an cdv ct) ps (fnM ps.length N.length b) := by
  refine ⟨fun vs H Q E h => spD_len h, ?_⟩
  intro A outer s H args us vs Q E hgd hroom e0 hbind rv hsp
  have len0 : vs.length = ps.length := spD_len hsp
  have KX : K.In s.heap := e0.mod.kin.keeps fun b o e => (e0.bs b o e).1
  have lim : s.heap.NoLimit := e0.mod.nolimit.keeps fun b o e => (e0.bs b o e).1
  have kinds : ∀ y ∈ ps.zip us, scope.names.lookup y.1 = some .local ∨ (scope.names.lookup y.1 = some .cell ∧ ((cellsFrom (s.heap.objs.size + 1) scope.names []).lookup y.1).isSome = true) := by
    rintro ⟨n, v⟩ hy
    cases Sc.par n (List.of_mem_zip hy).1 with
    | inl q => exact .inl q
    | inr q => exact .inr ⟨q, PySem.W.cellsFrom_some _ _ _ (.inl q)⟩
  refine codeAny_call_function hroom.depth (KX _ _ lk) rfl Sc.co Sc.gen rfl (PySem.W.codeRec_of KX hcd) (hbind _ _ _ _ ?_)
  refine wpAny_newFunctionEnv_cells Sc.kind kinds fun env he s1 x => ?_
  subst he
  refine ⟨lim.keeps x.toInCall.keep, codeAny_func ?_⟩
  obtain ⟨t, ht, snd⟩ := (hb A outer s H E hgd (hroom.deeper _)).ex
  have I : Inv (cxOf (L2.CX P w) P w K mg base N qual scope f cdv A outer s H E) [] (L2.start N vs) H s1 := inv_start Sc hroom.hd e0 len0 rv x
  have done : ∀ {sg' : L2.St} {H' : Hp} {v : V} {u : Value} {s' : Shared}, Inv (cxOf (L2.CX P w) P w K mg base N qual scope f cdv A outer s H E) [] sg' H' s' → RelV v u → Q v H' → CE outer P w H s Q u s' := by
    intro sg' H' v u s' J rv q
    exact ⟨v, H', J.os, J.bare, J.base, J.hok, rv, q⟩
  have rd : t { nx := fun _ H' => Q .non H', rt := Q } (L2.start N vs) H := by
    obtain ⟨ph, S, as, g, d, hh⟩ := hsp
    have la : as.length = ps.length := by rw [← d.length]; exact len0
    unfold fnM at hh
    rw [if_pos la] at hh
    refine snd ph S H (L2.start N vs) _ _ g ⟨by simp [L2.start, d.length], fun i x hi => ?_⟩ (holds_imp (holds_bind hh) (fun r hr => ?_) fun _ _ _ q ph' H' _ cls d x' g' _ z => q ph' H' cls d x' g' z)
    · have hi' : (as.map some ++ List.replicate (N.length - as.length) none)[i]? = some (some x) := hi
      by_cases hlt : i < as.length
      · rw [List.getElem?_append_left (by simpa using hlt), List.getElem?_map] at hi'
        cases q : as[i]? with
        | none => rw [q] at hi'; cases hi'
        | some y =>
          rw [q] at hi'
          have e := Option.some.inj (Option.some.inj hi')
          subst e
          obtain ⟨v, h1, h2⟩ := paired_get d q
          refine ⟨v, ?_, h2⟩
          unfold L2.start
          rw [List.getElem?_append_left (by rw [List.length_map, d.length]; exact hlt), List.getElem?_map, h1]
          rfl
      · rw [List.getElem?_append_right (by simpa using hlt)] at hi'
        have := List.getElem?_replicate (n := N.length - as.length) (a := (none : Option SV)) (i := i - (as.map some).length)
        rw [this] at hi'
        split at hi' <;> cases hi'
    · intro ph' sg' H' x' g' so'
      obtain ⟨fl, rho', S'⟩ := r
      cases fl with
      | nx => exact leave_ok g x' g' (v := .non) (sv := .fr .non) Den.non hr
      | rt sv => exact fun v dv => leave_ok g x' g' dv hr
      | bk => exact hr.elim
      | ct => exact hr.elim
  refine wpAny_mono (ht.run [] s1 (L2.start N vs) H _ I rd) (fun fl s' hs => ?_) fun e s' hs => hs
  cases fl with
  | ret u =>
    obtain ⟨v, sg', H', J, rv, q⟩ := hs
    exact done J rv q
  | next =>
    obtain ⟨sg', H', J, q⟩ := hs
    exact done (v := V.non) (u := Value.none) J rfl q
  | brk => exact hs.choose_spec.choose_spec.2.elim
  | cont => exact hs.choose_spec.choose_spec.2.elim
structure CalD (P : Program) (w : World) (K : PySem.W.Frag) (mg : Str → Option Value) (base : Heap) (k : Nat) (x : Str) (m : FnM) : Prop where
  ex : ∃ f fd ps, mg x = some (.ref f) ∧ PySem.W.keepIn K (.ref f) = true ∧ Binds K fd ps [] ∧ FnD P w K mg base k f fd ps m
theorem calD_of {k : Nat} {x : Str} {st : Stmt} {f : Addr} {fd : FuncData} {N ps : List Str} {b : SM} (F : Fun K x x st f fd) (hm : mg x = some (.ref f)) (hbd : Binds K fd ps []) (Sc : FnScope N ps (defScope st))
    (hb : ∀ (cdv : Value) (A : Around) (outer : List Env) (s : Shared) (H : Hp) (E : XK), (A.deeper (envOfC x (defScope st) s.heap.objs.size f cdv)).guards = some [] → Room k (A.deeper (envOfC x (defScope st) s.heap.objs.size f cdv)) →
      PSDs (cxOf (L2.CX P w) P w K mg base N x (defScope st) f cdv A outer s H E) (XW.fn K E) (defBody st) b) : CalD P w K mg base (k + 1) x (fnM ps.length N.length b) := by
  obtain ⟨oc, od, kV, doc, pm, an, cdv, ct, osl, rfl, lk, hcd⟩ := F.ex
  exact ⟨f, _, ps, hm, F.kp, hbd, fnD_of lk hcd Sc fun A outer s H E => hb cdv A outer s H E⟩
end
def noX (r : Res (RV × Store)) : Res (RV × Store) := match r with
  | .exc _ _ _ => .stuck
  | x => x
def allFrK : List (Key × SV) → Option (List (Key × D))
  | [] => some []
  | (k, .fr d) :: r => (allFrK r).map ((k, d) :: ·)
  | _ => none
theorem denK_of {K : PySem.W.Frag} {ph : List Addr} {H : Hp} : ∀ {vs : List (Key × V)} {kvs : List (Key × SV)} {ds : List (Key × D)}, DenSK K ph H vs kvs → allFrK kvs = some ds → DenK K (hide ph H) vs ds
  | _, [], ds, .nil, e => by
    simp only [allFrK, Option.some.injEq] at e
    subst e
    exact .nil
  | (k', v) :: vs, (k, .fr d) :: r, ds, .cons h t, e => by
    simp only [allFrK, Option.map_eq_some_iff] at e
    obtain ⟨es, h1, rfl⟩ := e
    obtain ⟨h2, h3⟩ := h
    dsimp only at h2
    subst h2
    exact .cons h3 (denK_of t h1)
  | _ :: _, (k, .cell _) :: r, ds, .cons h t, e => by simp [allFrK] at e
def freeze : Cell → Option D
  | .lst xs => (allFr xs).map D.lst
  | .dic kvs => (allFrK kvs).map D.dct
  | .ins _ _ => none
  | .tup _ => none
  | .dit _ => none
  | .dil _ => none
  | .dkl _ => none
  | .err _ => none
def back (c : Bool) (r : RV × Store) : Res (SV × Store) := match r.1 with
  | .val x => .ok (x, r.2)
  | .new cl => if c then .ok (.cell r.2.length, r.2 ++ [cl]) else match freeze cl with
    | some d => .ok (.fr d, r.2)
    | none => .stuck
def eCall (f : FnM) (c : Bool) (m : AM) : EM := fun rho S => (m rho S).bind fun x => (noX (f x.1 x.2)).bind (back c)
section
variable {X : Cx} {W : XW X.K} {e : Expr} {es : List Expr} {pos p : Pos} {m : AM}
theorem back_ok {ph ph1 : List Addr} {H H1 : Hp} {Q : VK} {c : Bool} {r : RV × Store} {E : Exc → Slots → Store → Prop} (x1 : Ext ph H ph1 H1) (h : holds (back c r) (post X.K ph H Q) E) : postF X.K ph1 H1 Q r := by
  intro v H2 x2 g2 d2
  obtain ⟨rv, S2⟩ := r
  cases rv with
  | val x => exact h ph1 v H2 (x1.trans x2) g2 d2
  | new cl =>
    obtain ⟨q, rfl, hn, g3⟩ := d2
    have x3 : Ext ph1 H1 (ph1 ++ [q]) H2 := ⟨⟨[q], rfl, fun a ha => by rw [List.mem_singleton.mp ha]; exact hn⟩, x2.keep, x2.trk, x2.frz⟩
    unfold back at h
    dsimp only at h g2 g3
    cases c with
    | true => exact h (ph1 ++ [q]) (.ref q) H2 (x1.trans x3) g3 ⟨q, by rw [← g2.len]; simp, rfl⟩
    | false =>
      simp only [Bool.false_eq_true, if_false] at h
      split at h
      · rename_i d hd
        refine h ph1 (.ref q) H2 (x1.trans x2) g2 ?_
        have cq : CellAt X.K (ph1 ++ [q]) H2 q cl := paired_at (k := S2.length) g3.cells (by rw [← g2.len]; simp) (by simp)
        cases cl with
        | lst xs =>
          obtain ⟨vs, h4, h5⟩ := cq
          simp only [freeze, Option.map_eq_some_iff] at hd
          obtain ⟨ds, h6, rfl⟩ := hd
          rw [allFr_eq h6] at h5
          have hq : q ∉ ph1 := fun mm => by
            have := g3.nd
            rw [List.nodup_append] at this
            exact this.2.2 q mm q (by simp) rfl
          exact .lst (hide_of hq h4) (Dens.mono (sub_hide fun a ha => List.mem_append_left _ ha) (dens_of h5))
        | ins C fs => simp [freeze] at hd
        | tup xs => simp [freeze] at hd
        | dit xs => simp [freeze] at hd
        | dil xs => simp [freeze] at hd
        | dkl xs => simp [freeze] at hd
        | err C => simp [freeze] at hd
        | dic kvs =>
          simp only [freeze, Option.map_eq_some_iff] at hd
          obtain ⟨ds, h6, rfl⟩ := hd
          obtain ⟨vs, h4, h5⟩ := cq
          have hq : q ∉ ph1 := fun mm => by
            have := g3.nd
            rw [List.nodup_append] at this
            exact this.2.2 q mm q (by simp) rfl
          exact .dct (hide_of hq h4) (DenK.mono (sub_hide fun a ha => List.mem_append_left _ ha) (denK_of h5 h6))
      · exact h.elim
theorem noX_ok {r : Res (RV × Store)} {Q : RV × Store → Prop} {E E' : Exc → Slots → Store → Prop} (h : holds (noX r) Q E) : holds r Q E' := by
  cases r with
  | ok a => exact h
  | exc _ _ _ => exact h.elim
  | stuck => exact h
theorem pe_callD {k j : Nat} {x : Str} {f : FnM} {t : TA} (c : CalD X.prog X.w X.K X.mg X.base k x f) (hr : Room j X.A) (hk : k ≤ j) (hgd : X.A.guards = some []) (hg : Gl X x) (ha : PA X (e :: es) t)
    (hdb : (x == ("__debug__" : Str)) = false) (he : starEach (e :: es) X.env = (false, eval e X.env) :: starEach es X.env) (hpl : (backTo pos (starEach es X.env)).any (·.1) = false) :
    PE X (.Call (.Name x p) (e :: es) [] pos) (fun sg H Q => t sg H fun vs H1 => spD X.K f vs H1 Q E0) := by
  obtain ⟨g, fd, ps, hm, hkp, hbd, F⟩ := c.ex
  refine ⟨fun pins s sg H Q I h => wpAny_Call_Name_kw (ld_glob I hg hm ?_ hdb)⟩
  refine PySem.W.callWith_K (h₀ := X.base) I.ok.mod.kin hkp (thn (ha.run pos pins s sg H _ I h) fun us s1 ⟨vs, H1, I1, r, q⟩ => ⟨I1.kIn, ?_⟩) he hpl
  have hl : (us ++ []).length = ps.length := by rw [List.append_nil, ← r.length]; exact F.len _ _ _ _ q
  have bt := hbd s1 us I1.kIn hl
  rw [List.append_nil] at bt
  refine wpAny_call (codeAny_mono (F.run X.A X.stack s1 H1 ⟨us, []⟩ us vs Q E0 hgd (hr.mono hk) I1.env0 bt r q) fun r s' hq => ?_)
  cases r with
  | error e => exact passL pins sg H1 s1 e s' I1 hq
  | ok fl =>
    cases fl with
    | ret u => exact I1.after hq
    | next => exact False.elim hq
    | brk => exact False.elim hq
    | cont => exact False.elim hq
theorem pd_call {k j : Nat} {x : Str} {f : FnM} (cc : Bool) (c : CalD X.prog X.w X.K X.mg X.base k x f) (hr : Room j X.A) (hk : k ≤ j) (hgd : X.A.guards = some []) (ha : PDA X W (e :: es) m) (hg : Gl X x := by rfl)
    (hdb : (x == ("__debug__" : Str)) = false := by decide) (he : starEach (e :: es) X.env = (false, eval e X.env) :: starEach es X.env := by rfl) (hpl : (backTo pos (starEach es X.env)).any (·.1) = false := by rfl) : PD X W (.Call (.Name x p) (e :: es) [] pos) (eCall f cc m) := by
  obtain ⟨t, pa, sa⟩ := ha.ex
  refine ⟨_, pe_callD c hr hk hgd hg pa hdb he hpl, fun ph S H sg rho Q gd so h => sa ph S H sg rho _ gd so (holds_imp (holds_bind h) (fun y hy => ?_) fun _ _ _ q => q)⟩
  intro ph1 vs H1 x1 g1 d1
  exact ⟨ph1, y.2, y.1, g1, d1, noX_ok (holds_imp (holds_bind hy) (fun r hr => back_ok x1 hr) fun _ _ _ q => q)⟩
end
end DL

namespace DL
open PySem PySem.Spec PyProof.Rows L2

section
variable {X : Cx} {W : XW X.K} {a b c : Expr} {ma mb mc : EM} {pos : Pos}
def sNx : SM := fun rho S => .ok (.nx, rho, S)
def sSeq (m n : SM) : SM := fun rho S => (m rho S).bind fun r => match r.1 with
  | .nx => n r.2.1 r.2.2
  | f => .ok (f, r.2.1, r.2.2)
theorem pss_n : PSDs X W [] sNx := ⟨_, pss_nil, fun ph S H sg rho Dn g so h => h ph sg H (Ext.refl _ _) g so⟩
theorem pss_c {st : Stmt} {rest : List Stmt} {m n : SM} (h1 : PSD X W st m) (h2 : PSDs X W rest n) : PSDs X W (st :: rest) (sSeq m n) := by
  obtain ⟨t, p, s⟩ := h1.ex
  obtain ⟨t2, p2, s2⟩ := h2.ex
  refine ⟨_, pss_cons p p2, fun ph S H sg rho Dn g so h => s ph S H sg rho _ g so (holds_imp (holds_bind h) (fun r hr => ?_) fun _ _ _ q => q)⟩
  intro ph1 sg1 H1 x1 g1 so1
  obtain ⟨fl, rho1, S1⟩ := r
  cases fl with
  | nx => exact s2 ph1 S1 H1 sg1 rho1 Dn g1 so1 (holds_imp hr (fun c => postS.mono x1 c) fun e r s q => W.mono _ _ _ _ e r s x1 q)
  | bk => exact hr ph1 sg1 H1 x1 g1 so1
  | ct => exact hr ph1 sg1 H1 x1 g1 so1
  | rt x => exact hr ph1 sg1 H1 x1 g1 so1
theorem pss_1 {st : Stmt} {m : SM} (h1 : PSD X W st m) : PSDs X W [st] m := by
  obtain ⟨t, p, s⟩ := h1.ex
  exact ⟨t, pss_one p, s⟩
def sBk : SM := fun rho S => .ok (.bk, rho, S)
def sCt : SM := fun rho S => .ok (.ct, rho, S)
def sRet (m : EM) : SM := fun rho S => (m rho S).bind fun x => .ok (.rt x.1, rho, x.2)
theorem psd_ret (ha : PD X W a ma) : PSD X W (.Return (some a) pos) (sRet ma) := by
  obtain ⟨ta, pa, sa⟩ := ha.ex
  refine ⟨_, ps_ret pa, fun ph S H sg rho Dn g so h => sa ph S H sg rho _ g so (holds_imp (holds_bind h) (fun x hx => ?_) fun _ _ _ q => q)⟩
  exact fun ph1 v1 H1 x1 g1 d1 => hx ph1 sg H1 x1 g1 (so.mono x1) v1 d1
def sRetN : SM := fun rho S => .ok (.rt (.fr .non), rho, S)
def sIf (t : TM) (m n : SM) : SM := fun rho S => (t rho S).bind fun x => if x.1 then m rho x.2 else n rho x.2
theorem psd_if {l1 l2 : List Stmt} {m : TM} {m1 m2 : SM} (ht : PDT X W c m) (h1 : PSDs X W l1 m1) (h2 : PSDs X W l2 m2) : PSD X W (.If c l1 l2 pos) (sIf m m1 m2) := by
  obtain ⟨t, p, s⟩ := ht.ex
  obtain ⟨t1, p1, s1⟩ := h1.ex
  obtain ⟨t2, p2, s2⟩ := h2.ex
  refine ⟨_, ps_if p p1 p2, fun ph S H sg rho Dn g so h => s ph S H sg rho _ g so (holds_imp (holds_bind h) (fun x hx => ?_) fun _ _ _ q => q)⟩
  intro ph1 H1 x1 g1
  obtain ⟨k, S1⟩ := x
  have up : ∀ {r : Res (Fl × Slots × Store)}, holds r (postS X.K ph H Dn) (W.rel ph H) → holds r (postS X.K ph1 H1 Dn) (W.rel ph1 H1) := fun q => holds_imp q (fun c => postS.mono x1 c) fun e r s q => W.mono _ _ _ _ e r s x1 q
  cases k with
  | true => exact s1 ph1 S1 H1 sg rho Dn g1 (so.mono x1) (up hx)
  | false => exact s2 ph1 S1 H1 sg rho Dn g1 (so.mono x1) (up hx)
def sEx (m : EM) : SM := fun rho S => (m rho S).bind fun x => .ok (.nx, rho, x.2)
theorem psd_expr (ha : PD X W a ma) (hs : swapsWith a none pos.line X.env = pure false := by rfl) : PSD X W (.Expr a pos) (sEx ma) := by
  obtain ⟨ta, pa, sa⟩ := ha.ex
  refine ⟨_, ps_expr pa hs, fun ph S H sg rho Dn g so h => sa ph S H sg rho _ g so (holds_imp (holds_bind h) (fun x hx => ?_) fun _ _ _ q => q)⟩
  exact fun ph1 v1 H1 x1 g1 d1 => hx ph1 sg H1 x1 g1 (so.mono x1)

abbrev GM := SV → Slots → Store → Res (Slots × Store)
abbrev GMs := List SV → Slots → Store → Res (Slots × Store)
def Out (is : List Nat) (sg sg' : L2.St) : Prop := sg'.length = sg.length ∧ ∀ i, i ∉ is → sg'[i]? = sg[i]?
def postG (K : PySem.W.Frag) (ph : List Addr) (H : Hp) (is : List Nat) (sg : L2.St) (Q : L2.St → Hp → Prop) : Slots × Store → Prop := fun r =>
  ∀ ph' sg' H', Ext ph H ph' H' → Good K ph' H' r.2 → SlotsOk K ph' H' sg' r.1 → Out is sg sg' → Q sg' H'
structure PGD (X : Cx) (W : XW X.K) (is : List Nat) (tg : Expr) (m : GM) : Prop where
  ex : ∃ t, PG X tg t ∧ ∀ (ph : List Addr) (S : Store) (H : Hp) (sg : L2.St) (rho : Slots) (v : V) (x : SV) (Q : L2.St → Hp → Prop), Good X.K ph H S → SlotsOk X.K ph H sg rho → DenS X.K ph H v x →
    holds (m x rho S) (postG X.K ph H is sg Q) (W.rel ph H) → t v sg H Q
structure PGDs (X : Cx) (W : XW X.K) (is : List Nat) (tg : List Expr) (m : GMs) : Prop where
  ex : ∃ t, PGs X tg t ∧ ∀ (ph : List Addr) (S : Store) (H : Hp) (sg : L2.St) (rho : Slots) (vs : List V) (xs : List SV) (Q : L2.St → Hp → Prop), Good X.K ph H S → SlotsOk X.K ph H sg rho → DenSs X.K ph H vs xs →
    holds (m xs rho S) (postG X.K ph H is sg Q) (W.rel ph H) → t vs sg H Q
def gNm (i : Nat) : GM := fun x rho S => .ok (rho.set i (some x), S)
theorem out_set (sg : L2.St) (i : Nat) (v : Option V) : Out [i] sg (sg.set i v) := ⟨by simp, fun j hj => List.getElem?_set_ne (fun e => hj (by simp [e]))⟩
theorem Out.trans {is js : List Nat} {s1 s2 s3 : L2.St} (a : Out is s1 s2) (b : Out js s2 s3) : Out (is ++ js) s1 s3 :=
  ⟨b.1.trans a.1, fun i hi => (b.2 i (fun h => hi (List.mem_append_right _ h))).trans (a.2 i (fun h => hi (List.mem_append_left _ h)))⟩
theorem pgd_name {i : Nat} {x : Str} (hN : X.N.Nodup) (hi : X.N[i]? = some x := by rfl) (hx : Loc X.env.scope x := by first | exact Or.inl rfl | exact Or.inr rfl) (hf : X.fn x = true ∨ X.env.scope.names.lookup x = some .local := by first | exact .inl rfl | exact .inr rfl) : PGD X W [i] (.Name x pos) (gNm i) := by
  refine ⟨_, pg_name hN hi hx hf, fun ph S H sg rho v x Q g so d h => ?_⟩
  exact h ph _ H (Ext.refl _ _) g (so.set i d) (out_set _ _ _)
def gNl : GMs := fun xs rho S => match xs with
  | [] => .ok (rho, S)
  | _ => .stuck
def gCs (m : GM) (n : GMs) : GMs := fun xs rho S => match xs with
  | x :: r => (m x rho S).bind fun q => n r q.1 q.2
  | [] => .stuck
theorem pgds_nil : PGDs X W [] [] gNl := by
  refine ⟨_, pgs_nil, fun ph S H sg rho vs xs Q g so d h => ?_⟩
  cases d with
  | nil => exact ⟨rfl, h ph sg H (Ext.refl _ _) g so ⟨rfl, fun _ _ => rfl⟩⟩
  | cons _ _ => exact h.elim
theorem pgds_cons {is js : List Nat} {e : Expr} {es : List Expr} {m : GM} {n : GMs} (h1 : PGD X W is e m) (h2 : PGDs X W js es n) (hs : (assignEach (e :: es) X.env).map (·.2) = assign e X.env :: (assignEach es X.env).map (·.2) := by rfl) : PGDs X W (is ++ js) (e :: es) (gCs m n) := by
  obtain ⟨t, p, s⟩ := h1.ex
  obtain ⟨t2, p2, s2⟩ := h2.ex
  refine ⟨_, pgs_cons p p2 hs, fun ph S H sg rho vs xs Q g so d h => ?_⟩
  cases d with
  | nil => exact h.elim
  | cons d1 d2 =>
    refine ⟨_, _, rfl, s ph S H sg rho _ _ _ g so d1 (holds_imp (holds_bind h) (fun r hr => ?_) fun _ _ _ q => q)⟩
    intro ph1 sg1 H1 x1 g1 so1 o1
    refine s2 ph1 r.2 H1 sg1 r.1 _ _ Q g1 so1 (DenSs.mono x1 d2) (holds_imp hr (fun c hc => ?_) fun e r s q => W.mono _ _ _ _ e r s x1 q)
    exact fun ph2 sg2 H2 x2 g2 so2 o2 => hc ph2 sg2 H2 (x1.trans x2) g2 so2 (o1.trans o2)
def gTu (n : Nat) (m : GMs) : GM := fun x rho S => match x with
  | .fr (.tup ds) => if ds.length = n then m (ds.map SV.fr) rho S else .stuck
  | _ => .stuck
theorem pgd_tup {is : List Nat} {es : List Expr} {k n : Nat} {m : GMs} (hc : X.calm = true) (h : PGDs X W is es m) (hn : (assignEach es X.env).length = n := by rfl) (hst : (assignEach es X.env).findIdx? (·.1) = none := by rfl) : PGD X W is (.Tuple es k pos) (gTu n m) := by
  obtain ⟨t, p, s⟩ := h.ex
  refine ⟨_, pg_tup hc p hn hst, fun ph S H sg rho v x Q g so d h => ?_⟩
  unfold gTu at h
  split at h
  · split at h
    · rename_i hl
      obtain ⟨q, vs, rfl, sq, r⟩ := d_tup d
      exact ⟨q, vs, rfl, hide_sub.sqT sq, by rw [r.len]; exact hl, s ph S H sg rho _ _ Q g so (of_dens r) h⟩
    · exact h.elim
  · exact h.elim
theorem paired_set2 {α β : Type} {P : α → β → Prop} {x : α} {y : β} : ∀ {l : List α} {m : List β} (n : Nat), Paired P l m → P x y → Paired P (l.set n x) (m.set n y)
  | _, _, _, .nil, _ => .nil
  | _, _, 0, .cons _ t, q => .cons q t
  | _, _, n + 1, .cons h t, q => .cons h (paired_set2 n t q)
def setL (o i v : SV) (S : Store) : Res Store := match o, i with
  | .cell k, .fr (.int j) => match S[k]? with
    | some (.lst xs) => match ixN xs.length j with
      | some n => .ok (S.set k (.lst (xs.set n v)))
      | none => .stuck
    | _ => .stuck
  | _, _ => .stuck
theorem setL_ok {ph : List Addr} {S : Store} {H : Hp} {o i v : V} {so si sv : SV} {Q : Hp → Prop} {E : Exc → Slots → Store → Prop} (g : Good X.K ph H S) (d1 : DenS X.K ph H o so) (d2 : DenS X.K ph H i si) (d3 : DenS X.K ph H v sv)
    (h : holds (setL so si sv S) (fun S' => ∀ ph' H', Ext ph H ph' H' → Good X.K ph' H' S' → Q H') E) : rSetL o i v H Q := by
  unfold setL at h
  split at h
  · rename_i k j
    split at h
    · rename_i xs hk
      split at h
      · rename_i n hn
        obtain ⟨p, h1, rfl⟩ := d1
        obtain ⟨q, h3, vs, h4, h5⟩ := g.at hk
        rw [h1] at h3; cases h3
        rw [d_int d2]
        refine ⟨p, vs, j, n, rfl, rfl, h4, by rw [h5.length]; exact hn, ?_⟩
        have hm : p ∈ ph := List.mem_of_getElem? h1
        have e : Ext ph H ph (upd H p (.lst (vs.set n v))) := Ext.write hm (nofrz h4 fun _ _ z => nomatch z)
        refine h ph _ e (g.write h1 ⟨_, upd_same, ?_⟩)
        exact paired_set2 n (DenSs.mono e h5) (d3.mono e)
      · exact h.elim
    · exact h.elim
  · exact h.elim
def gSb (mo mi : EM) : GM := fun x rho S => (mo rho S).bind fun o => (mi rho o.2).bind fun i => (setL o.1 i.1 x i.2).bind fun S' => .ok (rho, S')
theorem pgd_sub (ha : PD X W a ma) (hb : PD X W b mb) (hass : ∀ v, assign (.Subscript a b pos) X.env v = (do
      let ov ← holding [v] (eval a X.env)
      let iv ← holding [v, ov] (eval b X.env)
      standAt pos
      holding [v, ov, iv] (setItem ov iv v)
      release [v, ov, iv] []) := by intro _; rfl) : PGD X W [] (.Subscript a b pos) (gSb ma mb) := by
  obtain ⟨ta, pa, sa⟩ := ha.ex
  obtain ⟨tb, pb, sb⟩ := hb.ex
  refine ⟨_, pg_sub pa pb set_list hass, fun ph S H sg rho v x Q g so d h => sa ph S H sg rho _ g so (holds_imp (holds_bind h) (fun o ho => ?_) fun _ _ _ q => q)⟩
  intro ph1 v1 H1 x1 g1 d1
  refine sb ph1 o.2 H1 sg rho _ g1 (so.mono x1) (holds_imp (holds_bind ho) (fun i hi => ?_) fun e r s q => W.mono _ _ _ _ e r s x1 q)
  intro ph2 v2 H2 x2 g2 d2
  refine setL_ok g2 (d1.mono x2) d2 (d.mono (x1.trans x2)) (holds_imp (holds_bind hi) (fun S3 h3 => ?_) fun e r s q => q)
  intro ph3 H3 x3 g3
  have x13 := x1.trans (x2.trans x3)
  exact h3 ph3 sg H3 x13 g3 (so.mono x13) ⟨rfl, fun _ _ => rfl⟩
def sAs (m : EM) (g : GM) : SM := fun rho S => (m rho S).bind fun x => (g x.1 rho x.2).bind fun r => .ok (.nx, r.1, r.2)
theorem psd_asg {is : List Nat} {tg : Expr} {g : GM} (ha : PD X W a ma) (hg : PGD X W is tg g) (hs : swapsWithSole [tg] a pos.line X.env = pure false := by rfl) (hw : swappedStores [tg] a X.env = pure none := by rfl)
    (h1 : (assignEach [tg] X.env).map (·.2) = [assign tg X.env] := by rfl) : PSD X W (.Assign [tg] a pos) (sAs ma g) := by
  obtain ⟨ta, pa, sa⟩ := ha.ex
  obtain ⟨tt, pt, st⟩ := hg.ex
  refine ⟨_, ps_asg pa pt hs hw h1, fun ph S H sg rho Dn gd so h => sa ph S H sg rho _ gd so (holds_imp (holds_bind h) (fun x hx => ?_) fun _ _ _ q => q)⟩
  intro ph1 v1 H1 x1 g1 d1
  refine st ph1 x.2 H1 sg rho v1 x.1 _ g1 (so.mono x1) d1 (holds_imp (holds_bind hx) (fun r hr => ?_) fun e r s q => W.mono _ _ _ _ e r s x1 q)
  exact fun ph2 sg2 H2 x2 g2 so2 _ => hr ph2 sg2 H2 (x1.trans x2) g2 so2
def sSet (i : Nat) (m : EM) : SM := fun rho S => (m rho S).bind fun x => .ok (.nx, rho.set i (some x.1), x.2)
theorem psd_set {i : Nat} {x : Str} {pos' : Pos} (hN : X.N.Nodup) (ha : PD X W a ma) (hi : X.N[i]? = some x := by rfl) (hx : Loc X.env.scope x := by first | exact Or.inl rfl | exact Or.inr rfl)
    (hs : swapsWith a (some (.Name x pos')) pos.line X.env = pure false := by rfl) (hf : X.fn x = true ∨ X.env.scope.names.lookup x = some .local := by first | exact .inl rfl | exact .inr rfl) : PSD X W (.Assign [.Name x pos'] a pos) (sSet i ma) := by
  obtain ⟨ta, pa, sa⟩ := ha.ex
  refine ⟨_, ps_set hN hi hx pa hs hf, fun ph S H sg rho Dn g so h => sa ph S H sg rho _ g so (holds_imp (holds_bind h) (fun x hx => ?_) fun _ _ _ q => q)⟩
  exact fun ph1 v1 H1 x1 g1 d1 => hx ph1 _ H1 x1 g1 ((so.mono x1).set i d1)
def sPar (i j : Nat) (m : AM) : SM := fun rho S => (m rho S).bind fun x => match x.1 with
  | [u, v] => .ok (.nx, (rho.set i (some u)).set j (some v), x.2)
  | _ => .stuck
theorem psd_par {i j : Nat} {x y : Str} {m : AM} {px py pt : Pos} {kt k2 : Nat} {pt2 : Pos} (hc : X.calm = true) (hN : X.N.Nodup) (ha : PDA X W [a, b] m) (hi : X.N[i]? = some x := by rfl) (hj : X.N[j]? = some y := by rfl) (hij : i ≠ j := by decide)
    (hx : X.env.scope.names.lookup x = some .local := by rfl) (hy : X.env.scope.names.lookup y = some .local := by rfl) (hw : swappedStores [.Tuple [.Name x px, .Name y py] kt pt] (.Tuple [a, b] k2 pt2) X.env = pure (some [x, y]) := by rfl)
    (hs : swapsWithSole [.Tuple [.Name x px, .Name y py] kt pt] (.Tuple [a, b] k2 pt2) pos.line X.env = pure false := by rfl) : PSD X W (.Assign [.Tuple [.Name x px, .Name y py] kt pt] (.Tuple [a, b] k2 pt2) pos) (sPar i j m) := by
  obtain ⟨t, p, s⟩ := ha.ex
  refine ⟨_, ps_par hc hN hi hj hij hx hy p hw hs, fun ph S H sg rho Dn g so h => s ph S H sg rho _ g so (holds_imp (holds_bind h) (fun z hz => ?_) fun _ _ _ q => q)⟩
  intro ph1 vs H1 x1 g1 d1
  obtain ⟨xs, S1⟩ := z
  dsimp only at *
  split at hz
  · obtain ⟨v, u, rfl, dv, du⟩ := two_of d1
    exact ⟨v, u, rfl, hz ph1 _ H1 x1 g1 (((so.mono x1).set i dv).set j du)⟩
  · exact hz.elim
def addI (x y : SV) : Option SV := match x, y with
  | .fr (.int i), .fr (.int j) => some (.fr (.int (i + j)))
  | _, _ => none
def getL (o i : SV) (S : Store) : Option SV := match i with
  | .fr (.int j) => if 0 ≤ j then match rdS S o with
    | some xs => atI xs j
    | none => none else none
  | _ => none
def sAugS (mo mi me : EM) : SM := fun rho S => (mo rho S).bind fun o => (mi rho o.2).bind fun i => match getL o.1 i.1 i.2 with
  | some old => (me rho i.2).bind fun y => match addI old y.1 with
    | some z => (setL o.1 i.1 z y.2).bind fun S' => .ok (.nx, rho, S')
    | none => .stuck
  | none => .stuck
def rIx0 (K : PySem.W.Frag) : V → V → Hp → VK → Prop := fun x y H Q => ∃ p xs i v, x = .ref p ∧ y = .int i ∧ 0 ≤ i ∧ SqL K H p xs ∧ atI xs i = some v ∧ Q v H
theorem pget_list : PGet X (rIx0 X.K) := by
  intro pins s sg H o i ov iv Q I r1 r2 h
  obtain ⟨p, xs, k, v, rfl, rfl, h0, hq, hv, q⟩ := h
  cases r1
  obtain ⟨t, rfl⟩ := r2
  obtain ⟨its, rv, pl, hz⟩ := I.list hq
  obtain ⟨j, hj, hx, hlt, hlo, hhi⟩ := atI_get hv
  obtain ⟨u, hu, ru⟩ := rv.get hx
  have hs : sizeLine = 16777216 := sizeLine_eq
  have hjk : k.toNat = j := by
    rw [seqIndex_of h0 hhi] at hj
    exact Option.some.inj hj
  exact wpAny_getItem_list (k := k) pl.isList h0 (by omega) (by rw [hjk]; simpa using hu) ⟨v, H, I, ru, q⟩
theorem ip_add2 : PIp X .Add (ipI fun i j => i + j) := ip_add
theorem psd_augS {oe ie ve : Expr} {mo mi me : EM} {tpos : Pos} (ho : PD X W oe mo) (hi : PD X W ie mi) (he : PD X W ve me)
    (ha : ∀ ov iv new, augStore ie ov iv new = (do holding [new, ov, iv] (setItem ov iv new); release [new, ov, iv] []; pure .next) := by intros; rfl) : PSD X W (.AugAssign (.Subscript oe ie tpos) .Add ve pos) (sAugS mo mi me) := by
  obtain ⟨to, po, so'⟩ := ho.ex
  obtain ⟨ti, pi, si⟩ := hi.ex
  obtain ⟨te, pe, se⟩ := he.ex
  refine ⟨_, ps_augS po pi pget_list pe ip_add2 set_list ha, fun ph S H sg rho Dn g so h => so' ph S H sg rho _ g so (holds_imp (holds_bind h) (fun o hx => ?_) fun _ _ _ q => q)⟩
  intro ph1 v1 H1 x1 g1 d1
  refine si ph1 o.2 H1 sg rho _ g1 (so.mono x1) (holds_imp (holds_bind hx) (fun i hy => ?_) fun e r s q => W.mono _ _ _ _ e r s x1 q)
  intro ph2 v2 H2 x2 g2 d2
  have d12 := d1.mono x2
  obtain ⟨iv, S2⟩ := i
  dsimp only at hy g2 d2
  split at hy
  · rename_i old hold
    unfold getL at hold
    split at hold
    · rename_i j
      split at hold
      · rename_i hj0
        split at hold
        · rename_i xs hxs
          obtain ⟨p, vs, e1, s1, r1⟩ := rdS_ok g2 d12 hxs
          subst e1
          obtain ⟨w', hw', dw⟩ := atI_pair r1 hold
          refine ⟨p, vs, j, w', rfl, d_int d2, hj0, s1, hw', ?_⟩
          refine se ph2 S2 H2 sg rho _ g2 (so.mono (x1.trans x2)) (holds_imp (holds_bind hy) (fun y hz => ?_) fun e r s q => W.mono _ _ _ _ e r s (x1.trans x2) q)
          intro ph3 v3 H3 x3 g3 d3
          obtain ⟨yv, S3⟩ := y
          dsimp only at hz g3 d3
          split at hz
          · rename_i z hzz
            unfold addI at hzz
            split at hzz
            · rename_i n1 n2
              cases hzz
              refine ⟨n1, n2, d_int dw, d_int d3, ?_⟩
              refine setL_ok g3 (d12.mono x3) (d2.mono x3) (sv := .fr (.int (n1 + n2))) (Den.int (n1 + n2)) (holds_imp (holds_bind hz) (fun S4 h4 => ?_) fun e r s q => q)
              intro ph4 H4 x4 g4
              have x14 := x1.trans (x2.trans (x3.trans x4))
              exact h4 ph4 sg H4 x14 g4 (so.mono x14)
            · cases hzz
          · exact hz.elim
        · cases hold
      · cases hold
    · cases hold
  · exact hy.elim
end
end DL

namespace DL
open PySem PySem.Spec PyProof.Rows L2

structure Wk where
  xs : List SV
  lk : Store → Prop
abbrev IM := Slots → Store → Res (Wk × Store)
structure WalkOk (K : PySem.W.Frag) (ph : List Addr) (H : Hp) (J : It) (w : Wk) : Prop where
  go : ∀ (i : Nat) (x : SV) (ph' : List Addr) (H' : Hp) (S' : Store), w.xs[i]? = some x → Ext ph H ph' H' → Good K ph' H' S' → w.lk S' → J.go i H'
  yld : ∀ (i : Nat) (x : SV) (ph' : List Addr) (H' : Hp) (S' : Store) (v : V) (H2 : Hp), w.xs[i]? = some x → Ext ph H ph' H' → Good K ph' H' S' → w.lk S' → J.yld i H' v H2 → Ext ph' H' ph' H2 ∧ Good K ph' H2 S' ∧ DenS K ph' H2 v x
  stop : ∀ (i : Nat) (ph' : List Addr) (H' : Hp) (S' : Store), w.xs.length ≤ i → Ext ph H ph' H' → Good K ph' H' S' → w.lk S' → J.stop i H'
def postI (K : PySem.W.Frag) (ph : List Addr) (H : Hp) (R : It → Hp → Prop) : Wk × Store → Prop := fun r => ∀ ph' H' J, Ext ph H ph' H' → Good K ph' H' r.2 → WalkOk K ph' H' J r.1 → R J H'
structure PID (X : Cx) (W : XW X.K) (tg iter : Expr) (m : IM) : Prop where
  ex : ∃ t, PI X tg iter t ∧ ∀ (ph : List Addr) (S : Store) (H : Hp) (sg : L2.St) (rho : Slots) (R : It → Hp → Prop), Good X.K ph H S → SlotsOk X.K ph H sg rho →
    holds (m rho S) (postI X.K ph H R) (W.rel ph H) → t sg H R
theorem WalkOk.mono {K : PySem.W.Frag} {ph ph2 : List Addr} {H H2 : Hp} {J : It} {w : Wk} (e : Ext ph H ph2 H2) (h : WalkOk K ph H J w) : WalkOk K ph2 H2 J w :=
  ⟨fun i x p G S a b => h.go i x p G S a (e.trans b), fun i x p G S v G2 a b => h.yld i x p G S v G2 a (e.trans b), fun i p G S a b => h.stop i p G S a (e.trans b)⟩
def iSeq (m : EM) : IM := fun rho S => (m rho S).bind fun x => match x.1 with
  | .fr (.tup _) => .stuck
  | .fr _ => match rdS x.2 x.1 with
    | some xs => .ok (⟨xs, fun _ => True⟩, x.2)
    | none => .stuck
  | .cell k => match rdL x.2 (.cell k) with
    | some xs => .ok (⟨xs, fun S' => S'[k]? = some (.lst xs)⟩, x.2)
    | none => .stuck
def iTp (m : EM) : IM := fun rho S => (m rho S).bind fun x => match x.1 with
  | .fr (.tup ds) => .ok (⟨ds.map SV.fr, fun _ => True⟩, x.2)
  | _ => .stuck
section
variable {X : Cx} {W : XW X.K} {a b c tg : Expr} {ma mb mc : EM} {pos : Pos}
theorem walk_fix {K : PySem.W.Frag} {ph : List Addr} {H : Hp} {p : Addr} {vs : List V} {xs : List SV} {lk : Store → Prop} (s : SqL K (hide ph H) p vs) (r : DenSs K ph H vs xs) : WalkOk K ph H (Itl K p) ⟨xs, lk⟩ where
  go := fun i x ph' H' S' hx e g _ => by
    obtain ⟨v, hv, _⟩ := paired_get r hx
    exact ⟨vs, v, hide_sub.sqL (e.sub.sqL s), hv⟩
  yld := fun i x ph' H' S' v H2 hx e g _ y => by
    obtain ⟨rfl, y⟩ := y
    obtain ⟨v', hv, d⟩ := paired_get r hx
    have := y vs (hide_sub.sqL (e.sub.sqL s))
    rw [this] at hv
    cases hv
    exact ⟨Ext.refl _ _, g, d.mono e⟩
  stop := fun i ph' H' S' hi e g _ => ⟨vs, hide_sub.sqL (e.sub.sqL s), by rw [r.length]; exact hi⟩
theorem walk_cell {K : PySem.W.Frag} {ph : List Addr} {H : Hp} {p : Addr} {k : Nat} {xs : List SV} (hp : ph[k]? = some p) : WalkOk K ph H (Itl K p) ⟨xs, fun S' => S'[k]? = some (.lst xs)⟩ where
  go := fun i x ph' H' S' hx e g hk => by
    obtain ⟨q, h1, vs, h2, h3⟩ := g.at hk
    obtain ⟨ps, rfl, _⟩ := e.pre
    rw [List.getElem?_append_left (List.getElem?_eq_some_iff.mp hp).1, hp] at h1
    cases h1
    obtain ⟨v, hv, _⟩ := paired_get h3 hx
    exact ⟨vs, v, .of h2, hv⟩
  yld := fun i x ph' H' S' v H2 hx e g hk y => by
    obtain ⟨rfl, y⟩ := y
    obtain ⟨q, h1, vs, h2, h3⟩ := g.at hk
    have hp' : ph'[k]? = some p := by
      obtain ⟨ps, rfl, _⟩ := e.pre
      rw [List.getElem?_append_left (List.getElem?_eq_some_iff.mp hp).1, hp]
    rw [hp'] at h1
    cases h1
    obtain ⟨v', hv, d⟩ := paired_get h3 hx
    have := y vs (.of h2)
    rw [this] at hv
    cases hv
    exact ⟨Ext.refl _ _, g, d⟩
  stop := fun i ph' H' S' hi e g hk => by
    obtain ⟨q, h1, vs, h2, h3⟩ := g.at hk
    obtain ⟨ps, rfl, _⟩ := e.pre
    rw [List.getElem?_append_left (List.getElem?_eq_some_iff.mp hp).1, hp] at h1
    cases h1
    exact ⟨vs, .of h2, by rw [h3.length]; exact hi⟩
theorem rdS_fr {K : PySem.W.Frag} {ph : List Addr} {H : Hp} {S : Store} {v : V} {d : D} {xs : List SV} (h : DenS K ph H v (.fr d)) (e : rdS S (.fr d) = some xs) : ∃ a vs, v = .ref a ∧ SqL K (hide ph H) a vs ∧ DenSs K ph H vs xs := by
  cases d with
  | lst ds => simp [rdS, rdL] at e; subst e; cases h with | lst s r => exact ⟨_, _, rfl, .of s, of_dens r⟩
  | scr ds => simp [rdS] at e; subst e; cases h with | scr s r => exact ⟨_, _, rfl, s, of_dens r⟩
  | _ => simp [rdS, rdL] at e
theorem pid_seq (ha : PD X W a ma) : PID X W tg a (iSeq ma) := by
  obtain ⟨ta, pa, sa⟩ := ha.ex
  refine ⟨_, pi_list pa, fun ph S H sg rho R g so h => sa ph S H sg rho _ g so (holds_imp (holds_bind h) (fun x hx => ?_) fun _ _ _ q => q)⟩
  intro ph1 v1 H1 x1 g1 d1
  obtain ⟨sv, S1⟩ := x
  dsimp only at *
  split at hx
  · exact hx.elim
  · split at hx
    · rename_i xs he
      obtain ⟨p, vs, rfl, s, r⟩ := rdS_fr d1 he
      exact ⟨p, rfl, ⟨vs, hide_sub.sqL s⟩, hx ph1 H1 _ x1 g1 (walk_fix s r)⟩
    · exact hx.elim
  · split at hx
    · rename_i k xs he
      obtain ⟨p, h1, rfl⟩ := id d1
      obtain ⟨q, vs, e1, h2, h3⟩ := rdL_at g1 d1 he
      cases e1
      exact ⟨p, rfl, ⟨vs, .of h2⟩, hx ph1 H1 _ x1 g1 (walk_cell h1)⟩
    · exact hx.elim
def rngS (lo : Int) (n : Nat) : List SV := (List.range n).map fun i => .fr (.int (lo + (i : Nat)))
theorem walk_range {K : PySem.W.Frag} {ph : List Addr} {H : Hp} {lo : Int} {n : Nat} {lk : Store → Prop} : WalkOk K ph H (Itr lo n) ⟨rngS lo n, lk⟩ where
  go := fun i x ph' H' S' hx e g _ => by
    have := (List.getElem?_eq_some_iff.mp hx).1
    simpa [rngS, Itr] using this
  yld := fun i x ph' H' S' v H2 hx e g _ y => by
    obtain ⟨rfl, rfl⟩ := y
    have h1 := (List.getElem?_eq_some_iff.mp hx).1
    have hx' : (rngS lo n)[i]? = some x := hx
    have hi : i < n := by simpa [rngS] using h1
    rw [rngS, List.getElem?_map, List.getElem?_range hi] at hx'
    cases hx'
    exact ⟨Ext.refl _ _, g, Den.int _⟩
  stop := fun i ph' H' S' hi e g _ => by simpa [rngS, Itr] using hi
def iR1 (m : AM) : IM := fun rho S => (m rho S).bind fun x => match x.1 with
  | [.fr (.int j)] => if -(2 ^ 62) ≤ j ∧ j < 2 ^ 62 then .ok (⟨rngS 0 j.toNat, fun _ => True⟩, x.2) else .stuck
  | _ => .stuck
def iR2 (m : AM) : IM := fun rho S => (m rho S).bind fun x => match x.1 with
  | [.fr (.int i), .fr (.int j)] => if -(2 ^ 62) ≤ i ∧ i < 2 ^ 62 ∧ -(2 ^ 62) ≤ j ∧ j < 2 ^ 62 then .ok (⟨rngS i (j - i).toNat, fun _ => True⟩, x.2) else .stuck
  | _ => .stuck
theorem pid_range1 {m : AM} {p : Pos} (hm : X.mg "range" = none) (ha : PDA X W [a] m) (hg : Gl X "range" := by rfl) (hs : starEach [a] X.env = [(false, eval a X.env)] := by rfl) : PID X W tg (.Call (.Name "range" p) [a] [] pos) (iR1 m) := by
  obtain ⟨t, pt, st⟩ := ha.ex
  refine ⟨_, pi_range1 hg hm pt hs, fun ph S H sg rho R g so h => st ph S H sg rho _ g so (holds_imp (holds_bind h) (fun x hx => ?_) fun _ _ _ q => q)⟩
  intro ph1 vs H1 x1 g1 d1
  obtain ⟨xs, S1⟩ := x
  dsimp only at *
  split at hx
  · split at hx
    · rename_i j hj
      obtain ⟨v, rfl, dv⟩ := one_of d1
      rw [d_int dv]
      exact ⟨j, rfl, hj.1, hj.2, hx ph1 H1 _ x1 g1 walk_range⟩
    · exact hx.elim
  · exact hx.elim
open Classical in
noncomputable def loopM (lk : Store → Prop) (g : GM) (b : SM) : List SV → SM
  | [] => fun rho S => if lk S then .ok (.nx, rho, S) else .stuck
  | x :: xs => fun rho S => if lk S then (g x rho S).bind fun r => (b r.1 r.2).bind fun q => match q.1 with
    | .nx => loopM lk g b xs q.2.1 q.2.2
    | .ct => loopM lk g b xs q.2.1 q.2.2
    | .bk => .ok (.nx, q.2.1, q.2.2)
    | .rt v => .ok (.rt v, q.2.1, q.2.2) else .stuck
noncomputable def sFor (im : IM) (g : GM) (b : SM) : SM := fun rho S => (im rho S).bind fun w => loopM w.1.lk g b w.1.xs rho w.2
theorem psd_for {is : List Nat} {body : List Stmt} {im : IM} {g : GM} {mb : SM} (hc : X.calm = true) (hp : PassesOwn (model X.prog X.w) X.A X.env X.xe) (hi : PID X W tg a im) (hg : PGD X W is tg g) (hb : PSDs X W body mb)
    (hs : ∀ x, foldedSetIterable a X.env x = pure x := by intro _; rfl) : PSD X W (.For tg a body [] pos) (sFor im g mb) := by
  obtain ⟨ti, pi, si⟩ := hi.ex
  obtain ⟨tt, pt, st⟩ := hg.ex
  obtain ⟨tb, pb, sb⟩ := hb.ex
  refine ⟨_, ps_for hp hc pi pt pb hs, fun ph S H sg rho Dn gd so h => si ph S H sg rho _ gd so (holds_imp (holds_bind h) (fun w hw => ?_) fun _ _ _ q => q)⟩
  intro ph1 H1 J x1 g1 wk
  obtain ⟨⟨xs, lk⟩, S1⟩ := w
  dsimp only at hw g1
  refine ⟨fun i m sg' H' => m = xs.length - i ∧ i ≤ xs.length ∧ ∃ ph' S' rho', Ext ph1 H1 ph' H' ∧ Good X.K ph' H' S' ∧ SlotsOk X.K ph' H' sg' rho' ∧ holds (loopM lk g mb (xs.drop i) rho' S') (postS X.K ph' H' Dn) (W.rel ph' H'),
    ⟨_, rfl, Nat.zero_le _, ph1, S1, rho, Ext.refl _ _, g1, so.mono x1, holds_imp hw (fun c => postS.mono x1 c) fun e r s q => W.mono _ _ _ _ e r s x1 q⟩, ?_⟩
  rintro i m sg2 H2 ⟨rfl, hle, ph2, S2, rho2, x2, g2, so2, h2⟩
  by_cases hi : i < xs.length
  · right
    rw [List.drop_eq_getElem_cons hi] at h2
    unfold loopM at h2
    split at h2
    · rename_i hlk
      have hx : (⟨xs, lk⟩ : Wk).xs[i]? = some xs[i] := List.getElem?_eq_getElem hi
      refine ⟨wk.go i xs[i] ph2 H2 S2 hx x2 g2 hlk, fun sg' H' => ∃ ph' S' rho', Ext ph1 H1 ph' H' ∧ Good X.K ph' H' S' ∧ SlotsOk X.K ph' H' sg' rho' ∧ holds (loopM lk g mb (xs.drop (i + 1)) rho' S') (postS X.K ph' H' Dn) (W.rel ph' H'), fun sg' H' q => ⟨xs.length - (i + 1), by omega, rfl, hi, q⟩, fun v H3 y => ?_⟩
      obtain ⟨x3, g3, d3⟩ := wk.yld i xs[i] ph2 H2 S2 v H3 hx x2 g2 hlk y
      refine st ph2 S2 H3 sg2 rho2 v xs[i] _ g3 (so2.mono x3) d3 (holds_imp (holds_bind h2) (fun r hr => ?_) fun e r s q => W.mono _ _ _ _ e r s x3 q)
      intro ph4 sg4 H4 x4 g4 so4 _
      have x34 := x3.trans x4
      refine sb ph4 r.2 H4 sg4 r.1 _ g4 so4 (holds_imp (holds_bind hr) (fun q hq => ?_) fun e r s q => W.mono _ _ _ _ e r s x34 q)
      intro ph5 sg5 H5 x5 g5 so5
      have x35 := x34.trans x5
      obtain ⟨fl, rho5, S5⟩ := q
      dsimp only at *
      cases fl with
      | nx => exact ⟨ph5, S5, rho5, x2.trans x35, g5, so5, holds_imp hq (fun c => postS.mono x35 c) fun e r s q => W.mono _ _ _ _ e r s x35 q⟩
      | ct => exact ⟨ph5, S5, rho5, x2.trans x35, g5, so5, holds_imp hq (fun c => postS.mono x35 c) fun e r s q => W.mono _ _ _ _ e r s x35 q⟩
      | bk => exact hq ph5 sg5 H5 x35 g5 so5
      | rt x => exact fun v' dv' => hq ph5 sg5 H5 x35 g5 so5 v' dv'
    · exact h2.elim
  · left
    have e : i = xs.length := by omega
    subst e
    rw [List.drop_length] at h2
    unfold loopM at h2
    split at h2
    · rename_i hlk
      exact ⟨wk.stop xs.length ph2 H2 S2 (Nat.le_refl _) x2 g2 hlk, h2 ph2 sg2 H2 (Ext.refl _ _) g2 so2⟩
    · exact h2.elim

end
end DL

namespace DL
open PySem PySem.Spec PyProof.Rows L2

def tOf (K : PySem.W.Frag) (W : XW K) (m : EM) : TE := fun sg H Q => ∃ ph S rho, Good K ph H S ∧ SlotsOk K ph H sg rho ∧ holds (m rho S) (post K ph H Q) (W.rel ph H)
def tOfT (K : PySem.W.Frag) (W : XW K) (m : TM) : TT := fun sg H Q => ∃ ph S rho, Good K ph H S ∧ SlotsOk K ph H sg rho ∧ holds (m rho S) (postT K ph H Q) (W.rel ph H)
def tOfG (K : PySem.W.Frag) (W : XW K) (is : List Nat) (m : GM) : TG := fun v sg H Q => ∃ ph S rho x, Good K ph H S ∧ SlotsOk K ph H sg rho ∧ DenS K ph H v x ∧ holds (m x rho S) (postG K ph H is sg Q) (W.rel ph H)
section
variable {X : Cx} {W : XW X.K} {a b c tg : Expr} {ma mb mc : EM} {pos : Pos}
theorem PD.pe (h : PD X W a ma) : PE X a (tOf X.K W ma) := by
  obtain ⟨t, p, s⟩ := h.ex
  refine ⟨fun pins s' sg H Q I q => ?_⟩
  obtain ⟨ph, S, rho, g, so, hh⟩ := q
  exact p.run pins s' sg H Q I (s ph S H sg rho Q g so hh)
theorem PDT.pt (h : PDT X W a m) : PT X a (tOfT X.K W m) := by
  obtain ⟨t, p, s⟩ := h.ex
  refine ⟨fun pins s' sg H Q I q => ?_⟩
  obtain ⟨ph, S, rho, g, so, hh⟩ := q
  exact p.run pins s' sg H Q I (s ph S H sg rho Q g so hh)
theorem PGD.pg {is : List Nat} {m : GM} (h : PGD X W is a m) : PG X a (tOfG X.K W is m) := by
  obtain ⟨t, p, s⟩ := h.ex
  refine ⟨fun pins s' sg H v u Q I r q => ?_⟩
  obtain ⟨ph, S, rho, x, g, so, d, hh⟩ := q
  exact p.run pins s' sg H v u Q I r (s ph S H sg rho v x Q g so d hh)

def wipeR (rho : Slots) : List Nat → Slots
  | [] => rho
  | v :: vs => (wipeR rho vs).set v none
theorem wipeR_len (rho : Slots) : ∀ vs : List Nat, (wipeR rho vs).length = rho.length
  | [] => rfl
  | v :: vs => by unfold wipeR; rw [List.length_set, wipeR_len rho vs]
theorem wipeR_get {rho : Slots} {i : Nat} {x : SV} : ∀ {vs : List Nat}, (wipeR rho vs)[i]? = some (some x) → rho[i]? = some (some x) ∧ i ∉ vs
  | [], h => ⟨h, by simp⟩
  | v :: vs, h => by
    unfold wipeR at h
    by_cases hi : v = i
    · subst hi
      by_cases hv : v < (wipeR rho vs).length
      · rw [List.getElem?_set_self hv] at h; cases h
      · rw [List.getElem?_eq_none (by rw [List.length_set]; omega)] at h; cases h
    · rw [List.getElem?_set_ne hi] at h
      obtain ⟨h1, h2⟩ := wipeR_get h
      exact ⟨h1, fun m => by rcases List.mem_cons.mp m with e | m; exact hi e.symm; exact h2 m⟩
theorem wipe_in {sg : L2.St} {i : Nat} : ∀ {vs : List Nat}, i ∈ vs → (wipe sg vs)[i]? = if i < sg.length then some none else none
  | [], h => nomatch h
  | v :: vs, h => by
    unfold wipe
    by_cases hi : v = i
    · subst hi
      by_cases hv : v < sg.length
      · rw [if_pos hv, List.getElem?_set_self (by rw [wipe_length]; exact hv)]
      · rw [if_neg hv, List.getElem?_eq_none (by rw [List.length_set, wipe_length]; omega)]
    · rw [List.getElem?_set_ne hi]
      exact wipe_in (by rcases List.mem_cons.mp h with e | m; exact absurd e.symm hi; exact m)
theorem wipe_eq {sg sg2 : L2.St} {is vs : List Nat} (h : ∀ i ∈ is, i ∈ vs) (o : Out is (wipe sg vs) sg2) : wipe sg2 vs = wipe sg vs := by
  obtain ⟨o1, o2⟩ := o
  rw [wipe_length] at o1
  apply List.ext_getElem?
  intro i
  by_cases hi : i ∈ vs
  · rw [wipe_in hi, wipe_in hi, o1]
  · rw [wipe_out hi, o2 i fun m => hi (h i m)]
theorem SlotsOk.wiped {K : PySem.W.Frag} {ph : List Addr} {H : Hp} {sg : L2.St} {rho : Slots} (so : SlotsOk K ph H sg rho) (vs : List Nat) : SlotsOk K ph H (wipe sg vs) (wipeR rho vs) := by
  refine ⟨by rw [wipe_length, wipeR_len]; exact so.1, fun i x h => ?_⟩
  obtain ⟨h1, h2⟩ := wipeR_get h
  rw [wipe_out h2]
  exact so.2 i x h1

def unS (n : Nat) (S : Store) : Option (Store × List SV) := match S.drop n with
  | [.lst acc] => some (S.take n, acc)
  | _ => none
theorem unS_app {S : Store} {acc : List SV} {n : Nat} (h : S.length = n) : unS n (S ++ [.lst acc]) = some (S, acc) := by
  subst h
  unfold unS
  rw [List.drop_left', List.take_left'] <;> simp
theorem unS_some {n : Nat} {S S' : Store} {acc : List SV} (h : unS n S = some (S', acc)) (hn : n ≤ S.length) : S = S' ++ [.lst acc] ∧ S'.length = n := by
  unfold unS at h
  split at h
  · rename_i a e
    simp only [Option.some.injEq, Prod.mk.injEq] at h
    obtain ⟨rfl, rfl⟩ := h
    refine ⟨?_, by simp [hn]⟩
    rw [← e, List.take_append_drop]
  · cases h
open Classical in
noncomputable def lcM (lk : Store → Prop) (g : GM) (t : TM) (e : EM) (own : List Nat) (rho : Slots) : List SV → Store → List SV → Res (List SV × Store)
  | [], S, acc => if lk (S ++ [.lst acc]) then .ok (acc, S) else .stuck
  | x :: xs, S, acc => if lk (S ++ [.lst acc]) then (g x (wipeR rho own) (S ++ [.lst acc])).bind fun r => (t r.1 r.2).bind fun k => if k.1 then (e r.1 k.2).bind fun y => match unS S.length y.2 with
      | some q => if q.2.length < sizeLine then lcM lk g t e own rho xs q.1 (q.2 ++ [y.1]) else .stuck
      | none => .stuck
    else (match unS S.length k.2 with
      | some q => lcM lk g t e own rho xs q.1 q.2
      | none => .stuck) else .stuck
def lcEnd (c : Bool) (acc : List SV) (S : Store) : Res (SV × Store) := if c then .ok (.cell S.length, S ++ [.lst acc]) else if S.all (Cell.below S.length) then match allFr acc with
  | some ds => .ok (.fr (.lst ds), S)
  | none => .stuck else .stuck
def tTr : TM := fun _ S => .ok (true, S)
theorem lcEnd_ok {K : PySem.W.Frag} {ph : List Addr} {H H' : Hp} {D : Addr} {acc : List SV} {S0 S : Store} {c : Bool} {Q : VK} {E : Exc → Slots → Store → Prop} (g0 : Good K ph H S0) (hD : H D = none) (x : Ext ph H (ph ++ [D]) H') (g : Good K (ph ++ [D]) H' (S ++ [.lst acc]))
    (h : holds (lcEnd c acc S) (post K ph H Q) E) : Q (.ref D) H' := by
  have hl : ph.length = S.length := by have := g.len; simpa using this
  unfold lcEnd at h
  cases c with
  | true => exact h (ph ++ [D]) (.ref D) H' x g ⟨D, by rw [← hl]; simp, rfl⟩
  | false =>
    simp only [Bool.false_eq_true, if_false] at h
    split at h
    · rename_i hb
      split at h
      · rename_i ds hd
        have hm : ∀ a ∈ ph, a ∈ ph ++ [D] := fun a m => List.mem_append_left _ m
        have hk : ∀ k, k < S.length → ph[k]? = (ph ++ [D])[k]? := fun k hk => by rw [List.getElem?_append_left (by omega)]
        obtain ⟨vs, h4, h5⟩ : CellAt K (ph ++ [D]) H' D (.lst acc) := paired_at (k := S.length) g.cells (by rw [← hl]; simp) (by simp)
        have q := paired_take S.length g.cells
        rw [List.take_left' rfl, List.take_left' hl] at q
        refine h ph (.ref D) H' x.back ⟨g0.nd, paired_all (f := Cell.below S.length) (fun p c hc d => CellAt.shrink (n := S.length) hm hk hc d) q hb, g.tb⟩ ?_
        rw [allFr_eq hd] at h5
        exact .lst (hide_of (g0.new hD) h4) (Dens.mono (sub_hide hm) (dens_of h5))
      · exact h.elim
    · exact h.elim
def noE {α : Type} (r : Res α) : Res α := match r with
  | .exc _ _ _ => .stuck
  | x => x
abbrev Blk (X : Cx) (scope : Scope) (s : Shared) (H : Hp) (C : Addr) (cl : List (Str × Addr)) (fp : List Addr) : Cx := X.blk s H scope (compEnvC scope cl C X.env) fp
theorem lc_snd {wi : TI} {im : IM} {is own : List Nat} {g : GM} {t : TM} {e : EM} {cc : Bool} (hown : ∀ i ∈ is, i ∈ own)
    (si : ∀ (ph : List Addr) (S : Store) (H : Hp) (sg : L2.St) (rho : Slots) (R : It → Hp → Prop), Good X.K ph H S → SlotsOk X.K ph H sg rho → holds (im rho S) (postI X.K ph H R) (W.rel ph H) → wi sg H R) :
    SndE X W (tLc wi (tOfG X.K (XW.none X.K) is g) (tOfT X.K (XW.none X.K) t) (tOf X.K (XW.none X.K) e) own) (fun rho S => (im rho S).bind fun w => (noE (lcM w.1.lk g t e own rho w.1.xs w.2 [])).bind fun r => lcEnd cc r.1 r.2) := by
  intro ph S H sg rho Q gd so h
  refine si ph S H sg rho _ gd so (holds_imp (holds_bind h) (fun w hw => ?_) fun _ _ _ q => q)
  intro ph1 H1 J x1 g1 wk D hD
  obtain ⟨⟨xs, lk⟩, S1⟩ := w
  dsimp only at hw g1
  have so1 := so.mono x1
  have x0 : Ext ph1 H1 (ph1 ++ [D]) (upd H1 D (.lst [])) := Ext.cell hD
  have gD : Good X.K (ph1 ++ [D]) (upd H1 D (.lst [])) (S1 ++ [.lst []]) := g1.cell hD ⟨[], upd_same, .nil⟩
  have fin : ∀ (acc : List SV) (S' : Store) (H' : Hp), Ext (ph1 ++ [D]) (upd H1 D (.lst [])) (ph1 ++ [D]) H' → Good X.K (ph1 ++ [D]) H' (S' ++ [.lst acc]) → holds (lcEnd cc acc S') (post X.K ph H Q) (W.rel ph H) → Q (.ref D) H' := fun acc S' H' x' g' q =>
    lcEnd_ok g1 hD (x0.trans x') g' (holds_imp q (fun c => post.mono x1 c) fun _ _ _ z => z)
  have start0 : holds (lcM lk g t e own rho xs S1 []) (fun r => holds (lcEnd cc r.1 r.2) (post X.K ph H Q) (W.rel ph H)) (fun _ _ _ => False) := by
    revert hw
    cases lcM lk g t e own rho xs S1 [] with
    | ok r => exact fun q => q
    | exc _ _ _ => exact fun q => q.elim
    | stuck => exact fun q => q.elim
  refine ⟨fun i m H' => m = xs.length - i ∧ i ≤ xs.length ∧ ∃ S' acc, S'.length = S1.length ∧ Ext (ph1 ++ [D]) (upd H1 D (.lst [])) (ph1 ++ [D]) H' ∧ Good X.K (ph1 ++ [D]) H' (S' ++ [.lst acc]) ∧
      holds (lcM lk g t e own rho (xs.drop i) S' acc) (fun r => holds (lcEnd cc r.1 r.2) (post X.K ph H Q) (W.rel ph H)) (fun _ _ _ => False), ⟨_, rfl, Nat.zero_le _, S1, [], rfl, Ext.refl _ _, gD, start0⟩, ?_⟩
  rintro i m H2 ⟨rfl, hle, S2, acc, hl2, x2, g2, h2⟩
  by_cases hi : i < xs.length
  · right
    rw [List.drop_eq_getElem_cons hi] at h2
    unfold lcM at h2
    split at h2
    · rename_i hlk
      have hx : (⟨xs, lk⟩ : Wk).xs[i]? = some xs[i] := List.getElem?_eq_getElem hi
      refine ⟨wk.go i xs[i] _ H2 _ hx (x0.trans x2) g2 hlk, fun H' => ∃ S' acc, S'.length = S1.length ∧ Ext (ph1 ++ [D]) (upd H1 D (.lst [])) (ph1 ++ [D]) H' ∧ Good X.K (ph1 ++ [D]) H' (S' ++ [.lst acc]) ∧
        holds (lcM lk g t e own rho (xs.drop (i + 1)) S' acc) (fun r => holds (lcEnd cc r.1 r.2) (post X.K ph H Q) (W.rel ph H)) (fun _ _ _ => False), fun H' q => ⟨xs.length - (i + 1), by omega, rfl, hi, q⟩, fun v H3 y => ?_⟩
      obtain ⟨x3, g3, d3⟩ := wk.yld i xs[i] _ H2 _ v H3 hx (x0.trans x2) g2 hlk y
      have so3 := (so1.mono (x0.trans (x2.trans x3))).wiped own
      refine ⟨_, _, _, xs[i], g3, so3, d3, holds_imp (holds_bind h2) (fun r hr => ?_) fun _ _ _ z => z⟩
      intro ph4 sg4 H4 x4 g4 so4 o4
      refine ⟨wipe_eq hown o4, ph4, r.2, r.1, g4, so4, holds_imp (holds_bind hr) (fun k hk => ?_) fun _ _ _ z => z⟩
      intro ph5 H5 x5 g5
      obtain ⟨kb, S5⟩ := k
      dsimp only at hk g5
      have x35 := x3.trans (x4.trans x5)
      -- the cells are those ahead of the turn
      have same : ∀ {ph' : List Addr} {H' : Hp} {S' S6 : Store} {acc' : List SV}, Ext (ph1 ++ [D]) H2 ph' H' → Good X.K ph' H' S' → unS S2.length S' = some (S6, acc') → ph' = ph1 ++ [D] ∧ S' = S6 ++ [.lst acc'] ∧ S6.length = S1.length := by
        intro ph' H' S' S6 acc' x' g' hu
        have gl2 := g2.len
        obtain ⟨ps, rfl, _⟩ := x'.pre
        have gl := g'.len
        simp only [List.length_append, List.length_cons, List.length_nil] at gl gl2
        obtain ⟨e1, e2⟩ := unS_some hu (by omega)
        refine ⟨?_, e1, e2.trans hl2⟩
        subst e1
        simp only [List.length_append, List.length_cons, List.length_nil] at gl
        have : ps.length = 0 := by omega
        rw [List.length_eq_zero_iff.mp this, List.append_nil]
      cases kb with
      | false =>
        simp only [Bool.false_eq_true, if_false] at hk ⊢
        split at hk
        · rename_i q hq
          obtain ⟨S6, acc'⟩ := q
          obtain ⟨rfl, rfl, l6⟩ := same x35 g5 hq
          exact ⟨S6, acc', l6, x2.trans x35, g5, hk⟩
        · exact hk.elim
      | true =>
        simp only [if_true] at hk ⊢
        refine ⟨ph5, S5, r.1, g5, so4.mono x5, holds_imp (holds_bind hk) (fun y hy => ?_) fun _ _ _ z => z⟩
        intro ph6 v6 H6 x6 g6 d6
        have x36 := x35.trans x6
        obtain ⟨yv, S7⟩ := y
        dsimp only at hy g6 d6
        split at hy
        · rename_i q hq
          obtain ⟨S8, acc'⟩ := q
          obtain ⟨rfl, rfl, l8⟩ := same x36 g6 hq
          split at hy
          · rename_i hz
            have hp : (ph1 ++ [D])[S8.length]? = some D := by rw [l8, ← g1.len]; simp
            obtain ⟨vs, h4, h5⟩ : CellAt X.K (ph1 ++ [D]) H6 D (.lst acc') := paired_at (k := S8.length) g6.cells hp (by simp)
            have hm : D ∈ ph1 ++ [D] := by simp
            have xw : Ext (ph1 ++ [D]) H6 (ph1 ++ [D]) (upd H6 D (.lst (vs ++ [v6]))) := Ext.write hm (nofrz h4 fun _ _ z => nomatch z)
            refine ⟨vs, h4, by rw [h5.length]; exact hz, S8, acc' ++ [yv], l8, (x2.trans x36).trans xw, ?_, hy⟩
            have gw := g6.write (o := .lst (vs ++ [v6])) (c := .lst (acc' ++ [yv])) hp ⟨vs ++ [v6], upd_same, paired_snoc (DenSs.mono xw h5) (d6.mono xw)⟩
            rw [List.set_append_right _ _ (Nat.le_refl _)] at gw
            simpa using gw
          · exact hy.elim
        · exact hy.elim
    · exact h2.elim
  · left
    have e : i = xs.length := by omega
    subst e
    rw [List.drop_length] at h2
    unfold lcM at h2
    split at h2
    · rename_i hlk
      exact ⟨wk.stop xs.length _ H2 _ (Nat.le_refl _) (x0.trans x2) g2 hlk, fin acc S2 H2 x2 g2 h2⟩
    · exact h2.elim
end
end DL

namespace DL
open PySem PySem.Spec PyProof.Rows L2

theorem hu80 {k : Nat} {A : Around} (hr : Room k A) : A.units + 80 < cLine := by
  have := hr.un
  omega
section
variable {X : Cx} {W : XW X.K} {a b c tg : Expr} {ma mb mc : EM} {pos : Pos}
noncomputable def eLC (cc : Bool) (im : IM) (g : GM) (t : TM) (e : EM) (own : List Nat) : EM := fun rho S => (im rho S).bind fun w => (noE (lcM w.1.lk g t e own rho w.1.xs w.2 [])).bind fun r => lcEnd cc r.1 r.2
structure PDTs (X : Cx) (W : XW X.K) (ifs : List Expr) (m : TM) : Prop where
  ts : PTs X ifs (tOfT X.K W m)
theorem pts_n : PDTs X W [] tTr := ⟨⟨fun pins s sg H Q I h => by
  obtain ⟨ph, S, rho, g, so, q⟩ := h
  exact pts_nil.run pins s sg H Q I (q ph H (Ext.refl _ _) g)⟩⟩
theorem pd_lc (cc : Bool) {elt iter : Expr} {ifs : List Expr} {scope : Scope} {own : List (Str × Nat)} {is : List Nat} {im : IM} {g : GM} {t : TM} {e : EM} (hc : X.calm = true) (hN : X.N.Nodup) (hi : PID X W tg iter im) (ok : BlkOk X.N X.env.scope scope own)
    (hg : ∀ (s : Shared) (H : Hp) (C : Addr) (cl : List (Str × Addr)) (fp : List Addr), PGD (Blk X scope s H C cl fp) (XW.none X.K) is tg g) (ht : ∀ (s : Shared) (H : Hp) (C : Addr) (cl : List (Str × Addr)) (fp : List Addr), PDTs (Blk X scope s H C cl fp) (XW.none X.K) ifs t)
    (he : ∀ (s : Shared) (H : Hp) (C : Addr) (cl : List (Str × Addr)) (fp : List Addr), PD (Blk X scope s H C cl fp) (XW.none X.K) elt e) (hown : ∀ i ∈ is, i ∈ own.map (·.2) := by decide) (hs : ∀ x, foldedSetIterable iter X.env x = pure x := by intro _; rfl) :
    PD X W (.ListComp elt [⟨tg, iter, ifs, 0⟩] scope pos) (eLC cc im g t e (own.map (·.2))) := by
  obtain ⟨ti, pi, si⟩ := hi.ex
  exact ⟨_, pe_lc (g := tOfG X.K (XW.none X.K) is g) (tt := tOfT X.K (XW.none X.K) t) (te := tOf X.K (XW.none X.K) e) hc hN pi ok (fun s H C cl fp => (hg s H C cl fp).pg) (fun s H C cl fp => (ht s H C cl fp).ts) (fun s H C cl fp => (he s H C cl fp).pe) hs, lc_snd hown si⟩
theorem psd_setLc (cc : Bool) {i : Nat} {y : Str} {py spos : Pos} {elt iter : Expr} {ifs : List Expr} {scope : Scope} {own : List (Str × Nat)} {is : List Nat} {im : IM} {g : GM} {t : TM} {e : EM} (hc : X.calm = true) (hN : X.N.Nodup) (hi : PID X W tg iter im) (ok : BlkOk X.N X.env.scope scope own)
    (hg : ∀ (s : Shared) (H : Hp) (C : Addr) (cl : List (Str × Addr)) (fp : List Addr), PGD (Blk X scope s H C cl fp) (XW.none X.K) is tg g) (ht : ∀ (s : Shared) (H : Hp) (C : Addr) (cl : List (Str × Addr)) (fp : List Addr), PDTs (Blk X scope s H C cl fp) (XW.none X.K) ifs t)
    (he : ∀ (s : Shared) (H : Hp) (C : Addr) (cl : List (Str × Addr)) (fp : List Addr), PD (Blk X scope s H C cl fp) (XW.none X.K) elt e)
    (hsw : swapsWith (.ListComp elt [⟨tg, iter, ifs, 0⟩] scope pos) (some (.Name y py)) spos.line X.env = pure true := by exact sw_true rfl rfl rfl (by decide +kernel))
    (hy : X.N[i]? = some y := by rfl) (hyl : X.env.scope.names.lookup y = some .local := by rfl)
    (hown : ∀ i ∈ is, i ∈ own.map (·.2) := by decide) (hs : ∀ x, foldedSetIterable iter X.env x = pure x := by intro _; rfl) :
    PSD X W (.Assign [.Name y py] (.ListComp elt [⟨tg, iter, ifs, 0⟩] scope pos) spos) (sSet i (eLC cc im g t e (own.map (·.2)))) := by
  obtain ⟨ti, pi, si⟩ := hi.ex
  refine ⟨_, ps_setLc (g := tOfG X.K (XW.none X.K) is g) (tt := tOfT X.K (XW.none X.K) t) (te := tOf X.K (XW.none X.K) e) hc hN hy hyl hsw pi ok (fun s H C cl fp => (hg s H C cl fp).pg) (fun s H C cl fp => (ht s H C cl fp).ts) (fun s H C cl fp => (he s H C cl fp).pe) hs, fun ph S H sg rho Dn gd so h => ?_⟩
  refine lc_snd (W := W) (cc := cc) hown si ph S H sg rho _ gd so (holds_imp (holds_bind h) (fun x hx => ?_) fun _ _ _ q => q)
  exact fun ph1 v1 H1 x1 g1 d1 => hx ph1 _ H1 x1 g1 ((so.mono x1).set i d1)

def OpM (X : Cx) (W : XW X.K) (r : V → List V → Hp → VK → Prop) (g : SV → List SV → Store → Res (SV × Store)) : Prop := ∀ (ph : List Addr) (S : Store) (H : Hp) (x : V) (a : SV) (xs : List V) (as : List SV) (Q : VK), Good X.K ph H S → DenS X.K ph H x a → DenSs X.K ph H xs as →
  holds (g a as S) (post X.K ph H Q) (W.rel ph H) → r x xs H Q
def tyS (T : String) (S : Store) (a : SV) : Bool := match a with
  | .fr (.str _) => T == "str"
  | x => T == "list" && (rdL S x).isSome
theorem tyS_ok {K : PySem.W.Frag} {ph : List Addr} {S : Store} {H : Hp} {v : V} {a : SV} {T : String} (g : Good K ph H S) (d : DenS K ph H v a) (h : tyS T S a = true) : tyV K T v H := by
  unfold tyS at h
  split at h
  · rw [d_str d]; exact (show T = "str" by simpa using h)
  · simp only [Bool.and_eq_true, beq_iff_eq] at h
    obtain ⟨xs, hx⟩ := Option.isSome_iff_exists.mp h.2
    obtain ⟨p, vs, rfl, h1, _⟩ := rdL_at g d hx
    exact .inl ⟨h.1, vs, .of h1⟩
abbrev GMt := SV → List SV → Store → Res (SV × Store)
def eMt (T : String) (g : GMt) (o : EM) (m : AM) : EM := fun rho S => (o rho S).bind fun x => if tyS T x.2 x.1 then (m rho x.2).bind fun y => g x.1 y.1 y.2 else .stuck
def eMt0 (T : String) (g : GMt) (o : EM) : EM := fun rho S => (o rho S).bind fun x => if tyS T x.2 x.1 then g x.1 [] x.2 else .stuck
theorem pd_mt0 {T id : String} {name : Str} {apos cpos : Pos} {r : V → List V → Hp → VK → Prop} {g : GMt} (pa : PlainAttrs T) (slot : Slot T name id) (hty : typeOf (.builtin id) = pure (.type "method_descriptor")) (hm : MtR X id r) (hr : OpM X W r g) (ho : PD X W a ma)
    (hbase : attributeBase a name X.env (eval a X.env) = eval a X.env := by rfl) (hline : (apos.endLine == cpos.line) = true := by rfl) : PD X W (.Call (.Attribute a name apos) [] [] cpos) (eMt0 T g ma) := by
  obtain ⟨to, po, so'⟩ := ho.ex
  refine ⟨_, pe_bm0 pa slot hty hm po hbase hline, fun ph S H sg rho Q gd so h => so' ph S H sg rho _ gd so (holds_imp (holds_bind h) (fun x hx => ?_) fun _ _ _ q => q)⟩
  intro ph1 v1 H1 x1 g1 d1
  split at hx
  · rename_i ht
    exact ⟨tyS_ok g1 d1 ht, hr ph1 x.2 H1 v1 x.1 [] [] Q g1 d1 .nil (holds_imp hx (fun c => post.mono x1 c) fun e r s q => W.mono _ _ _ _ e r s x1 q)⟩
  · exact hx.elim
theorem pd_mt {T id : String} {name : Str} {apos cpos : Pos} {e : Expr} {es : List Expr} {m : AM} {r : V → List V → Hp → VK → Prop} {g : GMt} (pa : PlainAttrs T) (slot : Slot T name id) (hty : typeOf (.builtin id) = pure (.type "method_descriptor")) (hm : MtR X id r) (hr : OpM X W r g) (ho : PD X W a ma) (ha : PDA X W (e :: es) m)
    (hbase : attributeBase a name X.env (eval a X.env) = eval a X.env := by rfl)
    (hfew : ((backTo cpos (starEach (e :: es) X.env)).all (fun x => !x.1) && (backToKw cpos (keywordEach [] X.env)).all (fun x => x.1.isSome)
      && decide ((e :: es).length + ([] : List Keyword).length + (if ([] : List Keyword).isEmpty then 0 else 1) < 30)) = true := by rfl)
    (hline : (apos.endLine == cpos.line) = true := by rfl) (hs : starEach (e :: es) X.env = (false, eval e X.env) :: starEach es X.env := by rfl) (hplain : (backTo cpos (starEach es X.env)).any (·.1) = false := by rfl) :
    PD X W (.Call (.Attribute a name apos) (e :: es) [] cpos) (eMt T g ma m) := by
  obtain ⟨to, po, so'⟩ := ho.ex
  obtain ⟨t, pt, st⟩ := ha.ex
  refine ⟨_, pe_bm pa slot hty hm po pt hbase hfew hline hs hplain, fun ph S H sg rho Q gd so h => so' ph S H sg rho _ gd so (holds_imp (holds_bind h) (fun x hx => ?_) fun _ _ _ q => q)⟩
  intro ph1 v1 H1 x1 g1 d1
  split at hx
  · rename_i ht
    refine ⟨tyS_ok g1 d1 ht, st ph1 x.2 H1 sg rho _ g1 (so.mono x1) (holds_imp (holds_bind hx) (fun y hy => ?_) fun e r s q => W.mono _ _ _ _ e r s x1 q)⟩
    intro ph2 vs H2 x2 g2 d2
    exact hr ph2 y.2 H2 v1 x.1 vs y.1 Q g2 (d1.mono x2) d2 (holds_imp hy (fun c => post.mono (x1.trans x2) c) fun e r s q => W.mono _ _ _ _ e r s (x1.trans x2) q)
  · exact hx.elim
def cellOf (S : Store) : SV → Option (Nat × List SV)
  | .cell k => match S[k]? with
    | some (.lst xs) => some (k, xs)
    | _ => none
  | _ => none
theorem cellOf_ok {K : PySem.W.Frag} {ph : List Addr} {S : Store} {H : Hp} {v : V} {a : SV} {k : Nat} {xs : List SV} (g : Good K ph H S) (d : DenS K ph H v a) (h : cellOf S a = some (k, xs)) : ∃ p vs, v = .ref p ∧ ph[k]? = some p ∧ H p = some (.lst vs) ∧ DenSs K ph H vs xs := by
  cases a with
  | fr _ => cases h
  | cell j =>
    obtain ⟨p, h1, rfl⟩ := d
    simp only [cellOf] at h
    split at h
    · rename_i ys hy
      simp only [Option.some.injEq, Prod.mk.injEq] at h
      obtain ⟨rfl, rfl⟩ := h
      obtain ⟨q, h3, vs, h4, h5⟩ := g.at hy
      rw [h1] at h3; cases h3
      exact ⟨p, vs, rfl, h1, h4, h5⟩
    · cases h
theorem put_ok {ph : List Addr} {S : Store} {H : Hp} {p : Addr} {k : Nat} {vs : List V} {xs : List SV} {v : V} {sv : SV} {Q : VK} {E : Exc → Slots → Store → Prop} (g : Good X.K ph H S) (hp : ph[k]? = some p) {vs0 : List V} (hH : H p = some (.lst vs0)) (d : DenSs X.K ph H vs xs) (dv : DenS X.K ph H v sv)
    (h : holds (Res.ok (sv, S.set k (.lst xs))) (post X.K ph H Q) E) : Q v (upd H p (.lst vs)) := by
  have e : Ext ph H ph (upd H p (.lst vs)) := Ext.write (List.mem_of_getElem? hp) (nofrz hH fun _ _ z => nomatch z)
  exact h ph v _ e (g.write hp ⟨vs, upd_same, DenSs.mono e d⟩) (dv.mono e)
def non : SV := .fr .non
theorem den_non {K : PySem.W.Frag} {ph : List Addr} {H : Hp} : DenS K ph H .non non := Den.non
def appendG : GMt := fun a as S => match cellOf S a, as with
  | some (k, xs), [y] => if xs.length < sizeLine then .ok (non, S.set k (.lst (xs ++ [y]))) else .stuck
  | _, _ => .stuck
theorem append_ok : OpM X W rAppend appendG := by
  intro ph S H x a xs as Q g d ds h
  unfold appendG at h
  split at h
  · rename_i k ys y hk
    obtain ⟨p, vs, rfl, h1, h2, h3⟩ := cellOf_ok g d hk
    obtain ⟨v, rfl, dv⟩ := one_of ds
    split at h
    · rename_i hz
      exact ⟨p, vs, v, rfl, rfl, h2, by rw [h3.length]; exact hz, put_ok g h1 h2 (paired_snoc h3 dv) den_non h⟩
    · exact h.elim
  · exact h.elim
theorem paired_rev {α β : Type} {P : α → β → Prop} : ∀ {l : List α} {m : List β}, Paired P l m → Paired P l.reverse m.reverse
  | _, _, .nil => .nil
  | _, _, .cons h t => by rw [List.reverse_cons, List.reverse_cons]; exact paired_snoc (paired_rev t) h
def reverseG : GMt := fun a as S => match cellOf S a, as with
  | some (k, xs), [] => .ok (non, S.set k (.lst xs.reverse))
  | _, _ => .stuck
theorem reverse_ok : OpM X W rReverse reverseG := by
  intro ph S H x a xs as Q g d ds h
  unfold reverseG at h
  split at h
  · rename_i k ys hk
    obtain ⟨p, vs, rfl, h1, h2, h3⟩ := cellOf_ok g d hk
    cases ds
    exact ⟨p, vs, rfl, rfl, h2, put_ok g h1 h2 (paired_rev h3) den_non h⟩
  · exact h.elim
end
end DL

namespace DL
open PySem PySem.Spec PyProof.Rows L2

def Tells (n : Nat) (m : FnM) : Prop := ∀ ns : List Int, ns.length ≤ n → ∃ S' : Store, m [.fr (.scr (ns.map D.int))] [] = .ok (.val (.fr (.bl true)), S')
theorem sqL_nil {K : PySem.W.Frag} {H : Hp} {a : Addr} {vs : List V} (h : SqL K H a vs) : SqL K (hide [] H) a vs := by
  rcases h with (h | ⟨od, h⟩) | h
  · exact .inl (.inl (hide_of (by simp) h))
  · exact .inl (.inr ⟨od, hide_of (by simp) h⟩)
  · exact .inr h
theorem spD_law {K : PySem.W.Frag} {m : FnM} {n : Nat} (hm : Tells n m) {H : Hp} {a : Addr} {ns : List Int} (hl : ns.length ≤ n) (sq : SqL K H a (ns.map V.int)) (tb : TbOk K H) : spD K m [.ref a] H (fun v _ => v = .bl true) fun _ _ _ => False := by
  obtain ⟨S', e⟩ := hm ns hl
  refine ⟨[], [], [.fr (.scr (ns.map D.int))], ⟨List.nodup_nil, .nil, tb⟩, .cons ?_ .nil, ?_⟩
  · exact Den.scr (vs := ns.map V.int) (sqL_nil sq) (Dens.of_ints ns)
  · rw [e]
    intro v H' _ _ d
    exact d_bl (show DenS K [] H' v (.fr (.bl true)) from d)
def TBs (K : PySem.W.Frag) (mg : Str → Option Value) (base : Heap) : Prop := ∀ p ∈ lamDefs, knownT K p.1 = true → LamX.TabB base mg (He.cT K p.1).1 (He.cT K p.1).2
theorem tabL_mem {K : PySem.W.Frag} {p : He.Defn × Str} (h : p ∈ lamDefs) (hk : knownT K p.1 = true) : ((He.cT K p.1).2, p.2) ∈ tabL K := List.mem_map.mpr ⟨p, List.mem_filter.mpr ⟨h, hk⟩, rfl⟩
theorem tabL_of {K : PySem.W.Frag} {q : Addr × Str} (h : q ∈ tabL K) : ∃ p ∈ lamDefs, knownT K p.1 = true ∧ q = ((He.cT K p.1).2, p.2) := by
  obtain ⟨p, hp, e⟩ := List.mem_map.mp h
  obtain ⟨h1, h2⟩ := List.mem_filter.mp hp
  exact ⟨p, h1, h2, e.symm⟩
theorem told {P : Program} {w : World} {K : PySem.W.Frag} {mg mb : Str → Option Value} {k n : Nat} {x : Str} {m : FnM} {fl al : Addr} {sh : Shared} {us : List Value} {zs : List Int}
    (kin : K.In sh.heap) (gn : sh.heap.Ns mainGlobals mg) (bn : sh.heap.Ns builtinsNs mb) (bb : ∀ y : Str, y ≠ "__name__" → mb y = bootBuiltins y) (nl : sh.heap.NoLimit) (ng : sh.gens = #[]) (tE : TabsE K sh.heap)
    (hbm : ∃ (bm : Addr) (ob : Obj), mg "__builtins__" = some (.ref bm) ∧ bm ≠ builtinsNs ∧ sh.heap.get? bm = some ob ∧ ob.cls = .type "module" ∧ ob.dict = some builtinsNs ∧ ob.data = .plain)
    (at_ : sh.heap.get? al = some { cls := .type "list", data := .seq us.toArray }) (iv : IntsAre us zs) (lz : zs.length ≤ n) (hn : n ≤ sizeLine) (rm : Room k callerA) (hx : mg x = some (.ref fl))
    (F : ∀ base : Heap, K.In base → base.Ns mainGlobals mg → TBs K mg base → CalD P w K mg base k x m) (hm : Tells n m) :
    codeAny (model P w) callerA (.call (.ref fl) ⟨[.ref al], []⟩) (fun r s' => r = .ok (.ret (.bool true)) ∧ OldK sh.heap s'.heap ∧ s'.os = sh.os ∧ AllBare s'.gens) sh := by
  have rel := vals_ints iv
  have hlen := iv.length
  obtain ⟨tE, tI⟩ := tE
  let ts := (tabL K).map (·.1)
  have isT : ∀ b : Addr, b ∈ ts → sh.heap.get? b = some { cls := .none, data := .fields #[] } ∧ K.lookup b = none := fun b hb => by
    obtain ⟨p, hp, e⟩ := List.mem_map.mp hb
    rw [← e]
    exact tE p hp
  have aT : al ∉ ts := fun z => by
    have q := (isT al z).1
    rw [at_] at q
    cases (congrArg Obj.data (Option.some.inj q) : Data.seq us.toArray _ = Data.fields #[])
  have hC : ∀ p ∈ lamDefs, knownT K p.1 = true → (He.cT K p.1).2 ∈ ts ∧ PySem.W.CodeHd sh.heap (He.cT K p.1).1 (He.cT K p.1).2 := fun p hp hk => ⟨List.mem_map.mpr ⟨_, tabL_mem hp hk, rfl⟩, PySem.W.codeHd_of_K kin hk⟩
  obtain ⟨H, only, sql, hok, own, off, tabs⟩ : ∃ H : Hp, (∀ b, H b = none ∨ b ∈ ts ∨ ∃ o xs, H b = some (.frz o (.lst xs))) ∧ SqL K H al (zs.map V.int) ∧ HOk P w H sh.heap ∧ (∀ b, H b ≠ none → b = al ∨ b ∈ ts) ∧ (H al ≠ none → K.lookup al = none) ∧ (∀ b ∈ ts, H b = some (.tbl #[])) := by
    cases q : K.lookup al with
    | some o =>
      have e := kin al o q
      rw [at_] at e
      cases e
      refine ⟨fun b => if b ∈ ts then some (.tbl #[]) else none, fun b => ?_, .inr ⟨_, us.toArray, _, q, rfl, rfl, rfl, by rw [List.size_toArray, hlen]; omega, by simpa using rel⟩, fun b u z => ?_, fun b z => ?_, fun z => absurd (if_neg aT) z, fun b hb => if_pos hb⟩
      · by_cases hb : b ∈ ts
        · exact .inr (.inl hb)
        · exact .inl (if_neg hb)
      · by_cases hb : b ∈ ts
        · cases (if_pos hb).symm.trans z
          exact (isT b hb).1
        · cases (if_neg hb).symm.trans z
      · by_cases hb : b ∈ ts
        · exact .inr hb
        · exact absurd (if_neg hb) z
    | none =>
      refine ⟨fun b => if b = al then some (.frz { cls := .type "list", data := .seq us.toArray } (.lst (zs.map V.int))) else if b ∈ ts then some (.tbl #[]) else none, fun b => ?_, .inl (.inr ⟨{ cls := .type "list", data := .seq us.toArray }, if_pos rfl⟩), fun b u z => ?_, fun b z => ?_, fun _ => rfl, fun b hb => (if_neg (fun e : b = al => aT (e ▸ hb))).trans (if_pos hb)⟩
      · by_cases e : b = al
        · exact .inr (.inr ⟨_, _, if_pos e⟩)
        · by_cases hb : b ∈ ts
          · exact .inr (.inl hb)
          · exact .inl ((if_neg e).trans (if_neg hb))
      · by_cases e : b = al
        · have z2 := (if_pos e).symm.trans z
          cases z2
          subst e
          exact ⟨at_, by rw [List.length_map]; omega, us, _, rel, at_⟩
        · have z1 := (if_neg e).symm.trans z
          by_cases hb : b ∈ ts
          · cases (if_pos hb).symm.trans z1
            exact (isT b hb).1
          · cases (if_neg hb).symm.trans z1
      · by_cases e : b = al
        · exact .inl e
        · by_cases hb : b ∈ ts
          · exact .inr hb
          · exact absurd ((if_neg e).trans (if_neg hb)) z
  have noD : ∀ {b : Addr} {o : Obj}, sh.heap.get? b = some o → (∀ vs n, o.data ≠ .seq vs n) → o.data ≠ .fields #[] → H b = none := fun {b o} e h1 h2 => by
    cases q : H b with
    | none => rfl
    | some u =>
      rcases own b (by rw [q]; simp) with e' | e'
      · rw [e', at_] at e
        cases e
        exact (h1 _ _ rfl).elim
      · rw [(isT b e').1] at e
        cases e
        exact (h2 rfl).elim
  have plain_of : ∀ {b : Addr} {o : Obj} {es : Array DictEntry} {ep : Nat}, sh.heap.get? b = some o → o.data = .dict es ep → H b = none := fun {b o es ep} g dd => noD g (fun vs n z => by rw [dd] at z; cases z) (fun z => by rw [dd] at z; cases z)
  have hid_ns : ∀ {b : Addr} {f : Str → Option Value}, sh.heap.Ns b f → (hidT sh.heap H).Ns b f := fun {b f} ⟨o, es, ep, g, dd, rr⟩ => ⟨o, es, ep, hidT_get g (plain_of g dd), dd, rr⟩
  have kb : K.In (hidT sh.heap H) := fun b o g => hidT_get (kin b o g) (by
    cases q : H b with
    | none => rfl
    | some u =>
      rcases own b (by rw [q]; simp) with eb | eb
      · subst eb
        have := off (by rw [q]; simp)
        rw [this] at g; cases g
      · rw [(isT b eb).2] at g; cases g)
  have TB : TBs K mg (hidT sh.heap H) := fun p hp hk => by
    obtain ⟨hpt, hcd⟩ := hC p hp hk
    have hTp := (isT _ hpt).1
    refine ⟨PySem.W.codeHd_of_K kb hk, ?_, fun z => ?_⟩
    · obtain ⟨bm, ob, b1, b2, b3, b4, b5, b6⟩ := hbm
      have nG : bm ≠ mainGlobals := fun q => by
        obtain ⟨o, es, ep, e, hd, _⟩ := gn
        rw [q, e] at b3
        cases b3
        rw [hd] at b6
        cases b6
      have nP : bm ≠ (He.cT K p.1).2 := fun q => by
        rw [q, hTp] at b3
        cases b3
        cases b6
      refine ⟨bm, ob, b1, b2, nG, nP, hidT_get b3 (noD b3 (fun vs n z => ?_) fun z => ?_), b4, b5, b6⟩
      · rw [b6] at z
        cases z
      · rw [b6] at z
        cases z
    · obtain ⟨o, es, ep, e, hd, _⟩ := gn
      rw [z, hTp] at e
      cases e
      cases hd
  have md : Mod K mg (hidT sh.heap H) := ⟨kb, hid_ns gn, ⟨mb, hid_ns bn, bb⟩, by obtain ⟨c, h1, h2⟩ := nl; exact ⟨c, hid_ns h1, h2⟩⟩
  have ev : Env0 P w K mg (hidT sh.heap H) callerA [] sh H :=
    ⟨rfl, md, fun b o g => of_hidT g, Nat.le_of_eq (hidT_size _ _), trivial, fun b hb => (nomatch (show b ∈ ([] : List Addr) from hb)), hok, .of_eq ng⟩
  obtain ⟨f2, fd, ps, hx2, hkp, hbd, FF⟩ := (F _ kb (hid_ns gn) TB).ex
  rw [hx] at hx2; cases hx2
  have tb : TbOk K H := ⟨fun p hp => .nil (tabs _ (List.mem_map.mpr ⟨p, hp, rfl⟩)), tI⟩
  have sp := spD_law (K := K) hm lz sql tb
  have hp : ps.length = 1 := (FF.len _ _ _ _ sp).symm
  have hb := hbd sh [.ref al] kin (by rw [hp]; rfl)
  refine codeAny_mono (FF.run callerA [] sh H ⟨[.ref al], []⟩ [.ref al] [.ref al] _ _ rfl rm ev hb (.cons rfl .nil) sp) fun r s' hr => ?_
  cases r with
  | error e =>
    obtain ⟨_, _, _, _, _, _, _, _, _, _, _, _, z⟩ := hr
    exact z.elim
  | ok fo =>
    cases fo with
    | next => exact False.elim hr
    | brk => exact False.elim hr
    | cont => exact False.elim hr
    | ret u =>
      obtain ⟨v, H2, eo, br, un, hok2, rv, q⟩ := hr
      subst q
      obtain rfl : u = Value.bool true := rv
      have key : ∀ b o, b ∉ ts → sh.heap.get? b = some o → s'.heap.get? b = some o := fun b o nb g => by
        rcases only b with z | z | ⟨o2, xs, z⟩
        · exact un.keep b o g z (by intro y; cases y) (by simp)
        · exact absurd z nb
        · have g1 := (hok b _ z).1
          have g2 := (hok2 b _ (un.frzs b o2 _ z)).1
          rw [g] at g1; cases g1
          exact g2
      have grown : ∀ b ∈ ts, ∃ more : Array Value, s'.heap.get? b = some { cls := .none, data := .fields more } := fun b hb => by
        obtain ⟨more, z⟩ := un.tbls b #[] (tabs b hb)
        exact ⟨_, hok2 b _ z⟩
      refine ⟨rfl, ⟨fun b o e => ?_, fun b o e => ?_⟩, eo, br⟩
      · by_cases hb : b ∈ ts
        · obtain ⟨q, hq, eq⟩ := List.mem_map.mp hb
          obtain ⟨p, hp, hk, e2⟩ := tabL_of hq
          obtain ⟨more, hm⟩ := grown b hb
          have hTp := (isT b hb).1
          rw [hTp] at e
          cases e
          have eb : (He.cT K p.1).2 = b := by rw [← eq, e2]
          have hcd := (hC p hp hk).2
          rw [eb] at hcd
          exact .inr (.inl ⟨(hcd.tab hTp).isCodeTable, rfl, #[], more, rfl, by rw [Array.empty_append]; exact hm⟩)
        · exact .inl (key b o hb e)
      · by_cases hb : b ∈ ts
        · obtain ⟨more, hm⟩ := grown b hb
          exact ⟨_, hm⟩
        · exact ⟨o, key b o hb e⟩
theorem walkD {l : PySem.W.OpenLaw} {n k : Nat} {q : Program} {loose : List Str} {XP : (Str → Option Value) → Heap → Prop} {YP : World → Heap → Prop} {d : DefRec} {m : FnM}
    (h1 : l.most = some n) (h2 : n ≤ sizeLine) (h3 : d.params.defaults = []) (rm : Room k callerA)
    (F : ∀ (w : World) (mg : Str → Option Value) (h : Heap), YP w h → h.Ns mainGlobals mg → ∃ K : PySem.W.Frag, K.In h ∧ TabsE K h ∧ ∀ base : Heap, K.In base → base.Ns mainGlobals mg → TBs K mg base → CalD l.prog w K mg base k d.name m)
    (hm : Tells n m) : PySem.W.WalkO q loose XP YP l.row.toRowW d [] (fun f vs => PySem.call f vs) := by
  refine Att.attach_call h1 h3 fun w sa sh mg mb fl o pm cd doc al us zs G Y _ _ _ hx ho hz hlz hng => ?_
  obtain ⟨K, kin, tE, FF⟩ := F w mg sh.heap Y G.T.g
  exact told kin G.T.g G.T.b G.T.builtins G.T.nolimit hng tE G.T.bmain ho hz hlz h2 rm hx FF hm
end DL

namespace DL
open PySem PySem.Spec PyProof.Rows L2

section
variable {prog : Program} {w : World} {A : Around} {E : Value → Shared → Prop} {s : Shared} {K : PySem.W.Frag}
end
def keyI : SV → Option Int
  | .fr (.tup (.int i :: _)) => some i
  | _ => none
def keys : List SV → Option (List (SV × Int))
  | [] => some []
  | x :: xs => match keyI x, keys xs with
    | some i, some r => some ((x, i) :: r)
    | _, _ => none
def sortF (ps : List (SV × Int)) : List SV := (ps.mergeSort fun a b => decide (a.2 ≤ b.2)).map (·.1)
def sortG (c : Bool) (a : SV) (S : Store) : Res (SV × Store) := match rdS S a with
  | some xs => match keys xs with
    | some ps => newL0 c (sortF ps) S
    | none => .stuck
  | none => .stuck
section
variable {X : Cx} {W : XW X.K} {a : Expr} {ma : EM} {pos : Pos}
def eSortF (c : Bool) (m : EM) : EM := fun rho S => (m rho S).bind fun x => sortG c x.1 x.2
end
end DL

namespace DL
open PySem PySem.Spec PyProof.Rows L2

def insOf (S : Store) : SV → Option (Str × List (Str × SV))
  | .fr (.ins n fs) => some (n, fs.map fun p => (p.1, .fr p.2))
  | .cell k => match S[k]? with
    | some (.ins n fs) => some (n, fs)
    | _ => none
  | _ => none
section
variable {K : PySem.W.Frag} {ph : List Addr} {H : Hp} {S : Store}
theorem denSF_of : ∀ {vs : List (Str × V)} {fs : List (Str × D)}, DenF K (hide ph H) vs fs → DenSF K ph H vs (fs.map fun p => (p.1, SV.fr p.2))
  | _, _, .nil => .nil
  | _, _, .cons a r => .cons ⟨rfl, a⟩ (denSF_of r)
theorem insOf_ok {v : V} {x : SV} {n : Str} {fs : List (Str × SV)} (g : Good K ph H S) (d : DenS K ph H v x) (h : insOf S x = some (n, fs)) : ∃ a dx vs, v = .ref a ∧ H a = some (.ins (He.ga K n) dx vs) ∧ DenSF K ph H vs fs := by
  cases x with
  | fr d' =>
    cases d' with
    | ins m gs =>
      simp only [insOf, Option.some.injEq, Prod.mk.injEq] at h
      obtain ⟨rfl, rfl⟩ := h
      cases d with
      | ins s r => exact ⟨_, _, _, rfl, (hide_some s).2, denSF_of r⟩
    | _ => simp [insOf] at h
  | cell k =>
    obtain ⟨p, h1, rfl⟩ := d
    simp only [insOf] at h
    split at h
    · rename_i m gs hk
      simp only [Option.some.injEq, Prod.mk.injEq] at h
      obtain ⟨rfl, rfl⟩ := h
      obtain ⟨q, h3, dx, vs, h4, h5⟩ := g.at hk
      rw [h1] at h3; cases h3
      exact ⟨p, dx, vs, rfl, h4, h5⟩
    · cases h
theorem denSF_some {f : Str} {x : SV} : ∀ {vs : List (Str × V)} {fs : List (Str × SV)}, DenSF K ph H vs fs → fs.lookup f = some x → ∃ v, vs.lookup f = some v ∧ DenS K ph H v x
  | _, _, .nil, e => by simp at e
  | (a, v) :: vs, (b, y) :: fs, .cons h t, e => by
    obtain ⟨e1, d⟩ := h
    dsimp only at e1 d
    subst e1
    rw [List.lookup_cons] at e ⊢
    cases q : f == a with
    | true => rw [q] at e; cases e; exact ⟨v, rfl, d⟩
    | false => rw [q] at e; exact denSF_some t e
theorem denSF_none {f : Str} : ∀ {vs : List (Str × V)} {fs : List (Str × SV)}, DenSF K ph H vs fs → fs.lookup f = none → vs.lookup f = none
  | _, _, .nil, e => by simp
  | (a, v) :: vs, (b, y) :: fs, .cons h t, e => by
    obtain ⟨e1, d⟩ := h
    dsimp only at e1 d
    subst e1
    rw [List.lookup_cons] at e ⊢
    cases q : f == a with
    | true => rw [q] at e; cases e
    | false => rw [q] at e; exact denSF_none t e
def putS (f : Str) (v : SV) : List (Str × SV) → List (Str × SV)
  | [] => [(f, v)]
  | (g, x) :: r => if g = f then (g, v) :: r else (g, x) :: putS f v r
theorem denSF_put {f : Str} {v : V} {x : SV} (d : DenS K ph H v x) : ∀ {vs : List (Str × V)} {fs : List (Str × SV)}, DenSF K ph H vs fs → DenSF K ph H (putF f v vs) (putS f x fs)
  | _, _, .nil => .cons ⟨rfl, d⟩ .nil
  | (a, u) :: vs, (b, y) :: fs, .cons h t => by
    obtain ⟨e1, d2⟩ := h
    dsimp only at e1 d2
    subst e1
    unfold putF putS
    by_cases q : a = f
    · rw [if_pos q, if_pos q]; exact .cons ⟨rfl, d⟩ t
    · rw [if_neg q, if_neg q]; exact .cons ⟨rfl, d2⟩ (denSF_put d t)
end
structure FldOk (K : PySem.W.Frag) (n f : Str) : Prop where
  cls : Cls K (He.ga K n)
  no : NoAttr K (He.ga K n) f
def FldsOk (K : PySem.W.Frag) (f : Str) (ns : List Str) : Prop := ∀ n ∈ ns, FldOk K n f
theorem flds_nil {K : PySem.W.Frag} {f : Str} : FldsOk K f [] := fun _ h => nomatch h
theorem flds_cons {K : PySem.W.Frag} {f n : Str} {ns : List Str} (h : FldOk K n f) (t : FldsOk K f ns) : FldsOk K f (n :: ns) := fun m hm => (List.mem_cons.mp hm).elim (fun e => e ▸ h) (t m)
def fldG (ns : List Str) (f : Str) (x : SV) (S : Store) : Res (SV × Store) := match insOf S x with
  | some (n, fs) => if n ∈ ns then (match fs.lookup f with
    | some y => .ok (y, S)
    | none => .stuck) else .stuck
  | none => .stuck
def eFld (ns : List Str) (f : Str) (o : EM) : EM := fun rho S => (o rho S).bind fun x => fldG ns f x.1 x.2
section
variable {X : Cx} {W : XW X.K} {o e : Expr} {mo m : EM} {pos : Pos} {ns : List Str} {f : Str}
theorem pd_fld (T : FldsOk X.K f ns) (ho : PD X W o mo) (hb : attributeBase o f X.env (eval o X.env) = eval o X.env := by rfl) : PD X W (.Attribute o f pos) (eFld ns f mo) := by
  obtain ⟨t, p, s⟩ := ho.ex
  refine ⟨_, pe_fld p hb, fun ph S H sg rho Q g so h => s ph S H sg rho _ g so (holds_imp (holds_bind h) (fun x hx => ?_) fun _ _ _ q => q)⟩
  intro ph1 v1 H1 x1 g1 d1
  unfold fldG at hx
  split at hx
  · rename_i n fs hi
    obtain ⟨a, dx, vs, rfl, h1, h2⟩ := insOf_ok g1 d1 hi
    split at hx
    · rename_i hn
      split at hx
      · rename_i y hy
        obtain ⟨v, hv, dv⟩ := denSF_some h2 hy
        exact ⟨a, _, dx, vs, v, rfl, h1, (T n hn).cls, (T n hn).no, hv, hx ph1 v H1 x1 g1 dv⟩
      · exact hx.elim
    · exact hx.elim
  · exact hx.elim
def sFldM (ns : List Str) (f : Str) (o m : EM) : SM := fun rho S => (m rho S).bind fun y => (o rho y.2).bind fun x => match x.1 with
  | .cell k => match x.2[k]? with
    | some (.ins n fs) => if n ∈ ns ∧ fs.length < 1000 then .ok (.nx, rho, x.2.set k (.ins n (putS f y.1 fs))) else .stuck
    | _ => .stuck
  | _ => .stuck
theorem psd_fld {pos' : Pos} (T : FldsOk X.K f ns) (ho : PD X W o mo) (hm : PD X W e m) (hs : swapsWith e (some (.Attribute o f pos')) pos.line X.env = pure false := by rfl) : PSD X W (.Assign [.Attribute o f pos'] e pos) (sFldM ns f mo m) := by
  obtain ⟨t, p, s⟩ := hm.ex
  obtain ⟨to, po, so'⟩ := ho.ex
  refine ⟨_, ps_fld po p hs, fun ph S H sg rho Dn g so h => s ph S H sg rho _ g so (holds_imp (holds_bind h) (fun y hy => ?_) fun _ _ _ q => q)⟩
  intro ph1 v1 H1 x1 g1 d1
  refine so' ph1 y.2 H1 sg rho _ g1 (so.mono x1) (holds_imp (holds_bind hy) (fun x hx => ?_) fun e r s q => W.mono _ _ _ _ e r s x1 q)
  intro ph2 v2 H2 x2 g2 d2
  obtain ⟨x, S2⟩ := x
  dsimp only at *
  split at hx
  · rename_i k
    split at hx
    · rename_i n fs hk
      split at hx
      · rename_i hc
        obtain ⟨a, h3, rfl⟩ := d2
        obtain ⟨q, h4, dx, vs, h5, h6⟩ := g2.at hk
        rw [h3] at h4; cases h4
        have hl : vs.length < 1000 := by rw [h6.length]; exact hc.2
        refine ⟨a, _, dx, vs, rfl, h5, (T n hc.1).cls, (T n hc.1).no, hl, ?_⟩
        have e2 : DL.Ext ph2 H2 ph2 (upd H2 a (.ins (He.ga X.K n) dx (putF f v1 vs))) := Ext.write (List.mem_of_getElem? h3) (nofrz h5 fun _ _ z => nomatch z)
        exact hx ph2 sg _ (x1.trans (x2.trans e2)) (g2.write h3 ⟨dx, _, upd_same, denSF_put ((d1.mono x2).mono e2) (DenSF.mono e2 h6)⟩) (so.mono (x1.trans (x2.trans e2)))
      · exact hx.elim
    · exact hx.elim
  · exact hx.elim
end

structure FunAt (P : Program) (w : World) (K : PySem.W.Frag) (mg : Str → Option Value) (base : Heap) (k : Nat) (f : Addr) (m : FnM) : Prop where
  ex : ∃ fd ps, PySem.W.keepIn K (.ref f) = true ∧ PySem.W.isFn K (.ref f) = true ∧ Binds K fd ps [] ∧ FnD P w K mg base k f fd ps m
section
variable {X : Cx} {pins : List (Addr × Obj)} {s : Shared} {σ : L2.St} {H : Hp} {A : Around} {k : Nat} {f : Addr} {m : FnM}
theorem runD {us : List Value} {vs : List V} {Q : VK} (F : FunAt X.prog X.w X.K X.mg X.base k f m) (e0 : Env0 X.prog X.w X.K X.mg X.base A X.stack s H) (hr : Room k A) (hg : A.guards = some []) (I : Inv X pins σ H s) (r : Vals vs us) (h : spD X.K m vs H Q E0) :
    wpAny (model X.prog X.w) A (call (.ref f) us) (EP X pins σ Q) X.xe s := by
  obtain ⟨fd, ps, _, _, hb, FF⟩ := F.ex
  have hl : (us ++ []).length = ps.length := by rw [List.append_nil, ← r.length]; exact FF.len _ _ _ _ h
  have bt := hb s us I.kIn hl
  rw [List.append_nil] at bt
  refine wpAny_call (codeAny_mono (FF.run A X.stack s H ⟨us, []⟩ us vs Q E0 hg hr e0 bt r h) fun r s' hq => ?_)
  cases r with
  | error e => exact passL pins σ H s e s' I hq
  | ok fl =>
    cases fl with
    | ret u => exact I.after hq
    | next => exact False.elim hq
    | brk => exact False.elim hq
    | cont => exact False.elim hq
end
end DL

namespace DL
open PySem PySem.Spec PyProof.Rows L2

abbrev Tbl := List (Str × FnM)
structure MetD (P : Program) (w : World) (K : PySem.W.Frag) (mg : Str → Option Value) (base : Heap) (k : Nat) (nm n : Str) (m : FnM) : Prop where
  ex : ∃ f, Cls K (He.ga K n) ∧ Meth K (He.ga K n) nm f ∧ FunAt P w K mg base k f m
section
variable {P : Program} {w : World} {K : PySem.W.Frag} {mg : Str → Option Value} {base : Heap} {j k : Nat} {nm n : Str} {m : FnM} {tbl : Tbl}
theorem FnD.mono {f : Addr} {fd : FuncData} {ps : List Str} (F : FnD P w K mg base j f fd ps m) (h : j ≤ k) : FnD P w K mg base k f fd ps m :=
  ⟨F.len, fun A outer s H args us vs Q E hg hr => F.run A outer s H args us vs Q E hg (hr.mono h)⟩
theorem FunAt.mono {f : Addr} (F : FunAt P w K mg base j f m) (h : j ≤ k) : FunAt P w K mg base k f m := by
  obtain ⟨fd, ps, a, b, c, d⟩ := F.ex
  exact ⟨fd, ps, a, b, c, d.mono h⟩
theorem MetD.mono (h : MetD P w K mg base j nm n m) (hk : j ≤ k) : MetD P w K mg base k nm n m := by
  obtain ⟨f, a, b, c⟩ := h.ex
  exact ⟨f, a, b, c.mono hk⟩
theorem tbl_mem {n : Str} {m : FnM} : ∀ {tbl : Tbl}, tbl.lookup n = some m → (n, m) ∈ tbl
  | [], h => by simp at h
  | (a, x) :: r, h => by
    rw [List.lookup_cons] at h
    cases q : n == a with
    | true =>
      rw [q] at h
      cases h
      have e : n = a := by simpa using q
      subst e
      exact List.mem_cons_self
    | false => rw [q] at h; exact List.mem_cons_of_mem _ (tbl_mem h)
end
def metOf (tbl : Tbl) (nm : Str) (S : Store) (x : SV) : Option FnM := match insOf S x with
  | some (n, fs) => if (fs.lookup nm).isNone then tbl.lookup n else none
  | none => none
def eMeth (cc : Bool) (tbl : Tbl) (nm : Str) (o : EM) (m : AM) : EM := fun rho S => (o rho S).bind fun x => match metOf tbl nm x.2 x.1 with
  | some f => (m rho x.2).bind fun y => (noX (f (x.1 :: y.1) y.2)).bind (back cc)
  | none => .stuck
section
variable {X : Cx} {W : XW X.K} {o e : Expr} {es : List Expr} {mo : EM} {m : AM} {pos apos : Pos} {nm : Str} {tbl : Tbl} {k : Nat}
def eMeth0 (cc : Bool) (tbl : Tbl) (nm : Str) (o : EM) : EM := fun rho S => (o rho S).bind fun x => match metOf tbl nm x.2 x.1 with
  | some f => (noX (f [x.1] x.2)).bind (back cc)
  | none => .stuck
end

def allFrF : List (Str × SV) → Option (List (Str × D))
  | [] => some []
  | (n, .fr d) :: r => (allFrF r).map ((n, d) :: ·)
  | (_, .cell _) :: _ => none
theorem denF_of {K : PySem.W.Frag} {ph : List Addr} {H : Hp} : ∀ {fs : List (Str × SV)} {vs : List (Str × V)} {ds : List (Str × D)}, DenSF K ph H vs fs → allFrF fs = some ds → DenF K (hide ph H) vs ds
  | [], _, ds, .nil, e => by simp [allFrF] at e; subst e; exact .nil
  | (n, .fr d) :: r, (a, v) :: vs, ds, .cons h t, e => by
    obtain ⟨e1, h2⟩ := h
    dsimp only at e1 h2
    subst e1
    simp only [allFrF, Option.map_eq_some_iff] at e
    obtain ⟨es, h3, rfl⟩ := e
    exact .cons h2 (denF_of t h3)
  | (_, .cell _) :: _, _, _, _, e => by simp [allFrF] at e
def mkEnd (c : Bool) (k : Nat) (r : RV × Store) : Res (SV × Store) := match r.1 with
  | .val (.fr .non) => match r.2[k]? with
    | some (.ins n fs) => if c then .ok (.cell k, r.2) else if (r.2.take k).all (Cell.below k) then match allFrF fs with
      | some ds => .ok (.fr (.ins n ds), r.2.take k)
      | none => .stuck else .stuck
    | _ => .stuck
  | _ => .stuck
def eMake (c : Bool) (n : Str) (f : FnM) (m : AM) : EM := fun rho S => (m rho S).bind fun y => (noX (f (.cell y.2.length :: y.1) (y.2 ++ [.ins n []]))).bind (mkEnd c y.2.length)
structure MakD (P : Program) (w : World) (K : PySem.W.Frag) (mg : Str → Option Value) (base : Heap) (k : Nat) (n : Str) (m : FnM) : Prop where
  ex : ∃ f, mg n = some (.ref (He.ga K n)) ∧ Mk K (He.ga K n) f ∧ FunAt P w K mg base k f m
section
variable {X : Cx} {W : XW X.K} {e : Expr} {es : List Expr} {m : AM} {pos p : Pos} {n : Str} {k : Nat} {f : FnM}
theorem guards_make {A : Around} (h : A.guards = some []) (C : Addr) (us : List Value) : (A.under (.builtin "type.__call__" ⟨.ref C :: us, []⟩)).guards = some [] := by
  unfold Around.under
  dsimp only
  rw [h]
  have e : ∀ a : Args, Code.guards (.builtin "type.__call__" a) = [] := fun a => by
    unfold Code.guards
    rw [if_neg (by simp [Code.isGuard, guardIds])]
  rw [e]
  rfl
end
end DL

namespace DL
open PySem PySem.Spec PyProof.Rows L2

section
variable {X : Cx} {W : XW X.K} {pos : Pos}
def listG (c : Bool) : GA := fun as S => match as with
  | [a] => match rdS S a with
    | some xs => newL0 c xs S
    | none => match a with
      | .fr (.tup ds) => newL0 c (ds.map SV.fr) S
      | _ => .stuck
  | _ => .stuck
theorem list_ok (c : Bool) : OpA X W (fun xs H Q => ∃ p ys, xs = [V.ref p] ∧ (SqL X.K H p ys ∨ SqT X.K H p ys) ∧ ∀ l, H l = none → Q (.ref l) (upd H l (.lst ys))) (listG c) := by
  intro ph S H xs as Q g d h
  unfold listG at h
  split at h
  · rename_i a
    obtain ⟨v, rfl, dv⟩ := one_of d
    split at h
    · rename_i ys hy
      obtain ⟨p, vs, rfl, s, r⟩ := rdS_ok g dv hy
      exact ⟨p, vs, rfl, .inl s, newL0_ok g r h⟩
    · split at h
      · obtain ⟨p, vs, rfl, s, r⟩ := d_tup dv
        exact ⟨p, vs, rfl, .inr (hide_sub.sqT s), newL0_ok g (of_dens r) h⟩
      · exact h.elim
  · exact h.elim
def tupleG : GA := fun as S => match as with
  | [a] => match rdS S a with
    | some xs => match allFr xs with
      | some ds => .ok (.fr (.tup ds), S)
      | none => .stuck
    | none => match a with
      | .fr (.tup ds) => .ok (.fr (.tup ds), S)
      | _ => .stuck
  | _ => .stuck
theorem tuple_ok : OpA X W (fun xs H Q => ∃ p ys, xs = [V.ref p] ∧ ((SqL X.K H p ys ∧ ∀ l, H l = none → Q (.ref l) (upd H l (.tup ys))) ∨ (SqT X.K H p ys ∧ Q (.ref p) H))) tupleG := by
  intro ph S H xs as Q g d h
  unfold tupleG at h
  split at h
  · rename_i a
    obtain ⟨v, rfl, dv⟩ := one_of d
    split at h
    · rename_i ys hy
      obtain ⟨p, vs, rfl, s, r⟩ := rdS_ok g dv hy
      split at h
      · rename_i ds hds
        refine ⟨p, vs, rfl, .inl ⟨s, fun l hl => ?_⟩⟩
        have e : DL.Ext ph H ph (upd H l (.tup vs)) := Ext.fresh hl
        refine h ph (.ref l) _ e (g.fresh hl) (.tup (hide_of (g.new hl) upd_same) ?_)
        rw [allFr_eq hds] at r
        exact (dens_of r).mono e.sub
      · exact h.elim
    · split at h
      · obtain ⟨p, vs, rfl, s, r⟩ := d_tupH dv
        exact ⟨p, vs, rfl, .inr ⟨hide_sub.sqT (.inl (.inl s)), fin_v g (.tup s r) h⟩⟩
      · exact h.elim
  · exact h.elim
def intsOf : List SV → Option (List Int)
  | [] => some []
  | .fr (.int i) :: r => (intsOf r).map (i :: ·)
  | _ => none
def blsOf : List SV → Option (List Bool)
  | [] => some []
  | .fr (.bl i) :: r => (blsOf r).map (i :: ·)
  | _ => none
theorem intsOf_ok {K : PySem.W.Frag} {ph : List Addr} {H : Hp} : ∀ {xs : List SV} {vs : List V} {ns : List Int}, DenSs K ph H vs xs → intsOf xs = some ns → vs = ns.map V.int
  | [], _, ns, .nil, e => by simp [intsOf] at e; subst e; rfl
  | .fr (.int i) :: r, v :: vs, ns, .cons d t, e => by
    simp only [intsOf, Option.map_eq_some_iff] at e
    obtain ⟨ms, h1, rfl⟩ := e
    rw [d_int d, intsOf_ok t h1]; rfl
theorem blsOf_ok {K : PySem.W.Frag} {ph : List Addr} {H : Hp} : ∀ {xs : List SV} {vs : List V} {ns : List Bool}, DenSs K ph H vs xs → blsOf xs = some ns → vs = ns.map V.bl
  | [], _, ns, .nil, e => by simp [blsOf] at e; subst e; rfl
  | .fr (.bl i) :: r, v :: vs, ns, .cons d t, e => by
    simp only [blsOf, Option.map_eq_some_iff] at e
    obtain ⟨ms, h1, rfl⟩ := e
    rw [d_bl d, blsOf_ok t h1]; rfl
def sumG : GA := fun as S => match as with
  | [a] => match (rdS S a).bind intsOf with
    | some ns => okV (.int ns.sum) S
    | none => .stuck
  | _ => .stuck
theorem sum_ok : OpA X W (rSum X.K) sumG := by
  intro ph S H xs as Q g d h
  unfold sumG at h
  split at h
  · obtain ⟨v, rfl, dv⟩ := one_of d
    split at h
    · rename_i ns hn
      obtain ⟨ys, hy, hn⟩ := Option.bind_eq_some_iff.mp hn
      obtain ⟨p, vs, rfl, s, r⟩ := rdS_ok g dv hy
      rw [intsOf_ok r hn] at s
      exact ⟨p, ns, rfl, s, fin_v g (.int _) h⟩
    · exact h.elim
  · exact h.elim
def allG : GA := fun as S => match as with
  | [a] => match (rdS S a).bind blsOf with
    | some ns => okV (.bl (ns.all id)) S
    | none => .stuck
  | _ => .stuck
theorem all_ok : OpA X W (rAll X.K) allG := by
  intro ph S H xs as Q g d h
  unfold allG at h
  split at h
  · obtain ⟨v, rfl, dv⟩ := one_of d
    split at h
    · rename_i ns hn
      obtain ⟨ys, hy, hn⟩ := Option.bind_eq_some_iff.mp hn
      obtain ⟨p, vs, rfl, s, r⟩ := rdS_ok g dv hy
      rw [blsOf_ok r hn] at s
      exact ⟨p, ns, rfl, s, fin_v g (.bl _) h⟩
    · exact h.elim
  · exact h.elim

def tyN (S : Store) : SV → Option String
  | .fr .non => some "NoneType"
  | .fr (.bl _) => some "bool"
  | .fr (.int _) => some "int"
  | .fr (.str _) => some "str"
  | .fr (.tup _) => some "tuple"
  | .fr (.lst _) => some "list"
  | .fr (.scr _) => some "list"
  | .fr (.dct _) => some "dict"
  | .cell k => match S[k]? with
    | some (.lst _) => some "list"
    | some (.dic _) => some "dict"
    | some (.dit _) => some "dict"
    | _ => none
  | _ => none
def kin (a b : String) : Option Bool := if a ∈ ["NoneType", "bool", "int", "str", "tuple", "list", "dict"] ∧ b ∈ ["bool", "int", "str", "tuple", "list", "dict"] then some (a == b || (a == "bool" && b == "int")) else none
theorem kin_ok {a b : String} {r : Bool} (h : kin a b = some r) : kitB a b = some r := by
  unfold kin at h
  split at h
  · rename_i hm
    cases h
    obtain ⟨h1, h2⟩ := hm
    have key : ∀ x ∈ ["NoneType", "bool", "int", "str", "tuple", "list", "dict"], ∀ y ∈ ["bool", "int", "str", "tuple", "list", "dict"], kitB x y = some (x == y || (x == "bool" && y == "int")) := by decide +kernel
    exact key a h1 b h2
  · cases h
theorem sqL_ty {K : PySem.W.Frag} {H : Hp} {a : Addr} {xs : List V} (h : SqL K H a xs) : TyX K H (.ref a) (.type "list") := by
  rcases h with (h | ⟨o, h⟩) | ⟨o, its, n, hk, hc, _⟩
  · exact .base (.lst h)
  · exact .base (.frz h)
  · exact .kList hk hc
theorem sqT_ty {K : PySem.W.Frag} {H : Hp} {a : Addr} {xs : List V} (h : SqT K H a xs) : TyX K H (.ref a) (.type "tuple") := by
  rcases h with (h | ⟨o, h⟩) | ⟨o, its, n, hk, hc, _⟩
  · exact .base (.tup h)
  · exact .fTuple h
  · exact .kTuple hk hc
theorem tyN_ok {K : PySem.W.Frag} {ph : List Addr} {S : Store} {H : Hp} {v : V} {x : SV} {t : String} (g : Good K ph H S) (d : DenS K ph H v x) (h : tyN S x = some t) : TyX K H v (.type t) := by
  unfold tyN at h
  split at h
  · cases h; rw [d_non d]; exact .base .non
  · cases h; rw [d_bl d]; exact .base (.bl _)
  · cases h; rw [d_int d]; exact .base (.int _)
  · cases h; rw [d_str d]; exact .base (.str _)
  · cases h
    obtain ⟨p, vs, rfl, s, r⟩ := d_tup d
    exact sqT_ty (hide_sub.sqT s)
  · cases h
    obtain ⟨p, vs, rfl, s, r⟩ := rdS_ok g d rfl
    exact sqL_ty s
  · cases h
    obtain ⟨p, vs, rfl, s, r⟩ := rdS_ok g d rfl
    exact sqL_ty s
  · cases h
    cases (show Den K (hide ph H) v _ from d) with
    | dct e r => exact .base (.dK (hide_some e).2)
  · split at h
    · rename_i k xs hk
      cases h
      obtain ⟨p, vs, rfl, s, r⟩ := rdS_ok (xs := xs) g d (by simp [rdS, rdL, hk])
      exact sqL_ty s
    · rename_i k kvs hk
      cases h
      obtain ⟨p, hp, rfl⟩ := d
      obtain ⟨vs, h4, h5⟩ := paired_at g.cells hp hk
      exact .base (.dK h4)
    · rename_i k kvs hk
      cases h
      obtain ⟨p, hp, rfl⟩ := d
      obtain ⟨vs, h4, h5⟩ := paired_at g.cells hp hk
      exact .base (.dT h4)
    · cases h
  · cases h
def isiG : GA := fun as S => match as with
  | [x, .fr (.ty b)] => match (tyN S x).bind fun a => kin a b with
    | some r => okV (.bl r) S
    | none => .stuck
  | _ => .stuck
theorem isi_ok : OpA X W (rIsi X.K) isiG := by
  intro ph S H xs as Q g d h
  unfold isiG at h
  split at h
  · rename_i x b
    obtain ⟨v, u, rfl, dv, du⟩ := two_of d
    split at h
    · rename_i r hr
      obtain ⟨a, ha, hk⟩ := Option.bind_eq_some_iff.mp hr
      have e : u = .ty b := by cases (show Den X.K (hide ph H) u (.ty b) from du); rfl
      subst e
      exact ⟨v, .ty b, .type a, .type b, r, rfl, .ty b, tyN_ok g dv ha, kit_ty (kin_ok hk), fin_v g (.bl _) h⟩
    · exact h.elim
  · exact h.elim
theorem pd_ty {x : Str} {T : String} (hm : X.mg x = none) (hv : bootBuiltins x = some (.type T)) (hg : Gl X x := by rfl) (hn : x ≠ "__name__" := by decide) (hdb : (x == ("__debug__" : Str)) = false := by decide) : PD X W (.Name x pos) (eC (.ty T)) :=
  pd_const ⟨fun pins s σ H Q I h => ld_blt I hg hm hv ⟨.ty T, H, I, rfl, h⟩ hn hdb⟩ fun _ => .ty _
end
end DL

namespace DL
open PySem PySem.Spec PyProof.Rows L2

structure OpD (P : Program) (w : World) (K : PySem.W.Frag) (mg : Str → Option Value) (base : Heap) (k : Nat) (nm n : Str) (m : FnM) : Prop where
  ex : ∃ f, PySem.W.findIn K (.ref (He.ga K n)) nm = some (some (.ref f)) ∧ PySem.W.selfFirst K (He.ga K n) = true ∧ FunAt P w K mg base k f m
def OpsD (P : Program) (w : World) (K : PySem.W.Frag) (mg : Str → Option Value) (base : Heap) (k : Nat) (nm : Str) (tbl : Tbl) : Prop := ∀ p ∈ tbl, OpD P w K mg base k nm p.1 p.2
section
variable {P : Program} {w : World} {K : PySem.W.Frag} {mg : Str → Option Value} {base : Heap} {j k : Nat} {nm n : Str} {m : FnM} {tbl : Tbl}
theorem OpD.mono (h : OpD P w K mg base j nm n m) (hk : j ≤ k) : OpD P w K mg base k nm n m := by
  obtain ⟨f, a, b, c⟩ := h.ex
  exact ⟨f, a, b, c.mono hk⟩
theorem ops_nil : OpsD P w K mg base k nm [] := fun _ h => nomatch h
theorem ops_cons (h : OpD P w K mg base k nm n m) (t : OpsD P w K mg base k nm tbl) : OpsD P w K mg base k nm ((n, m) :: tbl) := fun p hp => (List.mem_cons.mp hp).elim (fun e => e ▸ h) (t p)
end
section
variable {X : Cx} {W : XW X.K} {pins : List (Addr × Obj)} {s : Shared} {σ : L2.St} {H : Hp} {k : Nat} {tbl : Tbl} {a b : Expr} {ma mb : EM} {pos : Pos}
def orG (g g' : G2) : G2 := fun a b S => match insOf S a with
  | some _ => g' a b S
  | none => g a b S
theorem or_ok {r r' : R2} {g g' : G2} (h : Op2 X W r g) (h' : Op2 X W r' g') : Op2 X W (fun x y H Q => r x y H Q ∨ r' x y H Q) (orG g g') := by
  intro ph S H x y a b Q gd da db hh
  unfold orG at hh
  split at hh
  · exact .inr (h' ph S H x y a b Q gd da db hh)
  · exact .inl (h ph S H x y a b Q gd da db hh)
def blEnd (ng : Bool) (r : RV × Store) : Res (SV × Store) := match r.1 with
  | .val (.fr (.bl b)) => okV (.bl (if ng then !b else b)) r.2
  | _ => .stuck
theorem blEnd_ok {ph : List Addr} {H : Hp} {Q : VK} {ng : Bool} {r : RV × Store} {E : Exc → Slots → Store → Prop} (h : holds (blEnd ng r) (post X.K ph H Q) E) : postF X.K ph H (fun v H' => ∃ r, v = .bl r ∧ Q (.bl (if ng then !r else r)) H') r := by
  intro v H2 x2 g2 d2
  obtain ⟨rv, S2⟩ := r
  unfold blEnd at h
  dsimp only at *
  split at h
  · rename_i b
    exact ⟨b, d_bl (show DenS X.K ph H2 v (.fr (.bl b)) from d2), h ph _ H2 x2 g2 (Den.bl _)⟩
  · exact h.elim
end
end DL

namespace DLB
open PySem
section
variable {prog : Program} {w : World} {A : Around} {E : Value → Shared → Prop} {s : Shared}
end
end DLB

namespace DL
open PySem PySem.Spec PyProof.Rows L2
section
variable {X : Cx} {W : XW X.K} {pins : List (Addr × Obj)} {s : Shared} {σ : L2.St} {H : Hp} {k : Nat} {tbl : Tbl} {a b : Expr} {ma mb : EM} {pos : Pos}
end
end DL

namespace DL
open PySem PySem.Spec PyProof.Rows L2

section
variable {X : Cx} {W : XW X.K} {e : Expr} {es : List Expr} {m : AM} {pos p apos : Pos} {nm n : Str} {k : Nat} {f : FnM}
theorem pd_cls (hm : X.mg n = some (.ref (He.ga X.K n))) (hg : Gl X n := by rfl) (hdb : (n == ("__debug__" : Str)) = false := by decide) : PD X W (.Name n pos) (eC (.cls n)) :=
  pd_const (pe_glob hg hm (v := .ref (He.ga X.K n)) rfl hdb) fun _ => .cls n
theorem d_cls {K : PySem.W.Frag} {F : Hp} {v : V} {n : Str} (h : Den K F v (.cls n)) : v = .ref (He.ga K n) := by cases h; rfl
end
end DL

namespace DL
open PySem PySem.Spec PyProof.Rows L2

section
variable {P : Program} {w : World} {K : PySem.W.Frag} {mg : Str → Option Value} {base : Heap}
theorem funAt_of {k : Nat} {x qual : Str} {st : Stmt} {f : Addr} {fd : FuncData} {N ps : List Str} {b : SM} (F : Fun K x qual st f fd) (hfn : PySem.W.isFn K (.ref f) = true) (hbd : Binds K fd ps []) (Sc : FnScope N ps (defScope st))
    (hb : ∀ (cdv : Value) (A : Around) (outer : List Env) (s : Shared) (H : Hp) (E : XK), (A.deeper (envOfC qual (defScope st) s.heap.objs.size f cdv)).guards = some [] → Room k (A.deeper (envOfC qual (defScope st) s.heap.objs.size f cdv)) →
      PSDs (cxOf (L2.CX P w) P w K mg base N qual (defScope st) f cdv A outer s H E) (XW.fn K E) (defBody st) b) : FunAt P w K mg base (k + 1) f (fnM ps.length N.length b) := by
  obtain ⟨oc, od, kV, doc, pm, an, cdv, ct, osl, rfl, lk, hcd⟩ := F.ex
  exact ⟨_, ps, F.kp, hfn, hbd, fnD_of lk hcd Sc fun A outer s H E => hb cdv A outer s H E⟩
end
section
variable {fs : List Fc} {fn : List He5.DefA} {K : PySem.W.Frag}
theorem SaysF.fact (c : SaysF fs fn K) (i : Nat) {f : Fc} (h : fs[i]? = some f := by rfl) : f K = true := by
  have q : (obsF fs fn K).1 = true := by rw [show obsF fs fn K = He5.valA fn from c]; rfl
  exact List.all_eq_true.mp (Bool.and_eq_true_iff.mp q).1 f (List.mem_of_getElem? h)
theorem SaysF.def_ (c : SaysF fs fn K) (i : Nat) {d : He5.DefA} (h : fn[i]? = some d := by rfl) : ∃ fd, L2.FunD K d.name d.qual d.params d.body d.scope (d.dvs K) (d.kws K) (d.at_ K) fd := by
  have q : (obsF fs fn K).1 = true := by rw [show obsF fs fn K = He5.valA fn from c]; rfl
  have q2 : (obsF fs fn K).2 = (He5.valA fn).2 := by rw [show obsF fs fn K = He5.valA fn from c]
  have q3 : (fn.map fun d => He5.fnA K (d.at_ K))[i]? = (fn.map He5.DefA.val)[i]? := by rw [show fn.map (fun d => He5.fnA K (d.at_ K)) = fn.map He5.DefA.val from q2]
  rw [List.getElem?_map, List.getElem?_map, h] at q3
  exact He5.DefA.funD (Option.some.inj q3) (List.all_eq_true.mp (Bool.and_eq_true_iff.mp q).2 d (List.mem_of_getElem? h))
end
section
variable {P : Program} {w : World} {K : PySem.W.Frag} {mg : Str → Option Value} {base h : Heap} {k : Nat} {n m f x y : Str} {g : FnM}
theorem fld_of (c1 : fcCls n K = true) (c2 : fcNo n f K = true) : FldOk K n f := ⟨He.cls_ok c1, He.noat_ok c2⟩
theorem op_of (c1 : fcSelf n K = true) (c2 : fcMeth n m K = true) (F : FunAt P w K mg base k (He.ma K (He.ga K n) m) g) : OpD P w K mg base k m n g := ⟨_, (He.meth_ok c2).at_, c1, F⟩
theorem mak_of (X : K.In h) (G : h.Ns mainGlobals mg) (c1 : fcGlo n K = true) (c2 : fcMk n K = true) (F : FunAt P w K mg base k (He.ma K (He.ga K n) "__init__") g) : MakD P w K mg base k n g := ⟨_, He.glo_ok X G c1, He.mkr_ok c2, F⟩
end
structure IsiOk (K : PySem.W.Frag) (n : Str) : Prop where
  cls : Cls K (He.ga K n)
  ha : PySem.W.findIn K (.ref (He.ga K n)) "__class__" = some (some (.builtin "object.__class__"))
  hn : PySem.W.specialIn K (.builtin "object.__class__") "__get__" = some (some (.builtin "getset_descriptor.__get__"))
  htk : PySem.W.takesIn K (.builtin "object.__class__") = some true
  hm : PySem.W.mroIn K (He.ga K n) (.type "object") = some true
  same : PySem.W.kitOne K (.ref (He.ga K n)) (.ref (He.ga K n)) = some true
  oth : ∀ t ∈ ["NoneType", "bool", "int", "str", "tuple", "list"], PySem.W.kitOne K (.type t) (.ref (He.ga K n)) = some false
theorem isiO_of {K : PySem.W.Frag} {mg : Str → Option Value} {h : Heap} {n : Str} (X : K.In h) (G : h.Ns mainGlobals mg) (c1 : fcCls n K = true) (c : fcIsi n K = true) : IsiOk K n := by
  unfold fcIsi at c
  simp only [Bool.and_eq_true] at c
  obtain ⟨h1, h2, h3, h4, h5, h6⟩ := c
  exact ⟨He.cls_ok c1, He.eqO_ok h1, He.eqO_ok h2, of_decide_eq_true h3, of_decide_eq_true h4, of_decide_eq_true h5, fun t ht => of_decide_eq_true (List.all_eq_true.mp h6 t ht)⟩
end DL

namespace DL
open PySem PySem.Spec PyProof.Rows L2

def srcM (S : Store) : SV → Option (List D × (Store → Prop))
  | .fr (.tup _) => none
  | .fr d => ((rdS S (.fr d)).bind allFr).map fun ds => (ds, fun _ => True)
  | .cell k => (rdL S (.cell k)).bind fun xs => (allFr xs).map fun ds => (ds, fun S' => S'[k]? = some (.lst xs))
def enF (n : Nat) : List D → List SV
  | [] => []
  | d :: ds => .fr (.tup [.int (n : Nat), d]) :: enF (n + 1) ds
def iEn (m : AM) : IM := fun rho S => (m rho S).bind fun x => match x.1 with
  | [a] => match srcM x.2 a with
    | some (ds, lk) => .ok (⟨enF 0 ds, lk⟩, x.2)
    | none => .stuck
  | _ => .stuck
def ziF (ds es : List D) : List SV := List.zipWith (fun d e => SV.fr (.tup [d, e])) ds es
def iZi (m : AM) : IM := fun rho S => (m rho S).bind fun x => match x.1 with
  | [a, b] => match srcM x.2 a, srcM x.2 b with
    | some (ds, lk), some (es, lk') => .ok (⟨ziF ds es, fun S => lk S ∧ lk' S⟩, x.2)
    | _, _ => .stuck
  | _ => .stuck
section
variable {X : Cx} {W : XW X.K} {a b : Expr} {pos p tpos : Pos} {elts : List Expr} {kk : Nat} {m : AM}
end
end DL

namespace DL
open PySem PySem.Spec PyProof.Rows L2

section
variable {P : Program} {w : World} {A : Around} {E : Value → Shared → Prop} {s : Shared}
abbrev bare (w : World) : Obj := { cls := .type "set", dict := none, data := .set #[] 0 (.fresh 0 0 (!w.params.followText "set-order")) }
end
end DL

namespace DL
open PySem PySem.Spec PyProof.Rows L2

def insU (k : Int) : List Int → List Int
  | [] => [k]
  | x :: xs => if k < x then k :: x :: xs else if k = x then x :: xs else x :: insU k xs
def asc (ns : List Int) : List Int := ns.foldr insU []
theorem nodup_le : ∀ {xs ys : List Int}, xs.Nodup → (∀ x ∈ xs, x ∈ ys) → xs.length ≤ ys.length
  | [], _, _, _ => Nat.zero_le _
  | x :: xs, ys, h, k => by
    obtain ⟨h1, h2⟩ := List.nodup_cons.mp h
    have hx := k x List.mem_cons_self
    have l := List.length_erase_of_mem hx
    have q := nodup_le (ys := ys.erase x) h2 fun y hy => by
      have ne : y ≠ x := fun e => by subst e; exact h1 hy
      exact (List.mem_erase_of_ne ne).mpr (k y (List.mem_cons_of_mem _ hy))
    have p := List.length_pos_of_mem hx
    simp only [List.length_cons]
    omega
def rSetL (X : Cx) : List V → Hp → VK → Prop := fun xs H Q => ∃ (l : Addr) (ns : List Int), xs = [V.ref l] ∧ SqL X.K H l (ns.map V.int) ∧ ns.length < 4000 ∧
  ∀ (p : Addr) (n : Nat), n = (asc ns).length → H p = none → Q (.ref p) (upd H p (SetO X.w p (fun j => decide (j ∈ ns)) n))
theorem vals_ints : ∀ {us : List Value} {ns : List Int}, IntsAre us ns → Vals (ns.map V.int) us
  | _, _, .nil => .nil
  | _, _, .cons _ t r => .cons ⟨t, rfl⟩ (vals_ints r)
section
variable {X : Cx} {W : XW X.K} {a : Expr} {m : EM} {p p2 q pos : Pos}
def sortSetG (c : Bool) (x : SV) (S : Store) : Res (SV × Store) := match (rdS S x).bind intsOf with
  | some ns => if ns.length < 4000 ∧ (asc ns).length < 4000 then newL0 c ((asc ns).map fun i => SV.fr (.int i)) S else .stuck
  | none => .stuck
def eSortSet (c : Bool) (m : EM) : EM := fun rho S => (m rho S).bind fun x => sortSetG c x.1 x.2
end
theorem pd_cint {X : Cx} {W : XW X.K} {pos : Pos} {x : Str} {i : Int} (hm : ∃ t, X.mg x = some (.int i t)) (hg : Gl X x := by rfl) (hdb : (x == ("__debug__" : Str)) = false := by decide) : PD X W (.Name x pos) (eC (.int i)) := by
  obtain ⟨t, hm⟩ := hm
  exact pd_const (pe_glob hg hm (v := .int i) ⟨t, rfl⟩ hdb) fun _ => .int i
theorem cint_of {K : PySem.W.Frag} {mg : Str → Option Value} {h : Heap} {x : Str} {i : Int} (X : K.In h) (G : h.Ns mainGlobals mg) (c : fcInt x i K = true) : ∃ t, mg x = some (.int i t) := He.int_ok X G c
end DL

namespace DL
open PySem PySem.Spec PyProof.Rows L2

section
variable {X : Cx} {W : XW X.K} {pos : Pos}
def gUl (n : Nat) (m : GMs) : GM := fun x rho S => match rdS S x with
  | some xs => if xs.length = n then m xs rho S else .stuck
  | none => .stuck
def sPar3 (i j l : Nat) (m : AM) : SM := fun rho S => (m rho S).bind fun x => match x.1 with
  | [u, v, w] => .ok (.nx, ((rho.set i (some u)).set j (some v)).set l (some w), x.2)
  | _ => .stuck
end
end DL

namespace DL
open PySem PySem.Spec PyProof.Rows L2

section
variable {X : Cx} {W : XW X.K} {e : Expr} {es : List Expr} {m : AM} {t : TA} {pos p apos : Pos} {nm n : Str} {k : Nat} {f : FnM}
def eCmA (cc : Bool) (n : Str) (f : FnM) (m : AM) : EM := fun rho S => (m rho S).bind fun y => (noX (f (.fr (.cls n) :: y.1) y.2)).bind (back cc)
end
section
variable {X : Cx} {W : XW X.K} {a : Expr} {m : EM} {k : Nat} {p1 p2 p3 pos : Pos}
def revG (c : Bool) (x : SV) (S : Store) : Res (SV × Store) := match rdS S x with
  | some xs => newL0 c xs.reverse S
  | none => .stuck
def eRev (c : Bool) (m : EM) : EM := fun rho S => (m rho S).bind fun x => revG c x.1 x.2
end
end DL

namespace DL
open PySem PySem.Spec PyProof.Rows L2
def isBG (n : Bool) : G2 := fun a b S => match a, b with
  | .fr (.bl x), .fr (.bl y) => okV (.bl (if n then !decide (x = y) else decide (x = y))) S
  | _, _ => .stuck
section
variable {X : Cx} {W : XW X.K}
variable {a b : Expr} {ma mb : EM} {pos : Pos}
end
theorem r_isB (n x y : Bool) (S : Store) : isBG n (.fr (.bl x)) (.fr (.bl y)) S = .ok (.fr (.bl (if n then !decide (x = y) else decide (x = y))), S) := id rfl
end DL

namespace DL
open PySem PySem.Spec PyProof.Rows L2
section
variable {P : Program} {w : World} {K : PySem.W.Frag} {mg : Str → Option Value} {base : Heap}
end
def fillN (f : FnM) : FnM := fun as S => f (as ++ [.fr .non]) S
def k_cw1 (n : Nat) (f : FnM) (cc : Bool) (xs : List SV) (y : List SV × Store) : Res (SV × Store) := if xs.length = n ∧ y.1.length = 1 then (noX (f (xs ++ y.1) y.2)).bind (back cc) else .stuck
def k_cw (n : Nat) (f : FnM) (cc : Bool) (mk : AM) (rho : Slots) (x : List SV × Store) : Res (SV × Store) := (mk rho x.2).bind (k_cw1 n f cc x.1)
def eCallW (n : Nat) (f : FnM) (cc : Bool) (m mk : AM) : EM := fun rho S => (m rho S).bind (k_cw n f cc mk rho)
theorem r_cw (n : Nat) (f : FnM) (cc : Bool) (m mk : AM) (rho : Slots) (S : Store) : eCallW n f cc m mk rho S = (m rho S).bind (k_cw n f cc mk rho) := id rfl
theorem s_cw (n : Nat) (f : FnM) (cc : Bool) (mk : AM) (rho : Slots) (xs : List SV) (S : Store) : k_cw n f cc mk rho (xs, S) = (mk rho S).bind (k_cw1 n f cc xs) := id rfl
theorem s_cw1 {n : Nat} {xs : List SV} (h : xs.length = n) (f : FnM) (cc : Bool) (y : SV) (S : Store) : k_cw1 n f cc xs ([y], S) = (noX (f (xs ++ [y]) S)).bind (back cc) := if_pos ⟨h, rfl⟩
theorem r_fill (f : FnM) (as : List SV) (S : Store) : fillN f as S = f (as ++ [.fr .non]) S := id rfl
section
variable {X : Cx} {W : XW X.K} {x : Str} {p pos : Pos} {e : Expr} {es : List Expr} {m : AM}
end
section
variable {K : PySem.W.Frag} {x qual key : Str} {params : Arguments} {body : List Stmt} {scope : Scope} {f : Addr} {fd : FuncData} {ps : List Str}
end
end DL

namespace DL
open PySem PySem.Spec PyProof.Rows L2
section
variable {X : Cx} {W : XW X.K}
end
end DL

namespace DLN
open PySem PySem.W PySem.Calls PyProof.Rows
section
variable {prog : Program} {w : World} {A : Around} {E : Value → Shared → Prop} {s : Shared} {K : Frag} {x C L f : Addr} {h₀ : Heap} {m : Str → Option Value} {ox : Obj} {od : Option Obj} {name : Str} {b tb : Value}
theorem ifBound_B {M : Model} {id : String} {args : List Value} {Q : Option Value → Shared → Prop} (X : K.In s.heap) (I : InstAt s.heap x ox C od) (hs : findIn K (.ref C) name = some (some (.builtin id)))
    (hb : ∀ self, bindSpecial (.builtin id) self = pure (.builtin id, [self])) (h : wpAny M A (call (.builtin id) (.ref x :: args)) (fun v => Q (some v)) E s) : wpAny M A (callSpecialIfBound? (.ref x) name args) Q E s := by
  simp only [callSpecialIfBound?, bindSpecialIfBound?]
  refine wpAny_holding (wpAny_bind (wpAny_bind (wpAny_bind (I.type.here ((looks_findIn X hs).here ?_)))))
  refine wpAny_bind (wpAny_askSetting (wpAny_ite ?_))
  have fin : wpAny M A (call (.builtin id) ([.ref x] ++ args) >>= fun v => pure (some v)) Q E s := wpAny_bind (wpAny_mono h (fun v s' h' => wpAny_pure h') fun _ _ h' => h')
  split
  · exact wpAny_bind ((Looks.of_pure (hb _)).here (wpAny_pure (by exact fin)))
  · exact wpAny_tryCatch (wpAny_bind ((Looks.of_pure (hb _)).here (wpAny_pure (by exact fin))))
open Builtin in
theorem ne_obj {Q : Value → Shared → Prop} (hu : A.in1.units < cLine) (X : K.In s.heap) (I : InstAt s.heap x ox C od) (hm : mroIn K C (.type "object") = some true) (hr : findIn K (.ref C) "__eq__" = some (some (.ref f))) (hf : isFn K (.ref f) = true)
    (h : wpAny (model prog w) A.in1 (call (.ref f) [.ref x, b]) (fun v s' => ∃ r, v = .bool r ∧ Q (.bool (!r)) s') E s) : wpAny (model prog w) A (call (.builtin "object.__ne__") [.ref x, b]) Q E s := by
  refine wpAny_call (codeAny_call_builtin PySem.F.cmp_object.ne.plain PySem.F.cmpEntry_ne (check_slot (i := "object.__ne__") (owner := "object") (n := "__ne__") (by decide +kernel) (by decide +kernel) (I.type.andThen (looks_mroIn X hm)) (PySem.F.cmpArgs_ne _ _) ?_))
  unfold Builtin.«object.__ne__»
  refine wpAny_bind (m := slotArgs "__ne__" 1 _) (wpAny_pure ?_)
  refine wpAny_bind (m := cRoomFor _ _) (wpAny_cRoomFor hu ?_)
  refine wpAny_bind (m := callSpecialIfBound? (.ref x) (Str.ofString "__eq__") _) (ifBound_K X I hr hf (wpAny_mono h (fun r s' hq => ?_) fun _ _ y => y))
  obtain ⟨r, rfl, q⟩ := hq
  exact wpAny_bind (wpAny_pure (wpAny_pure q))
theorem ne_K {Q : Value → Shared → Prop} (hu : A.units < cLine) (hu1 : A.in1.units < cLine) (F : Fr h₀ L s.heap m) (X₀ : K.In h₀) (I : InstAt s.heap x ox C od) (hb : Looks (model prog w) s.heap (typeOf b) tb) (hn : notFirst K C tb = true)
    (hne : findIn K (.ref C) "__ne__" = some (some (.builtin "object.__ne__"))) (hm : mroIn K C (.type "object") = some true) (hs : findIn K (.ref C) "__eq__" = some (some (.ref f))) (hf : isFn K (.ref f) = true)
    (h : wpAny (model prog w) A.in1 (call (.ref f) [.ref x, b]) (fun v s' => ∃ r, v = .bool r ∧ Q (.bool (!r)) s') E s) : wpAny (model prog w) A (richCompare .NotEq (.ref x) b) Q E s := by
  have X := X₀.keeps F.keep
  have one : wpAny (model prog w) A (tryCompare (.ref x) "__ne__" b) (fun r s' => ∃ v, r = some v ∧ Q v s') E s := by
    unfold tryCompare
    refine wpAny_bind (ifBound_B X I hne PySem.F.cmp_object.ne.bind (ne_obj hu1 X I hm hs hf (wpAny_mono h (fun v s' hv => ?_) fun _ _ e => e)))
    obtain ⟨r, rfl, q⟩ := hv
    exact ⟨r, rfl, wpAny_pure ⟨_, rfl, q⟩⟩
  unfold richCompare
  simp only [oneThing_ref]
  refine wpAny_holding (wpAny_bind (wpAny_cRoomFor hu ?_))
  refine wpAny_bind (I.type.here (wpAny_bind (hb.here ?_)))
  split
  · rename_i q
    have e : subIn K tb (.ref C) = some false := by
      rcases Bool.or_eq_true_iff.mp hn with e | e
      · rw [beq_iff_eq.mp e] at q; simp at q
      · exact beq_iff_eq.mp e
    refine wpAny_bind ((looks_subIn X e).here ?_)
    simp only [Bool.false_eq_true, if_false]
    refine wpAny_bind (wpAny_mono one (fun r s' z => ?_) fun _ _ e => e)
    obtain ⟨v, rfl, hq⟩ := z
    exact wpAny_pure hq
  · refine wpAny_bind (wpAny_pure ?_)
    simp only [Bool.false_eq_true, if_false]
    refine wpAny_bind (wpAny_mono one (fun r s' z => ?_) fun _ _ e => e)
    obtain ⟨v, rfl, hq⟩ := z
    exact wpAny_pure hq
end
end DLN
namespace DL
open PySem PySem.Spec PyProof.Rows L2
structure EqsOk (K : PySem.W.Frag) (ns : List Str) : Prop where
  ne : ∀ n ∈ ns, PySem.W.findIn K (.ref (He.ga K n)) "__ne__" = some (some (.builtin "object.__ne__"))
  ob : ∀ n ∈ ns, PySem.W.mroIn K (He.ga K n) (.type "object") = some true
  ty : ∀ n ∈ ns, ∀ t ∈ six, PySem.W.notFirst K (He.ga K n) (.type t) = true
  ow : ∀ n ∈ ns, ∀ m ∈ ns, PySem.W.notFirst K (He.ga K n) (.ref (He.ga K m)) = true
  isi : ∀ n ∈ ns, IsiOk K n
theorem isis_nil {K : PySem.W.Frag} : ∀ n ∈ ([] : List Str), IsiOk K n := fun _ h => nomatch h
theorem isis_cons {K : PySem.W.Frag} {n : Str} {ns : List Str} (h : IsiOk K n) (t : ∀ m ∈ ns, IsiOk K m) : ∀ m ∈ n :: ns, IsiOk K m := fun m hm => (List.mem_cons.mp hm).elim (fun e => e ▸ h) (t m)
theorem eqs_of {K : PySem.W.Frag} {ns : List Str} (c : fcEqs ns K = true) (h : ∀ n ∈ ns, IsiOk K n) : EqsOk K ns := by
  unfold fcEqs at c
  simp only [Bool.and_eq_true] at c
  obtain ⟨h1, h2, h3, h4⟩ := c
  exact ⟨fun n hn => He.eqO_ok (List.all_eq_true.mp h1 n hn), fun n hn => of_decide_eq_true (List.all_eq_true.mp h2 n hn), fun n hn t ht => List.all_eq_true.mp (List.all_eq_true.mp h3 n hn) t ht, fun n hn m hm => List.all_eq_true.mp (List.all_eq_true.mp h4 n hn) m hm, h⟩
section
variable {X : Cx} {W : XW X.K} {pins : List (Addr × Obj)} {s : Shared} {σ : L2.St} {H : Hp} {k : Nat} {tbl : Tbl} {ns : List Str} {a b : Expr} {ma mb : EM} {pos : Pos}
def rOwnA (K : PySem.W.Frag) (tbl : Tbl) (ns : List Str) (neg : Bool) : R2 := fun x y H Q => ∃ a n dx vs f T, x = .ref a ∧ n ∈ ns ∧ H a = some (.ins (He.ga K n) dx vs) ∧ tbl.lookup n = some f ∧ TyX K H y T ∧ PySem.W.notFirst K (He.ga K n) T = true ∧ spD K f [.ref a, y] H (fun v H' => ∃ r, v = .bl r ∧ Q (.bl (if neg then !r else r)) H') E0
theorem op_eqA (T : OpsD X.prog X.w X.K X.mg X.base k "__eq__" tbl) (hr : Room k X.A) (hgd : X.A.guards = some []) : OpR X (compareOp .Eq) (rOwnA X.K tbl ns false) := by
  intro pins s σ H x y v u Q I rx ry h
  obtain ⟨a, n, dx, vs, f, tb, rfl, hn, ha, hf, ty, nf, q⟩ := h
  obtain rfl : v = Value.ref a := rx
  obtain ⟨g, hfi, hsf, F⟩ := (T _ (tbl_mem hf)).ex
  obtain ⟨mA, J, _⟩ := ins_get I.hok ha
  obtain ⟨od, J, _⟩ := J.look
  obtain ⟨m, hF⟩ := I.fr
  obtain ⟨_, _, _, hfn, _⟩ := F.ex
  obtain ⟨P, Z, hP, _⟩ := kit_of I ry ty
  show wpAny (model X.prog X.w) X.A (richCompare .Eq (.ref a) u) (EP X pins σ Q) X.xe s
  refine PySem.W.cmp_K (op := .Eq) (tb := tb) (by have := hr.un; omega) hF I.ok.mod.kin J (Z.ty _ _ I.kIn hP) nf hfi hfn
    (wpAny_mono (runD (us := [.ref a, u]) (vs := [.ref a, y]) F I.env0 hr hgd I (.cons rfl (.cons ry .nil)) q) (fun v' s' hq => ?_) fun _ _ e => e)
  obtain ⟨x', H', I', rx', r, rfl, q'⟩ := hq
  obtain rfl : v' = Value.bool r := rx'
  exact ⟨.bl r, H', I', rfl, q'⟩
theorem op_neA (Z0 : EqsOk X.K ns) (T : OpsD X.prog X.w X.K X.mg X.base k "__eq__" tbl) (hr : Room (k + 1) X.A) (hgd : X.A.guards = some []) : OpR X (compareOp .NotEq) (rOwnA X.K tbl ns true) := by
  intro pins s σ H x y v u Q I rx ry h
  obtain ⟨a, n, dx, vs, f, tb, rfl, hn, ha, hf, ty, nf, q⟩ := h
  obtain rfl : v = Value.ref a := rx
  obtain ⟨g, hfi, hsf, F⟩ := (T _ (tbl_mem hf)).ex
  obtain ⟨mA, J, _⟩ := ins_get I.hok ha
  obtain ⟨od, J, _⟩ := J.look
  obtain ⟨m, hF⟩ := I.fr
  obtain ⟨_, _, _, hfn, _⟩ := F.ex
  obtain ⟨P, Z, hP, _⟩ := kit_of I ry ty
  show wpAny (model X.prog X.w) X.A (richCompare .NotEq (.ref a) u) (EP X pins σ Q) X.xe s
  refine DLN.ne_K (tb := tb) (by have := hr.un; omega) (by have := hr.un; show X.A.units + 1 < _; omega) hF I.ok.mod.kin J (Z.ty _ _ I.kIn hP) nf (Z0.ne n hn) (Z0.ob n hn) hfi hfn
    (wpAny_mono (runD (us := [.ref a, u]) (vs := [.ref a, y]) F I.env0.in1 hr.in1 hgd I (.cons rfl (.cons ry .nil)) q) (fun v' s' hq => ?_) fun _ _ e => e)
  obtain ⟨x', H', I', rx', r, rfl, q'⟩ := hq
  obtain rfl : v' = Value.bool r := rx'
  exact ⟨r, rfl, .bl (!r), H', I', rfl, q'⟩
def ownAG (tbl : Tbl) (ns : List Str) (neg : Bool) : G2 := fun a b S => match insOf S a with
  | some (n, _) => if n ∈ ns then (match tbl.lookup n with
    | some f => (match insOf S b with
      | some (m, _) => if m ∈ ns then (noX (f [a, b] S)).bind (blEnd neg) else .stuck
      | none => match tyN S b with
        | some t => if t ∈ six then (noX (f [a, b] S)).bind (blEnd neg) else .stuck
        | none => .stuck)
    | none => .stuck) else .stuck
  | none => .stuck
theorem ownA_ok (Z0 : EqsOk X.K ns) (neg : Bool) : Op2 X W (rOwnA X.K tbl ns neg) (ownAG tbl ns neg) := by
  intro ph S H x y a b Q g da db h
  unfold ownAG at h
  split at h
  · rename_i n fs h1
    obtain ⟨p, dx, vs, rfl, e1, _⟩ := insOf_ok g da h1
    split at h
    · rename_i hn
      split at h
      · rename_i f hf
        have fin : ∀ {T : Value}, TyX X.K H y T → PySem.W.notFirst X.K (He.ga X.K n) T = true → holds ((noX (f [a, b] S)).bind (blEnd neg)) (post X.K ph H Q) (W.rel ph H) → rOwnA X.K tbl ns neg (.ref p) y H Q := fun {T} ty nf h =>
          ⟨p, n, dx, vs, f, T, rfl, hn, e1, hf, ty, nf, ph, S, [a, b], g, .cons da (.cons db .nil), noX_ok (holds_imp (holds_bind h) (fun r hr => blEnd_ok hr) fun _ _ _ q => q)⟩
        split at h
        · rename_i m fs' h2
          obtain ⟨q, dy, us, rfl, e2, _⟩ := insOf_ok g db h2
          split at h
          · rename_i hm
            have z := Z0.isi m hm
            exact fin (.base (.ins e2 z.cls z.ha z.hn z.htk z.hm)) (Z0.ow n hn m hm) h
          · exact h.elim
        · split at h
          · rename_i t ht
            split at h
            · rename_i hm
              exact fin (tyN_ok g db ht) (Z0.ty n hn t hm) h
            · exact h.elim
          · exact h.elim
      · exact h.elim
    · exact h.elim
  · exact h.elim
theorem pd_eqA (Z : EqsOk X.K ns) (T : OpsD X.prog X.w X.K X.mg X.base k "__eq__" tbl) (hr : Room k X.A) (hgd : X.A.guards = some []) (hu : X.A.units + 64 < cLine) (ha : PD X W a ma) (hb : PD X W b mb) : PD X W (.Compare a [.Eq] [b] pos) (e2 (orG (eqG false) (ownAG tbl ns false)) ma mb) :=
  pd_cmp (((op_eqD hu).or op_eq).or (op_eqA T hr hgd)) (or_ok eq_ok (ownA_ok Z false)) ha hb
theorem pt_eqA (Z : EqsOk X.K ns) (T : OpsD X.prog X.w X.K X.mg X.base k "__eq__" tbl) (hr : Room k X.A) (hgd : X.A.guards = some []) (hu : X.A.units + 64 < cLine) (ha : PD X W a ma) (hb : PD X W b mb) : PDT X W (.Compare a [.Eq] [b] pos) (tB (e2 (orG (eqG false) (ownAG tbl ns false)) ma mb)) :=
  pt_2 (((op_eqD hu).or op_eq).or (op_eqA T hr hgd)) (or_ok eq_ok (ownA_ok Z false)) ha hb
theorem pd_neA (Z : EqsOk X.K ns) (T : OpsD X.prog X.w X.K X.mg X.base k "__eq__" tbl) (hr : Room (k + 1) X.A) (hgd : X.A.guards = some []) (hu : X.A.units + 64 < cLine) (ha : PD X W a ma) (hb : PD X W b mb) : PD X W (.Compare a [.NotEq] [b] pos) (e2 (orG (eqG true) (ownAG tbl ns true)) ma mb) :=
  pd_cmp (((op_neD hu).or op_ne).or (op_neA Z T hr hgd)) (or_ok ne_ok (ownA_ok Z true)) ha hb
theorem pt_neA (Z : EqsOk X.K ns) (T : OpsD X.prog X.w X.K X.mg X.base k "__eq__" tbl) (hr : Room (k + 1) X.A) (hgd : X.A.guards = some []) (hu : X.A.units + 64 < cLine) (ha : PD X W a ma) (hb : PD X W b mb) : PDT X W (.Compare a [.NotEq] [b] pos) (tB (e2 (orG (eqG true) (ownAG tbl ns true)) ma mb)) :=
  pt_2 (((op_neD hu).or op_ne).or (op_neA Z T hr hgd)) (or_ok ne_ok (ownA_ok Z true)) ha hb
end
structure IsxOk (K : PySem.W.Frag) (n : Str) (ms : List Str) : Prop where
  is : IsiOk K n
  xs : ∀ m ∈ ms, IsiOk K m ∧ PySem.W.kitOne K (.ref (He.ga K m)) (.ref (He.ga K n)) = some false
theorem isx_nil {K : PySem.W.Frag} {n : Str} (h : IsiOk K n) : IsxOk K n [] := ⟨h, fun _ h => nomatch h⟩
def isiXG (n : Str) (ms : List Str) : GA := fun as S => match as with
  | [x, .fr (.cls c)] => if c = n then (match insOf S x with
    | some (m, _) => if m = n then okV (.bl true) S else if m ∈ ms then okV (.bl false) S else .stuck
    | none => match tyN S x with
      | some t => if t ∈ six then okV (.bl false) S else .stuck
      | none => .stuck) else .stuck
  | _ => .stuck
theorem isiX_ok {X : Cx} {W : XW X.K} {n : Str} {ms : List Str} (T : IsxOk X.K n ms) : OpA X W (rIsi X.K) (isiXG n ms) := by
  intro ph S H xs as Q g d h
  unfold isiXG at h
  split at h
  · rename_i x c
    obtain ⟨v, u, rfl, dv, du⟩ := two_of d
    split at h
    · rename_i hc
      subst hc
      obtain rfl := d_cls (show Den X.K (hide ph H) u (.cls c) from du)
      split at h
      · rename_i m fs hi
        obtain ⟨a, dx, vs, rfl, e1, _⟩ := insOf_ok g dv hi
        split at h
        · rename_i hm
          subst hm
          exact ⟨.ref a, .ref _, .ref _, .ref _, true, rfl, .own _, .base (.ins e1 T.is.cls T.is.ha T.is.hn T.is.htk T.is.hm), T.is.same, fin_v g (.bl _) h⟩
        · split at h
          · rename_i hm
            obtain ⟨z, q⟩ := T.xs m hm
            exact ⟨.ref a, .ref _, .ref _, .ref _, false, rfl, .own _, .base (.ins e1 z.cls z.ha z.hn z.htk z.hm), q, fin_v g (.bl _) h⟩
          · exact h.elim
      · split at h
        · rename_i t ht
          split at h
          · rename_i hm
            exact ⟨v, .ref _, .type t, .ref _, false, rfl, .own _, tyN_ok g dv ht, T.is.oth t hm, fin_v g (.bl _) h⟩
          · exact h.elim
        · exact h.elim
    · exact h.elim
  · exact h.elim
end DL

namespace DL
open PySem PySem.Spec PyProof.Rows L2
section
variable {K : PySem.W.Frag} {ph : List Addr} {H : Hp} {S : Store} {n : Nat}
end
section
variable {X : Cx} {W : XW X.K}
end
end DL

namespace DL
open PySem PySem.Spec PyProof.Rows L2
section
variable {X : Cx} {W : XW X.K} {a b : Expr} {ma mb : EM} {pos p p2 pos2 : Pos}
end
end DL

namespace DL
open PySem PySem.Spec PyProof.Rows L2

section
variable {κ : Type} [DecidableEq κ] {α : Type}
def lookK (kvs : List (κ × α)) (k : κ) : Option α := (kvs.find? fun kv => decide (kv.1 = k)).map (·.2)
def setK (kvs : List (κ × α)) (k : κ) (v : α) : List (κ × α) :=
  if (kvs.any fun kv => decide (kv.1 = k)) = true then kvs.map (fun kv => if kv.1 = k then (kv.1, v) else kv) else kvs ++ [(k, v)]
theorem anyK_ok {K : PySem.W.Frag} {ph : List Addr} {H : Hp} (k : κ) : ∀ {vs : List (κ × V)} {xs : List (κ × SV)}, DenSK K ph H vs xs → (vs.any fun kv => decide (kv.1 = k)) = (xs.any fun kv => decide (kv.1 = k))
  | _, _, .nil => rfl
  | _, _, .cons h t => by simp only [List.any_cons]; rw [h.1, anyK_ok k t]
theorem repl_ok {K : PySem.W.Frag} {ph : List Addr} {H : Hp} (k : κ) {v : V} {x : SV} (d : DenS K ph H v x) : ∀ {vs : List (κ × V)} {xs : List (κ × SV)}, DenSK K ph H vs xs →
    DenSK K ph H (vs.map fun kv => if kv.1 = k then (kv.1, v) else kv) (xs.map fun kv => if kv.1 = k then (kv.1, x) else kv)
  | _, _, .nil => .nil
  | _, _, .cons (a := p) (b := q) h t => by
    simp only [List.map_cons]
    refine .cons ?_ (repl_ok k d t)
    have e := h.1
    by_cases c : p.1 = k
    · rw [if_pos c, if_pos (e ▸ c)]
      exact ⟨e, d⟩
    · rw [if_neg c, if_neg (e ▸ c)]
      exact h
theorem setK_ok {K : PySem.W.Frag} {ph : List Addr} {H : Hp} (k : κ) {v : V} {x : SV} (d : DenS K ph H v x) {vs : List (κ × V)} {xs : List (κ × SV)} (h : DenSK K ph H vs xs) : DenSK K ph H (putK vs k v) (setK xs k x) := by
  unfold putK setK
  rw [anyK_ok k h]
  split
  · exact repl_ok k d h
  · exact Paired.snoc h ⟨rfl, d⟩
end
def keyOf : D → Option Key
  | .int i => some (.inl i)
  | .str x => some (.inr x)
  | _ => none
theorem keyOf_ok {K : PySem.W.Frag} {F : Hp} {v : V} {d : D} {k : Key} (h : Den K F v d) (e : keyOf d = some k) : v = kV k := by
  cases h <;> simp [keyOf] at e <;> subst e <;> rfl
section
variable {X : Cx} {W : XW X.K} {a b c : Expr} {ma mb mc : EM} {pos : Pos}
def eDN (m : Bool) : EM := fun _ S => if m then .ok (.cell S.length, S ++ [.dic []]) else .ok (.fr (.dct []), S)
theorem pd_dn (m : Bool) : PD X W (.Dict [] [] pos) (eDN m) := by
  refine ⟨_, pe_dnewK, fun ph S H sg rho Q g so h p hp => ?_⟩
  unfold eDN at h
  cases m with
  | true =>
    have e : Ext ph H (ph ++ [p]) (upd H p (.dK [])) := Ext.cell hp
    exact h (ph ++ [p]) (.ref p) _ e (g.cell hp ⟨[], upd_same, .nil⟩) ⟨p, by rw [← g.len]; simp, rfl⟩
  | false =>
    have e : Ext ph H ph (upd H p (.dK [])) := Ext.fresh hp
    exact h ph (.ref p) _ e (g.fresh hp) (.dct (vs := []) (hide_of (g.new hp) upd_same) .nil)
abbrev DM := Slots → Store → Res (List (Key × SV) × Store)
def postD (K : PySem.W.Frag) (ph : List Addr) (H : Hp) (Q : List (V × V) → Hp → Prop) : List (Key × SV) × Store → Prop := fun r =>
  ∀ ph' vs H', Ext ph H ph' H' → Good K ph' H' r.2 → DenSK K ph' H' vs r.1 → Q (vs.map fun kv => (kV kv.1, kv.2)) H'
structure PDP (X : Cx) (W : XW X.K) (pos : Pos) (ks : List (Option Expr)) (es : List Expr) (m : DM) : Prop where
  ex : ∃ t, PPs X pos ks es t ∧ ∀ (ph : List Addr) (S : Store) (H : Hp) (sg : L2.St) (rho : Slots) (Q : List (V × V) → Hp → Prop), Good X.K ph H S → SlotsOk X.K ph H sg rho →
    holds (m rho S) (postD X.K ph H Q) (W.rel ph H) → tPairs t sg H Q
def dN : DM := fun _ S => .ok ([], S)
def dC (mk mv : EM) (r : DM) : DM := fun rho S => (mk rho S).bind fun x => (mv rho x.2).bind fun y => (r rho y.2).bind fun z => match x.1 with
  | .fr d => match keyOf d with
    | some k => .ok ((k, y.1) :: z.1, z.2)
    | none => .stuck
  | _ => .stuck
theorem pdp_n : PDP X W pos [] [] dN := ⟨[], pps_nil, fun ph S H sg rho Q g so h => h ph [] H (Ext.refl _ _) g .nil⟩
theorem pdp_c {ks : List (Option Expr)} {es : List Expr} {mr : DM} (ha : PD X W a ma) (hb : PD X W b mb) (hr : PDP X W pos ks es mr) : PDP X W pos (some a :: ks) (b :: es) (dC ma mb mr) := by
  obtain ⟨ta, pa, sa⟩ := ha.ex
  obtain ⟨tb, pb, sb⟩ := hb.ex
  obtain ⟨tr, pr, sr⟩ := hr.ex
  refine ⟨_, pps_cons pa pb pr, fun ph S H sg rho Q gd so h => ?_⟩
  show ta sg H fun x H1 => tb sg H1 fun y H2 => tPairs tr sg H2 fun ps H3 => Q ((x, y) :: ps) H3
  refine sa ph S H sg rho _ gd so (holds_imp (holds_bind h) (fun x hx => ?_) fun _ _ _ q => q)
  intro ph1 v1 H1 x1 g1 d1
  refine sb ph1 x.2 H1 sg rho _ g1 (so.mono x1) (holds_imp (holds_bind hx) (fun y hy => ?_) fun e r s q => W.mono _ _ _ _ e r s x1 q)
  intro ph2 v2 H2 x2 g2 d2
  refine sr ph2 y.2 H2 sg rho _ g2 ((so.mono x1).mono x2) (holds_imp (holds_bind hy) (fun z hz => ?_) fun e r s q => W.mono _ _ _ _ e r s (x1.trans x2) q)
  intro ph3 vs H3 x3 g3 d3
  obtain ⟨xv, S1⟩ := x
  dsimp only at *
  split at hz
  · split at hz
    · rename_i k hk
      have e : v1 = kV k := keyOf_ok d1 hk
      subst e
      exact hz ph3 ((k, v2) :: vs) H3 (x1.trans (x2.trans x3)) g3 (.cons ⟨rfl, d2.mono x3⟩ d3)
    · exact hz.elim
  · exact hz.elim
def mergeS (kvs more : List (Key × SV)) : List (Key × SV) := more.foldl (fun acc kv => setK acc kv.1 kv.2) kvs
theorem mergeS_ok {K : PySem.W.Frag} {ph : List Addr} {H : Hp} : ∀ {more : List (Key × V)} {xs : List (Key × SV)} {vs : List (Key × V)} {kvs : List (Key × SV)}, DenSK K ph H more xs → DenSK K ph H vs kvs → DenSK K ph H (mergeK vs more) (mergeS kvs xs)
  | _, _, _, _, .nil, r => r
  | _, _, vs, kvs, .cons (a := p) (b := q) h t, r => by
    show DenSK K ph H (mergeK (putK vs p.1 p.2) _) (mergeS (setK kvs q.1 q.2) _)
    rw [h.1]
    exact mergeS_ok t (setK_ok q.1 h.2 r)
def eDs (m : DM) : EM := fun rho S => (m rho (S ++ [.dic []])).bind fun r => if r.1.length ≤ 15 then (match r.2[S.length]? with
  | some (.dic []) => .ok (.cell S.length, r.2.set S.length (.dic (mergeS [] r.1)))
  | _ => .stuck) else .stuck
theorem pd_ds {ks : List (Option Expr)} {es : List Expr} {m : DM} (h : PDP X W pos ks es m) (hall : ks.all (·.isSome) = true := by rfl) (hl : ks.length = es.length := by rfl) (h0 : ks ≠ [] := by exact List.cons_ne_nil _ _)
    (h15 : ks.length ≤ 15 := by decide) : PD X W (.Dict ks es pos) (eDs m) := by
  obtain ⟨t, p, s⟩ := h.ex
  refine ⟨_, pe_disp p hall hl h0 h15, fun ph S H sg rho Q g so hh q hq => ?_⟩
  have e0 : Ext ph H (ph ++ [q]) (upd H q (.dK [])) := Ext.cell hq
  have g0 : Good X.K (ph ++ [q]) (upd H q (.dK [])) (S ++ [.dic []]) := g.cell hq ⟨[], upd_same, .nil⟩
  refine s (ph ++ [q]) _ _ sg rho _ g0 (so.mono e0) (holds_imp (holds_bind hh) (fun r hr => ?_) fun e r s w => W.mono _ _ _ _ e r s e0 w)
  intro ph1 vs H1 x1 g1 d1
  obtain ⟨kvs, S1⟩ := r
  dsimp only at *
  split at hr
  · rename_i h15'
    split at hr
    · rename_i hk
      have hq1 : ph1[S.length]? = some q := by
        obtain ⟨ps, rfl, _⟩ := x1.pre
        rw [← g.len]; simp
      obtain ⟨q', h3, us, h4, h5⟩ := g1.at hk
      rw [hq1] at h3; cases h3
      cases h5
      have hm : q ∈ ph1 := List.mem_of_getElem? hq1
      have ew : Ext ph1 H1 ph1 (upd H1 q (.dK (mergeK [] vs))) := Ext.write hm (nofrz h4 fun _ _ z => nomatch z)
      refine ⟨h4, vs, rfl, by rw [d1.length]; exact h15', ?_⟩
      refine hr ph1 (.ref q) _ (e0.trans (x1.trans ew)) (g1.write hq1 ⟨_, upd_same, ?_⟩) ⟨q, hq1, rfl⟩
      exact mergeS_ok (DenSK.mono ew d1) .nil
    · exact hr.elim
  · exact hr.elim
end
end DL

namespace DL
open PySem PySem.Spec PyProof.Rows L2

def pyKy : Key → PyData
  | .inl i => .int i
  | .inr x => .str x
mutual
def pyX : D → PyData
  | .non => .none
  | .bl b => .bool b
  | .int i => .int i
  | .str x => .str x
  | .tup ds => .tuple (pyXs ds)
  | .lst ds => .list (pyXs ds)
  | .scr ds => .list (pyXs ds)
  | .ty _ => .none
  | .ref _ => .none
  | .ins _ _ => .none
  | .cls _ => .none
  | .exn _ _ _ _ => .none
  | .dct kvs => .dict (pyXk kvs)
def pyXs : List D → List PyData
  | [] => []
  | d :: ds => pyX d :: pyXs ds
def pyXk : List (Key × D) → List (PyData × PyData)
  | [] => []
  | (k, d) :: r => (pyKy k, pyX d) :: pyXk r
end
mutual
def isX : D → Bool
  | .non | .bl _ | .int _ | .str _ => true
  | .tup ds => isXs ds
  | .lst ds => isXs ds
  | .scr ds => isXs ds
  | .dct kvs => isXk kvs
  | .ty _ | .ref _ | .ins _ _ | .cls _ | .exn _ _ _ _ => false
def isXs : List D → Bool
  | [] => true
  | d :: ds => isX d && isXs ds
def isXk : List (Key × D) → Bool
  | [] => true
  | (_, d) :: r => isX d && isXk r
end
mutual
inductive RD (h : Heap) : Value → PyData → Prop
  | none : RD h .none .none
  | bool (b) : RD h (.bool b) (.bool b)
  | int (i t) : RD h (.int i t) (.int i)
  | str (x t) : RD h (.str x t) (.str x)
  | list {a o vs n xs} : h.get? a = some o → o.cls = .type "list" → o.data = .seq vs n → RDs h vs.toList xs → RD h (.ref a) (.list xs)
  | tuple {a o vs n xs} : h.get? a = some o → o.cls = .type "tuple" → o.data = .seq vs n → RDs h vs.toList xs → RD h (.ref a) (.tuple xs)
  | dict {a o es n kvs} : h.get? a = some o → o.cls = .type "dict" → o.data = .dict es n → (a == sysModules) = false → RDs h (es.toList.map (·.key)) (kvs.map (·.1)) → RDs h (es.toList.map (·.val)) (kvs.map (·.2)) → RD h (.ref a) (.dict kvs)
inductive RDs (h : Heap) : List Value → List PyData → Prop
  | nil : RDs h [] []
  | cons {v vs d ds} : RD h v d → RDs h vs ds → RDs h (v :: vs) (d :: ds)
end
section
variable {h : Heap}
mutual
theorem RD.reads : ∀ {v : Value} {d : PyData}, RD h v d → ∃ as, Reads h v d as
  | _, _, .none => ⟨_, .none⟩
  | _, _, .bool b => ⟨_, .bool b⟩
  | _, _, .int i t => ⟨_, .int i t⟩
  | _, _, .str x t => ⟨_, .str x t⟩
  | _, _, .list h1 h2 h3 h4 => let ⟨_, r⟩ := h4.reads; ⟨_, .list h1 h2 h3 r⟩
  | _, _, .tuple h1 h2 h3 h4 => let ⟨_, r⟩ := h4.reads; ⟨_, .tuple h1 h2 h3 r⟩
  | _, _, .dict h1 h2 h3 _ h5 h6 => let ⟨_, r1⟩ := h5.reads; let ⟨_, r2⟩ := h6.reads; ⟨_, .dict h1 h2 h3 r1 r2⟩
theorem RDs.reads : ∀ {v : List Value} {d : List PyData}, RDs h v d → ∃ as, ReadsAll h v d as
  | _, _, .nil => ⟨_, .nil⟩
  | _, _, .cons a r => let ⟨_, x⟩ := a.reads; let ⟨_, y⟩ := r.reads; ⟨_, .cons x y⟩
end
end
section
variable {X : Cx} {pins : List (Addr × Obj)} {σ : L2.St} {H : Hp} {s : Shared}
mutual
theorem rd_x (I : Inv X pins σ H s) : ∀ {d : D} {v : V} {u : Value}, isX d = true → Den X.K H v d → RelV v u → RD s.heap u (pyX d)
  | .non, _, _, _, .non, r => by cases r; simp only [pyX]; exact .none
  | .bl b, _, _, _, .bl _, r => by cases r; simp only [pyX]; exact .bool b
  | .int i, _, _, _, .int _, r => by obtain ⟨t, rfl⟩ := r; simp only [pyX]; exact .int i t
  | .str x, _, _, _, .str _, r => by obtain ⟨t, rfl⟩ := r; simp only [pyX]; exact .str x t
  | .tup ds, _, _, hx, .tup hs q, r => by
    cases r
    obtain ⟨its, rv, ⟨o, ho, hc, n, hd⟩, _⟩ := I.tuple (.inl (.inl hs))
    simp only [pyX]
    exact .tuple ho hc hd (rds_x I (by simpa only [isX] using hx) q rv)
  | .lst ds, _, _, hx, .lst hs q, r => by
    cases r
    obtain ⟨its, rv, ⟨o, n, ho, hc, _, hd⟩, _⟩ := I.list (SqL.of hs)
    simp only [pyX]
    exact .list ho hc hd (rds_x I (by simpa only [isX] using hx) q rv)
  | .scr ds, _, _, hx, .scr hs q, r => by
    cases r
    obtain ⟨its, rv, ⟨o, n, ho, hc, _, hd⟩, _⟩ := I.list hs
    simp only [pyX]
    exact .list ho hc hd (rds_x I (by simpa only [isX] using hx) q rv)
  | .dct kvs, _, _, hx, .dct e q, r => by
    cases r
    obtain ⟨_, hd, vs, r0, o, es, ep, h1, h2, h3, _, h5, _⟩ := dk_of I.hok e
    obtain ⟨p1, p2⟩ := rdk_x I (by simpa only [isX] using hx) q r0 h5
    simp only [pyX]
    exact .dict h1 h2.1 h3 hd p1 p2
  | .ty _, _, _, hx, _, _ => by simp [isX] at hx
  | .ref _, _, _, hx, _, _ => by simp [isX] at hx
  | .ins _ _, _, _, hx, _, _ => by simp [isX] at hx
  | .cls _, _, _, hx, _, _ => by simp [isX] at hx
  | .exn _ _ _ _, _, _, hx, _, _ => by simp [isX] at hx
theorem rds_x (I : Inv X pins σ H s) : ∀ {ds : List D} {vs : List V} {us : List Value}, isXs ds = true → Dens X.K H vs ds → Vals vs us → RDs s.heap us (pyXs ds)
  | [], _, _, _, .nil, r => by cases r; simp only [pyXs]; exact .nil
  | d :: ds, _, _, hx, .cons a q, r => by
    cases r with
    | cons r1 r2 =>
      simp only [isXs, Bool.and_eq_true] at hx
      simp only [pyXs]
      exact .cons (rd_x I hx.1 a r1) (rds_x I hx.2 q r2)
theorem rdk_x (I : Inv X pins σ H s) : ∀ {kvs : List (Key × D)} {vs : List (Key × V)} {us : List (Key × Value)} {es : List DictEntry}, isXk kvs = true → DenK X.K H vs kvs → KV vs us → Pairs (mixKind X.prog X.w) es us →
    RDs s.heap (es.map (·.key)) ((pyXk kvs).map (·.1)) ∧ RDs s.heap (es.map (·.val)) ((pyXk kvs).map (·.2))
  | [], _, _, _, _, .nil, r, p => by
    cases r
    cases p
    simp only [pyXk]
    exact ⟨.nil, .nil⟩
  | (k, d) :: kvs, _, _, _, hx, .cons a q, r, p => by
    cases r with
    | cons r1 r2 =>
      cases p with
      | cons p1 p2 p3 =>
        simp only [isXk, Bool.and_eq_true] at hx
        obtain ⟨t1, t2⟩ := rdk_x I hx.2 q r2 p3
        simp only [pyXk, List.map_cons]
        refine ⟨.cons ?_ t1, .cons (by rw [p2]; exact rd_x I hx.1 a r1.2) t2⟩
        have ek := r1.1
        simp only at ek
        rw [← ek] at p1
        rcases keyIs_shape p1 with ⟨i, t, e1, e2⟩ | ⟨x, t, e1, e2⟩
        · rw [e1, e2]; exact .int i t
        · rw [e1, e2]; exact .str x t
end
end
section
variable {prog : Program} {w : World} {h₀ : Heap}
mutual
theorem rk_x : ∀ {v : Value} {d : PyData}, RD h₀ v d → d.showable = true → d.shown.length ≤ sizeLine → ∃ bs, ReadAtMost h₀ d.depth bs ∧ ReprK prog w bs h₀ d.depth v d.shown
  | _, _, .none, _, _ => ⟨[], (fun _ h => nomatch h), by simp only [PyData.shown]; exact .of_is ReprIs.none _ _ _⟩
  | _, _, .bool b, _, _ => ⟨[], (fun _ h => nomatch h), by simp only [PyData.shown]; exact .of_is (ReprIs.bool b) _ _ _⟩
  | _, _, .int i t, hs, _ => ⟨[], (fun _ h => nomatch h), by simp only [PyData.shown]; exact .of_is (ReprIs.int t (by simpa [PyData.showable] using hs)) _ _ _⟩
  | _, _, .str x t, _, hz => ⟨[], (fun _ h => nomatch h), by simp only [PyData.shown]; exact .of_is (ReprIs.str x t (by simpa only [PyData.shown] using hz)) _ _ _⟩
  | _, _, .list (a := a) (vs := vs) (xs := xs) h1 h2 h3 h4, hs, hz => by
    have hz' : (listText (PyData.shownAll xs)).length ≤ sizeLine := by simpa only [PyData.shown] using hz
    obtain ⟨bs, hb, hk⟩ := rks_x h4 (by simpa [PyData.showable] using hs) fun t ht => Nat.le_trans (listText_mem_le ht) hz'
    obtain ⟨as, r⟩ := RD.reads (.list h1 h2 h3 h4)
    have hna : a ∉ bs := not_mem_of_deeper r (by simp only [PyData.depth]; omega) hb
    refine ⟨a :: bs, ReadAtMost.cons r (by simp only [PyData.depth]; omega) hb, ?_⟩
    simp only [PyData.depth, PyData.shown]
    obtain ⟨l⟩ := vs
    cases l with
    | nil =>
      cases (show RDs h₀ [] xs from h4)
      simp only [PyData.shownAll, listText_nil]
      exact ReprK.listEmpty h1 h2 h3
    | cons x l => exact ReprK.list h1 h2 h3 hna (by simpa using hk.length_eq) fun i y e => hk.item i y (by simpa using e)
  | _, _, .tuple (a := a) (xs := xs) h1 h2 h3 h4, hs, hz => by
    have hz' : (tupleText (PyData.shownAll xs)).length ≤ sizeLine := by simpa only [PyData.shown] using hz
    obtain ⟨bs, hb, hk⟩ := rks_x h4 (by simpa [PyData.showable] using hs) fun t ht => Nat.le_trans (tupleText_mem_le ht) hz'
    obtain ⟨as, r⟩ := RD.reads (.tuple h1 h2 h3 h4)
    have hna : a ∉ bs := not_mem_of_deeper r (by simp only [PyData.depth]; omega) hb
    refine ⟨a :: bs, ReadAtMost.cons r (by simp only [PyData.depth]; omega) hb, ?_⟩
    simp only [PyData.depth, PyData.shown]
    exact ReprK.tuple h1 h2 h3 hna hk
  | _, _, .dict (a := a) (es := es) (kvs := kvs) h1 h2 h3 h4 h5 h6, hs, hz => by
    have hz' : (dictText (PyData.shownKv kvs)).length ≤ sizeLine := by simpa only [PyData.shown] using hz
    obtain ⟨hs1, hs2⟩ := PyData.showableKv_split kvs (by simpa [PyData.showable] using hs)
    obtain ⟨b1, hb1, k1⟩ := rks_x h5 hs1 (fun t ht => let ⟨p, hp, hl⟩ := PyData.shownKv_key_le kvs t ht; Nat.le_trans hl (Nat.le_trans (dictText_mem_le hp) hz'))
    obtain ⟨b2, hb2, k2⟩ := rks_x h6 hs2 (fun t ht => let ⟨p, hp, hl⟩ := PyData.shownKv_val_le kvs t ht; Nat.le_trans hl (Nat.le_trans (dictText_mem_le hp) hz'))
    have hb : ReadAtMost h₀ (PyData.depthKv kvs) (b1 ++ b2) := (hb1.mono (PyData.depthAll_keys_le kvs)).append (hb2.mono (PyData.depthAll_vals_le kvs))
    obtain ⟨as, r⟩ := RD.reads (.dict h1 h2 h3 h4 h5 h6)
    have hna : a ∉ b1 ++ b2 := not_mem_of_deeper r (by simp only [PyData.depth]; omega) hb
    refine ⟨a :: (b1 ++ b2), ReadAtMost.cons r (by simp only [PyData.depth]; omega) hb, ?_⟩
    simp only [PyData.depth, PyData.shown, PyData.shownKv_eq]
    exact ReprK.dict h1 h2 h3 h4 hna (ReprEntriesK.of_two es.toList _ _ (k1.more_le (fun b hb => List.mem_append_left _ hb) (PyData.depthAll_keys_le kvs)) (k2.more_le (fun b hb => List.mem_append_right _ hb) (PyData.depthAll_vals_le kvs)))
theorem rks_x : ∀ {vs : List Value} {ds : List PyData}, RDs h₀ vs ds → PyData.showableAll ds = true → (∀ t ∈ PyData.shownAll ds, t.length ≤ sizeLine) →
    ∃ bs, ReadAtMost h₀ (PyData.depthAll ds) bs ∧ ReprAllK prog w bs h₀ (PyData.depthAll ds) vs (PyData.shownAll ds)
  | _, _, .nil, _, _ => ⟨[], (fun _ h => nomatch h), by simp only [PyData.shownAll]; exact .nil⟩
  | _, _, .cons (d := d) (ds := ds) r rs, hs, hz => by
    have hs' : d.showable = true ∧ PyData.showableAll ds = true := by simpa [PyData.showableAll] using hs
    obtain ⟨b1, hb1, k1⟩ := rk_x r hs'.1 (hz _ (by simp [PyData.shownAll]))
    obtain ⟨b2, hb2, k2⟩ := rks_x rs hs'.2 fun t ht => hz t (by simp only [PyData.shownAll]; exact List.mem_cons_of_mem _ ht)
    refine ⟨b1 ++ b2, ?_, ?_⟩
    · simp only [PyData.depthAll]
      exact (hb1.mono (Nat.le_max_left _ _)).append (hb2.mono (Nat.le_max_right _ _))
    · simp only [PyData.depthAll, PyData.shownAll]
      exact .cons ((k1.more fun b hb => List.mem_append_left _ hb).level_le (Nat.le_max_left _ _)) (k2.more_le (fun b hb => List.mem_append_right _ hb) (Nat.le_max_right _ _))
end
theorem repr_x {A : Around} {E : Value → Shared → Prop} {s : Shared} {Q : Value → Shared → Prop} {a : Addr} {d : PyData} (r : RD s.heap (.ref a) d) (hs : d.showable = true) (hg : A.guards = some []) (hu : A.units + (d.depth + 1) < cLine)
    (hQ : ∀ h' u tk, (∀ b o, s.heap.get? b = some o → h'.get? b = some o) → Q (.str d.shown u) { s with heap := h', toks := tk }) (hsz : d.shown.length ≤ sizeLine) :
    wpAny (model prog w) A (call (.builtin "repr") [.ref a]) Q E s := by
  cases r with
  | list h1 h2 h3 h4 =>
    rename_i o vs n xs
    have hz' : (listText (PyData.shownAll xs)).length ≤ sizeLine := by simpa only [PyData.shown] using hsz
    obtain ⟨bs, hb, hk⟩ := rks_x (prog := prog) (w := w) h4 (by simpa [PyData.showable] using hs) fun t ht => Nat.le_trans (listText_mem_le ht) hz'
    obtain ⟨as, r⟩ := RD.reads (.list h1 h2 h3 h4)
    have hna : a ∉ bs := not_mem_of_deeper r (by simp only [PyData.depth]; omega) hb
    simp only [PyData.depth] at hu
    simp only [PyData.shown] at hQ
    refine call_repr_slot (T := "list") (idr := "list.__repr__") (by omega) ⟨o, h1, h2⟩ F.slot_list_repr.toG ?_
    have hu' : A.in1.units + (PyData.depthAll xs + 1) < cLine := by show A.units + 1 + _ < _; omega
    obtain ⟨l⟩ := vs
    cases l with
    | nil =>
      cases (show RDs s.heap [] xs from h4)
      simp only [PyData.shownAll, listText_nil] at hQ
      exact call_list_repr_empty ⟨o, h1, h2⟩ h1 h3 ⟨_, _, rfl, hQ s.heap _ _ fun _ _ e => e⟩
    | cons x l =>
      exact call_list_reprK h1 h2 h3 hna (by simpa using hk.length_eq) (fun i y e => hk.item i y (by simpa using e)) hg (fun b _ => Clear.nil b) hu' (fun _ _ e => e) (fun h' u tk q => ⟨_, _, rfl, hQ h' u tk q⟩) hz'
  | tuple h1 h2 h3 h4 =>
    rename_i o vs n xs
    have hz' : (tupleText (PyData.shownAll xs)).length ≤ sizeLine := by simpa only [PyData.shown] using hsz
    obtain ⟨bs, hb, hk⟩ := rks_x (prog := prog) (w := w) h4 (by simpa [PyData.showable] using hs) fun t ht => Nat.le_trans (tupleText_mem_le ht) hz'
    obtain ⟨as, r⟩ := RD.reads (.tuple h1 h2 h3 h4)
    have hna : a ∉ bs := not_mem_of_deeper r (by simp only [PyData.depth]; omega) hb
    simp only [PyData.depth] at hu
    simp only [PyData.shown] at hQ
    refine call_repr_slot (T := "tuple") (idr := "tuple.__repr__") (by omega) ⟨o, h1, h2⟩ F.slot_tuple_repr ?_
    have hu' : A.in1.units + (PyData.depthAll xs + 1) < cLine := by show A.units + 1 + _ < _; omega
    exact call_tuple_reprK h1 h2 h3 hna hk hg (fun b _ => Clear.nil b) hu' (fun _ _ e => e) (fun h' u tk q => ⟨_, _, rfl, hQ h' u tk q⟩) hz'
  | dict h1 h2 h3 h4 h5 h6 =>
    rename_i o es n kvs
    have hz' : (dictText (PyData.shownKv kvs)).length ≤ sizeLine := by simpa only [PyData.shown] using hsz
    obtain ⟨hs1, hs2⟩ := PyData.showableKv_split kvs (by simpa [PyData.showable] using hs)
    obtain ⟨b1, hb1, k1⟩ := rks_x (prog := prog) (w := w) h5 hs1 (fun t ht => let ⟨p, hp, hl⟩ := PyData.shownKv_key_le kvs t ht; Nat.le_trans hl (Nat.le_trans (dictText_mem_le hp) hz'))
    obtain ⟨b2, hb2, k2⟩ := rks_x (prog := prog) (w := w) h6 hs2 (fun t ht => let ⟨p, hp, hl⟩ := PyData.shownKv_val_le kvs t ht; Nat.le_trans hl (Nat.le_trans (dictText_mem_le hp) hz'))
    have hb : ReadAtMost s.heap (PyData.depthKv kvs) (b1 ++ b2) := (hb1.mono (PyData.depthAll_keys_le kvs)).append (hb2.mono (PyData.depthAll_vals_le kvs))
    obtain ⟨as, r⟩ := RD.reads (.dict h1 h2 h3 h4 h5 h6)
    have hna : a ∉ b1 ++ b2 := not_mem_of_deeper r (by simp only [PyData.depth]; omega) hb
    simp only [PyData.depth] at hu
    simp only [PyData.shown, PyData.shownKv_eq] at hQ
    refine call_repr_slot (T := "dict") (idr := "dict.__repr__") (by omega) ⟨o, h1, h2⟩ F.slot_dict_repr ?_
    have hu' : A.in1.units + (PyData.depthKv kvs + 1) < cLine := by show A.units + 1 + _ < _; omega
    exact call_dict_reprK h1 h2 h3 h4 hna (ReprEntriesK.of_two es.toList _ _ (k1.more_le (fun b hb => List.mem_append_left _ hb) (PyData.depthAll_keys_le kvs)) (k2.more_le (fun b hb => List.mem_append_right _ hb) (PyData.depthAll_vals_le kvs))) hg (fun b _ => Clear.nil b) hu' (fun _ _ e => e) (fun h' u tk q => ⟨_, _, rfl, hQ h' u tk q⟩) (by rw [← PyData.shownKv_eq]; exact hz')
end
def rOkX (d : D) : Bool := isX d && (pyX d).showable && (pyX d).leavesShort 130 && decide ((pyX d).bulk ≤ 100000) && decide ((pyX d).depth ≤ 64)
def rTxtX (d : D) : Str := (pyX d).shown
def reprXG : GA := fun as S => match as with
  | [a] => match snap S a with
    | some d => if rOkX d then okV (.str (rTxtX d)) S else .stuck
    | none => .stuck
  | _ => .stuck
section
variable {X : Cx} {W : XW X.K}
def rReprX (K : PySem.W.Frag) : List V → Hp → VK → Prop := fun xs H Q => ∃ x d, xs = [x] ∧ Den K H x d ∧ rOkX d = true ∧ Q (.str (rTxtX d)) H
theorem call_reprX (hg : X.A.guards = some []) (hu : X.A.units + 80 < cLine) : CallR X (.builtin "repr") (rReprX X.K) := by
  intro pins s sg H xs us Q I r h
  obtain ⟨x, d, rfl, hd, ho, q⟩ := h
  obtain ⟨u, rfl, rx⟩ := vals1 r
  unfold rOkX at ho
  simp only [Bool.and_eq_true, decide_eq_true_eq] at ho
  obtain ⟨⟨⟨⟨hx, h1⟩, h2⟩, h3⟩, h4⟩ := ho
  have rd := rd_x I hx hd rx
  have hlen : (pyX d).shown.length ≤ sizeLine := by
    have q := PyData.shown_le_bulk 130 (by decide) (pyX d) h2
    have e : sizeLine = 16777216 := sizeLine_eq
    omega
  unfold rTxtX at q
  generalize pyX d = z at *
  have go : ∀ a, u = .ref a → wpAny (model X.prog X.w) X.A (call (.builtin "repr") [u]) (EP X pins sg Q) X.xe s := by
    rintro a rfl
    refine repr_x rd h1 hg (by omega) (fun h' u tk hk => ?_) hlen
    exact ⟨.str z.shown, H, I.kept hk, ⟨_, rfl⟩, q⟩
  cases rd with
  | none => exact PySem.P.repr_of_none ⟨.str _, H, I.tok _, ⟨_, rfl⟩, by simpa only [PyData.shown] using q⟩
  | bool b => exact PySem.P.repr_of_bool ⟨.str _, H, I.tok _, ⟨_, rfl⟩, by cases b <;> simpa [PyData.shown] using q⟩
  | int i t => exact PySem.P.repr_of_int (by simpa [PyData.showable] using h1) ⟨.str _, H, I.tok _, ⟨_, rfl⟩, by simpa only [PyData.shown] using q⟩
  | str z t => exact PySem.P.repr_of_str ⟨.str _, H, I.tok _, ⟨_, rfl⟩, by simpa only [PyData.shown] using q⟩ (by simpa only [PyData.shown] using hlen)
  | list _ _ _ _ => exact go _ rfl
  | tuple _ _ _ _ => exact go _ rfl
  | dict _ _ _ _ _ _ => exact go _ rfl
theorem reprX_ok : OpA X W (rReprX X.K) reprXG := by
  intro ph S H xs as Q g d h
  unfold reprXG at h
  split at h
  · obtain ⟨v, rfl, dv⟩ := one_of d
    split at h
    · rename_i e he
      split at h
      · rename_i hp
        exact ⟨v, e, rfl, snap_ok g dv he, hp, fin_v g (.str _) h⟩
      · exact h.elim
    · exact h.elim
  · exact h.elim
end
end DL

namespace DL
open PySem PySem.Spec PyProof.Rows L2
end DL

namespace DL
open PySem PySem.Spec PyProof.Rows L2
def cutX (n : Nat) (rho : Slots) (r : Res (RV × Store)) : Res (RV × Store) := match r with
  | .exc e _ S' => if (S'.take n).all (Cell.below n) = true then .exc e rho (S'.take n) else .stuck
  | x => x
def eCallX (f : FnM) (c : Bool) (m : AM) : EM := fun rho S => (m rho S).bind fun x => (cutX x.2.length rho (f x.1 x.2)).bind (back c)
section
variable {X : Cx} {Wq : WX} {e : Expr} {es : List Expr} {pos p : Pos} {m : AM}
end
def tOfS (K : PySem.W.Frag) (W : XW K) (m : SM) : TS := fun D sg H => ∃ ph S rho, Good K ph H S ∧ SlotsOk K ph H sg rho ∧ holds (m rho S) (postS K ph H D) (W.rel ph H)
theorem PSDs.pss {X : Cx} {W : XW X.K} {st : List Stmt} {m : SM} (h : PSDs X W st m) : PSs X st (tOfS X.K W m) := by
  obtain ⟨t, p, s⟩ := h.ex
  exact ⟨fun pins s' sg H D I ⟨ph, S, rho, g, so, q⟩ => p.run pins s' sg H D I (s ph S H sg rho D g so q)⟩
theorem lookup_mem {α β : Type} [BEq α] [LawfulBEq α] {k : α} {v : β} : ∀ {l : List (α × β)}, l.lookup k = some v → (k, v) ∈ l
  | [], h => by cases h
  | (a, b) :: l, h => by
    rw [List.lookup_cons] at h
    cases e : k == a with
    | true =>
      rw [e] at h
      cases h
      rw [eq_of_beq e]
      exact List.mem_cons_self
    | false =>
      rw [e] at h
      exact List.mem_cons_of_mem _ (lookup_mem h)
def wipe1 (i : Nat) (r : Res (Fl × Slots × Store)) : Res (Fl × Slots × Store) := match r with
  | .ok x => .ok (x.1, x.2.1.set i none, x.2.2)
  | _ => .stuck
abbrev SX := Addr → Option Addr → Exc → SM
open Classical in
noncomputable def suiteRes (i : Nat) (ms : SX) (e : Exc) (r : Slots) (S : Store) : Res (Fl × Slots × Store) :=
  if h : ∃ res, ∀ (a : Addr) (od : Option Addr), (e.fs = [] → od = none) → (od = none → e.fs = []) → wipe1 i (ms a od e (r.set i (some (.fr (.exn a od e.cls e.fs)))) S) = res then Classical.choose h else .stuck
noncomputable def sTryA (i : Nat) (tb : IsT) (mb : SM) (ms : SX) : SM := fun rho S => match mb rho S with
  | .exc e r S' => match tb.lookup e.cls with
    | some true => suiteRes i ms e r S'
    | some false => .exc e r S'
    | none => .stuck
  | x => x
theorem suite_is {i : Nat} {ms : SX} {e : Exc} {r : Slots} {S : Store} {res : Res (Fl × Slots × Store)}
    (h : ∀ (a : Addr) (od : Option Addr), (e.fs = [] → od = none) → (od = none → e.fs = []) → wipe1 i (ms a od e (r.set i (some (.fr (.exn a od e.cls e.fs)))) S) = res) : suiteRes i ms e r S = res := by
  have hx : ∃ res, ∀ (a : Addr) (od : Option Addr), (e.fs = [] → od = none) → (od = none → e.fs = []) → wipe1 i (ms a od e (r.set i (some (.fr (.exn a od e.cls e.fs)))) S) = res := ⟨res, h⟩
  unfold suiteRes
  rw [dif_pos hx]
  have q := Classical.choose_spec hx
  obtain ⟨od, o1, o2⟩ : ∃ od : Option Addr, (e.fs = [] → od = none) ∧ (od = none → e.fs = []) := by
    by_cases z : e.fs = []
    · exact ⟨none, fun _ => rfl, fun _ => z⟩
    · exact ⟨some 0, fun y => absurd y z, fun y => by cases y⟩
  rw [← q 0 od o1 o2, h 0 od o1 o2]
theorem suite_at {i : Nat} {ms : SX} {e : Exc} {r : Slots} {S : Store} {P : Fl × Slots × Store → Prop} {E : Exc → Slots → Store → Prop} (h : holds (suiteRes i ms e r S) P E) {a : Addr} {od : Option Addr} (o1 : e.fs = [] → od = none) (o2 : od = none → e.fs = []) :
    holds (wipe1 i (ms a od e (r.set i (some (.fr (.exn a od e.cls e.fs)))) S)) P E := by
  unfold suiteRes at h
  split at h
  · rename_i hx
    have q := Classical.choose_spec hx
    rw [q a od o1 o2]
    exact h
  · exact h.elim
theorem SlotsOk.wipe {K : PySem.W.Frag} {ph : List Addr} {H : Hp} {sg : L2.St} {rho : Slots} (h : SlotsOk K ph H sg rho) (i : Nat) : SlotsOk K ph H (sg.set i none) (rho.set i none) := by
  refine ⟨by simpa using h.1, fun j x q => ?_⟩
  by_cases e : i = j
  · subst e
    rw [List.getElem?_set] at q
    split at q
    · split at q <;> cases q
    · exact absurd rfl ‹_›
  · rw [List.getElem?_set_ne e] at q ⊢
    exact h.2 j x q
theorem wipe1_ok {K : PySem.W.Frag} {ph ph' : List Addr} {H H' : Hp} {Dn : Ends} {i : Nat} {r : Res (Fl × Slots × Store)} {E : Exc → Slots → Store → Prop} (x : Ext ph H ph' H') (h : holds (wipe1 i r) (postS K ph H Dn) E) :
    holds r (postS K ph' H' { nx := fun sg H => Dn.nx (sg.set i none) H, rt := Dn.rt, bk := fun sg H => Dn.bk (sg.set i none) H, ct := fun sg H => Dn.ct (sg.set i none) H }) ((XW.none K).rel ph' H') := by
  cases r with
  | exc e r s => exact h.elim
  | stuck => exact h
  | ok y =>
    obtain ⟨fl, rho', S''⟩ := y
    intro ph2 sg2 H2 x2 g2 so2
    have q := h ph2 (sg2.set i none) H2 (x.trans x2) g2 (SlotsOk.wipe so2 i)
    cases fl <;> exact q
section
variable {X : Cx} {Wq : WX} {pos pos' np : Pos} {x n : Str} {c : Value} {i : Nat} {body suite : List Stmt} {b0 : Stmt} {mb : SM} {ms : SX} {tb : IsT}
theorem psd_try_as (i : Nat) (hs : X.stack = X.env :: X.outer) (hf : X.env.frame = some X.env.locals) (hN : X.N.Nodup) (hi : X.N[i]? = some n) (hln : X.env.kindOf n = some .local) (hc : Names X x c) (tk : Takes X Wq)
    (ht : ∀ p ∈ tb, PySem.W.exmOne X.K (.ref (He.ga X.K p.1)) c = some p.2)
    (hb : ∀ (W' : WX) (pn : List (Addr × Obj)) (xe : Value → Shared → Prop), Takes (X.tr pn xe) W' → PSDs (X.tr pn xe) (XW.of X.K W') body mb)
    (hsu : ∀ (a : Addr) (oe : Obj) (e : Exc) (d : Option Addr) (pn : List (Addr × Obj)), Zc (.ref (He.ga X.K e.cls)) d oe → (∃ vs, oe.data = .fields vs) → PSDs (X.suite a ((a, oe) :: pn)) (XW.none X.K) (b0 :: suite) (ms a d e)) :
    PSD X (XW.of X.K Wq) (.Try body [.ExceptHandler (some (.Name x np)) (some n) (b0 :: suite) pos'] [] [] pos) (sTryA i tb mb ms) := by
  refine ⟨_, L2.ps_try_as (i := i) (tb := fun W' => tOfS X.K (XW.of X.K W') mb) (ts := fun a cls d D sg H => ∃ e : Exc, cls = .ref (He.ga X.K e.cls) ∧ tOfS X.K (XW.none X.K) (ms a d e) D sg H) (Wout := Wq) hs hf hN hi hln hc tk (fun W' pn xe tk' _ => (hb W' pn xe tk').pss) (fun a oe cls d pn hz hfl => ?_), fun ph S H sg rho Dn g so h => ?_⟩
  · refine ⟨fun pins s sg H D I ⟨e, ec, q⟩ => ?_⟩
    subst ec
    exact (hsu a oe e d pn hz hfl).pss.run pins s sg H D I q
  · refine ⟨ph, S, rho, g, so, ?_⟩
    unfold sTryA at h
    cases hm : mb rho S with
    | ok r =>
      rw [hm] at h
      exact h
    | stuck =>
      rw [hm] at h
      exact h.elim
    | exc e r S' =>
      rw [hm] at h
      dsimp only at h
      intro ph' H' sg' cls d x' g' so' ed
      split at h
      · rename_i hl
        have hmem := ht (e.cls, true) (lookup_mem hl)
        refine ⟨true, by rw [ed.1]; exact hmem, fun _ a na => ⟨e, ed.1, ?_⟩, fun z => by cases z⟩
        have den : Den X.K (hide ph' H') (.ref a) (.exn a d e.cls e.fs) := by
          rcases ed.2 with ⟨e1, e2⟩ | ⟨_, a', vs, e1, e2, e3⟩
          · rw [e1, e2]
            exact .exn0 a _
          · rw [e1]
            exact .exn e2 e3
        have o1 : e.fs = [] → d = none := fun z => by
          rcases ed.2 with ⟨e1, _⟩ | ⟨n, _⟩
          · exact e1
          · exact absurd z n
        have o2 : d = none → e.fs = [] := fun z => by
          rcases ed.2 with ⟨_, e2⟩ | ⟨_, a', vs, e1, _⟩
          · exact e2
          · rw [z] at e1; cases e1
        exact ⟨ph', S', r.set i (some (.fr (.exn a d e.cls e.fs))), g', so'.set i (x := .fr (.exn a d e.cls e.fs)) den, wipe1_ok x' (suite_at h o1 o2)⟩
      · rename_i hl
        refine ⟨false, by rw [ed.1]; exact ht (e.cls, false) (lookup_mem hl), (fun z => by cases z), fun _ => h ph' H' sg' cls d x' g' so' ed⟩
      · exact h.elim
end
structure ExcOk (K : PySem.W.Frag) (C : Addr) : Prop where
  cl : (PySem.W.clsIn K C).isSome = true
  ga : PySem.W.findIn K (.ref C) "__getattribute__" = some (some (.builtin "BaseException.__getattribute__"))
  gg : PySem.W.findIn K (.ref C) "__getattr__" = some none
  sub : PySem.W.subIn K (.ref C) (.type "BaseException") = some true
  ha : PySem.W.findIn K (.ref C) "__class__" = some (some (.builtin "object.__class__"))
  hn : PySem.W.specialIn K (.builtin "object.__class__") "__get__" = some (some (.builtin "getset_descriptor.__get__"))
  ht : PySem.W.takesIn K (.builtin "object.__class__") = some true
  hm : PySem.W.mroIn K C (.type "object") = some true
theorem excOk_of {K : PySem.W.Frag} {n : Str} (c : fcExc n K = true) : ExcOk K (He.ga K n) := by
  unfold fcExc at c
  simp only [Bool.and_eq_true] at c
  obtain ⟨h1, h2, h3, h4, h5, h6, h7, h8⟩ := c
  exact ⟨of_decide_eq_true h1, He.eqO_ok h2, He.eqO_ok h3, of_decide_eq_true h4, He.eqO_ok h5, He.eqO_ok h6, of_decide_eq_true h7, of_decide_eq_true h8⟩
structure IseOk (K : PySem.W.Frag) (C : Str) (tb : IsT) (tt : TyT) : Prop where
  ex : ExcOk K (He.ga K C)
  own : ∀ p ∈ tb, PySem.W.kitOne K (.ref (He.ga K C)) (.ref (He.ga K p.1)) = some p.2
  ty : ∀ p ∈ tt, PySem.W.kitOne K (.ref (He.ga K C)) (.type p.1) = some p.2
theorem ise_of {K : PySem.W.Frag} {C : Str} {tb : IsT} {tt : TyT} (c : fcIse C tb tt K = true) : IseOk K C tb tt := by
  unfold fcIse at c
  simp only [Bool.and_eq_true] at c
  obtain ⟨h1, h2, h3⟩ := c
  exact ⟨excOk_of h1, fun p hp => of_decide_eq_true (List.all_eq_true.mp h2 p hp), fun p hp => of_decide_eq_true (List.all_eq_true.mp h3 p hp)⟩
abbrev IseT := List (Str × IsT × TyT)
def IsesOk (K : PySem.W.Frag) (t : IseT) : Prop := ∀ p ∈ t, IseOk K p.1 p.2.1 p.2.2
theorem ises_nil {K : PySem.W.Frag} : IsesOk K [] := fun _ h => nomatch h
theorem ises_cons {K : PySem.W.Frag} {C : Str} {tb : IsT} {tt : TyT} {t : IseT} (h : IsesOk K t) (c : fcIse C tb tt K = true) : IsesOk K ((C, tb, tt) :: t) := fun p hp => (List.mem_cons.mp hp).elim (fun e => e ▸ ise_of c) (h p)
def ExmOk (K : PySem.W.Frag) (L : Str) (tb : IsT) : Prop := ∀ p ∈ tb, PySem.W.exmOne K (.ref (He.ga K p.1)) (.ref (He.ga K L)) = some p.2
theorem exm_nil {K : PySem.W.Frag} {L : Str} : ExmOk K L [] := fun _ h => nomatch h
theorem exm_cons {K : PySem.W.Frag} {L C : Str} {b : Bool} {tb : IsT} (h : ExmOk K L tb) (c : fcExm C L b K = true) : ExmOk K L ((C, b) :: tb) := fun p hp => (List.mem_cons.mp hp).elim (fun e => e ▸ of_decide_eq_true c) (h p)
def clsB (tb : IsT) (tt : TyT) : D → Option Bool
  | .cls c => tb.lookup c
  | .ty t => tt.lookup t
  | _ => none
def anyB (tb : IsT) (tt : TyT) : List D → Option Bool
  | [] => some false
  | d :: ds => match clsB tb tt d, anyB tb tt ds with
    | some b, some r => some (b || r)
    | _, _ => none
def isE1 (tb : IsT) (tt : TyT) (y : SV) : Option Bool := match y with
  | .fr (.tup ds) => anyB tb tt ds
  | .fr d => clsB tb tt d
  | _ => none
def isEG (t : IseT) (a : Addr) (d : Option Addr) (C : Str) : GA := fun as S => match as with
  | [.fr (.exn a' od _ _), y] => if a' = a ∧ od = d then match t.lookup C with
    | some (tb, tt) => match isE1 tb tt y with
      | some b => okV (.bl b) S
      | none => .stuck
    | none => .stuck else .stuck
  | _ => .stuck
def rIsX (K : PySem.W.Frag) (D a : Addr) (d : Option Addr) : List V → Hp → VK → Prop := fun xs H Q => ∃ (c : V) (b : Bool), xs = [.ref a, c] ∧ ExcOk K D ∧ (∀ dd, d = some dd → ∃ fs, H dd = some (.xd fs)) ∧
  ((∃ u, ClsV c u ∧ PySem.W.kitOne K (.ref D) u = some b) ∨ ∃ (tp : Addr) (cs : List V) (us : List Value), c = .ref tp ∧ SqT K H tp cs ∧ Paired ClsV cs us ∧ PySem.W.kitAny K (.ref D) us = some b) ∧ Q (.bl b) H
theorem call_isX {X : Cx} {a D : Addr} {d : Option Addr} {oe : Obj} {pn : List (Addr × Obj)} (hz : Zc (.ref D) d oe) (hf : ∃ vs, oe.data = .fields vs) : CallR (X.suite a ((a, oe) :: pn)) (.builtin "isinstance") (rIsX X.K D a d) := by
  intro pins s σ H xs us Q I r h
  obtain ⟨c, b, rfl, C, hd, hc, q⟩ := h
  obtain ⟨u1, u2, rfl, r1, r2⟩ := vals2 r
  cases (show u1 = Value.ref a from r1)
  obtain ⟨hget, _⟩ := I.pin (a, oe) (List.mem_append.mpr (.inl List.mem_cons_self))
  obtain ⟨vs, hv⟩ := hf
  obtain ⟨od, J⟩ : ∃ od, PySem.W.InstAt s.heap a oe D od := by
    have nc : PySem.W.notCls oe = true := by unfold PySem.W.notCls; rw [hv] <;> rfl
    cases d with
    | none => exact ⟨none, hget, hz.1, nc, by rw [hz.2]; exact True.intro⟩
    | some dd =>
      obtain ⟨fs, e⟩ := hd dd rfl
      obtain ⟨mA, hns, _⟩ := (show ObjOk X.prog X.w H s.heap dd (.xd fs) from I.hok dd _ e)
      obtain ⟨od, ho, _⟩ := lookIn_ns hns
      exact ⟨some od, hget, hz.1, nc, by rw [hz.2]; exact ho⟩
  have Z := PySem.W.kitx_exc (ox := oe) (od := od) (x := a) C.cl C.ga C.gg C.sub C.ha C.hn C.ht C.hm
  rcases hc with ⟨u, k, e⟩ | ⟨tp, cs, ws, rfl, hT, k, e⟩
  · have e2 := k.eq r2
    subst e2
    exact PySem.W.kia_one Z I.kIn J e (fun z => nomatch z) fun tk => ⟨.bl b, H, I.tok tk, rfl, q⟩
  · cases (show u2 = Value.ref tp from r2)
    have raw : ∃ (its : List Value) (dd : Option Addr) (n : Nat) (sl : Array (Option Value)), s.heap.get? tp = some ⟨.type "tuple", dd, .seq its.toArray n, sl⟩ ∧ Vals cs its := by
      rcases hT with hT | ⟨o, its, n, hk, hc, hdd, _, rv⟩
      · obtain ⟨_, its, rv, o, h1, h2, n, h3⟩ := (show ObjOk X.prog X.w H s.heap tp (.tup cs) from hT.ok I.hok)
        obtain ⟨oc, od, dt, sl⟩ := o
        simp only at h2 h3
        subst h2 h3
        exact ⟨its, _, _, _, h1, rv⟩
      · have h1 := I.kIn _ _ hk
        obtain ⟨oc, od, dt, sl⟩ := o
        simp only at hc hdd
        subst hc hdd
        exact ⟨its.toList, od, n, sl, by rw [h1], rv⟩
    obtain ⟨its, dd, n, sl, h1, rv⟩ := raw
    have e3 := ClsV.all k rv
    subst e3
    exact PySem.W.kia_tup Z I.kIn J h1 e (fun z => nomatch z) fun tk => ⟨.bl b, H, I.tok tk, rfl, q⟩
theorem clsB_ok {K : PySem.W.Frag} {F : Hp} {C : Str} {tb : IsT} {tt : TyT} (T : IseOk K C tb tt) {v : V} {d : D} {b : Bool} (k : Den K F v d) (h : clsB tb tt d = some b) : ∃ u, ClsV v u ∧ PySem.W.kitOne K (.ref (He.ga K C)) u = some b := by
  unfold clsB at h
  split at h
  · rename_i c
    obtain rfl := d_cls k
    exact ⟨_, .own _, T.own _ (lookup_mem h)⟩
  · rename_i t
    cases k
    exact ⟨_, .ty t, T.ty _ (lookup_mem h)⟩
  · cases h
theorem anyB_ok {K : PySem.W.Frag} {F : Hp} {C : Str} {tb : IsT} {tt : TyT} (T : IseOk K C tb tt) : ∀ {vs : List V} {ds : List D} {b : Bool}, Dens K F vs ds → anyB tb tt ds = some b → ∃ us, Paired ClsV vs us ∧ PySem.W.kitAny K (.ref (He.ga K C)) us = some b
  | _, [], b, .nil, h => by
    cases h
    exact ⟨[], .nil, rfl⟩
  | _, d :: ds, b, .cons k r, h => by
    unfold anyB at h
    split at h
    · rename_i b1 r1 h1 h2
      cases h
      obtain ⟨u, c, e⟩ := clsB_ok T k h1
      obtain ⟨us, cs, es⟩ := anyB_ok T r h2
      exact ⟨u :: us, .cons c cs, kitAny_cons e (fun z => by rw [z]; exact es) fun z => by rw [z]; rfl⟩
    · cases h
theorem isE_ok {X : Cx} {W : XW (X.suite a ((a, oe) :: pn)).K} {t : IseT} {a : Addr} {d : Option Addr} {e : Exc} (T : IsesOk X.K t) : OpA (X.suite a ((a, oe) :: pn)) W (rIsX X.K (He.ga X.K e.cls) a d) (isEG t a d e.cls) := by
  intro ph S H xs as Q g dn h
  unfold isEG at h
  split at h
  · rename_i a' od C' fs y
    obtain ⟨v, u, rfl, dv, du⟩ := two_of dn
    split at h
    · rename_i hc
      obtain ⟨rfl, rfl⟩ := hc
      split at h
      · rename_i tb tt hl
        have T1 := T _ (lookup_mem hl)
        split at h
        · rename_i b hb
          have dv : Den X.K (hide ph H) v (.exn a' od C' fs) := dv
          have hx : v = .ref a' ∧ ∀ dd, od = some dd → ∃ fs, H dd = some (.xd fs) := by
            cases dv with
            | exn0 => exact ⟨rfl, fun dd z => by cases z⟩
            | exn e1 e2 => exact ⟨rfl, fun dd z => by cases z; exact ⟨_, (hide_some e1).2⟩⟩
          obtain ⟨rfl, hd⟩ := hx
          refine ⟨u, b, rfl, T1.ex, hd, ?_, fin_v g (.bl _) h⟩
          unfold isE1 at hb
          split at hb
          · rename_i ds
            obtain ⟨tp, vs, rfl, s, r⟩ := d_tup (show Den X.K (hide ph H) u (.tup ds) from du)
            obtain ⟨us, k, e⟩ := anyB_ok T1 r hb
            exact .inr ⟨tp, vs, us, rfl, hide_sub.sqT s, k, e⟩
          · rename_i dd _
            exact .inl (clsB_ok T1 (show Den X.K (hide ph H) u dd from du) hb)
          · cases hb
        · exact h.elim
      · exact h.elim
    · exact h.elim
  · exact h.elim
end DL

namespace DL
open PySem PySem.Spec PyProof.Rows L2
structure BasI (K : PySem.W.Frag) (L : Addr) : Prop where
  rd : PySem.W.readsIn K L (.type "type") = true
  ga : PySem.W.specialIn K (.ref L) "__getattribute__" = some (some (.builtin "type.__getattribute__"))
  vi : PySem.W.findCls K (.ref L) (.type "type") "__init__" = some (.val (.builtin "ValueError.__init__"))
theorem isVI_ok {r : Option PySem.W.CFound} (h : isVI r = true) : r = some (.val (.builtin "ValueError.__init__")) := by
  unfold isVI at h
  split at h
  · rw [eq_of_beq h]
  · cases h
theorem bas_of {K : PySem.W.Frag} {n : Str} (c : fcBas n K = true) : BasI K (He.ga K n) := by
  unfold fcBas at c
  simp only [Bool.and_eq_true] at c
  exact ⟨c.1, He.eqO_ok c.2.1, isVI_ok c.2.2⟩
section
variable {X : Cx} {e : Expr} {es : List Expr} {ta : TA} {x : Str} {L : Addr} {p1 p2 pos : Pos}
theorem pe_oinit {pl : Sem Bool} (hg : Gl X x) (gL : X.mg x = some (.ref L)) (B : BasI X.K L) (ha : PA X (e :: es) ta) (hdb : (x == ("__debug__" : Str)) = false := by decide)
    (hc : eval (.Call (.Attribute (.Name x p1) "__init__" p2) (e :: es) [] pos) X.env = (do
      let ov ← eval (.Name x p1) X.env
      standAt p2.atName
      let (f, first) ← holding [ov] (getMethod ov "__init__" pl)
      callWith pos f first (backTo pos (starEach (e :: es) X.env)) (backToKw pos (keywordEach [] X.env))) := by rfl)
    (he : starEach (e :: es) X.env = (false, eval e X.env) :: starEach es X.env := by rfl) (hpl : (backTo pos (starEach es X.env)).any (·.1) = false := by rfl) :
    PE X (.Call (.Attribute (.Name x p1) "__init__" p2) (e :: es) [] pos) (tVeI X.K ta) := by
  refine ⟨fun pins s σ H Q I h => ?_⟩
  refine PySem.W.methodCall_KW (ld_glob I hg gL ?_ hdb) hc
  refine PySem.W.method_cls I.kIn B.ga (PySem.W.cls_value I.kIn B.rd B.vi (show PySem.W.handedIn (.builtin "ValueError.__init__") = true by decide +kernel) ?_)
  show wpAny _ _ (callWith pos (Value.builtin "ValueError.__init__") [] (backTo pos (starEach (e :: es) X.env)) []) _ _ _
  refine PyProof.Rows.callWith_method1 (thn (ha.run pos pins _ σ H _ (I.tok _) h) fun us s1 ⟨vs, H1, I1, r1, a, C, ws, ev, hl, T, ea, q⟩ => ?_) he hpl
  subst ev
  cases r1 with
  | @cons _ u0 _ ur ra rw' =>
    obtain rfl : u0 = Value.ref a := ra
    have hlen : ur.length ≤ sizeLine := by
      rw [← Paired.length rw', sizeLine_eq]
      omega
    exact oinit_ok T I1 ea hlen fun s' J => ⟨.non, H1, J, rfl, q⟩
end
theorem oexB_ok {K : PySem.W.Frag} {C : Addr} (c : oexB K C = true) : ∃ nm q N bs bm sn sub ab col dd k0 k1 k2 k3 k5, K.lookup C = some (excClassObj nm q C N bs bm true sn sub ab col dd k0 k1 k2 k3 k5 "ValueError.__new__") ∧ PySem.HandSPX.refsVE bm = true := by
  unfold oexB at c
  split at c
  · rename_i dd cd sl ho
    split at c
    · rename_i C' bm k0 k1 k2 k3 n k5 hm hs
      simp only [Bool.and_eq_true, beq_iff_eq, Bool.not_eq_true'] at c
      obtain ⟨rfl, rfl, hdel, hd, hv⟩ := c
      obtain ⟨nm, bs, mro, ns, qn, hdi, sn, sub, ab, col, del⟩ := cd
      dsimp only at hm hdel hd
      subst hm hdel hd
      have hsl : sl = #[k0, k1, k2, k3, some (.builtin "ValueError.__new__"), k5] := by
        obtain ⟨l⟩ := sl
        simp only at hs
        rw [hs]
      subst hsl
      exact ⟨nm, qn, ns, bs, bm, sn, sub, ab, col, dd, k0, k1, k2, k3, k5, ho, hv⟩
    · cases c
  · cases c
structure OxC (K : PySem.W.Frag) (C fI : Addr) : Prop where
  ox : OexC K C
  iC : PySem.W.findIn K (.ref C) "__init__" = some (some (.ref fI))
  tI : PySem.W.typeIn K (.ref fI) = some (.type "function")
theorem ox_of {K : PySem.W.Frag} {n : Str} (c : fcOx n K = true) : OxC K (He.ga K n) (He.ma K (He.ga K n) "__init__") := by
  unfold fcOx at c
  simp only [Bool.and_eq_true] at c
  obtain ⟨h1, h2, h3, h4, h5, h6, h7⟩ := c
  exact ⟨⟨oexB_ok h1, He.eqO_ok h2, of_decide_eq_true h3, of_decide_eq_true h4, h5⟩, He.eqO_ok h6, of_decide_eq_true h7⟩
section
variable {X : Cx} {pos : Pos}
end
end DL

namespace DL
open PySem PySem.Spec PyProof.Rows L2
abbrev KnM := List SV → Store → Res (SV × Store)
def leaveK (r : Fl × Slots × Store) : Res (SV × Store) := match r.1 with
  | .nx => .ok (.fr .non, r.2.2)
  | .rt x => .ok (x, r.2.2)
  | _ => .stuck
def fnK (np n : Nat) (b : SM) : KnM := fun as S => if as.length = np then (b (as.map some ++ List.replicate (n - as.length) none) S).bind leaveK else .stuck
def spK (K : PySem.W.Frag) (m : KnM) : Sp := fun vs H Q E => ∃ ph S as, Good K ph H S ∧ DenSs K ph H vs as ∧ holds (m as S) (post K ph H Q) (postX K ph H E)
structure FnDK (P : Program) (w : World) (K : PySem.W.Frag) (mg : Str → Option Value) (base : Heap) (k : Nat) (f : Addr) (fd : FuncData) (ps : List Str) (m : KnM) : Prop where
  len : ∀ vs H Q E, spK K m vs H Q E → vs.length = ps.length
  run : ∀ (A : Around) (outer : List Env) (s : Shared) (H : Hp) (args : Args) (us : List Value) (vs : List V) (Q : VK) (E : XK), A.guards = some [] → Room k A → Env0 P w K mg base A outer s H →
    BindsTo s fd args (ps.zip us) → Vals vs us → spK K m vs H Q E → codeAny (model P w) A (.call (.ref f) args) (CR (L2.CX P w) outer P w H s Q E) s
section
variable {P : Program} {w : World} {K : PySem.W.Frag} {mg : Str → Option Value} {base : Heap}
theorem spK_len {np n : Nat} {b : SM} {vs : List V} {H : Hp} {Q : VK} {E : XK} (h : spK K (fnK np n b) vs H Q E) : vs.length = np := by
  obtain ⟨ph, S, as, g, d, h⟩ := h
  unfold fnK at h
  split at h
  · rw [d.length]; assumption
  · exact h.elim
theorem fnDK_of {k : Nat} {f : Addr} {name qual : Str} {params : Arguments} {body : List Stmt} {scope : Scope} {dV kV doc pm cdv ct oc : Value} {an od : Option Addr} {osl : Array (Option Value)} {N ps : List Str} {b : SM}
    (lk : K.lookup f = some ⟨oc, od, .func (PySem.W.fnOf name qual params body scope dV kV doc pm an cdv ct), osl⟩) (hcd : PySem.W.codeIn K cdv qual = true) (Sc : FnScope N ps scope)
    (hb : ∀ (A : Around) (outer : List Env) (s : Shared) (H : Hp) (E : XK), (A.deeper (envOfC qual scope s.heap.objs.size f cdv)).guards = some [] → Room k (A.deeper (envOfC qual scope s.heap.objs.size f cdv)) →
      PSDs (cxOf (L2.CX P w) P w K mg base N qual scope f cdv A outer s H E) (XW.fn K E) body b) :
    FnDK P w K mg base (k + 1) f (PySem.W.fnOf name qual params body scope dV kV doc pm an cdv ct) ps (fnK ps.length N.length b) := by
  refine ⟨fun vs H Q E h => spK_len h, ?_⟩
  intro A outer s H args us vs Q E hgd hroom e0 hbind rv hsp
  have len0 : vs.length = ps.length := spK_len hsp
  have KX : K.In s.heap := e0.mod.kin.keeps fun b o e => (e0.bs b o e).1
  have lim : s.heap.NoLimit := e0.mod.nolimit.keeps fun b o e => (e0.bs b o e).1
  have kinds : ∀ y ∈ ps.zip us, scope.names.lookup y.1 = some .local ∨ (scope.names.lookup y.1 = some .cell ∧ ((cellsFrom (s.heap.objs.size + 1) scope.names []).lookup y.1).isSome = true) := by
    rintro ⟨n, v⟩ hy
    cases Sc.par n (List.of_mem_zip hy).1 with
    | inl q => exact .inl q
    | inr q => exact .inr ⟨q, PySem.W.cellsFrom_some _ _ _ (.inl q)⟩
  refine codeAny_call_function hroom.depth (KX _ _ lk) rfl Sc.co Sc.gen rfl (PySem.W.codeRec_of KX hcd) (hbind _ _ _ _ ?_)
  refine wpAny_newFunctionEnv_cells Sc.kind kinds fun env he s1 x => ?_
  subst he
  refine ⟨lim.keeps x.toInCall.keep, codeAny_func ?_⟩
  obtain ⟨t, ht, snd⟩ := (hb A outer s H E hgd (hroom.deeper _)).ex
  have I : Inv (cxOf (L2.CX P w) P w K mg base N qual scope f cdv A outer s H E) [] (L2.start N vs) H s1 := inv_start Sc hroom.hd e0 len0 rv x
  have done : ∀ {sg' : L2.St} {H' : Hp} {v : V} {u : Value} {s' : Shared}, Inv (cxOf (L2.CX P w) P w K mg base N qual scope f cdv A outer s H E) [] sg' H' s' → RelV v u → Q v H' → CE outer P w H s Q u s' := by
    intro sg' H' v u s' J rv q
    exact ⟨v, H', J.os, J.bare, J.base, J.hok, rv, q⟩
  have rd : t { nx := fun _ H' => Q .non H', rt := Q } (L2.start N vs) H := by
    obtain ⟨ph, S, as, g, d, hh⟩ := hsp
    have la : as.length = ps.length := by rw [← d.length]; exact len0
    unfold fnK at hh
    rw [if_pos la] at hh
    refine snd ph S H (L2.start N vs) _ _ g ⟨by simp [L2.start, d.length], fun i x hi => ?_⟩ (holds_imp (holds_bind hh) (fun r hr => ?_) fun _ _ _ q ph' H' _ cls d x' g' _ z => q ph' H' cls d x' g' z)
    · have hi' : (as.map some ++ List.replicate (N.length - as.length) none)[i]? = some (some x) := hi
      by_cases hlt : i < as.length
      · rw [List.getElem?_append_left (by simpa using hlt), List.getElem?_map] at hi'
        cases q : as[i]? with
        | none => rw [q] at hi'; cases hi'
        | some y =>
          rw [q] at hi'
          have e := Option.some.inj (Option.some.inj hi')
          subst e
          obtain ⟨v, h1, h2⟩ := paired_get d q
          refine ⟨v, ?_, h2⟩
          unfold L2.start
          rw [List.getElem?_append_left (by rw [List.length_map, d.length]; exact hlt), List.getElem?_map, h1]
          rfl
      · rw [List.getElem?_append_right (by simpa using hlt)] at hi'
        have := List.getElem?_replicate (n := N.length - as.length) (a := (none : Option SV)) (i := i - (as.map some).length)
        rw [this] at hi'
        split at hi' <;> cases hi'
    · intro ph' sg' H' x' g' so'
      obtain ⟨fl, rho', S'⟩ := r
      cases fl with
      | nx => exact hr ph' .non H' x' g' den_non
      | rt sv => exact fun v dv => hr ph' v H' x' g' dv
      | bk => exact hr.elim
      | ct => exact hr.elim
  refine wpAny_mono (ht.run [] s1 (L2.start N vs) H _ I rd) (fun fl s' hs => ?_) fun e s' hs => hs
  cases fl with
  | ret u =>
    obtain ⟨v, sg', H', J, rv, q⟩ := hs
    exact done J rv q
  | next =>
    obtain ⟨sg', H', J, q⟩ := hs
    exact done (v := V.non) (u := Value.none) J rfl q
  | brk => exact hs.choose_spec.choose_spec.2.elim
  | cont => exact hs.choose_spec.choose_spec.2.elim
structure CalK (P : Program) (w : World) (K : PySem.W.Frag) (mg : Str → Option Value) (base : Heap) (k : Nat) (x : Str) (m : KnM) : Prop where
  ex : ∃ f fd ps, mg x = some (.ref f) ∧ PySem.W.keepIn K (.ref f) = true ∧ Binds K fd ps [] ∧ FnDK P w K mg base k f fd ps m
theorem calK_of {k : Nat} {x : Str} {st : Stmt} {f : Addr} {fd : FuncData} {N ps : List Str} {b : SM} (F : Fun K x x st f fd) (hm : mg x = some (.ref f)) (hbd : Binds K fd ps []) (Sc : FnScope N ps (defScope st))
    (hb : ∀ (cdv : Value) (A : Around) (outer : List Env) (s : Shared) (H : Hp) (E : XK), (A.deeper (envOfC x (defScope st) s.heap.objs.size f cdv)).guards = some [] → Room k (A.deeper (envOfC x (defScope st) s.heap.objs.size f cdv)) →
      PSDs (cxOf (L2.CX P w) P w K mg base N x (defScope st) f cdv A outer s H E) (XW.fn K E) (defBody st) b) : CalK P w K mg base (k + 1) x (fnK ps.length N.length b) := by
  obtain ⟨oc, od, kV, doc, pm, an, cdv, ct, osl, rfl, lk, hcd⟩ := F.ex
  exact ⟨f, _, ps, hm, F.kp, hbd, fnDK_of lk hcd Sc fun A outer s H E => hb cdv A outer s H E⟩
end
def eCallK (f : KnM) (m : AM) : EM := fun rho S => (m rho S).bind fun x => match f x.1 x.2 with
  | .exc _ _ _ => .stuck
  | r => r
section
variable {X : Cx} {W : XW X.K} {Wq : WX} {e : Expr} {es : List Expr} {pos p : Pos} {m : AM}
theorem pe_callKE {k j : Nat} {x : Str} {f : KnM} {t : TA} {Ef : L2.St → XK} (hx : ∀ sg, PassesAt (L2.CX X.prog X.w) X sg (Ef sg)) (c : CalK X.prog X.w X.K X.mg X.base k x f) (hr : Room j X.A) (hk : k ≤ j) (hgd : X.A.guards = some []) (hg : Gl X x) (ha : PA X (e :: es) t)
    (hdb : (x == ("__debug__" : Str)) = false) (he : starEach (e :: es) X.env = (false, eval e X.env) :: starEach es X.env) (hpl : (backTo pos (starEach es X.env)).any (·.1) = false) :
    PE X (.Call (.Name x p) (e :: es) [] pos) (fun sg H Q => t sg H fun vs H1 => spK X.K f vs H1 Q (Ef sg)) := by
  obtain ⟨g, fd, ps, hm, hkp, hbd, F⟩ := c.ex
  refine ⟨fun pins s sg H Q I h => wpAny_Call_Name_kw (ld_glob I hg hm ?_ hdb)⟩
  refine PySem.W.callWith_K (h₀ := X.base) I.ok.mod.kin hkp (thn (ha.run pos pins s sg H _ I h) fun us s1 ⟨vs, H1, I1, r, q⟩ => ⟨I1.kIn, ?_⟩) he hpl
  have hl : (us ++ []).length = ps.length := by rw [List.append_nil, ← r.length]; exact F.len _ _ _ _ q
  have bt := hbd s1 us I1.kIn hl
  rw [List.append_nil] at bt
  refine wpAny_call (codeAny_mono (F.run X.A X.stack s1 H1 ⟨us, []⟩ us vs Q (Ef sg) hgd (hr.mono hk) I1.env0 bt r q) fun r s' hq => ?_)
  cases r with
  | error e => exact hx sg pins H1 s1 e s' I1 hq
  | ok fl =>
    cases fl with
    | ret u => exact I1.after hq
    | next => exact False.elim hq
    | brk => exact False.elim hq
    | cont => exact False.elim hq
theorem pd_callK {k j : Nat} {x : Str} {f : KnM} (c : CalK X.prog X.w X.K X.mg X.base k x f) (hr : Room j X.A) (hk : k ≤ j) (hgd : X.A.guards = some []) (ha : PDA X W (e :: es) m) (hg : Gl X x := by rfl)
    (hdb : (x == ("__debug__" : Str)) = false := by decide) (he : starEach (e :: es) X.env = (false, eval e X.env) :: starEach es X.env := by rfl) (hpl : (backTo pos (starEach es X.env)).any (·.1) = false := by rfl) : PD X W (.Call (.Name x p) (e :: es) [] pos) (eCallK f m) := by
  obtain ⟨t, pa, sa⟩ := ha.ex
  refine ⟨_, pe_callKE (Ef := fun _ => E0) (fun sg pins H s e s' I h => passL pins sg H s e s' I h) c hr hk hgd hg pa hdb he hpl, fun ph S H sg rho Q gd so h => sa ph S H sg rho _ gd so (holds_imp (holds_bind h) (fun y hy => ?_) fun _ _ _ q => q)⟩
  intro ph1 vs H1 x1 g1 d1
  refine ⟨ph1, y.2, y.1, g1, d1, ?_⟩
  cases q : f y.1 y.2 with
  | ok r =>
    rw [q] at hy
    exact post.mono x1 r hy
  | exc e r s => rw [q] at hy; exact hy.elim
  | stuck => rw [q] at hy; exact hy
def isiTG : GA := fun as S => match as with
  | [.cell k, .fr (.ty b)] => match S[k]? with
    | some (.tup _) => match kin "tuple" b with
      | some r => okV (.bl r) S
      | none => .stuck
    | _ => .stuck
  | _ => .stuck
theorem isiT_ok : OpA X W (rIsi X.K) isiTG := by
  intro ph S H xs as Q g d h
  unfold isiTG at h
  split at h
  · rename_i k b
    obtain ⟨v, u, rfl, dv, du⟩ := two_of d
    split at h
    · rename_i ys hk
      split at h
      · rename_i r hr
        have e : u = .ty b := by cases (show Den X.K (hide ph H) u (.ty b) from du); rfl
        subst e
        obtain ⟨p, hp, rfl⟩ := dv
        obtain ⟨vs, h4, h5⟩ := paired_at g.cells hp hk
        exact ⟨.ref p, .ty b, .type "tuple", .type b, r, rfl, .ty b, .base (.tup h4), kit_ty (kin_ok hr), fin_v g (.bl _) h⟩
      · exact h.elim
    · exact h.elim
  · exact h.elim
end
end DL

namespace DL
open PySem PySem.Spec PyProof.Rows L2
section
variable {X : Cx} {W : XW X.K} {a b c : Expr} {ma mb mc : EM} {pos : Pos}
end
end DL

namespace DL
open PySem PySem.Spec PyProof.Rows L2
section
variable {X : Cx} {W : XW X.K} {a b c : Expr} {ma mb mc : EM} {pos : Pos}
def unl (S : Store) (a b : SV) : Bool := match rdL S a, rdL S b with
  | some xs, some ys => !decide (xs.length = ys.length)
  | _, _ => false
def eqNG (n : Bool) : G2 := fun a b S => match unl S a b with
  | true => okV (.bl n) S
  | false => eqG n a b S
def rUn (n : Bool) : R2 := fun x y H Q => ∃ p q xs ys, x = .ref p ∧ y = .ref q ∧ H p = some (.lst xs) ∧ H q = some (.lst ys) ∧ xs.length ≠ ys.length ∧ Q (.bl n) H
theorem op_unE (hu : X.A.units + 64 < cLine) : OpR X (compareOp .Eq) (rUn false) := by
  intro pins s σ H x y v u Q I rx ry h
  obtain ⟨p, q, xs, ys, rfl, rfl, hp, hq, hl, k⟩ := h
  cases rx
  cases ry
  obtain ⟨us, r1, p1, _⟩ := I.list (.inl (.inl hp))
  obtain ⟨ws, r2, p2, _⟩ := I.list (.inl (.inl hq))
  refine SeqAt.RcAt.lists_lengths p1.isList p2.isList ?_ (by omega) _ _ _ _ ?_
  · rw [List.size_toArray, List.size_toArray, ← r1.length, ← r2.length]
    simpa using hl
  · exact ⟨.bl _, H, I, rfl, k⟩
theorem Sden_len {K : PySem.W.Frag} {ph : List Addr} {H : Hp} {vs : List V} {xs : List SV} (h : DenSs K ph H vs xs) : vs.length = xs.length := h.length
theorem un_ok {r : R2} {n : Bool} (h : Op2 X W r (eqG n)) : Op2 X W (fun x y H Q => rUn n x y H Q ∨ r x y H Q) (eqNG n) := by
  intro ph S H x y a b Q g da db hh
  unfold eqNG at hh
  cases hu : unl S a b with
  | false =>
    rw [hu] at hh
    exact .inr (h _ _ _ _ _ _ _ _ g da db hh)
  | true =>
    rw [hu] at hh
    unfold unl at hu
    split at hu
    · rename_i xs ys h1 h2
      obtain ⟨p, vs, rfl, s1, r1⟩ := rdL_at g da h1
      obtain ⟨q, ws, rfl, s2, r2⟩ := rdL_at g db h2
      refine .inl ⟨p, q, vs, ws, rfl, rfl, s1, s2, ?_, fin_v g (.bl _) hh⟩
      rw [Sden_len r1, Sden_len r2]
      simpa using hu
    · cases hu
theorem pt_eqN (hu : X.A.units + 64 < cLine) (ha : PD X W a ma) (hb : PD X W b mb) : PDT X W (.Compare a [.Eq] [b] pos) (tB (e2 (eqNG false) ma mb)) := pt_2 ((op_unE hu).or ((op_eqD hu).or op_eq)) (un_ok eq_ok) ha hb
end
end DL

namespace DL
open PySem PySem.Spec PyProof.Rows L2
section
variable {X : Cx} {W : XW X.K} {a b c : Expr} {ma mb mc : EM} {pos : Pos}
end
end DL

namespace HT
open PySem PySem.Spec PyProof.Rows
section
variable {prog : Program} {w : World} {A : Around} {E : Value → Shared → Prop} {s : Shared}
end
end HT
namespace DL
open PySem PySem.Spec PyProof.Rows L2
section
variable {X : Cx}
end
section
variable {X : Cx} {W : XW X.K} {a : Expr} {m : EM} {k : Nat} {p1 p2 p3 pos : Pos}
end
end DL

namespace DL
open PySem PySem.Spec PyProof.Rows L2
section
variable {X : Cx} {W : XW X.K} {a : Expr} {m : EM}
end
end DL

namespace DL
open PySem PySem.Spec PyProof.Rows L2
section
variable {X : Cx} {W : XW X.K} {a b c tg : Expr} {ma mb mc : EM} {pos : Pos}
def CPowW (i j : Int) : Prop := 0 ≤ j ∧ (Builtin.Int.intBits i : Int) * j ≤ 2 ^ 27
instance decCPowW (i j : Int) : Decidable (CPowW i j) := by unfold CPowW; infer_instance
end
section
variable {X : Cx} {W : XW X.K} {pos p : Pos}
end
end DL

namespace DL
open PySem PySem.Spec PyProof.Rows L2

section
variable {X : Cx} {pins : List (Addr × Obj)} {σ : L2.St} {H : Hp} {s : Shared} {d : Addr} {o : Obj}
end
section
variable {P : Program} {w : World} {K : PySem.W.Frag} {d : Addr} {o : Obj} {es : Array DictEntry} {ep : Nat}
end
section
variable {X : Cx} {tg e : Expr} {td : TE} {apos cpos : Pos}
end

end DL

namespace DL
open PySem PySem.Spec PyProof.Rows L2

def keyD : Key → D
  | .inl i => .int i
  | .inr x => .str x
def keyL : List D → Option (List Key)
  | [] => some []
  | d :: ds => match keyOf d, keyL ds with
    | some k, some ks => some (k :: ks)
    | _, _ => none
def keyT : SV → Option (List Key)
  | .fr (.tup ds) => keyL ds
  | _ => none
def tupK (k : List Key) : D := .tup (k.map keyD)
def SV.isCell : SV → Bool
  | .cell _ => true
  | _ => false
def ktC : Cell → Bool
  | .tup xs => xs.any SV.isCell
  | _ => true
def ktOk (S : Store) : Bool := S.all ktC
def rdTD (S : Store) : SV → Option (List (List Key × SV))
  | .cell k => match S[k]? with
    | some (.dit kvs) => some kvs
    | some (.dil kvs) => some kvs
    | _ => none
  | _ => none
section
variable {X : Cx} {W : XW X.K} {a b c : Expr} {ma mb mc : EM} {pos : Pos}
def eDNT : EM := fun _ S => .ok (.cell S.length, S ++ [.dit []])
def putTD (o i x : SV) (S : Store) : Res Store := match o, keyT i with
  | .cell j, some k => match S[j]? with
    | some (.dit kvs) => if kvs.length < sizeLine then .ok (S.set j (.dit (setK kvs k x))) else .stuck
    | _ => .stuck
  | _, _ => .stuck
def gPtT (mo mi : EM) : GM := fun x rho S => (mo rho S).bind fun o => (mi rho o.2).bind fun i => (putTD o.1 i.1 x i.2).bind fun S' => .ok (rho, S')
def getTG (o k z : SV) (S : Store) : Res (SV × Store) := match rdTD S o, keyT k with
  | some kvs, some key => .ok ((lookK kvs key).getD z, S)
  | _, _ => .stuck
def eGetT (mo mk mx : EM) : EM := fun rho S => (mo rho S).bind fun o => if (rdTD o.2 o.1).isSome then (mk rho o.2).bind fun k => (mx rho k.2).bind fun z => getTG o.1 k.1 z.1 z.2 else .stuck
def eMtT (g : GMt) (o : EM) (m : AM) : EM := fun rho S => (o rho S).bind fun x => match x.1 with
  | .cell j => match x.2[j]? with
    | some (.dit _) => (m rho x.2).bind fun y => g x.1 y.1 y.2
    | _ => .stuck
  | _ => .stuck
def itemsT : List (List Key × SV) → Option (List SV)
  | [] => some []
  | (k, .fr d) :: r => (itemsT r).map (SV.fr (.tup [tupK k, d]) :: ·)
  | (_, .cell _) :: _ => none
def lkd (S : Store) : SV → Option (List (List Key × SV))
  | .cell k => match S[k]? with
    | some (.dil kvs) => some kvs
    | _ => none
  | _ => none
def ktP : Store → Prop := fun S => ktOk S = true
def iItT (m : EM) : IM := fun rho S => (m rho S).bind fun x => match lkd x.2 x.1 with
  | some kvs => match itemsT kvs with
    | some xs => .ok (⟨xs, ktP⟩, x.2)
    | none => .stuck
  | none => .stuck
def iKyT (m : EM) : IM := fun rho S => (m rho S).bind fun x => match lkd x.2 x.1 with
  | some kvs => .ok (⟨kvs.map fun p => .fr (tupK p.1), ktP⟩, x.2)
  | none => .stuck
inductive Pth where
  | v (i : Nat) | f (i : Nat) (n : Str)
def Pth.at : Pth → Slots → Store → Option Nat
  | .v i, rho, _ => match rho[i]? with
    | some (some (.cell k)) => some k
    | _ => none
  | .f i n, rho, S => match rho[i]? with
    | some (some x) => match insOf S x with
      | some (_, fs) => match fs.lookup n with
        | some (.cell k) => some k
        | _ => none
      | none => none
    | _ => none
theorem SlotsOk.writ {K : PySem.W.Frag} {ph : List Addr} {H : Hp} {sg : L2.St} {rho : Slots} {p : Addr} {o : HO} (hm : p ∈ ph) (h : SlotsOk K ph H sg rho) : SlotsOk K ph (upd H p o) sg rho :=
  ⟨h.1, fun i x q => let ⟨v, a, b⟩ := h.2 i x q; ⟨v, a, b.writ hm⟩⟩
def tOwn (tbl : Tbl) (m : EM) : TM := fun rho S => (m rho S).bind fun x => match insOf x.2 x.1 with
  | some (n, _) => match tbl.lookup n with
    | some f => (noX (f [x.1] x.2)).bind fun r => match r.1 with
      | .val (.fr (.bl b)) => .ok (b, r.2)
      | _ => .stuck
    | none => .stuck
  | none => .stuck
end

structure FunAtK (P : Program) (w : World) (K : PySem.W.Frag) (mg : Str → Option Value) (base : Heap) (k : Nat) (f : Addr) (m : KnM) : Prop where
  ex : ∃ fd ps, PySem.W.keepIn K (.ref f) = true ∧ PySem.W.isFn K (.ref f) = true ∧ Binds K fd ps [] ∧ FnDK P w K mg base k f fd ps m
section
variable {P : Program} {w : World} {K : PySem.W.Frag} {mg : Str → Option Value} {base : Heap}
theorem funAtK_of {k : Nat} {x qual : Str} {st : Stmt} {f : Addr} {fd : FuncData} {N ps : List Str} {b : SM} (F : Fun K x qual st f fd) (hfn : PySem.W.isFn K (.ref f) = true) (hbd : Binds K fd ps []) (Sc : FnScope N ps (defScope st))
    (hb : ∀ (cdv : Value) (A : Around) (outer : List Env) (s : Shared) (H : Hp) (E : XK), (A.deeper (envOfC qual (defScope st) s.heap.objs.size f cdv)).guards = some [] → Room k (A.deeper (envOfC qual (defScope st) s.heap.objs.size f cdv)) →
      PSDs (cxOf (L2.CX P w) P w K mg base N qual (defScope st) f cdv A outer s H E) (XW.fn K E) (defBody st) b) : FunAtK P w K mg base (k + 1) f (fnK ps.length N.length b) := by
  obtain ⟨oc, od, kV, doc, pm, an, cdv, ct, osl, rfl, lk, hcd⟩ := F.ex
  exact ⟨_, ps, F.kp, hfn, hbd, fnDK_of lk hcd Sc fun A outer s H E => hb cdv A outer s H E⟩
end
def noXK (r : Res (SV × Store)) : Res (SV × Store) := match r with
  | .exc _ _ _ => .stuck
  | x => x
def mkEndK (k : Nat) (r : SV × Store) : Res (SV × Store) := match r.1 with
  | .fr .non => .ok (.cell k, r.2)
  | _ => .stuck
def eMakeK0 (n : Str) (f : KnM) : EM := fun _ S => (noXK (f [.cell S.length] (S ++ [.ins n []]))).bind (mkEndK S.length)
section
variable {X : Cx} {W : XW X.K} {pos p : Pos} {n : Str} {k : Nat} {f : KnM}
theorem noXK_ok {r : Res (SV × Store)} {Q : SV × Store → Prop} {E E' : Exc → Slots → Store → Prop} (h : holds (noXK r) Q E) : holds r Q E' := by
  cases r with
  | ok a => exact h
  | exc _ _ _ => exact h.elim
  | stuck => exact h
end
end DL

namespace DL
open PySem PySem.Spec PyProof.Rows L2 PySem.W

section
variable {prog : Program} {w : World} {A : Around} {s : Shared}
end
end DL

namespace DL
open PySem PySem.Spec PyProof.Rows L2 LamX

section
variable {X : Cx} {pins : List (Addr × Obj)} {σ : L2.St} {H : Hp} {s : Shared}
end
section
variable {prog : Program} {w : World} {A : Around} {E : Value → Shared → Prop} {s : Shared}
def KeyN (hb : Heap) (ps : List PyData) (s₁ : Shared) (v : Value) (s₂ : Shared) : Prop := ∃ h' tk a o vs n, s₂ = { s₁ with heap := h', toks := tk } ∧ (∀ b o, s₁.heap.get? b = some o → h'.get? b = some o) ∧ v = .ref a ∧ s₁.heap.objs.size ≤ a ∧ h'.get? a = some o ∧ o.cls = .type "tuple" ∧ o.data = .seq vs n ∧ ReadsAll hb vs.toList ps []
theorem KeyN.pure {hb : Heap} {ps : List PyData} {s₁ s₂ : Shared} {v : Value} (k : KeyN hb ps s₁ v s₂) (h : ∀ b o, hb.get? b = some o → s₁.heap.get? b = some o) : PySem.W.KeyPure (.tuple ps) s₁ v s₂ := by
  obtain ⟨h', tk, a, o, vs, n, rfl, k1, rfl, k2, k3, k4, k5, k6⟩ := k
  exact ⟨h', tk, rfl, k1, .tuple k3 k4 k5 (ReadsAll.keeps (fun b o e => k1 b o (h b o e)) k6)⟩
end
def minP {α : Type} (kd : α → PyData) (x : α) (xs : List α) : α := xs.foldl (fun a y => if PySem.W.dataLt (kd y) (kd a) then y else a) x
end DL

namespace DL
open PySem PySem.Spec PyProof.Rows L2 LamX

section
variable {P : Program} {w : World} {K : PySem.W.Frag} {mg : Str → Option Value} {base : Heap}
end
abbrev KG := D → Option (List PyData)
def keysG (kG : KG) : List D → Option (List (D × List PyData))
  | [] => some []
  | d :: ds => match kG d, keysG kG ds with
    | some k, some r => some ((d, k) :: r)
    | _, _ => none
def kd {α : Type} (p : α × List PyData) : PyData := .tuple p.2
def ksOk (ps : List (D × List PyData)) : Bool := ps.all fun p => decide ((kd p).depth ≤ 20) && !p.2.isEmpty && ps.all fun q => PySem.W.alike (kd p) (kd q)
def sortK (ps : List (D × List PyData)) : List D := (ps.mergeSort (PySem.W.dataLe false kd)).map (·.1)
def sortLG (kG : KG) (c : Bool) (a : SV) (S : Store) : Res (SV × Store) := match rdS S a with
  | some xs => match allFr xs with
    | some ds => match keysG kG ds with
      | some ps => if ksOk ps = true then newL0 c ((sortK ps).map SV.fr) S else .stuck
      | none => .stuck
    | none => .stuck
  | none => .stuck
def minLG (kG : KG) (a : SV) (S : Store) : Res (SV × Store) := match rdS S a with
  | some xs => match allFr xs with
    | some ds => match keysG kG ds with
      | some (p :: ps) => if ksOk (p :: ps) = true then okV (minP kd p ps).1 S else .stuck
      | _ => .stuck
    | none => .stuck
  | none => .stuck
section
variable {X : Cx} {W : XW X.K} {a : Expr} {ma : EM} {pos : Pos}
def eSortL (kG : KG) (c : Bool) (m : EM) : EM := fun rho S => (m rho S).bind fun x => sortLG kG c x.1 x.2
def eMinL (kG : KG) (m : EM) : EM := fun rho S => (m rho S).bind fun x => minLG kG x.1 x.2
end
end DL

namespace DL
open PySem PySem.Spec PyProof.Rows L2

section
variable {P : Program} {w : World} {K : PySem.W.Frag} {d : Addr} {o : Obj} {es : Array DictEntry} {ep : Nat} {tg : Expr}
end
section
variable {X : Cx} {tg e : Expr} {td : TE} {apos cpos : Pos}
end
def iVlT (m : EM) : IM := fun rho S => (m rho S).bind fun x => match lkd x.2 x.1 with
  | some kvs => .ok (⟨kvs.map (·.2), ktP⟩, x.2)
  | none => .stuck
section
variable {X : Cx} {W : XW X.K} {a b c : Expr} {ma mb mc : EM} {pos : Pos}
end
def eProp (cc : Bool) (n : Str) (f : FnM) (o : EM) : EM := fun rho S => (o rho S).bind fun x => match insOf x.2 x.1 with
  | some (n', _) => if n' = n then (noX (f [x.1] x.2)).bind (back cc) else .stuck
  | none => .stuck
section
variable {X : Cx} {W : XW X.K} {a : Expr} {ma : EM} {pos : Pos}
end
def spX (K : PySem.W.Frag) (fs : List Str) : Sp := fun vs H Q _ => ∃ (a C : Addr) (ws : List V), vs = .ref a :: ws ∧ ws.length = fs.length ∧ OexC K C ∧ (∀ f ∈ fs, PySem.W.findIn K (.ref C) f = some none) ∧ H a = some (exo a C none) ∧
  ∀ (dx : Addr) (H' : Hp), H dx = none → dx ≠ a → H' a = some (exo a C (some dx)) → H' dx = some (exd dx (fs.zip ws).reverse) → (∀ b, b ≠ a → b ≠ dx → H' b = H b) → Q .non H'
theorem spX1_len {K : PySem.W.Frag} {f p : Str} (vs : List V) (H : Hp) (Q : VK) (E : XK) (h : spX K [f] vs H Q E) : vs.length = (["self", p] : List Str).length := by
  obtain ⟨a, C, ws, rfl, h, _⟩ := h
  simp [h]
theorem xread1 {K : PySem.W.Frag} {vs : List V} {H : Hp} {Q : VK} {E : XK} {z f p : Str} (h : spX K [f] vs H Q E) :
    tSeq (tDrop (tVeI K (tCons (tVar 0) (tCons (tC (.str z)) tNil)))) (tSeq (tOst K f (tVar 0) (tVar 1)) tNext) { nx := fun _ H' => Q .non H', rt := Q } (L2.start ["self", p] vs) H := by
  obtain ⟨a, C, ws, rfl, hl, T, hf, ea, q⟩ := h
  match ws, hl with
  | [v1], _ =>
    refine ⟨.ref a, rfl, a, C, [.str z], rfl, (by simp), T, ea, ?_⟩
    refine ⟨v1, rfl, .ref a, rfl, a, C, rfl, T, hf f (by simp), .inl ⟨ea, fun dx hd ne => q dx _ hd ne upd_same (by rw [upd_ne ne, upd_same]; rfl) fun b h1 h2 => by rw [upd_ne h1, upd_ne h2]⟩⟩
structure ExF (P : Program) (w : World) (K : PySem.W.Frag) (mg : Str → Option Value) (base : Heap) (k : Nat) (C : Str) (fs : List Str) : Prop where
  ex : ∃ fd ps, OxC K (He.ga K C) (He.ma K (He.ga K C) "__init__") ∧ FnOk P w K mg base CX0 k (He.ma K (He.ga K C) "__init__") fd ps (spX K fs) ∧ Binds K fd ps [] ∧ mg C = some (.ref (He.ga K C)) ∧ ∀ f ∈ fs, L2.XfC K (He.ga K C) ∧ PySem.W.findIn K (.ref (He.ga K C)) f = some none
theorem xf_nil {K : PySem.W.Frag} {C : Str} : ∀ f ∈ ([] : List Str), L2.XfC K (He.ga K C) ∧ PySem.W.findIn K (.ref (He.ga K C)) f = some none := fun _ h => nomatch h
theorem xf_of {K : PySem.W.Frag} {C f : Str} (c : fcXf C f K = true) : L2.XfC K (He.ga K C) ∧ PySem.W.findIn K (.ref (He.ga K C)) f = some none := by
  unfold fcXf at c
  rw [Bool.and_eq_true] at c
  exact ⟨L2.xfB_ok c.1, of_decide_eq_true c.2⟩
theorem xf_cons {K : PySem.W.Frag} {C f : Str} {fs : List Str} (c : fcXf C f K = true) (h : ∀ f ∈ fs, L2.XfC K (He.ga K C) ∧ PySem.W.findIn K (.ref (He.ga K C)) f = some none) : ∀ g ∈ f :: fs, L2.XfC K (He.ga K C) ∧ PySem.W.findIn K (.ref (He.ga K C)) g = some none := fun g hg =>
  (List.mem_cons.mp hg).elim (fun e => e ▸ xf_of c) (h g)
theorem exf_of {P : Program} {w : World} {K : PySem.W.Frag} {mg : Str → Option Value} {base : Heap} {k : Nat} {C : Str} {fs ps : List Str} {fd : FuncData} (g : mg C = some (.ref (He.ga K C))) (T : OxC K (He.ga K C) (He.ma K (He.ga K C) "__init__"))
    (F : FnOk P w K mg base CX0 k (He.ma K (He.ga K C) "__init__") fd ps (spX K fs)) (hb : Binds K fd ps []) (h : ∀ f ∈ fs, L2.XfC K (He.ga K C) ∧ PySem.W.findIn K (.ref (He.ga K C)) f = some none) : ExF P w K mg base k C fs := ⟨fd, ps, T, F, hb, g, h⟩
def sRsF (C : Str) (fs : List Str) (m : AM) : SM := fun rho S => (m rho S).bind fun x => match allFr x.1 with
  | some ds => if ds.length = fs.length ∧ fs.length ≤ 900 ∧ fs ≠ [] then .exc ⟨C, (fs.zip ds).reverse⟩ rho x.2 else .stuck
  | none => .stuck
theorem denF_zip {K : PySem.W.Frag} {F : Hp} : ∀ {fs : List Str} {vs : List V} {ds : List D}, Dens K F vs ds → DenF K F (fs.zip vs) (fs.zip ds)
  | [], _, _, _ => by simp; exact .nil
  | _ :: _, _, _, .nil => .nil
  | _ :: fs, _, _, .cons a r => .cons a (denF_zip r)
theorem denF_app {K : PySem.W.Frag} {F : Hp} : ∀ {vs ws : List (Str × V)} {ds es : List (Str × D)}, DenF K F vs ds → DenF K F ws es → DenF K F (vs ++ ws) (ds ++ es)
  | _, _, _, _, .nil, s => s
  | _, _, _, _, .cons a r, s => .cons a (denF_app r s)
theorem denF_rev {K : PySem.W.Frag} {F : Hp} : ∀ {vs : List (Str × V)} {ds : List (Str × D)}, DenF K F vs ds → DenF K F vs.reverse ds.reverse
  | _, _, .nil => .nil
  | _, _, .cons (x := x) a r => by
    rw [List.reverse_cons, List.reverse_cons]
    exact denF_app (denF_rev r) (.cons a .nil)
theorem densSs {K : PySem.W.Frag} {ph : List Addr} {H : Hp} : ∀ {ds : List D} {vs : List V}, DenSs K ph H vs (ds.map SV.fr) → Dens K (hide ph H) vs ds
  | [], _, .nil => .nil
  | _ :: _, _, .cons h t => .cons h (densSs t)
section
variable {X : Cx} {Wq : WX} {pos p : Pos} {e : Expr} {es : List Expr} {m : AM}
theorem psd_raiseF {C : Str} {fs : List Str} {k : Nat} (hc : X.calm = true) (tk : Takes X Wq) (T : ExF X.prog X.w X.K X.mg X.base k C fs) (hr : Room (k + 1) X.A) (ha : PDA X (XW.of X.K Wq) (e :: es) m) (hg : Gl X C := by rfl) (hdb : (C == ("__debug__" : Str)) = false := by decide)
    {pos2 : Pos} (he : starEach (e :: es) X.env = (false, eval e X.env) :: starEach es X.env := by rfl) (hpl : (backTo pos2 (starEach es X.env)).any (·.1) = false := by rfl) :
    PSD X (XW.of X.K Wq) (.Raise (some (.Call (.Name C p) (e :: es) [] pos2)) none pos) (sRsF C fs m) := by
  obtain ⟨fd, ps, O, F, hb, g, hx⟩ := T.ex
  obtain ⟨t, pa, st⟩ := ha.ex
  refine ⟨_, L2.ps_raise hc tk (pmk_oex O.ox O.iC O.tI F hr hb .nil pass0 hg g pa hdb he hpl), fun ph S H sg rho Dn gd so h => ?_⟩
  refine st ph S H sg rho _ gd so (holds_imp (holds_bind h) (fun x hx' => ?_) fun _ _ _ q => q)
  intro ph1 vs H1 x1 g1 d1
  split at hx'
  · rename_i ds hds
    have d1 := d1
    rw [allFr_eq hds] at d1
    split at hx'
    · rename_i hl
      obtain ⟨hl, hl2, hne⟩ := hl
      have hvl : vs.length = fs.length := by rw [d1.length, List.length_map, hl]
      refine ⟨by omega, fun a na => ?_⟩
      rw [List.append_nil]
      refine ⟨a, _, vs, rfl, hvl, O.ox, fun f hf => (hx f hf).2, upd_same, fun dx H' hd ne ea ed hk => ?_⟩
      rw [upd_ne ne] at hd
      refine ⟨rfl, dx, _, ea, ed, hd, ?_⟩
      have e : upd (del H' a) dx (.xd (fs.zip vs).reverse) = upd H1 dx (.xd (fs.zip vs).reverse) := by
        funext b
        by_cases z : b = dx
        · rw [z, upd_same, upd_same]
        · rw [upd_ne z, upd_ne z]
          by_cases z2 : b = a
          · rw [z2, del_same, na]
          · rw [del_ne z2, hk b z2 z, upd_ne z2]
      rw [e]
      have x2 : Ext ph1 H1 ph1 (upd H1 dx (.xd (fs.zip vs).reverse)) := Ext.fresh hd
      refine hx' ph1 _ sg _ _ (x1.trans x2) (g1.fresh hd) ((so.mono x1).mono x2) ⟨rfl, .inr ⟨?_, dx, _, rfl, hide_of (g1.new hd) upd_same, denF_rev (denF_zip ((densSs d1).mono x2.sub))⟩⟩
      intro z
      have z2 : ((fs.zip ds).reverse).length = 0 := by rw [show (fs.zip ds).reverse = [] from z]; rfl
      rw [List.length_reverse, List.length_zip, hl, Nat.min_self] at z2
      exact hne (List.eq_nil_of_length_eq_zero z2)
    · exact hx'.elim
  · exact hx'.elim
end
def XfsOk (K : PySem.W.Frag) (f : Str) (Cs : List Str) : Prop := ∀ C ∈ Cs, L2.XfC K (He.ga K C) ∧ PySem.W.findIn K (.ref (He.ga K C)) f = some none
theorem xfs_nil {K : PySem.W.Frag} {f : Str} : XfsOk K f [] := fun _ h => nomatch h
theorem xfs_cons {K : PySem.W.Frag} {C f : Str} {Cs : List Str} (c : fcXf C f K = true) (h : XfsOk K f Cs) : XfsOk K f (C :: Cs) := fun D hD => (List.mem_cons.mp hD).elim (fun e => e ▸ xf_of c) (h D)
def eXf (a : Addr) (d : Option Addr) (f : Str) (e : Exc) (Cs : List Str) (m : EM) : EM := fun rho S => if e.cls ∈ Cs then (m rho S).bind fun x => match x.1 with
  | .fr (.exn a' (some dd) C fs) => if a' = a ∧ some dd = d ∧ C = e.cls then match fs.lookup f with
    | some v => .ok (.fr v, x.2)
    | none => .stuck else .stuck
  | _ => .stuck else .stuck
section
variable {X : Cx} {a : Addr} {oe : Obj} {d : Option Addr} {pn : List (Addr × Obj)} {ex : Expr} {m : EM} {pos : Pos} {f : Str} {e : Exc} {Cs : List Str}
theorem pd_xf {W : XW X.K} (T : XfsOk X.K f Cs) (hz : Zc (.ref (He.ga X.K e.cls)) d oe) (hf : ∃ vs, oe.data = .fields vs) (he : PD (X.suite a ((a, oe) :: pn)) W ex m) (hb : attributeBase ex f X.env (eval ex X.env) = eval ex X.env := by rfl) :
    PD (X.suite a ((a, oe) :: pn)) W (.Attribute ex f pos) (eXf a d f e Cs m) := by
  obtain ⟨t, p, s⟩ := he.ex
  by_cases hm : e.cls ∈ Cs
  · obtain ⟨h1, h2⟩ := T _ hm
    refine ⟨_, pe_xf h1 h2 hz hf p hb, fun ph S H sg rho Q g so h => ?_⟩
    unfold eXf at h
    rw [if_pos hm] at h
    refine s ph S H sg rho _ g so (holds_imp (holds_bind h) (fun x hx => ?_) fun _ _ _ q => q)
    intro ph1 v1 H1 x1 g1 d1
    split at hx
    · rename_i a' dd C fs hxe
      split at hx
      · rename_i hc
        obtain ⟨rfl, hd, rfl⟩ := hc
        split at hx
        · rename_i dv hl
          rw [hxe] at d1
          cases (show Den X.K (hide ph1 H1) v1 (.exn a' (some dd) e.cls fs) from d1) with
          | exn e1 e2 =>
            obtain ⟨v, hv, dv'⟩ := DenF.look e2 hl
            exact ⟨rfl, rfl, dd, _, v, hd.symm, (hide_some e1).2, hv, hx ph1 v H1 x1 g1 dv'⟩
        · exact hx.elim
      · exact hx.elim
    · exact hx.elim
  · refine ⟨fun _ _ _ => False, ⟨fun _ _ _ _ _ _ h => h.elim⟩, fun ph S H sg rho Q g so h => ?_⟩
    unfold eXf at h
    rw [if_neg hm] at h
    exact h.elim
end
def eMethX (cc : Bool) (tbl : Tbl) (nm : Str) (o : EM) (m : AM) : EM := fun rho S => (o rho S).bind fun x => match metOf tbl nm x.2 x.1 with
  | some f => (m rho x.2).bind fun y => (cutX y.2.length rho (f (x.1 :: y.1) y.2)).bind (back cc)
  | none => .stuck
section
variable {X : Cx} {Wq : WX} {o e : Expr} {es : List Expr} {mo : EM} {m : AM} {nm : Str} {tbl : Tbl} {apos pos : Pos} {k : Nat}
end
end DL

namespace DL
open PySem PySem.Spec PyProof.Rows L2 PySem.W PySem.SeqAt

section
variable {A : Around} {s : Shared}
end
end DL

namespace DL
open PySem PySem.Spec PyProof.Rows L2
section
variable {prog : Program} {w : World} {A : Around} {s : Shared} {R : Result → Shared → Prop}
end
end DL

namespace DL
open PySem PySem.Spec PyProof.Rows L2
def eMakeX (c : Bool) (n : Str) (f : FnM) (m : AM) : EM := fun rho S => (m rho S).bind fun y => (cutX y.2.length rho (f (.cell y.2.length :: y.1) (y.2 ++ [.ins n []]))).bind (mkEnd c y.2.length)
section
variable {X : Cx} {Wq : WX} {e : Expr} {es : List Expr} {m : AM} {pos p : Pos} {n : Str} {k : Nat} {f : FnM}
theorem pe_makeX {t : TA} (tk : Takes X Wq) (M : MakD X.prog X.w X.K X.mg X.base k n f) (hr : Room (k + 1) X.A) (hgd : X.A.guards = some []) (hg : Gl X n) (ha : PA X (e :: es) t)
    (hdb : (n == ("__debug__" : Str)) = false) (he : starEach (e :: es) X.env = (false, eval e X.env) :: starEach es X.env) (hpl : (backTo pos (starEach es X.env)).any (·.1) = false) :
    PE X (.Call (.Name n p) (e :: es) [] pos) (fun sg H Q => t sg H fun vs H1 => ∀ x dx, H1 x = none → H1 dx = none → dx ≠ x →
      spD X.K f (.ref x :: vs) (upd (upd H1 dx (.own x)) x (.ins (He.ga X.K n) dx [])) (fun v H2 => v = .non ∧ Q (.ref x) H2) (WE Wq sg)) := by
  obtain ⟨g, hm, Mk, F⟩ := M.ex
  refine ⟨fun pins s σ H Q I h => wpAny_Call_Name_kw (ld_glob I hg hm ?_ hdb)⟩
  refine PySem.W.callWith_K (h₀ := X.base) I.ok.mod.kin Mk.kp (thn (ha.run pos pins s σ H _ I h) fun us s1 ⟨vs, H1, I1, r, q⟩ => ⟨I1.kIn, ?_⟩) he hpl
  have hq := q (s1.heap.objs.size + 1) s1.heap.objs.size (I1.hok.fresh (Nat.le_succ _)) (I1.hok.fresh (Nat.le_refl _)) (Nat.ne_of_lt (Nat.lt_succ_self _))
  have I2 := Inv.made (C := He.ga X.K n) I1
  obtain ⟨fd, ps, _, _, hb, FF⟩ := F.ex
  have r2 : Vals (V.ref (s1.heap.objs.size + 1) :: vs) (Value.ref (s1.heap.objs.size + 1) :: us) := .cons rfl r
  have hl : (Value.ref (s1.heap.objs.size + 1) :: us ++ []).length = ps.length := by
    rw [List.append_nil, ← r2.length]
    exact FF.len _ _ _ _ hq
  have bt := hb _ (Value.ref (s1.heap.objs.size + 1) :: us) I2.kIn hl
  rw [List.append_nil] at bt
  refine wpAny_call (make_map (f := g) I1.kIn Mk.makes Mk.init (beq_iff_eq.mp Mk.fn) (codeAny_mono (FF.run _ X.stack _ _ ⟨Value.ref (s1.heap.objs.size + 1) :: us, []⟩ (Value.ref (s1.heap.objs.size + 1) :: us) _ _ (WE Wq σ) (guards_make hgd _ us) (hr.make _ us [])
    (I2.env0.make _ us []) bt r2 hq) fun r s' hq' => ?_))
  cases r with
  | error e => exact passAt tk σ pins _ _ e s' I2 hq'
  | ok fl =>
    cases fl with
    | ret u =>
      obtain ⟨v, H', I3, rv, ev, q3⟩ := I2.after hq'
      subst ev
      exact ⟨rv, ⟨V.ref (s1.heap.objs.size + 1), H', I3, rfl, q3⟩⟩
    | next => exact False.elim hq'
    | brk => exact False.elim hq'
    | cont => exact False.elim hq'
theorem pd_makeX (c : Bool) (tk : Takes X Wq) (M : MakD X.prog X.w X.K X.mg X.base k n f) (hr : Room (k + 1) X.A) (hgd : X.A.guards = some []) (ha : PDA X (XW.of X.K Wq) (e :: es) m) (hg : Gl X n := by rfl)
    (hdb : (n == ("__debug__" : Str)) = false := by decide) (he : starEach (e :: es) X.env = (false, eval e X.env) :: starEach es X.env := by rfl) (hpl : (backTo pos (starEach es X.env)).any (·.1) = false := by rfl) :
    PD X (XW.of X.K Wq) (.Call (.Name n p) (e :: es) [] pos) (eMakeX c n f m) := by
  obtain ⟨t, pt, st⟩ := ha.ex
  refine ⟨_, pe_makeX tk M hr hgd hg pt hdb he hpl, fun ph S H sg rho Q gd so h => st ph S H sg rho _ gd so (holds_imp (holds_bind h) (fun y hy => ?_) fun _ _ _ q => q)⟩
  intro ph1 vs H1 x1 g1 d1 x dx hx hdx hne
  obtain ⟨xs, S1⟩ := y
  dsimp only at *
  have xa : DL.Ext ph1 H1 ph1 (upd H1 dx (.own x)) := Ext.fresh hdx
  have ga := g1.fresh (o := .own x) hdx
  have hx2 : upd H1 dx (.own x) x = none := by rw [upd_ne (fun e => hne e.symm)]; exact hx
  have xb : DL.Ext ph1 (upd H1 dx (.own x)) (ph1 ++ [x]) (upd (upd H1 dx (.own x)) x (.ins (He.ga X.K n) dx [])) := Ext.cell hx2
  have gb : Good X.K (ph1 ++ [x]) (upd (upd H1 dx (.own x)) x (.ins (He.ga X.K n) dx [])) (S1 ++ [.ins n []]) := ga.cell hx2 ⟨dx, [], upd_same, .nil⟩
  refine ⟨ph1 ++ [x], S1 ++ [.ins n []], .cell S1.length :: xs, gb, .cons ⟨x, by rw [← g1.len]; simp, rfl⟩ (DenSs.mono xb (DenSs.mono xa d1)), ?_⟩
  have so1 := so.mono x1
  cases hf : f (.cell S1.length :: xs) (S1 ++ [.ins n []]) with
  | stuck => rw [hf] at hy; exact hy.elim
  | exc er r' S' =>
    rw [hf] at hy
    unfold cutX at hy
    dsimp only at hy
    split at hy
    · rename_i hb
      intro ph' H' cls d x' g' ed
      have x2 : DL.Ext ph1 H1 ph' H' := xa.trans (xb.trans x')
      have hm : ∀ a ∈ ph1, a ∈ ph' := fun a ha => by
        obtain ⟨ps, rfl, _⟩ := x2.pre
        exact List.mem_append_left _ ha
      exact hy ph1 H' sg cls d (x1.trans x2.back) (g1.cut x2 g' hb) (so1.mono x2.back) (ed.mono (sub_hide hm))
    · exact hy.elim
  | ok r =>
    rw [hf] at hy
    have hr2 : holds (mkEnd c S1.length r) (post X.K ph H Q) ((XW.of X.K Wq).rel ph H) := hy
    intro v H3 x3 g3 d3
    have x13 : DL.Ext ph1 H1 (ph1 ++ [x]) H3 := xa.trans (xb.trans x3)
    obtain ⟨rv, S3⟩ := r
    unfold mkEnd at hr2
    dsimp only at hr2 g3 d3
    split at hr2
    · refine ⟨d_non (show DenS X.K (ph1 ++ [x]) H3 v (.fr .non) from d3), ?_⟩
      split at hr2
      · rename_i m' fs hk
        have hxk : (ph1 ++ [x])[S1.length]? = some x := by rw [← g1.len]; simp
        obtain ⟨q, hq1, dx', vs', h4, h5⟩ := g3.at hk
        rw [hxk] at hq1; cases hq1
        cases c with
        | true => exact hr2 (ph1 ++ [x]) (.ref x) H3 (x1.trans x13) g3 ⟨x, hxk, rfl⟩
        | false =>
          simp only [Bool.false_eq_true, if_false] at hr2
          split at hr2
          · rename_i hb
            split at hr2
            · rename_i ds hds
              refine hr2 ph1 (.ref x) H3 (x1.trans x13.back) (g1.cut x13 g3 hb) (.ins (hide_of (g1.new hx) h4) ?_)
              have dd := denF_of h5 hds
              exact DenF.mono (sub_hide fun a m => List.mem_append_left _ m) dd
            · exact hr2.elim
          · exact hr2.elim
      · exact hr2.elim
    · exact hr2.elim
end
section
variable {X : Cx} {W : XW X.K} {e : Expr} {es : List Expr} {ta : TA} {m : AM} {pos p : Pos}
end
end DL

namespace DL
open PySem PySem.Spec PyProof.Rows L2
end DL

namespace DL
open PySem PySem.Spec PyProof.Rows L2
section
variable {X : Cx} {W : XW X.K} {a b : Expr} {pos p tpos : Pos} {elts : List Expr} {kk : Nat} {m : AM}
end
section
variable {X : Cx} {W : XW X.K} {a b c : Expr} {ma mb mc : EM} {pos : Pos} {n : Str} {kvs : List (Str × Str)}
end
section
variable {X : Cx} {W : XW X.K} {a b c : Expr} {ma mb mc : EM} {pos : Pos}
end
end DL

namespace DL
open PySem PySem.Spec PyProof.Rows L2
section
variable {X : Cx} {W : XW X.K} {e : Expr} {es : List Expr} {m : AM} {pos p : Pos} {n : Str} {k : Nat} {f : KnM}
end
end DL

namespace DL
open PySem PySem.Spec PyProof.Rows L2
section
variable {X : Cx} {W : XW X.K} {a b c : Expr} {ma mb mc : EM} {pos : Pos} {tg : Expr}
end
section
variable {X : Cx} {W : XW X.K} {a b c : Expr} {ma mb mc : EM} {pos : Pos} {tg : Expr}
end
section
variable {X : Cx} {W : XW X.K} {a b c : Expr} {ma mb mc : EM} {pos : Pos}
end
end DL

namespace DL
open PySem PySem.Spec PyProof.Rows L2
section
variable {P : Program} {w : World} {K : PySem.W.Frag} {mg : Str → Option Value} {base : Heap}
end
section
variable {X : Cx} {W : XW X.K} {pos : Pos}
end
end DL

namespace DL
open PySem PySem.Spec PyProof.Rows L2
section
variable {X : Cx} {Wq : WX} {e : Expr} {es : List Expr} {m : AM} {pos p : Pos} {n : Str} {k : Nat} {f : KnM}
end
end DL

namespace DL
open PySem PySem.Spec PyProof.Rows L2
def isiAG : GA := fun as S => match as with
  | [.cell k, y] => match S[k]? with
    | some (.tup _) => isiTG [.cell k, y] S
    | _ => isiG [.cell k, y] S
  | _ => isiG as S
section
variable {X : Cx} {W : XW X.K} {a tg : Expr} {ma : EM}
theorem isiA_ok : OpA X W (rIsi X.K) isiAG := by
  intro ph S H xs as Q g d h
  unfold isiAG at h
  split at h
  · split at h
    · exact isiT_ok ph S H xs _ Q g d h
    · exact isi_ok ph S H xs _ Q g d h
  · exact isi_ok ph S H xs _ Q g d h
end
end DL

namespace DL
open PySem PySem.Spec PyProof.Rows L2
section
variable {X : Cx} {W : XW X.K} {a b c : Expr} {ma mb mc : EM} {pos : Pos}
end
end DL

namespace DL
open PySem PySem.Spec PyProof.Rows L2
section
variable {X : Cx}
end
section
variable {X : Cx} {W : XW X.K}
end
end DL

namespace DL
open PySem PySem.Spec PyProof.Rows L2
section
variable {X : Cx} {W : XW X.K} {a b c : Expr} {ma mb mc : EM} {pos p p2 pos2 q : Pos}
end
section
variable {X : Cx} {pins : List (Addr × Obj)} {σ : L2.St} {H : Hp} {s : Shared} {a : Addr} {r : Value} {d : V} {k : List Key} {b : Addr} {A : Around} {E : Value → Shared → Prop}
end
section
variable {X : Cx} {W : XW X.K} {a b c : Expr} {ma mb mc : EM}
end
end DL

namespace DL
open PySem PySem.Spec PyProof.Rows L2
section
variable {X : Cx} {W : XW X.K}
end
end DL

namespace DL
open PySem PySem.Spec PyProof.Rows L2
section
variable {X : Cx} {W : XW X.K} {a : Expr} {ma : EM} {pos : Pos}
end
end DL

namespace DL
open PySem PySem.Spec PyProof.Rows L2
section
variable {prog : Program} {w : World} {A : Around} {E : Value → Shared → Prop} {s : Shared}
end
section
variable {P : Program} {w : World} {A : Around} {E : Value → Shared → Prop} {s : Shared}
end
end DL

namespace DL
open PySem PySem.Spec PyProof.Rows L2
section
variable {P : Program} {w : World} {A : Around} {E : Value → Shared → Prop} {s : Shared}
end
section
variable {X : Cx}
end
section
variable {K : PySem.W.Frag} {ph : List Addr} {H : Hp}
end
section
variable {X : Cx} {W : XW X.K} {a : Expr} {m : EM} {p p2 q pos : Pos}
end
end DL

namespace DL
open PySem PySem.Spec PyProof.Rows L2
section
variable {prog : Program} {w : World} {A : Around} {E : Value → Shared → Prop} {s : Shared}
end
section
variable {X : Cx}
end
section
variable {X : Cx} {W : XW X.K}
end
end DL

namespace DL
open PySem PySem.Spec PyProof.Rows L2
section
variable {X : Cx} {W : XW X.K} {a b c : Expr} {ma mb mc : EM}
end
end DL

namespace DL
open PySem PySem.Spec PyProof.Rows L2
section
variable {X : Cx} {W : XW X.K}
end
end DL

namespace DL
open PySem PySem.Spec PyProof.Rows L2
section
variable {X : Cx} {W : XW X.K}
end
end DL

namespace DL
open PySem PySem.Spec PyProof.Rows L2
section
variable {X : Cx} {W : XW X.K} {a b : Expr} {ma mb : EM} {pos : Pos}
end
end DL

namespace DL
open PySem PySem.Spec PyProof.Rows L2
section
variable {M : Model} {A : Around} {E : Value → Shared → Prop} {s : Shared} {env : Env}
end
section
variable {X : Cx} {Wq : WX}
def TakesF (X : Cx) (W : WX) : Prop := ∀ sg, PassesAt (L2.CX X.prog X.w) X sg (WE W sg)
theorem Takes.f (t : Takes X Wq) : TakesF X Wq := fun sg => passAt t sg
end
end DL

namespace DL
open PySem PySem.Spec PyProof.Rows L2
section
variable {X : Cx} {Wq : WX}
end
section
variable {X : Cx} {Wq : WX} {a b c tg : Expr} {pos : Pos}
end
end DL

namespace DL
open PySem PySem.Spec PyProof.Rows L2 L2H
section
variable {P : Program} {w : World} {K : PySem.W.Frag} {mg : Str → Option Value} {base : Heap}
end
theorem _root_.L2H.RoomH.units {k : Nat} {A : Around} (hr : RoomH k A) : A.units + 64 < cLine := by
  have := hr.un
  omega
section
variable {X : Cx} {W : XW X.K} {e0 : Expr} {es : List Expr} {pos p : Pos} {m : AM} {a : Addr} {oe : Obj} {e : Exc} {d : Option Addr}
end
section
variable {X : Cx} {W : XW X.K}
end
end DL

namespace DL
open PySem PySem.Spec PyProof.Rows L2

def allSnK (f : SV → Option D) : List (Key × SV) → Option (List (Key × D))
  | [] => some []
  | (k, x) :: xs => match f x, allSnK f xs with
    | some d, some ds => some ((k, d) :: ds)
    | _, _ => none
def snapN (S : Store) : Nat → SV → Option D
  | 0, x => snap S x
  | _ + 1, .fr d => some d
  | n + 1, .cell k => match S[k]? with
    | some (.lst xs) => (allSn (snapN S n) xs).map D.lst
    | some (.tup xs) => (allSn (snapN S n) xs).map D.tup
    | some (.dic kvs) => (allSnK (snapN S n) kvs).map D.dct
    | _ => none
theorem allSnK_ok {K : PySem.W.Frag} {ph : List Addr} {H : Hp} {f : SV → Option D} (hf : ∀ {v : V} {x : SV} {d : D}, DenS K ph H v x → f x = some d → Den K H v d) :
    ∀ {vs : List (Key × V)} {xs : List (Key × SV)} {ds : List (Key × D)}, DenSK K ph H vs xs → allSnK f xs = some ds → DenK K H vs ds
  | [], [], ds, .nil, e => by simp [allSnK] at e; subst e; exact .nil
  | (k1, v) :: vs, (k2, x) :: xs, ds, .cons h t, e => by
    obtain ⟨h1, h2⟩ := h
    dsimp only at h1 h2
    subst h1
    unfold allSnK at e
    split at e
    · rename_i d r q1 q2
      cases e
      exact .cons (hf h2 q1) (allSnK_ok hf t q2)
    · cases e
theorem allSn_ok {K : PySem.W.Frag} {ph : List Addr} {H : Hp} {S : Store} {f : SV → Option D} (hf : ∀ {v : V} {x : SV} {d : D}, DenS K ph H v x → f x = some d → Den K H v d) :
    ∀ {vs : List V} {xs : List SV} {ds : List D}, DenSs K ph H vs xs → allSn f xs = some ds → Dens K H vs ds
  | _, _, ds, .nil, e => by simp [allSn] at e; subst e; exact .nil
  | _, _, ds, .cons h t, e => by
    unfold allSn at e
    split at e
    · rename_i d r h1 h2
      cases e
      exact .cons (hf h h1) (allSn_ok (S := S) hf t h2)
    · cases e
theorem snapN_ok {K : PySem.W.Frag} {ph : List Addr} {H : Hp} {S : Store} (g : Good K ph H S) : ∀ (n : Nat) {v : V} {x : SV} {d : D}, DenS K ph H v x → snapN S n x = some d → Den K H v d
  | 0, v, x, d, h, e => snap_ok g h e
  | n + 1, v, .fr d', d, h, e => by
    simp only [snapN, Option.some.injEq] at e
    subst e
    exact Den.mono hide_sub h
  | n + 1, v, .cell k, d, h, e => by
    obtain ⟨p, h1, rfl⟩ := h
    unfold snapN at e
    split at e
    · rename_i xs hk
      simp only [Option.map_eq_some_iff] at e
      obtain ⟨ds, h2, rfl⟩ := e
      obtain ⟨q, h3, vs, h4, h5⟩ := g.at hk
      rw [h1] at h3; cases h3
      exact .lst h4 (allSn_ok (S := S) (fun a b => snapN_ok g n a b) h5 h2)
    · rename_i xs hk
      simp only [Option.map_eq_some_iff] at e
      obtain ⟨ds, h2, rfl⟩ := e
      obtain ⟨q, h3, vs, h4, h5⟩ := g.at hk
      rw [h1] at h3; cases h3
      exact .tup h4 (allSn_ok (S := S) (fun a b => snapN_ok g n a b) h5 h2)
    · rename_i xs hk
      simp only [Option.map_eq_some_iff] at e
      obtain ⟨ds, h2, rfl⟩ := e
      obtain ⟨q, h3, vs, h4, h5⟩ := g.at hk
      rw [h1] at h3; cases h3
      exact .dct h4 (allSnK_ok (fun a b => snapN_ok g n a b) h5 h2)
    · cases e
def reprNG : GA := fun as S => match as with
  | [a] => match snapN S 2 a with
    | some d => if rOkX d then okV (.str (rTxtX d)) S else .stuck
    | none => .stuck
  | _ => .stuck
section
variable {X : Cx} {W : XW X.K}
theorem reprN_ok : OpA X W (rReprX X.K) reprNG := by
  intro ph S H xs as Q g d h
  unfold reprNG at h
  split at h
  · obtain ⟨v, rfl, dv⟩ := one_of d
    split at h
    · rename_i e he
      split at h
      · rename_i hp
        exact ⟨v, e, rfl, snapN_ok g 2 dv he, hp, fin_v g (.str _) h⟩
      · exact h.elim
    · exact h.elim
  · exact h.elim
end

def tupCG : GA := fun as S => match as with
  | [a] => match rdS S a with
    | some xs => .ok (.cell S.length, S ++ [.tup xs])
    | none => .stuck
  | _ => .stuck
section
variable {X : Cx} {W : XW X.K}
theorem tupC_ok : OpA X W (fun xs H Q => ∃ p ys, xs = [V.ref p] ∧ ((SqL X.K H p ys ∧ ∀ l, H l = none → Q (.ref l) (upd H l (.tup ys))) ∨ (SqT X.K H p ys ∧ Q (.ref p) H))) tupCG := by
  intro ph S H xs as Q g d h
  unfold tupCG at h
  split at h
  · rename_i a
    obtain ⟨v, rfl, dv⟩ := one_of d
    split at h
    · rename_i ys hy
      obtain ⟨p, vs, rfl, s, r⟩ := rdS_ok g dv hy
      refine ⟨p, vs, rfl, .inl ⟨s, fun l hl => ?_⟩⟩
      have e : Ext ph H (ph ++ [l]) (upd H l (.tup vs)) := Ext.cell hl
      exact h (ph ++ [l]) (.ref l) _ e (g.cell hl ⟨vs, upd_same, r.mono e⟩) ⟨l, by rw [← g.len]; simp, rfl⟩
    · exact h.elim
  · exact h.elim
end

abbrev TblK := List (Str × KnM)
structure MetKD (P : Program) (w : World) (K : PySem.W.Frag) (mg : Str → Option Value) (base : Heap) (k : Nat) (nm n : Str) (m : KnM) : Prop where
  ex : ∃ f, Cls K (He.ga K n) ∧ Meth K (He.ga K n) nm f ∧ FunAtK P w K mg base k f m
def MetsK (P : Program) (w : World) (K : PySem.W.Frag) (mg : Str → Option Value) (base : Heap) (k : Nat) (nm : Str) (tbl : TblK) : Prop := ∀ p ∈ tbl, MetKD P w K mg base k nm p.1 p.2
section
variable {P : Program} {w : World} {K : PySem.W.Frag} {mg : Str → Option Value} {base : Heap} {j k : Nat} {nm n : Str} {m : KnM} {tbl : TblK}
theorem FnDK.mono {f : Addr} {fd : FuncData} {ps : List Str} (F : FnDK P w K mg base j f fd ps m) (h : j ≤ k) : FnDK P w K mg base k f fd ps m :=
  ⟨F.len, fun A outer s H args us vs Q E hg hr => F.run A outer s H args us vs Q E hg (hr.mono h)⟩
theorem FunAtK.mono {f : Addr} (F : FunAtK P w K mg base j f m) (h : j ≤ k) : FunAtK P w K mg base k f m := by
  obtain ⟨fd, ps, a, b, c, d⟩ := F.ex
  exact ⟨fd, ps, a, b, c, d.mono h⟩
theorem MetKD.mono (h : MetKD P w K mg base j nm n m) (hk : j ≤ k) : MetKD P w K mg base k nm n m := by
  obtain ⟨f, a, b, c⟩ := h.ex
  exact ⟨f, a, b, c.mono hk⟩
theorem metK_of (c1 : fcCls n K = true) (c2 : fcMeth n nm K = true) (F : FunAtK P w K mg base k (He.ma K (He.ga K n) nm) m) : MetKD P w K mg base k nm n m := ⟨_, He.cls_ok c1, He.meth_ok c2, F⟩
theorem metsK_nil : MetsK P w K mg base k nm [] := fun _ h => nomatch h
theorem metsK_cons (h : MetKD P w K mg base k nm n m) (t : MetsK P w K mg base k nm tbl) : MetsK P w K mg base k nm ((n, m) :: tbl) := fun p hp => (List.mem_cons.mp hp).elim (fun e => e ▸ h) (t p)
theorem tblK_mem {n : Str} {m : KnM} : ∀ {tbl : TblK}, tbl.lookup n = some m → (n, m) ∈ tbl
  | [], h => by simp at h
  | (a, x) :: r, h => by
    rw [List.lookup_cons] at h
    cases q : n == a with
    | true =>
      rw [q] at h
      cases h
      have e : n = a := by simpa using q
      subst e
      exact List.mem_cons_self
    | false => rw [q] at h; exact List.mem_cons_of_mem _ (tblK_mem h)
end
def metOfK (tbl : TblK) (nm : Str) (S : Store) (x : SV) : Option KnM := match insOf S x with
  | some (n, fs) => if (fs.lookup nm).isNone then tbl.lookup n else none
  | none => none
def eMethK0 (tbl : TblK) (nm : Str) (o : EM) : EM := fun rho S => (o rho S).bind fun x => match metOfK tbl nm x.2 x.1 with
  | some f => noXK (f [x.1] x.2)
  | none => .stuck
section
variable {X : Cx} {W : XW X.K} {o e : Expr} {es : List Expr} {mo : EM} {m : AM} {pos apos : Pos} {nm : Str} {tbl : TblK} {k : Nat} {A : Around} {H : Hp} {s : Shared} {pins : List (Addr × Obj)} {σ : L2.St} {f : Addr} {mk : KnM}
theorem runK {us : List Value} {vs : List V} {Q : VK} (F : FunAtK X.prog X.w X.K X.mg X.base k f mk) (e0 : Env0 X.prog X.w X.K X.mg X.base A X.stack s H) (hr : Room k A) (hg : A.guards = some []) (I : Inv X pins σ H s) (r : Vals vs us) (h : spK X.K mk vs H Q E0) :
    wpAny (model X.prog X.w) A (call (.ref f) us) (EP X pins σ Q) X.xe s := by
  obtain ⟨fd, ps, _, _, hb, FF⟩ := F.ex
  have hl : (us ++ []).length = ps.length := by rw [List.append_nil, ← r.length]; exact FF.len _ _ _ _ h
  have bt := hb s us I.kIn hl
  rw [List.append_nil] at bt
  refine wpAny_call (codeAny_mono (FF.run A X.stack s H ⟨us, []⟩ us vs Q E0 hg hr e0 bt r h) fun r s' hq => ?_)
  cases r with
  | error e => exact passL pins σ H s e s' I hq
  | ok fl =>
    cases fl with
    | ret u => exact I.after hq
    | next => exact False.elim hq
    | brk => exact False.elim hq
    | cont => exact False.elim hq
abbrev tMethK (K : PySem.W.Frag) (tbl : TblK) (nm : Str) (ta : TE) (t : TA) : TE := fun sg H Q => ta sg H fun x H1 => ∃ a dx fs n f, x = .ref a ∧ H1 a = some (.ins (He.ga K n) dx fs) ∧ fs.lookup nm = none ∧ tbl.lookup n = some f ∧ t sg H1 fun vs H2 => spK K f (.ref a :: vs) H2 Q E0
theorem pe_methK0 {pl : Sem Bool} {ta : TE} (T : MetsK X.prog X.w X.K X.mg X.base k nm tbl) (hr : Room k X.A) (hgd : X.A.guards = some []) (he : PE X o ta)
    (ht : eval (.Call (.Attribute o nm apos) [] [] pos) X.env = (do
      let recv ← eval o X.env
      standAt apos.atName
      let (g, first) ← holding [recv] (getMethod recv nm pl)
      callWith pos g first (backTo pos (starEach [] X.env)) (backToKw pos (keywordEach [] X.env)))) :
    PE X (.Call (.Attribute o nm apos) [] [] pos) (tMethK X.K tbl nm ta tNil) := by
  refine ⟨fun pins s σ H Q I h => ?_⟩
  refine PySem.W.methodCall_KW (pl := pl) (thn (he.run pins s σ H _ I h) fun u s1 ⟨x, H1, I1, rx, a, dx, fs, n, f, ex, ea, l, hf, q⟩ => ?_) ht
  subst ex
  obtain rfl : u = Value.ref a := rx
  obtain ⟨g, c, hm, F⟩ := (T _ (tblK_mem hf)).ex
  refine getmeth_ok I1 ea c hm l ?_
  exact PySem.W.callWith_K0 (first := [Value.ref a]) I1.kIn hm.kp (runK (us := [.ref a]) (vs := [.ref a]) F I1.env0 hr hgd I1 (.cons rfl .nil) q)
theorem metOfK_ok {K : PySem.W.Frag} {ph : List Addr} {H : Hp} {S : Store} {v : V} {x : SV} {f : KnM} (g : Good K ph H S) (d : DenS K ph H v x) (h : metOfK tbl nm S x = some f) :
    ∃ a dx fs n, v = .ref a ∧ H a = some (.ins (He.ga K n) dx fs) ∧ fs.lookup nm = none ∧ tbl.lookup n = some f := by
  unfold metOfK at h
  split at h
  · rename_i n fs hi
    obtain ⟨a, dx, vs, rfl, h1, h2⟩ := insOf_ok g d hi
    split at h
    · rename_i hn
      exact ⟨a, dx, vs, n, rfl, h1, denSF_none h2 (by simpa using hn), h⟩
    · cases h
  · cases h
theorem pd_methK0 {pl : Sem Bool} (T : MetsK X.prog X.w X.K X.mg X.base k nm tbl) (hr : Room k X.A) (hgd : X.A.guards = some []) (ho : PD X W o mo)
    (ht : eval (.Call (.Attribute o nm apos) [] [] pos) X.env = (do
      let recv ← eval o X.env
      standAt apos.atName
      let (g, first) ← holding [recv] (getMethod recv nm pl)
      callWith pos g first (backTo pos (starEach [] X.env)) (backToKw pos (keywordEach [] X.env))) := by rfl) :
    PD X W (.Call (.Attribute o nm apos) [] [] pos) (eMethK0 tbl nm mo) := by
  obtain ⟨to, po, so'⟩ := ho.ex
  refine ⟨_, pe_methK0 T hr hgd po ht, fun ph S H sg rho Q gd so h => so' ph S H sg rho _ gd so (holds_imp (holds_bind h) (fun x hx => ?_) fun _ _ _ q => q)⟩
  intro ph1 v1 H1 x1 g1 d1
  split at hx
  · rename_i f hf
    obtain ⟨a, dx, fs, n, rfl, h1, h2, h3⟩ := metOfK_ok g1 d1 hf
    exact ⟨a, dx, fs, n, f, rfl, h1, h2, h3, ph1, x.2, [x.1], g1, .cons d1 .nil, noXK_ok (holds_imp hx (fun r hr => post.mono x1 r hr) fun _ _ _ q => q)⟩
  · exact hx.elim
end
end DL

namespace DL
open PySem PySem.Spec PyProof.Rows L2

noncomputable def lcKM (n : Nat) (lk : Store → Prop) (g : GM) (t : TM) (e : EM) (own : List Nat) (rho : Slots) : List SV → Store → Res Store
  | [], S => open Classical in if lk S then .ok S else .stuck
  | x :: xs, S => open Classical in if lk S then (g x (wipeR rho own) S).bind fun r => (t r.1 r.2).bind fun k => if k.1 then (e r.1 k.2).bind fun y => match y.2[n]? with
      | some (.lst acc) => if acc.length < sizeLine then lcKM n lk g t e own rho xs (y.2.set n (.lst (acc ++ [y.1]))) else .stuck
      | _ => .stuck
    else lcKM n lk g t e own rho xs k.2 else .stuck
section
variable {X : Cx} {W : XW X.K}
theorem lcK_snd {wi : TI} {im : IM} {is own : List Nat} {g : GM} {t : TM} {e : EM} (hown : ∀ i ∈ is, i ∈ own)
    (si : ∀ (ph : List Addr) (S : Store) (H : Hp) (sg : L2.St) (rho : Slots) (R : It → Hp → Prop), Good X.K ph H S → SlotsOk X.K ph H sg rho → holds (im rho S) (postI X.K ph H R) (W.rel ph H) → wi sg H R) :
    SndE X W (tLc wi (tOfG X.K (XW.none X.K) is g) (tOfT X.K (XW.none X.K) t) (tOf X.K (XW.none X.K) e) own) (fun rho S => (im rho S).bind fun w => (noE (lcKM w.2.length w.1.lk g t e own rho w.1.xs (w.2 ++ [.lst []]))).bind fun S' => .ok (.cell w.2.length, S')) := by
  intro ph S H sg rho Q gd so h
  refine si ph S H sg rho _ gd so (holds_imp (holds_bind h) (fun w hw => ?_) fun _ _ _ q => q)
  intro ph1 H1 J x1 g1 wk D hD
  obtain ⟨⟨xs, lk⟩, S1⟩ := w
  dsimp only at hw g1
  have so1 := so.mono x1
  have x0 : Ext ph1 H1 (ph1 ++ [D]) (upd H1 D (.lst [])) := Ext.cell hD
  have gD : Good X.K (ph1 ++ [D]) (upd H1 D (.lst [])) (S1 ++ [.lst []]) := g1.cell hD ⟨[], upd_same, .nil⟩
  have hpD : ∀ {ph' : List Addr} {H' : Hp}, Ext (ph1 ++ [D]) (upd H1 D (.lst [])) ph' H' → ph'[S1.length]? = some D := fun x' => by
    obtain ⟨ps, rfl, _⟩ := x'.pre
    have gl := g1.len
    rw [List.append_assoc, List.getElem?_append_right (by omega), show S1.length - ph1.length = 0 by omega]
    rfl
  have start0 : holds (lcKM S1.length lk g t e own rho xs (S1 ++ [.lst []])) (fun S' => post X.K ph H Q (.cell S1.length, S')) (fun _ _ _ => False) := by
    revert hw
    cases lcKM S1.length lk g t e own rho xs (S1 ++ [.lst []]) with
    | ok r => exact fun q => (fun ph' v H' a b c => q ph' v H' (by first | exact (x1.trans a) | exact a) b c)
    | exc _ _ _ => exact fun q => q.elim
    | stuck => exact fun q => q.elim
  refine ⟨fun i m H' => m = xs.length - i ∧ i ≤ xs.length ∧ ∃ ph' S', Ext (ph1 ++ [D]) (upd H1 D (.lst [])) ph' H' ∧ Good X.K ph' H' S' ∧
      holds (lcKM S1.length lk g t e own rho (xs.drop i) S') (fun S' => post X.K ph H Q (.cell S1.length, S')) (fun _ _ _ => False), ⟨_, rfl, Nat.zero_le _, ph1 ++ [D], S1 ++ [Cell.lst []], Ext.refl _ _, gD, start0⟩, ?_⟩
  rintro i m H2 ⟨rfl, hle, ph2, S2, x2, g2, h2⟩
  by_cases hi : i < xs.length
  · right
    rw [List.drop_eq_getElem_cons hi] at h2
    unfold lcKM at h2
    split at h2
    · rename_i hlk
      have hx : (⟨xs, lk⟩ : Wk).xs[i]? = some xs[i] := List.getElem?_eq_getElem hi
      refine ⟨wk.go i xs[i] _ H2 _ hx (x0.trans x2) g2 hlk, fun H' => ∃ ph' S', Ext (ph1 ++ [D]) (upd H1 D (.lst [])) ph' H' ∧ Good X.K ph' H' S' ∧
        holds (lcKM S1.length lk g t e own rho (xs.drop (i + 1)) S') (fun S' => post X.K ph H Q (.cell S1.length, S')) (fun _ _ _ => False), fun H' q => ⟨xs.length - (i + 1), by omega, rfl, hi, q⟩, fun v H3 y => ?_⟩
      obtain ⟨x3, g3, d3⟩ := wk.yld i xs[i] _ H2 _ v H3 hx (x0.trans x2) g2 hlk y
      have so3 := (so1.mono (x0.trans (x2.trans x3))).wiped own
      refine ⟨_, _, _, xs[i], g3, so3, d3, holds_imp (holds_bind h2) (fun r hr => ?_) fun _ _ _ z => z⟩
      intro ph4 sg4 H4 x4 g4 so4 o4
      refine ⟨wipe_eq hown o4, ph4, r.2, r.1, g4, so4, holds_imp (holds_bind hr) (fun k hk => ?_) fun _ _ _ z => z⟩
      intro ph5 H5 x5 g5
      obtain ⟨kb, S5⟩ := k
      dsimp only at hk g5
      have x35 := x3.trans (x4.trans x5)
      cases kb with
      | false =>
        simp only [Bool.false_eq_true, if_false] at hk ⊢
        exact ⟨ph5, S5, x2.trans x35, g5, hk⟩
      | true =>
        simp only [if_true] at hk ⊢
        refine ⟨ph5, S5, r.1, g5, so4.mono x5, holds_imp (holds_bind hk) (fun y hy => ?_) fun _ _ _ z => z⟩
        intro ph6 v6 H6 x6 g6 d6
        have x26 := x2.trans (x35.trans x6)
        obtain ⟨yv, S7⟩ := y
        dsimp only at hy g6 d6
        split at hy
        · rename_i acc' hacc
          split at hy
          · rename_i hz
            have hp := hpD x26
            obtain ⟨vs, h4, h5⟩ : CellAt X.K ph6 H6 D (.lst acc') := paired_at (k := S1.length) g6.cells hp hacc
            have hm : D ∈ ph6 := List.mem_of_getElem? hp
            have xw : Ext ph6 H6 ph6 (upd H6 D (.lst (vs ++ [v6]))) := Ext.write hm (nofrz h4 fun _ _ z => nomatch z)
            refine ⟨vs, h4, by rw [h5.length]; exact hz, ph6, _, x26.trans xw, ?_, hy⟩
            exact g6.write (o := .lst (vs ++ [v6])) (c := .lst (acc' ++ [yv])) hp ⟨vs ++ [v6], upd_same, paired_snoc (DenSs.mono xw h5) (d6.mono xw)⟩
          · exact hy.elim
        · exact hy.elim
    · exact h2.elim
  · left
    have e : i = xs.length := by omega
    subst e
    rw [List.drop_length] at h2
    unfold lcKM at h2
    split at h2
    · rename_i hlk
      exact ⟨wk.stop xs.length _ H2 _ (Nat.le_refl _) (x0.trans x2) g2 hlk, h2 ph2 (.ref D) H2 (by first | exact x1.trans (x0.trans x2) | exact x0.trans x2) g2 ⟨D, hpD x2, rfl⟩⟩
    · exact h2.elim
noncomputable def eLCK (im : IM) (g : GM) (t : TM) (e : EM) (own : List Nat) : EM := fun rho S => (im rho S).bind fun w => (noE (lcKM w.2.length w.1.lk g t e own rho w.1.xs (w.2 ++ [.lst []]))).bind fun S' => .ok (.cell w.2.length, S')
variable {tg : Expr} {pos : Pos}
theorem pd_lcK {elt iter : Expr} {ifs : List Expr} {scope : Scope} {own : List (Str × Nat)} {is : List Nat} {im : IM} {g : GM} {t : TM} {e : EM} (hc : X.calm = true) (hN : X.N.Nodup) (hi : PID X W tg iter im) (ok : BlkOk X.N X.env.scope scope own)
    (hg : ∀ (s : Shared) (H : Hp) (C : Addr) (cl : List (Str × Addr)) (fp : List Addr), PGD (Blk X scope s H C cl fp) (XW.none X.K) is tg g) (ht : ∀ (s : Shared) (H : Hp) (C : Addr) (cl : List (Str × Addr)) (fp : List Addr), PDTs (Blk X scope s H C cl fp) (XW.none X.K) ifs t)
    (he : ∀ (s : Shared) (H : Hp) (C : Addr) (cl : List (Str × Addr)) (fp : List Addr), PD (Blk X scope s H C cl fp) (XW.none X.K) elt e) (hown : ∀ i ∈ is, i ∈ own.map (·.2) := by decide) (hs : ∀ x, foldedSetIterable iter X.env x = pure x := by intro _; rfl) :
    PD X W (.ListComp elt [⟨tg, iter, ifs, 0⟩] scope pos) (eLCK im g t e (own.map (·.2))) := by
  obtain ⟨ti, pi, si⟩ := hi.ex
  exact ⟨_, pe_lc (g := tOfG X.K (XW.none X.K) is g) (tt := tOfT X.K (XW.none X.K) t) (te := tOf X.K (XW.none X.K) e) hc hN pi ok (fun s H C cl fp => (hg s H C cl fp).pg) (fun s H C cl fp => (ht s H C cl fp).ts) (fun s H C cl fp => (he s H C cl fp).pe) hs, lcK_snd hown si⟩
end
end DL

namespace DL
open PySem PySem.Spec PyProof.Rows L2

def iLsC (m : AM) : IM := fun rho S => (m rho S).bind fun r => match r.1 with
  | [a] => match rdS r.2 a with
    | some xs => .ok (⟨xs, fun _ => True⟩, r.2)
    | none => .stuck
  | _ => .stuck
section
variable {X : Cx} {W : XW X.K} {tg a : Expr} {es : List Expr} {m : AM} {x : Str} {p pos : Pos}
theorem pid_lsC (hm : X.mg x = none) (hv : bootBuiltins x = some (.type "list")) (ha : PDA X W (a :: es) m) (hg : Gl X x := by rfl)
    (hn : x ≠ "__name__" := by decide) (hdb : (x == ("__debug__" : Str)) = false := by decide)
    (he : starEach (a :: es) X.env = (false, eval a X.env) :: starEach es X.env := by rfl) (hpl : (backTo pos (starEach es X.env)).any (·.1) = false := by rfl) : PID X W tg (.Call (.Name x p) (a :: es) [] pos) (iLsC m) := by
  obtain ⟨t, pa, sa⟩ := ha.ex
  refine ⟨_, pi_list (pe_callTy call_list_of hg hm hv pa hn hdb he hpl), fun ph S H sg rho R g so h => sa ph S H sg rho _ g so (holds_imp (holds_bind h) (fun r hr => ?_) fun _ _ _ q => q)⟩
  intro ph1 vs H1 x1 g1 d1
  obtain ⟨as, S1⟩ := r
  dsimp only at hr g1 d1
  split at hr
  · rename_i y
    obtain ⟨v, rfl, dv⟩ := one_of d1
    split at hr
    · rename_i xs hy
      obtain ⟨q, ys, rfl, s, r⟩ := rdS_ok g1 dv hy
      refine ⟨q, ys, rfl, .inl s, fun l hl => ?_⟩
      have e : Ext ph1 H1 ph1 (upd H1 l (.lst ys)) := Ext.fresh hl
      refine ⟨l, rfl, ⟨ys, .of upd_same⟩, hr ph1 _ _ (by first | exact x1.trans e | exact e) (g1.fresh hl) (walk_fix (.of (hide_of (g1.new hl) upd_same)) (DenSs.mono e r))⟩
    · exact hr.elim
  · exact hr.elim
end
end DL

namespace DL
open PySem L2

def WF (S : Store) : Prop := S.all (Cell.below S.length) = true
theorem SV.below_mono {n m : Nat} (h : n ≤ m) {x : SV} (b : x.below n = true) : x.below m = true := by
  cases x with
  | fr _ => rfl
  | cell k => simp only [SV.below, decide_eq_true_eq] at b ⊢; omega
theorem Cell.below_mono {n m : Nat} (h : n ≤ m) {c : Cell} (b : c.below n = true) : c.below m = true := by
  cases c with
  | lst xs =>
    simp only [Cell.below, List.all_eq_true] at b ⊢
    exact fun x hx => SV.below_mono h (b x hx)
  | ins C fs =>
    simp only [Cell.below, List.all_eq_true] at b ⊢
    exact fun x hx => SV.below_mono h (b x hx)
  | tup xs =>
    simp only [Cell.below, List.all_eq_true] at b ⊢
    exact fun x hx => SV.below_mono h (b x hx)
  | dic kvs =>
    simp only [Cell.below, List.all_eq_true] at b ⊢
    exact fun x hx => SV.below_mono h (b x hx)
  | dit kvs =>
    simp only [Cell.below, List.all_eq_true] at b ⊢
    exact fun x hx => SV.below_mono h (b x hx)
  | dil kvs =>
    simp only [Cell.below, List.all_eq_true] at b ⊢
    exact fun x hx => SV.below_mono h (b x hx)
  | dkl kvs =>
    simp only [Cell.below, List.all_eq_true] at b ⊢
    exact fun x hx => SV.below_mono h (b x hx)
  | err C => rfl
theorem wf_nil : WF [] := rfl
theorem WF.snoc {S : Store} {c : Cell} (h : WF S) (hc : c.below (S.length + 1) = true) : WF (S ++ [c]) := by
  unfold WF at h ⊢
  simp only [List.all_append, List.length_append, List.length_singleton, List.all_cons, List.all_nil, hc, Bool.and_true, Bool.and_eq_true, and_true]
  simp only [List.all_eq_true] at h ⊢
  exact fun x hx => Cell.below_mono (by omega) (h x hx)
theorem WF.set {S : Store} {c : Cell} (h : WF S) (k : Nat) (hc : c.below S.length = true) : WF (S.set k c) := by
  unfold WF at h ⊢
  simp only [List.all_eq_true, List.length_set] at h ⊢
  exact fun x hx => (List.mem_or_eq_of_mem_set hx).elim (h x) fun e => e ▸ hc
theorem leave_val {S : Store} (h : WF S) (d : D) : leave S.length (.fr d) S = .ok (.val (.fr d), S) := by
  unfold leave
  rw [List.take_length, if_pos (show S.all (Cell.below S.length) = true from h)]
theorem leave_more {S T : Store} (h : WF S) (d : D) : leave S.length (.fr d) (S ++ T) = .ok (.val (.fr d), S) := by
  unfold leave
  rw [List.take_left' rfl, if_pos (show S.all (Cell.below S.length) = true from h)]
theorem intText_len {i : Int} {k : Nat} (hk : 0 < k) (h : i.natAbs < 10 ^ k) : (PyData.shown (.int i)).length ≤ k + 1 := by
  rw [PyData.shown_int]
  have l : ∀ n : Nat, n < 10 ^ k → n.repr.length ≤ k := fun n hn => by
    have := (Nat.length_toDigits_le_iff (b := 10) (n := n) (by decide) hk).mpr hn
    rw [Nat.repr]
    simpa using this
  show (Str.ofString (Int.repr i)).length ≤ _
  rw [PySem.ofString_length]
  cases i with
  | ofNat n =>
    have := l n (by simpa using h)
    show n.repr.length ≤ _
    omega
  | negSucc n =>
    have := l (n + 1) (by simpa using h)
    show ("-" ++ (n + 1).repr).length ≤ _
    have e : "-".length = 1 := by decide
    rw [String.length_append, e]
    omega

mutual
def fit : Nat → D → Bool
  | _, .non => true
  | _, .bl _ => true
  | _, .int i => decide (i.natAbs < 10 ^ 129)
  | _, .str x => PyData.strOk x
  | n + 1, .tup ds => fits n ds
  | n + 1, .lst ds => fits n ds
  | n + 1, .scr ds => fits n ds
  | _, _ => false
def fits : Nat → List D → Bool
  | _, [] => true
  | n, d :: ds => fit n d && fits n ds
end
theorem log_lt {n k : Nat} (h : n < 2 ^ k) (hk : 0 < k) : n.log2 < k := by
  cases n with
  | zero => rw [Nat.log2_zero]; exact hk
  | succ m => exact (Nat.log2_lt (by omega)).mpr h
structure FitOk (n : Nat) (d : PyData) : Prop where
  lay : d.canLay0 = true
  dep : d.depth ≤ n
  show_ : d.showable = true
  nsh : d.intsShort 130 = true
structure FitsOk (n : Nat) (ds : List PyData) : Prop where
  lay : PyData.canLayAll0 ds = true
  dep : PyData.depthAll ds ≤ n
  show_ : PyData.showableAll ds = true
  nsh : PyData.intsShortAll 130 ds = true
theorem pow_129 : (10 : Nat) ^ 129 < 2 ^ 1920 := by decide +kernel
mutual
theorem fit_p : ∀ (n : Nat) (d : D), fit n d = true → isP d = true ∧ FitOk n (py d)
  | n, .non, _ => ⟨rfl, by simp only [py]; exact ⟨rfl, Nat.zero_le _, rfl, rfl⟩⟩
  | n, .bl b, _ => ⟨rfl, by simp only [py]; exact ⟨rfl, Nat.zero_le _, rfl, rfl⟩⟩
  | n, .int i, h => by
    have h' : i.natAbs < 10 ^ 129 := by simpa only [fit, decide_eq_true_eq] using h
    refine ⟨rfl, ?_⟩
    simp only [py]
    refine ⟨rfl, Nat.zero_le _, ?_, ?_⟩
    · simp only [PyData.showable, decide_eq_true_eq]
      exact log_lt (Nat.lt_trans h' pow_129) (by decide)
    · simp only [PyData.intsShort, decide_eq_true_eq]
      exact intText_len (by decide) h'
  | n, .str x, h => by
    refine ⟨rfl, ?_⟩
    simp only [py]
    exact ⟨by simpa only [fit, PyData.canLay0] using h, Nat.zero_le _, rfl, rfl⟩
  | n + 1, .tup ds, h => by
    obtain ⟨a, b⟩ := fits_p n ds (by simpa only [fit] using h)
    refine ⟨by simpa only [isP] using a, ?_⟩
    simp only [py]
    exact ⟨by simpa only [PyData.canLay0] using b.lay, by simp only [PyData.depth]; have := b.dep; omega, by simpa only [PyData.showable] using b.show_, by simpa only [PyData.intsShort] using b.nsh⟩
  | n + 1, .lst ds, h => by
    obtain ⟨a, b⟩ := fits_p n ds (by simpa only [fit] using h)
    refine ⟨by simpa only [isP] using a, ?_⟩
    simp only [py]
    exact ⟨by simpa only [PyData.canLay0] using b.lay, by simp only [PyData.depth]; have := b.dep; omega, by simpa only [PyData.showable] using b.show_, by simpa only [PyData.intsShort] using b.nsh⟩
  | n + 1, .scr ds, h => by
    obtain ⟨a, b⟩ := fits_p n ds (by simpa only [fit] using h)
    refine ⟨by simpa only [isP] using a, ?_⟩
    simp only [py]
    exact ⟨by simpa only [PyData.canLay0] using b.lay, by simp only [PyData.depth]; have := b.dep; omega, by simpa only [PyData.showable] using b.show_, by simpa only [PyData.intsShort] using b.nsh⟩
  | 0, .tup _, h => by simp [fit] at h
  | 0, .lst _, h => by simp [fit] at h
  | 0, .scr _, h => by simp [fit] at h
  | n, .ty _, h => by cases n <;> simp [fit] at h
  | n, .ref _, h => by cases n <;> simp [fit] at h
  | n, .ins _ _, h => by cases n <;> simp [fit] at h
  | n, .cls _, h => by cases n <;> simp [fit] at h
  | n, .exn _ _ _ _, h => by cases n <;> simp [fit] at h
  | n, .dct _, h => by cases n <;> simp [fit] at h
theorem fits_p : ∀ (n : Nat) (ds : List D), fits n ds = true → isPs ds = true ∧ FitsOk n (pys ds)
  | n, [], _ => ⟨rfl, by simp only [pys]; exact ⟨rfl, Nat.zero_le _, rfl, rfl⟩⟩
  | n, d :: ds, h => by
    have h' : fit n d = true ∧ fits n ds = true := by simpa only [fits, Bool.and_eq_true] using h
    obtain ⟨a, b⟩ := fit_p n d h'.1
    obtain ⟨a2, b2⟩ := fits_p n ds h'.2
    refine ⟨by simp only [isPs, a, a2, Bool.and_self], ?_⟩
    simp only [pys]
    exact ⟨by simp only [PyData.canLayAll0, b.lay, b2.lay, Bool.and_self], by simp only [PyData.depthAll]; have := b.dep; have := b2.dep; omega, by simp only [PyData.showableAll, b.show_, b2.show_, Bool.and_self], by simp only [PyData.intsShortAll, b.nsh, b2.nsh, Bool.and_self]⟩
end
theorem fit_plain {d : D} (h : fit 64 d = true) : plain d = true := by
  obtain ⟨a, b⟩ := fit_p 64 d h
  unfold plain SeqAt.shaped
  simp only [a, b.lay, b.dep, decide_true, Bool.and_self]
theorem fit_deq {d : D} (h : fit 64 d = true) : deq d d = true := SeqAt.eqv_refl _ (fit_p 64 d h).2.lay
theorem fits_all {n : Nat} : ∀ {ds : List D}, (∀ d ∈ ds, fit n d = true) → fits n ds = true
  | [], _ => by simp only [fits]
  | d :: ds, h => by
    simp only [fits, h d List.mem_cons_self, fits_all fun x hx => h x (List.mem_cons_of_mem _ hx), Bool.and_self]
theorem r_bind {α β : Type} (x : α) (f : α → Res β) : (Res.ok x).bind f = f x := id rfl
theorem r_okV (d : D) (S : Store) : okV d S = .ok (.fr d, S) := id rfl
theorem r_snap (S : Store) (d : D) : snap S (.fr d) = some d := id rfl
theorem r_add (c : Bool) (i j : Int) (S : Store) : addG c (.fr (.int i)) (.fr (.int j)) S = .ok (.fr (.int (i + j)), S) := id rfl
theorem r_sub (i j : Int) (S : Store) : subG (.fr (.int i)) (.fr (.int j)) S = .ok (.fr (.int (i - j)), S) := id rfl
theorem r_neg (i : Int) (S : Store) : negG (.fr (.int i)) S = .ok (.fr (.int (-i)), S) := id rfl
theorem r_mul (c : Bool) (i j : Int) (S : Store) : mulG c (.fr (.int i)) (.fr (.int j)) S = if CMul i j ∨ CMulW i j then .ok (.fr (.int (i * j)), S) else .stuck := id rfl
theorem r_fdiv (i j : Int) (S : Store) : fdivG (.fr (.int i)) (.fr (.int j)) S = if CDiv i j ∨ CDivW i j then .ok (.fr (.int (i / j)), S) else .stuck := id rfl
theorem r_mod (i j : Int) (S : Store) : modG (.fr (.int i)) (.fr (.int j)) S = if 0 < j then .ok (.fr (.int (i % j)), S) else .stuck := id rfl
theorem r_pow (i j : Int) (S : Store) : powG (.fr (.int i)) (.fr (.int j)) S = if CPow i j then .ok (.fr (.int (i ^ j.toNat)), S) else .stuck := id rfl
theorem r_cmp (p : Int → Int → Bool) (i j : Int) (S : Store) : cmpG p (.fr (.int i)) (.fr (.int j)) S = .ok (.fr (.bl (p i j)), S) := id rfl
theorem r_is (n : Bool) (a : SV) (S : Store) : isG n a (.fr .non) S = .ok (.fr (.bl (if n then !isNon a else isNon a)), S) := id rfl
theorem r_eq (n : Bool) {a b : SV} {d e : D} {r : Bool} {S : Store} (h1 : snap S a = some d) (h2 : snap S b = some e) (h3 : eqD d e = some r) : eqG n a b S = .ok (.fr (.bl (if n then !r else r)), S) := by
  unfold eqG
  simp only [h1, h2, h3, okV]
theorem plain_int (i : Int) : plain (.int i) = true := by simp [plain, isP, py, SeqAt.shaped, PyData.canLay0, PyData.depth]
theorem eqD_int (i j : Int) : eqD (.int i) (.int j) = some (decide (i = j)) := by
  simp only [eqD, plain_int, deq, py, PyData.eqv, Bool.and_self, if_true]
  rfl
theorem r_eqI (n : Bool) (i j : Int) (S : Store) : eqG n (.fr (.int i)) (.fr (.int j)) S = .ok (.fr (.bl (if n then !decide (i = j) else decide (i = j))), S) := r_eq n rfl rfl (eqD_int i j)
theorem r_abs (i : Int) (S : Store) : absG [.fr (.int i)] S = .ok (.fr (.int (if i < 0 then -i else i)), S) := id rfl
theorem r_int (i : Int) (S : Store) : intG [.fr (.int i)] S = .ok (.fr (.int i), S) := id rfl
theorem r_max (i j : Int) (S : Store) : max2G [.fr (.int i), .fr (.int j)] S = .ok (.fr (.int (max i j)), S) := by
  show okV (.int (if j > i then j else i)) S = _
  rw [r_okV]
  congr 4
  omega
theorem r_min (i j : Int) (S : Store) : min2G [.fr (.int i), .fr (.int j)] S = .ok (.fr (.int (min i j)), S) := by
  show okV (.int (if j < i then j else i)) S = _
  rw [r_okV]
  congr 4
  omega
theorem r_newC {xs : List SV} {S : Store} (hl : xs.length ≤ sizeLine) : newL true xs S = .ok (.cell S.length, S ++ [.lst xs]) := by
  unfold newL
  rw [if_pos hl]
  rfl
theorem atI_nat {α : Type} (xs : List α) (n : Nat) : atI xs (n : Int) = xs[n]? := by
  unfold atI ixN
  by_cases h : n < xs.length
  · rw [if_pos (by omega), if_pos (by omega)]; simp
  · rw [if_pos (by omega), if_neg (by omega)]; simp [List.getElem?_eq_none (Nat.le_of_not_lt h)]
theorem r_lenL {a : SV} {xs : List SV} {S : Store} (h : rdS S a = some xs) : lenG [a] S = .ok (.fr (.int xs.length), S) := by
  unfold lenG lenS
  simp only [h, okV]
theorem r_lenF {ds : List D} {S : Store} : lenG [.fr (.lst ds)] S = .ok (.fr (.int ds.length), S) := by
  rw [r_lenL rfl, List.length_map]
theorem r_lenT {ds : List D} {S : Store} : lenG [.fr (.tup ds)] S = .ok (.fr (.int ds.length), S) := id rfl
noncomputable def bagM : FnM := fnM 1 3 (sRet (eA (newL true) (aC (eC (.int 0)) (aC (eC (.int 1234567891)) (aC (eC (.int 0)) (aC (eLC false (iSeq (eSl false (eV 0) pN (pS (eC (.int 63))))) (gNm 2) tTr (eA absG (aC (eV 2) aN)) [1, 2]) aN))))))
noncomputable def takeA : SM := (sIf (tB (e2 (eqG false) (e2 ixG (eV 0) (eC (.int 0))) (eC (.int 0)))) (sSeq (sSet 2 (eC (.int 0)))
    (sSeq (sIf (tB (e2 (ltG) (e2 ixG (eV 0) (eC (.int 2))) (eA lenG (aC (e2 ixG (eV 0) (eC (.int 3))) aN)))) (sSet 2 (e2 ixG (e2 ixG (eV 0) (eC (.int 3))) (e2 ixG (eV 0) (eC (.int 2))))) sNx)
    (sSeq (sAugS (eV 0) (eC (.int 2)) (eC (.int 1)))
    (sSeq (sIf (tB (e2 (geG) (eV 2) (eC (.int 1000000000000000000)))) (sAs (eV 2) (gSb (eV 0) (eC (.int 0)))) sNx)
    (sSeq (sSet 3 (e2 (addG false) (e2 (addG false) (e2 (mulG false) (e2 ixG (eV 0) (eC (.int 1))) (eC (.int 48271))) (e2 (modG) (eA intG (aC (eV 2) aN)) (eC (.int 2147483647)))) (e2 (mulG false) (eC (.int 7919)) (e2 ixG (eV 0) (eC (.int 2))))))
    (sAs (e2 (modG) (eA intG (aC (eV 3) aN)) (eC (.int 2147483647))) (gSb (eV 0) (eC (.int 1))))))))) sNx)
noncomputable def takeB : SM := (sSeq (sIf (tB (e2 (gtG) (e2 ixG (eV 0) (eC (.int 0))) (eC (.int 0)))) (sSeq (sSet 4 (e2 (modG) (eA intG (aC (e2 ixG (eV 0) (eC (.int 0))) aN)) (eV 1)))
    (sSeq (sAs (e2 (fdivG) (e2 ixG (eV 0) (eC (.int 0))) (eV 1)) (gSb (eV 0) (eC (.int 0))))
    (sRet (eV 4)))) sNx)
    (sSeq (sSet 5 (e2 (modG) (eA intG (aC (e2 (mulG false) (e2 (addG false) (e2 ixG (eV 0) (eC (.int 1))) (eC (.int 1))) (eC (.int 39373))) aN)) (eC (.int 1000000007))))
    (sSeq (sSet 6 (e2 (modG) (eA intG (aC (e2 (mulG false) (e2 (modG) (eA intG (aC (e2 (mulG false) (eV 5) (eV 5)) aN)) (eC (.int 998244353))) (eC (.int 30011))) aN)) (eC (.int 998244353))))
    (sSeq (sIf (tB (e2 (gtG) (eV 1) (eC (.int 1000000)))) (sRet (e2 (modG) (eA intG (aC (e2 (addG false) (e2 (mulG false) (eV 6) (eC (.int 1000000007))) (eV 5)) aN)) (eV 1))) sNx)
    (sRet (e2 (modG) (eA intG (aC (e2 (fdivG) (eV 6) (eC (.int 7))) aN)) (eV 1)))))))
noncomputable def takeM : FnM := fnM 2 7 (sSeq takeA takeB)
theorem eqD_str (x : Str) : eqD (.str x) (.str x) = some true := by simp [eqD]
end DL

namespace DL
open PySem L2

def Ends {α : Type} (r : Res α) (Q : α → Prop) : Prop := ∃ a, r = .ok a ∧ Q a
theorem s_ends {α : Type} (a : α) (Q : α → Prop) : Ends (.ok a) Q = Q a := propext ⟨fun ⟨b, e, h⟩ => by cases e; exact h, fun h => ⟨a, rfl, h⟩⟩
section
variable {g g' : G2} {a b c : EM} {rho : Slots} {S : Store} {x y : SV} {m : AM} {t u : TM} {p q : SM}
def k_1 (g : G1) (r : SV × Store) : Res (SV × Store) := g r.1 r.2
theorem r_1 (g : G1) : e1 g a rho S = (a rho S).bind (k_1 g) := id rfl
theorem s_1 (g : G1) : k_1 g (x, S) = g x S := id rfl
def k_2b (g : G2) (x : SV) (r : SV × Store) : Res (SV × Store) := g x r.1 r.2
def k_2 (g : G2) (b : EM) (rho : Slots) (r : SV × Store) : Res (SV × Store) := (b rho r.2).bind (k_2b g r.1)
theorem r_2 : e2 g a b rho S = (a rho S).bind (k_2 g b rho) := id rfl
theorem s_2 : k_2 g b rho (x, S) = (b rho S).bind (k_2b g x) := id rfl
theorem s_2b : k_2b g x (y, S) = g x y S := id rfl
def k_v (S : Store) : Option (Option SV) → Res (SV × Store)
  | some (some x) => .ok (x, S)
  | _ => .stuck
theorem r_v (i : Nat) : eV i rho S = k_v S rho[i]? := by
  unfold eV k_v
  split <;> first | rfl | (split <;> simp_all)
theorem s_v : k_v S (some (some x)) = .ok (x, S) := id rfl
theorem r_c (d : D) : eC d rho S = .ok (.fr d, S) := id rfl
theorem r_n : aN rho S = .ok ([], S) := id rfl
def k_ab (x : SV) (r : List SV × Store) : Res (List SV × Store) := .ok (x :: r.1, r.2)
def k_a (m : AM) (rho : Slots) (r : SV × Store) : Res (List SV × Store) := (m rho r.2).bind (k_ab r.1)
theorem r_a : aC a m rho S = (a rho S).bind (k_a m rho) := id rfl
theorem s_a : k_a m rho (x, S) = (m rho S).bind (k_ab x) := id rfl
theorem s_ab (xs : List SV) : k_ab x (xs, S) = .ok (x :: xs, S) := id rfl
def k_g (g : GA) (r : List SV × Store) : Res (SV × Store) := g r.1 r.2
theorem r_g (g : GA) : eA g m rho S = (m rho S).bind (k_g g) := id rfl
theorem s_g (g : GA) (xs : List SV) : k_g g (xs, S) = g xs S := id rfl
def k_and (b : EM) (rho : Slots) (x : SV) (S : Store) : Option Bool → Res (SV × Store)
  | some true => b rho S
  | some false => .ok (x, S)
  | none => .stuck
def k_And (b : EM) (rho : Slots) (r : SV × Store) : Res (SV × Store) := k_and b rho r.1 r.2 (truth r.2 r.1)
theorem r_and : eAnd a b rho S = (a rho S).bind (k_And b rho) := by
  unfold eAnd eTr
  congr 1
theorem s_And : k_And b rho (x, S) = k_and b rho x S (truth S x) := id rfl
theorem s_and1 : k_and b rho x S (some true) = b rho S := id rfl
theorem s_and0 : k_and b rho x S (some false) = .ok (x, S) := id rfl
def k_or (b : EM) (rho : Slots) (x : SV) (S : Store) : Option Bool → Res (SV × Store)
  | some true => .ok (x, S)
  | some false => b rho S
  | none => .stuck
def k_Or (b : EM) (rho : Slots) (r : SV × Store) : Res (SV × Store) := k_or b rho r.1 r.2 (truth r.2 r.1)
theorem r_or : eOr a b rho S = (a rho S).bind (k_Or b rho) := by
  unfold eOr eTr
  congr 1
theorem s_Or : k_Or b rho (x, S) = k_or b rho x S (truth S x) := id rfl
theorem s_or1 : k_or b rho x S (some true) = .ok (x, S) := id rfl
theorem s_or0 : k_or b rho x S (some false) = b rho S := id rfl
def k_not (S : Store) : Option Bool → Res (SV × Store)
  | some v => .ok (.fr (.bl (!v)), S)
  | none => .stuck
def k_Not (r : SV × Store) : Res (SV × Store) := k_not r.2 (truth r.2 r.1)
theorem r_not : eNot a rho S = (a rho S).bind k_Not := by
  unfold eNot eTr
  congr 1
  funext z
  unfold k_Not k_not
  split <;> first | rfl | (split <;> simp_all [okV])
theorem s_Not : k_Not (x, S) = k_not S (truth S x) := id rfl
theorem s_not (v : Bool) : k_not S (some v) = .ok (.fr (.bl (!v)), S) := id rfl
def k_if (a b : EM) (rho : Slots) (r : Bool × Store) : Res (SV × Store) := if r.1 then a rho r.2 else b rho r.2
theorem r_if : eIf t a b rho S = (t rho S).bind (k_if a b rho) := id rfl
theorem s_if1 : k_if a b rho (true, S) = a rho S := id rfl
theorem s_if0 : k_if a b rho (false, S) = b rho S := id rfl
def k_chc (g' : G2) (y : SV) (r : SV × Store) : Res (SV × Store) := g' y r.1 r.2
def k_chb (g' : G2) (c : EM) (rho : Slots) (y : SV) (r : SV × Store) : Res (SV × Store) := match r.1 with
  | .fr (.bl true) => (c rho r.2).bind (k_chc g' y)
  | .fr (.bl false) => .ok (.fr (.bl false), r.2)
  | _ => .stuck
def k_cha (g g' : G2) (c : EM) (rho : Slots) (x : SV) (r : SV × Store) : Res (SV × Store) := (g x r.1 r.2).bind (k_chb g' c rho r.1)
def k_ch (g g' : G2) (b c : EM) (rho : Slots) (r : SV × Store) : Res (SV × Store) := (b rho r.2).bind (k_cha g g' c rho r.1)
theorem r_ch : eCh g g' a b c rho S = (a rho S).bind (k_ch g g' b c rho) := id rfl
theorem s_ch : k_ch g g' b c rho (x, S) = (b rho S).bind (k_cha g g' c rho x) := id rfl
theorem s_cha : k_cha g g' c rho x (y, S) = (g x y S).bind (k_chb g' c rho y) := id rfl
theorem s_chb1 : k_chb g' c rho y (.fr (.bl true), S) = (c rho S).bind (k_chc g' y) := id rfl
theorem s_chb0 : k_chb g' c rho y (.fr (.bl false), S) = .ok (.fr (.bl false), S) := id rfl
theorem s_chc : k_chc g' y (x, S) = g' y x S := id rfl
def k_tB (r : SV × Store) : Res (Bool × Store) := match r.1 with
  | .fr (.bl k) => .ok (k, r.2)
  | _ => .stuck
theorem r_tB : tB a rho S = (a rho S).bind k_tB := id rfl
theorem s_tB (k : Bool) : k_tB (.fr (.bl k), S) = .ok (k, S) := id rfl
def k_tv (S : Store) : Option Bool → Res (Bool × Store)
  | some v => .ok (v, S)
  | none => .stuck
def k_tV (r : SV × Store) : Res (Bool × Store) := k_tv r.2 (truth r.2 r.1)
theorem r_tV : tV a rho S = (a rho S).bind k_tV := by
  unfold tV
  congr 1
theorem s_tV : k_tV (x, S) = k_tv S (truth S x) := id rfl
theorem s_tv (v : Bool) : k_tv S (some v) = .ok (v, S) := id rfl
def k_tN (r : Bool × Store) : Res (Bool × Store) := .ok (!r.1, r.2)
theorem r_tN : tNt t rho S = (t rho S).bind k_tN := id rfl
theorem s_tN (v : Bool) : k_tN (v, S) = .ok (!v, S) := id rfl
def k_tA (u : TM) (rho : Slots) (r : Bool × Store) : Res (Bool × Store) := if r.1 then u rho r.2 else .ok (false, r.2)
theorem r_tA : tAn t u rho S = (t rho S).bind (k_tA u rho) := id rfl
theorem s_tA1 : k_tA u rho (true, S) = u rho S := id rfl
theorem s_tA0 : k_tA u rho (false, S) = .ok (false, S) := id rfl
def k_tO (u : TM) (rho : Slots) (r : Bool × Store) : Res (Bool × Store) := if r.1 then .ok (true, r.2) else u rho r.2
theorem r_tO : tOo t u rho S = (t rho S).bind (k_tO u rho) := id rfl
theorem s_tO1 : k_tO u rho (true, S) = .ok (true, S) := id rfl
theorem s_tO0 : k_tO u rho (false, S) = u rho S := id rfl
theorem r_tT : tTr rho S = .ok (true, S) := id rfl
theorem r_trB (v : Bool) : truth S (.fr (.bl v)) = some v := id rfl
theorem r_trI (i : Int) : truth S (.fr (.int i)) = some (i != 0) := id rfl
theorem r_trN : truth S (.fr .non) = some false := id rfl
def k_call (f : FnM) (cc : Bool) (r : List SV × Store) : Res (SV × Store) := (noX (f r.1 r.2)).bind (back cc)
theorem r_call (f : FnM) (cc : Bool) : eCall f cc m rho S = (m rho S).bind (k_call f cc) := id rfl
theorem s_call (f : FnM) (cc : Bool) (xs : List SV) : k_call f cc (xs, S) = (noX (f xs S)).bind (back cc) := id rfl
theorem s_noX (r : RV × Store) : noX (.ok r) = .ok r := id rfl
theorem s_backV (cc : Bool) : back cc (.val x, S) = .ok (x, S) := id rfl
theorem s_backC (l : Cell) : back true (.new l, S) = .ok (.cell S.length, S ++ [l]) := id rfl
def k_frz (S : Store) : Option D → Res (SV × Store)
  | some d => .ok (.fr d, S)
  | none => .stuck
theorem s_backF (l : Cell) : back false (.new l, S) = k_frz S (freeze l) := id rfl
theorem s_frz (d : D) : k_frz S (some d) = .ok (.fr d, S) := id rfl
theorem r_frz (xs : List SV) : freeze (.lst xs) = (allFr xs).map D.lst := id rfl
theorem r_all0 : allFr [] = some [] := id rfl
theorem r_all1 (d : D) (xs : List SV) : allFr (.fr d :: xs) = (allFr xs).map (d :: ·) := id rfl
theorem r_fn1 (n : Nat) (bd : SM) : fnM 1 n bd [x] S = (bd (some x :: List.replicate (n - 1) none) S).bind (leaveF S.length) := id rfl
theorem r_fn2 (n : Nat) (bd : SM) : fnM 2 n bd [x, y] S = (bd (some x :: some y :: List.replicate (n - 2) none) S).bind (leaveF S.length) := id rfl
theorem r_fn3 (n : Nat) (bd : SM) (z : SV) : fnM 3 n bd [x, y, z] S = (bd (some x :: some y :: some z :: List.replicate (n - 3) none) S).bind (leaveF S.length) := id rfl
theorem r_fn4 (n : Nat) (bd : SM) (z w : SV) : fnM 4 n bd [x, y, z, w] S = (bd (some x :: some y :: some z :: some w :: List.replicate (n - 4) none) S).bind (leaveF S.length) := id rfl
theorem r_fn5 (n : Nat) (bd : SM) (z w v : SV) : fnM 5 n bd [x, y, z, w, v] S = (bd (some x :: some y :: some z :: some w :: some v :: List.replicate (n - 5) none) S).bind (leaveF S.length) := id rfl
theorem s_lvR (n : Nat) : leaveF n (.rt x, rho, S) = leave n x S := id rfl
theorem s_lvN (n : Nat) : leaveF n (.nx, rho, S) = leave n (.fr .non) S := id rfl
theorem r_nx : sNx rho S = .ok (.nx, rho, S) := id rfl
theorem r_bk : sBk rho S = .ok (.bk, rho, S) := id rfl
theorem r_ct : sCt rho S = .ok (.ct, rho, S) := id rfl
def k_seq (q : SM) (r : Fl × Slots × Store) : Res (Fl × Slots × Store) := match r.1 with
  | .nx => q r.2.1 r.2.2
  | f => .ok (f, r.2.1, r.2.2)
theorem r_seq : sSeq p q rho S = (p rho S).bind (k_seq q) := id rfl
theorem s_seqN : k_seq q (.nx, rho, S) = q rho S := id rfl
theorem s_seqR : k_seq q (.rt x, rho, S) = .ok (.rt x, rho, S) := id rfl
theorem s_seqB : k_seq q (.bk, rho, S) = .ok (.bk, rho, S) := id rfl
theorem s_seqC : k_seq q (.ct, rho, S) = .ok (.ct, rho, S) := id rfl
def k_ret (rho : Slots) (r : SV × Store) : Res (Fl × Slots × Store) := .ok (.rt r.1, rho, r.2)
theorem r_ret : sRet a rho S = (a rho S).bind (k_ret rho) := id rfl
theorem s_ret : k_ret rho (x, S) = .ok (.rt x, rho, S) := id rfl
theorem r_retN : sRetN rho S = .ok (.rt (.fr .non), rho, S) := id rfl
def k_sif (p q : SM) (rho : Slots) (r : Bool × Store) : Res (Fl × Slots × Store) := if r.1 then p rho r.2 else q rho r.2
theorem r_sif : sIf t p q rho S = (t rho S).bind (k_sif p q rho) := id rfl
theorem s_sif1 : k_sif p q rho (true, S) = p rho S := id rfl
theorem s_sif0 : k_sif p q rho (false, S) = q rho S := id rfl
def k_ex (rho : Slots) (r : SV × Store) : Res (Fl × Slots × Store) := .ok (.nx, rho, r.2)
theorem r_ex : sEx a rho S = (a rho S).bind (k_ex rho) := id rfl
theorem s_ex : k_ex rho (x, S) = .ok (.nx, rho, S) := id rfl
def k_set (i : Nat) (rho : Slots) (r : SV × Store) : Res (Fl × Slots × Store) := .ok (.nx, rho.set i (some r.1), r.2)
theorem r_set (i : Nat) : sSet i a rho S = (a rho S).bind (k_set i rho) := id rfl
theorem s_set (i : Nat) : k_set i rho (x, S) = .ok (.nx, rho.set i (some x), S) := id rfl
def k_par (i j : Nat) (rho : Slots) (r : List SV × Store) : Res (Fl × Slots × Store) := match r.1 with
  | [u, v] => .ok (.nx, (rho.set i (some u)).set j (some v), r.2)
  | _ => .stuck
theorem r_par (i j : Nat) : sPar i j m rho S = (m rho S).bind (k_par i j rho) := id rfl
theorem s_par (i j : Nat) : k_par i j rho ([x, y], S) = .ok (.nx, (rho.set i (some x)).set j (some y), S) := id rfl
def k_gb (r : Slots × Store) : Res (Fl × Slots × Store) := .ok (.nx, r.1, r.2)
def k_as (gm : GM) (rho : Slots) (r : SV × Store) : Res (Fl × Slots × Store) := (gm r.1 rho r.2).bind k_gb
theorem r_as (gm : GM) : sAs a gm rho S = (a rho S).bind (k_as gm rho) := id rfl
theorem s_as (gm : GM) : k_as gm rho (x, S) = (gm x rho S).bind k_gb := id rfl
theorem s_gb : k_gb (rho, S) = .ok (.nx, rho, S) := id rfl
theorem r_gNm (i : Nat) : gNm i x rho S = .ok (rho.set i (some x), S) := id rfl
theorem r_gNl : gNl [] rho S = .ok (rho, S) := id rfl
def k_gCs (ms : GMs) (xs : List SV) (r : Slots × Store) : Res (Slots × Store) := ms xs r.1 r.2
theorem r_gCs (gm : GM) (ms : GMs) (xs : List SV) : gCs gm ms (x :: xs) rho S = (gm x rho S).bind (k_gCs ms xs) := id rfl
theorem s_gCs (ms : GMs) (xs : List SV) : k_gCs ms xs (rho, S) = ms xs rho S := id rfl
theorem r_gTu2 (ms : GMs) (d e : D) : gTu 2 ms (.fr (.tup [d, e])) rho S = ms [.fr d, .fr e] rho S := id rfl
theorem r_gTu3 (ms : GMs) (d e f : D) : gTu 3 ms (.fr (.tup [d, e, f])) rho S = ms [.fr d, .fr e, .fr f] rho S := id rfl
theorem r_gTu4 (ms : GMs) (d e f h : D) : gTu 4 ms (.fr (.tup [d, e, f, h])) rho S = ms [.fr d, .fr e, .fr f, .fr h] rho S := id rfl
def k_st (rho : Slots) (S' : Store) : Res (Slots × Store) := .ok (rho, S')
def k_sb2 (rho : Slots) (v o : SV) (r : SV × Store) : Res (Slots × Store) := (setL o r.1 v r.2).bind (k_st rho)
def k_sb (mi : EM) (rho : Slots) (v : SV) (r : SV × Store) : Res (Slots × Store) := (mi rho r.2).bind (k_sb2 rho v r.1)
theorem r_gSb : gSb a b x rho S = (a rho S).bind (k_sb b rho x) := id rfl
theorem s_sb : k_sb b rho y (x, S) = (b rho S).bind (k_sb2 rho y x) := id rfl
theorem s_sb2 (v : SV) : k_sb2 rho y x (v, S) = (setL x v y S).bind (k_st rho) := id rfl
theorem s_st : k_st rho S = .ok (rho, S) := id rfl
def k_nxS (rho : Slots) (S' : Store) : Res (Fl × Slots × Store) := .ok (.nx, rho, S')
theorem s_nxS : k_nxS rho S = .ok (.nx, rho, S) := id rfl
def k_au3 (rho : Slots) (o i : SV) (S : Store) : Option SV → Res (Fl × Slots × Store)
  | some z => (setL o i z S).bind (k_nxS rho)
  | none => .stuck
def k_au2 (rho : Slots) (o i old : SV) (r : SV × Store) : Res (Fl × Slots × Store) := k_au3 rho o i r.2 (addI old r.1)
def k_au1 (me : EM) (rho : Slots) (o i : SV) (S : Store) : Option SV → Res (Fl × Slots × Store)
  | some old => (me rho S).bind (k_au2 rho o i old)
  | none => .stuck
def k_au0 (me : EM) (rho : Slots) (o : SV) (r : SV × Store) : Res (Fl × Slots × Store) := k_au1 me rho o r.1 r.2 (getL o r.1 r.2)
def k_au (mi me : EM) (rho : Slots) (r : SV × Store) : Res (Fl × Slots × Store) := (mi rho r.2).bind (k_au0 me rho r.1)
theorem r_au : sAugS a b c rho S = (a rho S).bind (k_au b c rho) := by
  unfold sAugS
  congr 1
theorem s_au : k_au b c rho (x, S) = (b rho S).bind (k_au0 c rho x) := id rfl
theorem s_au0 : k_au0 c rho x (y, S) = k_au1 c rho x y S (getL x y S) := id rfl
theorem s_au1 (o i : SV) : k_au1 c rho o i S (some x) = (c rho S).bind (k_au2 rho o i x) := id rfl
theorem s_au2 (o i old : SV) : k_au2 rho o i old (x, S) = k_au3 rho o i S (addI old x) := id rfl
theorem s_au3 (o i : SV) : k_au3 rho o i S (some x) = (setL o i x S).bind (k_nxS rho) := id rfl
theorem r_addI (i j : Int) : addI (.fr (.int i)) (.fr (.int j)) = some (.fr (.int (i + j))) := id rfl
noncomputable def k_for (gm : GM) (bd : SM) (rho : Slots) (r : Wk × Store) : Res (Fl × Slots × Store) := loopM r.1.lk gm bd r.1.xs rho r.2
theorem r_for (im : IM) (gm : GM) (bd : SM) : sFor im gm bd rho S = (im rho S).bind (k_for gm bd rho) := id rfl
theorem s_for (gm : GM) (bd : SM) (w : Wk) : k_for gm bd rho (w, S) = loopM w.lk gm bd w.xs rho S := id rfl
noncomputable def k_turn (lk : Store → Prop) (gm : GM) (bd : SM) (xs : List SV) (q : Fl × Slots × Store) : Res (Fl × Slots × Store) := match q.1 with
  | .nx => loopM lk gm bd xs q.2.1 q.2.2
  | .ct => loopM lk gm bd xs q.2.1 q.2.2
  | .bk => .ok (.nx, q.2.1, q.2.2)
  | .rt v => .ok (.rt v, q.2.1, q.2.2)
def k_body (bd : SM) (r : Slots × Store) : Res (Fl × Slots × Store) := bd r.1 r.2
theorem s_body (bd : SM) : k_body bd (rho, S) = bd rho S := id rfl
theorem res_assoc {α β γ : Type} (r : Res α) (f : α → Res β) (h : β → Res γ) : (r.bind f).bind h = r.bind fun x => (f x).bind h := by cases r <;> rfl
theorem loop_nil {lk : Store → Prop} (gm : GM) (bd : SM) (h : lk S) : loopM lk gm bd [] rho S = .ok (.nx, rho, S) := by
  unfold loopM
  rw [if_pos h]
theorem loop_cons {lk : Store → Prop} (gm : GM) (bd : SM) (xs : List SV) (h : lk S) : loopM lk gm bd (x :: xs) rho S = ((gm x rho S).bind (k_body bd)).bind (k_turn lk gm bd xs) := by
  rw [res_assoc]
  conv => lhs; unfold loopM
  rw [if_pos h]
  rfl
theorem s_turnN (lk : Store → Prop) (gm : GM) (bd : SM) (xs : List SV) : k_turn lk gm bd xs (.nx, rho, S) = loopM lk gm bd xs rho S := id rfl
theorem s_turnC (lk : Store → Prop) (gm : GM) (bd : SM) (xs : List SV) : k_turn lk gm bd xs (.ct, rho, S) = loopM lk gm bd xs rho S := id rfl
theorem s_turnB (lk : Store → Prop) (gm : GM) (bd : SM) (xs : List SV) : k_turn lk gm bd xs (.bk, rho, S) = .ok (.nx, rho, S) := id rfl
theorem s_turnR (lk : Store → Prop) (gm : GM) (bd : SM) (xs : List SV) : k_turn lk gm bd xs (.rt x, rho, S) = .ok (.rt x, rho, S) := id rfl
def k_r1 (r : List SV × Store) : Res (Wk × Store) := match r.1 with
  | [.fr (.int j)] => if -(2 ^ 62) ≤ j ∧ j < 2 ^ 62 then .ok (⟨rngS 0 j.toNat, fun _ => True⟩, r.2) else .stuck
  | _ => .stuck
theorem r_r1 : iR1 m rho S = (m rho S).bind k_r1 := id rfl
theorem s_r1 {j : Int} (h : -(2 ^ 62) ≤ j ∧ j < 2 ^ 62) : k_r1 ([.fr (.int j)], S) = .ok (⟨rngS 0 j.toNat, fun _ => True⟩, S) := if_pos h
def k_r2 (r : List SV × Store) : Res (Wk × Store) := match r.1 with
  | [.fr (.int i), .fr (.int j)] => if -(2 ^ 62) ≤ i ∧ i < 2 ^ 62 ∧ -(2 ^ 62) ≤ j ∧ j < 2 ^ 62 then .ok (⟨rngS i (j - i).toNat, fun _ => True⟩, r.2) else .stuck
  | _ => .stuck
theorem r_r2 : iR2 m rho S = (m rho S).bind k_r2 := id rfl
theorem s_r2 {i j : Int} (h : -(2 ^ 62) ≤ i ∧ i < 2 ^ 62 ∧ -(2 ^ 62) ≤ j ∧ j < 2 ^ 62) : k_r2 ([.fr (.int i), .fr (.int j)], S) = .ok (⟨rngS i (j - i).toNat, fun _ => True⟩, S) := if_pos h
def k_sq (r : SV × Store) : Res (Wk × Store) := match r.1 with
  | .fr (.tup _) => .stuck
  | .fr _ => match rdS r.2 r.1 with
    | some xs => .ok (⟨xs, fun _ => True⟩, r.2)
    | none => .stuck
  | .cell k => match rdL r.2 (.cell k) with
    | some xs => .ok (⟨xs, fun S' => S'[k]? = some (.lst xs)⟩, r.2)
    | none => .stuck
theorem r_sq : iSeq a rho S = (a rho S).bind k_sq := id rfl
theorem s_sqL (ds : List D) : k_sq (.fr (.lst ds), S) = .ok (⟨ds.map SV.fr, fun _ => True⟩, S) := id rfl
theorem s_sqS (ds : List D) : k_sq (.fr (.scr ds), S) = .ok (⟨ds.map SV.fr, fun _ => True⟩, S) := id rfl
theorem s_sqC {k : Nat} {xs : List SV} (h : S[k]? = some (.lst xs)) : k_sq (.cell k, S) = .ok (⟨xs, fun S' => S'[k]? = some (.lst xs)⟩, S) := by
  unfold k_sq rdL
  simp only [h]
def k_tp (r : SV × Store) : Res (Wk × Store) := match r.1 with
  | .fr (.tup ds) => .ok (⟨ds.map SV.fr, fun _ => True⟩, r.2)
  | _ => .stuck
theorem r_tp : iTp a rho S = (a rho S).bind k_tp := id rfl
theorem s_tp (ds : List D) : k_tp (.fr (.tup ds), S) = .ok (⟨ds.map SV.fr, fun _ => True⟩, S) := id rfl
def k_x (S : Store) : Option SV → Res (SV × Store)
  | some x => .ok (x, S)
  | none => .stuck
def k_xd (S : Store) : Option D → Res (SV × Store)
  | some d => .ok (.fr d, S)
  | none => .stuck
theorem r_xT (ds : List D) (i : Int) : ixG (.fr (.tup ds)) (.fr (.int i)) S = k_xd S (atI ds i) := by
  unfold ixG
  simp only [rdS, rdL]
  cases atI ds i <;> rfl
theorem atI_map {α β : Type} (f : α → β) (xs : List α) (i : Int) : atI (xs.map f) i = (atI xs i).map f := by
  unfold atI
  rw [List.length_map]
  cases ixN xs.length i <;> simp
theorem r_xL (ds : List D) (i : Int) : ixG (.fr (.lst ds)) (.fr (.int i)) S = k_xd S (atI ds i) := by
  unfold ixG
  simp only [rdS, rdL, atI_map]
  cases atI ds i <;> rfl
theorem r_xC {k : Nat} {xs : List SV} (h : S[k]? = some (.lst xs)) (i : Int) : ixG (.cell k) (.fr (.int i)) S = k_x S (atI xs i) := by
  unfold ixG
  simp only [rdS, rdL, h]
  cases atI xs i <;> rfl
theorem s_x : k_x S (some x) = .ok (x, S) := id rfl
theorem s_xd (d : D) : k_xd S (some d) = .ok (.fr d, S) := id rfl
theorem at_0 {α : Type} (a : α) (l : List α) : atI (a :: l) 0 = some a := atI_nat (a :: l) 0
theorem at_1 {α : Type} (a b : α) (l : List α) : atI (a :: b :: l) 1 = some b := atI_nat (a :: b :: l) 1
theorem at_2 {α : Type} (a b c : α) (l : List α) : atI (a :: b :: c :: l) 2 = some c := atI_nat (a :: b :: c :: l) 2
theorem at_3 {α : Type} (a b c d : α) (l : List α) : atI (a :: b :: c :: d :: l) 3 = some d := atI_nat (a :: b :: c :: d :: l) 3
theorem at_4 {α : Type} (a b c d e : α) (l : List α) : atI (a :: b :: c :: d :: e :: l) 4 = some e := atI_nat (a :: b :: c :: d :: e :: l) 4
end
end DL

namespace DL
open PySem L2

structure Bag where
  z : Int
  mix : Int
  k : Int
  ns : List Int
structure Bag.Ok (b : Bag) : Prop where
  z0 : 0 ≤ b.z
  m0 : 0 ≤ b.mix
  k0 : 0 ≤ b.k
  n0 : ∀ n ∈ b.ns, 0 ≤ n
def Bag.c (b : Bag) : Cell := .lst [.fr (.int b.z), .fr (.int b.mix), .fr (.int b.k), .fr (.lst (b.ns.map D.int))]
section
variable {b : Bag} {R : Store}
theorem bag_x (b : Bag) (R : Store) (i : Int) : ixG (.cell 0) (.fr (.int i)) (b.c :: R) = k_x (b.c :: R) (atI [.fr (.int b.z), .fr (.int b.mix), .fr (.int b.k), .fr (.lst (b.ns.map D.int))] i) := r_xC rfl i
theorem bag_set0 (v : Int) : setL (.cell 0) (.fr (.int 0)) (.fr (.int v)) (b.c :: R) = .ok ({ b with z := v }.c :: R) := rfl
theorem bag_set1 (v : Int) : setL (.cell 0) (.fr (.int 1)) (.fr (.int v)) (b.c :: R) = .ok ({ b with mix := v }.c :: R) := rfl
theorem bag_set2 (v : Int) : setL (.cell 0) (.fr (.int 2)) (.fr (.int v)) (b.c :: R) = .ok ({ b with k := v }.c :: R) := rfl
theorem bag_get2 : getL (.cell 0) (.fr (.int 2)) (b.c :: R) = some (.fr (.int b.k)) := rfl
theorem WF.bag {b' : Bag} (h : WF (b.c :: R)) : WF (b'.c :: R) := by
  unfold WF at h ⊢
  simpa [Bag.c, Cell.below, SV.below] using h
theorem leave_bag {b' : Bag} (h : WF (b.c :: R)) (d : D) : leave (b.c :: R).length (.fr d) (b'.c :: R) = .ok (.val (.fr d), b'.c :: R) := leave_val (WF.bag (b' := b') h) d
theorem cdiv_of {i j : Int} (h : 0 < j) (h2 : j.natAbs.log2 < 9000) : (CDiv i j ∨ CDivW i j) = True := by simp [CDivW, h, h2]
theorem takeA_run (hb : b.Ok) (many : Int) : Ends (takeA [some (.cell 0), some (.fr (.int many)), none, none, none, none, none] (b.c :: R)) fun r => ∃ b1 x2 x3, Bag.Ok b1 ∧ r = (.nx, [some (.cell 0), some (.fr (.int many)), x2, x3, none, none, none], b1.c :: R) := by
  have c1 : ∀ i : Int, (CMul i 48271 ∨ CMulW i 48271) = True := fun i => by simp [CMul]
  have c2 : ∀ i : Int, (CMul 7919 i ∨ CMulW 7919 i) = True := fun i => by simp [CMul]
  have p1 : (0 : Int) < 2147483647 := by decide
  have e0 : (0 : Int) ≤ b.k + 1 := by have := hb.k0; omega
  have fin : ∀ m : Int, 0 ≤ m % 2147483647 := fun m => Int.emod_nonneg _ (by decide)
  by_cases hz : b.z = 0
  · by_cases hk : b.k < (b.ns.length : Int)
    · obtain ⟨k, hkk⟩ : ∃ k : Nat, b.k = k := ⟨b.k.toNat, by have := hb.k0; omega⟩
      have hlt : k < b.ns.length := by omega
      have hx : atI (b.ns.map D.int) b.k = some (.int b.ns[k]) := by
        rw [hkk, atI_nat, List.getElem?_map, List.getElem?_eq_getElem hlt]
        rfl
      have hn := hb.n0 _ (List.getElem_mem hlt)
      by_cases hc : (1000000000000000000 : Int) ≤ b.ns[k]
      · simp only [r_bind, r_1, s_1, r_2, s_2, s_2b, r_v, s_v, r_c, r_n, r_a, s_a, s_ab, r_g, s_g, r_and, s_And, s_and1, s_and0, r_or, s_Or, s_or1, s_or0, r_not, s_Not, s_not, r_if, s_if1, s_if0, r_ch, s_ch, s_cha, s_chb1, s_chb0, s_chc, r_tB, s_tB, r_tV, s_tV, s_tv, r_tN, s_tN, r_tA, s_tA1, s_tA0, r_tO, s_tO1, s_tO0, r_tT, r_trB, r_trI, r_trN, r_call, s_call, s_noX, s_backV, s_backC, s_backF, s_frz, r_frz, r_all0, r_all1, r_fn1, r_fn2, r_fn3, r_fn4, r_fn5, s_lvR, s_lvN, r_nx, r_bk, r_ct, r_seq, s_seqN, s_seqR, s_seqB, s_seqC, r_ret, s_ret, r_retN, r_sif, s_sif1, s_sif0, r_ex, s_ex, r_set, s_set, r_par, s_par, r_as, s_as, s_gb, r_gNm, r_gNl, r_gCs, s_gCs, r_gTu2, r_gTu3, r_gTu4, r_gSb, s_sb, s_sb2, s_st, s_nxS, r_au, s_au, s_au0, s_au1, s_au2, s_au3, r_addI, r_for, s_for, s_body, s_turnN, s_turnC, s_turnB, s_turnR, r_r1, s_r1, r_r2, s_r2, r_sq, s_sqL, s_sqS, r_tp, s_tp, r_xT, r_xL, s_x, s_xd, at_0, at_1, at_2, at_3, at_4, r_add, r_sub, r_neg, r_mul, r_fdiv, r_mod, r_pow, r_cmp, r_is, r_eqI, r_abs, r_int, r_max, r_min, r_okV, r_snap, r_lenF, r_lenT, DL.isNon, List.replicate_succ, List.replicate_zero, List.set_cons_zero, List.set_cons_succ, List.getElem?_cons_zero, List.getElem?_cons_succ, Option.map_some, Nat.reduceSub, and_self, and_true, true_and, decide_true, decide_false, if_true, if_false, Bool.false_eq_true, Bool.not_true, Bool.not_false, Nat.reduceSub, Nat.reduceAdd, Nat.reduceMul, Nat.reduceLeDiff, takeA, bag_x, bag_set0, bag_set1, bag_set2, bag_get2, hz, hk, hx, hc, c1, c2, p1, List.length_map, s_ends]
        exact ⟨⟨_, _, _, b.ns⟩, _, _, ⟨hn, fin _, e0, hb.n0⟩, rfl⟩
      · simp only [r_bind, r_1, s_1, r_2, s_2, s_2b, r_v, s_v, r_c, r_n, r_a, s_a, s_ab, r_g, s_g, r_and, s_And, s_and1, s_and0, r_or, s_Or, s_or1, s_or0, r_not, s_Not, s_not, r_if, s_if1, s_if0, r_ch, s_ch, s_cha, s_chb1, s_chb0, s_chc, r_tB, s_tB, r_tV, s_tV, s_tv, r_tN, s_tN, r_tA, s_tA1, s_tA0, r_tO, s_tO1, s_tO0, r_tT, r_trB, r_trI, r_trN, r_call, s_call, s_noX, s_backV, s_backC, s_backF, s_frz, r_frz, r_all0, r_all1, r_fn1, r_fn2, r_fn3, r_fn4, r_fn5, s_lvR, s_lvN, r_nx, r_bk, r_ct, r_seq, s_seqN, s_seqR, s_seqB, s_seqC, r_ret, s_ret, r_retN, r_sif, s_sif1, s_sif0, r_ex, s_ex, r_set, s_set, r_par, s_par, r_as, s_as, s_gb, r_gNm, r_gNl, r_gCs, s_gCs, r_gTu2, r_gTu3, r_gTu4, r_gSb, s_sb, s_sb2, s_st, s_nxS, r_au, s_au, s_au0, s_au1, s_au2, s_au3, r_addI, r_for, s_for, s_body, s_turnN, s_turnC, s_turnB, s_turnR, r_r1, s_r1, r_r2, s_r2, r_sq, s_sqL, s_sqS, r_tp, s_tp, r_xT, r_xL, s_x, s_xd, at_0, at_1, at_2, at_3, at_4, r_add, r_sub, r_neg, r_mul, r_fdiv, r_mod, r_pow, r_cmp, r_is, r_eqI, r_abs, r_int, r_max, r_min, r_okV, r_snap, r_lenF, r_lenT, DL.isNon, List.replicate_succ, List.replicate_zero, List.set_cons_zero, List.set_cons_succ, List.getElem?_cons_zero, List.getElem?_cons_succ, Option.map_some, Nat.reduceSub, and_self, and_true, true_and, decide_true, decide_false, if_true, if_false, Bool.false_eq_true, Bool.not_true, Bool.not_false, Nat.reduceSub, Nat.reduceAdd, Nat.reduceMul, Nat.reduceLeDiff, takeA, bag_x, bag_set0, bag_set1, bag_set2, bag_get2, hz, hk, hx, hc, c1, c2, p1, List.length_map, s_ends]
        exact ⟨⟨0, _, b.k + 1, b.ns⟩, _, _, ⟨Int.le_refl 0, fin _, e0, hb.n0⟩, rfl⟩
    · have hc : ¬ (1000000000000000000 : Int) ≤ 0 := by decide
      simp only [r_bind, r_1, s_1, r_2, s_2, s_2b, r_v, s_v, r_c, r_n, r_a, s_a, s_ab, r_g, s_g, r_and, s_And, s_and1, s_and0, r_or, s_Or, s_or1, s_or0, r_not, s_Not, s_not, r_if, s_if1, s_if0, r_ch, s_ch, s_cha, s_chb1, s_chb0, s_chc, r_tB, s_tB, r_tV, s_tV, s_tv, r_tN, s_tN, r_tA, s_tA1, s_tA0, r_tO, s_tO1, s_tO0, r_tT, r_trB, r_trI, r_trN, r_call, s_call, s_noX, s_backV, s_backC, s_backF, s_frz, r_frz, r_all0, r_all1, r_fn1, r_fn2, r_fn3, r_fn4, r_fn5, s_lvR, s_lvN, r_nx, r_bk, r_ct, r_seq, s_seqN, s_seqR, s_seqB, s_seqC, r_ret, s_ret, r_retN, r_sif, s_sif1, s_sif0, r_ex, s_ex, r_set, s_set, r_par, s_par, r_as, s_as, s_gb, r_gNm, r_gNl, r_gCs, s_gCs, r_gTu2, r_gTu3, r_gTu4, r_gSb, s_sb, s_sb2, s_st, s_nxS, r_au, s_au, s_au0, s_au1, s_au2, s_au3, r_addI, r_for, s_for, s_body, s_turnN, s_turnC, s_turnB, s_turnR, r_r1, s_r1, r_r2, s_r2, r_sq, s_sqL, s_sqS, r_tp, s_tp, r_xT, r_xL, s_x, s_xd, at_0, at_1, at_2, at_3, at_4, r_add, r_sub, r_neg, r_mul, r_fdiv, r_mod, r_pow, r_cmp, r_is, r_eqI, r_abs, r_int, r_max, r_min, r_okV, r_snap, r_lenF, r_lenT, DL.isNon, List.replicate_succ, List.replicate_zero, List.set_cons_zero, List.set_cons_succ, List.getElem?_cons_zero, List.getElem?_cons_succ, Option.map_some, Nat.reduceSub, and_self, and_true, true_and, decide_true, decide_false, if_true, if_false, Bool.false_eq_true, Bool.not_true, Bool.not_false, Nat.reduceSub, Nat.reduceAdd, Nat.reduceMul, Nat.reduceLeDiff, takeA, bag_x, bag_set0, bag_set1, bag_set2, bag_get2, hz, hk, hc, c1, c2, p1, List.length_map, s_ends]
      exact ⟨⟨0, _, b.k + 1, b.ns⟩, _, _, ⟨Int.le_refl 0, fin _, e0, hb.n0⟩, rfl⟩
  · simp only [r_bind, r_1, s_1, r_2, s_2, s_2b, r_v, s_v, r_c, r_n, r_a, s_a, s_ab, r_g, s_g, r_and, s_And, s_and1, s_and0, r_or, s_Or, s_or1, s_or0, r_not, s_Not, s_not, r_if, s_if1, s_if0, r_ch, s_ch, s_cha, s_chb1, s_chb0, s_chc, r_tB, s_tB, r_tV, s_tV, s_tv, r_tN, s_tN, r_tA, s_tA1, s_tA0, r_tO, s_tO1, s_tO0, r_tT, r_trB, r_trI, r_trN, r_call, s_call, s_noX, s_backV, s_backC, s_backF, s_frz, r_frz, r_all0, r_all1, r_fn1, r_fn2, r_fn3, r_fn4, r_fn5, s_lvR, s_lvN, r_nx, r_bk, r_ct, r_seq, s_seqN, s_seqR, s_seqB, s_seqC, r_ret, s_ret, r_retN, r_sif, s_sif1, s_sif0, r_ex, s_ex, r_set, s_set, r_par, s_par, r_as, s_as, s_gb, r_gNm, r_gNl, r_gCs, s_gCs, r_gTu2, r_gTu3, r_gTu4, r_gSb, s_sb, s_sb2, s_st, s_nxS, r_au, s_au, s_au0, s_au1, s_au2, s_au3, r_addI, r_for, s_for, s_body, s_turnN, s_turnC, s_turnB, s_turnR, r_r1, s_r1, r_r2, s_r2, r_sq, s_sqL, s_sqS, r_tp, s_tp, r_xT, r_xL, s_x, s_xd, at_0, at_1, at_2, at_3, at_4, r_add, r_sub, r_neg, r_mul, r_fdiv, r_mod, r_pow, r_cmp, r_is, r_eqI, r_abs, r_int, r_max, r_min, r_okV, r_snap, r_lenF, r_lenT, DL.isNon, List.replicate_succ, List.replicate_zero, List.set_cons_zero, List.set_cons_succ, List.getElem?_cons_zero, List.getElem?_cons_succ, Option.map_some, Nat.reduceSub, and_self, and_true, true_and, decide_true, decide_false, if_true, if_false, Bool.false_eq_true, Bool.not_true, Bool.not_false, Nat.reduceSub, Nat.reduceAdd, Nat.reduceMul, Nat.reduceLeDiff, takeA, bag_x, hz, s_ends]
    exact ⟨b, none, none, hb, rfl⟩
theorem takeB_run (hb : b.Ok) (many : Int) (h1 : 0 < many) (h2 : many.natAbs.log2 < 9000) (x2 x3 : Option SV) : Ends (takeB [some (.cell 0), some (.fr (.int many)), x2, x3, none, none, none] (b.c :: R)) fun r => ∃ v b1 rho, 0 ≤ v ∧ v < many ∧ Bag.Ok b1 ∧ r = (.rt (.fr (.int v)), rho, b1.c :: R) := by
  have c1 : ∀ i : Int, (CMul i 39373 ∨ CMulW i 39373) = True := fun i => by simp [CMul]
  have c2 : ∀ i : Int, (CMul i 30011 ∨ CMulW i 30011) = True := fun i => by simp [CMul]
  have c3 : ∀ i : Int, (CMul i 1000000007 ∨ CMulW i 1000000007) = True := fun i => by simp [CMul]
  have c4 : ∀ i : Int, (CMul (i % 1000000007) (i % 1000000007) ∨ CMulW (i % 1000000007) (i % 1000000007)) = True := fun i => by
    have q1 := Int.emod_nonneg i (b := 1000000007) (by decide)
    have q2 := Int.emod_lt_of_pos i (b := 1000000007) (by decide)
    have q3 : -(2 ^ 64) < i % 1000000007 := by omega
    have q4 : i % 1000000007 < 2 ^ 64 := by omega
    simp only [CMul, q3, q4, and_self, true_or]
  have c5 : ∀ i : Int, (CDiv i 7 ∨ CDivW i 7) = True := fun i => by simp [CDiv]
  have cm : ∀ i : Int, (CDiv i many ∨ CDivW i many) = True := fun i => cdiv_of h1 h2
  have p1 : (0 : Int) < 1000000007 := by decide
  have p2 : (0 : Int) < 998244353 := by decide
  have q1 : ∀ m : Int, 0 ≤ m % many := fun m => Int.emod_nonneg _ (by omega)
  have q2 : ∀ m : Int, m % many < many := fun m => Int.emod_lt_of_pos _ h1
  have q3 : 0 ≤ b.z / many := Int.ediv_nonneg hb.z0 (by omega)
  by_cases hz : 0 < b.z
  · simp only [r_bind, r_1, s_1, r_2, s_2, s_2b, r_v, s_v, r_c, r_n, r_a, s_a, s_ab, r_g, s_g, r_and, s_And, s_and1, s_and0, r_or, s_Or, s_or1, s_or0, r_not, s_Not, s_not, r_if, s_if1, s_if0, r_ch, s_ch, s_cha, s_chb1, s_chb0, s_chc, r_tB, s_tB, r_tV, s_tV, s_tv, r_tN, s_tN, r_tA, s_tA1, s_tA0, r_tO, s_tO1, s_tO0, r_tT, r_trB, r_trI, r_trN, r_call, s_call, s_noX, s_backV, s_backC, s_backF, s_frz, r_frz, r_all0, r_all1, r_fn1, r_fn2, r_fn3, r_fn4, r_fn5, s_lvR, s_lvN, r_nx, r_bk, r_ct, r_seq, s_seqN, s_seqR, s_seqB, s_seqC, r_ret, s_ret, r_retN, r_sif, s_sif1, s_sif0, r_ex, s_ex, r_set, s_set, r_par, s_par, r_as, s_as, s_gb, r_gNm, r_gNl, r_gCs, s_gCs, r_gTu2, r_gTu3, r_gTu4, r_gSb, s_sb, s_sb2, s_st, s_nxS, r_au, s_au, s_au0, s_au1, s_au2, s_au3, r_addI, r_for, s_for, s_body, s_turnN, s_turnC, s_turnB, s_turnR, r_r1, s_r1, r_r2, s_r2, r_sq, s_sqL, s_sqS, r_tp, s_tp, r_xT, r_xL, s_x, s_xd, at_0, at_1, at_2, at_3, at_4, r_add, r_sub, r_neg, r_mul, r_fdiv, r_mod, r_pow, r_cmp, r_is, r_eqI, r_abs, r_int, r_max, r_min, r_okV, r_snap, r_lenF, r_lenT, DL.isNon, List.replicate_succ, List.replicate_zero, List.set_cons_zero, List.set_cons_succ, List.getElem?_cons_zero, List.getElem?_cons_succ, Option.map_some, Nat.reduceSub, and_self, and_true, true_and, decide_true, decide_false, if_true, if_false, Bool.false_eq_true, Bool.not_true, Bool.not_false, Nat.reduceSub, Nat.reduceAdd, Nat.reduceMul, Nat.reduceLeDiff, takeB, bag_x, bag_set0, hz, h1, cm, s_ends]
    exact ⟨_, ⟨_, _, _, b.ns⟩, _, q1 _, q2 _, ⟨q3, hb.m0, hb.k0, hb.n0⟩, rfl⟩
  · by_cases hm : (1000000 : Int) < many
    · simp only [r_bind, r_1, s_1, r_2, s_2, s_2b, r_v, s_v, r_c, r_n, r_a, s_a, s_ab, r_g, s_g, r_and, s_And, s_and1, s_and0, r_or, s_Or, s_or1, s_or0, r_not, s_Not, s_not, r_if, s_if1, s_if0, r_ch, s_ch, s_cha, s_chb1, s_chb0, s_chc, r_tB, s_tB, r_tV, s_tV, s_tv, r_tN, s_tN, r_tA, s_tA1, s_tA0, r_tO, s_tO1, s_tO0, r_tT, r_trB, r_trI, r_trN, r_call, s_call, s_noX, s_backV, s_backC, s_backF, s_frz, r_frz, r_all0, r_all1, r_fn1, r_fn2, r_fn3, r_fn4, r_fn5, s_lvR, s_lvN, r_nx, r_bk, r_ct, r_seq, s_seqN, s_seqR, s_seqB, s_seqC, r_ret, s_ret, r_retN, r_sif, s_sif1, s_sif0, r_ex, s_ex, r_set, s_set, r_par, s_par, r_as, s_as, s_gb, r_gNm, r_gNl, r_gCs, s_gCs, r_gTu2, r_gTu3, r_gTu4, r_gSb, s_sb, s_sb2, s_st, s_nxS, r_au, s_au, s_au0, s_au1, s_au2, s_au3, r_addI, r_for, s_for, s_body, s_turnN, s_turnC, s_turnB, s_turnR, r_r1, s_r1, r_r2, s_r2, r_sq, s_sqL, s_sqS, r_tp, s_tp, r_xT, r_xL, s_x, s_xd, at_0, at_1, at_2, at_3, at_4, r_add, r_sub, r_neg, r_mul, r_fdiv, r_mod, r_pow, r_cmp, r_is, r_eqI, r_abs, r_int, r_max, r_min, r_okV, r_snap, r_lenF, r_lenT, DL.isNon, List.replicate_succ, List.replicate_zero, List.set_cons_zero, List.set_cons_succ, List.getElem?_cons_zero, List.getElem?_cons_succ, Option.map_some, Nat.reduceSub, and_self, and_true, true_and, decide_true, decide_false, if_true, if_false, Bool.false_eq_true, Bool.not_true, Bool.not_false, Nat.reduceSub, Nat.reduceAdd, Nat.reduceMul, Nat.reduceLeDiff, takeB, bag_x, bag_set0, hz, h1, hm, c1, c2, c3, c4, c5, p1, p2, s_ends]
      exact ⟨_, b, _, q1 _, q2 _, hb, rfl⟩
    · simp only [r_bind, r_1, s_1, r_2, s_2, s_2b, r_v, s_v, r_c, r_n, r_a, s_a, s_ab, r_g, s_g, r_and, s_And, s_and1, s_and0, r_or, s_Or, s_or1, s_or0, r_not, s_Not, s_not, r_if, s_if1, s_if0, r_ch, s_ch, s_cha, s_chb1, s_chb0, s_chc, r_tB, s_tB, r_tV, s_tV, s_tv, r_tN, s_tN, r_tA, s_tA1, s_tA0, r_tO, s_tO1, s_tO0, r_tT, r_trB, r_trI, r_trN, r_call, s_call, s_noX, s_backV, s_backC, s_backF, s_frz, r_frz, r_all0, r_all1, r_fn1, r_fn2, r_fn3, r_fn4, r_fn5, s_lvR, s_lvN, r_nx, r_bk, r_ct, r_seq, s_seqN, s_seqR, s_seqB, s_seqC, r_ret, s_ret, r_retN, r_sif, s_sif1, s_sif0, r_ex, s_ex, r_set, s_set, r_par, s_par, r_as, s_as, s_gb, r_gNm, r_gNl, r_gCs, s_gCs, r_gTu2, r_gTu3, r_gTu4, r_gSb, s_sb, s_sb2, s_st, s_nxS, r_au, s_au, s_au0, s_au1, s_au2, s_au3, r_addI, r_for, s_for, s_body, s_turnN, s_turnC, s_turnB, s_turnR, r_r1, s_r1, r_r2, s_r2, r_sq, s_sqL, s_sqS, r_tp, s_tp, r_xT, r_xL, s_x, s_xd, at_0, at_1, at_2, at_3, at_4, r_add, r_sub, r_neg, r_mul, r_fdiv, r_mod, r_pow, r_cmp, r_is, r_eqI, r_abs, r_int, r_max, r_min, r_okV, r_snap, r_lenF, r_lenT, DL.isNon, List.replicate_succ, List.replicate_zero, List.set_cons_zero, List.set_cons_succ, List.getElem?_cons_zero, List.getElem?_cons_succ, Option.map_some, Nat.reduceSub, and_self, and_true, true_and, decide_true, decide_false, if_true, if_false, Bool.false_eq_true, Bool.not_true, Bool.not_false, Nat.reduceSub, Nat.reduceAdd, Nat.reduceMul, Nat.reduceLeDiff, takeB, bag_x, bag_set0, hz, h1, hm, c1, c2, c3, c4, c5, p1, p2, s_ends]
      exact ⟨_, b, _, q1 _, q2 _, hb, rfl⟩
theorem take_run (b : Bag) (hb : b.Ok) (many : Int) (h1 : 0 < many) (h2 : many.natAbs.log2 < 9000) (R : Store) (wf : WF (b.c :: R)) :
    ∃ v b', 0 ≤ v ∧ v < many ∧ Bag.Ok b' ∧ WF (b'.c :: R) ∧ takeM [.cell 0, .fr (.int many)] (b.c :: R) = .ok (.val (.fr (.int v)), b'.c :: R) := by
  obtain ⟨_, e1, b1, x2, x3, hb1, rfl⟩ := takeA_run (R := R) hb many
  obtain ⟨_, e2, v, b2, rho, g1, g2, hb2, rfl⟩ := takeB_run (R := R) hb1 many h1 h2 x2 x3
  refine ⟨v, b2, g1, g2, hb2, wf.bag, ?_⟩
  simp only [r_bind, r_1, s_1, r_2, s_2, s_2b, r_v, s_v, r_c, r_n, r_a, s_a, s_ab, r_g, s_g, r_and, s_And, s_and1, s_and0, r_or, s_Or, s_or1, s_or0, r_not, s_Not, s_not, r_if, s_if1, s_if0, r_ch, s_ch, s_cha, s_chb1, s_chb0, s_chc, r_tB, s_tB, r_tV, s_tV, s_tv, r_tN, s_tN, r_tA, s_tA1, s_tA0, r_tO, s_tO1, s_tO0, r_tT, r_trB, r_trI, r_trN, r_call, s_call, s_noX, s_backV, s_backC, s_backF, s_frz, r_frz, r_all0, r_all1, r_fn1, r_fn2, r_fn3, r_fn4, r_fn5, s_lvR, s_lvN, r_nx, r_bk, r_ct, r_seq, s_seqN, s_seqR, s_seqB, s_seqC, r_ret, s_ret, r_retN, r_sif, s_sif1, s_sif0, r_ex, s_ex, r_set, s_set, r_par, s_par, r_as, s_as, s_gb, r_gNm, r_gNl, r_gCs, s_gCs, r_gTu2, r_gTu3, r_gTu4, r_gSb, s_sb, s_sb2, s_st, s_nxS, r_au, s_au, s_au0, s_au1, s_au2, s_au3, r_addI, r_for, s_for, s_body, s_turnN, s_turnC, s_turnB, s_turnR, r_r1, s_r1, r_r2, s_r2, r_sq, s_sqL, s_sqS, r_tp, s_tp, r_xT, r_xL, s_x, s_xd, at_0, at_1, at_2, at_3, at_4, r_add, r_sub, r_neg, r_mul, r_fdiv, r_mod, r_pow, r_cmp, r_is, r_eqI, r_abs, r_int, r_max, r_min, r_okV, r_snap, r_lenF, r_lenT, DL.isNon, List.replicate_succ, List.replicate_zero, List.set_cons_zero, List.set_cons_succ, List.getElem?_cons_zero, List.getElem?_cons_succ, Option.map_some, Nat.reduceSub, and_self, and_true, true_and, decide_true, decide_false, if_true, if_false, Bool.false_eq_true, Bool.not_true, Bool.not_false, Nat.reduceSub, Nat.reduceAdd, Nat.reduceMul, Nat.reduceLeDiff, takeM, e1, e2, leave_bag wf]
end
end DL

namespace DL
open PySem L2

section
variable {a b : EM} {rho : Slots} {S T : Store} {x y : SV} {t : TM} {e : EM} {gm : GM}
def k_ps (r : SV × Store) : Res (Option Int × Store) := match r.1 with
  | .fr (.int i) => .ok (some i, r.2)
  | _ => .stuck
theorem r_ps : pS a rho S = (a rho S).bind k_ps := id rfl
theorem s_ps (i : Int) : k_ps (.fr (.int i), S) = .ok (some i, S) := id rfl
theorem r_pn : pN rho S = .ok (none, S) := id rfl
def k_sl2 (c : Bool) (x : SV) (lo : Option Int) (r : Option Int × Store) : Res (SV × Store) := slG c x lo r.1 r.2
def k_sl1 (c : Bool) (hi : PM) (rho : Slots) (x : SV) (r : Option Int × Store) : Res (SV × Store) := (hi rho r.2).bind (k_sl2 c x r.1)
def k_sl (c : Bool) (lo hi : PM) (rho : Slots) (r : SV × Store) : Res (SV × Store) := (lo rho r.2).bind (k_sl1 c hi rho r.1)
theorem r_sl (c : Bool) (lo hi : PM) : eSl c a lo hi rho S = (a rho S).bind (k_sl c lo hi rho) := id rfl
theorem s_sl (c : Bool) (lo hi : PM) : k_sl c lo hi rho (x, S) = (lo rho S).bind (k_sl1 c hi rho x) := id rfl
theorem s_sl1 (c : Bool) (hi : PM) (l : Option Int) : k_sl1 c hi rho x (l, S) = (hi rho S).bind (k_sl2 c x l) := id rfl
theorem s_sl2 (c : Bool) (l u : Option Int) : k_sl2 c x l (u, S) = slG c x l u S := id rfl
theorem cut_map {α β : Type} (f : α → β) (xs : List α) (l u : Option Int) : cutA (xs.map f) l u = (cutA xs l u).map f := by
  unfold cutA
  simp [List.map_drop, List.map_take]
theorem r_slL (ds : List D) (l u : Option Int) : slG false (.fr (.lst ds)) l u S = .ok (.fr (.lst (cutA ds l u)), S) := by
  unfold slG
  simp only [rdS, rdL, cut_map, newL0, allFr_map, Bool.false_eq_true, if_false]
theorem r_slS (ds : List D) (l u : Option Int) : slG false (.fr (.scr ds)) l u S = .ok (.fr (.lst (cutA ds l u)), S) := by
  unfold slG
  simp only [rdS, cut_map, newL0, allFr_map, Bool.false_eq_true, if_false]
theorem r_slT (c : Bool) (ds : List D) (l u : Option Int) : slG c (.fr (.tup ds)) l u S = .ok (.fr (.tup (cutA ds l u)), S) := id rfl
theorem cut_to {α : Type} (xs : List α) (n : Nat) : cutA xs none (some (n : Int)) = xs.take n := by
  unfold cutA
  rw [HT.sIx_none, HT.sIx_nat, List.drop_zero, Nat.sub_zero]
  by_cases h : n ≤ xs.length
  · rw [Nat.min_eq_left h]
  · rw [Nat.min_eq_right (by omega), List.take_length, List.take_of_length_le (by omega)]
theorem cut_from {α : Type} (xs : List α) (n : Nat) : cutA xs (some (n : Int)) none = xs.drop n := by
  unfold cutA
  rw [HT.sIx_none, HT.sIx_nat]
  by_cases h : n ≤ xs.length
  · rw [Nat.min_eq_left h, List.take_of_length_le (by simp)]
  · rw [Nat.min_eq_right (by omega)]
    simp [List.drop_eq_nil_of_le (show xs.length ≤ n by omega)]
def k_l3 (r : SV × Store) : Res (Option SV × Store) := .ok (some r.1, r.2)
def k_l2 (e : EM) (rho : Slots) (r : Bool × Store) : Res (Option SV × Store) := if r.1 then (e rho r.2).bind k_l3 else .ok (none, r.2)
def k_l1 (t : TM) (e : EM) (r : Slots × Store) : Res (Option SV × Store) := (t r.1 r.2).bind (k_l2 e r.1)
def lcT (gm : GM) (t : TM) (e : EM) (x : SV) (rho : Slots) (S : Store) : Res (Option SV × Store) := (gm x rho S).bind (k_l1 t e)
theorem r_lcT : lcT gm t e x rho S = (gm x rho S).bind (k_l1 t e) := id rfl
theorem s_l1 : k_l1 t e (rho, S) = (t rho S).bind (k_l2 e rho) := id rfl
theorem s_l2t : k_l2 e rho (true, S) = (e rho S).bind k_l3 := id rfl
theorem s_l2f : k_l2 e rho (false, S) = .ok (none, S) := id rfl
theorem s_l3 : k_l3 (x, S) = .ok (some x, S) := id rfl
theorem lc_nil {lk : Store → Prop} {own : List Nat} {acc : List SV} (h : lk (S ++ [.lst acc])) : lcM lk gm t e own rho [] S acc = .ok (acc, S) := by
  unfold lcM
  rw [if_pos h]
theorem lc_some {lk : Store → Prop} {own : List Nat} {acc : List SV} {xs : List SV} {S1 : Store} (h : lk (S ++ [.lst acc])) (hl : acc.length < sizeLine) (hs : S1.length = S.length) (hr : lcT gm t e x (wipeR rho own) (S ++ [.lst acc]) = .ok (some y, S1 ++ [.lst acc])) :
    lcM lk gm t e own rho (x :: xs) S acc = lcM lk gm t e own rho xs S1 (acc ++ [y]) := by
  conv => lhs; unfold lcM
  rw [if_pos h]
  unfold lcT k_l1 k_l2 k_l3 at hr
  cases hg : gm x (wipeR rho own) (S ++ [.lst acc]) with
  | ok r =>
    rw [hg, r_bind] at hr
    rw [r_bind]
    cases ht : t r.1 r.2 with
    | ok k =>
      rw [ht, r_bind] at hr
      rw [r_bind]
      by_cases hk : k.1 = true
      · rw [if_pos hk] at hr ⊢
        cases he : e r.1 k.2 with
        | ok z =>
          rw [he, r_bind] at hr
          rw [r_bind]
          simp only [Res.ok.injEq, Prod.mk.injEq, Option.some.injEq] at hr
          obtain ⟨rfl, h2⟩ := hr
          rw [h2, unS_app hs]
          dsimp only
          rw [if_pos hl]
        | _ => rw [he] at hr; cases hr
      · rw [if_neg hk] at hr
        simp at hr
    | _ => rw [ht] at hr; cases hr
  | _ => rw [hg] at hr; cases hr
theorem lc_map {lk : Store → Prop} {own : List Nat} (f : SV → SV) (hlk : ∀ acc, lk (S ++ [.lst acc])) : ∀ (xs acc : List SV), acc.length + xs.length ≤ sizeLine →
    (∀ x ∈ xs, ∀ acc, lcT gm t e x (wipeR rho own) (S ++ [.lst acc]) = .ok (some (f x), S ++ [.lst acc])) → lcM lk gm t e own rho xs S acc = .ok (acc ++ xs.map f, S)
  | [], acc, _, _ => by rw [lc_nil (hlk _)]; simp
  | x :: xs, acc, hz, h => by
    have hz' : acc.length + (xs.length + 1) ≤ sizeLine := hz
    rw [lc_some (hlk _) (by omega) rfl (h x List.mem_cons_self acc), lc_map f hlk xs (acc ++ [f x]) (by simp; omega) fun z hz => h z (List.mem_cons_of_mem _ hz)]
    simp
noncomputable def k_lce (cc : Bool) (r : List SV × Store) : Res (SV × Store) := lcEnd cc r.1 r.2
noncomputable def k_lc (cc : Bool) (gm : GM) (t : TM) (e : EM) (own : List Nat) (rho : Slots) (r : Wk × Store) : Res (SV × Store) := (noE (lcM r.1.lk gm t e own rho r.1.xs r.2 [])).bind (k_lce cc)
theorem r_lc (cc : Bool) (im : IM) (own : List Nat) : eLC cc im gm t e own rho S = (im rho S).bind (k_lc cc gm t e own rho) := id rfl
theorem s_lc (cc : Bool) (own : List Nat) (w : Wk) : k_lc cc gm t e own rho (w, S) = (noE (lcM w.lk gm t e own rho w.xs S [])).bind (k_lce cc) := id rfl
theorem s_noE {α : Type} (r : α) : noE (.ok r) = .ok r := id rfl
theorem s_lceC (acc : List SV) : k_lce true (acc, S) = .ok (.cell S.length, S ++ [.lst acc]) := id rfl
theorem s_lceF {ds : List D} (wf : WF S) : k_lce false (ds.map SV.fr, S) = .ok (.fr (.lst ds), S) := by
  unfold k_lce lcEnd
  simp only [Bool.false_eq_true, if_false, allFr_map]
  rw [if_pos (show S.all (Cell.below S.length) = true from wf)]
theorem s_wr0 : wipeR rho [] = rho := id rfl
theorem s_wr (v : Nat) (vs : List Nat) : wipeR rho (v :: vs) = (wipeR rho vs).set v none := id rfl
end
def szN {α : Type} : List α → Nat
  | [] => 0
  | _ :: xs => szN xs + 1
theorem szN_eq {α : Type} : ∀ xs : List α, szN xs = xs.length
  | [] => rfl
  | _ :: xs => by rw [szN, szN_eq xs]; rfl
theorem s_sz0 {α : Type} : szN ([] : List α) = 0 := id rfl
theorem s_sz1 {α : Type} (x : α) (xs : List α) : szN (x :: xs) = szN xs + 1 := id rfl
section
variable {S : Store}
def k_nT (n : Nat) (S : Store) (o : Option (List D)) : Res (SV × Store) := if n ≤ 16777216 then (match o with
  | some ds => .ok (.fr (.tup ds), S)
  | none => .stuck) else .stuck
theorem r_nT (xs : List SV) : newT xs S = k_nT (szN xs) S (allFr xs) := by
  unfold newT k_nT
  rw [szN_eq, sizeLine_eq]
  try rfl
theorem s_nT {n : Nat} (h : n ≤ 16777216) (ds : List D) : k_nT n S (some ds) = .ok (.fr (.tup ds), S) := if_pos h
def k_nF (n : Nat) (S : Store) (o : Option (List D)) : Res (SV × Store) := if n ≤ 16777216 then (match o with
  | some ds => .ok (.fr (.lst ds), S)
  | none => .stuck) else .stuck
theorem r_nF (xs : List SV) : newL false xs S = k_nF (szN xs) S (allFr xs) := by
  unfold newL k_nF
  rw [szN_eq, sizeLine_eq]
  try rfl
theorem s_nF {n : Nat} (h : n ≤ 16777216) (ds : List D) : k_nF n S (some ds) = .ok (.fr (.lst ds), S) := if_pos h
def k_nC (n : Nat) (xs : List SV) (S : Store) : Res (SV × Store) := if n ≤ 16777216 then .ok (.cell S.length, S ++ [.lst xs]) else .stuck
theorem r_nC (xs : List SV) : newL true xs S = k_nC (szN xs) xs S := by
  unfold newL k_nC
  rw [szN_eq, sizeLine_eq]
  try rfl
theorem s_nC {n : Nat} (h : n ≤ 16777216) (xs : List SV) : k_nC n xs S = .ok (.cell S.length, S ++ [.lst xs]) := if_pos h
end
def absI (i : Int) : Int := if i < 0 then -i else i
theorem bag_run (ns : List Int) (hn : ns.length ≤ sizeLine) : bagM [.fr (.scr (ns.map D.int))] [] = .ok (.new (Bag.c ⟨0, 1234567891, 0, (ns.take 63).map absI⟩), []) := by
  have e1 : cutA (ns.map D.int) none (some 63) = (ns.take 63).map D.int := by
    rw [show (63 : Int) = ((63 : Nat) : Int) from rfl, cut_to, List.map_take]
  have e2 : lcM (fun _ => True) (gNm 2) tTr (eA absG (aC (eV 2) aN)) [1, 2] [some (.fr (.scr (ns.map D.int))), none, none] (((ns.take 63).map D.int).map SV.fr) [] [] = .ok ((((ns.take 63).map absI).map D.int).map SV.fr, []) := by
    rw [lc_map (fun x => match x with
      | .fr (.int i) => .fr (.int (absI i))
      | z => z) (fun _ => trivial)]
    · simp [Function.comp_def]
    · simp
      omega
    · intro x hx acc
      obtain ⟨d, hd, rfl⟩ := List.mem_map.mp hx
      obtain ⟨i, _, rfl⟩ := List.mem_map.mp hd
      simp only [r_bind, r_1, s_1, r_2, s_2, s_2b, r_v, s_v, r_c, r_n, r_a, s_a, s_ab, r_g, s_g, r_and, s_And, s_and1, s_and0, r_or, s_Or, s_or1, s_or0, r_not, s_Not, s_not, r_if, s_if1, s_if0, r_ch, s_ch, s_cha, s_chb1, s_chb0, s_chc, r_tB, s_tB, r_tV, s_tV, s_tv, r_tN, s_tN, r_tA, s_tA1, s_tA0, r_tO, s_tO1, s_tO0, r_tT, r_trB, r_trI, r_trN, r_call, s_call, s_noX, s_backV, s_backC, s_backF, s_frz, r_frz, r_all0, r_all1, r_fn1, r_fn2, r_fn3, r_fn4, r_fn5, s_lvR, s_lvN, r_nx, r_bk, r_ct, r_seq, s_seqN, s_seqR, s_seqB, s_seqC, r_ret, s_ret, r_retN, r_sif, s_sif1, s_sif0, r_ex, s_ex, r_set, s_set, r_par, s_par, r_as, s_as, s_gb, r_gNm, r_gNl, r_gCs, s_gCs, r_gTu2, r_gTu3, r_gTu4, r_gSb, s_sb, s_sb2, s_st, s_nxS, r_au, s_au, s_au0, s_au1, s_au2, s_au3, r_addI, r_for, s_for, s_body, s_turnN, s_turnC, s_turnB, s_turnR, r_r1, s_r1, r_r2, s_r2, r_sq, s_sqL, s_sqS, r_tp, s_tp, r_xT, r_xL, s_x, s_xd, at_0, at_1, at_2, at_3, at_4, r_add, r_sub, r_neg, r_mul, r_fdiv, r_mod, r_pow, r_cmp, r_is, r_eqI, r_abs, r_int, r_max, r_min, r_okV, r_snap, r_lenF, r_lenT, DL.isNon, List.replicate_succ, List.replicate_zero, List.set_cons_zero, List.set_cons_succ, List.getElem?_cons_zero, List.getElem?_cons_succ, Option.map_some, Nat.reduceSub, and_self, and_true, true_and, decide_true, decide_false, if_true, if_false, Bool.false_eq_true, Bool.not_true, Bool.not_false, Nat.reduceSub, Nat.reduceAdd, Nat.reduceMul, Nat.reduceLeDiff, r_lcT, s_l1, s_l2t, s_l3, s_wr0, s_wr]
      rfl
  simp only [r_bind, r_1, s_1, r_2, s_2, s_2b, r_v, s_v, r_c, r_n, r_a, s_a, s_ab, r_g, s_g, r_and, s_And, s_and1, s_and0, r_or, s_Or, s_or1, s_or0, r_not, s_Not, s_not, r_if, s_if1, s_if0, r_ch, s_ch, s_cha, s_chb1, s_chb0, s_chc, r_tB, s_tB, r_tV, s_tV, s_tv, r_tN, s_tN, r_tA, s_tA1, s_tA0, r_tO, s_tO1, s_tO0, r_tT, r_trB, r_trI, r_trN, r_call, s_call, s_noX, s_backV, s_backC, s_backF, s_frz, r_frz, r_all0, r_all1, r_fn1, r_fn2, r_fn3, r_fn4, r_fn5, s_lvR, s_lvN, r_nx, r_bk, r_ct, r_seq, s_seqN, s_seqR, s_seqB, s_seqC, r_ret, s_ret, r_retN, r_sif, s_sif1, s_sif0, r_ex, s_ex, r_set, s_set, r_par, s_par, r_as, s_as, s_gb, r_gNm, r_gNl, r_gCs, s_gCs, r_gTu2, r_gTu3, r_gTu4, r_gSb, s_sb, s_sb2, s_st, s_nxS, r_au, s_au, s_au0, s_au1, s_au2, s_au3, r_addI, r_for, s_for, s_body, s_turnN, s_turnC, s_turnB, s_turnR, r_r1, s_r1, r_r2, s_r2, r_sq, s_sqL, s_sqS, r_tp, s_tp, r_xT, r_xL, s_x, s_xd, at_0, at_1, at_2, at_3, at_4, r_add, r_sub, r_neg, r_mul, r_fdiv, r_mod, r_pow, r_cmp, r_is, r_eqI, r_abs, r_int, r_max, r_min, r_okV, r_snap, r_lenF, r_lenT, DL.isNon, List.replicate_succ, List.replicate_zero, List.set_cons_zero, List.set_cons_succ, List.getElem?_cons_zero, List.getElem?_cons_succ, Option.map_some, Nat.reduceSub, and_self, and_true, true_and, decide_true, decide_false, if_true, if_false, Bool.false_eq_true, Bool.not_true, Bool.not_false, Nat.reduceSub, Nat.reduceAdd, Nat.reduceMul, Nat.reduceLeDiff, bagM, r_nC, s_nC, s_sz0, s_sz1, r_lc, r_sl, s_sl, s_sl1, s_sl2, r_ps, s_ps, r_pn, r_slS, e1, s_lc, e2, s_noE, s_lceF wf_nil, Option.map_none]
  rfl
end DL

namespace DL
open PySem L2

section
variable {S : Store} {c c' : Cell} {x y : SV} {xs : List SV} {m : AM} {rho : Slots} {o : EM}
theorem get_snoc : (S ++ [c])[S.length]? = some c := by simp
theorem set_snoc : (S ++ [c]).set S.length c' = S ++ [c'] := by simp
theorem last_x (i : Int) : ixG (.cell S.length) (.fr (.int i)) (S ++ [.lst xs]) = k_x (S ++ [.lst xs]) (atI xs i) := r_xC get_snoc i
theorem at_m1 {α : Type} (l : List α) (a : α) : atI (l ++ [a]) (-1) = some a := by
  unfold atI ixN
  rw [if_neg (by decide), List.length_append, List.length_singleton, if_pos (by omega), Option.bind_some]
  have : ((-1 : Int) + ((l.length + 1 : Nat) : Int)).toNat = l.length := by omega
  rw [this]
  simp
theorem last_set (v : SV) (l : List SV) (a : SV) : setL (.cell S.length) (.fr (.int (-1))) v (S ++ [.lst (l ++ [a])]) = .ok (S ++ [.lst (l ++ [v])]) := by
  unfold setL
  have e : ixN (l ++ [a]).length (-1) = some l.length := by
    unfold ixN
    rw [if_neg (by decide), List.length_append, List.length_singleton, if_pos (by omega)]
    congr 1
    omega
  simp only [get_snoc, e, set_snoc]
  congr 4
  simp
def k_mtb (g : GMt) (x : SV) (r : List SV × Store) : Res (SV × Store) := g x r.1 r.2
def k_mt (T : String) (g : GMt) (m : AM) (rho : Slots) (r : SV × Store) : Res (SV × Store) := if tyS T r.2 r.1 then (m rho r.2).bind (k_mtb g r.1) else .stuck
theorem r_mt (T : String) (g : GMt) : eMt T g o m rho S = (o rho S).bind (k_mt T g m rho) := id rfl
theorem s_mt {T : String} (g : GMt) (h : tyS T S x = true) : k_mt T g m rho (x, S) = (m rho S).bind (k_mtb g x) := if_pos h
theorem s_mtb (g : GMt) : k_mtb g x (xs, S) = g x xs S := id rfl
theorem ty_last : tyS "list" (S ++ [.lst xs]) (.cell S.length) = true := by
  unfold tyS
  simp [rdL, get_snoc]
theorem deq_nil (ds : List D) : deq (.lst ds) (.lst []) = ds.isEmpty := by
  cases ds <;> rfl
theorem plain_nil : plain (.lst []) = true := by rfl
theorem eqD_nil {ds : List D} (h : plain (.lst ds) = true) : eqD (.lst ds) (.lst []) = some ds.isEmpty := by
  unfold eqD
  split
  · rename_i e
    cases e
  · rw [h, plain_nil, deq_nil]; rfl
theorem eq_nilF {ds : List D} (n : Bool) (h : plain (.lst ds) = true) : eqG n (.fr (.lst ds)) (.fr (.lst [])) S = .ok (.fr (.bl (if n then !ds.isEmpty else ds.isEmpty)), S) := r_eq n rfl rfl (eqD_nil h)
def k_fld (ns : List Str) (f : Str) (r : SV × Store) : Res (SV × Store) := fldG ns f r.1 r.2
theorem r_fld' (ns : List Str) (f : Str) : eFld ns f o rho S = (o rho S).bind (k_fld ns f) := id rfl
theorem s_fld (ns : List Str) (f : Str) : k_fld ns f (x, S) = fldG ns f x S := id rfl
def k_meth0 (cc : Bool) (tbl : Tbl) (nm : Str) (r : SV × Store) : Res (SV × Store) := match metOf tbl nm r.2 r.1 with
  | some f => (noX (f [r.1] r.2)).bind (back cc)
  | none => .stuck
theorem r_meth0 (cc : Bool) (tbl : Tbl) (nm : Str) : eMeth0 cc tbl nm o rho S = (o rho S).bind (k_meth0 cc tbl nm) := id rfl
theorem s_meth0 {cc : Bool} {tbl : Tbl} {nm : Str} {f : FnM} (h : metOf tbl nm S x = some f) : k_meth0 cc tbl nm (x, S) = (noX (f [x] S)).bind (back cc) := by
  unfold k_meth0
  simp only [h]
def k_methb (cc : Bool) (f : FnM) (x : SV) (r : List SV × Store) : Res (SV × Store) := (noX (f (x :: r.1) r.2)).bind (back cc)
def k_meth (cc : Bool) (tbl : Tbl) (nm : Str) (m : AM) (rho : Slots) (r : SV × Store) : Res (SV × Store) := match metOf tbl nm r.2 r.1 with
  | some f => (m rho r.2).bind (k_methb cc f r.1)
  | none => .stuck
theorem r_meth (cc : Bool) (tbl : Tbl) (nm : Str) : eMeth cc tbl nm o m rho S = (o rho S).bind (k_meth cc tbl nm m rho) := id rfl
theorem s_meth {cc : Bool} {tbl : Tbl} {nm : Str} {f : FnM} (h : metOf tbl nm S x = some f) : k_meth cc tbl nm m rho (x, S) = (m rho S).bind (k_methb cc f x) := by
  unfold k_meth
  simp only [h]
theorem s_methb (cc : Bool) (f : FnM) : k_methb cc f x (xs, S) = (noX (f (x :: xs) S)).bind (back cc) := id rfl
def k_make (c : Bool) (n : Str) (f : FnM) (r : List SV × Store) : Res (SV × Store) := (noX (f (.cell r.2.length :: r.1) (r.2 ++ [.ins n []]))).bind (mkEnd c r.2.length)
theorem r_make (c : Bool) (n : Str) (f : FnM) : eMake c n f m rho S = (m rho S).bind (k_make c n f) := id rfl
theorem s_make (c : Bool) (n : Str) (f : FnM) : k_make c n f (xs, S) = (noX (f (.cell S.length :: xs) (S ++ [.ins n []]))).bind (mkEnd c S.length) := id rfl
theorem s_mkEnd {n : Str} {fs : List (Str × SV)} {ds : List (Str × D)} (wf : WF S) (h : allFrF fs = some ds) : mkEnd false S.length (.val (.fr .non), S ++ [.ins n fs]) = .ok (.fr (.ins n ds), S) := by
  unfold mkEnd
  simp only [get_snoc, Bool.false_eq_true, if_false, List.take_left', h]
  rw [if_pos (show S.all (Cell.below S.length) = true from wf)]
def k_sfb (ns : List Str) (f : Str) (rho : Slots) (v : SV) (r : SV × Store) : Res (Fl × Slots × Store) := match r.1 with
  | .cell k => match r.2[k]? with
    | some (.ins n fs) => if n ∈ ns ∧ fs.length < 1000 then .ok (.nx, rho, r.2.set k (.ins n (putS f v fs))) else .stuck
    | _ => .stuck
  | _ => .stuck
def k_sf (ns : List Str) (f : Str) (o : EM) (rho : Slots) (r : SV × Store) : Res (Fl × Slots × Store) := (o rho r.2).bind (k_sfb ns f rho r.1)
theorem r_sf (ns : List Str) (f : Str) (p : EM) : sFldM ns f o p rho S = (p rho S).bind (k_sf ns f o rho) := id rfl
theorem s_sf (ns : List Str) (f : Str) : k_sf ns f o rho (x, S) = (o rho S).bind (k_sfb ns f rho x) := id rfl
theorem s_sfb {ns : List Str} {f n : Str} {fs : List (Str × SV)} (h : n ∈ ns ∧ fs.length < 1000) : k_sfb ns f rho x (.cell S.length, S ++ [.ins n fs]) = .ok (.nx, rho, S ++ [.ins n (putS f x fs)]) := by
  unfold k_sfb
  simp only [get_snoc, if_pos h, set_snoc]
def k_sort (c : Bool) (r : SV × Store) : Res (SV × Store) := sortG c r.1 r.2
theorem r_sort (c : Bool) : eSortF c o rho S = (o rho S).bind (k_sort c) := id rfl
theorem s_sort (c : Bool) : k_sort c (x, S) = sortG c x S := id rfl
theorem wf_acc (h : WF S) (ds : List D) : WF (S ++ [.lst (ds.map SV.fr)]) := h.snoc (by simp only [Cell.below]; exact below_map _ ds)
theorem blsOf_map : ∀ bs : List Bool, blsOf (bs.map fun b => SV.fr (.bl b)) = some bs
  | [] => rfl
  | b :: bs => by simp [blsOf, blsOf_map bs]
theorem intsOf_map : ∀ bs : List Int, intsOf (bs.map fun b => SV.fr (.int b)) = some bs
  | [] => rfl
  | b :: bs => by simp [intsOf, intsOf_map bs]
theorem all_bls (bs : List Bool) : allG [.fr (.lst (bs.map D.bl))] S = .ok (.fr (.bl (bs.all id)), S) := by
  unfold allG
  have e : (rdS S (.fr (.lst (bs.map D.bl)))).bind blsOf = some bs := by
    simp only [rdS, rdL, Option.bind_some, List.map_map]
    exact blsOf_map bs
  simp only [e, okV]
theorem sum_ints (ns : List Int) : sumG [.fr (.lst (ns.map D.int))] S = .ok (.fr (.int ns.sum), S) := by
  unfold sumG
  have e : (rdS S (.fr (.lst (ns.map D.int)))).bind intsOf = some ns := by
    simp only [rdS, rdL, Option.bind_some, List.map_map]
    exact intsOf_map ns
  simp only [e, okV]
end
end DL

namespace DL
open PySem L2

section
variable {S : Store} {a : EM} {m : AM} {rho : Slots} {x y : SV}
def k_en (r : List SV × Store) : Res (Wk × Store) := match r.1 with
  | [a] => match srcM r.2 a with
    | some (ds, lk) => .ok (⟨enF 0 ds, lk⟩, r.2)
    | none => .stuck
  | _ => .stuck
theorem r_en : iEn m rho S = (m rho S).bind k_en := id rfl
theorem src_L (ds : List D) : srcM S (.fr (.lst ds)) = some (ds, fun _ => True) := by
  unfold srcM
  simp only [rdS, rdL, Option.bind_some, allFr_map, Option.map_some]
theorem s_enL (ds : List D) : k_en ([.fr (.lst ds)], S) = .ok (⟨enF 0 ds, fun _ => True⟩, S) := by
  unfold k_en
  simp only [src_L]
def k_zi (r : List SV × Store) : Res (Wk × Store) := match r.1 with
  | [a, b] => match srcM r.2 a, srcM r.2 b with
    | some (ds, lk), some (es, lk') => .ok (⟨ziF ds es, fun S => lk S ∧ lk' S⟩, r.2)
    | _, _ => .stuck
  | _ => .stuck
theorem r_zi : iZi m rho S = (m rho S).bind k_zi := id rfl
theorem s_ziL (ds es : List D) : k_zi ([.fr (.lst ds), .fr (.lst es)], S) = .ok (⟨ziF ds es, fun _ => True ∧ True⟩, S) := by
  unfold k_zi
  simp only [src_L]
def k_sst (c : Bool) (r : SV × Store) : Res (SV × Store) := sortSetG c r.1 r.2
theorem r_sst (c : Bool) : eSortSet c a rho S = (a rho S).bind (k_sst c) := id rfl
def k_cmA (cc : Bool) (n : Str) (f : FnM) (r : List SV × Store) : Res (SV × Store) := (noX (f (.fr (.cls n) :: r.1) r.2)).bind (back cc)
theorem r_cmA (cc : Bool) (n : Str) (f : FnM) : eCmA cc n f m rho S = (m rho S).bind (k_cmA cc n f) := id rfl
theorem s_cmA (cc : Bool) (n : Str) (f : FnM) (xs : List SV) : k_cmA cc n f (xs, S) = (noX (f (.fr (.cls n) :: xs) S)).bind (back cc) := id rfl
def k_rev (c : Bool) (r : SV × Store) : Res (SV × Store) := revG c r.1 r.2
theorem r_rev (c : Bool) : eRev c a rho S = (a rho S).bind (k_rev c) := id rfl
theorem s_revF (ds : List D) : k_rev false (.fr (.lst ds), S) = .ok (.fr (.lst ds.reverse), S) := by
  show revG false (.fr (.lst ds)) S = _
  unfold revG newL0
  simp only [rdS, rdL, ← List.map_reverse, allFr_map, Bool.false_eq_true, if_false]
def k_par3 (i j l : Nat) (rho : Slots) (r : List SV × Store) : Res (Fl × Slots × Store) := match r.1 with
  | [u, v, w] => .ok (.nx, ((rho.set i (some u)).set j (some v)).set l (some w), r.2)
  | _ => .stuck
theorem r_par3 (i j l : Nat) : sPar3 i j l m rho S = (m rho S).bind (k_par3 i j l rho) := id rfl
theorem s_par3 (i j l : Nat) (z : SV) : k_par3 i j l rho ([x, y, z], S) = .ok (.nx, ((rho.set i (some x)).set j (some y)).set l (some z), S) := id rfl
theorem r_gUl3 {ms : GMs} (d e f : D) : gUl 3 ms (.fr (.lst [d, e, f])) rho S = ms [.fr d, .fr e, .fr f] rho S := id rfl
def k_mt0 (T : String) (g : GMt) (r : SV × Store) : Res (SV × Store) := if tyS T r.2 r.1 then g r.1 [] r.2 else .stuck
theorem r_mt0' (T : String) (g : GMt) : eMt0 T g a rho S = (a rho S).bind (k_mt0 T g) := id rfl
theorem s_mt0 {T : String} (g : GMt) (h : tyS T S x = true) : k_mt0 T g (x, S) = g x [] S := if_pos h
end
section
variable {S : Store}
def k_nTC (n : Nat) (xs : List SV) (S : Store) : Res (SV × Store) := if n ≤ 16777216 then .ok (.cell S.length, S ++ [.tup xs]) else .stuck
theorem r_nTC (xs : List SV) : newTC xs S = k_nTC (szN xs) xs S := by
  unfold newTC k_nTC
  rw [szN_eq, sizeLine_eq]
  try rfl
theorem s_nTC {n : Nat} (h : n ≤ 16777216) (xs : List SV) : k_nTC n xs S = .ok (.cell S.length, S ++ [.tup xs]) := if_pos h
end
end DL

namespace DL
open PySem PySem.Spec PyProof.Rows L2
section
variable {a b c : EM} {m : AM} {rho : Slots} {S : Store} {x y z : SV} {xs : List SV} {k j : Nat} {kvs : List (List Key × SV)} {key : List Key}
def k_get3 (o k : SV) (r : SV × Store) : Res (SV × Store) := getTG o k r.1 r.2
def k_get2 (o : SV) (mx : EM) (rho : Slots) (r : SV × Store) : Res (SV × Store) := (mx rho r.2).bind (k_get3 o r.1)
def k_get1 (mk mx : EM) (rho : Slots) (r : SV × Store) : Res (SV × Store) := if (rdTD r.2 r.1).isSome then (mk rho r.2).bind (k_get2 r.1 mx rho) else .stuck
theorem r_getT : eGetT a b c rho S = (a rho S).bind (k_get1 b c rho) := id rfl
theorem s_get2 : k_get2 x c rho (y, S) = (c rho S).bind (k_get3 x y) := id rfl
theorem s_get3 : k_get3 x y (z, S) = getTG x y z S := id rfl
def k_ptT3 (rho : Slots) (S' : Store) : Res (Slots × Store) := .ok (rho, S')
def k_ptT2 (x : SV) (rho : Slots) (o : SV) (i : SV × Store) : Res (Slots × Store) := (putTD o i.1 x i.2).bind (k_ptT3 rho)
def k_ptT (mi : EM) (x : SV) (rho : Slots) (o : SV × Store) : Res (Slots × Store) := (mi rho o.2).bind (k_ptT2 x rho o.1)
theorem r_ptT : gPtT a b x rho S = (a rho S).bind (k_ptT b x rho) := id rfl
theorem s_ptT : k_ptT b x rho (y, S) = (b rho S).bind (k_ptT2 x rho y) := id rfl
theorem s_ptT2 : k_ptT2 x rho y (z, S) = (putTD y z x S).bind (k_ptT3 rho) := id rfl
theorem s_ptT3 : k_ptT3 rho S = .ok (rho, S) := id rfl
def k_mtT (g : GMt) (m : AM) (rho : Slots) (r : SV × Store) : Res (SV × Store) := match r.1 with
  | .cell j => match r.2[j]? with
    | some (.dit _) => (m rho r.2).bind (k_mtb g r.1)
    | _ => .stuck
  | _ => .stuck
theorem r_mtT (g : GMt) : eMtT g a m rho S = (a rho S).bind (k_mtT g m rho) := by
  unfold eMtT
  congr 1
def k_itT (r : SV × Store) : Res (Wk × Store) := match lkd r.2 r.1 with
  | some kvs => match itemsT kvs with
    | some xs => .ok (⟨xs, ktP⟩, r.2)
    | none => .stuck
  | none => .stuck
theorem r_itT : iItT a rho S = (a rho S).bind k_itT := id rfl
def k_kyT (r : SV × Store) : Res (Wk × Store) := match lkd r.2 r.1 with
  | some kvs => .ok (⟨kvs.map fun p => .fr (tupK p.1), ktP⟩, r.2)
  | none => .stuck
theorem r_kyT : iKyT a rho S = (a rho S).bind k_kyT := id rfl
theorem r_mkK0 (n : Str) (f : KnM) : eMakeK0 n f rho S = (noXK (f [.cell S.length] (S ++ [.ins n []]))).bind (mkEndK S.length) := id rfl
theorem s_noXK (r : SV × Store) : noXK (.ok r) = .ok r := id rfl
theorem s_mkEndK (T : Store) : mkEndK k (.fr .non, T) = .ok (.cell k, T) := id rfl
def k_tOwn2 (r : RV × Store) : Res (Bool × Store) := match r.1 with
  | .val (.fr (.bl b)) => .ok (b, r.2)
  | _ => .stuck
def k_tOwn (tbl : Tbl) (x : SV × Store) : Res (Bool × Store) := match insOf x.2 x.1 with
  | some (n, _) => match tbl.lookup n with
    | some f => (noX (f [x.1] x.2)).bind k_tOwn2
    | none => .stuck
  | none => .stuck
theorem r_tOwn (tbl : Tbl) : tOwn tbl a rho S = (a rho S).bind (k_tOwn tbl) := id rfl
theorem s_tOwn2 (r : Bool) : k_tOwn2 (.val (.fr (.bl r)), S) = .ok (r, S) := id rfl
def k_cK (f : KnM) (x : List SV × Store) : Res (SV × Store) := match f x.1 x.2 with
  | .exc _ _ _ => .stuck
  | r => r
theorem r_cK (f : KnM) : eCallK f m rho S = (m rho S).bind (k_cK f) := id rfl
theorem s_cK {f : KnM} {r : SV × Store} (h : f xs S = .ok r) : k_cK f (xs, S) = .ok r := by
  unfold k_cK
  simp only [h]
theorem r_dnt : eDNT rho S = .ok (.cell S.length, S ++ [.dit []]) := id rfl
end
section
variable {κ : Type} [DecidableEq κ]
end
end DL

namespace DL
open PySem PySem.Spec PyProof.Rows L2
section
variable {a b c : EM} {m : AM} {rho r : Slots} {S : Store} {x y z : SV} {xs : List SV} {k j : Nat} {kvs : List (List Key × SV)} {key : List Key}
def k_callX (f : FnM) (cc : Bool) (rho : Slots) (x : List SV × Store) : Res (SV × Store) := (cutX x.2.length rho (f x.1 x.2)).bind (back cc)
theorem r_callX (f : FnM) (cc : Bool) : eCallX f cc m rho S = (m rho S).bind (k_callX f cc rho) := id rfl
theorem s_callX (f : FnM) (cc : Bool) : k_callX f cc rho (xs, S) = (cutX S.length rho (f xs S)).bind (back cc) := id rfl
theorem s_cutX (n : Nat) (x : RV × Store) : cutX n rho (.ok x) = .ok x := id rfl
def k_methX2 (cc : Bool) (f : FnM) (x : SV) (rho : Slots) (y : List SV × Store) : Res (SV × Store) := (cutX y.2.length rho (f (x :: y.1) y.2)).bind (back cc)
def k_methX (cc : Bool) (tbl : Tbl) (nm : Str) (m : AM) (rho : Slots) (x : SV × Store) : Res (SV × Store) := match metOf tbl nm x.2 x.1 with
  | some f => (m rho x.2).bind (k_methX2 cc f x.1 rho)
  | none => .stuck
theorem r_methX (cc : Bool) (tbl : Tbl) (nm : Str) : eMethX cc tbl nm a m rho S = (a rho S).bind (k_methX cc tbl nm m rho) := id rfl
theorem s_methX2 (cc : Bool) (f : FnM) : k_methX2 cc f x rho (xs, S) = (cutX S.length rho (f (x :: xs) S)).bind (back cc) := id rfl
def k_rsF (C : Str) (fs : List Str) (rho : Slots) (x : List SV × Store) : Res (Fl × Slots × Store) := match allFr x.1 with
  | some ds => if ds.length = fs.length ∧ fs.length ≤ 900 ∧ fs ≠ [] then .exc ⟨C, (fs.zip ds).reverse⟩ rho x.2 else .stuck
  | none => .stuck
theorem r_rsF (C : Str) (fs : List Str) : sRsF C fs m rho S = (m rho S).bind (k_rsF C fs rho) := id rfl
theorem s_rsF {C : Str} {fs : List Str} {ds : List D} (hl : ds.length = fs.length ∧ fs.length ≤ 900 ∧ fs ≠ []) : k_rsF C fs rho (ds.map SV.fr, S) = .exc ⟨C, (fs.zip ds).reverse⟩ rho S := by
  unfold k_rsF
  simp only [allFr_map, if_pos hl]
def k_prop (cc : Bool) (n : Str) (f : FnM) (x : SV × Store) : Res (SV × Store) := match insOf x.2 x.1 with
  | some (n', _) => if n' = n then (noX (f [x.1] x.2)).bind (back cc) else .stuck
  | none => .stuck
theorem r_prop (cc : Bool) (n : Str) (f : FnM) : eProp cc n f a rho S = (a rho S).bind (k_prop cc n f) := id rfl
def k_vlT (r : SV × Store) : Res (Wk × Store) := match lkd r.2 r.1 with
  | some kvs => .ok (⟨kvs.map (·.2), ktP⟩, r.2)
  | none => .stuck
theorem r_vlT : iVlT a rho S = (a rho S).bind k_vlT := id rfl
def k_sortL (kG : KG) (cc : Bool) (x : SV × Store) : Res (SV × Store) := sortLG kG cc x.1 x.2
theorem r_sortL (kG : KG) (cc : Bool) : eSortL kG cc a rho S = (a rho S).bind (k_sortL kG cc) := id rfl
theorem s_sortL (kG : KG) (cc : Bool) : k_sortL kG cc (x, S) = sortLG kG cc x S := id rfl
def k_minL (kG : KG) (x : SV × Store) : Res (SV × Store) := minLG kG x.1 x.2
theorem r_minL (kG : KG) : eMinL kG a rho S = (a rho S).bind (k_minL kG) := id rfl
theorem s_minL (kG : KG) : k_minL kG (x, S) = minLG kG x S := id rfl
end
end DL

namespace DL
open PySem PySem.Spec PyProof.Rows L2
def RR := (And.intro (And.intro (And.intro (And.intro (And.intro (And.intro (And.intro @r_bind (And.intro @r_1 @s_1)) (And.intro (And.intro @r_2 @s_2) (And.intro @s_2b @r_v))) (And.intro (And.intro (And.intro @s_v @r_c) (And.intro @r_n @r_a)) (And.intro (And.intro @s_a @s_ab) (And.intro @r_g @s_g)))) (And.intro (And.intro (And.intro (And.intro @r_and @s_And) (And.intro @s_and1 @s_and0)) (And.intro (And.intro @r_or @s_Or) (And.intro @s_or1 @s_or0))) (And.intro (And.intro (And.intro @r_not @s_Not) (And.intro @s_not @r_if)) (And.intro (And.intro @s_if1 @s_if0) (And.intro @r_ch @s_ch))))) (And.intro (And.intro (And.intro (And.intro (And.intro @s_cha @s_chb1) (And.intro @s_chb0 @s_chc)) (And.intro (And.intro @r_tB @s_tB) (And.intro @r_tV @s_tV))) (And.intro (And.intro (And.intro @s_tv @r_tN) (And.intro @s_tN @r_tA)) (And.intro (And.intro @s_tA1 @s_tA0) (And.intro @r_tO @s_tO1)))) (And.intro (And.intro (And.intro (And.intro @s_tO0 @r_tT) (And.intro @r_trB @r_trI)) (And.intro (And.intro @r_trN @r_call) (And.intro @s_call @s_noX))) (And.intro (And.intro (And.intro @s_backV @s_backC) (And.intro @s_backF @s_frz)) (And.intro (And.intro @r_frz @r_all0) (And.intro @r_all1 @r_fn1)))))) (And.intro (And.intro (And.intro (And.intro (And.intro @r_fn2 (And.intro @r_fn3 @r_fn4)) (And.intro (And.intro @r_fn5 @s_lvR) (And.intro @s_lvN @r_nx))) (And.intro (And.intro (And.intro @r_bk @r_ct) (And.intro @r_seq @s_seqN)) (And.intro (And.intro @s_seqR @s_seqB) (And.intro @s_seqC @r_ret)))) (And.intro (And.intro (And.intro (And.intro @s_ret @r_retN) (And.intro @r_sif @s_sif1)) (And.intro (And.intro @s_sif0 @r_ex) (And.intro @s_ex @r_set))) (And.intro (And.intro (And.intro @s_set @r_par) (And.intro @s_par @r_as)) (And.intro (And.intro @s_as @s_gb) (And.intro @r_gNm @r_gNl))))) (And.intro (And.intro (And.intro (And.intro (And.intro @r_gCs @s_gCs) (And.intro @r_gTu2 @r_gTu3)) (And.intro (And.intro @r_gTu4 @r_gSb) (And.intro @s_sb @s_sb2))) (And.intro (And.intro (And.intro @s_st @s_nxS) (And.intro @r_au @s_au)) (And.intro (And.intro @s_au0 @s_au1) (And.intro @s_au2 @s_au3)))) (And.intro (And.intro (And.intro (And.intro @r_addI @r_for) (And.intro @s_for @s_body)) (And.intro (And.intro @s_turnN @s_turnC) (And.intro @s_turnB @s_turnR))) (And.intro (And.intro (And.intro @r_r1 @s_r1) (And.intro @r_r2 @s_r2)) (And.intro (And.intro @r_sq @s_sqL) (And.intro @s_sqS @r_tp))))))) (And.intro (And.intro (And.intro (And.intro (And.intro (And.intro @s_tp (And.intro @r_xT @r_xL)) (And.intro (And.intro @s_x @s_xd) (And.intro @at_0 @at_1))) (And.intro (And.intro (And.intro @at_2 @at_3) (And.intro @at_4 @r_add)) (And.intro (And.intro @r_sub @r_neg) (And.intro @r_mul @r_fdiv)))) (And.intro (And.intro (And.intro (And.intro @r_mod @r_pow) (And.intro @r_cmp @r_is)) (And.intro (And.intro @r_eqI @r_abs) (And.intro @r_int @r_max))) (And.intro (And.intro (And.intro @r_min @r_okV) (And.intro @r_snap @r_lenF)) (And.intro (And.intro @r_lenT @r_ps) (And.intro @s_ps @r_pn))))) (And.intro (And.intro (And.intro (And.intro (And.intro @r_sl @s_sl) (And.intro @s_sl1 @s_sl2)) (And.intro (And.intro @r_slL @r_slS) (And.intro @r_slT @r_lcT))) (And.intro (And.intro (And.intro @s_l1 @s_l2t) (And.intro @s_l2f @s_l3)) (And.intro (And.intro @r_lc @s_lc) (And.intro @s_noE @s_lceC)))) (And.intro (And.intro (And.intro (And.intro @s_wr0 @s_wr) (And.intro @r_nT @s_nT)) (And.intro (And.intro @r_nF @s_nF) (And.intro @r_nC @s_nC))) (And.intro (And.intro (And.intro @s_sz0 @s_sz1) (And.intro @last_x @at_m1)) (And.intro (And.intro @last_set @r_mt) (And.intro @s_mt @s_mtb)))))) (And.intro (And.intro (And.intro (And.intro (And.intro (And.intro @ty_last @r_fld') (And.intro @s_fld @r_meth0)) (And.intro (And.intro @s_meth0 @r_meth) (And.intro @s_meth @s_methb))) (And.intro (And.intro (And.intro @r_make @s_make) (And.intro @r_sf @s_sf)) (And.intro (And.intro @s_sfb @r_sort) (And.intro @s_sort @r_en)))) (And.intro (And.intro (And.intro (And.intro @s_enL @r_zi) (And.intro @s_ziL @r_sst)) (And.intro (And.intro @r_mt0' @r_gUl3) (And.intro @r_par3 @s_par3))) (And.intro (And.intro (And.intro @r_cmA @s_cmA) (And.intro @r_rev @s_revF)) (And.intro (And.intro @r_cw @s_cw) (And.intro @s_cw1 @r_fill))))) (And.intro (And.intro (And.intro (And.intro (And.intro @r_isB @r_nTC) (And.intro @s_nTC @r_getT)) (And.intro (And.intro @s_get2 @s_get3) (And.intro @r_ptT @s_ptT))) (And.intro (And.intro (And.intro @s_ptT2 @s_ptT3) (And.intro @r_mtT @r_itT)) (And.intro (And.intro @r_kyT @r_mkK0) (And.intro @s_noXK @s_mkEndK)))) (And.intro (And.intro (And.intro (And.intro @r_tOwn @s_tOwn2) (And.intro @r_cK @r_dnt)) (And.intro (And.intro @r_callX @s_callX) (And.intro @s_cutX @r_methX))) (And.intro (And.intro (And.intro @s_methX2 @r_rsF) (And.intro @r_prop @r_vlT)) (And.intro (And.intro @r_sortL @s_sortL) (And.intro @r_minL @s_minL))))))))
end DL

namespace MA

abbrev Span := Int × Option Int
def below (x : Int) : Option Int → Bool
  | none => true
  | some l => decide (x ≤ l)
def cov (s : Span) (x : Int) : Bool := decide (s.1 ≤ x) && below x s.2
def mem (ss : List Span) (x : Int) : Bool := ss.any fun s => cov s x
structure Ok (s : Span) : Prop where
  f0 : 0 ≤ s.1
  l1 : ∀ l, s.2 = some l → s.1 ≤ l
def Nf : Int → List Span → Prop
  | _, [] => True
  | lo, (f, none) :: r => lo ≤ f ∧ r = []
  | lo, (f, some l) :: r => lo ≤ f ∧ f ≤ l ∧ Nf (l + 2) r
theorem Nf.mono {a b : Int} (h : b ≤ a) : ∀ {ss : List Span}, Nf a ss → Nf b ss
  | [], _ => True.intro
  | (f, none) :: r, q => ⟨Int.le_trans h q.1, q.2⟩
  | (f, some l) :: r, q => ⟨Int.le_trans h q.1, q.2⟩
theorem mem_nil (x : Int) : mem [] x = false := rfl
theorem mem_cons (s : Span) (ss : List Span) (x : Int) : mem (s :: ss) x = (cov s x || mem ss x) := rfl
theorem Nf.low {lo x : Int} : ∀ {ss : List Span}, Nf lo ss → x < lo → mem ss x = false
  | [], _, _ => rfl
  | (f, none) :: r, q, h => by
    obtain ⟨q1, rfl⟩ := q
    have : ¬ f ≤ x := by omega
    simp [mem_cons, mem_nil, cov, this]
  | (f, some l) :: r, q, h => by
    obtain ⟨q1, q2, q3⟩ := q
    have : ¬ f ≤ x := by omega
    rw [mem_cons, Nf.low q3 (by omega)]
    simp [cov, this]
theorem Nf.uniq : ∀ {xs ys : List Span} {a b : Int}, Nf a xs → Nf b ys → (∀ x, mem xs x = mem ys x) → xs = ys
  | [], [], _, _, _, _, _ => rfl
  | [], (f, l) :: r, _, _, _, q, h => by
    have z := h f
    have : cov (f, l) f = true := by
      cases l with
      | none => simp [cov, below]
      | some i => simp [cov, below, q.2.1]
    rw [mem_nil, mem_cons, this] at z
    cases z
  | (f, l) :: r, [], _, _, q, _, h => by
    have z := h f
    have : cov (f, l) f = true := by
      cases l with
      | none => simp [cov, below]
      | some i => simp [cov, below, q.2.1]
    rw [mem_nil, mem_cons, this] at z
    cases z
  | (f, l) :: r, (g, k) :: t, a, b, q, p, h => by
    have cf : cov (f, l) f = true := by
      cases l with
      | none => simp [cov, below]
      | some i => simp [cov, below, q.2.1]
    have cg : cov (g, k) g = true := by
      cases k with
      | none => simp [cov, below]
      | some i => simp [cov, below, p.2.1]
    have lowr : ∀ x, x ≤ f → mem r x = false := fun x hx => by
      cases l with
      | none => rw [q.2]; rfl
      | some i => exact q.2.2.low (by have := q.2.1; omega)
    have lowt : ∀ x, x ≤ g → mem t x = false := fun x hx => by
      cases k with
      | none => rw [p.2]; rfl
      | some i => exact p.2.2.low (by have := p.2.1; omega)
    have fg : f = g := by
      rcases Int.lt_trichotomy f g with c | c | c
      · have z := h f
        rw [mem_cons, mem_cons, cf, lowt f (by omega)] at z
        have : cov (g, k) f = false := by simp [cov]; intro; omega
        rw [this] at z
        cases z
      · exact c
      · have z := h g
        rw [mem_cons, mem_cons, cg, lowr g (by omega)] at z
        have : cov (f, l) g = false := by simp [cov]; intro; omega
        rw [this] at z
        cases z
    subst fg
    cases l with
    | none =>
      cases k with
      | none => rw [q.2, p.2]
      | some j =>
        have z := h (j + 1)
        have e1 : cov (f, none) (j + 1) = true := by
          have := p.2.1
          simp [cov, below]; omega
        have e2 : cov (f, some j) (j + 1) = false := by simp [cov, below]; intro; omega
        rw [mem_cons, mem_cons, e1, e2, p.2.2.low (by omega)] at z
        cases z
    | some i =>
      cases k with
      | none =>
        have z := h (i + 1)
        have e1 : cov (f, none) (i + 1) = true := by
          have := q.2.1
          simp [cov, below]; omega
        have e2 : cov (f, some i) (i + 1) = false := by simp [cov, below]; intro; omega
        rw [mem_cons, mem_cons, e1, e2, q.2.2.low (by omega)] at z
        cases z
      | some j =>
        have ij : i = j := by
          rcases Int.lt_trichotomy i j with c | c | c
          · have z := h (i + 1)
            have e1 : cov (f, some j) (i + 1) = true := by
              have := q.2.1
              simp [cov, below]; omega
            have e2 : cov (f, some i) (i + 1) = false := by simp [cov, below]; intro; omega
            rw [mem_cons, mem_cons, e1, e2, q.2.2.low (by omega)] at z
            cases z
          · exact c
          · have z := h (j + 1)
            have e1 : cov (f, some i) (j + 1) = true := by
              have := p.2.1
              simp [cov, below]; omega
            have e2 : cov (f, some j) (j + 1) = false := by simp [cov, below]; intro; omega
            rw [mem_cons, mem_cons, e1, e2, p.2.2.low (by omega)] at z
            cases z
        subst ij
        have rest : r = t := Nf.uniq q.2.2 p.2.2 fun x => by
          by_cases hx : x ≤ i
          · rw [q.2.2.low (by omega), p.2.2.low (by omega)]
          · have z := h x
            have e2 : cov (f, some i) x = false := by simp [cov, below]; intro; omega
            rw [mem_cons, mem_cons, e2] at z
            exact z
        rw [rest]
theorem Nf.ok {lo : Int} (h0 : 0 ≤ lo) : ∀ {ss : List Span}, Nf lo ss → ∀ s ∈ ss, Ok s
  | [], _, s, hs => by cases hs
  | (f, none) :: r, q, s, hs => by
    rw [q.2] at hs
    rcases List.mem_cons.mp hs with rfl | hs
    · exact ⟨by have := q.1; show 0 ≤ f; omega, fun l e => by cases e⟩
    · cases hs
  | (f, some l) :: r, q, s, hs => by
    rcases List.mem_cons.mp hs with rfl | hs
    · exact ⟨by have := q.1; show 0 ≤ f; omega, fun i e => by cases e; exact q.2.1⟩
    · exact Nf.ok (by have := q.1; have := q.2.1; omega) q.2.2 s hs

theorem below_mono {x y : Int} (h : y ≤ x) {l : Option Int} (b : below x l = true) : below y l = true := by
  cases l with
  | none => rfl
  | some i => simp only [below, decide_eq_true_eq] at *; omega
end MA

namespace MB

abbrev St := Int × MA.Span
def lev : List St → Int → Int
  | [], _ => 0
  | (l, s) :: r, x => if MA.cov s x = true then l else lev r x
def Wf : Int → List St → Prop
  | _, [] => True
  | p, (l, f, none) :: r => 1 ≤ l ∧ l ≤ 2 ∧ p ≤ f ∧ r = []
  | p, (l, f, some i) :: r => 1 ≤ l ∧ l ≤ 2 ∧ p ≤ f ∧ f ≤ i ∧ Wf (i + 1) r
def Nf : Int → Int → List St → Prop
  | _, _, [] => True
  | p, q, (l, f, none) :: r => 1 ≤ l ∧ l ≤ 2 ∧ p ≤ f ∧ (f = p → l ≠ q) ∧ r = []
  | p, q, (l, f, some i) :: r => 1 ≤ l ∧ l ≤ 2 ∧ p ≤ f ∧ (f = p → l ≠ q) ∧ f ≤ i ∧ Nf (i + 1) l r
theorem Nf.wf : ∀ {ss : List St} {p q : Int}, Nf p q ss → Wf p ss
  | [], _, _, _ => True.intro
  | (l, f, none) :: r, _, _, h => ⟨h.1, h.2.1, h.2.2.1, h.2.2.2.2⟩
  | (l, f, some i) :: r, _, _, h => ⟨h.1, h.2.1, h.2.2.1, h.2.2.2.2.1, h.2.2.2.2.2.wf⟩
theorem Wf.mono {a b : Int} (h : b ≤ a) : ∀ {ss : List St}, Wf a ss → Wf b ss
  | [], _ => True.intro
  | (l, f, none) :: r, q => ⟨q.1, q.2.1, Int.le_trans h q.2.2.1, q.2.2.2⟩
  | (l, f, some i) :: r, q => ⟨q.1, q.2.1, Int.le_trans h q.2.2.1, q.2.2.2⟩
theorem lev_cons (l : Int) (s : MA.Span) (r : List St) (x : Int) : lev ((l, s) :: r) x = if MA.cov s x = true then l else lev r x := rfl
theorem cov_n {f x : Int} : (MA.cov (f, none) x = true) ↔ f ≤ x := by simp [MA.cov, MA.below]
theorem cov_s {f i x : Int} : (MA.cov (f, some i) x = true) ↔ (f ≤ x ∧ x ≤ i) := by simp [MA.cov, MA.below]
theorem Wf.low {p x : Int} : ∀ {ss : List St}, Wf p ss → x < p → lev ss x = 0
  | [], _, _ => rfl
  | (l, f, none) :: r, q, h => by
    obtain ⟨_, _, q3, rfl⟩ := q
    rw [lev_cons, if_neg (by rw [cov_n]; omega)]
    rfl
  | (l, f, some i) :: r, q, h => by
    obtain ⟨_, _, q3, q4, q5⟩ := q
    rw [lev_cons, if_neg (by rw [cov_s]; omega)]
    exact q5.low (by omega)
theorem Nf.at_ {p q : Int} (hq : 1 ≤ q) : ∀ {ss : List St}, Nf p q ss → lev ss p ≠ q
  | [], _ => by show (0 : Int) ≠ q; omega
  | (l, f, none) :: r, h => by
    obtain ⟨h1, h2, h3, h4, rfl⟩ := h
    rw [lev_cons]
    split
    · rename_i c
      rw [cov_n] at c
      exact h4 (by omega)
    · show (0 : Int) ≠ q
      omega
  | (l, f, some i) :: r, h => by
    obtain ⟨h1, h2, h3, h4, h5, h6⟩ := h
    rw [lev_cons]
    split
    · rename_i c
      rw [cov_s] at c
      exact h4 (by omega)
    · rename_i c
      rw [cov_s] at c
      rw [h6.wf.low (by omega)]
      omega
theorem Nf.uniq : ∀ {xs ys : List St} {p q : Int}, Nf p q xs → Nf p q ys → (∀ x, p ≤ x → lev xs x = lev ys x) → xs = ys
  | [], [], _, _, _, _, _ => rfl
  | [], (l, f, e) :: r, p, q, _, k, h => by
    have hf : p ≤ f ∧ 1 ≤ l ∧ MA.cov (f, e) f = true := by
      cases e with
      | none => exact ⟨k.2.2.1, k.1, cov_n.mpr (Int.le_refl _)⟩
      | some i => exact ⟨k.2.2.1, k.1, cov_s.mpr ⟨Int.le_refl _, k.2.2.2.2.1⟩⟩
    have z := h f hf.1
    rw [lev_cons, if_pos hf.2.2] at z
    have : (0 : Int) = l := z
    omega
  | (l, f, e) :: r, [], p, q, k, _, h => by
    have hf : p ≤ f ∧ 1 ≤ l ∧ MA.cov (f, e) f = true := by
      cases e with
      | none => exact ⟨k.2.2.1, k.1, cov_n.mpr (Int.le_refl _)⟩
      | some i => exact ⟨k.2.2.1, k.1, cov_s.mpr ⟨Int.le_refl _, k.2.2.2.2.1⟩⟩
    have z := h f hf.1
    rw [lev_cons, if_pos hf.2.2] at z
    have : l = (0 : Int) := z
    omega
  | (l, f, e) :: r, (m, g, d) :: t, p, q, k, j, h => by
    have hf : p ≤ f ∧ 1 ≤ l ∧ MA.cov (f, e) f = true ∧ (∀ x, x < f → lev ((l, f, e) :: r) x = 0) := by
      cases e with
      | none => exact ⟨k.2.2.1, k.1, cov_n.mpr (Int.le_refl _), fun x hx => Wf.low (p := f) (ss := (l, f, none) :: r) ⟨k.1, k.2.1, Int.le_refl _, k.2.2.2.2⟩ hx⟩
      | some i => exact ⟨k.2.2.1, k.1, cov_s.mpr ⟨Int.le_refl _, k.2.2.2.2.1⟩, fun x hx => Wf.low (p := f) (ss := (l, f, some i) :: r) ⟨k.1, k.2.1, Int.le_refl _, k.2.2.2.2.1, k.2.2.2.2.2.wf⟩ hx⟩
    have hg : p ≤ g ∧ 1 ≤ m ∧ MA.cov (g, d) g = true ∧ (∀ x, x < g → lev ((m, g, d) :: t) x = 0) := by
      cases d with
      | none => exact ⟨j.2.2.1, j.1, cov_n.mpr (Int.le_refl _), fun x hx => Wf.low (p := g) (ss := (m, g, none) :: t) ⟨j.1, j.2.1, Int.le_refl _, j.2.2.2.2⟩ hx⟩
      | some i => exact ⟨j.2.2.1, j.1, cov_s.mpr ⟨Int.le_refl _, j.2.2.2.2.1⟩, fun x hx => Wf.low (p := g) (ss := (m, g, some i) :: t) ⟨j.1, j.2.1, Int.le_refl _, j.2.2.2.2.1, j.2.2.2.2.2.wf⟩ hx⟩
    have vf : lev ((l, f, e) :: r) f = l := by rw [lev_cons, if_pos hf.2.2.1]
    have vg : lev ((m, g, d) :: t) g = m := by rw [lev_cons, if_pos hg.2.2.1]
    have fg : f = g := by
      rcases Int.lt_trichotomy f g with c | c | c
      · have z := h f hf.1
        rw [vf, hg.2.2.2 f c] at z
        omega
      · exact c
      · have z := h g hg.1
        rw [vg, hf.2.2.2 g c] at z
        omega
    subst fg
    have lm : l = m := by
      have z := h f hf.1
      rw [vf, vg] at z
      exact z
    subst lm
    cases e with
    | none =>
      cases d with
      | none => rw [k.2.2.2.2, j.2.2.2.2]
      | some i =>
        have z := h (i + 1) (by have := j.2.2.2.2.1; omega)
        rw [lev_cons, if_pos (cov_n.mpr (by have := j.2.2.2.2.1; omega)), lev_cons, if_neg (by rw [cov_s]; omega)] at z
        exact absurd z.symm (Nf.at_ j.1 j.2.2.2.2.2)
    | some i =>
      cases d with
      | none =>
        have z := h (i + 1) (by have := k.2.2.2.2.1; omega)
        rw [lev_cons, if_neg (by rw [cov_s]; omega), lev_cons, if_pos (cov_n.mpr (by have := k.2.2.2.2.1; omega))] at z
        exact absurd z (Nf.at_ k.1 k.2.2.2.2.2)
      | some i' =>
        have ii : i = i' := by
          rcases Int.lt_trichotomy i i' with c | c | c
          · have z := h (i + 1) (by have := k.2.2.2.2.1; omega)
            rw [lev_cons, if_neg (by rw [cov_s]; omega), lev_cons, if_pos (cov_s.mpr (by have := k.2.2.2.2.1; omega))] at z
            exact absurd z (Nf.at_ k.1 k.2.2.2.2.2)
          · exact c
          · have z := h (i' + 1) (by have := j.2.2.2.2.1; omega)
            rw [lev_cons, if_pos (cov_s.mpr (by have := j.2.2.2.2.1; omega)), lev_cons, if_neg (by rw [cov_s]; omega)] at z
            exact absurd z.symm (Nf.at_ j.1 j.2.2.2.2.2)
        subst ii
        have rt : r = t := Nf.uniq k.2.2.2.2.2 j.2.2.2.2.2 fun x hx => by
          have z := h x (by have := k.2.2.2.2.1; omega)
          rw [lev_cons, if_neg (by rw [cov_s]; omega), lev_cons, if_neg (by rw [cov_s]; omega)] at z
          exact z
        rw [rt]

def ends : List St → List Int
  | [] => []
  | (_, f, none) :: r => f :: ends r
  | (_, f, some i) :: r => f :: (i + 1) :: ends r
def Cst (F : List Int) (g : Int → Int) : Prop := ∀ x y, x ≤ y → (∀ b ∈ F, ¬ (x < b ∧ b ≤ y)) → g x = g y
theorem Cst.mono {F G : List Int} {g : Int → Int} (h : Cst F g) (k : ∀ b ∈ F, b ∈ G) : Cst G g := fun x y q n => h x y q fun b hb => n b (k b hb)
theorem Nf.change : ∀ {ss : List St} {p q : Int}, Nf p q ss → ∀ b ∈ ends ss, (b = p ∧ lev ss p ≠ q) ∨ (p < b ∧ lev ss b ≠ lev ss (b - 1))
  | [], _, _, _, b, hb => by cases hb
  | (l, f, none) :: r, p, q, h, b, hb => by
    obtain ⟨h1, h2, h3, h4, rfl⟩ := h
    simp only [ends, List.mem_cons, List.not_mem_nil, or_false] at hb
    subst hb
    by_cases c : b = p
    · left
      refine ⟨c, ?_⟩
      rw [lev_cons, if_pos (cov_n.mpr (by omega))]
      exact h4 c
    · right
      refine ⟨by omega, ?_⟩
      rw [lev_cons, if_pos (cov_n.mpr (by omega)), lev_cons, if_neg (by rw [cov_n]; omega)]
      show l ≠ (0 : Int)
      omega
  | (l, f, some i) :: r, p, q, h, b, hb => by
    obtain ⟨h1, h2, h3, h4, h5, h6⟩ := h
    simp only [ends, List.mem_cons] at hb
    rcases hb with rfl | rfl | hb
    · by_cases c : b = p
      · left
        refine ⟨c, ?_⟩
        rw [lev_cons, if_pos (cov_s.mpr (by omega))]
        exact h4 c
      · right
        refine ⟨by omega, ?_⟩
        rw [lev_cons, if_pos (cov_s.mpr (by omega)), lev_cons, if_neg (by rw [cov_s]; omega), h6.wf.low (by omega)]
        omega
    · right
      refine ⟨by omega, ?_⟩
      rw [lev_cons, if_neg (by rw [cov_s]; omega), lev_cons, if_pos (cov_s.mpr (by omega))]
      exact Nf.at_ h1 h6
    · right
      rcases Nf.change h6 b hb with ⟨rfl, c⟩ | ⟨c1, c2⟩
      · refine ⟨by omega, ?_⟩
        rw [lev_cons, if_neg (by rw [cov_s]; omega), lev_cons, if_pos (cov_s.mpr (by omega))]
        exact c
      · refine ⟨by omega, ?_⟩
        rw [lev_cons, if_neg (by rw [cov_s]; omega), lev_cons, if_neg (by rw [cov_s]; omega)]
        exact c2
theorem Cst.mem {F : List Int} {g : Int → Int} (h : Cst F g) {b : Int} (n : g b ≠ g (b - 1)) : b ∈ F := by
  refine Decidable.byContradiction fun c => n (h (b - 1) b (by omega) fun d hd k => ?_).symm
  have : d = b := by omega
  exact c (this ▸ hd)
theorem Nf.ends_in {ss : List St} {F : List Int} (h : Nf 0 0 ss) (h0 : (0 : Int) ∈ F) {g : Int → Int} (hg : ∀ x, 0 ≤ x → lev ss x = g x) (k : Cst F g) : ∀ b ∈ ends ss, b ∈ F := fun b hb => by
  rcases h.change b hb with ⟨rfl, _⟩ | ⟨c1, c2⟩
  · exact h0
  · rw [hg b (by omega), hg (b - 1) (by omega)] at c2
    exact k.mem c2
theorem Wf.firsts : ∀ {ss : List St} {p : Int}, Wf p ss → (ss.map fun s => s.2.1).Pairwise (· < ·) ∧ ∀ b ∈ ss.map (fun s => s.2.1), p ≤ b
  | [], _, _ => ⟨List.Pairwise.nil, fun b hb => by cases hb⟩
  | (l, f, none) :: r, p, h => by
    obtain ⟨h1, h2, h3, rfl⟩ := h
    exact ⟨by simp, fun b hb => by simp only [List.map_cons, List.map_nil, List.mem_singleton] at hb; omega⟩
  | (l, f, some i) :: r, p, h => by
    obtain ⟨h1, h2, h3, h4, h5⟩ := h
    obtain ⟨q1, q2⟩ := h5.firsts
    refine ⟨List.pairwise_cons.mpr ⟨fun b hb => by have := q2 b hb; dsimp only; omega, q1⟩, fun b hb => ?_⟩
    simp only [List.map_cons, List.mem_cons] at hb
    rcases hb with rfl | hb
    · exact h3
    · have := q2 b hb; omega
theorem first_end : ∀ (ss : List St), ∀ b ∈ ss.map (fun s => s.2.1), b ∈ ends ss
  | [], b, hb => by cases hb
  | (l, f, none) :: r, b, hb => by
    simp only [List.map_cons, List.mem_cons, ends] at hb ⊢
    exact hb.imp id (first_end r b)
  | (l, f, some i) :: r, b, hb => by
    simp only [List.map_cons, List.mem_cons, ends] at hb ⊢
    exact hb.imp id fun h => .inr (first_end r b h)
theorem Wf.len_le {ss : List St} {F : List Int} {p : Int} (h : Wf p ss) (k : ∀ b ∈ ends ss, b ∈ F) : ss.length ≤ F.length := by
  have := DL.nodup_le (h.firsts.1.imp fun h => Int.ne_of_lt h) fun x hx => k x (first_end ss x hx)
  rwa [List.length_map] at this

def stp (d : Int) : List (Int × Int) → Int → Int
  | [], _ => d
  | (b, k) :: r, x => if b ≤ x then stp k r x else d
def Asc (ps : List (Int × Int)) : Prop := (ps.map Prod.fst).Pairwise (· < ·)
theorem Asc.tail {c : Int × Int} {r : List (Int × Int)} (h : Asc (c :: r)) : Asc r ∧ ∀ e ∈ r, c.1 < e.1 := by
  obtain ⟨h1, h2⟩ := List.pairwise_cons.mp (show ((c :: r).map Prod.fst).Pairwise (· < ·) from h)
  exact ⟨h2, fun e he => h1 e.1 (List.mem_map_of_mem he)⟩
theorem stp_low {d x : Int} : ∀ {r : List (Int × Int)}, (∀ e ∈ r, x < e.1) → stp d r x = d
  | [], _ => rfl
  | (b, k) :: r, h => by
    have := h (b, k) List.mem_cons_self
    dsimp only at this
    unfold stp
    rw [if_neg (by omega)]
theorem stp_cst : ∀ (r : List (Int × Int)) (d : Int), Cst (r.map Prod.fst) (stp d r)
  | [], d, x, y, _, _ => rfl
  | (b, k) :: r, d, x, y, q, n => by
    have h1 := n b List.mem_cons_self
    have h2 := stp_cst r k x y q fun c hc => n c (List.mem_cons_of_mem _ hc)
    unfold stp
    rw [h2]
    by_cases c : b ≤ x
    · rw [if_pos c, if_pos (by omega)]
    · rw [if_neg c, if_neg (by omega)]
structure Fs (F : List Int) : Prop where
  ex : ∃ r, F = 0 :: r
  asc : F.Pairwise (· < ·)
theorem Fs.zero {F : List Int} (h : Fs F) : (0 : Int) ∈ F := by
  obtain ⟨r, rfl⟩ := h.ex
  exact List.mem_cons_self
theorem Fs.pos {F : List Int} (h : Fs F) : ∀ b ∈ F, 0 ≤ b := by
  obtain ⟨⟨r, rfl⟩, h2⟩ := h
  intro b hb
  rcases List.mem_cons.mp hb with rfl | hb
  · exact Int.le_refl _
  · exact Int.le_of_lt ((List.pairwise_cons.mp h2).1 b hb)
def stGo : Option (Int × Int) → List (Int × Int) → List St
  | none, [] => []
  | some (l, f), [] => [(l, f, none)]
  | none, (b, k) :: r => if k = 0 then stGo none r else stGo (some (k, b)) r
  | some (l, f), (b, k) :: r => if k = l then stGo (some (l, f)) r else (l, f, some (b - 1)) :: (if k = 0 then stGo none r else stGo (some (k, b)) r)
def Lok (ps : List (Int × Int)) : Prop := ∀ e ∈ ps, 0 ≤ e.2 ∧ e.2 ≤ 2
theorem stGo_ok : ∀ (r : List (Int × Int)), Asc r → Lok r →
    (∀ p q : Int, (∀ e ∈ r, p < e.1) → Nf p q (stGo none r) ∧ ∀ x, lev (stGo none r) x = stp 0 r x) ∧
    (∀ l f p q : Int, p ≤ f → (f = p → l ≠ q) → 1 ≤ l → l ≤ 2 → (∀ e ∈ r, f < e.1) → Nf p q (stGo (some (l, f)) r) ∧ ∀ x, lev (stGo (some (l, f)) r) x = if f ≤ x then stp l r x else 0)
  | [], _, _ => by
    refine ⟨fun p q _ => ⟨True.intro, fun x => rfl⟩, fun l f p q h1 h2 h3 h4 _ => ⟨⟨h3, h4, h1, h2, rfl⟩, fun x => ?_⟩⟩
    show lev [(l, f, none)] x = if f ≤ x then l else 0
    rw [lev_cons]
    simp only [cov_n]
    rfl
  | (b, k) :: r, ha, hl => by
    obtain ⟨a1, a2⟩ := ha.tail
    obtain ⟨i1, i2⟩ := stGo_ok r a1 fun e he => hl e (List.mem_cons_of_mem _ he)
    obtain ⟨k0, k2⟩ := hl (b, k) List.mem_cons_self
    dsimp only at a2 k0 k2
    refine ⟨fun p q hp => ?_, fun l f p q h1 h2 h3 h4 hp => ?_⟩
    · have pb := hp (b, k) List.mem_cons_self
      dsimp only at pb
      unfold stGo
      by_cases c : k = 0
      · rw [if_pos c]
        obtain ⟨j1, j2⟩ := i1 p q fun e he => by have := a2 e he; omega
        refine ⟨j1, fun x => ?_⟩
        rw [j2 x]
        show stp 0 r x = if b ≤ x then stp k r x else 0
        rw [c]
        by_cases d : b ≤ x
        · rw [if_pos d]
        · rw [if_neg d]
          exact stp_low fun e he => by have := a2 e he; omega
      · rw [if_neg c]
        obtain ⟨j1, j2⟩ := i2 k b p q (by omega) (by omega) (by omega) k2 a2
        exact ⟨j1, j2⟩
    · have pb := hp (b, k) List.mem_cons_self
      dsimp only at pb
      unfold stGo
      by_cases c : k = l
      · rw [if_pos c]
        obtain ⟨j1, j2⟩ := i2 l f p q h1 h2 h3 h4 fun e he => by have := a2 e he; omega
        refine ⟨j1, fun x => ?_⟩
        rw [j2 x]
        by_cases d : f ≤ x
        · rw [if_pos d, if_pos d]
          show stp l r x = if b ≤ x then stp k r x else l
          by_cases d2 : b ≤ x
          · rw [if_pos d2, c]
          · rw [if_neg d2]
            exact stp_low fun e he => by have := a2 e he; omega
        · rw [if_neg d, if_neg d]
      · rw [if_neg c]
        have tl : ∃ T, T = (if k = 0 then stGo none r else stGo (some (k, b)) r) ∧ Nf (b - 1 + 1) l T ∧ ∀ x, lev T x = if b ≤ x then stp k r x else 0 := by
          refine ⟨_, rfl, ?_⟩
          by_cases c0 : k = 0
          · rw [if_pos c0]
            obtain ⟨j1, j2⟩ := i1 (b - 1 + 1) l fun e he => by have := a2 e he; omega
            refine ⟨j1, fun x => ?_⟩
            rw [j2 x, c0]
            by_cases d : b ≤ x
            · rw [if_pos d]
            · rw [if_neg d]
              exact stp_low fun e he => by have := a2 e he; omega
          · rw [if_neg c0]
            exact i2 k b (b - 1 + 1) l (by omega) (fun _ => c) (by omega) k2 a2
        obtain ⟨T, eT, t1, t2⟩ := tl
        rw [← eT]
        refine ⟨⟨h3, h4, h1, h2, by omega, t1⟩, fun x => ?_⟩
        rw [lev_cons, t2 x]
        simp only [cov_s]
        show (if f ≤ x ∧ x ≤ b - 1 then l else if b ≤ x then stp k r x else 0) = if f ≤ x then (if b ≤ x then stp k r x else l) else 0
        by_cases d : f ≤ x
        · by_cases d2 : b ≤ x
          · rw [if_neg (by omega), if_pos d2, if_pos d, if_pos d2]
          · rw [if_pos (by omega), if_pos d, if_neg d2]
        · rw [if_neg (by omega), if_neg (by omega), if_neg d]
theorem st0_ok {ps : List (Int × Int)} (h : Asc ps) (hl : Lok ps) (h0 : ∀ e ∈ ps, 0 ≤ e.1) : Nf 0 0 (stGo none ps) ∧ ∀ x, lev (stGo none ps) x = stp 0 ps x := by
  cases ps with
  | nil => exact ⟨True.intro, fun _ => rfl⟩
  | cons c r =>
    obtain ⟨b, k⟩ := c
    obtain ⟨a1, a2⟩ := h.tail
    obtain ⟨k0, k2⟩ := hl (b, k) List.mem_cons_self
    have b0 := h0 (b, k) List.mem_cons_self
    dsimp only at a2 k0 k2 b0
    obtain ⟨i1, i2⟩ := stGo_ok r a1 fun e he => hl e (List.mem_cons_of_mem _ he)
    by_cases c0 : k = 0
    · obtain ⟨j1, j2⟩ := i1 0 0 fun e he => by have := a2 e he; omega
      have e : stGo none ((b, k) :: r) = stGo none r := by
        conv => lhs; unfold stGo
        rw [if_pos c0]
      rw [e]
      refine ⟨j1, fun x => ?_⟩
      rw [j2 x]
      show stp 0 r x = if b ≤ x then stp k r x else 0
      rw [c0]
      by_cases d : b ≤ x
      · rw [if_pos d]
      · rw [if_neg d]
        exact stp_low fun e he => by have := a2 e he; omega
    · obtain ⟨j1, j2⟩ := i2 k b 0 0 b0 (by omega) (by omega) k2 a2
      have e : stGo none ((b, k) :: r) = stGo (some (k, b)) r := by
        conv => lhs; unfold stGo
        rw [if_neg c0]
      rw [e]
      exact ⟨j1, j2⟩

def mk (F : List Int) (g : Int → Int) : List St := stGo none (F.map fun b => (b, g b))
structure Hd (F : List Int) (ss : List St) : Prop where
  nf : Nf 0 0 ss
  inn : ∀ b ∈ ends ss, b ∈ F
theorem Hd.wf {F : List Int} {ss : List St} (h : Hd F ss) : Wf 0 ss := h.nf.wf
theorem Hd.len {F : List Int} {ss : List St} (h : Hd F ss) : ss.length ≤ F.length := h.wf.len_le h.inn
theorem Hd.ext {F G : List Int} {xs ys : List St} (h : Hd F xs) (k : Hd G ys) (e : ∀ x, 0 ≤ x → lev xs x = lev ys x) : xs = ys := Nf.uniq h.nf k.nf e
end MB

namespace K70
open PySem PySem.Spec PyProof.Rows L2 DL
abbrev iseT : IseT := [("Wrong", [("TooMany", false), ("Unfit", false), ("Wrong", true)], [("ValueError", true)])]
structure Txt (K : PySem.W.Frag) (mg : Str → Option Value) : Prop where
  n_ValueError : mg "ValueError" = none
  n_abs : mg "abs" = none
  n_all : mg "all" = none
  n_bool : mg "bool" = none
  n_int : mg "int" = none
  n_isinstance : mg "isinstance" = none
  n_len : mg "len" = none
  n_list : mg "list" = none
  n_range : mg "range" = none
  n_repr : mg "repr" = none
  n_sum : mg "sum" = none
  n_tuple : mg "tuple" = none
  g_Crowd : mg "Crowd" = some (.ref (He.ga K "Crowd"))
  g_LockError : mg "LockError" = some (.ref (He.ga K "LockError"))
  g_TooMany : mg "TooMany" = some (.ref (He.ga K "TooMany"))
  g_Unfit : mg "Unfit" = some (.ref (He.ga K "Unfit"))
  g_Wrong : mg "Wrong" = some (.ref (He.ga K "Wrong"))
  k_MOST_CALLS : ∃ t, mg "MOST_CALLS" = some (.int (6) t)
  k_MOST_LEVEL : ∃ t, mg "MOST_LEVEL" = some (.int (2) t)
  k_MOST_PROGRAMS : ∃ t, mg "MOST_PROGRAMS" = some (.int (4) t)
  fl_kept_programs : FldsOk K "kept_programs" ["Crowd"]
  ix_Crowd : IsxOk K "Crowd" []
  bas_LockError : BasI K (He.ga K "LockError")
  xf_place : XfsOk K "place" ["Wrong"]
  exm_LockError : ExmOk K "LockError" [("Wrong", true)]
  ises : IsesOk K iseT
  eqs : EqsOk K ["Crowd"]
section
variable {P : Program} {w : World} {K : PySem.W.Frag} {mg : Str → Option Value} {base : Heap}
theorem sc_Wrong___init__ : FnScope ["self", "place"] ["self", "place"] (defScope s_Wrong___init__) :=
  ⟨rfl, rfl, rfl, by decide +kernel, rfl, by decide +kernel, by decide +kernel⟩
theorem ok_Wrong___init__ (T : Txt K mg) {f : Addr} {fd : FuncData} (F : Fun K "__init__" "Wrong.__init__" s_Wrong___init__ f fd) : FnOk P w K mg base CX0 1 f fd ["self", "place"] (spX K ["place"]) :=
  F.ok sc_Wrong___init__ spX1_len fun cdv A outer s H vs Q E hr hsp => ⟨_, L2.pss_cons (L2.ps_expr (pe_oinit rfl T.g_LockError T.bas_LockError (pa_cons (pv 0) (pa_cons pe_str pa_nil)))) (L2.pss_cons (L2.ps_ost (pv 0) (pv 1)) L2.pss_nil), xread1 hsp⟩
theorem sc_is_integer : FnScope ["thing"] ["thing"] (defScope s_is_integer) :=
  ⟨rfl, rfl, rfl, by decide +kernel, rfl, by decide +kernel, by decide +kernel⟩
noncomputable def b_is_integer : SM :=
    (sRet (eAnd (eA isiG (aC (eV 0) (aC (eC (.ty "int")) aN))) (eNot (eA isiG (aC (eV 0) (aC (eC (.ty "bool")) aN))))))
noncomputable def m_is_integer : FnM := fnM 1 1 b_is_integer
theorem ok_is_integer (T : Txt K mg) {f : Addr} {fd : FuncData} (F : Fun K "is_integer" "is_integer" s_is_integer f fd) (hm : mg "is_integer" = some (.ref f)) (hb : Binds K fd ["thing"] [])  :
    CalD P w K mg base 1 "is_integer" m_is_integer :=
  calD_of (k := 0) F hm hb sc_is_integer fun cdv A outer s H E hgd hr =>
    (pss_1 (psd_ret (pd_and (pd_callB call_isi isi_ok T.n_isinstance PyProof.Rows.boot_isinstance (pda_cons (pd_v 0) (pda_cons (pd_ty T.n_int PyProof.Rows.boot_int) pda_nil))) (pd_one (pd_not (pd_callB call_isi isi_ok T.n_isinstance PyProof.Rows.boot_isinstance (pda_cons (pd_v 0) (pda_cons (pd_ty T.n_bool PyProof.Rows.boot_bool) pda_nil))))))))
theorem sc_Crowd_programs : FnScope ["self", ".0", "program"] ["self"] (defScope s_Crowd_programs) :=
  ⟨rfl, rfl, rfl, by decide +kernel, rfl, by decide +kernel, by decide +kernel⟩
noncomputable def b_Crowd_programs : SM :=
    (sRet (eLCK (iSeq (eFld ["Crowd"] "kept_programs" (eV 0))) (gNm 2) tTr (eA (listG true) (aC (eV 2) aN)) [1, 2]))
noncomputable def m_Crowd_programs : KnM := fnK 1 3 b_Crowd_programs
theorem ok_Crowd_programs (T : Txt K mg) {f : Addr} {fd : FuncData} (F : Fun K "programs" "Crowd.programs" s_Crowd_programs f fd) (hfn : PySem.W.isFn K (.ref f) = true) (hb : Binds K fd ["self"] [])  :
    FunAtK P w K mg base 1 f m_Crowd_programs :=
  funAtK_of (k := 0) F hfn hb sc_Crowd_programs fun cdv A outer s H E hgd hr =>
    (pss_1 (psd_ret (pd_lcK rfl sc_Crowd_programs.nd (pid_seq (pd_fld T.fl_kept_programs (pd_v 0))) (blkOk_by (own := [(".0", 1), ("program", 2)]) (by kernel_rfl)) (fun _ _ _ _ _ => (pgd_name (i := 2) sc_Crowd_programs.nd)) (fun _ _ _ _ _ => pts_n) (fun _ _ _ _ _ => (pd_callTy call_list_of (list_ok true) T.n_list PyProof.Rows.boot_list (pda_cons (pd_v 2) pda_nil))))))
theorem sc_Crowd___eq__ : FnScope ["self", "other"] ["self", "other"] (defScope s_Crowd___eq__) :=
  ⟨rfl, rfl, rfl, by decide +kernel, rfl, by decide +kernel, by decide +kernel⟩
noncomputable def b_Crowd___eq__ : SM :=
    (sRet (eAnd (eA (isiXG "Crowd" []) (aC (eV 1) (aC (eC (.cls "Crowd")) aN))) (e2 (eqG false) (eFld ["Crowd"] "kept_programs" (eV 0)) (eFld ["Crowd"] "kept_programs" (eV 1)))))
noncomputable def m_Crowd___eq__ : FnM := fnM 2 2 b_Crowd___eq__
theorem ok_Crowd___eq__ (T : Txt K mg) {f : Addr} {fd : FuncData} (F : Fun K "__eq__" "Crowd.__eq__" s_Crowd___eq__ f fd) (hfn : PySem.W.isFn K (.ref f) = true) (hb : Binds K fd ["self", "other"] [])  :
    FunAt P w K mg base 1 f m_Crowd___eq__ :=
  funAt_of (k := 0) F hfn hb sc_Crowd___eq__ fun cdv A outer s H E hgd hr =>
    (pss_1 (psd_ret (pd_and (pd_callB call_isi (isiX_ok T.ix_Crowd) T.n_isinstance PyProof.Rows.boot_isinstance (pda_cons (pd_v 1) (pda_cons (pd_cls T.g_Crowd) pda_nil))) (pd_one (pd_eq hr.units (pd_fld T.fl_kept_programs (pd_v 0)) (pd_fld T.fl_kept_programs (pd_v 1)))))))
theorem sc_law_bag : FnScope ["_law_script", ".0", "_law_cell"] ["_law_script"] (defScope s_law_bag) :=
  ⟨rfl, rfl, rfl, by decide +kernel, rfl, by decide +kernel, by decide +kernel⟩
noncomputable def b_law_bag : SM :=
    (sRet (eA (newL true) (aC (eC (.int 0)) (aC (eC (.int 1234567891)) (aC (eC (.int 0)) (aC (eLC false (iSeq (eSl false (eV 0) pN (pS (eC (.int 63))))) (gNm 2) tTr (eA absG (aC (eV 2) aN)) [1, 2]) aN))))))
noncomputable def m_law_bag : FnM := fnM 1 3 b_law_bag
theorem ok_law_bag (T : Txt K mg) {f : Addr} {fd : FuncData} (F : Fun K "_law_bag" "_law_bag" s_law_bag f fd) (hm : mg "_law_bag" = some (.ref f)) (hb : Binds K fd ["_law_script"] [])  :
    CalD P w K mg base 1 "_law_bag" m_law_bag :=
  calD_of (k := 0) F hm hb sc_law_bag fun cdv A outer s H E hgd hr =>
    (pss_1 (psd_ret (pd_lst true (pda_cons pd_int (pda_cons pd_int (pda_cons pd_int (pda_cons (pd_lc false rfl sc_law_bag.nd (pid_seq (pd_sl false (pd_v 0) po_n (po_s pd_int))) (blkOk_by (own := [(".0", 1), ("_law_cell", 2)]) (by kernel_rfl)) (fun _ _ _ _ _ => (pgd_name (i := 2) sc_law_bag.nd)) (fun _ _ _ _ _ => pts_n) (fun _ _ _ _ _ => (pd_callB call_abs abs_ok T.n_abs PyProof.Rows.boot_abs (pda_cons (pd_v 2) pda_nil)))) pda_nil)))))))
theorem sc_law_take : FnScope ["_law_bag_here", "_law_many", "_law_cell", "_law_mixed", "_law_value", "_law_begin", "_law_second"] ["_law_bag_here", "_law_many"] (defScope s_law_take) :=
  ⟨rfl, rfl, rfl, by decide +kernel, rfl, by decide +kernel, by decide +kernel⟩
noncomputable def b_law_take : SM :=
    (sSeq (sIf (tB (e2 (eqG false) (e2 ixG (eV 0) (eC (.int 0))) (eC (.int 0)))) (sSeq (sSet 2 (eC (.int 0)))
    (sSeq (sIf (tB (e2 (ltG) (e2 ixG (eV 0) (eC (.int 2))) (eA lenG (aC (e2 ixG (eV 0) (eC (.int 3))) aN)))) (sSet 2 (e2 ixG (e2 ixG (eV 0) (eC (.int 3))) (e2 ixG (eV 0) (eC (.int 2))))) sNx)
    (sSeq (sAugS (eV 0) (eC (.int 2)) (eC (.int 1)))
    (sSeq (sIf (tB (e2 (geG) (eV 2) (eC (.int 1000000000000000000)))) (sAs (eV 2) (gSb (eV 0) (eC (.int 0)))) sNx)
    (sSeq (sSet 3 (e2 (addG false) (e2 (addG false) (e2 (mulG false) (e2 ixG (eV 0) (eC (.int 1))) (eC (.int 48271))) (e2 (modG) (eA intG (aC (eV 2) aN)) (eC (.int 2147483647)))) (e2 (mulG false) (eC (.int 7919)) (e2 ixG (eV 0) (eC (.int 2))))))
    (sAs (e2 (modG) (eA intG (aC (eV 3) aN)) (eC (.int 2147483647))) (gSb (eV 0) (eC (.int 1))))))))) sNx)
    (sSeq (sIf (tB (e2 (gtG) (e2 ixG (eV 0) (eC (.int 0))) (eC (.int 0)))) (sSeq (sSet 4 (e2 (modG) (eA intG (aC (e2 ixG (eV 0) (eC (.int 0))) aN)) (eV 1)))
    (sSeq (sAs (e2 (fdivG) (e2 ixG (eV 0) (eC (.int 0))) (eV 1)) (gSb (eV 0) (eC (.int 0))))
    (sRet (eV 4)))) sNx)
    (sSeq (sSet 5 (e2 (modG) (eA intG (aC (e2 (mulG false) (e2 (addG false) (e2 ixG (eV 0) (eC (.int 1))) (eC (.int 1))) (eC (.int 39373))) aN)) (eC (.int 1000000007))))
    (sSeq (sSet 6 (e2 (modG) (eA intG (aC (e2 (mulG false) (e2 (modG) (eA intG (aC (e2 (mulG false) (eV 5) (eV 5)) aN)) (eC (.int 998244353))) (eC (.int 30011))) aN)) (eC (.int 998244353))))
    (sSeq (sIf (tB (e2 (gtG) (eV 1) (eC (.int 1000000)))) (sRet (e2 (modG) (eA intG (aC (e2 (addG false) (e2 (mulG false) (eV 6) (eC (.int 1000000007))) (eV 5)) aN)) (eV 1))) sNx)
    (sRet (e2 (modG) (eA intG (aC (e2 (fdivG) (eV 6) (eC (.int 7))) aN)) (eV 1))))))))
noncomputable def m_law_take : FnM := fnM 2 7 b_law_take
theorem ok_law_take (T : Txt K mg) {f : Addr} {fd : FuncData} (F : Fun K "_law_take" "_law_take" s_law_take f fd) (hm : mg "_law_take" = some (.ref f)) (hb : Binds K fd ["_law_bag_here", "_law_many"] [])  :
    CalD P w K mg base 1 "_law_take" m_law_take :=
  calD_of (k := 0) F hm hb sc_law_take fun cdv A outer s H E hgd hr =>
    (pss_c (psd_if (pt_eq hr.units (pd_ix (pd_v 0) pd_int) pd_int) (pss_c (psd_set (i := 2) sc_law_take.nd pd_int)
    (pss_c (psd_if (pt_lt (pd_ix (pd_v 0) pd_int) (pd_callB call_len len_ok T.n_len PySem.boot_len (pda_cons (pd_ix (pd_v 0) pd_int) pda_nil))) (pss_1 (psd_set (i := 2) sc_law_take.nd (pd_ix (pd_ix (pd_v 0) pd_int) (pd_ix (pd_v 0) pd_int)))) pss_n)
    (pss_c (psd_augS (pd_v 0) pd_int pd_int)
    (pss_c (psd_if (pt_ge (pd_v 2) pd_int) (pss_1 (psd_asg (pd_v 2) (pgd_sub (pd_v 0) pd_int))) pss_n)
    (pss_c (psd_set (i := 3) sc_law_take.nd (pd_add false (pd_add false (pd_mul false (pd_ix (pd_v 0) pd_int) pd_int) (pd_mod (pd_callTy call_int1 int_ok T.n_int PyProof.Rows.boot_int (pda_cons (pd_v 2) pda_nil)) pd_int)) (pd_mul false pd_int (pd_ix (pd_v 0) pd_int))))
    (pss_1 (psd_asg (pd_mod (pd_callTy call_int1 int_ok T.n_int PyProof.Rows.boot_int (pda_cons (pd_v 3) pda_nil)) pd_int) (pgd_sub (pd_v 0) pd_int)))))))) pss_n)
    (pss_c (psd_if (pt_gt (pd_ix (pd_v 0) pd_int) pd_int) (pss_c (psd_set (i := 4) sc_law_take.nd (pd_mod (pd_callTy call_int1 int_ok T.n_int PyProof.Rows.boot_int (pda_cons (pd_ix (pd_v 0) pd_int) pda_nil)) (pd_v 1)))
    (pss_c (psd_asg (pd_fdiv (pd_ix (pd_v 0) pd_int) (pd_v 1)) (pgd_sub (pd_v 0) pd_int))
    (pss_1 (psd_ret (pd_v 4))))) pss_n)
    (pss_c (psd_set (i := 5) sc_law_take.nd (pd_mod (pd_callTy call_int1 int_ok T.n_int PyProof.Rows.boot_int (pda_cons (pd_mul false (pd_add false (pd_ix (pd_v 0) pd_int) pd_int) pd_int) pda_nil)) pd_int))
    (pss_c (psd_set (i := 6) sc_law_take.nd (pd_mod (pd_callTy call_int1 int_ok T.n_int PyProof.Rows.boot_int (pda_cons (pd_mul false (pd_mod (pd_callTy call_int1 int_ok T.n_int PyProof.Rows.boot_int (pda_cons (pd_mul false (pd_v 5) (pd_v 5)) pda_nil)) pd_int) pd_int) pda_nil)) pd_int))
    (pss_c (psd_if (pt_gt (pd_v 1) pd_int) (pss_1 (psd_ret (pd_mod (pd_callTy call_int1 int_ok T.n_int PyProof.Rows.boot_int (pda_cons (pd_add false (pd_mul false (pd_v 6) pd_int) (pd_v 5)) pda_nil)) (pd_v 1)))) pss_n)
    (pss_1 (psd_ret (pd_mod (pd_callTy call_int1 int_ok T.n_int PyProof.Rows.boot_int (pda_cons (pd_fdiv (pd_v 6) pd_int) pda_nil)) (pd_v 1)))))))))
theorem sc_law_is_number : FnScope ["_law_thing"] ["_law_thing"] (defScope s_law_is_number) :=
  ⟨rfl, rfl, rfl, by decide +kernel, rfl, by decide +kernel, by decide +kernel⟩
noncomputable def b_law_is_number : SM :=
    (sRet (eAnd (eA isiG (aC (eV 0) (aC (eC (.ty "int")) aN))) (eAnd (eNot (eA isiG (aC (eV 0) (aC (eC (.ty "bool")) aN)))) (e2 (geG) (eV 0) (eC (.int 0))))))
noncomputable def m_law_is_number : FnM := fnM 1 1 b_law_is_number
theorem ok_law_is_number (T : Txt K mg) {f : Addr} {fd : FuncData} (F : Fun K "_law_is_number" "_law_is_number" s_law_is_number f fd) (hm : mg "_law_is_number" = some (.ref f)) (hb : Binds K fd ["_law_thing"] [])  :
    CalD P w K mg base 1 "_law_is_number" m_law_is_number :=
  calD_of (k := 0) F hm hb sc_law_is_number fun cdv A outer s H E hgd hr =>
    (pss_1 (psd_ret (pd_and (pd_callB call_isi isi_ok T.n_isinstance PyProof.Rows.boot_isinstance (pda_cons (pd_v 0) (pda_cons (pd_ty T.n_int PyProof.Rows.boot_int) pda_nil))) (pd_and (pd_not (pd_callB call_isi isi_ok T.n_isinstance PyProof.Rows.boot_isinstance (pda_cons (pd_v 0) (pda_cons (pd_ty T.n_bool PyProof.Rows.boot_bool) pda_nil)))) (pd_one (pd_ge (pd_v 0) pd_int))))))
theorem sc_is_between : FnScope ["thing", "least", "greatest"] ["thing", "least", "greatest"] (defScope s_is_between) :=
  ⟨rfl, rfl, rfl, by decide +kernel, rfl, by decide +kernel, by decide +kernel⟩
noncomputable def b_is_between : SM :=
    (sRet (eAnd (eCall m_is_integer false (aC (eV 0) aN)) (eCh (leG) (leG) (eV 1) (eV 0) (eV 2))))
noncomputable def m_is_between : FnM := fnM 3 3 b_is_between
theorem ok_is_between (T : Txt K mg) {f : Addr} {fd : FuncData} (F : Fun K "is_between" "is_between" s_is_between f fd) (hm : mg "is_between" = some (.ref f)) (hb : Binds K fd ["thing", "least", "greatest"] []) (c_is_integer : CalD P w K mg base 1 "is_integer" m_is_integer) :
    CalD P w K mg base 2 "is_between" m_is_between :=
  calD_of (k := 1) F hm hb sc_is_between fun cdv A outer s H E hgd hr =>
    (pss_1 (psd_ret (pd_and (pd_call false c_is_integer hr (by decide) hgd (pda_cons (pd_v 0) pda_nil)) (pd_one (pd_ch op_le op_le cmp_ok cmp_ok (pd_v 1) (pd_v 0) (pd_v 2))))))
theorem sc_is_byte : FnScope ["thing"] ["thing"] (defScope s_is_byte) :=
  ⟨rfl, rfl, rfl, by decide +kernel, rfl, by decide +kernel, by decide +kernel⟩
noncomputable def b_is_byte : SM :=
    (sRet (eAnd (eCall m_is_integer false (aC (eV 0) aN)) (e2 (geG) (eV 0) (eC (.int 0)))))
noncomputable def m_is_byte : FnM := fnM 1 1 b_is_byte
theorem ok_is_byte (T : Txt K mg) {f : Addr} {fd : FuncData} (F : Fun K "is_byte" "is_byte" s_is_byte f fd) (hm : mg "is_byte" = some (.ref f)) (hb : Binds K fd ["thing"] []) (c_is_integer : CalD P w K mg base 1 "is_integer" m_is_integer) :
    CalD P w K mg base 2 "is_byte" m_is_byte :=
  calD_of (k := 1) F hm hb sc_is_byte fun cdv A outer s H E hgd hr =>
    (pss_1 (psd_ret (pd_and (pd_call false c_is_integer hr (by decide) hgd (pda_cons (pd_v 0) pda_nil)) (pd_one (pd_ge (pd_v 0) pd_int)))))
theorem sc_law_is_call : FnScope ["_law_thing"] ["_law_thing"] (defScope s_law_is_call) :=
  ⟨rfl, rfl, rfl, by decide +kernel, rfl, by decide +kernel, by decide +kernel⟩
noncomputable def b_law_is_call : SM :=
    (sSeq (sIf (tOo (tNt (tV (eA isiG (aC (eV 0) (aC (eC (.ty "tuple")) aN))))) (tOo (tB (e2 (eqG true) (eA lenG (aC (eV 0) aN)) (eC (.int 3)))) (tOo (tNt (tV (eCall m_law_is_number false (aC (e2 ixG (eV 0) (eC (.int 0))) aN)))) (tB (e2 (gtG) (e2 ixG (eV 0) (eC (.int 0))) (eC (.int 2))))))) (sRet (eC (.bl false))) sNx)
    (sSeq (sIf (tNt (tV (eCall m_law_is_number false (aC (e2 ixG (eV 0) (eC (.int 1))) aN)))) (sRet (eC (.bl false))) sNx)
    (sRet (eOr (e2 (isG false) (e2 ixG (eV 0) (eC (.int 2))) (eC .non)) (eAnd (eCall m_law_is_number false (aC (e2 ixG (eV 0) (eC (.int 2))) aN)) (e2 (geG) (e2 ixG (eV 0) (eC (.int 2))) (e2 ixG (eV 0) (eC (.int 1)))))))))
noncomputable def m_law_is_call : FnM := fnM 1 1 b_law_is_call
theorem ok_law_is_call (T : Txt K mg) {f : Addr} {fd : FuncData} (F : Fun K "_law_is_call" "_law_is_call" s_law_is_call f fd) (hm : mg "_law_is_call" = some (.ref f)) (hb : Binds K fd ["_law_thing"] []) (c_law_is_number : CalD P w K mg base 1 "_law_is_number" m_law_is_number) :
    CalD P w K mg base 2 "_law_is_call" m_law_is_call :=
  calD_of (k := 1) F hm hb sc_law_is_call fun cdv A outer s H E hgd hr =>
    (pss_c (psd_if (pt_w (pw_o (pt_nt (pt_v (pd_callB call_isi isi_ok T.n_isinstance PyProof.Rows.boot_isinstance (pda_cons (pd_v 0) (pda_cons (pd_ty T.n_tuple PyProof.Rows.boot_tuple) pda_nil))))) (pw_o (pt_ne hr.units (pd_callB call_len len_ok T.n_len PySem.boot_len (pda_cons (pd_v 0) pda_nil)) pd_int) (pw_o (pt_nt (pt_v (pd_call false c_law_is_number hr (by decide) hgd (pda_cons (pd_ix (pd_v 0) pd_int) pda_nil)))) (pw_o1 (pt_gt (pd_ix (pd_v 0) pd_int) pd_int)))))) (pss_1 (psd_ret pd_bl)) pss_n)
    (pss_c (psd_if (pt_nt (pt_v (pd_call false c_law_is_number hr (by decide) hgd (pda_cons (pd_ix (pd_v 0) pd_int) pda_nil)))) (pss_1 (psd_ret pd_bl)) pss_n)
    (pss_1 (psd_ret (pd_or (pd_is (pd_ix (pd_v 0) pd_int) pd_non) (pd_one (pd_and (pd_call false c_law_is_number hr (by decide) hgd (pda_cons (pd_ix (pd_v 0) pd_int) pda_nil)) (pd_one (pd_ge (pd_ix (pd_v 0) pd_int) (pd_ix (pd_v 0) pd_int))))))))))
theorem sc_law_good : FnScope ["_law_bag_here", "_law_first"] ["_law_bag_here"] (defScope s_law_good) :=
  ⟨rfl, rfl, rfl, by decide +kernel, rfl, by decide +kernel, by decide +kernel⟩
noncomputable def b_law_good : SM :=
    (sSeq (sSet 1 (e2 ixG (eA (newL false) (aC (eCall m_law_take false (aC (eV 0) (aC (eC (.int 5)) aN))) (aC (e2 (subG) (e2 (subG) (e2 (powG) (eC (.int 10)) (eC (.int 39))) (eC (.int 1))) (eCall m_law_take false (aC (eV 0) (aC (eC (.int 3)) aN)))) aN))) (eA intG (aC (e2 (eqG false) (eCall m_law_take false (aC (eV 0) (aC (eC (.int 6)) aN))) (eC (.int 0))) aN))))
    (sRet (eA newT (aC (eCall m_law_take false (aC (eV 0) (aC (eC (.int 3)) aN))) (aC (eV 1) (aC (e2 ixG (eA (newL false) (aC (eV 1) (aC (e2 (addG false) (eV 1) (eCall m_law_take false (aC (eV 0) (aC (eC (.int 9)) aN)))) (aC (eC .non) aN)))) (eCall m_law_take false (aC (eV 0) (aC (eC (.int 3)) aN)))) aN))))))
noncomputable def m_law_good : FnM := fnM 1 2 b_law_good
theorem ok_law_good (T : Txt K mg) {f : Addr} {fd : FuncData} (F : Fun K "_law_good" "_law_good" s_law_good f fd) (hm : mg "_law_good" = some (.ref f)) (hb : Binds K fd ["_law_bag_here"] []) (c_law_take : CalD P w K mg base 1 "_law_take" m_law_take) :
    CalD P w K mg base 2 "_law_good" m_law_good :=
  calD_of (k := 1) F hm hb sc_law_good fun cdv A outer s H E hgd hr =>
    (pss_c (psd_set (i := 1) sc_law_good.nd (pd_ix (pd_lst false (pda_cons (pd_call false c_law_take hr (by decide) hgd (pda_cons (pd_v 0) (pda_cons pd_int pda_nil))) (pda_cons (pd_sub (pd_sub (pd_pow pd_int pd_int) pd_int) (pd_call false c_law_take hr (by decide) hgd (pda_cons (pd_v 0) (pda_cons pd_int pda_nil)))) pda_nil))) (pd_callTy call_int1 int_ok T.n_int PyProof.Rows.boot_int (pda_cons (pd_eq hr.units (pd_call false c_law_take hr (by decide) hgd (pda_cons (pd_v 0) (pda_cons pd_int pda_nil))) pd_int) pda_nil))))
    (pss_1 (psd_ret (pd_tup (pda_cons (pd_call false c_law_take hr (by decide) hgd (pda_cons (pd_v 0) (pda_cons pd_int pda_nil))) (pda_cons (pd_v 1) (pda_cons (pd_ix (pd_lst false (pda_cons (pd_v 1) (pda_cons (pd_add false (pd_v 1) (pd_call false c_law_take hr (by decide) hgd (pda_cons (pd_v 0) (pda_cons pd_int pda_nil)))) (pda_cons pd_non pda_nil)))) (pd_call false c_law_take hr (by decide) hgd (pda_cons (pd_v 0) (pda_cons pd_int pda_nil)))) pda_nil)))))))
theorem sc_law_odd : FnScope ["_law_bag_here", "_law_some"] ["_law_bag_here"] (defScope s_law_odd) :=
  ⟨rfl, rfl, rfl, by decide +kernel, rfl, by decide +kernel, by decide +kernel⟩
noncomputable def b_law_odd : SM :=
    (sSeq (sSet 1 (eA (newL false) (aC (eC .non) (aC (eC (.bl true)) (aC (eC (.bl false)) (aC (e1 negG (eC (.int 1))) (aC (eC (.int 3)) (aC (e2 (powG) (eC (.int 10)) (eC (.int 39))) (aC (eC (.str "")) (aC (eC (.str "write")) (aC (eA newT aN) (aC (eA (newL false) aN) (aC (eDN false) (aC (eA newT (aC (eC (.int 1)) (aC (eC (.int 0)) aN))) (aC (eA (newL false) (aC (eC (.int 1)) (aC (eC (.int 0)) (aC (eC (.int 0)) aN)))) (aC (eA newT (aC (eC (.int 1)) (aC (eC (.int 0)) (aC (eC (.int 0)) aN)))) (aC (eA newT (aC (eC (.int 1)) (aC (eC (.int 5)) (aC (eC (.int 4)) aN)))) (aC (eC (.int 0)) aN))))))))))))))))))
    (sRet (e2 ixG (eV 1) (eCall m_law_take false (aC (eV 0) (aC (eC (.int 16)) aN))))))
noncomputable def m_law_odd : FnM := fnM 1 2 b_law_odd
theorem ok_law_odd (T : Txt K mg) {f : Addr} {fd : FuncData} (F : Fun K "_law_odd" "_law_odd" s_law_odd f fd) (hm : mg "_law_odd" = some (.ref f)) (hb : Binds K fd ["_law_bag_here"] []) (c_law_take : CalD P w K mg base 1 "_law_take" m_law_take) :
    CalD P w K mg base 2 "_law_odd" m_law_odd :=
  calD_of (k := 1) F hm hb sc_law_odd fun cdv A outer s H E hgd hr =>
    (pss_c (psd_set (i := 1) sc_law_odd.nd (pd_lst false (pda_cons pd_non (pda_cons pd_bl (pda_cons pd_bl (pda_cons (pd_neg pd_int) (pda_cons pd_int (pda_cons (pd_pow pd_int pd_int) (pda_cons pd_str (pda_cons pd_str (pda_cons (pd_tup pda_nil) (pda_cons (pd_lst false pda_nil) (pda_cons (pd_dn false) (pda_cons (pd_tup (pda_cons pd_int (pda_cons pd_int pda_nil))) (pda_cons (pd_lst false (pda_cons pd_int (pda_cons pd_int (pda_cons pd_int pda_nil)))) (pda_cons (pd_tup (pda_cons pd_int (pda_cons pd_int (pda_cons pd_int pda_nil)))) (pda_cons (pd_tup (pda_cons pd_int (pda_cons pd_int (pda_cons pd_int pda_nil)))) (pda_cons pd_int pda_nil))))))))))))))))))
    (pss_1 (psd_ret (pd_ix (pd_v 1) (pd_call false c_law_take hr (by decide) hgd (pda_cons (pd_v 0) (pda_cons pd_int pda_nil)))))))
theorem sc_span_fault : FnScope ["first", "last"] ["first", "last"] (defScope s_span_fault) :=
  ⟨rfl, rfl, rfl, by decide +kernel, rfl, by decide +kernel, by decide +kernel⟩
noncomputable def b_span_fault : SM :=
    (sSeq (sIf (tNt (tV (eCall m_is_byte false (aC (eV 0) aN)))) (sRet (eC (.int 0))) sNx)
    (sSeq (sIf (tOo (tB (e2 (isG false) (eV 1) (eC .non))) (tAn (tV (eCall m_is_byte false (aC (eV 1) aN))) (tB (e2 (geG) (eV 1) (eV 0))))) (sRet (eC .non)) sNx)
    (sRet (eC (.int 1)))))
noncomputable def m_span_fault : FnM := fnM 2 2 b_span_fault
theorem ok_span_fault (T : Txt K mg) {f : Addr} {fd : FuncData} (F : Fun K "span_fault" "span_fault" s_span_fault f fd) (hm : mg "span_fault" = some (.ref f)) (hb : Binds K fd ["first", "last"] []) (c_is_byte : CalD P w K mg base 2 "is_byte" m_is_byte) :
    CalD P w K mg base 3 "span_fault" m_span_fault :=
  calD_of (k := 2) F hm hb sc_span_fault fun cdv A outer s H E hgd hr =>
    (pss_c (psd_if (pt_nt (pt_v (pd_call false c_is_byte hr (by decide) hgd (pda_cons (pd_v 0) pda_nil)))) (pss_1 (psd_ret pd_int)) pss_n)
    (pss_c (psd_if (pt_w (pw_o (pt_is (pd_v 1) pd_non) (pw_o1 (pt_w (pw_a (pt_v (pd_call false c_is_byte hr (by decide) hgd (pda_cons (pd_v 1) pda_nil))) (pw_a1 (pt_ge (pd_v 1) (pd_v 0)))))))) (pss_1 (psd_ret pd_non)) pss_n)
    (pss_1 (psd_ret pd_int))))
theorem sc_is_level : FnScope ["thing"] ["thing"] (defScope s_is_level) :=
  ⟨rfl, rfl, rfl, by decide +kernel, rfl, by decide +kernel, by decide +kernel⟩
noncomputable def b_is_level : SM :=
    (sRet (eCall m_is_between true (aC (eV 0) (aC (eC (.int 0)) (aC (eC (.int 2)) aN)))))
noncomputable def m_is_level : FnM := fnM 1 1 b_is_level
theorem ok_is_level (T : Txt K mg) {f : Addr} {fd : FuncData} (F : Fun K "is_level" "is_level" s_is_level f fd) (hm : mg "is_level" = some (.ref f)) (hb : Binds K fd ["thing"] []) (c_is_between : CalD P w K mg base 2 "is_between" m_is_between) :
    CalD P w K mg base 3 "is_level" m_is_level :=
  calD_of (k := 2) F hm hb sc_is_level fun cdv A outer s H E hgd hr =>
    (pss_1 (psd_ret (pd_call true c_is_between hr (by decide) hgd (pda_cons (pd_v 0) (pda_cons pd_int (pda_cons (pd_cint T.k_MOST_LEVEL) pda_nil))))))
theorem sc_law_alike : FnScope ["_law_found", "_law_due"] ["_law_found", "_law_due"] (defScope s_law_alike) :=
  ⟨rfl, rfl, rfl, by decide +kernel, rfl, by decide +kernel, by decide +kernel⟩
noncomputable def b_law_alike : SM :=
    (sRet (eAnd (e2 (orG (eqG false) (ownAG [("Crowd", m_Crowd___eq__)] ["Crowd"] false)) (eV 0) (eV 1)) (e2 (eqG false) (eA reprXG (aC (eV 0) aN)) (eA reprXG (aC (eV 1) aN)))))
noncomputable def m_law_alike : FnM := fnM 2 2 b_law_alike
theorem ok_law_alike (T : Txt K mg) {f : Addr} {fd : FuncData} (F : Fun K "_law_alike" "_law_alike" s_law_alike f fd) (hm : mg "_law_alike" = some (.ref f)) (hb : Binds K fd ["_law_found", "_law_due"] []) (O_eq_ : OpsD P w K mg base 1 "__eq__" [("Crowd", m_Crowd___eq__)]) :
    CalD P w K mg base 3 "_law_alike" m_law_alike :=
  calD_of (k := 2) F hm hb sc_law_alike fun cdv A outer s H E hgd hr =>
    (pss_1 (psd_ret (pd_and (pd_eqA T.eqs O_eq_ (hr.mono (by decide)) hgd hr.units (pd_v 0) (pd_v 1)) (pd_one (pd_eq hr.units (pd_callB (call_reprX hgd (hu80 hr)) reprX_ok T.n_repr PyProof.Rows.boot_repr (pda_cons (pd_v 0) pda_nil)) (pd_callB (call_reprX hgd (hu80 hr)) reprX_ok T.n_repr PyProof.Rows.boot_repr (pda_cons (pd_v 1) pda_nil)))))))
theorem sc_law_are_programs : FnScope ["_law_thing", "_law_program", ".0", "_law_call"] ["_law_thing"] (defScope s_law_are_programs) :=
  ⟨rfl, rfl, rfl, by decide +kernel, rfl, by decide +kernel, by decide +kernel⟩
noncomputable def f_law_are_programs_1 : SM :=
    (sIf (tOo (tNt (tV (eA isiG (aC (eV 1) (aC (eC (.ty "list")) aN))))) (tOo (tB (e2 (eqNG false) (eV 1) (eA (newL false) aN))) (tNt (tV (eA allG (aC (eLC false (iLsC (aC (eV 1) aN)) (gNm 3) tTr (eCall m_law_is_call false (aC (eV 3) aN)) [2, 3]) aN)))))) (sRet (eC (.bl false))) sNx)
noncomputable def b_law_are_programs : SM :=
    (sSeq (sIf (tOo (tNt (tV (eA isiAG (aC (eV 0) (aC (eC (.ty "list")) aN))))) (tNt (tB (eCh (leG) (leG) (eC (.int 1)) (eA lenG (aC (eV 0) aN)) (eC (.int 4)))))) (sRet (eC (.bl false))) sNx)
    (sSeq (sFor (iSeq (eV 0)) (gNm 1) f_law_are_programs_1)
    (sRet (e2 (leG) (eA sumG (aC (eLC false (iSeq (eV 0)) (gNm 1) tTr (eA lenG (aC (eV 1) aN)) [2, 1]) aN)) (eC (.int 6))))))
noncomputable def m_law_are_programs : FnM := fnM 1 4 b_law_are_programs
theorem ok_law_are_programs (T : Txt K mg) {f : Addr} {fd : FuncData} (F : Fun K "_law_are_programs" "_law_are_programs" s_law_are_programs f fd) (hm : mg "_law_are_programs" = some (.ref f)) (hb : Binds K fd ["_law_thing"] []) (c_law_is_call : CalD P w K mg base 2 "_law_is_call" m_law_is_call) :
    CalD P w K mg base 3 "_law_are_programs" m_law_are_programs :=
  calD_of (k := 2) F hm hb sc_law_are_programs fun cdv A outer s H E hgd hr =>
    (pss_c (psd_if (pt_w (pw_o (pt_nt (pt_v (pd_callB call_isi isiA_ok T.n_isinstance PyProof.Rows.boot_isinstance (pda_cons (pd_v 0) (pda_cons (pd_ty T.n_list PyProof.Rows.boot_list) pda_nil))))) (pw_o1 (pt_nt (pt_ch op_le op_le cmp_ok cmp_ok pd_int (pd_callB call_len len_ok T.n_len PySem.boot_len (pda_cons (pd_v 0) pda_nil)) pd_int))))) (pss_1 (psd_ret pd_bl)) pss_n)
    (pss_c (psd_for rfl (passes_of rfl) (pid_seq (pd_v 0)) (pgd_name (i := 1) sc_law_are_programs.nd) (pss_1 (psd_if (pt_w (pw_o (pt_nt (pt_v (pd_callB call_isi isi_ok T.n_isinstance PyProof.Rows.boot_isinstance (pda_cons (pd_v 1) (pda_cons (pd_ty T.n_list PyProof.Rows.boot_list) pda_nil))))) (pw_o (pt_eqN hr.units (pd_v 1) (pd_lst false pda_nil)) (pw_o1 (pt_nt (pt_v (pd_callB (cr_all rfl) all_ok T.n_all PyProof.Rows.boot_all (pda_cons (pd_lc false rfl sc_law_are_programs.nd (pid_lsC T.n_list PyProof.Rows.boot_list (pda_cons (pd_v 1) pda_nil)) (blkOk_by (own := [(".0", 2), ("_law_call", 3)]) (by kernel_rfl)) (fun _ _ _ _ _ => (pgd_name (i := 3) sc_law_are_programs.nd)) (fun _ _ _ _ _ => pts_n) (fun _ _ _ _ _ => (pd_call false c_law_is_call hr (by decide) hgd (pda_cons (pd_v 3) pda_nil)))) pda_nil)))))))) (pss_1 (psd_ret pd_bl)) pss_n)))
    (pss_1 (psd_ret (pd_le (pd_callB (cr_sum rfl) sum_ok T.n_sum PyProof.Rows.boot_sum (pda_cons (pd_lc false rfl sc_law_are_programs.nd (pid_seq (pd_v 0)) (blkOk_by (own := [(".0", 2), ("_law_program", 1)]) (by kernel_rfl)) (fun _ _ _ _ _ => (pgd_name (i := 1) sc_law_are_programs.nd)) (fun _ _ _ _ _ => pts_n) (fun _ _ _ _ _ => (pd_callB call_len len_ok T.n_len PySem.boot_len (pda_cons (pd_v 1) pda_nil)))) pda_nil)) pd_int)))))
theorem sc_law_bent : FnScope ["_law_bag_here", "_law_programs", "_law_at", "_law_way", "_law_program", "_law_spot", "_law_call", "_law_part", "_law_some"] ["_law_bag_here", "_law_programs"] (defScope s_law_bent) :=
  ⟨rfl, rfl, rfl, by decide +kernel, rfl, by decide +kernel, by decide +kernel⟩
noncomputable def b_law_bent : SM :=
    (sSeq (sPar 2 3 (aC (eCall m_law_take false (aC (eV 0) (aC (eA lenG (aC (eV 1) aN)) aN))) (aC (eCall m_law_take false (aC (eV 0) (aC (eC (.int 8)) aN))) aN)))
    (sSeq (sSet 4 (e2 ixG (eV 1) (eV 2)))
    (sSeq (sSet 5 (eCall m_law_take false (aC (eV 0) (aC (eA lenG (aC (eV 4) aN)) aN))))
    (sSeq (sPar 6 7 (aC (e2 ixG (eV 4) (eV 5)) (aC (eCall m_law_take false (aC (eV 0) (aC (eC (.int 3)) aN))) aN)))
    (sSeq (sSet 8 (eA (newL true) (aC (eA (tupleG) (aC (eV 4) aN)) (aC (eA (newL false) aN) (aC (e2 (addG true) (eV 4) (eV 4)) (aC (eCall m_law_odd false (aC (eV 0) aN)) (aC (e2 (addG true) (e2 (addG false) (eSl false (eV 4) pN (pS (eV 5))) (eA (newL false) (aC (eCall m_law_odd false (aC (eV 0) aN)) aN))) (eSl false (eV 4) (pS (e2 (addG false) (eV 5) (eC (.int 1)))) pN)) aN)))))))
    (sSeq (sEx (eMt "list" appendG (eV 8) (aC (e2 (addG true) (e2 (addG false) (eSl false (eV 4) pN (pS (eV 5))) (eA (newL false) (aC (e2 (addG false) (e2 (addG false) (eSl false (eV 6) pN (pS (eV 7))) (eA newT (aC (eCall m_law_odd false (aC (eV 0) aN)) aN))) (eSl false (eV 6) (pS (e2 (addG false) (eV 7) (eC (.int 1)))) pN)) aN))) (eSl false (eV 4) (pS (e2 (addG false) (eV 5) (eC (.int 1)))) pN)) aN)))
    (sSeq (sEx (eMt "list" appendG (eV 8) (aC (e2 (addG false) (e2 (addG false) (eSl false (eV 4) pN (pS (eV 5))) (eA (newL false) (aC (eA (listG false) (aC (eV 6) aN)) aN))) (eSl false (eV 4) (pS (e2 (addG false) (eV 5) (eC (.int 1)))) pN)) aN)))
    (sSeq (sIf (tB (e2 (eqG false) (eV 3) (eC (.int 7)))) (sRet (e2 ixG (eA (newL true) (aC (eA tupCG (aC (eV 1) aN)) (aC (e2 (mulG true) (eV 1) (eC (.int 3))) (aC (eA (newL true) (aC (eV 1) aN)) (aC (eSl true (eV 1) pN (pS (eV 2))) (aC (eDs (dC (eC (.int 0)) (eV 4) dN)) aN)))))) (eCall m_law_take false (aC (eV 0) (aC (eC (.int 5)) aN))))) sNx)
    (sRet (e2 (addG true) (e2 (addG true) (eSl true (eV 1) pN (pS (eV 2))) (eA (newL true) (aC (e2 ixG (eV 8) (eV 3)) aN))) (eSl true (eV 1) (pS (e2 (addG false) (eV 2) (eC (.int 1)))) pN)))))))))))
noncomputable def m_law_bent : KnM := fnK 2 9 b_law_bent
theorem ok_law_bent (T : Txt K mg) {f : Addr} {fd : FuncData} (F : Fun K "_law_bent" "_law_bent" s_law_bent f fd) (hm : mg "_law_bent" = some (.ref f)) (hb : Binds K fd ["_law_bag_here", "_law_programs"] []) (c_law_take : CalD P w K mg base 1 "_law_take" m_law_take) (c_law_odd : CalD P w K mg base 2 "_law_odd" m_law_odd) :
    CalK P w K mg base 3 "_law_bent" m_law_bent :=
  calK_of (k := 2) F hm hb sc_law_bent fun cdv A outer s H E hgd hr =>
    (pss_c (psd_par (i := 2) (j := 3) rfl sc_law_bent.nd (pda_cons (pd_call false c_law_take hr (by decide) hgd (pda_cons (pd_v 0) (pda_cons (pd_callB call_len len_ok T.n_len PySem.boot_len (pda_cons (pd_v 1) pda_nil)) pda_nil))) (pda_cons (pd_call false c_law_take hr (by decide) hgd (pda_cons (pd_v 0) (pda_cons pd_int pda_nil))) pda_nil)))
    (pss_c (psd_set (i := 4) sc_law_bent.nd (pd_ix (pd_v 1) (pd_v 2)))
    (pss_c (psd_set (i := 5) sc_law_bent.nd (pd_call false c_law_take hr (by decide) hgd (pda_cons (pd_v 0) (pda_cons (pd_callB call_len len_ok T.n_len PySem.boot_len (pda_cons (pd_v 4) pda_nil)) pda_nil))))
    (pss_c (psd_par (i := 6) (j := 7) rfl sc_law_bent.nd (pda_cons (pd_ix (pd_v 4) (pd_v 5)) (pda_cons (pd_call false c_law_take hr (by decide) hgd (pda_cons (pd_v 0) (pda_cons pd_int pda_nil))) pda_nil)))
    (pss_c (psd_set (i := 8) sc_law_bent.nd (pd_lst true (pda_cons (pd_callTy call_tuple_of (tuple_ok) T.n_tuple PyProof.Rows.boot_tuple (pda_cons (pd_v 4) pda_nil)) (pda_cons (pd_lst false pda_nil) (pda_cons (pd_add true (pd_v 4) (pd_v 4)) (pda_cons (pd_call false c_law_odd hr (by decide) hgd (pda_cons (pd_v 0) pda_nil)) (pda_cons (pd_add true (pd_add false (pd_sl false (pd_v 4) po_n (po_s (pd_v 5))) (pd_lst false (pda_cons (pd_call false c_law_odd hr (by decide) hgd (pda_cons (pd_v 0) pda_nil)) pda_nil))) (pd_sl false (pd_v 4) (po_s (pd_add false (pd_v 5) pd_int)) po_n)) pda_nil)))))))
    (pss_c (psd_expr (pd_mt PySem.F.plainAttrs_list PySem.F.slot_list_append PySem.F.type_list_append mt_append append_ok (pd_v 8) (pda_cons (pd_add true (pd_add false (pd_sl false (pd_v 4) po_n (po_s (pd_v 5))) (pd_lst false (pda_cons (pd_add false (pd_add false (pd_sl false (pd_v 6) po_n (po_s (pd_v 7))) (pd_tup (pda_cons (pd_call false c_law_odd hr (by decide) hgd (pda_cons (pd_v 0) pda_nil)) pda_nil))) (pd_sl false (pd_v 6) (po_s (pd_add false (pd_v 7) pd_int)) po_n)) pda_nil))) (pd_sl false (pd_v 4) (po_s (pd_add false (pd_v 5) pd_int)) po_n)) pda_nil)))
    (pss_c (psd_expr (pd_mt PySem.F.plainAttrs_list PySem.F.slot_list_append PySem.F.type_list_append mt_append append_ok (pd_v 8) (pda_cons (pd_add false (pd_add false (pd_sl false (pd_v 4) po_n (po_s (pd_v 5))) (pd_lst false (pda_cons (pd_callTy call_list_of (list_ok false) T.n_list PyProof.Rows.boot_list (pda_cons (pd_v 6) pda_nil)) pda_nil))) (pd_sl false (pd_v 4) (po_s (pd_add false (pd_v 5) pd_int)) po_n)) pda_nil)))
    (pss_c (psd_if (pt_eq hr.units (pd_v 3) pd_int) (pss_1 (psd_ret (pd_ix (pd_lst true (pda_cons (pd_callTy call_tuple_of tupC_ok T.n_tuple PyProof.Rows.boot_tuple (pda_cons (pd_v 1) pda_nil)) (pda_cons (pd_mul true (pd_v 1) pd_int) (pda_cons (pd_lst true (pda_cons (pd_v 1) pda_nil)) (pda_cons (pd_sl true (pd_v 1) po_n (po_s (pd_v 2))) (pda_cons (pd_ds (pdp_c pd_int (pd_v 4) pdp_n)) pda_nil)))))) (pd_call false c_law_take hr (by decide) hgd (pda_cons (pd_v 0) (pda_cons pd_int pda_nil)))))) pss_n)
    (pss_1 (psd_ret (pd_add true (pd_add true (pd_sl true (pd_v 1) po_n (po_s (pd_v 2))) (pd_lst true (pda_cons (pd_ix (pd_v 8) (pd_v 3)) pda_nil))) (pd_sl true (pd_v 1) (po_s (pd_add false (pd_v 2) pd_int)) po_n))))))))))))
theorem sc_is_span : FnScope ["thing"] ["thing"] (defScope s_is_span) :=
  ⟨rfl, rfl, rfl, by decide +kernel, rfl, by decide +kernel, by decide +kernel⟩
noncomputable def b_is_span : SM :=
    (sRet (eAnd (eA isiG (aC (eV 0) (aC (eC (.ty "tuple")) aN))) (eAnd (e2 (eqG false) (eA lenG (aC (eV 0) aN)) (eC (.int 2))) (e2 (isG false) (eCall m_span_fault false (aC (e2 ixG (eV 0) (eC (.int 0))) (aC (e2 ixG (eV 0) (eC (.int 1))) aN))) (eC .non)))))
noncomputable def m_is_span : FnM := fnM 1 1 b_is_span
theorem ok_is_span (T : Txt K mg) {f : Addr} {fd : FuncData} (F : Fun K "is_span" "is_span" s_is_span f fd) (hm : mg "is_span" = some (.ref f)) (hb : Binds K fd ["thing"] []) (c_span_fault : CalD P w K mg base 3 "span_fault" m_span_fault) :
    CalD P w K mg base 4 "is_span" m_is_span :=
  calD_of (k := 3) F hm hb sc_is_span fun cdv A outer s H E hgd hr =>
    (pss_1 (psd_ret (pd_and (pd_callB call_isi isi_ok T.n_isinstance PyProof.Rows.boot_isinstance (pda_cons (pd_v 0) (pda_cons (pd_ty T.n_tuple PyProof.Rows.boot_tuple) pda_nil))) (pd_and (pd_eq hr.units (pd_callB call_len len_ok T.n_len PySem.boot_len (pda_cons (pd_v 0) pda_nil)) pd_int) (pd_one (pd_is (pd_call false c_span_fault hr (by decide) hgd (pda_cons (pd_ix (pd_v 0) pd_int) (pda_cons (pd_ix (pd_v 0) pd_int) pda_nil))) pd_non))))))
theorem sc_is_plain_call : FnScope ["thing"] ["thing"] (defScope s_is_plain_call) :=
  ⟨rfl, rfl, rfl, by decide +kernel, rfl, by decide +kernel, by decide +kernel⟩
noncomputable def b_is_plain_call : SM :=
    (sRet (eAnd (eA isiG (aC (eV 0) (aC (eC (.ty "tuple")) aN))) (eAnd (e2 (eqG false) (eA lenG (aC (eV 0) aN)) (eC (.int 3))) (eAnd (eCall m_is_level false (aC (e2 ixG (eV 0) (eC (.int 0))) aN)) (eCall m_is_span false (aC (eSl false (eV 0) (pS (eC (.int 1))) pN) aN))))))
noncomputable def m_is_plain_call : FnM := fnM 1 1 b_is_plain_call
theorem ok_is_plain_call (T : Txt K mg) {f : Addr} {fd : FuncData} (F : Fun K "is_plain_call" "is_plain_call" s_is_plain_call f fd) (hm : mg "is_plain_call" = some (.ref f)) (hb : Binds K fd ["thing"] []) (c_is_span : CalD P w K mg base 4 "is_span" m_is_span) (c_is_level : CalD P w K mg base 3 "is_level" m_is_level) :
    CalD P w K mg base 5 "is_plain_call" m_is_plain_call :=
  calD_of (k := 4) F hm hb sc_is_plain_call fun cdv A outer s H E hgd hr =>
    (pss_1 (psd_ret (pd_and (pd_callB call_isi isi_ok T.n_isinstance PyProof.Rows.boot_isinstance (pda_cons (pd_v 0) (pda_cons (pd_ty T.n_tuple PyProof.Rows.boot_tuple) pda_nil))) (pd_and (pd_eq hr.units (pd_callB call_len len_ok T.n_len PySem.boot_len (pda_cons (pd_v 0) pda_nil)) pd_int) (pd_and (pd_call false c_is_level hr (by decide) hgd (pda_cons (pd_ix (pd_v 0) pd_int) pda_nil)) (pd_one (pd_call false c_is_span hr (by decide) hgd (pda_cons (pd_sl false (pd_v 0) (po_s pd_int) po_n) pda_nil))))))))
theorem sc_is_program : FnScope ["thing", ".0", "call"] ["thing"] (defScope s_is_program) :=
  ⟨rfl, rfl, rfl, by decide +kernel, rfl, by decide +kernel, by decide +kernel⟩
noncomputable def b_is_program : SM :=
    (sRet (eAnd (eA isiG (aC (eV 0) (aC (eC (.ty "list")) aN))) (eAnd (e2 (gtG) (eA lenG (aC (eV 0) aN)) (eC (.int 0))) (eA allG (aC (eLC false (iSeq (eV 0)) (gNm 2) tTr (eCall m_is_plain_call false (aC (eV 2) aN)) [1, 2]) aN)))))
noncomputable def m_is_program : FnM := fnM 1 3 b_is_program
theorem ok_is_program (T : Txt K mg) {f : Addr} {fd : FuncData} (F : Fun K "is_program" "is_program" s_is_program f fd) (hm : mg "is_program" = some (.ref f)) (hb : Binds K fd ["thing"] []) (c_is_plain_call : CalD P w K mg base 5 "is_plain_call" m_is_plain_call) :
    CalD P w K mg base 6 "is_program" m_is_program :=
  calD_of (k := 5) F hm hb sc_is_program fun cdv A outer s H E hgd hr =>
    (pss_1 (psd_ret (pd_and (pd_callB call_isi isi_ok T.n_isinstance PyProof.Rows.boot_isinstance (pda_cons (pd_v 0) (pda_cons (pd_ty T.n_list PyProof.Rows.boot_list) pda_nil))) (pd_and (pd_gt (pd_callB call_len len_ok T.n_len PySem.boot_len (pda_cons (pd_v 0) pda_nil)) pd_int) (pd_one (pd_callB (cr_all rfl) all_ok T.n_all PyProof.Rows.boot_all (pda_cons (pd_lc false rfl sc_is_program.nd (pid_seq (pd_v 0)) (blkOk_by (own := [(".0", 1), ("call", 2)]) (by kernel_rfl)) (fun _ _ _ _ _ => (pgd_name (i := 2) sc_is_program.nd)) (fun _ _ _ _ _ => pts_n) (fun _ _ _ _ _ => (pd_call false c_is_plain_call hr (by decide) hgd (pda_cons (pd_v 2) pda_nil)))) pda_nil)))))))
theorem sc_are_programs : FnScope ["thing", ".0", "program"] ["thing"] (defScope s_are_programs) :=
  ⟨rfl, rfl, rfl, by decide +kernel, rfl, by decide +kernel, by decide +kernel⟩
noncomputable def b_are_programs : SM :=
    (sSeq (sIf (tOo (tNt (tV (eA isiAG (aC (eV 0) (aC (eC (.ty "list")) aN))))) (tNt (tB (eCh (leG) (leG) (eC (.int 1)) (eA lenG (aC (eV 0) aN)) (eC (.int 4)))))) (sRet (eC (.bl false))) sNx)
    (sSeq (sIf (tNt (tV (eA allG (aC (eLC false (iSeq (eV 0)) (gNm 2) tTr (eCall m_is_program false (aC (eV 2) aN)) [1, 2]) aN)))) (sRet (eC (.bl false))) sNx)
    (sRet (e2 (leG) (eA sumG (aC (eLC false (iSeq (eV 0)) (gNm 2) tTr (eA lenG (aC (eV 2) aN)) [1, 2]) aN)) (eC (.int 6))))))
noncomputable def m_are_programs : FnM := fnM 1 3 b_are_programs
theorem ok_are_programs (T : Txt K mg) {f : Addr} {fd : FuncData} (F : Fun K "are_programs" "are_programs" s_are_programs f fd) (hm : mg "are_programs" = some (.ref f)) (hb : Binds K fd ["thing"] []) (c_is_program : CalD P w K mg base 6 "is_program" m_is_program) :
    CalD P w K mg base 7 "are_programs" m_are_programs :=
  calD_of (k := 6) F hm hb sc_are_programs fun cdv A outer s H E hgd hr =>
    (pss_c (psd_if (pt_w (pw_o (pt_nt (pt_v (pd_callB call_isi isiA_ok T.n_isinstance PyProof.Rows.boot_isinstance (pda_cons (pd_v 0) (pda_cons (pd_ty T.n_list PyProof.Rows.boot_list) pda_nil))))) (pw_o1 (pt_nt (pt_ch op_le op_le cmp_ok cmp_ok pd_int (pd_callB call_len len_ok T.n_len PySem.boot_len (pda_cons (pd_v 0) pda_nil)) (pd_cint T.k_MOST_PROGRAMS)))))) (pss_1 (psd_ret pd_bl)) pss_n)
    (pss_c (psd_if (pt_nt (pt_v (pd_callB (cr_all rfl) all_ok T.n_all PyProof.Rows.boot_all (pda_cons (pd_lc false rfl sc_are_programs.nd (pid_seq (pd_v 0)) (blkOk_by (own := [(".0", 1), ("program", 2)]) (by kernel_rfl)) (fun _ _ _ _ _ => (pgd_name (i := 2) sc_are_programs.nd)) (fun _ _ _ _ _ => pts_n) (fun _ _ _ _ _ => (pd_call false c_is_program hr (by decide) hgd (pda_cons (pd_v 2) pda_nil)))) pda_nil)))) (pss_1 (psd_ret pd_bl)) pss_n)
    (pss_1 (psd_ret (pd_le (pd_callB (cr_sum rfl) sum_ok T.n_sum PyProof.Rows.boot_sum (pda_cons (pd_lc false rfl sc_are_programs.nd (pid_seq (pd_v 0)) (blkOk_by (own := [(".0", 1), ("program", 2)]) (by kernel_rfl)) (fun _ _ _ _ _ => (pgd_name (i := 2) sc_are_programs.nd)) (fun _ _ _ _ _ => pts_n) (fun _ _ _ _ _ => (pd_callB call_len len_ok T.n_len PySem.boot_len (pda_cons (pd_v 2) pda_nil)))) pda_nil)) (pd_cint T.k_MOST_CALLS))))))
theorem sc_Crowd___init__ : FnScope ["self", "programs", ".0", "program"] ["self", "programs"] (defScope s_Crowd___init__) :=
  ⟨rfl, rfl, rfl, by decide +kernel, rfl, by decide +kernel, by decide +kernel⟩
noncomputable def b_Crowd___init__ : SM :=
    (sSeq (sIf (tNt (tV (eCall m_are_programs false (aC (eV 1) aN)))) (sRsF "Wrong" ["place"] (aC (eC (.int 0)) aN)) sNx)
    (sFldM ["Crowd"] "kept_programs" (eV 0) (eLC false (iSeq (eV 1)) (gNm 3) tTr (eA (listG false) (aC (eV 3) aN)) [2, 3])))
noncomputable def m_Crowd___init__ : FnM := fnM 2 4 b_Crowd___init__
theorem ok_Crowd___init__ (T : Txt K mg) {f : Addr} {fd : FuncData} (F : Fun K "__init__" "Crowd.__init__" s_Crowd___init__ f fd) (hfn : PySem.W.isFn K (.ref f) = true) (hb : Binds K fd ["self", "programs"] []) (c_are_programs : CalD P w K mg base 7 "are_programs" m_are_programs) (XI_Wrong : ExF P w K mg base 1 "Wrong" ["place"]) :
    FunAt P w K mg base 8 f m_Crowd___init__ :=
  funAt_of (k := 7) F hfn hb sc_Crowd___init__ fun cdv A outer s H E hgd hr =>
    (pss_c (psd_if (pt_nt (pt_v (pd_call false c_are_programs hr (by decide) hgd (pda_cons (pd_v 1) pda_nil)))) (pss_1 (psd_raiseF rfl (takes_of rfl rfl rfl rfl) XI_Wrong (hr.mono (by decide)) (pda_cons pd_int pda_nil))) pss_n)
    (pss_1 (psd_fld T.fl_kept_programs (pd_v 0) (pd_lc false rfl sc_Crowd___init__.nd (pid_seq (pd_v 1)) (blkOk_by (own := [(".0", 2), ("program", 3)]) (by kernel_rfl)) (fun _ _ _ _ _ => (pgd_name (i := 3) sc_Crowd___init__.nd)) (fun _ _ _ _ _ => pts_n) (fun _ _ _ _ _ => (pd_callTy call_list_of (list_ok false) T.n_list PyProof.Rows.boot_list (pda_cons (pd_v 3) pda_nil)))))))
theorem sc_law_told : FnScope ["_law_thing", "e"] ["_law_thing"] (defScope s_law_told) :=
  ⟨rfl, rfl, rfl, by decide +kernel, rfl, by decide +kernel, by decide +kernel⟩
noncomputable def b_law_told : SM :=
    (sSeq (sTryA 1 [("Wrong", true)] (sRet (eA newT (aC (eC (.str "crowd")) (aC (eMakeX false "Crowd" m_Crowd___init__ (aC (eV 0) aN)) aN))))
    (fun a d e => (sIf (tAn (tV (eA (isEG iseT a d e.cls) (aC (eV 1) (aC (eC (.cls "Wrong")) aN)))) (tAn (tV (eA (isEG iseT a d e.cls) (aC (eV 1) (aC (eC (.ty "ValueError")) aN)))) (tNt (tV (eA (isEG iseT a d e.cls) (aC (eV 1) (aC (eA newT (aC (eC (.cls "TooMany")) (aC (eC (.cls "Unfit")) aN))) aN))))))) (sRet (eA newT (aC (eC (.str "wrong")) (aC (eXf a d "place" e ["Wrong"] (eV 1)) aN)))) sNx)))
    (sRet (eA newT (aC (eC (.str "other")) (aC (eC (.int 0)) aN)))))
noncomputable def m_law_told : FnM := fnM 1 2 b_law_told
theorem ok_law_told (T : Txt K mg) {f : Addr} {fd : FuncData} (F : Fun K "_law_told" "_law_told" s_law_told f fd) (hm : mg "_law_told" = some (.ref f)) (hb : Binds K fd ["_law_thing"] []) (K_Crowd : MakD P w K mg base 8 "Crowd" m_Crowd___init__) :
    CalD P w K mg base 10 "_law_told" m_law_told :=
  calD_of (k := 9) F hm hb sc_law_told fun cdv A outer s H E hgd hr =>
    (pss_c (psd_try_as 1 rfl rfl sc_law_told.nd rfl rfl ⟨rfl, by decide, .inl T.g_LockError⟩ (takes_of rfl rfl rfl rfl) T.exm_LockError (fun W2 pn xe tk => (pss_1 (psd_ret (pd_tup (pda_cons pd_str (pda_cons (pd_makeX false tk K_Crowd (hr.mono (by decide)) hgd (pda_cons (pd_v 0) pda_nil)) pda_nil))))))
    (fun a oe e d pn hz hf => (pss_1 (psd_if (pt_w (pw_a (pt_v (pd_callB (call_isX hz hf) (isE_ok (a := a) T.ises) T.n_isinstance PyProof.Rows.boot_isinstance (pda_cons (pd_v 1) (pda_cons (pd_cls T.g_Wrong) pda_nil)))) (pw_a (pt_v (pd_callB (call_isX hz hf) (isE_ok (a := a) T.ises) T.n_isinstance PyProof.Rows.boot_isinstance (pda_cons (pd_v 1) (pda_cons (pd_ty T.n_ValueError PyProof.Rows.Boot.«ValueError») pda_nil)))) (pw_a1 (pt_nt (pt_v (pd_callB (call_isX hz hf) (isE_ok (a := a) T.ises) T.n_isinstance PyProof.Rows.boot_isinstance (pda_cons (pd_v 1) (pda_cons (pd_tup (pda_cons (pd_cls T.g_TooMany) (pda_cons (pd_cls T.g_Unfit) pda_nil))) pda_nil))))))))) (pss_1 (psd_ret (pd_tup (pda_cons pd_str (pda_cons (pd_xf T.xf_place hz hf (pd_v 1)) pda_nil))))) pss_n))))
    (pss_1 (psd_ret (pd_tup (pda_cons pd_str (pda_cons pd_int pda_nil))))))
theorem sc_law_unlike_right : FnScope ["_law_bag_here", "_law_crowd", "_law_due", "_law_at", "_law_other", "_law_spot", "_law_some", "_law_level", "_law_first", "_law_last", "_law_calls", "_law_programs", "_law_twin", "_law_equal", ".0", "_law_k", "_law_program"] ["_law_bag_here", "_law_crowd", "_law_due"] (defScope s_law_unlike_right) :=
  ⟨rfl, rfl, rfl, by decide +kernel, rfl, by decide +kernel, by decide +kernel⟩
noncomputable def f_law_unlike_right_1 : SM :=
    (sSeq (sPar 12 13 (aC (eMakeX false "Crowd" m_Crowd___init__ (aC (eLC false (iSeq (eV 11)) (gNm 16) tTr (eA (listG false) (aC (eV 16) aN)) [14, 16]) aN)) (aC (e2 (eqG false) (eV 11) (eV 2)) aN)))
    (sIf (tOo (tB (e2 (eqG true) (e2 (orG (eqG false) (ownAG [("Crowd", m_Crowd___eq__)] ["Crowd"] false)) (eV 1) (eV 12)) (eV 13))) (tOo (tB (e2 (eqG true) (e2 (orG (eqG false) (ownAG [("Crowd", m_Crowd___eq__)] ["Crowd"] false)) (eV 12) (eV 1)) (eV 13))) (tB (e2 (eqG false) (e2 (orG (eqG true) (ownAG [("Crowd", m_Crowd___eq__)] ["Crowd"] true)) (eV 1) (eV 12)) (eV 13))))) (sRet (eC (.bl false))) sNx))
noncomputable def b_law_unlike_right : SM :=
    (sSeq (sPar 3 4 (aC (eCall m_law_take false (aC (eV 0) (aC (eA lenG (aC (eV 2) aN)) aN))) (aC (eCall m_law_take false (aC (eV 0) (aC (eA lenG (aC (eV 2) aN)) aN))) aN)))
    (sSeq (sPar 5 6 (aC (eCall m_law_take false (aC (eV 0) (aC (eA lenG (aC (e2 ixG (eV 2) (eV 3)) aN)) aN))) (aC (eLCK (iR1 (aC (eC (.int 3)) aN)) (gNm 15) tTr (eLCK (iSeq (eV 2)) (gNm 16) tTr (eA (listG true) (aC (eV 16) aN)) [14, 16]) [14, 15]) aN)))
    (sSeq (sEx (eMt0 "list" reverseG (e2 ixG (e2 ixG (eV 6) (eC (.int 0))) (eV 3))))
    (sSeq (sAs (eA newT (aC (eA (listG false) (aC (e2 ixG (eV 2) (eV 4)) aN)) (aC (eA (listG false) (aC (e2 ixG (eV 2) (eV 3)) aN)) aN))) (gTu 2 (gCs (gSb (e2 ixG (eV 6) (eC (.int 1))) (eV 3)) (gCs (gSb (e2 ixG (eV 6) (eC (.int 1))) (eV 4)) gNl))))
    (sSeq (sAs (e2 ixG (e2 ixG (eV 2) (eV 3)) (eV 5)) (gTu 3 (gCs (gNm 7) (gCs (gNm 8) (gCs (gNm 9) gNl)))))
    (sSeq (sSet 10 (eA (newL false) (aC (eA newT (aC (e2 (modG) (eA intG (aC (e2 (addG false) (eV 7) (eC (.int 1))) aN)) (eC (.int 3))) (aC (eV 8) (aC (eV 9) aN)))) (aC (eA newT (aC (eV 7) (aC (eV 8) (aC (eIf (tB (e2 (isG true) (eV 9) (eC .non))) (eC .non) (eV 8)) aN)))) aN))))
    (sSeq (sAs (e2 ixG (eV 10) (eCall m_law_take false (aC (eV 0) (aC (eC (.int 2)) aN)))) (gSb (e2 ixG (e2 ixG (eV 6) (eC (.int 2))) (eV 3)) (eV 5)))
    (sSeq (sIf (tB (e2 (gtG) (eA lenG (aC (eV 2) aN)) (eC (.int 1)))) (sEx (eMt "list" appendG (eV 6) (aC (e2 (addG false) (eSl false (eV 2) pN (pS (eV 3))) (eSl false (eV 2) (pS (e2 (addG false) (eV 3) (eC (.int 1)))) pN)) aN))) sNx)
    (sSeq (sFor (iSeq (eV 6)) (gNm 11) f_law_unlike_right_1)
    (sRet (eC (.bl true))))))))))))
noncomputable def m_law_unlike_right : FnM := fnM 3 17 b_law_unlike_right
theorem ok_law_unlike_right (T : Txt K mg) {f : Addr} {fd : FuncData} (F : Fun K "_law_unlike_right" "_law_unlike_right" s_law_unlike_right f fd) (hm : mg "_law_unlike_right" = some (.ref f)) (hb : Binds K fd ["_law_bag_here", "_law_crowd", "_law_due"] []) (O_eq_ : OpsD P w K mg base 1 "__eq__" [("Crowd", m_Crowd___eq__)]) (K_Crowd : MakD P w K mg base 8 "Crowd" m_Crowd___init__) (c_law_take : CalD P w K mg base 1 "_law_take" m_law_take) :
    CalD P w K mg base 10 "_law_unlike_right" m_law_unlike_right :=
  calD_of (k := 9) F hm hb sc_law_unlike_right fun cdv A outer s H E hgd hr =>
    (pss_c (psd_par (i := 3) (j := 4) rfl sc_law_unlike_right.nd (pda_cons (pd_call false c_law_take hr (by decide) hgd (pda_cons (pd_v 0) (pda_cons (pd_callB call_len len_ok T.n_len PySem.boot_len (pda_cons (pd_v 2) pda_nil)) pda_nil))) (pda_cons (pd_call false c_law_take hr (by decide) hgd (pda_cons (pd_v 0) (pda_cons (pd_callB call_len len_ok T.n_len PySem.boot_len (pda_cons (pd_v 2) pda_nil)) pda_nil))) pda_nil)))
    (pss_c (psd_par (i := 5) (j := 6) rfl sc_law_unlike_right.nd (pda_cons (pd_call false c_law_take hr (by decide) hgd (pda_cons (pd_v 0) (pda_cons (pd_callB call_len len_ok T.n_len PySem.boot_len (pda_cons (pd_ix (pd_v 2) (pd_v 3)) pda_nil)) pda_nil))) (pda_cons (pd_lcK rfl sc_law_unlike_right.nd (pid_range1 T.n_range (pda_cons pd_int pda_nil)) (blkOk_by (own := [(".0", 14), ("_law_k", 15)]) (by kernel_rfl)) (fun _ _ _ _ _ => (pgd_name (i := 15) sc_law_unlike_right.nd)) (fun _ _ _ _ _ => pts_n) (fun _ _ _ _ _ => (pd_lcK rfl sc_law_unlike_right.nd (pid_seq (pd_v 2)) (blkOk_by (own := [(".0", 14), ("_law_program", 16)]) (by kernel_rfl)) (fun _ _ _ _ _ => (pgd_name (i := 16) sc_law_unlike_right.nd)) (fun _ _ _ _ _ => pts_n) (fun _ _ _ _ _ => (pd_callTy call_list_of (list_ok true) T.n_list PyProof.Rows.boot_list (pda_cons (pd_v 16) pda_nil)))))) pda_nil)))
    (pss_c (psd_expr (pd_mt0 PySem.F.plainAttrs_list PySem.F.slot_list_reverse PySem.F.type_list_reverse mt_reverse reverse_ok (pd_ix (pd_ix (pd_v 6) pd_int) (pd_v 3))))
    (pss_c (psd_asg (pd_tup (pda_cons (pd_callTy call_list_of (list_ok false) T.n_list PyProof.Rows.boot_list (pda_cons (pd_ix (pd_v 2) (pd_v 4)) pda_nil)) (pda_cons (pd_callTy call_list_of (list_ok false) T.n_list PyProof.Rows.boot_list (pda_cons (pd_ix (pd_v 2) (pd_v 3)) pda_nil)) pda_nil))) (pgd_tup rfl (pgds_cons (pgd_sub (pd_ix (pd_v 6) pd_int) (pd_v 3)) (pgds_cons (pgd_sub (pd_ix (pd_v 6) pd_int) (pd_v 4)) pgds_nil))))
    (pss_c (psd_asg (pd_ix (pd_ix (pd_v 2) (pd_v 3)) (pd_v 5)) (pgd_tup rfl (pgds_cons (pgd_name (i := 7) sc_law_unlike_right.nd) (pgds_cons (pgd_name (i := 8) sc_law_unlike_right.nd) (pgds_cons (pgd_name (i := 9) sc_law_unlike_right.nd) pgds_nil)))))
    (pss_c (psd_set (i := 10) sc_law_unlike_right.nd (pd_lst false (pda_cons (pd_tup (pda_cons (pd_mod (pd_callTy call_int1 int_ok T.n_int PyProof.Rows.boot_int (pda_cons (pd_add false (pd_v 7) pd_int) pda_nil)) pd_int) (pda_cons (pd_v 8) (pda_cons (pd_v 9) pda_nil)))) (pda_cons (pd_tup (pda_cons (pd_v 7) (pda_cons (pd_v 8) (pda_cons (pd_if (pt_isnot (pd_v 9) pd_non) pd_non (pd_v 8)) pda_nil)))) pda_nil))))
    (pss_c (psd_asg (pd_ix (pd_v 10) (pd_call false c_law_take hr (by decide) hgd (pda_cons (pd_v 0) (pda_cons pd_int pda_nil)))) (pgd_sub (pd_ix (pd_ix (pd_v 6) pd_int) (pd_v 3)) (pd_v 5)))
    (pss_c (psd_if (pt_gt (pd_callB call_len len_ok T.n_len PySem.boot_len (pda_cons (pd_v 2) pda_nil)) pd_int) (pss_1 (psd_expr (pd_mt PySem.F.plainAttrs_list PySem.F.slot_list_append PySem.F.type_list_append mt_append append_ok (pd_v 6) (pda_cons (pd_add false (pd_sl false (pd_v 2) po_n (po_s (pd_v 3))) (pd_sl false (pd_v 2) (po_s (pd_add false (pd_v 3) pd_int)) po_n)) pda_nil)))) pss_n)
    (pss_c (psd_for rfl (passes_of rfl) (pid_seq (pd_v 6)) (pgd_name (i := 11) sc_law_unlike_right.nd) (pss_c (psd_par (i := 12) (j := 13) rfl sc_law_unlike_right.nd (pda_cons (pd_makeX false (takes_of rfl rfl rfl rfl) K_Crowd (hr.mono (by decide)) hgd (pda_cons (pd_lc false rfl sc_law_unlike_right.nd (pid_seq (pd_v 11)) (blkOk_by (own := [(".0", 14), ("_law_program", 16)]) (by kernel_rfl)) (fun _ _ _ _ _ => (pgd_name (i := 16) sc_law_unlike_right.nd)) (fun _ _ _ _ _ => pts_n) (fun _ _ _ _ _ => (pd_callTy call_list_of (list_ok false) T.n_list PyProof.Rows.boot_list (pda_cons (pd_v 16) pda_nil)))) pda_nil)) (pda_cons (pd_eq hr.units (pd_v 11) (pd_v 2)) pda_nil)))
    (pss_1 (psd_if (pt_w (pw_o (pt_ne hr.units (pd_eqA T.eqs O_eq_ (hr.mono (by decide)) hgd hr.units (pd_v 1) (pd_v 12)) (pd_v 13)) (pw_o (pt_ne hr.units (pd_eqA T.eqs O_eq_ (hr.mono (by decide)) hgd hr.units (pd_v 12) (pd_v 1)) (pd_v 13)) (pw_o1 (pt_eq hr.units (pd_neA T.eqs O_eq_ (hr.mono (by decide)) hgd hr.units (pd_v 1) (pd_v 12)) (pd_v 13)))))) (pss_1 (psd_ret pd_bl)) pss_n))))
    (pss_1 (psd_ret pd_bl)))))))))))
theorem sc_law_right : FnScope ["_law_bag_here", "_law_thing", "_law_shown", "_law_word", "_law_found", "_law_due", "_law_again", "_law_told_here", "_law_twin", "_law_other", ".0", "_law_program"] ["_law_bag_here", "_law_thing"] (defScope s_law_right) :=
  ⟨rfl, rfl, rfl, by decide +kernel, rfl, by decide +kernel, by decide +kernel⟩
noncomputable def f_law_right_1 : SM :=
    (sSeq (sSet 7 (eMethK0 [("Crowd", m_Crowd_programs)] "programs" (eV 4)))
    (sSeq (sIf (tNt (tV (eCall m_law_alike false (aC (eV 7) (aC (eV 5) aN))))) (sRet (eC (.bl false))) sNx)
    (sSeq (sEx (eMt "list" appendG (e2 ixG (eV 7) (eC (.int 0))) (aC (eC (.str "x")) aN)))
    (sEx (eMt "list" appendG (eV 7) (aC (eC (.str "x")) aN))))))
noncomputable def b_law_right : SM :=
    (sSeq (sSet 2 (eA reprNG (aC (eV 1) aN)))
    (sSeq (sAs (eCall m_law_told false (aC (eV 1) aN)) (gTu 2 (gCs (gNm 3) (gCs (gNm 4) gNl))))
    (sSeq (sIf (tOo (tB (e2 (eqG true) (eA reprNG (aC (eV 1) aN)) (eV 2))) (tOo (tB (e2 (eqG false) (eV 3) (eC (.str "other")))) (tB (e2 (eqG true) (e2 (eqG false) (eV 3) (eC (.str "crowd"))) (eCall m_law_are_programs false (aC (eV 1) aN)))))) (sRet (eC (.bl false))) sNx)
    (sSeq (sIf (tB (e2 (eqG false) (eV 3) (eC (.str "wrong")))) (sRet (eCall m_law_alike true (aC (eV 4) (aC (eC (.int 0)) aN)))) sNx)
    (sSeq (sSet 5 (eLC false (iSeq (eV 1)) (gNm 11) tTr (eA (listG false) (aC (eV 11) aN)) [10, 11]))
    (sSeq (sEx (eMt "list" appendG (e2 ixG (eV 1) (eC (.int 0))) (aC (eA newT (aC (eC (.int 0)) (aC (eC (.int 0)) (aC (eC (.int 0)) aN)))) aN)))
    (sSeq (sEx (eMt "list" appendG (eV 1) (aC (eA (newL false) (aC (eA newT (aC (eC (.int 0)) (aC (eC (.int 0)) (aC (eC (.int 0)) aN)))) aN)) aN)))
    (sSeq (sFor (iR1 (aC (eC (.int 3)) aN)) (gNm 6) f_law_right_1)
    (sSeq (sSet 8 (eMakeX false "Crowd" m_Crowd___init__ (aC (eLC false (iSeq (eV 5)) (gNm 11) tTr (eA (listG false) (aC (eV 11) aN)) [10, 11]) aN)))
    (sSeq (sIf (tOo (tNt (tB (e2 (orG (eqG false) (ownAG [("Crowd", m_Crowd___eq__)] ["Crowd"] false)) (eV 4) (eV 8)))) (tOo (tB (e2 (orG (eqG true) (ownAG [("Crowd", m_Crowd___eq__)] ["Crowd"] true)) (eV 4) (eV 8))) (tOo (tB (e2 (orG (eqG false) (ownAG [("Crowd", m_Crowd___eq__)] ["Crowd"] false)) (eV 4) (eV 5))) (tB (e2 (orG (eqG false) (ownAG [("Crowd", m_Crowd___eq__)] ["Crowd"] false)) (eV 4) (eC (.int 5))))))) (sRet (eC (.bl false))) sNx)
    (sSeq (sSet 9 (eMakeX false "Crowd" m_Crowd___init__ (aC (e2 (addG false) (eSl false (eV 5) pN (pS (e1 negG (eC (.int 1))))) (eA (newL false) (aC (eA (newL false) (aC (eA newT (aC (eC (.int 0)) (aC (eC (.int 7)) (aC (eC (.int 7)) aN)))) aN)) aN))) aN)))
    (sRet (eAnd (e2 (eqG false) (e2 (orG (eqG false) (ownAG [("Crowd", m_Crowd___eq__)] ["Crowd"] false)) (eV 4) (eV 9)) (e2 (eqG false) (eV 5) (eMethK0 [("Crowd", m_Crowd_programs)] "programs" (eV 9)))) (eCall m_law_unlike_right false (aC (eV 0) (aC (eV 4) (aC (eV 5) aN)))))))))))))))))
noncomputable def m_law_right : FnM := fnM 2 12 b_law_right
theorem ok_law_right (T : Txt K mg) {f : Addr} {fd : FuncData} (F : Fun K "_law_right" "_law_right" s_law_right f fd) (hm : mg "_law_right" = some (.ref f)) (hb : Binds K fd ["_law_bag_here", "_law_thing"] []) (c_law_unlike_right : CalD P w K mg base 10 "_law_unlike_right" m_law_unlike_right) (O_eq_ : OpsD P w K mg base 1 "__eq__" [("Crowd", m_Crowd___eq__)]) (MK_programs : MetsK P w K mg base 1 "programs" [("Crowd", m_Crowd_programs)]) (K_Crowd : MakD P w K mg base 8 "Crowd" m_Crowd___init__) (c_law_alike : CalD P w K mg base 3 "_law_alike" m_law_alike) (c_law_are_programs : CalD P w K mg base 3 "_law_are_programs" m_law_are_programs) (c_law_told : CalD P w K mg base 10 "_law_told" m_law_told) :
    CalD P w K mg base 11 "_law_right" m_law_right :=
  calD_of (k := 10) F hm hb sc_law_right fun cdv A outer s H E hgd hr =>
    (pss_c (psd_set (i := 2) sc_law_right.nd (pd_callB (call_reprX hgd (hu80 hr)) reprN_ok T.n_repr PyProof.Rows.boot_repr (pda_cons (pd_v 1) pda_nil)))
    (pss_c (psd_asg (pd_call false c_law_told hr (by decide) hgd (pda_cons (pd_v 1) pda_nil)) (pgd_tup rfl (pgds_cons (pgd_name (i := 3) sc_law_right.nd) (pgds_cons (pgd_name (i := 4) sc_law_right.nd) pgds_nil))))
    (pss_c (psd_if (pt_w (pw_o (pt_ne hr.units (pd_callB (call_reprX hgd (hu80 hr)) reprN_ok T.n_repr PyProof.Rows.boot_repr (pda_cons (pd_v 1) pda_nil)) (pd_v 2)) (pw_o (pt_eq hr.units (pd_v 3) pd_str) (pw_o1 (pt_ne hr.units (pd_eq hr.units (pd_v 3) pd_str) (pd_call false c_law_are_programs hr (by decide) hgd (pda_cons (pd_v 1) pda_nil))))))) (pss_1 (psd_ret pd_bl)) pss_n)
    (pss_c (psd_if (pt_eq hr.units (pd_v 3) pd_str) (pss_1 (psd_ret (pd_call true c_law_alike hr (by decide) hgd (pda_cons (pd_v 4) (pda_cons pd_int pda_nil))))) pss_n)
    (pss_c (psd_setLc false (i := 5) rfl sc_law_right.nd (pid_seq (pd_v 1)) (blkOk_by (own := [(".0", 10), ("_law_program", 11)]) (by kernel_rfl)) (fun _ _ _ _ _ => (pgd_name (i := 11) sc_law_right.nd)) (fun _ _ _ _ _ => pts_n) (fun _ _ _ _ _ => (pd_callTy call_list_of (list_ok false) T.n_list PyProof.Rows.boot_list (pda_cons (pd_v 11) pda_nil))))
    (pss_c (psd_expr (pd_mt PySem.F.plainAttrs_list PySem.F.slot_list_append PySem.F.type_list_append mt_append append_ok (pd_ix (pd_v 1) pd_int) (pda_cons (pd_tup (pda_cons pd_int (pda_cons pd_int (pda_cons pd_int pda_nil)))) pda_nil)))
    (pss_c (psd_expr (pd_mt PySem.F.plainAttrs_list PySem.F.slot_list_append PySem.F.type_list_append mt_append append_ok (pd_v 1) (pda_cons (pd_lst false (pda_cons (pd_tup (pda_cons pd_int (pda_cons pd_int (pda_cons pd_int pda_nil)))) pda_nil)) pda_nil)))
    (pss_c (psd_for rfl (passes_of rfl) (pid_range1 T.n_range (pda_cons pd_int pda_nil)) (pgd_name (i := 6) sc_law_right.nd) (pss_c (psd_set (i := 7) sc_law_right.nd (pd_methK0 MK_programs (hr.mono (by decide)) hgd (pd_v 4)))
    (pss_c (psd_if (pt_nt (pt_v (pd_call false c_law_alike hr (by decide) hgd (pda_cons (pd_v 7) (pda_cons (pd_v 5) pda_nil))))) (pss_1 (psd_ret pd_bl)) pss_n)
    (pss_c (psd_expr (pd_mt PySem.F.plainAttrs_list PySem.F.slot_list_append PySem.F.type_list_append mt_append append_ok (pd_ix (pd_v 7) pd_int) (pda_cons pd_str pda_nil)))
    (pss_1 (psd_expr (pd_mt PySem.F.plainAttrs_list PySem.F.slot_list_append PySem.F.type_list_append mt_append append_ok (pd_v 7) (pda_cons pd_str pda_nil))))))))
    (pss_c (psd_set (i := 8) sc_law_right.nd (pd_makeX false (takes_of rfl rfl rfl rfl) K_Crowd (hr.mono (by decide)) hgd (pda_cons (pd_lc false rfl sc_law_right.nd (pid_seq (pd_v 5)) (blkOk_by (own := [(".0", 10), ("_law_program", 11)]) (by kernel_rfl)) (fun _ _ _ _ _ => (pgd_name (i := 11) sc_law_right.nd)) (fun _ _ _ _ _ => pts_n) (fun _ _ _ _ _ => (pd_callTy call_list_of (list_ok false) T.n_list PyProof.Rows.boot_list (pda_cons (pd_v 11) pda_nil)))) pda_nil)))
    (pss_c (psd_if (pt_w (pw_o (pt_nt (pt_eqA T.eqs O_eq_ (hr.mono (by decide)) hgd hr.units (pd_v 4) (pd_v 8))) (pw_o (pt_neA T.eqs O_eq_ (hr.mono (by decide)) hgd hr.units (pd_v 4) (pd_v 8)) (pw_o (pt_eqA T.eqs O_eq_ (hr.mono (by decide)) hgd hr.units (pd_v 4) (pd_v 5)) (pw_o1 (pt_eqA T.eqs O_eq_ (hr.mono (by decide)) hgd hr.units (pd_v 4) pd_int)))))) (pss_1 (psd_ret pd_bl)) pss_n)
    (pss_c (psd_set (i := 9) sc_law_right.nd (pd_makeX false (takes_of rfl rfl rfl rfl) K_Crowd (hr.mono (by decide)) hgd (pda_cons (pd_add false (pd_sl false (pd_v 5) po_n (po_s (pd_neg pd_int))) (pd_lst false (pda_cons (pd_lst false (pda_cons (pd_tup (pda_cons pd_int (pda_cons pd_int (pda_cons pd_int pda_nil)))) pda_nil)) pda_nil))) pda_nil)))
    (pss_1 (psd_ret (pd_and (pd_eq hr.units (pd_eqA T.eqs O_eq_ (hr.mono (by decide)) hgd hr.units (pd_v 4) (pd_v 9)) (pd_eq hr.units (pd_v 5) (pd_methK0 MK_programs (hr.mono (by decide)) hgd (pd_v 9)))) (pd_one (pd_call false c_law_unlike_right hr (by decide) hgd (pda_cons (pd_v 0) (pda_cons (pd_v 4) (pda_cons (pd_v 5) pda_nil)))))))))))))))))))
theorem sc_law : FnScope ["_law_script", "_law_bag_here", "_law_turn", "_law_programs", "_law_k", "_law_thing", ".0", "_law_j"] ["_law_script"] (defScope s_law) :=
  ⟨rfl, rfl, rfl, by decide +kernel, rfl, by decide +kernel, by decide +kernel⟩
noncomputable def f_law_1 : SM :=
    (sEx (eMt "list" appendG (eV 3) (aC (eLC true (iR1 (aC (e2 (addG false) (eC (.int 1)) (eCall m_law_take false (aC (eV 1) (aC (eC (.int 3)) aN)))) aN)) (gNm 7) tTr (eCall m_law_good false (aC (eV 1) aN)) [6, 7]) aN)))
noncomputable def f_law_2 : SM :=
    (sSeq (sSet 3 (eA (newL true) aN))
    (sSeq (sFor (iR1 (aC (e2 (addG false) (eC (.int 1)) (eCall m_law_take false (aC (eV 1) (aC (eC (.int 5)) aN)))) aN)) (gNm 4) f_law_1)
    (sSeq (sSet 5 (eV 3))
    (sSeq (sIf (tB (e2 (eqG false) (eCall m_law_take false (aC (eV 1) (aC (eC (.int 2)) aN))) (eC (.int 0)))) (sSet 5 (eCallK m_law_bent (aC (eV 1) (aC (eV 3) aN)))) sNx)
    (sSeq (sIf (tB (e2 (eqG false) (eCall m_law_take false (aC (eV 1) (aC (eC (.int 10)) aN))) (eC (.int 0)))) (sSet 5 (eCall m_law_odd true (aC (eV 1) aN))) sNx)
    (sIf (tNt (tV (eCall m_law_right false (aC (eV 1) (aC (eV 5) aN))))) (sRet (eC (.bl false))) sNx))))))
noncomputable def b_law : SM :=
    (sSeq (sSet 1 (eCall m_law_bag true (aC (eV 0) aN)))
    (sSeq (sFor (iR1 (aC (eC (.int 8)) aN)) (gNm 2) f_law_2)
    (sRet (eC (.bl true)))))
noncomputable def m_law : FnM := fnM 1 8 b_law
theorem ok_law (T : Txt K mg) {f : Addr} {fd : FuncData} (F : Fun K "law" "law" s_law f fd) (hm : mg "law" = some (.ref f)) (hb : Binds K fd ["_law_script"] []) (c_law_right : CalD P w K mg base 11 "_law_right" m_law_right) (c_law_take : CalD P w K mg base 1 "_law_take" m_law_take) (c_law_odd : CalD P w K mg base 2 "_law_odd" m_law_odd) (c_law_bent : CalK P w K mg base 3 "_law_bent" m_law_bent) (c_law_good : CalD P w K mg base 2 "_law_good" m_law_good) (c_law_bag : CalD P w K mg base 1 "_law_bag" m_law_bag) :
    CalD P w K mg base 12 "law" m_law :=
  calD_of (k := 11) F hm hb sc_law fun cdv A outer s H E hgd hr =>
    (pss_c (psd_set (i := 1) sc_law.nd (pd_call true c_law_bag hr (by decide) hgd (pda_cons (pd_v 0) pda_nil)))
    (pss_c (psd_for rfl (passes_of rfl) (pid_range1 T.n_range (pda_cons pd_int pda_nil)) (pgd_name (i := 2) sc_law.nd) (pss_c (psd_set (i := 3) sc_law.nd (pd_lst true pda_nil))
    (pss_c (psd_for rfl (passes_of rfl) (pid_range1 T.n_range (pda_cons (pd_add false pd_int (pd_call false c_law_take hr (by decide) hgd (pda_cons (pd_v 1) (pda_cons pd_int pda_nil)))) pda_nil)) (pgd_name (i := 4) sc_law.nd) (pss_1 (psd_expr (pd_mt PySem.F.plainAttrs_list PySem.F.slot_list_append PySem.F.type_list_append mt_append append_ok (pd_v 3) (pda_cons (pd_lc true rfl sc_law.nd (pid_range1 T.n_range (pda_cons (pd_add false pd_int (pd_call false c_law_take hr (by decide) hgd (pda_cons (pd_v 1) (pda_cons pd_int pda_nil)))) pda_nil)) (blkOk_by (own := [(".0", 6), ("_law_j", 7)]) (by kernel_rfl)) (fun _ _ _ _ _ => (pgd_name (i := 7) sc_law.nd)) (fun _ _ _ _ _ => pts_n) (fun _ _ _ _ _ => (pd_call false c_law_good hr (by decide) hgd (pda_cons (pd_v 1) pda_nil)))) pda_nil)))))
    (pss_c (psd_set (i := 5) sc_law.nd (pd_v 3))
    (pss_c (psd_if (pt_eq hr.units (pd_call false c_law_take hr (by decide) hgd (pda_cons (pd_v 1) (pda_cons pd_int pda_nil))) pd_int) (pss_1 (psd_set (i := 5) sc_law.nd (pd_callK c_law_bent hr (by decide) hgd (pda_cons (pd_v 1) (pda_cons (pd_v 3) pda_nil))))) pss_n)
    (pss_c (psd_if (pt_eq hr.units (pd_call false c_law_take hr (by decide) hgd (pda_cons (pd_v 1) (pda_cons pd_int pda_nil))) pd_int) (pss_1 (psd_set (i := 5) sc_law.nd (pd_call true c_law_odd hr (by decide) hgd (pda_cons (pd_v 1) pda_nil)))) pss_n)
    (pss_1 (psd_if (pt_nt (pt_v (pd_call false c_law_right hr (by decide) hgd (pda_cons (pd_v 1) (pda_cons (pd_v 5) pda_nil))))) (pss_1 (psd_ret pd_bl)) pss_n))))))))
    (pss_1 (psd_ret pd_bl))))
end
def oD : Option Int → D
  | none => .non
  | some i => .int i
abbrev spD (s : MA.Span) : D := .tup [.int s.1, oD s.2]
section
variable {S : Store} (wf : WF S)
include wf
end

theorem take_is : m_law_take = takeM := rfl
theorem bag_is : m_law_bag = bagM := rfl
theorem wfb (b : Bag) : WF [b.c] := by unfold WF; simp [Bag.c, Cell.below, SV.below]
theorem int_bl (S : Store) (r : Bool) : intG [.fr (.bl r)] S = .ok (.fr (.int (if r then 1 else 0)), S) := rfl
section
variable {S : Store} (wf : WF S)
include wf
end

section
variable {S : Store} (wf : WF S)
include wf
end

section
variable {S : Store} (wf : WF S)
include wf
omit wf in
theorem negone (S : Store) : negG (.fr (.int 1)) S = .ok (.fr (.int (-1)), S) := rfl
end

section
variable {S : Store} (wf : WF S)
include wf
end
structure Wk (F : List Int) (ss : List MB.St) : Prop where
  wf : MB.Wf 0 ss
  inn : ∀ b ∈ MB.ends ss, b ∈ F
structure Few (F : List Int) : Prop where
  z : (0 : Int) ∈ F
  le : F.length < 64
theorem Wk.len {F : List Int} {ss : List MB.St} (h : Wk F ss) : ss.length ≤ F.length := h.wf.len_le h.inn
section
variable {S : Store} (wf : WF S) {F : List Int} (hF : Few F)
include wf hF
end
section
variable {F : List Int} (hF : Few F) {a b : List MB.St} (ha : MB.Hd F a) (hb : MB.Hd F b)
include hF ha
include hb
end
section
variable {F : List Int} (hF : Few F) {a : List MB.St} (ha : MB.Hd F a) {l f : Int} {e : Option Int} (hl : 0 ≤ l ∧ l ≤ 2) (ho : MA.Ok (f, e)) (h1 : f ∈ F) (h2 : ∀ i, e = some i → i + 1 ∈ F)
include hF ha ho h1 h2
include hl
end
section
variable {S : Store} (wf : WF S) {F : List Int} (hF : Few F) {a b : List MB.St} (ha : MB.Hd F a) (hb : MB.Hd F b)
include wf hF ha
include hb
end

section
variable {S : Store} {a b : List MB.St}
end
section
variable {S : Store} (wf : WF S) {F : List Int} (hF : Few F) {a b : List MB.St} (ha : MB.Hd F a)
include wf
include hF ha
end

theorem app_at {S : Store} {k : Nat} {xs : List SV} {y : SV} (h : S[k]? = some (.lst xs)) (hl : xs.length < 16777216) : appendG (.cell k) [y] S = .ok (.fr .non, S.set k (.lst (xs ++ [y]))) := by
  unfold appendG DL.cellOf
  have hz := sizeLine_eq
  simp only [h, hz, if_pos hl]
  rfl
section
variable {c d c' d' e : Cell} {R : Store}
end
def Lv2 (ls : List Int) : Prop := ∀ l ∈ ls, 0 ≤ l ∧ l ≤ 2
theorem zip_fst : ∀ {cs ls : List Int}, ls.length = cs.length → (cs.zip ls).map Prod.fst = cs
  | [], _, _ => by simp
  | c :: cs, [], h => by simp at h
  | c :: cs, l :: ls, h => by simp only [List.zip_cons_cons, List.map_cons, zip_fst (cs := cs) (ls := ls) (by simpa using h)]
section
variable {S : Store} (wf : WF S)
include wf
end

abbrev cellH (cs ls : List Int) : List MB.St := MB.stGo none (cs.zip ls)
section
variable {S : Store} (wf : WF S)
include wf
end
structure Cel (cs ls : List Int) : Prop where
  fs : MB.Fs cs
  le : cs.length < 60
  len : ls.length = cs.length
  lv : Lv2 ls
theorem Cel.hd {cs ls : List Int} (h : Cel cs ls) : MB.Hd cs (cellH cs ls) ∧ ∀ x, MB.lev (cellH cs ls) x = MB.stp 0 (cs.zip ls) x := by
  have a : MB.Asc (cs.zip ls) := by unfold MB.Asc; rw [zip_fst h.len]; exact h.fs.asc
  obtain ⟨q1, q2⟩ := MB.st0_ok a (fun e he => h.lv e.2 (List.of_mem_zip he).2) (fun e he => h.fs.pos e.1 (List.of_mem_zip he).1)
  refine ⟨⟨q1, MB.Nf.ends_in q1 h.fs.zero (fun x _ => q2 x) ?_⟩, q2⟩
  have := MB.stp_cst (cs.zip ls) 0
  rwa [zip_fst h.len] at this
structure InC (cs : List Int) (i : Nat) (x : Int) : Prop where
  ex : ∃ pre c post, cs = pre ++ c :: post ∧ pre.length = i ∧ c ≤ x ∧ ∀ d ∈ post, x < d
theorem InC.lt {cs : List Int} {i : Nat} {x : Int} (h : InC cs i x) : i < cs.length := by
  obtain ⟨pre, c, post, rfl, rfl, _, _⟩ := h.ex
  rw [List.length_append, List.length_cons]
  omega
theorem stp_zip {c x : Int} {post : List Int} (hc : c ≤ x) (hp : ∀ d ∈ post, x < d) : ∀ (pre ls : List Int) (d : Int), (pre ++ c :: post).Pairwise (· < ·) → ls.length = (pre ++ c :: post).length → MB.stp d ((pre ++ c :: post).zip ls) x = ls.getD pre.length 0
  | [], [], d, _, h => by simp at h
  | [], l :: ls, d, ha, h => by
    show (if c ≤ x then MB.stp l (post.zip ls) x else d) = l
    rw [if_pos hc]
    exact MB.stp_low fun e he => hp e.1 (List.of_mem_zip he).1
  | p :: pre, [], d, _, h => by simp at h
  | p :: pre, l :: ls, d, ha, h => by
    obtain ⟨a1, a2⟩ := List.pairwise_cons.mp (show (p :: (pre ++ c :: post)).Pairwise (· < ·) from ha)
    have := a1 c (by simp)
    show (if p ≤ x then MB.stp l ((pre ++ c :: post).zip ls) x else d) = ls.getD pre.length 0
    rw [if_pos (by omega)]
    exact stp_zip hc hp pre ls l a2 (by simpa using h)
theorem cell_val {cs ls : List Int} (h : Cel cs ls) {i : Nat} {x : Int} (k : InC cs i x) : MB.lev (cellH cs ls) x = ls.getD i 0 := by
  rw [h.hd.2]
  obtain ⟨pre, c, post, e, rfl, h1, h2⟩ := k.ex
  have a := h.fs.asc
  have l := h.len
  rw [e] at a l ⊢
  exact stp_zip h1 h2 pre ls 0 a l
theorem cell_ex {cs : List Int} (h : MB.Fs cs) {x : Int} (hx : 0 ≤ x) : ∃ i, InC cs i x := by
  obtain ⟨⟨r, rfl⟩, ha⟩ := h
  suffices ∀ (r : List Int) (b : Int), (b :: r).Pairwise (· < ·) → b ≤ x → ∃ pre c post, b :: r = pre ++ c :: post ∧ c ≤ x ∧ ∀ d ∈ post, x < d by
    obtain ⟨pre, c, post, h1, h2, h3⟩ := this r 0 ha hx
    exact ⟨pre.length, pre, c, post, h1, rfl, h2, h3⟩
  intro r
  induction r with
  | nil => exact fun b _ h => ⟨[], b, [], rfl, h, fun d hd => by cases hd⟩
  | cons d r ih =>
    intro b hp h
    obtain ⟨p1, p2⟩ := List.pairwise_cons.mp hp
    by_cases q : d ≤ x
    · obtain ⟨pre, c, post, h1, h2, h3⟩ := ih d p2 q
      exact ⟨b :: pre, c, post, by rw [h1]; rfl, h2, h3⟩
    · refine ⟨[], b, d :: r, rfl, h, fun e he => ?_⟩
      rcases List.mem_cons.mp he with rfl | he
      · omega
      · have := (List.pairwise_cons.mp p2).1 e he
        omega
structure Rp (cs ls : List Int) (a : List MB.St) : Prop where
  hd : MB.Hd cs a
  lv : ∀ i x, InC cs i x → MB.lev a x = ls.getD i 0
theorem Rp.eq {cs ls : List Int} {a : List MB.St} (h : Cel cs ls) (k : Rp cs ls a) : a = cellH cs ls := k.hd.ext h.hd.1 fun x hx => by
  obtain ⟨i, hi⟩ := cell_ex h.fs hx
  rw [k.lv i x hi, cell_val h hi]
theorem Lv2.getD {ls : List Int} (h : Lv2 ls) (i : Nat) : 0 ≤ ls.getD i 0 ∧ ls.getD i 0 ≤ 2 := by
  rw [List.getD_eq_getElem?_getD]
  cases q : ls[i]? with
  | none => simp
  | some x => exact h x (List.mem_of_getElem? q)
section
variable {F : List Int} (hF : Few F) {a b : List MB.St} (ha : MB.Hd F a) (hb : MB.Hd F b)
include hF ha hb
end

section
variable {S : Store}
end
theorem bag0 (ns : List Int) (hns : ns.length ≤ 63) : ∃ b0 : Bag, b0.Ok ∧ bagM [.fr (.scr (ns.map D.int))] [] = .ok (.new b0.c, []) := by
  have hz := sizeLine_eq
  refine ⟨_, ?_, bag_run ns (by omega)⟩
  refine ⟨Int.le_refl _, (show (0 : Int) ≤ 1234567891 by decide), Int.le_refl _, fun n hn => ?_⟩
  obtain ⟨m, _, rfl⟩ := List.mem_map.mp hn
  unfold absI
  split <;> omega
theorem tells_of (h : ∀ ns : List Int, ns.length ≤ 63 → Ends (m_law [.fr (.scr (ns.map D.int))] []) fun r => r.1 = .val (.fr (.bl true))) : DL.Tells 63 m_law := by
  intro ns hns
  obtain ⟨⟨v, S'⟩, e, q⟩ := h ns hns
  cases q
  exact ⟨S', e⟩
theorem lognat {n : Nat} (h : n ≤ 1000) : ((n : Int)).natAbs.log2 < 9000 := by
  have h1 : ((n : Int)).natAbs < 2 ^ 10 := by
    rw [Int.natAbs_natCast]
    exact Nat.lt_of_le_of_lt h (by decide)
  exact Nat.lt_of_lt_of_le (log_lt h1 (by decide)) (by decide)

def tInt : D → Bool
  | .int _ => true
  | .bl _ => true
  | _ => false
def tBl : D → Bool
  | .bl _ => true
  | _ => false
def tStr : D → Bool
  | .str _ => true
  | _ => false
def tTup : D → Bool
  | .tup _ => true
  | _ => false
def tLst : D → Bool
  | .lst _ => true
  | .scr _ => true
  | _ => false
theorem isi_x {d : D} (h : isX d = true) (S : Store) : isiG [.fr d, .fr (.ty "int")] S = .ok (.fr (.bl (tInt d)), S) ∧ isiG [.fr d, .fr (.ty "bool")] S = .ok (.fr (.bl (tBl d)), S) ∧
    isiG [.fr d, .fr (.ty "str")] S = .ok (.fr (.bl (tStr d)), S) ∧ isiG [.fr d, .fr (.ty "tuple")] S = .ok (.fr (.bl (tTup d)), S) ∧ isiG [.fr d, .fr (.ty "list")] S = .ok (.fr (.bl (tLst d)), S) := by
  cases d <;> first | exact ⟨rfl, rfl, rfl, rfl, rfl⟩ | (exfalso; revert h; simp [isX]; done)
theorem isn_x {d : D} (h : d ≠ .non) (S : Store) : isG false (.fr d) (.fr .non) S = .ok (.fr (.bl false), S) := by
  cases d <;> first | rfl | exact absurd rfl h
def isI : D → Bool
  | .int _ => true
  | _ => false
def byteB : D → Bool
  | .int i => decide (0 ≤ i)
  | _ => false
def levB : D → Bool
  | .int i => decide (0 ≤ i) && decide (i ≤ 2)
  | _ => false
def endB : D → D → Bool
  | .int _, .non => true
  | .int a, .int b => decide (0 ≤ b) && decide (a ≤ b)
  | _, _ => false
def callB : D → Bool
  | .tup [l, f, z] => levB l && (byteB f && endB f z)
  | _ => false
theorem byteB_int {d : D} (h : byteB d = true) : ∃ i, d = .int i ∧ 0 ≤ i := by
  cases d with
  | int i => exact ⟨i, rfl, by simpa [byteB] using h⟩
  | _ => simp [byteB] at h
theorem endB_no {a : Int} {z : D} (h : z ≠ .non) (hb : byteB z = false) : endB (.int a) z = false := by
  cases z with
  | non => exact absurd rfl h
  | int b =>
    simp only [byteB, endB] at hb ⊢
    rw [hb, Bool.false_and]
  | _ => rfl
theorem endB_yes {a b : Int} (h : 0 ≤ b) : endB (.int a) (.int b) = decide (a ≤ b) := by
  simp only [endB]
  rw [decide_eq_true h, Bool.true_and]
section
variable {S : Store} (wf : WF S)
include wf
theorem integer_x {d : D} (h : isX d = true) : m_is_integer [.fr d] S = .ok (.val (.fr (.bl (isI d))), S) := by
  obtain ⟨e1, e2, _⟩ := isi_x h S
  cases d <;> first
    | (exfalso; revert h; simp [isX]; done)
    | (simp only [tInt, tBl, isI] at e1 e2 ⊢; simp only [RR, DL.isNon, List.replicate_succ, List.replicate_zero, List.set_cons_zero, List.set_cons_succ, List.getElem?_cons_zero, List.getElem?_cons_succ, Option.map_some, Nat.reduceSub, and_self, and_true, true_and, decide_true, decide_false, if_true, if_false, Bool.false_eq_true, Bool.not_true, Bool.not_false, Nat.reduceAdd, Nat.reduceMul, Nat.reduceLeDiff, m_is_integer, b_is_integer, e1, e2, leave_val wf])
theorem byte_x {d : D} (h : isX d = true) : m_is_byte [.fr d] S = .ok (.val (.fr (.bl (byteB d))), S) := by
  have e := integer_x wf h
  cases d <;> first
    | (exfalso; revert h; simp [isX]; done)
    | (simp only [isI, byteB] at e ⊢; simp only [RR, DL.isNon, List.replicate_succ, List.replicate_zero, List.set_cons_zero, List.set_cons_succ, List.getElem?_cons_zero, List.getElem?_cons_succ, Option.map_some, Nat.reduceSub, and_self, and_true, true_and, decide_true, decide_false, if_true, if_false, Bool.false_eq_true, Bool.not_true, Bool.not_false, Nat.reduceAdd, Nat.reduceMul, Nat.reduceLeDiff, m_is_byte, b_is_byte, e, leave_val wf])
theorem level_x {d : D} (h : isX d = true) : m_is_level [.fr d] S = .ok (.val (.fr (.bl (levB d))), S) := by
  have e := integer_x wf h
  cases d with
  | int i =>
    simp only [isI, levB] at e ⊢
    by_cases q : 0 ≤ i
    · rw [decide_eq_true q, Bool.true_and]
      simp only [RR, DL.isNon, List.replicate_succ, List.replicate_zero, List.set_cons_zero, List.set_cons_succ, List.getElem?_cons_zero, List.getElem?_cons_succ, Option.map_some, Nat.reduceSub, and_self, and_true, true_and, decide_true, decide_false, if_true, if_false, Bool.false_eq_true, Bool.not_true, Bool.not_false, Nat.reduceAdd, Nat.reduceMul, Nat.reduceLeDiff, m_is_level, b_is_level, m_is_between, b_is_between, e, decide_eq_true q, leave_val wf]
    · rw [decide_eq_false q, Bool.false_and]
      simp only [RR, DL.isNon, List.replicate_succ, List.replicate_zero, List.set_cons_zero, List.set_cons_succ, List.getElem?_cons_zero, List.getElem?_cons_succ, Option.map_some, Nat.reduceSub, and_self, and_true, true_and, decide_true, decide_false, if_true, if_false, Bool.false_eq_true, Bool.not_true, Bool.not_false, Nat.reduceAdd, Nat.reduceMul, Nat.reduceLeDiff, m_is_level, b_is_level, m_is_between, b_is_between, e, decide_eq_false q, leave_val wf]
  | _ => first
    | (exfalso; revert h; simp [isX]; done)
    | (simp only [isI, levB] at e ⊢; simp only [RR, DL.isNon, List.replicate_succ, List.replicate_zero, List.set_cons_zero, List.set_cons_succ, List.getElem?_cons_zero, List.getElem?_cons_succ, Option.map_some, Nat.reduceSub, and_self, and_true, true_and, decide_true, decide_false, if_true, if_false, Bool.false_eq_true, Bool.not_true, Bool.not_false, Nat.reduceAdd, Nat.reduceMul, Nat.reduceLeDiff, m_is_level, b_is_level, m_is_between, b_is_between, e, leave_val wf])
theorem fault_x {f z : D} (hf : isX f = true) (hz : isX z = true) : m_span_fault [.fr f, .fr z] S = .ok (.val (.fr (if byteB f = true then (if endB f z = true then .non else .int 1) else .int 0)), S) := by
  have e1 := byte_x wf hf
  have e2 := byte_x wf hz
  cases hb : byteB f with
  | false =>
    rw [hb] at e1
    rw [if_neg (by decide)]
    simp only [RR, DL.isNon, List.replicate_succ, List.replicate_zero, List.set_cons_zero, List.set_cons_succ, List.getElem?_cons_zero, List.getElem?_cons_succ, Option.map_some, Nat.reduceSub, and_self, and_true, true_and, decide_true, decide_false, if_true, if_false, Bool.false_eq_true, Bool.not_true, Bool.not_false, Nat.reduceAdd, Nat.reduceMul, Nat.reduceLeDiff, m_span_fault, b_span_fault, e1, leave_val wf]
  | true =>
    rw [hb] at e1
    rw [if_pos rfl]
    cases f with
    | int a =>
      by_cases hn : z = .non
      · subst hn
        rw [if_pos (show endB (.int a) .non = true from rfl)]
        simp only [RR, DL.isNon, List.replicate_succ, List.replicate_zero, List.set_cons_zero, List.set_cons_succ, List.getElem?_cons_zero, List.getElem?_cons_succ, Option.map_some, Nat.reduceSub, and_self, and_true, true_and, decide_true, decide_false, if_true, if_false, Bool.false_eq_true, Bool.not_true, Bool.not_false, Nat.reduceAdd, Nat.reduceMul, Nat.reduceLeDiff, m_span_fault, b_span_fault, e1, leave_val wf]
      · have isn := isn_x hn S
        cases h2 : byteB z with
        | false =>
          rw [h2] at e2
          rw [endB_no hn h2, if_neg (by decide)]
          simp only [RR, DL.isNon, List.replicate_succ, List.replicate_zero, List.set_cons_zero, List.set_cons_succ, List.getElem?_cons_zero, List.getElem?_cons_succ, Option.map_some, Nat.reduceSub, and_self, and_true, true_and, decide_true, decide_false, if_true, if_false, Bool.false_eq_true, Bool.not_true, Bool.not_false, Nat.reduceAdd, Nat.reduceMul, Nat.reduceLeDiff, m_span_fault, b_span_fault, e1, e2, isn, leave_val wf]
        | true =>
          obtain ⟨b, rfl, q⟩ := byteB_int h2
          rw [h2] at e2
          rw [endB_yes q]
          by_cases r : a ≤ b
          · rw [decide_eq_true r, if_pos rfl]
            simp only [RR, DL.isNon, List.replicate_succ, List.replicate_zero, List.set_cons_zero, List.set_cons_succ, List.getElem?_cons_zero, List.getElem?_cons_succ, Option.map_some, Nat.reduceSub, and_self, and_true, true_and, decide_true, decide_false, if_true, if_false, Bool.false_eq_true, Bool.not_true, Bool.not_false, Nat.reduceAdd, Nat.reduceMul, Nat.reduceLeDiff, m_span_fault, b_span_fault, e1, e2, isn, decide_eq_true r, leave_val wf]
          · rw [decide_eq_false r, if_neg (by decide)]
            simp only [RR, DL.isNon, List.replicate_succ, List.replicate_zero, List.set_cons_zero, List.set_cons_succ, List.getElem?_cons_zero, List.getElem?_cons_succ, Option.map_some, Nat.reduceSub, and_self, and_true, true_and, decide_true, decide_false, if_true, if_false, Bool.false_eq_true, Bool.not_true, Bool.not_false, Nat.reduceAdd, Nat.reduceMul, Nat.reduceLeDiff, m_span_fault, b_span_fault, e1, e2, isn, decide_eq_false r, leave_val wf]
    | _ => simp [byteB] at hb
theorem span_x {f z : D} (hf : isX f = true) (hz : isX z = true) : m_is_span [.fr (.tup [f, z])] S = .ok (.val (.fr (.bl (byteB f && endB f z))), S) := by
  have e1 := fault_x wf hf hz
  have e2 : isiG [.fr (.tup [f, z]), .fr (.ty "tuple")] S = .ok (.fr (.bl true), S) := rfl
  have e3 : lenG [.fr (.tup [f, z])] S = .ok (.fr (.int 2), S) := rfl
  have is0 : isG false (.fr (.int 0)) (.fr .non) S = .ok (.fr (.bl false), S) := rfl
  have is1 : isG false (.fr (.int 1)) (.fr .non) S = .ok (.fr (.bl false), S) := rfl
  cases hb : byteB f with
  | false =>
    rw [hb, if_neg (by decide)] at e1
    simp only [RR, DL.isNon, List.replicate_succ, List.replicate_zero, List.set_cons_zero, List.set_cons_succ, List.getElem?_cons_zero, List.getElem?_cons_succ, Option.map_some, Nat.reduceSub, and_self, and_true, true_and, decide_true, decide_false, if_true, if_false, Bool.false_eq_true, Bool.not_true, Bool.not_false, Nat.reduceAdd, Nat.reduceMul, Nat.reduceLeDiff, m_is_span, b_is_span, e1, e2, e3, is0, Bool.false_and, leave_val wf]
  | true =>
    rw [hb, if_pos rfl] at e1
    cases he : endB f z with
    | false =>
      rw [he, if_neg (by decide)] at e1
      simp only [RR, DL.isNon, List.replicate_succ, List.replicate_zero, List.set_cons_zero, List.set_cons_succ, List.getElem?_cons_zero, List.getElem?_cons_succ, Option.map_some, Nat.reduceSub, and_self, and_true, true_and, decide_true, decide_false, if_true, if_false, Bool.false_eq_true, Bool.not_true, Bool.not_false, Nat.reduceAdd, Nat.reduceMul, Nat.reduceLeDiff, m_is_span, b_is_span, e1, e2, e3, is1, Bool.true_and, leave_val wf]
    | true =>
      rw [he, if_pos rfl] at e1
      simp only [RR, DL.isNon, List.replicate_succ, List.replicate_zero, List.set_cons_zero, List.set_cons_succ, List.getElem?_cons_zero, List.getElem?_cons_succ, Option.map_some, Nat.reduceSub, and_self, and_true, true_and, decide_true, decide_false, if_true, if_false, Bool.false_eq_true, Bool.not_true, Bool.not_false, Nat.reduceAdd, Nat.reduceMul, Nat.reduceLeDiff, m_is_span, b_is_span, e1, e2, e3, Bool.true_and, leave_val wf]
end
section
variable {S : Store} (wf : WF S)
include wf
theorem num_x {d : D} (h : isX d = true) : m_law_is_number [.fr d] S = .ok (.val (.fr (.bl (byteB d))), S) := by
  obtain ⟨e1, e2, _⟩ := isi_x h S
  cases d <;> first
    | (exfalso; revert h; simp [isX]; done)
    | (simp only [tInt, tBl, byteB] at e1 e2 ⊢; simp only [RR, DL.isNon, List.replicate_succ, List.replicate_zero, List.set_cons_zero, List.set_cons_succ, List.getElem?_cons_zero, List.getElem?_cons_succ, Option.map_some, Nat.reduceSub, and_self, and_true, true_and, decide_true, decide_false, if_true, if_false, Bool.false_eq_true, Bool.not_true, Bool.not_false, Nat.reduceAdd, Nat.reduceMul, Nat.reduceLeDiff, m_law_is_number, b_law_is_number, e1, e2, leave_val wf])
theorem plain3_x {l f z : D} (hl : isX l = true) (hf : isX f = true) (hz : isX z = true) : m_is_plain_call [.fr (.tup [l, f, z])] S = .ok (.val (.fr (.bl (callB (.tup [l, f, z])))), S) := by
  have e2 : isiG [.fr (.tup [l, f, z]), .fr (.ty "tuple")] S = .ok (.fr (.bl true), S) := rfl
  have e3 : lenG [.fr (.tup [l, f, z])] S = .ok (.fr (.int 3), S) := rfl
  have e4 := level_x wf hl
  have e5 := span_x wf hf hz
  have ct : cutA [l, f, z] (some 1) none = [f, z] := rfl
  simp only [callB]
  cases hb2 : levB l with
  | false =>
    rw [hb2] at e4
    simp only [RR, DL.isNon, List.replicate_succ, List.replicate_zero, List.set_cons_zero, List.set_cons_succ, List.getElem?_cons_zero, List.getElem?_cons_succ, Option.map_some, Nat.reduceSub, and_self, and_true, true_and, decide_true, decide_false, if_true, if_false, Bool.false_eq_true, Bool.not_true, Bool.not_false, Nat.reduceAdd, Nat.reduceMul, Nat.reduceLeDiff, m_is_plain_call, b_is_plain_call, e2, e3, e4, Bool.false_and, leave_val wf]
  | true =>
    rw [hb2] at e4
    simp only [RR, DL.isNon, List.replicate_succ, List.replicate_zero, List.set_cons_zero, List.set_cons_succ, List.getElem?_cons_zero, List.getElem?_cons_succ, Option.map_some, Nat.reduceSub, and_self, and_true, true_and, decide_true, decide_false, if_true, if_false, Bool.false_eq_true, Bool.not_true, Bool.not_false, Nat.reduceAdd, Nat.reduceMul, Nat.reduceLeDiff, m_is_plain_call, b_is_plain_call, e2, e3, e4, ct, e5, Bool.true_and, leave_val wf]
theorem lcall3_x {l f z : D} (hl : isX l = true) (hf : isX f = true) (hz : isX z = true) : m_law_is_call [.fr (.tup [l, f, z])] S = .ok (.val (.fr (.bl (callB (.tup [l, f, z])))), S) := by
  have e2 : isiG [.fr (.tup [l, f, z]), .fr (.ty "tuple")] S = .ok (.fr (.bl true), S) := rfl
  have e3 : lenG [.fr (.tup [l, f, z])] S = .ok (.fr (.int 3), S) := rfl
  have e4 := num_x wf hl
  have e5 := num_x wf hf
  have e6 := num_x wf hz
  simp only [callB]
  cases l with
  | int j =>
    rw [show byteB (.int j) = decide (0 ≤ j) from rfl] at e4
    rw [show levB (.int j) = (decide (0 ≤ j) && decide (j ≤ 2)) from rfl]
    by_cases q : 0 ≤ j
    · rw [decide_eq_true q] at e4 ⊢
      by_cases r : j ≤ 2
      · have r' : ¬ j > 2 := by omega
        rw [decide_eq_true r]
        cases hf2 : byteB f with
        | false =>
          rw [hf2] at e5
          simp only [RR, DL.isNon, List.replicate_succ, List.replicate_zero, List.set_cons_zero, List.set_cons_succ, List.getElem?_cons_zero, List.getElem?_cons_succ, Option.map_some, Nat.reduceSub, and_self, and_true, true_and, decide_true, decide_false, if_true, if_false, Bool.false_eq_true, Bool.not_true, Bool.not_false, Nat.reduceAdd, Nat.reduceMul, Nat.reduceLeDiff, m_law_is_call, b_law_is_call, e2, e3, e4, decide_eq_false r', e5, Bool.true_and, Bool.and_true, Bool.and_false, Bool.false_and, leave_val wf]
        | true =>
          rw [hf2] at e5
          cases f with
          | int a =>
            by_cases hn : z = .non
            · subst hn
              have : endB (.int a) .non = true := rfl
              rw [this]
              simp only [RR, DL.isNon, List.replicate_succ, List.replicate_zero, List.set_cons_zero, List.set_cons_succ, List.getElem?_cons_zero, List.getElem?_cons_succ, Option.map_some, Nat.reduceSub, and_self, and_true, true_and, decide_true, decide_false, if_true, if_false, Bool.false_eq_true, Bool.not_true, Bool.not_false, Nat.reduceAdd, Nat.reduceMul, Nat.reduceLeDiff, m_law_is_call, b_law_is_call, e2, e3, e4, decide_eq_false r', e5, Bool.true_and, Bool.and_true, Bool.and_false, Bool.false_and, at_2, at_3, leave_val wf]
            · have isn := isn_x hn S
              cases h2 : byteB z with
              | false =>
                rw [h2] at e6
                rw [endB_no hn h2]
                simp only [RR, DL.isNon, List.replicate_succ, List.replicate_zero, List.set_cons_zero, List.set_cons_succ, List.getElem?_cons_zero, List.getElem?_cons_succ, Option.map_some, Nat.reduceSub, and_self, and_true, true_and, decide_true, decide_false, if_true, if_false, Bool.false_eq_true, Bool.not_true, Bool.not_false, Nat.reduceAdd, Nat.reduceMul, Nat.reduceLeDiff, m_law_is_call, b_law_is_call, e2, e3, e4, decide_eq_false r', e5, e6, isn, Bool.true_and, Bool.and_true, Bool.and_false, Bool.false_and, at_2, at_3, leave_val wf]
              | true =>
                obtain ⟨b, rfl, q2⟩ := byteB_int h2
                rw [h2] at e6
                rw [endB_yes q2]
                simp only [RR, DL.isNon, List.replicate_succ, List.replicate_zero, List.set_cons_zero, List.set_cons_succ, List.getElem?_cons_zero, List.getElem?_cons_succ, Option.map_some, Nat.reduceSub, and_self, and_true, true_and, decide_true, decide_false, if_true, if_false, Bool.false_eq_true, Bool.not_true, Bool.not_false, Nat.reduceAdd, Nat.reduceMul, Nat.reduceLeDiff, m_law_is_call, b_law_is_call, e2, e3, e4, decide_eq_false r', e5, e6, isn, Bool.true_and, Bool.and_true, Bool.and_false, Bool.false_and, at_2, at_3, leave_val wf]
          | _ => simp [byteB] at hf2
      · have r' : j > 2 := by omega
        rw [decide_eq_false r]
        simp only [RR, DL.isNon, List.replicate_succ, List.replicate_zero, List.set_cons_zero, List.set_cons_succ, List.getElem?_cons_zero, List.getElem?_cons_succ, Option.map_some, Nat.reduceSub, and_self, and_true, true_and, decide_true, decide_false, if_true, if_false, Bool.false_eq_true, Bool.not_true, Bool.not_false, Nat.reduceAdd, Nat.reduceMul, Nat.reduceLeDiff, m_law_is_call, b_law_is_call, e2, e3, e4, decide_eq_true r', Bool.true_and, Bool.and_true, Bool.and_false, Bool.false_and, leave_val wf]
    · rw [decide_eq_false q] at e4 ⊢
      simp only [RR, DL.isNon, List.replicate_succ, List.replicate_zero, List.set_cons_zero, List.set_cons_succ, List.getElem?_cons_zero, List.getElem?_cons_succ, Option.map_some, Nat.reduceSub, and_self, and_true, true_and, decide_true, decide_false, if_true, if_false, Bool.false_eq_true, Bool.not_true, Bool.not_false, Nat.reduceAdd, Nat.reduceMul, Nat.reduceLeDiff, m_law_is_call, b_law_is_call, e2, e3, e4, Bool.true_and, Bool.and_true, Bool.and_false, Bool.false_and, leave_val wf]
  | _ => first
    | (exfalso; revert hl; simp [isX]; done)
    | (simp only [byteB, levB] at e4 ⊢; simp only [RR, DL.isNon, List.replicate_succ, List.replicate_zero, List.set_cons_zero, List.set_cons_succ, List.getElem?_cons_zero, List.getElem?_cons_succ, Option.map_some, Nat.reduceSub, and_self, and_true, true_and, decide_true, decide_false, if_true, if_false, Bool.false_eq_true, Bool.not_true, Bool.not_false, Nat.reduceAdd, Nat.reduceMul, Nat.reduceLeDiff, m_law_is_call, b_law_is_call, e2, e3, e4, Bool.true_and, Bool.and_true, Bool.and_false, Bool.false_and, leave_val wf])
theorem both_x {d : D} (h : isX d = true) : m_is_plain_call [.fr d] S = .ok (.val (.fr (.bl (callB d))), S) ∧ m_law_is_call [.fr d] S = .ok (.val (.fr (.bl (callB d))), S) := by
  obtain ⟨_, _, _, e1, _⟩ := isi_x h S
  have lv := leave_val wf (d := .bl false)
  have no : tTup d = false → callB d = false → m_is_plain_call [.fr d] S = .ok (.val (.fr (.bl (callB d))), S) ∧ m_law_is_call [.fr d] S = .ok (.val (.fr (.bl (callB d))), S) := fun h1 h2 => by
    rw [h1] at e1
    rw [h2]
    constructor
    · simp only [RR, DL.isNon, List.replicate_succ, List.replicate_zero, List.set_cons_zero, List.set_cons_succ, List.getElem?_cons_zero, List.getElem?_cons_succ, Option.map_some, Nat.reduceSub, and_self, and_true, true_and, decide_true, decide_false, if_true, if_false, Bool.false_eq_true, Bool.not_true, Bool.not_false, Nat.reduceAdd, Nat.reduceMul, Nat.reduceLeDiff, m_is_plain_call, b_is_plain_call, e1, lv]
    · simp only [RR, DL.isNon, List.replicate_succ, List.replicate_zero, List.set_cons_zero, List.set_cons_succ, List.getElem?_cons_zero, List.getElem?_cons_succ, Option.map_some, Nat.reduceSub, and_self, and_true, true_and, decide_true, decide_false, if_true, if_false, Bool.false_eq_true, Bool.not_true, Bool.not_false, Nat.reduceAdd, Nat.reduceMul, Nat.reduceLeDiff, m_law_is_call, b_law_is_call, e1, lv]
  cases d with
  | tup ds =>
    have sh : ∀ ds : List D, ds.length ≠ 3 → callB (.tup ds) = false := fun ds hn => by
      match ds, hn with
      | [], _ => rfl
      | [_], _ => rfl
      | [_, _], _ => rfl
      | [_, _, _], hn => exact absurd rfl hn
      | _ :: _ :: _ :: _ :: _, _ => rfl
    by_cases q : ds.length = 3
    · match ds, q with
      | [l, f, z], _ =>
        simp only [isX, isXs, Bool.and_eq_true] at h
        exact ⟨plain3_x wf h.1 h.2.1 h.2.2.1, lcall3_x wf h.1 h.2.1 h.2.2.1⟩
    · rw [sh ds q]
      have e2 : lenG [.fr (.tup ds)] S = .ok (.fr (.int ds.length), S) := rfl
      have e4 : decide (((ds.length : Int)) = 3) = false := decide_eq_false (by omega)
      simp only [tTup] at e1
      constructor
      · simp only [RR, DL.isNon, List.replicate_succ, List.replicate_zero, List.set_cons_zero, List.set_cons_succ, List.getElem?_cons_zero, List.getElem?_cons_succ, Option.map_some, Nat.reduceSub, and_self, and_true, true_and, decide_true, decide_false, if_true, if_false, Bool.false_eq_true, Bool.not_true, Bool.not_false, Nat.reduceAdd, Nat.reduceMul, Nat.reduceLeDiff, m_is_plain_call, b_is_plain_call, e1, e2, e4, lv]
      · simp only [RR, DL.isNon, List.replicate_succ, List.replicate_zero, List.set_cons_zero, List.set_cons_succ, List.getElem?_cons_zero, List.getElem?_cons_succ, Option.map_some, Nat.reduceSub, and_self, and_true, true_and, decide_true, decide_false, if_true, if_false, Bool.false_eq_true, Bool.not_true, Bool.not_false, Nat.reduceAdd, Nat.reduceMul, Nat.reduceLeDiff, m_law_is_call, b_law_is_call, e1, e2, e4, lv]
  | _ => exact no rfl rfl
end

theorem allFr_inv : ∀ {xs : List SV} {ds : List D}, allFr xs = some ds → xs = ds.map SV.fr := fun h => allFr_eq h
structure It (S : Store) (y : SV) (d : D) : Prop where
  sn : snap0 S y = some d
  x : isX d = true
  ns : ∀ r, d ≠ .scr r
  len : ∀ ds, d = .lst ds → ds.length ≤ 1000
theorem It.cases {S : Store} {y : SV} {d : D} (h : It S y d) : y = .fr d ∨ ∃ j ds, y = .cell j ∧ S[j]? = some (.lst (ds.map SV.fr)) ∧ d = .lst ds := by
  cases y with
  | fr d' =>
    have := h.sn
    simp only [snap0, Option.some.injEq] at this
    exact .inl (by rw [this])
  | cell j =>
    have := h.sn
    unfold snap0 at this
    dsimp only at this
    split at this
    · rename_i xs hk
      obtain ⟨ds, h1, h2⟩ := Option.map_eq_some_iff.mp this
      exact .inr ⟨j, ds, rfl, by rw [hk, allFr_inv h1], h2.symm⟩
    · cases this
theorem It.ext {S T : Store} {y : SV} {d : D} (h : It S y d) : It (S ++ T) y d := by
  rcases h.cases with rfl | ⟨j, ds, rfl, h1, rfl⟩
  · exact ⟨rfl, h.x, h.ns, h.len⟩
  · refine ⟨?_, h.x, h.ns, h.len⟩
    rw [← h.sn]
    unfold snap0
    dsimp only
    rw [List.getElem?_append_left (List.getElem?_eq_some_iff.mp h1).1]
theorem isXs_mem : ∀ {ds : List D}, isXs ds = true → ∀ d ∈ ds, isX d = true
  | d :: ds, h, x, hx => by
    simp only [isXs, Bool.and_eq_true] at h
    exact (List.mem_cons.mp hx).elim (fun e => e ▸ h.1) (isXs_mem h.2 x)
def progB : D → Bool
  | .lst ds => decide (0 < ds.length) && ds.all callB
  | _ => false
theorem lc_genL {α : Type} {S : Store} {lk : Store → Prop} {gm : GM} {t : TM} {e : EM} {rho : Slots} {own : List Nat} (hlk : ∀ ds : List D, lk (S ++ [.lst (ds.map SV.fr)])) (enc : α → SV) (out : α → D) : ∀ (l : List α) (ds : List D), ds.length + l.length ≤ 1000000 →
    (∀ a ∈ l, ∀ ds : List D, lcT gm t e (enc a) (wipeR rho own) (S ++ [.lst (ds.map SV.fr)]) = .ok (some (.fr (out a)), S ++ [.lst (ds.map SV.fr)])) →
    lcM lk gm t e own rho (l.map enc) S (ds.map SV.fr) = .ok ((ds ++ l.map out).map SV.fr, S)
  | [], ds, _, _ => by rw [List.map_nil, lc_nil (hlk _)]; simp
  | a :: l, ds, hz, h => by
    simp only [List.map_cons, List.length_cons] at hz ⊢
    have hs := sizeLine_eq
    have st : lcM lk gm t e own rho (enc a :: l.map enc) S (ds.map SV.fr) = lcM lk gm t e own rho (l.map enc) S ((ds ++ [out a]).map SV.fr) := by
      rw [List.map_append, List.map_cons, List.map_nil]
      exact lc_some (hlk _) (by rw [List.length_map]; omega) rfl (h a List.mem_cons_self ds)
    rw [st, lc_genL hlk enc out l (ds ++ [out a]) (by simp; omega) fun b hb => h b (List.mem_cons_of_mem _ hb)]
    simp
theorem len_c {S : Store} {k : Nat} {xs : List SV} (h : S[k]? = some (.lst xs)) : lenG [.cell k] S = .ok (.fr (.int xs.length), S) := by
  unfold lenG lenS
  simp only [rdS, rdL, h, okV]
theorem len_fr (ds : List D) (S : Store) : lenG [.fr (.lst ds)] S = .ok (.fr (.int ds.length), S) := by
  have : lenG [.fr (.lst ds)] S = .ok (.fr (.int ((ds.map SV.fr).length : Nat)), S) := rfl
  rw [this, List.length_map]
section
variable {S : Store} (wf : WF S)
include wf
theorem call_comp {ds : List D} (hx : ∀ d ∈ ds, isX d = true) (hl : ds.length ≤ 1000) {lk : Store → Prop} (hlk : ∀ ds : List D, lk (S ++ [.lst (ds.map SV.fr)])) {x0 : Option SV} :
    lcM lk (gNm 2) tTr (eCall m_is_plain_call false (aC (eV 2) aN)) [1, 2] [x0, none, none] (ds.map SV.fr) S [] = .ok ((ds.map fun d => D.bl (callB d)).map SV.fr, S) := by
  have := lc_genL (S := S) (lk := lk) (gm := gNm 2) (t := tTr) (e := eCall m_is_plain_call false (aC (eV 2) aN)) (own := [1, 2]) (rho := [x0, none, none]) hlk SV.fr (fun d => D.bl (callB d)) ds [] (by rw [List.length_nil]; omega) fun d hd as => by
    have e := (both_x (wf_acc wf as) (hx d hd)).1
    simp only [RR, DL.isNon, List.replicate_succ, List.replicate_zero, List.set_cons_zero, List.set_cons_succ, List.getElem?_cons_zero, List.getElem?_cons_succ, Option.map_some, Nat.reduceSub, and_self, and_true, true_and, decide_true, decide_false, if_true, if_false, Bool.false_eq_true, Bool.not_true, Bool.not_false, Nat.reduceAdd, Nat.reduceMul, Nat.reduceLeDiff, e]
  exact this
theorem lcall_comp {ds : List D} (hx : ∀ d ∈ ds, isX d = true) (hl : ds.length ≤ 1000) {lk : Store → Prop} (hlk : ∀ ds : List D, lk (S ++ [.lst (ds.map SV.fr)])) {x0 x1 : Option SV} :
    lcM lk (gNm 3) tTr (eCall m_law_is_call false (aC (eV 3) aN)) [2, 3] [x0, x1, none, none] (ds.map SV.fr) S [] = .ok ((ds.map fun d => D.bl (callB d)).map SV.fr, S) := by
  have := lc_genL (S := S) (lk := lk) (gm := gNm 3) (t := tTr) (e := eCall m_law_is_call false (aC (eV 3) aN)) (own := [2, 3]) (rho := [x0, x1, none, none]) hlk SV.fr (fun d => D.bl (callB d)) ds [] (by rw [List.length_nil]; omega) fun d hd as => by
    have e := (both_x (wf_acc wf as) (hx d hd)).2
    simp only [RR, DL.isNon, List.replicate_succ, List.replicate_zero, List.set_cons_zero, List.set_cons_succ, List.getElem?_cons_zero, List.getElem?_cons_succ, Option.map_some, Nat.reduceSub, and_self, and_true, true_and, decide_true, decide_false, if_true, if_false, Bool.false_eq_true, Bool.not_true, Bool.not_false, Nat.reduceAdd, Nat.reduceMul, Nat.reduceLeDiff, e]
  exact this
theorem all_calls (ds : List D) : allG [.fr (.lst (ds.map fun d => D.bl (callB d)))] S = .ok (.fr (.bl (ds.all callB)), S) := by
  have := all_bls (S := S) (ds.map callB)
  rw [List.map_map] at this
  rw [show (ds.map fun d => D.bl (callB d)) = ds.map (D.bl ∘ callB) from rfl, this, List.all_map]
  rfl
theorem prog_run {y : SV} {d : D} (h : It S y d) : m_is_program [y] S = .ok (.val (.fr (.bl (progB d))), S) := by
  have lv := fun b => leave_val wf (d := .bl b)
  rcases h.cases with rfl | ⟨j, ds, rfl, hj, rfl⟩
  · obtain ⟨_, _, _, _, e1⟩ := isi_x h.x S
    cases d with
    | lst ds =>
      simp only [tLst] at e1
      have hx : isXs ds = true := by have := h.x; simpa only [isX] using this
      have hl := h.len ds rfl
      have cc := call_comp wf (isXs_mem hx) hl (lk := fun _ => True) (fun _ => trivial) (x0 := some (.fr (.lst ds)))
      have al := all_calls wf ds
      have e2 := len_fr ds S
      simp only [progB]
      by_cases q : 0 < ds.length
      · have q' : decide ((ds.length : Int) > 0) = true := decide_eq_true (by omega)
        rw [decide_eq_true q]
        simp only [RR, DL.isNon, List.replicate_succ, List.replicate_zero, List.set_cons_zero, List.set_cons_succ, List.getElem?_cons_zero, List.getElem?_cons_succ, Option.map_some, Nat.reduceSub, and_self, and_true, true_and, decide_true, decide_false, if_true, if_false, Bool.false_eq_true, Bool.not_true, Bool.not_false, Nat.reduceAdd, Nat.reduceMul, Nat.reduceLeDiff, m_is_program, b_is_program, e1, e2, q', cc, s_lceF wf, al, Bool.true_and, lv]
      · have q' : decide ((ds.length : Int) > 0) = false := decide_eq_false (by omega)
        rw [decide_eq_false q]
        simp only [RR, DL.isNon, List.replicate_succ, List.replicate_zero, List.set_cons_zero, List.set_cons_succ, List.getElem?_cons_zero, List.getElem?_cons_succ, Option.map_some, Nat.reduceSub, and_self, and_true, true_and, decide_true, decide_false, if_true, if_false, Bool.false_eq_true, Bool.not_true, Bool.not_false, Nat.reduceAdd, Nat.reduceMul, Nat.reduceLeDiff, m_is_program, b_is_program, e1, e2, q', Bool.false_and, lv]
    | scr r => exact absurd rfl (h.ns r)
    | _ => simp only [tLst] at e1; simp only [progB]; simp only [RR, DL.isNon, List.replicate_succ, List.replicate_zero, List.set_cons_zero, List.set_cons_succ, List.getElem?_cons_zero, List.getElem?_cons_succ, Option.map_some, Nat.reduceSub, and_self, and_true, true_and, decide_true, decide_false, if_true, if_false, Bool.false_eq_true, Bool.not_true, Bool.not_false, Nat.reduceAdd, Nat.reduceMul, Nat.reduceLeDiff, m_is_program, b_is_program, e1, lv]
  · have hx : isXs ds = true := by have := h.x; simpa only [isX] using this
    have hl := h.len ds rfl
    have cc := call_comp wf (isXs_mem hx) hl (lk := fun S' => S'[j]? = some (.lst (ds.map SV.fr))) (fun as => by rw [List.getElem?_append_left (List.getElem?_eq_some_iff.mp hj).1]; exact hj) (x0 := some (.cell j))
    have al := all_calls wf ds
    have e1 : isiG [.cell j, .fr (.ty "list")] S = .ok (.fr (.bl true), S) := by
      unfold isiG tyN
      simp only [hj]
      rfl
    have e2 := len_c hj
    rw [List.length_map] at e2
    have sq := s_sqC hj
    simp only [progB]
    by_cases q : 0 < ds.length
    · have q' : decide ((ds.length : Int) > 0) = true := decide_eq_true (by omega)
      rw [decide_eq_true q]
      simp only [RR, DL.isNon, List.replicate_succ, List.replicate_zero, List.set_cons_zero, List.set_cons_succ, List.getElem?_cons_zero, List.getElem?_cons_succ, Option.map_some, Nat.reduceSub, and_self, and_true, true_and, decide_true, decide_false, if_true, if_false, Bool.false_eq_true, Bool.not_true, Bool.not_false, Nat.reduceAdd, Nat.reduceMul, Nat.reduceLeDiff, m_is_program, b_is_program, e1, e2, q', sq, cc, s_lceF wf, al, Bool.true_and, lv]
    · have q' : decide ((ds.length : Int) > 0) = false := decide_eq_false (by omega)
      rw [decide_eq_false q]
      simp only [RR, DL.isNon, List.replicate_succ, List.replicate_zero, List.set_cons_zero, List.set_cons_succ, List.getElem?_cons_zero, List.getElem?_cons_succ, Option.map_some, Nat.reduceSub, and_self, and_true, true_and, decide_true, decide_false, if_true, if_false, Bool.false_eq_true, Bool.not_true, Bool.not_false, Nat.reduceAdd, Nat.reduceMul, Nat.reduceLeDiff, m_is_program, b_is_program, e1, e2, q', Bool.false_and, lv]
end
def lenD : D → Nat
  | .lst ds => ds.length
  | _ => 0
def ksB : D → Bool
  | .lst ps => (decide (1 ≤ ps.length) && decide (ps.length ≤ 4)) && (ps.all progB && decide ((ps.map lenD).sum ≤ 6))
  | _ => false

structure Ls (S : Store) (x : SV) (ys : List SV) : Prop where
  isl : isiAG [x, .fr (.ty "list")] S = .ok (.fr (.bl true), S)
  ln : lenG [x] S = .ok (.fr (.int ys.length), S)
  sq : ∃ lk : Store → Prop, k_sq (x, S) = .ok (⟨ys, lk⟩, S) ∧ ∀ T, lk (S ++ T)
theorem ls_cell {S : Store} {k : Nat} {ys : List SV} (h : S[k]? = some (.lst ys)) : Ls S (.cell k) ys where
  isl := by
    unfold isiAG
    simp only [h]
    unfold isiG tyN
    simp only [h]
    rfl
  ln := len_c h
  sq := ⟨_, s_sqC h, fun T => by rw [List.getElem?_append_left (List.getElem?_eq_some_iff.mp h).1]; exact h⟩
theorem ls_fr (S : Store) (ds : List D) : Ls S (.fr (.lst ds)) (ds.map SV.fr) where
  isl := rfl
  ln := by rw [List.length_map]; exact len_fr ds S
  sq := ⟨_, s_sqL ds, fun _ => trivial⟩
theorem it_len {S : Store} {y : SV} {d : D} (h : It S y d) (hp : progB d = true) : lenG [y] S = .ok (.fr (.int (lenD d)), S) := by
  rcases h.cases with rfl | ⟨j, ds, rfl, hj, rfl⟩
  · cases d with
    | lst ds => exact len_fr ds S
    | _ => simp [progB] at hp
  · have := len_c hj
    rw [List.length_map] at this
    exact this
section
variable {S : Store} (wf : WF S)
include wf
theorem are_run {x : SV} {l : List (SV × D)} (L : Ls S x (l.map Prod.fst)) (hi : ∀ p ∈ l, It S p.1 p.2) : m_are_programs [x] S = .ok (.val (.fr (.bl (ksB (.lst (l.map Prod.snd))))), S) := by
  have lv := fun b => leave_val wf (d := .bl b)
  have e1 := L.isl
  have e2 := L.ln
  rw [List.length_map] at e2
  obtain ⟨lk, sq, hlk⟩ := L.sq
  simp only [ksB, List.length_map]
  by_cases q1 : 1 ≤ l.length
  · have p1 : decide ((1 : Int) ≤ (l.length : Int)) = true := decide_eq_true (by omega)
    by_cases q2 : l.length ≤ 4
    · have p2 : decide ((l.length : Int) ≤ 4) = true := decide_eq_true (by omega)
      rw [decide_eq_true q1, decide_eq_true q2]
      have c1 : lcM lk (gNm 2) tTr (eCall m_is_program false (aC (eV 2) aN)) [1, 2] [some x, none, none] (l.map Prod.fst) S [] = .ok ((l.map fun p => D.bl (progB p.2)).map SV.fr, S) :=
        lc_genL (fun ds => hlk _) Prod.fst (fun p => D.bl (progB p.2)) l [] (by rw [List.length_nil]; omega) fun p hp as => by
          have e := prog_run (wf_acc wf as) ((hi p hp).ext (T := [.lst (as.map SV.fr)]))
          simp only [RR, DL.isNon, List.replicate_succ, List.replicate_zero, List.set_cons_zero, List.set_cons_succ, List.getElem?_cons_zero, List.getElem?_cons_succ, Option.map_some, Nat.reduceSub, and_self, and_true, true_and, decide_true, decide_false, if_true, if_false, Bool.false_eq_true, Bool.not_true, Bool.not_false, Nat.reduceAdd, Nat.reduceMul, Nat.reduceLeDiff, e]
      have al : allG [.fr (.lst (l.map fun p => D.bl (progB p.2)))] S = .ok (.fr (.bl (l.all fun p => progB p.2)), S) := by
        have := all_bls (S := S) (l.map fun p => progB p.2)
        rw [List.map_map, List.all_map] at this
        exact this
      have am : ((l.map Prod.snd).all progB) = l.all fun p => progB p.2 := by rw [List.all_map]; rfl
      rw [am]
      cases qa : l.all fun p => progB p.2 with
      | false =>
        rw [qa] at al
        simp only [RR, DL.isNon, List.replicate_succ, List.replicate_zero, List.set_cons_zero, List.set_cons_succ, List.getElem?_cons_zero, List.getElem?_cons_succ, Option.map_some, Nat.reduceSub, and_self, and_true, true_and, decide_true, decide_false, if_true, if_false, Bool.false_eq_true, Bool.not_true, Bool.not_false, Nat.reduceAdd, Nat.reduceMul, Nat.reduceLeDiff, m_are_programs, b_are_programs, e1, e2, p1, p2, sq, c1, s_lceF wf, al, Bool.true_and, Bool.false_and, Bool.and_true, lv]
      | true =>
        rw [qa] at al
        have c2 : lcM lk (gNm 2) tTr (eA lenG (aC (eV 2) aN)) [1, 2] [some x, none, none] (l.map Prod.fst) S [] = .ok ((l.map fun p => D.int (lenD p.2)).map SV.fr, S) :=
          lc_genL (fun ds => hlk _) Prod.fst (fun p => D.int (lenD p.2)) l [] (by rw [List.length_nil]; omega) fun p hp as => by
            have e := it_len ((hi p hp).ext (T := [.lst (as.map SV.fr)])) (List.all_eq_true.mp qa p hp)
            simp only [RR, DL.isNon, List.replicate_succ, List.replicate_zero, List.set_cons_zero, List.set_cons_succ, List.getElem?_cons_zero, List.getElem?_cons_succ, Option.map_some, Nat.reduceSub, and_self, and_true, true_and, decide_true, decide_false, if_true, if_false, Bool.false_eq_true, Bool.not_true, Bool.not_false, Nat.reduceAdd, Nat.reduceMul, Nat.reduceLeDiff, e]
        have su : sumG [.fr (.lst (l.map fun p => D.int (lenD p.2)))] S = .ok (.fr (.int (((l.map Prod.snd).map lenD).sum : Nat)), S) := by
          have := sum_ints (S := S) (l.map fun p => ((lenD p.2 : Nat) : Int))
          rw [List.map_map] at this
          rw [show (l.map fun p => D.int (lenD p.2)) = l.map (D.int ∘ fun p => ((lenD p.2 : Nat) : Int)) from rfl, this]
          congr 4
          clear this al am qa c1 c2 hi L e1 e2 sq p1 p2 q1 q2
          induction l with
          | nil => rfl
          | cons a r ih => simp only [List.map_cons, List.sum_cons, ih]; omega
        have d6 : decide ((((((l.map Prod.snd).map lenD).sum : Nat)) : Int) ≤ 6) = decide (((l.map Prod.snd).map lenD).sum ≤ 6) := by
          rw [decide_eq_decide]; omega
        generalize ((l.map Prod.snd).map lenD).sum = n at *
        simp only [RR, DL.isNon, List.replicate_succ, List.replicate_zero, List.set_cons_zero, List.set_cons_succ, List.getElem?_cons_zero, List.getElem?_cons_succ, Option.map_some, Nat.reduceSub, and_self, and_true, true_and, decide_true, decide_false, if_true, if_false, Bool.false_eq_true, Bool.not_true, Bool.not_false, Nat.reduceAdd, Nat.reduceMul, Nat.reduceLeDiff, m_are_programs, b_are_programs, e1, e2, p1, p2, sq, c1, s_lceF wf, al, c2, su, d6, Bool.true_and, Bool.false_and, Bool.and_true, lv]
    · have p2 : decide ((l.length : Int) ≤ 4) = false := decide_eq_false (by omega)
      rw [decide_eq_true q1, decide_eq_false q2]
      simp only [RR, DL.isNon, List.replicate_succ, List.replicate_zero, List.set_cons_zero, List.set_cons_succ, List.getElem?_cons_zero, List.getElem?_cons_succ, Option.map_some, Nat.reduceSub, and_self, and_true, true_and, decide_true, decide_false, if_true, if_false, Bool.false_eq_true, Bool.not_true, Bool.not_false, Nat.reduceAdd, Nat.reduceMul, Nat.reduceLeDiff, m_are_programs, b_are_programs, e1, e2, p1, p2, Bool.and_false, Bool.false_and, lv]
  · have p1 : decide ((1 : Int) ≤ (l.length : Int)) = false := decide_eq_false (by omega)
    rw [decide_eq_false q1]
    simp only [RR, DL.isNon, List.replicate_succ, List.replicate_zero, List.set_cons_zero, List.set_cons_succ, List.getElem?_cons_zero, List.getElem?_cons_succ, Option.map_some, Nat.reduceSub, and_self, and_true, true_and, decide_true, decide_false, if_true, if_false, Bool.false_eq_true, Bool.not_true, Bool.not_false, Nat.reduceAdd, Nat.reduceMul, Nat.reduceLeDiff, m_are_programs, b_are_programs, e1, e2, p1, Bool.false_and, lv]
end

theorem eqN_fr {S : Store} (ds : List D) : eqNG false (.fr (.lst ds)) (.fr (.lst [])) S = .ok (.fr (.bl (!decide (0 < ds.length))), S) := by
  cases ds with
  | nil =>
    have e := eq_nilF (S := S) false plain_nil
    unfold eqNG
    exact e
  | cons d ds =>
    have q : decide (0 < (d :: ds).length) = true := decide_eq_true (by simp)
    rw [q]
    rfl
theorem eqN_c {S : Store} {k : Nat} {ds : List D} (h : S[k]? = some (.lst (ds.map SV.fr))) : eqNG false (.cell k) (.fr (.lst [])) S = .ok (.fr (.bl (!decide (0 < ds.length))), S) := by
  cases ds with
  | nil =>
    have e : eqG false (.cell k) (.fr (.lst [])) S = .ok (.fr (.bl true), S) := by
      have e0 := eq_nilF (S := S) false plain_nil
      unfold eqG at e0 ⊢
      have s1 : snap S (.cell k) = some (.lst []) := by
        unfold snap
        simp only [h]
        rfl
      rw [s1]
      exact e0
    unfold eqNG unl
    simp only [rdL, h]
    exact e
  | cons d ds =>
    have q : decide (0 < (d :: ds).length) = true := decide_eq_true (by simp)
    rw [q]
    unfold eqNG unl
    simp only [rdL, h]
    rfl
theorem list_cF {S : Store} {k : Nat} {ds : List D} (h : S[k]? = some (.lst (ds.map SV.fr))) : listG false [.cell k] S = .ok (.fr (.lst ds), S) := by
  unfold listG
  simp only [rdS, rdL, h, newL0, DL.allFr_map, Bool.false_eq_true, if_false]
theorem list_frF (ds : List D) (S : Store) : listG false [.fr (.lst ds)] S = .ok (.fr (.lst ds), S) := by
  unfold listG
  simp only [rdS, rdL, newL0, DL.allFr_map, Bool.false_eq_true, if_false]
def k_lsC (r : List SV × Store) : Res (DL.Wk × Store) := match r.1 with
  | [a] => match rdS r.2 a with
    | some xs => .ok (⟨xs, fun _ => True⟩, r.2)
    | none => .stuck
  | _ => .stuck
theorem r_lsC (m : AM) (rho : Slots) (S : Store) : iLsC m rho S = (m rho S).bind k_lsC := id rfl
theorem s_lsC {a : SV} {xs : List SV} {S : Store} (h : rdS S a = some xs) : k_lsC ([a], S) = .ok (⟨xs, fun _ => True⟩, S) := by
  unfold k_lsC
  simp only [h]
section
variable {S : Store} (wf : WF S)
include wf
theorem lstep {y : SV} {d : D} (h : It S y d) {x x1 : Option SV} : (gNm 1 y [x, x1, none, none] S).bind (k_body f_law_are_programs_1) =
    if progB d = true then .ok (.nx, [x, some y, none, none], S) else .ok (.rt (.fr (.bl false)), [x, some y, none, none], S) := by
  have key : ∀ {ds : List D}, isXs ds = true → ds.length ≤ 1000 → isiG [y, .fr (.ty "list")] S = .ok (.fr (.bl true), S) → eqNG false y (.fr (.lst [])) S = .ok (.fr (.bl (!decide (0 < ds.length))), S) → rdS S y = some (ds.map SV.fr) →
      (gNm 1 y [x, x1, none, none] S).bind (k_body f_law_are_programs_1) = if progB (.lst ds) = true then .ok (.nx, [x, some y, none, none], S) else .ok (.rt (.fr (.bl false)), [x, some y, none, none], S) := fun {ds} hx hl e1 e2 e3 => by
    have cc := lcall_comp wf (isXs_mem hx) hl (lk := fun _ => True) (fun _ => trivial) (x0 := x) (x1 := some y)
    have al := all_calls wf ds
    have pb : progB (.lst ds) = (decide (0 < ds.length) && ds.all callB) := rfl
    by_cases q : 0 < ds.length
    · rw [decide_eq_true q] at e2 pb
      cases qa : ds.all callB with
      | true =>
        rw [qa] at al pb
        rw [if_pos (by rw [pb]; rfl)]
        simp only [RR, DL.isNon, List.replicate_succ, List.replicate_zero, List.set_cons_zero, List.set_cons_succ, List.getElem?_cons_zero, List.getElem?_cons_succ, Option.map_some, Nat.reduceSub, and_self, and_true, true_and, decide_true, decide_false, if_true, if_false, Bool.false_eq_true, Bool.not_true, Bool.not_false, Nat.reduceAdd, Nat.reduceMul, Nat.reduceLeDiff, f_law_are_programs_1, e1, e2, r_lsC, s_lsC e3, cc, s_lceF wf, al, Bool.not_true]
      | false =>
        rw [qa] at al pb
        rw [if_neg (by rw [pb]; decide)]
        simp only [RR, DL.isNon, List.replicate_succ, List.replicate_zero, List.set_cons_zero, List.set_cons_succ, List.getElem?_cons_zero, List.getElem?_cons_succ, Option.map_some, Nat.reduceSub, and_self, and_true, true_and, decide_true, decide_false, if_true, if_false, Bool.false_eq_true, Bool.not_true, Bool.not_false, Nat.reduceAdd, Nat.reduceMul, Nat.reduceLeDiff, f_law_are_programs_1, e1, e2, r_lsC, s_lsC e3, cc, s_lceF wf, al, Bool.not_true]
    · rw [decide_eq_false q] at e2 pb
      rw [if_neg (by rw [pb]; simp)]
      simp only [RR, DL.isNon, List.replicate_succ, List.replicate_zero, List.set_cons_zero, List.set_cons_succ, List.getElem?_cons_zero, List.getElem?_cons_succ, Option.map_some, Nat.reduceSub, and_self, and_true, true_and, decide_true, decide_false, if_true, if_false, Bool.false_eq_true, Bool.not_true, Bool.not_false, Nat.reduceAdd, Nat.reduceMul, Nat.reduceLeDiff, f_law_are_programs_1, e1, e2, Bool.not_false]
  rcases h.cases with rfl | ⟨j, ds, rfl, hj, rfl⟩
  · obtain ⟨_, _, _, _, e1⟩ := isi_x h.x S
    cases d with
    | lst ds =>
      simp only [tLst] at e1
      exact key (by have := h.x; simpa only [isX] using this) (h.len ds rfl) e1 (eqN_fr ds) rfl
    | scr r => exact absurd rfl (h.ns r)
    | _ => simp only [tLst] at e1; rw [if_neg (by simp [progB])]; simp only [RR, DL.isNon, List.replicate_succ, List.replicate_zero, List.set_cons_zero, List.set_cons_succ, List.getElem?_cons_zero, List.getElem?_cons_succ, Option.map_some, Nat.reduceSub, and_self, and_true, true_and, decide_true, decide_false, if_true, if_false, Bool.false_eq_true, Bool.not_true, Bool.not_false, Nat.reduceAdd, Nat.reduceMul, Nat.reduceLeDiff, f_law_are_programs_1, e1]
  · refine key (by have := h.x; simpa only [isX] using this) (h.len ds rfl) ?_ (eqN_c hj) (by simp only [rdS, rdL, hj])
    unfold isiG tyN
    simp only [hj]
    rfl
theorem lloop {lk : Store → Prop} (hlk : lk S) {x : Option SV} : ∀ (l : List (SV × D)), (∀ p ∈ l, It S p.1 p.2) → ∀ x1 : Option SV, ∃ y1 : Option SV, loopM lk (gNm 1) f_law_are_programs_1 (l.map Prod.fst) [x, x1, none, none] S =
    if (l.all fun p => progB p.2) = true then .ok (.nx, [x, y1, none, none], S) else .ok (.rt (.fr (.bl false)), [x, y1, none, none], S)
  | [], _, x1 => ⟨x1, loop_nil _ _ hlk⟩
  | p :: l, h, x1 => by
    have st := lstep wf (h p List.mem_cons_self) (x := x) (x1 := x1)
    rw [List.map_cons, List.all_cons]
    by_cases q : progB p.2 = true
    · obtain ⟨y1, ih⟩ := lloop hlk (x := x) l (fun r hr => h r (List.mem_cons_of_mem _ hr)) (some p.1)
      rw [if_pos q] at st
      refine ⟨y1, ?_⟩
      rw [loop_cons _ _ _ hlk, st, r_bind, s_turnN, ih, q, Bool.true_and]
    · rw [if_neg q] at st
      refine ⟨some p.1, ?_⟩
      have q' : progB p.2 = false := by simpa using q
      rw [loop_cons _ _ _ hlk, st, r_bind, s_turnR, q', Bool.false_and, if_neg (by decide)]
theorem lare_run {x : SV} {l : List (SV × D)} (L : Ls S x (l.map Prod.fst)) (hi : ∀ p ∈ l, It S p.1 p.2) : m_law_are_programs [x] S = .ok (.val (.fr (.bl (ksB (.lst (l.map Prod.snd))))), S) := by
  have lv := fun b => leave_val wf (d := .bl b)
  have e1 := L.isl
  have e2 := L.ln
  rw [List.length_map] at e2
  obtain ⟨lk, sq, hlk⟩ := L.sq
  have hl0 : lk S := by have := hlk []; rwa [List.append_nil] at this
  simp only [ksB, List.length_map]
  by_cases q1 : 1 ≤ l.length
  · have p1 : decide ((1 : Int) ≤ (l.length : Int)) = true := decide_eq_true (by omega)
    by_cases q2 : l.length ≤ 4
    · have p2 : decide ((l.length : Int) ≤ 4) = true := decide_eq_true (by omega)
      rw [decide_eq_true q1, decide_eq_true q2]
      obtain ⟨y1, lp⟩ := lloop wf hl0 (x := some x) l hi none
      have am : ((l.map Prod.snd).all progB) = l.all fun p => progB p.2 := by rw [List.all_map]; rfl
      rw [am]
      cases qa : l.all fun p => progB p.2 with
      | false =>
        rw [qa, if_neg (by decide)] at lp
        simp only [RR, DL.isNon, List.replicate_succ, List.replicate_zero, List.set_cons_zero, List.set_cons_succ, List.getElem?_cons_zero, List.getElem?_cons_succ, Option.map_some, Nat.reduceSub, and_self, and_true, true_and, decide_true, decide_false, if_true, if_false, Bool.false_eq_true, Bool.not_true, Bool.not_false, Nat.reduceAdd, Nat.reduceMul, Nat.reduceLeDiff, m_law_are_programs, b_law_are_programs, e1, e2, p1, p2, sq, lp, Bool.true_and, Bool.false_and, Bool.and_true, lv]
      | true =>
        rw [qa, if_pos rfl] at lp
        have c2 : lcM lk (gNm 1) tTr (eA lenG (aC (eV 1) aN)) [2, 1] [some x, y1, none, none] (l.map Prod.fst) S [] = .ok ((l.map fun p => D.int (lenD p.2)).map SV.fr, S) :=
          lc_genL (fun ds => hlk _) Prod.fst (fun p => D.int (lenD p.2)) l [] (by rw [List.length_nil]; omega) fun p hp as => by
            have e := it_len ((hi p hp).ext (T := [.lst (as.map SV.fr)])) (List.all_eq_true.mp qa p hp)
            simp only [RR, DL.isNon, List.replicate_succ, List.replicate_zero, List.set_cons_zero, List.set_cons_succ, List.getElem?_cons_zero, List.getElem?_cons_succ, Option.map_some, Nat.reduceSub, and_self, and_true, true_and, decide_true, decide_false, if_true, if_false, Bool.false_eq_true, Bool.not_true, Bool.not_false, Nat.reduceAdd, Nat.reduceMul, Nat.reduceLeDiff, e]
        have su : sumG [.fr (.lst (l.map fun p => D.int (lenD p.2)))] S = .ok (.fr (.int (((l.map Prod.snd).map lenD).sum : Nat)), S) := by
          have := sum_ints (S := S) (l.map fun p => ((lenD p.2 : Nat) : Int))
          rw [List.map_map] at this
          rw [show (l.map fun p => D.int (lenD p.2)) = l.map (D.int ∘ fun p => ((lenD p.2 : Nat) : Int)) from rfl, this]
          congr 4
          clear this lp am qa c2 hi L e1 e2 sq p1 p2 q1 q2
          induction l with
          | nil => rfl
          | cons a r ih => simp only [List.map_cons, List.sum_cons, ih]; omega
        have d6 : decide ((((((l.map Prod.snd).map lenD).sum : Nat)) : Int) ≤ 6) = decide (((l.map Prod.snd).map lenD).sum ≤ 6) := by
          rw [decide_eq_decide]; omega
        generalize ((l.map Prod.snd).map lenD).sum = n at *
        simp only [RR, DL.isNon, List.replicate_succ, List.replicate_zero, List.set_cons_zero, List.set_cons_succ, List.getElem?_cons_zero, List.getElem?_cons_succ, Option.map_some, Nat.reduceSub, and_self, and_true, true_and, decide_true, decide_false, if_true, if_false, Bool.false_eq_true, Bool.not_true, Bool.not_false, Nat.reduceAdd, Nat.reduceMul, Nat.reduceLeDiff, m_law_are_programs, b_law_are_programs, e1, e2, p1, p2, sq, lp, c2, s_lceF wf, su, d6, Bool.true_and, Bool.false_and, Bool.and_true, lv]
    · have p2 : decide ((l.length : Int) ≤ 4) = false := decide_eq_false (by omega)
      rw [decide_eq_true q1, decide_eq_false q2]
      simp only [RR, DL.isNon, List.replicate_succ, List.replicate_zero, List.set_cons_zero, List.set_cons_succ, List.getElem?_cons_zero, List.getElem?_cons_succ, Option.map_some, Nat.reduceSub, and_self, and_true, true_and, decide_true, decide_false, if_true, if_false, Bool.false_eq_true, Bool.not_true, Bool.not_false, Nat.reduceAdd, Nat.reduceMul, Nat.reduceLeDiff, m_law_are_programs, b_law_are_programs, e1, e2, p1, p2, Bool.and_false, Bool.false_and, lv]
  · have p1 : decide ((1 : Int) ≤ (l.length : Int)) = false := decide_eq_false (by omega)
    rw [decide_eq_false q1]
    simp only [RR, DL.isNon, List.replicate_succ, List.replicate_zero, List.set_cons_zero, List.set_cons_succ, List.getElem?_cons_zero, List.getElem?_cons_succ, Option.map_some, Nat.reduceSub, and_self, and_true, true_and, decide_true, decide_false, if_true, if_false, Bool.false_eq_true, Bool.not_true, Bool.not_false, Nat.reduceAdd, Nat.reduceMul, Nat.reduceLeDiff, m_law_are_programs, b_law_are_programs, e1, e2, p1, Bool.false_and, lv]
end

section
variable {S : Store} (wf : WF S)
include wf
theorem no_run {x : SV} (h : isiAG [x, .fr (.ty "list")] S = .ok (.fr (.bl false), S)) : m_are_programs [x] S = .ok (.val (.fr (.bl false)), S) ∧ m_law_are_programs [x] S = .ok (.val (.fr (.bl false)), S) := by
  have lv := leave_val wf (d := .bl false)
  constructor
  · simp only [RR, DL.isNon, List.replicate_succ, List.replicate_zero, List.set_cons_zero, List.set_cons_succ, List.getElem?_cons_zero, List.getElem?_cons_succ, Option.map_some, Nat.reduceSub, and_self, and_true, true_and, decide_true, decide_false, if_true, if_false, Bool.false_eq_true, Bool.not_true, Bool.not_false, Nat.reduceAdd, Nat.reduceMul, Nat.reduceLeDiff, m_are_programs, b_are_programs, h, lv]
  · simp only [RR, DL.isNon, List.replicate_succ, List.replicate_zero, List.set_cons_zero, List.set_cons_succ, List.getElem?_cons_zero, List.getElem?_cons_succ, Option.map_some, Nat.reduceSub, and_self, and_true, true_and, decide_true, decide_false, if_true, if_false, Bool.false_eq_true, Bool.not_true, Bool.not_false, Nat.reduceAdd, Nat.reduceMul, Nat.reduceLeDiff, m_law_are_programs, b_law_are_programs, h, lv]
end
theorem no_tup {S : Store} {k : Nat} {ys : List SV} (h : S[k]? = some (.tup ys)) : isiAG [.cell k, .fr (.ty "list")] S = .ok (.fr (.bl false), S) := by
  unfold isiAG
  simp only [h]
  unfold isiTG
  simp only [h]
  rfl
theorem no_dic {S : Store} {k : Nat} {ys : List (Key × SV)} (h : S[k]? = some (.dic ys)) : isiAG [.cell k, .fr (.ty "list")] S = .ok (.fr (.bl false), S) := by
  unfold isiAG
  simp only [h]
  unfold isiG tyN
  simp only [h]
  rfl

section
variable {rho r : Slots} {S S' : Store}
theorem b_exc {α β : Type} (e : Exc) (f : α → Res β) : (Res.exc e r S : Res α).bind f = .exc e r S := id rfl
noncomputable def k_tryA (i : Nat) (tb : IsT) (ms : SX) (x : Res (Fl × Slots × Store)) : Res (Fl × Slots × Store) := match x with
  | .exc e r S' => match tb.lookup e.cls with
    | some true => suiteRes i ms e r S'
    | some false => .exc e r S'
    | none => .stuck
  | x => x
theorem r_tryA (i : Nat) (tb : IsT) (mb : SM) (ms : SX) : sTryA i tb mb ms rho S = k_tryA i tb ms (mb rho S) := id rfl
theorem s_tryA (i : Nat) (tb : IsT) (ms : SX) (x : Fl × Slots × Store) : k_tryA i tb ms (.ok x) = .ok x := id rfl
theorem s_tryE (i : Nat) {tb : IsT} (ms : SX) {e : Exc} (h : tb.lookup e.cls = some true) : k_tryA i tb ms (.exc e r S) = suiteRes i ms e r S := by
  unfold k_tryA
  simp only [h]
theorem s_isE {t : IseT} {a : Addr} {d : Option Addr} {C C' : Str} {fs : List (Str × D)} {y : SV} {tb : IsT} {tt : TyT} {b : Bool} (h1 : t.lookup C = some (tb, tt)) (h2 : isE1 tb tt y = some b) :
    isEG t a d C [.fr (.exn a d C' fs), y] S = .ok (.fr (.bl b), S) := by
  unfold isEG
  simp only [and_self, if_true, h1, h2, okV]
end

def wrongE (i : Int) : Exc := ⟨"Wrong", [("place", .int i)]⟩
def k_makeX (c : Bool) (n : Str) (f : FnM) (rho : Slots) (r : List SV × Store) : Res (SV × Store) := (cutX r.2.length rho (f (.cell r.2.length :: r.1) (r.2 ++ [.ins n []]))).bind (mkEnd c r.2.length)
theorem r_makeX (c : Bool) (n : Str) (f : FnM) (m : AM) (rho : Slots) (S : Store) : eMakeX c n f m rho S = (m rho S).bind (k_makeX c n f rho) := id rfl
theorem s_makeX (c : Bool) (n : Str) (f : FnM) (rho : Slots) (xs : List SV) (S : Store) : k_makeX c n f rho (xs, S) = (cutX S.length rho (f (.cell S.length :: xs) (S ++ [.ins n []]))).bind (mkEnd c S.length) := id rfl
theorem cutX_more {S T : Store} (wf : WF S) (rho r : Slots) (e : Exc) : cutX S.length rho (.exc e r (S ++ T)) = .exc e rho S := by
  unfold cutX
  dsimp only
  rw [List.take_left' rfl, if_pos (show S.all (Cell.below S.length) = true from wf)]
theorem s_xf {S : Store} {a dd : Addr} {C f : Str} {fs : List (Str × D)} {Cs : List Str} {v : D} {i : Nat} {rho : Slots} (h : rho[i]? = some (some (.fr (.exn a (some dd) C fs)))) (hm : C ∈ Cs) (hf : fs.lookup f = some v) : eXf a (some dd) f ⟨C, fs⟩ Cs (eV i) rho S = .ok (.fr v, S) := by
  unfold eXf
  rw [if_pos hm, r_v, h]
  dsimp only [Option.getD, s_v]
  simp only [s_v, r_bind, and_self, if_true, hf]
def LsC (S : Store) (x : SV) (ys : List SV) : Prop := (∃ ds : List D, x = .fr (.lst ds) ∧ ys = ds.map SV.fr) ∨ ∃ k, x = .cell k ∧ S[k]? = some (.lst ys)
theorem LsC.ls {S : Store} {x : SV} {ys : List SV} (h : LsC S x ys) : Ls S x ys := by
  rcases h with ⟨ds, rfl, rfl⟩ | ⟨k, rfl, hk⟩
  · exact ls_fr S ds
  · exact ls_cell hk
theorem LsC.ext {S T : Store} {x : SV} {ys : List SV} (h : LsC S x ys) : LsC (S ++ T) x ys := by
  rcases h with h | ⟨k, rfl, hk⟩
  · exact .inl h
  · exact .inr ⟨k, rfl, by rw [List.getElem?_append_left (List.getElem?_eq_some_iff.mp hk).1]; exact hk⟩
theorem it_list {S : Store} {y : SV} {d : D} (h : It S y d) (hp : progB d = true) : listG false [y] S = .ok (.fr d, S) := by
  rcases h.cases with rfl | ⟨j, ds, rfl, hj, rfl⟩
  · cases d with
    | lst ds => exact list_frF ds S
    | _ => simp [progB] at hp
  · exact list_cF hj
def crowdD (ks : List D) : D := .ins "Crowd" [("kept_programs", .lst ks)]
section
variable {S : Store} (wf : WF S)
include wf
theorem init_good {x : SV} {l : List (SV × D)} (L : LsC S x (l.map Prod.fst)) (hi : ∀ p ∈ l, It S p.1 p.2) (hk : ksB (.lst (l.map Prod.snd)) = true) :
    m_Crowd___init__ [.cell S.length, x] (S ++ [.ins "Crowd" []]) = .ok (.val (.fr .non), S ++ [.ins "Crowd" [("kept_programs", .fr (.lst (l.map Prod.snd)))]]) := by
  have w2 : WF (S ++ [.ins "Crowd" []]) := wf.snoc rfl
  have w3 : WF (S ++ [.ins "Crowd" [("kept_programs", .fr (.lst (l.map Prod.snd)))]]) := wf.snoc rfl
  have lv := leave_val w3 .non
  rw [List.length_append, List.length_singleton] at lv
  have L2 := L.ext (T := [.ins "Crowd" []])
  have hi2 : ∀ p ∈ l, It (S ++ [.ins "Crowd" []]) p.1 p.2 := fun p hp => (hi p hp).ext
  have ar := are_run w2 L2.ls hi2
  rw [hk] at ar
  obtain ⟨lk, sq, hlk⟩ := L2.ls.sq
  have hb : l.length ≤ 4 ∧ (l.all fun p => progB p.2) = true := by
    simp only [ksB, Bool.and_eq_true, decide_eq_true_eq, List.length_map, List.all_map] at hk
    exact ⟨hk.1.2, hk.2.1⟩
  have cc : lcM lk (gNm 3) tTr (eA (listG false) (aC (eV 3) aN)) [2, 3] [some (.cell S.length), some x, none, none] (l.map Prod.fst) (S ++ [.ins "Crowd" []]) [] = .ok ((l.map Prod.snd).map SV.fr, S ++ [.ins "Crowd" []]) :=
    lc_genL (fun ds => hlk _) Prod.fst Prod.snd l [] (by rw [List.length_nil]; omega) fun p hp as => by
      have e := it_list ((hi2 p hp).ext (T := [.lst (as.map SV.fr)])) (List.all_eq_true.mp hb.2 p hp)
      simp only [RR, DL.isNon, List.replicate_succ, List.replicate_zero, List.set_cons_zero, List.set_cons_succ, List.getElem?_cons_zero, List.getElem?_cons_succ, Option.map_some, Nat.reduceSub, and_self, and_true, true_and, decide_true, decide_false, if_true, if_false, Bool.false_eq_true, Bool.not_true, Bool.not_false, Nat.reduceAdd, Nat.reduceMul, Nat.reduceLeDiff, e]
  have sf := s_sfb (S := S) (rho := [some (.cell S.length), some x, none, none]) (x := .fr (.lst (l.map Prod.snd))) (ns := ["Crowd"]) (f := "kept_programs") (n := "Crowd") (fs := []) ⟨by simp, by simp⟩
  have ep : putS "kept_programs" (.fr (.lst (l.map Prod.snd))) [] = [(("kept_programs" : Str), SV.fr (.lst (l.map Prod.snd)))] := rfl
  rw [ep] at sf
  simp only [RR, DL.isNon, List.replicate_succ, List.replicate_zero, List.set_cons_zero, List.set_cons_succ, List.getElem?_cons_zero, List.getElem?_cons_succ, Option.map_some, Nat.reduceSub, and_self, and_true, true_and, decide_true, decide_false, if_true, if_false, Bool.false_eq_true, Bool.not_true, Bool.not_false, Nat.reduceAdd, Nat.reduceMul, Nat.reduceLeDiff, m_Crowd___init__, b_Crowd___init__, ar, sq, cc, s_lceF w2, sf]
  rw [List.length_append, List.length_singleton]
  exact lv
theorem init_bad {x : SV} (h : m_are_programs [x] (S ++ [.ins "Crowd" []]) = .ok (.val (.fr (.bl false)), S ++ [.ins "Crowd" []])) :
    ∃ r, m_Crowd___init__ [.cell S.length, x] (S ++ [.ins "Crowd" []]) = .exc (wrongE 0) r (S ++ [.ins "Crowd" []]) := by
  have rs := fun (rho : Slots) => s_rsF (S := S ++ [.ins "Crowd" []]) (rho := rho) (C := "Wrong") (fs := ["place"]) (ds := [.int 0]) ⟨rfl, by decide, by simp⟩
  simp only [List.map_cons, List.map_nil] at rs
  refine ⟨[some (.cell S.length), some x, none, none], ?_⟩
  simp only [RR, DL.isNon, List.replicate_succ, List.replicate_zero, List.set_cons_zero, List.set_cons_succ, List.getElem?_cons_zero, List.getElem?_cons_succ, Option.map_some, Nat.reduceSub, and_self, and_true, true_and, decide_true, decide_false, if_true, if_false, Bool.false_eq_true, Bool.not_true, Bool.not_false, Nat.reduceAdd, Nat.reduceMul, Nat.reduceLeDiff, m_Crowd___init__, b_Crowd___init__, h, r_rsF, rs, b_exc]
  rfl
theorem makeX_good {x : SV} {l : List (SV × D)} (L : LsC S x (l.map Prod.fst)) (hi : ∀ p ∈ l, It S p.1 p.2) (hk : ksB (.lst (l.map Prod.snd)) = true) (rho : Slots) : k_makeX false "Crowd" m_Crowd___init__ rho ([x], S) = .ok (.fr (crowdD (l.map Prod.snd)), S) := by
  rw [s_makeX, init_good wf L hi hk, s_cutX, r_bind]
  exact s_mkEnd wf rfl
theorem makeX_bad {x : SV} (h : m_are_programs [x] (S ++ [.ins "Crowd" []]) = .ok (.val (.fr (.bl false)), S ++ [.ins "Crowd" []])) (rho : Slots) : k_makeX false "Crowd" m_Crowd___init__ rho ([x], S) = .exc (wrongE 0) rho S := by
  obtain ⟨r, e⟩ := init_bad wf h
  rw [s_makeX, e, cutX_more wf, b_exc]
end

section
variable {S : Store} (wf : WF S)
include wf
theorem told_good {x : SV} {l : List (SV × D)} (L : LsC S x (l.map Prod.fst)) (hi : ∀ p ∈ l, It S p.1 p.2) (hk : ksB (.lst (l.map Prod.snd)) = true) : m_law_told [x] S = .ok (.val (.fr (.tup [.str "crowd", crowdD (l.map Prod.snd)])), S) := by
  have mg := fun rho : Slots => makeX_good wf L hi hk rho
  have lv := leave_val wf (d := .tup [.str "crowd", crowdD (l.map Prod.snd)])
  simp only [RR, DL.isNon, List.replicate_succ, List.replicate_zero, List.set_cons_zero, List.set_cons_succ, List.getElem?_cons_zero, List.getElem?_cons_succ, Option.map_some, Nat.reduceSub, and_self, and_true, true_and, decide_true, decide_false, if_true, if_false, Bool.false_eq_true, Bool.not_true, Bool.not_false, Nat.reduceAdd, Nat.reduceMul, Nat.reduceLeDiff, m_law_told, b_law_told, r_tryA, r_makeX, mg, s_tryA, lv]
theorem told_bad {x : SV} (h : ∀ T : Store, WF (S ++ T) → m_are_programs [x] (S ++ T) = .ok (.val (.fr (.bl false)), S ++ T)) : m_law_told [x] S = .ok (.val (.fr (.tup [.str "wrong", .int 0])), S) := by
  have mb := fun rho : Slots => makeX_bad wf (h [.ins "Crowd" []] (wf.snoc rfl)) rho
  have te := fun (ms : SX) (rho : Slots) => s_tryE (r := rho) (S := S) 1 (tb := [("Wrong", true)]) ms (e := wrongE 0) rfl
  have lv := leave_val wf (d := .tup [.str "wrong", .int 0])
  have su : suiteRes 1 (fun a d e => (sIf (tAn (tV (eA (isEG iseT a d e.cls) (aC (eV 1) (aC (eC (.cls "Wrong")) aN)))) (tAn (tV (eA (isEG iseT a d e.cls) (aC (eV 1) (aC (eC (.ty "ValueError")) aN)))) (tNt (tV (eA (isEG iseT a d e.cls) (aC (eV 1) (aC (eA newT (aC (eC (.cls "TooMany")) (aC (eC (.cls "Unfit")) aN))) aN))))))) (sRet (eA newT (aC (eC (.str "wrong")) (aC (eXf a d "place" e ["Wrong"] (eV 1)) aN)))) sNx)) (wrongE 0) [some x, none] S = .ok (.rt (.fr (.tup [.str "wrong", .int 0])), [some x, none], S) := by
    refine suite_is fun a od _ o2 => ?_
    cases od with
    | none => exact absurd (o2 rfl) (by simp [wrongE])
    | some dd =>
      have i1 : isEG iseT a (some dd) "Wrong" [.fr (.exn a (some dd) "Wrong" (wrongE 0).fs), .fr (.tup [.cls "TooMany", .cls "Unfit"])] S = .ok (.fr (.bl false), S) := s_isE rfl rfl
      have i2 : isEG iseT a (some dd) "Wrong" [.fr (.exn a (some dd) "Wrong" (wrongE 0).fs), .fr (.ty "ValueError")] S = .ok (.fr (.bl true), S) := s_isE rfl rfl
      have i3 : isEG iseT a (some dd) "Wrong" [.fr (.exn a (some dd) "Wrong" (wrongE 0).fs), .fr (.cls "Wrong")] S = .ok (.fr (.bl true), S) := s_isE rfl rfl
      have xf := s_xf (S := S) (a := a) (dd := dd) (C := "Wrong") (f := "place") (fs := (wrongE 0).fs) (Cs := ["Wrong"]) (v := .int 0) (i := 1) (rho := [some x, some (.fr (.exn a (some dd) "Wrong" (wrongE 0).fs))]) rfl (by decide) rfl
      have he : (⟨"Wrong", (wrongE 0).fs⟩ : Exc) = wrongE 0 := rfl
      rw [he] at xf
      have hc : (wrongE 0).cls = "Wrong" := rfl
      simp only [RR, DL.isNon, List.replicate_succ, List.replicate_zero, List.set_cons_zero, List.set_cons_succ, List.getElem?_cons_zero, List.getElem?_cons_succ, Option.map_some, Nat.reduceSub, and_self, and_true, true_and, decide_true, decide_false, if_true, if_false, Bool.false_eq_true, Bool.not_true, Bool.not_false, Nat.reduceAdd, Nat.reduceMul, Nat.reduceLeDiff, hc, i1, i2, i3, xf]
      rfl
  simp only [RR, DL.isNon, List.replicate_succ, List.replicate_zero, List.set_cons_zero, List.set_cons_succ, List.getElem?_cons_zero, List.getElem?_cons_succ, Option.map_some, Nat.reduceSub, and_self, and_true, true_and, decide_true, decide_false, if_true, if_false, Bool.false_eq_true, Bool.not_true, Bool.not_false, Nat.reduceAdd, Nat.reduceMul, Nat.reduceLeDiff, m_law_told, b_law_told, r_tryA, r_makeX, mb, b_exc, te, su, lv]
end

abbrev T39 : Int := 1000000000000000000000000000000000000000
theorem pow39 (S : Store) : powG (.fr (.int 10)) (.fr (.int 39)) S = .ok (.fr (.int T39), S) := by
  have c : CPow 10 39 := by decide +kernel
  have e : (10 : Int) ^ (39 : Int).toNat = T39 := by decide +kernel
  unfold powG
  simp only []
  rw [if_pos c, e]
  rfl
inductive Cl : D → Prop
  | non {l f : Int} (h : 0 ≤ l ∧ l ≤ 2) (hf : 0 ≤ f ∧ f < T39) : Cl (.tup [.int l, .int f, .non])
  | int {l f z : Int} (h : 0 ≤ l ∧ l ≤ 2) (hf : 0 ≤ f ∧ f < T39) (hz : f ≤ z ∧ z ≤ f + 8) : Cl (.tup [.int l, .int f, .int z])
theorem Cl.ok {d : D} (h : Cl d) : callB d = true := by
  cases h with
  | non h hf => simp only [callB, levB, byteB, endB, decide_eq_true h.1, decide_eq_true h.2, decide_eq_true hf.1, Bool.and_true]
  | int h hf hz => simp only [callB, levB, byteB, endB, decide_eq_true h.1, decide_eq_true h.2, decide_eq_true hf.1, decide_eq_true hz.1, decide_eq_true (Int.le_trans hf.1 hz.1), Bool.and_true]
theorem Cl.x {d : D} (h : Cl d) : isX d = true := by cases h <;> rfl
theorem pick2 {a b : D} {v : Int} : ∃ c, atI [a, b] (if decide (v = 0) = true then 1 else 0) = some c ∧ (c = a ∨ c = b) := by
  by_cases q : v = 0
  · rw [decide_eq_true q, if_pos rfl]; exact ⟨b, rfl, .inr rfl⟩
  · rw [decide_eq_false q, if_neg (by decide)]; exact ⟨a, rfl, .inl rfl⟩
theorem good_run (b : Bag) (hb : b.Ok) (R : Store) (w : WF (b.c :: R)) : ∃ (d : D) (b' : Bag), Bag.Ok b' ∧ WF (b'.c :: R) ∧ Cl d ∧ m_law_good [.cell 0] (b.c :: R) = .ok (.val (.fr d), b'.c :: R) := by
  obtain ⟨v1, b1, l1, u1, k1, w1, e1⟩ := take_run b hb 5 (by decide) (by decide) R w
  obtain ⟨v2, b2, l2, u2, k2, w2, e2⟩ := take_run b1 k1 3 (by decide) (by decide) R w1
  obtain ⟨v3, b3, l3, u3, k3, w3, e3⟩ := take_run b2 k2 6 (by decide) (by decide) R w2
  obtain ⟨v4, b4, l4, u4, k4, w4, e4⟩ := take_run b3 k3 3 (by decide) (by decide) R w3
  obtain ⟨v5, b5, l5, u5, k5, w5, e5⟩ := take_run b4 k4 9 (by decide) (by decide) R w4
  obtain ⟨v6, b6, l6, u6, k6, w6, e6⟩ := take_run b5 k5 3 (by decide) (by decide) R w5
  have p39 := pow39
  have ib := fun (o : Bool) (S : Store) => int_bl S o
  obtain ⟨c, hc, hcc⟩ := pick2 (a := .int v1) (b := .int (T39 - 1 - v2)) (v := v3)
  obtain ⟨f, rfl, hf⟩ : ∃ f : Int, c = .int f ∧ (0 ≤ f ∧ f < T39) := by
    rcases hcc with rfl | rfl
    · exact ⟨_, rfl, by omega, by unfold T39; omega⟩
    · exact ⟨_, rfl, by unfold T39; omega, by omega⟩
  obtain ⟨z, hz, hcl⟩ : ∃ z : D, atI [.int f, .int (f + v5), .non] v6 = some z ∧ Cl (.tup [.int v4, .int f, z]) := by
    rcases (by omega : v6 = 0 ∨ v6 = 1 ∨ v6 = 2) with rfl | rfl | rfl
    · exact ⟨_, rfl, .int ⟨by omega, by omega⟩ hf ⟨by omega, by omega⟩⟩
    · exact ⟨_, rfl, .int ⟨by omega, by omega⟩ hf ⟨by omega, by omega⟩⟩
    · exact ⟨_, rfl, .non ⟨by omega, by omega⟩ hf⟩
  refine ⟨_, b6, k6, w6, hcl, ?_⟩
  have lv := leave_bag (b := b6) (b' := b6) w6 (.tup [.int v4, .int f, z])
  simp only [RR, DL.isNon, List.replicate_succ, List.replicate_zero, List.set_cons_zero, List.set_cons_succ, List.getElem?_cons_zero, List.getElem?_cons_succ, Option.map_some, Nat.reduceSub, and_self, and_true, true_and, decide_true, decide_false, if_true, if_false, Bool.false_eq_true, Bool.not_true, Bool.not_false, Nat.reduceAdd, Nat.reduceMul, Nat.reduceLeDiff, m_law_good, b_law_good, take_is, e1, p39, e2, e3, ib, hc, e4, e5, e6, hz]
  exact lv
abbrev ODD : List D := [.non, .bl true, .bl false, .int (-1), .int 3, .int T39, .str "", .str "write", .tup [], .lst [], .dct [], .tup [.int 1, .int 0], .lst [.int 1, .int 0, .int 0], .tup [.int 1, .int 0, .int 0], .tup [.int 1, .int 5, .int 4], .int 0]
theorem odd_run (b : Bag) (hb : b.Ok) (R : Store) (w : WF (b.c :: R)) : ∃ (d : D) (b' : Bag), Bag.Ok b' ∧ WF (b'.c :: R) ∧ d ∈ ODD ∧ m_law_odd [.cell 0] (b.c :: R) = .ok (.val (.fr d), b'.c :: R) := by
  obtain ⟨v1, b1, l1, u1, k1, w1, e1⟩ := take_run b hb 16 (by decide) (by decide) R w
  have p39 := pow39
  have dn : ∀ (rho : Slots) (S' : Store), eDN false rho S' = .ok (.fr (.dct []), S') := fun _ _ => rfl
  obtain ⟨m, rfl⟩ : ∃ m : Nat, v1 = (m : Int) := ⟨v1.toNat, by omega⟩
  have hm : m < ODD.length := by show m < 16; omega
  have at_ : atI ODD (m : Int) = some (ODD[m]) := by rw [DL.atI_nat, List.getElem?_eq_getElem hm]
  refine ⟨ODD[m], b1, k1, w1, List.getElem_mem hm, ?_⟩
  have lv := leave_bag (b := b1) (b' := b1) w1 ODD[m]
  generalize ODD[m] = dd at *
  unfold ODD at at_
  simp only [RR, DL.isNon, List.replicate_succ, List.replicate_zero, List.set_cons_zero, List.set_cons_succ, List.getElem?_cons_zero, List.getElem?_cons_succ, Option.map_some, Nat.reduceSub, and_self, and_true, true_and, decide_true, decide_false, if_true, if_false, Bool.false_eq_true, Bool.not_true, Bool.not_false, Nat.reduceAdd, Nat.reduceMul, Nat.reduceLeDiff, m_law_odd, b_law_odd, take_is, e1, p39, dn, negone, at_]
  exact lv

mutual
theorem x_of : ∀ {d : D}, isP d = true → isX d = true ∧ pyX d = py d
  | .non, _ => ⟨rfl, rfl⟩
  | .bl _, _ => ⟨rfl, rfl⟩
  | .int _, _ => ⟨rfl, rfl⟩
  | .str _, _ => ⟨rfl, rfl⟩
  | .tup ds, h => by
    obtain ⟨a, b⟩ := xs_of (ds := ds) (by simpa only [isP] using h)
    exact ⟨by simpa only [isX] using a, by simp only [pyX, py, b]⟩
  | .lst ds, h => by
    obtain ⟨a, b⟩ := xs_of (ds := ds) (by simpa only [isP] using h)
    exact ⟨by simpa only [isX] using a, by simp only [pyX, py, b]⟩
  | .scr ds, h => by
    obtain ⟨a, b⟩ := xs_of (ds := ds) (by simpa only [isP] using h)
    exact ⟨by simpa only [isX] using a, by simp only [pyX, py, b]⟩
  | .ty _, h => by simp [isP] at h
  | .ref _, h => by simp [isP] at h
  | .ins _ _, h => by simp [isP] at h
  | .cls _, h => by simp [isP] at h
  | .dct _, h => by simp [isP] at h
theorem xs_of : ∀ {ds : List D}, isPs ds = true → isXs ds = true ∧ pyXs ds = pys ds
  | [], _ => ⟨rfl, rfl⟩
  | d :: ds, h => by
    simp only [isPs, Bool.and_eq_true] at h
    obtain ⟨a, b⟩ := x_of h.1
    obtain ⟨c, e⟩ := xs_of h.2
    exact ⟨by simp only [isXs, a, c, Bool.and_self], by simp only [pyXs, pys, b, e]⟩
end
structure XOk (B : Nat) (d : D) : Prop where
  x : isX d = true
  show_ : (pyX d).showable = true
  lv : (pyX d).leavesShort 130 = true
  bk : (pyX d).bulk ≤ B
  dp : (pyX d).depth ≤ 63
theorem xok_fit {B : Nat} {d : D} (h : fit 63 d = true) (hb : (py d).bulk ≤ B) : XOk B d := by
  obtain ⟨a, b⟩ := fit_p 63 d h
  obtain ⟨c, e⟩ := x_of a
  exact ⟨c, by rw [e]; exact b.show_, by rw [e]; exact PyData.leavesShort_of_canLay0 130 _ b.lay b.nsh, by rw [e]; exact hb, by rw [e]; exact b.dep⟩
structure YOk (B n : Nat) (d : D) : Prop where
  x : isX d = true
  sh : (pyX d).showable = true
  lv : (pyX d).leavesShort 130 = true
  bk : (pyX d).bulk ≤ B
  dp : (pyX d).depth ≤ n
theorem YOk.mono {B C n m : Nat} {d : D} (h : YOk B n d) (h1 : B ≤ C) (h2 : n ≤ m) : YOk C m d := ⟨h.x, h.sh, h.lv, Nat.le_trans h.bk h1, Nat.le_trans h.dp h2⟩
theorem y_fit {B n : Nat} {d : D} (h : fit 63 d = true) (hb : (py d).bulk ≤ B) (hd : (py d).depth ≤ n) : YOk B n d := by
  have o := xok_fit h hb
  obtain ⟨_, e⟩ := x_of (fit_p 63 d h).1
  exact ⟨o.x, o.show_, o.lv, o.bk, by rw [e]; exact hd⟩
theorem y_seq {B n : Nat} : ∀ {ds : List D}, (∀ d ∈ ds, YOk B n d) → isXs ds = true ∧ PyData.showableAll (pyXs ds) = true ∧ PyData.leavesShortAll 130 (pyXs ds) = true ∧ PyData.bulkAll (pyXs ds) ≤ (B + 1) * ds.length ∧ PyData.depthAll (pyXs ds) ≤ n
  | [], _ => by simp [isXs, pyXs, PyData.showableAll, PyData.leavesShortAll, PyData.bulkAll, PyData.depthAll]
  | d :: ds, h => by
    obtain ⟨a, b, c, e, f⟩ := y_seq (ds := ds) fun x hx => h x (List.mem_cons_of_mem _ hx)
    have o := h d List.mem_cons_self
    have h1 := o.bk
    have h2 := o.dp
    simp only [isXs, pyXs, PyData.showableAll, PyData.leavesShortAll, PyData.bulkAll, PyData.depthAll, o.x, o.sh, o.lv, a, b, c, Bool.and_self, List.length_cons, true_and]
    refine ⟨?_, by omega⟩
    rw [Nat.mul_succ]
    omega
theorem y_tup {B n m : Nat} {ds : List D} (h : ∀ d ∈ ds, YOk B n d) (hl : ds.length ≤ m) : YOk ((B + 1) * m) (n + 1) (.tup ds) := by
  obtain ⟨a, b, c, e, f⟩ := y_seq h
  refine ⟨by simpa only [isX] using a, by simpa only [pyX, PyData.showable] using b, by simpa only [pyX, PyData.leavesShort] using c, ?_, ?_⟩
  · simp only [pyX, PyData.bulk]
    exact Nat.le_trans e (Nat.mul_le_mul_left _ hl)
  · simp only [pyX, PyData.depth]
    omega
theorem y_lst {B n m : Nat} {ds : List D} (h : ∀ d ∈ ds, YOk B n d) (hl : ds.length ≤ m) : YOk ((B + 1) * m) (n + 1) (.lst ds) := by
  obtain ⟨a, b, c, e, f⟩ := y_seq h
  refine ⟨by simpa only [isX] using a, by simpa only [pyX, PyData.showable] using b, by simpa only [pyX, PyData.leavesShort] using c, ?_, ?_⟩
  · simp only [pyX, PyData.bulk]
    exact Nat.le_trans e (Nat.mul_le_mul_left _ hl)
  · simp only [pyX, PyData.depth]
    omega
theorem YOk.ro {B n : Nat} {d : D} (h : YOk B n d) (hB : B ≤ 100000) (hn : n ≤ 64) : rOkX d = true := by
  have h1 := h.bk
  have h2 := h.dp
  unfold rOkX
  simp only [h.x, h.sh, h.lv, Bool.true_and, Bool.and_eq_true, decide_eq_true_eq]
  omega
theorem snap_cell {S : Store} {n : Nat} {ds : List D} (h : S[n]? = some (.lst (ds.map SV.fr))) : snap S (.cell n) = some (.lst ds) := by
  unfold snap
  simp only [h, allSn_map (snap0_fr _), Option.map_some]
inductive Ca : D → Prop
  | non {l f : Int} (h : 0 ≤ l ∧ l ≤ 2) (hf : 0 ≤ f ∧ f ≤ T39) : Ca (.tup [.int l, .int f, .non])
  | int {l f z : Int} (h : 0 ≤ l ∧ l ≤ 2) (hf : 0 ≤ f ∧ f ≤ T39) (hz : f ≤ z ∧ z ≤ T39 + 8) : Ca (.tup [.int l, .int f, .int z])
theorem y_i {i : Int} (h : i.natAbs < 10 ^ 129) : YOk 10 1 (.int i) := y_fit (by simpa only [fit, decide_eq_true_eq] using h) (by simp [py, PyData.bulk]) (by simp [py, PyData.depth])
theorem y_n : YOk 10 1 .non := y_fit rfl (by simp [py, PyData.bulk]) (by simp [py, PyData.depth])
theorem t39_ok {i : Int} (h : -10 ≤ i ∧ i ≤ T39 + 10) : i.natAbs < 10 ^ 129 := by
  have e : T39 + 10 < 10 ^ 129 := by decide +kernel
  omega
def yB (d : D) : Bool := isX d && ((pyX d).showable && ((pyX d).leavesShort 130 && (decide ((pyX d).bulk ≤ 40) && decide ((pyX d).depth ≤ 3))))
theorem yB_ok {d : D} (h : yB d = true) : YOk 40 3 d := by
  simp only [yB, Bool.and_eq_true, decide_eq_true_eq] at h
  exact ⟨h.1, h.2.1, h.2.2.1, h.2.2.2.1, h.2.2.2.2⟩
theorem odd_y {d : D} (h : d ∈ ODD) : YOk 40 3 d := by
  have e : ODD.all yB = true := by decide +kernel
  exact yB_ok (List.all_eq_true.mp e d h)
def leT : D → Bool
  | .int i => decide (i ≤ T39)
  | _ => true
theorem odd_le {i : Int} (h : D.int i ∈ ODD) : i ≤ T39 := by
  have e : ODD.all leT = true := by decide +kernel
  have := List.all_eq_true.mp e _ h
  simpa only [leT, decide_eq_true_eq] using this
def caB : D → Bool
  | .tup [.int l, .int f, .int z] => decide (0 ≤ l) && (decide (l ≤ 2) && (decide (0 ≤ f) && (decide (f ≤ T39) && (decide (f ≤ z) && decide (z ≤ T39 + 8)))))
  | _ => false
theorem caB_ok {d : D} (h : caB d = true) : Ca d := by
  unfold caB at h
  split at h
  · simp only [Bool.and_eq_true, decide_eq_true_eq] at h
    exact .int ⟨h.1, h.2.1⟩ ⟨h.2.2.1, h.2.2.2.1⟩ h.2.2.2.2
  · cases h
theorem odd_ca {d : D} (h : d ∈ ODD) (hc : callB d = true) : Ca d := by
  have e : (ODD.all fun d => !callB d || caB d) = true := by decide +kernel
  have := List.all_eq_true.mp e d h
  rw [hc] at this
  exact caB_ok (by simpa using this)
theorem odd_ns {d : D} (h : d ∈ ODD) : (∀ r, d ≠ .scr r) ∧ (∀ ds, d = .lst ds → ds.length ≤ 1000) ∧ ksB d = false ∧ progB d = false := by
  have e : (ODD.all fun d => (match d with | .scr _ => false | .lst ds => decide (ds.length ≤ 1000) | _ => true) && (!ksB d && !progB d)) = true := by decide +kernel
  have := List.all_eq_true.mp e d h
  simp only [Bool.and_eq_true, Bool.not_eq_true'] at this
  refine ⟨fun r e => ?_, fun ds e => ?_, this.2.1, this.2.2⟩
  · subst e; simp at this
  · subst e; simpa using this.1
structure El (d : D) : Prop where
  y : YOk 200 5 d
  ca : callB d = true → Ca d
theorem Cl.ca {d : D} (h : Cl d) : Ca d := by
  cases h with
  | non h hf => exact .non h ⟨hf.1, by omega⟩
  | int h hf hz => exact .int h ⟨hf.1, by omega⟩ ⟨hz.1, by omega⟩
theorem y_t3 {a b c : D} (ha : YOk 40 3 a) (hb : YOk 40 3 b) (hc : YOk 40 3 c) : YOk 200 5 (.tup [a, b, c]) :=
  (y_tup (m := 3) (ds := [a, b, c]) (by
    intro d hd
    simp only [List.mem_cons, List.not_mem_nil, or_false] at hd
    rcases hd with rfl | rfl | rfl <;> assumption) (by simp)).mono (by decide) (by decide)
theorem y_l3 {a b c : D} (ha : YOk 40 3 a) (hb : YOk 40 3 b) (hc : YOk 40 3 c) : YOk 200 5 (.lst [a, b, c]) :=
  (y_lst (m := 3) (ds := [a, b, c]) (by
    intro d hd
    simp only [List.mem_cons, List.not_mem_nil, or_false] at hd
    rcases hd with rfl | rfl | rfl <;> assumption) (by simp)).mono (by decide) (by decide)
theorem Ca.inv {d : D} (h : Ca d) : ∃ l f z, d = .tup [.int l, .int f, z] ∧ (0 ≤ l ∧ l ≤ 2) ∧ (0 ≤ f ∧ f ≤ T39) ∧ (z = .non ∨ ∃ m : Int, z = .int m ∧ f ≤ m ∧ m ≤ T39 + 8) := by
  cases h with
  | non h hf => exact ⟨_, _, _, rfl, h, hf, .inl rfl⟩
  | int h hf hz => exact ⟨_, _, _, rfl, h, hf, .inr ⟨_, rfl, hz⟩⟩
theorem y_int9 {i : Int} (h : 0 ≤ i ∧ i ≤ T39 + 10) : YOk 40 3 (.int i) := (y_i (t39_ok ⟨by omega, h.2⟩)).mono (by decide) (by decide)
theorem y_end9 {f : Int} {z : D} (hf : 0 ≤ f) (h : z = .non ∨ ∃ m : Int, z = .int m ∧ f ≤ m ∧ m ≤ T39 + 8) : YOk 40 3 z := by
  rcases h with rfl | ⟨m, rfl, h1, h2⟩
  · exact y_n.mono (by decide) (by decide)
  · exact y_int9 ⟨by omega, by omega⟩
theorem Ca.y {d : D} (h : Ca d) : YOk 200 5 d := by
  obtain ⟨l, f, z, rfl, hl, hf, hz⟩ := h.inv
  exact y_t3 (y_int9 ⟨hl.1, by unfold T39; omega⟩) (y_int9 ⟨hf.1, by omega⟩) (y_end9 hf.1 hz)
theorem Ca.el {d : D} (h : Ca d) : El d := ⟨h.y, fun _ => h⟩
theorem Ca.call {d : D} (h : Ca d) : callB d = true := by
  cases h with
  | non h hf => simp only [callB, levB, byteB, endB, decide_eq_true h.1, decide_eq_true h.2, decide_eq_true hf.1, Bool.and_true]
  | int h hf hz => simp only [callB, levB, byteB, endB, decide_eq_true h.1, decide_eq_true h.2, decide_eq_true hf.1, decide_eq_true hz.1, decide_eq_true (Int.le_trans hf.1 hz.1), Bool.and_true]
theorem odd_el {d : D} (h : d ∈ ODD) : El d := ⟨(odd_y h).mono (by decide) (by decide), odd_ca h⟩
theorem bent0 {l f : Int} {z o : D} (hl : 0 ≤ l ∧ l ≤ 2) (hf : 0 ≤ f ∧ f ≤ T39) (hz : z = .non ∨ ∃ m : Int, z = .int m ∧ f ≤ m ∧ m ≤ T39 + 8) (ho : o ∈ ODD) : El (.tup [o, .int f, z]) ∧ El (.tup [.int l, o, z]) ∧ El (.tup [.int l, .int f, o]) := by
  have yl := y_int9 (i := l) ⟨hl.1, by unfold T39; omega⟩
  have yf := y_int9 (i := f) ⟨hf.1, by omega⟩
  have yz := y_end9 hf.1 hz
  have yo := odd_y ho
  refine ⟨⟨y_t3 yo yf yz, fun hc => ?_⟩, ⟨y_t3 yl yo yz, fun hc => ?_⟩, ⟨y_t3 yl yf yo, fun hc => ?_⟩⟩
  · simp only [callB, Bool.and_eq_true] at hc
    obtain ⟨h1, h2, h3⟩ := hc
    cases o with
    | int i =>
      simp only [levB, Bool.and_eq_true, decide_eq_true_eq] at h1
      rcases hz with rfl | ⟨m, rfl, hm⟩
      · exact .non h1 hf
      · exact .int h1 hf hm
    | _ => simp [levB] at h1
  · simp only [callB, Bool.and_eq_true] at hc
    obtain ⟨h1, h2, h3⟩ := hc
    cases o with
    | int i =>
      have le := odd_le ho
      simp only [byteB, decide_eq_true_eq] at h2
      rcases hz with rfl | ⟨m, rfl, hm⟩
      · exact .non hl ⟨h2, le⟩
      · simp only [endB, Bool.and_eq_true, decide_eq_true_eq] at h3
        exact .int hl ⟨h2, le⟩ ⟨h3.2, hm.2⟩
    | _ => simp [byteB] at h2
  · simp only [callB, Bool.and_eq_true] at hc
    obtain ⟨h1, h2, h3⟩ := hc
    cases o with
    | int i =>
      have le := odd_le ho
      simp only [endB, Bool.and_eq_true, decide_eq_true_eq] at h3
      exact .int hl hf ⟨h3.2, by omega⟩
    | non => exact .non hl hf
    | _ => simp [endB] at h3
inductive Itm (S : Store) (k : Nat) : SV → D → Prop
  | fr {d : D} (h : YOk 4000 8 d) (hb : progB d = false) (ns : ∀ r, d ≠ .scr r) (len : ∀ ds, d = .lst ds → ds.length ≤ 1000) : Itm S k (.fr d) d
  | cell {j : Nat} {p : List D} (h : S[j]? = some (.lst (p.map SV.fr))) (h0 : j ≠ 0) (hk : j ≠ k) (he : ∀ d ∈ p, El d) (hl : p.length ≤ 12) : Itm S k (.cell j) (.lst p)
theorem y_prog {p : List D} (he : ∀ d ∈ p, El d) (hl : p.length ≤ 12) : YOk 4000 8 (.lst p) := (y_lst (m := 12) (fun d hd => (he d hd).y) hl).mono (by decide) (by decide)
theorem Itm.y {S : Store} {k : Nat} {y : SV} {d : D} (h : Itm S k y d) : YOk 4000 8 d := by
  cases h with
  | fr h _ _ _ => exact h
  | cell _ _ _ he hl => exact y_prog he hl
theorem Itm.it {S : Store} {k : Nat} {y : SV} {d : D} (h : Itm S k y d) : It S y d := by
  have hx := h.y.x
  cases h with
  | fr h hb ns len => exact ⟨rfl, hx, ns, len⟩
  | cell h h0 hk he hl =>
    refine ⟨?_, hx, nofun, fun ds e => by cases e; omega⟩
    unfold snap0
    simp only [h, DL.allFr_map, Option.map_some]
theorem Itm.ext {S T : Store} {k : Nat} {y : SV} {d : D} (h : Itm S k y d) : Itm (S ++ T) k y d := by
  cases h with
  | fr h hb ns len => exact .fr h hb ns len
  | cell h h0 hk he hl => exact .cell (by rw [List.getElem?_append_left (List.getElem?_eq_some_iff.mp h).1]; exact h) h0 hk he hl
theorem Itm.snap {S : Store} {k : Nat} {y : SV} {d : D} (h : Itm S k y d) : snapN S 1 y = some d := by
  cases h with
  | fr h hb ns len => rfl
  | cell h h0 hk he hl =>
    unfold snapN
    simp only [h]
    have : allSn (snapN S 0) (List.map SV.fr ‹_›) = some _ := allSn_map (fun _ => rfl) _
    rw [this]
    rfl
theorem itms_snap {S : Store} {k : Nat} : ∀ {l : List (SV × D)}, (∀ p ∈ l, Itm S k p.1 p.2) → allSn (snapN S 1) (l.map Prod.fst) = some (l.map Prod.snd)
  | [], _ => rfl
  | p :: l, h => by
    simp only [List.map_cons, allSn, (h p List.mem_cons_self).snap, itms_snap (l := l) fun q hq => h q (List.mem_cons_of_mem _ hq)]
structure Bad (S : Store) (x : SV) : Prop where
  rp : ∃ t : Str, reprNG [x] S = .ok (.fr (.str t), S)
  ar : ∀ T : Store, WF (S ++ T) → m_are_programs [x] (S ++ T) = .ok (.val (.fr (.bl false)), S ++ T)
  la : WF S → m_law_are_programs [x] S = .ok (.val (.fr (.bl false)), S)
structure Gd (S : Store) (x : SV) : Prop where
  rp : ∃ t : Str, reprNG [x] S = .ok (.fr (.str t), S)
  ex : ∃ (k : Nat) (l : List (Nat × List D)), x = .cell k ∧ k ≠ 0 ∧ S[k]? = some (.lst (l.map fun q => SV.cell q.1)) ∧ (∀ q ∈ l, S[q.1]? = some (.lst (q.2.map SV.fr)) ∧ q.1 ≠ 0 ∧ q.1 ≠ k ∧ (∀ d ∈ q.2, Ca d) ∧ q.2 ≠ []) ∧
    1 ≤ l.length ∧ l.length ≤ 4 ∧ (l.map fun q => q.2.length).sum ≤ 6
theorem reprN_of {S : Store} {x : SV} {d : D} (h : snapN S 2 x = some d) (ho : rOkX d = true) : reprNG [x] S = .ok (.fr (.str (rTxtX d)), S) := by
  unfold reprNG
  simp only [h, ho, if_true]
  rfl
theorem bad_list {S : Store} {x : SV} {l : List (SV × D)} (rp : ∃ t : Str, reprNG [x] S = .ok (.fr (.str t), S)) (L : LsC S x (l.map Prod.fst)) (hi : ∀ p ∈ l, It S p.1 p.2) (hk : ksB (.lst (l.map Prod.snd)) = false) : Bad S x :=
  ⟨rp, fun T w => by rw [are_run w (L.ext (T := T)).ls fun p hp => (hi p hp).ext, hk], fun w => by rw [lare_run w L.ls hi, hk]⟩
theorem bad_none {S : Store} {x : SV} (rp : ∃ t : Str, reprNG [x] S = .ok (.fr (.str t), S)) (h : ∀ T : Store, isiAG [x, .fr (.ty "list")] (S ++ T) = .ok (.fr (.bl false), S ++ T)) : Bad S x :=
  ⟨rp, fun T w => (no_run w (h T)).1, fun w => (no_run w (by have := h []; rwa [List.append_nil] at this)).2⟩
theorem th_plain {S : Store} {d : D} (h : YOk 90000 60 d) (hk : ksB d = false) (ns : ∀ r, d ≠ .scr r) (len : ∀ ds, d = .lst ds → (∀ e ∈ ds, (∀ r, e ≠ .scr r) ∧ (∀ es, e = .lst es → es.length ≤ 1000))) : Bad S (.fr d) := by
  have rp : ∃ t : Str, reprNG [.fr d] S = .ok (.fr (.str t), S) := ⟨_, reprN_of rfl (h.ro (by decide) (by decide))⟩
  have hx := h.x
  cases d with
  | lst ds =>
    have hxs : isXs ds = true := by simpa only [isX] using hx
    refine bad_list (l := ds.map fun e => (SV.fr e, e)) rp (.inl ⟨ds, rfl, by rw [List.map_map]; rfl⟩) (fun p hp => ?_) (by rw [List.map_map, show (Prod.snd ∘ fun e => (SV.fr e, e)) = (id : D → D) from rfl, List.map_id]; exact hk)
    obtain ⟨e, he, rfl⟩ := List.mem_map.mp hp
    exact ⟨rfl, isXs_mem hxs e he, (len ds rfl e he).1, (len ds rfl e he).2⟩
  | scr r => exact absurd rfl (ns r)
  | _ => exact bad_none rp fun T => by first | rfl | (exfalso; revert hx; simp [isX]; done)
theorem th_odd {S : Store} {d : D} (h : d ∈ ODD) : Bad S (.fr d) := by
  obtain ⟨h1, h2, h3, h4⟩ := odd_ns h
  refine th_plain ((odd_y h).mono (by decide) (by decide)) h3 h1 fun ds e x hx => ?_
  subst e
  have e : (ODD.all fun d => (match d with | .lst ds => ds.all fun e => (match e with | .scr _ => false | .lst _ => false | _ => true) | _ => true)) = true := by decide +kernel
  have := List.all_eq_true.mp e _ h
  have := List.all_eq_true.mp this x hx
  cases x with
  | scr r => cases this
  | lst r => cases this
  | _ => exact ⟨nofun, nofun⟩
theorem th_list {S : Store} {k : Nat} {l : List (SV × D)} (h : S[k]? = some (.lst (l.map Prod.fst))) (hk : k ≠ 0) (hi : ∀ p ∈ l, Itm S k p.1 p.2) (hl : l.length ≤ 15) : Bad S (.cell k) ∨ Gd S (.cell k) := by
  have sn : snapN S 2 (.cell k) = some (.lst (l.map Prod.snd)) := by
    unfold snapN
    simp only [h, itms_snap hi]
    rfl
  have y : YOk ((4000 + 1) * 15) (8 + 1) (.lst (l.map Prod.snd)) := y_lst (fun d hd => by obtain ⟨p, hp, rfl⟩ := List.mem_map.mp hd; exact (hi p hp).y) (by simpa using hl)
  have rp : ∃ t : Str, reprNG [.cell k] S = .ok (.fr (.str t), S) := ⟨_, reprN_of sn (y.ro (by decide) (by decide))⟩
  cases hks : ksB (.lst (l.map Prod.snd)) with
  | false => exact .inl (bad_list rp (.inr ⟨k, rfl, h⟩) (fun p hp => (hi p hp).it) hks)
  | true =>
    right
    simp only [ksB, Bool.and_eq_true, decide_eq_true_eq, List.length_map, List.all_map, List.map_map] at hks
    obtain ⟨⟨h1, h2⟩, h3, h4⟩ := hks
    have cel : ∀ p ∈ l, ∃ j q, p = (SV.cell j, D.lst q) ∧ S[j]? = some (.lst (q.map SV.fr)) ∧ j ≠ 0 ∧ j ≠ k ∧ (∀ d ∈ q, Ca d) ∧ q ≠ [] := fun p hp => by
      have pb : progB p.2 = true := List.all_eq_true.mp h3 p hp
      have it := hi _ hp
      obtain ⟨y, d⟩ := p
      dsimp only at it pb
      cases it with
      | fr _ hb _ _ => rw [hb] at pb; cases pb
      | cell hj h0 hk he hl =>
        simp only [progB, Bool.and_eq_true, decide_eq_true_eq] at pb
        exact ⟨_, _, rfl, hj, h0, hk, fun d hd => (he d hd).ca (List.all_eq_true.mp pb.2 d hd), fun e => by rw [e] at pb; simp at pb⟩
    have all : ∀ m : List (SV × D), (∀ p ∈ m, p ∈ l) → ∃ r : List (Nat × List D), m.map Prod.fst = (r.map fun q => SV.cell q.1) ∧ m.map (lenD ∘ Prod.snd) = (r.map fun q => q.2.length) ∧ ∀ q ∈ r, S[q.1]? = some (.lst (q.2.map SV.fr)) ∧ q.1 ≠ 0 ∧ q.1 ≠ k ∧ (∀ d ∈ q.2, Ca d) ∧ q.2 ≠ [] := by
      intro m
      induction m with
      | nil => exact fun _ => ⟨[], rfl, rfl, nofun⟩
      | cons p m ih =>
        intro hm
        obtain ⟨r, e1, e2, e3⟩ := ih fun q hq => hm q (List.mem_cons_of_mem _ hq)
        obtain ⟨j, q, rfl, f⟩ := cel p (hm p List.mem_cons_self)
        refine ⟨(j, q) :: r, by simp only [List.map_cons, e1], by simp only [List.map_cons, e2, Function.comp, lenD], fun s hs => ?_⟩
        rcases List.mem_cons.mp hs with rfl | hs
        · exact f
        · exact e3 s hs
    obtain ⟨r, e1, e2, e3⟩ := all l fun _ h => h
    have rl : r.length = l.length := by have := congrArg List.length e1; simpa using this.symm
    refine ⟨rp, k, r, rfl, hk, by rw [h, e1], e3, by omega, by omega, ?_⟩
    rw [← e2]
    exact h4

theorem plain_c {S : Store} (wf : WF S) {j : Nat} {xs : List SV} (h : S[j]? = some (.lst xs)) : m_is_plain_call [.cell j] S = .ok (.val (.fr (.bl false)), S) ∧ m_law_is_call [.cell j] S = .ok (.val (.fr (.bl false)), S) := by
  have lv := leave_val wf (d := .bl false)
  have e1 : isiG [.cell j, .fr (.ty "tuple")] S = .ok (.fr (.bl false), S) := by
    unfold isiG tyN
    simp only [h]
    rfl
  constructor
  · simp only [RR, DL.isNon, List.replicate_succ, List.replicate_zero, List.set_cons_zero, List.set_cons_succ, List.getElem?_cons_zero, List.getElem?_cons_succ, Option.map_some, Nat.reduceSub, and_self, and_true, true_and, decide_true, decide_false, if_true, if_false, Bool.false_eq_true, Bool.not_true, Bool.not_false, Nat.reduceAdd, Nat.reduceMul, Nat.reduceLeDiff, m_is_plain_call, b_is_plain_call, e1, lv]
  · simp only [RR, DL.isNon, List.replicate_succ, List.replicate_zero, List.set_cons_zero, List.set_cons_succ, List.getElem?_cons_zero, List.getElem?_cons_succ, Option.map_some, Nat.reduceSub, and_self, and_true, true_and, decide_true, decide_false, if_true, if_false, Bool.false_eq_true, Bool.not_true, Bool.not_false, Nat.reduceAdd, Nat.reduceMul, Nat.reduceLeDiff, m_law_is_call, b_law_is_call, e1, lv]
section
variable {S : Store} (wf : WF S)
include wf
theorem deep_all {k : Nat} {js : List Nat} (h0 : js ≠ []) : allG [.fr (.lst (js.map fun _ => D.bl false))] S = .ok (.fr (.bl false), S) := by
  have := all_bls (S := S) (js.map fun _ => false)
  rw [List.map_map] at this
  rw [show (js.map fun _ => D.bl false) = js.map (D.bl ∘ fun _ => false) from rfl, this, List.all_map]
  cases js with
  | nil => exact absurd rfl h0
  | cons a r => rfl
theorem deep_prog {k : Nat} {js : List Nat} (hk : S[k]? = some (.lst (js.map SV.cell))) (hj : ∀ j ∈ js, ∃ xs, S[j]? = some (.lst xs)) (h0 : js ≠ []) (hl : js.length ≤ 1000) : m_is_program [.cell k] S = .ok (.val (.fr (.bl false)), S) := by
  have lv := leave_val wf (d := .bl false)
  have e1 : isiG [.cell k, .fr (.ty "list")] S = .ok (.fr (.bl true), S) := by
    unfold isiG tyN
    simp only [hk]
    rfl
  have e2 := len_c hk
  rw [List.length_map] at e2
  have p : 0 < js.length := List.length_pos_iff.mpr h0
  have q' : decide ((js.length : Int) > 0) = true := decide_eq_true (by omega)
  have cc := lc_genL (S := S) (lk := fun S' => S'[k]? = some (.lst (js.map SV.cell))) (gm := gNm 2) (t := tTr) (e := eCall m_is_plain_call false (aC (eV 2) aN)) (own := [1, 2]) (rho := [some (.cell k), none, none])
    (fun as => by rw [List.getElem?_append_left (List.getElem?_eq_some_iff.mp hk).1]; exact hk) SV.cell (fun _ => D.bl false) js [] (by rw [List.length_nil]; omega) fun j hj' as => by
      obtain ⟨xs, hx⟩ := hj j hj'
      have e := (plain_c (wf_acc wf as) (j := j) (xs := xs) (by rw [List.getElem?_append_left (List.getElem?_eq_some_iff.mp hx).1]; exact hx)).1
      simp only [RR, DL.isNon, List.replicate_succ, List.replicate_zero, List.set_cons_zero, List.set_cons_succ, List.getElem?_cons_zero, List.getElem?_cons_succ, Option.map_some, Nat.reduceSub, and_self, and_true, true_and, decide_true, decide_false, if_true, if_false, Bool.false_eq_true, Bool.not_true, Bool.not_false, Nat.reduceAdd, Nat.reduceMul, Nat.reduceLeDiff, e]
  have al := deep_all wf (k := k) h0
  rw [List.nil_append, List.map_nil] at cc
  have sq := s_sqC hk
  simp only [RR, DL.isNon, List.replicate_succ, List.replicate_zero, List.set_cons_zero, List.set_cons_succ, List.getElem?_cons_zero, List.getElem?_cons_succ, Option.map_some, Nat.reduceSub, and_self, and_true, true_and, decide_true, decide_false, if_true, if_false, Bool.false_eq_true, Bool.not_true, Bool.not_false, Nat.reduceAdd, Nat.reduceMul, Nat.reduceLeDiff, m_is_program, b_is_program, e1, e2, q', sq, cc, s_lceF wf, al, lv]
theorem deep_run {x : SV} {k : Nat} {js : List Nat} (L : Ls S x [.cell k]) (hk : S[k]? = some (.lst (js.map SV.cell))) (hj : ∀ j ∈ js, ∃ xs, S[j]? = some (.lst xs)) (h0 : js ≠ []) (hl : js.length ≤ 1000) : m_are_programs [x] S = .ok (.val (.fr (.bl false)), S) := by
  have lv := leave_val wf (d := .bl false)
  have e1 := L.isl
  have e2 := L.ln
  rw [List.length_singleton] at e2
  obtain ⟨lk, sq, hlk⟩ := L.sq
  have p1 : decide ((1 : Int) ≤ ((1 : Nat) : Int)) = true := rfl
  have p2 : decide (((1 : Nat) : Int) ≤ 4) = true := rfl
  have c1 : lcM lk (gNm 2) tTr (eCall m_is_program false (aC (eV 2) aN)) [1, 2] [some x, none, none] [.cell k] S [] = .ok ([D.bl false].map SV.fr, S) :=
    lc_genL (fun ds => hlk _) SV.cell (fun _ => D.bl false) [k] [] (by rw [List.length_nil, List.length_singleton]; omega) fun p hp as => by
      rcases List.mem_singleton.mp hp with rfl
      have ex : ∀ {i : Nat} {c : Cell}, S[i]? = some c → (S ++ [.lst (as.map SV.fr)])[i]? = some c := fun h => by rw [List.getElem?_append_left (List.getElem?_eq_some_iff.mp h).1]; exact h
      have e := deep_prog (wf_acc wf as) (ex hk) (fun j hh => by obtain ⟨xs, hx⟩ := hj j hh; exact ⟨xs, ex hx⟩) h0 hl
      simp only [RR, DL.isNon, List.replicate_succ, List.replicate_zero, List.set_cons_zero, List.set_cons_succ, List.getElem?_cons_zero, List.getElem?_cons_succ, Option.map_some, Nat.reduceSub, and_self, and_true, true_and, decide_true, decide_false, if_true, if_false, Bool.false_eq_true, Bool.not_true, Bool.not_false, Nat.reduceAdd, Nat.reduceMul, Nat.reduceLeDiff, e]
  have al : allG [.fr (.lst [.bl false])] S = .ok (.fr (.bl false), S) := all_bls (S := S) [false]
  have sc := s_lceF (ds := [D.bl false]) wf
  simp only [RR, DL.isNon, List.replicate_succ, List.replicate_zero, List.set_cons_zero, List.set_cons_succ, List.getElem?_cons_zero, List.getElem?_cons_succ, Option.map_some, Nat.reduceSub, and_self, and_true, true_and, decide_true, decide_false, if_true, if_false, Bool.false_eq_true, Bool.not_true, Bool.not_false, Nat.reduceAdd, Nat.reduceMul, Nat.reduceLeDiff, m_are_programs, b_are_programs, e1, e2, p1, p2, sq, c1, sc, al, lv]
theorem deep_lrun {x : SV} {k : Nat} {js : List Nat} (L : Ls S x [.cell k]) (hk : S[k]? = some (.lst (js.map SV.cell))) (hj : ∀ j ∈ js, ∃ xs, S[j]? = some (.lst xs)) (h0 : js ≠ []) (hl : js.length ≤ 1000) : m_law_are_programs [x] S = .ok (.val (.fr (.bl false)), S) := by
  have lv := leave_val wf (d := .bl false)
  have e1 := L.isl
  have e2 := L.ln
  rw [List.length_singleton] at e2
  obtain ⟨lk, sq, hlk⟩ := L.sq
  have hl0 : lk S := by have := hlk []; rwa [List.append_nil] at this
  have p1 : decide ((1 : Int) ≤ ((1 : Nat) : Int)) = true := rfl
  have p2 : decide (((1 : Nat) : Int) ≤ 4) = true := rfl
  have i1 : isiG [.cell k, .fr (.ty "list")] S = .ok (.fr (.bl true), S) := by
    unfold isiG tyN
    simp only [hk]
    rfl
  have i2 : eqNG false (.cell k) (.fr (.lst [])) S = .ok (.fr (.bl false), S) := by
    cases js with
    | nil => exact absurd rfl h0
    | cons a r =>
      unfold eqNG unl
      simp only [rdL, hk]
      rfl
  have i3 : rdS S (.cell k) = some (js.map SV.cell) := by simp only [rdS, rdL, hk]
  have cc := lc_genL (S := S) (lk := fun _ => True) (gm := gNm 3) (t := tTr) (e := eCall m_law_is_call false (aC (eV 3) aN)) (own := [2, 3]) (rho := [some x, some (.cell k), none, none])
    (fun as => trivial) SV.cell (fun _ => D.bl false) js [] (by rw [List.length_nil]; omega) fun j hj' as => by
      obtain ⟨xs, hx⟩ := hj j hj'
      have e := (plain_c (wf_acc wf as) (j := j) (xs := xs) (by rw [List.getElem?_append_left (List.getElem?_eq_some_iff.mp hx).1]; exact hx)).2
      simp only [RR, DL.isNon, List.replicate_succ, List.replicate_zero, List.set_cons_zero, List.set_cons_succ, List.getElem?_cons_zero, List.getElem?_cons_succ, Option.map_some, Nat.reduceSub, and_self, and_true, true_and, decide_true, decide_false, if_true, if_false, Bool.false_eq_true, Bool.not_true, Bool.not_false, Nat.reduceAdd, Nat.reduceMul, Nat.reduceLeDiff, e]
  rw [List.nil_append, List.map_nil] at cc
  have al := deep_all wf (k := k) h0
  have lp : loopM lk (gNm 1) f_law_are_programs_1 [.cell k] [some x, none, none, none] S = .ok (.rt (.fr (.bl false)), [some x, some (.cell k), none, none], S) := by
    have st : (gNm 1 (.cell k) [some x, none, none, none] S).bind (k_body f_law_are_programs_1) = .ok (.rt (.fr (.bl false)), [some x, some (.cell k), none, none], S) := by
      simp only [RR, DL.isNon, List.replicate_succ, List.replicate_zero, List.set_cons_zero, List.set_cons_succ, List.getElem?_cons_zero, List.getElem?_cons_succ, Option.map_some, Nat.reduceSub, and_self, and_true, true_and, decide_true, decide_false, if_true, if_false, Bool.false_eq_true, Bool.not_true, Bool.not_false, Nat.reduceAdd, Nat.reduceMul, Nat.reduceLeDiff, f_law_are_programs_1, i1, i2, r_lsC, s_lsC i3, cc, s_lceF wf, al]
    rw [loop_cons _ _ _ hl0, st, r_bind, s_turnR]
  simp only [RR, DL.isNon, List.replicate_succ, List.replicate_zero, List.set_cons_zero, List.set_cons_succ, List.getElem?_cons_zero, List.getElem?_cons_succ, Option.map_some, Nat.reduceSub, and_self, and_true, true_and, decide_true, decide_false, if_true, if_false, Bool.false_eq_true, Bool.not_true, Bool.not_false, Nat.reduceAdd, Nat.reduceMul, Nat.reduceLeDiff, m_law_are_programs, b_law_are_programs, e1, e2, p1, p2, sq, lp, lv]
end

structure Prs (R : Store) (k : Nat) (l : List (Nat × List D)) : Prop where
  at_ : R[k]? = some (.lst (l.map fun q => SV.cell (q.1 + 1)))
  it : ∀ q ∈ l, R[q.1]? = some (.lst (q.2.map SV.fr)) ∧ q.1 ≠ k ∧ (∀ d ∈ q.2, Cl d) ∧ 1 ≤ q.2.length ∧ q.2.length ≤ 3
  n1 : 1 ≤ l.length
  n5 : l.length ≤ 5
theorem get_app {R T : Store} {k : Nat} {c : Cell} (h : R[k]? = some c) : (R ++ T)[k]? = some c := by rw [List.getElem?_append_left (List.getElem?_eq_some_iff.mp h).1]; exact h
theorem Prs.ext {R T : Store} {k : Nat} {l : List (Nat × List D)} (h : Prs R k l) : Prs (R ++ T) k l := ⟨get_app h.at_, fun q hq => ⟨get_app (h.it q hq).1, (h.it q hq).2⟩, h.n1, h.n5⟩
theorem get70 (c : Cell) (R T : Store) (i : Nat) : (c :: (R ++ T))[R.length + (1 + i)]? = T[i]? := by
  rw [show R.length + (1 + i) = R.length + i + 1 by omega, List.getElem?_cons_succ, List.getElem?_append_right (by omega)]
  congr 1
  omega
theorem set70 (c x : Cell) (R T : Store) (i : Nat) : (c :: (R ++ T)).set (R.length + (1 + i)) x = c :: (R ++ T.set i x) := by
  rw [show R.length + (1 + i) = R.length + i + 1 by omega, List.set_cons_succ, List.set_append, if_neg (by omega)]
  congr 3
  omega
theorem addF70 (xs ys : List D) (S : Store) : addG false (.fr (.lst xs)) (.fr (.lst ys)) S = .ok (.fr (.lst (xs ++ ys)), S) ∨ sizeLine < (xs ++ ys).length := by
  by_cases h : (xs ++ ys).length ≤ sizeLine
  · left
    unfold addG
    simp only [rdL]
    unfold newL
    rw [← List.map_append, if_pos (by rw [List.length_map]; exact h), DL.allFr_map]
    rfl
  · right; omega
theorem addF {xs ys : List D} (h : (xs ++ ys).length ≤ 1000) (S : Store) : addG false (.fr (.lst xs)) (.fr (.lst ys)) S = .ok (.fr (.lst (xs ++ ys)), S) := by
  have hs := sizeLine_eq
  exact (addF70 xs ys S).resolve_right (by omega)
theorem addT (xs ys : List D) (h : (xs ++ ys).length ≤ 1000) (S : Store) : addG false (.fr (.tup xs)) (.fr (.tup ys)) S = .ok (.fr (.tup (xs ++ ys)), S) := by
  have hs := sizeLine_eq
  rw [List.length_append] at h
  unfold addG
  dsimp only
  rw [if_pos (by omega)]
  rfl
theorem addC {a b : SV} {xs ys : List SV} {S : Store} (ha : rdL S a = some xs) (hb : rdL S b = some ys) (hl : (xs ++ ys).length ≤ 1000) (hn : ∀ i, a ≠ .fr (.int i)) (hs : ∀ i, a ≠ .fr (.str i)) (ht : ∀ i, a ≠ .fr (.tup i)) : addG true a b S = .ok (.cell S.length, S ++ [.lst (xs ++ ys)]) := by
  have hz := sizeLine_eq
  unfold addG
  split
  · exact absurd rfl (hn _)
  · exact absurd rfl (hs _)
  · exact absurd rfl (ht _)
  · rw [ha, hb]
    dsimp only
    unfold newL
    rw [if_pos (by omega)]
    rfl
theorem slF {S : Store} {k : Nat} {ds : List D} (h : S[k]? = some (.lst (ds.map SV.fr))) (l u : Option Int) : slG false (.cell k) l u S = .ok (.fr (.lst (cutA ds l u)), S) := by
  unfold slG
  simp only [rdS, rdL, h, cut_map, newL0, DL.allFr_map, Bool.false_eq_true, if_false]
theorem slC {S : Store} {k : Nat} {xs : List SV} (h : S[k]? = some (.lst xs)) (l u : Option Int) : slG true (.cell k) l u S = .ok (.cell S.length, S ++ [.lst (cutA xs l u)]) := by
  unfold slG
  simp only [rdS, rdL, h, newL0, if_true]
theorem slT (ds : List D) (l u : Option Int) (S : Store) : slG false (.fr (.tup ds)) l u S = .ok (.fr (.tup (cutA ds l u)), S) := rfl
theorem tupF {S : Store} {k : Nat} {ds : List D} (h : S[k]? = some (.lst (ds.map SV.fr))) : tupleG [.cell k] S = .ok (.fr (.tup ds), S) := by
  unfold tupleG
  simp only [rdS, rdL, h, DL.allFr_map]
theorem cut_n {α : Type} (xs : List α) (n : Nat) : cutA xs (some ((n : Int) + 1)) none = xs.drop (n + 1) := by
  rw [show (n : Int) + 1 = ((n + 1 : Nat) : Int) by omega, cut_from]
def partD (c : List D) (m : Nat) (o : D) : List D := c.take m ++ [o] ++ c.drop (m + 1)
theorem part_el {c o : D} (hc : Cl c) (ho : o ∈ ODD) {m : Nat} (hm : m < 3) : ∃ cs : List D, c = .tup cs ∧ cs.length = 3 ∧ El (.tup (partD cs m o)) ∧ YOk 200 5 (.lst cs) := by
  obtain ⟨l, f, z, rfl, hl, hf, hz⟩ := hc.ca.inv
  obtain ⟨a, b, d⟩ := bent0 hl hf hz ho
  refine ⟨_, rfl, rfl, ?_, y_l3 (y_int9 ⟨hl.1, by unfold T39; omega⟩) (y_int9 ⟨hf.1, by omega⟩) (y_end9 hf.1 hz)⟩
  rcases (by omega : m = 0 ∨ m = 1 ∨ m = 2) with rfl | rfl | rfl
  · exact a
  · exact b
  · exact d
structure Made (R T : Store) (l : List (Nat × List D)) (q : Nat × List D) (A B C : List D) (E F : D) : Prop where
  t : T = [.lst (A.map SV.fr), .lst (B.map SV.fr), .lst [.fr (.tup q.2), .fr (.lst []), .cell (R.length + 1), .fr E, .cell (R.length + 2), .cell (R.length + 4), .fr F], .lst (C.map SV.fr)]
  a : (∀ d ∈ A, El d) ∧ A.length ≤ 12
  b : (∀ d ∈ B, El d) ∧ B.length ≤ 12
  c : (∀ d ∈ C, El d) ∧ C.length ≤ 12
  e : E ∈ ODD
  f : YOk 4000 8 F ∧ progB F = false ∧ (∀ r, F ≠ .scr r) ∧ ∀ ds, F = .lst ds → ds.length ≤ 1000
  q : q ∈ l
theorem wfF {S : Store} (w : WF S) (ds : List D) : WF (S ++ [.lst (ds.map SV.fr)]) := wf_acc w ds
theorem bent_head (b : Bag) (hb : b.Ok) {R : Store} {k : Nat} {l : List (Nat × List D)} (hP : Prs R k l) (w : WF (b.c :: R)) : ∃ (b' : Bag) (T : Store) (m1 m2 : Nat) (q : Nat × List D) (A B C : List D) (E F : D) (rho : Slots), Bag.Ok b' ∧ WF (b'.c :: (R ++ T)) ∧ Made R T l q A B C E F ∧ m1 < l.length ∧ m2 < 8 ∧
    rho.length = 9 ∧ rho[0]? = some (some (.cell 0)) ∧ rho[1]? = some (some (.cell (k + 1))) ∧ rho[2]? = some (some (.fr (.int m1))) ∧ rho[3]? = some (some (.fr (.int m2))) ∧ rho[4]? = some (some (.cell (q.1 + 1))) ∧ rho[8]? = some (some (.cell (R.length + 3))) ∧
    ∀ X : SM, (sSeq (sPar 2 3 (aC (eCall m_law_take false (aC (eV 0) (aC (eA lenG (aC (eV 1) aN)) aN))) (aC (eCall m_law_take false (aC (eV 0) (aC (eC (.int 8)) aN))) aN)))
    (sSeq (sSet 4 (e2 ixG (eV 1) (eV 2)))
    (sSeq (sSet 5 (eCall m_law_take false (aC (eV 0) (aC (eA lenG (aC (eV 4) aN)) aN))))
    (sSeq (sPar 6 7 (aC (e2 ixG (eV 4) (eV 5)) (aC (eCall m_law_take false (aC (eV 0) (aC (eC (.int 3)) aN))) aN)))
    (sSeq (sSet 8 (eA (newL true) (aC (eA (tupleG) (aC (eV 4) aN)) (aC (eA (newL false) aN) (aC (e2 (addG true) (eV 4) (eV 4)) (aC (eCall m_law_odd false (aC (eV 0) aN)) (aC (e2 (addG true) (e2 (addG false) (eSl false (eV 4) pN (pS (eV 5))) (eA (newL false) (aC (eCall m_law_odd false (aC (eV 0) aN)) aN))) (eSl false (eV 4) (pS (e2 (addG false) (eV 5) (eC (.int 1)))) pN)) aN)))))))
    (sSeq (sEx (eMt "list" appendG (eV 8) (aC (e2 (addG true) (e2 (addG false) (eSl false (eV 4) pN (pS (eV 5))) (eA (newL false) (aC (e2 (addG false) (e2 (addG false) (eSl false (eV 6) pN (pS (eV 7))) (eA newT (aC (eCall m_law_odd false (aC (eV 0) aN)) aN))) (eSl false (eV 6) (pS (e2 (addG false) (eV 7) (eC (.int 1)))) pN)) aN))) (eSl false (eV 4) (pS (e2 (addG false) (eV 5) (eC (.int 1)))) pN)) aN)))
    (sSeq (sEx (eMt "list" appendG (eV 8) (aC (e2 (addG false) (e2 (addG false) (eSl false (eV 4) pN (pS (eV 5))) (eA (newL false) (aC (eA (listG false) (aC (eV 6) aN)) aN))) (eSl false (eV 4) (pS (e2 (addG false) (eV 5) (eC (.int 1)))) pN)) aN))) X)))))))
      [some (.cell 0), some (.cell (k + 1)), none, none, none, none, none, none, none] (b.c :: R) = X rho (b'.c :: (R ++ T)) := by
  have n1 := hP.n1
  have n5 := hP.n5
  obtain ⟨v1, b1, l1, u1, k1, w1, e1⟩ := take_run b hb (l.length : Int) (by omega) (lognat (by omega)) R w
  obtain ⟨v2, b2, l2, u2, k2, w2, e2⟩ := take_run b1 k1 8 (by decide) (by decide) R w1
  obtain ⟨m1, rfl⟩ : ∃ m : Nat, v1 = (m : Int) := ⟨v1.toNat, by omega⟩
  obtain ⟨m2, rfl⟩ : ∃ m : Nat, v2 = (m : Int) := ⟨v2.toNat, by omega⟩
  have h1 : m1 < l.length := by omega
  have hq : l[m1] ∈ l := List.getElem_mem h1
  obtain ⟨q, hqe⟩ : ∃ q, l[m1] = q := ⟨_, rfl⟩
  rw [hqe] at hq
  obtain ⟨qa, qk, qc, q1, q3⟩ := hP.it q hq
  obtain ⟨v3, b3, l3, u3, k3, w3, e3⟩ := take_run b2 k2 (q.2.length : Int) (by omega) (lognat (by omega)) R w2
  obtain ⟨m3, rfl⟩ : ∃ m : Nat, v3 = (m : Int) := ⟨v3.toNat, by omega⟩
  have h3 : m3 < q.2.length := by omega
  obtain ⟨v4, b4, l4, u4, k4, w4, e4⟩ := take_run b3 k3 3 (by decide) (by decide) R w3
  obtain ⟨m4, rfl⟩ : ∃ m : Nat, v4 = (m : Int) := ⟨v4.toNat, by omega⟩
  obtain ⟨c, hce⟩ : ∃ c, q.2[m3] = c := ⟨_, rfl⟩
  have hcl : Cl c := hce ▸ qc _ (List.getElem_mem h3)
  have wA := wfF w4 (q.2 ++ q.2)
  rw [List.cons_append] at wA
  obtain ⟨o1, b5, k5, w5, ho1, e5⟩ := odd_run b4 k4 _ wA
  obtain ⟨o2, b6, k6, w6, ho2, e6⟩ := odd_run b5 k5 _ w5
  have wB := wfF w6 (partD q.2 m3 o2)
  rw [List.cons_append, List.append_assoc, List.cons_append, List.nil_append] at wB
  have wL : WF (b6.c :: (R ++ [.lst ((q.2 ++ q.2).map SV.fr), .lst ((partD q.2 m3 o2).map SV.fr), .lst [.fr (.tup q.2), .fr (.lst []), .cell (R.length + 1), .fr o1, .cell (R.length + 2)]])) := by
    have := wB.snoc (c := .lst [.fr (.tup q.2), .fr (.lst []), .cell (R.length + 1), .fr o1, .cell (R.length + 2)]) (by simp only [Cell.below, List.all_cons, List.all_nil, SV.below, Bool.and_true, Bool.true_and, List.length_cons, List.length_append, List.length_nil, Bool.and_eq_true, decide_eq_true_eq]; omega)
    rw [List.cons_append, List.append_assoc, List.cons_append, List.cons_append, List.nil_append] at this
    exact this
  obtain ⟨o3, b7, k7, w7, ho3, e7⟩ := odd_run b6 k6 _ wL
  obtain ⟨cs, rfl, hcs, hel, hyl⟩ := part_el hcl ho3 (m := m4) (by omega)
  have wC := wfF w7 (partD q.2 m3 (.tup (partD cs m4 o3)))
  rw [List.cons_append, List.append_assoc, List.cons_append, List.cons_append, List.cons_append, List.nil_append] at wC
  have elq : ∀ d ∈ q.2, El d := fun d hd => (qc d hd).ca.el
  have elp : ∀ o : D, El o → ∀ d ∈ partD q.2 m3 o, El d := fun o ho d hd => by
    simp only [partD, List.mem_append, List.mem_singleton] at hd
    rcases hd with (hd | rfl) | hd
    · exact elq d (List.mem_of_mem_take hd)
    · exact ho
    · exact elq d (List.mem_of_mem_drop hd)
  have lenp : ∀ o : D, (partD q.2 m3 o).length ≤ 12 := fun o => by simp only [partD, List.length_append, List.length_take, List.length_drop, List.length_singleton]; omega
  have i1 : ∀ b : Bag, ixG (.cell (k + 1)) (.fr (.int (m1 : Int))) (b.c :: R) = .ok (.cell (q.1 + 1), b.c :: R) := fun b => by
    rw [r_xC (xs := l.map fun q => SV.cell (q.1 + 1)) (by rw [List.getElem?_cons_succ]; exact hP.at_), DL.atI_nat, List.getElem?_map, List.getElem?_eq_getElem h1, hqe]
    rfl
  have i2 : ∀ b : Bag, ixG (.cell (q.1 + 1)) (.fr (.int (m3 : Int))) (b.c :: R) = .ok (.fr (.tup cs), b.c :: R) := fun b => by
    rw [r_xC (xs := q.2.map SV.fr) (by rw [List.getElem?_cons_succ]; exact qa), DL.atI_nat, List.getElem?_map, List.getElem?_eq_getElem h3, hce]
    rfl
  have ln1 : ∀ b : Bag, lenG [.cell (k + 1)] (b.c :: R) = .ok (.fr (.int l.length), b.c :: R) := fun b => by
    rw [len_c (xs := l.map fun q => SV.cell (q.1 + 1)) (by rw [List.getElem?_cons_succ]; exact hP.at_), List.length_map]
  have ln2 : ∀ b : Bag, lenG [.cell (q.1 + 1)] (b.c :: R) = .ok (.fr (.int q.2.length), b.c :: R) := fun b => by
    rw [len_c (xs := q.2.map SV.fr) (by rw [List.getElem?_cons_succ]; exact qa), List.length_map]
  have qT : ∀ (b : Bag) (T : Store), (b.c :: (R ++ T))[q.1 + 1]? = some (.lst (q.2.map SV.fr)) := fun b T => by rw [List.getElem?_cons_succ]; exact get_app qa
  have q0 : ∀ b : Bag, (b.c :: R)[q.1 + 1]? = some (.lst (q.2.map SV.fr)) := fun b => by rw [List.getElem?_cons_succ]; exact qa
  have tu : ∀ b : Bag, tupleG [.cell (q.1 + 1)] (b.c :: R) = .ok (.fr (.tup q.2), b.c :: R) := fun b => tupF (q0 b)
  have aA : addG true (.cell (q.1 + 1)) (.cell (q.1 + 1)) (b4.c :: R) = .ok (.cell (R.length + 1), b4.c :: (R ++ [.lst ((q.2 ++ q.2).map SV.fr)])) := by
    have r : rdL (b4.c :: R) (.cell (q.1 + 1)) = some (q.2.map SV.fr) := by simp only [rdL, q0]
    rw [addC r r (by simp only [List.length_append, List.length_map]; omega) (fun _ h => by cases h) (fun _ h => by cases h) (fun _ h => by cases h), List.map_append]
    rfl
  have s1 : ∀ (b : Bag) (T : Store), slG false (.cell (q.1 + 1)) none (some (m3 : Int)) (b.c :: (R ++ T)) = .ok (.fr (.lst (q.2.take m3)), b.c :: (R ++ T)) := fun b T => by rw [slF (qT b T), cut_to]
  have s2 : ∀ (b : Bag) (T : Store), slG false (.cell (q.1 + 1)) (some ((m3 : Int) + 1)) none (b.c :: (R ++ T)) = .ok (.fr (.lst (q.2.drop (m3 + 1))), b.c :: (R ++ T)) := fun b T => by rw [slF (qT b T), cut_n]
  have f1 : ∀ (o : D) (S : Store), addG false (.fr (.lst (q.2.take m3))) (.fr (.lst [o])) S = .ok (.fr (.lst (q.2.take m3 ++ [o])), S) := fun o S => addF (by simp only [List.length_append, List.length_take, List.length_singleton]; omega) S
  have aB : addG true (.fr (.lst (q.2.take m3 ++ [o2]))) (.fr (.lst (q.2.drop (m3 + 1)))) (b6.c :: (R ++ [.lst ((q.2 ++ q.2).map SV.fr)])) = .ok (.cell (R.length + 2), b6.c :: (R ++ [.lst ((q.2 ++ q.2).map SV.fr), .lst ((partD q.2 m3 o2).map SV.fr)])) := by
    rw [addC rfl rfl (by simp only [List.length_append, List.length_map, List.length_take, List.length_drop, List.length_singleton]; omega) (fun _ h => by cases h) (fun _ h => by cases h) (fun _ h => by cases h), ← List.map_append]
    simp only [List.length_cons, List.length_append, List.length_nil, List.cons_append, List.append_assoc, List.nil_append, partD]
  have nL : newL true [.fr (.tup q.2), .fr (.lst []), .cell (R.length + 1), .fr o1, .cell (R.length + 2)] (b6.c :: (R ++ [.lst ((q.2 ++ q.2).map SV.fr), .lst ((partD q.2 m3 o2).map SV.fr)])) = .ok (.cell (R.length + 3), b6.c :: (R ++ [.lst ((q.2 ++ q.2).map SV.fr), .lst ((partD q.2 m3 o2).map SV.fr), .lst [.fr (.tup q.2), .fr (.lst []), .cell (R.length + 1), .fr o1, .cell (R.length + 2)]])) := by
    rw [r_newC (by rw [sizeLine_eq]; simp)]
    simp only [List.length_cons, List.length_append, List.length_nil, List.cons_append, List.append_assoc, List.nil_append]
  have t1 : ∀ S : Store, slG false (.fr (.tup cs)) none (some (m4 : Int)) S = .ok (.fr (.tup (cs.take m4)), S) := fun S => by rw [slT, cut_to]
  have t2 : ∀ S : Store, slG false (.fr (.tup cs)) (some ((m4 : Int) + 1)) none S = .ok (.fr (.tup (cs.drop (m4 + 1))), S) := fun S => by rw [slT, cut_n]
  have t3 : ∀ S : Store, addG false (.fr (.tup (cs.take m4))) (.fr (.tup [o3])) S = .ok (.fr (.tup (cs.take m4 ++ [o3])), S) := fun S => addT _ _ (by simp only [List.length_append, List.length_take, List.length_singleton]; omega) S
  have t4 : ∀ S : Store, addG false (.fr (.tup (cs.take m4 ++ [o3]))) (.fr (.tup (cs.drop (m4 + 1)))) S = .ok (.fr (.tup (partD cs m4 o3)), S) := fun S => addT _ _ (by simp only [List.length_append, List.length_take, List.length_drop, List.length_singleton]; omega) S
  have aC : addG true (.fr (.lst (q.2.take m3 ++ [.tup (partD cs m4 o3)]))) (.fr (.lst (q.2.drop (m3 + 1)))) (b7.c :: (R ++ [.lst ((q.2 ++ q.2).map SV.fr), .lst ((partD q.2 m3 o2).map SV.fr), .lst [.fr (.tup q.2), .fr (.lst []), .cell (R.length + 1), .fr o1, .cell (R.length + 2)]])) =
      .ok (.cell (R.length + 4), b7.c :: (R ++ [.lst ((q.2 ++ q.2).map SV.fr), .lst ((partD q.2 m3 o2).map SV.fr), .lst [.fr (.tup q.2), .fr (.lst []), .cell (R.length + 1), .fr o1, .cell (R.length + 2)], .lst ((partD q.2 m3 (.tup (partD cs m4 o3))).map SV.fr)])) := by
    rw [addC rfl rfl (by simp only [List.length_append, List.length_map, List.length_take, List.length_drop, List.length_singleton]; omega) (fun _ h => by cases h) (fun _ h => by cases h) (fun _ h => by cases h), ← List.map_append]
    simp only [List.length_cons, List.length_append, List.length_nil, List.cons_append, List.append_assoc, List.nil_append, partD]
  have ty1 : ∀ (b : Bag) (A B : Cell) (xs : List SV) (T : Store), tyS "list" (b.c :: (R ++ A :: B :: .lst xs :: T)) (.cell (R.length + 3)) = true := fun b A B xs T => by
    have : (b.c :: (R ++ A :: B :: .lst xs :: T))[R.length + (1 + 2)]? = some (.lst xs) := get70 _ _ _ 2
    rw [show R.length + (1 + 2) = R.length + 3 from rfl] at this
    unfold tyS
    simp only [rdL, this]
    rfl
  have ap : ∀ (b : Bag) (A B : Cell) (xs : List SV) (T : Store) (y : SV), xs.length ≤ 1000 → appendG (.cell (R.length + 3)) [y] (b.c :: (R ++ A :: B :: .lst xs :: T)) = .ok (.fr .non, b.c :: (R ++ A :: B :: .lst (xs ++ [y]) :: T)) := fun b A B xs T y hx => by
    have g : (b.c :: (R ++ A :: B :: .lst xs :: T))[R.length + (1 + 2)]? = some (.lst xs) := get70 _ _ _ 2
    have s := set70 b.c (.lst (xs ++ [y])) R (A :: B :: .lst xs :: T) 2
    rw [app_at g (by omega)]
    rw [show R.length + (1 + 2) = R.length + 3 from rfl] at s ⊢
    rw [s]
    rfl
  have lt : ∀ S : Store, listG false [.fr (.tup cs)] S = .ok (.fr (.lst cs), S) := fun S => by
    unfold listG
    simp only [rdS, rdL, newL0, DL.allFr_map, Bool.false_eq_true, if_false]
  have f2 : ∀ S : Store, addG false (.fr (.lst (q.2.take m3 ++ [.lst cs]))) (.fr (.lst (q.2.drop (m3 + 1)))) S = .ok (.fr (.lst (partD q.2 m3 (.lst cs))), S) := fun S => addF (by simp only [List.length_append, List.length_take, List.length_drop, List.length_singleton]; omega) S
  refine ⟨b7, _, m1, m2, q, q.2 ++ q.2, partD q.2 m3 o2, partD q.2 m3 (.tup (partD cs m4 o3)), o1, .lst (partD q.2 m3 (.lst cs)), [some (.cell 0), some (.cell (k + 1)), some (.fr (.int m1)), some (.fr (.int m2)), some (.cell (q.1 + 1)), some (.fr (.int m3)), some (.fr (.tup cs)), some (.fr (.int m4)), some (.cell (R.length + 3))], k7, ?_,
    ⟨rfl, ⟨fun d hd => (List.mem_append.mp hd).elim (elq d) (elq d), by rw [List.length_append]; omega⟩, ⟨elp _ (odd_el ho2), lenp _⟩, ⟨elp _ hel, lenp _⟩, ho1, ⟨?_, ?_, nofun, fun ds e => by cases e; exact Nat.le_trans (lenp _) (by decide)⟩, hq⟩, h1, by omega, rfl, rfl, rfl, rfl, rfl, rfl, rfl, fun X => ?_⟩
  · have := wC.set (R.length + (1 + 2)) (c := .lst [.fr (.tup q.2), .fr (.lst []), .cell (R.length + 1), .fr o1, .cell (R.length + 2), .cell (R.length + 4), .fr (.lst (partD q.2 m3 (.lst cs)))]) (by simp only [Cell.below, List.all_cons, List.all_nil, SV.below, Bool.and_true, Bool.true_and, List.length_cons, List.length_append, List.length_nil, Bool.and_eq_true, decide_eq_true_eq]; omega)
    rw [set70] at this
    exact this
  · refine (y_lst (B := 200) (n := 5) (m := 12) (fun d hd => ?_) (lenp _)).mono (by decide) (by decide)
    simp only [partD, List.mem_append, List.mem_singleton] at hd
    rcases hd with (hd | rfl) | hd
    · exact (elq d (List.mem_of_mem_take hd)).y
    · exact hyl
    · exact (elq d (List.mem_of_mem_drop hd)).y
  · have : (partD q.2 m3 (.lst cs)).all callB = false := by
      rw [Bool.eq_false_iff]
      intro h
      have := List.all_eq_true.mp h (.lst cs) (by simp [partD])
      simp [callB] at this
    simp only [progB, this, Bool.and_false]
  · simp only [RR, DL.isNon, List.replicate_succ, List.replicate_zero, List.set_cons_zero, List.set_cons_succ, List.getElem?_cons_zero, List.getElem?_cons_succ, Option.map_some, Nat.reduceSub, and_self, and_true, true_and, decide_true, decide_false, if_true, if_false, Bool.false_eq_true, Bool.not_true, Bool.not_false, Nat.reduceAdd, Nat.reduceMul, Nat.reduceLeDiff, take_is, ln1, e1, e2, i1, ln2, e3, i2, e4, tu, aA, e5, s1, s2, e6, f1, aB, nL]
    simp only [RR, DL.isNon, List.replicate_succ, List.replicate_zero, List.set_cons_zero, List.set_cons_succ, List.getElem?_cons_zero, List.getElem?_cons_succ, Option.map_some, Nat.reduceSub, and_self, and_true, true_and, decide_true, decide_false, if_true, if_false, Bool.false_eq_true, Bool.not_true, Bool.not_false, Nat.reduceAdd, Nat.reduceMul, Nat.reduceLeDiff, s_mt appendG (ty1 _ _ _ _ _), s1, s2, t1, t2, e7, t3, t4, f1, aC, ap, List.length_cons, List.length_nil, Nat.zero_add, lt, f2, List.cons_append, List.nil_append]

def k_ds1 (n : Nat) (r : SV × Store) : Res (SV × Store) := match r.2[n]? with
  | some (.dic []) => .ok (.cell n, r.2.set n (.dic [(.inl 0, r.1)]))
  | _ => .stuck
theorem r_ds1 (mv : EM) (rho : Slots) (S : Store) : eDs (dC (eC (.int 0)) mv dN) rho S = (mv rho (S ++ [.dic []])).bind (k_ds1 S.length) := by
  unfold eDs dC eC dN
  simp only [r_bind]
  cases mv rho (S ++ [.dic []]) with
  | ok r => rfl
  | exc _ _ _ => rfl
  | stuck => rfl
theorem s_ds1 {n : Nat} {x : SV} {S : Store} (h : S[n]? = some (.dic [])) : k_ds1 n (x, S) = .ok (.cell n, S.set n (.dic [(.inl 0, x)])) := by
  unfold k_ds1
  simp only [h]
section
variable {R T : Store} {k : Nat} {l : List (Nat × List D)} {q : Nat × List D} {A B C : List D} {E F : D}
theorem Made.at_ (h : Made R T l q A B C E F) (b : Bag) (U : Store) : (b.c :: (R ++ (T ++ U)))[R.length + 3]? = some (.lst [.fr (.tup q.2), .fr (.lst []), .cell (R.length + 1), .fr E, .cell (R.length + 2), .cell (R.length + 4), .fr F]) := by
  have := get70 b.c R (T ++ U) 2
  rw [show R.length + (1 + 2) = R.length + 3 from rfl] at this
  rw [this, h.t]
  rfl
theorem itm_prog (hP : Prs R k l) (b : Bag) (U : Store) {m : Nat} (hm : m ≠ q.1 + 1) (hq : q ∈ l) : Itm (b.c :: (R ++ U)) m (.cell (q.1 + 1)) (.lst q.2) := by
  obtain ⟨qa, qk, qc, q1, q3⟩ := hP.it q hq
  exact .cell (by rw [List.getElem?_cons_succ]; exact get_app qa) (by omega) (Ne.symm hm) (fun d hd => (qc d hd).ca.el) (by omega)
theorem itm_prog_lt (hP : Prs R k l) (hq : q ∈ l) : q.1 + 1 < R.length + 1 := by
  have := (List.getElem?_eq_some_iff.mp (hP.it q hq).1).1
  omega
theorem Made.item (hP : Prs R k l) (h : Made R T l q A B C E F) {i : Nat} (hi : i < 7) : ∃ y d, atI [SV.fr (.tup q.2), .fr (.lst []), .cell (R.length + 1), .fr E, .cell (R.length + 2), .cell (R.length + 4), .fr F] (i : Int) = some y ∧ ∀ (b : Bag) (U : Store) (m : Nat), R.length + 4 < m → Itm (b.c :: (R ++ (T ++ U))) m y d := by
  have gt : ∀ (b : Bag) (U : Store) j c, T[j]? = some c → (b.c :: (R ++ (T ++ U)))[R.length + (1 + j)]? = some c := fun b U j c e => by rw [get70, get_app e]
  have ht := h.t
  obtain ⟨_, _, hcq, _, hq3⟩ := hP.it q h.q
  have g0 := fun b U => gt b U 0 (.lst (A.map SV.fr)) (by rw [ht]; rfl)
  have g1 := fun b U => gt b U 1 (.lst (B.map SV.fr)) (by rw [ht]; rfl)
  have g3 := fun b U => gt b U 3 (.lst (C.map SV.fr)) (by rw [ht]; rfl)
  rcases (by omega : i = 0 ∨ i = 1 ∨ i = 2 ∨ i = 3 ∨ i = 4 ∨ i = 5 ∨ i = 6) with rfl | rfl | rfl | rfl | rfl | rfl | rfl
  · exact ⟨_, _, DL.atI_nat _ 0, fun b U m hm => .fr ((y_tup (m := 12) (fun d hd => ((hcq d hd).ca.el).y) (by omega)).mono (by decide) (by decide)) rfl nofun nofun⟩
  · exact ⟨_, _, DL.atI_nat _ 1, fun b U m hm => .fr ((y_lst (B := 0) (n := 0) (m := 0) (ds := []) nofun (by decide)).mono (by decide) (by decide)) rfl nofun fun ds e => by cases e; exact Nat.zero_le _⟩
  · exact ⟨_, _, DL.atI_nat _ 2, fun b U m hm => .cell (g0 b U) (by omega) (by omega) h.a.1 h.a.2⟩
  · exact ⟨_, _, DL.atI_nat _ 3, fun b U m hm => .fr ((odd_y h.e).mono (by decide) (by decide)) (odd_ns h.e).2.2.2 (odd_ns h.e).1 (odd_ns h.e).2.1⟩
  · exact ⟨_, _, DL.atI_nat _ 4, fun b U m hm => .cell (g1 b U) (by omega) (by omega) h.b.1 h.b.2⟩
  · exact ⟨_, _, DL.atI_nat _ 5, fun b U m hm => .cell (g3 b U) (by omega) (by omega) h.c.1 h.c.2⟩
  · exact ⟨_, _, DL.atI_nat _ 6, fun b U m hm => .fr h.f.1 h.f.2.1 h.f.2.2.1 h.f.2.2.2⟩
end
theorem wf_get {S : Store} (w : WF S) {i : Nat} {xs : List SV} (h : S[i]? = some (.lst xs)) : ∀ y ∈ xs, y.below S.length = true := by
  have : Cell.below S.length (.lst xs) = true := List.all_eq_true.mp w _ (List.mem_of_getElem? h)
  simpa only [Cell.below, List.all_eq_true] using this
theorem wf_app70 {S T : Store} (h : WF S) (hT : ∀ c ∈ T, c.below (S.length + T.length) = true) : WF (S ++ T) := by
  unfold WF at h ⊢
  simp only [List.all_append, List.length_append, Bool.and_eq_true, List.all_eq_true] at h ⊢
  exact ⟨fun c hc => Cell.below_mono (Nat.le_add_right _ _) (h c hc), hT⟩
theorem below_lst {n m : Nat} {xs : List SV} (h : ∀ y ∈ xs, y.below n = true) (hm : n ≤ m) : Cell.below m (.lst xs) = true := by
  simp only [Cell.below, List.all_eq_true]
  exact fun y hy => SV.below_mono hm (h y hy)
def pr70 (q : Nat × List D) : SV × D := (.cell (q.1 + 1), .lst q.2)
theorem pr_fst (l : List (Nat × List D)) : (l.map pr70).map Prod.fst = l.map fun q => SV.cell (q.1 + 1) := by rw [List.map_map]; rfl
theorem repl3 {α : Type} (l : List α) : (List.replicate (Int.toNat 3) l).flatten = l ++ (l ++ l) := by
  show (List.replicate 3 l).flatten = _
  simp [List.replicate_succ]
theorem mulC {S : Store} {k : Nat} {xs : List SV} (h : S[k]? = some (.lst xs)) (hl : xs.length ≤ 100) : mulG true (.cell k) (.fr (.int 3)) S = .ok (.cell S.length, S ++ [.lst (xs ++ (xs ++ xs))]) := by
  have hz := sizeLine_eq
  unfold mulG
  simp only [rdL, h]
  rw [if_pos ⟨by decide, by decide, by show xs.length * 3 ≤ _; omega⟩, repl3]
  unfold newL
  rw [if_pos (by simp only [List.length_append]; omega)]
  rfl
theorem tupC70 {S : Store} {k : Nat} {xs : List SV} (h : S[k]? = some (.lst xs)) : tupCG [.cell k] S = .ok (.cell S.length, S ++ [.tup xs]) := by
  unfold tupCG
  simp only [rdS, rdL, h]
section
variable {R : Store} {k : Nat} {l : List (Nat × List D)}
theorem Prs.cut (hP : Prs R k l) (b : Bag) (U : Store) (lo hi : Option Int) : slG true (.cell (k + 1)) lo hi (b.c :: (R ++ U)) = .ok (.cell (R.length + (1 + U.length)), b.c :: (R ++ (U ++ [.lst (cutA (l.map fun q => SV.cell (q.1 + 1)) lo hi)]))) := by
  rw [slC (xs := l.map fun q => SV.cell (q.1 + 1)) (by rw [List.getElem?_cons_succ]; exact get_app hP.at_)]
  simp only [List.length_cons, List.length_append, List.cons_append, List.append_assoc]
  congr 3
  omega
theorem cut_sub {α : Type} {xs : List α} {lo hi : Option Int} {x : α} (h : x ∈ cutA xs lo hi) : x ∈ xs := by
  unfold cutA at h
  exact List.mem_of_mem_drop (List.mem_of_mem_take h)
theorem Prs.below (hP : Prs R k l) (b : Bag) (w : WF (b.c :: R)) : ∀ y ∈ (l.map fun q => SV.cell (q.1 + 1)), y.below (R.length + 1) = true :=
  wf_get w (i := k + 1) (by rw [List.getElem?_cons_succ]; exact hP.at_)
theorem bent_n (b : Bag) (hP : Prs R k l) (w : WF (b.c :: R)) {z : Nat} {its : List SV} (hz : (b.c :: R)[z]? = some (.lst its)) {m1 m2 : Nat} {y : SV} {d : D} (hy : atI its (m2 : Int) = some y) (hit : ∀ (b : Bag) (U : Store) (m : Nat), R.length + 1 ≤ m → Itm (b.c :: (R ++ U)) m y d)
    (h1 : m1 < l.length) (h2 : m2 < 7) {rho : Slots} (e1 : rho[1]? = some (some (.cell (k + 1)))) (e2 : rho[2]? = some (some (.fr (.int m1)))) (e3 : rho[3]? = some (some (.fr (.int m2)))) (e8 : rho[8]? = some (some (.cell z))) :
    ∃ (x : SV) (U : Store), WF (b.c :: (R ++ U)) ∧ (∀ b9 : Bag, Bad (b9.c :: (R ++ U)) x ∨ Gd (b9.c :: (R ++ U)) x) ∧
    (sSeq (sIf (tB (DL.e2 (eqG false) (eV 3) (eC (.int 7)))) (sRet (DL.e2 ixG (eA (newL true) (aC (eA tupCG (aC (eV 1) aN)) (aC (DL.e2 (mulG true) (eV 1) (eC (.int 3))) (aC (eA (newL true) (aC (eV 1) aN)) (aC (eSl true (eV 1) pN (pS (eV 2))) (aC (eDs (dC (eC (.int 0)) (eV 4) dN)) aN)))))) (eCall m_law_take false (aC (eV 0) (aC (eC (.int 5)) aN))))) sNx)
    (sRet (DL.e2 (addG true) (DL.e2 (addG true) (eSl true (eV 1) pN (pS (eV 2))) (eA (newL true) (aC (DL.e2 ixG (eV 8) (eV 3)) aN))) (eSl true (eV 1) (pS (DL.e2 (addG false) (eV 2) (eC (.int 1)))) pN)))) rho (b.c :: R) = .ok (.rt x, rho, b.c :: (R ++ U)) := by
  have n1 := hP.n1
  have n5 := hP.n5
  have zs := sizeLine_eq
  have yin : y ∈ its := by rw [DL.atI_nat] at hy; exact List.mem_of_getElem? hy
  have yb : y.below (R.length + 1) = true := wf_get w hz y yin
  have cb := hP.below b w
  obtain ⟨X1, hX1⟩ : ∃ X, cutA (l.map fun q => SV.cell (q.1 + 1)) none (some (m1 : Int)) = X := ⟨_, rfl⟩
  obtain ⟨X2, hX2⟩ : ∃ X, cutA (l.map fun q => SV.cell (q.1 + 1)) (some ((m1 : Int) + 1)) none = X := ⟨_, rfl⟩
  have X1e : X1 = ((l.take m1).map pr70).map Prod.fst := by rw [← hX1, cut_to, pr_fst, List.map_take]
  have X2e : X2 = ((l.drop (m1 + 1)).map pr70).map Prod.fst := by rw [← hX2, cut_n, pr_fst, List.map_drop]
  have b1 : ∀ y ∈ X1, y.below (R.length + 1) = true := fun y hy => cb y (cut_sub (hX1 ▸ hy))
  have b2 : ∀ y ∈ X2, y.below (R.length + 1) = true := fun y hy => cb y (cut_sub (hX2 ▸ hy))
  have l1 : X1.length ≤ 5 := by rw [X1e, List.length_map, List.length_map, List.length_take]; omega
  have l2 : X2.length ≤ 5 := by rw [X2e, List.length_map, List.length_map, List.length_drop]; omega
  have c1 : slG true (.cell (k + 1)) none (some (m1 : Int)) (b.c :: R) = .ok (.cell (R.length + 1), b.c :: (R ++ [.lst X1])) := by
    have := hP.cut b [] none (some (m1 : Int))
    rw [hX1] at this
    simpa only [List.append_nil, List.nil_append, List.length_nil, Nat.add_zero] using this
  have zT : ∀ U : Store, (b.c :: (R ++ U))[z]? = some (.lst its) := fun U => get_app (R := b.c :: R) hz
  have g1 : ∀ U : Store, ixG (.cell z) (.fr (.int (m2 : Int))) (b.c :: (R ++ U)) = .ok (y, b.c :: (R ++ U)) := fun U => by rw [r_xC (zT U), hy]; rfl
  have nl : newL true [y] (b.c :: (R ++ [.lst X1])) = .ok (.cell (R.length + 2), b.c :: (R ++ [.lst X1, .lst [y]])) := by
    rw [r_newC (by rw [sizeLine_eq]; simp)]
    simp only [List.length_cons, List.length_append, List.length_nil, List.cons_append, List.append_assoc, List.nil_append]
  have get : ∀ (U : Store) (i : Nat) (c : Cell), U[i]? = some c → (b.c :: (R ++ U))[R.length + (1 + i)]? = some c := fun U i c h => by rw [get70, h]
  have a1 : addG true (.cell (R.length + 1)) (.cell (R.length + 2)) (b.c :: (R ++ [.lst X1, .lst [y]])) = .ok (.cell (R.length + 3), b.c :: (R ++ [.lst X1, .lst [y], .lst (X1 ++ [y])])) := by
    have q1 := get [.lst X1, .lst [y]] 0 _ rfl
    have q2 := get [.lst X1, .lst [y]] 1 _ rfl
    rw [addC (xs := X1) (ys := [y]) (by unfold rdL; dsimp only; rw [show R.length + 1 = R.length + (1 + 0) from rfl, q1]) (by unfold rdL; dsimp only; rw [show R.length + 2 = R.length + (1 + 1) from rfl, q2]) (by simp only [List.length_append, List.length_singleton]; omega) (fun _ h => by cases h) (fun _ h => by cases h) (fun _ h => by cases h)]
    simp only [List.length_cons, List.length_append, List.length_nil, List.cons_append, List.append_assoc, List.nil_append]
  have c2 : slG true (.cell (k + 1)) (some ((m1 : Int) + 1)) none (b.c :: (R ++ [.lst X1, .lst [y], .lst (X1 ++ [y])])) = .ok (.cell (R.length + 4), b.c :: (R ++ [.lst X1, .lst [y], .lst (X1 ++ [y]), .lst X2])) := by
    have := hP.cut b [.lst X1, .lst [y], .lst (X1 ++ [y])] (some ((m1 : Int) + 1)) none
    rw [hX2] at this
    exact this
  have a2 : addG true (.cell (R.length + 3)) (.cell (R.length + 4)) (b.c :: (R ++ [.lst X1, .lst [y], .lst (X1 ++ [y]), .lst X2])) = .ok (.cell (R.length + 5), b.c :: (R ++ [.lst X1, .lst [y], .lst (X1 ++ [y]), .lst X2, .lst (X1 ++ [y] ++ X2)])) := by
    have q1 := get [.lst X1, .lst [y], .lst (X1 ++ [y]), .lst X2] 2 _ rfl
    have q2 := get [.lst X1, .lst [y], .lst (X1 ++ [y]), .lst X2] 3 _ rfl
    rw [addC (xs := X1 ++ [y]) (ys := X2) (by unfold rdL; dsimp only; rw [show R.length + 3 = R.length + (1 + 2) from rfl, q1]) (by unfold rdL; dsimp only; rw [show R.length + 4 = R.length + (1 + 3) from rfl, q2]) (by simp only [List.length_append, List.length_singleton]; omega) (fun _ h => by cases h) (fun _ h => by cases h) (fun _ h => by cases h)]
    simp only [List.length_cons, List.length_append, List.length_nil, List.cons_append, List.append_assoc, List.nil_append]
  have d7 : decide ((m2 : Int) = 7) = false := decide_eq_false (by omega)
  refine ⟨.cell (R.length + 5), [.lst X1, .lst [y], .lst (X1 ++ [y]), .lst X2, .lst (X1 ++ [y] ++ X2)], ?_, ?_, ?_⟩
  · have by_ : ∀ c ∈ X1 ++ [y] ++ X2, c.below (R.length + 1) = true := fun c hc => by
      simp only [List.mem_append, List.mem_singleton] at hc
      rcases hc with (hc | rfl) | hc
      · exact b1 c hc
      · exact yb
      · exact b2 c hc
    refine wf_app70 (S := b.c :: R) w fun c hc => ?_
    simp only [List.mem_cons, List.not_mem_nil, or_false] at hc
    rcases hc with rfl | rfl | rfl | rfl | rfl
    · exact below_lst b1 (by simp)
    · exact below_lst (n := R.length + 1) (fun c hc => by rcases List.mem_singleton.mp hc with rfl; exact yb) (by simp)
    · exact below_lst (n := R.length + 1) (fun c hc => by_ c (List.mem_append_left _ hc)) (by simp)
    · exact below_lst b2 (by simp)
    · exact below_lst by_ (by simp)
  · intro b9
    refine th_list (l := (l.take m1).map pr70 ++ [(y, d)] ++ (l.drop (m1 + 1)).map pr70) ?_ (by omega) (fun p hp => ?_) (by simp only [List.length_append, List.length_map, List.length_take, List.length_drop, List.length_singleton]; omega)
    · have : (b9.c :: (R ++ [.lst X1, .lst [y], .lst (X1 ++ [y]), .lst X2, .lst (X1 ++ [y] ++ X2)]))[R.length + (1 + 4)]? = some _ := get70 b9.c R _ 4
      rw [show R.length + 5 = R.length + (1 + 4) from rfl, this, List.map_append, List.map_append, ← X1e, ← X2e]
      rfl
    · simp only [List.mem_append, List.mem_singleton, List.mem_map] at hp
      rcases hp with (⟨q, hq, rfl⟩ | rfl) | ⟨q, hq, rfl⟩
      · have hq' := List.mem_of_mem_take hq
        have := itm_prog_lt hP hq'
        exact itm_prog hP b9 _ (by omega) hq'
      · exact hit b9 _ _ (by omega)
      · have hq' := List.mem_of_mem_drop hq
        have := itm_prog_lt hP hq'
        exact itm_prog hP b9 _ (by omega) hq'
  · simp only [RR, DL.isNon, List.replicate_succ, List.replicate_zero, List.set_cons_zero, List.set_cons_succ, List.getElem?_cons_zero, List.getElem?_cons_succ, Option.map_some, Nat.reduceSub, and_self, and_true, true_and, decide_true, decide_false, if_true, if_false, Bool.false_eq_true, Bool.not_true, Bool.not_false, Nat.reduceAdd, Nat.reduceMul, Nat.reduceLeDiff, e1, e2, e3, e8, d7, c1, g1, nl, a1, c2, a2]
end
section
variable {R : Store} {k : Nat} {l : List (Nat × List D)}
theorem prs_snap0 (hP : Prs R k l) (b : Bag) (U : Store) {q : Nat × List D} (hq : q ∈ l) : snap0 (b.c :: (R ++ U)) (.cell (q.1 + 1)) = some (.lst q.2) ∧ snap (b.c :: (R ++ U)) (.cell (q.1 + 1)) = some (.lst q.2) := by
  have g : (b.c :: (R ++ U))[q.1 + 1]? = some (.lst (q.2.map SV.fr)) := by rw [List.getElem?_cons_succ]; exact get_app (hP.it q hq).1
  constructor
  · unfold snap0
    simp only [g, DL.allFr_map, Option.map_some]
  · exact snap_cell g
theorem all_snaps {S : Store} {f : SV → Option D} : ∀ {m : List (Nat × List D)}, (∀ q ∈ m, f (.cell (q.1 + 1)) = some (.lst q.2)) → allSn f (m.map fun q => SV.cell (q.1 + 1)) = some (m.map fun q => D.lst q.2)
  | [], _ => rfl
  | q :: m, h => by simp only [List.map_cons, allSn, h q List.mem_cons_self, all_snaps (S := S) (m := m) fun r hr => h r (List.mem_cons_of_mem _ hr)]
theorem prog_y (hP : Prs R k l) {q : Nat × List D} (hq : q ∈ l) : YOk 700 6 (.lst q.2) :=
  (y_lst (m := 3) (fun d hd => ((hP.it q hq).2.2.1 d hd).ca.y) (hP.it q hq).2.2.2.2).mono (by decide) (by decide)
theorem progs_y (hP : Prs R k l) : (∀ d ∈ (l.map fun q => D.lst q.2), YOk 700 6 d) := fun d hd => by
  obtain ⟨q, hq, rfl⟩ := List.mem_map.mp hd
  exact prog_y hP hq
theorem dct_ok {d : D} {B n : Nat} (h : YOk B n d) (hB : B ≤ 50000) (hn : n ≤ 60) : rOkX (.dct [(.inl 0, d)]) = true := by
  have h1 := h.bk
  have h2 := h.dp
  unfold rOkX
  simp only [isX, isXk, h.x, pyX, pyXk, pyKy, PyData.showable, PyData.showableKv, h.sh, PyData.leavesShort, PyData.leavesShortKv, h.lv, PyData.bulk, PyData.bulkKv, PyData.depth, PyData.depthKv, Bool.and_true, Bool.true_and, Bool.and_eq_true, decide_eq_true_eq]
  refine ⟨⟨?_, ?_⟩, ?_⟩
  · decide
  · omega
  · omega
theorem bent_7 (b : Bag) (hb : b.Ok) (hP : Prs R k l) (w : WF (b.c :: R)) {m1 : Nat} {q : Nat × List D} (hq : q ∈ l)
    {rho : Slots} (e0 : rho[0]? = some (some (.cell 0))) (e1 : rho[1]? = some (some (.cell (k + 1)))) (e2 : rho[2]? = some (some (.fr (.int (m1 : Int))))) (e3 : rho[3]? = some (some (.fr (.int 7)))) (e4 : rho[4]? = some (some (.cell (q.1 + 1)))) :
    ∃ (x : SV) (b' : Bag) (U : Store), Bag.Ok b' ∧ WF (b'.c :: (R ++ U)) ∧ (∀ b9 : Bag, Bad (b9.c :: (R ++ U)) x ∨ Gd (b9.c :: (R ++ U)) x) ∧
    (sSeq (sIf (tB (DL.e2 (eqG false) (eV 3) (eC (.int 7)))) (sRet (DL.e2 ixG (eA (newL true) (aC (eA tupCG (aC (eV 1) aN)) (aC (DL.e2 (mulG true) (eV 1) (eC (.int 3))) (aC (eA (newL true) (aC (eV 1) aN)) (aC (eSl true (eV 1) pN (pS (eV 2))) (aC (eDs (dC (eC (.int 0)) (eV 4) dN)) aN)))))) (eCall m_law_take false (aC (eV 0) (aC (eC (.int 5)) aN))))) sNx)
    (sRet (DL.e2 (addG true) (DL.e2 (addG true) (eSl true (eV 1) pN (pS (eV 2))) (eA (newL true) (aC (DL.e2 ixG (eV 8) (eV 3)) aN))) (eSl true (eV 1) (pS (DL.e2 (addG false) (eV 2) (eC (.int 1)))) pN)))) rho (b.c :: R) = .ok (.rt x, rho, b'.c :: (R ++ U)) := by
  have n1 := hP.n1
  have n5 := hP.n5
  have cb := hP.below b w
  obtain ⟨cs, hcs⟩ : ∃ X, (l.map fun q => SV.cell (q.1 + 1)) = X := ⟨_, rfl⟩
  have cse : cs = (l.map pr70).map Prod.fst := by rw [← hcs, pr_fst]
  have cl : cs.length = l.length := by rw [← hcs, List.length_map]
  obtain ⟨X1, hX1⟩ : ∃ X, cutA cs none (some (m1 : Int)) = X := ⟨_, rfl⟩
  have X1e : X1 = ((l.take m1).map pr70).map Prod.fst := by rw [← hX1, ← hcs, cut_to, pr_fst, List.map_take]
  rw [hcs] at cb
  have b1 : ∀ y ∈ X1, y.below (R.length + 1) = true := fun y hy => cb y (cut_sub (hX1 ▸ hy))
  have kt : ∀ U : Store, (b.c :: (R ++ U))[k + 1]? = some (.lst cs) := fun U => by rw [List.getElem?_cons_succ, ← hcs]; exact get_app hP.at_
  have k0 : (b.c :: R)[k + 1]? = some (.lst cs) := by rw [List.getElem?_cons_succ, ← hcs]; exact hP.at_
  have kl : k + 1 < R.length + 1 := by have := (List.getElem?_eq_some_iff.mp hP.at_).1; omega
  have ql := itm_prog_lt hP hq
  have c1 : tupCG [.cell (k + 1)] (b.c :: R) = .ok (.cell (R.length + 1), b.c :: (R ++ [.tup cs])) := tupC70 k0
  have c2 : mulG true (.cell (k + 1)) (.fr (.int 3)) (b.c :: (R ++ [.tup cs])) = .ok (.cell (R.length + 2), b.c :: (R ++ [.tup cs, .lst (cs ++ (cs ++ cs))])) := by
    rw [mulC (kt _) (by omega)]
    simp only [List.length_cons, List.length_append, List.length_nil, List.cons_append, List.append_assoc, List.nil_append]
  have c3 : newL true [.cell (k + 1)] (b.c :: (R ++ [.tup cs, .lst (cs ++ (cs ++ cs))])) = .ok (.cell (R.length + 3), b.c :: (R ++ [.tup cs, .lst (cs ++ (cs ++ cs)), .lst [.cell (k + 1)]])) := by
    rw [r_newC (by rw [sizeLine_eq]; simp)]
    simp only [List.length_cons, List.length_append, List.length_nil, List.cons_append, List.append_assoc, List.nil_append]
  have c4 : slG true (.cell (k + 1)) none (some (m1 : Int)) (b.c :: (R ++ [.tup cs, .lst (cs ++ (cs ++ cs)), .lst [.cell (k + 1)]])) = .ok (.cell (R.length + 4), b.c :: (R ++ [.tup cs, .lst (cs ++ (cs ++ cs)), .lst [.cell (k + 1)], .lst X1])) := by
    have := hP.cut b [.tup cs, .lst (cs ++ (cs ++ cs)), .lst [.cell (k + 1)]] none (some (m1 : Int))
    rw [hcs, hX1] at this
    exact this
  obtain ⟨T4, hT4⟩ : ∃ T : Store, [.tup cs, .lst (cs ++ (cs ++ cs)), .lst [.cell (k + 1)], .lst X1] = T := ⟨_, rfl⟩
  have c5 : k_ds1 (b.c :: (R ++ [.tup cs, .lst (cs ++ (cs ++ cs)), .lst [.cell (k + 1)], .lst X1])).length (.cell (q.1 + 1), b.c :: (R ++ [.tup cs, .lst (cs ++ (cs ++ cs)), .lst [.cell (k + 1)], .lst X1]) ++ [.dic []]) = .ok (.cell (R.length + 5), b.c :: (R ++ [.tup cs, .lst (cs ++ (cs ++ cs)), .lst [.cell (k + 1)], .lst X1, .dic [(.inl 0, .cell (q.1 + 1))]])) := by
    rw [s_ds1 get_snoc, set_snoc]
    simp only [List.length_cons, List.length_append, List.length_nil, List.cons_append, List.append_assoc, List.nil_append]
  have wU : WF (b.c :: (R ++ [.tup cs, .lst (cs ++ (cs ++ cs)), .lst [.cell (k + 1)], .lst X1, .dic [(.inl 0, .cell (q.1 + 1))], .lst [.cell (R.length + 1), .cell (R.length + 2), .cell (R.length + 3), .cell (R.length + 4), .cell (R.length + 5)]])) := by
    refine wf_app70 (S := b.c :: R) w fun c hc => ?_
    simp only [List.mem_cons, List.not_mem_nil, or_false] at hc
    rcases hc with rfl | rfl | rfl | rfl | rfl | rfl
    · exact below_lst cb (by simp)
    · exact below_lst (n := R.length + 1) (fun y hy => by
        simp only [List.mem_append, or_self] at hy
        exact cb y hy) (by simp)
    · simp only [Cell.below, List.all_cons, List.all_nil, SV.below, Bool.and_true, List.length_cons, decide_eq_true_eq]; omega
    · exact below_lst b1 (by simp)
    · simp only [Cell.below, List.all_cons, List.all_nil, SV.below, Bool.and_true, List.length_cons, decide_eq_true_eq]; omega
    · simp only [Cell.below, List.all_cons, List.all_nil, SV.below, Bool.and_true, List.length_cons, List.length_nil, Bool.and_eq_true, decide_eq_true_eq]; omega
  have c6 : newL true [.cell (R.length + 1), .cell (R.length + 2), .cell (R.length + 3), .cell (R.length + 4), .cell (R.length + 5)] (b.c :: (R ++ [.tup cs, .lst (cs ++ (cs ++ cs)), .lst [.cell (k + 1)], .lst X1, .dic [(.inl 0, .cell (q.1 + 1))]])) =
      .ok (.cell (R.length + 6), b.c :: (R ++ [.tup cs, .lst (cs ++ (cs ++ cs)), .lst [.cell (k + 1)], .lst X1, .dic [(.inl 0, .cell (q.1 + 1))], .lst [.cell (R.length + 1), .cell (R.length + 2), .cell (R.length + 3), .cell (R.length + 4), .cell (R.length + 5)]])) := by
    rw [r_newC (by rw [sizeLine_eq]; simp)]
    simp only [List.length_cons, List.length_append, List.length_nil, List.cons_append, List.append_assoc, List.nil_append]
  obtain ⟨v, b2, l2, u2, k2, w2, et⟩ := take_run b hb 5 (by decide) (by decide) _ wU
  have gt : ∀ (i : Nat) (c : Cell), [Cell.tup cs, .lst (cs ++ (cs ++ cs)), .lst [.cell (k + 1)], .lst X1, .dic [(.inl 0, .cell (q.1 + 1))], .lst [.cell (R.length + 1), .cell (R.length + 2), .cell (R.length + 3), .cell (R.length + 4), .cell (R.length + 5)]][i]? = some c →
      (b2.c :: (R ++ [.tup cs, .lst (cs ++ (cs ++ cs)), .lst [.cell (k + 1)], .lst X1, .dic [(.inl 0, .cell (q.1 + 1))], .lst [.cell (R.length + 1), .cell (R.length + 2), .cell (R.length + 3), .cell (R.length + 4), .cell (R.length + 5)]]))[R.length + (1 + i)]? = some c := fun i c h => by rw [get70, h]
  obtain ⟨m, hm, rfl⟩ : ∃ m : Nat, m < 5 ∧ v = (m : Int) := ⟨v.toNat, by omega, by omega⟩
  have g6 : ixG (.cell (R.length + 6)) (.fr (.int (m : Int))) (b2.c :: (R ++ [.tup cs, .lst (cs ++ (cs ++ cs)), .lst [.cell (k + 1)], .lst X1, .dic [(.inl 0, .cell (q.1 + 1))], .lst [.cell (R.length + 1), .cell (R.length + 2), .cell (R.length + 3), .cell (R.length + 4), .cell (R.length + 5)]])) =
      .ok (.cell (R.length + (1 + m)), b2.c :: (R ++ [.tup cs, .lst (cs ++ (cs ++ cs)), .lst [.cell (k + 1)], .lst X1, .dic [(.inl 0, .cell (q.1 + 1))], .lst [.cell (R.length + 1), .cell (R.length + 2), .cell (R.length + 3), .cell (R.length + 4), .cell (R.length + 5)]])) := by
    have a : atI [SV.cell (R.length + 1), .cell (R.length + 2), .cell (R.length + 3), .cell (R.length + 4), .cell (R.length + 5)] (m : Int) = some (.cell (R.length + (1 + m))) := by
      rw [DL.atI_nat]
      rcases (by omega : m = 0 ∨ m = 1 ∨ m = 2 ∨ m = 3 ∨ m = 4) with rfl | rfl | rfl | rfl | rfl <;> rfl
    rw [r_xC (show _ = some (Cell.lst _) from gt 5 _ rfl), a]
    rfl
  refine ⟨.cell (R.length + (1 + m)), b2, [.tup cs, .lst (cs ++ (cs ++ cs)), .lst [.cell (k + 1)], .lst X1, .dic [(.inl 0, .cell (q.1 + 1))], .lst [.cell (R.length + 1), .cell (R.length + 2), .cell (R.length + 3), .cell (R.length + 4), .cell (R.length + 5)]], k2, w2, ?_, ?_⟩
  · intro b9
    generalize hU : [Cell.tup cs, .lst (cs ++ (cs ++ cs)), .lst [.cell (k + 1)], .lst X1, .dic [(.inl 0, .cell (q.1 + 1))], .lst [.cell (R.length + 1), .cell (R.length + 2), .cell (R.length + 3), .cell (R.length + 4), .cell (R.length + 5)]] = U at *
    have sn1 : ∀ r ∈ l, snapN (b9.c :: (R ++ U)) 1 (.cell (r.1 + 1)) = some (.lst r.2) := fun r hr => by
      have g : (b9.c :: (R ++ U))[r.1 + 1]? = some (.lst (r.2.map SV.fr)) := by rw [List.getElem?_cons_succ]; exact get_app (hP.it r hr).1
      unfold snapN
      simp only [g]
      rw [allSn_map (f := snapN (b9.c :: (R ++ U)) 0) (fun _ => rfl)]
      rfl
    have as1 : allSn (snapN (b9.c :: (R ++ U)) 1) cs = some (l.map fun q => D.lst q.2) := by rw [← hcs]; exact all_snaps (S := []) sn1
    have as0 : allSn (snapN (b9.c :: (R ++ U)) 0) cs = some (l.map fun q => D.lst q.2) := by
      rw [← hcs]
      exact all_snaps (S := []) fun r hr => (prs_snap0 hP b9 U hr).2
    have gU : ∀ (i : Nat) (c : Cell), U[i]? = some c → (b9.c :: (R ++ U))[R.length + (1 + i)]? = some c := fun i c h => by rw [get70, h]
    have py := progs_y hP
    rcases (by omega : m = 0 ∨ m = 1 ∨ m = 2 ∨ m = 3 ∨ m = 4) with rfl | rfl | rfl | rfl | rfl
    · have g := gU 0 (.tup cs) (by rw [← hU]; rfl)
      refine .inl (bad_none ⟨_, reprN_of (d := .tup (l.map fun q => D.lst q.2)) ?_ ((y_tup py (m := 5) (by simpa using n5)).ro (by decide) (by decide))⟩ fun T => no_tup (ys := cs) (get_app g))
      unfold snapN
      simp only [g, as1]
      rfl
    · have g := gU 1 (.lst (cs ++ (cs ++ cs))) (by rw [← hU]; rfl)
      refine th_list (l := l.map pr70 ++ (l.map pr70 ++ l.map pr70)) (by rw [g, List.map_append, List.map_append, ← cse]) (by omega) (fun p hp => ?_) (by simp only [List.length_append, List.length_map]; omega)
      simp only [List.mem_append, or_self, List.mem_map] at hp
      obtain ⟨r, hr, rfl⟩ := hp
      have := itm_prog_lt hP hr
      exact itm_prog hP b9 _ (by omega) hr
    · have g := gU 2 (.lst [.cell (k + 1)]) (by rw [← hU]; rfl)
      have kt2 : (b9.c :: (R ++ U))[k + 1]? = some (.lst cs) := by rw [List.getElem?_cons_succ, ← hcs]; exact get_app hP.at_
      have kt3 : (b9.c :: (R ++ U))[k + 1]? = some (.lst ((l.map fun q => q.1 + 1).map SV.cell)) := by rw [kt2, ← hcs, List.map_map]; rfl
      have hj : ∀ j ∈ (l.map fun q => q.1 + 1), ∃ xs, (b9.c :: (R ++ U))[j]? = some (.lst xs) := fun j hj => by
        obtain ⟨r, hr, rfl⟩ := List.mem_map.mp hj
        exact ⟨_, by rw [List.getElem?_cons_succ]; exact get_app (hP.it r hr).1⟩
      have n0 : (l.map fun q => q.1 + 1) ≠ [] := by
        intro h
        have := congrArg List.length h
        simp only [List.length_map, List.length_nil] at this
        omega
      refine .inl ⟨⟨_, reprN_of (d := .lst [.lst (l.map fun q => D.lst q.2)]) ?_ ?_⟩, fun T w => deep_run w (ls_cell (get_app g)) (get_app kt3) (fun j h => by obtain ⟨xs, hx⟩ := hj j h; exact ⟨xs, get_app hx⟩) n0 (by rw [List.length_map]; omega), fun w => deep_lrun w (ls_cell g) kt3 hj n0 (by rw [List.length_map]; omega)⟩
      · have s1 : snapN (b9.c :: (R ++ U)) 1 (.cell (k + 1)) = some (.lst (l.map fun q => D.lst q.2)) := by
          unfold snapN
          simp only [kt2, as0]
          rfl
        unfold snapN
        simp only [g, allSn, s1]
        rfl
      · refine (y_lst (B := 701 * 5) (n := 7) (m := 1) (ds := [.lst (l.map fun q => D.lst q.2)]) (fun d hd => ?_) (by simp)).ro (by decide) (by decide)
        rcases List.mem_singleton.mp hd with rfl
        exact y_lst py (by simpa using n5)
    · have g := gU 3 (.lst X1) (by rw [← hU]; rfl)
      refine th_list (l := (l.take m1).map pr70) (by rw [g, X1e]) (by omega) (fun p hp => ?_) (by simp only [List.length_map, List.length_take]; omega)
      obtain ⟨r, hr, rfl⟩ := List.mem_map.mp hp
      have hr' := List.mem_of_mem_take hr
      have := itm_prog_lt hP hr'
      exact itm_prog hP b9 _ (by omega) hr'
    · have g := gU 4 (.dic [(.inl 0, .cell (q.1 + 1))]) (by rw [← hU]; rfl)
      refine .inl (bad_none ⟨_, reprN_of (d := .dct [(.inl 0, .lst q.2)]) ?_ (dct_ok (prog_y hP hq) (by decide) (by decide))⟩ fun T => no_dic (get_app g))
      unfold snapN
      simp only [g, allSnK, sn1 q hq]
      rfl
  · have d7 : decide ((7 : Int) = 7) = true := rfl
    have c5' : eDs (dC (eC (.int 0)) (eV 4) dN) rho (b.c :: (R ++ [.tup cs, .lst (cs ++ (cs ++ cs)), .lst [.cell (k + 1)], .lst X1])) = .ok (.cell (R.length + 5), b.c :: (R ++ [.tup cs, .lst (cs ++ (cs ++ cs)), .lst [.cell (k + 1)], .lst X1, .dic [(.inl 0, .cell (q.1 + 1))]])) := by
      rw [r_ds1, r_v, e4, s_v, r_bind, c5]
    simp only [RR, DL.isNon, List.replicate_succ, List.replicate_zero, List.set_cons_zero, List.set_cons_succ, List.getElem?_cons_zero, List.getElem?_cons_succ, Option.map_some, Nat.reduceSub, and_self, and_true, true_and, decide_true, decide_false, if_true, if_false, Bool.false_eq_true, Bool.not_true, Bool.not_false, Nat.reduceAdd, Nat.reduceMul, Nat.reduceLeDiff, e0, e1, e2, e3, d7, c1, c2, c3, c4, c5', c6, take_is, et, g6]
theorem bent_run (b : Bag) (hb : b.Ok) (hP : Prs R k l) (w : WF (b.c :: R)) : ∃ (x : SV) (b' : Bag) (U : Store), Bag.Ok b' ∧ WF (b'.c :: (R ++ U)) ∧ (∀ b9 : Bag, Bad (b9.c :: (R ++ U)) x ∨ Gd (b9.c :: (R ++ U)) x) ∧ m_law_bent [.cell 0, .cell (k + 1)] (b.c :: R) = .ok (x, b'.c :: (R ++ U)) := by
  obtain ⟨b1, T, m1, m2, q, A, B, C, E, F, rho, k1, w1, M, h1, h2, rl, r0, r1, r2, r3, r4, r8, hX⟩ := bent_head b hb hP w
  have hP1 : Prs (R ++ T) k l := hP.ext
  have tl : T.length = 4 := by rw [M.t]; rfl
  have fin : ∀ {x : SV} {b' : Bag} {S : Store}, b_law_bent [some (.cell 0), some (.cell (k + 1)), none, none, none, none, none, none, none] (b.c :: R) = .ok (.rt x, rho, S) → m_law_bent [.cell 0, .cell (k + 1)] (b.c :: R) = .ok (x, S) := fun {x b' S} e => by
    unfold m_law_bent fnK
    rw [if_pos (show [SV.cell 0, SV.cell (k + 1)].length = 2 from rfl)]
    show Res.bind (b_law_bent [some (.cell 0), some (.cell (k + 1)), none, none, none, none, none, none, none] (b.c :: R)) leaveK = _
    rw [e]
    rfl
  by_cases q7 : m2 = 7
  · subst q7
    obtain ⟨x, b', U, k2, w2, th, e⟩ := bent_7 b1 k1 hP1 w1 (m1 := m1) M.q r0 r1 r2 r3 r4
    rw [List.append_assoc] at w2 e
    have th : ∀ b9 : Bag, Bad (b9.c :: (R ++ (T ++ U))) x ∨ Gd (b9.c :: (R ++ (T ++ U))) x := fun b9 => by
      have := th b9
      rwa [List.append_assoc] at this
    exact ⟨x, b', T ++ U, k2, w2, th, fin (b' := b') (by rw [b_law_bent, hX, e])⟩
  · obtain ⟨y, d, hy, hit⟩ := M.item hP (i := m2) (by omega)
    obtain ⟨x, U, w2, th, e⟩ := bent_n b1 hP1 w1 (z := R.length + 3) (its := [.fr (.tup q.2), .fr (.lst []), .cell (R.length + 1), .fr E, .cell (R.length + 2), .cell (R.length + 4), .fr F]) (d := d) (by have := M.at_ b1 []; rwa [List.append_nil] at this) hy (fun b9 U m hm => by
      rw [List.append_assoc]
      exact hit b9 U m (by rw [List.length_append] at hm; omega)) h1 (by omega) r1 r2 r3 r8
    rw [List.append_assoc] at w2 e
    have th : ∀ b9 : Bag, Bad (b9.c :: (R ++ (T ++ U))) x ∨ Gd (b9.c :: (R ++ (T ++ U))) x := fun b9 => by
      have := th b9
      rwa [List.append_assoc] at this
    exact ⟨x, b1, T ++ U, k1, w2, th, fin (b' := b1) (by rw [b_law_bent, hX, e])⟩
end

structure GP (ps : List (List D)) : Prop where
  n1 : 1 ≤ ps.length
  n4 : ps.length ≤ 4
  it : ∀ p ∈ ps, (∀ d ∈ p, Ca d) ∧ p ≠ []
  sum : (ps.map List.length).sum ≤ 6
theorem sum_ge : ∀ {l : List Nat} {a : Nat}, a ∈ l → a ≤ l.sum
  | b :: l, a, h => by
    rw [List.sum_cons]
    rcases List.mem_cons.mp h with rfl | h
    · omega
    · have := sum_ge h; omega
theorem GP.len {ps : List (List D)} (g : GP ps) {p : List D} (h : p ∈ ps) : 1 ≤ p.length ∧ p.length ≤ 6 :=
  ⟨List.length_pos_iff.mpr (g.it p h).2, Nat.le_trans (sum_ge (List.mem_map_of_mem h)) g.sum⟩
theorem GP.ks {ps : List (List D)} (g : GP ps) : ksB (.lst (ps.map D.lst)) = true := by
  simp only [ksB, List.length_map, List.all_map, List.map_map, Bool.and_eq_true, decide_eq_true_eq]
  refine ⟨⟨g.n1, g.n4⟩, List.all_eq_true.mpr fun p hp => ?_, g.sum⟩
  simp only [Function.comp, progB, Bool.and_eq_true, decide_eq_true_eq]
  exact ⟨(g.len hp).1, List.all_eq_true.mpr fun d hd => ((g.it p hp).1 d hd).call⟩
theorem Ca.fit {d : D} (h : Ca d) (n : Nat) : fit (n + 1) d = true := by
  have a : ∀ {i : Int}, 0 ≤ i → i ≤ T39 + 8 → i.natAbs < 10 ^ 129 := fun h1 h2 => t39_ok ⟨by omega, by omega⟩
  have t : (2 : Int) ≤ T39 := by unfold T39; omega
  obtain ⟨l, f, z, rfl, hl, hf, hz⟩ := h.inv
  have q1 := a (i := l) hl.1 (by omega)
  have q2 := a (i := f) hf.1 (by omega)
  rcases hz with rfl | ⟨m, rfl, h1, h2⟩
  · simp only [DL.fit, fits, Bool.and_true, Bool.and_eq_true, decide_eq_true_eq]
    exact ⟨q1, q2⟩
  · simp only [DL.fit, fits, Bool.and_true, Bool.and_eq_true, decide_eq_true_eq]
    exact ⟨q1, q2, a (by omega) h2⟩
theorem fits_all {n : Nat} : ∀ {ds : List D}, (∀ d ∈ ds, fit n d = true) → fits n ds = true
  | [], _ => rfl
  | d :: ds, h => by simp only [fits, h d List.mem_cons_self, fits_all fun x hx => h x (List.mem_cons_of_mem _ hx), Bool.and_self]
theorem GP.fit {ps : List (List D)} (g : GP ps) : fit 64 (.lst (ps.map D.lst)) = true := by
  simp only [DL.fit]
  refine fits_all fun d hd => ?_
  obtain ⟨p, hp, rfl⟩ := List.mem_map.mp hd
  simp only [DL.fit]
  exact fits_all fun e he => ((g.it p hp).1 e he).fit 61
theorem GP.y {ps : List (List D)} (g : GP ps) : YOk 50000 20 (.lst (ps.map D.lst)) := by
  refine (y_lst (B := 201 * 6) (n := 6) (m := 4) (fun d hd => ?_) (by rw [List.length_map]; exact g.n4)).mono (by decide) (by decide)
  obtain ⟨p, hp, rfl⟩ := List.mem_map.mp hd
  exact y_lst (fun e he => ((g.it p hp).1 e he).y) (g.len hp).2
def dq (a b : List (List D)) : Bool := deq (.lst (a.map D.lst)) (.lst (b.map D.lst))
theorem dq_comm (a b : List (List D)) : dq a b = dq b a := PySem.W.eqv_comm _ _
theorem dq_refl {a : List (List D)} (g : GP a) : dq a a = true := fit_deq g.fit
theorem eqD_ps {a b : List (List D)} (ga : GP a) (gb : GP b) : eqD (.lst (a.map D.lst)) (.lst (b.map D.lst)) = some (dq a b) := by
  simp only [eqD, fit_plain ga.fit, fit_plain gb.fit, Bool.and_self, if_true]
  rfl
noncomputable abbrev EQ (n : Bool) : G2 := orG (eqG n) (ownAG [("Crowd", m_Crowd___eq__)] ["Crowd"] n)
abbrev crD (ps : List (List D)) : D := crowdD (ps.map D.lst)
section
variable {S : Store} (wf : WF S)
include wf
theorem ceq_run {a b : List (List D)} (ga : GP a) (gb : GP b) : m_Crowd___eq__ [.fr (crD a), .fr (crD b)] S = .ok (.val (.fr (.bl (dq a b))), S) := by
  have lv := leave_val wf (d := .bl (dq a b))
  have i1 : isiXG "Crowd" [] [.fr (crD b), .fr (.cls "Crowd")] S = .ok (.fr (.bl true), S) := rfl
  have f1 : ∀ ps : List (List D), fldG ["Crowd"] "kept_programs" (.fr (crD ps)) S = .ok (.fr (.lst (ps.map D.lst)), S) := fun _ => rfl
  have eq := r_eq false (S := S) (a := .fr (.lst (a.map D.lst))) (b := .fr (.lst (b.map D.lst))) rfl rfl (eqD_ps ga gb)
  simp only [RR, DL.isNon, List.replicate_succ, List.replicate_zero, List.set_cons_zero, List.set_cons_succ, List.getElem?_cons_zero, List.getElem?_cons_succ, Option.map_some, Nat.reduceSub, and_self, and_true, true_and, decide_true, decide_false, if_true, if_false, Bool.false_eq_true, Bool.not_true, Bool.not_false, Nat.reduceAdd, Nat.reduceMul, Nat.reduceLeDiff, m_Crowd___eq__, b_Crowd___eq__, i1, f1, eq, lv]
theorem ceq_no {a : List (List D)} {d : D} (h : isiXG "Crowd" [] [.fr d, .fr (.cls "Crowd")] S = .ok (.fr (.bl false), S)) : m_Crowd___eq__ [.fr (crD a), .fr d] S = .ok (.val (.fr (.bl false)), S) := by
  have lv := leave_val wf (d := .bl false)
  simp only [RR, DL.isNon, List.replicate_succ, List.replicate_zero, List.set_cons_zero, List.set_cons_succ, List.getElem?_cons_zero, List.getElem?_cons_succ, Option.map_some, Nat.reduceSub, and_self, and_true, true_and, decide_true, decide_false, if_true, if_false, Bool.false_eq_true, Bool.not_true, Bool.not_false, Nat.reduceAdd, Nat.reduceMul, Nat.reduceLeDiff, m_Crowd___eq__, b_Crowd___eq__, h, lv]
theorem EQ_cr (n : Bool) {a b : List (List D)} (ga : GP a) (gb : GP b) : EQ n (.fr (crD a)) (.fr (crD b)) S = .ok (.fr (.bl (if n then !(dq a b) else dq a b)), S) := by
  have e := ceq_run wf ga gb
  have h : EQ n (.fr (crD a)) (.fr (crD b)) S = (noX (m_Crowd___eq__ [.fr (crD a), .fr (crD b)] S)).bind (blEnd n) := rfl
  rw [h, e]
  rfl
theorem EQ_no (n : Bool) {a : List (List D)} {d : D} (h : isiXG "Crowd" [] [.fr d, .fr (.cls "Crowd")] S = .ok (.fr (.bl false), S)) (h2 : insOf S (.fr d) = none) {t : String} (h3 : tyN S (.fr d) = some t) (h4 : t ∈ six) : EQ n (.fr (crD a)) (.fr d) S = .ok (.fr (.bl n), S) := by
  have e := ceq_no wf (a := a) h
  have h : EQ n (.fr (crD a)) (.fr d) S = (noX (m_Crowd___eq__ [.fr (crD a), .fr d] S)).bind (blEnd n) := by
    show orG (eqG n) (ownAG [("Crowd", m_Crowd___eq__)] ["Crowd"] n) (.fr (crD a)) (.fr d) S = _
    have i : insOf S (.fr (crD a)) = some (("Crowd" : Str), [(("kept_programs" : Str), SV.fr (.lst (a.map D.lst)))]) := rfl
    unfold orG
    rw [i]
    dsimp only
    unfold ownAG
    rw [i]
    dsimp only
    rw [if_pos (by simp)]
    have l : List.lookup ("Crowd" : Str) [(("Crowd" : Str), m_Crowd___eq__)] = some m_Crowd___eq__ := by simp
    rw [l]
    dsimp only
    rw [h2]
    dsimp only
    rw [h3]
    dsimp only
    rw [if_pos h4]
  rw [h, e]
  cases n <;> rfl
theorem alike_ps {x : SV} {ps : List (List D)} (hx : snap S x = some (.lst (ps.map D.lst))) (hn : insOf S x = none) (g : GP ps) : m_law_alike [x, .fr (.lst (ps.map D.lst))] S = .ok (.val (.fr (.bl true)), S) := by
  have lv := leave_val wf (d := .bl true)
  have eq : EQ false x (.fr (.lst (ps.map D.lst))) S = .ok (.fr (.bl true), S) := by
    show orG (eqG false) (ownAG [("Crowd", m_Crowd___eq__)] ["Crowd"] false) x (.fr (.lst (ps.map D.lst))) S = _
    unfold orG
    rw [hn]
    have := r_eq false (S := S) (a := x) (b := .fr (.lst (ps.map D.lst))) hx rfl (eqD_ps g g)
    rw [dq_refl g] at this
    exact this
  have ro := g.y.ro (by decide) (by decide)
  have r1 : reprXG [x] S = .ok (.fr (.str (rTxtX (.lst (ps.map D.lst)))), S) := by
    unfold reprXG
    simp only [hx, ro, if_true]
    rfl
  have r2 : reprXG [.fr (.lst (ps.map D.lst))] S = .ok (.fr (.str (rTxtX (.lst (ps.map D.lst)))), S) := by
    unfold reprXG
    simp only [snap, ro, if_true]
    rfl
  have es := r_eq false (S := S) (a := .fr (.str (rTxtX (.lst (ps.map D.lst))))) (b := .fr (.str (rTxtX (.lst (ps.map D.lst))))) rfl rfl (eqD_str _)
  simp only [RR, DL.isNon, List.replicate_succ, List.replicate_zero, List.set_cons_zero, List.set_cons_succ, List.getElem?_cons_zero, List.getElem?_cons_succ, Option.map_some, Nat.reduceSub, and_self, and_true, true_and, decide_true, decide_false, if_true, if_false, Bool.false_eq_true, Bool.not_true, Bool.not_false, Nat.reduceAdd, Nat.reduceMul, Nat.reduceLeDiff, m_law_alike, b_law_alike, eq, r1, r2, es, lv]
theorem alike_0 : m_law_alike [.fr (.int 0), .fr (.int 0)] S = .ok (.val (.fr (.bl true)), S) := by
  have lv := leave_val wf (d := .bl true)
  have eq : EQ false (.fr (.int 0)) (.fr (.int 0)) S = .ok (.fr (.bl true), S) := by
    show eqG false (.fr (.int 0)) (.fr (.int 0)) S = _
    rw [r_eqI]
    rfl
  have r1 : reprXG [.fr (.int 0)] S = .ok (.fr (.str (rTxtX (.int 0))), S) := by
    have ro : rOkX (.int 0) = true := by decide +kernel
    unfold reprXG
    simp only [snap, ro, if_true]
    rfl
  have es := r_eq false (S := S) (a := .fr (.str (rTxtX (.int 0)))) (b := .fr (.str (rTxtX (.int 0)))) rfl rfl (eqD_str _)
  simp only [RR, DL.isNon, List.replicate_succ, List.replicate_zero, List.set_cons_zero, List.set_cons_succ, List.getElem?_cons_zero, List.getElem?_cons_succ, Option.map_some, Nat.reduceSub, and_self, and_true, true_and, decide_true, decide_false, if_true, if_false, Bool.false_eq_true, Bool.not_true, Bool.not_false, Nat.reduceAdd, Nat.reduceMul, Nat.reduceLeDiff, m_law_alike, b_law_alike, eq, r1, es, lv]
end
def RdP (S : Store) (y : SV) (qs : List (List D)) : Prop := ∃ l : List (SV × D), LsC S y (l.map Prod.fst) ∧ (∀ p ∈ l, It S p.1 p.2) ∧ l.map Prod.snd = qs.map D.lst
theorem its_snap {S : Store} : ∀ {l : List (SV × D)}, (∀ p ∈ l, It S p.1 p.2) → allSn (snap0 S) (l.map Prod.fst) = some (l.map Prod.snd)
  | [], _ => rfl
  | p :: l, h => by simp only [List.map_cons, allSn, (h p List.mem_cons_self).sn, its_snap (l := l) fun q hq => h q (List.mem_cons_of_mem _ hq)]
theorem RdP.snap {S : Store} {y : SV} {qs : List (List D)} (h : RdP S y qs) : DL.snap S y = some (.lst (qs.map D.lst)) := by
  obtain ⟨l, L, hi, e⟩ := h
  have sn := its_snap hi
  rcases L with ⟨ds, rfl, hl⟩ | ⟨k, rfl, hk⟩
  · rw [hl, allSn_map (f := snap0 S) (fun _ => rfl)] at sn
    cases sn
    rw [← e]
    rfl
  · unfold DL.snap
    simp only [hk, sn, Option.map_some, e]
theorem RdP.ins {S : Store} {y : SV} {qs : List (List D)} (h : RdP S y qs) : insOf S y = none := by
  obtain ⟨l, L, hi, e⟩ := h
  rcases L with ⟨ds, rfl, hl⟩ | ⟨k, rfl, hk⟩
  · rfl
  · unfold insOf
    simp only [hk]
theorem rp_fr {S : Store} {qs : List (List D)} (g : GP qs) : RdP S (.fr (.lst (qs.map D.lst))) qs := by
  refine ⟨qs.map fun q => (.fr (.lst q), .lst q), .inl ⟨qs.map D.lst, rfl, by rw [List.map_map, List.map_map]; rfl⟩, fun p hp => ?_, by rw [List.map_map]; rfl⟩
  obtain ⟨q, hq, rfl⟩ := List.mem_map.mp hp
  refine ⟨rfl, ?_, nofun, fun ds e => ?_⟩
  · show isX (.lst q) = true
    simp only [isX]
    exact (y_seq (B := 200) (n := 5) fun d hd => ((g.it q hq).1 d hd).y).1
  · cases e
    have := (g.len hq).2
    omega
theorem it_cell {S : Store} {j : Nat} {q : List D} (h : S[j]? = some (.lst (q.map SV.fr))) (hq : ∀ d ∈ q, Ca d) (hl : q.length ≤ 1000) : It S (.cell j) (.lst q) := by
  refine ⟨?_, ?_, nofun, fun ds e => by cases e; exact hl⟩
  · unfold snap0
    simp only [h, DL.allFr_map, Option.map_some]
  · simp only [isX]
    exact (y_seq (B := 200) (n := 5) fun d hd => (hq d hd).y).1
section
variable {S : Store} (wf : WF S)
include wf
theorem copy_run {y : SV} {qs : List (List D)} (h : RdP S y qs) (g : GP qs) {rho : Slots} {a c : Nat} (hc : c < rho.length) (hac : a ≠ c) :
    ∃ lk : Store → Prop, k_sq (y, S) = .ok (⟨h.choose.map Prod.fst, lk⟩, S) ∧ lcM lk (gNm c) tTr (eA (listG false) (aC (eV c) aN)) [a, c] rho (h.choose.map Prod.fst) S [] = .ok ((qs.map D.lst).map SV.fr, S) := by
  obtain ⟨L, hi, e⟩ := h.choose_spec
  obtain ⟨lk, sq, hlk⟩ := L.ls.sq
  refine ⟨lk, sq, ?_⟩
  have pg : ∀ p ∈ h.choose, progB p.2 = true := fun p hp => by
    have : p.2 ∈ qs.map D.lst := by rw [← e]; exact List.mem_map_of_mem hp
    obtain ⟨q, hq, hqe⟩ := List.mem_map.mp this
    rw [← hqe]
    simp only [progB, Bool.and_eq_true, decide_eq_true_eq]
    exact ⟨(g.len hq).1, List.all_eq_true.mpr fun d hd => ((g.it q hq).1 d hd).call⟩
  have ll : h.choose.length = qs.length := by
    have := congrArg List.length e
    simpa using this
  have := lc_genL (S := S) (lk := lk) (gm := gNm c) (t := tTr) (e := eA (listG false) (aC (eV c) aN)) (own := [a, c]) (rho := rho) (fun ds => hlk _) Prod.fst Prod.snd h.choose [] (by have := g.n4; rw [List.length_nil]; omega) fun p hp as => by
    have el := it_list ((hi p hp).ext (T := [.lst (as.map SV.fr)])) (pg p hp)
    have gc : ((wipeR rho [a, c]).set c (some p.1))[c]? = some (some p.1) := by rw [List.getElem?_set_self (by rw [wipeR_len]; exact hc)]
    simp only [r_lcT, r_gNm, r_bind, s_l1, r_tT, s_l2t, r_g, r_a, r_v, gc, s_v, s_a, r_n, s_ab, s_g, el, s_l3]
  rw [List.nil_append, List.map_nil, e] at this
  exact this
theorem crowd_run {qs : List (List D)} (g : GP qs) (rho : Slots) : k_makeX false "Crowd" m_Crowd___init__ rho ([.fr (.lst (qs.map D.lst))], S) = .ok (.fr (crD qs), S) := by
  obtain ⟨l, L, hi, e⟩ := rp_fr (S := S) g
  have := makeX_good wf L hi (by rw [e]; exact g.ks) rho
  rw [e] at this
  exact this
end

noncomputable def k_lck (g : GM) (t : TM) (e : EM) (own : List Nat) (rho : Slots) (w : DL.Wk × Store) : Res (SV × Store) := (noE (lcKM w.2.length w.1.lk g t e own rho w.1.xs (w.2 ++ [.lst []]))).bind fun S' => .ok (.cell w.2.length, S')
theorem r_lck (im : IM) (g : GM) (t : TM) (e : EM) (own : List Nat) (rho : Slots) (S : Store) : eLCK im g t e own rho S = (im rho S).bind (k_lck g t e own rho) := id rfl
theorem s_lck {g : GM} {t : TM} {e : EM} {own : List Nat} {rho : Slots} {w : DL.Wk} {S S' : Store} (h : lcKM S.length w.lk g t e own rho w.xs (S ++ [.lst []]) = .ok S') : k_lck g t e own rho (w, S) = .ok (.cell S.length, S') := by
  unfold k_lck
  dsimp only
  rw [h]
  rfl
def cf (a m : Nat) : List SV := (List.range m).map fun i => SV.cell (a + i)
theorem cf_succ (a m : Nat) : cf a (m + 1) = cf a m ++ [.cell (a + m)] := by unfold cf; rw [List.range_succ, List.map_append]; rfl
def blk (n : Nat) (ps : List (List D)) : Store := .lst (cf (n + 1) ps.length) :: ps.map fun p => .lst (p.map SV.fr)
theorem blk_len (n : Nat) (ps : List (List D)) : (blk n ps).length = ps.length + 1 := by simp [blk]
theorem lck_step {n : Nat} {lk : Store → Prop} {g : GM} {t : TM} {e : EM} {own : List Nat} {rho : Slots} {x : SV} {xs : List SV} {S S1 : Store} {y : SV} {acc : List SV} (hlk : lk S) (h : lcT g t e x (wipeR rho own) S = .ok (some y, S1)) (ha : S1[n]? = some (.lst acc)) (hl : acc.length ≤ 1000) :
    lcKM n lk g t e own rho (x :: xs) S = lcKM n lk g t e own rho xs (S1.set n (.lst (acc ++ [y]))) := by
  have hs := sizeLine_eq
  conv => lhs; unfold lcKM
  rw [if_pos hlk]
  unfold lcT k_l1 k_l2 k_l3 at h
  cases hg : g x (wipeR rho own) S with
  | ok r =>
    rw [hg, r_bind] at h
    rw [r_bind]
    cases ht : t r.1 r.2 with
    | ok k =>
      rw [ht, r_bind] at h
      rw [r_bind]
      by_cases hk : k.1 = true
      · rw [if_pos hk] at h ⊢
        cases he : e r.1 k.2 with
        | ok z =>
          rw [he, r_bind] at h
          rw [r_bind]
          simp only [Res.ok.injEq, Prod.mk.injEq, Option.some.injEq] at h
          obtain ⟨rfl, rfl⟩ := h
          rw [ha]
          dsimp only
          rw [if_pos (by omega)]
        | _ => rw [he] at h; cases h
      · rw [if_neg hk] at h
        simp at h
    | _ => rw [ht] at h; cases h
  | _ => rw [hg] at h; cases h
theorem lck_nil {n : Nat} {lk : Store → Prop} {g : GM} {t : TM} {e : EM} {own : List Nat} {rho : Slots} {S : Store} (hlk : lk S) : lcKM n lk g t e own rho [] S = .ok S := by
  unfold lcKM
  rw [if_pos hlk]
theorem mid_get {α : Type} (S : List α) (x : α) (U : List α) : (S ++ x :: U)[S.length]? = some x := by
  rw [List.getElem?_append_right (Nat.le_refl _), Nat.sub_self]
  rfl
theorem mid_set {α : Type} (S : List α) (x y : α) (U : List α) : (S ++ x :: U).set S.length y = S ++ y :: U := by
  rw [List.set_append, if_neg (by omega), Nat.sub_self]
  rfl
theorem in_go {S0 : Store} {c a : Nat} {rho : Slots} (hc : c < rho.length) : ∀ (qs done : List (List D)), (done ++ qs).length ≤ 1000 →
    lcKM S0.length (fun _ => True) (gNm c) tTr (eA (listG true) (aC (eV c) aN)) [a, c] rho (qs.map fun q => SV.fr (.lst q)) (S0 ++ blk S0.length done) = .ok (S0 ++ blk S0.length (done ++ qs))
  | [], done, _ => by rw [List.map_nil, lck_nil trivial, List.append_nil]
  | q :: qs, done, hl => by
    have gc : ((wipeR rho [a, c]).set c (some (SV.fr (.lst q))))[c]? = some (some (SV.fr (.lst q))) := by rw [List.getElem?_set_self (by rw [wipeR_len]; exact hc)]
    have ls : ∀ S : Store, listG true [.fr (.lst q)] S = .ok (.cell S.length, S ++ [.lst (q.map SV.fr)]) := fun S => by
      unfold listG
      simp only [rdS, rdL, newL0, if_true]
    have st : lcT (gNm c) tTr (eA (listG true) (aC (eV c) aN)) (SV.fr (.lst q)) (wipeR rho [a, c]) (S0 ++ blk S0.length done) = .ok (some (.cell (S0 ++ blk S0.length done).length), S0 ++ blk S0.length done ++ [.lst (q.map SV.fr)]) := by
      simp only [r_lcT, r_gNm, r_bind, s_l1, r_tT, s_l2t, r_g, r_a, r_v, gc, s_v, s_a, r_n, s_ab, s_g, ls, s_l3]
    have hl' : done.length ≤ 1000 := by rw [List.length_append] at hl; omega
    rw [List.map_cons, lck_step (acc := cf (S0.length + 1) done.length) trivial st (by rw [List.append_assoc]; unfold blk; rw [List.cons_append]; exact mid_get _ _ _) (by unfold cf; rw [List.length_map, List.length_range]; exact hl')]
    have e : (S0 ++ blk S0.length done ++ [Cell.lst (q.map SV.fr)]).set S0.length (.lst (cf (S0.length + 1) done.length ++ [.cell (S0 ++ blk S0.length done).length])) = S0 ++ blk S0.length (done ++ [q]) := by
      rw [List.append_assoc]
      unfold blk
      rw [List.cons_append, mid_set, List.length_append, List.length_append, List.length_cons, List.length_map, List.length_singleton, cf_succ, List.map_append, show S0.length + (done.length + 1) = S0.length + 1 + done.length by omega]
      rfl
    rw [e, in_go hc qs (done ++ [q]) (by rw [List.append_assoc]; exact hl), List.append_assoc]
    rfl
theorem in_run {S : Store} {rho : Slots} {ps : List (List D)} (h2 : rho[2]? = some (some (.fr (.lst (ps.map D.lst))))) (hc : 16 < rho.length) (hl : ps.length ≤ 1000) : eLCK (iSeq (eV 2)) (gNm 16) tTr (eA (listG true) (aC (eV 16) aN)) [14, 16] rho S = .ok (.cell S.length, S ++ blk S.length ps) := by
  have := in_go (S0 := S) (a := 14) (rho := rho) hc ps [] hl
  rw [r_lck, r_sq, r_v, h2, s_v, r_bind, s_sqL, r_bind, s_lck (S' := S ++ blk S.length ps)]
  rw [List.map_map]
  exact this
theorem out_step {S : Store} {rho : Slots} {ps : List (List D)} (h2 : rho[2]? = some (some (.fr (.lst (ps.map D.lst))))) (hc : 16 < rho.length) (hl : ps.length ≤ 1000) {x : SV} {xs : List SV} {acc : List SV} (ha : acc.length ≤ 1000) (U : Store) :
    lcKM S.length (fun _ => True) (gNm 15) tTr (eLCK (iSeq (eV 2)) (gNm 16) tTr (eA (listG true) (aC (eV 16) aN)) [14, 16]) [14, 15] rho (x :: xs) (S ++ .lst acc :: U) =
    lcKM S.length (fun _ => True) (gNm 15) tTr (eLCK (iSeq (eV 2)) (gNm 16) tTr (eA (listG true) (aC (eV 16) aN)) [14, 16]) [14, 15] rho xs (S ++ .lst (acc ++ [.cell (S.length + (1 + U.length))]) :: (U ++ blk (S.length + (1 + U.length)) ps)) := by
  have g2 : ((wipeR rho [14, 15]).set 15 (some x))[2]? = some (some (.fr (.lst (ps.map D.lst)))) := by
    rw [s_wr, s_wr, s_wr0, List.getElem?_set_ne (by decide), List.getElem?_set_ne (by decide), List.getElem?_set_ne (by decide), h2]
  have el := in_run (S := S ++ .lst acc :: U) g2 (by rw [List.length_set, wipeR_len]; exact hc) hl
  have ln : (S ++ .lst acc :: U).length = S.length + (1 + U.length) := by rw [List.length_append, List.length_cons]; omega
  rw [ln] at el
  have st : lcT (gNm 15) tTr (eLCK (iSeq (eV 2)) (gNm 16) tTr (eA (listG true) (aC (eV 16) aN)) [14, 16]) x (wipeR rho [14, 15]) (S ++ .lst acc :: U) = .ok (some (.cell (S.length + (1 + U.length))), S ++ .lst acc :: U ++ blk (S.length + (1 + U.length)) ps) := by
    simp only [r_lcT, r_gNm, r_bind, s_l1, r_tT, s_l2t, el, s_l3]
  rw [List.append_assoc, List.cons_append] at st
  rw [lck_step trivial st (mid_get _ _ _) ha, mid_set]
theorem three_go {S : Store} {rho : Slots} {ps : List (List D)} (h2 : rho[2]? = some (some (.fr (.lst (ps.map D.lst))))) (hc : 16 < rho.length) (hl : ps.length ≤ 1000) :
    eLCK (iR1 (aC (eC (.int 3)) aN)) (gNm 15) tTr (eLCK (iSeq (eV 2)) (gNm 16) tTr (eA (listG true) (aC (eV 16) aN)) [14, 16]) [14, 15] rho S = .ok (.cell S.length, S ++ .lst [.cell (S.length + 1), .cell (S.length + (1 + (ps.length + 1))), .cell (S.length + (1 + (ps.length + 1) + (ps.length + 1)))] :: (blk (S.length + 1) ps ++ (blk (S.length + (1 + (ps.length + 1))) ps ++ blk (S.length + (1 + (ps.length + 1) + (ps.length + 1))) ps))) := by
  have rr : rngS 0 (3 : Int).toNat = [.fr (.int 0), .fr (.int 1), .fr (.int 2)] := rfl
  rw [r_lck, r_r1]
  have e0 : aC (eC (.int 3)) aN rho S = .ok ([.fr (.int 3)], S) := rfl
  rw [e0, r_bind, s_r1 (by decide), r_bind, s_lck (S' := S ++ .lst [.cell (S.length + 1), .cell (S.length + (1 + (ps.length + 1))), .cell (S.length + (1 + (ps.length + 1) + (ps.length + 1)))] :: (blk (S.length + 1) ps ++ (blk (S.length + (1 + (ps.length + 1))) ps ++ blk (S.length + (1 + (ps.length + 1) + (ps.length + 1))) ps)))]
  dsimp only
  rw [rr]
  have s1 := out_step (S := S) (rho := rho) (ps := ps) h2 hc hl (x := .fr (.int 0)) (xs := [.fr (.int 1), .fr (.int 2)]) (acc := []) (by decide) []
  have s2 := out_step (S := S) (rho := rho) (ps := ps) h2 hc hl (x := .fr (.int 1)) (xs := [.fr (.int 2)]) (acc := [.cell (S.length + 1)]) (by simp) (blk (S.length + 1) ps)
  have s3 := out_step (S := S) (rho := rho) (ps := ps) h2 hc hl (x := .fr (.int 2)) (xs := []) (acc := [.cell (S.length + 1), .cell (S.length + (1 + (ps.length + 1)))]) (by simp) (blk (S.length + 1) ps ++ blk (S.length + (1 + (ps.length + 1))) ps)
  rw [blk_len] at s2
  rw [List.length_append, blk_len, blk_len] at s3
  rw [s1]
  refine Eq.trans s2 (Eq.trans s3 ?_)
  rw [lck_nil trivial, List.append_assoc, show 1 + (ps.length + 1) + (ps.length + 1) = 1 + (ps.length + 1 + (ps.length + 1)) by omega]
  rfl

theorem rd_items {S : Store} {k : Nat} {xs : List SV} {qs : List (List D)} (h : S[k]? = some (.lst xs)) (hl : xs.length = qs.length) (hi : ∀ i (h1 : i < xs.length) (h2 : i < qs.length), It S xs[i] (.lst qs[i])) : RdP S (.cell k) qs := by
  have hl2 : xs.length = (qs.map D.lst).length := by rw [List.length_map]; exact hl
  refine ⟨xs.zip (qs.map D.lst), .inr ⟨k, rfl, ?_⟩, fun p hp => ?_, List.map_snd_zip (by omega)⟩
  · rw [List.map_fst_zip (by omega)]
    exact h
  · obtain ⟨i, h1, rfl⟩ := List.mem_iff_getElem.mp hp
    rw [List.getElem_zip]
    rw [List.length_zip] at h1
    have := hi i (by omega) (by omega)
    rw [List.getElem_map]
    exact this
theorem it_frz {S : Store} {q : List D} (hq : ∀ d ∈ q, Ca d) (hl : q.length ≤ 1000) : It S (.fr (.lst q)) (.lst q) := by
  refine ⟨rfl, ?_, nofun, fun ds e => by cases e; exact hl⟩
  simp only [isX]
  exact (y_seq (B := 200) (n := 5) fun d hd => (hq d hd).y).1
theorem sum_set : ∀ {l : List Nat} {i : Nat} (h : i < l.length) (v : Nat), (l.set i v).sum + l[i] = l.sum + v
  | a :: l, 0, _, v => by simp only [List.set_cons_zero, List.sum_cons, List.getElem_cons_zero]; omega
  | a :: l, i + 1, h, v => by
    have := sum_set (l := l) (i := i) (by simpa using h) v
    simp only [List.set_cons_succ, List.sum_cons, List.getElem_cons_succ]
    omega
theorem GP.set {ps : List (List D)} (g : GP ps) {i : Nat} (h : i < ps.length) {q : List D} (hq : ∀ d ∈ q, Ca d) (hl : q.length = ps[i].length) : GP (ps.set i q) where
  n1 := by rw [List.length_set]; exact g.n1
  n4 := by rw [List.length_set]; exact g.n4
  it := fun p hp => by
    rcases List.mem_or_eq_of_mem_set hp with hp | rfl
    · exact g.it p hp
    · refine ⟨hq, fun e => ?_⟩
      have := (g.len (List.getElem_mem h)).1
      rw [← hl, e] at this
      simp at this
  sum := by
    have := sum_set (l := ps.map List.length) (i := i) (by rw [List.length_map]; exact h) q.length
    rw [List.getElem_map] at this
    rw [List.map_set]
    have := g.sum
    omega
theorem GP.swap {ps : List (List D)} (g : GP ps) {i j : Nat} (hi : i < ps.length) (hj : j < ps.length) : GP ((ps.set i ps[j]).set j ps[i]) where
  n1 := by rw [List.length_set, List.length_set]; exact g.n1
  n4 := by rw [List.length_set, List.length_set]; exact g.n4
  it := fun p hp => by
    rcases List.mem_or_eq_of_mem_set hp with hp | rfl
    · rcases List.mem_or_eq_of_mem_set hp with hp | rfl
      · exact g.it p hp
      · exact g.it _ (List.getElem_mem _)
    · exact g.it _ (List.getElem_mem _)
  sum := by
    have a := sum_set (l := ps.map List.length) (i := i) (by rw [List.length_map]; exact hi) ps[j].length
    have b := sum_set (l := (ps.map List.length).set i ps[j].length) (i := j) (by rw [List.length_set, List.length_map]; exact hj) ps[i].length
    rw [List.getElem_map] at a
    rw [List.getElem_set] at b
    rw [List.map_set, List.map_set]
    have := g.sum
    split at b
    · omega
    · rw [List.getElem_map] at b
      omega
theorem GP.less {ps : List (List D)} (g : GP ps) {i : Nat} (hi : i < ps.length) (h1 : 1 < ps.length) : GP (ps.take i ++ ps.drop (i + 1)) where
  n1 := by rw [List.length_append, List.length_take, List.length_drop]; omega
  n4 := by have := g.n4; rw [List.length_append, List.length_take, List.length_drop]; omega
  it := fun p hp => by
    rcases List.mem_append.mp hp with hp | hp
    · exact g.it p (List.mem_of_mem_take hp)
    · exact g.it p (List.mem_of_mem_drop hp)
  sum := by
    have e : ps = ps.take i ++ (ps[i] :: ps.drop (i + 1)) := by rw [List.getElem_cons_drop, List.take_append_drop]
    have s : (ps.map List.length).sum = ((ps.take i ++ (ps[i] :: ps.drop (i + 1))).map List.length).sum := congrArg (fun x => (x.map List.length).sum) e
    have := g.sum
    rw [s] at this
    simp only [List.map_append, List.map_cons, List.sum_append, List.sum_cons] at this ⊢
    omega
section
variable {S : Store} (wf : WF S)
include wf
theorem ul_body {ps qs : List (List D)} (g : GP ps) (gq : GP qs) {y : SV} (hy : RdP S y qs) {x0 x3 x4 x5 x6 x7 x8 x9 x10 y11 y12 y13 x14 x15 x16 : Option SV} :
    (gNm 11 y [x0, some (.fr (crD ps)), some (.fr (.lst (ps.map D.lst))), x3, x4, x5, x6, x7, x8, x9, x10, y11, y12, y13, x14, x15, x16] S).bind (k_body f_law_unlike_right_1) =
    .ok (.nx, [x0, some (.fr (crD ps)), some (.fr (.lst (ps.map D.lst))), x3, x4, x5, x6, x7, x8, x9, x10, some y, some (.fr (crD qs)), some (.fr (.bl (dq qs ps))), x14, x15, x16], S) := by
  obtain ⟨lk, sq, cc⟩ := copy_run wf hy gq (rho := [x0, some (.fr (crD ps)), some (.fr (.lst (ps.map D.lst))), x3, x4, x5, x6, x7, x8, x9, x10, some y, y12, y13, x14, x15, x16]) (a := 14) (c := 16) (by simp) (by decide)
  have cr := fun rho => crowd_run wf gq rho
  have eq := r_eq false (S := S) (a := y) (b := .fr (.lst (ps.map D.lst))) hy.snap rfl (eqD_ps gq g)
  have e1 := EQ_cr wf false g gq
  have e2' := EQ_cr wf false gq g
  have e3 := EQ_cr wf true g gq
  rw [dq_comm ps qs] at e1 e3
  unfold EQ at e1 e2' e3
  generalize dq qs ps = r at *
  have q1 : eqG true (.fr (.bl r)) (.fr (.bl r)) S = .ok (.fr (.bl false), S) := by cases r <;> rfl
  have q2 : eqG false (.fr (.bl (!r))) (.fr (.bl r)) S = .ok (.fr (.bl false), S) := by cases r <;> rfl
  simp only [RR, DL.isNon, List.replicate_succ, List.replicate_zero, List.set_cons_zero, List.set_cons_succ, List.getElem?_cons_zero, List.getElem?_cons_succ, Option.map_some, Nat.reduceSub, and_self, and_true, true_and, decide_true, decide_false, if_true, if_false, Bool.false_eq_true, Bool.not_true, Bool.not_false, Nat.reduceAdd, Nat.reduceMul, Nat.reduceLeDiff, f_law_unlike_right_1, sq, cc, s_lceF wf, r_makeX, cr, eq, e1, e2', e3, q1, q2]
theorem ul_loop {ps : List (List D)} (g : GP ps) {lk : Store → Prop} (hlk : lk S) {x0 x3 x4 x5 x6 x7 x8 x9 x10 x14 x15 x16 : Option SV} : ∀ (ys : List (SV × List (List D))), (∀ y ∈ ys, RdP S y.1 y.2 ∧ GP y.2) → ∀ y11 y12 y13 : Option SV, ∃ z11 z12 z13 : Option SV,
    loopM lk (gNm 11) f_law_unlike_right_1 (ys.map Prod.fst) [x0, some (.fr (crD ps)), some (.fr (.lst (ps.map D.lst))), x3, x4, x5, x6, x7, x8, x9, x10, y11, y12, y13, x14, x15, x16] S =
    .ok (.nx, [x0, some (.fr (crD ps)), some (.fr (.lst (ps.map D.lst))), x3, x4, x5, x6, x7, x8, x9, x10, z11, z12, z13, x14, x15, x16], S)
  | [], _, y11, y12, y13 => ⟨y11, y12, y13, loop_nil _ _ hlk⟩
  | y :: ys, h, y11, y12, y13 => by
    obtain ⟨h1, h2⟩ := h y List.mem_cons_self
    have st := ul_body wf g h2 h1 (x0 := x0) (x3 := x3) (x4 := x4) (x5 := x5) (x6 := x6) (x7 := x7) (x8 := x8) (x9 := x9) (x10 := x10) (y11 := y11) (y12 := y12) (y13 := y13) (x14 := x14) (x15 := x15) (x16 := x16)
    obtain ⟨z11, z12, z13, ih⟩ := ul_loop g hlk ys (fun z hz => h z (List.mem_cons_of_mem _ hz)) (some y.1) (some (.fr (crD y.2))) (some (.fr (.bl (dq y.2 ps)))) (x0 := x0) (x3 := x3) (x4 := x4) (x5 := x5) (x6 := x6) (x7 := x7) (x8 := x8) (x9 := x9) (x10 := x10) (x14 := x14) (x15 := x15) (x16 := x16)
    refine ⟨z11, z12, z13, ?_⟩
    rw [List.map_cons, loop_cons _ _ _ hlk, st, r_bind, s_turnN, ih]
end

theorem get71 (c : Cell) (R T : Store) (i : Nat) : (c :: (R ++ T))[R.length + 1 + i]? = T[i]? := by
  rw [Nat.add_assoc]
  exact get70 c R T i
theorem set71 (c x : Cell) (R T : Store) (i : Nat) : (c :: (R ++ T)).set (R.length + 1 + i) x = c :: (R ++ T.set i x) := by
  rw [Nat.add_assoc]
  exact set70 c x R T i
theorem ix71 {c : Cell} {R T : Store} {i : Nat} {xs : List SV} {m : Nat} {y : SV} (h : T[i]? = some (.lst xs)) (hy : xs[m]? = some y) : ixG (.cell (R.length + 1 + i)) (.fr (.int (m : Int))) (c :: (R ++ T)) = .ok (y, c :: (R ++ T)) := by
  rw [r_xC (xs := xs) (by rw [get71, h]), DL.atI_nat, hy]
  rfl
theorem ixN_nat {n m : Nat} (h : m < n) : ixN n (m : Int) = some m := by
  unfold ixN
  rw [if_pos (by omega), if_pos (by omega)]
  simp
theorem setL71 {c : Cell} {R T : Store} {i : Nat} {xs : List SV} {m : Nat} (v : SV) (h : T[i]? = some (.lst xs)) (hm : m < xs.length) : setL (.cell (R.length + 1 + i)) (.fr (.int (m : Int))) v (c :: (R ++ T)) = .ok (c :: (R ++ T.set i (.lst (xs.set m v)))) := by
  have g : (c :: (R ++ T))[R.length + 1 + i]? = some (.lst xs) := by rw [get71, h]
  unfold setL
  simp only [g, ixN_nat hm, set71]
theorem rev71 {c : Cell} {R T : Store} {i : Nat} {xs : List SV} (h : T[i]? = some (.lst xs)) : reverseG (.cell (R.length + 1 + i)) [] (c :: (R ++ T)) = .ok (.fr .non, c :: (R ++ T.set i (.lst xs.reverse))) := by
  have g : (c :: (R ++ T))[R.length + 1 + i]? = some (.lst xs) := by rw [get71, h]
  unfold reverseG DL.cellOf
  simp only [g, set71]
  rfl
theorem app71 {c : Cell} {R T : Store} {i : Nat} {xs : List SV} {y : SV} (h : T[i]? = some (.lst xs)) (hl : xs.length ≤ 1000) : appendG (.cell (R.length + 1 + i)) [y] (c :: (R ++ T)) = .ok (.fr .non, c :: (R ++ T.set i (.lst (xs ++ [y])))) := by
  have g : (c :: (R ++ T))[R.length + 1 + i]? = some (.lst xs) := by rw [get71, h]
  rw [app_at g (by omega), set71]
theorem ty71 {c : Cell} {R T : Store} {i : Nat} {xs : List SV} (h : T[i]? = some (.lst xs)) : tyS "list" (c :: (R ++ T)) (.cell (R.length + 1 + i)) = true := by
  have g : (c :: (R ++ T))[R.length + 1 + i]? = some (.lst xs) := by rw [get71, h]
  unfold tyS
  simp only [rdL, g]
  rfl
theorem cf_get (a m i : Nat) (h : i < m) : (cf a m)[i]? = some (.cell (a + i)) := by
  unfold cf
  rw [List.getElem?_map, List.getElem?_range h]
  rfl
theorem cf_len (a m : Nat) : (cf a m).length = m := by unfold cf; rw [List.length_map, List.length_range]
theorem blk_0 (a : Nat) (ps : List (List D)) : (blk a ps)[0]? = some (.lst (cf (a + 1) ps.length)) := rfl
theorem blk_1 (a : Nat) {ps : List (List D)} {i : Nat} (h : i < ps.length) : (blk a ps)[1 + i]? = some (.lst (ps[i].map SV.fr)) := by
  unfold blk
  rw [Nat.add_comm 1 i, List.getElem?_cons_succ, List.getElem?_map, List.getElem?_eq_getElem h]
  rfl
structure Three (n N : Nat) (ps : List (List D)) (T : Store) : Prop where
  len : T.length = 1 + (N + 1) + (N + 1) + (N + 1)
  h0 : T[0]? = some (.lst [.cell (n + 1), .cell (n + (1 + (N + 1))), .cell (n + (1 + (N + 1) + (N + 1)))])
  d0 : T[1]? = some (.lst (cf (n + 1 + 1) N))
  d1 : T[1 + (N + 1)]? = some (.lst (cf (n + (1 + (N + 1)) + 1) N))
  d2 : T[1 + (N + 1) + (N + 1)]? = some (.lst (cf (n + (1 + (N + 1) + (N + 1)) + 1) N))
  i0 : ∀ i (h : i < ps.length), T[1 + (1 + i)]? = some (.lst (ps[i].map SV.fr))
  i1 : ∀ i (h : i < ps.length), T[1 + (N + 1) + (1 + i)]? = some (.lst (ps[i].map SV.fr))
  i2 : ∀ i (h : i < ps.length), T[1 + (N + 1) + (N + 1) + (1 + i)]? = some (.lst (ps[i].map SV.fr))
abbrev threeT (n : Nat) (ps : List (List D)) : Store := .lst [.cell (n + 1), .cell (n + (1 + (ps.length + 1))), .cell (n + (1 + (ps.length + 1) + (ps.length + 1)))] :: (blk (n + 1) ps ++ (blk (n + (1 + (ps.length + 1))) ps ++ blk (n + (1 + (ps.length + 1) + (ps.length + 1))) ps))
theorem three_at (n : Nat) (ps : List (List D)) : (∀ i c, (blk (n + 1) ps)[i]? = some c → (threeT n ps)[1 + i]? = some c) ∧ (∀ i c, (blk (n + (1 + (ps.length + 1))) ps)[i]? = some c → (threeT n ps)[1 + (ps.length + 1) + i]? = some c) ∧
    (∀ i c, (blk (n + (1 + (ps.length + 1) + (ps.length + 1))) ps)[i]? = some c → (threeT n ps)[1 + (ps.length + 1) + (ps.length + 1) + i]? = some c) := by
  refine ⟨fun i c h => ?_, fun i c h => ?_, fun i c h => ?_⟩
  · rw [Nat.add_comm 1 i, List.getElem?_cons_succ]
    exact get_app h
  · rw [show 1 + (ps.length + 1) + i = ((blk (n + 1) ps).length + i) + 1 by rw [blk_len]; omega, List.getElem?_cons_succ, List.getElem?_append_right (by omega), Nat.add_sub_cancel_left]
    exact get_app h
  · rw [show 1 + (ps.length + 1) + (ps.length + 1) + i = ((blk (n + 1) ps).length + ((blk (n + (1 + (ps.length + 1))) ps).length + i)) + 1 by rw [blk_len, blk_len]; omega, List.getElem?_cons_succ, List.getElem?_append_right (by omega), Nat.add_sub_cancel_left, List.getElem?_append_right (by omega), Nat.add_sub_cancel_left]
    exact h
theorem three_ok (n : Nat) (ps : List (List D)) : Three n ps.length ps (threeT n ps) := by
  obtain ⟨a, b, c⟩ := three_at n ps
  exact ⟨by simp only [threeT, List.length_cons, List.length_append, blk_len]; omega, rfl, a 0 _ (blk_0 _ _), b 0 _ (blk_0 _ _), c 0 _ (blk_0 _ _), fun i h => a _ _ (blk_1 _ h), fun i h => b _ _ (blk_1 _ h), fun i h => c _ _ (blk_1 _ h)⟩
theorem three_wf {S : Store} (w : WF S) {ps : List (List D)} : WF (S ++ threeT S.length ps) := by
  refine wf_app70 w fun c hc => ?_
  have ln : (threeT S.length ps).length = 1 + (ps.length + 1) + (ps.length + 1) + (ps.length + 1) := (three_ok _ _).len
  rw [ln]
  have bk : ∀ a, a + ps.length < S.length + (1 + (ps.length + 1) + (ps.length + 1) + (ps.length + 1)) → ∀ c ∈ blk a ps, c.below (S.length + (1 + (ps.length + 1) + (ps.length + 1) + (ps.length + 1))) = true := fun a ha c hc => by
    rcases List.mem_cons.mp hc with rfl | hc
    · simp only [Cell.below, List.all_eq_true]
      intro y hy
      obtain ⟨i, hi, rfl⟩ := List.mem_map.mp hy
      rw [List.mem_range] at hi
      simp only [SV.below, decide_eq_true_eq]
      omega
    · obtain ⟨p, hp, rfl⟩ := List.mem_map.mp hc
      exact below_map _ _
  rcases List.mem_cons.mp hc with rfl | hc
  · simp only [Cell.below, List.all_cons, List.all_nil, SV.below, Bool.and_true, Bool.and_eq_true, decide_eq_true_eq]
    omega
  · rcases List.mem_append.mp hc with hc | hc
    · exact bk _ (by omega) c hc
    · rcases List.mem_append.mp hc with hc | hc
      · exact bk _ (by omega) c hc
      · exact bk _ (by omega) c hc
theorem leave_bagT {b b' : Bag} {R T : Store} (w : WF (b.c :: R)) (d : D) : leave (b.c :: R).length (.fr d) (b'.c :: (R ++ T)) = .ok (.val (.fr d), b'.c :: R) := leave_more (S := b'.c :: R) (T := T) (WF.bag w) d

theorem unlike_run (b : Bag) (hb : b.Ok) (R : Store) (w : WF (b.c :: R)) {ps : List (List D)} (g : GP ps) : ∃ b' : Bag, Bag.Ok b' ∧ WF (b'.c :: R) ∧ m_law_unlike_right [.cell 0, .fr (crD ps), .fr (.lst (ps.map D.lst))] (b.c :: R) = .ok (.val (.fr (.bl true)), b'.c :: R) := by
  have n1 := g.n1
  have n4 := g.n4
  have hl : (ps.map D.lst).length = ps.length := List.length_map ..
  obtain ⟨v1, b1, l1, u1, k1, w1, e1⟩ := take_run b hb ((ps.map D.lst).length : Int) (by omega) (lognat (by omega)) R w
  obtain ⟨v2, b2, l2, u2, k2, w2, e2⟩ := take_run b1 k1 ((ps.map D.lst).length : Int) (by omega) (lognat (by omega)) R w1
  obtain ⟨m1, rfl⟩ : ∃ m : Nat, v1 = (m : Int) := ⟨v1.toNat, by omega⟩
  obtain ⟨m2, rfl⟩ : ∃ m : Nat, v2 = (m : Int) := ⟨v2.toNat, by omega⟩
  have h1 : m1 < ps.length := by omega
  have h2 : m2 < ps.length := by omega
  have p1 := g.len (List.getElem_mem h1)
  have p1c := (g.it _ (List.getElem_mem h1)).1
  obtain ⟨v3, b3, l3, u3, k3, w3, e3⟩ := take_run b2 k2 (ps[m1].length : Int) (by omega) (lognat (by omega)) R w2
  obtain ⟨m3, rfl⟩ : ∃ m : Nat, v3 = (m : Int) := ⟨v3.toNat, by omega⟩
  have h3 : m3 < ps[m1].length := by omega
  obtain ⟨L, F, z, hc, hL, hF, hz⟩ := (p1c _ (List.getElem_mem h3)).inv
  obtain ⟨N, hN⟩ : ∃ N, ps.length = N := ⟨_, rfl⟩
  -- the copies
  have TH := three_ok (R.length + 1) ps
  rw [hN] at TH
  have wT0 : WF (b3.c :: (R ++ threeT (R.length + 1) ps)) := three_wf (S := b3.c :: R) w3
  have K : ∀ rho : Slots, rho[2]? = some (some (.fr (.lst (ps.map D.lst)))) → 16 < rho.length → eLCK (iR1 (aC (eC (.int 3)) aN)) (gNm 15) tTr (eLCK (iSeq (eV 2)) (gNm 16) tTr (eA (listG true) (aC (eV 16) aN)) [14, 16]) [14, 15] rho (b3.c :: R) = .ok (.cell (R.length + 1), b3.c :: (R ++ threeT (R.length + 1) ps)) :=
    fun rho h2 hc => three_go (S := b3.c :: R) h2 hc (by omega)
  generalize threeT (R.length + 1) ps = T0 at *
  obtain ⟨tl, t0, td0, td1, td2, ti0, ti1, ti2⟩ := TH
  have h1' : m1 < N := by omega
  have h2' : m2 < N := by omega
  -- reversed
  have a1 := ti0 m1 (by omega)
  obtain ⟨T1, hT1⟩ : ∃ T1, T0.set (1 + (1 + m1)) (.lst (ps[m1].map SV.fr).reverse) = T1 := ⟨_, rfl⟩
  have g00 : ixG (.cell (R.length + 1)) (.fr (.int 0)) (b3.c :: (R ++ T0)) = .ok (.cell (R.length + 1 + 1), b3.c :: (R ++ T0)) := ix71 (i := 0) (m := 0) t0 rfl
  have g01 : ixG (.cell (R.length + 1 + 1)) (.fr (.int (m1 : Int))) (b3.c :: (R ++ T0)) = .ok (.cell (R.length + 1 + (1 + (1 + m1))), b3.c :: (R ++ T0)) := by
    rw [ix71 (i := 1) (m := m1) td0 (cf_get _ _ _ h1')]
    congr 3
    omega
  have ty0 := ty71 (c := b3.c) (R := R) a1
  have r0 := rev71 (c := b3.c) (R := R) a1
  rw [hT1] at r0
  -- exchanged
  have t0_1 : T1[0]? = some (.lst [.cell (R.length + 1 + 1), .cell (R.length + 1 + (1 + (N + 1))), .cell (R.length + 1 + (1 + (N + 1) + (N + 1)))]) := by rw [← hT1, List.getElem?_set_ne (by omega), t0]
  have d1_1 : T1[1 + (N + 1)]? = some (.lst (cf (R.length + 1 + (1 + (N + 1)) + 1) N)) := by rw [← hT1, List.getElem?_set_ne (by omega), td1]
  obtain ⟨T2, hT2⟩ : ∃ T2, T1.set (1 + (N + 1)) (.lst ((cf (R.length + 1 + (1 + (N + 1)) + 1) N).set m1 (.fr (.lst ps[m2])))) = T2 := ⟨_, rfl⟩
  have tl1 : T1.length = T0.length := by rw [← hT1, List.length_set]
  have tl2 : T2.length = T0.length := by rw [← hT2, List.length_set, tl1]
  have g10 : ixG (.cell (R.length + 1)) (.fr (.int 1)) (b3.c :: (R ++ T1)) = .ok (.cell (R.length + 1 + (1 + (N + 1))), b3.c :: (R ++ T1)) := ix71 (i := 0) (m := 1) t0_1 rfl
  have st1 : setL (.cell (R.length + 1 + (1 + (N + 1)))) (.fr (.int (m1 : Int))) (.fr (.lst ps[m2])) (b3.c :: (R ++ T1)) = .ok (b3.c :: (R ++ T2)) := by
    rw [setL71 _ d1_1 (by rw [cf_len]; exact h1'), hT2]
  have t0_2 : T2[0]? = some (.lst [.cell (R.length + 1 + 1), .cell (R.length + 1 + (1 + (N + 1))), .cell (R.length + 1 + (1 + (N + 1) + (N + 1)))]) := by rw [← hT2, List.getElem?_set_ne (by omega), t0_1]
  have d1_2 : T2[1 + (N + 1)]? = some (.lst ((cf (R.length + 1 + (1 + (N + 1)) + 1) N).set m1 (.fr (.lst ps[m2])))) := by rw [← hT2, List.getElem?_set_self (by omega)]
  obtain ⟨T3, hT3⟩ : ∃ T3, T2.set (1 + (N + 1)) (.lst (((cf (R.length + 1 + (1 + (N + 1)) + 1) N).set m1 (.fr (.lst ps[m2]))).set m2 (.fr (.lst ps[m1])))) = T3 := ⟨_, rfl⟩
  have tl3 : T3.length = T0.length := by rw [← hT3, List.length_set, tl2]
  have g20 : ixG (.cell (R.length + 1)) (.fr (.int 1)) (b3.c :: (R ++ T2)) = .ok (.cell (R.length + 1 + (1 + (N + 1))), b3.c :: (R ++ T2)) := ix71 (i := 0) (m := 1) t0_2 rfl
  have st2 : setL (.cell (R.length + 1 + (1 + (N + 1)))) (.fr (.int (m2 : Int))) (.fr (.lst ps[m1])) (b3.c :: (R ++ T2)) = .ok (b3.c :: (R ++ T3)) := by
    rw [setL71 _ d1_2 (by rw [List.length_set, cf_len]; exact h2'), hT3]
  -- well formed
  have bel : ∀ {xs : List SV} (n : Nat), (∀ y ∈ xs, y.below n = true) → ∀ {m : Nat} {d : D}, ∀ y ∈ xs.set m (.fr d), y.below n = true := by
    intro xs n h m d y hy
    rcases List.mem_or_eq_of_mem_set hy with hy | rfl
    · exact h y hy
    · rfl
  have cfb : ∀ a m k : Nat, a + m ≤ k → ∀ y ∈ cf a m, y.below k = true := fun a m k h y hy => by
    obtain ⟨i, hi, rfl⟩ := List.mem_map.mp hy
    rw [List.mem_range] at hi
    simp only [SV.below, decide_eq_true_eq]
    omega
  have wS : ∀ {b : Bag} {T : Store} {i : Nat} {xs : List SV}, WF (b.c :: (R ++ T)) → (∀ y ∈ xs, y.below (R.length + 1 + T.length) = true) → WF (b.c :: (R ++ T.set i (.lst xs))) := fun {b T i xs} wf h => by
    rw [← set71]
    refine wf.set _ (below_lst h ?_)
    rw [List.length_cons, List.length_append]
    omega
  have w5 : WF (b3.c :: (R ++ T1)) := by
    rw [← hT1]
    refine wS wT0 fun y hy => ?_
    rw [List.mem_reverse] at hy
    obtain ⟨d, _, rfl⟩ := List.mem_map.mp hy
    rfl
  have w6 : WF (b3.c :: (R ++ T2)) := by
    rw [← hT2]
    exact wS w5 (bel _ (cfb _ _ _ (by omega)))
  have w7 : WF (b3.c :: (R ++ T3)) := by
    rw [← hT3]
    exact wS w6 (bel _ (bel _ (cfb _ _ _ (by omega))))
  -- another call
  obtain ⟨v4, b4, l4, u4, k4, w4, e4⟩ := take_run b3 k3 2 (by decide) (by decide) _ w7
  obtain ⟨z', hz', hzc⟩ : ∃ z' : D, ((z = .non ∧ z' = .int F) ∨ ((∃ m : Int, z = .int m) ∧ z' = .non)) ∧ (z' = .non ∨ ∃ m : Int, z' = .int m ∧ F ≤ m ∧ m ≤ T39 + 8) := by
    rcases hz with rfl | ⟨m, rfl, _⟩
    · exact ⟨.int F, .inl ⟨rfl, rfl⟩, .inr ⟨F, rfl, by omega, by omega⟩⟩
    · exact ⟨.non, .inr ⟨⟨m, rfl⟩, rfl⟩, .inl rfl⟩
  have eI : eIf (DL.tB (DL.e2 (isG true) (eV 9) (eC .non))) (eC .non) (eV 8) [some (.cell 0), some (.fr (crD ps)), some (.fr (.lst (ps.map D.lst))), some (.fr (.int m1)), some (.fr (.int m2)), some (.fr (.int m3)), some (.cell (R.length + 1)), some (.fr (.int L)), some (.fr (.int F)), some (.fr z), none, none, none, none, none, none, none] (b3.c :: (R ++ T3)) = .ok (.fr z', b3.c :: (R ++ T3)) := by
    rcases hz' with ⟨rfl, rfl⟩ | ⟨⟨m, rfl⟩, rfl⟩
    · simp only [RR, DL.isNon, List.replicate_succ, List.replicate_zero, List.set_cons_zero, List.set_cons_succ, List.getElem?_cons_zero, List.getElem?_cons_succ, Option.map_some, Nat.reduceSub, and_self, and_true, true_and, decide_true, decide_false, if_true, if_false, Bool.false_eq_true, Bool.not_true, Bool.not_false, Nat.reduceAdd, Nat.reduceMul, Nat.reduceLeDiff]
    · simp only [RR, DL.isNon, List.replicate_succ, List.replicate_zero, List.set_cons_zero, List.set_cons_succ, List.getElem?_cons_zero, List.getElem?_cons_succ, Option.map_some, Nat.reduceSub, and_self, and_true, true_and, decide_true, decide_false, if_true, if_false, Bool.false_eq_true, Bool.not_true, Bool.not_false, Nat.reduceAdd, Nat.reduceMul, Nat.reduceLeDiff]
  simp only [RR, DL.isNon, List.replicate_succ, List.replicate_zero, List.set_cons_zero, List.set_cons_succ, List.getElem?_cons_zero, List.getElem?_cons_succ, Option.map_some, Nat.reduceSub, and_self, and_true, true_and, decide_true, decide_false, if_true, if_false, Bool.false_eq_true, Bool.not_true, Bool.not_false, Nat.reduceAdd, Nat.reduceMul, Nat.reduceLeDiff] at eI
  have K1 := K [some (.cell 0), some (.fr (crD ps)), some (.fr (.lst (ps.map D.lst))), some (.fr (.int m1)), some (.fr (.int m2)), none, none, none, none, none, none, none, none, none, none, none, none] rfl (by simp)
  obtain ⟨c, hc1, hc2⟩ : ∃ c : D, atI [.tup [.int ((L + 1) % 3), .int F, z], .tup [.int L, .int F, z']] v4 = some c ∧ Ca c := by
    have ca : ∀ {l : Int} {z : D}, 0 ≤ l ∧ l ≤ 2 → (z = .non ∨ ∃ m : Int, z = .int m ∧ F ≤ m ∧ m ≤ T39 + 8) → Ca (.tup [.int l, .int F, z]) := fun hl hz => by
      rcases hz with rfl | ⟨m, rfl, hm⟩
      · exact .non hl hF
      · exact .int hl hF hm
    rcases (by omega : v4 = 0 ∨ v4 = 1) with rfl | rfl
    · exact ⟨_, at_0 _ _, ca (by omega) hz⟩
    · exact ⟨_, at_1 _ _ _, ca hL hzc⟩
  have t0_3 : T3[0]? = some (.lst [.cell (R.length + 1 + 1), .cell (R.length + 1 + (1 + (N + 1))), .cell (R.length + 1 + (1 + (N + 1) + (N + 1)))]) := by rw [← hT3, List.getElem?_set_ne (by omega), t0_2]
  have d2_3 : T3[1 + (N + 1) + (N + 1)]? = some (.lst (cf (R.length + 1 + (1 + (N + 1) + (N + 1)) + 1) N)) := by rw [← hT3, List.getElem?_set_ne (by omega), ← hT2, List.getElem?_set_ne (by omega), ← hT1, List.getElem?_set_ne (by omega), td2]
  have i2_3 : ∀ i (h : i < ps.length), T3[1 + (N + 1) + (N + 1) + (1 + i)]? = some (.lst (ps[i].map SV.fr)) := fun i h => by rw [← hT3, List.getElem?_set_ne (by omega), ← hT2, List.getElem?_set_ne (by omega), ← hT1, List.getElem?_set_ne (by omega), ti2 i h]
  obtain ⟨T4, hT4⟩ : ∃ T4, T3.set (1 + (N + 1) + (N + 1) + (1 + m1)) (.lst ((ps[m1].map SV.fr).set m3 (.fr c))) = T4 := ⟨_, rfl⟩
  have tl4 : T4.length = T0.length := by rw [← hT4, List.length_set, tl3]
  have g30 : ixG (.cell (R.length + 1)) (.fr (.int 2)) (b4.c :: (R ++ T3)) = .ok (.cell (R.length + 1 + (1 + (N + 1) + (N + 1))), b4.c :: (R ++ T3)) := ix71 (i := 0) (m := 2) t0_3 rfl
  have g31 : ixG (.cell (R.length + 1 + (1 + (N + 1) + (N + 1)))) (.fr (.int (m1 : Int))) (b4.c :: (R ++ T3)) = .ok (.cell (R.length + 1 + (1 + (N + 1) + (N + 1) + (1 + m1))), b4.c :: (R ++ T3)) := by
    rw [ix71 d2_3 (cf_get _ _ _ h1')]
    congr 3
    omega
  have st3 : setL (.cell (R.length + 1 + (1 + (N + 1) + (N + 1) + (1 + m1)))) (.fr (.int (m3 : Int))) (.fr c) (b4.c :: (R ++ T3)) = .ok (b4.c :: (R ++ T4)) := by
    rw [setL71 _ (i2_3 m1 (by omega)) (by rw [List.length_map]; exact h3), hT4]
  have w8 : WF (b4.c :: (R ++ T4)) := by
    rw [← hT4]
    refine wS w4 (bel _ fun y hy => ?_)
    obtain ⟨d, _, rfl⟩ := List.mem_map.mp hy
    rfl
  -- what stands at last
  have t0_4 : T4[0]? = some (.lst [.cell (R.length + 1 + 1), .cell (R.length + 1 + (1 + (N + 1))), .cell (R.length + 1 + (1 + (N + 1) + (N + 1)))]) := by rw [← hT4, List.getElem?_set_ne (by omega), t0_3]
  have G : ∀ T5 : Store, (∀ i, 0 < i → T5[i]? = T4[i]?) → (RdP (b4.c :: (R ++ T5)) (.cell (R.length + 1 + 1)) (ps.set m1 ps[m1].reverse) ∧ RdP (b4.c :: (R ++ T5)) (.cell (R.length + 1 + (1 + (N + 1)))) ((ps.set m1 ps[m2]).set m2 ps[m1])) ∧
      RdP (b4.c :: (R ++ T5)) (.cell (R.length + 1 + (1 + (N + 1) + (N + 1)))) (ps.set m1 (ps[m1].set m3 c)) := fun T5 h5 => by
    have at5 : ∀ i, 0 < i → (b4.c :: (R ++ T5))[R.length + 1 + i]? = T4[i]? := fun i hi => by rw [get71, h5 i hi]
    refine ⟨⟨?_, ?_⟩, ?_⟩
    · refine rd_items (xs := cf (R.length + 1 + 1 + 1) N) (by rw [at5 1 (by omega), ← hT4, List.getElem?_set_ne (by omega), ← hT3, List.getElem?_set_ne (by omega), ← hT2, List.getElem?_set_ne (by omega), ← hT1, List.getElem?_set_ne (by omega), td0]) (by rw [cf_len, List.length_set]; exact hN.symm) fun i i1 i2 => ?_
      rw [cf_len] at i1
      have ei : (cf (R.length + 1 + 1 + 1) N)[i]'(by rw [cf_len]; exact i1) = .cell (R.length + 1 + 1 + 1 + i) := by
        have := cf_get (R.length + 1 + 1 + 1) N i i1
        rw [List.getElem?_eq_getElem (by rw [cf_len]; exact i1)] at this
        exact Option.some.inj this
      rw [ei]
      have a5 : (b4.c :: (R ++ T5))[R.length + 1 + 1 + 1 + i]? = T1[1 + (1 + i)]? := by
        rw [show R.length + 1 + 1 + 1 + i = R.length + 1 + (1 + (1 + i)) by omega, at5 _ (by omega), ← hT4, List.getElem?_set_ne (by omega), ← hT3, List.getElem?_set_ne (by omega), ← hT2, List.getElem?_set_ne (by omega)]
      by_cases q : m1 = i
      · subst q
        rw [List.getElem_set_self]
        refine it_cell (by rw [a5, ← hT1, List.getElem?_set_self (by omega), List.map_reverse]) (fun d hd => p1c d (List.mem_reverse.mp hd)) (by rw [List.length_reverse]; omega)
      · rw [List.getElem_set_ne q]
        have hp := g.len (List.getElem_mem (show i < ps.length by omega))
        exact it_cell (by rw [a5, ← hT1, List.getElem?_set_ne (by omega), ti0 i (by omega)]) (g.it _ (List.getElem_mem _)).1 (by omega)
    · refine rd_items (xs := ((cf (R.length + 1 + (1 + (N + 1)) + 1) N).set m1 (.fr (.lst ps[m2]))).set m2 (.fr (.lst ps[m1]))) (by rw [at5 _ (by omega), ← hT4, List.getElem?_set_ne (by omega), ← hT3, List.getElem?_set_self (by omega)]) (by rw [List.length_set, List.length_set, cf_len, List.length_set, List.length_set]; exact hN.symm) fun i i1 i2 => ?_
      rw [List.length_set, List.length_set, cf_len] at i1
      have hp := fun j (h : j < ps.length) => g.len (List.getElem_mem h)
      by_cases q2 : m2 = i
      · subst q2
        rw [List.getElem_set_self, List.getElem_set_self]
        exact it_frz p1c (by omega)
      · rw [List.getElem_set_ne q2, List.getElem_set_ne q2]
        by_cases q : m1 = i
        · subst q
          rw [List.getElem_set_self, List.getElem_set_self]
          exact it_frz (g.it _ (List.getElem_mem _)).1 (by have := hp m2 (by omega); omega)
        · rw [List.getElem_set_ne q, List.getElem_set_ne q]
          have ei : (cf (R.length + 1 + (1 + (N + 1)) + 1) N)[i]'(by rw [cf_len]; exact i1) = .cell (R.length + 1 + (1 + (N + 1)) + 1 + i) := by
            have := cf_get (R.length + 1 + (1 + (N + 1)) + 1) N i i1
            rw [List.getElem?_eq_getElem (by rw [cf_len]; exact i1)] at this
            exact Option.some.inj this
          rw [ei]
          refine it_cell (by rw [show R.length + 1 + (1 + (N + 1)) + 1 + i = R.length + 1 + (1 + (N + 1) + (1 + i)) by omega, at5 _ (by omega), ← hT4, List.getElem?_set_ne (by omega), ← hT3, List.getElem?_set_ne (by omega), ← hT2, List.getElem?_set_ne (by omega), ← hT1, List.getElem?_set_ne (by omega), ti1 i (by omega)]) (g.it _ (List.getElem_mem _)).1 (by have := hp i (by omega); omega)
    · refine rd_items (xs := cf (R.length + 1 + (1 + (N + 1) + (N + 1)) + 1) N) (by rw [at5 _ (by omega), ← hT4, List.getElem?_set_ne (by omega), d2_3]) (by rw [cf_len, List.length_set]; exact hN.symm) fun i i1 i2 => ?_
      rw [cf_len] at i1
      have ei : (cf (R.length + 1 + (1 + (N + 1) + (N + 1)) + 1) N)[i]'(by rw [cf_len]; exact i1) = .cell (R.length + 1 + (1 + (N + 1) + (N + 1)) + 1 + i) := by
        have := cf_get (R.length + 1 + (1 + (N + 1) + (N + 1)) + 1) N i i1
        rw [List.getElem?_eq_getElem (by rw [cf_len]; exact i1)] at this
        exact Option.some.inj this
      rw [ei]
      have a5 : (b4.c :: (R ++ T5))[R.length + 1 + (1 + (N + 1) + (N + 1)) + 1 + i]? = T4[1 + (N + 1) + (N + 1) + (1 + i)]? := by
        rw [show R.length + 1 + (1 + (N + 1) + (N + 1)) + 1 + i = R.length + 1 + (1 + (N + 1) + (N + 1) + (1 + i)) by omega, at5 _ (by omega)]
      by_cases q : m1 = i
      · subst q
        rw [List.getElem_set_self]
        refine it_cell (by rw [a5, ← hT4, List.getElem?_set_self (by omega), List.map_set]) (fun d hd => ?_) (by rw [List.length_set]; omega)
        rcases List.mem_or_eq_of_mem_set hd with hd | rfl
        · exact p1c d hd
        · exact hc2
      · rw [List.getElem_set_ne q]
        have hp := g.len (List.getElem_mem (show i < ps.length by omega))
        exact it_cell (by rw [a5, ← hT4, List.getElem?_set_ne (by omega), i2_3 i (by omega)]) (g.it _ (List.getElem_mem _)).1 (by omega)
  have gp1 : GP (ps.set m1 ps[m1].reverse) := g.set (by omega) (fun d hd => p1c d (List.mem_reverse.mp hd)) (List.length_reverse ..)
  have gp2 : GP ((ps.set m1 ps[m2]).set m2 ps[m1]) := g.swap (by omega) (by omega)
  have gp3 : GP (ps.set m1 (ps[m1].set m3 c)) := g.set (by omega) (fun d hd => by
    rcases List.mem_or_eq_of_mem_set hd with hd | rfl
    · exact p1c d hd
    · exact hc2) (List.length_set ..)
  have at1 : ∀ S : Store, atI (ps.map D.lst) (m1 : Int) = some (.lst ps[m1]) := fun _ => by rw [DL.atI_nat, List.getElem?_map, List.getElem?_eq_getElem (by omega)]; rfl
  have at2 : atI (ps.map D.lst) (m2 : Int) = some (.lst ps[m2]) := by rw [DL.atI_nat, List.getElem?_map, List.getElem?_eq_getElem (by omega)]; rfl
  have at3 : atI ps[m1] (m3 : Int) = some (.tup [.int L, .int F, z]) := by rw [DL.atI_nat, List.getElem?_eq_getElem h3, hc]
  have at1' := at1 []
  have lf := fun (ds : List D) (S : Store) => list_frF ds S
  have nt : ∀ (S : Store) (y : SV), k_gb (([] : Slots), S) = k_gb ([], S) := fun _ _ => rfl
  have md : ∀ (S : Store) (i : Int), modG (.fr (.int i)) (.fr (.int 3)) S = .ok (.fr (.int (i % 3)), S) := fun S i => by rw [r_mod, if_pos (by decide)]
  by_cases qn : 1 < ps.length
  · have gp4 := g.less (i := m1) (by omega) qn
    obtain ⟨T5, hT5⟩ : ∃ T5, T4.set 0 (.lst [.cell (R.length + 1 + 1), .cell (R.length + 1 + (1 + (N + 1))), .cell (R.length + 1 + (1 + (N + 1) + (N + 1))), .fr (.lst ((ps.take m1 ++ ps.drop (m1 + 1)).map D.lst))]) = T5 := ⟨_, rfl⟩
    have t0_5 : T5[0]? = some (.lst [.cell (R.length + 1 + 1), .cell (R.length + 1 + (1 + (N + 1))), .cell (R.length + 1 + (1 + (N + 1) + (N + 1))), .fr (.lst ((ps.take m1 ++ ps.drop (m1 + 1)).map D.lst))]) := by rw [← hT5, List.getElem?_set_self (by omega)]
    have w9 : WF (b4.c :: (R ++ T5)) := by
      rw [← hT5]
      refine wS w8 fun y hy => ?_
      simp only [List.mem_cons, List.not_mem_nil, or_false] at hy
      rcases hy with rfl | rfl | rfl | rfl
      · simp only [SV.below, decide_eq_true_eq]; omega
      · simp only [SV.below, decide_eq_true_eq]; omega
      · simp only [SV.below, decide_eq_true_eq]; omega
      · rfl
    obtain ⟨⟨G1, G2⟩, G3⟩ := G T5 fun i hi => by rw [← hT5, List.getElem?_set_ne (by omega)]
    have ty4 : tyS "list" (b4.c :: (R ++ T4)) (.cell (R.length + 1)) = true := ty71 (i := 0) t0_4
    have ap4 : appendG (.cell (R.length + 1)) [.fr (.lst ((ps.take m1).map D.lst ++ (ps.drop (m1 + 1)).map D.lst))] (b4.c :: (R ++ T4)) = .ok (.fr .non, b4.c :: (R ++ T5)) := by
      have := app71 (c := b4.c) (R := R) (i := 0) (y := .fr (.lst ((ps.take m1).map D.lst ++ (ps.drop (m1 + 1)).map D.lst))) t0_4 (by simp)
      rw [← hT5, List.map_append]
      exact this
    have cu1 : cutA (ps.map D.lst) none (some (m1 : Int)) = (ps.take m1).map D.lst := by rw [cut_to, List.map_take]
    have cu2 : cutA (ps.map D.lst) (some ((m1 : Int) + 1)) none = (ps.drop (m1 + 1)).map D.lst := by rw [cut_n, List.map_drop]
    have ad : ∀ S, addG false (.fr (.lst ((ps.take m1).map D.lst))) (.fr (.lst ((ps.drop (m1 + 1)).map D.lst))) S = .ok (.fr (.lst ((ps.take m1).map D.lst ++ (ps.drop (m1 + 1)).map D.lst)), S) := fun S => addF (by simp only [List.length_append, List.length_map, List.length_take, List.length_drop]; omega) S
    have qd : decide (((ps.map D.lst).length : Int) > 1) = true := decide_eq_true (by rw [hl]; omega)
    have lv := leave_bagT (b' := b4) (T := T5) w (.bl true)
    have sq : k_sq (.cell (R.length + 1), b4.c :: (R ++ T5)) = .ok (⟨[.cell (R.length + 1 + 1), .cell (R.length + 1 + (1 + (N + 1))), .cell (R.length + 1 + (1 + (N + 1) + (N + 1))), .fr (.lst ((ps.take m1 ++ ps.drop (m1 + 1)).map D.lst))], fun S' => S'[R.length + 1]? = some (.lst [.cell (R.length + 1 + 1), .cell (R.length + 1 + (1 + (N + 1))), .cell (R.length + 1 + (1 + (N + 1) + (N + 1))), .fr (.lst ((ps.take m1 ++ ps.drop (m1 + 1)).map D.lst))])⟩, b4.c :: (R ++ T5)) :=
      s_sqC (by have := get71 b4.c R T5 0; rw [t0_5] at this; exact this)
    obtain ⟨z11, z12, z13, lp⟩ := ul_loop w9 g (lk := fun S' => S'[R.length + 1]? = some (.lst [.cell (R.length + 1 + 1), .cell (R.length + 1 + (1 + (N + 1))), .cell (R.length + 1 + (1 + (N + 1) + (N + 1))), .fr (.lst ((ps.take m1 ++ ps.drop (m1 + 1)).map D.lst))])) (by have := get71 b4.c R T5 0; rw [t0_5] at this; exact this)
      [(.cell (R.length + 1 + 1), ps.set m1 ps[m1].reverse), (.cell (R.length + 1 + (1 + (N + 1))), (ps.set m1 ps[m2]).set m2 ps[m1]), (.cell (R.length + 1 + (1 + (N + 1) + (N + 1))), ps.set m1 (ps[m1].set m3 c)), (.fr (.lst ((ps.take m1 ++ ps.drop (m1 + 1)).map D.lst)), ps.take m1 ++ ps.drop (m1 + 1))]
      (fun y hy => by
        simp only [List.mem_cons, List.not_mem_nil, or_false] at hy
        rcases hy with rfl | rfl | rfl | rfl
        · exact ⟨G1, gp1⟩
        · exact ⟨G2, gp2⟩
        · exact ⟨G3, gp3⟩
        · exact ⟨rp_fr gp4, gp4⟩) none none none
      (x0 := some (.cell 0)) (x3 := some (.fr (.int m1))) (x4 := some (.fr (.int m2))) (x5 := some (.fr (.int m3))) (x6 := some (.cell (R.length + 1))) (x7 := some (.fr (.int L))) (x8 := some (.fr (.int F))) (x9 := some (.fr z)) (x10 := some (.fr (.lst [.tup [.int ((L + 1) % 3), .int F, z], .tup [.int L, .int F, z']]))) (x14 := none) (x15 := none) (x16 := none)
    simp only [List.map_cons, List.map_nil] at lp
    refine ⟨b4, k4, WF.bag w, ?_⟩
    simp only [RR, DL.isNon, List.replicate_succ, List.replicate_zero, List.set_cons_zero, List.set_cons_succ, List.getElem?_cons_zero, List.getElem?_cons_succ, Option.map_some, Nat.reduceSub, and_self, and_true, true_and, decide_true, decide_false, if_true, if_false, Bool.false_eq_true, Bool.not_true, Bool.not_false, Nat.reduceAdd, Nat.reduceMul, Nat.reduceLeDiff, m_law_unlike_right, b_law_unlike_right, take_is, e1, e2, at1', e3, K1, List.length_cons, List.length_nil, g00, g01, r_mt0', s_mt0 reverseG ty0, r0, at2, lf, g10, st1, g20, st2, at3, md, eI, e4, hc1, g30, g31, st3, qd, s_mt appendG ty4, cu1, cu2, ad, ap4, sq, lp]
    exact lv
  · have qd : decide (((ps.map D.lst).length : Int) > 1) = false := decide_eq_false (by rw [hl]; omega)
    obtain ⟨⟨G1, G2⟩, G3⟩ := G T4 fun i hi => rfl
    have lv := leave_bagT (b' := b4) (T := T4) w (.bl true)
    have sq : k_sq (.cell (R.length + 1), b4.c :: (R ++ T4)) = .ok (⟨[.cell (R.length + 1 + 1), .cell (R.length + 1 + (1 + (N + 1))), .cell (R.length + 1 + (1 + (N + 1) + (N + 1)))], fun S' => S'[R.length + 1]? = some (.lst [.cell (R.length + 1 + 1), .cell (R.length + 1 + (1 + (N + 1))), .cell (R.length + 1 + (1 + (N + 1) + (N + 1)))])⟩, b4.c :: (R ++ T4)) :=
      s_sqC (by have := get71 b4.c R T4 0; rw [t0_4] at this; exact this)
    obtain ⟨z11, z12, z13, lp⟩ := ul_loop w8 g (lk := fun S' => S'[R.length + 1]? = some (.lst [.cell (R.length + 1 + 1), .cell (R.length + 1 + (1 + (N + 1))), .cell (R.length + 1 + (1 + (N + 1) + (N + 1)))])) (by have := get71 b4.c R T4 0; rw [t0_4] at this; exact this)
      [(.cell (R.length + 1 + 1), ps.set m1 ps[m1].reverse), (.cell (R.length + 1 + (1 + (N + 1))), (ps.set m1 ps[m2]).set m2 ps[m1]), (.cell (R.length + 1 + (1 + (N + 1) + (N + 1))), ps.set m1 (ps[m1].set m3 c))]
      (fun y hy => by
        simp only [List.mem_cons, List.not_mem_nil, or_false] at hy
        rcases hy with rfl | rfl | rfl
        · exact ⟨G1, gp1⟩
        · exact ⟨G2, gp2⟩
        · exact ⟨G3, gp3⟩) none none none
      (x0 := some (.cell 0)) (x3 := some (.fr (.int m1))) (x4 := some (.fr (.int m2))) (x5 := some (.fr (.int m3))) (x6 := some (.cell (R.length + 1))) (x7 := some (.fr (.int L))) (x8 := some (.fr (.int F))) (x9 := some (.fr z)) (x10 := some (.fr (.lst [.tup [.int ((L + 1) % 3), .int F, z], .tup [.int L, .int F, z']]))) (x14 := none) (x15 := none) (x16 := none)
    simp only [List.map_cons, List.map_nil] at lp
    refine ⟨b4, k4, WF.bag w, ?_⟩
    simp only [RR, DL.isNon, List.replicate_succ, List.replicate_zero, List.set_cons_zero, List.set_cons_succ, List.getElem?_cons_zero, List.getElem?_cons_succ, Option.map_some, Nat.reduceSub, and_self, and_true, true_and, decide_true, decide_false, if_true, if_false, Bool.false_eq_true, Bool.not_true, Bool.not_false, Nat.reduceAdd, Nat.reduceMul, Nat.reduceLeDiff, m_law_unlike_right, b_law_unlike_right, take_is, e1, e2, at1', e3, K1, List.length_cons, List.length_nil, g00, g01, r_mt0', s_mt0 reverseG ty0, r0, at2, lf, g10, st1, g20, st2, at3, md, eI, e4, hc1, g30, g31, st3, qd, sq, lp]
    exact lv

theorem w_eq {a c : Str} {r : Bool} (h : decide (a = c) = r) (n : Bool) (S : Store) : eqG n (.fr (.str a)) (.fr (.str c)) S = .ok (.fr (.bl (if n then !r else r)), S) := r_eq n rfl rfl (by simp only [eqD, h])
theorem right_bad (b : Bag) (hb : b.Ok) (R : Store) (w : WF (b.c :: R)) {x : SV} (h : Bad (b.c :: R) x) : m_law_right [.cell 0, x] (b.c :: R) = .ok (.val (.fr (.bl true)), b.c :: R) := by
  obtain ⟨t, rp⟩ := h.rp
  have to := told_bad w h.ar
  have la := h.la w
  have q1 := w_eq (decide_eq_true (rfl : t = t)) true (b.c :: R)
  have q2 := w_eq (a := "wrong") (c := "other") (r := false) (by decide) false (b.c :: R)
  have q3 := w_eq (a := "wrong") (c := "crowd") (r := false) (by decide) false (b.c :: R)
  have q4 := w_eq (a := "wrong") (c := "wrong") (r := true) (by decide) false (b.c :: R)
  have q5 : eqG true (.fr (.bl false)) (.fr (.bl false)) (b.c :: R) = .ok (.fr (.bl false), b.c :: R) := rfl
  have al := alike_0 w
  have lv := leave_bag (b := b) (b' := b) w (.bl true)
  simp only [RR, DL.isNon, List.replicate_succ, List.replicate_zero, List.set_cons_zero, List.set_cons_succ, List.getElem?_cons_zero, List.getElem?_cons_succ, Option.map_some, Nat.reduceSub, and_self, and_true, true_and, decide_true, decide_false, if_true, if_false, Bool.false_eq_true, Bool.not_true, Bool.not_false, Nat.reduceAdd, Nat.reduceMul, Nat.reduceLeDiff, m_law_right, b_law_right, rp, to, q1, q2, q3, la, q5, q4, al]
  exact lv
noncomputable def k_methK0 (tbl : TblK) (nm : Str) (x : SV × Store) : Res (SV × Store) := match metOfK tbl nm x.2 x.1 with
  | some f => noXK (f [x.1] x.2)
  | none => .stuck
theorem r_methK0 (tbl : TblK) (nm : Str) (o : EM) (rho : Slots) (S : Store) : eMethK0 tbl nm o rho S = (o rho S).bind (k_methK0 tbl nm) := id rfl
theorem progs_run {ps : List (List D)} (hl : ps.length ≤ 1000) (S : Store) : k_methK0 [("Crowd", m_Crowd_programs)] "programs" (.fr (crD ps), S) = .ok (.cell S.length, S ++ blk S.length ps) := by
  have m0 : metOfK [(("Crowd" : Str), m_Crowd_programs)] "programs" S (.fr (crD ps)) = some m_Crowd_programs := by
    have i : insOf S (.fr (crD ps)) = some (("Crowd" : Str), [(("kept_programs" : Str), SV.fr (.lst (ps.map D.lst)))]) := rfl
    have l1 : (List.lookup ("programs" : Str) [(("kept_programs" : Str), SV.fr (.lst (ps.map D.lst)))]).isNone = true := rfl
    have l2 : List.lookup ("Crowd" : Str) [(("Crowd" : Str), m_Crowd_programs)] = some m_Crowd_programs := by simp
    unfold metOfK
    rw [i]
    dsimp only
    rw [if_pos l1, l2]
  have go := in_go (S0 := S) (c := 2) (a := 1) (rho := [some (.fr (crD ps)), none, none]) (by simp) ps [] hl
  have e : eLCK (iSeq (eFld ["Crowd"] "kept_programs" (eV 0))) (gNm 2) tTr (eA (listG true) (aC (eV 2) aN)) [1, 2] [some (.fr (crD ps)), none, none] S = .ok (.cell S.length, S ++ blk S.length ps) := by
    have f1 : fldG ["Crowd"] "kept_programs" (.fr (crD ps)) S = .ok (.fr (.lst (ps.map D.lst)), S) := rfl
    have a : iSeq (eFld ["Crowd"] "kept_programs" (eV 0)) [some (.fr (crD ps)), none, none] S = .ok (⟨(ps.map D.lst).map SV.fr, fun _ => True⟩, S) := by
      rw [r_sq, r_fld']
      show Res.bind (Res.bind (eV 0 [some (.fr (crD ps)), none, none] S) _) _ = _
      rw [r_v]
      show Res.bind (Res.bind (k_v S (some (some (.fr (crD ps))))) _) _ = _
      rw [s_v, r_bind, s_fld, f1, r_bind, s_sqL]
    rw [r_lck, a, r_bind, s_lck (S' := S ++ blk S.length ps)]
    rw [List.map_map]
    exact go
  unfold k_methK0
  dsimp only
  rw [m0]
  dsimp only
  have : m_Crowd_programs [.fr (crD ps)] S = .ok (.cell S.length, S ++ blk S.length ps) := by
    unfold m_Crowd_programs fnK
    rw [if_pos (show [SV.fr (crD ps)].length = 1 from rfl)]
    show Res.bind (b_Crowd_programs [some (.fr (crD ps)), none, none] S) leaveK = _
    unfold b_Crowd_programs
    rw [r_ret, e]
    rfl
  rw [this]
  rfl
theorem blk_rd {S : Store} {ps : List (List D)} (g : GP ps) : RdP (S ++ blk S.length ps) (.cell S.length) ps := by
  refine rd_items (xs := cf (S.length + 1) ps.length) (by unfold blk; exact mid_get _ _ _) (cf_len _ _) fun i h1 h2 => ?_
  rw [cf_len] at h1
  have ei : (cf (S.length + 1) ps.length)[i]'(by rw [cf_len]; exact h1) = .cell (S.length + 1 + i) := by
    have := cf_get (S.length + 1) ps.length i h1
    rw [List.getElem?_eq_getElem (by rw [cf_len]; exact h1)] at this
    exact Option.some.inj this
  rw [ei]
  have hp := g.len (List.getElem_mem h2)
  refine it_cell ?_ (g.it _ (List.getElem_mem _)).1 (by omega)
  rw [List.getElem?_append_right (by omega), show S.length + 1 + i - S.length = 1 + i by omega, blk_1 _ h2]
theorem blk_wf {S : Store} (w : WF S) {ps : List (List D)} : WF (S ++ blk S.length ps) := by
  refine wf_app70 w fun c hc => ?_
  rw [blk_len]
  rcases List.mem_cons.mp hc with rfl | hc
  · simp only [Cell.below, List.all_eq_true]
    intro y hy
    obtain ⟨i, hi, rfl⟩ := List.mem_map.mp hy
    rw [List.mem_range] at hi
    simp only [SV.below, decide_eq_true_eq]
    omega
  · obtain ⟨p, hp, rfl⟩ := List.mem_map.mp hc
    exact below_map _ _
theorem ask_loop {b : Bag} {R : Store} {ps : List (List D)} (g : GP ps) {x0 x1 x2 x3 x8 x9 x10 x11 : Option SV} : ∀ (xs : List SV) (T : Store) (x6 x7 : Option SV), WF (b.c :: (R ++ T)) → ∃ (T' : Store) (y6 y7 : Option SV), WF (b.c :: (R ++ T')) ∧
    loopM (fun _ => True) (gNm 6) f_law_right_1 xs [x0, x1, x2, x3, some (.fr (crD ps)), some (.fr (.lst (ps.map D.lst))), x6, x7, x8, x9, x10, x11] (b.c :: (R ++ T)) = .ok (.nx, [x0, x1, x2, x3, some (.fr (crD ps)), some (.fr (.lst (ps.map D.lst))), y6, y7, x8, x9, x10, x11], b.c :: (R ++ T'))
  | [], T, x6, x7, w => ⟨T, x6, x7, w, loop_nil _ _ trivial⟩
  | x :: xs, T, x6, x7, w => by
    have n1 := g.n1
    have n4 := g.n4
    obtain ⟨n, hn⟩ : ∃ n, (b.c :: (R ++ T)).length = n := ⟨_, rfl⟩
    have pr := progs_run (ps := ps) (by omega) (b.c :: (R ++ T))
    have rd := blk_rd (S := b.c :: (R ++ T)) g
    have wb := blk_wf w (ps := ps)
    have al := alike_ps wb rd.snap rd.ins g
    rw [hn] at pr rd wb al
    have pf : [b.c] ++ (R ++ (T ++ blk n ps)) = b.c :: (R ++ T) ++ blk n ps := by simp
    have hd : (b.c :: (R ++ T) ++ blk n ps)[n]? = some (.lst (cf (n + 1) ps.length)) := by
      rw [← hn]
      unfold blk
      exact mid_get _ _ _
    have i0 : ixG (.cell n) (.fr (.int 0)) (b.c :: (R ++ T) ++ blk n ps) = .ok (.cell (n + 1), b.c :: (R ++ T) ++ blk n ps) := by
      rw [r_xC hd, show (0 : Int) = ((0 : Nat) : Int) from rfl, DL.atI_nat, cf_get _ _ _ (by omega)]
      rfl
    obtain ⟨p0, hp0⟩ : ∃ p0, ps[0]? = some p0 := ⟨_, List.getElem?_eq_getElem (by omega)⟩
    have p0l : p0.length ≤ 6 := (g.len (List.mem_of_getElem? hp0)).2
    have c1 : (b.c :: (R ++ T) ++ blk n ps)[n + 1]? = some (.lst (p0.map SV.fr)) := by
      rw [List.getElem?_append_right (by omega), show n + 1 - (b.c :: (R ++ T)).length = 1 + 0 by omega, blk_1 _ (i := 0) (by omega)]
      rw [List.getElem?_eq_getElem (by omega)] at hp0
      rw [Option.some.inj hp0]
    have ty1 : tyS "list" (b.c :: (R ++ T) ++ blk n ps) (.cell (n + 1)) = true := by
      unfold tyS
      simp only [rdL, c1]
      rfl
    have a1 := app_at (y := .fr (.str "x")) c1 (by rw [List.length_map]; omega)
    obtain ⟨S1, hS1⟩ : ∃ S1, (b.c :: (R ++ T) ++ blk n ps).set (n + 1) (.lst (p0.map SV.fr ++ [.fr (.str "x")])) = S1 := ⟨_, rfl⟩
    rw [hS1] at a1
    have hd1 : S1[n]? = some (.lst (cf (n + 1) ps.length)) := by rw [← hS1, List.getElem?_set_ne (by omega), hd]
    have ty2 : tyS "list" S1 (.cell n) = true := by
      unfold tyS
      simp only [rdL, hd1]
      rfl
    have a2 := app_at (y := .fr (.str "x")) hd1 (by rw [cf_len]; omega)
    have e2 : ∃ T', S1.set n (.lst (cf (n + 1) ps.length ++ [.fr (.str "x")])) = b.c :: (R ++ T') := by
      rw [← hS1]
      refine ⟨((T ++ blk n ps).set (T.length + 1) (.lst (p0.map SV.fr ++ [.fr (.str "x")]))).set T.length (.lst (cf (n + 1) ps.length ++ [.fr (.str "x")])), ?_⟩
      have hn' : n = R.length + 1 + T.length := by rw [← hn, List.length_cons, List.length_append]; omega
      rw [List.cons_append, List.append_assoc, hn', Nat.add_assoc (R.length + 1), set71, set71]
    obtain ⟨T', hT'⟩ := e2
    have w2 : WF (b.c :: (R ++ T')) := by
      rw [← hT', ← hS1]
      have bl : (b.c :: (R ++ T) ++ blk n ps).length = n + (ps.length + 1) := by rw [List.length_append, hn, blk_len]
      refine (wb.set _ ?_).set _ ?_
      · exact below_lst (n := 0) (fun y hy => by
          rcases List.mem_append.mp hy with hy | hy
          · obtain ⟨d, _, rfl⟩ := List.mem_map.mp hy; rfl
          · rcases List.mem_singleton.mp hy with rfl; rfl) (Nat.zero_le _)
      · refine below_lst (n := n + (ps.length + 1)) (fun y hy => ?_) (by rw [List.length_set, bl]; exact Nat.le_refl _)
        rcases List.mem_append.mp hy with hy | hy
        · obtain ⟨i, hi, rfl⟩ := List.mem_map.mp hy
          rw [List.mem_range] at hi
          simp only [SV.below, decide_eq_true_eq]
          omega
        · rcases List.mem_singleton.mp hy with rfl; rfl
    rw [hT'] at a2
    obtain ⟨T2, y6, y7, w3, ih⟩ := ask_loop g xs T' (some x) (some (.cell n)) w2 (x0 := x0) (x1 := x1) (x2 := x2) (x3 := x3) (x8 := x8) (x9 := x9) (x10 := x10) (x11 := x11)
    refine ⟨T2, y6, y7, w3, ?_⟩
    have st : (gNm 6 x [x0, x1, x2, x3, some (.fr (crD ps)), some (.fr (.lst (ps.map D.lst))), x6, x7, x8, x9, x10, x11] (b.c :: (R ++ T))).bind (k_body f_law_right_1) = .ok (.nx, [x0, x1, x2, x3, some (.fr (crD ps)), some (.fr (.lst (ps.map D.lst))), some x, some (.cell n), x8, x9, x10, x11], b.c :: (R ++ T')) := by
      generalize hA : b.c :: (R ++ T) ++ blk n ps = SA at *
      generalize hB : b.c :: (R ++ T) = SB at *
      generalize hC : b.c :: (R ++ T') = SC at *
      simp only [RR, DL.isNon, List.replicate_succ, List.replicate_zero, List.set_cons_zero, List.set_cons_succ, List.getElem?_cons_zero, List.getElem?_cons_succ, Option.map_some, Nat.reduceSub, and_self, and_true, true_and, decide_true, decide_false, if_true, if_false, Bool.false_eq_true, Bool.not_true, Bool.not_false, Nat.reduceAdd, Nat.reduceMul, Nat.reduceLeDiff, f_law_right_1, r_methK0, pr, al, i0, s_mt appendG ty1, a1, s_mt appendG ty2, a2]
    rw [loop_cons _ _ _ trivial, st, r_bind, s_turnN, ih]

theorem cut_ini70 {α : Type} (xs : List α) (y : α) : cutA (xs ++ [y]) none (some (-1)) = xs := by
  unfold cutA
  have e1 : HT.sIx (xs ++ [y]).length (xs ++ [y]).length (some (-1)) = xs.length := by
    unfold HT.sIx
    simp
    omega
  rw [HT.sIx_none, e1]
  simp
theorem GP.last {ps : List (List D)} (g : GP ps) : ∃ (ini : List (List D)) (p : List D), ps = ini ++ [p] ∧ GP (ini ++ [[.tup [.int 0, .int 7, .int 7]]]) := by
  have n1 := g.n1
  have n4 := g.n4
  have h0 : ps ≠ [] := List.length_pos_iff.mp (by omega)
  have e : ps = ps.dropLast ++ [ps.getLast h0] := (List.dropLast_concat_getLast h0).symm
  have ln := g.len (List.getLast_mem h0)
  refine ⟨_, _, e, ⟨by simp, ?_, fun p hp => ?_, ?_⟩⟩
  · simp only [List.length_append, List.length_dropLast, List.length_singleton]; omega
  · rcases List.mem_append.mp hp with hp | hp
    · exact g.it p ((List.dropLast_subset _) hp)
    · rcases List.mem_singleton.mp hp with rfl
      refine ⟨fun d hd => ?_, by simp⟩
      rcases List.mem_singleton.mp hd with rfl
      have t : (7 : Int) ≤ T39 := by unfold T39; omega
      exact .int ⟨by omega, by omega⟩ ⟨by omega, t⟩ ⟨by omega, by omega⟩
  · have s : (ps.map List.length).sum = ((ps.dropLast ++ [ps.getLast h0]).map List.length).sum := congrArg (fun x => (x.map List.length).sum) e
    have := g.sum
    rw [s] at this
    simp only [List.map_append, List.sum_append, List.map_cons, List.map_nil, List.sum_cons, List.sum_nil, List.length_singleton] at this ⊢
    omega
theorem right_good (b : Bag) (hb : b.Ok) (R : Store) (w : WF (b.c :: R)) {x : SV} (h : Gd (b.c :: R) x) : ∃ (b' : Bag) (R' : Store), Bag.Ok b' ∧ WF (b'.c :: R') ∧ m_law_right [.cell 0, x] (b.c :: R) = .ok (.val (.fr (.bl true)), b'.c :: R') := by
  obtain ⟨t, rp⟩ := h.rp
  obtain ⟨k, l, rfl, hk0, hk, hi, n1, n4, sm⟩ := h.ex
  obtain ⟨ps, hps⟩ : ∃ ps, l.map Prod.snd = ps := ⟨_, rfl⟩
  have g : GP ps := by
    subst hps
    refine ⟨by rw [List.length_map]; exact n1, by rw [List.length_map]; exact n4, fun p hp => ?_, by rw [List.map_map]; exact sm⟩
    obtain ⟨q, hq, rfl⟩ := List.mem_map.mp hp
    exact (hi q hq).2.2.2
  have eD : (l.map fun q => ((SV.cell q.1, D.lst q.2) : SV × D)).map Prod.snd = ps.map D.lst := by rw [← hps, List.map_map, List.map_map]; rfl
  have eF : (l.map fun q => ((SV.cell q.1, D.lst q.2) : SV × D)).map Prod.fst = l.map fun q => SV.cell q.1 := by rw [List.map_map]; rfl
  have L : LsC (b.c :: R) (.cell k) ((l.map fun q => ((SV.cell q.1, D.lst q.2) : SV × D)).map Prod.fst) := .inr ⟨k, rfl, by rw [eF]; exact hk⟩
  have its : ∀ p ∈ (l.map fun q => ((SV.cell q.1, D.lst q.2) : SV × D)), It (b.c :: R) p.1 p.2 := fun p hp => by
    obtain ⟨q, hq, rfl⟩ := List.mem_map.mp hp
    have hp : q.2 ∈ ps := by rw [← hps]; exact List.mem_map_of_mem hq
    have := (g.len hp).2
    exact it_cell (hi q hq).1 (hi q hq).2.2.2.1 (by omega)
  have kb : ksB (.lst ((l.map fun q => ((SV.cell q.1, D.lst q.2) : SV × D)).map Prod.snd)) = true := by rw [eD]; exact g.ks
  have to := told_good w L its kb
  have la := lare_run w L.ls its
  rw [kb] at la
  rw [eD] at to
  have rd : RdP (b.c :: R) (.cell k) ps := ⟨_, L, its, eD⟩
  obtain ⟨lk, sq, cc⟩ := copy_run w rd g (rho := [some (.cell 0), some (.cell k), some (.fr (.str t)), some (.fr (.str "crowd")), some (.fr (crD ps)), none, none, none, none, none, none, none]) (a := 10) (c := 11) (by simp) (by decide)
  have q1 := w_eq (decide_eq_true (rfl : t = t)) true (b.c :: R)
  have q2 := w_eq (a := "crowd") (c := "other") (r := false) (by decide) false (b.c :: R)
  have q3 := w_eq (a := "crowd") (c := "crowd") (r := true) (by decide) false (b.c :: R)
  have q4 := w_eq (a := "crowd") (c := "wrong") (r := false) (by decide) false (b.c :: R)
  have q5 : ∀ S, eqG true (.fr (.bl true)) (.fr (.bl true)) S = .ok (.fr (.bl false), S) := fun S => rfl
  -- the thing is changed
  obtain ⟨k', rfl⟩ : ∃ k', k = k' + 1 := ⟨k - 1, by omega⟩
  obtain ⟨q0, hq0⟩ : ∃ q0, l[0]? = some q0 := ⟨_, List.getElem?_eq_getElem (by omega)⟩
  obtain ⟨a1, a2, a3, a4, a5⟩ := hi q0 (List.mem_of_getElem? hq0)
  obtain ⟨j, hj⟩ : ∃ j, q0.1 = j + 1 := ⟨q0.1 - 1, by omega⟩
  rw [hj] at a1 a2 a3
  have pl : q0.2.length ≤ 6 := (g.len (by rw [← hps]; exact List.mem_map_of_mem (List.mem_of_getElem? hq0))).2
  have i0 : ixG (.cell (k' + 1)) (.fr (.int 0)) (b.c :: R) = .ok (.cell (j + 1), b.c :: R) := by
    rw [r_xC hk, show (0 : Int) = ((0 : Nat) : Int) from rfl, DL.atI_nat, List.getElem?_map, hq0, Option.map_some, hj]
    rfl
  have ty1 : tyS "list" (b.c :: R) (.cell (j + 1)) = true := by
    unfold tyS
    simp only [rdL, a1]
    rfl
  have ap1 := app_at (y := .fr (.tup [.int 0, .int 0, .int 0])) a1 (by rw [List.length_map]; omega)
  rw [List.set_cons_succ] at ap1
  obtain ⟨R1, hR1⟩ : ∃ R1, R.set j (.lst (q0.2.map SV.fr ++ [.fr (.tup [.int 0, .int 0, .int 0])])) = R1 := ⟨_, rfl⟩
  rw [hR1] at ap1
  have k1 : (b.c :: R1)[k' + 1]? = some (.lst (l.map fun q => SV.cell q.1)) := by
    rw [List.getElem?_cons_succ, ← hR1, List.getElem?_set_ne (by omega)]
    rw [List.getElem?_cons_succ] at hk
    exact hk
  have ty2 : tyS "list" (b.c :: R1) (.cell (k' + 1)) = true := by
    unfold tyS
    simp only [rdL, k1]
    rfl
  have ap2 := app_at (y := .fr (.lst [.tup [.int 0, .int 0, .int 0]])) k1 (by rw [List.length_map]; omega)
  rw [List.set_cons_succ] at ap2
  obtain ⟨R2, hR2⟩ : ∃ R2, R1.set k' (.lst ((l.map fun q => SV.cell q.1) ++ [.fr (.lst [.tup [.int 0, .int 0, .int 0]])])) = R2 := ⟨_, rfl⟩
  rw [hR2] at ap2
  have rl : R2.length = R.length := by rw [← hR2, List.length_set, ← hR1, List.length_set]
  have w1 : WF (b.c :: R1) := by
    rw [← hR1, ← List.set_cons_succ]
    refine w.set _ (below_lst (n := 0) (fun y hy => ?_) (Nat.zero_le _))
    rcases List.mem_append.mp hy with hy | hy
    · obtain ⟨d, _, rfl⟩ := List.mem_map.mp hy; rfl
    · rcases List.mem_singleton.mp hy with rfl; rfl
  have w2 : WF (b.c :: R2) := by
    have old := wf_get w1 k1
    rw [← hR2, ← List.set_cons_succ]
    refine w1.set _ (below_lst (n := (b.c :: R1).length) (fun y hy => ?_) (Nat.le_refl _))
    rcases List.mem_append.mp hy with hy | hy
    · exact old y hy
    · rcases List.mem_singleton.mp hy with rfl; rfl
  -- asked three times
  obtain ⟨T, y6, y7, w3, lp⟩ := ask_loop (b := b) (R := R2) g (x0 := some (.cell 0)) (x1 := some (.cell (k' + 1))) (x2 := some (.fr (.str t))) (x3 := some (.fr (.str "crowd"))) (x8 := none) (x9 := none) (x10 := none) (x11 := none) (rngS 0 (3 : Int).toNat) [] none none (by rw [List.append_nil]; exact w2)
  rw [List.append_nil] at lp
  have rd2 : RdP (b.c :: (R2 ++ T)) (.fr (.lst (ps.map D.lst))) ps := rp_fr g
  obtain ⟨lk2, sq2, cc2⟩ := copy_run w3 rd2 g (rho := [some (.cell 0), some (.cell (k' + 1)), some (.fr (.str t)), some (.fr (.str "crowd")), some (.fr (crD ps)), some (.fr (.lst (ps.map D.lst))), y6, y7, none, none, none, none]) (a := 10) (c := 11) (by simp) (by decide)
  have cr := fun rho => crowd_run w3 g rho
  obtain ⟨ini, p, pe, g2⟩ := g.last
  have cr2 := fun rho => crowd_run w3 g2 rho
  have e1 := EQ_cr w3 false g g
  have e2' := EQ_cr w3 true g g
  rw [dq_refl g] at e1 e2'
  have e3 := EQ_no w3 false (a := ps) (d := .lst (ps.map D.lst)) rfl rfl (t := "list") rfl (by decide)
  have e4 := EQ_no w3 false (a := ps) (d := .int 5) rfl rfl (t := "int") rfl (by decide)
  have e5 := EQ_cr w3 false g g2
  have cu : cutA (ps.map D.lst) none (some (-1)) = ini.map D.lst := by rw [pe, List.map_append]; exact cut_ini70 _ _
  have ad : addG false (.fr (.lst (ini.map D.lst))) (.fr (.lst [.lst [.tup [.int 0, .int 7, .int 7]]])) (b.c :: (R2 ++ T)) = .ok (.fr (.lst ((ini ++ [[D.tup [.int 0, .int 7, .int 7]]]).map D.lst)), b.c :: (R2 ++ T)) := by
    have n4 := g2.n4
    rw [addF (by simp only [List.length_append, List.length_map, List.length_singleton] at n4 ⊢; omega), List.map_append]
    rfl
  have pr := progs_run (ps := ini ++ [[.tup [.int 0, .int 7, .int 7]]]) (by have := g2.n4; omega) (b.c :: (R2 ++ T))
  have rd3 := blk_rd (S := b.c :: (R2 ++ T)) g2
  have w4 := blk_wf w3 (ps := ini ++ [[.tup [.int 0, .int 7, .int 7]]])
  obtain ⟨n, hn⟩ : ∃ n, (b.c :: (R2 ++ T)).length = n := ⟨_, rfl⟩
  rw [hn] at pr rd3 w4
  obtain ⟨U, hU⟩ : ∃ U, blk n (ini ++ [[D.tup [.int 0, .int 7, .int 7]]]) = U := ⟨_, rfl⟩
  rw [hU] at pr rd3 w4
  rw [List.cons_append, List.append_assoc] at pr rd3 w4
  have eq3 := r_eq false (S := b.c :: (R2 ++ (T ++ U))) (a := .fr (.lst (ps.map D.lst))) (b := .cell n) rfl rd3.snap (eqD_ps g g2)
  obtain ⟨b5, k5, w5, ul⟩ := unlike_run b hb (R2 ++ (T ++ U)) w4 g
  have lv := leave_bagT (b := b) (b' := b5) (R := R2) (T := T ++ U) w2 (.bl true)
  have ll : (b.c :: R2).length = (b.c :: R).length := by rw [List.length_cons, List.length_cons, rl]
  rw [ll] at lv
  refine ⟨b5, R2, k5, WF.bag w2, ?_⟩
  unfold EQ at e1 e2' e3 e4 e5
  generalize dq ps (ini ++ [[D.tup [.int 0, .int 7, .int 7]]]) = r at *
  have q6 : eqG false (.fr (.bl r)) (.fr (.bl r)) (b.c :: (R2 ++ (T ++ U))) = .ok (.fr (.bl true), b.c :: (R2 ++ (T ++ U))) := by cases r <;> rfl
  have s3 : k_r1 ([.fr (.int 3)], b.c :: R2) = .ok (⟨rngS 0 (3 : Int).toNat, fun _ => True⟩, b.c :: R2) := s_r1 (by decide)
  have hm : ∀ c : Cell, (b.c :: R).length = (b.c :: R).length := fun _ => rfl
  obtain ⟨N, hN⟩ : ∃ N, (b.c :: R).length = N := ⟨_, rfl⟩
  simp only [RR, DL.isNon, List.replicate_succ, List.replicate_zero, List.set_cons_zero, List.set_cons_succ, List.getElem?_cons_zero, List.getElem?_cons_succ, Option.map_some, Nat.reduceSub, and_self, and_true, true_and, decide_true, decide_false, if_true, if_false, Bool.false_eq_true, Bool.not_true, Bool.not_false, Nat.reduceAdd, Nat.reduceMul, Nat.reduceLeDiff, m_law_right, b_law_right, rp, to, q1, q2, q3, la, q5, q4, sq, cc, s_lceF w, i0, s_mt appendG ty1, ap1, s_mt appendG ty2, ap2, s3, lp, sq2, cc2, s_lceF w3, r_makeX, cr, e1, e2', e3, e4, cu, ad, cr2, e5, r_methK0, pr, eq3, q6, ul]
  exact lv

theorem good_lc {R : Store} {rho : Slots} (h1 : rho[1]? = some (some (.cell 0))) (h7 : 7 < rho.length) : ∀ (xs : List SV) (b : Bag) (acc : List D), b.Ok → WF (b.c :: R) → (∀ d ∈ acc, Cl d) → acc.length + xs.length ≤ 1000 → ∃ (b' : Bag) (acc' : List D), Bag.Ok b' ∧ WF (b'.c :: R) ∧ (∀ d ∈ acc', Cl d) ∧ acc'.length = acc.length + xs.length ∧
    lcM (fun _ => True) (gNm 7) tTr (eCall m_law_good false (aC (eV 1) aN)) [6, 7] rho xs (b.c :: R) (acc.map SV.fr) = .ok (acc'.map SV.fr, b'.c :: R)
  | [], b, acc, hb, w, ha, _ => ⟨b, acc, hb, w, ha, rfl, lc_nil trivial⟩
  | x :: xs, b, acc, hb, w, ha, hl => by
    have hs := sizeLine_eq
    rw [List.length_cons] at hl
    have wa : WF (b.c :: (R ++ [.lst (acc.map SV.fr)])) := wf_acc w acc
    obtain ⟨d, b1, k1, w1, hd, e⟩ := good_run b hb _ wa
    have g1 : ((wipeR rho [6, 7]).set 7 (some x))[1]? = some (some (.cell 0)) := by
      rw [s_wr, s_wr, s_wr0, List.getElem?_set_ne (by decide), List.getElem?_set_ne (by decide), List.getElem?_set_ne (by decide), h1]
    have st : lcT (gNm 7) tTr (eCall m_law_good false (aC (eV 1) aN)) x (wipeR rho [6, 7]) (b.c :: R ++ [.lst (acc.map SV.fr)]) = .ok (some (.fr d), b1.c :: R ++ [.lst (acc.map SV.fr)]) := by
      rw [List.cons_append, List.cons_append]
      simp only [r_lcT, r_gNm, r_bind, s_l1, r_tT, s_l2t, r_call, r_a, r_v, g1, s_v, s_a, r_n, s_ab, s_call, e, s_noX, s_backV, s_l3]
    obtain ⟨b2, acc', k2, w2, h2, l2, e2⟩ := good_lc h1 h7 xs b1 (acc ++ [d]) k1 (WF.bag w) (fun y hy => by
      rcases List.mem_append.mp hy with hy | hy
      · exact ha y hy
      · rcases List.mem_singleton.mp hy with rfl; exact hd) (by rw [List.length_append, List.length_singleton]; omega)
    refine ⟨b2, acc', k2, w2, h2, by rw [l2, List.length_append, List.length_singleton, List.length_cons]; omega, ?_⟩
    rw [List.map_append] at e2
    rw [lc_some (lk := fun _ => True) (S := b.c :: R) (S1 := b1.c :: R) trivial (by rw [List.length_map]; omega) rfl st]
    exact e2
structure Pr0 (R : Store) (k : Nat) (l : List (Nat × List D)) : Prop where
  at_ : R[k]? = some (.lst (l.map fun q => SV.cell (q.1 + 1)))
  it : ∀ q ∈ l, R[q.1]? = some (.lst (q.2.map SV.fr)) ∧ q.1 ≠ k ∧ (∀ d ∈ q.2, Cl d) ∧ 1 ≤ q.2.length ∧ q.2.length ≤ 3
theorem made_loop {x0 x2 x5 x6 x7 : Option SV} {k : Nat} : ∀ (xs : List SV) (b : Bag) (R : Store) (l : List (Nat × List D)) (x4 : Option SV), b.Ok → WF (b.c :: R) → Pr0 R k l → l.length + xs.length ≤ 100 → ∃ (b' : Bag) (R' : Store) (l' : List (Nat × List D)) (y4 : Option SV), Bag.Ok b' ∧ WF (b'.c :: R') ∧ Pr0 R' k l' ∧ l'.length = l.length + xs.length ∧
    loopM (fun _ => True) (gNm 4) f_law_1 xs [x0, some (.cell 0), x2, some (.cell (k + 1)), x4, x5, x6, x7] (b.c :: R) = .ok (.nx, [x0, some (.cell 0), x2, some (.cell (k + 1)), y4, x5, x6, x7], b'.c :: R')
  | [], b, R, l, x4, hb, w, h, _ => ⟨b, R, l, x4, hb, w, h, rfl, loop_nil _ _ trivial⟩
  | x :: xs, b, R, l, x4, hb, w, h, hl => by
    rw [List.length_cons] at hl
    obtain ⟨v, b1, l1, u1, k1, w1, e1⟩ := take_run b hb 3 (by decide) (by decide) R w
    have vl : (rngS 0 (1 + v).toNat).length = (1 + v).toNat := by simp [rngS]
    have hr : k_r1 ([.fr (.int (1 + v))], b1.c :: R) = .ok (⟨rngS 0 (1 + v).toNat, fun _ => True⟩, b1.c :: R) := s_r1 (by omega)
    obtain ⟨b2, acc, k2, w2, ha, la, e2⟩ := good_lc (R := R) (rho := [x0, some (.cell 0), x2, some (.cell (k + 1)), some x, x5, x6, x7]) rfl (by simp) (rngS 0 (1 + v).toNat) b1 [] k1 w1 nofun (by rw [vl, List.length_nil]; omega)
    rw [vl, List.length_nil, Nat.zero_add] at la
    rw [List.map_nil] at e2
    have ty : tyS "list" (b.c :: R) (.cell (k + 1)) = true := by
      unfold tyS
      simp only [rdL, List.getElem?_cons_succ, h.at_]
      rfl
    have kr := (List.getElem?_eq_some_iff.mp h.at_).1
    have wn : WF (b2.c :: (R ++ [.lst (acc.map SV.fr)])) := wf_acc w2 acc
    have ap := app_at (S := b2.c :: (R ++ [.lst (acc.map SV.fr)])) (k := k + 1) (y := .cell (R.length + 1)) (by rw [List.getElem?_cons_succ]; exact get_app h.at_) (by rw [List.length_map]; omega)
    rw [List.set_cons_succ] at ap
    obtain ⟨R1, hR1⟩ : ∃ R1, (R ++ [Cell.lst (acc.map SV.fr)]).set k (.lst ((l.map fun q => SV.cell (q.1 + 1)) ++ [.cell (R.length + 1)])) = R1 := ⟨_, rfl⟩
    rw [hR1] at ap
    have h1 : Pr0 R1 k (l ++ [(R.length, acc)]) := by
      refine ⟨?_, fun q hq => ?_⟩
      · rw [← hR1, List.getElem?_set_self (by rw [List.length_append]; omega), List.map_append]
        rfl
      · rcases List.mem_append.mp hq with hq | hq
        · obtain ⟨a1, a2, a3⟩ := h.it q hq
          exact ⟨by rw [← hR1, List.getElem?_set_ne (Ne.symm a2)]; exact get_app a1, a2, a3⟩
        · rcases List.mem_singleton.mp hq with rfl
          refine ⟨?_, by dsimp only; omega, ha, by dsimp only; omega, by dsimp only; omega⟩
          rw [← hR1, List.getElem?_set_ne (by dsimp only; omega)]
          dsimp only
          rw [List.getElem?_append_right (Nat.le_refl _), Nat.sub_self]
          rfl
    have wR : WF (b2.c :: R1) := by
      have old := wf_get wn (i := k + 1) (by rw [List.getElem?_cons_succ]; exact get_app h.at_)
      rw [← hR1, ← List.set_cons_succ]
      refine wn.set _ (below_lst (n := (b2.c :: (R ++ [Cell.lst (acc.map SV.fr)])).length) (fun y hy => ?_) (Nat.le_refl _))
      rcases List.mem_append.mp hy with hy | hy
      · exact old y hy
      · rcases List.mem_singleton.mp hy with rfl
        simp only [SV.below, List.length_cons, List.length_append, List.length_nil, decide_eq_true_eq]
        omega
    obtain ⟨b3, R3, l3, y4, k3, w3, h3, hl3, ih⟩ := made_loop xs b2 R1 (l ++ [(R.length, acc)]) (some x) k2 wR h1 (by rw [List.length_append, List.length_singleton]; omega) (x0 := x0) (x2 := x2) (x5 := x5) (x6 := x6) (x7 := x7)
    refine ⟨b3, R3, l3, y4, k3, w3, h3, by rw [hl3, List.length_append, List.length_singleton, List.length_cons]; omega, ?_⟩
    have st : (gNm 4 x [x0, some (.cell 0), x2, some (.cell (k + 1)), x4, x5, x6, x7] (b.c :: R)).bind (k_body f_law_1) = .ok (.nx, [x0, some (.cell 0), x2, some (.cell (k + 1)), some x, x5, x6, x7], b2.c :: R1) := by
      simp only [RR, DL.isNon, List.replicate_succ, List.replicate_zero, List.set_cons_zero, List.set_cons_succ, List.getElem?_cons_zero, List.getElem?_cons_succ, Option.map_some, Nat.reduceSub, and_self, and_true, true_and, decide_true, decide_false, if_true, if_false, Bool.false_eq_true, Bool.not_true, Bool.not_false, Nat.reduceAdd, Nat.reduceMul, Nat.reduceLeDiff, f_law_1, s_mt appendG ty, take_is, e1, hr, e2, List.cons_append, List.length_cons, ap]
    rw [loop_cons _ _ _ trivial, st, r_bind, s_turnN, ih]
theorem Pr0.prs {R : Store} {k : Nat} {l : List (Nat × List D)} (h : Pr0 R k l) (h1 : 1 ≤ l.length) (h5 : l.length ≤ 5) : Prs R k l := ⟨h.at_, h.it, h1, h5⟩
theorem prs_th {R : Store} {k : Nat} {l : List (Nat × List D)} (hP : Prs R k l) (b : Bag) : Bad (b.c :: R) (.cell (k + 1)) ∨ Gd (b.c :: R) (.cell (k + 1)) := by
  refine th_list (l := l.map pr70) (by rw [List.getElem?_cons_succ, pr_fst]; exact hP.at_) (by omega) (fun p hp => ?_) (by have := hP.n5; rw [List.length_map]; omega)
  obtain ⟨q, hq, rfl⟩ := List.mem_map.mp hp
  have := itm_prog hP b [] (m := k + 1) (by have := (hP.it q hq).2.1; omega) hq
  rw [List.append_nil] at this
  exact this
theorem right_run (b : Bag) (hb : b.Ok) (R : Store) (w : WF (b.c :: R)) {x : SV} (h : Bad (b.c :: R) x ∨ Gd (b.c :: R) x) : ∃ (b' : Bag) (R' : Store), Bag.Ok b' ∧ WF (b'.c :: R') ∧ m_law_right [.cell 0, x] (b.c :: R) = .ok (.val (.fr (.bl true)), b'.c :: R') := by
  rcases h with h | h
  · exact ⟨b, R, hb, w, right_bad b hb R w h⟩
  · exact right_good b hb R w h
theorem law_turn {x0 x2 x3 x4 x5 : Option SV} (x : SV) (b : Bag) (hb : b.Ok) (R : Store) (w : WF (b.c :: R)) : ∃ (b' : Bag) (R' : Store) (y3 y4 y5 : Option SV), Bag.Ok b' ∧ WF (b'.c :: R') ∧
    (gNm 2 x [x0, some (.cell 0), x2, x3, x4, x5, none, none] (b.c :: R)).bind (k_body f_law_2) = .ok (.nx, [x0, some (.cell 0), some x, y3, y4, y5, none, none], b'.c :: R') := by
  have wn : WF (b.c :: (R ++ [.lst []])) := w.snoc rfl
  obtain ⟨v, b1, l1, u1, k1, w1, e1⟩ := take_run b hb 5 (by decide) (by decide) _ wn
  have hr : k_r1 ([.fr (.int (1 + v))], b1.c :: (R ++ [.lst []])) = .ok (⟨rngS 0 (1 + v).toNat, fun _ => True⟩, b1.c :: (R ++ [.lst []])) := s_r1 (by omega)
  have vl : (rngS 0 (1 + v).toNat).length = (1 + v).toNat := by simp [rngS]
  have p0 : Pr0 (R ++ [.lst []]) R.length [] := ⟨by rw [List.getElem?_append_right (Nat.le_refl _), Nat.sub_self]; rfl, nofun⟩
  obtain ⟨b2, R2, l2, y4, k2, w2, h2, hl2, e2⟩ := made_loop (rngS 0 (1 + v).toNat) b1 _ [] x4 k1 w1 p0 (by rw [vl, List.length_nil]; omega) (x0 := x0) (x2 := some x) (x5 := x5) (x6 := none) (x7 := none)
  rw [vl, List.length_nil, Nat.zero_add] at hl2
  have hP := h2.prs (by omega) (by omega)
  obtain ⟨v3, b3, l3, u3, k3, w3, e3⟩ := take_run b2 k2 2 (by decide) (by decide) R2 w2
  have nC : newL true [] (b.c :: R) = .ok (.cell (R.length + 1), b.c :: (R ++ [.lst []])) := rfl
  -- the thing
  obtain ⟨b4, R4, z, k4, w4, th, e4⟩ : ∃ (b4 : Bag) (R4 : Store) (z : SV), Bag.Ok b4 ∧ WF (b4.c :: R4) ∧ (∀ b9 : Bag, Bad (b9.c :: R4) z ∨ Gd (b9.c :: R4) z) ∧
      (sIf (DL.tB (DL.e2 (eqG false) (eCall m_law_take false (aC (eV 1) (aC (eC (.int 2)) aN))) (eC (.int 0)))) (sSet 5 (eCallK m_law_bent (aC (eV 1) (aC (eV 3) aN)))) sNx) [x0, some (.cell 0), some x, some (.cell (R.length + 1)), y4, some (.cell (R.length + 1)), none, none] (b2.c :: R2) =
        .ok (.nx, [x0, some (.cell 0), some x, some (.cell (R.length + 1)), y4, some z, none, none], b4.c :: R4) := by
    by_cases q : v3 = 0
    · subst q
      obtain ⟨z, b4, U, k4, w4, th, e⟩ := bent_run b3 k3 hP w3
      refine ⟨b4, R2 ++ U, z, k4, w4, th, ?_⟩
      have dz : decide ((0 : Int) = 0) = true := rfl
      simp only [RR, DL.isNon, List.replicate_succ, List.replicate_zero, List.set_cons_zero, List.set_cons_succ, List.getElem?_cons_zero, List.getElem?_cons_succ, Option.map_some, Nat.reduceSub, and_self, and_true, true_and, decide_true, decide_false, if_true, if_false, Bool.false_eq_true, Bool.not_true, Bool.not_false, Nat.reduceAdd, Nat.reduceMul, Nat.reduceLeDiff, take_is, e3, dz, s_cK e]
    · have dz : decide (v3 = 0) = false := decide_eq_false q
      refine ⟨b3, R2, .cell (R.length + 1), k3, w3, prs_th hP, ?_⟩
      simp only [RR, DL.isNon, List.replicate_succ, List.replicate_zero, List.set_cons_zero, List.set_cons_succ, List.getElem?_cons_zero, List.getElem?_cons_succ, Option.map_some, Nat.reduceSub, and_self, and_true, true_and, decide_true, decide_false, if_true, if_false, Bool.false_eq_true, Bool.not_true, Bool.not_false, Nat.reduceAdd, Nat.reduceMul, Nat.reduceLeDiff, take_is, e3, dz]
  obtain ⟨v5, b5, l5, u5, k5, w5, e5⟩ := take_run b4 k4 10 (by decide) (by decide) R4 w4
  obtain ⟨b6, R6, z', k6, w6, th6, e6⟩ : ∃ (b6 : Bag) (R6 : Store) (z' : SV), Bag.Ok b6 ∧ WF (b6.c :: R6) ∧ (Bad (b6.c :: R6) z' ∨ Gd (b6.c :: R6) z') ∧
      (sIf (DL.tB (DL.e2 (eqG false) (eCall m_law_take false (aC (eV 1) (aC (eC (.int 10)) aN))) (eC (.int 0)))) (sSet 5 (eCall m_law_odd true (aC (eV 1) aN))) sNx) [x0, some (.cell 0), some x, some (.cell (R.length + 1)), y4, some z, none, none] (b4.c :: R4) =
        .ok (.nx, [x0, some (.cell 0), some x, some (.cell (R.length + 1)), y4, some z', none, none], b6.c :: R6) := by
    by_cases q : v5 = 0
    · subst q
      obtain ⟨d, b6, k6, w6, hd, e⟩ := odd_run b5 k5 R4 w5
      refine ⟨b6, R4, .fr d, k6, w6, .inl (th_odd hd), ?_⟩
      have dz : decide ((0 : Int) = 0) = true := rfl
      simp only [RR, DL.isNon, List.replicate_succ, List.replicate_zero, List.set_cons_zero, List.set_cons_succ, List.getElem?_cons_zero, List.getElem?_cons_succ, Option.map_some, Nat.reduceSub, and_self, and_true, true_and, decide_true, decide_false, if_true, if_false, Bool.false_eq_true, Bool.not_true, Bool.not_false, Nat.reduceAdd, Nat.reduceMul, Nat.reduceLeDiff, take_is, e5, dz, e]
    · have dz : decide (v5 = 0) = false := decide_eq_false q
      refine ⟨b5, R4, z, k5, w5, th b5, ?_⟩
      simp only [RR, DL.isNon, List.replicate_succ, List.replicate_zero, List.set_cons_zero, List.set_cons_succ, List.getElem?_cons_zero, List.getElem?_cons_succ, Option.map_some, Nat.reduceSub, and_self, and_true, true_and, decide_true, decide_false, if_true, if_false, Bool.false_eq_true, Bool.not_true, Bool.not_false, Nat.reduceAdd, Nat.reduceMul, Nat.reduceLeDiff, take_is, e5, dz]
  obtain ⟨b7, R7, k7, w7, e7⟩ := right_run b6 k6 R6 w6 th6
  refine ⟨b7, R7, some (.cell (R.length + 1)), y4, some z', k7, w7, ?_⟩
  simp only [RR, DL.isNon, List.replicate_succ, List.replicate_zero, List.set_cons_zero, List.set_cons_succ, List.getElem?_cons_zero, List.getElem?_cons_succ, Option.map_some, Nat.reduceSub, and_self, and_true, true_and, decide_true, decide_false, if_true, if_false, Bool.false_eq_true, Bool.not_true, Bool.not_false, Nat.reduceAdd, Nat.reduceMul, Nat.reduceLeDiff, take_is] at e4
  simp only [RR, DL.isNon, List.replicate_succ, List.replicate_zero, List.set_cons_zero, List.set_cons_succ, List.getElem?_cons_zero, List.getElem?_cons_succ, Option.map_some, Nat.reduceSub, and_self, and_true, true_and, decide_true, decide_false, if_true, if_false, Bool.false_eq_true, Bool.not_true, Bool.not_false, Nat.reduceAdd, Nat.reduceMul, Nat.reduceLeDiff, take_is] at e6
  simp only [RR, DL.isNon, List.replicate_succ, List.replicate_zero, List.set_cons_zero, List.set_cons_succ, List.getElem?_cons_zero, List.getElem?_cons_succ, Option.map_some, Nat.reduceSub, and_self, and_true, true_and, decide_true, decide_false, if_true, if_false, Bool.false_eq_true, Bool.not_true, Bool.not_false, Nat.reduceAdd, Nat.reduceMul, Nat.reduceLeDiff, f_law_2, nC, take_is, e1, hr, e2, e4, e6, e7]
theorem law_loop {x0 : Option SV} : ∀ (xs : List SV) (b : Bag) (R : Store) (x2 x3 x4 x5 : Option SV), b.Ok → WF (b.c :: R) → ∃ (b' : Bag) (R' : Store) (y2 y3 y4 y5 : Option SV), WF (b'.c :: R') ∧
    loopM (fun _ => True) (gNm 2) f_law_2 xs [x0, some (.cell 0), x2, x3, x4, x5, none, none] (b.c :: R) = .ok (.nx, [x0, some (.cell 0), y2, y3, y4, y5, none, none], b'.c :: R')
  | [], b, R, x2, x3, x4, x5, hb, w => ⟨b, R, x2, x3, x4, x5, w, loop_nil _ _ trivial⟩
  | x :: xs, b, R, x2, x3, x4, x5, hb, w => by
    obtain ⟨b1, R1, y3, y4, y5, k1, w1, st⟩ := law_turn x b hb R w (x0 := x0) (x2 := x2) (x3 := x3) (x4 := x4) (x5 := x5)
    obtain ⟨b2, R2, z2, z3, z4, z5, w2, ih⟩ := law_loop xs b1 R1 (some x) y3 y4 y5 k1 w1 (x0 := x0)
    refine ⟨b2, R2, z2, z3, z4, z5, w2, ?_⟩
    rw [loop_cons _ _ _ trivial, st, r_bind, s_turnN, ih]
theorem law_run (ns : List Int) (h : ns.length ≤ 63) : Ends (m_law [.fr (.scr (ns.map D.int))] []) fun r => r.1 = .val (.fr (.bl true)) := by
  obtain ⟨b0, hb, e0⟩ := bag0 ns h
  have w0 : WF [b0.c] := wfb b0
  obtain ⟨b1, R1, y2, y3, y4, y5, w1, lp⟩ := law_loop (x0 := some (.fr (.scr (ns.map D.int)))) (rngS 0 (8 : Int).toNat) b0 [] none none none none hb w0
  have s8 : k_r1 ([.fr (.int 8)], [b0.c]) = .ok (⟨rngS 0 (8 : Int).toNat, fun _ => True⟩, [b0.c]) := s_r1 (by decide)
  have lv : leave 0 (.fr (.bl true)) (b1.c :: R1) = .ok (.val (.fr (.bl true)), []) := leave_more (S := []) (T := b1.c :: R1) wf_nil (.bl true)
  have e : m_law [.fr (.scr (ns.map D.int))] [] = .ok (.val (.fr (.bl true)), []) := by
    simp only [RR, DL.isNon, List.replicate_succ, List.replicate_zero, List.set_cons_zero, List.set_cons_succ, List.getElem?_cons_zero, List.getElem?_cons_succ, Option.map_some, Nat.reduceSub, and_self, and_true, true_and, decide_true, decide_false, if_true, if_false, Bool.false_eq_true, Bool.not_true, Bool.not_false, Nat.reduceAdd, Nat.reduceMul, Nat.reduceLeDiff, m_law, b_law, bag_is, e0, List.length_nil, List.nil_append, s8, lp]
    exact lv
  rw [e]
  exact ⟨_, rfl, rfl⟩
theorem tells : DL.Tells 63 m_law := tells_of law_run

theorem allD {P : Program} {w : World} {K : PySem.W.Frag} {mg : Str → Option Value} {h base : Heap} (X : K.In h) (G : h.Ns mainGlobals mg) (c : SaysF fcl fnl K) (TB : TBs K mg base) : CalD P w K mg base 12 "law" m_law := by
  have T : Txt K mg := ⟨He.free_ok X G (c.fact 0 (f := fcFree "ValueError") rfl), He.free_ok X G (c.fact 1 (f := fcFree "abs") rfl), He.free_ok X G (c.fact 2 (f := fcFree "all") rfl), He.free_ok X G (c.fact 3 (f := fcFree "bool") rfl), He.free_ok X G (c.fact 4 (f := fcFree "int") rfl), He.free_ok X G (c.fact 5 (f := fcFree "isinstance") rfl), He.free_ok X G (c.fact 6 (f := fcFree "len") rfl), He.free_ok X G (c.fact 7 (f := fcFree "list") rfl), He.free_ok X G (c.fact 8 (f := fcFree "range") rfl), He.free_ok X G (c.fact 9 (f := fcFree "repr") rfl), He.free_ok X G (c.fact 10 (f := fcFree "sum") rfl), He.free_ok X G (c.fact 11 (f := fcFree "tuple") rfl), He.glo_ok X G (c.fact 12 (f := fcGlo "Crowd") rfl), He.glo_ok X G (c.fact 13 (f := fcGlo "LockError") rfl), He.glo_ok X G (c.fact 14 (f := fcGlo "TooMany") rfl), He.glo_ok X G (c.fact 15 (f := fcGlo "Unfit") rfl), He.glo_ok X G (c.fact 16 (f := fcGlo "Wrong") rfl), cint_of X G (c.fact 17 (f := fcInt "MOST_CALLS" (6)) rfl), cint_of X G (c.fact 18 (f := fcInt "MOST_LEVEL" (2)) rfl), cint_of X G (c.fact 19 (f := fcInt "MOST_PROGRAMS" (4)) rfl), (flds_cons (fld_of (c.fact 20 (f := fcCls "Crowd") rfl) (c.fact 21 (f := fcNo "Crowd" "kept_programs") rfl)) (flds_nil)), (isx_nil (isiO_of X G (c.fact 20 (f := fcCls "Crowd") rfl) (c.fact 22 (f := fcIsi "Crowd") rfl))), bas_of (c.fact 23 (f := fcBas "LockError") rfl), (xfs_cons (c.fact 24 (f := fcXf "Wrong" "place") rfl) xfs_nil), (exm_cons exm_nil (c.fact 25 (f := fcExm "Wrong" "LockError" true) rfl)), (ises_cons ises_nil (c.fact 26 (f := fcIse "Wrong" [("TooMany", false), ("Unfit", false), ("Wrong", true)] [("ValueError", true)]) rfl)), eqs_of (c.fact 27 (f := fcEqs ["Crowd"]) rfl) (isis_cons (isiO_of X G (c.fact 20 (f := fcCls "Crowd") rfl) (c.fact 22 (f := fcIsi "Crowd") rfl)) isis_nil)⟩
  obtain ⟨_, F_Wrong___init__⟩ := c.def_ 0 (d := dd_Wrong___init__) rfl
  have B_Wrong___init__ := F_Wrong___init__.bindsN (ps := ["self", "place"]) fun _ _ _ _ _ _ us hl => match us, hl with | [_, _], _ => rfl
  have x_Wrong___init__ := ok_Wrong___init__ (P := P) (w := w) (base := base) T (He5.fun_of F_Wrong___init__)
  obtain ⟨_, F_is_integer⟩ := c.def_ 1 (d := dd_is_integer) rfl
  have B_is_integer := F_is_integer.bindsN (ps := ["thing"]) fun _ _ _ _ _ _ us hl => match us, hl with | [_], _ => rfl
  have c_is_integer := ok_is_integer (P := P) (w := w) (base := base) T (He5.fun_of F_is_integer) (He.glo_ok X G (c.fact 28 (f := fcGlo "is_integer") rfl)) B_is_integer 
  obtain ⟨_, F_Crowd_programs⟩ := c.def_ 2 (d := dd_Crowd_programs) rfl
  have B_Crowd_programs := F_Crowd_programs.bindsN (ps := ["self"]) fun _ _ _ _ _ _ us hl => match us, hl with | [_], _ => rfl
  have x_Crowd_programs := ok_Crowd_programs (P := P) (w := w) (base := base) T (He5.fun_of F_Crowd_programs) (He.meth_ok (c.fact 29 (f := fcMeth "Crowd" "programs") rfl)).fn B_Crowd_programs 
  obtain ⟨_, F_Crowd___eq__⟩ := c.def_ 3 (d := dd_Crowd___eq__) rfl
  have B_Crowd___eq__ := F_Crowd___eq__.bindsN (ps := ["self", "other"]) fun _ _ _ _ _ _ us hl => match us, hl with | [_, _], _ => rfl
  have x_Crowd___eq__ := ok_Crowd___eq__ (P := P) (w := w) (base := base) T (He5.fun_of F_Crowd___eq__) (He.meth_ok (c.fact 30 (f := fcMeth "Crowd" "__eq__") rfl)).fn B_Crowd___eq__ 
  obtain ⟨_, F_law_bag⟩ := c.def_ 4 (d := dd_law_bag) rfl
  have B_law_bag := F_law_bag.bindsN (ps := ["_law_script"]) fun _ _ _ _ _ _ us hl => match us, hl with | [_], _ => rfl
  have c_law_bag := ok_law_bag (P := P) (w := w) (base := base) T (He5.fun_of F_law_bag) (He.glo_ok X G (c.fact 31 (f := fcGlo "_law_bag") rfl)) B_law_bag 
  obtain ⟨_, F_law_take⟩ := c.def_ 5 (d := dd_law_take) rfl
  have B_law_take := F_law_take.bindsN (ps := ["_law_bag_here", "_law_many"]) fun _ _ _ _ _ _ us hl => match us, hl with | [_, _], _ => rfl
  have c_law_take := ok_law_take (P := P) (w := w) (base := base) T (He5.fun_of F_law_take) (He.glo_ok X G (c.fact 32 (f := fcGlo "_law_take") rfl)) B_law_take 
  obtain ⟨_, F_law_is_number⟩ := c.def_ 6 (d := dd_law_is_number) rfl
  have B_law_is_number := F_law_is_number.bindsN (ps := ["_law_thing"]) fun _ _ _ _ _ _ us hl => match us, hl with | [_], _ => rfl
  have c_law_is_number := ok_law_is_number (P := P) (w := w) (base := base) T (He5.fun_of F_law_is_number) (He.glo_ok X G (c.fact 33 (f := fcGlo "_law_is_number") rfl)) B_law_is_number 
  obtain ⟨_, F_is_between⟩ := c.def_ 7 (d := dd_is_between) rfl
  have B_is_between := F_is_between.bindsN (ps := ["thing", "least", "greatest"]) fun _ _ _ _ _ _ us hl => match us, hl with | [_, _, _], _ => rfl
  have c_is_between := ok_is_between (P := P) (w := w) (base := base) T (He5.fun_of F_is_between) (He.glo_ok X G (c.fact 34 (f := fcGlo "is_between") rfl)) B_is_between c_is_integer
  obtain ⟨_, F_is_byte⟩ := c.def_ 8 (d := dd_is_byte) rfl
  have B_is_byte := F_is_byte.bindsN (ps := ["thing"]) fun _ _ _ _ _ _ us hl => match us, hl with | [_], _ => rfl
  have c_is_byte := ok_is_byte (P := P) (w := w) (base := base) T (He5.fun_of F_is_byte) (He.glo_ok X G (c.fact 35 (f := fcGlo "is_byte") rfl)) B_is_byte c_is_integer
  obtain ⟨_, F_law_is_call⟩ := c.def_ 9 (d := dd_law_is_call) rfl
  have B_law_is_call := F_law_is_call.bindsN (ps := ["_law_thing"]) fun _ _ _ _ _ _ us hl => match us, hl with | [_], _ => rfl
  have c_law_is_call := ok_law_is_call (P := P) (w := w) (base := base) T (He5.fun_of F_law_is_call) (He.glo_ok X G (c.fact 36 (f := fcGlo "_law_is_call") rfl)) B_law_is_call c_law_is_number
  obtain ⟨_, F_law_good⟩ := c.def_ 10 (d := dd_law_good) rfl
  have B_law_good := F_law_good.bindsN (ps := ["_law_bag_here"]) fun _ _ _ _ _ _ us hl => match us, hl with | [_], _ => rfl
  have c_law_good := ok_law_good (P := P) (w := w) (base := base) T (He5.fun_of F_law_good) (He.glo_ok X G (c.fact 37 (f := fcGlo "_law_good") rfl)) B_law_good c_law_take
  obtain ⟨_, F_law_odd⟩ := c.def_ 11 (d := dd_law_odd) rfl
  have B_law_odd := F_law_odd.bindsN (ps := ["_law_bag_here"]) fun _ _ _ _ _ _ us hl => match us, hl with | [_], _ => rfl
  have c_law_odd := ok_law_odd (P := P) (w := w) (base := base) T (He5.fun_of F_law_odd) (He.glo_ok X G (c.fact 38 (f := fcGlo "_law_odd") rfl)) B_law_odd c_law_take
  obtain ⟨_, F_span_fault⟩ := c.def_ 12 (d := dd_span_fault) rfl
  have B_span_fault := F_span_fault.bindsN (ps := ["first", "last"]) fun _ _ _ _ _ _ us hl => match us, hl with | [_, _], _ => rfl
  have c_span_fault := ok_span_fault (P := P) (w := w) (base := base) T (He5.fun_of F_span_fault) (He.glo_ok X G (c.fact 39 (f := fcGlo "span_fault") rfl)) B_span_fault c_is_byte
  obtain ⟨_, F_is_level⟩ := c.def_ 13 (d := dd_is_level) rfl
  have B_is_level := F_is_level.bindsN (ps := ["thing"]) fun _ _ _ _ _ _ us hl => match us, hl with | [_], _ => rfl
  have c_is_level := ok_is_level (P := P) (w := w) (base := base) T (He5.fun_of F_is_level) (He.glo_ok X G (c.fact 40 (f := fcGlo "is_level") rfl)) B_is_level c_is_between
  have O_eq_ : OpsD P w K mg base 1 "__eq__" [("Crowd", m_Crowd___eq__)] := ops_cons ((op_of (c.fact 41 (f := fcSelf "Crowd") rfl) (c.fact 30 (f := fcMeth "Crowd" "__eq__") rfl) x_Crowd___eq__).mono (by decide)) (ops_nil)
  obtain ⟨_, F_law_alike⟩ := c.def_ 14 (d := dd_law_alike) rfl
  have B_law_alike := F_law_alike.bindsN (ps := ["_law_found", "_law_due"]) fun _ _ _ _ _ _ us hl => match us, hl with | [_, _], _ => rfl
  have c_law_alike := ok_law_alike (P := P) (w := w) (base := base) T (He5.fun_of F_law_alike) (He.glo_ok X G (c.fact 42 (f := fcGlo "_law_alike") rfl)) B_law_alike O_eq_
  obtain ⟨_, F_law_are_programs⟩ := c.def_ 15 (d := dd_law_are_programs) rfl
  have B_law_are_programs := F_law_are_programs.bindsN (ps := ["_law_thing"]) fun _ _ _ _ _ _ us hl => match us, hl with | [_], _ => rfl
  have c_law_are_programs := ok_law_are_programs (P := P) (w := w) (base := base) T (He5.fun_of F_law_are_programs) (He.glo_ok X G (c.fact 43 (f := fcGlo "_law_are_programs") rfl)) B_law_are_programs c_law_is_call
  obtain ⟨_, F_law_bent⟩ := c.def_ 16 (d := dd_law_bent) rfl
  have B_law_bent := F_law_bent.bindsN (ps := ["_law_bag_here", "_law_programs"]) fun _ _ _ _ _ _ us hl => match us, hl with | [_, _], _ => rfl
  have c_law_bent := ok_law_bent (P := P) (w := w) (base := base) T (He5.fun_of F_law_bent) (He.glo_ok X G (c.fact 44 (f := fcGlo "_law_bent") rfl)) B_law_bent c_law_take c_law_odd
  obtain ⟨_, F_is_span⟩ := c.def_ 17 (d := dd_is_span) rfl
  have B_is_span := F_is_span.bindsN (ps := ["thing"]) fun _ _ _ _ _ _ us hl => match us, hl with | [_], _ => rfl
  have c_is_span := ok_is_span (P := P) (w := w) (base := base) T (He5.fun_of F_is_span) (He.glo_ok X G (c.fact 45 (f := fcGlo "is_span") rfl)) B_is_span c_span_fault
  obtain ⟨_, F_is_plain_call⟩ := c.def_ 18 (d := dd_is_plain_call) rfl
  have B_is_plain_call := F_is_plain_call.bindsN (ps := ["thing"]) fun _ _ _ _ _ _ us hl => match us, hl with | [_], _ => rfl
  have c_is_plain_call := ok_is_plain_call (P := P) (w := w) (base := base) T (He5.fun_of F_is_plain_call) (He.glo_ok X G (c.fact 46 (f := fcGlo "is_plain_call") rfl)) B_is_plain_call c_is_span c_is_level
  obtain ⟨_, F_is_program⟩ := c.def_ 19 (d := dd_is_program) rfl
  have B_is_program := F_is_program.bindsN (ps := ["thing"]) fun _ _ _ _ _ _ us hl => match us, hl with | [_], _ => rfl
  have c_is_program := ok_is_program (P := P) (w := w) (base := base) T (He5.fun_of F_is_program) (He.glo_ok X G (c.fact 47 (f := fcGlo "is_program") rfl)) B_is_program c_is_plain_call
  obtain ⟨_, F_are_programs⟩ := c.def_ 20 (d := dd_are_programs) rfl
  have B_are_programs := F_are_programs.bindsN (ps := ["thing"]) fun _ _ _ _ _ _ us hl => match us, hl with | [_], _ => rfl
  have c_are_programs := ok_are_programs (P := P) (w := w) (base := base) T (He5.fun_of F_are_programs) (He.glo_ok X G (c.fact 48 (f := fcGlo "are_programs") rfl)) B_are_programs c_is_program
  have XI_Wrong : ExF P w K mg base 1 "Wrong" ["place"] := exf_of (He.glo_ok X G (c.fact 16 (f := fcGlo "Wrong") rfl)) (ox_of (c.fact 49 (f := fcOx "Wrong") rfl)) x_Wrong___init__ B_Wrong___init__ (xf_cons (c.fact 24 (f := fcXf "Wrong" "place") rfl) xf_nil)
  obtain ⟨_, F_Crowd___init__⟩ := c.def_ 21 (d := dd_Crowd___init__) rfl
  have B_Crowd___init__ := F_Crowd___init__.bindsN (ps := ["self", "programs"]) fun _ _ _ _ _ _ us hl => match us, hl with | [_, _], _ => rfl
  have x_Crowd___init__ := ok_Crowd___init__ (P := P) (w := w) (base := base) T (He5.fun_of F_Crowd___init__) (He.meth_ok (c.fact 50 (f := fcMeth "Crowd" "__init__") rfl)).fn B_Crowd___init__ c_are_programs XI_Wrong
  have K_Crowd : MakD P w K mg base 8 "Crowd" m_Crowd___init__ := mak_of X G (c.fact 12 (f := fcGlo "Crowd") rfl) (c.fact 51 (f := fcMk "Crowd") rfl) x_Crowd___init__
  obtain ⟨_, F_law_told⟩ := c.def_ 22 (d := dd_law_told) rfl
  have B_law_told := F_law_told.bindsN (ps := ["_law_thing"]) fun _ _ _ _ _ _ us hl => match us, hl with | [_], _ => rfl
  have c_law_told := ok_law_told (P := P) (w := w) (base := base) T (He5.fun_of F_law_told) (He.glo_ok X G (c.fact 52 (f := fcGlo "_law_told") rfl)) B_law_told K_Crowd
  obtain ⟨_, F_law_unlike_right⟩ := c.def_ 23 (d := dd_law_unlike_right) rfl
  have B_law_unlike_right := F_law_unlike_right.bindsN (ps := ["_law_bag_here", "_law_crowd", "_law_due"]) fun _ _ _ _ _ _ us hl => match us, hl with | [_, _, _], _ => rfl
  have c_law_unlike_right := ok_law_unlike_right (P := P) (w := w) (base := base) T (He5.fun_of F_law_unlike_right) (He.glo_ok X G (c.fact 53 (f := fcGlo "_law_unlike_right") rfl)) B_law_unlike_right O_eq_ K_Crowd c_law_take
  have MK_programs : MetsK P w K mg base 1 "programs" [("Crowd", m_Crowd_programs)] := metsK_cons ((metK_of (c.fact 20 (f := fcCls "Crowd") rfl) (c.fact 29 (f := fcMeth "Crowd" "programs") rfl) x_Crowd_programs).mono (by decide)) (metsK_nil)
  obtain ⟨_, F_law_right⟩ := c.def_ 24 (d := dd_law_right) rfl
  have B_law_right := F_law_right.bindsN (ps := ["_law_bag_here", "_law_thing"]) fun _ _ _ _ _ _ us hl => match us, hl with | [_, _], _ => rfl
  have c_law_right := ok_law_right (P := P) (w := w) (base := base) T (He5.fun_of F_law_right) (He.glo_ok X G (c.fact 54 (f := fcGlo "_law_right") rfl)) B_law_right c_law_unlike_right O_eq_ MK_programs K_Crowd c_law_alike c_law_are_programs c_law_told
  obtain ⟨_, F_law⟩ := c.def_ 25 (d := dd_law) rfl
  have B_law := F_law.bindsN (ps := ["_law_script"]) fun _ _ _ _ _ _ us hl => match us, hl with | [_], _ => rfl
  have c_law := ok_law (P := P) (w := w) (base := base) T (He5.fun_of F_law) (He.glo_ok X G (c.fact 55 (f := fcGlo "law") rfl)) B_law c_law_right c_law_take c_law_odd c_law_bent c_law_good c_law_bag
  exact c_law
end K70
open PySem PySem.W PySem.Calls PyProof.Rows
theorem PySem.Challenge.cw_byteholds_k70_crowds_known_holds : PySem.Challenge.rw_byteholds_k70_crowds_known.Holds := by
  w_on; o_law
  refine HandSHeadRun.head_any (r := OpenLaw.row PySem.Challenge.rw_byteholds_k70_crowds_known) (q := view (OpenLaw.row PySem.Challenge.rw_byteholds_k70_crowds_known).prog [34]) (H := K70.hkD) (ob := K70.obD) (M := 6000) (loose := ("_wall" :: "LockError" :: "Wrong" :: "Unfit" :: "TooMany" :: "MOST_LEVEL" :: "is_integer" :: "is_between" :: "is_byte" :: "span_fault" :: "is_span" :: "is_level" :: "MOST_PROGRAMS" :: "MOST_CALLS" :: "is_plain_call" :: "is_program" :: "are_programs" :: "Crowd" :: "_law_bag" :: "_law_take" :: "_law_alike" :: "_law_is_number" :: "_law_is_call" :: "_law_are_programs" :: "_law_good" :: "_law_odd" :: "_law_bent" :: "_law_told" :: "_law_unlike_right" :: "_law_right" :: [])) (d := HandSHeadRun.topDef (OpenLaw.row PySem.Challenge.rw_byteholds_k70_crowds_known).prog 34) (kwd := []) K70.obD_eq
    (by kernel_rfl) (fun s => by kernel_rfl) K70.ranD (by kernel_rfl) (by kernel_rfl) (by kernel_rfl) (by rfl) (by first | assumption | decide +kernel) (by decide +kernel) ⟨rfl, rfl, rfl, rfl, rfl, by decide +kernel⟩ ?hw ?hc
  case hw => w_witness2
  case hc =>
    refine DL.walkD (l := PySem.Challenge.rw_byteholds_k70_crowds_known) (n := 63) (k := 12) rfl (by decide) (by kernel_rfl) ⟨rfl, by decide, by decide⟩ (fun w mg h Y G => ?_) K70.tells
    obtain ⟨K, X, c, t⟩ := Y
    have e : (HandSHeadRun.topDef (OpenLaw.row PySem.Challenge.rw_byteholds_k70_crowds_known).prog 34).name = ("law" : PySem.Str) := by kernel_rfl
    refine ⟨K, X, t, fun base _ _ TB => ?_⟩
    rw [e]
    exact K70.allD X G c TB

