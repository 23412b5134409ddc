import PyProof.Rows.All
import Wide.All
import OpenK.AllK
import Wide.FinOn
import KE.KStateDown
import HandS.ForMost
import HandS.NoneIn
import HandS.SetFor
import HandS.ForExc
import HandS.TupAny
import HandS.Wide
import HandS.Flow
import HandS.More
import HandS.Ends
import HandS.Defaults
import HandS.MakeKwOnly
import HandS.Head0
import HandS.Head1
import HandS.Head2
import HandS.HeadEnd
import HandS.HeadHook1
import HandS.HeadHook2
import HandS.HeadNt
import HandS.Words
import HandS.WordsExc
import HandS.Style
import HandS.SortKw
import HandS.IsInst
import HandS.Small
import HandS.Deep
import HandS.ClsMeth
import HandS.CallLocal
import KE.SortKeyHeap
import KE.IntTextText
import KE.KIntText
import KE.KOpsOwn
import OpenK.KMeth
import OpenK.KOps
import PyProof.ReprBulk
import PyProof.ReprRoads
import HandS.HeadHook3
import HandS.HeadHook4
import HandS.Lambda
import HandS.ExcField
import HandS.ExcInit
import KE.KDictKeyed
import KE.KeyNested
import HandS.EndTab
import HandS.TupSets
import PyProof.Conv_bool
import HandS.Set
import HandS.Strs
import PyProof.Rows.SortShellAny
import KE.KFmtOwn
import PyProof.InstEq
import HandS.Conv
import HandS.ForDict
import HandS.WordsDict
import HandS.ExcIs
import KE.KExcIs
import HandS.TryOnly
import HandS.RaiseMore
import HandS.Text
import HandS.Steps
import HandS.Walk
import KE.KDictPairs
import KE.SortData
import HandS.DictTup
import HandS.Records
import KE.SortCalls
import PyProof.P3Eq
import KE.KLam
import KE.DataMinKey
import KE.KDictWalk
import HandS.Property
import KE.DataMinMax
import KE.DataFind
import KE.LtData
import HandS.List
import PyProof.ListCopy
import PyProof.CallStr
import HandS.Zip
import KE.GoesZip
import KE.GoesMore
import KE.GoesEnum
import HandS.RevRange
import HandS.Iter
import KE.KDictDisplayH
import HandS.Dict
import PyProof.ListMulRoad
import PyProof.FactsAll.tuple_2
import HandS.Base
import HandS.Call
import HandS.TupMul
import HandS.SortInts
import KE.KSortTup
import PyProof.CollectIter
import PyProof.TupleIter
import PyProof.WalksMore
import HandS.SetKeys
import HandS.FStr
import HandS.Comp
import HandS.Exc
import HandS.ExcOwn
import HandS.HotCalls
import PyProof.StrOps2
import PySem.Challenge.RW_byteholds_k71_whole_places
set_option Elab.async false
set_option linter.all false
set_option maxRecDepth 100000
set_option maxHeartbeats 4000000
namespace DL
open PySem PySem.Spec PyProof.Rows L2
def subSt (st : Stmt) (j : Nat) : Stmt := match st with
  | .ClassDef _ _ _ b _ _ _ _ _ _ _ => b.getD j (.Pass ⟨0, 0, 0, 0⟩)
  | _ => .Pass ⟨0, 0, 0, 0⟩
abbrev Fc := PySem.W.Frag → Bool
def obsF (fs : List Fc) (fn : List He5.DefA) (K : PySem.W.Frag) : He.AlD := ((fs.all fun f => f K) && fn.all fun d => d.ok K, fn.map fun d => He5.fnA K (d.at_ K))
def SaysF (fs : List Fc) (fn : List He5.DefA) (K : PySem.W.Frag) : Prop := obsF fs fn K = He5.valA fn
def fcCls (n : Str) : Fc := fun K => (He.Fa.cls n).ok K
def fcNo (n f : Str) : Fc := fun K => (He.Fa.noat n f).ok K
def fcGlo (x : Str) : Fc := fun K => (He.Fa.glo x).ok K
def fcFree (x : Str) : Fc := fun K => (He.Fa.free x).ok K
def fcMeth (n m : Str) : Fc := fun K => (He.Fa.meth n m).ok K
def fcMk (n : Str) : Fc := fun K => (He.Fa.mkr n).ok K
def fcSelf (n : Str) : Fc := fun K => PySem.W.selfFirst K (He.ga K n)
def fcInt (x : Str) (i : Int) : Fc := fun K => (He.Fa.int x i).ok K
abbrev five : List String := ["bool", "int", "str", "tuple", "list"]
abbrev IsT := List (Str × Bool)
abbrev TyT := List (String × Bool)
def lamDefs : List (He.Defn × Str) := [(("Table", some "in_the_way"), "Table.in_the_way.<locals>.<lambda>"), (("Table", some "locks"), "Table.locks.<locals>.<lambda>")]
def knownT (K : PySem.W.Frag) (p : He.Defn) : Bool := PySem.W.codeHdIn K (He.cT K p).1 (He.cT K p).2
def tabL (K : PySem.W.Frag) : List (Addr × Str) := (lamDefs.filter fun p => knownT K p.1).map fun p => ((He.cT K p.1).2, p.2)
def TabsE (K : PySem.W.Frag) (h : Heap) : Prop := (∀ p ∈ tabL K, h.get? p.1 = some { cls := .none, data := .fields #[] } ∧ K.lookup p.1 = none) ∧ ∀ p ∈ tabL K, ∀ q ∈ tabL K, p.1 = q.1 → p.2 = q.2
theorem TabsE.keeps {K : PySem.W.Frag} {h h' : Heap} (t : TabsE K h) (k : ∀ b o, h.get? b = some o → h'.get? b = some o) : TabsE K h' := ⟨fun p hp => ⟨k _ _ (t.1 p hp).1, (t.1 p hp).2⟩, t.2⟩
def tabsE (g : Addr → Option Obj) (K : PySem.W.Frag) : Bool := (tabL K).all (fun p => match g p.1 with
  | some o => He.emptyTab o
  | none => false) && (tabL K).all fun p => (tabL K).all fun q => decide (p.1 = q.1 → p.2 = q.2)
theorem tabsE_ok {g : Addr → Option Obj} {as : List Addr} {h : Heap} (e : g = h.get?) (t : tabsE g (He.frT g as) = true) : TabsE (He.frT g as) h := by
  unfold tabsE at t
  rw [Bool.and_eq_true] at t
  refine ⟨fun p hp => ?_, fun p hp q hq => of_decide_eq_true (List.all_eq_true.mp (List.all_eq_true.mp t.2 p hp) q hq)⟩
  have h1 := List.all_eq_true.mp t.1 p hp
  cases q : g p.1 with
  | none => rw [q] at h1; cases h1
  | some o =>
    rw [q] at h1
    refine ⟨?_, He.frT_none q h1⟩
    rw [← e, q, He.emptyTab_eq h1]
def obsFT (fs : List Fc) (fn : List He5.DefA) (g : Addr → Option Obj) (K : PySem.W.Frag) : He.AlD := ((obsF fs fn K).1 && tabsE g K, (obsF fs fn K).2)
end DL

namespace K71
open PySem PySem.Spec PyProof.Rows L2 DL
def top (i : Nat) : Stmt := PySem.Challenge.pw_byteholds_k71_whole_places.main.body.getD i (.Pass ⟨0, 0, 0, 0⟩)
abbrev s_is_integer : Stmt := top 6
abbrev s_need : Stmt := top 13
abbrev s_covers : Stmt := top 15
abbrev s_lesser_last : Stmt := top 18
abbrev s_greater_last : Stmt := top 19
abbrev s_first_of : Stmt := top 21
abbrev s_left_out : Stmt := top 23
abbrev s_bounds : Stmt := top 31
abbrev s_last_before : Stmt := top 32
abbrev s_Holding_stretches : Stmt := subSt (top 34) 2
abbrev s_Crowd_places : Stmt := subSt (top 43) 2
abbrev s_Crowd_next_call : Stmt := subSt (top 43) 3
abbrev s_law_bag : Stmt := top 45
abbrev s_law_take : Stmt := top 46
abbrev s_law_alike : Stmt := top 47
abbrev s_law_span : Stmt := top 49
abbrev s_law_places : Stmt := top 53
abbrev s_law_levels_at : Stmt := top 54
abbrev s_is_between : Stmt := top 7
abbrev s_is_byte : Stmt := top 8
abbrev s_meet : Stmt := top 20
abbrev s_merged : Stmt := top 22
abbrev s_level_in : Stmt := top 30
abbrev s_stretches_of : Stmt := top 33
abbrev s_law_cuts : Stmt := top 48
abbrev s_law_programs : Stmt := top 50
abbrev s_law_told_programs : Stmt := top 51
abbrev s_law_stretches : Stmt := top 52
abbrev s_law_ways : Stmt := top 55
abbrev s_span_fault : Stmt := top 9
abbrev s_is_level : Stmt := top 12
abbrev s_shared : Stmt := top 24
abbrev s_Holding_within : Stmt := subSt (top 34) 7
abbrev s_is_span : Stmt := top 10
abbrev s_Area_within : Stmt := subSt (top 26) 5
abbrev s_are_spans : Stmt := top 11
abbrev s_is_stretch : Stmt := top 28
abbrev s_is_plain_call : Stmt := top 40
abbrev s_Area___init__ : Stmt := subSt (top 26) 0
abbrev s_are_stretches : Stmt := top 29
abbrev s_is_program : Stmt := top 41
abbrev s_Holding___init__ : Stmt := subSt (top 34) 0
abbrev s_are_programs : Stmt := top 42
abbrev s_Area___invert__ : Stmt := subSt (top 26) 11
abbrev s_Crowd___init__ : Stmt := subSt (top 43) 0
abbrev s_Holding_painted : Stmt := subSt (top 34) 6
abbrev s_Holding___invert__ : Stmt := subSt (top 34) 11
abbrev s_span_holding : Stmt := top 36
abbrev s_Crowd_held : Stmt := subSt (top 43) 4
abbrev s_law_case : Stmt := top 56
abbrev s_Crowd_in_the_way : Stmt := subSt (top 43) 5
abbrev s_law_right : Stmt := top 57
abbrev s_law : Stmt := top 58
def dd_is_integer : He5.DefA := ⟨fun K => He.ga K "is_integer", "is_integer", "is_integer", defArgs s_is_integer, defBody s_is_integer, defScope s_is_integer, [], []⟩
def dd_need : He5.DefA := ⟨fun K => He.ga K "need", "need", "need", defArgs s_need, defBody s_need, defScope s_need, [], []⟩
def dd_covers : He5.DefA := ⟨fun K => He.ga K "covers", "covers", "covers", defArgs s_covers, defBody s_covers, defScope s_covers, [], []⟩
def dd_lesser_last : He5.DefA := ⟨fun K => He.ga K "lesser_last", "lesser_last", "lesser_last", defArgs s_lesser_last, defBody s_lesser_last, defScope s_lesser_last, [], []⟩
def dd_greater_last : He5.DefA := ⟨fun K => He.ga K "greater_last", "greater_last", "greater_last", defArgs s_greater_last, defBody s_greater_last, defScope s_greater_last, [], []⟩
def dd_first_of : He5.DefA := ⟨fun K => He.ga K "first_of", "first_of", "first_of", defArgs s_first_of, defBody s_first_of, defScope s_first_of, [], []⟩
def dd_left_out : He5.DefA := ⟨fun K => He.ga K "left_out", "left_out", "left_out", defArgs s_left_out, defBody s_left_out, defScope s_left_out, [], []⟩
def dd_bounds : He5.DefA := ⟨fun K => He.ga K "bounds", "bounds", "bounds", defArgs s_bounds, defBody s_bounds, defScope s_bounds, [], []⟩
def dd_last_before : He5.DefA := ⟨fun K => He.ga K "last_before", "last_before", "last_before", defArgs s_last_before, defBody s_last_before, defScope s_last_before, [], []⟩
def dd_Holding_stretches : He5.DefA := ⟨fun K => He.ma K (He.ga K "Holding") "stretches", "stretches", "Holding.stretches", defArgs s_Holding_stretches, defBody s_Holding_stretches, defScope s_Holding_stretches, [], []⟩
def dd_Crowd_places : He5.DefA := ⟨fun K => He.ma K (He.ga K "Crowd") "places", "places", "Crowd.places", defArgs s_Crowd_places, defBody s_Crowd_places, defScope s_Crowd_places, [], []⟩
def dd_Crowd_next_call : He5.DefA := ⟨fun K => He.ma K (He.ga K "Crowd") "next_call", "next_call", "Crowd.next_call", defArgs s_Crowd_next_call, defBody s_Crowd_next_call, defScope s_Crowd_next_call, [], []⟩
def dd_law_bag : He5.DefA := ⟨fun K => He.ga K "_law_bag", "_law_bag", "_law_bag", defArgs s_law_bag, defBody s_law_bag, defScope s_law_bag, [], []⟩
def dd_law_take : He5.DefA := ⟨fun K => He.ga K "_law_take", "_law_take", "_law_take", defArgs s_law_take, defBody s_law_take, defScope s_law_take, [], []⟩
def dd_law_alike : He5.DefA := ⟨fun K => He.ga K "_law_alike", "_law_alike", "_law_alike", defArgs s_law_alike, defBody s_law_alike, defScope s_law_alike, [], []⟩
def dd_law_span : He5.DefA := ⟨fun K => He.ga K "_law_span", "_law_span", "_law_span", defArgs s_law_span, defBody s_law_span, defScope s_law_span, [], []⟩
def dd_law_places : He5.DefA := ⟨fun K => He.ga K "_law_places", "_law_places", "_law_places", defArgs s_law_places, defBody s_law_places, defScope s_law_places, [], []⟩
def dd_law_levels_at : He5.DefA := ⟨fun K => He.ga K "_law_levels_at", "_law_levels_at", "_law_levels_at", defArgs s_law_levels_at, defBody s_law_levels_at, defScope s_law_levels_at, [], []⟩
def dd_is_between : He5.DefA := ⟨fun K => He.ga K "is_between", "is_between", "is_between", defArgs s_is_between, defBody s_is_between, defScope s_is_between, [], []⟩
def dd_is_byte : He5.DefA := ⟨fun K => He.ga K "is_byte", "is_byte", "is_byte", defArgs s_is_byte, defBody s_is_byte, defScope s_is_byte, [], []⟩
def dd_meet : He5.DefA := ⟨fun K => He.ga K "meet", "meet", "meet", defArgs s_meet, defBody s_meet, defScope s_meet, [], []⟩
def dd_merged : He5.DefA := ⟨fun K => He.ga K "merged", "merged", "merged", defArgs s_merged, defBody s_merged, defScope s_merged, [], []⟩
def dd_level_in : He5.DefA := ⟨fun K => He.ga K "level_in", "level_in", "level_in", defArgs s_level_in, defBody s_level_in, defScope s_level_in, [], []⟩
def dd_stretches_of : He5.DefA := ⟨fun K => He.ga K "stretches_of", "stretches_of", "stretches_of", defArgs s_stretches_of, defBody s_stretches_of, defScope s_stretches_of, [], []⟩
def dd_law_cuts : He5.DefA := ⟨fun K => He.ga K "_law_cuts", "_law_cuts", "_law_cuts", defArgs s_law_cuts, defBody s_law_cuts, defScope s_law_cuts, [], []⟩
def dd_law_programs : He5.DefA := ⟨fun K => He.ga K "_law_programs", "_law_programs", "_law_programs", defArgs s_law_programs, defBody s_law_programs, defScope s_law_programs, [], []⟩
def dd_law_told_programs : He5.DefA := ⟨fun K => He.ga K "_law_told_programs", "_law_told_programs", "_law_told_programs", defArgs s_law_told_programs, defBody s_law_told_programs, defScope s_law_told_programs, [], []⟩
def dd_law_stretches : He5.DefA := ⟨fun K => He.ga K "_law_stretches", "_law_stretches", "_law_stretches", defArgs s_law_stretches, defBody s_law_stretches, defScope s_law_stretches, [], []⟩
def dd_law_ways : He5.DefA := ⟨fun K => He.ga K "_law_ways", "_law_ways", "_law_ways", defArgs s_law_ways, defBody s_law_ways, defScope s_law_ways, [], []⟩
def dd_span_fault : He5.DefA := ⟨fun K => He.ga K "span_fault", "span_fault", "span_fault", defArgs s_span_fault, defBody s_span_fault, defScope s_span_fault, [], []⟩
def dd_is_level : He5.DefA := ⟨fun K => He.ga K "is_level", "is_level", "is_level", defArgs s_is_level, defBody s_is_level, defScope s_is_level, [], []⟩
def dd_shared : He5.DefA := ⟨fun K => He.ga K "shared", "shared", "shared", defArgs s_shared, defBody s_shared, defScope s_shared, [], []⟩
def dd_Holding_within : He5.DefA := ⟨fun K => He.ma K (He.ga K "Holding") "within", "within", "Holding.within", defArgs s_Holding_within, defBody s_Holding_within, defScope s_Holding_within, [], []⟩
def dd_is_span : He5.DefA := ⟨fun K => He.ga K "is_span", "is_span", "is_span", defArgs s_is_span, defBody s_is_span, defScope s_is_span, [], []⟩
def dd_Area_within : He5.DefA := ⟨fun K => He.ma K (He.ga K "Area") "within", "within", "Area.within", defArgs s_Area_within, defBody s_Area_within, defScope s_Area_within, [], []⟩
def dd_are_spans : He5.DefA := ⟨fun K => He.ga K "are_spans", "are_spans", "are_spans", defArgs s_are_spans, defBody s_are_spans, defScope s_are_spans, [], []⟩
def dd_is_stretch : He5.DefA := ⟨fun K => He.ga K "is_stretch", "is_stretch", "is_stretch", defArgs s_is_stretch, defBody s_is_stretch, defScope s_is_stretch, [], []⟩
def dd_is_plain_call : He5.DefA := ⟨fun K => He.ga K "is_plain_call", "is_plain_call", "is_plain_call", defArgs s_is_plain_call, defBody s_is_plain_call, defScope s_is_plain_call, [], []⟩
def dd_Area___init__ : He5.DefA := ⟨fun K => He.ma K (He.ga K "Area") "__init__", "__init__", "Area.__init__", defArgs s_Area___init__, defBody s_Area___init__, defScope s_Area___init__, [], []⟩
def dd_are_stretches : He5.DefA := ⟨fun K => He.ga K "are_stretches", "are_stretches", "are_stretches", defArgs s_are_stretches, defBody s_are_stretches, defScope s_are_stretches, [], []⟩
def dd_is_program : He5.DefA := ⟨fun K => He.ga K "is_program", "is_program", "is_program", defArgs s_is_program, defBody s_is_program, defScope s_is_program, [], []⟩
def dd_Holding___init__ : He5.DefA := ⟨fun K => He.ma K (He.ga K "Holding") "__init__", "__init__", "Holding.__init__", defArgs s_Holding___init__, defBody s_Holding___init__, defScope s_Holding___init__, [], []⟩
def dd_are_programs : He5.DefA := ⟨fun K => He.ga K "are_programs", "are_programs", "are_programs", defArgs s_are_programs, defBody s_are_programs, defScope s_are_programs, [], []⟩
def dd_Area___invert__ : He5.DefA := ⟨fun K => He.ma K (He.ga K "Area") "__invert__", "__invert__", "Area.__invert__", defArgs s_Area___invert__, defBody s_Area___invert__, defScope s_Area___invert__, [], []⟩
def dd_Crowd___init__ : He5.DefA := ⟨fun K => He.ma K (He.ga K "Crowd") "__init__", "__init__", "Crowd.__init__", defArgs s_Crowd___init__, defBody s_Crowd___init__, defScope s_Crowd___init__, [], []⟩
def dd_Holding_painted : He5.DefA := ⟨fun K => He.ma K (He.ga K "Holding") "painted", "painted", "Holding.painted", defArgs s_Holding_painted, defBody s_Holding_painted, defScope s_Holding_painted, [], []⟩
def dd_Holding___invert__ : He5.DefA := ⟨fun K => He.ma K (He.ga K "Holding") "__invert__", "__invert__", "Holding.__invert__", defArgs s_Holding___invert__, defBody s_Holding___invert__, defScope s_Holding___invert__, [], []⟩
def dd_span_holding : He5.DefA := ⟨fun K => He.ga K "span_holding", "span_holding", "span_holding", defArgs s_span_holding, defBody s_span_holding, defScope s_span_holding, [], []⟩
def dd_Crowd_held : He5.DefA := ⟨fun K => He.ma K (He.ga K "Crowd") "held", "held", "Crowd.held", defArgs s_Crowd_held, defBody s_Crowd_held, defScope s_Crowd_held, [], []⟩
def dd_law_case : He5.DefA := ⟨fun K => He.ga K "_law_case", "_law_case", "_law_case", defArgs s_law_case, defBody s_law_case, defScope s_law_case, [], []⟩
def dd_Crowd_in_the_way : He5.DefA := ⟨fun K => He.ma K (He.ga K "Crowd") "in_the_way", "in_the_way", "Crowd.in_the_way", defArgs s_Crowd_in_the_way, defBody s_Crowd_in_the_way, defScope s_Crowd_in_the_way, [], []⟩
def dd_law_right : He5.DefA := ⟨fun K => He.ga K "_law_right", "_law_right", "_law_right", defArgs s_law_right, defBody s_law_right, defScope s_law_right, [], []⟩
def dd_law : He5.DefA := ⟨fun K => He.ga K "law", "law", "law", defArgs s_law, defBody s_law, defScope s_law, [], []⟩
def fnl : List He5.DefA := [dd_is_integer, dd_need, dd_covers, dd_lesser_last, dd_greater_last, dd_first_of, dd_left_out, dd_bounds, dd_last_before, dd_Holding_stretches, dd_Crowd_places, dd_Crowd_next_call, dd_law_bag, dd_law_take, dd_law_alike, dd_law_span, dd_law_places, dd_law_levels_at, dd_is_between, dd_is_byte, dd_meet, dd_merged, dd_level_in, dd_stretches_of, dd_law_cuts, dd_law_programs, dd_law_told_programs, dd_law_stretches, dd_law_ways, dd_span_fault, dd_is_level, dd_shared, dd_Holding_within, dd_is_span, dd_Area_within, dd_are_spans, dd_is_stretch, dd_is_plain_call, dd_Area___init__, dd_are_stretches, dd_is_program, dd_Holding___init__, dd_are_programs, dd_Area___invert__, dd_Crowd___init__, dd_Holding_painted, dd_Holding___invert__, dd_span_holding, dd_Crowd_held, dd_law_case, dd_Crowd_in_the_way, dd_law_right, dd_law]
def fcl : List Fc := [fcFree "abs", fcFree "all", fcFree "any", fcFree "bool", fcFree "enumerate", fcFree "int", fcFree "isinstance", fcFree "len", fcFree "list", fcFree "max", fcFree "min", fcFree "range", fcFree "repr", fcFree "set", fcFree "sorted", fcFree "sum", fcFree "tuple", fcFree "zip", fcGlo "first_of", fcInt "MOST_CALLS" (6), fcInt "MOST_LEVEL" (2), fcInt "MOST_PROGRAMS" (4), fcCls "Holding", fcNo "Holding" "kept", fcCls "Area", fcNo "Area" "kept", fcCls "Crowd", fcNo "Crowd" "kept_programs", fcGlo "is_integer", fcGlo "need", fcGlo "covers", fcGlo "lesser_last", fcGlo "greater_last", fcGlo "left_out", fcGlo "bounds", fcGlo "last_before", fcMeth "Holding" "stretches", fcMeth "Crowd" "places", fcMeth "Crowd" "next_call", fcGlo "_law_bag", fcGlo "_law_take", fcGlo "_law_alike", fcGlo "_law_span", fcGlo "_law_places", fcGlo "_law_levels_at", fcGlo "is_between", fcGlo "is_byte", fcGlo "meet", fcGlo "merged", fcGlo "level_in", fcGlo "stretches_of", fcGlo "_law_cuts", fcGlo "_law_programs", fcGlo "_law_told_programs", fcGlo "_law_stretches", fcGlo "_law_ways", fcGlo "span_fault", fcGlo "is_level", fcGlo "shared", fcMeth "Holding" "within", fcGlo "is_span", fcMeth "Area" "within", fcGlo "are_spans", fcGlo "is_stretch", fcGlo "is_plain_call", fcMeth "Area" "__init__", fcGlo "are_stretches", fcGlo "is_program", fcMeth "Holding" "__init__", fcGlo "are_programs", fcGlo "Area", fcMk "Area", fcMeth "Area" "__invert__", fcMeth "Crowd" "__init__", fcGlo "Holding", fcMk "Holding", fcMeth "Holding" "painted", fcMeth "Holding" "__invert__", fcGlo "span_holding", fcMeth "Crowd" "held", fcGlo "Crowd", fcMk "Crowd", fcGlo "_law_case", fcSelf "Holding", fcSelf "Area", fcMeth "Crowd" "in_the_way", fcGlo "_law_right", fcGlo "law"]
abbrev RW : PySem.W.OpenRow := PySem.W.OpenLaw.row PySem.Challenge.rw_byteholds_k71_whole_places
def allA : List Addr := List.range 1000
def obsL (g : Addr → Option Obj) : He.AlD := obsFT fcl fnl g (He.frT g allA)
abbrev hkD : PySem.W.Hook where
  α := He.AlD
  obs := fun z => obsL z.heap.get?
  val := fun _ => He5.valA fnl
  says := fun _ hp => ∃ K : PySem.W.Frag, K.In hp ∧ SaysF fcl fnl K ∧ TabsE K hp
  of := fun _ z q => by
    have q : obsFT fcl fnl z.heap.get? (He.frT z.heap.get? allA) = He5.valA fnl := q
    have q1 : ((obsF fcl fnl (He.frT z.heap.get? allA)).1 && tabsE z.heap.get? (He.frT z.heap.get? allA)) = true := congrArg (·.1) q
    have q2 : (obsF fcl fnl (He.frT z.heap.get? allA)).2 = (He5.valA fnl).2 := congrArg (·.2) q
    rw [Bool.and_eq_true] at q1
    exact ⟨_, He.frT_in, Prod.ext q1.1 q2, tabsE_ok rfl q1.2⟩
  keeps := fun _ _ _ ⟨K, hK, c, t⟩ q => ⟨K, PySem.W.Frag.In.keeps hK q, c, t.keeps q⟩
def obD (s : PySem.W.SharedT) : He.AlD := obsL (HandSHeadRun.getT s)
theorem obD_eq (s : PySem.W.SharedT) : obD s = hkD.obs s.abs := by
  have e : HandSHeadRun.getT s = s.abs.heap.get? := funext (HandSHeadRun.getT_eq s)
  show obsL (HandSHeadRun.getT s) = obsL s.abs.heap.get?
  rw [e]
theorem ranD (w : World) : HandSHeadRun.RunEq RW (PySem.W.view RW.prog [58]) hkD obD 6000 ("_wall" :: "LockError" :: "Wrong" :: "MOST_LEVEL" :: "is_integer" :: "is_between" :: "is_byte" :: "span_fault" :: "is_span" :: "are_spans" :: "is_level" :: "need" :: "covers" :: "size" :: "size_spans" :: "lesser_last" :: "greater_last" :: "meet" :: "first_of" :: "merged" :: "left_out" :: "shared" :: "Area" :: "is_stretch" :: "are_stretches" :: "level_in" :: "bounds" :: "last_before" :: "stretches_of" :: "Holding" :: "span_holding" :: "MOST_PROGRAMS" :: "MOST_CALLS" :: "is_plain_call" :: "is_program" :: "are_programs" :: "Crowd" :: "_law_bag" :: "_law_take" :: "_law_alike" :: "_law_cuts" :: "_law_span" :: "_law_programs" :: "_law_told_programs" :: "_law_stretches" :: "_law_places" :: "_law_levels_at" :: "_law_ways" :: "_law_case" :: "_law_right" :: []) w := by
  intro os
  kernel_rfl
end K71

namespace DL
open PySem L2

inductive D where
  | non | bl (b : Bool) | int (i : Int) | str (x : Str) | ty (n : String) | ref (a : Addr)
  | tup (ds : List D) | lst (ds : List D) | scr (ds : List D) | ins (C : Str) (fs : List (Str × D)) | cls (n : Str) | dct (kvs : List (Key × D))
  | exn (a : Addr) (od : Option Addr) (C : Str) (fs : List (Str × D))
inductive SV where
  | fr (d : D) | cell (k : Nat)
inductive Cell where
  | lst (xs : List SV) | ins (C : Str) (fs : List (Str × SV)) | tup (xs : List SV) | dic (kvs : List (Key × SV)) | dit (kvs : List (List Key × SV)) | dil (kvs : List (List Key × SV)) | dkl (kvs : List (Key × SV)) | err (C : Str) | nd (kvs : List (List (List Int) × Bool))
abbrev Store := List Cell
abbrev Slots := List (Option SV)
structure Exc where
  cls : Str
  fs : List (Str × D)
inductive Res (α : Type) where
  | ok (a : α) | exc (e : Exc) (r : Slots) (s : Store) | stuck
def Res.bind {α β : Type} : Res α → (α → Res β) → Res β
  | .ok a, f => f a
  | .exc e r s, _ => .exc e r s
  | .stuck, _ => .stuck
def holds {α : Type} (r : Res α) (Q : α → Prop) (E : Exc → Slots → Store → Prop) : Prop := match r with
  | .ok a => Q a
  | .exc e r s => E e r s
  | .stuck => False
theorem holds_bind {α β : Type} {r : Res α} {f : α → Res β} {Q : β → Prop} {E : Exc → Slots → Store → Prop} (h : holds (r.bind f) Q E) : holds r (fun a => holds (f a) Q E) E := by
  cases r <;> exact h
theorem holds_imp {α : Type} {r : Res α} {Q Q' : α → Prop} {E E' : Exc → Slots → Store → Prop} (h : holds r Q E) (hq : ∀ a, Q a → Q' a) (he : ∀ e r s, E e r s → E' e r s) : holds r Q' E' := by
  cases r with
  | ok a => exact hq a h
  | exc e r s => exact he e r s h
  | stuck => exact h

def unT : Option HO → Option HO
  | some (.tbl _) => none
  | o => o
theorem unT_some {o : Option HO} {u : HO} (h : unT o = some u) : o = some u ∧ ∀ ps, u ≠ .tbl ps := by
  unfold unT at h
  split at h
  · cases h
  · rename_i o' hn
    subst h
    exact ⟨rfl, fun ps e => hn ps (by rw [e])⟩
theorem unT_of {u : HO} (h : ∀ ps, u ≠ .tbl ps) : unT (some u) = some u := by
  unfold unT
  split
  · rename_i ps e
    exact (h ps (Option.some.inj e)).elim
  · rfl
def hide (ph : List Addr) (H : Hp) : Hp := fun a => if a ∈ ph then none else unT (H a)
theorem hide_tb {ph : List Addr} {H : Hp} {a : Addr} {o : HO} (h : hide ph H a = some o) : (a ∉ ph ∧ H a = some o) ∧ ∀ ps, o ≠ .tbl ps := by
  unfold hide at h
  split at h
  · cases h
  · obtain ⟨h1, h2⟩ := unT_some h
    exact ⟨⟨by assumption, h1⟩, h2⟩
theorem hide_some {ph : List Addr} {H : Hp} {a : Addr} {o : HO} (h : hide ph H a = some o) : a ∉ ph ∧ H a = some o := (hide_tb h).1
theorem hide_of {ph : List Addr} {H : Hp} {a : Addr} {o : HO} (h1 : a ∉ ph) (h : H a = some o) (hn : ∀ ps, o ≠ .tbl ps := by intro _ z; cases z) : hide ph H a = some o := by
  unfold hide
  rw [if_neg h1, h]; exact unT_of hn
def TbOk (K : PySem.W.Frag) (H : Hp) : Prop := LamX.Tabs (tabL K) H ∧ ∀ p ∈ tabL K, ∀ q ∈ tabL K, p.1 = q.1 → p.2 = q.2
theorem TbOk.ext {K : PySem.W.Frag} {H H' : Hp} (t : TbOk K H) (e : ∀ b o, H b = some o → H' b = some o) : TbOk K H' := ⟨t.1.ext e, t.2⟩
theorem TbOk.wr {K : PySem.W.Frag} {H : Hp} {p : Addr} {o u : HO} (t : TbOk K H) (h : H p = some u) (h1 : ∀ ps, u ≠ .tbl ps) (h2 : ∀ q, u ≠ LamX.CodeO p q) : TbOk K (upd H p o) := by
  refine ⟨fun q hq => ?_, t.2⟩
  obtain ⟨ps, e1, e2, e3⟩ := t.1 q hq
  refine ⟨ps, ?_, e2, fun pos cv hc => ?_⟩
  · rw [upd_ne (fun e : q.1 = p => h1 ps (by rw [e, h] at e1; exact Option.some.inj e1))]; exact e1
  · obtain ⟨c, e4, e5⟩ := e3 pos cv hc
    refine ⟨c, e4, ?_⟩
    rw [upd_ne (fun e : c = p => by subst e; exact h2 q.2 (Option.some.inj (h.symm.trans e5)))]; exact e5

mutual
inductive Den (K : PySem.W.Frag) (F : Hp) : V → D → Prop
  | non : Den K F .non .non
  | bl (b : Bool) : Den K F (.bl b) (.bl b)
  | int (i : Int) : Den K F (.int i) (.int i)
  | str (x : Str) : Den K F (.str x) (.str x)
  | ty (n : String) : Den K F (.ty n) (.ty n)
  | ref (a : Addr) : Den K F (.ref a) (.ref a)
  | cls (n : Str) : Den K F (.ref (He.ga K n)) (.cls n)
  | tup {a : Addr} {vs : List V} {ds : List D} : F a = some (.tup vs) → Dens K F vs ds → Den K F (.ref a) (.tup ds)
  | lst {a : Addr} {vs : List V} {ds : List D} : F a = some (.lst vs) → Dens K F vs ds → Den K F (.ref a) (.lst ds)
  | scr {a : Addr} {vs : List V} {ds : List D} : SqL K F a vs → Dens K F vs ds → Den K F (.ref a) (.scr ds)
  | ins {a dx : Addr} {C : Str} {vs : List (Str × V)} {fs : List (Str × D)} : F a = some (.ins (He.ga K C) dx vs) → DenF K F vs fs → Den K F (.ref a) (.ins C fs)
  | dct {a : Addr} {vs : List (Key × V)} {ds : List (Key × D)} : F a = some (.dK vs) → DenK K F vs ds → Den K F (.ref a) (.dct ds)
  | exn0 (a : Addr) (C : Str) : Den K F (.ref a) (.exn a none C [])
  | exn {a d : Addr} {C : Str} {vs : List (Str × V)} {fs : List (Str × D)} : F d = some (.xd vs) → DenF K F vs fs → Den K F (.ref a) (.exn a (some d) C fs)
inductive Dens (K : PySem.W.Frag) (F : Hp) : List V → List D → Prop
  | nil : Dens K F [] []
  | cons {v : V} {vs : List V} {d : D} {ds : List D} : Den K F v d → Dens K F vs ds → Dens K F (v :: vs) (d :: ds)
inductive DenF (K : PySem.W.Frag) (F : Hp) : List (Str × V) → List (Str × D) → Prop
  | nil : DenF K F [] []
  | cons {x : Str} {v : V} {vs : List (Str × V)} {d : D} {ds : List (Str × D)} : Den K F v d → DenF K F vs ds → DenF K F ((x, v) :: vs) ((x, d) :: ds)
inductive DenK (K : PySem.W.Frag) (F : Hp) : List (Key × V) → List (Key × D) → Prop
  | nil : DenK K F [] []
  | cons {x : Key} {v : V} {vs : List (Key × V)} {d : D} {ds : List (Key × D)} : Den K F v d → DenK K F vs ds → DenK K F ((x, v) :: vs) ((x, d) :: ds)
end
def Sub (F F' : Hp) : Prop := ∀ a o, F a = some o → F' a = some o
section
variable {K : PySem.W.Frag} {F F' : Hp}
theorem Sub.rd (h : Sub F F') {a : Addr} {u : HO} (r : Rd F a u) : Rd F' a u := by
  rcases r with r | ⟨o, r⟩
  · exact .inl (h _ _ r)
  · exact .inr ⟨o, h _ _ r⟩
theorem Sub.sqL (h : Sub F F') {a : Addr} {xs : List V} (r : SqL K F a xs) : SqL K F' a xs := r.imp h.rd id
theorem Sub.sqT (h : Sub F F') {a : Addr} {xs : List V} (r : SqT K F a xs) : SqT K F' a xs := r.imp h.rd id
mutual
theorem Den.mono (h : Sub F F') : ∀ {v : V} {d : D}, Den K F v d → Den K F' v d
  | _, _, .non => .non
  | _, _, .bl b => .bl b
  | _, _, .int b => .int b
  | _, _, .str b => .str b
  | _, _, .ty b => .ty b
  | _, _, .ref b => .ref b
  | _, _, .cls b => .cls b
  | _, _, .tup s r => .tup (h _ _ s) (Dens.mono h r)
  | _, _, .lst s r => .lst (h _ _ s) (Dens.mono h r)
  | _, _, .scr s r => .scr (h.sqL s) (Dens.mono h r)
  | _, _, .ins s r => .ins (h _ _ s) (DenF.mono h r)
  | _, _, .dct s r => .dct (h _ _ s) (DenK.mono h r)
  | _, _, .exn0 a C => .exn0 a C
  | _, _, .exn s r => .exn (h _ _ s) (DenF.mono h r)
theorem Dens.mono (h : Sub F F') : ∀ {vs : List V} {ds : List D}, Dens K F vs ds → Dens K F' vs ds
  | _, _, .nil => .nil
  | _, _, .cons a r => .cons (Den.mono h a) (Dens.mono h r)
theorem DenF.mono (h : Sub F F') : ∀ {vs : List (Str × V)} {ds : List (Str × D)}, DenF K F vs ds → DenF K F' vs ds
  | _, _, .nil => .nil
  | _, _, .cons a r => .cons (Den.mono h a) (DenF.mono h r)
theorem DenK.mono (h : Sub F F') : ∀ {vs : List (Key × V)} {ds : List (Key × D)}, DenK K F vs ds → DenK K F' vs ds
  | _, _, .nil => .nil
  | _, _, .cons a r => .cons (Den.mono h a) (DenK.mono h r)
end
theorem Dens.len : ∀ {vs : List V} {ds : List D}, Dens K F vs ds → vs.length = ds.length
  | _, _, .nil => rfl
  | _, _, .cons _ r => by simp [Dens.len r]
theorem Dens.get : ∀ {vs : List V} {ds : List D} {i : Nat} {d : D}, Dens K F vs ds → ds[i]? = some d → ∃ v, vs[i]? = some v ∧ Den K F v d
  | _, _, _, _, .nil, e => by simp at e
  | _, _, 0, _, .cons a r, e => by simp at e; subst e; exact ⟨_, rfl, a⟩
  | _, _, i + 1, _, .cons a r, e => by
    obtain ⟨v, h1, h2⟩ := Dens.get (i := i) r (by simpa using e)
    exact ⟨v, by simpa using h1, h2⟩
theorem Dens.app : ∀ {vs ws : List V} {ds es : List D}, Dens K F vs ds → Dens K F ws es → Dens K F (vs ++ ws) (ds ++ es)
  | _, _, _, _, .nil, s => s
  | _, _, _, _, .cons a r, s => .cons a (Dens.app r s)
theorem Dens.take : ∀ {vs : List V} {ds : List D} (n : Nat), Dens K F vs ds → Dens K F (vs.take n) (ds.take n)
  | _, _, 0, _ => .nil
  | _, _, _ + 1, .nil => .nil
  | _, _, n + 1, .cons a r => .cons a (Dens.take n r)
theorem Dens.drop : ∀ {vs : List V} {ds : List D} (n : Nat), Dens K F vs ds → Dens K F (vs.drop n) (ds.drop n)
  | _, _, 0, r => r
  | _, _, _ + 1, .nil => .nil
  | _, _, n + 1, .cons _ r => Dens.drop n r
theorem Dens.of_ints : ∀ (ns : List Int), Dens K F (ns.map V.int) (ns.map D.int)
  | [] => .nil
  | n :: ns => .cons (.int n) (Dens.of_ints ns)
theorem DenF.look {f : Str} : ∀ {vs : List (Str × V)} {ds : List (Str × D)} {d : D}, DenF K F vs ds → ds.lookup f = some d → ∃ v, vs.lookup f = some v ∧ Den K F v d
  | _, _, _, .nil, e => by simp at e
  | _, _, _, .cons (x := x) a r, e => by
    rw [List.lookup_cons] at e ⊢
    cases q : f == x with
    | true => rw [q] at e; simp at e; subst e; exact ⟨_, rfl, a⟩
    | false => rw [q] at e; exact DenF.look r e
end

def DenS (K : PySem.W.Frag) (ph : List Addr) (H : Hp) (v : V) : SV → Prop
  | .fr d => Den K (hide ph H) v d
  | .cell k => ∃ p, ph[k]? = some p ∧ v = .ref p
abbrev DenSs (K : PySem.W.Frag) (ph : List Addr) (H : Hp) : List V → List SV → Prop := Paired (DenS K ph H)
abbrev DenSF (K : PySem.W.Frag) (ph : List Addr) (H : Hp) : List (Str × V) → List (Str × SV) → Prop := Paired fun p q => p.1 = q.1 ∧ DenS K ph H p.2 q.2
abbrev DenSK {κ : Type} (K : PySem.W.Frag) (ph : List Addr) (H : Hp) : List (κ × V) → List (κ × SV) → Prop := Paired fun p q => p.1 = q.1 ∧ DenS K ph H p.2 q.2
abbrev NK := List (List Int)
def nkN (k : NK) : NestedKey := .tup (k.map fun l => .tup (l.map .num))
def nkD (k : NK) : D := .tup (k.map fun l => .tup (l.map .int))
def nkHash (k : NK) : Int := reduceHash (Builtin.Tuple.tupleHashOf (k.map fun l => reduceHash (Builtin.Tuple.tupleHashOf (l.map hashInt))))
def nent (x : NK × Addr × Bool) : DictEntry := ⟨nkHash x.1, .ref x.2.1, .bool x.2.2⟩
def NdR (p : Addr) (xs : List (NK × Addr × Bool)) (h : Heap) : Prop := (p == sysModules) = false ∧ xs.length ≤ sizeLine ∧ (xs.map (·.1)).Nodup ∧ ∃ o es ep, h.get? p = some o ∧ o.ExactDict ∧ o.data = .dict es ep ∧ es.toList = xs.map nent
def NdO (p : Addr) (xs : List (NK × Addr × Bool)) : HO := .ext (NdR p xs)
def NdP (K : PySem.W.Frag) (F : Hp) (kv : NK × Bool) (x : NK × Addr × Bool) : Prop := x.1 = kv.1 ∧ x.2.2 = kv.2 ∧ Den K F (.ref x.2.1) (nkD kv.1)
theorem ndO_code {p : Addr} {xs : List (NK × Addr × Bool)} {q : Str} : NdO p xs ≠ LamX.CodeO p q := fun z => by
  unfold NdO LamX.CodeO at z
  have g := congrFun (HO.ext.inj z) ⟨Array.replicate (p + 1) ({ cls := .none, data := .fields #[.none, .str q default] } : Obj), {}⟩
  have k : (⟨Array.replicate (p + 1) ({ cls := .none, data := .fields #[.none, .str q default] } : Obj), {}⟩ : Heap).get? p = some ({ cls := .none, data := .fields #[.none, .str q default] } : Obj) := by
    unfold Heap.get?
    simp
  obtain ⟨_, _, _, o, es, ep, h1, _, h2, _⟩ := g.mpr ⟨_, _, _, k, rfl, rfl⟩
  rw [k] at h1
  cases h1
  cases h2
def CellAt (K : PySem.W.Frag) (ph : List Addr) (H : Hp) (p : Addr) : Cell → Prop
  | .lst xs => ∃ vs, H p = some (.lst vs) ∧ DenSs K ph H vs xs
  | .ins C fs => ∃ dx vs, H p = some (.ins (He.ga K C) dx vs) ∧ DenSF K ph H vs fs
  | .tup xs => ∃ vs, H p = some (.tup vs) ∧ DenSs K ph H vs xs
  | .dic kvs => ∃ vs, H p = some (.dK vs) ∧ DenSK K ph H vs kvs
  | .dit kvs => ∃ vs, H p = some (.dT vs) ∧ DenSK K ph H vs kvs
  | .dil kvs => ∃ od vs, H p = some (.frz od (.dT vs)) ∧ DenSK K ph H vs kvs
  | .dkl kvs => ∃ od vs, H p = some (.frz od (.dK vs)) ∧ DenSK K ph H vs kvs
  | .err C => ∃ dx fs, H p = some (exo p (He.ga K C) (some dx)) ∧ hide ph H dx = some (exd dx fs)
  | .nd kvs => ∃ xs, H p = some (NdO p xs) ∧ Paired (NdP K (hide ph H)) kvs xs
theorem exo_code {p C : Addr} {d : Option Addr} {q : Str} : exo p C d ≠ LamX.CodeO p q := fun z => by
  unfold exo LamX.CodeO at z
  have f := HO.ext.inj z
  have g := congrFun f ⟨Array.replicate (p + 1) ({ cls := .ref C, dict := d, data := .fields #[.ref 0, .none, .none, .none, .bool false, .none] } : Obj), {}⟩
  have k : (⟨Array.replicate (p + 1) ({ cls := .ref C, dict := d, data := .fields #[.ref 0, .none, .none, .none, .bool false, .none] } : Obj), {}⟩ : Heap).get? p = some ({ cls := .ref C, dict := d, data := .fields #[.ref 0, .none, .none, .none, .bool false, .none] } : Obj) := by
    unfold Heap.get?
    simp
  obtain ⟨oc, vs, t, h1, h2, h3⟩ := g.mp ⟨0, k⟩
  rw [k] at h1
  cases h1
  cases h2
  cases h3
structure Good (K : PySem.W.Frag) (ph : List Addr) (H : Hp) (S : Store) : Prop where
  nd : ph.Nodup
  cells : Paired (CellAt K ph H) ph S
  tb : TbOk K H
structure Ext (ph : List Addr) (H : Hp) (ph' : List Addr) (H' : Hp) : Prop where
  pre : ∃ ps, ph' = ph ++ ps ∧ ∀ p ∈ ps, H p = none
  keep : ∀ a o, H a = some o → a ∉ ph → (∀ ps, o ≠ .tbl ps) → H' a = some o
  trk : ∀ a, H' a = none → H a = none
  frz : ∀ a od u, H a = some (.frz od u) → H' a = some (.frz od u)
theorem Ext.refl (ph : List Addr) (H : Hp) : Ext ph H ph H := ⟨⟨[], by simp, by simp⟩, fun _ _ h _ _ => h, fun _ h => h, fun _ _ _ h => h⟩
theorem Ext.trans {p1 p2 p3 : List Addr} {H1 H2 H3 : Hp} (a : Ext p1 H1 p2 H2) (b : Ext p2 H2 p3 H3) : Ext p1 H1 p3 H3 := by
  obtain ⟨x, rfl, hx⟩ := a.pre
  obtain ⟨y, rfl, hy⟩ := b.pre
  refine ⟨⟨x ++ y, by simp, fun p hp => ?_⟩, fun c o h n m => b.keep c o (a.keep c o h n m) ?_ m, fun c h => a.trk c (b.trk c h), fun c od u h => b.frz c od u (a.frz c od u h)⟩
  · rcases List.mem_append.mp hp with h | h
    · exact hx p h
    · exact a.trk p (hy p h)
  · intro hc
    rcases List.mem_append.mp hc with h' | h'
    · exact n h'
    · have := hx c h'; rw [h] at this; cases this
theorem Ext.sub {ph ph' : List Addr} {H H' : Hp} (e : Ext ph H ph' H') : Sub (hide ph H) (hide ph' H') := fun a o h => by
  obtain ⟨⟨h1, h2⟩, h3⟩ := hide_tb h
  obtain ⟨ps, rfl, hps⟩ := e.pre
  refine hide_of (fun hm => ?_) (e.keep a o h2 h1 h3) h3
  rcases List.mem_append.mp hm with q | q
  · exact h1 q
  · have := hps a q; rw [h2] at this; cases this
section
variable {K : PySem.W.Frag} {ph ph' : List Addr} {H H' : Hp} {S : Store}
theorem DenS.mono (e : Ext ph H ph' H') {v : V} {x : SV} (h : DenS K ph H v x) : DenS K ph' H' v x := by
  cases x with
  | fr d => exact Den.mono e.sub h
  | cell k =>
    obtain ⟨p, h1, h2⟩ := h
    obtain ⟨ps, rfl, _⟩ := e.pre
    refine ⟨p, ?_, h2⟩
    rw [List.getElem?_append_left (List.getElem?_eq_some_iff.mp h1).1]; exact h1
theorem DenSs.mono (e : Ext ph H ph' H') {vs : List V} {xs : List SV} (h : DenSs K ph H vs xs) : DenSs K ph' H' vs xs := Paired.mapP h fun _ _ => DenS.mono e
theorem DenSF.mono (e : Ext ph H ph' H') {vs : List (Str × V)} {xs : List (Str × SV)} (h : DenSF K ph H vs xs) : DenSF K ph' H' vs xs := Paired.mapP h fun _ _ q => ⟨q.1, q.2.mono e⟩
theorem DenSK.mono {κ : Type} (e : Ext ph H ph' H') {vs : List (κ × V)} {xs : List (κ × SV)} (h : DenSK K ph H vs xs) : DenSK K ph' H' vs xs := Paired.mapP h fun _ _ q => ⟨q.1, q.2.mono e⟩
theorem paired_imp {α β : Type} {P Q : α → β → Prop} : ∀ {l : List α} {m : List β}, Paired P l m → (∀ a b, a ∈ l → P a b → Q a b) → Paired Q l m
  | _, _, .nil, _ => .nil
  | _, _, .cons h t, f => .cons (f _ _ List.mem_cons_self h) (paired_imp t fun a b m => f a b (List.mem_cons_of_mem _ m))
theorem paired_get {α β : Type} {P : α → β → Prop} : ∀ {l : List α} {m : List β} {k : Nat} {b : β}, Paired P l m → m[k]? = some b → ∃ a, l[k]? = some a ∧ P a b
  | _, _, _, _, .nil, e => by simp at e
  | _, _, 0, _, .cons h t, e => by simp at e; subst e; exact ⟨_, rfl, h⟩
  | _, _, k + 1, _, .cons h t, e => by
    obtain ⟨v, h1, h2⟩ := paired_get (k := k) t (by simpa using e)
    exact ⟨v, by simpa using h1, h2⟩
theorem paired_set {α β : Type} {P Q : α → β → Prop} {y : β} : ∀ {l : List α} {m : List β} {k : Nat} {x : α}, Paired P l m → l[k]? = some x → (∀ j a b, j ≠ k → l[j]? = some a → P a b → Q a b) → Q x y → Paired Q l (m.set k y)
  | _, _, _, _, .nil, e, _, _ => by simp at e
  | _, _, 0, _, .cons h t, e, f, q => by
    simp at e; subst e
    refine .cons q (paired_imp t fun a b m hp => ?_)
    obtain ⟨j, hj, ej⟩ := List.getElem_of_mem m
    exact f (j + 1) a b (by omega) (by simp [List.getElem?_eq_getElem hj, ej]) hp
  | _, _, k + 1, x, .cons h t, e, f, q => .cons (f 0 _ _ (by omega) (by simp) h) (paired_set (k := k) (x := x) t (by simpa using e) (fun j a b hj ha hp => f (j + 1) a b (by omega) (by simpa using ha) hp) q)
theorem CellAt.mono (e : Ext ph H ph' H') {p : Addr} {c : Cell} (hp : ∀ o, H p = some o → H' p = some o) (h : CellAt K ph H p c) : CellAt K ph' H' p c := by
  cases c with
  | lst xs => obtain ⟨vs, h1, h2⟩ := h; exact ⟨vs, hp _ h1, h2.mono e⟩
  | ins C fs => obtain ⟨dx, vs, h1, h2⟩ := h; exact ⟨dx, vs, hp _ h1, h2.mono e⟩
  | tup xs => obtain ⟨vs, h1, h2⟩ := h; exact ⟨vs, hp _ h1, h2.mono e⟩
  | dic kvs => obtain ⟨vs, h1, h2⟩ := h; exact ⟨vs, hp _ h1, DenSK.mono e h2⟩
  | dit kvs => obtain ⟨vs, h1, h2⟩ := h; exact ⟨vs, hp _ h1, DenSK.mono e h2⟩
  | dil kvs => obtain ⟨od, vs, h1, h2⟩ := h; exact ⟨od, vs, hp _ h1, DenSK.mono e h2⟩
  | dkl kvs => obtain ⟨od, vs, h1, h2⟩ := h; exact ⟨od, vs, hp _ h1, DenSK.mono e h2⟩
  | err C => obtain ⟨dx, fs, h1, h2⟩ := h; exact ⟨dx, fs, hp _ h1, e.sub _ _ h2⟩
  | nd kvs => obtain ⟨xs, h1, h2⟩ := h; exact ⟨xs, hp _ h1, Paired.mapP h2 fun _ _ q => ⟨q.1, q.2.1, Den.mono e.sub q.2.2⟩⟩
theorem CellAt.there {p : Addr} {c : Cell} (h : CellAt K ph H p c) : ∃ o, H p = some o := by
  cases c with
  | lst xs => obtain ⟨vs, h1, _⟩ := h; exact ⟨_, h1⟩
  | ins C fs => obtain ⟨dx, vs, h1, _⟩ := h; exact ⟨_, h1⟩
  | tup xs => obtain ⟨vs, h1, _⟩ := h; exact ⟨_, h1⟩
  | dic kvs => obtain ⟨vs, h1, _⟩ := h; exact ⟨_, h1⟩
  | dit kvs => obtain ⟨vs, h1, _⟩ := h; exact ⟨_, h1⟩
  | dil kvs => obtain ⟨od, vs, h1, _⟩ := h; exact ⟨_, h1⟩
  | dkl kvs => obtain ⟨od, vs, h1, _⟩ := h; exact ⟨_, h1⟩
  | err C => obtain ⟨dx, fs, h1, _⟩ := h; exact ⟨_, h1⟩
  | nd kvs => obtain ⟨xs, h1, _⟩ := h; exact ⟨_, h1⟩
theorem CellAt.thereN {p : Addr} {c : Cell} (h : CellAt K ph H p c) : ∃ o, H p = some o ∧ (∀ ps, o ≠ .tbl ps) ∧ ∀ q, o ≠ LamX.CodeO p q := by
  cases c with
  | lst xs => obtain ⟨vs, h1, _⟩ := h; exact ⟨_, h1, fun _ z => (nomatch z), fun _ z => (by unfold LamX.CodeO at z; nomatch z)⟩
  | ins C fs => obtain ⟨dx, vs, h1, _⟩ := h; exact ⟨_, h1, fun _ z => (nomatch z), fun _ z => (by unfold LamX.CodeO at z; nomatch z)⟩
  | tup xs => obtain ⟨vs, h1, _⟩ := h; exact ⟨_, h1, fun _ z => (nomatch z), fun _ z => (by unfold LamX.CodeO at z; nomatch z)⟩
  | dic kvs => obtain ⟨vs, h1, _⟩ := h; exact ⟨_, h1, fun _ z => (nomatch z), fun _ z => (by unfold LamX.CodeO at z; nomatch z)⟩
  | dit kvs => obtain ⟨vs, h1, _⟩ := h; exact ⟨_, h1, fun _ z => (nomatch z), fun _ z => (by unfold LamX.CodeO at z; nomatch z)⟩
  | dil kvs => obtain ⟨od, vs, h1, _⟩ := h; exact ⟨_, h1, fun _ z => (nomatch z), fun _ z => (by unfold LamX.CodeO at z; nomatch z)⟩
  | dkl kvs => obtain ⟨od, vs, h1, _⟩ := h; exact ⟨_, h1, fun _ z => (nomatch z), fun _ z => (by unfold LamX.CodeO at z; nomatch z)⟩
  | err C => obtain ⟨dx, fs, h1, _⟩ := h; exact ⟨_, h1, fun _ z => exo_tbl z, fun _ z => exo_code z⟩
  | nd kvs => obtain ⟨xs, h1, _⟩ := h; exact ⟨_, h1, fun _ z => (by unfold NdO at z; nomatch z), fun _ z => ndO_code z⟩
theorem Good.len (g : Good K ph H S) : ph.length = S.length := g.cells.length
theorem Good.at (g : Good K ph H S) {k : Nat} {c : Cell} (h : S[k]? = some c) : ∃ p, ph[k]? = some p ∧ CellAt K ph H p c := paired_get g.cells h
theorem Good.there (g : Good K ph H S) {p : Addr} (h : p ∈ ph) : ∃ o, H p = some o := by
  obtain ⟨k, hk, e⟩ := List.getElem_of_mem h
  have hk' : k < S.length := by rw [← g.len]; exact hk
  obtain ⟨q, h1, h2⟩ := g.at (List.getElem?_eq_getElem hk')
  rw [List.getElem?_eq_getElem hk] at h1
  cases h1
  rw [e] at h2
  exact h2.there
theorem Good.new (g : Good K ph H S) {p : Addr} (h : H p = none) : p ∉ ph := fun m => by
  obtain ⟨o, e⟩ := g.there m
  rw [h] at e; cases e
theorem Ext.fresh {p : Addr} {o : HO} (h : H p = none) : Ext ph H ph (upd H p o) :=
  ⟨⟨[], by simp, by simp⟩, fun a u e _ _ => by rw [upd_ne (ne_of_none e h)]; exact e, fun a e => by
    by_cases q : a = p
    · rw [q]; exact h
    · rw [upd_ne q] at e; exact e, fun a od u e => by rw [upd_ne (ne_of_none e h)]; exact e⟩
theorem Good.fresh (g : Good K ph H S) {p : Addr} {o : HO} (h : H p = none) : Good K ph (upd H p o) S :=
  ⟨g.nd, paired_imp g.cells fun a c _ hc => hc.mono (Ext.fresh h) fun u e => by rw [upd_ne (ne_of_none e h)]; exact e, g.tb.ext fun b u e => by rw [upd_ne (ne_of_none e h)]; exact e⟩
theorem Ext.cell {p : Addr} {o : HO} (h : H p = none) : Ext ph H (ph ++ [p]) (upd H p o) :=
  ⟨⟨[p], rfl, fun q hq => by rw [List.mem_singleton.mp hq]; exact h⟩, (Ext.fresh (ph := ph) h).keep, (Ext.fresh (ph := ph) h).trk, (Ext.fresh (ph := ph) h).frz⟩
theorem paired_snoc {α β : Type} {P : α → β → Prop} {a : α} {b : β} {l : List α} {m : List β} (h : Paired P l m) (q : P a b) : Paired P (l ++ [a]) (m ++ [b]) := Paired.snoc h q
theorem Good.cell (g : Good K ph H S) {p : Addr} {o : HO} {c : Cell} (h : H p = none) (hc : CellAt K (ph ++ [p]) (upd H p o) p c) : Good K (ph ++ [p]) (upd H p o) (S ++ [c]) := by
  refine ⟨List.nodup_append.mpr ⟨g.nd, by simp, fun a ha b hb e => ?_⟩, paired_snoc (paired_imp g.cells fun a u _ hu => hu.mono (Ext.cell h) fun w e => by rw [upd_ne (ne_of_none e h)]; exact e) hc, g.tb.ext fun b u e => by rw [upd_ne (ne_of_none e h)]; exact e⟩
  have := List.mem_singleton.mp hb
  subst this; subst e
  exact g.new h ha
theorem hide_upd {p : Addr} {o : HO} (h : p ∈ ph) : hide ph (upd H p o) = hide ph H := by
  funext a
  unfold hide
  by_cases q : a ∈ ph
  · rw [if_pos q, if_pos q]
  · rw [if_neg q, if_neg q, upd_ne (fun e : a = p => q (e ▸ h))]
theorem Ext.write {p : Addr} {o : HO} (h : p ∈ ph) (hf : ∀ od u, H p ≠ some (.frz od u)) : Ext ph H ph (upd H p o) :=
  ⟨⟨[], by simp, by simp⟩, fun a u e n _ => by rw [upd_ne (fun q : a = p => n (q ▸ h))]; exact e, fun a e => by
    by_cases q : a = p
    · rw [q, upd_same] at e; cases e
    · rw [upd_ne q] at e; exact e, fun a od u e => by
    by_cases q : a = p
    · exact (hf od u (q ▸ e)).elim
    · rw [upd_ne q]; exact e⟩
theorem nofrz {p : Addr} {o : HO} (e : H p = some o) (h : ∀ od u, o ≠ .frz od u) : ∀ od u, H p ≠ some (.frz od u) := fun od u z => by
  rw [e] at z; cases z; exact h _ _ rfl
theorem DenS.writ {p : Addr} {o : HO} (h : p ∈ ph) {v : V} {x : SV} (d : DenS K ph H v x) : DenS K ph (upd H p o) v x := by
  cases x with
  | fr d' => show Den K (hide ph (upd H p o)) v d'; rw [hide_upd h]; exact d
  | cell k => exact d
theorem DenSK.writ {κ : Type} {p : Addr} {o : HO} (h : p ∈ ph) {vs : List (κ × V)} {xs : List (κ × SV)} (d : DenSK K ph H vs xs) : DenSK K ph (upd H p o) vs xs := Paired.mapP d fun _ _ q => ⟨q.1, q.2.writ h⟩
theorem CellAt.writ {p q : Addr} {o : HO} (h : p ∈ ph) (hq : q ≠ p) {c : Cell} (d : CellAt K ph H q c) : CellAt K ph (upd H p o) q c := by
  cases c with
  | lst xs => obtain ⟨vs, h1, h2⟩ := d; exact ⟨vs, by rw [upd_ne hq]; exact h1, Paired.mapP h2 fun _ _ => DenS.writ h⟩
  | ins C fs => obtain ⟨dx, vs, h1, h2⟩ := d; exact ⟨dx, vs, by rw [upd_ne hq]; exact h1, Paired.mapP h2 fun _ _ q => ⟨q.1, q.2.writ h⟩⟩
  | tup xs => obtain ⟨vs, h1, h2⟩ := d; exact ⟨vs, by rw [upd_ne hq]; exact h1, Paired.mapP h2 fun _ _ => DenS.writ h⟩
  | dic kvs => obtain ⟨vs, h1, h2⟩ := d; exact ⟨vs, by rw [upd_ne hq]; exact h1, DenSK.writ h h2⟩
  | dit kvs => obtain ⟨vs, h1, h2⟩ := d; exact ⟨vs, by rw [upd_ne hq]; exact h1, DenSK.writ h h2⟩
  | dil kvs => obtain ⟨od, vs, h1, h2⟩ := d; exact ⟨od, vs, by rw [upd_ne hq]; exact h1, DenSK.writ h h2⟩
  | dkl kvs => obtain ⟨od, vs, h1, h2⟩ := d; exact ⟨od, vs, by rw [upd_ne hq]; exact h1, DenSK.writ h h2⟩
  | err C => obtain ⟨dx, fs, h1, h2⟩ := d; exact ⟨dx, fs, by rw [upd_ne hq]; exact h1, by rw [hide_upd h]; exact h2⟩
  | nd kvs => obtain ⟨xs, h1, h2⟩ := d; exact ⟨xs, by rw [upd_ne hq]; exact h1, by rw [hide_upd h]; exact h2⟩
theorem nodup_at {l : List Addr} (n : l.Nodup) {i j : Nat} {a : Addr} (h1 : l[i]? = some a) (h2 : l[j]? = some a) : i = j := by
  obtain ⟨k1, e1⟩ := List.getElem?_eq_some_iff.mp h1
  obtain ⟨k2, e2⟩ := List.getElem?_eq_some_iff.mp h2
  exact (List.getElem_inj n).mp (e1.trans e2.symm)
theorem Good.write (g : Good K ph H S) {k : Nat} {p : Addr} {o : HO} {c : Cell} (hp : ph[k]? = some p) (hc : CellAt K ph (upd H p o) p c) : Good K ph (upd H p o) (S.set k c) := by
  have hm : p ∈ ph := List.mem_of_getElem? hp
  obtain ⟨c0, hc0⟩ : ∃ c0, S[k]? = some c0 := by
    have := (List.getElem?_eq_some_iff.mp hp).1
    rw [g.len] at this
    exact ⟨_, List.getElem?_eq_getElem this⟩
  obtain ⟨p', h1, h2⟩ := g.at hc0
  rw [hp] at h1; cases h1
  obtain ⟨u, hu, u1, u2⟩ := h2.thereN
  exact ⟨g.nd, paired_set g.cells hp (fun j a b hj ha hb => hb.writ hm (fun q : a = p => hj (nodup_at g.nd (q ▸ ha) hp))) hc, g.tb.wr hu u1 u2⟩
end
end DL

namespace DL
open PySem L2

structure XW (K : PySem.W.Frag) where
  rel : List Addr → Hp → Exc → Slots → Store → Prop
  mono : ∀ ph H ph' H' e r S, Ext ph H ph' H' → rel ph H e r S → rel ph' H' e r S
abbrev EM := Slots → Store → Res (SV × Store)
abbrev TM := Slots → Store → Res (Bool × Store)
abbrev AM := Slots → Store → Res (List SV × Store)
def SlotsOk (K : PySem.W.Frag) (ph : List Addr) (H : Hp) (sg : L2.St) (rho : Slots) : Prop :=
  rho.length ≤ sg.length ∧ ∀ (i : Nat) (x : SV), rho[i]? = some (some x) → ∃ v, sg[i]? = some (some v) ∧ DenS K ph H v x
theorem SlotsOk.mono {K : PySem.W.Frag} {ph ph' : List Addr} {H H' : Hp} {sg : L2.St} {rho : Slots} (e : Ext ph H ph' H') (h : SlotsOk K ph H sg rho) : SlotsOk K ph' H' sg rho :=
  ⟨h.1, fun i x q => let ⟨v, a, b⟩ := h.2 i x q; ⟨v, a, b.mono e⟩⟩
theorem SlotsOk.set {K : PySem.W.Frag} {ph : List Addr} {H : Hp} {sg : L2.St} {rho : Slots} (h : SlotsOk K ph H sg rho) (i : Nat) {v : V} {x : SV} (hv : DenS K ph H v x) : SlotsOk K ph H (sg.set i (some v)) (rho.set i (some x)) := by
  refine ⟨by simpa using h.1, fun j y q => ?_⟩
  by_cases e : i = j
  · subst e
    by_cases hi : i < rho.length
    · rw [List.getElem?_set_self hi] at q
      have := Option.some.inj (Option.some.inj q)
      subst this
      exact ⟨v, List.getElem?_set_self (Nat.lt_of_lt_of_le hi h.1), hv⟩
    · rw [List.getElem?_eq_none (by simpa using hi)] at q; cases q
  · rw [List.getElem?_set_ne e] at q
    rw [List.getElem?_set_ne e]
    exact h.2 j y q
def post (K : PySem.W.Frag) (ph : List Addr) (H : Hp) (Q : VK) : SV × Store → Prop := fun r =>
  ∀ ph' v H', Ext ph H ph' H' → Good K ph' H' r.2 → DenS K ph' H' v r.1 → Q v H'
def postT (K : PySem.W.Frag) (ph : List Addr) (H : Hp) (Q : Bool → Hp → Prop) : Bool × Store → Prop := fun r =>
  ∀ ph' H', Ext ph H ph' H' → Good K ph' H' r.2 → Q r.1 H'
def postA (K : PySem.W.Frag) (ph : List Addr) (H : Hp) (Q : List V → Hp → Prop) : List SV × Store → Prop := fun r =>
  ∀ ph' vs H', Ext ph H ph' H' → Good K ph' H' r.2 → DenSs K ph' H' vs r.1 → Q vs H'
theorem post.mono {K : PySem.W.Frag} {ph ph' : List Addr} {H H' : Hp} {Q : VK} (e : Ext ph H ph' H') (r : SV × Store) (h : post K ph H Q r) : post K ph' H' Q r := fun p v G a g d => h p v G (e.trans a) g d
theorem postT.mono {K : PySem.W.Frag} {ph ph' : List Addr} {H H' : Hp} {Q : Bool → Hp → Prop} (e : Ext ph H ph' H') (r : Bool × Store) (h : postT K ph H Q r) : postT K ph' H' Q r := fun p G a g => h p G (e.trans a) g
theorem postA.mono {K : PySem.W.Frag} {ph ph' : List Addr} {H H' : Hp} {Q : List V → Hp → Prop} (e : Ext ph H ph' H') (r : List SV × Store) (h : postA K ph H Q r) : postA K ph' H' Q r := fun p v G a g d => h p v G (e.trans a) g d
section
variable {X : Cx} {W : XW X.K}
structure PD (X : Cx) (W : XW X.K) (e : Expr) (m : EM) : Prop where
  ex : ∃ t, PE X e t ∧ ∀ (ph : List Addr) (S : Store) (H : Hp) (sg : L2.St) (rho : Slots) (Q : VK), Good X.K ph H S → SlotsOk X.K ph H sg rho →
    holds (m rho S) (post X.K ph H Q) (W.rel ph H) → t sg H Q
structure PDT (X : Cx) (W : XW X.K) (e : Expr) (m : TM) : Prop where
  ex : ∃ t, PT X e t ∧ ∀ (ph : List Addr) (S : Store) (H : Hp) (sg : L2.St) (rho : Slots) (Q : Bool → Hp → Prop), Good X.K ph H S → SlotsOk X.K ph H sg rho →
    holds (m rho S) (postT X.K ph H Q) (W.rel ph H) → t sg H Q
structure PDA (X : Cx) (W : XW X.K) (es : List Expr) (m : AM) : Prop where
  ex : ∃ t, PA X es t ∧ ∀ (ph : List Addr) (S : Store) (H : Hp) (sg : L2.St) (rho : Slots) (Q : List V → Hp → Prop), Good X.K ph H S → SlotsOk X.K ph H sg rho →
    holds (m rho S) (postA X.K ph H Q) (W.rel ph H) → t sg H Q

def eV (i : Nat) : EM := fun rho S => match rho[i]? with
  | some (some x) => .ok (x, S)
  | _ => .stuck
def eC (d : D) : EM := fun _ S => .ok (.fr d, S)
theorem pd_v (i : Nat) {x : Str} {pos : Pos} (hN : X.N[i]? = some x := by rfl) (hv : Vis X.env.scope x := by first | exact Or.inl rfl | exact Or.inr (Or.inl rfl) | exact Or.inr (Or.inr rfl)) (hd : (x == ("__debug__" : Str)) = false := by decide)
    (hcd : (x == ("__classdict__" : Str)) = false := by decide) : PD X W (.Name x pos) (eV i) := by
  refine ⟨_, pe_var hN hv hd hcd, fun ph S H sg rho Q g so h => ?_⟩
  unfold eV at h
  split at h
  · rename_i y hy
    obtain ⟨v, h1, h2⟩ := so.2 i y hy
    exact ⟨v, h1, h ph v H (Ext.refl _ _) g h2⟩
  · exact h.elim
theorem pd_const {e : Expr} {v : V} {d : D} (h : PE X e (tC v)) (hd : ∀ F, Den X.K F v d) : PD X W e (eC d) :=
  ⟨_, h, fun ph S H sg rho Q g so hq => hq ph v H (Ext.refl _ _) g (hd _)⟩
theorem pd_int {i : Int} {j pos} : PD X W (.Constant (.int i) j pos) (eC (.int i)) := pd_const pe_int fun _ => .int _
theorem pd_bl {b : Bool} {j pos} : PD X W (.Constant (.bool b) j pos) (eC (.bl b)) := pd_const pe_bl fun _ => .bl _
theorem pd_non {j pos} : PD X W (.Constant .none j pos) (eC .non) := pd_const pe_non fun _ => .non
theorem pd_str {x : Str} {j pos} : PD X W (.Constant (.str x) j pos) (eC (.str x)) := pd_const pe_str fun _ => .str _

abbrev G1 := SV → Store → Res (SV × Store)
abbrev G2 := SV → SV → Store → Res (SV × Store)
abbrev GA := List SV → Store → Res (SV × Store)
def Op2 (X : Cx) (W : XW X.K) (r : R2) (g : G2) : Prop := ∀ (ph : List Addr) (S : Store) (H : Hp) (x y : V) (a b : SV) (Q : VK), Good X.K ph H S → DenS X.K ph H x a → DenS X.K ph H y b →
  holds (g a b S) (post X.K ph H Q) (W.rel ph H) → r x y H Q
def Op1 (X : Cx) (W : XW X.K) (r : V → Hp → VK → Prop) (g : G1) : Prop := ∀ (ph : List Addr) (S : Store) (H : Hp) (x : V) (a : SV) (Q : VK), Good X.K ph H S → DenS X.K ph H x a →
  holds (g a S) (post X.K ph H Q) (W.rel ph H) → r x H Q
def OpA (X : Cx) (W : XW X.K) (r : List V → Hp → VK → Prop) (g : GA) : Prop := ∀ (ph : List Addr) (S : Store) (H : Hp) (xs : List V) (as : List SV) (Q : VK), Good X.K ph H S → DenSs X.K ph H xs as →
  holds (g as S) (post X.K ph H Q) (W.rel ph H) → r xs H Q
def e2 (g : G2) (a b : EM) : EM := fun rho S => (a rho S).bind fun x => (b rho x.2).bind fun y => g x.1 y.1 y.2
def e1 (g : G1) (a : EM) : EM := fun rho S => (a rho S).bind fun x => g x.1 x.2
variable {a b : Expr} {ma mb : EM} {pos : Pos}
theorem snd2 {ta tb : TE} {r : R2} {g : G2}
    (ha : ∀ (ph : List Addr) (S : Store) (H : Hp) (sg : L2.St) (rho : Slots) (Q : VK), Good X.K ph H S → SlotsOk X.K ph H sg rho → holds (ma rho S) (post X.K ph H Q) (W.rel ph H) → ta sg H Q)
    (hb : ∀ (ph : List Addr) (S : Store) (H : Hp) (sg : L2.St) (rho : Slots) (Q : VK), Good X.K ph H S → SlotsOk X.K ph H sg rho → holds (mb rho S) (post X.K ph H Q) (W.rel ph H) → tb sg H Q)
    (hr : Op2 X W r g) (ph : List Addr) (S : Store) (H : Hp) (sg : L2.St) (rho : Slots) (Q : VK) (gd : Good X.K ph H S) (so : SlotsOk X.K ph H sg rho)
    (h : holds (e2 g ma mb rho S) (post X.K ph H Q) (W.rel ph H)) : ta sg H fun x H1 => tb sg H1 fun y H2 => r x y H2 Q := by
  refine ha ph S H sg rho _ gd so (holds_imp (holds_bind h) (fun x hx => ?_) fun _ _ _ q => q)
  intro ph1 v1 H1 x1 g1 d1
  refine hb ph1 x.2 H1 sg rho _ g1 (so.mono x1) (holds_imp (holds_bind hx) (fun y hy => ?_) fun e r s q => W.mono _ _ _ _ e r s x1 q)
  intro ph2 v2 H2 x2 g2 d2
  exact hr ph2 y.2 H2 v1 v2 x.1 y.1 Q g2 (d1.mono x2) d2 (holds_imp hy (fun c => post.mono (x1.trans x2) c) fun e r s q => W.mono _ _ _ _ e r s (x1.trans x2) q)
theorem pd_2 {op : Operator} {r : R2} {g : G2} (ho : OpR X (binaryOp op) r) (hr : Op2 X W r g) (ha : PD X W a ma) (hb : PD X W b mb) : PD X W (.BinOp a op b pos) (e2 g ma mb) := by
  obtain ⟨ta, pa, sa⟩ := ha.ex
  obtain ⟨tb, pb, sb⟩ := hb.ex
  exact ⟨_, pe_op ho pa pb, fun ph S H sg rho Q gd so h => snd2 sa sb hr ph S H sg rho Q gd so h⟩
theorem pd_cmp {op : CmpOp} {r : R2} {g : G2} (ho : OpR X (compareOp op) r) (hr : Op2 X W r g) (ha : PD X W a ma) (hb : PD X W b mb) (hm : behindInMarks op b = false := by first | exact nomark _ | rfl) : PD X W (.Compare a [op] [b] pos) (e2 g ma mb) := by
  obtain ⟨ta, pa, sa⟩ := ha.ex
  obtain ⟨tb, pb, sb⟩ := hb.ex
  exact ⟨_, pe_cmpR ho pa pb hm, fun ph S H sg rho Q gd so h => snd2 sa sb hr ph S H sg rho Q gd so h⟩
theorem pd_1 {op : UnaryOp} {r : V → Hp → VK → Prop} {g : G1} (ho : UnR X (unaryOp op) r) (hr : Op1 X W r g) (ha : PD X W a ma) : PD X W (.UnaryOp op a pos) (e1 g ma) := by
  obtain ⟨ta, pa, sa⟩ := ha.ex
  refine ⟨_, pe_un ho pa, fun ph S H sg rho Q gd so h => sa ph S H sg rho _ gd so (holds_imp (holds_bind h) (fun x hx => ?_) fun _ _ _ q => q)⟩
  intro ph1 v1 H1 x1 g1 d1
  exact hr ph1 x.2 H1 v1 x.1 Q g1 d1 (holds_imp hx (fun c => post.mono x1 c) fun e r s q => W.mono _ _ _ _ e r s x1 q)

def aN : AM := fun _ S => .ok ([], S)
def aC (a : EM) (r : AM) : AM := fun rho S => (a rho S).bind fun x => (r rho x.2).bind fun y => .ok (x.1 :: y.1, y.2)
theorem pda_nil : PDA X W [] aN := ⟨_, pa_nil, fun ph S H sg rho Q g so h => h ph [] H (Ext.refl _ _) g .nil⟩
theorem pda_cons {es : List Expr} {mr : AM} (ha : PD X W a ma) (hr : PDA X W es mr) (hs : starEach (a :: es) X.env = (false, eval a X.env) :: starEach es X.env := by rfl) : PDA X W (a :: es) (aC ma mr) := by
  obtain ⟨ta, pa, sa⟩ := ha.ex
  obtain ⟨tr, pr, sr⟩ := hr.ex
  refine ⟨_, pa_cons pa pr hs, fun ph S H sg rho Q gd so h => sa ph S H sg rho _ gd so (holds_imp (holds_bind h) (fun x hx => ?_) fun _ _ _ q => q)⟩
  intro ph1 v1 H1 x1 g1 d1
  refine sr ph1 x.2 H1 sg rho _ g1 (so.mono x1) (holds_imp (holds_bind hx) (fun y hy => ?_) fun e r s q => W.mono _ _ _ _ e r s x1 q)
  intro ph2 vs H2 x2 g2 d2
  exact hy ph2 (v1 :: vs) H2 (x1.trans x2) g2 (.cons (d1.mono x2) d2)
def eA (g : GA) (m : AM) : EM := fun rho S => (m rho S).bind fun x => g x.1 x.2
theorem sndA {t : TA} {m : AM} {r : List V → Hp → VK → Prop} {g : GA}
    (ha : ∀ (ph : List Addr) (S : Store) (H : Hp) (sg : L2.St) (rho : Slots) (Q : List V → Hp → Prop), Good X.K ph H S → SlotsOk X.K ph H sg rho → holds (m rho S) (postA X.K ph H Q) (W.rel ph H) → t sg H Q)
    (hr : OpA X W r g) (ph : List Addr) (S : Store) (H : Hp) (sg : L2.St) (rho : Slots) (Q : VK) (gd : Good X.K ph H S) (so : SlotsOk X.K ph H sg rho)
    (h : holds (eA g m rho S) (post X.K ph H Q) (W.rel ph H)) : t sg H fun xs H1 => r xs H1 Q := by
  refine ha ph S H sg rho _ gd so (holds_imp (holds_bind h) (fun x hx => ?_) fun _ _ _ q => q)
  intro ph1 vs H1 x1 g1 d1
  exact hr ph1 x.2 H1 vs x.1 Q g1 d1 (holds_imp hx (fun c => post.mono x1 c) fun e r s q => W.mono _ _ _ _ e r s x1 q)

def allFr : List SV → Option (List D)
  | [] => some []
  | .fr d :: r => (allFr r).map (d :: ·)
  | .cell _ :: _ => none
theorem allFr_map : ∀ ds : List D, allFr (ds.map SV.fr) = some ds
  | [] => rfl
  | d :: ds => by simp [allFr, allFr_map ds]
theorem allFr_eq : ∀ {xs : List SV} {ds : List D}, allFr xs = some ds → xs = ds.map SV.fr
  | [], ds, h => by simp [allFr] at h; subst h; rfl
  | .fr d :: r, ds, h => by
    simp only [allFr, Option.map_eq_some_iff] at h
    obtain ⟨es, h1, rfl⟩ := h
    rw [allFr_eq h1]; rfl
  | .cell _ :: _, _, h => by simp [allFr] at h
theorem dens_of {K : PySem.W.Frag} {ph : List Addr} {H : Hp} : ∀ {ds : List D} {vs : List V}, DenSs K ph H vs (ds.map SV.fr) → Dens K (hide ph H) vs ds
  | [], _, .nil => .nil
  | d :: ds, _, .cons h t => .cons h (dens_of t)
theorem of_dens {K : PySem.W.Frag} {ph : List Addr} {H : Hp} : ∀ {ds : List D} {vs : List V}, Dens K (hide ph H) vs ds → DenSs K ph H vs (ds.map SV.fr)
  | _, _, .nil => .nil
  | _, _, .cons h t => .cons h (of_dens t)
def newL (m : Bool) (xs : List SV) (S : Store) : Res (SV × Store) := if xs.length ≤ sizeLine then (if m then .ok (.cell S.length, S ++ [.lst xs]) else match allFr xs with
  | some ds => .ok (.fr (.lst ds), S)
  | none => .stuck) else .stuck
def newT (xs : List SV) (S : Store) : Res (SV × Store) := if xs.length ≤ sizeLine then (match allFr xs with
  | some ds => .ok (.fr (.tup ds), S)
  | none => .stuck) else .stuck
theorem newL_ok {K : PySem.W.Frag} {ph : List Addr} {H : Hp} {S : Store} {vs : List V} {xs : List SV} {m : Bool} {Q : VK} {E : Exc → Slots → Store → Prop} (g : Good K ph H S) (d : DenSs K ph H vs xs) (h : holds (newL m xs S) (post K ph H Q) E) :
    vs.length ≤ sizeLine ∧ ∀ p, H p = none → Q (.ref p) (upd H p (.lst vs)) := by
  unfold newL at h
  split at h
  · rename_i hz
    refine ⟨by rw [d.length]; exact hz, fun p hp => ?_⟩
    cases m with
    | true =>
      have e : Ext ph H (ph ++ [p]) (upd H p (.lst vs)) := Ext.cell hp
      exact h (ph ++ [p]) (.ref p) _ e (g.cell hp ⟨vs, upd_same, d.mono e⟩) ⟨p, by rw [← g.len]; simp, rfl⟩
    | false =>
      simp only [Bool.false_eq_true, if_false] at h
      split at h
      · rename_i ds hd
        have e : Ext ph H ph (upd H p (.lst vs)) := Ext.fresh hp
        refine h ph (.ref p) _ e (g.fresh hp) (.lst (vs := vs) (hide_of (g.new hp) upd_same) ?_)
        have d' := d.mono e
        rw [allFr_eq hd] at d'
        exact dens_of d'
      · exact h.elim
  · exact h.elim
theorem newT_ok {K : PySem.W.Frag} {ph : List Addr} {H : Hp} {S : Store} {vs : List V} {xs : List SV} {Q : VK} {E : Exc → Slots → Store → Prop} (g : Good K ph H S) (d : DenSs K ph H vs xs) (h : holds (newT xs S) (post K ph H Q) E) :
    vs.length ≤ sizeLine ∧ ∀ p, H p = none → Q (.ref p) (upd H p (.tup vs)) := by
  unfold newT at h
  split at h
  · rename_i hz
    refine ⟨by rw [d.length]; exact hz, fun p hp => ?_⟩
    split at h
    · rename_i ds hd
      have e : Ext ph H ph (upd H p (.tup vs)) := Ext.fresh hp
      refine h ph (.ref p) _ e (g.fresh hp) (.tup (vs := vs) (hide_of (g.new hp) upd_same) ?_)
      have d' := d.mono e
      rw [allFr_eq hd] at d'
      exact dens_of d'
    · exact h.elim
  · exact h.elim
def newTC (xs : List SV) (S : Store) : Res (SV × Store) := if xs.length ≤ sizeLine then .ok (.cell S.length, S ++ [.tup xs]) else .stuck
theorem pd_lst {es : List Expr} {m : AM} (c : Bool) (h : PDA X W es m) : PD X W (.List es pos) (eA (newL c) m) := by
  obtain ⟨t, p, s⟩ := h.ex
  exact ⟨_, pe_lst p, fun ph S H sg rho Q gd so h => sndA (r := fun xs H1 Q => xs.length ≤ sizeLine ∧ ∀ p, H1 p = none → Q (.ref p) (upd H1 p (.lst xs))) s (fun _ _ _ _ _ _ g d hq => newL_ok g d hq) ph S H sg rho Q gd so h⟩
theorem pd_tup {es : List Expr} {m : AM} {k : Nat} (h : PDA X W es m) : PD X W (.Tuple es k pos) (eA newT m) := by
  obtain ⟨t, p, s⟩ := h.ex
  exact ⟨_, pe_tup p, fun ph S H sg rho Q gd so h => sndA (r := fun xs H1 Q => xs.length ≤ sizeLine ∧ ∀ p, H1 p = none → Q (.ref p) (upd H1 p (.tup xs))) s (fun _ _ _ _ _ _ g d hq => newT_ok g d hq) ph S H sg rho Q gd so h⟩
end

def snap0 (S : Store) : SV → Option D
  | .fr d => some d
  | .cell k => match S[k]? with
    | some (.lst xs) => (allFr xs).map D.lst
    | _ => none
def allSn (f : SV → Option D) : List SV → Option (List D)
  | [] => some []
  | x :: xs => match f x, allSn f xs with
    | some d, some ds => some (d :: ds)
    | _, _ => none
def snap (S : Store) : SV → Option D
  | .fr d => some d
  | .cell k => match S[k]? with
    | some (.lst xs) => (allSn (snap0 S) xs).map D.lst
    | some (.tup xs) => (allSn (snap0 S) xs).map D.tup
    | _ => none
theorem allSn_map {f : SV → Option D} (h : ∀ d, f (.fr d) = some d) : ∀ ds : List D, allSn f (ds.map SV.fr) = some ds
  | [] => rfl
  | d :: ds => by simp only [List.map_cons, allSn, h, allSn_map h ds]
theorem snap0_fr (S : Store) (d : D) : snap0 S (.fr d) = some d := rfl
theorem hide_sub {ph : List Addr} {H : Hp} : Sub (hide ph H) H := fun _ _ h => (hide_some h).2
theorem snap0_ok {K : PySem.W.Frag} {ph : List Addr} {H : Hp} {S : Store} {v : V} {x : SV} {d : D} (g : Good K ph H S) (h : DenS K ph H v x) (e : snap0 S x = some d) : Den K H v d := by
  cases x with
  | fr d' => simp [snap0] at e; subst e; exact Den.mono hide_sub h
  | cell k =>
    obtain ⟨p, h1, rfl⟩ := h
    unfold snap0 at e
    dsimp only at e
    split at e
    · rename_i xs hk
      simp only [Option.map_eq_some_iff] at e
      obtain ⟨ds, h2, rfl⟩ := e
      obtain ⟨q, h3, vs, h4, h5⟩ := g.at hk
      rw [h1] at h3; cases h3
      rw [allFr_eq h2] at h5
      exact .lst h4 (Dens.mono hide_sub (dens_of h5))
    · cases e
theorem snaps_ok {K : PySem.W.Frag} {ph : List Addr} {H : Hp} {S : Store} (g : Good K ph H S) : ∀ {vs : List V} {xs : List SV} {ds : List D}, DenSs K ph H vs xs → allSn (snap0 S) xs = some ds → Dens K H vs ds
  | _, _, ds, .nil, e => by simp [allSn] at e; subst e; exact .nil
  | _, _, ds, .cons h t, e => by
    unfold allSn at e
    split at e
    · rename_i d r h1 h2
      cases e
      exact .cons (snap0_ok g h h1) (snaps_ok g t h2)
    · cases e
theorem snap_ok {K : PySem.W.Frag} {ph : List Addr} {H : Hp} {S : Store} {v : V} {x : SV} {d : D} (g : Good K ph H S) (h : DenS K ph H v x) (e : snap S x = some d) : Den K H v d := by
  cases x with
  | fr d' => simp [snap] at e; subst e; exact Den.mono hide_sub h
  | cell k =>
    obtain ⟨p, h1, rfl⟩ := h
    unfold snap at e
    dsimp only at e
    split at e
    · rename_i xs hk
      simp only [Option.map_eq_some_iff] at e
      obtain ⟨ds, h2, rfl⟩ := e
      obtain ⟨q, h3, vs, h4, h5⟩ := g.at hk
      rw [h1] at h3; cases h3
      exact .lst h4 (snaps_ok g h5 h2)
    · rename_i xs hk
      simp only [Option.map_eq_some_iff] at e
      obtain ⟨ds, h2, rfl⟩ := e
      obtain ⟨q, h3, vs, h4, h5⟩ := g.at hk
      rw [h1] at h3; cases h3
      exact .tup h4 (snaps_ok g h5 h2)
    · cases e
def rdL (S : Store) : SV → Option (List SV)
  | .fr (.lst ds) => some (ds.map SV.fr)
  | .cell k => match S[k]? with
    | some (.lst xs) => some xs
    | _ => none
  | _ => none
theorem rdL_at {K : PySem.W.Frag} {ph : List Addr} {H : Hp} {S : Store} {v : V} {x : SV} {xs : List SV} (g : Good K ph H S) (h : DenS K ph H v x) (e : rdL S x = some xs) : ∃ a vs, v = .ref a ∧ H a = some (.lst vs) ∧ DenSs K ph H vs xs := by
  cases x with
  | fr d =>
    cases d with
    | lst ds =>
      simp [rdL] at e; subst e
      cases h with
      | lst s r => exact ⟨_, _, rfl, hide_sub _ _ s, of_dens r⟩
    | _ => simp [rdL] at e
  | cell k =>
    obtain ⟨p, h1, rfl⟩ := h
    unfold rdL at e
    dsimp only at e
    split at e
    · rename_i ys hk
      cases e
      obtain ⟨q, h3, vs, h4, h5⟩ := g.at hk
      rw [h1] at h3; cases h3
      exact ⟨p, vs, rfl, h4, h5⟩
    · cases e
def rdS (S : Store) : SV → Option (List SV)
  | .fr (.scr ds) => some (ds.map SV.fr)
  | x => rdL S x
theorem rdS_ok {K : PySem.W.Frag} {ph : List Addr} {H : Hp} {S : Store} {v : V} {x : SV} {xs : List SV} (g : Good K ph H S) (h : DenS K ph H v x) (e : rdS S x = some xs) : ∃ a vs, v = .ref a ∧ SqL K H a vs ∧ DenSs K ph H vs xs := by
  unfold rdS at e
  split at e
  · cases e
    cases h with
    | scr s r => exact ⟨_, _, rfl, hide_sub.sqL s, of_dens r⟩
  · obtain ⟨a, vs, h1, h2, h3⟩ := rdL_at g h e
    exact ⟨a, vs, h1, .of h2, h3⟩
end DL

namespace DL
open PySem L2

mutual
def py : D → PyData
  | .non => .none
  | .bl b => .bool b
  | .int i => .int i
  | .str x => .str x
  | .tup ds => .tuple (pys ds)
  | .lst ds => .list (pys ds)
  | .scr ds => .list (pys ds)
  | .ty _ => .none
  | .ref _ => .none
  | .ins _ _ => .none
  | .cls _ => .none
  | .exn _ _ _ _ => .none
  | .dct _ => .none
def pys : List D → List PyData
  | [] => []
  | d :: ds => py d :: pys ds
end
mutual
def isP : D → Bool
  | .non | .bl _ | .int _ | .str _ => true
  | .tup ds => isPs ds
  | .lst ds => isPs ds
  | .scr ds => isPs ds
  | .ty _ | .ref _ | .ins _ _ | .cls _ | .dct _ | .exn _ _ _ _ => false
def isPs : List D → Bool
  | [] => true
  | d :: ds => isP d && isPs ds
end
section
variable {K : PySem.W.Frag} {H : Hp}
mutual
theorem dp_of : ∀ {d : D} {v : V}, isP d = true → Den K H v d → Dp K H v (py d)
  | .non, _, _, .non => by simp only [py]; exact .non
  | .bl _, _, _, .bl _ => by simp only [py]; exact .bl _
  | .int _, _, _, .int _ => by simp only [py]; exact .int _
  | .str _, _, _, .str _ => by simp only [py]; exact .str _
  | .tup ds, _, h, .tup s r => by simp only [py]; exact .tup (.inl (.inl s)) (dps_of (by simpa only [isP] using h) r)
  | .lst ds, _, h, .lst s r => by simp only [py]; exact .lst (.of s) (dps_of (by simpa only [isP] using h) r)
  | .scr ds, _, h, .scr s r => by simp only [py]; exact .lst s (dps_of (by simpa only [isP] using h) r)
  | .ty _, _, h, _ => by simp [isP] at h
  | .ref _, _, h, _ => by simp [isP] at h
  | .ins _ _, _, h, _ => by simp [isP] at h
  | .cls _, _, h, _ => by simp [isP] at h
  | .exn _ _ _ _, _, h, _ => by simp [isP] at h
  | .dct _, _, h, _ => by simp [isP] at h
theorem dps_of : ∀ {ds : List D} {vs : List V}, isPs ds = true → Dens K H vs ds → DpAll K H vs (pys ds)
  | [], _, _, .nil => by simp only [pys]; exact .nil
  | d :: ds, _, h, .cons a r => by
    simp only [isPs, Bool.and_eq_true] at h
    simp only [pys]; exact .cons (dp_of h.1 a) (dps_of h.2 r)
end
mutual
theorem py_nodict : ∀ d : D, (py d).hasDict = false
  | .non | .bl _ | .int _ | .str _ | .ty _ | .ref _ | .ins _ _ | .cls _ | .dct _ | .exn _ _ _ _ => by simp only [py, PyData.hasDict]
  | .tup ds => by simp only [py, PyData.hasDict]; exact pys_nodict ds
  | .lst ds => by simp only [py, PyData.hasDict]; exact pys_nodict ds
  | .scr ds => by simp only [py, PyData.hasDict]; exact pys_nodict ds
theorem pys_nodict : ∀ ds : List D, PyData.hasDictAll (pys ds) = false
  | [] => by simp only [pys, PyData.hasDictAll]
  | d :: ds => by simp only [pys, PyData.hasDictAll, py_nodict d, pys_nodict ds, Bool.or_self]
end
end
def plain (d : D) : Bool := isP d && SeqAt.shaped (py d)
def deq (a b : D) : Bool := PyData.eqv (py a) (py b)
def rOk (d : D) : Bool := isP d && (py d).showable && (py d).leavesShort 130 && decide ((py d).bulk ≤ 100000)
def rTxt (d : D) : Str := (py d).shown
theorem rOk_len {d : D} (h : rOk d = true) : (py d).shown.length ≤ sizeLine := by
  unfold rOk at h
  simp only [Bool.and_eq_true, decide_eq_true_eq] at h
  have q := PyData.shown_le_bulk 130 (by decide) (py d) h.1.2
  have e : sizeLine = 16777216 := sizeLine_eq
  omega

instance decCMul (i j : Int) : Decidable (CMul i j) := by unfold CMul; infer_instance
instance decCMulW (i j : Int) : Decidable (CMulW i j) := by unfold CMulW; infer_instance
instance decCDiv (i j : Int) : Decidable (CDiv i j) := by unfold CDiv; infer_instance
instance decCDivW (i j : Int) : Decidable (CDivW i j) := by unfold CDivW; infer_instance
instance decCPow (i j : Int) : Decidable (CPow i j) := by unfold CPow; infer_instance
def okV (d : D) (S : Store) : Res (SV × Store) := .ok (.fr d, S)
def addG (c : Bool) : G2 := fun a b S => match a, b with
  | .fr (.int i), .fr (.int j) => okV (.int (i + j)) S
  | .fr (.str i), .fr (.str j) => if i.length + j.length ≤ sizeLine then okV (.str (i ++ j)) S else .stuck
  | .fr (.tup xs), .fr (.tup ys) => if xs.length + ys.length ≤ sizeLine then okV (.tup (xs ++ ys)) S else .stuck
  | _, _ => match rdL S a, rdL S b with
    | some xs, some ys => newL c (xs ++ ys) S
    | _, _ => .stuck
def subG : G2 := fun a b S => match a, b with
  | .fr (.int i), .fr (.int j) => okV (.int (i - j)) S
  | _, _ => .stuck
def mulG (c : Bool) : G2 := fun a b S => match a, b with
  | .fr (.int i), .fr (.int j) => if CMul i j ∨ CMulW i j then okV (.int (i * j)) S else .stuck
  | _, .fr (.int k) => match rdL S a with
    | some xs => if -(2 ^ 63) ≤ k ∧ k < 2 ^ 63 ∧ xs.length * k.toNat ≤ sizeLine then newL c (List.replicate k.toNat xs).flatten S else .stuck
    | none => .stuck
  | _, _ => .stuck
def fdivG : G2 := fun a b S => match a, b with
  | .fr (.int i), .fr (.int j) => if CDiv i j ∨ CDivW i j then okV (.int (i / j)) S else .stuck
  | _, _ => .stuck
def modG : G2 := fun a b S => match a, b with
  | .fr (.int i), .fr (.int j) => if 0 < j then okV (.int (i % j)) S else .stuck
  | _, _ => .stuck
def powG : G2 := fun a b S => match a, b with
  | .fr (.int i), .fr (.int j) => if CPow i j then okV (.int (i ^ j.toNat)) S else .stuck
  | _, _ => .stuck
def negG : G1 := fun a S => match a with
  | .fr (.int i) => okV (.int (-i)) S
  | _ => .stuck
def cmpG (p : Int → Int → Bool) : G2 := fun a b S => match a, b with
  | .fr (.int i), .fr (.int j) => okV (.bl (p i j)) S
  | _, _ => .stuck
abbrev ltG : G2 := cmpG fun i j => decide (i < j)
abbrev leG : G2 := cmpG fun i j => decide (i ≤ j)
abbrev gtG : G2 := cmpG fun i j => decide (j < i)
abbrev geG : G2 := cmpG fun i j => decide (j ≤ i)
def eqD (d e : D) : Option Bool := match d, e with
  | .str x, .str y => some (decide (x = y))
  | _, _ => if plain d && plain e then some (deq d e) else none
def eqG (n : Bool) : G2 := fun a b S => match snap S a, snap S b with
  | some d, some e => match eqD d e with
    | some r => okV (.bl (if n then !r else r)) S
    | none => .stuck
  | _, _ => .stuck
def isNon : SV → Bool
  | .fr .non => true
  | _ => false
def isG (n : Bool) : G2 := fun a b S => match b with
  | .fr .non => okV (.bl (if n then !isNon a else isNon a)) S
  | _ => .stuck
section
variable {X : Cx} {W : XW X.K}
theorem fin_v {ph : List Addr} {S : Store} {H : Hp} {v : V} {d : D} {Q : VK} {E : Exc → Slots → Store → Prop} (g : Good X.K ph H S) (hd : Den X.K (hide ph H) v d) (h : holds (okV d S) (post X.K ph H Q) E) : Q v H :=
  h ph v H (Ext.refl _ _) g hd
theorem d_int {K : PySem.W.Frag} {F : Hp} {v : V} {i : Int} (h : Den K F v (.int i)) : v = .int i := by cases h; rfl
theorem d_bl {K : PySem.W.Frag} {F : Hp} {v : V} {i : Bool} (h : Den K F v (.bl i)) : v = .bl i := by cases h; rfl
theorem d_str {K : PySem.W.Frag} {F : Hp} {v : V} {i : Str} (h : Den K F v (.str i)) : v = .str i := by cases h; rfl
theorem d_non {K : PySem.W.Frag} {F : Hp} {v : V} (h : Den K F v .non) : v = .non := by cases h; rfl
theorem d_tupH {K : PySem.W.Frag} {F : Hp} {v : V} {ds : List D} (h : Den K F v (.tup ds)) : ∃ a vs, v = .ref a ∧ F a = some (.tup vs) ∧ Dens K F vs ds := by cases h; exact ⟨_, _, rfl, by assumption, by assumption⟩
theorem d_tup {K : PySem.W.Frag} {F : Hp} {v : V} {ds : List D} (h : Den K F v (.tup ds)) : ∃ a vs, v = .ref a ∧ SqT K F a vs ∧ Dens K F vs ds := by
  obtain ⟨a, vs, e, h1, h2⟩ := d_tupH h
  exact ⟨a, vs, e, .inl (.inl h1), h2⟩
abbrev rAddAll (K : PySem.W.Frag) : R2 := fun x y H Q => rI0 (fun i j => .int (i + j)) x y H Q ∨ (∃ i j, x = .str i ∧ y = .str j ∧ i.length + j.length ≤ sizeLine ∧ Q (.str (i ++ j)) H) ∨ rCatA K x y H Q ∨ rCat x y H Q
theorem op_addAll : OpR X (binaryOp .Add) (rAddAll X.K) := op_add.or (op_add_str.or (op_catA.or op_cat))
theorem add_ok (c : Bool) : Op2 X W (rAddAll X.K) (addG c) := by
  intro ph S H x y a b Q g da db h
  unfold addG at h
  split at h
  · rw [d_int da, d_int db]
    exact .inl ⟨_, _, rfl, rfl, fin_v g (.int _) h⟩
  · split at h
    · rw [d_str da, d_str db]
      exact .inr (.inl ⟨_, _, rfl, rfl, by assumption, fin_v g (.str _) h⟩)
    · exact h.elim
  · split at h
    · rename_i xs ys hz
      obtain ⟨p, vs, rfl, s1, r1⟩ := d_tupH da
      obtain ⟨q, ws, rfl, s2, r2⟩ := d_tupH db
      have l1 := r1.len
      have l2 := r2.len
      refine .inr (.inr (.inl ⟨p, q, vs, ws, rfl, rfl, hide_sub.sqT (.inl (.inl s1)), hide_sub.sqT (.inl (.inl s2)), by omega, fun e => ?_, fun _ e => ?_, fun _ _ t ht => ?_⟩))
      · subst e
        have : xs = [] := List.length_eq_zero_iff.mp (by simpa using l1.symm)
        subst this
        exact fin_v g (.tup s2 r2) h
      · subst e
        have : ys = [] := List.length_eq_zero_iff.mp (by simpa using l2.symm)
        subst this
        rw [List.append_nil] at h
        exact fin_v g (.tup s1 r1) h
      · have e : Ext ph H ph (upd H t (.tup (vs ++ ws))) := Ext.fresh ht
        exact h ph (.ref t) _ e (g.fresh ht) (.tup (hide_of (g.new ht) upd_same) ((r1.mono e.sub).app (r2.mono e.sub)))
    · exact h.elim
  · split at h
    · rename_i xs ys h1 h2
      obtain ⟨p, vs, rfl, s1, r1⟩ := rdL_at g da h1
      obtain ⟨q, ws, rfl, s2, r2⟩ := rdL_at g db h2
      have z := newL_ok g (vs := vs ++ ws) (by
        clear h h1 h2 s1 s2
        induction r1 with
        | nil => exact r2
        | cons a t ih => exact .cons a ih) h
      exact .inr (.inr (.inr ⟨p, q, vs, ws, rfl, rfl, s1, s2, by simpa using z.1, z.2⟩))
    · exact h.elim
theorem int2_ok {C : Int → Int → Prop} {f : Int → Int → V} {x y : V} {i j : Int} {ph : List Addr} {H : Hp} {K : PySem.W.Frag} {Q : VK} (da : Den K (hide ph H) x (.int i)) (db : Den K (hide ph H) y (.int j)) (hc : C i j) (hq : Q (f i j) H) : rI C f x y H Q := by
  rw [d_int da, d_int db]
  exact ⟨_, _, rfl, rfl, hc, hq⟩
theorem sub_ok : Op2 X W (rI0 fun i j => .int (i - j)) subG := by
  intro ph S H x y a b Q g da db h
  unfold subG at h
  split at h
  · rw [d_int da, d_int db]; exact ⟨_, _, rfl, rfl, fin_v g (.int _) h⟩
  · exact h.elim
theorem paired_append {α β : Type} {P : α → β → Prop} : ∀ {l l' : List α} {m m' : List β}, Paired P l m → Paired P l' m' → Paired P (l ++ l') (m ++ m')
  | _, _, _, _, .nil, s => s
  | _, _, _, _, .cons a t, s => .cons a (paired_append t s)
theorem paired_rep {α β : Type} {P : α → β → Prop} {l : List α} {m : List β} (h : Paired P l m) : ∀ k : Nat, Paired P (List.replicate k l).flatten (List.replicate k m).flatten
  | 0 => .nil
  | k + 1 => by rw [List.replicate_succ, List.replicate_succ, List.flatten_cons, List.flatten_cons]; exact paired_append h (paired_rep h k)
abbrev rMulAll : R2 := fun x y H Q => rI CMul (fun i j => .int (i * j)) x y H Q ∨ rI CMulW (fun i j => .int (i * j)) x y H Q ∨ rRep x y H Q
theorem op_mulAll : OpR X (binaryOp .Mult) rMulAll := op_mul.or (op_mulW.or op_rep)
theorem mul_ok (c : Bool) : Op2 X W rMulAll (mulG c) := by
  intro ph S H x y a b Q g da db h
  unfold mulG at h
  split at h
  · split at h
    · rename_i hc
      rcases hc with hc | hc
      · exact .inl (int2_ok da db hc (fin_v g (.int _) h))
      · exact .inr (.inl (int2_ok da db hc (fin_v g (.int _) h)))
    · exact h.elim
  · split at h
    · rename_i xs hx
      split at h
      · rename_i hk
        obtain ⟨p, vs, rfl, s1, r1⟩ := rdL_at g da hx
        rw [d_int db]
        have z := newL_ok g (paired_rep r1 _) h
        exact .inr (.inr ⟨p, _, vs, rfl, rfl, s1, hk.1, hk.2.1, by rw [r1.length]; exact hk.2.2, z.2⟩)
      · exact h.elim
    · exact h.elim
  · exact h.elim
abbrev rDivAll : R2 := fun x y H Q => rI CDiv (fun i j => .int (i / j)) x y H Q ∨ rI CDivW (fun i j => .int (i / j)) x y H Q
theorem op_divAll : OpR X (binaryOp .FloorDiv) rDivAll := op_fdiv.or op_fdivW
theorem fdiv_ok : Op2 X W rDivAll fdivG := by
  intro ph S H x y a b Q g da db h
  unfold fdivG at h
  split at h
  · split at h
    · rename_i hc
      rcases hc with hc | hc
      · exact .inl (int2_ok da db hc (fin_v g (.int _) h))
      · exact .inr (int2_ok da db hc (fin_v g (.int _) h))
    · exact h.elim
  · exact h.elim
theorem mod_ok : Op2 X W (rI (fun _ j => 0 < j) fun i j => .int (i % j)) modG := by
  intro ph S H x y a b Q g da db h
  unfold modG at h
  split at h
  · split at h
    · exact int2_ok (C := fun _ j => 0 < j) da db (by assumption) (fin_v g (.int _) h)
    · exact h.elim
  · exact h.elim
theorem pow_ok : Op2 X W (rI CPow fun i j => .int (i ^ j.toNat)) powG := by
  intro ph S H x y a b Q g da db h
  unfold powG at h
  split at h
  · split at h
    · exact int2_ok da db (by assumption) (fin_v g (.int _) h)
    · exact h.elim
  · exact h.elim
theorem neg_ok : Op1 X W (rU fun i => .int (-i)) negG := by
  intro ph S H x a Q g da h
  unfold negG at h
  split at h
  · rw [d_int da]; exact ⟨_, rfl, fin_v g (.int _) h⟩
  · exact h.elim
theorem cmp_ok {p : Int → Int → Bool} : Op2 X W (rI0 fun i j => .bl (p i j)) (cmpG p) := by
  intro ph S H x y a b Q g da db h
  unfold cmpG at h
  split at h
  · rw [d_int da, d_int db]; exact ⟨_, _, rfl, rfl, fin_v g (.bl _) h⟩
  · exact h.elim
theorem d_strH {K : PySem.W.Frag} {H : Hp} {v : V} {x : Str} (h : Den K H v (.str x)) : v = .str x := by cases h; rfl
abbrev rEqAll (K : PySem.W.Frag) : R2 := fun x y H Q => rEqD K x y H Q ∨ rEq x y H Q
abbrev rNeAll (K : PySem.W.Frag) : R2 := fun x y H Q => rNeD K x y H Q ∨ rNe x y H Q
theorem eq_ok : Op2 X W (rEqAll X.K) (eqG false) := by
  intro ph S H x y a b Q g da db h
  unfold eqG at h
  split at h
  · rename_i d e h1 h2
    have n1 := snap_ok g da h1
    have n2 := snap_ok g db h2
    unfold eqD at h
    split at h
    · rename_i r hr
      split at hr
      · rename_i s1 s2
        cases hr
        rw [d_strH n1, d_strH n2]
        refine .inr ⟨rfl, fin_v (E := W.rel ph H) g (Den.bl _) ?_⟩
        have e : decide (V.str s1 = V.str s2) = decide (s1 = s2) := by simp
        rw [e]
        simpa using h
      · split at hr
        · rename_i hp
          cases hr
          simp only [Bool.and_eq_true, plain] at hp
          exact .inl ⟨py d, py e, dp_of hp.1.1 n1, dp_of hp.2.1 n2, hp.1.2, hp.2.2, fin_v g (.bl _) h⟩
        · cases hr
    · exact h.elim
  · exact h.elim
theorem ne_ok : Op2 X W (rNeAll X.K) (eqG true) := by
  intro ph S H x y a b Q g da db h
  unfold eqG at h
  split at h
  · rename_i d e h1 h2
    have n1 := snap_ok g da h1
    have n2 := snap_ok g db h2
    unfold eqD at h
    split at h
    · rename_i r hr
      split at hr
      · rename_i s1 s2
        cases hr
        rw [d_strH n1, d_strH n2]
        refine .inr ⟨rfl, fin_v (E := W.rel ph H) g (Den.bl _) ?_⟩
        have e : decide (V.str s1 = V.str s2) = decide (s1 = s2) := by simp
        rw [e]
        simpa using h
      · split at hr
        · rename_i hp
          cases hr
          simp only [Bool.and_eq_true, plain] at hp
          exact .inl ⟨py d, py e, dp_of hp.1.1 n1, dp_of hp.2.1 n2, hp.1.2, hp.2.2, fin_v g (.bl _) h⟩
        · cases hr
    · exact h.elim
  · exact h.elim
theorem isNon_eq {K : PySem.W.Frag} {ph : List Addr} {H : Hp} {v : V} {x : SV} (h : DenS K ph H v x) : decide (v = .non) = isNon x := by
  cases x with
  | fr d => cases d <;> cases h <;> first | rfl | simp [isNon]
  | cell k => obtain ⟨p, _, rfl⟩ := h; simp [isNon]
theorem is_ok : Op2 X W (fun x y H Q => y = .non ∧ Q (.bl (decide (x = .non))) H) (isG false) := by
  intro ph S H x y a b Q g da db h
  unfold isG at h
  split at h
  · rw [d_non db, isNon_eq da]; exact ⟨rfl, fin_v g (.bl _) h⟩
  · exact h.elim
theorem isNot_ok : Op2 X W (fun x y H Q => y = .non ∧ Q (.bl (!decide (x = .non))) H) (isG true) := by
  intro ph S H x y a b Q g da db h
  unfold isG at h
  split at h
  · rw [d_non db, isNon_eq da]; exact ⟨rfl, fin_v g (.bl _) h⟩
  · exact h.elim
variable {a b : Expr} {ma mb : EM} {pos : Pos}
theorem pd_add (c : Bool) (ha : PD X W a ma) (hb : PD X W b mb) : PD X W (.BinOp a .Add b pos) (e2 (addG c) ma mb) := pd_2 op_addAll (add_ok c) ha hb
theorem pd_sub (ha : PD X W a ma) (hb : PD X W b mb) : PD X W (.BinOp a .Sub b pos) (e2 subG ma mb) := pd_2 op_sub sub_ok ha hb
theorem pd_mul (c : Bool) (ha : PD X W a ma) (hb : PD X W b mb) : PD X W (.BinOp a .Mult b pos) (e2 (mulG c) ma mb) := pd_2 op_mulAll (mul_ok c) ha hb
theorem pd_fdiv (ha : PD X W a ma) (hb : PD X W b mb) : PD X W (.BinOp a .FloorDiv b pos) (e2 fdivG ma mb) := pd_2 op_divAll fdiv_ok ha hb
theorem pd_mod (ha : PD X W a ma) (hb : PD X W b mb) : PD X W (.BinOp a .Mod b pos) (e2 modG ma mb) := pd_2 op_mod mod_ok ha hb
theorem pd_pow (ha : PD X W a ma) (hb : PD X W b mb) : PD X W (.BinOp a .Pow b pos) (e2 powG ma mb) := pd_2 op_pow pow_ok ha hb
theorem pd_neg (ha : PD X W a ma) : PD X W (.UnaryOp .USub a pos) (e1 negG ma) := pd_1 un_neg neg_ok ha
theorem pd_le (ha : PD X W a ma) (hb : PD X W b mb) : PD X W (.Compare a [.LtE] [b] pos) (e2 leG ma mb) := pd_cmp op_le cmp_ok ha hb
theorem pd_gt (ha : PD X W a ma) (hb : PD X W b mb) : PD X W (.Compare a [.Gt] [b] pos) (e2 gtG ma mb) := pd_cmp op_gt cmp_ok ha hb
theorem pd_ge (ha : PD X W a ma) (hb : PD X W b mb) : PD X W (.Compare a [.GtE] [b] pos) (e2 geG ma mb) := pd_cmp op_ge cmp_ok ha hb
theorem pd_eq (hu : X.A.units + 64 < cLine) (ha : PD X W a ma) (hb : PD X W b mb) : PD X W (.Compare a [.Eq] [b] pos) (e2 (eqG false) ma mb) := pd_cmp ((op_eqD hu).or op_eq) eq_ok ha hb
theorem pd_is (ha : PD X W a ma) (hb : PD X W b mb) : PD X W (.Compare a [.Is] [b] pos) (e2 (isG false) ma mb) := pd_cmp op_isN is_ok ha hb
end
end DL

namespace DL
open PySem L2

def truthD : D → Option Bool
  | .non => some false
  | .bl b => some b
  | .int i => some (i != 0)
  | .str x => if x.length ≤ sizeLine then some ((x.length : Int) != 0) else none
  | .tup ds => some (!ds.isEmpty)
  | .lst ds => some (!ds.isEmpty)
  | _ => none
def truth (S : Store) : SV → Option Bool
  | .fr d => truthD d
  | .cell k => match S[k]? with
    | some (.lst xs) => some (!xs.isEmpty)
    | _ => none
theorem paired_empty {α β : Type} {P : α → β → Prop} {l : List α} {m : List β} (h : Paired P l m) : l.isEmpty = m.isEmpty := by
  cases h <;> rfl
theorem dens_empty {K : PySem.W.Frag} {F : Hp} {vs : List V} {ds : List D} (h : Dens K F vs ds) : vs.isEmpty = ds.isEmpty := by
  cases h <;> rfl
theorem truth_ok {K : PySem.W.Frag} {ph : List Addr} {S : Store} {H : Hp} {v : V} {x : SV} {k : Bool} (g : Good K ph H S) (h : DenS K ph H v x) (e : truth S x = some k) : TruV K v H k := by
  cases x with
  | fr d =>
    have e : truthD d = some k := e
    cases d with
    | non => rw [d_non h]; simp [truthD] at e; exact e
    | bl b => rw [d_bl h]; simp [truthD] at e; exact e.symm
    | int i => rw [d_int h]; simp only [truthD, Option.some.injEq] at e; exact e.symm
    | str z =>
      rw [d_str h]
      simp only [truthD] at e
      split at e
      · exact ⟨by assumption, (Option.some.inj e).symm⟩
      · cases e
    | tup ds =>
      obtain ⟨a, vs, rfl, s, r⟩ := d_tup h
      simp only [truthD, Option.some.injEq] at e
      exact .inr (.inl ⟨vs, hide_sub.sqT s, by rw [← e, dens_empty r]⟩)
    | lst ds =>
      cases h with
      | lst s r =>
        simp only [truthD, Option.some.injEq] at e
        exact .inl ⟨_, .of (hide_sub _ _ s), by rw [← e, dens_empty r]⟩
    | _ => simp [truthD] at e
  | cell n =>
    obtain ⟨p, h1, rfl⟩ := h
    simp only [truth] at e
    split at e
    · rename_i xs hk
      obtain ⟨q, h3, vs, h4, h5⟩ := g.at hk
      rw [h1] at h3; cases h3
      simp only [Option.some.injEq] at e
      exact .inl ⟨_, .of h4, by rw [← e, paired_empty h5]⟩
    · cases e

section
variable {X : Cx} {W : XW X.K} {a b c : Expr} {ma mb mc : EM} {pos : Pos}
def eTr (m : EM) (t f : SV × Store → Res (SV × Store)) : EM := fun rho S => (m rho S).bind fun x => match truth x.2 x.1 with
  | some true => t x
  | some false => f x
  | none => .stuck
def eAnd (a b : EM) : EM := fun rho S => eTr a (fun x => b rho x.2) (fun x => .ok x) rho S
def eOr (a b : EM) : EM := fun rho S => eTr a (fun x => .ok x) (fun x => b rho x.2) rho S
def eNot (a : EM) : EM := fun rho S => eTr a (fun x => okV (.bl false) x.2) (fun x => okV (.bl true) x.2) rho S
abbrev SndE (X : Cx) (W : XW X.K) (t : TE) (m : EM) : Prop := ∀ (ph : List Addr) (S : Store) (H : Hp) (sg : L2.St) (rho : Slots) (Q : VK), Good X.K ph H S → SlotsOk X.K ph H sg rho →
    holds (m rho S) (post X.K ph H Q) (W.rel ph H) → t sg H Q
abbrev SndT (X : Cx) (W : XW X.K) (t : TT) (m : TM) : Prop := ∀ (ph : List Addr) (S : Store) (H : Hp) (sg : L2.St) (rho : Slots) (Q : Bool → Hp → Prop), Good X.K ph H S → SlotsOk X.K ph H sg rho →
    holds (m rho S) (postT X.K ph H Q) (W.rel ph H) → t sg H Q
theorem pd_one {op : BoolOp} (h : PD X W a ma) : PD X W (.BoolOp op [a] pos) ma := by
  obtain ⟨t, p, s⟩ := h.ex
  exact ⟨t, pe_one p, s⟩
theorem pd_and {rest : List Expr} (ha : PD X W a ma) (hb : PD X W (.BoolOp .And (b :: rest) pos) mb) : PD X W (.BoolOp .And (a :: b :: rest) pos) (eAnd ma mb) := by
  obtain ⟨ta, pa, sa⟩ := ha.ex
  obtain ⟨tb, pb, sb⟩ := hb.ex
  refine ⟨_, pe_andT pa pb, fun ph S H sg rho Q g so h => sa ph S H sg rho _ g so (holds_imp (holds_bind h) (fun x hx => ?_) fun _ _ _ q => q)⟩
  intro ph1 v1 H1 x1 g1 d1
  revert hx
  cases e : truth x.2 x.1 with
  | none => exact fun hx => hx.elim
  | some k =>
    intro hx
    refine ⟨k, truth_ok g1 d1 e, ?_⟩
    cases k with
    | true =>
      rw [if_pos rfl]
      exact sb ph1 x.2 H1 sg rho Q g1 (so.mono x1) (holds_imp hx (fun c => post.mono x1 c) fun e r s q => W.mono _ _ _ _ e r s x1 q)
    | false =>
      rw [if_neg Bool.false_ne_true]
      exact hx ph1 v1 H1 x1 g1 d1
theorem pd_or {rest : List Expr} (ha : PD X W a ma) (hb : PD X W (.BoolOp .Or (b :: rest) pos) mb) : PD X W (.BoolOp .Or (a :: b :: rest) pos) (eOr ma mb) := by
  obtain ⟨ta, pa, sa⟩ := ha.ex
  obtain ⟨tb, pb, sb⟩ := hb.ex
  refine ⟨_, pe_orT pa pb, fun ph S H sg rho Q g so h => sa ph S H sg rho _ g so (holds_imp (holds_bind h) (fun x hx => ?_) fun _ _ _ q => q)⟩
  intro ph1 v1 H1 x1 g1 d1
  revert hx
  cases e : truth x.2 x.1 with
  | none => exact fun hx => hx.elim
  | some k =>
    intro hx
    refine ⟨k, truth_ok g1 d1 e, ?_⟩
    cases k with
    | true =>
      rw [if_pos rfl]
      exact hx ph1 v1 H1 x1 g1 d1
    | false =>
      rw [if_neg Bool.false_ne_true]
      exact sb ph1 x.2 H1 sg rho Q g1 (so.mono x1) (holds_imp hx (fun c => post.mono x1 c) fun e r s q => W.mono _ _ _ _ e r s x1 q)
theorem pd_not (ha : PD X W a ma) : PD X W (.UnaryOp .Not a pos) (eNot ma) := by
  obtain ⟨ta, pa, sa⟩ := ha.ex
  refine ⟨_, pe_notT pa, fun ph S H sg rho Q g so h => sa ph S H sg rho _ g so (holds_imp (holds_bind h) (fun x hx => ?_) fun _ _ _ q => q)⟩
  intro ph1 v1 H1 x1 g1 d1
  revert hx
  cases e : truth x.2 x.1 with
  | none => exact fun hx => hx.elim
  | some k =>
    intro hx
    refine ⟨k, truth_ok g1 d1 e, ?_⟩
    cases k with
    | true => exact hx ph1 (.bl false) H1 x1 g1 (.bl _)
    | false => exact hx ph1 (.bl true) H1 x1 g1 (.bl _)

def tV (m : EM) : TM := fun rho S => (m rho S).bind fun x => match truth x.2 x.1 with
  | some k => .ok (k, x.2)
  | none => .stuck
def tB (m : EM) : TM := fun rho S => (m rho S).bind fun x => match x.1 with
  | .fr (.bl k) => .ok (k, x.2)
  | _ => .stuck
theorem pt_v (ha : PD X W a ma) (he : ∀ whole, isTrue a X.env whole = (do let v ← whole; standAt a.pos; holding [v] (truthy v)) := by intro _; rfl) : PDT X W a (tV ma) := by
  obtain ⟨ta, pa, sa⟩ := ha.ex
  refine ⟨_, pt_truth pa he, fun ph S H sg rho Q g so h => sa ph S H sg rho _ g so (holds_imp (holds_bind h) (fun x hx => ?_) fun _ _ _ q => q)⟩
  intro ph1 v1 H1 x1 g1 d1
  revert hx
  cases e : truth x.2 x.1 with
  | none => exact fun hx => hx.elim
  | some k => exact fun hx => ⟨k, truth_ok g1 d1 e, hx ph1 H1 x1 g1⟩
theorem tB_post {K : PySem.W.Frag} {ph : List Addr} {H : Hp} {Q : Bool → Hp → Prop} {E : Exc → Slots → Store → Prop} {x : SV × Store} (hx : holds (match x.1 with | .fr (.bl k) => Res.ok (k, x.2) | _ => .stuck) (postT K ph H Q) E) : post K ph H (fun y H' => ∃ k, y = .bl k ∧ Q k H') x := by
  intro ph1 v1 H1 x1 g1 d1
  obtain ⟨sv, S'⟩ := x
  dsimp only at *
  split at hx
  · exact ⟨_, d_bl d1, hx ph1 H1 x1 g1⟩
  · exact hx.elim
theorem pt_of {r : TE} {m : EM} (hp : PT X a (tTest r)) (hs : SndE X W r m) : PDT X W a (tB m) :=
  ⟨_, hp, fun ph S H sg rho Q g so h => hs ph S H sg rho _ g so (holds_imp (holds_bind h) (fun x hx => tB_post hx) fun _ _ _ q => q)⟩
theorem pt_2 {op : CmpOp} {r : R2} {g : G2} (ho : OpR X (compareOp op) r) (hr : Op2 X W r g) (ha : PD X W a ma) (hb : PD X W b mb) (hm : behindInMarks op b = false := by first | exact nomark _ | rfl) : PDT X W (.Compare a [op] [b] pos) (tB (e2 g ma mb)) := by
  obtain ⟨ta, pa, sa⟩ := ha.ex
  obtain ⟨tb, pb, sb⟩ := hb.ex
  exact pt_of (pt_cmpR ho pa pb hm) fun ph S H sg rho Q gd so h => snd2 sa sb hr ph S H sg rho Q gd so h
theorem pt_lt (ha : PD X W a ma) (hb : PD X W b mb) : PDT X W (.Compare a [.Lt] [b] pos) (tB (e2 ltG ma mb)) := pt_2 op_lt cmp_ok ha hb
theorem pt_le (ha : PD X W a ma) (hb : PD X W b mb) : PDT X W (.Compare a [.LtE] [b] pos) (tB (e2 leG ma mb)) := pt_2 op_le cmp_ok ha hb
theorem pt_gt (ha : PD X W a ma) (hb : PD X W b mb) : PDT X W (.Compare a [.Gt] [b] pos) (tB (e2 gtG ma mb)) := pt_2 op_gt cmp_ok ha hb
theorem pt_ge (ha : PD X W a ma) (hb : PD X W b mb) : PDT X W (.Compare a [.GtE] [b] pos) (tB (e2 geG ma mb)) := pt_2 op_ge cmp_ok ha hb
theorem pt_eq (hu : X.A.units + 64 < cLine) (ha : PD X W a ma) (hb : PD X W b mb) : PDT X W (.Compare a [.Eq] [b] pos) (tB (e2 (eqG false) ma mb)) := pt_2 ((op_eqD hu).or op_eq) eq_ok ha hb
theorem pt_ne (hu : X.A.units + 64 < cLine) (ha : PD X W a ma) (hb : PD X W b mb) : PDT X W (.Compare a [.NotEq] [b] pos) (tB (e2 (eqG true) ma mb)) := pt_2 ((op_neD hu).or op_ne) ne_ok ha hb
theorem pt_is (ha : PD X W a ma) (hb : PD X W b mb) : PDT X W (.Compare a [.Is] [b] pos) (tB (e2 (isG false) ma mb)) := pt_2 op_isN is_ok ha hb
theorem pt_isnot (ha : PD X W a ma) (hb : PD X W b mb) : PDT X W (.Compare a [.IsNot] [b] pos) (tB (e2 (isG true) ma mb)) := pt_2 op_notN isNot_ok ha hb
def eCh (g g' : G2) (a b c : EM) : EM := fun rho S => (a rho S).bind fun x => (b rho x.2).bind fun y => (g x.1 y.1 y.2).bind fun z => match z.1 with
  | .fr (.bl true) => (c rho z.2).bind fun w => g' y.1 w.1 w.2
  | .fr (.bl false) => okV (.bl false) z.2
  | _ => .stuck
theorem ch_snd {ta tb tc : TE} {r r' : R2} {g g' : G2} (sa : SndE X W ta ma) (sb : SndE X W tb mb) (sc : SndE X W tc mc) (hr : Op2 X W r g) (hr' : Op2 X W r' g') : SndE X W (tChain r r' ta tb tc) (eCh g g' ma mb mc) := by
  intro ph S H sg rho Q gd so h
  refine sa ph S H sg rho _ gd so (holds_imp (holds_bind h) (fun x hx => ?_) fun _ _ _ q => q)
  intro ph1 v1 H1 x1 g1 d1
  refine sb ph1 x.2 H1 sg rho _ g1 (so.mono x1) (holds_imp (holds_bind hx) (fun y hy => ?_) fun e r s q => W.mono _ _ _ _ e r s x1 q)
  intro ph2 v2 H2 x2 g2 d2
  refine hr ph2 y.2 H2 v1 v2 x.1 y.1 _ g2 (d1.mono x2) d2 (holds_imp (holds_bind hy) (fun z hz => ?_) fun e r s q => W.mono _ _ _ _ e r s (x1.trans x2) q)
  intro ph3 v3 H3 x3 g3 d3
  have x13 := x1.trans (x2.trans x3)
  obtain ⟨zv, zs⟩ := z
  dsimp only at *
  split at hz
  · refine ⟨true, d_bl d3, ?_⟩
    rw [if_pos rfl]
    refine sc ph3 zs H3 sg rho _ g3 (so.mono x13) (holds_imp (holds_bind hz) (fun w hw => ?_) fun e r s q => W.mono _ _ _ _ e r s x13 q)
    intro ph4 v4 H4 x4 g4 d4
    exact hr' ph4 w.2 H4 v2 v4 y.1 w.1 Q g4 (d2.mono (x3.trans x4)) d4 (holds_imp hw (fun c => post.mono (x13.trans x4) c) fun e r s q => W.mono _ _ _ _ e r s (x13.trans x4) q)
  · refine ⟨false, d_bl d3, ?_⟩
    rw [if_neg Bool.false_ne_true]
    exact hz ph3 (.bl false) H3 x13 g3 (.bl _)
  · exact hz.elim
theorem pd_ch {op op' : CmpOp} {r r' : R2} {g g' : G2} (ho : OpR X (compareOp op) r) (ho' : OpR X (compareOp op') r') (hr : Op2 X W r g) (hr' : Op2 X W r' g') (ha : PD X W a ma) (hb : PD X W b mb) (hc : PD X W c mc)
    (hm : lastMarks [op, op'] [b, c] = false := by with_unfolding_all rfl) : PD X W (.Compare a [op, op'] [b, c] pos) (eCh g g' ma mb mc) := by
  obtain ⟨ta, pa, sa⟩ := ha.ex
  obtain ⟨tb, pb, sb⟩ := hb.ex
  obtain ⟨tc, pc, sc⟩ := hc.ex
  exact ⟨_, pe_chain ho ho' pa pb pc hm, ch_snd sa sb sc hr hr'⟩
theorem pt_ch {op op' : CmpOp} {r r' : R2} {g g' : G2} (ho : OpR X (compareOp op) r) (ho' : OpR X (compareOp op') r') (hr : Op2 X W r g) (hr' : Op2 X W r' g') (ha : PD X W a ma) (hb : PD X W b mb) (hc : PD X W c mc)
    (hm : lastMarks [op, op'] [b, c] = false := by with_unfolding_all rfl) : PDT X W (.Compare a [op, op'] [b, c] pos) (tB (eCh g g' ma mb mc)) := by
  obtain ⟨ta, pa, sa⟩ := ha.ex
  obtain ⟨tb, pb, sb⟩ := hb.ex
  obtain ⟨tc, pc, sc⟩ := hc.ex
  exact pt_of (pt_chain ho ho' pa pb pc hm) (ch_snd sa sb sc hr hr')
structure PDW (X : Cx) (W : XW X.K) (e : Expr) (m : TM) : Prop where
  ex : ∃ t, PW X e t ∧ SndT X W t m
def tNt (m : TM) : TM := fun rho S => (m rho S).bind fun x => .ok (!x.1, x.2)
def tAn (m n : TM) : TM := fun rho S => (m rho S).bind fun x => if x.1 then n rho x.2 else .ok (false, x.2)
def tOo (m n : TM) : TM := fun rho S => (m rho S).bind fun x => if x.1 then .ok (true, x.2) else n rho x.2
theorem pt_w {m : TM} (h : PDW X W a m) : PDT X W a m := by
  obtain ⟨t, p, s⟩ := h.ex
  exact ⟨t, p.pt, s⟩
theorem pt_nt {m : TM} (h : PDT X W a m) : PDT X W (.UnaryOp .Not a pos) (tNt m) := by
  obtain ⟨t, p, s⟩ := h.ex
  refine ⟨_, pt_not p, fun ph S H sg rho Q g so h => s ph S H sg rho _ g so (holds_imp (holds_bind h) (fun x hx => ?_) fun _ _ _ q => q)⟩
  exact fun ph1 H1 x1 g1 => hx ph1 H1 x1 g1
theorem pw_a1 {m : TM} (h : PDT X W a m) : PDW X W (.BoolOp .And [a] pos) m := by
  obtain ⟨t, p, s⟩ := h.ex
  exact ⟨t, pw_and1 p, s⟩
theorem pw_o1 {m : TM} (h : PDT X W a m) : PDW X W (.BoolOp .Or [a] pos) m := by
  obtain ⟨t, p, s⟩ := h.ex
  exact ⟨t, pw_or1 p, s⟩
theorem pw_a {m n : TM} {rest : List Expr} (h : PDT X W a m) (h2 : PDW X W (.BoolOp .And (b :: rest) pos) n) : PDW X W (.BoolOp .And (a :: b :: rest) pos) (tAn m n) := by
  obtain ⟨t, p, s⟩ := h.ex
  obtain ⟨t2, p2, s2⟩ := h2.ex
  refine ⟨_, pw_and p p2, fun ph S H sg rho Q g so h => s ph S H sg rho _ g so (holds_imp (holds_bind h) (fun x hx => ?_) fun _ _ _ q => q)⟩
  intro ph1 H1 x1 g1
  obtain ⟨k, S1⟩ := x
  cases k with
  | true => exact s2 ph1 S1 H1 sg rho Q g1 (so.mono x1) (holds_imp hx (fun c => postT.mono x1 c) fun e r s q => W.mono _ _ _ _ e r s x1 q)
  | false => exact hx ph1 H1 x1 g1
theorem pw_o {m n : TM} {rest : List Expr} (h : PDT X W a m) (h2 : PDW X W (.BoolOp .Or (b :: rest) pos) n) : PDW X W (.BoolOp .Or (a :: b :: rest) pos) (tOo m n) := by
  obtain ⟨t, p, s⟩ := h.ex
  obtain ⟨t2, p2, s2⟩ := h2.ex
  refine ⟨_, pw_or p p2, fun ph S H sg rho Q g so h => s ph S H sg rho _ g so (holds_imp (holds_bind h) (fun x hx => ?_) fun _ _ _ q => q)⟩
  intro ph1 H1 x1 g1
  obtain ⟨k, S1⟩ := x
  cases k with
  | false => exact s2 ph1 S1 H1 sg rho Q g1 (so.mono x1) (holds_imp hx (fun c => postT.mono x1 c) fun e r s q => W.mono _ _ _ _ e r s x1 q)
  | true => exact hx ph1 H1 x1 g1
def eIf (t : TM) (a b : EM) : EM := fun rho S => (t rho S).bind fun x => if x.1 then a rho x.2 else b rho x.2
theorem pd_if {m : TM} (ht : PDT X W c m) (ha : PD X W a ma) (hb : PD X W b mb) : PD X W (.IfExp c a b pos) (eIf m ma mb) := by
  obtain ⟨t, p, s⟩ := ht.ex
  obtain ⟨ta, pa, sa⟩ := ha.ex
  obtain ⟨tb, pb, sb⟩ := hb.ex
  refine ⟨_, pe_ifExp p pa pb, fun ph S H sg rho Q g so h => s ph S H sg rho _ g so (holds_imp (holds_bind h) (fun x hx => ?_) fun _ _ _ q => q)⟩
  intro ph1 H1 x1 g1
  obtain ⟨k, S1⟩ := x
  have up : ∀ {r : Res (SV × Store)}, holds r (post X.K ph H Q) (W.rel ph H) → holds r (post X.K ph1 H1 Q) (W.rel ph1 H1) := fun q => holds_imp q (fun c => post.mono x1 c) fun e r s q => W.mono _ _ _ _ e r s x1 q
  cases k with
  | true => exact sa ph1 S1 H1 sg rho Q g1 (so.mono x1) (up hx)
  | false => exact sb ph1 S1 H1 sg rho Q g1 (so.mono x1) (up hx)
end
end DL

namespace DL
open PySem L2

theorem atI_pair {α β : Type} {P : α → β → Prop} {l : List α} {m : List β} {i : Int} {b : β} (h : Paired P l m) (e : atI m i = some b) : ∃ a, atI l i = some a ∧ P a b := by
  unfold atI at e ⊢
  rw [h.length]
  cases q : ixN m.length i with
  | none => rw [q] at e; simp at e
  | some j =>
    rw [q] at e
    exact paired_get h (by simpa using e)
def cutA {α : Type} (xs : List α) (lo hi : Option Int) : List α := (xs.drop (HT.sIx xs.length 0 lo)).take (HT.sIx xs.length xs.length hi - HT.sIx xs.length 0 lo)
theorem paired_drop {α β : Type} {P : α → β → Prop} : ∀ {l : List α} {m : List β} (n : Nat), Paired P l m → Paired P (l.drop n) (m.drop n)
  | _, _, 0, r => r
  | _, _, _ + 1, .nil => .nil
  | _, _, n + 1, .cons _ r => paired_drop n r
theorem paired_take {α β : Type} {P : α → β → Prop} : ∀ {l : List α} {m : List β} (n : Nat), Paired P l m → Paired P (l.take n) (m.take n)
  | _, _, 0, _ => .nil
  | _, _, _ + 1, .nil => .nil
  | _, _, n + 1, .cons a r => .cons a (paired_take n r)
theorem paired_cut {α β : Type} {P : α → β → Prop} {l : List α} {m : List β} (h : Paired P l m) (lo hi : Option Int) : Paired P (cutA l lo hi) (cutA m lo hi) := by
  unfold cutA
  rw [h.length]
  exact paired_take _ (paired_drop _ h)
def newL0 (m : Bool) (xs : List SV) (S : Store) : Res (SV × Store) := if m then .ok (.cell S.length, S ++ [.lst xs]) else match allFr xs with
  | some ds => .ok (.fr (.lst ds), S)
  | none => .stuck
theorem newL0_ok {K : PySem.W.Frag} {ph : List Addr} {H : Hp} {S : Store} {vs : List V} {xs : List SV} {m : Bool} {Q : VK} {E : Exc → Slots → Store → Prop} (g : Good K ph H S) (d : DenSs K ph H vs xs) (h : holds (newL0 m xs S) (post K ph H Q) E) :
    ∀ p, H p = none → Q (.ref p) (upd H p (.lst vs)) := fun p hp => by
  unfold newL0 at h
  cases m with
  | true =>
    have e : Ext ph H (ph ++ [p]) (upd H p (.lst vs)) := Ext.cell hp
    exact h (ph ++ [p]) (.ref p) _ e (g.cell hp ⟨vs, upd_same, d.mono e⟩) ⟨p, by rw [← g.len]; simp, rfl⟩
  | false =>
    simp only [Bool.false_eq_true, if_false] at h
    split at h
    · rename_i ds hd
      have e : Ext ph H ph (upd H p (.lst vs)) := Ext.fresh hp
      refine h ph (.ref p) _ e (g.fresh hp) (.lst (vs := vs) (hide_of (g.new hp) upd_same) ?_)
      have d' := d.mono e
      rw [allFr_eq hd] at d'
      exact dens_of d'
    · exact h.elim
section
variable {X : Cx} {W : XW X.K} {a b c : Expr} {ma mb mc : EM} {pos : Pos}

def ixG : G2 := fun a b S => match b with
  | .fr (.int i) => match rdS S a with
    | some xs => match atI xs i with
      | some x => .ok (x, S)
      | none => .stuck
    | none => match a with
      | .fr (.tup ds) => match atI ds i with
        | some d => okV d S
        | none => .stuck
      | .fr (.str z) => if z.length ≤ sizeLine then match atI z.cps.toList i with
        | some c => okV (.str ⟨#[c]⟩) S
        | none => .stuck else .stuck
      | _ => .stuck
  | _ => .stuck
theorem atI_dens {K : PySem.W.Frag} {F : Hp} {vs : List V} {ds : List D} {i : Int} {d : D} (h : Dens K F vs ds) (e : atI ds i = some d) : ∃ v, atI vs i = some v ∧ Den K F v d := by
  unfold atI at e ⊢
  rw [h.len]
  cases q : ixN ds.length i with
  | none => rw [q] at e; simp at e
  | some j =>
    rw [q] at e
    exact h.get (by simpa using e)
theorem ix_ok : Op2 X W (rIx X.K) ixG := by
  intro ph S H x y a b Q g da db h
  unfold ixG at h
  split at h
  · rw [d_int db]
    split at h
    · rename_i xs hx
      obtain ⟨p, vs, rfl, s, r⟩ := rdS_ok g da hx
      split at h
      · rename_i z hz
        obtain ⟨v, hv, dv⟩ := atI_pair r hz
        exact .inl ⟨p, vs, _, v, rfl, rfl, s, hv, h ph v H (Ext.refl _ _) g dv⟩
      · exact h.elim
    · split at h
      · obtain ⟨p, vs, rfl, s, r⟩ := d_tup da
        split at h
        · rename_i d hd
          obtain ⟨v, hv, dv⟩ := atI_dens r hd
          exact .inr (.inl ⟨p, vs, _, v, rfl, rfl, hide_sub.sqT s, hv, h ph v H (Ext.refl _ _) g dv⟩)
        · exact h.elim
      · rw [d_str da]
        split at h
        · split at h
          · rename_i hz _ c hc
            exact .inr (.inr ⟨_, _, c, rfl, rfl, hz, hc, fin_v g (.str _) h⟩)
          · exact h.elim
        · exact h.elim
      · exact h.elim
  · exact h.elim
theorem pd_ix (ha : PD X W a ma) (hb : PD X W b mb) (hs : PlainIx b := by intro _ _; rfl) : PD X W (.Subscript a b pos) (e2 ixG ma mb) := by
  obtain ⟨ta, pa, sa⟩ := ha.ex
  obtain ⟨tb, pb, sb⟩ := hb.ex
  exact ⟨_, pe_ix ix_seq pa pb hs, fun ph S H sg rho Q gd so h => snd2 sa sb ix_ok ph S H sg rho Q gd so h⟩

abbrev PM := Slots → Store → Res (Option Int × Store)
def postP (K : PySem.W.Frag) (ph : List Addr) (H : Hp) (Q : Option Int → Hp → Prop) : Option Int × Store → Prop := fun r => ∀ ph' H', Ext ph H ph' H' → Good K ph' H' r.2 → Q r.1 H'
structure PDO (X : Cx) (W : XW X.K) (e : Option Expr) (m : PM) : Prop where
  ex : ∃ t, PO X e t ∧ ∀ (ph : List Addr) (S : Store) (H : Hp) (sg : L2.St) (rho : Slots) (Q : Option Int → Hp → Prop), Good X.K ph H S → SlotsOk X.K ph H sg rho →
    holds (m rho S) (postP X.K ph H Q) (W.rel ph H) → t sg H Q
def pN : PM := fun _ S => .ok (none, S)
def pS (m : EM) : PM := fun rho S => (m rho S).bind fun x => match x.1 with
  | .fr (.int i) => .ok (some i, x.2)
  | _ => .stuck
theorem po_n : PDO X W none pN := ⟨_, po_none, fun ph S H sg rho Q g so h => h ph H (Ext.refl _ _) g⟩
theorem po_s (ha : PD X W a ma) : PDO X W (some a) (pS ma) := by
  obtain ⟨ta, pa, sa⟩ := ha.ex
  refine ⟨_, po_some pa, fun ph S H sg rho Q g so h => sa ph S H sg rho _ g so (holds_imp (holds_bind h) (fun x hx => ?_) fun _ _ _ q => q)⟩
  intro ph1 v1 H1 x1 g1 d1
  obtain ⟨sv, S1⟩ := x
  dsimp only at *
  split at hx
  · exact ⟨_, d_int d1, hx ph1 H1 x1 g1⟩
  · exact hx.elim
def slG (c : Bool) (a : SV) (lo hi : Option Int) (S : Store) : Res (SV × Store) := match rdS S a with
  | some xs => newL0 c (cutA xs lo hi) S
  | none => match a with
    | .fr (.tup ds) => okV (.tup (cutA ds lo hi)) S
    | .fr (.str z) => if z.length ≤ sizeLine then okV (.str (cutS z lo hi)) S else .stuck
    | _ => .stuck
abbrev rSlAll (K : PySem.W.Frag) : V → Option Int → Option Int → Hp → VK → Prop := fun x lo hi H Q => rSlL K x lo hi H Q ∨ rSlA K x lo hi H Q ∨ rSlS x lo hi H Q
theorem sl_all : SlR X (rSlAll X.K) := sl_list.or (sl_tupA.or sl_str)
theorem dens_cut {K : PySem.W.Frag} {F : Hp} {vs : List V} {ds : List D} (h : Dens K F vs ds) (lo hi : Option Int) : Dens K F (cutA vs lo hi) (cutA ds lo hi) := by
  unfold cutA
  rw [h.len]
  exact (h.drop _).take _
theorem sl_ok {c : Bool} {ph : List Addr} {S : Store} {H : Hp} {x : V} {a : SV} {lo hi : Option Int} {Q : VK} (g : Good X.K ph H S) (da : DenS X.K ph H x a) (h : holds (slG c a lo hi S) (post X.K ph H Q) (W.rel ph H)) : rSlAll X.K x lo hi H Q := by
  unfold slG at h
  split at h
  · rename_i xs hx
    obtain ⟨p, vs, rfl, s, r⟩ := rdS_ok g da hx
    exact .inl ⟨p, vs, rfl, s, newL0_ok g (paired_cut r lo hi) h⟩
  · split at h
    · rename_i ds _
      obtain ⟨p, vs, rfl, s, r⟩ := d_tupH da
      refine .inr (.inl ⟨p, vs, rfl, hide_sub.sqT (.inl (.inl s)), fun hw => ?_, fun hw t ht => ?_⟩)
      · have e : cutA ds lo hi = ds := by
          unfold cutA
          rw [← r.len, hw.1, hw.2, r.len]
          simp
        rw [e] at h
        exact fin_v g (.tup s r) h
      · have e : Ext ph H ph (upd H t (.tup (cutV vs lo hi))) := Ext.fresh ht
        exact h ph (.ref t) _ e (g.fresh ht) (.tup (hide_of (g.new ht) upd_same) (dens_cut (r.mono e.sub) lo hi))
    · rw [d_str da]
      split at h
      · exact .inr (.inr ⟨_, rfl, by assumption, fin_v g (.str _) h⟩)
      · exact h.elim
    · exact h.elim
def eSl (c : Bool) (a : EM) (lo hi : PM) : EM := fun rho S => (a rho S).bind fun x => (lo rho x.2).bind fun l => (hi rho l.2).bind fun u => slG c x.1 l.1 u.1 u.2
theorem pd_sl (c : Bool) {lo hi : Option Expr} {ml mh : PM} {p2 : Pos} (ha : PD X W a ma) (hl : PDO X W lo ml) (hh : PDO X W hi mh) : PD X W (.Subscript a (.Slice lo hi none p2) pos) (eSl c ma ml mh) := by
  obtain ⟨ta, pa, sa⟩ := ha.ex
  obtain ⟨tl, pl, sl⟩ := hl.ex
  obtain ⟨tu, pu, su⟩ := hh.ex
  refine ⟨_, pe_slice sl_all pa pl pu, fun ph S H sg rho Q g so h => sa ph S H sg rho _ g so (holds_imp (holds_bind h) (fun x hx => ?_) fun _ _ _ q => q)⟩
  intro ph1 v1 H1 x1 g1 d1
  refine sl ph1 x.2 H1 sg rho _ g1 (so.mono x1) (holds_imp (holds_bind hx) (fun y hy => ?_) fun e r s q => W.mono _ _ _ _ e r s x1 q)
  intro ph2 H2 x2 g2
  refine su ph2 y.2 H2 sg rho _ g2 (so.mono (x1.trans x2)) (holds_imp (holds_bind hy) (fun z hz => ?_) fun e r s q => W.mono _ _ _ _ e r s (x1.trans x2) q)
  intro ph3 H3 x3 g3
  have x13 := x1.trans (x2.trans x3)
  exact sl_ok (W := W) g3 (d1.mono (x2.trans x3)) (holds_imp hz (fun c => post.mono x13 c) fun e r s q => W.mono _ _ _ _ e r s x13 q)

theorem pd_callB {x : Str} {p : Pos} {id : String} {es : List Expr} {m : AM} {r : List V → Hp → VK → Prop} {g : GA} (hc : CallR X (.builtin id) r) (hr : OpA X W r g) (hm : X.mg x = none) (hv : bootBuiltins x = some (.builtin id)) (ha : PDA X W (a :: es) m) (hg : Gl X x := by rfl)
    (hn : x ≠ "__name__" := by decide) (hdb : (x == ("__debug__" : Str)) = false := by decide)
    (he : starEach (a :: es) X.env = (false, eval a X.env) :: starEach es X.env := by rfl) (hpl : (backTo pos (starEach es X.env)).any (·.1) = false := by rfl) : PD X W (.Call (.Name x p) (a :: es) [] pos) (eA g m) := by
  obtain ⟨t, pa, sa⟩ := ha.ex
  exact ⟨_, pe_callB hc hg hm hv pa hn hdb he hpl, fun ph S H sg rho Q gd so h => sndA (r := r) sa hr ph S H sg rho Q gd so h⟩
theorem pd_callTy {x : Str} {p : Pos} {T : String} {es : List Expr} {m : AM} {r : List V → Hp → VK → Prop} {g : GA} (hc : CallR X (.type T) r) (hr : OpA X W r g) (hm : X.mg x = none) (hv : bootBuiltins x = some (.type T)) (ha : PDA X W (a :: es) m) (hg : Gl X x := by rfl)
    (hn : x ≠ "__name__" := by decide) (hdb : (x == ("__debug__" : Str)) = false := by decide)
    (he : starEach (a :: es) X.env = (false, eval a X.env) :: starEach es X.env := by rfl) (hpl : (backTo pos (starEach es X.env)).any (·.1) = false := by rfl) : PD X W (.Call (.Name x p) (a :: es) [] pos) (eA g m) := by
  obtain ⟨t, pa, sa⟩ := ha.ex
  exact ⟨_, pe_callTy hc hg hm hv pa hn hdb he hpl, fun ph S H sg rho Q gd so h => sndA (r := r) sa hr ph S H sg rho Q gd so h⟩
theorem one_of {K : PySem.W.Frag} {ph : List Addr} {H : Hp} {vs : List V} {x : SV} (h : DenSs K ph H vs [x]) : ∃ v, vs = [v] ∧ DenS K ph H v x := by
  cases h with
  | cons h t => cases t; exact ⟨_, rfl, h⟩
theorem two_of {K : PySem.W.Frag} {ph : List Addr} {H : Hp} {vs : List V} {x y : SV} (h : DenSs K ph H vs [x, y]) : ∃ v u, vs = [v, u] ∧ DenS K ph H v x ∧ DenS K ph H u y := by
  cases h with
  | cons h t =>
    obtain ⟨u, rfl, q⟩ := one_of t
    exact ⟨_, u, rfl, h, q⟩
def lenS (S : Store) (a : SV) : Option Nat := match rdS S a with
  | some xs => some xs.length
  | none => match a with
    | .fr (.tup ds) => some ds.length
    | .fr (.str z) => if z.length ≤ sizeLine then some z.length else none
    | _ => none
theorem lenS_ok {K : PySem.W.Frag} {ph : List Addr} {S : Store} {H : Hp} {v : V} {x : SV} {n : Nat} (g : Good K ph H S) (h : DenS K ph H v x) (e : lenS S x = some n) : LenV K v H n := by
  unfold lenS at e
  split at e
  · rename_i xs hx
    obtain ⟨p, vs, rfl, s, r⟩ := rdS_ok g h hx
    cases e
    exact .inl ⟨vs, s, r.length.symm⟩
  · split at e
    · obtain ⟨p, vs, rfl, s, r⟩ := d_tup h
      cases e
      exact .inr ⟨vs, hide_sub.sqT s, r.len.symm⟩
    · rw [d_str h]
      split at e
      · cases e; exact ⟨by assumption, rfl⟩
      · cases e
    · cases e
def lenG : GA := fun as S => match as with
  | [a] => match lenS S a with
    | some n => okV (.int n) S
    | none => .stuck
  | _ => .stuck
theorem len_ok : OpA X W (fun xs H Q => ∃ x n, xs = [x] ∧ LenV X.K x H n ∧ Q (.int n) H) lenG := by
  intro ph S H xs as Q g d h
  unfold lenG at h
  split at h
  · obtain ⟨v, rfl, dv⟩ := one_of d
    split at h
    · rename_i n hn
      exact ⟨v, n, rfl, lenS_ok g dv hn, fin_v g (.int _) h⟩
    · exact h.elim
  · exact h.elim
def absG : GA := fun as S => match as with
  | [.fr (.int i)] => okV (.int (if i < 0 then -i else i)) S
  | _ => .stuck
theorem abs_ok : OpA X W (fun xs H Q => ∃ i, xs = [.int i] ∧ Q (.int (if i < 0 then -i else i)) H) absG := by
  intro ph S H xs as Q g d h
  unfold absG at h
  split at h
  · obtain ⟨v, rfl, dv⟩ := one_of d
    rw [d_int dv]
    exact ⟨_, rfl, fin_v g (.int _) h⟩
  · exact h.elim
def intG : GA := fun as S => match as with
  | [.fr (.int i)] => okV (.int i) S
  | [.fr (.bl k)] => okV (.int (if k then 1 else 0)) S
  | _ => .stuck
theorem int_ok : OpA X W (fun xs H Q => (∃ i, xs = [.int i] ∧ Q (.int i) H) ∨ ∃ k, xs = [.bl k] ∧ Q (.int (if k then 1 else 0)) H) intG := by
  intro ph S H xs as Q g d h
  unfold intG at h
  split at h
  · obtain ⟨v, rfl, dv⟩ := one_of d
    rw [d_int dv]
    exact .inl ⟨_, rfl, fin_v g (.int _) h⟩
  · obtain ⟨v, rfl, dv⟩ := one_of d
    rw [d_bl dv]
    exact .inr ⟨_, rfl, fin_v g (.int _) h⟩
  · exact h.elim
def max2G : GA := fun as S => match as with
  | [.fr (.int i), .fr (.int j)] => okV (.int (if j > i then j else i)) S
  | _ => .stuck
def min2G : GA := fun as S => match as with
  | [.fr (.int i), .fr (.int j)] => okV (.int (if j < i then j else i)) S
  | _ => .stuck
theorem max2_ok : OpA X W (fun xs H Q => ∃ i j, xs = [.int i, .int j] ∧ Q (.int (if j > i then j else i)) H) max2G := by
  intro ph S H xs as Q g d h
  unfold max2G at h
  split at h
  · obtain ⟨v, u, rfl, dv, du⟩ := two_of d
    rw [d_int dv, d_int du]
    exact ⟨_, _, rfl, fin_v g (.int _) h⟩
  · exact h.elim
theorem min2_ok : OpA X W (fun xs H Q => ∃ i j, xs = [.int i, .int j] ∧ Q (.int (if j < i then j else i)) H) min2G := by
  intro ph S H xs as Q g d h
  unfold min2G at h
  split at h
  · obtain ⟨v, u, rfl, dv, du⟩ := two_of d
    rw [d_int dv, d_int du]
    exact ⟨_, _, rfl, fin_v g (.int _) h⟩
  · exact h.elim
abbrev rRepr (K : PySem.W.Frag) : List V → Hp → VK → Prop := fun xs H Q => ∃ x d, xs = [x] ∧ Dp K H x d ∧ d.showable = true ∧ d.hasDict = false ∧ SeqAt.shaped d = true ∧ d.shown.length ≤ sizeLine ∧ Q (.str d.shown) H
theorem call_reprD (hg : X.A.guards = some []) (hu : X.A.units + 80 < cLine) : CallR X (.builtin "repr") (rRepr X.K) := by
  intro pins s sg H xs us Q I r h
  obtain ⟨x, d, rfl, hd, h1, h2, h4, h3, q⟩ := h
  have hdep := SeqAt.depth_of_shaped h4
  obtain ⟨u, rfl, rx⟩ := vals1 r
  obtain ⟨as, rd⟩ := Dp.reads I d x u hd rx
  have go : ∀ a, u = .ref a → wpAny (model X.prog X.w) X.A (call (.builtin "repr") [u]) (EP X pins sg Q) X.xe s := by
    rintro a rfl
    refine repr_of_reads' rd h1 (PyData.noDict_hsm h2) hg (by omega) (fun _ _ e => e) (fun h' u tk hk => ?_) h3
    exact ⟨.str d.shown, H, I.kept hk, ⟨_, rfl⟩, q⟩
  cases hd with
  | non => cases rx; exact PySem.P.repr_of_none ⟨.str _, H, I.tok _, ⟨_, rfl⟩, by simpa only [PyData.shown] using q⟩
  | bl b => cases rx; exact PySem.P.repr_of_bool ⟨.str _, H, I.tok _, ⟨_, rfl⟩, by cases b <;> simpa [PyData.shown] using q⟩
  | int i =>
    obtain ⟨t, rfl⟩ := rx
    exact PySem.P.repr_of_int (by simpa [PyData.showable] using h1) ⟨.str _, H, I.tok _, ⟨_, rfl⟩, by simpa only [PyData.shown] using q⟩
  | str z =>
    obtain ⟨t, rfl⟩ := rx
    exact PySem.P.repr_of_str ⟨.str _, H, I.tok _, ⟨_, rfl⟩, by simpa only [PyData.shown] using q⟩ (by simpa only [PyData.shown] using h3)
  | lst _ _ => cases rx; exact go _ rfl
  | tup _ _ => cases rx; exact go _ rfl
def reprG : GA := fun as S => match as with
  | [a] => match snap S a with
    | some d => if plain d && rOk d then okV (.str (rTxt d)) S else .stuck
    | none => .stuck
  | _ => .stuck
theorem repr_ok : OpA X W (rRepr X.K) reprG := by
  intro ph S H xs as Q g d h
  unfold reprG at h
  split at h
  · obtain ⟨v, rfl, dv⟩ := one_of d
    split at h
    · rename_i e he
      split at h
      · rename_i hp
        simp only [Bool.and_eq_true] at hp
        obtain ⟨h1, h2⟩ := hp
        have h3 := rOk_len h2
        unfold rOk at h2
        simp only [Bool.and_eq_true, decide_eq_true_eq] at h2
        unfold plain at h1
        simp only [Bool.and_eq_true] at h1
        exact ⟨v, py e, rfl, dp_of h1.1 (snap_ok g dv he), h2.1.1.2, py_nodict e, h1.2, h3, fin_v g (.str _) h⟩
      · exact h.elim
    · exact h.elim
  · exact h.elim
end
end DL

namespace DL
open PySem PySem.Spec PyProof.Rows L2

inductive RV where
  | val (x : SV) | new (c : Cell)
abbrev FnM := List SV → Store → Res (RV × Store)
inductive Fl where
  | nx | bk | ct | rt (x : SV)
abbrev SM := Slots → Store → Res (Fl × Slots × Store)
def SV.below (n : Nat) : SV → Bool
  | .fr _ => true
  | .cell k => decide (k < n)
def Cell.below (n : Nat) : Cell → Bool
  | .lst xs => xs.all (SV.below n)
  | .ins _ fs => fs.all fun p => p.2.below n
  | .tup xs => xs.all (SV.below n)
  | .dic kvs => kvs.all fun p => p.2.below n
  | .dit kvs => kvs.all fun p => p.2.below n
  | .dil kvs => kvs.all fun p => p.2.below n
  | .dkl kvs => kvs.all fun p => p.2.below n
  | .err _ => true
  | .nd _ => true
theorem below_map (n : Nat) (ds : List D) : (ds.map SV.fr).all (SV.below n) = true := by
  simp [SV.below]
def frzC (S : Store) (n : Nat) : SV → Option D
  | .fr d => some d
  | .cell j => if n ≤ j then (match S[j]? with
    | some (.lst ys) => (allFr ys).map D.lst
    | _ => none) else none
def frzA (S : Store) (n : Nat) : List SV → Option (List D)
  | [] => some []
  | x :: xs => match frzC S n x, frzA S n xs with
    | some d, some ds => some (d :: ds)
    | _, _ => none
def leaveT (S : Store) (n : Nat) : Cell → Res (RV × Store)
  | .tup xs => match frzA S n xs with
    | some ds => .ok (.val (.fr (.tup ds)), S.take n)
    | none => .stuck
  | _ => .stuck
def leave (n : Nat) (x : SV) (S : Store) : Res (RV × Store) := if (S.take n).all (Cell.below n) then (match x with
  | .fr d => .ok (.val (.fr d), S.take n)
  | .cell k => if k < n then .ok (.val (.cell k), S.take n) else match S[k]? with
    | some c => if c.below n then .ok (.new c, S.take n) else leaveT S n c
    | none => .stuck) else .stuck
def leaveF (n : Nat) (r : Fl × Slots × Store) : Res (RV × Store) := match r.1 with
  | .nx => leave n (.fr .non) r.2.2
  | .rt x => leave n x r.2.2
  | _ => .stuck
def fnM (np n : Nat) (b : SM) : FnM := fun as S => if as.length = np then (b (as.map some ++ List.replicate (n - as.length) none) S).bind (leaveF S.length) else .stuck
section
variable {K : PySem.W.Frag} {ph ph' ph2 : List Addr} {H H' : Hp} {S : Store}
theorem sub_hide (h : ∀ a ∈ ph2, a ∈ ph') : Sub (hide ph' H) (hide ph2 H) := fun a o e => by
  obtain ⟨⟨h1, h2⟩, h3⟩ := hide_tb e
  exact hide_of (fun m => h1 (h a m)) h2 h3
theorem DenS.shrink {n : Nat} (h : ∀ a ∈ ph2, a ∈ ph') (hk : ∀ k, k < n → ph2[k]? = ph'[k]?) {v : V} {x : SV} (hb : x.below n = true) (d : DenS K ph' H v x) : DenS K ph2 H v x := by
  cases x with
  | fr d' => exact Den.mono (sub_hide h) d
  | cell k =>
    obtain ⟨p, h1, h2⟩ := d
    exact ⟨p, by rw [hk k (by simpa [SV.below] using hb)]; exact h1, h2⟩
theorem paired_all {α β : Type} {P Q : α → β → Prop} {f : β → Bool} (hi : ∀ a b, f b = true → P a b → Q a b) : ∀ {l : List α} {m : List β}, Paired P l m → m.all f = true → Paired Q l m
  | _, _, .nil, _ => .nil
  | _, _, .cons h t, e => by
    simp only [List.all_cons, Bool.and_eq_true] at e
    exact .cons (hi _ _ e.1 h) (paired_all hi t e.2)
theorem CellAt.shrink {n : Nat} (h : ∀ a ∈ ph2, a ∈ ph') (hk : ∀ k, k < n → ph2[k]? = ph'[k]?) {p : Addr} {c : Cell} (hb : c.below n = true) (d : CellAt K ph' H p c) : CellAt K ph2 H p c := by
  cases c with
  | lst xs =>
    obtain ⟨vs, h1, h2⟩ := d
    exact ⟨vs, h1, paired_all (f := SV.below n) (fun a b hb q => DenS.shrink h hk hb q) h2 (show xs.all (SV.below n) = true from hb)⟩
  | ins C fs =>
    obtain ⟨dx, vs, h1, h2⟩ := d
    exact ⟨dx, vs, h1, paired_all (f := fun p : Str × SV => p.2.below n) (fun a b hb q => ⟨q.1, DenS.shrink h hk hb q.2⟩) h2 (show (fs.all fun p => p.2.below n) = true from hb)⟩
  | tup xs =>
    obtain ⟨vs, h1, h2⟩ := d
    exact ⟨vs, h1, paired_all (f := SV.below n) (fun a b hb q => DenS.shrink h hk hb q) h2 (show xs.all (SV.below n) = true from hb)⟩
  | dic kvs =>
    obtain ⟨vs, h1, h2⟩ := d
    exact ⟨vs, h1, paired_all (f := fun p : Key × SV => p.2.below n) (fun a b hb q => ⟨q.1, DenS.shrink h hk hb q.2⟩) h2 (show (kvs.all fun p => p.2.below n) = true from hb)⟩
  | dit kvs =>
    obtain ⟨vs, h1, h2⟩ := d
    exact ⟨vs, h1, paired_all (f := fun p : List Key × SV => p.2.below n) (fun a b hb q => ⟨q.1, DenS.shrink h hk hb q.2⟩) h2 (show (kvs.all fun p => p.2.below n) = true from hb)⟩
  | dil kvs =>
    obtain ⟨od, vs, h1, h2⟩ := d
    exact ⟨od, vs, h1, paired_all (f := fun p : List Key × SV => p.2.below n) (fun a b hb q => ⟨q.1, DenS.shrink h hk hb q.2⟩) h2 (show (kvs.all fun p => p.2.below n) = true from hb)⟩
  | dkl kvs =>
    obtain ⟨od, vs, h1, h2⟩ := d
    exact ⟨od, vs, h1, paired_all (f := fun p : Key × SV => p.2.below n) (fun a b hb q => ⟨q.1, DenS.shrink h hk hb q.2⟩) h2 (show (kvs.all fun p => p.2.below n) = true from hb)⟩
  | err C =>
    obtain ⟨dx, fs, h1, h2⟩ := d
    exact ⟨dx, fs, h1, sub_hide h _ _ h2⟩
  | nd kvs =>
    obtain ⟨xs, h1, h2⟩ := d
    exact ⟨xs, h1, Paired.mapP h2 fun _ _ q => ⟨q.1, q.2.1, Den.mono (sub_hide h) q.2.2⟩⟩
theorem paired_at {α β : Type} {P : α → β → Prop} : ∀ {l : List α} {m : List β} {k : Nat} {a : α} {b : β}, Paired P l m → l[k]? = some a → m[k]? = some b → P a b
  | _, _, _, _, _, .nil, e, _ => by simp at e
  | _, _, 0, _, _, .cons h t, e, e' => by simp at e e'; subst e; subst e'; exact h
  | _, _, k + 1, _, _, .cons h t, e, e' => paired_at (k := k) t (by simpa using e) (by simpa using e')
theorem Good.cut (g0 : Good K ph H S) (x : Ext ph H ph' H') {S' : Store} (g : Good K ph' H' S') (hb : (S'.take S.length).all (Cell.below S.length) = true) : Good K ph H' (S'.take S.length) := by
  obtain ⟨ps, rfl, hps⟩ := x.pre
  have hl := g0.len
  refine ⟨g0.nd, ?_, g.tb⟩
  have q := paired_take S.length g.cells
  rw [← hl] at q hb
  rw [List.take_left'  (by rw [hl])] at q
  rw [← hl]
  refine paired_all (f := Cell.below ph.length) (fun p c hc d => CellAt.shrink (n := ph.length) (fun a m => List.mem_append_left _ m) (fun k hk => ?_) hc d) q hb
  rw [List.getElem?_append_left hk]
theorem Ext.back (x : Ext ph H ph' H') : Ext ph H ph H' := ⟨⟨[], by simp, by simp⟩, x.keep, x.trk, x.frz⟩
def DenR (K : PySem.W.Frag) (ph : List Addr) (H0 H : Hp) (v : V) (S : Store) : RV → Prop
  | .val x => DenS K ph H v x
  | .new c => ∃ p, v = .ref p ∧ H0 p = none ∧ Good K (ph ++ [p]) H (S ++ [c])
def postF (K : PySem.W.Frag) (ph : List Addr) (H : Hp) (Q : VK) : RV × Store → Prop := fun r => ∀ v H', Ext ph H ph H' → Good K ph H' r.2 → DenR K ph H H' v r.2 r.1 → Q v H'
theorem frz_den {ps : List Addr} {S' : Store} (hn : ∀ p ∈ ps, p ∉ ph) (g : Good K (ph ++ ps) H' S') : ∀ {vs : List V} {xs : List SV} {ds : List D}, DenSs K (ph ++ ps) H' vs xs → frzA S' ph.length xs = some ds → Dens K (hide ph H') vs ds
  | _, _, ds, .nil, e => by
    simp only [frzA, Option.some.injEq] at e
    subst e
    exact .nil
  | v :: vs, x :: xs, ds, .cons h t, e => by
    unfold frzA at e
    split at e
    · rename_i d es h1 h2
      cases e
      refine .cons ?_ (frz_den hn g t h2)
      cases x with
      | fr d' =>
        simp only [frzC, Option.some.injEq] at h1
        subst h1
        exact Den.mono (sub_hide fun a m => List.mem_append_left _ m) h
      | cell j =>
        obtain ⟨p, hp, rfl⟩ := h
        have h1 : (if ph.length ≤ j then (match S'[j]? with | some (.lst ys) => (allFr ys).map D.lst | _ => none) else none) = some d := h1
        split at h1
        · rename_i hj
          split at h1
          · rename_i ys hys
            simp only [Option.map_eq_some_iff] at h1
            obtain ⟨zs, hz, rfl⟩ := h1
            have hm : p ∈ ps := by
              rw [List.getElem?_append_right hj] at hp
              exact List.mem_of_getElem? hp
            obtain ⟨ws, h4, h5⟩ := paired_at g.cells hp hys
            rw [allFr_eq hz] at h5
            exact .lst (hide_of (hn p hm) h4) (Dens.mono (sub_hide fun a m => List.mem_append_left _ m) (dens_of h5))
          · cases h1
        · cases h1
    · cases e
theorem leave_ok {Q : VK} {E : Exc → Slots → Store → Prop} (g0 : Good K ph H S) (x : Ext ph H ph' H') {S' : Store} (g : Good K ph' H' S') {v : V} {sv : SV} (d : DenS K ph' H' v sv) (h : holds (leave S.length sv S') (postF K ph H Q) E) : Q v H' := by
  unfold leave at h
  split at h
  · rename_i hb
    have gc := g0.cut x g hb
    obtain ⟨ps, rfl, hps⟩ := x.pre
    have hl := g0.len
    split at h
    · exact h v H' x.back gc (DenS.shrink (n := 0) (ph2 := ph) (fun a m => List.mem_append_left _ m) (fun k hk => by omega) rfl d)
    · obtain ⟨p, h1, rfl⟩ := d
      rename_i k
      split at h
      · rename_i hk
        refine h _ H' x.back gc ⟨p, ?_, rfl⟩
        rw [List.getElem?_append_left (by omega)] at h1
        exact h1
      · rename_i hk
        split at h
        · rename_i c hc
          split at h
          · rename_i hcb
            have hp : p ∈ ps := by
              rw [List.getElem?_append_right (by omega)] at h1
              exact List.mem_of_getElem? h1
            have hm : ∀ a ∈ ph ++ [p], a ∈ ph ++ ps := fun a m => by
              rcases List.mem_append.mp m with m | m
              · exact List.mem_append_left _ m
              · rw [List.mem_singleton.mp m]; exact List.mem_append_right _ hp
            have hn : p ∉ ph := fun m => by
              obtain ⟨o, e⟩ := g0.there m
              rw [hps p hp] at e; cases e
            have hix : ∀ j, j < S.length → (ph ++ [p])[j]? = (ph ++ ps)[j]? := fun j hj => by
              rw [List.getElem?_append_left (by omega), List.getElem?_append_left (by omega)]
            refine h _ H' x.back gc ⟨p, rfl, hps p hp, ⟨?_, ?_, g.tb⟩⟩
            · exact List.nodup_append.mpr ⟨g0.nd, by simp, fun a ha b hb' e => hn (by rw [← List.mem_singleton.mp hb', ← e]; exact ha)⟩
            · have q := paired_take S.length g.cells
              rw [List.take_left' hl] at q
              exact paired_snoc (paired_all (f := Cell.below S.length) (fun p' c' hc' d' => CellAt.shrink (n := S.length) hm hix hc' d') q hb) (CellAt.shrink (n := S.length) hm hix hcb (paired_at g.cells h1 hc))
          · unfold leaveT at h
            split at h
            · rename_i xs hxs
              split at h
              · rename_i ds hds
                have hp : ∀ q ∈ ps, q ∉ ph := fun q hq m => by
                  obtain ⟨o, e⟩ := g0.there m
                  rw [hps q hq] at e; cases e
                have hpm : p ∈ ps := by
                  rw [List.getElem?_append_right (by omega)] at h1
                  exact List.mem_of_getElem? h1
                obtain ⟨ws, h4, h5⟩ := paired_at g.cells h1 hc
                rw [← hl] at hds
                exact h _ H' x.back gc (Den.tup (vs := ws) (hide_of (hp p hpm) h4) (frz_den hp g h5 hds))
              · exact h.elim
            · exact h.elim
        · exact h.elim
  · exact h.elim
end

def postS (K : PySem.W.Frag) (ph : List Addr) (H : Hp) (Dn : Ends) : Fl × Slots × Store → Prop := fun r => ∀ ph' sg H', Ext ph H ph' H' → Good K ph' H' r.2.2 → SlotsOk K ph' H' sg r.2.1 → match r.1 with
  | .nx => Dn.nx sg H'
  | .bk => Dn.bk sg H'
  | .ct => Dn.ct sg H'
  | .rt x => ∀ v, DenS K ph' H' v x → Dn.rt v H'
theorem postS.mono {K : PySem.W.Frag} {ph ph' : List Addr} {H H' : Hp} {Dn : Ends} (e : Ext ph H ph' H') (r : Fl × Slots × Store) (h : postS K ph H Dn r) : postS K ph' H' Dn r := fun p s G a g d => h p s G (e.trans a) g d
abbrev SndS (X : Cx) (W : XW X.K) (t : TS) (m : SM) : Prop := ∀ (ph : List Addr) (S : Store) (H : Hp) (sg : L2.St) (rho : Slots) (Dn : Ends), Good X.K ph H S → SlotsOk X.K ph H sg rho →
    holds (m rho S) (postS X.K ph H Dn) (W.rel ph H) → t Dn sg H
structure PSD (X : Cx) (W : XW X.K) (st : Stmt) (m : SM) : Prop where
  ex : ∃ t, PS X st t ∧ SndS X W t m
structure PSDs (X : Cx) (W : XW X.K) (st : List Stmt) (m : SM) : Prop where
  ex : ∃ t, PSs X st t ∧ SndS X W t m

def ExD (K : PySem.W.Frag) (F : Hp) (e : Exc) (cls : Value) (d : Option Addr) : Prop := cls = .ref (He.ga K e.cls) ∧ ((d = none ∧ e.fs = []) ∨ (e.fs ≠ [] ∧ ∃ a vs, d = some a ∧ F a = some (.xd vs) ∧ DenF K F vs e.fs))
theorem ExD.mono {K : PySem.W.Frag} {F F' : Hp} (h : Sub F F') {e : Exc} {cls : Value} {d : Option Addr} (x : ExD K F e cls d) : ExD K F' e cls d :=
  ⟨x.1, x.2.imp id fun ⟨n, a, vs, q1, q2, q3⟩ => ⟨n, a, vs, q1, h _ _ q2, DenF.mono h q3⟩⟩
def XW.of (K : PySem.W.Frag) (Wq : L2.WX) : XW K := ⟨fun ph H e r S => ∀ ph' H' sg cls d, Ext ph H ph' H' → Good K ph' H' S → SlotsOk K ph' H' sg r → ExD K (hide ph' H') e cls d → Wq cls d sg H', fun _ _ _ _ _ _ _ x q ph' H' sg cls d y => q ph' H' sg cls d (x.trans y)⟩
def postX (K : PySem.W.Frag) (ph : List Addr) (H : Hp) (E : XK) : Exc → Slots → Store → Prop := fun e _ S => ∀ ph' H' cls d, Ext ph H ph' H' → Good K ph' H' S → ExD K (hide ph' H') e cls d → E cls d H'
abbrev XW.fn (K : PySem.W.Frag) (E : XK) : XW K := XW.of K fun cls d _ H => E cls d H
def spD (K : PySem.W.Frag) (m : FnM) : Sp := fun vs H Q E => ∃ ph S as, Good K ph H S ∧ DenSs K ph H vs as ∧ holds (m as S) (postF K ph H Q) (postX K ph H E)
def XW.none (K : PySem.W.Frag) : XW K := ⟨fun _ _ _ _ _ => False, fun _ _ _ _ _ _ _ _ h => h⟩
structure FnD (P : Program) (w : World) (K : PySem.W.Frag) (mg : Str → Option Value) (base : Heap) (k : Nat) (f : Addr) (fd : FuncData) (ps : List Str) (m : FnM) : Prop where
  len : ∀ vs H Q E, spD K m vs H Q E → vs.length = ps.length
  run : ∀ (A : Around) (outer : List Env) (s : Shared) (H : Hp) (args : Args) (us : List Value) (vs : List V) (Q : VK) (E : XK), A.guards = some [] → Room k A → Env0 P w K mg base A outer s H →
    BindsTo s fd args (ps.zip us) → Vals vs us → spD K m vs H Q E → codeAny (model P w) A (.call (.ref f) args) (CR (L2.CX P w) outer P w H s Q E) s
section
variable {P : Program} {w : World} {K : PySem.W.Frag} {mg : Str → Option Value} {base : Heap}
theorem spD_len {np n : Nat} {b : SM} {vs : List V} {H : Hp} {Q : VK} {E : XK} (h : spD K (fnM np n b) vs H Q E) : vs.length = np := by
  obtain ⟨ph, S, as, g, d, h⟩ := h
  unfold fnM at h
  split at h
  · rw [d.length]; assumption
  · exact h.elim
theorem fnD_of {k : Nat} {f : Addr} {name qual : Str} {params : Arguments} {body : List Stmt} {scope : Scope} {dV kV doc pm cdv ct oc : Value} {an od : Option Addr} {osl : Array (Option Value)} {N ps : List Str} {b : SM}
    (lk : K.lookup f = some ⟨oc, od, .func (PySem.W.fnOf name qual params body scope dV kV doc pm an cdv ct), osl⟩) (hcd : PySem.W.codeIn K cdv qual = true) (Sc : FnScope N ps scope)
    (hb : ∀ (A : Around) (outer : List Env) (s : Shared) (H : Hp) (E : XK), (A.deeper (envOfC qual scope s.heap.objs.size f cdv)).guards = some [] → Room k (A.deeper (envOfC qual scope s.heap.objs.size f cdv)) →
      PSDs (cxOf (L2.CX P w) P w K mg base N qual scope f cdv A outer s H E) (XW.fn K E) body b) :
    FnD P w K mg base (k + 1) f (PySem.W.fnOf name qual params body scope dV kV doc pm an cdv ct) ps (fnM ps.length N.length b) := by
  refine ⟨fun vs H Q E h => spD_len h, ?_⟩
  intro A outer s H args us vs Q E hgd hroom e0 hbind rv hsp
  have len0 : vs.length = ps.length := spD_len hsp
  have KX : K.In s.heap := e0.mod.kin.keeps fun b o e => (e0.bs b o e).1
  have lim : s.heap.NoLimit := e0.mod.nolimit.keeps fun b o e => (e0.bs b o e).1
  have kinds : ∀ y ∈ ps.zip us, scope.names.lookup y.1 = some .local ∨ (scope.names.lookup y.1 = some .cell ∧ ((cellsFrom (s.heap.objs.size + 1) scope.names []).lookup y.1).isSome = true) := by
    rintro ⟨n, v⟩ hy
    cases Sc.par n (List.of_mem_zip hy).1 with
    | inl q => exact .inl q
    | inr q => exact .inr ⟨q, PySem.W.cellsFrom_some _ _ _ (.inl q)⟩
  refine codeAny_call_function hroom.depth (KX _ _ lk) rfl Sc.co Sc.gen rfl (PySem.W.codeRec_of KX hcd) (hbind _ _ _ _ ?_)
  refine wpAny_newFunctionEnv_cells Sc.kind kinds fun env he s1 x => ?_
  subst he
  refine ⟨lim.keeps x.toInCall.keep, codeAny_func ?_⟩
  obtain ⟨t, ht, snd⟩ := (hb A outer s H E hgd (hroom.deeper _)).ex
  have I : Inv (cxOf (L2.CX P w) P w K mg base N qual scope f cdv A outer s H E) [] (L2.start N vs) H s1 := inv_start Sc hroom.hd e0 len0 rv x
  have done : ∀ {sg' : L2.St} {H' : Hp} {v : V} {u : Value} {s' : Shared}, Inv (cxOf (L2.CX P w) P w K mg base N qual scope f cdv A outer s H E) [] sg' H' s' → RelV v u → Q v H' → CE outer P w H s Q u s' := by
    intro sg' H' v u s' J rv q
    exact ⟨v, H', J.os, J.bare, J.base, J.hok, rv, q⟩
  have rd : t { nx := fun _ H' => Q .non H', rt := Q } (L2.start N vs) H := by
    obtain ⟨ph, S, as, g, d, hh⟩ := hsp
    have la : as.length = ps.length := by rw [← d.length]; exact len0
    unfold fnM at hh
    rw [if_pos la] at hh
    refine snd ph S H (L2.start N vs) _ _ g ⟨by simp [L2.start, d.length], fun i x hi => ?_⟩ (holds_imp (holds_bind hh) (fun r hr => ?_) fun _ _ _ q ph' H' _ cls d x' g' _ z => q ph' H' cls d x' g' z)
    · have hi' : (as.map some ++ List.replicate (N.length - as.length) none)[i]? = some (some x) := hi
      by_cases hlt : i < as.length
      · rw [List.getElem?_append_left (by simpa using hlt), List.getElem?_map] at hi'
        cases q : as[i]? with
        | none => rw [q] at hi'; cases hi'
        | some y =>
          rw [q] at hi'
          have e := Option.some.inj (Option.some.inj hi')
          subst e
          obtain ⟨v, h1, h2⟩ := paired_get d q
          refine ⟨v, ?_, h2⟩
          unfold L2.start
          rw [List.getElem?_append_left (by rw [List.length_map, d.length]; exact hlt), List.getElem?_map, h1]
          rfl
      · rw [List.getElem?_append_right (by simpa using hlt)] at hi'
        have := List.getElem?_replicate (n := N.length - as.length) (a := (none : Option SV)) (i := i - (as.map some).length)
        rw [this] at hi'
        split at hi' <;> cases hi'
    · intro ph' sg' H' x' g' so'
      obtain ⟨fl, rho', S'⟩ := r
      cases fl with
      | nx => exact leave_ok g x' g' (v := .non) (sv := .fr .non) Den.non hr
      | rt sv => exact fun v dv => leave_ok g x' g' dv hr
      | bk => exact hr.elim
      | ct => exact hr.elim
  refine wpAny_mono (ht.run [] s1 (L2.start N vs) H _ I rd) (fun fl s' hs => ?_) fun e s' hs => hs
  cases fl with
  | ret u =>
    obtain ⟨v, sg', H', J, rv, q⟩ := hs
    exact done J rv q
  | next =>
    obtain ⟨sg', H', J, q⟩ := hs
    exact done (v := V.non) (u := Value.none) J rfl q
  | brk => exact hs.choose_spec.choose_spec.2.elim
  | cont => exact hs.choose_spec.choose_spec.2.elim
structure CalD (P : Program) (w : World) (K : PySem.W.Frag) (mg : Str → Option Value) (base : Heap) (k : Nat) (x : Str) (m : FnM) : Prop where
  ex : ∃ f fd ps, mg x = some (.ref f) ∧ PySem.W.keepIn K (.ref f) = true ∧ Binds K fd ps [] ∧ FnD P w K mg base k f fd ps m
theorem calD_of {k : Nat} {x : Str} {st : Stmt} {f : Addr} {fd : FuncData} {N ps : List Str} {b : SM} (F : Fun K x x st f fd) (hm : mg x = some (.ref f)) (hbd : Binds K fd ps []) (Sc : FnScope N ps (defScope st))
    (hb : ∀ (cdv : Value) (A : Around) (outer : List Env) (s : Shared) (H : Hp) (E : XK), (A.deeper (envOfC x (defScope st) s.heap.objs.size f cdv)).guards = some [] → Room k (A.deeper (envOfC x (defScope st) s.heap.objs.size f cdv)) →
      PSDs (cxOf (L2.CX P w) P w K mg base N x (defScope st) f cdv A outer s H E) (XW.fn K E) (defBody st) b) : CalD P w K mg base (k + 1) x (fnM ps.length N.length b) := by
  obtain ⟨oc, od, kV, doc, pm, an, cdv, ct, osl, rfl, lk, hcd⟩ := F.ex
  exact ⟨f, _, ps, hm, F.kp, hbd, fnD_of lk hcd Sc fun A outer s H E => hb cdv A outer s H E⟩
end
def noX (r : Res (RV × Store)) : Res (RV × Store) := match r with
  | .exc _ _ _ => .stuck
  | x => x
def allFrK : List (Key × SV) → Option (List (Key × D))
  | [] => some []
  | (k, .fr d) :: r => (allFrK r).map ((k, d) :: ·)
  | _ => none
theorem denK_of {K : PySem.W.Frag} {ph : List Addr} {H : Hp} : ∀ {vs : List (Key × V)} {kvs : List (Key × SV)} {ds : List (Key × D)}, DenSK K ph H vs kvs → allFrK kvs = some ds → DenK K (hide ph H) vs ds
  | _, [], ds, .nil, e => by
    simp only [allFrK, Option.some.injEq] at e
    subst e
    exact .nil
  | (k', v) :: vs, (k, .fr d) :: r, ds, .cons h t, e => by
    simp only [allFrK, Option.map_eq_some_iff] at e
    obtain ⟨es, h1, rfl⟩ := e
    obtain ⟨h2, h3⟩ := h
    dsimp only at h2
    subst h2
    exact .cons h3 (denK_of t h1)
  | _ :: _, (k, .cell _) :: r, ds, .cons h t, e => by simp [allFrK] at e
def freeze : Cell → Option D
  | .lst xs => (allFr xs).map D.lst
  | .dic kvs => (allFrK kvs).map D.dct
  | .ins _ _ => none
  | .tup _ => none
  | .dit _ => none
  | .dil _ => none
  | .dkl _ => none
  | .err _ => none
  | .nd _ => none
def back (c : Bool) (r : RV × Store) : Res (SV × Store) := match r.1 with
  | .val x => .ok (x, r.2)
  | .new cl => if c then .ok (.cell r.2.length, r.2 ++ [cl]) else match freeze cl with
    | some d => .ok (.fr d, r.2)
    | none => .stuck
def eCall (f : FnM) (c : Bool) (m : AM) : EM := fun rho S => (m rho S).bind fun x => (noX (f x.1 x.2)).bind (back c)
section
variable {X : Cx} {W : XW X.K} {e : Expr} {es : List Expr} {pos p : Pos} {m : AM}
theorem back_ok {ph ph1 : List Addr} {H H1 : Hp} {Q : VK} {c : Bool} {r : RV × Store} {E : Exc → Slots → Store → Prop} (x1 : Ext ph H ph1 H1) (h : holds (back c r) (post X.K ph H Q) E) : postF X.K ph1 H1 Q r := by
  intro v H2 x2 g2 d2
  obtain ⟨rv, S2⟩ := r
  cases rv with
  | val x => exact h ph1 v H2 (x1.trans x2) g2 d2
  | new cl =>
    obtain ⟨q, rfl, hn, g3⟩ := d2
    have x3 : Ext ph1 H1 (ph1 ++ [q]) H2 := ⟨⟨[q], rfl, fun a ha => by rw [List.mem_singleton.mp ha]; exact hn⟩, x2.keep, x2.trk, x2.frz⟩
    unfold back at h
    dsimp only at h g2 g3
    cases c with
    | true => exact h (ph1 ++ [q]) (.ref q) H2 (x1.trans x3) g3 ⟨q, by rw [← g2.len]; simp, rfl⟩
    | false =>
      simp only [Bool.false_eq_true, if_false] at h
      split at h
      · rename_i d hd
        refine h ph1 (.ref q) H2 (x1.trans x2) g2 ?_
        have cq : CellAt X.K (ph1 ++ [q]) H2 q cl := paired_at (k := S2.length) g3.cells (by rw [← g2.len]; simp) (by simp)
        cases cl with
        | lst xs =>
          obtain ⟨vs, h4, h5⟩ := cq
          simp only [freeze, Option.map_eq_some_iff] at hd
          obtain ⟨ds, h6, rfl⟩ := hd
          rw [allFr_eq h6] at h5
          have hq : q ∉ ph1 := fun mm => by
            have := g3.nd
            rw [List.nodup_append] at this
            exact this.2.2 q mm q (by simp) rfl
          exact .lst (hide_of hq h4) (Dens.mono (sub_hide fun a ha => List.mem_append_left _ ha) (dens_of h5))
        | ins C fs => simp [freeze] at hd
        | tup xs => simp [freeze] at hd
        | dit xs => simp [freeze] at hd
        | dil xs => simp [freeze] at hd
        | dkl xs => simp [freeze] at hd
        | err C => simp [freeze] at hd
        | nd C => simp [freeze] at hd
        | dic kvs =>
          simp only [freeze, Option.map_eq_some_iff] at hd
          obtain ⟨ds, h6, rfl⟩ := hd
          obtain ⟨vs, h4, h5⟩ := cq
          have hq : q ∉ ph1 := fun mm => by
            have := g3.nd
            rw [List.nodup_append] at this
            exact this.2.2 q mm q (by simp) rfl
          exact .dct (hide_of hq h4) (DenK.mono (sub_hide fun a ha => List.mem_append_left _ ha) (denK_of h5 h6))
      · exact h.elim
theorem noX_ok {r : Res (RV × Store)} {Q : RV × Store → Prop} {E E' : Exc → Slots → Store → Prop} (h : holds (noX r) Q E) : holds r Q E' := by
  cases r with
  | ok a => exact h
  | exc _ _ _ => exact h.elim
  | stuck => exact h
theorem pe_callD {k j : Nat} {x : Str} {f : FnM} {t : TA} (c : CalD X.prog X.w X.K X.mg X.base k x f) (hr : Room j X.A) (hk : k ≤ j) (hgd : X.A.guards = some []) (hg : Gl X x) (ha : PA X (e :: es) t)
    (hdb : (x == ("__debug__" : Str)) = false) (he : starEach (e :: es) X.env = (false, eval e X.env) :: starEach es X.env) (hpl : (backTo pos (starEach es X.env)).any (·.1) = false) :
    PE X (.Call (.Name x p) (e :: es) [] pos) (fun sg H Q => t sg H fun vs H1 => spD X.K f vs H1 Q E0) := by
  obtain ⟨g, fd, ps, hm, hkp, hbd, F⟩ := c.ex
  refine ⟨fun pins s sg H Q I h => wpAny_Call_Name_kw (ld_glob I hg hm ?_ hdb)⟩
  refine PySem.W.callWith_K (h₀ := X.base) I.ok.mod.kin hkp (thn (ha.run pos pins s sg H _ I h) fun us s1 ⟨vs, H1, I1, r, q⟩ => ⟨I1.kIn, ?_⟩) he hpl
  have hl : (us ++ []).length = ps.length := by rw [List.append_nil, ← r.length]; exact F.len _ _ _ _ q
  have bt := hbd s1 us I1.kIn hl
  rw [List.append_nil] at bt
  refine wpAny_call (codeAny_mono (F.run X.A X.stack s1 H1 ⟨us, []⟩ us vs Q E0 hgd (hr.mono hk) I1.env0 bt r q) fun r s' hq => ?_)
  cases r with
  | error e => exact passL pins sg H1 s1 e s' I1 hq
  | ok fl =>
    cases fl with
    | ret u => exact I1.after hq
    | next => exact False.elim hq
    | brk => exact False.elim hq
    | cont => exact False.elim hq
theorem pd_call {k j : Nat} {x : Str} {f : FnM} (cc : Bool) (c : CalD X.prog X.w X.K X.mg X.base k x f) (hr : Room j X.A) (hk : k ≤ j) (hgd : X.A.guards = some []) (ha : PDA X W (e :: es) m) (hg : Gl X x := by rfl)
    (hdb : (x == ("__debug__" : Str)) = false := by decide) (he : starEach (e :: es) X.env = (false, eval e X.env) :: starEach es X.env := by rfl) (hpl : (backTo pos (starEach es X.env)).any (·.1) = false := by rfl) : PD X W (.Call (.Name x p) (e :: es) [] pos) (eCall f cc m) := by
  obtain ⟨t, pa, sa⟩ := ha.ex
  refine ⟨_, pe_callD c hr hk hgd hg pa hdb he hpl, fun ph S H sg rho Q gd so h => sa ph S H sg rho _ gd so (holds_imp (holds_bind h) (fun y hy => ?_) fun _ _ _ q => q)⟩
  intro ph1 vs H1 x1 g1 d1
  exact ⟨ph1, y.2, y.1, g1, d1, noX_ok (holds_imp (holds_bind hy) (fun r hr => back_ok x1 hr) fun _ _ _ q => q)⟩
end
end DL

namespace DL
open PySem PySem.Spec PyProof.Rows L2

section
variable {X : Cx} {W : XW X.K} {a b c : Expr} {ma mb mc : EM} {pos : Pos}
def sNx : SM := fun rho S => .ok (.nx, rho, S)
def sSeq (m n : SM) : SM := fun rho S => (m rho S).bind fun r => match r.1 with
  | .nx => n r.2.1 r.2.2
  | f => .ok (f, r.2.1, r.2.2)
theorem pss_n : PSDs X W [] sNx := ⟨_, pss_nil, fun ph S H sg rho Dn g so h => h ph sg H (Ext.refl _ _) g so⟩
theorem pss_c {st : Stmt} {rest : List Stmt} {m n : SM} (h1 : PSD X W st m) (h2 : PSDs X W rest n) : PSDs X W (st :: rest) (sSeq m n) := by
  obtain ⟨t, p, s⟩ := h1.ex
  obtain ⟨t2, p2, s2⟩ := h2.ex
  refine ⟨_, pss_cons p p2, fun ph S H sg rho Dn g so h => s ph S H sg rho _ g so (holds_imp (holds_bind h) (fun r hr => ?_) fun _ _ _ q => q)⟩
  intro ph1 sg1 H1 x1 g1 so1
  obtain ⟨fl, rho1, S1⟩ := r
  cases fl with
  | nx => exact s2 ph1 S1 H1 sg1 rho1 Dn g1 so1 (holds_imp hr (fun c => postS.mono x1 c) fun e r s q => W.mono _ _ _ _ e r s x1 q)
  | bk => exact hr ph1 sg1 H1 x1 g1 so1
  | ct => exact hr ph1 sg1 H1 x1 g1 so1
  | rt x => exact hr ph1 sg1 H1 x1 g1 so1
theorem pss_1 {st : Stmt} {m : SM} (h1 : PSD X W st m) : PSDs X W [st] m := by
  obtain ⟨t, p, s⟩ := h1.ex
  exact ⟨t, pss_one p, s⟩
def sBk : SM := fun rho S => .ok (.bk, rho, S)
def sCt : SM := fun rho S => .ok (.ct, rho, S)
def sNo : SM := fun _ _ => .stuck
theorem psd_never {st : Stmt} : PSD X W st sNo := ⟨_, ps_never, fun _ _ _ _ _ _ _ _ h => h.elim⟩
def sRet (m : EM) : SM := fun rho S => (m rho S).bind fun x => .ok (.rt x.1, rho, x.2)
theorem psd_ret (ha : PD X W a ma) : PSD X W (.Return (some a) pos) (sRet ma) := by
  obtain ⟨ta, pa, sa⟩ := ha.ex
  refine ⟨_, ps_ret pa, fun ph S H sg rho Dn g so h => sa ph S H sg rho _ g so (holds_imp (holds_bind h) (fun x hx => ?_) fun _ _ _ q => q)⟩
  exact fun ph1 v1 H1 x1 g1 d1 => hx ph1 sg H1 x1 g1 (so.mono x1) v1 d1
def sRetN : SM := fun rho S => .ok (.rt (.fr .non), rho, S)
def sIf (t : TM) (m n : SM) : SM := fun rho S => (t rho S).bind fun x => if x.1 then m rho x.2 else n rho x.2
theorem psd_if {l1 l2 : List Stmt} {m : TM} {m1 m2 : SM} (ht : PDT X W c m) (h1 : PSDs X W l1 m1) (h2 : PSDs X W l2 m2) : PSD X W (.If c l1 l2 pos) (sIf m m1 m2) := by
  obtain ⟨t, p, s⟩ := ht.ex
  obtain ⟨t1, p1, s1⟩ := h1.ex
  obtain ⟨t2, p2, s2⟩ := h2.ex
  refine ⟨_, ps_if p p1 p2, fun ph S H sg rho Dn g so h => s ph S H sg rho _ g so (holds_imp (holds_bind h) (fun x hx => ?_) fun _ _ _ q => q)⟩
  intro ph1 H1 x1 g1
  obtain ⟨k, S1⟩ := x
  have up : ∀ {r : Res (Fl × Slots × Store)}, holds r (postS X.K ph H Dn) (W.rel ph H) → holds r (postS X.K ph1 H1 Dn) (W.rel ph1 H1) := fun q => holds_imp q (fun c => postS.mono x1 c) fun e r s q => W.mono _ _ _ _ e r s x1 q
  cases k with
  | true => exact s1 ph1 S1 H1 sg rho Dn g1 (so.mono x1) (up hx)
  | false => exact s2 ph1 S1 H1 sg rho Dn g1 (so.mono x1) (up hx)
def sEx (m : EM) : SM := fun rho S => (m rho S).bind fun x => .ok (.nx, rho, x.2)
theorem psd_expr (ha : PD X W a ma) (hs : swapsWith a none pos.line X.env = pure false := by rfl) : PSD X W (.Expr a pos) (sEx ma) := by
  obtain ⟨ta, pa, sa⟩ := ha.ex
  refine ⟨_, ps_expr pa hs, fun ph S H sg rho Dn g so h => sa ph S H sg rho _ g so (holds_imp (holds_bind h) (fun x hx => ?_) fun _ _ _ q => q)⟩
  exact fun ph1 v1 H1 x1 g1 d1 => hx ph1 sg H1 x1 g1 (so.mono x1)

abbrev GM := SV → Slots → Store → Res (Slots × Store)
abbrev GMs := List SV → Slots → Store → Res (Slots × Store)
def Out (is : List Nat) (sg sg' : L2.St) : Prop := sg'.length = sg.length ∧ ∀ i, i ∉ is → sg'[i]? = sg[i]?
def postG (K : PySem.W.Frag) (ph : List Addr) (H : Hp) (is : List Nat) (sg : L2.St) (Q : L2.St → Hp → Prop) : Slots × Store → Prop := fun r =>
  ∀ ph' sg' H', Ext ph H ph' H' → Good K ph' H' r.2 → SlotsOk K ph' H' sg' r.1 → Out is sg sg' → Q sg' H'
structure PGD (X : Cx) (W : XW X.K) (is : List Nat) (tg : Expr) (m : GM) : Prop where
  ex : ∃ t, PG X tg t ∧ ∀ (ph : List Addr) (S : Store) (H : Hp) (sg : L2.St) (rho : Slots) (v : V) (x : SV) (Q : L2.St → Hp → Prop), Good X.K ph H S → SlotsOk X.K ph H sg rho → DenS X.K ph H v x →
    holds (m x rho S) (postG X.K ph H is sg Q) (W.rel ph H) → t v sg H Q
structure PGDs (X : Cx) (W : XW X.K) (is : List Nat) (tg : List Expr) (m : GMs) : Prop where
  ex : ∃ t, PGs X tg t ∧ ∀ (ph : List Addr) (S : Store) (H : Hp) (sg : L2.St) (rho : Slots) (vs : List V) (xs : List SV) (Q : L2.St → Hp → Prop), Good X.K ph H S → SlotsOk X.K ph H sg rho → DenSs X.K ph H vs xs →
    holds (m xs rho S) (postG X.K ph H is sg Q) (W.rel ph H) → t vs sg H Q
def gNm (i : Nat) : GM := fun x rho S => .ok (rho.set i (some x), S)
theorem out_set (sg : L2.St) (i : Nat) (v : Option V) : Out [i] sg (sg.set i v) := ⟨by simp, fun j hj => List.getElem?_set_ne (fun e => hj (by simp [e]))⟩
theorem Out.trans {is js : List Nat} {s1 s2 s3 : L2.St} (a : Out is s1 s2) (b : Out js s2 s3) : Out (is ++ js) s1 s3 :=
  ⟨b.1.trans a.1, fun i hi => (b.2 i (fun h => hi (List.mem_append_right _ h))).trans (a.2 i (fun h => hi (List.mem_append_left _ h)))⟩
theorem pgd_name {i : Nat} {x : Str} (hN : X.N.Nodup) (hi : X.N[i]? = some x := by rfl) (hx : Loc X.env.scope x := by first | exact Or.inl rfl | exact Or.inr rfl) (hf : X.fn x = true ∨ X.env.scope.names.lookup x = some .local := by first | exact .inl rfl | exact .inr rfl) : PGD X W [i] (.Name x pos) (gNm i) := by
  refine ⟨_, pg_name hN hi hx hf, fun ph S H sg rho v x Q g so d h => ?_⟩
  exact h ph _ H (Ext.refl _ _) g (so.set i d) (out_set _ _ _)
def gNl : GMs := fun xs rho S => match xs with
  | [] => .ok (rho, S)
  | _ => .stuck
def gCs (m : GM) (n : GMs) : GMs := fun xs rho S => match xs with
  | x :: r => (m x rho S).bind fun q => n r q.1 q.2
  | [] => .stuck
theorem pgds_nil : PGDs X W [] [] gNl := by
  refine ⟨_, pgs_nil, fun ph S H sg rho vs xs Q g so d h => ?_⟩
  cases d with
  | nil => exact ⟨rfl, h ph sg H (Ext.refl _ _) g so ⟨rfl, fun _ _ => rfl⟩⟩
  | cons _ _ => exact h.elim
theorem pgds_cons {is js : List Nat} {e : Expr} {es : List Expr} {m : GM} {n : GMs} (h1 : PGD X W is e m) (h2 : PGDs X W js es n) (hs : (assignEach (e :: es) X.env).map (·.2) = assign e X.env :: (assignEach es X.env).map (·.2) := by rfl) : PGDs X W (is ++ js) (e :: es) (gCs m n) := by
  obtain ⟨t, p, s⟩ := h1.ex
  obtain ⟨t2, p2, s2⟩ := h2.ex
  refine ⟨_, pgs_cons p p2 hs, fun ph S H sg rho vs xs Q g so d h => ?_⟩
  cases d with
  | nil => exact h.elim
  | cons d1 d2 =>
    refine ⟨_, _, rfl, s ph S H sg rho _ _ _ g so d1 (holds_imp (holds_bind h) (fun r hr => ?_) fun _ _ _ q => q)⟩
    intro ph1 sg1 H1 x1 g1 so1 o1
    refine s2 ph1 r.2 H1 sg1 r.1 _ _ Q g1 so1 (DenSs.mono x1 d2) (holds_imp hr (fun c hc => ?_) fun e r s q => W.mono _ _ _ _ e r s x1 q)
    exact fun ph2 sg2 H2 x2 g2 so2 o2 => hc ph2 sg2 H2 (x1.trans x2) g2 so2 (o1.trans o2)
def gTu (n : Nat) (m : GMs) : GM := fun x rho S => match x with
  | .fr (.tup ds) => if ds.length = n then m (ds.map SV.fr) rho S else .stuck
  | _ => .stuck
theorem pgd_tup {is : List Nat} {es : List Expr} {k n : Nat} {m : GMs} (hc : X.calm = true) (h : PGDs X W is es m) (hn : (assignEach es X.env).length = n := by rfl) (hst : (assignEach es X.env).findIdx? (·.1) = none := by rfl) : PGD X W is (.Tuple es k pos) (gTu n m) := by
  obtain ⟨t, p, s⟩ := h.ex
  refine ⟨_, pg_tup hc p hn hst, fun ph S H sg rho v x Q g so d h => ?_⟩
  unfold gTu at h
  split at h
  · split at h
    · rename_i hl
      obtain ⟨q, vs, rfl, sq, r⟩ := d_tup d
      exact ⟨q, vs, rfl, hide_sub.sqT sq, by rw [r.len]; exact hl, s ph S H sg rho _ _ Q g so (of_dens r) h⟩
    · exact h.elim
  · exact h.elim
theorem paired_set2 {α β : Type} {P : α → β → Prop} {x : α} {y : β} : ∀ {l : List α} {m : List β} (n : Nat), Paired P l m → P x y → Paired P (l.set n x) (m.set n y)
  | _, _, _, .nil, _ => .nil
  | _, _, 0, .cons _ t, q => .cons q t
  | _, _, n + 1, .cons h t, q => .cons h (paired_set2 n t q)
def setL (o i v : SV) (S : Store) : Res Store := match o, i with
  | .cell k, .fr (.int j) => match S[k]? with
    | some (.lst xs) => match ixN xs.length j with
      | some n => .ok (S.set k (.lst (xs.set n v)))
      | none => .stuck
    | _ => .stuck
  | _, _ => .stuck
theorem setL_ok {ph : List Addr} {S : Store} {H : Hp} {o i v : V} {so si sv : SV} {Q : Hp → Prop} {E : Exc → Slots → Store → Prop} (g : Good X.K ph H S) (d1 : DenS X.K ph H o so) (d2 : DenS X.K ph H i si) (d3 : DenS X.K ph H v sv)
    (h : holds (setL so si sv S) (fun S' => ∀ ph' H', Ext ph H ph' H' → Good X.K ph' H' S' → Q H') E) : rSetL o i v H Q := by
  unfold setL at h
  split at h
  · rename_i k j
    split at h
    · rename_i xs hk
      split at h
      · rename_i n hn
        obtain ⟨p, h1, rfl⟩ := d1
        obtain ⟨q, h3, vs, h4, h5⟩ := g.at hk
        rw [h1] at h3; cases h3
        rw [d_int d2]
        refine ⟨p, vs, j, n, rfl, rfl, h4, by rw [h5.length]; exact hn, ?_⟩
        have hm : p ∈ ph := List.mem_of_getElem? h1
        have e : Ext ph H ph (upd H p (.lst (vs.set n v))) := Ext.write hm (nofrz h4 fun _ _ z => nomatch z)
        refine h ph _ e (g.write h1 ⟨_, upd_same, ?_⟩)
        exact paired_set2 n (DenSs.mono e h5) (d3.mono e)
      · exact h.elim
    · exact h.elim
  · exact h.elim
def gSb (mo mi : EM) : GM := fun x rho S => (mo rho S).bind fun o => (mi rho o.2).bind fun i => (setL o.1 i.1 x i.2).bind fun S' => .ok (rho, S')
theorem pgd_sub (ha : PD X W a ma) (hb : PD X W b mb) (hass : ∀ v, assign (.Subscript a b pos) X.env v = (do
      let ov ← holding [v] (eval a X.env)
      let iv ← holding [v, ov] (eval b X.env)
      standAt pos
      holding [v, ov, iv] (setItem ov iv v)
      release [v, ov, iv] []) := by intro _; rfl) : PGD X W [] (.Subscript a b pos) (gSb ma mb) := by
  obtain ⟨ta, pa, sa⟩ := ha.ex
  obtain ⟨tb, pb, sb⟩ := hb.ex
  refine ⟨_, pg_sub pa pb set_list hass, fun ph S H sg rho v x Q g so d h => sa ph S H sg rho _ g so (holds_imp (holds_bind h) (fun o ho => ?_) fun _ _ _ q => q)⟩
  intro ph1 v1 H1 x1 g1 d1
  refine sb ph1 o.2 H1 sg rho _ g1 (so.mono x1) (holds_imp (holds_bind ho) (fun i hi => ?_) fun e r s q => W.mono _ _ _ _ e r s x1 q)
  intro ph2 v2 H2 x2 g2 d2
  refine setL_ok g2 (d1.mono x2) d2 (d.mono (x1.trans x2)) (holds_imp (holds_bind hi) (fun S3 h3 => ?_) fun e r s q => q)
  intro ph3 H3 x3 g3
  have x13 := x1.trans (x2.trans x3)
  exact h3 ph3 sg H3 x13 g3 (so.mono x13) ⟨rfl, fun _ _ => rfl⟩
def sAs (m : EM) (g : GM) : SM := fun rho S => (m rho S).bind fun x => (g x.1 rho x.2).bind fun r => .ok (.nx, r.1, r.2)
theorem psd_asg {is : List Nat} {tg : Expr} {g : GM} (ha : PD X W a ma) (hg : PGD X W is tg g) (hs : swapsWithSole [tg] a pos.line X.env = pure false := by rfl) (hw : swappedStores [tg] a X.env = pure none := by rfl)
    (h1 : (assignEach [tg] X.env).map (·.2) = [assign tg X.env] := by rfl) : PSD X W (.Assign [tg] a pos) (sAs ma g) := by
  obtain ⟨ta, pa, sa⟩ := ha.ex
  obtain ⟨tt, pt, st⟩ := hg.ex
  refine ⟨_, ps_asg pa pt hs hw h1, fun ph S H sg rho Dn gd so h => sa ph S H sg rho _ gd so (holds_imp (holds_bind h) (fun x hx => ?_) fun _ _ _ q => q)⟩
  intro ph1 v1 H1 x1 g1 d1
  refine st ph1 x.2 H1 sg rho v1 x.1 _ g1 (so.mono x1) d1 (holds_imp (holds_bind hx) (fun r hr => ?_) fun e r s q => W.mono _ _ _ _ e r s x1 q)
  exact fun ph2 sg2 H2 x2 g2 so2 _ => hr ph2 sg2 H2 (x1.trans x2) g2 so2
def sSet (i : Nat) (m : EM) : SM := fun rho S => (m rho S).bind fun x => .ok (.nx, rho.set i (some x.1), x.2)
theorem psd_set {i : Nat} {x : Str} {pos' : Pos} (hN : X.N.Nodup) (ha : PD X W a ma) (hi : X.N[i]? = some x := by rfl) (hx : Loc X.env.scope x := by first | exact Or.inl rfl | exact Or.inr rfl)
    (hs : swapsWith a (some (.Name x pos')) pos.line X.env = pure false := by rfl) (hf : X.fn x = true ∨ X.env.scope.names.lookup x = some .local := by first | exact .inl rfl | exact .inr rfl) : PSD X W (.Assign [.Name x pos'] a pos) (sSet i ma) := by
  obtain ⟨ta, pa, sa⟩ := ha.ex
  refine ⟨_, ps_set hN hi hx pa hs hf, fun ph S H sg rho Dn g so h => sa ph S H sg rho _ g so (holds_imp (holds_bind h) (fun x hx => ?_) fun _ _ _ q => q)⟩
  exact fun ph1 v1 H1 x1 g1 d1 => hx ph1 _ H1 x1 g1 ((so.mono x1).set i d1)
def sPar (i j : Nat) (m : AM) : SM := fun rho S => (m rho S).bind fun x => match x.1 with
  | [u, v] => .ok (.nx, (rho.set i (some u)).set j (some v), x.2)
  | _ => .stuck
theorem psd_par {i j : Nat} {x y : Str} {m : AM} {px py pt : Pos} {kt k2 : Nat} {pt2 : Pos} (hc : X.calm = true) (hN : X.N.Nodup) (ha : PDA X W [a, b] m) (hi : X.N[i]? = some x := by rfl) (hj : X.N[j]? = some y := by rfl) (hij : i ≠ j := by decide)
    (hx : X.env.scope.names.lookup x = some .local := by rfl) (hy : X.env.scope.names.lookup y = some .local := by rfl) (hw : swappedStores [.Tuple [.Name x px, .Name y py] kt pt] (.Tuple [a, b] k2 pt2) X.env = pure (some [x, y]) := by rfl)
    (hs : swapsWithSole [.Tuple [.Name x px, .Name y py] kt pt] (.Tuple [a, b] k2 pt2) pos.line X.env = pure false := by rfl) : PSD X W (.Assign [.Tuple [.Name x px, .Name y py] kt pt] (.Tuple [a, b] k2 pt2) pos) (sPar i j m) := by
  obtain ⟨t, p, s⟩ := ha.ex
  refine ⟨_, ps_par hc hN hi hj hij hx hy p hw hs, fun ph S H sg rho Dn g so h => s ph S H sg rho _ g so (holds_imp (holds_bind h) (fun z hz => ?_) fun _ _ _ q => q)⟩
  intro ph1 vs H1 x1 g1 d1
  obtain ⟨xs, S1⟩ := z
  dsimp only at *
  split at hz
  · obtain ⟨v, u, rfl, dv, du⟩ := two_of d1
    exact ⟨v, u, rfl, hz ph1 _ H1 x1 g1 (((so.mono x1).set i dv).set j du)⟩
  · exact hz.elim
def addI (x y : SV) : Option SV := match x, y with
  | .fr (.int i), .fr (.int j) => some (.fr (.int (i + j)))
  | _, _ => none
def getL (o i : SV) (S : Store) : Option SV := match i with
  | .fr (.int j) => if 0 ≤ j then match rdS S o with
    | some xs => atI xs j
    | none => none else none
  | _ => none
def sAugS (mo mi me : EM) : SM := fun rho S => (mo rho S).bind fun o => (mi rho o.2).bind fun i => match getL o.1 i.1 i.2 with
  | some old => (me rho i.2).bind fun y => match addI old y.1 with
    | some z => (setL o.1 i.1 z y.2).bind fun S' => .ok (.nx, rho, S')
    | none => .stuck
  | none => .stuck
def rIx0 (K : PySem.W.Frag) : V → V → Hp → VK → Prop := fun x y H Q => ∃ p xs i v, x = .ref p ∧ y = .int i ∧ 0 ≤ i ∧ SqL K H p xs ∧ atI xs i = some v ∧ Q v H
theorem pget_list : PGet X (rIx0 X.K) := by
  intro pins s sg H o i ov iv Q I r1 r2 h
  obtain ⟨p, xs, k, v, rfl, rfl, h0, hq, hv, q⟩ := h
  cases r1
  obtain ⟨t, rfl⟩ := r2
  obtain ⟨its, rv, pl, hz⟩ := I.list hq
  obtain ⟨j, hj, hx, hlt, hlo, hhi⟩ := atI_get hv
  obtain ⟨u, hu, ru⟩ := rv.get hx
  have hs : sizeLine = 16777216 := sizeLine_eq
  have hjk : k.toNat = j := by
    rw [seqIndex_of h0 hhi] at hj
    exact Option.some.inj hj
  exact wpAny_getItem_list (k := k) pl.isList h0 (by omega) (by rw [hjk]; simpa using hu) ⟨v, H, I, ru, q⟩
theorem ip_add2 : PIp X .Add (ipI fun i j => i + j) := ip_add
theorem psd_augS {oe ie ve : Expr} {mo mi me : EM} {tpos : Pos} (ho : PD X W oe mo) (hi : PD X W ie mi) (he : PD X W ve me)
    (ha : ∀ ov iv new, augStore ie ov iv new = (do holding [new, ov, iv] (setItem ov iv new); release [new, ov, iv] []; pure .next) := by intros; rfl) : PSD X W (.AugAssign (.Subscript oe ie tpos) .Add ve pos) (sAugS mo mi me) := by
  obtain ⟨to, po, so'⟩ := ho.ex
  obtain ⟨ti, pi, si⟩ := hi.ex
  obtain ⟨te, pe, se⟩ := he.ex
  refine ⟨_, ps_augS po pi pget_list pe ip_add2 set_list ha, fun ph S H sg rho Dn g so h => so' ph S H sg rho _ g so (holds_imp (holds_bind h) (fun o hx => ?_) fun _ _ _ q => q)⟩
  intro ph1 v1 H1 x1 g1 d1
  refine si ph1 o.2 H1 sg rho _ g1 (so.mono x1) (holds_imp (holds_bind hx) (fun i hy => ?_) fun e r s q => W.mono _ _ _ _ e r s x1 q)
  intro ph2 v2 H2 x2 g2 d2
  have d12 := d1.mono x2
  obtain ⟨iv, S2⟩ := i
  dsimp only at hy g2 d2
  split at hy
  · rename_i old hold
    unfold getL at hold
    split at hold
    · rename_i j
      split at hold
      · rename_i hj0
        split at hold
        · rename_i xs hxs
          obtain ⟨p, vs, e1, s1, r1⟩ := rdS_ok g2 d12 hxs
          subst e1
          obtain ⟨w', hw', dw⟩ := atI_pair r1 hold
          refine ⟨p, vs, j, w', rfl, d_int d2, hj0, s1, hw', ?_⟩
          refine se ph2 S2 H2 sg rho _ g2 (so.mono (x1.trans x2)) (holds_imp (holds_bind hy) (fun y hz => ?_) fun e r s q => W.mono _ _ _ _ e r s (x1.trans x2) q)
          intro ph3 v3 H3 x3 g3 d3
          obtain ⟨yv, S3⟩ := y
          dsimp only at hz g3 d3
          split at hz
          · rename_i z hzz
            unfold addI at hzz
            split at hzz
            · rename_i n1 n2
              cases hzz
              refine ⟨n1, n2, d_int dw, d_int d3, ?_⟩
              refine setL_ok g3 (d12.mono x3) (d2.mono x3) (sv := .fr (.int (n1 + n2))) (Den.int (n1 + n2)) (holds_imp (holds_bind hz) (fun S4 h4 => ?_) fun e r s q => q)
              intro ph4 H4 x4 g4
              have x14 := x1.trans (x2.trans (x3.trans x4))
              exact h4 ph4 sg H4 x14 g4 (so.mono x14)
            · cases hzz
          · exact hz.elim
        · cases hold
      · cases hold
    · cases hold
  · exact hy.elim
end
end DL

namespace DL
open PySem PySem.Spec PyProof.Rows L2

structure Wk where
  xs : List SV
  lk : Store → Prop
abbrev IM := Slots → Store → Res (Wk × Store)
structure WalkOk (K : PySem.W.Frag) (ph : List Addr) (H : Hp) (J : It) (w : Wk) : Prop where
  go : ∀ (i : Nat) (x : SV) (ph' : List Addr) (H' : Hp) (S' : Store), w.xs[i]? = some x → Ext ph H ph' H' → Good K ph' H' S' → w.lk S' → J.go i H'
  yld : ∀ (i : Nat) (x : SV) (ph' : List Addr) (H' : Hp) (S' : Store) (v : V) (H2 : Hp), w.xs[i]? = some x → Ext ph H ph' H' → Good K ph' H' S' → w.lk S' → J.yld i H' v H2 → Ext ph' H' ph' H2 ∧ Good K ph' H2 S' ∧ DenS K ph' H2 v x
  stop : ∀ (i : Nat) (ph' : List Addr) (H' : Hp) (S' : Store), w.xs.length ≤ i → Ext ph H ph' H' → Good K ph' H' S' → w.lk S' → J.stop i H'
def postI (K : PySem.W.Frag) (ph : List Addr) (H : Hp) (R : It → Hp → Prop) : Wk × Store → Prop := fun r => ∀ ph' H' J, Ext ph H ph' H' → Good K ph' H' r.2 → WalkOk K ph' H' J r.1 → R J H'
structure PID (X : Cx) (W : XW X.K) (tg iter : Expr) (m : IM) : Prop where
  ex : ∃ t, PI X tg iter t ∧ ∀ (ph : List Addr) (S : Store) (H : Hp) (sg : L2.St) (rho : Slots) (R : It → Hp → Prop), Good X.K ph H S → SlotsOk X.K ph H sg rho →
    holds (m rho S) (postI X.K ph H R) (W.rel ph H) → t sg H R
theorem WalkOk.mono {K : PySem.W.Frag} {ph ph2 : List Addr} {H H2 : Hp} {J : It} {w : Wk} (e : Ext ph H ph2 H2) (h : WalkOk K ph H J w) : WalkOk K ph2 H2 J w :=
  ⟨fun i x p G S a b => h.go i x p G S a (e.trans b), fun i x p G S v G2 a b => h.yld i x p G S v G2 a (e.trans b), fun i p G S a b => h.stop i p G S a (e.trans b)⟩
def iSeq (m : EM) : IM := fun rho S => (m rho S).bind fun x => match x.1 with
  | .fr (.tup _) => .stuck
  | .fr _ => match rdS x.2 x.1 with
    | some xs => .ok (⟨xs, fun _ => True⟩, x.2)
    | none => .stuck
  | .cell k => match rdL x.2 (.cell k) with
    | some xs => .ok (⟨xs, fun S' => S'[k]? = some (.lst xs)⟩, x.2)
    | none => .stuck
def iTp (m : EM) : IM := fun rho S => (m rho S).bind fun x => match x.1 with
  | .fr (.tup ds) => .ok (⟨ds.map SV.fr, fun _ => True⟩, x.2)
  | _ => .stuck
section
variable {X : Cx} {W : XW X.K} {a b c tg : Expr} {ma mb mc : EM} {pos : Pos}
theorem walk_fix {K : PySem.W.Frag} {ph : List Addr} {H : Hp} {p : Addr} {vs : List V} {xs : List SV} {lk : Store → Prop} (s : SqL K (hide ph H) p vs) (r : DenSs K ph H vs xs) : WalkOk K ph H (Itl K p) ⟨xs, lk⟩ where
  go := fun i x ph' H' S' hx e g _ => by
    obtain ⟨v, hv, _⟩ := paired_get r hx
    exact ⟨vs, v, hide_sub.sqL (e.sub.sqL s), hv⟩
  yld := fun i x ph' H' S' v H2 hx e g _ y => by
    obtain ⟨rfl, y⟩ := y
    obtain ⟨v', hv, d⟩ := paired_get r hx
    have := y vs (hide_sub.sqL (e.sub.sqL s))
    rw [this] at hv
    cases hv
    exact ⟨Ext.refl _ _, g, d.mono e⟩
  stop := fun i ph' H' S' hi e g _ => ⟨vs, hide_sub.sqL (e.sub.sqL s), by rw [r.length]; exact hi⟩
theorem walk_cell {K : PySem.W.Frag} {ph : List Addr} {H : Hp} {p : Addr} {k : Nat} {xs : List SV} (hp : ph[k]? = some p) : WalkOk K ph H (Itl K p) ⟨xs, fun S' => S'[k]? = some (.lst xs)⟩ where
  go := fun i x ph' H' S' hx e g hk => by
    obtain ⟨q, h1, vs, h2, h3⟩ := g.at hk
    obtain ⟨ps, rfl, _⟩ := e.pre
    rw [List.getElem?_append_left (List.getElem?_eq_some_iff.mp hp).1, hp] at h1
    cases h1
    obtain ⟨v, hv, _⟩ := paired_get h3 hx
    exact ⟨vs, v, .of h2, hv⟩
  yld := fun i x ph' H' S' v H2 hx e g hk y => by
    obtain ⟨rfl, y⟩ := y
    obtain ⟨q, h1, vs, h2, h3⟩ := g.at hk
    have hp' : ph'[k]? = some p := by
      obtain ⟨ps, rfl, _⟩ := e.pre
      rw [List.getElem?_append_left (List.getElem?_eq_some_iff.mp hp).1, hp]
    rw [hp'] at h1
    cases h1
    obtain ⟨v', hv, d⟩ := paired_get h3 hx
    have := y vs (.of h2)
    rw [this] at hv
    cases hv
    exact ⟨Ext.refl _ _, g, d⟩
  stop := fun i ph' H' S' hi e g hk => by
    obtain ⟨q, h1, vs, h2, h3⟩ := g.at hk
    obtain ⟨ps, rfl, _⟩ := e.pre
    rw [List.getElem?_append_left (List.getElem?_eq_some_iff.mp hp).1, hp] at h1
    cases h1
    exact ⟨vs, .of h2, by rw [h3.length]; exact hi⟩
theorem rdS_fr {K : PySem.W.Frag} {ph : List Addr} {H : Hp} {S : Store} {v : V} {d : D} {xs : List SV} (h : DenS K ph H v (.fr d)) (e : rdS S (.fr d) = some xs) : ∃ a vs, v = .ref a ∧ SqL K (hide ph H) a vs ∧ DenSs K ph H vs xs := by
  cases d with
  | lst ds => simp [rdS, rdL] at e; subst e; cases h with | lst s r => exact ⟨_, _, rfl, .of s, of_dens r⟩
  | scr ds => simp [rdS] at e; subst e; cases h with | scr s r => exact ⟨_, _, rfl, s, of_dens r⟩
  | _ => simp [rdS, rdL] at e
theorem pid_seq (ha : PD X W a ma) : PID X W tg a (iSeq ma) := by
  obtain ⟨ta, pa, sa⟩ := ha.ex
  refine ⟨_, pi_list pa, fun ph S H sg rho R g so h => sa ph S H sg rho _ g so (holds_imp (holds_bind h) (fun x hx => ?_) fun _ _ _ q => q)⟩
  intro ph1 v1 H1 x1 g1 d1
  obtain ⟨sv, S1⟩ := x
  dsimp only at *
  split at hx
  · exact hx.elim
  · split at hx
    · rename_i xs he
      obtain ⟨p, vs, rfl, s, r⟩ := rdS_fr d1 he
      exact ⟨p, rfl, ⟨vs, hide_sub.sqL s⟩, hx ph1 H1 _ x1 g1 (walk_fix s r)⟩
    · exact hx.elim
  · split at hx
    · rename_i k xs he
      obtain ⟨p, h1, rfl⟩ := id d1
      obtain ⟨q, vs, e1, h2, h3⟩ := rdL_at g1 d1 he
      cases e1
      exact ⟨p, rfl, ⟨vs, .of h2⟩, hx ph1 H1 _ x1 g1 (walk_cell h1)⟩
    · exact hx.elim
def rngS (lo : Int) (n : Nat) : List SV := (List.range n).map fun i => .fr (.int (lo + (i : Nat)))
theorem walk_range {K : PySem.W.Frag} {ph : List Addr} {H : Hp} {lo : Int} {n : Nat} {lk : Store → Prop} : WalkOk K ph H (Itr lo n) ⟨rngS lo n, lk⟩ where
  go := fun i x ph' H' S' hx e g _ => by
    have := (List.getElem?_eq_some_iff.mp hx).1
    simpa [rngS, Itr] using this
  yld := fun i x ph' H' S' v H2 hx e g _ y => by
    obtain ⟨rfl, rfl⟩ := y
    have h1 := (List.getElem?_eq_some_iff.mp hx).1
    have hx' : (rngS lo n)[i]? = some x := hx
    have hi : i < n := by simpa [rngS] using h1
    rw [rngS, List.getElem?_map, List.getElem?_range hi] at hx'
    cases hx'
    exact ⟨Ext.refl _ _, g, Den.int _⟩
  stop := fun i ph' H' S' hi e g _ => by simpa [rngS, Itr] using hi
def iR1 (m : AM) : IM := fun rho S => (m rho S).bind fun x => match x.1 with
  | [.fr (.int j)] => if -(2 ^ 62) ≤ j ∧ j < 2 ^ 62 then .ok (⟨rngS 0 j.toNat, fun _ => True⟩, x.2) else .stuck
  | _ => .stuck
def iR2 (m : AM) : IM := fun rho S => (m rho S).bind fun x => match x.1 with
  | [.fr (.int i), .fr (.int j)] => if -(2 ^ 62) ≤ i ∧ i < 2 ^ 62 ∧ -(2 ^ 62) ≤ j ∧ j < 2 ^ 62 then .ok (⟨rngS i (j - i).toNat, fun _ => True⟩, x.2) else .stuck
  | _ => .stuck
theorem pid_range1 {m : AM} {p : Pos} (hm : X.mg "range" = none) (ha : PDA X W [a] m) (hg : Gl X "range" := by rfl) (hs : starEach [a] X.env = [(false, eval a X.env)] := by rfl) : PID X W tg (.Call (.Name "range" p) [a] [] pos) (iR1 m) := by
  obtain ⟨t, pt, st⟩ := ha.ex
  refine ⟨_, pi_range1 hg hm pt hs, fun ph S H sg rho R g so h => st ph S H sg rho _ g so (holds_imp (holds_bind h) (fun x hx => ?_) fun _ _ _ q => q)⟩
  intro ph1 vs H1 x1 g1 d1
  obtain ⟨xs, S1⟩ := x
  dsimp only at *
  split at hx
  · split at hx
    · rename_i j hj
      obtain ⟨v, rfl, dv⟩ := one_of d1
      rw [d_int dv]
      exact ⟨j, rfl, hj.1, hj.2, hx ph1 H1 _ x1 g1 walk_range⟩
    · exact hx.elim
  · exact hx.elim
theorem pid_range2 {m : AM} {p : Pos} (hm : X.mg "range" = none) (ha : PDA X W [a, b] m) (hg : Gl X "range" := by rfl) (hs : starEach [a, b] X.env = [(false, eval a X.env), (false, eval b X.env)] := by rfl) (hs2 : starEach [b] X.env = [(false, eval b X.env)] := by rfl) : PID X W tg (.Call (.Name "range" p) [a, b] [] pos) (iR2 m) := by
  obtain ⟨t, pt, st⟩ := ha.ex
  refine ⟨_, pi_range2 hg hm pt hs hs2, fun ph S H sg rho R g so h => st ph S H sg rho _ g so (holds_imp (holds_bind h) (fun x hx => ?_) fun _ _ _ q => q)⟩
  intro ph1 vs H1 x1 g1 d1
  obtain ⟨xs, S1⟩ := x
  dsimp only at *
  split at hx
  · split at hx
    · rename_i i j hj
      obtain ⟨v, u, rfl, dv, du⟩ := two_of d1
      rw [d_int dv, d_int du]
      exact ⟨i, j, rfl, hj, hx ph1 H1 _ x1 g1 walk_range⟩
    · exact hx.elim
  · exact hx.elim

open Classical in
noncomputable def loopM (lk : Store → Prop) (g : GM) (b : SM) : List SV → SM
  | [] => fun rho S => if lk S then .ok (.nx, rho, S) else .stuck
  | x :: xs => fun rho S => if lk S then (g x rho S).bind fun r => (b r.1 r.2).bind fun q => match q.1 with
    | .nx => loopM lk g b xs q.2.1 q.2.2
    | .ct => loopM lk g b xs q.2.1 q.2.2
    | .bk => .ok (.nx, q.2.1, q.2.2)
    | .rt v => .ok (.rt v, q.2.1, q.2.2) else .stuck
noncomputable def sFor (im : IM) (g : GM) (b : SM) : SM := fun rho S => (im rho S).bind fun w => loopM w.1.lk g b w.1.xs rho w.2
theorem psd_for {is : List Nat} {body : List Stmt} {im : IM} {g : GM} {mb : SM} (hc : X.calm = true) (hp : PassesOwn (model X.prog X.w) X.A X.env X.xe) (hi : PID X W tg a im) (hg : PGD X W is tg g) (hb : PSDs X W body mb)
    (hs : ∀ x, foldedSetIterable a X.env x = pure x := by intro _; rfl) : PSD X W (.For tg a body [] pos) (sFor im g mb) := by
  obtain ⟨ti, pi, si⟩ := hi.ex
  obtain ⟨tt, pt, st⟩ := hg.ex
  obtain ⟨tb, pb, sb⟩ := hb.ex
  refine ⟨_, ps_for hp hc pi pt pb hs, fun ph S H sg rho Dn gd so h => si ph S H sg rho _ gd so (holds_imp (holds_bind h) (fun w hw => ?_) fun _ _ _ q => q)⟩
  intro ph1 H1 J x1 g1 wk
  obtain ⟨⟨xs, lk⟩, S1⟩ := w
  dsimp only at hw g1
  refine ⟨fun i m sg' H' => m = xs.length - i ∧ i ≤ xs.length ∧ ∃ ph' S' rho', Ext ph1 H1 ph' H' ∧ Good X.K ph' H' S' ∧ SlotsOk X.K ph' H' sg' rho' ∧ holds (loopM lk g mb (xs.drop i) rho' S') (postS X.K ph' H' Dn) (W.rel ph' H'),
    ⟨_, rfl, Nat.zero_le _, ph1, S1, rho, Ext.refl _ _, g1, so.mono x1, holds_imp hw (fun c => postS.mono x1 c) fun e r s q => W.mono _ _ _ _ e r s x1 q⟩, ?_⟩
  rintro i m sg2 H2 ⟨rfl, hle, ph2, S2, rho2, x2, g2, so2, h2⟩
  by_cases hi : i < xs.length
  · right
    rw [List.drop_eq_getElem_cons hi] at h2
    unfold loopM at h2
    split at h2
    · rename_i hlk
      have hx : (⟨xs, lk⟩ : Wk).xs[i]? = some xs[i] := List.getElem?_eq_getElem hi
      refine ⟨wk.go i xs[i] ph2 H2 S2 hx x2 g2 hlk, fun sg' H' => ∃ ph' S' rho', Ext ph1 H1 ph' H' ∧ Good X.K ph' H' S' ∧ SlotsOk X.K ph' H' sg' rho' ∧ holds (loopM lk g mb (xs.drop (i + 1)) rho' S') (postS X.K ph' H' Dn) (W.rel ph' H'), fun sg' H' q => ⟨xs.length - (i + 1), by omega, rfl, hi, q⟩, fun v H3 y => ?_⟩
      obtain ⟨x3, g3, d3⟩ := wk.yld i xs[i] ph2 H2 S2 v H3 hx x2 g2 hlk y
      refine st ph2 S2 H3 sg2 rho2 v xs[i] _ g3 (so2.mono x3) d3 (holds_imp (holds_bind h2) (fun r hr => ?_) fun e r s q => W.mono _ _ _ _ e r s x3 q)
      intro ph4 sg4 H4 x4 g4 so4 _
      have x34 := x3.trans x4
      refine sb ph4 r.2 H4 sg4 r.1 _ g4 so4 (holds_imp (holds_bind hr) (fun q hq => ?_) fun e r s q => W.mono _ _ _ _ e r s x34 q)
      intro ph5 sg5 H5 x5 g5 so5
      have x35 := x34.trans x5
      obtain ⟨fl, rho5, S5⟩ := q
      dsimp only at *
      cases fl with
      | nx => exact ⟨ph5, S5, rho5, x2.trans x35, g5, so5, holds_imp hq (fun c => postS.mono x35 c) fun e r s q => W.mono _ _ _ _ e r s x35 q⟩
      | ct => exact ⟨ph5, S5, rho5, x2.trans x35, g5, so5, holds_imp hq (fun c => postS.mono x35 c) fun e r s q => W.mono _ _ _ _ e r s x35 q⟩
      | bk => exact hq ph5 sg5 H5 x35 g5 so5
      | rt x => exact fun v' dv' => hq ph5 sg5 H5 x35 g5 so5 v' dv'
    · exact h2.elim
  · left
    have e : i = xs.length := by omega
    subst e
    rw [List.drop_length] at h2
    unfold loopM at h2
    split at h2
    · rename_i hlk
      exact ⟨wk.stop xs.length ph2 H2 S2 (Nat.le_refl _) x2 g2 hlk, h2 ph2 sg2 H2 (Ext.refl _ _) g2 so2⟩
    · exact h2.elim

end
end DL

namespace DL
open PySem PySem.Spec PyProof.Rows L2

def tOf (K : PySem.W.Frag) (W : XW K) (m : EM) : TE := fun sg H Q => ∃ ph S rho, Good K ph H S ∧ SlotsOk K ph H sg rho ∧ holds (m rho S) (post K ph H Q) (W.rel ph H)
def tOfT (K : PySem.W.Frag) (W : XW K) (m : TM) : TT := fun sg H Q => ∃ ph S rho, Good K ph H S ∧ SlotsOk K ph H sg rho ∧ holds (m rho S) (postT K ph H Q) (W.rel ph H)
def tOfG (K : PySem.W.Frag) (W : XW K) (is : List Nat) (m : GM) : TG := fun v sg H Q => ∃ ph S rho x, Good K ph H S ∧ SlotsOk K ph H sg rho ∧ DenS K ph H v x ∧ holds (m x rho S) (postG K ph H is sg Q) (W.rel ph H)
section
variable {X : Cx} {W : XW X.K} {a b c tg : Expr} {ma mb mc : EM} {pos : Pos}
theorem PD.pe (h : PD X W a ma) : PE X a (tOf X.K W ma) := by
  obtain ⟨t, p, s⟩ := h.ex
  refine ⟨fun pins s' sg H Q I q => ?_⟩
  obtain ⟨ph, S, rho, g, so, hh⟩ := q
  exact p.run pins s' sg H Q I (s ph S H sg rho Q g so hh)
theorem PDT.pt (h : PDT X W a m) : PT X a (tOfT X.K W m) := by
  obtain ⟨t, p, s⟩ := h.ex
  refine ⟨fun pins s' sg H Q I q => ?_⟩
  obtain ⟨ph, S, rho, g, so, hh⟩ := q
  exact p.run pins s' sg H Q I (s ph S H sg rho Q g so hh)
theorem PGD.pg {is : List Nat} {m : GM} (h : PGD X W is a m) : PG X a (tOfG X.K W is m) := by
  obtain ⟨t, p, s⟩ := h.ex
  refine ⟨fun pins s' sg H v u Q I r q => ?_⟩
  obtain ⟨ph, S, rho, x, g, so, d, hh⟩ := q
  exact p.run pins s' sg H v u Q I r (s ph S H sg rho v x Q g so d hh)

def wipeR (rho : Slots) : List Nat → Slots
  | [] => rho
  | v :: vs => (wipeR rho vs).set v none
theorem wipeR_len (rho : Slots) : ∀ vs : List Nat, (wipeR rho vs).length = rho.length
  | [] => rfl
  | v :: vs => by unfold wipeR; rw [List.length_set, wipeR_len rho vs]
theorem wipeR_get {rho : Slots} {i : Nat} {x : SV} : ∀ {vs : List Nat}, (wipeR rho vs)[i]? = some (some x) → rho[i]? = some (some x) ∧ i ∉ vs
  | [], h => ⟨h, by simp⟩
  | v :: vs, h => by
    unfold wipeR at h
    by_cases hi : v = i
    · subst hi
      by_cases hv : v < (wipeR rho vs).length
      · rw [List.getElem?_set_self hv] at h; cases h
      · rw [List.getElem?_eq_none (by rw [List.length_set]; omega)] at h; cases h
    · rw [List.getElem?_set_ne hi] at h
      obtain ⟨h1, h2⟩ := wipeR_get h
      exact ⟨h1, fun m => by rcases List.mem_cons.mp m with e | m; exact hi e.symm; exact h2 m⟩
theorem wipe_in {sg : L2.St} {i : Nat} : ∀ {vs : List Nat}, i ∈ vs → (wipe sg vs)[i]? = if i < sg.length then some none else none
  | [], h => nomatch h
  | v :: vs, h => by
    unfold wipe
    by_cases hi : v = i
    · subst hi
      by_cases hv : v < sg.length
      · rw [if_pos hv, List.getElem?_set_self (by rw [wipe_length]; exact hv)]
      · rw [if_neg hv, List.getElem?_eq_none (by rw [List.length_set, wipe_length]; omega)]
    · rw [List.getElem?_set_ne hi]
      exact wipe_in (by rcases List.mem_cons.mp h with e | m; exact absurd e.symm hi; exact m)
theorem wipe_eq {sg sg2 : L2.St} {is vs : List Nat} (h : ∀ i ∈ is, i ∈ vs) (o : Out is (wipe sg vs) sg2) : wipe sg2 vs = wipe sg vs := by
  obtain ⟨o1, o2⟩ := o
  rw [wipe_length] at o1
  apply List.ext_getElem?
  intro i
  by_cases hi : i ∈ vs
  · rw [wipe_in hi, wipe_in hi, o1]
  · rw [wipe_out hi, o2 i fun m => hi (h i m)]
theorem SlotsOk.wiped {K : PySem.W.Frag} {ph : List Addr} {H : Hp} {sg : L2.St} {rho : Slots} (so : SlotsOk K ph H sg rho) (vs : List Nat) : SlotsOk K ph H (wipe sg vs) (wipeR rho vs) := by
  refine ⟨by rw [wipe_length, wipeR_len]; exact so.1, fun i x h => ?_⟩
  obtain ⟨h1, h2⟩ := wipeR_get h
  rw [wipe_out h2]
  exact so.2 i x h1

def unS (n : Nat) (S : Store) : Option (Store × List SV) := match S.drop n with
  | [.lst acc] => some (S.take n, acc)
  | _ => none
theorem unS_app {S : Store} {acc : List SV} {n : Nat} (h : S.length = n) : unS n (S ++ [.lst acc]) = some (S, acc) := by
  subst h
  unfold unS
  rw [List.drop_left', List.take_left'] <;> simp
theorem unS_some {n : Nat} {S S' : Store} {acc : List SV} (h : unS n S = some (S', acc)) (hn : n ≤ S.length) : S = S' ++ [.lst acc] ∧ S'.length = n := by
  unfold unS at h
  split at h
  · rename_i a e
    simp only [Option.some.injEq, Prod.mk.injEq] at h
    obtain ⟨rfl, rfl⟩ := h
    refine ⟨?_, by simp [hn]⟩
    rw [← e, List.take_append_drop]
  · cases h
open Classical in
noncomputable def lcM (lk : Store → Prop) (g : GM) (t : TM) (e : EM) (own : List Nat) (rho : Slots) : List SV → Store → List SV → Res (List SV × Store)
  | [], S, acc => if lk (S ++ [.lst acc]) then .ok (acc, S) else .stuck
  | x :: xs, S, acc => if lk (S ++ [.lst acc]) then (g x (wipeR rho own) (S ++ [.lst acc])).bind fun r => (t r.1 r.2).bind fun k => if k.1 then (e r.1 k.2).bind fun y => match unS S.length y.2 with
      | some q => if q.2.length < sizeLine then lcM lk g t e own rho xs q.1 (q.2 ++ [y.1]) else .stuck
      | none => .stuck
    else (match unS S.length k.2 with
      | some q => lcM lk g t e own rho xs q.1 q.2
      | none => .stuck) else .stuck
def lcEnd (c : Bool) (acc : List SV) (S : Store) : Res (SV × Store) := if c then .ok (.cell S.length, S ++ [.lst acc]) else if S.all (Cell.below S.length) then match allFr acc with
  | some ds => .ok (.fr (.lst ds), S)
  | none => .stuck else .stuck
def tTr : TM := fun _ S => .ok (true, S)
theorem lcEnd_ok {K : PySem.W.Frag} {ph : List Addr} {H H' : Hp} {D : Addr} {acc : List SV} {S0 S : Store} {c : Bool} {Q : VK} {E : Exc → Slots → Store → Prop} (g0 : Good K ph H S0) (hD : H D = none) (x : Ext ph H (ph ++ [D]) H') (g : Good K (ph ++ [D]) H' (S ++ [.lst acc]))
    (h : holds (lcEnd c acc S) (post K ph H Q) E) : Q (.ref D) H' := by
  have hl : ph.length = S.length := by have := g.len; simpa using this
  unfold lcEnd at h
  cases c with
  | true => exact h (ph ++ [D]) (.ref D) H' x g ⟨D, by rw [← hl]; simp, rfl⟩
  | false =>
    simp only [Bool.false_eq_true, if_false] at h
    split at h
    · rename_i hb
      split at h
      · rename_i ds hd
        have hm : ∀ a ∈ ph, a ∈ ph ++ [D] := fun a m => List.mem_append_left _ m
        have hk : ∀ k, k < S.length → ph[k]? = (ph ++ [D])[k]? := fun k hk => by rw [List.getElem?_append_left (by omega)]
        obtain ⟨vs, h4, h5⟩ : CellAt K (ph ++ [D]) H' D (.lst acc) := paired_at (k := S.length) g.cells (by rw [← hl]; simp) (by simp)
        have q := paired_take S.length g.cells
        rw [List.take_left' rfl, List.take_left' hl] at q
        refine h ph (.ref D) H' x.back ⟨g0.nd, paired_all (f := Cell.below S.length) (fun p c hc d => CellAt.shrink (n := S.length) hm hk hc d) q hb, g.tb⟩ ?_
        rw [allFr_eq hd] at h5
        exact .lst (hide_of (g0.new hD) h4) (Dens.mono (sub_hide hm) (dens_of h5))
      · exact h.elim
    · exact h.elim
def noE {α : Type} (r : Res α) : Res α := match r with
  | .exc _ _ _ => .stuck
  | x => x
abbrev Blk (X : Cx) (scope : Scope) (s : Shared) (H : Hp) (C : Addr) (cl : List (Str × Addr)) (fp : List Addr) : Cx := X.blk s H scope (compEnvC scope cl C X.env) fp
theorem lc_snd {wi : TI} {im : IM} {is own : List Nat} {g : GM} {t : TM} {e : EM} {cc : Bool} (hown : ∀ i ∈ is, i ∈ own)
    (si : ∀ (ph : List Addr) (S : Store) (H : Hp) (sg : L2.St) (rho : Slots) (R : It → Hp → Prop), Good X.K ph H S → SlotsOk X.K ph H sg rho → holds (im rho S) (postI X.K ph H R) (W.rel ph H) → wi sg H R) :
    SndE X W (tLc wi (tOfG X.K (XW.none X.K) is g) (tOfT X.K (XW.none X.K) t) (tOf X.K (XW.none X.K) e) own) (fun rho S => (im rho S).bind fun w => (noE (lcM w.1.lk g t e own rho w.1.xs w.2 [])).bind fun r => lcEnd cc r.1 r.2) := by
  intro ph S H sg rho Q gd so h
  refine si ph S H sg rho _ gd so (holds_imp (holds_bind h) (fun w hw => ?_) fun _ _ _ q => q)
  intro ph1 H1 J x1 g1 wk D hD
  obtain ⟨⟨xs, lk⟩, S1⟩ := w
  dsimp only at hw g1
  have so1 := so.mono x1
  have x0 : Ext ph1 H1 (ph1 ++ [D]) (upd H1 D (.lst [])) := Ext.cell hD
  have gD : Good X.K (ph1 ++ [D]) (upd H1 D (.lst [])) (S1 ++ [.lst []]) := g1.cell hD ⟨[], upd_same, .nil⟩
  have fin : ∀ (acc : List SV) (S' : Store) (H' : Hp), Ext (ph1 ++ [D]) (upd H1 D (.lst [])) (ph1 ++ [D]) H' → Good X.K (ph1 ++ [D]) H' (S' ++ [.lst acc]) → holds (lcEnd cc acc S') (post X.K ph H Q) (W.rel ph H) → Q (.ref D) H' := fun acc S' H' x' g' q =>
    lcEnd_ok g1 hD (x0.trans x') g' (holds_imp q (fun c => post.mono x1 c) fun _ _ _ z => z)
  have start0 : holds (lcM lk g t e own rho xs S1 []) (fun r => holds (lcEnd cc r.1 r.2) (post X.K ph H Q) (W.rel ph H)) (fun _ _ _ => False) := by
    revert hw
    cases lcM lk g t e own rho xs S1 [] with
    | ok r => exact fun q => q
    | exc _ _ _ => exact fun q => q.elim
    | stuck => exact fun q => q.elim
  refine ⟨fun i m H' => m = xs.length - i ∧ i ≤ xs.length ∧ ∃ S' acc, S'.length = S1.length ∧ Ext (ph1 ++ [D]) (upd H1 D (.lst [])) (ph1 ++ [D]) H' ∧ Good X.K (ph1 ++ [D]) H' (S' ++ [.lst acc]) ∧
      holds (lcM lk g t e own rho (xs.drop i) S' acc) (fun r => holds (lcEnd cc r.1 r.2) (post X.K ph H Q) (W.rel ph H)) (fun _ _ _ => False), ⟨_, rfl, Nat.zero_le _, S1, [], rfl, Ext.refl _ _, gD, start0⟩, ?_⟩
  rintro i m H2 ⟨rfl, hle, S2, acc, hl2, x2, g2, h2⟩
  by_cases hi : i < xs.length
  · right
    rw [List.drop_eq_getElem_cons hi] at h2
    unfold lcM at h2
    split at h2
    · rename_i hlk
      have hx : (⟨xs, lk⟩ : Wk).xs[i]? = some xs[i] := List.getElem?_eq_getElem hi
      refine ⟨wk.go i xs[i] _ H2 _ hx (x0.trans x2) g2 hlk, fun H' => ∃ S' acc, S'.length = S1.length ∧ Ext (ph1 ++ [D]) (upd H1 D (.lst [])) (ph1 ++ [D]) H' ∧ Good X.K (ph1 ++ [D]) H' (S' ++ [.lst acc]) ∧
        holds (lcM lk g t e own rho (xs.drop (i + 1)) S' acc) (fun r => holds (lcEnd cc r.1 r.2) (post X.K ph H Q) (W.rel ph H)) (fun _ _ _ => False), fun H' q => ⟨xs.length - (i + 1), by omega, rfl, hi, q⟩, fun v H3 y => ?_⟩
      obtain ⟨x3, g3, d3⟩ := wk.yld i xs[i] _ H2 _ v H3 hx (x0.trans x2) g2 hlk y
      have so3 := (so1.mono (x0.trans (x2.trans x3))).wiped own
      refine ⟨_, _, _, xs[i], g3, so3, d3, holds_imp (holds_bind h2) (fun r hr => ?_) fun _ _ _ z => z⟩
      intro ph4 sg4 H4 x4 g4 so4 o4
      refine ⟨wipe_eq hown o4, ph4, r.2, r.1, g4, so4, holds_imp (holds_bind hr) (fun k hk => ?_) fun _ _ _ z => z⟩
      intro ph5 H5 x5 g5
      obtain ⟨kb, S5⟩ := k
      dsimp only at hk g5
      have x35 := x3.trans (x4.trans x5)
      -- the cells are those ahead of the turn
      have same : ∀ {ph' : List Addr} {H' : Hp} {S' S6 : Store} {acc' : List SV}, Ext (ph1 ++ [D]) H2 ph' H' → Good X.K ph' H' S' → unS S2.length S' = some (S6, acc') → ph' = ph1 ++ [D] ∧ S' = S6 ++ [.lst acc'] ∧ S6.length = S1.length := by
        intro ph' H' S' S6 acc' x' g' hu
        have gl2 := g2.len
        obtain ⟨ps, rfl, _⟩ := x'.pre
        have gl := g'.len
        simp only [List.length_append, List.length_cons, List.length_nil] at gl gl2
        obtain ⟨e1, e2⟩ := unS_some hu (by omega)
        refine ⟨?_, e1, e2.trans hl2⟩
        subst e1
        simp only [List.length_append, List.length_cons, List.length_nil] at gl
        have : ps.length = 0 := by omega
        rw [List.length_eq_zero_iff.mp this, List.append_nil]
      cases kb with
      | false =>
        simp only [Bool.false_eq_true, if_false] at hk ⊢
        split at hk
        · rename_i q hq
          obtain ⟨S6, acc'⟩ := q
          obtain ⟨rfl, rfl, l6⟩ := same x35 g5 hq
          exact ⟨S6, acc', l6, x2.trans x35, g5, hk⟩
        · exact hk.elim
      | true =>
        simp only [if_true] at hk ⊢
        refine ⟨ph5, S5, r.1, g5, so4.mono x5, holds_imp (holds_bind hk) (fun y hy => ?_) fun _ _ _ z => z⟩
        intro ph6 v6 H6 x6 g6 d6
        have x36 := x35.trans x6
        obtain ⟨yv, S7⟩ := y
        dsimp only at hy g6 d6
        split at hy
        · rename_i q hq
          obtain ⟨S8, acc'⟩ := q
          obtain ⟨rfl, rfl, l8⟩ := same x36 g6 hq
          split at hy
          · rename_i hz
            have hp : (ph1 ++ [D])[S8.length]? = some D := by rw [l8, ← g1.len]; simp
            obtain ⟨vs, h4, h5⟩ : CellAt X.K (ph1 ++ [D]) H6 D (.lst acc') := paired_at (k := S8.length) g6.cells hp (by simp)
            have hm : D ∈ ph1 ++ [D] := by simp
            have xw : Ext (ph1 ++ [D]) H6 (ph1 ++ [D]) (upd H6 D (.lst (vs ++ [v6]))) := Ext.write hm (nofrz h4 fun _ _ z => nomatch z)
            refine ⟨vs, h4, by rw [h5.length]; exact hz, S8, acc' ++ [yv], l8, (x2.trans x36).trans xw, ?_, hy⟩
            have gw := g6.write (o := .lst (vs ++ [v6])) (c := .lst (acc' ++ [yv])) hp ⟨vs ++ [v6], upd_same, paired_snoc (DenSs.mono xw h5) (d6.mono xw)⟩
            rw [List.set_append_right _ _ (Nat.le_refl _)] at gw
            simpa using gw
          · exact hy.elim
        · exact hy.elim
    · exact h2.elim
  · left
    have e : i = xs.length := by omega
    subst e
    rw [List.drop_length] at h2
    unfold lcM at h2
    split at h2
    · rename_i hlk
      exact ⟨wk.stop xs.length _ H2 _ (Nat.le_refl _) (x0.trans x2) g2 hlk, fin acc S2 H2 x2 g2 h2⟩
    · exact h2.elim
end
end DL

namespace DL
open PySem PySem.Spec PyProof.Rows L2

theorem hu80 {k : Nat} {A : Around} (hr : Room k A) : A.units + 80 < cLine := by
  have := hr.un
  omega
section
variable {X : Cx} {W : XW X.K} {a b c tg : Expr} {ma mb mc : EM} {pos : Pos}
noncomputable def eLC (cc : Bool) (im : IM) (g : GM) (t : TM) (e : EM) (own : List Nat) : EM := fun rho S => (im rho S).bind fun w => (noE (lcM w.1.lk g t e own rho w.1.xs w.2 [])).bind fun r => lcEnd cc r.1 r.2
structure PDTs (X : Cx) (W : XW X.K) (ifs : List Expr) (m : TM) : Prop where
  ts : PTs X ifs (tOfT X.K W m)
theorem pts_n : PDTs X W [] tTr := ⟨⟨fun pins s sg H Q I h => by
  obtain ⟨ph, S, rho, g, so, q⟩ := h
  exact pts_nil.run pins s sg H Q I (q ph H (Ext.refl _ _) g)⟩⟩
theorem pd_lc (cc : Bool) {elt iter : Expr} {ifs : List Expr} {scope : Scope} {own : List (Str × Nat)} {is : List Nat} {im : IM} {g : GM} {t : TM} {e : EM} (hc : X.calm = true) (hN : X.N.Nodup) (hi : PID X W tg iter im) (ok : BlkOk X.N X.env.scope scope own)
    (hg : ∀ (s : Shared) (H : Hp) (C : Addr) (cl : List (Str × Addr)) (fp : List Addr), PGD (Blk X scope s H C cl fp) (XW.none X.K) is tg g) (ht : ∀ (s : Shared) (H : Hp) (C : Addr) (cl : List (Str × Addr)) (fp : List Addr), PDTs (Blk X scope s H C cl fp) (XW.none X.K) ifs t)
    (he : ∀ (s : Shared) (H : Hp) (C : Addr) (cl : List (Str × Addr)) (fp : List Addr), PD (Blk X scope s H C cl fp) (XW.none X.K) elt e) (hown : ∀ i ∈ is, i ∈ own.map (·.2) := by decide) (hs : ∀ x, foldedSetIterable iter X.env x = pure x := by intro _; rfl) :
    PD X W (.ListComp elt [⟨tg, iter, ifs, 0⟩] scope pos) (eLC cc im g t e (own.map (·.2))) := by
  obtain ⟨ti, pi, si⟩ := hi.ex
  exact ⟨_, pe_lc (g := tOfG X.K (XW.none X.K) is g) (tt := tOfT X.K (XW.none X.K) t) (te := tOf X.K (XW.none X.K) e) hc hN pi ok (fun s H C cl fp => (hg s H C cl fp).pg) (fun s H C cl fp => (ht s H C cl fp).ts) (fun s H C cl fp => (he s H C cl fp).pe) hs, lc_snd hown si⟩
theorem psd_setLc (cc : Bool) {i : Nat} {y : Str} {py spos : Pos} {elt iter : Expr} {ifs : List Expr} {scope : Scope} {own : List (Str × Nat)} {is : List Nat} {im : IM} {g : GM} {t : TM} {e : EM} (hc : X.calm = true) (hN : X.N.Nodup) (hi : PID X W tg iter im) (ok : BlkOk X.N X.env.scope scope own)
    (hg : ∀ (s : Shared) (H : Hp) (C : Addr) (cl : List (Str × Addr)) (fp : List Addr), PGD (Blk X scope s H C cl fp) (XW.none X.K) is tg g) (ht : ∀ (s : Shared) (H : Hp) (C : Addr) (cl : List (Str × Addr)) (fp : List Addr), PDTs (Blk X scope s H C cl fp) (XW.none X.K) ifs t)
    (he : ∀ (s : Shared) (H : Hp) (C : Addr) (cl : List (Str × Addr)) (fp : List Addr), PD (Blk X scope s H C cl fp) (XW.none X.K) elt e)
    (hsw : swapsWith (.ListComp elt [⟨tg, iter, ifs, 0⟩] scope pos) (some (.Name y py)) spos.line X.env = pure true := by exact sw_true rfl rfl rfl (by decide +kernel))
    (hy : X.N[i]? = some y := by rfl) (hyl : X.env.scope.names.lookup y = some .local := by rfl)
    (hown : ∀ i ∈ is, i ∈ own.map (·.2) := by decide) (hs : ∀ x, foldedSetIterable iter X.env x = pure x := by intro _; rfl) :
    PSD X W (.Assign [.Name y py] (.ListComp elt [⟨tg, iter, ifs, 0⟩] scope pos) spos) (sSet i (eLC cc im g t e (own.map (·.2)))) := by
  obtain ⟨ti, pi, si⟩ := hi.ex
  refine ⟨_, ps_setLc (g := tOfG X.K (XW.none X.K) is g) (tt := tOfT X.K (XW.none X.K) t) (te := tOf X.K (XW.none X.K) e) hc hN hy hyl hsw pi ok (fun s H C cl fp => (hg s H C cl fp).pg) (fun s H C cl fp => (ht s H C cl fp).ts) (fun s H C cl fp => (he s H C cl fp).pe) hs, fun ph S H sg rho Dn gd so h => ?_⟩
  refine lc_snd (W := W) (cc := cc) hown si ph S H sg rho _ gd so (holds_imp (holds_bind h) (fun x hx => ?_) fun _ _ _ q => q)
  exact fun ph1 v1 H1 x1 g1 d1 => hx ph1 _ H1 x1 g1 ((so.mono x1).set i d1)

def OpM (X : Cx) (W : XW X.K) (r : V → List V → Hp → VK → Prop) (g : SV → List SV → Store → Res (SV × Store)) : Prop := ∀ (ph : List Addr) (S : Store) (H : Hp) (x : V) (a : SV) (xs : List V) (as : List SV) (Q : VK), Good X.K ph H S → DenS X.K ph H x a → DenSs X.K ph H xs as →
  holds (g a as S) (post X.K ph H Q) (W.rel ph H) → r x xs H Q
def tyS (T : String) (S : Store) (a : SV) : Bool := match a with
  | .fr (.str _) => T == "str"
  | x => T == "list" && (rdL S x).isSome
theorem tyS_ok {K : PySem.W.Frag} {ph : List Addr} {S : Store} {H : Hp} {v : V} {a : SV} {T : String} (g : Good K ph H S) (d : DenS K ph H v a) (h : tyS T S a = true) : tyV K T v H := by
  unfold tyS at h
  split at h
  · rw [d_str d]; exact (show T = "str" by simpa using h)
  · simp only [Bool.and_eq_true, beq_iff_eq] at h
    obtain ⟨xs, hx⟩ := Option.isSome_iff_exists.mp h.2
    obtain ⟨p, vs, rfl, h1, _⟩ := rdL_at g d hx
    exact .inl ⟨h.1, vs, .of h1⟩
abbrev GMt := SV → List SV → Store → Res (SV × Store)
def eMt (T : String) (g : GMt) (o : EM) (m : AM) : EM := fun rho S => (o rho S).bind fun x => if tyS T x.2 x.1 then (m rho x.2).bind fun y => g x.1 y.1 y.2 else .stuck
def eMt0 (T : String) (g : GMt) (o : EM) : EM := fun rho S => (o rho S).bind fun x => if tyS T x.2 x.1 then g x.1 [] x.2 else .stuck
theorem pd_mt {T id : String} {name : Str} {apos cpos : Pos} {e : Expr} {es : List Expr} {m : AM} {r : V → List V → Hp → VK → Prop} {g : GMt} (pa : PlainAttrs T) (slot : Slot T name id) (hty : typeOf (.builtin id) = pure (.type "method_descriptor")) (hm : MtR X id r) (hr : OpM X W r g) (ho : PD X W a ma) (ha : PDA X W (e :: es) m)
    (hbase : attributeBase a name X.env (eval a X.env) = eval a X.env := by rfl)
    (hfew : ((backTo cpos (starEach (e :: es) X.env)).all (fun x => !x.1) && (backToKw cpos (keywordEach [] X.env)).all (fun x => x.1.isSome)
      && decide ((e :: es).length + ([] : List Keyword).length + (if ([] : List Keyword).isEmpty then 0 else 1) < 30)) = true := by rfl)
    (hline : (apos.endLine == cpos.line) = true := by rfl) (hs : starEach (e :: es) X.env = (false, eval e X.env) :: starEach es X.env := by rfl) (hplain : (backTo cpos (starEach es X.env)).any (·.1) = false := by rfl) :
    PD X W (.Call (.Attribute a name apos) (e :: es) [] cpos) (eMt T g ma m) := by
  obtain ⟨to, po, so'⟩ := ho.ex
  obtain ⟨t, pt, st⟩ := ha.ex
  refine ⟨_, pe_bm pa slot hty hm po pt hbase hfew hline hs hplain, fun ph S H sg rho Q gd so h => so' ph S H sg rho _ gd so (holds_imp (holds_bind h) (fun x hx => ?_) fun _ _ _ q => q)⟩
  intro ph1 v1 H1 x1 g1 d1
  split at hx
  · rename_i ht
    refine ⟨tyS_ok g1 d1 ht, st ph1 x.2 H1 sg rho _ g1 (so.mono x1) (holds_imp (holds_bind hx) (fun y hy => ?_) fun e r s q => W.mono _ _ _ _ e r s x1 q)⟩
    intro ph2 vs H2 x2 g2 d2
    exact hr ph2 y.2 H2 v1 x.1 vs y.1 Q g2 (d1.mono x2) d2 (holds_imp hy (fun c => post.mono (x1.trans x2) c) fun e r s q => W.mono _ _ _ _ e r s (x1.trans x2) q)
  · exact hx.elim
def cellOf (S : Store) : SV → Option (Nat × List SV)
  | .cell k => match S[k]? with
    | some (.lst xs) => some (k, xs)
    | _ => none
  | _ => none
theorem cellOf_ok {K : PySem.W.Frag} {ph : List Addr} {S : Store} {H : Hp} {v : V} {a : SV} {k : Nat} {xs : List SV} (g : Good K ph H S) (d : DenS K ph H v a) (h : cellOf S a = some (k, xs)) : ∃ p vs, v = .ref p ∧ ph[k]? = some p ∧ H p = some (.lst vs) ∧ DenSs K ph H vs xs := by
  cases a with
  | fr _ => cases h
  | cell j =>
    obtain ⟨p, h1, rfl⟩ := d
    simp only [cellOf] at h
    split at h
    · rename_i ys hy
      simp only [Option.some.injEq, Prod.mk.injEq] at h
      obtain ⟨rfl, rfl⟩ := h
      obtain ⟨q, h3, vs, h4, h5⟩ := g.at hy
      rw [h1] at h3; cases h3
      exact ⟨p, vs, rfl, h1, h4, h5⟩
    · cases h
theorem put_ok {ph : List Addr} {S : Store} {H : Hp} {p : Addr} {k : Nat} {vs : List V} {xs : List SV} {v : V} {sv : SV} {Q : VK} {E : Exc → Slots → Store → Prop} (g : Good X.K ph H S) (hp : ph[k]? = some p) {vs0 : List V} (hH : H p = some (.lst vs0)) (d : DenSs X.K ph H vs xs) (dv : DenS X.K ph H v sv)
    (h : holds (Res.ok (sv, S.set k (.lst xs))) (post X.K ph H Q) E) : Q v (upd H p (.lst vs)) := by
  have e : Ext ph H ph (upd H p (.lst vs)) := Ext.write (List.mem_of_getElem? hp) (nofrz hH fun _ _ z => nomatch z)
  exact h ph v _ e (g.write hp ⟨vs, upd_same, DenSs.mono e d⟩) (dv.mono e)
def non : SV := .fr .non
theorem den_non {K : PySem.W.Frag} {ph : List Addr} {H : Hp} : DenS K ph H .non non := Den.non
def appendG : GMt := fun a as S => match cellOf S a, as with
  | some (k, xs), [y] => if xs.length < sizeLine then .ok (non, S.set k (.lst (xs ++ [y]))) else .stuck
  | _, _ => .stuck
theorem append_ok : OpM X W rAppend appendG := by
  intro ph S H x a xs as Q g d ds h
  unfold appendG at h
  split at h
  · rename_i k ys y hk
    obtain ⟨p, vs, rfl, h1, h2, h3⟩ := cellOf_ok g d hk
    obtain ⟨v, rfl, dv⟩ := one_of ds
    split at h
    · rename_i hz
      exact ⟨p, vs, v, rfl, rfl, h2, by rw [h3.length]; exact hz, put_ok g h1 h2 (paired_snoc h3 dv) den_non h⟩
    · exact h.elim
  · exact h.elim
def extendG : GMt := fun a as S => match cellOf S a, as with
  | some (k, xs), [y] => match rdL S y with
    | some ys => if xs.length + ys.length ≤ sizeLine then .ok (non, S.set k (.lst (xs ++ ys))) else .stuck
    | none => .stuck
  | _, _ => .stuck
theorem extend_ok : OpM X W rExtend extendG := by
  intro ph S H x a xs as Q g d ds h
  unfold extendG at h
  split at h
  · rename_i k ys y hk
    obtain ⟨p, vs, rfl, h1, h2, h3⟩ := cellOf_ok g d hk
    obtain ⟨v, rfl, dv⟩ := one_of ds
    split at h
    · rename_i zs hzs
      obtain ⟨q, ws, rfl, h5, h6⟩ := rdL_at g dv hzs
      split at h
      · rename_i hz
        exact ⟨p, q, vs, ws, rfl, rfl, h2, h5, by rw [h3.length, h6.length]; exact hz, put_ok g h1 h2 (paired_append h3 h6) den_non h⟩
      · exact h.elim
    · exact h.elim
  · exact h.elim
end
end DL

namespace DL
open PySem PySem.Spec PyProof.Rows L2

def Tells (n : Nat) (m : FnM) : Prop := ∀ ns : List Int, ns.length ≤ n → ∃ S' : Store, m [.fr (.scr (ns.map D.int))] [] = .ok (.val (.fr (.bl true)), S')
theorem sqL_nil {K : PySem.W.Frag} {H : Hp} {a : Addr} {vs : List V} (h : SqL K H a vs) : SqL K (hide [] H) a vs := by
  rcases h with (h | ⟨od, h⟩) | h
  · exact .inl (.inl (hide_of (by simp) h))
  · exact .inl (.inr ⟨od, hide_of (by simp) h⟩)
  · exact .inr h
theorem spD_law {K : PySem.W.Frag} {m : FnM} {n : Nat} (hm : Tells n m) {H : Hp} {a : Addr} {ns : List Int} (hl : ns.length ≤ n) (sq : SqL K H a (ns.map V.int)) (tb : TbOk K H) : spD K m [.ref a] H (fun v _ => v = .bl true) fun _ _ _ => False := by
  obtain ⟨S', e⟩ := hm ns hl
  refine ⟨[], [], [.fr (.scr (ns.map D.int))], ⟨List.nodup_nil, .nil, tb⟩, .cons ?_ .nil, ?_⟩
  · exact Den.scr (vs := ns.map V.int) (sqL_nil sq) (Dens.of_ints ns)
  · rw [e]
    intro v H' _ _ d
    exact d_bl (show DenS K [] H' v (.fr (.bl true)) from d)
def TBs (K : PySem.W.Frag) (mg : Str → Option Value) (base : Heap) : Prop := ∀ p ∈ lamDefs, knownT K p.1 = true → LamX.TabB base mg (He.cT K p.1).1 (He.cT K p.1).2
theorem tabL_mem {K : PySem.W.Frag} {p : He.Defn × Str} (h : p ∈ lamDefs) (hk : knownT K p.1 = true) : ((He.cT K p.1).2, p.2) ∈ tabL K := List.mem_map.mpr ⟨p, List.mem_filter.mpr ⟨h, hk⟩, rfl⟩
theorem tabL_of {K : PySem.W.Frag} {q : Addr × Str} (h : q ∈ tabL K) : ∃ p ∈ lamDefs, knownT K p.1 = true ∧ q = ((He.cT K p.1).2, p.2) := by
  obtain ⟨p, hp, e⟩ := List.mem_map.mp h
  obtain ⟨h1, h2⟩ := List.mem_filter.mp hp
  exact ⟨p, h1, h2, e.symm⟩
theorem told {P : Program} {w : World} {K : PySem.W.Frag} {mg mb : Str → Option Value} {k n : Nat} {x : Str} {m : FnM} {fl al : Addr} {sh : Shared} {us : List Value} {zs : List Int}
    (kin : K.In sh.heap) (gn : sh.heap.Ns mainGlobals mg) (bn : sh.heap.Ns builtinsNs mb) (bb : ∀ y : Str, y ≠ "__name__" → mb y = bootBuiltins y) (nl : sh.heap.NoLimit) (ng : sh.gens = #[]) (tE : TabsE K sh.heap)
    (hbm : ∃ (bm : Addr) (ob : Obj), mg "__builtins__" = some (.ref bm) ∧ bm ≠ builtinsNs ∧ sh.heap.get? bm = some ob ∧ ob.cls = .type "module" ∧ ob.dict = some builtinsNs ∧ ob.data = .plain)
    (at_ : sh.heap.get? al = some { cls := .type "list", data := .seq us.toArray }) (iv : IntsAre us zs) (lz : zs.length ≤ n) (hn : n ≤ sizeLine) (rm : Room k callerA) (hx : mg x = some (.ref fl))
    (F : ∀ base : Heap, K.In base → base.Ns mainGlobals mg → TBs K mg base → CalD P w K mg base k x m) (hm : Tells n m) :
    codeAny (model P w) callerA (.call (.ref fl) ⟨[.ref al], []⟩) (fun r s' => r = .ok (.ret (.bool true)) ∧ OldK sh.heap s'.heap ∧ s'.os = sh.os ∧ AllBare s'.gens) sh := by
  have rel := vals_ints iv
  have hlen := iv.length
  obtain ⟨tE, tI⟩ := tE
  let ts := (tabL K).map (·.1)
  have isT : ∀ b : Addr, b ∈ ts → sh.heap.get? b = some { cls := .none, data := .fields #[] } ∧ K.lookup b = none := fun b hb => by
    obtain ⟨p, hp, e⟩ := List.mem_map.mp hb
    rw [← e]
    exact tE p hp
  have aT : al ∉ ts := fun z => by
    have q := (isT al z).1
    rw [at_] at q
    cases (congrArg Obj.data (Option.some.inj q) : Data.seq us.toArray _ = Data.fields #[])
  have hC : ∀ p ∈ lamDefs, knownT K p.1 = true → (He.cT K p.1).2 ∈ ts ∧ PySem.W.CodeHd sh.heap (He.cT K p.1).1 (He.cT K p.1).2 := fun p hp hk => ⟨List.mem_map.mpr ⟨_, tabL_mem hp hk, rfl⟩, PySem.W.codeHd_of_K kin hk⟩
  obtain ⟨H, only, sql, hok, own, off, tabs⟩ : ∃ H : Hp, (∀ b, H b = none ∨ b ∈ ts ∨ ∃ o xs, H b = some (.frz o (.lst xs))) ∧ SqL K H al (zs.map V.int) ∧ HOk P w H sh.heap ∧ (∀ b, H b ≠ none → b = al ∨ b ∈ ts) ∧ (H al ≠ none → K.lookup al = none) ∧ (∀ b ∈ ts, H b = some (.tbl #[])) := by
    cases q : K.lookup al with
    | some o =>
      have e := kin al o q
      rw [at_] at e
      cases e
      refine ⟨fun b => if b ∈ ts then some (.tbl #[]) else none, fun b => ?_, .inr ⟨_, us.toArray, _, q, rfl, rfl, rfl, by rw [List.size_toArray, hlen]; omega, by simpa using rel⟩, fun b u z => ?_, fun b z => ?_, fun z => absurd (if_neg aT) z, fun b hb => if_pos hb⟩
      · by_cases hb : b ∈ ts
        · exact .inr (.inl hb)
        · exact .inl (if_neg hb)
      · by_cases hb : b ∈ ts
        · cases (if_pos hb).symm.trans z
          exact (isT b hb).1
        · cases (if_neg hb).symm.trans z
      · by_cases hb : b ∈ ts
        · exact .inr hb
        · exact absurd (if_neg hb) z
    | none =>
      refine ⟨fun b => if b = al then some (.frz { cls := .type "list", data := .seq us.toArray } (.lst (zs.map V.int))) else if b ∈ ts then some (.tbl #[]) else none, fun b => ?_, .inl (.inr ⟨{ cls := .type "list", data := .seq us.toArray }, if_pos rfl⟩), fun b u z => ?_, fun b z => ?_, fun _ => rfl, fun b hb => (if_neg (fun e : b = al => aT (e ▸ hb))).trans (if_pos hb)⟩
      · by_cases e : b = al
        · exact .inr (.inr ⟨_, _, if_pos e⟩)
        · by_cases hb : b ∈ ts
          · exact .inr (.inl hb)
          · exact .inl ((if_neg e).trans (if_neg hb))
      · by_cases e : b = al
        · have z2 := (if_pos e).symm.trans z
          cases z2
          subst e
          exact ⟨at_, by rw [List.length_map]; omega, us, _, rel, at_⟩
        · have z1 := (if_neg e).symm.trans z
          by_cases hb : b ∈ ts
          · cases (if_pos hb).symm.trans z1
            exact (isT b hb).1
          · cases (if_neg hb).symm.trans z1
      · by_cases e : b = al
        · exact .inl e
        · by_cases hb : b ∈ ts
          · exact .inr hb
          · exact absurd ((if_neg e).trans (if_neg hb)) z
  have noD : ∀ {b : Addr} {o : Obj}, sh.heap.get? b = some o → (∀ vs n, o.data ≠ .seq vs n) → o.data ≠ .fields #[] → H b = none := fun {b o} e h1 h2 => by
    cases q : H b with
    | none => rfl
    | some u =>
      rcases own b (by rw [q]; simp) with e' | e'
      · rw [e', at_] at e
        cases e
        exact (h1 _ _ rfl).elim
      · rw [(isT b e').1] at e
        cases e
        exact (h2 rfl).elim
  have plain_of : ∀ {b : Addr} {o : Obj} {es : Array DictEntry} {ep : Nat}, sh.heap.get? b = some o → o.data = .dict es ep → H b = none := fun {b o es ep} g dd => noD g (fun vs n z => by rw [dd] at z; cases z) (fun z => by rw [dd] at z; cases z)
  have hid_ns : ∀ {b : Addr} {f : Str → Option Value}, sh.heap.Ns b f → (hidT sh.heap H).Ns b f := fun {b f} ⟨o, es, ep, g, dd, rr⟩ => ⟨o, es, ep, hidT_get g (plain_of g dd), dd, rr⟩
  have kb : K.In (hidT sh.heap H) := fun b o g => hidT_get (kin b o g) (by
    cases q : H b with
    | none => rfl
    | some u =>
      rcases own b (by rw [q]; simp) with eb | eb
      · subst eb
        have := off (by rw [q]; simp)
        rw [this] at g; cases g
      · rw [(isT b eb).2] at g; cases g)
  have TB : TBs K mg (hidT sh.heap H) := fun p hp hk => by
    obtain ⟨hpt, hcd⟩ := hC p hp hk
    have hTp := (isT _ hpt).1
    refine ⟨PySem.W.codeHd_of_K kb hk, ?_, fun z => ?_⟩
    · obtain ⟨bm, ob, b1, b2, b3, b4, b5, b6⟩ := hbm
      have nG : bm ≠ mainGlobals := fun q => by
        obtain ⟨o, es, ep, e, hd, _⟩ := gn
        rw [q, e] at b3
        cases b3
        rw [hd] at b6
        cases b6
      have nP : bm ≠ (He.cT K p.1).2 := fun q => by
        rw [q, hTp] at b3
        cases b3
        cases b6
      refine ⟨bm, ob, b1, b2, nG, nP, hidT_get b3 (noD b3 (fun vs n z => ?_) fun z => ?_), b4, b5, b6⟩
      · rw [b6] at z
        cases z
      · rw [b6] at z
        cases z
    · obtain ⟨o, es, ep, e, hd, _⟩ := gn
      rw [z, hTp] at e
      cases e
      cases hd
  have md : Mod K mg (hidT sh.heap H) := ⟨kb, hid_ns gn, ⟨mb, hid_ns bn, bb⟩, by obtain ⟨c, h1, h2⟩ := nl; exact ⟨c, hid_ns h1, h2⟩⟩
  have ev : Env0 P w K mg (hidT sh.heap H) callerA [] sh H :=
    ⟨rfl, md, fun b o g => of_hidT g, Nat.le_of_eq (hidT_size _ _), trivial, fun b hb => (nomatch (show b ∈ ([] : List Addr) from hb)), hok, .of_eq ng⟩
  obtain ⟨f2, fd, ps, hx2, hkp, hbd, FF⟩ := (F _ kb (hid_ns gn) TB).ex
  rw [hx] at hx2; cases hx2
  have tb : TbOk K H := ⟨fun p hp => .nil (tabs _ (List.mem_map.mpr ⟨p, hp, rfl⟩)), tI⟩
  have sp := spD_law (K := K) hm lz sql tb
  have hp : ps.length = 1 := (FF.len _ _ _ _ sp).symm
  have hb := hbd sh [.ref al] kin (by rw [hp]; rfl)
  refine codeAny_mono (FF.run callerA [] sh H ⟨[.ref al], []⟩ [.ref al] [.ref al] _ _ rfl rm ev hb (.cons rfl .nil) sp) fun r s' hr => ?_
  cases r with
  | error e =>
    obtain ⟨_, _, _, _, _, _, _, _, _, _, _, _, z⟩ := hr
    exact z.elim
  | ok fo =>
    cases fo with
    | next => exact False.elim hr
    | brk => exact False.elim hr
    | cont => exact False.elim hr
    | ret u =>
      obtain ⟨v, H2, eo, br, un, hok2, rv, q⟩ := hr
      subst q
      obtain rfl : u = Value.bool true := rv
      have key : ∀ b o, b ∉ ts → sh.heap.get? b = some o → s'.heap.get? b = some o := fun b o nb g => by
        rcases only b with z | z | ⟨o2, xs, z⟩
        · exact un.keep b o g z (by intro y; cases y) (by simp)
        · exact absurd z nb
        · have g1 := (hok b _ z).1
          have g2 := (hok2 b _ (un.frzs b o2 _ z)).1
          rw [g] at g1; cases g1
          exact g2
      have grown : ∀ b ∈ ts, ∃ more : Array Value, s'.heap.get? b = some { cls := .none, data := .fields more } := fun b hb => by
        obtain ⟨more, z⟩ := un.tbls b #[] (tabs b hb)
        exact ⟨_, hok2 b _ z⟩
      refine ⟨rfl, ⟨fun b o e => ?_, fun b o e => ?_⟩, eo, br⟩
      · by_cases hb : b ∈ ts
        · obtain ⟨q, hq, eq⟩ := List.mem_map.mp hb
          obtain ⟨p, hp, hk, e2⟩ := tabL_of hq
          obtain ⟨more, hm⟩ := grown b hb
          have hTp := (isT b hb).1
          rw [hTp] at e
          cases e
          have eb : (He.cT K p.1).2 = b := by rw [← eq, e2]
          have hcd := (hC p hp hk).2
          rw [eb] at hcd
          exact .inr (.inl ⟨(hcd.tab hTp).isCodeTable, rfl, #[], more, rfl, by rw [Array.empty_append]; exact hm⟩)
        · exact .inl (key b o hb e)
      · by_cases hb : b ∈ ts
        · obtain ⟨more, hm⟩ := grown b hb
          exact ⟨_, hm⟩
        · exact ⟨o, key b o hb e⟩
theorem walkD {l : PySem.W.OpenLaw} {n k : Nat} {q : Program} {loose : List Str} {XP : (Str → Option Value) → Heap → Prop} {YP : World → Heap → Prop} {d : DefRec} {m : FnM}
    (h1 : l.most = some n) (h2 : n ≤ sizeLine) (h3 : d.params.defaults = []) (rm : Room k callerA)
    (F : ∀ (w : World) (mg : Str → Option Value) (h : Heap), YP w h → h.Ns mainGlobals mg → ∃ K : PySem.W.Frag, K.In h ∧ TabsE K h ∧ ∀ base : Heap, K.In base → base.Ns mainGlobals mg → TBs K mg base → CalD l.prog w K mg base k d.name m)
    (hm : Tells n m) : PySem.W.WalkO q loose XP YP l.row.toRowW d [] (fun f vs => PySem.call f vs) := by
  refine Att.attach_call h1 h3 fun w sa sh mg mb fl o pm cd doc al us zs G Y _ _ _ hx ho hz hlz hng => ?_
  obtain ⟨K, kin, tE, FF⟩ := F w mg sh.heap Y G.T.g
  exact told kin G.T.g G.T.b G.T.builtins G.T.nolimit hng tE G.T.bmain ho hz hlz h2 rm hx FF hm
end DL

namespace DL
open PySem PySem.Spec PyProof.Rows L2

structure FirstOf (K : PySem.W.Frag) (f : Addr) : Prop where
  ex : ∃ (x p : Str) (st : Stmt) (fd : FuncData) (k j : Nat) (p1 p2 p3 p4 : Pos), Fun K x x st f fd ∧ Binds K fd [p] [] ∧ FnScope [p] [p] (defScope st) ∧ (defScope st).names.lookup p = some .local ∧
    (p == ("__debug__" : Str)) = false ∧ defBody st = [.Return (some (.Subscript (.Name p p1) (.Constant (.int 0) k p2) p3)) p4]
section
variable {prog : Program} {w : World} {A : Around} {E : Value → Shared → Prop} {s : Shared} {K : PySem.W.Frag}
theorem first_call {f t : Addr} {its : Array Value} {x : Value} (F : FirstOf K f) (X : K.In s.heap) (lim : s.heap.NoLimit) (hr : A.depth < recursionLimit) (ht : IsTup s.heap t its) (hx : its[0]? = some x) :
    wpAny (model prog w) A (call (.ref f) [.ref t]) (fun v s' => v = x ∧ ∃ h' tk, s' = { s with heap := h', toks := tk } ∧ ∀ b o, s.heap.get? b = some o → h'.get? b = some o) E s := by
  obtain ⟨y, p, st, fd, k, j, p1, p2, p3, p4, Fn, hb, Sc, hloc, hd, body⟩ := F.ex
  obtain ⟨oc, od, kV, doc, pm, an, cdv, ct, osl, rfl, lk, hcd⟩ := Fn.ex
  have bd := hb s [.ref t] X rfl
  have hkind : (([p].zip ([.ref t] : List Value)).all fun z => (defScope st).names.lookup z.1 == some .local || (defScope st).names.lookup z.1 == some .cell) = true := by
    simp [hloc]
  refine wpAny_call (Att.call_fn X lim lk hcd hr bd hkind (fun s1 x1 => ?_) Sc.co Sc.gen Sc.kind)
  rw [body]
  have ico := x1.toInCall
  have kind : (envOfC y (defScope st) s.heap.objs.size f cdv).kindOf p = some .local := hloc
  have ht1 : IsTup s1.heap t its := ht.keeps ico.keep
  refine wpAny_execs_cons (wpAny_Return_some (Subscript_Constant (wpAny_Name (wpAny_loadName_local (v := .ref t) Sc.kind kind ico.ns ?_ ?_) hd)))
  · show bindL _ [(p, Value.ref t)] (fun _ => none) p = _
    simp [bindL, kind]
  · refine wpAny_Constant_int ⟨"tuple", _, slot_tuple_getitem.lookup, ht1.typeIs, ?_⟩
    refine getItem_tuple (j := 0) ht1 (by decide) (by decide) ?_ hx ?_
    · have : 0 < its.size := by
        cases q : its.size with
        | zero => rw [Array.getElem?_eq_none (by omega)] at hx; cases hx
        | succ n => omega
      exact seqIndex_of (by decide) (by omega)
    · obtain ⟨h', tk, e⟩ := ico.same
      subst e
      exact ⟨rfl, h', _, rfl, ico.keep⟩
end
theorem each_vals : ∀ {ps : List (V × Int)} {vs : List Value}, Vals (ps.map (·.1)) vs → PySem.W.EachIs (fun v (p : V × Int) => RelV p.1 v) vs ps
  | [], _, .nil => .nil
  | _ :: _, _, .cons h t => .cons h (each_vals t)
theorem vals_each : ∀ {ps : List (V × Int)} {vs : List Value}, PySem.W.EachIs (fun v (p : V × Int) => RelV p.1 v) vs ps → Vals (ps.map (·.1)) vs
  | _, _, .nil => .nil
  | _, _, .cons h t => .cons h (vals_each t)
def byKey (ps : List (V × Int)) : List V := (ps.mergeSort fun a b => decide (a.2 ≤ b.2)).map (·.1)
def rSortF (K : PySem.W.Frag) (f : Addr) : List V → List V → Hp → VK → Prop := fun vs zs H Q => ∃ (a : Addr) (ps : List (V × Int)), vs = [V.ref a] ∧ zs = [V.ref f] ∧ SqL K H a (ps.map (·.1)) ∧
  (∀ p ∈ ps, ∃ t ys, p.1 = V.ref t ∧ SqT K H t (.int p.2 :: ys)) ∧ ∀ l : Addr, H l = none → Q (.ref l) (upd H l (.lst (byKey ps)))
theorem cr_sortF {X : Cx} {f : Addr} (F : FirstOf X.K f) (hd : X.A.depth < recursionLimit) (hu : X.A.units + 80 < cLine) : CallRK X (.builtin "sorted") [Str.ofString "key"] (rSortF X.K f) := by
  intro pins s sg H vs zs us ws Q I r rz h
  obtain ⟨a, ps, rfl, rfl, hs, hk, q⟩ := h
  obtain rfl := Vals.ref1 r
  obtain rfl := Vals.ref1 rz
  obtain ⟨its, rv, hl, hz⟩ := I.list hs
  have len := rv.length
  rw [List.length_map] at hz
  refine PySem.W.sorted_key_data (β := V × Int) (b := false) (fun p => PyData.int p.2) hl.isList (each_vals rv) (PySem.W.AllAlike.of fun _ _ => by simp [PySem.W.alike]) (PySem.W.Sortable.others fun _ => ⟨by simp, by simp⟩) hz (fun x _ => ?_) (ksk_s1 _ _) (fun _ => ksk_l1 _ _) (fun _ => ksk_t1 _ _) ?_ ?_
  · simp only [PyData.depth]; omega
  · intro v x hv hx h tk kp
    obtain ⟨t, ys, e1, st⟩ := hk x hx
    obtain ⟨ts, rt, it, _⟩ := I.tuple st
    rw [e1] at hv
    obtain rfl : v = Value.ref t := hv
    cases rt with
    | cons r0 rr =>
      obtain ⟨tk0, rfl⟩ := r0
      exact wpAny_mono (first_call (s := { s with heap := h, toks := tk }) F (I.kIn.keeps kp) ((I.env0.mod.nolimit.keeps fun b o e => (I.env0.bs b o e).1).keeps kp) hd (it.keeps kp) (x := .int x.2 tk0) (by simp)) (fun v' s' ⟨e1, h', tk', e2, kp'⟩ => ⟨h', tk', e2, kp', by rw [e1]; exact .int _ _⟩) fun _ _ e => e
  · intro out c h' tk kp _ hD hlen eo
    rw [PySem.W.dataLe_int] at eo
    have vo := vals_each eo
    refine ⟨.ref _, upd H (s.heap.objs.size + 1) (.lst (byKey ps)), I.laid (t' := tk) kp (Nat.le_succ _) ⟨?_, out, c, vo, hD⟩, rfl, q _ (I.hok.fresh (Nat.le_succ _))⟩
    rw [byKey, List.length_map, List.length_mergeSort]; exact hz
def keyI : SV → Option Int
  | .fr (.tup (.int i :: _)) => some i
  | _ => none
def keys : List SV → Option (List (SV × Int))
  | [] => some []
  | x :: xs => match keyI x, keys xs with
    | some i, some r => some ((x, i) :: r)
    | _, _ => none
def sortF (ps : List (SV × Int)) : List SV := (ps.mergeSort fun a b => decide (a.2 ≤ b.2)).map (·.1)
def sortG (c : Bool) (a : SV) (S : Store) : Res (SV × Store) := match rdS S a with
  | some xs => match keys xs with
    | some ps => newL0 c (sortF ps) S
    | none => .stuck
  | none => .stuck
theorem keys_of {K : PySem.W.Frag} {ph : List Addr} {H : Hp} : ∀ {xs : List SV} {vs : List V} {ps : List (SV × Int)}, DenSs K ph H vs xs → keys xs = some ps →
    ∃ qs : List (V × SV × Int), qs.map (·.1) = vs ∧ qs.map (·.2) = ps ∧ ∀ q ∈ qs, DenS K ph H q.1 q.2.1 ∧ ∃ t ys, q.1 = V.ref t ∧ SqT K H t (.int q.2.2 :: ys)
  | _, _, ps, .nil, h => by
    cases h
    exact ⟨[], rfl, rfl, fun q hq => by cases hq⟩
  | x :: xs, v :: vs, ps, .cons d ds, h => by
    unfold keys at h
    split at h
    · rename_i i r h1 h2
      cases h
      obtain ⟨qs, e1, e2, hq⟩ := keys_of ds h2
      refine ⟨(v, x, i) :: qs, by simp [e1], by simp [e2], fun q hm => ?_⟩
      rcases List.mem_cons.mp hm with rfl | hm
      · refine ⟨d, ?_⟩
        unfold keyI at h1
        split at h1
        · rename_i j rest
          cases h1
          obtain ⟨t, ws, rfl, st, r2⟩ := d_tup d
          cases r2 with
          | cons a b =>
            cases a
            exact ⟨t, _, rfl, hide_sub.sqT st⟩
        · cases h1
      · exact hq q hm
    · cases h
theorem byKey_of {K : PySem.W.Frag} {ph : List Addr} {H : Hp} (qs : List (V × SV × Int)) (h : ∀ q ∈ qs, DenS K ph H q.1 q.2.1) : DenSs K ph H (byKey (qs.map fun q => (q.1, q.2.2))) (sortF (qs.map (·.2))) := by
  have e1 : byKey (qs.map fun q => (q.1, q.2.2)) = (qs.mergeSort fun a b => decide (a.2.2 ≤ b.2.2)).map (·.1) := by
    unfold byKey
    rw [← List.map_mergeSort (r := fun a b => decide (a.2.2 ≤ b.2.2)) (fun a _ b _ => rfl), List.map_map]
    rfl
  have e2 : sortF (qs.map (·.2)) = (qs.mergeSort fun a b => decide (a.2.2 ≤ b.2.2)).map (·.2.1) := by
    unfold sortF
    rw [← List.map_mergeSort (r := fun a b => decide (a.2.2 ≤ b.2.2)) (fun a _ b _ => rfl), List.map_map]
    rfl
  rw [e1, e2]
  have hm : ∀ q ∈ qs.mergeSort fun a b => decide (a.2.2 ≤ b.2.2), DenS K ph H q.1 q.2.1 := fun q hq => h q (List.mem_mergeSort.mp hq)
  generalize (qs.mergeSort fun a b => decide (a.2.2 ≤ b.2.2)) = l at hm
  induction l with
  | nil => exact .nil
  | cons q l ih => exact .cons (hm q List.mem_cons_self) (ih fun z hz => hm z (List.mem_cons_of_mem _ hz))
section
variable {X : Cx} {W : XW X.K} {a : Expr} {ma : EM} {pos : Pos}
def eSortF (c : Bool) (m : EM) : EM := fun rho S => (m rho S).bind fun x => sortG c x.1 x.2
theorem pd_sortF (c : Bool) {f : Addr} {g : Str} {p p2 kp : Pos} (hd : X.A.depth < recursionLimit) (hu : X.A.units + 80 < cLine) (F : FirstOf X.K f) (hm : X.mg "sorted" = none) (hf : X.mg g = some (.ref f)) (ha : PD X W a ma)
    (hg : Gl X "sorted" := by rfl) (hgg : Gl X g := by rfl) (hdb : (g == ("__debug__" : Str)) = false := by decide)
    (he : backTo pos (starEach [a] X.env) = (false, eval a X.env) :: backTo pos (starEach [] X.env) := by rfl) (hpl : (backTo pos (starEach [a] X.env)).any (·.1) = false := by rfl) (hst : starEach [a] X.env = (false, eval a X.env) :: starEach [] X.env := by rfl)
    (hall : (backToKw pos (keywordEach [⟨some "key", .Name g p2, kp⟩] X.env)).all (·.1.isSome) = true := by rfl) (hnone : (backToKw pos (keywordEach [⟨some "key", .Name g p2, kp⟩] X.env)).any (·.1.isNone) = false := by rfl)
    (hks : (backToKw pos (keywordEach [⟨some "key", .Name g p2, kp⟩] X.env)).filterMap (·.1) = [Str.ofString "key"] := by rfl) :
    PD X W (.Call (.Name "sorted" p) [a] [⟨some "key", .Name g p2, kp⟩] pos) (eSortF c ma) := by
  obtain ⟨ta, pa, sa⟩ := ha.ex
  refine ⟨_, pe_callBK (cr_sortF F hd hu) hg hm PyProof.Rows.boot_sorted (pa_cons pa pa_nil hst) (pk_cons (pe_glob hgg hf (v := .ref f) rfl hdb) pk_nil) (by decide) (by decide) he hpl hall hnone hks, fun ph S H sg rho Q g so h => ?_⟩
  refine sa ph S H sg rho _ g so (holds_imp (holds_bind h) (fun x hx => ?_) fun _ _ _ q => q)
  intro ph1 v1 H1 x1 g1 d1
  unfold sortG at hx
  split at hx
  · rename_i xs hxs
    obtain ⟨l, vs, rfl, hsq, r⟩ := rdS_ok g1 d1 hxs
    split at hx
    · rename_i ps hps
      obtain ⟨qs, e1, e2, hq⟩ := keys_of r hps
      refine ⟨l, qs.map fun q => (q.1, q.2.2), rfl, rfl, ?_, ?_, ?_⟩
      · rw [List.map_map, show ((fun p : V × Int => p.1) ∘ fun q : V × SV × Int => (q.1, q.2.2)) = (·.1) from rfl, e1]
        exact hsq
      · intro p hp
        obtain ⟨q, hqm, rfl⟩ := List.mem_map.mp hp
        exact (hq q hqm).2
      · have dd := byKey_of qs fun q hm => (hq q hm).1
        rw [e2] at dd
        exact newL0_ok g1 dd (holds_imp hx (fun c => post.mono x1 c) fun _ _ _ q => q)
    · exact hx.elim
  · exact hx.elim
end
end DL

namespace DL
open PySem PySem.Spec PyProof.Rows L2

def insOf (S : Store) : SV → Option (Str × List (Str × SV))
  | .fr (.ins n fs) => some (n, fs.map fun p => (p.1, .fr p.2))
  | .cell k => match S[k]? with
    | some (.ins n fs) => some (n, fs)
    | _ => none
  | _ => none
section
variable {K : PySem.W.Frag} {ph : List Addr} {H : Hp} {S : Store}
theorem denSF_of : ∀ {vs : List (Str × V)} {fs : List (Str × D)}, DenF K (hide ph H) vs fs → DenSF K ph H vs (fs.map fun p => (p.1, SV.fr p.2))
  | _, _, .nil => .nil
  | _, _, .cons a r => .cons ⟨rfl, a⟩ (denSF_of r)
theorem insOf_ok {v : V} {x : SV} {n : Str} {fs : List (Str × SV)} (g : Good K ph H S) (d : DenS K ph H v x) (h : insOf S x = some (n, fs)) : ∃ a dx vs, v = .ref a ∧ H a = some (.ins (He.ga K n) dx vs) ∧ DenSF K ph H vs fs := by
  cases x with
  | fr d' =>
    cases d' with
    | ins m gs =>
      simp only [insOf, Option.some.injEq, Prod.mk.injEq] at h
      obtain ⟨rfl, rfl⟩ := h
      cases d with
      | ins s r => exact ⟨_, _, _, rfl, (hide_some s).2, denSF_of r⟩
    | _ => simp [insOf] at h
  | cell k =>
    obtain ⟨p, h1, rfl⟩ := d
    simp only [insOf] at h
    split at h
    · rename_i m gs hk
      simp only [Option.some.injEq, Prod.mk.injEq] at h
      obtain ⟨rfl, rfl⟩ := h
      obtain ⟨q, h3, dx, vs, h4, h5⟩ := g.at hk
      rw [h1] at h3; cases h3
      exact ⟨p, dx, vs, rfl, h4, h5⟩
    · cases h
theorem denSF_some {f : Str} {x : SV} : ∀ {vs : List (Str × V)} {fs : List (Str × SV)}, DenSF K ph H vs fs → fs.lookup f = some x → ∃ v, vs.lookup f = some v ∧ DenS K ph H v x
  | _, _, .nil, e => by simp at e
  | (a, v) :: vs, (b, y) :: fs, .cons h t, e => by
    obtain ⟨e1, d⟩ := h
    dsimp only at e1 d
    subst e1
    rw [List.lookup_cons] at e ⊢
    cases q : f == a with
    | true => rw [q] at e; cases e; exact ⟨v, rfl, d⟩
    | false => rw [q] at e; exact denSF_some t e
theorem denSF_none {f : Str} : ∀ {vs : List (Str × V)} {fs : List (Str × SV)}, DenSF K ph H vs fs → fs.lookup f = none → vs.lookup f = none
  | _, _, .nil, e => by simp
  | (a, v) :: vs, (b, y) :: fs, .cons h t, e => by
    obtain ⟨e1, d⟩ := h
    dsimp only at e1 d
    subst e1
    rw [List.lookup_cons] at e ⊢
    cases q : f == a with
    | true => rw [q] at e; cases e
    | false => rw [q] at e; exact denSF_none t e
def putS (f : Str) (v : SV) : List (Str × SV) → List (Str × SV)
  | [] => [(f, v)]
  | (g, x) :: r => if g = f then (g, v) :: r else (g, x) :: putS f v r
theorem denSF_put {f : Str} {v : V} {x : SV} (d : DenS K ph H v x) : ∀ {vs : List (Str × V)} {fs : List (Str × SV)}, DenSF K ph H vs fs → DenSF K ph H (putF f v vs) (putS f x fs)
  | _, _, .nil => .cons ⟨rfl, d⟩ .nil
  | (a, u) :: vs, (b, y) :: fs, .cons h t => by
    obtain ⟨e1, d2⟩ := h
    dsimp only at e1 d2
    subst e1
    unfold putF putS
    by_cases q : a = f
    · rw [if_pos q, if_pos q]; exact .cons ⟨rfl, d⟩ t
    · rw [if_neg q, if_neg q]; exact .cons ⟨rfl, d2⟩ (denSF_put d t)
end
structure FldOk (K : PySem.W.Frag) (n f : Str) : Prop where
  cls : Cls K (He.ga K n)
  no : NoAttr K (He.ga K n) f
def FldsOk (K : PySem.W.Frag) (f : Str) (ns : List Str) : Prop := ∀ n ∈ ns, FldOk K n f
theorem flds_nil {K : PySem.W.Frag} {f : Str} : FldsOk K f [] := fun _ h => nomatch h
theorem flds_cons {K : PySem.W.Frag} {f n : Str} {ns : List Str} (h : FldOk K n f) (t : FldsOk K f ns) : FldsOk K f (n :: ns) := fun m hm => (List.mem_cons.mp hm).elim (fun e => e ▸ h) (t m)
def fldG (ns : List Str) (f : Str) (x : SV) (S : Store) : Res (SV × Store) := match insOf S x with
  | some (n, fs) => if n ∈ ns then (match fs.lookup f with
    | some y => .ok (y, S)
    | none => .stuck) else .stuck
  | none => .stuck
def eFld (ns : List Str) (f : Str) (o : EM) : EM := fun rho S => (o rho S).bind fun x => fldG ns f x.1 x.2
section
variable {X : Cx} {W : XW X.K} {o e : Expr} {mo m : EM} {pos : Pos} {ns : List Str} {f : Str}
theorem pd_fld (T : FldsOk X.K f ns) (ho : PD X W o mo) (hb : attributeBase o f X.env (eval o X.env) = eval o X.env := by rfl) : PD X W (.Attribute o f pos) (eFld ns f mo) := by
  obtain ⟨t, p, s⟩ := ho.ex
  refine ⟨_, pe_fld p hb, fun ph S H sg rho Q g so h => s ph S H sg rho _ g so (holds_imp (holds_bind h) (fun x hx => ?_) fun _ _ _ q => q)⟩
  intro ph1 v1 H1 x1 g1 d1
  unfold fldG at hx
  split at hx
  · rename_i n fs hi
    obtain ⟨a, dx, vs, rfl, h1, h2⟩ := insOf_ok g1 d1 hi
    split at hx
    · rename_i hn
      split at hx
      · rename_i y hy
        obtain ⟨v, hv, dv⟩ := denSF_some h2 hy
        exact ⟨a, _, dx, vs, v, rfl, h1, (T n hn).cls, (T n hn).no, hv, hx ph1 v H1 x1 g1 dv⟩
      · exact hx.elim
    · exact hx.elim
  · exact hx.elim
def sFldM (ns : List Str) (f : Str) (o m : EM) : SM := fun rho S => (m rho S).bind fun y => (o rho y.2).bind fun x => match x.1 with
  | .cell k => match x.2[k]? with
    | some (.ins n fs) => if n ∈ ns ∧ fs.length < 1000 then .ok (.nx, rho, x.2.set k (.ins n (putS f y.1 fs))) else .stuck
    | _ => .stuck
  | _ => .stuck
theorem psd_fld {pos' : Pos} (T : FldsOk X.K f ns) (ho : PD X W o mo) (hm : PD X W e m) (hs : swapsWith e (some (.Attribute o f pos')) pos.line X.env = pure false := by rfl) : PSD X W (.Assign [.Attribute o f pos'] e pos) (sFldM ns f mo m) := by
  obtain ⟨t, p, s⟩ := hm.ex
  obtain ⟨to, po, so'⟩ := ho.ex
  refine ⟨_, ps_fld po p hs, fun ph S H sg rho Dn g so h => s ph S H sg rho _ g so (holds_imp (holds_bind h) (fun y hy => ?_) fun _ _ _ q => q)⟩
  intro ph1 v1 H1 x1 g1 d1
  refine so' ph1 y.2 H1 sg rho _ g1 (so.mono x1) (holds_imp (holds_bind hy) (fun x hx => ?_) fun e r s q => W.mono _ _ _ _ e r s x1 q)
  intro ph2 v2 H2 x2 g2 d2
  obtain ⟨x, S2⟩ := x
  dsimp only at *
  split at hx
  · rename_i k
    split at hx
    · rename_i n fs hk
      split at hx
      · rename_i hc
        obtain ⟨a, h3, rfl⟩ := d2
        obtain ⟨q, h4, dx, vs, h5, h6⟩ := g2.at hk
        rw [h3] at h4; cases h4
        have hl : vs.length < 1000 := by rw [h6.length]; exact hc.2
        refine ⟨a, _, dx, vs, rfl, h5, (T n hc.1).cls, (T n hc.1).no, hl, ?_⟩
        have e2 : DL.Ext ph2 H2 ph2 (upd H2 a (.ins (He.ga X.K n) dx (putF f v1 vs))) := Ext.write (List.mem_of_getElem? h3) (nofrz h5 fun _ _ z => nomatch z)
        exact hx ph2 sg _ (x1.trans (x2.trans e2)) (g2.write h3 ⟨dx, _, upd_same, denSF_put ((d1.mono x2).mono e2) (DenSF.mono e2 h6)⟩) (so.mono (x1.trans (x2.trans e2)))
      · exact hx.elim
    · exact hx.elim
  · exact hx.elim
end

structure FunAt (P : Program) (w : World) (K : PySem.W.Frag) (mg : Str → Option Value) (base : Heap) (k : Nat) (f : Addr) (m : FnM) : Prop where
  ex : ∃ fd ps, PySem.W.keepIn K (.ref f) = true ∧ PySem.W.isFn K (.ref f) = true ∧ Binds K fd ps [] ∧ FnD P w K mg base k f fd ps m
section
variable {X : Cx} {pins : List (Addr × Obj)} {s : Shared} {σ : L2.St} {H : Hp} {A : Around} {k : Nat} {f : Addr} {m : FnM}
theorem runD {us : List Value} {vs : List V} {Q : VK} (F : FunAt X.prog X.w X.K X.mg X.base k f m) (e0 : Env0 X.prog X.w X.K X.mg X.base A X.stack s H) (hr : Room k A) (hg : A.guards = some []) (I : Inv X pins σ H s) (r : Vals vs us) (h : spD X.K m vs H Q E0) :
    wpAny (model X.prog X.w) A (call (.ref f) us) (EP X pins σ Q) X.xe s := by
  obtain ⟨fd, ps, _, _, hb, FF⟩ := F.ex
  have hl : (us ++ []).length = ps.length := by rw [List.append_nil, ← r.length]; exact FF.len _ _ _ _ h
  have bt := hb s us I.kIn hl
  rw [List.append_nil] at bt
  refine wpAny_call (codeAny_mono (FF.run A X.stack s H ⟨us, []⟩ us vs Q E0 hg hr e0 bt r h) fun r s' hq => ?_)
  cases r with
  | error e => exact passL pins σ H s e s' I hq
  | ok fl =>
    cases fl with
    | ret u => exact I.after hq
    | next => exact False.elim hq
    | brk => exact False.elim hq
    | cont => exact False.elim hq
end
end DL

namespace DL
open PySem PySem.Spec PyProof.Rows L2

abbrev Tbl := List (Str × FnM)
structure MetD (P : Program) (w : World) (K : PySem.W.Frag) (mg : Str → Option Value) (base : Heap) (k : Nat) (nm n : Str) (m : FnM) : Prop where
  ex : ∃ f, Cls K (He.ga K n) ∧ Meth K (He.ga K n) nm f ∧ FunAt P w K mg base k f m
def MetsD (P : Program) (w : World) (K : PySem.W.Frag) (mg : Str → Option Value) (base : Heap) (k : Nat) (nm : Str) (tbl : Tbl) : Prop := ∀ p ∈ tbl, MetD P w K mg base k nm p.1 p.2
section
variable {P : Program} {w : World} {K : PySem.W.Frag} {mg : Str → Option Value} {base : Heap} {j k : Nat} {nm n : Str} {m : FnM} {tbl : Tbl}
theorem FnD.mono {f : Addr} {fd : FuncData} {ps : List Str} (F : FnD P w K mg base j f fd ps m) (h : j ≤ k) : FnD P w K mg base k f fd ps m :=
  ⟨F.len, fun A outer s H args us vs Q E hg hr => F.run A outer s H args us vs Q E hg (hr.mono h)⟩
theorem FunAt.mono {f : Addr} (F : FunAt P w K mg base j f m) (h : j ≤ k) : FunAt P w K mg base k f m := by
  obtain ⟨fd, ps, a, b, c, d⟩ := F.ex
  exact ⟨fd, ps, a, b, c, d.mono h⟩
theorem MetD.mono (h : MetD P w K mg base j nm n m) (hk : j ≤ k) : MetD P w K mg base k nm n m := by
  obtain ⟨f, a, b, c⟩ := h.ex
  exact ⟨f, a, b, c.mono hk⟩
theorem mets_nil : MetsD P w K mg base k nm [] := fun _ h => nomatch h
theorem mets_cons (h : MetD P w K mg base k nm n m) (t : MetsD P w K mg base k nm tbl) : MetsD P w K mg base k nm ((n, m) :: tbl) := fun p hp => (List.mem_cons.mp hp).elim (fun e => e ▸ h) (t p)
theorem tbl_mem {n : Str} {m : FnM} : ∀ {tbl : Tbl}, tbl.lookup n = some m → (n, m) ∈ tbl
  | [], h => by simp at h
  | (a, x) :: r, h => by
    rw [List.lookup_cons] at h
    cases q : n == a with
    | true =>
      rw [q] at h
      cases h
      have e : n = a := by simpa using q
      subst e
      exact List.mem_cons_self
    | false => rw [q] at h; exact List.mem_cons_of_mem _ (tbl_mem h)
end
def metOf (tbl : Tbl) (nm : Str) (S : Store) (x : SV) : Option FnM := match insOf S x with
  | some (n, fs) => if (fs.lookup nm).isNone then tbl.lookup n else none
  | none => none
def eMeth (cc : Bool) (tbl : Tbl) (nm : Str) (o : EM) (m : AM) : EM := fun rho S => (o rho S).bind fun x => match metOf tbl nm x.2 x.1 with
  | some f => (m rho x.2).bind fun y => (noX (f (x.1 :: y.1) y.2)).bind (back cc)
  | none => .stuck
section
variable {X : Cx} {W : XW X.K} {o e : Expr} {es : List Expr} {mo : EM} {m : AM} {pos apos : Pos} {nm : Str} {tbl : Tbl} {k : Nat}
abbrev tMethD (K : PySem.W.Frag) (tbl : Tbl) (nm : Str) (ta : TE) (t : TA) : TE := fun sg H Q => ta sg H fun x H1 => ∃ a dx fs n f, x = .ref a ∧ H1 a = some (.ins (He.ga K n) dx fs) ∧ fs.lookup nm = none ∧ tbl.lookup n = some f ∧ t sg H1 fun vs H2 => spD K f (.ref a :: vs) H2 Q E0
theorem pe_methD {pl : Sem Bool} {ta : TE} {t : TA} (T : MetsD X.prog X.w X.K X.mg X.base k nm tbl) (hr : Room k X.A) (hgd : X.A.guards = some []) (he : PE X o ta) (ha : PA X (e :: es) t)
    (hst : starEach (e :: es) X.env = (false, eval e X.env) :: starEach es X.env) (hpl : (backTo pos (starEach es X.env)).any (·.1) = false)
    (ht : eval (.Call (.Attribute o nm apos) (e :: es) [] pos) X.env = (do
      let recv ← eval o X.env
      standAt apos.atName
      let (g, first) ← holding [recv] (getMethod recv nm pl)
      callWith pos g first (backTo pos (starEach (e :: es) X.env)) (backToKw pos (keywordEach [] X.env)))) :
    PE X (.Call (.Attribute o nm apos) (e :: es) [] pos) (tMethD X.K tbl nm ta t) := by
  refine ⟨fun pins s σ H Q I h => ?_⟩
  refine PySem.W.methodCall_KW (pl := pl) (thn (he.run pins s σ H _ I h) fun u s1 ⟨x, H1, I1, rx, a, dx, fs, n, f, ex, ea, l, hf, q⟩ => ?_) ht
  subst ex
  obtain rfl : u = Value.ref a := rx
  obtain ⟨g, c, hm, F⟩ := (T _ (tbl_mem hf)).ex
  refine getmeth_ok I1 ea c hm l ?_
  refine PySem.W.callWith_K (first := [Value.ref a]) (h₀ := X.base) I.ok.mod.kin hm.kp (thn (ha.run pos pins s1 σ H1 _ I1 q) fun us s2 ⟨vs, H2, I2, r, q2⟩ => ⟨I2.kIn, ?_⟩) hst hpl
  exact runD (us := .ref a :: us) (vs := .ref a :: vs) F I2.env0 hr hgd I2 (.cons rfl r) q2
theorem pe_methD0 {pl : Sem Bool} {ta : TE} (T : MetsD X.prog X.w X.K X.mg X.base k nm tbl) (hr : Room k X.A) (hgd : X.A.guards = some []) (he : PE X o ta)
    (ht : eval (.Call (.Attribute o nm apos) [] [] pos) X.env = (do
      let recv ← eval o X.env
      standAt apos.atName
      let (g, first) ← holding [recv] (getMethod recv nm pl)
      callWith pos g first (backTo pos (starEach [] X.env)) (backToKw pos (keywordEach [] X.env)))) :
    PE X (.Call (.Attribute o nm apos) [] [] pos) (tMethD X.K tbl nm ta tNil) := by
  refine ⟨fun pins s σ H Q I h => ?_⟩
  refine PySem.W.methodCall_KW (pl := pl) (thn (he.run pins s σ H _ I h) fun u s1 ⟨x, H1, I1, rx, a, dx, fs, n, f, ex, ea, l, hf, q⟩ => ?_) ht
  subst ex
  obtain rfl : u = Value.ref a := rx
  obtain ⟨g, c, hm, F⟩ := (T _ (tbl_mem hf)).ex
  refine getmeth_ok I1 ea c hm l ?_
  exact PySem.W.callWith_K0 (first := [Value.ref a]) I1.kIn hm.kp (runD (us := [.ref a]) (vs := [.ref a]) F I1.env0 hr hgd I1 (.cons rfl .nil) q)
theorem metOf_ok {K : PySem.W.Frag} {ph : List Addr} {H : Hp} {S : Store} {v : V} {x : SV} {f : FnM} (g : Good K ph H S) (d : DenS K ph H v x) (h : metOf tbl nm S x = some f) :
    ∃ a dx fs n, v = .ref a ∧ H a = some (.ins (He.ga K n) dx fs) ∧ fs.lookup nm = none ∧ tbl.lookup n = some f := by
  unfold metOf at h
  split at h
  · rename_i n fs hi
    obtain ⟨a, dx, vs, rfl, h1, h2⟩ := insOf_ok g d hi
    split at h
    · rename_i hn
      exact ⟨a, dx, vs, n, rfl, h1, denSF_none h2 (by simpa using hn), h⟩
    · cases h
  · cases h
theorem pd_meth {pl : Sem Bool} (cc : Bool) (T : MetsD X.prog X.w X.K X.mg X.base k nm tbl) (hr : Room k X.A) (hgd : X.A.guards = some []) (ho : PD X W o mo) (ha : PDA X W (e :: es) m)
    (hst : starEach (e :: es) X.env = (false, eval e X.env) :: starEach es X.env := by rfl) (hpl : (backTo pos (starEach es X.env)).any (·.1) = false := by rfl)
    (ht : eval (.Call (.Attribute o nm apos) (e :: es) [] pos) X.env = (do
      let recv ← eval o X.env
      standAt apos.atName
      let (g, first) ← holding [recv] (getMethod recv nm pl)
      callWith pos g first (backTo pos (starEach (e :: es) X.env)) (backToKw pos (keywordEach [] X.env))) := by rfl) :
    PD X W (.Call (.Attribute o nm apos) (e :: es) [] pos) (eMeth cc tbl nm mo m) := by
  obtain ⟨to, po, so'⟩ := ho.ex
  obtain ⟨t, pt, st⟩ := ha.ex
  refine ⟨_, pe_methD T hr hgd po pt hst hpl ht, fun ph S H sg rho Q gd so h => so' ph S H sg rho _ gd so (holds_imp (holds_bind h) (fun x hx => ?_) fun _ _ _ q => q)⟩
  intro ph1 v1 H1 x1 g1 d1
  split at hx
  · rename_i f hf
    obtain ⟨a, dx, fs, n, rfl, h1, h2, h3⟩ := metOf_ok g1 d1 hf
    refine ⟨a, dx, fs, n, f, rfl, h1, h2, h3, st ph1 x.2 H1 sg rho _ g1 (so.mono x1) (holds_imp (holds_bind hx) (fun y hy => ?_) fun e r s q => W.mono _ _ _ _ e r s x1 q)⟩
    intro ph2 vs H2 x2 g2 d2
    exact ⟨ph2, y.2, x.1 :: y.1, g2, .cons (d1.mono x2) d2, noX_ok (holds_imp (holds_bind hy) (fun r hr => back_ok (x1.trans x2) hr) fun _ _ _ q => q)⟩
  · exact hx.elim
def eMeth0 (cc : Bool) (tbl : Tbl) (nm : Str) (o : EM) : EM := fun rho S => (o rho S).bind fun x => match metOf tbl nm x.2 x.1 with
  | some f => (noX (f [x.1] x.2)).bind (back cc)
  | none => .stuck
theorem pd_meth0 {pl : Sem Bool} (cc : Bool) (T : MetsD X.prog X.w X.K X.mg X.base k nm tbl) (hr : Room k X.A) (hgd : X.A.guards = some []) (ho : PD X W o mo)
    (ht : eval (.Call (.Attribute o nm apos) [] [] pos) X.env = (do
      let recv ← eval o X.env
      standAt apos.atName
      let (g, first) ← holding [recv] (getMethod recv nm pl)
      callWith pos g first (backTo pos (starEach [] X.env)) (backToKw pos (keywordEach [] X.env))) := by rfl) :
    PD X W (.Call (.Attribute o nm apos) [] [] pos) (eMeth0 cc tbl nm mo) := by
  obtain ⟨to, po, so'⟩ := ho.ex
  refine ⟨_, pe_methD0 T hr hgd po ht, fun ph S H sg rho Q gd so h => so' ph S H sg rho _ gd so (holds_imp (holds_bind h) (fun x hx => ?_) fun _ _ _ q => q)⟩
  intro ph1 v1 H1 x1 g1 d1
  split at hx
  · rename_i f hf
    obtain ⟨a, dx, fs, n, rfl, h1, h2, h3⟩ := metOf_ok g1 d1 hf
    exact ⟨a, dx, fs, n, f, rfl, h1, h2, h3, ph1, x.2, [x.1], g1, .cons d1 .nil, noX_ok (holds_imp (holds_bind hx) (fun r hr => back_ok x1 hr) fun _ _ _ q => q)⟩
  · exact hx.elim
end

def allFrF : List (Str × SV) → Option (List (Str × D))
  | [] => some []
  | (n, .fr d) :: r => (allFrF r).map ((n, d) :: ·)
  | (_, .cell _) :: _ => none
theorem denF_of {K : PySem.W.Frag} {ph : List Addr} {H : Hp} : ∀ {fs : List (Str × SV)} {vs : List (Str × V)} {ds : List (Str × D)}, DenSF K ph H vs fs → allFrF fs = some ds → DenF K (hide ph H) vs ds
  | [], _, ds, .nil, e => by simp [allFrF] at e; subst e; exact .nil
  | (n, .fr d) :: r, (a, v) :: vs, ds, .cons h t, e => by
    obtain ⟨e1, h2⟩ := h
    dsimp only at e1 h2
    subst e1
    simp only [allFrF, Option.map_eq_some_iff] at e
    obtain ⟨es, h3, rfl⟩ := e
    exact .cons h2 (denF_of t h3)
  | (_, .cell _) :: _, _, _, _, e => by simp [allFrF] at e
def mkEnd (c : Bool) (k : Nat) (r : RV × Store) : Res (SV × Store) := match r.1 with
  | .val (.fr .non) => match r.2[k]? with
    | some (.ins n fs) => if c then .ok (.cell k, r.2) else if (r.2.take k).all (Cell.below k) then match allFrF fs with
      | some ds => .ok (.fr (.ins n ds), r.2.take k)
      | none => .stuck else .stuck
    | _ => .stuck
  | _ => .stuck
def eMake (c : Bool) (n : Str) (f : FnM) (m : AM) : EM := fun rho S => (m rho S).bind fun y => (noX (f (.cell y.2.length :: y.1) (y.2 ++ [.ins n []]))).bind (mkEnd c y.2.length)
structure MakD (P : Program) (w : World) (K : PySem.W.Frag) (mg : Str → Option Value) (base : Heap) (k : Nat) (n : Str) (m : FnM) : Prop where
  ex : ∃ f, mg n = some (.ref (He.ga K n)) ∧ Mk K (He.ga K n) f ∧ FunAt P w K mg base k f m
section
variable {X : Cx} {W : XW X.K} {e : Expr} {es : List Expr} {m : AM} {pos p : Pos} {n : Str} {k : Nat} {f : FnM}
theorem guards_make {A : Around} (h : A.guards = some []) (C : Addr) (us : List Value) : (A.under (.builtin "type.__call__" ⟨.ref C :: us, []⟩)).guards = some [] := by
  unfold Around.under
  dsimp only
  rw [h]
  have e : ∀ a : Args, Code.guards (.builtin "type.__call__" a) = [] := fun a => by
    unfold Code.guards
    rw [if_neg (by simp [Code.isGuard, guardIds])]
  rw [e]
  rfl
theorem pe_makeD {t : TA} (M : MakD X.prog X.w X.K X.mg X.base k n f) (hr : Room (k + 1) X.A) (hgd : X.A.guards = some []) (hg : Gl X n) (ha : PA X (e :: es) t)
    (hdb : (n == ("__debug__" : Str)) = false) (he : starEach (e :: es) X.env = (false, eval e X.env) :: starEach es X.env) (hpl : (backTo pos (starEach es X.env)).any (·.1) = false) :
    PE X (.Call (.Name n p) (e :: es) [] pos) (fun sg H Q => t sg H fun vs H1 => ∀ x dx, H1 x = none → H1 dx = none → dx ≠ x →
      spD X.K f (.ref x :: vs) (upd (upd H1 dx (.own x)) x (.ins (He.ga X.K n) dx [])) (fun v H2 => v = .non ∧ Q (.ref x) H2) E0) := by
  obtain ⟨g, hm, Mk, F⟩ := M.ex
  refine ⟨fun pins s σ H Q I h => wpAny_Call_Name_kw (ld_glob I hg hm ?_ hdb)⟩
  refine PySem.W.callWith_K (h₀ := X.base) I.ok.mod.kin Mk.kp (thn (ha.run pos pins s σ H _ I h) fun us s1 ⟨vs, H1, I1, r, q⟩ => ⟨I1.kIn, ?_⟩) he hpl
  have hq := q (s1.heap.objs.size + 1) s1.heap.objs.size (I1.hok.fresh (Nat.le_succ _)) (I1.hok.fresh (Nat.le_refl _)) (Nat.ne_of_lt (Nat.lt_succ_self _))
  have I2 := Inv.made (C := He.ga X.K n) I1
  obtain ⟨fd, ps, _, _, hb, FF⟩ := F.ex
  have r2 : Vals (V.ref (s1.heap.objs.size + 1) :: vs) (Value.ref (s1.heap.objs.size + 1) :: us) := .cons rfl r
  have hl : (Value.ref (s1.heap.objs.size + 1) :: us ++ []).length = ps.length := by
    rw [List.append_nil, ← r2.length]
    exact FF.len _ _ _ _ hq
  have bt := hb _ (Value.ref (s1.heap.objs.size + 1) :: us) I2.kIn hl
  rw [List.append_nil] at bt
  refine wpAny_call (make_map (f := g) I1.kIn Mk.makes Mk.init (beq_iff_eq.mp Mk.fn) (codeAny_mono (FF.run _ X.stack _ _ ⟨Value.ref (s1.heap.objs.size + 1) :: us, []⟩ (Value.ref (s1.heap.objs.size + 1) :: us) _ _ E0 (guards_make hgd _ us) (hr.make _ us [])
    (I2.env0.make _ us []) bt r2 hq) fun r s' hq' => ?_))
  cases r with
  | error e => exact passL pins σ _ _ e s' I2 hq'
  | ok fl =>
    cases fl with
    | ret u =>
      obtain ⟨v, H', I3, rv, ev, q3⟩ := I2.after hq'
      subst ev
      exact ⟨rv, ⟨V.ref (s1.heap.objs.size + 1), H', I3, rfl, q3⟩⟩
    | next => exact False.elim hq'
    | brk => exact False.elim hq'
    | cont => exact False.elim hq'
theorem pd_make (c : Bool) (M : MakD X.prog X.w X.K X.mg X.base k n f) (hr : Room (k + 1) X.A) (hgd : X.A.guards = some []) (ha : PDA X W (e :: es) m) (hg : Gl X n := by rfl)
    (hdb : (n == ("__debug__" : Str)) = false := by decide) (he : starEach (e :: es) X.env = (false, eval e X.env) :: starEach es X.env := by rfl) (hpl : (backTo pos (starEach es X.env)).any (·.1) = false := by rfl) :
    PD X W (.Call (.Name n p) (e :: es) [] pos) (eMake c n f m) := by
  obtain ⟨t, pt, st⟩ := ha.ex
  refine ⟨_, pe_makeD M hr hgd hg pt hdb he hpl, fun ph S H sg rho Q gd so h => st ph S H sg rho _ gd so (holds_imp (holds_bind h) (fun y hy => ?_) fun _ _ _ q => q)⟩
  intro ph1 vs H1 x1 g1 d1 x dx hx hdx hne
  obtain ⟨xs, S1⟩ := y
  dsimp only at *
  have xa : DL.Ext ph1 H1 ph1 (upd H1 dx (.own x)) := Ext.fresh hdx
  have ga := g1.fresh (o := .own x) hdx
  have hx2 : upd H1 dx (.own x) x = none := by rw [upd_ne (fun e => hne e.symm)]; exact hx
  have xb : DL.Ext ph1 (upd H1 dx (.own x)) (ph1 ++ [x]) (upd (upd H1 dx (.own x)) x (.ins (He.ga X.K n) dx [])) := Ext.cell hx2
  have gb : Good X.K (ph1 ++ [x]) (upd (upd H1 dx (.own x)) x (.ins (He.ga X.K n) dx [])) (S1 ++ [.ins n []]) := ga.cell hx2 ⟨dx, [], upd_same, .nil⟩
  refine ⟨ph1 ++ [x], S1 ++ [.ins n []], .cell S1.length :: xs, gb, .cons ⟨x, by rw [← g1.len]; simp, rfl⟩ (DenSs.mono xb (DenSs.mono xa d1)), noX_ok (holds_imp (holds_bind hy) (fun r hr2 => ?_) fun _ _ _ q => q)⟩
  intro v H3 x3 g3 d3
  have x13 : DL.Ext ph1 H1 (ph1 ++ [x]) H3 := xa.trans (xb.trans x3)
  obtain ⟨rv, S3⟩ := r
  unfold mkEnd at hr2
  dsimp only at hr2 g3 d3
  split at hr2
  · refine ⟨d_non (show DenS X.K (ph1 ++ [x]) H3 v (.fr .non) from d3), ?_⟩
    split at hr2
    · rename_i m' fs hk
      have hxk : (ph1 ++ [x])[S1.length]? = some x := by rw [← g1.len]; simp
      obtain ⟨q, hq1, dx', vs', h4, h5⟩ := g3.at hk
      rw [hxk] at hq1; cases hq1
      cases c with
      | true => exact hr2 (ph1 ++ [x]) (.ref x) H3 (x1.trans x13) g3 ⟨x, hxk, rfl⟩
      | false =>
        simp only [Bool.false_eq_true, if_false] at hr2
        split at hr2
        · rename_i hb
          split at hr2
          · rename_i ds hds
            refine hr2 ph1 (.ref x) H3 (x1.trans x13.back) (g1.cut x13 g3 hb) (.ins (hide_of (g1.new hx) h4) ?_)
            have dd := denF_of h5 hds
            exact DenF.mono (sub_hide fun a m => List.mem_append_left _ m) dd
          · exact hr2.elim
        · exact hr2.elim
    · exact hr2.elim
  · exact hr2.elim
end
end DL

namespace DL
open PySem PySem.Spec PyProof.Rows L2

section
variable {X : Cx} {W : XW X.K} {pos : Pos}
def listG (c : Bool) : GA := fun as S => match as with
  | [a] => match rdS S a with
    | some xs => newL0 c xs S
    | none => match a with
      | .fr (.tup ds) => newL0 c (ds.map SV.fr) S
      | _ => .stuck
  | _ => .stuck
theorem list_ok (c : Bool) : OpA X W (fun xs H Q => ∃ p ys, xs = [V.ref p] ∧ (SqL X.K H p ys ∨ SqT X.K H p ys) ∧ ∀ l, H l = none → Q (.ref l) (upd H l (.lst ys))) (listG c) := by
  intro ph S H xs as Q g d h
  unfold listG at h
  split at h
  · rename_i a
    obtain ⟨v, rfl, dv⟩ := one_of d
    split at h
    · rename_i ys hy
      obtain ⟨p, vs, rfl, s, r⟩ := rdS_ok g dv hy
      exact ⟨p, vs, rfl, .inl s, newL0_ok g r h⟩
    · split at h
      · obtain ⟨p, vs, rfl, s, r⟩ := d_tup dv
        exact ⟨p, vs, rfl, .inr (hide_sub.sqT s), newL0_ok g (of_dens r) h⟩
      · exact h.elim
  · exact h.elim
def intsOf : List SV → Option (List Int)
  | [] => some []
  | .fr (.int i) :: r => (intsOf r).map (i :: ·)
  | _ => none
def blsOf : List SV → Option (List Bool)
  | [] => some []
  | .fr (.bl i) :: r => (blsOf r).map (i :: ·)
  | _ => none
theorem intsOf_ok {K : PySem.W.Frag} {ph : List Addr} {H : Hp} : ∀ {xs : List SV} {vs : List V} {ns : List Int}, DenSs K ph H vs xs → intsOf xs = some ns → vs = ns.map V.int
  | [], _, ns, .nil, e => by simp [intsOf] at e; subst e; rfl
  | .fr (.int i) :: r, v :: vs, ns, .cons d t, e => by
    simp only [intsOf, Option.map_eq_some_iff] at e
    obtain ⟨ms, h1, rfl⟩ := e
    rw [d_int d, intsOf_ok t h1]; rfl
theorem blsOf_ok {K : PySem.W.Frag} {ph : List Addr} {H : Hp} : ∀ {xs : List SV} {vs : List V} {ns : List Bool}, DenSs K ph H vs xs → blsOf xs = some ns → vs = ns.map V.bl
  | [], _, ns, .nil, e => by simp [blsOf] at e; subst e; rfl
  | .fr (.bl i) :: r, v :: vs, ns, .cons d t, e => by
    simp only [blsOf, Option.map_eq_some_iff] at e
    obtain ⟨ms, h1, rfl⟩ := e
    rw [d_bl d, blsOf_ok t h1]; rfl
def sumG : GA := fun as S => match as with
  | [a] => match (rdS S a).bind intsOf with
    | some ns => okV (.int ns.sum) S
    | none => .stuck
  | _ => .stuck
theorem sum_ok : OpA X W (rSum X.K) sumG := by
  intro ph S H xs as Q g d h
  unfold sumG at h
  split at h
  · obtain ⟨v, rfl, dv⟩ := one_of d
    split at h
    · rename_i ns hn
      obtain ⟨ys, hy, hn⟩ := Option.bind_eq_some_iff.mp hn
      obtain ⟨p, vs, rfl, s, r⟩ := rdS_ok g dv hy
      rw [intsOf_ok r hn] at s
      exact ⟨p, ns, rfl, s, fin_v g (.int _) h⟩
    · exact h.elim
  · exact h.elim
def anyG : GA := fun as S => match as with
  | [a] => match (rdS S a).bind blsOf with
    | some ns => okV (.bl (ns.any id)) S
    | none => .stuck
  | _ => .stuck
theorem any_ok : OpA X W (rAny X.K) anyG := by
  intro ph S H xs as Q g d h
  unfold anyG at h
  split at h
  · obtain ⟨v, rfl, dv⟩ := one_of d
    split at h
    · rename_i ns hn
      obtain ⟨ys, hy, hn⟩ := Option.bind_eq_some_iff.mp hn
      obtain ⟨p, vs, rfl, s, r⟩ := rdS_ok g dv hy
      rw [blsOf_ok r hn] at s
      exact ⟨p, ns, rfl, s, fin_v g (.bl _) h⟩
    · exact h.elim
  · exact h.elim
def allG : GA := fun as S => match as with
  | [a] => match (rdS S a).bind blsOf with
    | some ns => okV (.bl (ns.all id)) S
    | none => .stuck
  | _ => .stuck
theorem all_ok : OpA X W (rAll X.K) allG := by
  intro ph S H xs as Q g d h
  unfold allG at h
  split at h
  · obtain ⟨v, rfl, dv⟩ := one_of d
    split at h
    · rename_i ns hn
      obtain ⟨ys, hy, hn⟩ := Option.bind_eq_some_iff.mp hn
      obtain ⟨p, vs, rfl, s, r⟩ := rdS_ok g dv hy
      rw [blsOf_ok r hn] at s
      exact ⟨p, ns, rfl, s, fin_v g (.bl _) h⟩
    · exact h.elim
  · exact h.elim

def tyN (S : Store) : SV → Option String
  | .fr .non => some "NoneType"
  | .fr (.bl _) => some "bool"
  | .fr (.int _) => some "int"
  | .fr (.str _) => some "str"
  | .fr (.tup _) => some "tuple"
  | .fr (.lst _) => some "list"
  | .fr (.scr _) => some "list"
  | .fr (.dct _) => some "dict"
  | .cell k => match S[k]? with
    | some (.lst _) => some "list"
    | some (.dic _) => some "dict"
    | some (.dit _) => some "dict"
    | _ => none
  | _ => none
def kin (a b : String) : Option Bool := if a ∈ ["NoneType", "bool", "int", "str", "tuple", "list", "dict"] ∧ b ∈ ["bool", "int", "str", "tuple", "list", "dict"] then some (a == b || (a == "bool" && b == "int")) else none
theorem kin_ok {a b : String} {r : Bool} (h : kin a b = some r) : kitB a b = some r := by
  unfold kin at h
  split at h
  · rename_i hm
    cases h
    obtain ⟨h1, h2⟩ := hm
    have key : ∀ x ∈ ["NoneType", "bool", "int", "str", "tuple", "list", "dict"], ∀ y ∈ ["bool", "int", "str", "tuple", "list", "dict"], kitB x y = some (x == y || (x == "bool" && y == "int")) := by decide +kernel
    exact key a h1 b h2
  · cases h
theorem sqL_ty {K : PySem.W.Frag} {H : Hp} {a : Addr} {xs : List V} (h : SqL K H a xs) : TyX K H (.ref a) (.type "list") := by
  rcases h with (h | ⟨o, h⟩) | ⟨o, its, n, hk, hc, _⟩
  · exact .base (.lst h)
  · exact .base (.frz h)
  · exact .kList hk hc
theorem sqT_ty {K : PySem.W.Frag} {H : Hp} {a : Addr} {xs : List V} (h : SqT K H a xs) : TyX K H (.ref a) (.type "tuple") := by
  rcases h with (h | ⟨o, h⟩) | ⟨o, its, n, hk, hc, _⟩
  · exact .base (.tup h)
  · exact .fTuple h
  · exact .kTuple hk hc
theorem tyN_ok {K : PySem.W.Frag} {ph : List Addr} {S : Store} {H : Hp} {v : V} {x : SV} {t : String} (g : Good K ph H S) (d : DenS K ph H v x) (h : tyN S x = some t) : TyX K H v (.type t) := by
  unfold tyN at h
  split at h
  · cases h; rw [d_non d]; exact .base .non
  · cases h; rw [d_bl d]; exact .base (.bl _)
  · cases h; rw [d_int d]; exact .base (.int _)
  · cases h; rw [d_str d]; exact .base (.str _)
  · cases h
    obtain ⟨p, vs, rfl, s, r⟩ := d_tup d
    exact sqT_ty (hide_sub.sqT s)
  · cases h
    obtain ⟨p, vs, rfl, s, r⟩ := rdS_ok g d rfl
    exact sqL_ty s
  · cases h
    obtain ⟨p, vs, rfl, s, r⟩ := rdS_ok g d rfl
    exact sqL_ty s
  · cases h
    cases (show Den K (hide ph H) v _ from d) with
    | dct e r => exact .base (.dK (hide_some e).2)
  · split at h
    · rename_i k xs hk
      cases h
      obtain ⟨p, vs, rfl, s, r⟩ := rdS_ok (xs := xs) g d (by simp [rdS, rdL, hk])
      exact sqL_ty s
    · rename_i k kvs hk
      cases h
      obtain ⟨p, hp, rfl⟩ := d
      obtain ⟨vs, h4, h5⟩ := paired_at g.cells hp hk
      exact .base (.dK h4)
    · rename_i k kvs hk
      cases h
      obtain ⟨p, hp, rfl⟩ := d
      obtain ⟨vs, h4, h5⟩ := paired_at g.cells hp hk
      exact .base (.dT h4)
    · cases h
  · cases h
def isiG : GA := fun as S => match as with
  | [x, .fr (.ty b)] => match (tyN S x).bind fun a => kin a b with
    | some r => okV (.bl r) S
    | none => .stuck
  | _ => .stuck
theorem isi_ok : OpA X W (rIsi X.K) isiG := by
  intro ph S H xs as Q g d h
  unfold isiG at h
  split at h
  · rename_i x b
    obtain ⟨v, u, rfl, dv, du⟩ := two_of d
    split at h
    · rename_i r hr
      obtain ⟨a, ha, hk⟩ := Option.bind_eq_some_iff.mp hr
      have e : u = .ty b := by cases (show Den X.K (hide ph H) u (.ty b) from du); rfl
      subst e
      exact ⟨v, .ty b, .type a, .type b, r, rfl, .ty b, tyN_ok g dv ha, kit_ty (kin_ok hk), fin_v g (.bl _) h⟩
    · exact h.elim
  · exact h.elim
theorem pd_ty {x : Str} {T : String} (hm : X.mg x = none) (hv : bootBuiltins x = some (.type T)) (hg : Gl X x := by rfl) (hn : x ≠ "__name__" := by decide) (hdb : (x == ("__debug__" : Str)) = false := by decide) : PD X W (.Name x pos) (eC (.ty T)) :=
  pd_const ⟨fun pins s σ H Q I h => ld_blt I hg hm hv ⟨.ty T, H, I, rfl, h⟩ hn hdb⟩ fun _ => .ty _
end
end DL

namespace DL
open PySem PySem.Spec PyProof.Rows L2

structure OpD (P : Program) (w : World) (K : PySem.W.Frag) (mg : Str → Option Value) (base : Heap) (k : Nat) (nm n : Str) (m : FnM) : Prop where
  ex : ∃ f, PySem.W.findIn K (.ref (He.ga K n)) nm = some (some (.ref f)) ∧ PySem.W.selfFirst K (He.ga K n) = true ∧ FunAt P w K mg base k f m
def OpsD (P : Program) (w : World) (K : PySem.W.Frag) (mg : Str → Option Value) (base : Heap) (k : Nat) (nm : Str) (tbl : Tbl) : Prop := ∀ p ∈ tbl, OpD P w K mg base k nm p.1 p.2
section
variable {P : Program} {w : World} {K : PySem.W.Frag} {mg : Str → Option Value} {base : Heap} {j k : Nat} {nm n : Str} {m : FnM} {tbl : Tbl}
theorem OpD.mono (h : OpD P w K mg base j nm n m) (hk : j ≤ k) : OpD P w K mg base k nm n m := by
  obtain ⟨f, a, b, c⟩ := h.ex
  exact ⟨f, a, b, c.mono hk⟩
theorem ops_nil : OpsD P w K mg base k nm [] := fun _ h => nomatch h
theorem ops_cons (h : OpD P w K mg base k nm n m) (t : OpsD P w K mg base k nm tbl) : OpsD P w K mg base k nm ((n, m) :: tbl) := fun p hp => (List.mem_cons.mp hp).elim (fun e => e ▸ h) (t p)
end
section
variable {X : Cx} {W : XW X.K} {pins : List (Addr × Obj)} {s : Shared} {σ : L2.St} {H : Hp} {k : Nat} {tbl : Tbl} {a b : Expr} {ma mb : EM} {pos : Pos}
def rOwn1 (K : PySem.W.Frag) (tbl : Tbl) : V → Hp → VK → Prop := fun x H Q => ∃ a n dx vs f, x = .ref a ∧ H a = some (.ins (He.ga K n) dx vs) ∧ tbl.lookup n = some f ∧ spD K f [.ref a] H Q E0
theorem un_own (T : OpsD X.prog X.w X.K X.mg X.base k "__invert__" tbl) (hr : Room k X.A) (hgd : X.A.guards = some []) : UnR X (unaryOp .Invert) (rOwn1 X.K tbl) := by
  intro pins s σ H x v Q I rx h
  obtain ⟨a, n, dx, vs, f, rfl, ha, hf, q⟩ := h
  obtain rfl : v = Value.ref a := rx
  obtain ⟨g, hfi, hsf, F⟩ := (T _ (tbl_mem hf)).ex
  obtain ⟨mA, J, _⟩ := ins_get I.hok ha
  obtain ⟨od, J, _⟩ := J.look
  obtain ⟨m, hF⟩ := I.fr
  obtain ⟨_, _, _, hfn, _⟩ := F.ex
  exact PySem.W.ksp_inv hF I.ok.mod.kin J hfi hfn (runD (us := [.ref a]) (vs := [.ref a]) F I.env0 hr hgd I (.cons rfl .nil) q)
def own1G (cc : Bool) (tbl : Tbl) : G1 := fun a S => match insOf S a with
  | some (n, _) => (match tbl.lookup n with
    | some f => (noX (f [a] S)).bind (back cc)
    | none => .stuck)
  | _ => .stuck
theorem own1_ok (cc : Bool) : Op1 X W (rOwn1 X.K tbl) (own1G cc tbl) := by
  intro ph S H x a Q g da h
  unfold own1G at h
  split at h
  · rename_i n fs h1
    obtain ⟨p, dx, vs, rfl, e1, _⟩ := insOf_ok g da h1
    split at h
    · rename_i f hf
      exact ⟨p, n, dx, vs, f, rfl, e1, hf, ph, S, [a], g, .cons da .nil, noX_ok (holds_imp (holds_bind h) (fun r hr => back_ok (Ext.refl _ _) hr) fun _ _ _ q => q)⟩
    · exact h.elim
  · exact h.elim
theorem pd_inv (cc : Bool) (T : OpsD X.prog X.w X.K X.mg X.base k "__invert__" tbl) (hr : Room k X.A) (hgd : X.A.guards = some []) (ha : PD X W a ma) : PD X W (.UnaryOp .Invert a pos) (e1 (own1G cc tbl) ma) :=
  pd_1 (un_own T hr hgd) (own1_ok cc) ha
end
end DL

namespace DLB
open PySem
section
variable {prog : Program} {w : World} {A : Around} {E : Value → Shared → Prop} {s : Shared}
end
end DLB

namespace DL
open PySem PySem.Spec PyProof.Rows L2
section
variable {X : Cx} {W : XW X.K} {pins : List (Addr × Obj)} {s : Shared} {σ : L2.St} {H : Hp} {k : Nat} {tbl : Tbl} {a b : Expr} {ma mb : EM} {pos : Pos}
end
end DL

namespace DL
open PySem PySem.Spec PyProof.Rows L2

section
variable {X : Cx} {W : XW X.K} {e : Expr} {es : List Expr} {m : AM} {pos p apos : Pos} {nm n : Str} {k : Nat} {f : FnM}
end
end DL

namespace DL
open PySem PySem.Spec PyProof.Rows L2

section
variable {P : Program} {w : World} {K : PySem.W.Frag} {mg : Str → Option Value} {base : Heap}
theorem funAt_of {k : Nat} {x qual : Str} {st : Stmt} {f : Addr} {fd : FuncData} {N ps : List Str} {b : SM} (F : Fun K x qual st f fd) (hfn : PySem.W.isFn K (.ref f) = true) (hbd : Binds K fd ps []) (Sc : FnScope N ps (defScope st))
    (hb : ∀ (cdv : Value) (A : Around) (outer : List Env) (s : Shared) (H : Hp) (E : XK), (A.deeper (envOfC qual (defScope st) s.heap.objs.size f cdv)).guards = some [] → Room k (A.deeper (envOfC qual (defScope st) s.heap.objs.size f cdv)) →
      PSDs (cxOf (L2.CX P w) P w K mg base N qual (defScope st) f cdv A outer s H E) (XW.fn K E) (defBody st) b) : FunAt P w K mg base (k + 1) f (fnM ps.length N.length b) := by
  obtain ⟨oc, od, kV, doc, pm, an, cdv, ct, osl, rfl, lk, hcd⟩ := F.ex
  exact ⟨_, ps, F.kp, hfn, hbd, fnD_of lk hcd Sc fun A outer s H E => hb cdv A outer s H E⟩
end
section
variable {fs : List Fc} {fn : List He5.DefA} {K : PySem.W.Frag}
theorem SaysF.fact (c : SaysF fs fn K) (i : Nat) {f : Fc} (h : fs[i]? = some f := by rfl) : f K = true := by
  have q : (obsF fs fn K).1 = true := by rw [show obsF fs fn K = He5.valA fn from c]; rfl
  exact List.all_eq_true.mp (Bool.and_eq_true_iff.mp q).1 f (List.mem_of_getElem? h)
theorem SaysF.def_ (c : SaysF fs fn K) (i : Nat) {d : He5.DefA} (h : fn[i]? = some d := by rfl) : ∃ fd, L2.FunD K d.name d.qual d.params d.body d.scope (d.dvs K) (d.kws K) (d.at_ K) fd := by
  have q : (obsF fs fn K).1 = true := by rw [show obsF fs fn K = He5.valA fn from c]; rfl
  have q2 : (obsF fs fn K).2 = (He5.valA fn).2 := by rw [show obsF fs fn K = He5.valA fn from c]
  have q3 : (fn.map fun d => He5.fnA K (d.at_ K))[i]? = (fn.map He5.DefA.val)[i]? := by rw [show fn.map (fun d => He5.fnA K (d.at_ K)) = fn.map He5.DefA.val from q2]
  rw [List.getElem?_map, List.getElem?_map, h] at q3
  exact He5.DefA.funD (Option.some.inj q3) (List.all_eq_true.mp (Bool.and_eq_true_iff.mp q).2 d (List.mem_of_getElem? h))
end
section
variable {P : Program} {w : World} {K : PySem.W.Frag} {mg : Str → Option Value} {base h : Heap} {k : Nat} {n m f x y : Str} {g : FnM}
theorem fld_of (c1 : fcCls n K = true) (c2 : fcNo n f K = true) : FldOk K n f := ⟨He.cls_ok c1, He.noat_ok c2⟩
theorem met_of (c1 : fcCls n K = true) (c2 : fcMeth n m K = true) (F : FunAt P w K mg base k (He.ma K (He.ga K n) m) g) : MetD P w K mg base k m n g := ⟨_, He.cls_ok c1, He.meth_ok c2, F⟩
theorem op_of (c1 : fcSelf n K = true) (c2 : fcMeth n m K = true) (F : FunAt P w K mg base k (He.ma K (He.ga K n) m) g) : OpD P w K mg base k m n g := ⟨_, (He.meth_ok c2).at_, c1, F⟩
theorem mak_of (X : K.In h) (G : h.Ns mainGlobals mg) (c1 : fcGlo n K = true) (c2 : fcMk n K = true) (F : FunAt P w K mg base k (He.ma K (He.ga K n) "__init__") g) : MakD P w K mg base k n g := ⟨_, He.glo_ok X G c1, He.mkr_ok c2, F⟩
theorem first_of_ok {s : Stmt} {p : Str} {fd : FuncData} {a : Addr} (F : Fun K x x s a fd) (hb : Binds K fd [p] []) (sc : FnScope [p] [p] (defScope s)) (hl : (defScope s).names.lookup p = some .local) (hd : (p == ("__debug__" : Str)) = false) {i : Nat} {p1 p2 p3 p4 : Pos}
    (hbody : defBody s = [.Return (some (.Subscript (.Name p p1) (.Constant (.int 0) i p2) p3)) p4]) : FirstOf K a := ⟨x, p, s, fd, i, 0, p1, p2, p3, p4, F, hb, sc, hl, hd, hbody⟩
end
end DL

namespace DL
open PySem PySem.Spec PyProof.Rows L2

def Held (K : PySem.W.Frag) (ph : List Addr) (H : Hp) (lk : Store → Prop) (a : Addr) (ds : List D) : Prop :=
  ∀ (ph' : List Addr) (H' : Hp) (S' : Store), Ext ph H ph' H' → Good K ph' H' S' → lk S' → ∃ vs, SqL K H' a vs ∧ DenSs K ph' H' vs (ds.map SV.fr)
def srcM (S : Store) : SV → Option (List D × (Store → Prop))
  | .fr (.tup _) => none
  | .fr d => ((rdS S (.fr d)).bind allFr).map fun ds => (ds, fun _ => True)
  | .cell k => (rdL S (.cell k)).bind fun xs => (allFr xs).map fun ds => (ds, fun S' => S'[k]? = some (.lst xs))
theorem src_ok {K : PySem.W.Frag} {ph : List Addr} {H : Hp} {S : Store} {v : V} {x : SV} {ds : List D} {lk : Store → Prop} (g : Good K ph H S) (d : DenS K ph H v x) (h : srcM S x = some (ds, lk)) : ∃ a vs, v = .ref a ∧ SqL K H a vs ∧ Held K ph H lk a ds := by
  unfold srcM at h
  split at h
  · cases h
  · simp only [Option.map_eq_some_iff, Option.bind_eq_some_iff] at h
    obtain ⟨es, ⟨xs, h1, h2⟩, h3⟩ := h
    cases h3
    obtain ⟨p, vs, rfl, s, r⟩ := rdS_fr d h1
    refine ⟨p, vs, rfl, hide_sub.sqL s, fun ph' H' S' e _ _ => ⟨vs, hide_sub.sqL (e.sub.sqL s), ?_⟩⟩
    rw [← allFr_eq h2]
    exact r.mono e
  · rename_i k
    simp only [Option.map_eq_some_iff, Option.bind_eq_some_iff] at h
    obtain ⟨xs, h1, es, h2, h3⟩ := h
    cases h3
    obtain ⟨p, hp, rfl⟩ := id d
    obtain ⟨q, vs, e1, h4, h5⟩ := rdL_at g d h1
    cases e1
    refine ⟨p, vs, rfl, .of h4, fun ph' H' S' e g' hk => ?_⟩
    obtain ⟨q, h6, ws, h7, h8⟩ := g'.at hk
    obtain ⟨ps, rfl, _⟩ := e.pre
    rw [List.getElem?_append_left (List.getElem?_eq_some_iff.mp hp).1, hp] at h6
    cases h6
    exact ⟨ws, .of h7, by rw [← allFr_eq h2]; exact h8⟩
def enF (n : Nat) : List D → List SV
  | [] => []
  | d :: ds => .fr (.tup [.int (n : Nat), d]) :: enF (n + 1) ds
theorem enF_get : ∀ (ds : List D) (n i : Nat), (enF n ds)[i]? = ds[i]?.map fun d => SV.fr (.tup [.int ((n + i : Nat) : Int), d])
  | [], n, i => by simp [enF]
  | d :: ds, n, 0 => by simp [enF]
  | d :: ds, n, i + 1 => by
    have := enF_get ds (n + 1) i
    simp only [enF, List.getElem?_cons_succ, this, show n + 1 + i = n + (i + 1) by omega]
theorem enF_len : ∀ (ds : List D) (n : Nat), (enF n ds).length = ds.length
  | [], _ => rfl
  | d :: ds, n => by simp [enF, enF_len ds (n + 1)]
theorem pair_den {K : PySem.W.Frag} {ph : List Addr} {H : Hp} {S : Store} {T : Addr} {u v : V} {d e : D} (g : Good K ph H S) (hT : H T = none) (hu : DenS K ph H u (.fr d)) (hv : DenS K ph H v (.fr e)) :
    Ext ph H ph (upd H T (.tup [u, v])) ∧ Good K ph (upd H T (.tup [u, v])) S ∧ DenS K ph (upd H T (.tup [u, v])) (.ref T) (.fr (.tup [d, e])) := by
  have x : Ext ph H ph (upd H T (.tup [u, v])) := Ext.fresh hT
  refine ⟨x, g.fresh hT, .tup (vs := [u, v]) (hide_of (g.new hT) upd_same) ?_⟩
  exact .cons (hu.mono x) (.cons (hv.mono x) .nil)
theorem walk_en {K : PySem.W.Frag} {ph : List Addr} {H : Hp} {lk : Store → Prop} {a : Addr} {ds : List D} (h : Held K ph H lk a ds) : WalkOk K ph H (Ite K a) ⟨enF 0 ds, lk⟩ where
  go := fun i x ph' H' S' hx e g hk => by
    obtain ⟨vs, s, r⟩ := h ph' H' S' e g hk
    have hx' : (enF 0 ds)[i]? = some x := hx
    rw [enF_get, Option.map_eq_some_iff] at hx'
    obtain ⟨d, hd, _⟩ := hx'
    obtain ⟨v, hv, _⟩ := paired_get r (show (ds.map SV.fr)[i]? = some (SV.fr d) by rw [List.getElem?_map, hd]; rfl)
    exact ⟨vs, v, s, hv⟩
  yld := fun i x ph' H' S' v H2 hx e g hk y => by
    obtain ⟨vs, s, r⟩ := h ph' H' S' e g hk
    have hx' : (enF 0 ds)[i]? = some x := hx
    rw [enF_get, Option.map_eq_some_iff] at hx'
    obtain ⟨d, hd, rfl⟩ := hx'
    obtain ⟨u, hu, du⟩ := paired_get r (show (ds.map SV.fr)[i]? = some (SV.fr d) by rw [List.getElem?_map, hd]; rfl)
    obtain ⟨T, w, rfl, hT, rfl, hw⟩ := y
    have := hw vs s
    rw [hu] at this
    cases this
    rw [Nat.zero_add]
    exact pair_den g hT (Den.int _) du
  stop := fun i ph' H' S' hi e g hk => by
    obtain ⟨vs, s, r⟩ := h ph' H' S' e g hk
    have hi' : (enF 0 ds).length ≤ i := hi
    rw [enF_len] at hi'
    exact ⟨vs, s, by rw [r.length, List.length_map]; exact hi'⟩
def iEn (m : AM) : IM := fun rho S => (m rho S).bind fun x => match x.1 with
  | [a] => match srcM x.2 a with
    | some (ds, lk) => .ok (⟨enF 0 ds, lk⟩, x.2)
    | none => .stuck
  | _ => .stuck
def ziF (ds es : List D) : List SV := List.zipWith (fun d e => SV.fr (.tup [d, e])) ds es
theorem walk_zi {K : PySem.W.Frag} {ph : List Addr} {H : Hp} {lk lk' : Store → Prop} {a b : Addr} {ds es : List D} (h : Held K ph H lk a ds) (h' : Held K ph H lk' b es) : WalkOk K ph H (Itz K a b) ⟨ziF ds es, fun S => lk S ∧ lk' S⟩ where
  go := fun i x ph' H' S' hx e g hk => by
    obtain ⟨vs, s, r⟩ := h ph' H' S' e g hk.1
    obtain ⟨ws, s', r'⟩ := h' ph' H' S' e g hk.2
    have hx' : (ziF ds es)[i]? = some x := hx
    unfold ziF at hx'
    rw [List.getElem?_zipWith_eq_some] at hx'
    obtain ⟨d, d', hd, hd', _⟩ := hx'
    obtain ⟨v, hv, _⟩ := paired_get r (show (ds.map SV.fr)[i]? = some (SV.fr d) by rw [List.getElem?_map, hd]; rfl)
    obtain ⟨v', hv', _⟩ := paired_get r' (show (es.map SV.fr)[i]? = some (SV.fr d') by rw [List.getElem?_map, hd']; rfl)
    exact ⟨vs, ws, v, v', s, s', hv, hv'⟩
  yld := fun i x ph' H' S' v H2 hx e g hk y => by
    obtain ⟨vs, s, r⟩ := h ph' H' S' e g hk.1
    obtain ⟨ws, s', r'⟩ := h' ph' H' S' e g hk.2
    have hx' : (ziF ds es)[i]? = some x := hx
    unfold ziF at hx'
    rw [List.getElem?_zipWith_eq_some] at hx'
    obtain ⟨d, d', hd, hd', rfl⟩ := hx'
    obtain ⟨u, hu, du⟩ := paired_get r (show (ds.map SV.fr)[i]? = some (SV.fr d) by rw [List.getElem?_map, hd]; rfl)
    obtain ⟨u', hu', du'⟩ := paired_get r' (show (es.map SV.fr)[i]? = some (SV.fr d') by rw [List.getElem?_map, hd']; rfl)
    obtain ⟨T, w, w', rfl, hT, rfl, hw, hw'⟩ := y
    have q := hw vs s
    have q' := hw' ws s'
    rw [hu] at q
    rw [hu'] at q'
    cases q
    cases q'
    exact pair_den g hT du du'
  stop := fun i ph' H' S' hi e g hk => by
    obtain ⟨vs, s, r⟩ := h ph' H' S' e g hk.1
    obtain ⟨ws, s', r'⟩ := h' ph' H' S' e g hk.2
    have hi' : (ziF ds es).length ≤ i := hi
    unfold ziF at hi'
    rw [List.length_zipWith] at hi'
    refine ⟨vs, ws, s, s', ?_⟩
    rw [r.length, r'.length, List.length_map, List.length_map]
    omega
def iZi (m : AM) : IM := fun rho S => (m rho S).bind fun x => match x.1 with
  | [a, b] => match srcM x.2 a, srcM x.2 b with
    | some (ds, lk), some (es, lk') => .ok (⟨ziF ds es, fun S => lk S ∧ lk' S⟩, x.2)
    | _, _ => .stuck
  | _ => .stuck
section
variable {X : Cx} {W : XW X.K} {a b : Expr} {pos p tpos : Pos} {elts : List Expr} {kk : Nat} {m : AM}
theorem pid_enum (hm : X.mg "enumerate" = none) (ha : PDA X W [a] m) (hg : Gl X "enumerate" := by rfl) (hs : starEach [a] X.env = [(false, eval a X.env)] := by rfl) : PID X W (.Tuple elts kk tpos) (.Call (.Name "enumerate" p) [a] [] pos) (iEn m) := by
  obtain ⟨t, pt, st⟩ := ha.ex
  refine ⟨_, pi_enum hg hm pt hs, fun ph S H sg rho R g so h => st ph S H sg rho _ g so (holds_imp (holds_bind h) (fun x hx => ?_) fun _ _ _ q => q)⟩
  intro ph1 vs H1 x1 g1 d1
  obtain ⟨xs, S1⟩ := x
  dsimp only at *
  split at hx
  · split at hx
    · rename_i ds lk hsrc
      obtain ⟨v, rfl, dv⟩ := one_of d1
      obtain ⟨q, us, rfl, s, hh⟩ := src_ok g1 dv hsrc
      exact ⟨q, us, rfl, s, hx ph1 H1 _ x1 g1 (walk_en hh)⟩
    · exact hx.elim
  · exact hx.elim
theorem pid_zip (hm : X.mg "zip" = none) (ha : PDA X W [a, b] m) (hg : Gl X "zip" := by rfl) (hs : starEach [a, b] X.env = (false, eval a X.env) :: starEach [b] X.env := by rfl) (hpl : (backTo pos (starEach [b] X.env)).any (·.1) = false := by rfl) : PID X W (.Tuple elts kk tpos) (.Call (.Name "zip" p) [a, b] [] pos) (iZi m) := by
  obtain ⟨t, pt, st⟩ := ha.ex
  refine ⟨_, pi_zip hg hm pt hs hpl, fun ph S H sg rho R g so h => st ph S H sg rho _ g so (holds_imp (holds_bind h) (fun x hx => ?_) fun _ _ _ q => q)⟩
  intro ph1 vs H1 x1 g1 d1
  obtain ⟨xs, S1⟩ := x
  dsimp only at *
  split at hx
  · split at hx
    · rename_i ds lk es lk' hsrc hsrc'
      obtain ⟨v, u, rfl, dv, du⟩ := two_of d1
      obtain ⟨q, us, rfl, s, hh⟩ := src_ok g1 dv hsrc
      obtain ⟨q', us', rfl, s', hh'⟩ := src_ok g1 du hsrc'
      exact ⟨q, q', us, us', rfl, s, s', hx ph1 H1 _ x1 g1 (walk_zi hh hh')⟩
    · exact hx.elim
  · exact hx.elim
end
end DL

namespace DL
open PySem PySem.Spec PyProof.Rows L2

section
variable {P : Program} {w : World} {A : Around} {E : Value → Shared → Prop} {s : Shared}
abbrev bare (w : World) : Obj := { cls := .type "set", dict := none, data := .set #[] 0 (.fresh 0 0 (!w.params.followText "set-order")) }
set_option maxRecDepth 100000 in
set_option maxHeartbeats 3200000 in
theorem call_setL {l : Addr} {us : Array Value} (ns : List Int) {Q : Value → Shared → Prop} (hh : A.handled = none) (hl : s.heap.IsList l us) (hu : IntsAre us.toList ns) (hb : ns.length + 1 < scanBound)
    (h : ∀ (h' : Heap) (tk c : Nat), SetR w h' s.heap.objs.size (fun j => decide (j ∈ ns)) c → c ≤ ns.length → (∀ b o, s.heap.get? b = some o → h'.get? b = some o) → Q (.ref s.heap.objs.size) { s with heap := h', toks := tk }) :
    wpAny (model P w) A (call (.type "set") [.ref l]) Q E s := by
  have sz : us.size = ns.length := by
    have q := IntsAre.length hu
    rwa [Array.length_toList] at q
  have hlt : l < s.heap.objs.size := by
    obtain ⟨o, ho, _⟩ := hl
    exact Heap.lt_size ho
  obtain ⟨c, tl, hmro⟩ := F.called_set.mro
  have hmade := F.called_set.made
  have hsub := F.called_set.sub
  have h1 := F.called_set.notType
  have h2 := F.called_set.canCreate
  have hct := F.typeCall_set_1 (.ref l)
  have hli := F.called_set.init.lookup
  have hbi := F.called_set.init.bind (.ref s.heap.objs.size)
  have hS : (s.heap.push (bare w)).get? s.heap.objs.size = some (bare w) := Heap.get?_push_size _ rfl
  have hT : Shared.TypeIs { s with heap := s.heap.push (bare w) } (.ref s.heap.objs.size) "set" := ⟨_, hS, rfl⟩
  have hl1 : (s.heap.push (bare w)).IsList l us := hl.push _
  have z1 : (s.heap.push (bare w)).objs.size = s.heap.objs.size + 1 := Heap.size_push ..
  have ne1 : l ≠ (s.heap.push (bare w)).objs.size := by rw [z1]; exact Nat.ne_of_lt (Nat.lt_succ_of_lt hlt)
  have hi : A.in1.in1.in1.handled = none := by simp [hh]
  have nf : s.heap.objs.size ∉ [(s.heap.push (bare w)).objs.size, l] := by
    rw [z1]
    simp only [List.mem_cons, List.not_mem_nil, or_false, not_or]
    exact ⟨Nat.ne_of_lt (Nat.lt_succ_self _), Nat.ne_of_gt hlt⟩
  have vals : ∀ (i : Nat) (v : Value), us[i]? = some v → ∃ k t, ns[i]? = some k ∧ v = .int k t := fun i v hv => by
    have hi : i < ns.length := by rw [← sz]; exact (Array.getElem?_eq_some_iff.mp hv).1
    obtain ⟨t, e⟩ := IntsAre.int_at hu i v (by rw [Array.getElem?_toList]; exact hv)
    refine ⟨ns[i], t, List.getElem?_eq_getElem hi, ?_⟩
    rw [e, List.getD_eq_getElem?_getD, List.getElem?_eq_getElem hi] <;> rfl
  refine wpAny_call (codeAny_of_tree ?_)
  show wpAny _ _ (callAny (.type "set") _) _ _ _
  refine wpAny_pure ⟨Code.quiet_builtin _ (by decide +kernel), codeAny_builtin F.entry_type_call ?_⟩
  rw [Around.under_plain (weight_type_call_type "set" [.ref l] []) rfl]
  repeat (any_goals (first | assumption | wp_step))
  refine codeAny_mono (code_set_led1 (.ref l) (E := E) (Q₁ := fun obj s₁ => obj = .ref s.heap.objs.size ∧ s₁ = { s with heap := s.heap.push (bare w) }) ⟨rfl, rfl⟩) fun r s₁ hr => ?_
  rcases r with e | fl
  · exact hr
  cases fl with
  | ret obj =>
    obtain ⟨rfl, rfl⟩ := hr
    repeat (any_goals (first | assumption | wp_step))
    refine codeAny_mono (codeAny_call_builtin (R := wants (fun r s₂ => r = .none ∧ ∃ h' tk c, s₂ = { s with heap := h', toks := tk } ∧ SetR w h' s.heap.objs.size (fun j => decide (j ∈ ns)) c ∧ c ≤ ns.length ∧
      (∀ b o, s.heap.get? b = some o → h'.get? b = some o)) E) F.called_set.init.plain F.entry_set_init (check_set_init_1 hT ?_)) fun r₂ s₂ hr₂ => ?_
    · obtain ⟨⟨oc, od, oda, os⟩, hol, hcl, nl, hdl⟩ := hl1
      simp only at hcl hdl
      subst hcl hdl
      have q1 := F.sub_list_set
      have q2 := F.sub_list_frozenset
      have q3 : (Value.type "list" == Value.type "dict") = false := by decide
      have hl2 : (s.heap.push (bare w)).IsList l us := hl.push _
      unfold Builtin.«set.__init__» noKeywords Builtin.Frozenset.updateFrom
      generalize hPI : pyIter = PI
      wp_walk
      subst hPI
      refine wpAny_pyIter_list hl2 ?_
      refine wpAny_bind (wpAny_runValue ?_)
      refine set_update_ints ((Walks.list hi _ l ne1 us).toS) s.heap.objs.size nf ns sz hb vals (us.size - 0) 0 _ (by omega) (Nat.zero_le _) ⟨⟨_, Heap.get?_push_size _ rfl, rfl, rfl⟩, (hl2.push _)⟩ ⟨0, Nat.le_refl 0, setR_new_at (Heap.get?_push_of_some _ hS)⟩ ?_
      intro s' c' hm hc' hS'
      obtain ⟨h', g2, d', tk', os'⟩ := s'
      have eg : g2 = s.gens := hm.gens
      have ed : d' = s.drawn := hm.drawn
      have eo : os' = s.os := hm.os
      subst eg ed eo
      show wpAny _ _ _ _ _ _
      refine wpAny_pure ?_
      show wpAny _ _ (ret Value.none) _ _ _
      rw [sz] at hc'
      refine wpAny_pure ⟨rfl, h', tk', c', rfl, hS', hc', fun b o e => ?_⟩
      have hb0 : b < s.heap.objs.size := Heap.lt_size e
      refine hm.heap b o ?_ (Heap.get?_push_of_some _ (Heap.get?_push_of_some _ e))
      rw [z1]
      simp only [List.mem_cons, List.not_mem_nil, or_false, not_or]
      exact ⟨Nat.ne_of_lt hb0, Nat.ne_of_lt (Nat.lt_succ_of_lt hb0)⟩
    · rcases r₂ with e | fl₂
      · exact hr₂
      cases fl₂ with
      | ret r =>
        obtain ⟨rfl, h', tk, c', rfl, hS', hc', hk'⟩ := hr₂
        repeat (any_goals (first | assumption | wp_step))
        exact h _ _ _ hS' hc' hk'
      | _ => exact hr₂.elim
  | _ => exact hr.elim
end
end DL

namespace DL
open PySem PySem.Spec PyProof.Rows L2

def insU (k : Int) : List Int → List Int
  | [] => [k]
  | x :: xs => if k < x then k :: x :: xs else if k = x then x :: xs else x :: insU k xs
def asc (ns : List Int) : List Int := ns.foldr insU []
theorem insU_mem {k j : Int} : ∀ {xs : List Int}, j ∈ insU k xs ↔ j = k ∨ j ∈ xs
  | [] => by simp [insU]
  | x :: xs => by
    unfold insU
    split
    · simp
    · split
      · rename_i h
        subst h
        simp
      · rw [List.mem_cons, insU_mem, List.mem_cons]
        constructor
        · rintro (h | h | h)
          · exact .inr (.inl h)
          · exact .inl h
          · exact .inr (.inr h)
        · rintro (h | h | h)
          · exact .inr (.inl h)
          · exact .inl h
          · exact .inr (.inr h)
theorem insU_asc {k : Int} : ∀ {xs : List Int}, xs.Pairwise (· < ·) → (insU k xs).Pairwise (· < ·)
  | [], _ => by simp [insU]
  | x :: xs, h => by
    obtain ⟨h1, h2⟩ := List.pairwise_cons.mp h
    unfold insU
    split
    · rename_i c
      refine List.pairwise_cons.mpr ⟨fun y hy => ?_, h⟩
      rcases List.mem_cons.mp hy with rfl | hy
      · exact c
      · exact Int.lt_trans c (h1 y hy)
    · split
      · exact h
      · rename_i c d
        refine List.pairwise_cons.mpr ⟨fun y hy => ?_, insU_asc h2⟩
        rcases insU_mem.mp hy with rfl | hy
        · omega
        · exact h1 y hy
theorem asc_mem {j : Int} : ∀ {ns : List Int}, j ∈ asc ns ↔ j ∈ ns
  | [] => by simp [asc]
  | n :: ns => by
    show j ∈ insU n (asc ns) ↔ _
    rw [insU_mem, asc_mem, List.mem_cons]
theorem asc_asc : ∀ ns : List Int, (asc ns).Pairwise (· < ·)
  | [] => List.Pairwise.nil
  | n :: ns => insU_asc (asc_asc ns)
theorem asc_uniq : ∀ {xs ys : List Int}, xs.Pairwise (· < ·) → ys.Pairwise (· < ·) → (∀ k, k ∈ xs ↔ k ∈ ys) → xs = ys
  | [], [], _, _, _ => rfl
  | [], y :: ys, _, _, h => absurd ((h y).mpr List.mem_cons_self) (by simp)
  | x :: xs, [], _, _, h => absurd ((h x).mp List.mem_cons_self) (by simp)
  | x :: xs, y :: ys, hx, hy, h => by
    obtain ⟨a1, a2⟩ := List.pairwise_cons.mp hx
    obtain ⟨b1, b2⟩ := List.pairwise_cons.mp hy
    have e : x = y := by
      rcases List.mem_cons.mp ((h x).mp List.mem_cons_self) with e | m
      · exact e
      · rcases List.mem_cons.mp ((h y).mpr List.mem_cons_self) with e | m2
        · exact e.symm
        · have := b1 x m
          have := a1 y m2
          omega
    subst e
    refine congrArg _ (asc_uniq a2 b2 fun k => ⟨fun hk => ?_, fun hk => ?_⟩)
    · rcases List.mem_cons.mp ((h k).mp (List.mem_cons_of_mem _ hk)) with e | m
      · have := a1 k hk; omega
      · exact m
    · rcases List.mem_cons.mp ((h k).mpr (List.mem_cons_of_mem _ hk)) with e | m
      · have := b1 k hk; omega
      · exact m
theorem asc_nodup (ns : List Int) : (asc ns).Nodup := (asc_asc ns).imp fun h => Int.ne_of_lt h
theorem nodup_le : ∀ {xs ys : List Int}, xs.Nodup → (∀ x ∈ xs, x ∈ ys) → xs.length ≤ ys.length
  | [], _, _, _ => Nat.zero_le _
  | x :: xs, ys, h, k => by
    obtain ⟨h1, h2⟩ := List.nodup_cons.mp h
    have hx := k x List.mem_cons_self
    have l := List.length_erase_of_mem hx
    have q := nodup_le (ys := ys.erase x) h2 fun y hy => by
      have ne : y ≠ x := fun e => by subst e; exact h1 hy
      exact (List.mem_erase_of_ne ne).mpr (k y (List.mem_cons_of_mem _ hy))
    have p := List.length_pos_of_mem hx
    simp only [List.length_cons]
    omega
theorem asc_le {ns ys : List Int} (h : ∀ x ∈ ns, x ∈ ys) : (asc ns).length ≤ ys.length := nodup_le (asc_nodup ns) fun x hx => h x (asc_mem.mp hx)
theorem setR_card {w : World} {h : Heap} {a : Addr} {ns : List Int} {c : Nat} (R : SetR w h a (fun j => decide (j ∈ ns)) c) : c = (asc ns).length := by
  obtain ⟨o, es, ep, t, _, _, _, _, hn, hm, _, _, hc, _⟩ := R
  have l : (es.toList.map keyOf).length = c := by rw [List.length_map, Array.length_toList]; exact hc
  have k1 : (es.toList.map keyOf).length ≤ (asc ns).length := nodup_le hn fun x hx => asc_mem.mpr (by simpa using (hm x).mpr hx)
  have k2 : (asc ns).length ≤ (es.toList.map keyOf).length := nodup_le (asc_nodup ns) fun x hx => (hm x).mp (by simpa using asc_mem.mp hx)
  omega
def rSetL (X : Cx) : List V → Hp → VK → Prop := fun xs H Q => ∃ (l : Addr) (ns : List Int), xs = [V.ref l] ∧ SqL X.K H l (ns.map V.int) ∧ ns.length < 4000 ∧
  ∀ (p : Addr) (n : Nat), n = (asc ns).length → H p = none → Q (.ref p) (upd H p (SetO X.w p (fun j => decide (j ∈ ns)) n))
theorem ints_of_vals : ∀ {ns : List Int} {us : List Value}, Vals (ns.map V.int) us → IntsAre us ns
  | [], _, .nil => .nil
  | n :: ns, _, .cons r t => by
    obtain ⟨k, rfl⟩ := r
    exact .cons n k (ints_of_vals t)
theorem cr_setL {X : Cx} (hc : X.calm = true) : CallR X (.type "set") (rSetL X) := by
  intro pins s σ H xs us Q I r h
  obtain ⟨l, ns, rfl, hq, hz, q⟩ := h
  rw [Vals.ref1 r]
  obtain ⟨its, rv, pl, _⟩ := I.list hq
  refine call_setL ns (I.ok.hd hc) pl.isList (by simpa using ints_of_vals rv) (by unfold scanBound; omega) fun h' tk c R hcn hk => ?_
  exact ⟨.ref _, upd H s.heap.objs.size (SetO X.w s.heap.objs.size (fun j => decide (j ∈ ns)) c), I.laid (t' := tk) (fun b u e => hk b u e) (Nat.le_refl _) (setO_new R), rfl, q _ c (setR_card R) (I.hok.fresh (Nat.le_refl _))⟩
theorem sort_setA {P : Program} {w : World} {A : Around} {E : Value → Shared → Prop} {s : Shared} {a : Addr} {F : Int → Bool} {n : Nat} {Q : Value → Shared → Prop} (R : SetR w s.heap a F n) (hh : A.handled = none) (hz : n < 4000)
    (hQ : ∀ s' p (out : Array Value) (c : Nat) (ns : List Int), (∀ b o, s.heap.get? b = some o → s'.heap.get? b = some o) → s'.gens = s.gens → s'.os = s.os → s.heap.objs.size ≤ p →
      s'.heap.get? p = some (seqObj "list" out c) → IntsAre out.toList ns → ns.Pairwise (· < ·) → (∀ k, k ∈ ns ↔ F k = true) → ns.length = n → Q (.ref p) s') : wpAny (model P w) A (call (.builtin "sorted") [.ref a]) Q E s := by
  obtain ⟨o, es, ep, t, ho, hex, hd, g, nd, hm, hb, hf, hn, hr, hl⟩ := R
  refine PySem.Calls.call_function_entry kind_sorted plain_sorted entry_sorted (args_sorted1 _) ?_
  unfold Builtin.«sorted»
  refine wpAny_bind (m := checkCount "sorted" 1 1 _) (wpAny_pure (wpAny_bind (collect_set (A := A.in1) hh ⟨o, ho, hex.1, hd⟩ hf hb hr hl fun s1 vs k1 hz1 g1 o1 pm => ?_)))
  have vl : vs.length = n := by rw [pm.length_eq, List.length_map, Array.length_toList]; exact hn
  have is : IntsAre vs (vs.map Builtin.Re.reRawOf) := ints_of vs fun v hv => by
    obtain ⟨e, he, q⟩ := List.mem_map.mp (pm.mem_iff.mp hv)
    obtain ⟨k, tk, h1, _⟩ := g e he
    exact ⟨k, tk, q ▸ h1⟩
  have pk : (vs.map Builtin.Re.reRawOf).Perm (es.toList.map keyOf) := by
    have q := pm.map Builtin.Re.reRawOf
    rwa [List.map_map] at q
  have vz : vs.length ≤ sizeLine := by rw [vl, sizeLine_eq]; omega
  refine wpAny_bind (wpAny_newList ?_ vz)
  have hoL : (s1.heap.push (seqObj "list" vs.toArray 0)).get? s1.heap.objs.size = some (seqObj "list" vs.toArray 0) := Heap.get?_push_size _ rfl
  refine wpAny_bind (wpAny_holding (wpAny_call_entry slot_list_sort ⟨_, hoL, rfl⟩ entry_list_sort (list_sort_treeAny hoL is vz fun out ns' a1 a2 a3 => ⟨_, rfl, ?_⟩) (args_list_sort _)))
  obtain ⟨c, hc⟩ := sortedHeap_at (vs := vs) (out := out) hoL
  have pn : ns'.Perm (es.toList.map keyOf) := a2.trans pk
  refine wpAny_pure ⟨_, rfl, hQ _ s1.heap.objs.size out c ns' (fun b u e => ?_) g1 o1 hz1 hc a1 (L2.lt_of_le_nodup ns' a3 (pn.nodup_iff.mpr nd)) (fun k => by rw [pn.mem_iff, ← hm k]) (by rw [pn.length_eq, List.length_map, Array.length_toList]; exact hn)⟩
  have q := k1 b u e
  have lt := Heap.lt_size q
  show (sortedHeap (s1.heap.push (seqObj "list" vs.toArray 0)) s1.heap.objs.size vs out).get? b = some u
  rw [sortedHeap_old (Nat.ne_of_lt lt) (by rw [size_push']; exact Nat.lt_succ_of_lt lt)]
  exact Heap.get?_push_of_some _ q
def rSortSetA (w : World) : List V → Hp → VK → Prop := fun vs H Q => ∃ (a : Addr) (F : Int → Bool) (n : Nat), vs = [V.ref a] ∧ H a = some (SetO w a F n) ∧ n < 4000 ∧
  ∀ (ns : List Int) (p : Addr), ns.Pairwise (· < ·) → (∀ k : Int, k ∈ ns ↔ F k = true) → ns.length = n → H p = none → Q (.ref p) (upd H p (.lst (ns.map V.int)))
theorem vals_ints : ∀ {us : List Value} {ns : List Int}, IntsAre us ns → Vals (ns.map V.int) us
  | _, _, .nil => .nil
  | _, _, .cons _ t r => .cons ⟨t, rfl⟩ (vals_ints r)
theorem cr_sortSetA {X : Cx} (hc : X.calm = true) : CallR X (.builtin "sorted") (rSortSetA X.w) := by
  intro pins s σ H vs us Q I r h
  obtain ⟨a, F, n, rfl, ha, hz, q⟩ := h
  rw [Vals.ref1 r]
  refine sort_setA (setO_get I ha) (I.ok.hd hc) hz fun s' p out c ns k g o hp hg hi hs hm hl => ?_
  have hn : H p = none := I.hok.fresh hp
  obtain ⟨h', g', d', t', o'⟩ := s'
  have e1 : g' = s.gens := g
  have e2 : o' = s.os := o
  subst e1 e2
  have J : Inv X pins σ (upd H p (.lst (ns.map V.int))) { s with heap := h', gens := s.gens, drawn := d', toks := t' } :=
    I.call (ch := []) (Un.laid k hp hn) (I.hok.laid k hp ⟨by rw [List.length_map, hl, sizeLine_eq]; omega, out.toList, c, vals_ints hi, hg⟩) I.bare (fun _ z => nomatch z)
  exact ⟨.ref p, _, J, rfl, q ns p hs hm hl hn⟩
section
variable {X : Cx} {W : XW X.K} {a : Expr} {m : EM} {p p2 q pos : Pos}
def sortSetG (c : Bool) (x : SV) (S : Store) : Res (SV × Store) := match (rdS S x).bind intsOf with
  | some ns => if ns.length < 4000 ∧ (asc ns).length < 4000 then newL0 c ((asc ns).map fun i => SV.fr (.int i)) S else .stuck
  | none => .stuck
def eSortSet (c : Bool) (m : EM) : EM := fun rho S => (m rho S).bind fun x => sortSetG c x.1 x.2
theorem ints_den {K : PySem.W.Frag} {ph : List Addr} {H : Hp} : ∀ ns : List Int, DenSs K ph H (ns.map V.int) (ns.map fun i => SV.fr (.int i))
  | [] => .nil
  | i :: ns => .cons (Den.int i) (ints_den ns)
theorem pd_sortSet (c : Bool) (hm : X.mg "sorted" = none) (hm2 : X.mg "set" = none) (ha : PD X W a m) (hc : X.calm = true := by rfl) (hg : Gl X "sorted" := by rfl) (hg2 : Gl X "set" := by rfl)
    (he : starEach [a] X.env = (false, eval a X.env) :: starEach [] X.env := by rfl) (hpl : (backTo q (starEach [] X.env)).any (·.1) = false := by rfl)
    (he2 : starEach [Expr.Call (.Name "set" p2) [a] [] q] X.env = (false, eval (Expr.Call (.Name "set" p2) [a] [] q) X.env) :: starEach [] X.env := by rfl) (hpl2 : (backTo pos (starEach [] X.env)).any (·.1) = false := by rfl) :
    PD X W (.Call (.Name "sorted" p) [.Call (.Name "set" p2) [a] [] q] [] pos) (eSortSet c m) := by
  obtain ⟨ta, pa, sa⟩ := ha.ex
  refine ⟨_, pe_callB (cr_sortSetA hc) hg hm PyProof.Rows.boot_sorted (pa_cons (pe_callTy (cr_setL hc) hg2 hm2 PyProof.Rows.boot_set (pa_cons pa pa_nil he) (by decide) (by decide) he hpl) pa_nil he2) (by decide) (by decide) he2 hpl2, fun ph S H sg rho Q g so h => ?_⟩
  refine sa ph S H sg rho _ g so (holds_imp (holds_bind h) (fun x hx => ?_) fun _ _ _ q => q)
  intro ph1 v1 H1 x1 g1 d1
  unfold sortSetG at hx
  split at hx
  · rename_i ns hns
    split at hx
    · rename_i hz
      obtain ⟨ys, hy, hn⟩ := Option.bind_eq_some_iff.mp hns
      obtain ⟨l, vs, rfl, s, r⟩ := rdS_ok g1 d1 hy
      rw [intsOf_ok r hn] at s
      refine ⟨l, ns, rfl, s, hz.1, fun p1 n hnn hp => ?_⟩
      have g2 : Good X.K ph1 (upd H1 p1 (SetO X.w p1 (fun j => decide (j ∈ ns)) n)) _ := g1.fresh hp
      refine ⟨p1, _, n, rfl, upd_same, by have := hz.2; omega, fun out p3 h1 h2 h3 h4 => ?_⟩
      have e : out = asc ns := asc_uniq h1 (asc_asc ns) fun k => by rw [h2 k, asc_mem, decide_eq_true_iff]
      subst e
      exact newL0_ok g2 (ints_den (asc ns)) (holds_imp hx (fun c => post.mono (x1.trans (Ext.fresh hp)) c) fun _ _ _ q => q) p3 h4
    · exact hx.elim
  · exact hx.elim
end
theorem pd_cint {X : Cx} {W : XW X.K} {pos : Pos} {x : Str} {i : Int} (hm : ∃ t, X.mg x = some (.int i t)) (hg : Gl X x := by rfl) (hdb : (x == ("__debug__" : Str)) = false := by decide) : PD X W (.Name x pos) (eC (.int i)) := by
  obtain ⟨t, hm⟩ := hm
  exact pd_const (pe_glob hg hm (v := .int i) ⟨t, rfl⟩ hdb) fun _ => .int i
theorem cint_of {K : PySem.W.Frag} {mg : Str → Option Value} {h : Heap} {x : Str} {i : Int} (X : K.In h) (G : h.Ns mainGlobals mg) (c : fcInt x i K = true) : ∃ t, mg x = some (.int i t) := He.int_ok X G c
end DL

namespace DL
open PySem PySem.Spec PyProof.Rows L2

section
variable {X : Cx} {W : XW X.K} {pos : Pos}
def gUl (n : Nat) (m : GMs) : GM := fun x rho S => match rdS S x with
  | some xs => if xs.length = n then m xs rho S else .stuck
  | none => .stuck
def sPar3 (i j l : Nat) (m : AM) : SM := fun rho S => (m rho S).bind fun x => match x.1 with
  | [u, v, w] => .ok (.nx, ((rho.set i (some u)).set j (some v)).set l (some w), x.2)
  | _ => .stuck
end
end DL

namespace DL
open PySem PySem.Spec PyProof.Rows L2

section
variable {X : Cx} {W : XW X.K} {e : Expr} {es : List Expr} {m : AM} {t : TA} {pos p apos : Pos} {nm n : Str} {k : Nat} {f : FnM}
def eCmA (cc : Bool) (n : Str) (f : FnM) (m : AM) : EM := fun rho S => (m rho S).bind fun y => (noX (f (.fr (.cls n) :: y.1) y.2)).bind (back cc)
end
section
variable {X : Cx} {W : XW X.K} {a : Expr} {m : EM} {k : Nat} {p1 p2 p3 pos : Pos}
def revG (c : Bool) (x : SV) (S : Store) : Res (SV × Store) := match rdS S x with
  | some xs => newL0 c xs.reverse S
  | none => .stuck
def eRev (c : Bool) (m : EM) : EM := fun rho S => (m rho S).bind fun x => revG c x.1 x.2
end
end DL

namespace DL
open PySem PySem.Spec PyProof.Rows L2
def isBG (n : Bool) : G2 := fun a b S => match a, b with
  | .fr (.bl x), .fr (.bl y) => okV (.bl (if n then !decide (x = y) else decide (x = y))) S
  | _, _ => .stuck
section
variable {X : Cx} {W : XW X.K}
variable {a b : Expr} {ma mb : EM} {pos : Pos}
end
theorem r_isB (n x y : Bool) (S : Store) : isBG n (.fr (.bl x)) (.fr (.bl y)) S = .ok (.fr (.bl (if n then !decide (x = y) else decide (x = y))), S) := id rfl
end DL

namespace DL
open PySem PySem.Spec PyProof.Rows L2
section
variable {P : Program} {w : World} {K : PySem.W.Frag} {mg : Str → Option Value} {base : Heap}
end
def fillN (f : FnM) : FnM := fun as S => f (as ++ [.fr .non]) S
def k_cw1 (n : Nat) (f : FnM) (cc : Bool) (xs : List SV) (y : List SV × Store) : Res (SV × Store) := if xs.length = n ∧ y.1.length = 1 then (noX (f (xs ++ y.1) y.2)).bind (back cc) else .stuck
def k_cw (n : Nat) (f : FnM) (cc : Bool) (mk : AM) (rho : Slots) (x : List SV × Store) : Res (SV × Store) := (mk rho x.2).bind (k_cw1 n f cc x.1)
def eCallW (n : Nat) (f : FnM) (cc : Bool) (m mk : AM) : EM := fun rho S => (m rho S).bind (k_cw n f cc mk rho)
theorem r_cw (n : Nat) (f : FnM) (cc : Bool) (m mk : AM) (rho : Slots) (S : Store) : eCallW n f cc m mk rho S = (m rho S).bind (k_cw n f cc mk rho) := id rfl
theorem s_cw (n : Nat) (f : FnM) (cc : Bool) (mk : AM) (rho : Slots) (xs : List SV) (S : Store) : k_cw n f cc mk rho (xs, S) = (mk rho S).bind (k_cw1 n f cc xs) := id rfl
theorem s_cw1 {n : Nat} {xs : List SV} (h : xs.length = n) (f : FnM) (cc : Bool) (y : SV) (S : Store) : k_cw1 n f cc xs ([y], S) = (noX (f (xs ++ [y]) S)).bind (back cc) := if_pos ⟨h, rfl⟩
theorem r_fill (f : FnM) (as : List SV) (S : Store) : fillN f as S = f (as ++ [.fr .non]) S := id rfl
section
variable {X : Cx} {W : XW X.K} {x : Str} {p pos : Pos} {e : Expr} {es : List Expr} {m : AM}
end
section
variable {K : PySem.W.Frag} {x qual key : Str} {params : Arguments} {body : List Stmt} {scope : Scope} {f : Addr} {fd : FuncData} {ps : List Str}
end
end DL

namespace DL
open PySem PySem.Spec PyProof.Rows L2
section
variable {X : Cx} {W : XW X.K}
end
end DL

namespace DLN
open PySem PySem.W PySem.Calls PyProof.Rows
section
variable {prog : Program} {w : World} {A : Around} {E : Value → Shared → Prop} {s : Shared} {K : Frag} {x C L f : Addr} {h₀ : Heap} {m : Str → Option Value} {ox : Obj} {od : Option Obj} {name : Str} {b tb : Value}
end
end DLN
namespace DL
open PySem PySem.Spec PyProof.Rows L2
section
variable {X : Cx} {W : XW X.K} {pins : List (Addr × Obj)} {s : Shared} {σ : L2.St} {H : Hp} {k : Nat} {tbl : Tbl} {ns : List Str} {a b : Expr} {ma mb : EM} {pos : Pos}
end
end DL

namespace DL
open PySem PySem.Spec PyProof.Rows L2
def frzD (S : Store) (n : Nat) : Nat → SV → Option D
  | _, .fr d => some d
  | 0, .cell _ => none
  | f + 1, .cell j => if n ≤ j then (match S[j]? with
    | some (.lst ys) => (allSn (frzD S n f) ys).map D.lst
    | some (.tup ys) => (allSn (frzD S n f) ys).map D.tup
    | _ => none) else none
section
variable {K : PySem.W.Frag} {ph : List Addr} {H : Hp} {S : Store} {n : Nat}
theorem take_not {l : List Addr} (hn : l.Nodup) {j : Nat} {a : Addr} (h : l[j]? = some a) (hj : n ≤ j) : a ∉ l.take n := fun m => by
  obtain ⟨i, hi⟩ := List.getElem?_of_mem m
  rw [List.getElem?_take] at hi
  split at hi
  · have := nodup_at hn h hi
    omega
  · cases hi
theorem frzD_ok (g : Good K ph H S) : ∀ (f : Nat) {v : V} {x : SV} {d : D}, DenS K ph H v x → frzD S n f x = some d → Den K (hide (ph.take n) H) v d := by
  intro f
  induction f with
  | zero =>
    intro v x d h e
    cases x with
    | fr d' =>
      simp only [frzD, Option.some.injEq] at e
      subst e
      exact Den.mono (sub_hide fun a m => List.mem_of_mem_take m) h
    | cell j => simp [frzD] at e
  | succ f ih =>
    intro v x d h e
    have all : ∀ {ys : List SV} {vs : List V} {ds : List D}, DenSs K ph H vs ys → allSn (frzD S n f) ys = some ds → Dens K (hide (ph.take n) H) vs ds := by
      intro ys
      induction ys with
      | nil =>
        intro vs ds h e
        cases h
        simp only [allSn, Option.some.injEq] at e
        subst e
        exact .nil
      | cons y ys ihy =>
        intro vs ds h e
        cases h with
        | cons h1 h2 =>
          unfold allSn at e
          split at e
          · rename_i d es h3 h4
            cases e
            exact .cons (ih h1 h3) (ihy h2 h4)
          · cases e
    cases x with
    | fr d' =>
      simp only [frzD, Option.some.injEq] at e
      subst e
      exact Den.mono (sub_hide fun a m => List.mem_of_mem_take m) h
    | cell j =>
      obtain ⟨p, hp, rfl⟩ := h
      unfold frzD at e
      split at e
      · rename_i hj
        have hm := take_not g.nd hp hj
        split at e
        · rename_i ys hys
          simp only [Option.map_eq_some_iff] at e
          obtain ⟨ds, hd, rfl⟩ := e
          obtain ⟨vs, h4, h5⟩ := paired_at g.cells hp hys
          exact .lst (hide_of hm h4) (all h5 hd)
        · rename_i ys hys
          simp only [Option.map_eq_some_iff] at e
          obtain ⟨ds, hd, rfl⟩ := e
          obtain ⟨vs, h4, h5⟩ := paired_at g.cells hp hys
          exact Den.tup (vs := vs) (hide_of hm h4) (all h5 hd)
        · cases e
      · cases e
def frzSl (S : Store) (n : Nat) : Option SV → Option SV
  | some (.fr d) => some (.fr d)
  | some (.cell j) => if j < n then some (.cell j) else (frzD S n 4 (.cell j)).map SV.fr
  | none => none
end
def frzM (N : Nat) (n : SM) : SM := fun rho S => if (S.take N).all (Cell.below N) then n (rho.map (frzSl S N)) (S.take N) else .stuck
def sFz (m : Nat → SM) : SM := fun rho S => m S.length rho S
theorem r_fz (m : Nat → SM) (rho : Slots) (S : Store) : sFz m rho S = m S.length rho S := id rfl
theorem s_frzM {n : SM} {S S' : Store} (h : S.all (Cell.below S.length) = true) (hs : S'.take S.length = S) (rho : Slots) : frzM S.length n rho S' = n (rho.map (frzSl S' S.length)) S := by
  unfold frzM
  rw [hs, if_pos h]
section
variable {X : Cx} {W : XW X.K}
structure PSDz (X : Cx) (W : XW X.K) (st : List Stmt) (m : Nat → SM) : Prop where
  ex : ∃ t, PSs X st t ∧ ∀ (ph0 : List Addr) (S0 : Store) (H0 : Hp) (ph : List Addr) (S : Store) (H : Hp) (sg : L2.St) (rho : Slots) (Dn : L2.Ends), Good X.K ph0 H0 S0 → Ext ph0 H0 ph H → Good X.K ph H S → SlotsOk X.K ph H sg rho →
    holds (m S0.length rho S) (postS X.K ph0 H0 Dn) (W.rel ph0 H0) → t Dn sg H
theorem psz_c {st : Stmt} {rest : List Stmt} {m : SM} {n : Nat → SM} (h1 : PSD X W st m) (h2 : PSDz X W rest n) : PSDz X W (st :: rest) (fun N => sSeq m (n N)) := by
  obtain ⟨t, p, s⟩ := h1.ex
  obtain ⟨t2, p2, s2⟩ := h2.ex
  refine ⟨_, pss_cons p p2, fun ph0 S0 H0 ph S H sg rho Dn g0 x0 g so h => s ph S H sg rho _ g so (holds_imp (holds_bind h) (fun r hr => ?_) fun e r s q => W.mono _ _ _ _ e r s x0 q)⟩
  intro ph1 sg1 H1 x1 g1 so1
  obtain ⟨fl, rho1, S1⟩ := r
  cases fl with
  | nx => exact s2 ph0 S0 H0 ph1 S1 H1 sg1 rho1 Dn g0 (x0.trans x1) g1 so1 hr
  | bk => exact hr ph1 sg1 H1 (x0.trans x1) g1 so1
  | ct => exact hr ph1 sg1 H1 (x0.trans x1) g1 so1
  | rt x => exact hr ph1 sg1 H1 (x0.trans x1) g1 so1
theorem psz_f {rest : List Stmt} {n : SM} (h : PSDs X W rest n) : PSDz X W rest (fun N => frzM N n) := by
  obtain ⟨t, p, s⟩ := h.ex
  refine ⟨t, p, fun ph0 S0 H0 ph S H sg rho Dn g0 x0 g so h => ?_⟩
  unfold frzM at h
  split at h
  · rename_i hb
    have g2 := g0.cut x0 g hb
    obtain ⟨ps, e, hps⟩ := x0.pre
    have hl := g0.len
    have ht : ph.take S0.length = ph0 := by rw [e, List.take_left' hl]
    refine s ph0 (S.take S0.length) H sg _ Dn g2 ⟨by rw [List.length_map]; exact so.1, fun i x q => ?_⟩ (holds_imp h (fun c => postS.mono x0.back c) fun e r s q => W.mono _ _ _ _ e r s x0.back q)
    rw [List.getElem?_map] at q
    cases hr : rho[i]? with
    | none => rw [hr] at q; cases q
    | some o =>
      rw [hr] at q
      have q : frzSl S S0.length o = some x := by simpa using q
      cases o with
      | none => cases q
      | some y =>
        obtain ⟨v, h1, h2⟩ := so.2 i y hr
        refine ⟨v, h1, ?_⟩
        cases y with
        | fr d =>
          cases q
          show Den X.K (hide ph0 H) v d
          rw [← ht]
          exact Den.mono (sub_hide fun a m => List.mem_of_mem_take m) h2
        | cell j =>
          have q : (if j < S0.length then some (SV.cell j) else (frzD S S0.length 4 (.cell j)).map SV.fr) = some x := q
          by_cases hj : j < S0.length
          · rw [if_pos hj] at q
            cases q
            obtain ⟨a, ha, hv⟩ := h2
            refine ⟨a, ?_, hv⟩
            rw [e, List.getElem?_append_left (by rw [hl]; exact hj)] at ha
            exact ha
          · rw [if_neg hj] at q
            obtain ⟨d, hd, rfl⟩ := Option.map_eq_some_iff.mp q
            have := frzD_ok (n := S0.length) g 4 h2 hd
            rw [ht] at this
            exact this
  · exact h.elim
theorem pss_z {st : List Stmt} {m : Nat → SM} (h : PSDz X W st m) : PSDs X W st (sFz m) := by
  obtain ⟨t, p, s⟩ := h.ex
  exact ⟨t, p, fun ph S H sg rho Dn g so h => s ph S H ph S H sg rho Dn g (Ext.refl _ _) g so h⟩
end
end DL

namespace DL
open PySem PySem.Spec PyProof.Rows L2
section
variable {X : Cx} {W : XW X.K} {a b : Expr} {ma mb : EM} {pos p p2 pos2 : Pos}
end
end DL

namespace DL
open PySem PySem.Spec PyProof.Rows L2

section
variable {κ : Type} [DecidableEq κ] {α : Type}
def lookK (kvs : List (κ × α)) (k : κ) : Option α := (kvs.find? fun kv => decide (kv.1 = k)).map (·.2)
def setK (kvs : List (κ × α)) (k : κ) (v : α) : List (κ × α) :=
  if (kvs.any fun kv => decide (kv.1 = k)) = true then kvs.map (fun kv => if kv.1 = k then (kv.1, v) else kv) else kvs ++ [(k, v)]
end
def keyOf : D → Option Key
  | .int i => some (.inl i)
  | .str x => some (.inr x)
  | _ => none
section
variable {X : Cx} {W : XW X.K} {a b c : Expr} {ma mb mc : EM} {pos : Pos}
end
end DL

namespace DL
open PySem PySem.Spec PyProof.Rows L2

mutual
def isX : D → Bool
  | .non | .bl _ | .int _ | .str _ => true
  | .tup ds => isXs ds
  | .lst ds => isXs ds
  | .scr ds => isXs ds
  | .dct kvs => isXk kvs
  | .ty _ | .ref _ | .ins _ _ | .cls _ | .exn _ _ _ _ => false
def isXs : List D → Bool
  | [] => true
  | d :: ds => isX d && isXs ds
def isXk : List (Key × D) → Bool
  | [] => true
  | (_, d) :: r => isX d && isXk r
end
mutual
inductive RD (h : Heap) : Value → PyData → Prop
  | none : RD h .none .none
  | bool (b) : RD h (.bool b) (.bool b)
  | int (i t) : RD h (.int i t) (.int i)
  | str (x t) : RD h (.str x t) (.str x)
  | list {a o vs n xs} : h.get? a = some o → o.cls = .type "list" → o.data = .seq vs n → RDs h vs.toList xs → RD h (.ref a) (.list xs)
  | tuple {a o vs n xs} : h.get? a = some o → o.cls = .type "tuple" → o.data = .seq vs n → RDs h vs.toList xs → RD h (.ref a) (.tuple xs)
  | dict {a o es n kvs} : h.get? a = some o → o.cls = .type "dict" → o.data = .dict es n → (a == sysModules) = false → RDs h (es.toList.map (·.key)) (kvs.map (·.1)) → RDs h (es.toList.map (·.val)) (kvs.map (·.2)) → RD h (.ref a) (.dict kvs)
inductive RDs (h : Heap) : List Value → List PyData → Prop
  | nil : RDs h [] []
  | cons {v vs d ds} : RD h v d → RDs h vs ds → RDs h (v :: vs) (d :: ds)
end
section
variable {h : Heap}
mutual
theorem RD.reads : ∀ {v : Value} {d : PyData}, RD h v d → ∃ as, Reads h v d as
  | _, _, .none => ⟨_, .none⟩
  | _, _, .bool b => ⟨_, .bool b⟩
  | _, _, .int i t => ⟨_, .int i t⟩
  | _, _, .str x t => ⟨_, .str x t⟩
  | _, _, .list h1 h2 h3 h4 => let ⟨_, r⟩ := h4.reads; ⟨_, .list h1 h2 h3 r⟩
  | _, _, .tuple h1 h2 h3 h4 => let ⟨_, r⟩ := h4.reads; ⟨_, .tuple h1 h2 h3 r⟩
  | _, _, .dict h1 h2 h3 _ h5 h6 => let ⟨_, r1⟩ := h5.reads; let ⟨_, r2⟩ := h6.reads; ⟨_, .dict h1 h2 h3 r1 r2⟩
theorem RDs.reads : ∀ {v : List Value} {d : List PyData}, RDs h v d → ∃ as, ReadsAll h v d as
  | _, _, .nil => ⟨_, .nil⟩
  | _, _, .cons a r => let ⟨_, x⟩ := a.reads; let ⟨_, y⟩ := r.reads; ⟨_, .cons x y⟩
end
end
section
variable {X : Cx} {pins : List (Addr × Obj)} {σ : L2.St} {H : Hp} {s : Shared}
end
section
variable {prog : Program} {w : World} {h₀ : Heap}
end
section
variable {X : Cx} {W : XW X.K}
end
end DL

namespace DL
open PySem PySem.Spec PyProof.Rows L2
def isbO (ms : List Str) : GA := fun as S => match as with
  | [x, .fr (.ty b)] => match insOf S x with
    | some (m, _) => if m ∈ ms ∧ b ∈ five then okV (.bl false) S else .stuck
    | none => .stuck
  | _ => .stuck
def isbG (ms : List Str) : GA := fun as S => match isiG as S with
  | .stuck => isbO ms as S
  | r => r
end DL

namespace DL
open PySem PySem.Spec PyProof.Rows L2
def cutX (n : Nat) (rho : Slots) (r : Res (RV × Store)) : Res (RV × Store) := match r with
  | .exc e _ S' => if (S'.take n).all (Cell.below n) = true then .exc e rho (S'.take n) else .stuck
  | x => x
def eCallX (f : FnM) (c : Bool) (m : AM) : EM := fun rho S => (m rho S).bind fun x => (cutX x.2.length rho (f x.1 x.2)).bind (back c)
section
variable {X : Cx} {Wq : WX} {e : Expr} {es : List Expr} {pos p : Pos} {m : AM}
end
def tOfS (K : PySem.W.Frag) (W : XW K) (m : SM) : TS := fun D sg H => ∃ ph S rho, Good K ph H S ∧ SlotsOk K ph H sg rho ∧ holds (m rho S) (postS K ph H D) (W.rel ph H)
theorem PSDs.pss {X : Cx} {W : XW X.K} {st : List Stmt} {m : SM} (h : PSDs X W st m) : PSs X st (tOfS X.K W m) := by
  obtain ⟨t, p, s⟩ := h.ex
  exact ⟨fun pins s' sg H D I ⟨ph, S, rho, g, so, q⟩ => p.run pins s' sg H D I (s ph S H sg rho D g so q)⟩
abbrev SX := Addr → Option Addr → Exc → SM
theorem SlotsOk.wipe {K : PySem.W.Frag} {ph : List Addr} {H : Hp} {sg : L2.St} {rho : Slots} (h : SlotsOk K ph H sg rho) (i : Nat) : SlotsOk K ph H (sg.set i none) (rho.set i none) := by
  refine ⟨by simpa using h.1, fun j x q => ?_⟩
  by_cases e : i = j
  · subst e
    rw [List.getElem?_set] at q
    split at q
    · split at q <;> cases q
    · exact absurd rfl ‹_›
  · rw [List.getElem?_set_ne e] at q ⊢
    exact h.2 j x q
section
variable {X : Cx} {Wq : WX} {pos pos' np : Pos} {x n : Str} {c : Value} {i : Nat} {body suite : List Stmt} {b0 : Stmt} {mb : SM} {ms : SX} {tb : IsT}
end
abbrev IseT := List (Str × IsT × TyT)
end DL

namespace DL
open PySem PySem.Spec PyProof.Rows L2
section
variable {X : Cx} {e : Expr} {es : List Expr} {ta : TA} {x : Str} {L : Addr} {p1 p2 pos : Pos}
end
section
variable {X : Cx} {pos : Pos}
end
end DL

namespace DL
open PySem PySem.Spec PyProof.Rows L2
abbrev KnM := List SV → Store → Res (SV × Store)
def spK (K : PySem.W.Frag) (m : KnM) : Sp := fun vs H Q E => ∃ ph S as, Good K ph H S ∧ DenSs K ph H vs as ∧ holds (m as S) (post K ph H Q) (postX K ph H E)
structure FnDK (P : Program) (w : World) (K : PySem.W.Frag) (mg : Str → Option Value) (base : Heap) (k : Nat) (f : Addr) (fd : FuncData) (ps : List Str) (m : KnM) : Prop where
  len : ∀ vs H Q E, spK K m vs H Q E → vs.length = ps.length
  run : ∀ (A : Around) (outer : List Env) (s : Shared) (H : Hp) (args : Args) (us : List Value) (vs : List V) (Q : VK) (E : XK), A.guards = some [] → Room k A → Env0 P w K mg base A outer s H →
    BindsTo s fd args (ps.zip us) → Vals vs us → spK K m vs H Q E → codeAny (model P w) A (.call (.ref f) args) (CR (L2.CX P w) outer P w H s Q E) s
section
variable {P : Program} {w : World} {K : PySem.W.Frag} {mg : Str → Option Value} {base : Heap}
end
def eCallK (f : KnM) (m : AM) : EM := fun rho S => (m rho S).bind fun x => match f x.1 x.2 with
  | .exc _ _ _ => .stuck
  | r => r
section
variable {X : Cx} {W : XW X.K} {Wq : WX} {e : Expr} {es : List Expr} {pos p : Pos} {m : AM}
end
end DL

namespace DL
open PySem PySem.Spec PyProof.Rows L2
section
variable {X : Cx} {W : XW X.K} {a b c : Expr} {ma mb mc : EM} {pos : Pos}
end
end DL

namespace DL
open PySem PySem.Spec PyProof.Rows L2
section
variable {X : Cx} {W : XW X.K} {a b c : Expr} {ma mb mc : EM} {pos : Pos}
end
end DL

namespace DL
open PySem PySem.Spec PyProof.Rows L2
section
variable {X : Cx} {W : XW X.K} {a b c : Expr} {ma mb mc : EM} {pos : Pos}
end
end DL

namespace HT
open PySem PySem.Spec PyProof.Rows
section
variable {prog : Program} {w : World} {A : Around} {E : Value → Shared → Prop} {s : Shared}
end
end HT
namespace DL
open PySem PySem.Spec PyProof.Rows L2
section
variable {X : Cx}
end
section
variable {X : Cx} {W : XW X.K} {a : Expr} {m : EM} {k : Nat} {p1 p2 p3 pos : Pos}
end
end DL

namespace DL
open PySem PySem.Spec PyProof.Rows L2
section
variable {X : Cx} {W : XW X.K} {a : Expr} {m : EM}
end
end DL

namespace DL
open PySem PySem.Spec PyProof.Rows L2
section
variable {X : Cx} {W : XW X.K} {a b c tg : Expr} {ma mb mc : EM} {pos : Pos}
def CPowW (i j : Int) : Prop := 0 ≤ j ∧ (Builtin.Int.intBits i : Int) * j ≤ 2 ^ 27
instance decCPowW (i j : Int) : Decidable (CPowW i j) := by unfold CPowW; infer_instance
end
section
variable {X : Cx} {W : XW X.K} {pos p : Pos}
end
end DL

namespace DL
open PySem PySem.Spec PyProof.Rows L2

section
variable {X : Cx} {pins : List (Addr × Obj)} {σ : L2.St} {H : Hp} {s : Shared} {d : Addr} {o : Obj}
end
section
variable {P : Program} {w : World} {K : PySem.W.Frag} {d : Addr} {o : Obj} {es : Array DictEntry} {ep : Nat}
end
section
variable {X : Cx} {tg e : Expr} {td : TE} {apos cpos : Pos}
end

end DL

namespace DL
open PySem PySem.Spec PyProof.Rows L2

def keyD : Key → D
  | .inl i => .int i
  | .inr x => .str x
def keyL : List D → Option (List Key)
  | [] => some []
  | d :: ds => match keyOf d, keyL ds with
    | some k, some ks => some (k :: ks)
    | _, _ => none
def keyT : SV → Option (List Key)
  | .fr (.tup ds) => keyL ds
  | _ => none
def tupK (k : List Key) : D := .tup (k.map keyD)
def SV.isCell : SV → Bool
  | .cell _ => true
  | _ => false
def ktC : Cell → Bool
  | .tup xs => xs.any SV.isCell
  | _ => true
def ktOk (S : Store) : Bool := S.all ktC
def rdTD (S : Store) : SV → Option (List (List Key × SV))
  | .cell k => match S[k]? with
    | some (.dit kvs) => some kvs
    | some (.dil kvs) => some kvs
    | _ => none
  | _ => none
section
variable {X : Cx} {W : XW X.K} {a b c : Expr} {ma mb mc : EM} {pos : Pos}
def eDNT : EM := fun _ S => .ok (.cell S.length, S ++ [.dit []])
def putTD (o i x : SV) (S : Store) : Res Store := match o, keyT i with
  | .cell j, some k => match S[j]? with
    | some (.dit kvs) => if kvs.length < sizeLine then .ok (S.set j (.dit (setK kvs k x))) else .stuck
    | _ => .stuck
  | _, _ => .stuck
def gPtT (mo mi : EM) : GM := fun x rho S => (mo rho S).bind fun o => (mi rho o.2).bind fun i => (putTD o.1 i.1 x i.2).bind fun S' => .ok (rho, S')
def getTG (o k z : SV) (S : Store) : Res (SV × Store) := match rdTD S o, keyT k with
  | some kvs, some key => .ok ((lookK kvs key).getD z, S)
  | _, _ => .stuck
def eGetT (mo mk mx : EM) : EM := fun rho S => (mo rho S).bind fun o => if (rdTD o.2 o.1).isSome then (mk rho o.2).bind fun k => (mx rho k.2).bind fun z => getTG o.1 k.1 z.1 z.2 else .stuck
def eMtT (g : GMt) (o : EM) (m : AM) : EM := fun rho S => (o rho S).bind fun x => match x.1 with
  | .cell j => match x.2[j]? with
    | some (.dit _) => (m rho x.2).bind fun y => g x.1 y.1 y.2
    | _ => .stuck
  | _ => .stuck
def itemsT : List (List Key × SV) → Option (List SV)
  | [] => some []
  | (k, .fr d) :: r => (itemsT r).map (SV.fr (.tup [tupK k, d]) :: ·)
  | (_, .cell _) :: _ => none
def lkd (S : Store) : SV → Option (List (List Key × SV))
  | .cell k => match S[k]? with
    | some (.dil kvs) => some kvs
    | _ => none
  | _ => none
def ktP : Store → Prop := fun S => ktOk S = true
def iItT (m : EM) : IM := fun rho S => (m rho S).bind fun x => match lkd x.2 x.1 with
  | some kvs => match itemsT kvs with
    | some xs => .ok (⟨xs, ktP⟩, x.2)
    | none => .stuck
  | none => .stuck
def iKyT (m : EM) : IM := fun rho S => (m rho S).bind fun x => match lkd x.2 x.1 with
  | some kvs => .ok (⟨kvs.map fun p => .fr (tupK p.1), ktP⟩, x.2)
  | none => .stuck
inductive Pth where
  | v (i : Nat) | f (i : Nat) (n : Str)
def Pth.at : Pth → Slots → Store → Option Nat
  | .v i, rho, _ => match rho[i]? with
    | some (some (.cell k)) => some k
    | _ => none
  | .f i n, rho, S => match rho[i]? with
    | some (some x) => match insOf S x with
      | some (_, fs) => match fs.lookup n with
        | some (.cell k) => some k
        | _ => none
      | none => none
    | _ => none
theorem SlotsOk.writ {K : PySem.W.Frag} {ph : List Addr} {H : Hp} {sg : L2.St} {rho : Slots} {p : Addr} {o : HO} (hm : p ∈ ph) (h : SlotsOk K ph H sg rho) : SlotsOk K ph (upd H p o) sg rho :=
  ⟨h.1, fun i x q => let ⟨v, a, b⟩ := h.2 i x q; ⟨v, a, b.writ hm⟩⟩
def tOwn (tbl : Tbl) (m : EM) : TM := fun rho S => (m rho S).bind fun x => match insOf x.2 x.1 with
  | some (n, _) => match tbl.lookup n with
    | some f => (noX (f [x.1] x.2)).bind fun r => match r.1 with
      | .val (.fr (.bl b)) => .ok (b, r.2)
      | _ => .stuck
    | none => .stuck
  | none => .stuck
end

structure FunAtK (P : Program) (w : World) (K : PySem.W.Frag) (mg : Str → Option Value) (base : Heap) (k : Nat) (f : Addr) (m : KnM) : Prop where
  ex : ∃ fd ps, PySem.W.keepIn K (.ref f) = true ∧ PySem.W.isFn K (.ref f) = true ∧ Binds K fd ps [] ∧ FnDK P w K mg base k f fd ps m
section
variable {P : Program} {w : World} {K : PySem.W.Frag} {mg : Str → Option Value} {base : Heap}
end
def noXK (r : Res (SV × Store)) : Res (SV × Store) := match r with
  | .exc _ _ _ => .stuck
  | x => x
def mkEndK (k : Nat) (r : SV × Store) : Res (SV × Store) := match r.1 with
  | .fr .non => .ok (.cell k, r.2)
  | _ => .stuck
def eMakeK0 (n : Str) (f : KnM) : EM := fun _ S => (noXK (f [.cell S.length] (S ++ [.ins n []]))).bind (mkEndK S.length)
section
variable {X : Cx} {W : XW X.K} {pos p : Pos} {n : Str} {k : Nat} {f : KnM}
end
end DL

namespace DL
open PySem PySem.Spec PyProof.Rows L2 PySem.W

section
variable {prog : Program} {w : World} {A : Around} {s : Shared}
end
end DL

namespace DL
open PySem PySem.Spec PyProof.Rows L2 LamX

section
variable {X : Cx} {pins : List (Addr × Obj)} {σ : L2.St} {H : Hp} {s : Shared}
end
section
variable {prog : Program} {w : World} {A : Around} {E : Value → Shared → Prop} {s : Shared}
def KeyN (hb : Heap) (ps : List PyData) (s₁ : Shared) (v : Value) (s₂ : Shared) : Prop := ∃ h' tk a o vs n, s₂ = { s₁ with heap := h', toks := tk } ∧ (∀ b o, s₁.heap.get? b = some o → h'.get? b = some o) ∧ v = .ref a ∧ s₁.heap.objs.size ≤ a ∧ h'.get? a = some o ∧ o.cls = .type "tuple" ∧ o.data = .seq vs n ∧ ReadsAll hb vs.toList ps []
theorem KeyN.pure {hb : Heap} {ps : List PyData} {s₁ s₂ : Shared} {v : Value} (k : KeyN hb ps s₁ v s₂) (h : ∀ b o, hb.get? b = some o → s₁.heap.get? b = some o) : PySem.W.KeyPure (.tuple ps) s₁ v s₂ := by
  obtain ⟨h', tk, a, o, vs, n, rfl, k1, rfl, k2, k3, k4, k5, k6⟩ := k
  exact ⟨h', tk, rfl, k1, .tuple k3 k4 k5 (ReadsAll.keeps (fun b o e => k1 b o (h b o e)) k6)⟩
end
def minP {α : Type} (kd : α → PyData) (x : α) (xs : List α) : α := xs.foldl (fun a y => if PySem.W.dataLt (kd y) (kd a) then y else a) x
end DL

namespace DL
open PySem PySem.Spec PyProof.Rows L2 LamX

section
variable {P : Program} {w : World} {K : PySem.W.Frag} {mg : Str → Option Value} {base : Heap}
end
abbrev KG := D → Option (List PyData)
def keysG (kG : KG) : List D → Option (List (D × List PyData))
  | [] => some []
  | d :: ds => match kG d, keysG kG ds with
    | some k, some r => some ((d, k) :: r)
    | _, _ => none
def kd {α : Type} (p : α × List PyData) : PyData := .tuple p.2
def ksOk (ps : List (D × List PyData)) : Bool := ps.all fun p => decide ((kd p).depth ≤ 20) && !p.2.isEmpty && ps.all fun q => PySem.W.alike (kd p) (kd q)
def sortK (ps : List (D × List PyData)) : List D := (ps.mergeSort (PySem.W.dataLe false kd)).map (·.1)
def sortLG (kG : KG) (c : Bool) (a : SV) (S : Store) : Res (SV × Store) := match rdS S a with
  | some xs => match allFr xs with
    | some ds => match keysG kG ds with
      | some ps => if ksOk ps = true then newL0 c ((sortK ps).map SV.fr) S else .stuck
      | none => .stuck
    | none => .stuck
  | none => .stuck
def minLG (kG : KG) (a : SV) (S : Store) : Res (SV × Store) := match rdS S a with
  | some xs => match allFr xs with
    | some ds => match keysG kG ds with
      | some (p :: ps) => if ksOk (p :: ps) = true then okV (minP kd p ps).1 S else .stuck
      | _ => .stuck
    | none => .stuck
  | none => .stuck
section
variable {X : Cx} {W : XW X.K} {a : Expr} {ma : EM} {pos : Pos}
def eSortL (kG : KG) (c : Bool) (m : EM) : EM := fun rho S => (m rho S).bind fun x => sortLG kG c x.1 x.2
def eMinL (kG : KG) (m : EM) : EM := fun rho S => (m rho S).bind fun x => minLG kG x.1 x.2
end
end DL

namespace DL
open PySem PySem.Spec PyProof.Rows L2

section
variable {P : Program} {w : World} {K : PySem.W.Frag} {d : Addr} {o : Obj} {es : Array DictEntry} {ep : Nat} {tg : Expr}
end
section
variable {X : Cx} {tg e : Expr} {td : TE} {apos cpos : Pos}
end
def iVlT (m : EM) : IM := fun rho S => (m rho S).bind fun x => match lkd x.2 x.1 with
  | some kvs => .ok (⟨kvs.map (·.2), ktP⟩, x.2)
  | none => .stuck
section
variable {X : Cx} {W : XW X.K} {a b c : Expr} {ma mb mc : EM} {pos : Pos}
end
def eProp (cc : Bool) (n : Str) (f : FnM) (o : EM) : EM := fun rho S => (o rho S).bind fun x => match insOf x.2 x.1 with
  | some (n', _) => if n' = n then (noX (f [x.1] x.2)).bind (back cc) else .stuck
  | none => .stuck
section
variable {X : Cx} {W : XW X.K} {a : Expr} {ma : EM} {pos : Pos}
end
def sRsF (C : Str) (fs : List Str) (m : AM) : SM := fun rho S => (m rho S).bind fun x => match allFr x.1 with
  | some ds => if ds.length = fs.length ∧ fs.length ≤ 900 ∧ fs ≠ [] then .exc ⟨C, (fs.zip ds).reverse⟩ rho x.2 else .stuck
  | none => .stuck
section
variable {X : Cx} {Wq : WX} {pos p : Pos} {e : Expr} {es : List Expr} {m : AM}
end
section
variable {X : Cx} {a : Addr} {oe : Obj} {d : Option Addr} {pn : List (Addr × Obj)} {ex : Expr} {m : EM} {pos : Pos} {f : Str} {e : Exc} {Cs : List Str}
end
def eMethX (cc : Bool) (tbl : Tbl) (nm : Str) (o : EM) (m : AM) : EM := fun rho S => (o rho S).bind fun x => match metOf tbl nm x.2 x.1 with
  | some f => (m rho x.2).bind fun y => (cutX y.2.length rho (f (x.1 :: y.1) y.2)).bind (back cc)
  | none => .stuck
section
variable {X : Cx} {Wq : WX} {o e : Expr} {es : List Expr} {mo : EM} {m : AM} {nm : Str} {tbl : Tbl} {apos pos : Pos} {k : Nat}
end
end DL

namespace DL
open PySem PySem.Spec PyProof.Rows L2 PySem.W PySem.SeqAt

section
variable {A : Around} {s : Shared}
end
end DL

namespace DL
open PySem PySem.Spec PyProof.Rows L2
section
variable {prog : Program} {w : World} {A : Around} {s : Shared} {R : Result → Shared → Prop}
end
end DL

namespace DL
open PySem PySem.Spec PyProof.Rows L2
section
variable {X : Cx} {Wq : WX} {e : Expr} {es : List Expr} {m : AM} {pos p : Pos} {n : Str} {k : Nat} {f : FnM}
end
section
variable {X : Cx} {W : XW X.K} {e : Expr} {es : List Expr} {ta : TA} {m : AM} {pos p : Pos}
def isvO (t : IseT) : GA := fun as S => match as with
  | [.cell k, .fr (.ty b)] => match S[k]? with
    | some (.err C) => match t.lookup C with
      | some (_, tt) => match tt.lookup b with
        | some r => okV (.bl r) S
        | none => .stuck
      | none => .stuck
    | _ => .stuck
  | _ => .stuck
def isvG (ms : List Str) (t : IseT) : GA := fun as S => match isbG ms as S with
  | .stuck => isvO t as S
  | r => r
end
end DL

namespace DL
open PySem PySem.Spec PyProof.Rows L2
end DL

namespace DL
open PySem PySem.Spec PyProof.Rows L2
section
variable {X : Cx} {W : XW X.K} {a b : Expr} {pos p tpos : Pos} {elts : List Expr} {kk : Nat} {m : AM}
end
section
variable {X : Cx} {W : XW X.K} {a b c : Expr} {ma mb mc : EM} {pos : Pos} {n : Str} {kvs : List (Str × Str)}
end
section
variable {X : Cx} {W : XW X.K} {a b c : Expr} {ma mb mc : EM} {pos : Pos}
end
end DL

namespace DL
open PySem PySem.Spec PyProof.Rows L2
section
variable {X : Cx} {W : XW X.K} {e : Expr} {es : List Expr} {m : AM} {pos p : Pos} {n : Str} {k : Nat} {f : KnM}
end
end DL

namespace DL
open PySem PySem.Spec PyProof.Rows L2
section
variable {X : Cx} {W : XW X.K} {a b c : Expr} {ma mb mc : EM} {pos : Pos} {tg : Expr}
end
section
variable {X : Cx} {W : XW X.K} {a b c : Expr} {ma mb mc : EM} {pos : Pos} {tg : Expr}
end
section
variable {X : Cx} {W : XW X.K} {a b c : Expr} {ma mb mc : EM} {pos : Pos}
end
end DL

namespace DL
open PySem PySem.Spec PyProof.Rows L2
section
variable {P : Program} {w : World} {K : PySem.W.Frag} {mg : Str → Option Value} {base : Heap}
end
section
variable {X : Cx} {W : XW X.K} {pos : Pos}
end
end DL

namespace DL
open PySem PySem.Spec PyProof.Rows L2
section
variable {X : Cx} {Wq : WX} {e : Expr} {es : List Expr} {m : AM} {pos p : Pos} {n : Str} {k : Nat} {f : KnM}
end
end DL

namespace DL
open PySem PySem.Spec PyProof.Rows L2
section
variable {X : Cx} {W : XW X.K} {a tg : Expr} {ma : EM}
end
end DL

namespace DL
open PySem PySem.Spec PyProof.Rows L2
section
variable {X : Cx} {W : XW X.K} {a b c : Expr} {ma mb mc : EM} {pos : Pos}
end
end DL

namespace DL
open PySem PySem.Spec PyProof.Rows L2
section
variable {X : Cx}
end
section
variable {X : Cx} {W : XW X.K}
end
end DL

namespace DL
open PySem PySem.Spec PyProof.Rows L2
section
variable {X : Cx} {W : XW X.K} {a b c : Expr} {ma mb mc : EM} {pos p p2 pos2 q : Pos}
end
section
variable {X : Cx} {pins : List (Addr × Obj)} {σ : L2.St} {H : Hp} {s : Shared} {a : Addr} {r : Value} {d : V} {k : List Key} {b : Addr} {A : Around} {E : Value → Shared → Prop}
end
section
variable {X : Cx} {W : XW X.K} {a b c : Expr} {ma mb mc : EM}
end
end DL

namespace DL
open PySem PySem.Spec PyProof.Rows L2
section
variable {X : Cx} {W : XW X.K}
end
end DL

namespace DL
open PySem PySem.Spec PyProof.Rows L2
section
variable {X : Cx} {W : XW X.K} {a : Expr} {ma : EM} {pos : Pos}
end
end DL

namespace DL
open PySem PySem.Spec PyProof.Rows L2
section
variable {prog : Program} {w : World} {A : Around} {E : Value → Shared → Prop} {s : Shared}
end
section
variable {P : Program} {w : World} {A : Around} {E : Value → Shared → Prop} {s : Shared}
end
end DL

namespace DL
open PySem PySem.Spec PyProof.Rows L2
section
variable {P : Program} {w : World} {A : Around} {E : Value → Shared → Prop} {s : Shared}
end
section
variable {X : Cx}
end
section
variable {K : PySem.W.Frag} {ph : List Addr} {H : Hp}
end
section
variable {X : Cx} {W : XW X.K} {a : Expr} {m : EM} {p p2 q pos : Pos}
end
end DL

namespace DL
open PySem PySem.Spec PyProof.Rows L2
section
variable {prog : Program} {w : World} {A : Around} {E : Value → Shared → Prop} {s : Shared}
end
section
variable {X : Cx}
end
section
variable {X : Cx} {W : XW X.K}
end
end DL

namespace DL
open PySem PySem.Spec PyProof.Rows L2
section
variable {X : Cx} {W : XW X.K} {a b c : Expr} {ma mb mc : EM}
end
end DL

namespace DL
open PySem PySem.Spec PyProof.Rows L2
section
variable {X : Cx} {W : XW X.K}
end
end DL

namespace DL
open PySem PySem.Spec PyProof.Rows L2
section
variable {X : Cx} {W : XW X.K}
end
end DL

namespace DL
open PySem PySem.Spec PyProof.Rows L2
section
variable {X : Cx} {W : XW X.K} {a b : Expr} {ma mb : EM} {pos : Pos}
end
end DL

namespace DL
open PySem PySem.Spec PyProof.Rows L2
section
variable {M : Model} {A : Around} {E : Value → Shared → Prop} {s : Shared} {env : Env}
end
section
variable {X : Cx} {Wq : WX}
def TakesF (X : Cx) (W : WX) : Prop := ∀ sg, PassesAt (L2.CX X.prog X.w) X sg (WE W sg)
theorem Takes.f (t : Takes X Wq) : TakesF X Wq := fun sg => passAt t sg
end
end DL

namespace DL
open PySem PySem.Spec PyProof.Rows L2
section
variable {X : Cx} {Wq : WX}
end
section
variable {X : Cx} {Wq : WX} {a b c tg : Expr} {pos : Pos}
end
end DL

namespace DL
open PySem PySem.Spec PyProof.Rows L2 L2H
section
variable {P : Program} {w : World} {K : PySem.W.Frag} {mg : Str → Option Value} {base : Heap}
end
theorem _root_.L2H.RoomH.units {k : Nat} {A : Around} (hr : RoomH k A) : A.units + 64 < cLine := by
  have := hr.un
  omega
section
variable {X : Cx} {W : XW X.K} {e0 : Expr} {es : List Expr} {pos p : Pos} {m : AM} {a : Addr} {oe : Obj} {e : Exc} {d : Option Addr}
end
section
variable {X : Cx} {W : XW X.K}
end
end DL

namespace DL
open PySem PySem.Spec PyProof.Rows L2

section
variable {X : Cx} {W : XW X.K}
end

section
variable {X : Cx} {W : XW X.K}
end

abbrev TblK := List (Str × KnM)
structure MetKD (P : Program) (w : World) (K : PySem.W.Frag) (mg : Str → Option Value) (base : Heap) (k : Nat) (nm n : Str) (m : KnM) : Prop where
  ex : ∃ f, Cls K (He.ga K n) ∧ Meth K (He.ga K n) nm f ∧ FunAtK P w K mg base k f m
section
variable {P : Program} {w : World} {K : PySem.W.Frag} {mg : Str → Option Value} {base : Heap} {j k : Nat} {nm n : Str} {m : KnM} {tbl : TblK}
theorem FnDK.mono {f : Addr} {fd : FuncData} {ps : List Str} (F : FnDK P w K mg base j f fd ps m) (h : j ≤ k) : FnDK P w K mg base k f fd ps m :=
  ⟨F.len, fun A outer s H args us vs Q E hg hr => F.run A outer s H args us vs Q E hg (hr.mono h)⟩
theorem FunAtK.mono {f : Addr} (F : FunAtK P w K mg base j f m) (h : j ≤ k) : FunAtK P w K mg base k f m := by
  obtain ⟨fd, ps, a, b, c, d⟩ := F.ex
  exact ⟨fd, ps, a, b, c, d.mono h⟩
theorem MetKD.mono (h : MetKD P w K mg base j nm n m) (hk : j ≤ k) : MetKD P w K mg base k nm n m := by
  obtain ⟨f, a, b, c⟩ := h.ex
  exact ⟨f, a, b, c.mono hk⟩
end
section
variable {X : Cx} {W : XW X.K} {o e : Expr} {es : List Expr} {mo : EM} {m : AM} {pos apos : Pos} {nm : Str} {tbl : TblK} {k : Nat} {A : Around} {H : Hp} {s : Shared} {pins : List (Addr × Obj)} {σ : L2.St} {f : Addr} {mk : KnM}
end
end DL

namespace DL
open PySem PySem.Spec PyProof.Rows L2

section
variable {X : Cx} {W : XW X.K}
variable {tg : Expr} {pos : Pos}
end
end DL

namespace DL
open PySem PySem.Spec PyProof.Rows L2

section
variable {X : Cx} {W : XW X.K} {tg a : Expr} {es : List Expr} {m : AM} {x : Str} {p pos : Pos}
end
end DL

namespace DL
open PySem PySem.Spec PyProof.Rows L2

theorem hashes_map {α : Type} (w : World) (f : α → NestedKey) : ∀ ks : List α, NestedKey.hashes w (ks.map f) = ks.map fun k => NestedKey.hash w (f k)
  | [] => rfl
  | k :: ks => by rw [List.map_cons, List.map_cons, NestedKey.hashes, hashes_map w f ks]
theorem nk_hash (w : World) (k : NK) : NestedKey.hash w (nkN k) = nkHash k := by
  unfold nkN nkHash
  rw [NestedKey.hash, hashes_map]
  congr 3
  funext l
  rw [NestedKey.hash, hashes_map]
  rfl
theorem num_map_inj : ∀ {l m : List Int}, l.map NestedKey.num = m.map NestedKey.num → l = m
  | [], [], _ => rfl
  | [], _ :: _, h => by simp at h
  | _ :: _, [], h => by simp at h
  | a :: l, b :: m, h => by
    simp only [List.map_cons, List.cons.injEq, NestedKey.num.injEq] at h
    rw [h.1, num_map_inj h.2]
theorem nums_map_inj : ∀ {k m : NK}, (k.map fun l => NestedKey.tup (l.map NestedKey.num)) = (m.map fun l => NestedKey.tup (l.map NestedKey.num)) → k = m
  | [], [], _ => rfl
  | [], _ :: _, h => by simp at h
  | _ :: _, [], h => by simp at h
  | a :: l, b :: m, h => by
    simp only [List.map_cons, List.cons.injEq, NestedKey.tup.injEq] at h
    rw [num_map_inj h.1, nums_map_inj h.2]
theorem nkN_inj {k m : NK} (h : nkN k = nkN m) : k = m := by
  unfold nkN at h
  exact nums_map_inj (NestedKey.tup.inj h)
theorem depth_num : ∀ l : List Int, NestedKey.depthAll (l.map NestedKey.num) = 0
  | [] => rfl
  | a :: l => by rw [List.map_cons, NestedKey.depthAll, NestedKey.depth, depth_num l]; rfl
theorem depth_nums : ∀ k : NK, NestedKey.depthAll (k.map fun l => NestedKey.tup (l.map NestedKey.num)) ≤ 1
  | [] => Nat.zero_le _
  | a :: l => by
    have := depth_nums l
    rw [List.map_cons, NestedKey.depthAll, NestedKey.depth, depth_num a]
    omega
theorem nk_depth (k : NK) : (nkN k).depth ≤ 8 := by
  have := depth_nums k
  unfold nkN
  rw [NestedKey.depth]
  omega
section
variable {P : Program} {w : World} {K : PySem.W.Frag} {F H : Hp} {h : Heap}
theorem ints_keys : ∀ {l : List Int} {vs : List V} {us : List Value}, Dens K F vs (l.map D.int) → Vals vs us → NestedAll h (l.map NestedKey.num) us
  | [], _, _, .nil, .nil => .nil
  | i :: l, _, _, .cons d t, .cons r q => by
    cases d
    obtain ⟨t', rfl⟩ := r
    exact .cons (.int i t') (ints_keys t q)
theorem ints_key (ok : HOk P w H h) (hF : ∀ a o, F a = some o → H a = some o) {l : List Int} {v : V} {u : Value} (d : Den K F v (.tup (l.map D.int))) (r : RelV v u) : NestedIs h (.tup (l.map NestedKey.num)) u := by
  cases d with
  | tup e q =>
    cases (show u = Value.ref _ from r)
    obtain ⟨_, its, rv, o, h1, h2, n, h3⟩ := ok _ _ (hF _ _ e)
    exact .tup h1 h2 h3 (ints_keys q (by simpa using rv))
theorem tups_keys (ok : HOk P w H h) (hF : ∀ a o, F a = some o → H a = some o) : ∀ {k : NK} {vs : List V} {us : List Value}, Dens K F vs (k.map fun l => D.tup (l.map D.int)) → Vals vs us → NestedAll h (k.map fun l => NestedKey.tup (l.map NestedKey.num)) us
  | [], _, _, .nil, .nil => .nil
  | l :: k, _, _, .cons d t, .cons r q => .cons (ints_key ok hF d r) (tups_keys ok hF t q)
theorem nk_is (ok : HOk P w H h) (hF : ∀ a o, F a = some o → H a = some o) {b : Addr} {k : NK} (d : Den K F (.ref b) (nkD k)) : (nestedKind P w).is h (nkN k) b := by
  refine ⟨?_, nk_depth k⟩
  unfold nkD at d
  cases d with
  | tup e q =>
    obtain ⟨_, its, rv, o, h1, h2, n, h3⟩ := ok _ _ (hF _ _ e)
    exact .tup h1 h2 h3 (tups_keys ok hF q (by simpa using rv))
def toH (x : NK × Addr × Bool) : NestedKey × Addr × Value := (nkN x.1, x.2.1, .bool x.2.2)
theorem toH_ent (x : NK × Addr × Bool) : entryOfKey (nestedKind P w) (toH x) = nent x := by
  unfold entryOfKey nent toH
  rw [show (nestedKind P w).hash (nkN x.1) = nkHash x.1 from nk_hash w x.1]
theorem toH_nodup : ∀ {xs : List (NK × Addr × Bool)}, (xs.map (·.1)).Nodup → ((xs.map toH).map (·.1)).Nodup
  | [], _ => List.nodup_nil
  | x :: xs, h => by
    simp only [List.map_cons, List.nodup_cons] at h ⊢
    refine ⟨fun m => h.1 ?_, toH_nodup h.2⟩
    obtain ⟨y, hy, e⟩ := List.mem_map.mp m
    obtain ⟨z, hz, rfl⟩ := List.mem_map.mp hy
    rw [← nkN_inj e]
    exact List.mem_map_of_mem hz
structure NdK (K : PySem.W.Frag) (F H : Hp) (xs : List (NK × Addr × Bool)) : Prop where
  sub : ∀ a o, F a = some o → H a = some o
  key : ∀ x ∈ xs, Den K F (.ref x.2.1) (nkD x.1)
theorem nd_dict (ok : HOk P w H h) {p : Addr} {xs : List (NK × Addr × Bool)} (e : H p = some (NdO p xs)) (nk : NdK K F H xs) : (p == sysModules) = false ∧ xs.length ≤ sizeLine ∧ (xs.map (·.1)).Nodup ∧ h.DictOfH (nestedKind P w) p (xs.map toH) := by
  obtain ⟨⟨h1, h2, h3, o, es, ep, g1, g2, g3, g4⟩, _⟩ := (show ObjOk P w H h p (NdO p xs) from ok p _ e)
  refine ⟨h1, h2, h3, o, es, ep, g1, g2, g3, ?_, fun x hx => ?_, toH_nodup h3⟩
  · rw [g4, List.map_map]
    exact List.map_congr_left fun x _ => (toH_ent x).symm
  · obtain ⟨y, hy, rfl⟩ := List.mem_map.mp hx
    exact nk_is ok nk.sub (nk.key y hy)
theorem nd_ok {p : Addr} {xs : List (NK × Addr × Bool)} (h1 : (p == sysModules) = false) (h2 : xs.length ≤ sizeLine) (h3 : (xs.map (·.1)).Nodup) {o : Obj} {es : Array DictEntry} {ep : Nat} (g1 : h.get? p = some o) (g2 : o.ExactDict) (g3 : o.data = .dict es ep) (g4 : es.toList = xs.map nent) : ObjOk P w H h p (NdO p xs) :=
  ⟨⟨h1, h2, h3, o, es, ep, g1, g2, g3, g4⟩, ⟨o, g1⟩, fun _ _ ⟨a, b, c, o', es', ep', d, r⟩ st => ⟨a, b, c, o', es', ep', st _ d, r⟩⟩
def findX (xs : List (NK × Addr × Bool)) (k : NK) : Option (Addr × Bool) := (xs.find? fun x => decide (x.1 = k)).map (·.2)
theorem atKey_toH (xs : List (NK × Addr × Bool)) (k : NK) : atKey (xs.map toH) (nkN k) = (findX xs k).map fun q => (q.1, Value.bool q.2) := by
  induction xs with
  | nil => rfl
  | cons x xs ih =>
    by_cases q : x.1 = k
    · subst q
      simp [atKey, findX, toH]
    · have q' : ¬ nkN x.1 = nkN k := fun e => q (nkN_inj e)
      unfold atKey findX at ih ⊢
      rw [List.map_cons, List.find?_cons_of_neg (by show ¬ decide (nkN x.1 = nkN k) = true; simpa using q'), List.find?_cons_of_neg (by simpa using q)]
      exact ih
def putX (xs : List (NK × Addr × Bool)) (k : NK) (b : Addr) (v : Bool) : List (NK × Addr × Bool) :=
  if (findX xs k).isSome then xs.map fun x => if x.1 = k then (x.1, x.2.1, v) else x else xs ++ [(k, b, v)]
theorem stored_toH (xs : List (NK × Addr × Bool)) (k : NK) (b : Addr) (v : Bool) : storedH (xs.map toH) (nkN k) b (.bool v) = (putX xs k b v).map toH := by
  unfold storedH putX
  rw [atKey_toH, Option.isSome_map]
  split
  · rw [List.map_map, List.map_map]
    refine List.map_congr_left fun x _ => ?_
    by_cases q : x.1 = k
    · simp [putAt, toH, q]
    · have q' : ¬ nkN x.1 = nkN k := fun e => q (nkN_inj e)
      simp [putAt, toH, q, q']
  · rw [List.map_append]
    rfl
theorem putX_keys (xs : List (NK × Addr × Bool)) (k : NK) (b : Addr) (v : Bool) : (putX xs k b v).map (·.1) = if (findX xs k).isSome then xs.map (·.1) else xs.map (·.1) ++ [k] := by
  unfold putX
  split
  · rw [List.map_map]
    refine List.map_congr_left fun x _ => ?_
    by_cases q : x.1 = k <;> simp [q]
  · rw [List.map_append]; rfl
theorem findX_none {xs : List (NK × Addr × Bool)} {k : NK} (h : ¬ (findX xs k).isSome = true) : k ∉ xs.map (·.1) := fun m => by
  obtain ⟨x, hx, rfl⟩ := List.mem_map.mp m
  apply h
  unfold findX
  rw [Option.isSome_map, List.find?_isSome]
  exact ⟨x, hx, by simp⟩
theorem putX_nodup {xs : List (NK × Addr × Bool)} {k : NK} {b : Addr} {v : Bool} (h : (xs.map (·.1)).Nodup) : ((putX xs k b v).map (·.1)).Nodup := by
  rw [putX_keys]
  split
  · exact h
  · rename_i q
    rw [List.nodup_append]
    exact ⟨h, by simp, fun a ha c hc e => findX_none q (by rw [List.mem_singleton] at hc; rw [← hc, ← e]; exact ha)⟩
theorem putX_len (xs : List (NK × Addr × Bool)) (k : NK) (b : Addr) (v : Bool) : (putX xs k b v).length ≤ xs.length + 1 := by
  unfold putX
  split
  · rw [List.length_map]; omega
  · rw [List.length_append]; exact Nat.le_refl _
end
def tNdNew : TE := fun _ H Q => ∀ p, H p = none → Q (.ref p) (upd H p (NdO p []))
section
variable {X : Cx} {pos : Pos}
theorem nd_empty {P : Program} {w : World} {H : Hp} (h : Heap) (hb : sysModules < h.objs.size) : ObjOk P w H (h.push { cls := .type "dict", data := .dict #[] }) h.objs.size (NdO h.objs.size []) :=
  nd_ok (beq_eq_false_iff_ne.mpr (Ne.symm (Nat.ne_of_lt hb))) (Nat.zero_le _) List.nodup_nil (Heap.get?_push_size _ rfl) ⟨rfl, rfl, rfl⟩ rfl rfl
theorem pe_ndnew : PE X (.Dict [] [] pos) tNdNew := ⟨fun pins s σ H Q I h =>
  wpAny_Dict_empty ⟨.ref s.heap.objs.size, _, I.laid (a := s.heap.objs.size) (o := NdO s.heap.objs.size []) (t' := s.toks) (fun _ _ q => Heap.get?_push_of_some _ q) (Nat.le_refl _) (nd_empty s.heap I.big), rfl, h _ (I.hok.fresh (Nat.le_refl _))⟩⟩
end
def tNd (K : PySem.W.Frag) (td ty : TE) : TE := fun σ H Q => td σ H fun x H1 => ty σ H1 fun y H2 => ∃ a b xs k q F, x = .ref a ∧ y = .ref b ∧ H2 a = some (NdO a xs) ∧ NdK K F H2 xs ∧ Den K F (.ref b) (nkD k) ∧ findX xs k = some q ∧ Q (.bl q.2) H2
section
variable {X : Cx} {o i : Expr} {pos : Pos} {td ty : TE}
theorem pe_nd (hu : X.A.units + 80 < cLine) (ho : PE X o td) (hi : PE X i ty) (hs : NoSl i) : PE X (.Subscript o i pos) (tNd X.K td ty) := by
  refine ⟨fun pins s σ H Q I h => ?_⟩
  refine subD_of PySem.F.slot_dict_getitem.lookup hs (thn (ho.run pins s σ H _ I h) fun u s1 ⟨x, H1, I1, rx, q1⟩ => thn (hi.run pins s1 σ H1 _ I1 q1) fun iv s2 ⟨y, H2, I2, ry, a, b, xs, k, q, F, ex, ey, e, nk, dk, hf, q2⟩ => ?_)
  subst ex ey
  obtain rfl : u = Value.ref a := rx
  obtain rfl : iv = Value.ref b := ry
  obtain ⟨h1, h2, h3, dd⟩ := nd_dict I2.hok e nk
  refine ⟨dd.typeIs, wpAny_getItem_heap (p := (q.1, Value.bool q.2)) (by show X.A.in1.units + 8 < cLine; show X.A.units + 1 + 8 < cLine; omega) (nk_is I2.hok nk.sub dk) dd (by rw [atKey_toH, hf]; rfl) ?_⟩
  exact ⟨.bl q.2, H2, I2.tok _, rfl, q2⟩
def rNdPut (K : PySem.W.Frag) : TSet := fun o i v H Q => ∃ a b xs k z F, o = .ref a ∧ i = .ref b ∧ v = .bl z ∧ H a = some (NdO a xs) ∧ NdK K F H xs ∧ Den K F (.ref b) (nkD k) ∧ xs.length < sizeLine ∧ Q (upd H a (NdO a (putX xs k b z)))
theorem set_nd (hu : X.A.units + 80 < cLine) : PSet X (rNdPut X.K) := by
  intro pins s σ H o i v ov iv u Q I ro ri rv h
  obtain ⟨a, b, xs, k, z, F, rfl, rfl, rfl, e, nk, dk, hl, q⟩ := h
  obtain rfl : ov = Value.ref a := ro
  obtain rfl : iv = Value.ref b := ri
  obtain rfl : u = Value.bool z := rv
  obtain ⟨h1, h2, h3, dd⟩ := nd_dict I.hok e nk
  refine wpAny_setItem_heap (hsz := by rw [List.length_map]; exact h2) (by show X.A.units + 1 + 8 < cLine; omega) (nk_is I.hok nk.sub dk) dd fun h' dd' hs => ?_
  rw [stored_toH] at dd'
  obtain ⟨ob, es, ep, hq, d2, d3, d4, _, _⟩ := dd'
  have hlen := putX_len xs k b z
  exact ⟨_, d_write I (by rw [e]; exact True.intro) hs ⟨ob, hq⟩ (nd_ok h1 (by omega) (putX_nodup h3) hq d2 d3 (by rw [d4, List.map_map]; exact List.map_congr_left fun x _ => toH_ent x)), q⟩
end
def intOf : D → Option Int
  | .int i => some i
  | _ => none
def intsOfD : List D → Option (List Int)
  | [] => some []
  | d :: ds => match intOf d, intsOfD ds with
    | some i, some is => some (i :: is)
    | _, _ => none
def tupOf : D → Option (List Int)
  | .tup ds => intsOfD ds
  | _ => none
def tupsOf : List D → Option NK
  | [] => some []
  | d :: ds => match tupOf d, tupsOf ds with
    | some i, some is => some (i :: is)
    | _, _ => none
def keyN : SV → Option NK
  | .fr (.tup ds) => tupsOf ds
  | _ => none
theorem intsOfD_ok : ∀ {ds : List D} {l : List Int}, intsOfD ds = some l → ds = l.map D.int
  | [], l, h => by cases h; rfl
  | d :: ds, l, h => by
    unfold intsOfD at h
    split at h
    · rename_i i is h1 h2
      cases h
      rw [List.map_cons, intsOfD_ok h2]
      cases d <;> simp [intOf] at h1
      rw [h1]
    · cases h
theorem tupsOf_ok : ∀ {ds : List D} {k : NK}, tupsOf ds = some k → ds = k.map fun l => D.tup (l.map D.int)
  | [], k, h => by cases h; rfl
  | d :: ds, k, h => by
    unfold tupsOf at h
    split at h
    · rename_i i is h1 h2
      cases h
      rw [List.map_cons, tupsOf_ok h2]
      cases d <;> simp [tupOf] at h1
      rw [intsOfD_ok h1]
    · cases h
theorem keyN_ok {x : SV} {k : NK} (h : keyN x = some k) : x = .fr (nkD k) := by
  unfold keyN at h
  split at h
  · rw [tupsOf_ok h]; rfl
  · cases h
theorem intsOfD_map : ∀ l : List Int, intsOfD (l.map D.int) = some l
  | [] => rfl
  | i :: l => by rw [List.map_cons, intsOfD, intOf, intsOfD_map l]
theorem tupsOf_map : ∀ k : NK, tupsOf (k.map fun l => D.tup (l.map D.int)) = some k
  | [] => rfl
  | l :: k => by rw [List.map_cons, tupsOf, tupOf, intsOfD_map, tupsOf_map k]
theorem keyN_of (k : NK) : keyN (.fr (nkD k)) = some k := tupsOf_map k
def findN (kvs : List (NK × Bool)) (k : NK) : Option Bool := (kvs.find? fun x => decide (x.1 = k)).map (·.2)
def setN (kvs : List (NK × Bool)) (k : NK) (v : Bool) : List (NK × Bool) := if (findN kvs k).isSome then kvs.map fun x => if x.1 = k then (x.1, v) else x else kvs ++ [(k, v)]
section
variable {K : PySem.W.Frag} {F : Hp}
theorem ndP_find (k : NK) : ∀ {kvs : List (NK × Bool)} {xs : List (NK × Addr × Bool)}, Paired (NdP K F) kvs xs → findN kvs k = (findX xs k).map (·.2)
  | _, _, .nil => rfl
  | _, _, .cons (a := p) (b := x) h t => by
    have ih := ndP_find k t
    by_cases q : p.1 = k
    · have q' : x.1 = k := h.1.trans q
      unfold findN findX
      rw [List.find?_cons_of_pos (by simpa using q), List.find?_cons_of_pos (by simpa using q')]
      simp [h.2.1]
    · have q' : ¬ x.1 = k := fun e => q (h.1.symm.trans e)
      unfold findN findX at ih ⊢
      rw [List.find?_cons_of_neg (by simpa using q), List.find?_cons_of_neg (by simpa using q')]
      exact ih
theorem ndP_upd {k : NK} {v : Bool} : ∀ {kvs : List (NK × Bool)} {xs : List (NK × Addr × Bool)}, Paired (NdP K F) kvs xs → Paired (NdP K F) (kvs.map fun x => if x.1 = k then (x.1, v) else x) (xs.map fun x => if x.1 = k then (x.1, x.2.1, v) else x)
  | _, _, .nil => .nil
  | _, _, .cons (a := p) (b := x) h t => by
    refine .cons ?_ (ndP_upd t)
    by_cases q : p.1 = k
    · have q' : x.1 = k := h.1.trans q
      dsimp only
      rw [if_pos q, if_pos q']
      exact ⟨h.1, rfl, h.2.2⟩
    · have q' : ¬ x.1 = k := fun e => q (h.1.symm.trans e)
      dsimp only
      rw [if_neg q, if_neg q']
      exact h
theorem ndP_put {k : NK} {v : Bool} {b : Addr} {kvs : List (NK × Bool)} {xs : List (NK × Addr × Bool)} (r : Paired (NdP K F) kvs xs) (d : Den K F (.ref b) (nkD k)) : Paired (NdP K F) (setN kvs k v) (putX xs k b v) := by
  unfold setN putX
  have e : (findN kvs k).isSome = (findX xs k).isSome := by rw [ndP_find k r, Option.isSome_map]
  by_cases q : (findX xs k).isSome = true
  · rw [if_pos q, if_pos (e.trans q)]
    exact ndP_upd r
  · rw [if_neg q, if_neg (by rw [e]; exact q)]
    exact paired_snoc r ⟨rfl, rfl, d⟩
theorem ndP_keys : ∀ {kvs : List (NK × Bool)} {xs : List (NK × Addr × Bool)}, Paired (NdP K F) kvs xs → ∀ x ∈ xs, Den K F (.ref x.2.1) (nkD x.1)
  | _, _, .nil, _, h => nomatch h
  | _, _, .cons h t, x, hx => by
    rcases List.mem_cons.mp hx with rfl | hx
    · rw [h.1]; exact h.2.2
    · exact ndP_keys t x hx
end
section
variable {X : Cx} {W : XW X.K} {a b : Expr} {ma mb : EM} {pos : Pos}
def eDNN : EM := fun _ S => .ok (.cell S.length, S ++ [.nd []])
theorem pd_dnn : PD X W (.Dict [] [] pos) eDNN := by
  refine ⟨_, pe_ndnew, fun ph S H sg rho Q g so h p hp => ?_⟩
  have e : Ext ph H (ph ++ [p]) (upd H p (NdO p [])) := Ext.cell hp
  exact h (ph ++ [p]) (.ref p) _ e (g.cell hp ⟨[], upd_same, .nil⟩) ⟨p, by rw [← g.len]; simp, rfl⟩
def dgNG : G2 := fun a b S => match a, keyN b with
  | .cell j, some k => match S[j]? with
    | some (.nd kvs) => match findN kvs k with
      | some v => okV (.bl v) S
      | none => .stuck
    | _ => .stuck
  | _, _ => .stuck
theorem pd_dgN (hu : X.A.units + 80 < cLine) (ha : PD X W a ma) (hb : PD X W b mb) (hs : NoSl b := by intro _ _; rfl) : PD X W (.Subscript a b pos) (e2 dgNG ma mb) := by
  obtain ⟨ta, pa, sa⟩ := ha.ex
  obtain ⟨tb, pb, sb⟩ := hb.ex
  refine ⟨_, pe_nd hu pa pb hs, fun ph S H sg rho Q g so h => sa ph S H sg rho _ g so (holds_imp (holds_bind h) (fun x hx => ?_) fun _ _ _ q => q)⟩
  intro ph1 v1 H1 x1 g1 d1
  refine sb ph1 x.2 H1 sg rho _ g1 (so.mono x1) (holds_imp (holds_bind hx) (fun y hy => ?_) fun e r s q => W.mono _ _ _ _ e r s x1 q)
  intro ph2 v2 H2 x2 g2 d2
  obtain ⟨yv, S2⟩ := y
  obtain ⟨xv, S1⟩ := x
  dsimp only at *
  unfold dgNG at hy
  split at hy
  · rename_i j k hk
    have d1' := d1.mono x2
    obtain ⟨p, h1, rfl⟩ := d1'
    have ey := keyN_ok hk
    subst ey
    split at hy
    · rename_i kvs hj
      obtain ⟨q, h3, xs, h4, h5⟩ := g2.at hj
      rw [h1] at h3; cases h3
      split at hy
      · rename_i v hv
        have hf := ndP_find k h5
        rw [hv] at hf
        obtain ⟨q, hq, hq2⟩ := Option.map_eq_some_iff.mp hf.symm
        have db : Den X.K (hide ph2 H2) v2 (nkD k) := d2
        obtain ⟨b', rfl⟩ : ∃ b', v2 = .ref b' := by
          unfold nkD at db
          cases db with
          | tup _ _ => exact ⟨_, rfl⟩
        refine ⟨p, b', xs, k, q, hide ph2 H2, rfl, rfl, h4, ⟨fun _ _ e => (hide_some e).2, ndP_keys h5⟩, db, hq, ?_⟩
        rw [hq2]
        exact hy ph2 (.bl v) H2 (x1.trans x2) g2 (.bl _)
      · exact hy.elim
    · exact hy.elim
  · exact hy.elim
def putND (o i x : SV) (S : Store) : Res Store := match o, keyN i, x with
  | .cell j, some k, .fr (.bl v) => match S[j]? with
    | some (.nd kvs) => if kvs.length < sizeLine then .ok (S.set j (.nd (setN kvs k v))) else .stuck
    | _ => .stuck
  | _, _, _ => .stuck
theorem putND_ok {ph : List Addr} {S : Store} {H : Hp} {o i v : V} {so si sv : SV} {Q : Hp → Prop} {E : Exc → Slots → Store → Prop} (g : Good X.K ph H S) (d1 : DenS X.K ph H o so) (d2 : DenS X.K ph H i si) (d3 : DenS X.K ph H v sv)
    (h : holds (putND so si sv S) (fun S' => ∀ ph' H', Ext ph H ph' H' → Good X.K ph' H' S' → Q H') E) : rNdPut X.K o i v H Q := by
  unfold putND at h
  split at h
  · rename_i j k z hk
    split at h
    · rename_i kvs hj
      split at h
      · rename_i hl
        obtain ⟨p, h1, rfl⟩ := d1
        obtain ⟨q, h3, xs, h4, h5⟩ := g.at hj
        rw [h1] at h3; cases h3
        have ey := keyN_ok hk
        subst ey
        have db : Den X.K (hide ph H) i (nkD k) := d2
        obtain ⟨b', rfl⟩ : ∃ b', i = .ref b' := by
          unfold nkD at db
          cases db with
          | tup _ _ => exact ⟨_, rfl⟩
        have hm : p ∈ ph := List.mem_of_getElem? h1
        have e : Ext ph H ph (upd H p (NdO p (putX xs k b' z))) := Ext.write hm (nofrz h4 fun _ _ z => by unfold NdO at z; nomatch z)
        refine ⟨p, b', xs, k, z, hide ph H, rfl, rfl, d_bl d3, h4, ⟨fun _ _ e => (hide_some e).2, ndP_keys h5⟩, db, by rw [← Paired.length h5]; exact hl, h ph _ e (g.write h1 ⟨_, upd_same, ?_⟩)⟩
        rw [hide_upd hm]
        exact ndP_put h5 db
      · exact h.elim
    · exact h.elim
  · exact h.elim
def gPtN (mo mi : EM) : GM := fun x rho S => (mo rho S).bind fun o => (mi rho o.2).bind fun i => (putND o.1 i.1 x i.2).bind fun S' => .ok (rho, S')
theorem pgd_putN (hu : X.A.units + 80 < cLine) (ha : PD X W a ma) (hb : PD X W b mb) (hass : ∀ v, assign (.Subscript a b pos) X.env v = (do
      let ov ← holding [v] (eval a X.env)
      let iv ← holding [v, ov] (eval b X.env)
      standAt pos
      holding [v, ov, iv] (setItem ov iv v)
      release [v, ov, iv] []) := by intro _; rfl) : PGD X W [] (.Subscript a b pos) (gPtN ma mb) := by
  obtain ⟨ta, pa, sa⟩ := ha.ex
  obtain ⟨tb, pb, sb⟩ := hb.ex
  refine ⟨_, pg_sub pa pb (set_nd hu) hass, fun ph S H sg rho v x Q g so d h => sa ph S H sg rho _ g so (holds_imp (holds_bind h) (fun o ho => ?_) fun _ _ _ q => q)⟩
  intro ph1 v1 H1 x1 g1 d1
  refine sb ph1 o.2 H1 sg rho _ g1 (so.mono x1) (holds_imp (holds_bind ho) (fun i hi => ?_) fun e r s q => W.mono _ _ _ _ e r s x1 q)
  intro ph2 v2 H2 x2 g2 d2
  refine putND_ok g2 (d1.mono x2) d2 (d.mono (x1.trans x2)) (holds_imp (holds_bind hi) (fun S3 h3 => ?_) fun e r s q => q)
  intro ph3 H3 x3 g3
  have x13 := x1.trans (x2.trans x3)
  exact h3 ph3 sg H3 x13 g3 (so.mono x13) ⟨rfl, fun _ _ => rfl⟩
end
end DL

namespace DL
open PySem PySem.Spec PyProof.Rows L2
def tOfI (K : PySem.W.Frag) (W : XW K) (m : IM) : TI := fun sg H R => ∃ ph S rho, Good K ph H S ∧ SlotsOk K ph H sg rho ∧ holds (m rho S) (postI K ph H R) (W.rel ph H)
theorem PID.pi {X : Cx} {W : XW X.K} {tg iter : Expr} {m : IM} (h : PID X W tg iter m) : PI X tg iter (tOfI X.K W m) := by
  obtain ⟨t, p, s⟩ := h.ex
  refine ⟨fun pins s' sg H R I q => ?_⟩
  obtain ⟨ph, S, rho, g, so, hh⟩ := q
  exact p.run pins s' sg H R I (s ph S H sg rho R g so hh)
theorem same_ph {K : PySem.W.Frag} {ph1 : List Addr} {D : Addr} {n : Nat} (hl : ph1.length = n) {H2 : Hp} {ph' : List Addr} {H' : Hp} {S' S6 : Store} {acc' : List SV} (x' : Ext (ph1 ++ [D]) H2 ph' H') (g' : Good K ph' H' S') (hu : unS n S' = some (S6, acc')) :
    ph' = ph1 ++ [D] ∧ S' = S6 ++ [.lst acc'] ∧ S6.length = n := by
  obtain ⟨ps, rfl, _⟩ := x'.pre
  have gl := g'.len
  simp only [List.length_append, List.length_cons, List.length_nil] at gl
  obtain ⟨e1, e2⟩ := unS_some hu (by omega)
  refine ⟨?_, e1, e2⟩
  subst e1
  simp only [List.length_append, List.length_cons, List.length_nil] at gl
  have : ps.length = 0 := by omega
  rw [List.length_eq_zero_iff.mp this, List.append_nil]
theorem in_snd {K : PySem.W.Frag} {ph1 : List Addr} {D : Addr} {is own : List Nat} {g : GM} {t : TM} {e : EM} (hown : ∀ i ∈ is, i ∈ own) {xs : List SV} {lk : Store → Prop} {J : It} {H : Hp} {S : Store} {acc : List SV} {sg : L2.St} {rho : Slots} {n : Nat}
    (hn : S.length = n) (hl : ph1.length = n) (gd : Good K (ph1 ++ [D]) H (S ++ [.lst acc])) (so : SlotsOk K (ph1 ++ [D]) H sg rho) (wk : WalkOk K (ph1 ++ [D]) H J ⟨xs, lk⟩) (Nx : Hp → Prop) (NxR : List SV × Store → Prop)
    (hN : ∀ acc' S' H', S'.length = n → Ext (ph1 ++ [D]) H (ph1 ++ [D]) H' → Good K (ph1 ++ [D]) H' (S' ++ [.lst acc']) → NxR (acc', S') → Nx H')
    (h : holds (lcM lk g t e own rho xs S acc) NxR (fun _ _ _ => False)) :
    ∃ W1 : Nat → Nat → Hp → Prop, (∃ m, W1 0 m H) ∧ ∀ j k H', W1 j k H' → (J.stop j H' ∧ Nx H') ∨ (J.go j H' ∧ ∃ Nx1 : Hp → Prop, (∀ H'', Nx1 H'' → ∃ k', k' < k ∧ W1 (j + 1) k' H'') ∧ ∀ x H2, J.yld j H' x H2 →
      tOfG K (XW.none K) is g x (wipe sg own) H2 fun sg2 H3 => wipe sg2 own = wipe sg own ∧ tOfT K (XW.none K) t sg2 H3 fun b H4 => if b = true then tOf K (XW.none K) e sg2 H4 fun y H5 => ∃ acc, H5 D = some (.lst acc) ∧ acc.length < sizeLine ∧ Nx1 (upd H5 D (.lst (acc ++ [y]))) else Nx1 H4) := by
  refine ⟨fun i m H' => m = xs.length - i ∧ i ≤ xs.length ∧ ∃ S' acc', S'.length = n ∧ Ext (ph1 ++ [D]) H (ph1 ++ [D]) H' ∧ Good K (ph1 ++ [D]) H' (S' ++ [.lst acc']) ∧ holds (lcM lk g t e own rho (xs.drop i) S' acc') NxR (fun _ _ _ => False),
    ⟨_, rfl, Nat.zero_le _, S, acc, hn, Ext.refl _ _, gd, h⟩, ?_⟩
  rintro i m H2 ⟨rfl, hle, S2, acc2, hl2, x2, g2, h2⟩
  by_cases hi : i < xs.length
  · right
    rw [List.drop_eq_getElem_cons hi] at h2
    unfold lcM at h2
    split at h2
    · rename_i hlk
      have hx : (⟨xs, lk⟩ : Wk).xs[i]? = some xs[i] := List.getElem?_eq_getElem hi
      refine ⟨wk.go i xs[i] _ H2 _ hx x2 g2 hlk, fun H' => ∃ S' acc', S'.length = n ∧ Ext (ph1 ++ [D]) H (ph1 ++ [D]) H' ∧ Good K (ph1 ++ [D]) H' (S' ++ [.lst acc']) ∧ holds (lcM lk g t e own rho (xs.drop (i + 1)) S' acc') NxR (fun _ _ _ => False),
        fun H' q => ⟨xs.length - (i + 1), by omega, rfl, hi, q⟩, fun v H3 y => ?_⟩
      obtain ⟨x3, g3, d3⟩ := wk.yld i xs[i] _ H2 _ v H3 hx x2 g2 hlk y
      have so3 := (so.mono (x2.trans x3)).wiped own
      refine ⟨_, _, _, xs[i], g3, so3, d3, holds_imp (holds_bind h2) (fun r hr => ?_) fun _ _ _ z => z⟩
      intro ph4 sg4 H4 x4 g4 so4 o4
      refine ⟨wipe_eq hown o4, ph4, r.2, r.1, g4, so4, holds_imp (holds_bind hr) (fun k hk => ?_) fun _ _ _ z => z⟩
      intro ph5 H5 x5 g5
      obtain ⟨kb, S5⟩ := k
      dsimp only at hk g5
      rw [hl2] at hk
      have x35 := x3.trans (x4.trans x5)
      cases kb with
      | false =>
        simp only [Bool.false_eq_true, if_false] at hk ⊢
        split at hk
        · rename_i q hq
          obtain ⟨S6, acc6⟩ := q
          obtain ⟨rfl, rfl, l6⟩ := same_ph hl x35 g5 hq
          exact ⟨S6, acc6, l6, x2.trans x35, g5, hk⟩
        · exact hk.elim
      | true =>
        simp only [if_true] at hk ⊢
        refine ⟨ph5, S5, r.1, g5, so4.mono x5, holds_imp (holds_bind hk) (fun y hy => ?_) fun _ _ _ z => z⟩
        intro ph6 v6 H6 x6 g6 d6
        have x36 := x35.trans x6
        obtain ⟨yv, S7⟩ := y
        dsimp only at hy g6 d6
        split at hy
        · rename_i q hq
          obtain ⟨S8, acc8⟩ := q
          obtain ⟨rfl, rfl, l8⟩ := same_ph hl x36 g6 hq
          split at hy
          · rename_i hz
            have hp : (ph1 ++ [D])[S8.length]? = some D := by rw [l8, ← hl]; simp
            obtain ⟨vs, h4, h5⟩ : CellAt K (ph1 ++ [D]) H6 D (.lst acc8) := paired_at (k := S8.length) g6.cells hp (by simp)
            have hm : D ∈ ph1 ++ [D] := by simp
            have xw : Ext (ph1 ++ [D]) H6 (ph1 ++ [D]) (upd H6 D (.lst (vs ++ [v6]))) := Ext.write hm (nofrz h4 fun _ _ z => nomatch z)
            refine ⟨vs, h4, by rw [h5.length]; exact hz, S8, acc8 ++ [yv], l8, (x2.trans x36).trans xw, ?_, hy⟩
            have gw := g6.write (o := .lst (vs ++ [v6])) (c := .lst (acc8 ++ [yv])) hp ⟨vs ++ [v6], upd_same, paired_snoc (DenSs.mono xw h5) (d6.mono xw)⟩
            rw [List.set_append_right _ _ (Nat.le_refl _)] at gw
            simpa using gw
          · exact hy.elim
        · exact hy.elim
    · exact h2.elim
  · left
    have ei : i = xs.length := by omega
    subst ei
    rw [List.drop_length] at h2
    unfold lcM at h2
    split at h2
    · rename_i hlk
      exact ⟨wk.stop xs.length _ H2 _ (Nat.le_refl _) x2 g2 hlk, hN acc2 S2 H2 hl2 x2 g2 h2⟩
    · exact h2.elim
open Classical in
noncomputable def lc2M (lk : Store → Prop) (g : GM) (t : TM) (im1 : IM) (g1 : GM) (t1 : TM) (e : EM) (own own1 : List Nat) (rho : Slots) : List SV → Store → List SV → Res (List SV × Store)
  | [], S, acc => if lk (S ++ [.lst acc]) then .ok (acc, S) else .stuck
  | x :: xs, S, acc => if lk (S ++ [.lst acc]) then (g x (wipeR rho own) (S ++ [.lst acc])).bind fun r => (t r.1 r.2).bind fun k => if k.1 then (im1 r.1 k.2).bind fun w => match unS S.length w.2 with
      | some q => (lcM w.1.lk g1 t1 e own1 r.1 w.1.xs q.1 q.2).bind fun z => lc2M lk g t im1 g1 t1 e own own1 rho xs z.2 z.1
      | none => .stuck
    else (match unS S.length k.2 with
      | some q => lc2M lk g t im1 g1 t1 e own own1 rho xs q.1 q.2
      | none => .stuck) else .stuck
noncomputable def eLC2 (c : Bool) (im : IM) (g : GM) (t : TM) (im1 : IM) (g1 : GM) (t1 : TM) (e : EM) (own own1 : List Nat) : EM := fun rho S => (im rho S).bind fun w => (noE (lc2M w.1.lk g t im1 g1 t1 e own own1 rho w.1.xs w.2 [])).bind fun r => lcEnd c r.1 r.2
section
variable {X : Cx} {W : XW X.K}
theorem lc2_snd {wi : TI} {im im1 : IM} {is is1 own own1 : List Nat} {g g1 : GM} {t t1 : TM} {e : EM} {cc : Bool} (hown : ∀ i ∈ is, i ∈ own) (hown1 : ∀ i ∈ is1, i ∈ own1)
    (si : ∀ (ph : List Addr) (S : Store) (H : Hp) (sg : L2.St) (rho : Slots) (R : It → Hp → Prop), Good X.K ph H S → SlotsOk X.K ph H sg rho → holds (im rho S) (postI X.K ph H R) (W.rel ph H) → wi sg H R) :
    SndE X W (tLc2 wi (tOfG X.K (XW.none X.K) is g) (tOfT X.K (XW.none X.K) t) (tOfI X.K (XW.none X.K) im1) (tOfG X.K (XW.none X.K) is1 g1) (tOfT X.K (XW.none X.K) t1) (tOf X.K (XW.none X.K) e) own own1) (eLC2 cc im g t im1 g1 t1 e own own1) := by
  intro ph S H sg rho Q gd so h
  refine si ph S H sg rho _ gd so (holds_imp (holds_bind h) (fun w hw => ?_) fun _ _ _ q => q)
  intro ph1 H1 J x1 gg wk D hD
  obtain ⟨⟨xs, lk⟩, S1⟩ := w
  dsimp only at hw gg
  have so1 := so.mono x1
  have x0 : Ext ph1 H1 (ph1 ++ [D]) (upd H1 D (.lst [])) := Ext.cell hD
  have gD : Good X.K (ph1 ++ [D]) (upd H1 D (.lst [])) (S1 ++ [.lst []]) := gg.cell hD ⟨[], upd_same, .nil⟩
  have hl : ph1.length = S1.length := gg.len
  have fin : ∀ (acc : List SV) (S' : Store) (H' : Hp), Ext (ph1 ++ [D]) (upd H1 D (.lst [])) (ph1 ++ [D]) H' → Good X.K (ph1 ++ [D]) H' (S' ++ [.lst acc]) → holds (lcEnd cc acc S') (post X.K ph H Q) (W.rel ph H) → Q (.ref D) H' := fun acc S' H' x' g' q =>
    lcEnd_ok gg hD (x0.trans x') g' (holds_imp q (fun c => post.mono x1 c) fun _ _ _ z => z)
  have start0 : holds (lc2M lk g t im1 g1 t1 e own own1 rho xs S1 []) (fun r => holds (lcEnd cc r.1 r.2) (post X.K ph H Q) (W.rel ph H)) (fun _ _ _ => False) := by
    revert hw
    cases lc2M lk g t im1 g1 t1 e own own1 rho xs S1 [] with
    | ok r => exact fun q => q
    | exc _ _ _ => exact fun q => q.elim
    | stuck => exact fun q => q.elim
  refine ⟨fun i m H' => m = xs.length - i ∧ i ≤ xs.length ∧ ∃ S' acc, S'.length = S1.length ∧ Ext (ph1 ++ [D]) (upd H1 D (.lst [])) (ph1 ++ [D]) H' ∧ Good X.K (ph1 ++ [D]) H' (S' ++ [.lst acc]) ∧
      holds (lc2M lk g t im1 g1 t1 e own own1 rho (xs.drop i) S' acc) (fun r => holds (lcEnd cc r.1 r.2) (post X.K ph H Q) (W.rel ph H)) (fun _ _ _ => False), ⟨_, rfl, Nat.zero_le _, S1, [], rfl, Ext.refl _ _, gD, start0⟩, ?_⟩
  rintro i m H2 ⟨rfl, hle, S2, acc, hl2, x2, g2, h2⟩
  by_cases hi : i < xs.length
  · right
    rw [List.drop_eq_getElem_cons hi] at h2
    unfold lc2M at h2
    split at h2
    · rename_i hlk
      have hx : (⟨xs, lk⟩ : Wk).xs[i]? = some xs[i] := List.getElem?_eq_getElem hi
      refine ⟨wk.go i xs[i] _ H2 _ hx (x0.trans x2) g2 hlk, fun H' => ∃ S' acc, S'.length = S1.length ∧ Ext (ph1 ++ [D]) (upd H1 D (.lst [])) (ph1 ++ [D]) H' ∧ Good X.K (ph1 ++ [D]) H' (S' ++ [.lst acc]) ∧
        holds (lc2M lk g t im1 g1 t1 e own own1 rho (xs.drop (i + 1)) S' acc) (fun r => holds (lcEnd cc r.1 r.2) (post X.K ph H Q) (W.rel ph H)) (fun _ _ _ => False), fun H' q => ⟨xs.length - (i + 1), by omega, rfl, hi, q⟩, fun v H3 y => ?_⟩
      obtain ⟨x3, g3, d3⟩ := wk.yld i xs[i] _ H2 _ v H3 hx (x0.trans x2) g2 hlk y
      have so3 := (so1.mono (x0.trans (x2.trans x3))).wiped own
      refine ⟨_, _, _, xs[i], g3, so3, d3, holds_imp (holds_bind h2) (fun r hr => ?_) fun _ _ _ z => z⟩
      intro ph4 sg4 H4 x4 g4 so4 o4
      refine ⟨wipe_eq hown o4, ph4, r.2, r.1, g4, so4, holds_imp (holds_bind hr) (fun k hk => ?_) fun _ _ _ z => z⟩
      intro ph5 H5 x5 g5
      obtain ⟨kb, S5⟩ := k
      dsimp only at hk g5
      rw [hl2] at hk
      have x35 := x3.trans (x4.trans x5)
      cases kb with
      | false =>
        simp only [Bool.false_eq_true, if_false] at hk ⊢
        split at hk
        · rename_i q hq
          obtain ⟨S6, acc'⟩ := q
          obtain ⟨rfl, rfl, l6⟩ := same_ph hl x35 g5 hq
          exact ⟨S6, acc', l6, x2.trans x35, g5, hk⟩
        · exact hk.elim
      | true =>
        simp only [if_true] at hk ⊢
        refine ⟨ph5, S5, r.1, g5, so4.mono x5, holds_imp (holds_bind hk) (fun w1 hw1 => ?_) fun _ _ _ z => z⟩
        intro ph6 H6 J1 x6 g6 wk1
        have x36 := x35.trans x6
        obtain ⟨⟨xs1, lk1⟩, S7⟩ := w1
        dsimp only at hw1 g6
        split at hw1
        · rename_i q hq
          obtain ⟨S8, acc'⟩ := q
          obtain ⟨rfl, rfl, l8⟩ := same_ph hl x36 g6 hq
          exact in_snd hown1 l8 hl g6 (so4.mono (x5.trans x6)) wk1 _ (fun z => holds (lc2M lk g t im1 g1 t1 e own own1 rho (xs.drop (i + 1)) z.2 z.1) (fun r => holds (lcEnd cc r.1 r.2) (post X.K ph H Q) (W.rel ph H)) (fun _ _ _ => False))
            (fun acc9 S9 H9 l9 x9 g9 q9 => ⟨S9, acc9, l9, (x2.trans x36).trans x9, g9, q9⟩) (holds_bind hw1)
        · exact hw1.elim
    · exact h2.elim
  · left
    have ei : i = xs.length := by omega
    subst ei
    rw [List.drop_length] at h2
    unfold lc2M at h2
    split at h2
    · rename_i hlk
      exact ⟨wk.stop xs.length _ H2 _ (Nat.le_refl _) (x0.trans x2) g2 hlk, fin acc S2 H2 x2 g2 h2⟩
    · exact h2.elim
variable {tg tg1 : Expr} {pos : Pos}
theorem pd_lc2 (cc : Bool) {elt iter iter1 : Expr} {ifs ifs1 : List Expr} {scope : Scope} {own : List (Str × Nat)} {is is1 own1 : List Nat} {im im1 : IM} {g g1 : GM} {t t1 : TM} {e : EM} (hc : X.calm = true) (hN : X.N.Nodup) (hi : PID X W tg iter im) (ok : BlkOk X.N X.env.scope scope own)
    (hg : ∀ (s : Shared) (H : Hp) (C : Addr) (cl : List (Str × Addr)) (fp : List Addr), PGD (Blk X scope s H C cl fp) (XW.none X.K) is tg g) (ht : ∀ (s : Shared) (H : Hp) (C : Addr) (cl : List (Str × Addr)) (fp : List Addr), PDTs (Blk X scope s H C cl fp) (XW.none X.K) ifs t)
    (hi1 : ∀ (s : Shared) (H : Hp) (C : Addr) (cl : List (Str × Addr)) (fp : List Addr), PID (Blk X scope s H C cl fp) (XW.none X.K) tg1 iter1 im1)
    (hg1 : ∀ (s : Shared) (H : Hp) (C : Addr) (cl : List (Str × Addr)) (fp : List Addr), PGD (Blk X scope s H C cl fp) (XW.none X.K) is1 tg1 g1) (ht1 : ∀ (s : Shared) (H : Hp) (C : Addr) (cl : List (Str × Addr)) (fp : List Addr), PDTs (Blk X scope s H C cl fp) (XW.none X.K) ifs1 t1)
    (he : ∀ (s : Shared) (H : Hp) (C : Addr) (cl : List (Str × Addr)) (fp : List Addr), PD (Blk X scope s H C cl fp) (XW.none X.K) elt e) (hown : ∀ i ∈ is, i ∈ own.map (·.2) := by decide) (hown1 : ∀ i ∈ is1, i ∈ own1 := by decide) (hv : ∀ i ∈ own1, i ∈ own.map (·.2) := by decide)
    (hs : ∀ x, foldedSetIterable iter X.env x = pure x := by intro _; rfl) (hs1 : ∀ env x, foldedSetIterable iter1 env x = pure x := by intro _ _; rfl) :
    PD X W (.ListComp elt [⟨tg, iter, ifs, 0⟩, ⟨tg1, iter1, ifs1, 0⟩] scope pos) (eLC2 cc im g t im1 g1 t1 e (own.map (·.2)) own1) := by
  obtain ⟨ti, pi, si⟩ := hi.ex
  exact ⟨_, pe_lc2 (g := tOfG X.K (XW.none X.K) is g) (tt := tOfT X.K (XW.none X.K) t) (wi1 := tOfI X.K (XW.none X.K) im1) (g1 := tOfG X.K (XW.none X.K) is1 g1) (tt1 := tOfT X.K (XW.none X.K) t1) (te := tOf X.K (XW.none X.K) e) hc hN pi ok hv
    (fun s H C cl fp => (hg s H C cl fp).pg) (fun s H C cl fp => (ht s H C cl fp).ts) (fun s H C cl fp => (hi1 s H C cl fp).pi) (fun s H C cl fp => (hg1 s H C cl fp).pg) (fun s H C cl fp => (ht1 s H C cl fp).ts) (fun s H C cl fp => (he s H C cl fp).pe) hs hs1, lc2_snd hown hown1 si⟩
end
end DL

namespace DL
open PySem L2

def WF (S : Store) : Prop := S.all (Cell.below S.length) = true
theorem SV.below_mono {n m : Nat} (h : n ≤ m) {x : SV} (b : x.below n = true) : x.below m = true := by
  cases x with
  | fr _ => rfl
  | cell k => simp only [SV.below, decide_eq_true_eq] at b ⊢; omega
theorem Cell.below_mono {n m : Nat} (h : n ≤ m) {c : Cell} (b : c.below n = true) : c.below m = true := by
  cases c with
  | lst xs =>
    simp only [Cell.below, List.all_eq_true] at b ⊢
    exact fun x hx => SV.below_mono h (b x hx)
  | ins C fs =>
    simp only [Cell.below, List.all_eq_true] at b ⊢
    exact fun x hx => SV.below_mono h (b x hx)
  | tup xs =>
    simp only [Cell.below, List.all_eq_true] at b ⊢
    exact fun x hx => SV.below_mono h (b x hx)
  | dic kvs =>
    simp only [Cell.below, List.all_eq_true] at b ⊢
    exact fun x hx => SV.below_mono h (b x hx)
  | dit kvs =>
    simp only [Cell.below, List.all_eq_true] at b ⊢
    exact fun x hx => SV.below_mono h (b x hx)
  | dil kvs =>
    simp only [Cell.below, List.all_eq_true] at b ⊢
    exact fun x hx => SV.below_mono h (b x hx)
  | dkl kvs =>
    simp only [Cell.below, List.all_eq_true] at b ⊢
    exact fun x hx => SV.below_mono h (b x hx)
  | err C => rfl
  | nd kvs => rfl
theorem wf_nil : WF [] := rfl
theorem WF.snoc {S : Store} {c : Cell} (h : WF S) (hc : c.below (S.length + 1) = true) : WF (S ++ [c]) := by
  unfold WF at h ⊢
  simp only [List.all_append, List.length_append, List.length_singleton, List.all_cons, List.all_nil, hc, Bool.and_true, Bool.and_eq_true, and_true]
  simp only [List.all_eq_true] at h ⊢
  exact fun x hx => Cell.below_mono (by omega) (h x hx)
theorem WF.set {S : Store} {c : Cell} (h : WF S) (k : Nat) (hc : c.below S.length = true) : WF (S.set k c) := by
  unfold WF at h ⊢
  simp only [List.all_eq_true, List.length_set] at h ⊢
  exact fun x hx => (List.mem_or_eq_of_mem_set hx).elim (h x) fun e => e ▸ hc
theorem leave_val {S : Store} (h : WF S) (d : D) : leave S.length (.fr d) S = .ok (.val (.fr d), S) := by
  unfold leave
  rw [List.take_length, if_pos (show S.all (Cell.below S.length) = true from h)]
theorem leave_more {S T : Store} (h : WF S) (d : D) : leave S.length (.fr d) (S ++ T) = .ok (.val (.fr d), S) := by
  unfold leave
  rw [List.take_left' rfl, if_pos (show S.all (Cell.below S.length) = true from h)]
theorem leave_new {S : Store} {c : Cell} (h : WF S) (hc : c.below S.length = true) : leave S.length (.cell S.length) (S ++ [c]) = .ok (.new c, S) := by
  unfold leave
  rw [List.take_left' rfl, if_pos (show S.all (Cell.below S.length) = true from h)]
  simp [hc]

theorem intText_len {i : Int} {k : Nat} (hk : 0 < k) (h : i.natAbs < 10 ^ k) : (PyData.shown (.int i)).length ≤ k + 1 := by
  rw [PyData.shown_int]
  have l : ∀ n : Nat, n < 10 ^ k → n.repr.length ≤ k := fun n hn => by
    have := (Nat.length_toDigits_le_iff (b := 10) (n := n) (by decide) hk).mpr hn
    rw [Nat.repr]
    simpa using this
  show (Str.ofString (Int.repr i)).length ≤ _
  rw [PySem.ofString_length]
  cases i with
  | ofNat n =>
    have := l n (by simpa using h)
    show n.repr.length ≤ _
    omega
  | negSucc n =>
    have := l (n + 1) (by simpa using h)
    show ("-" ++ (n + 1).repr).length ≤ _
    have e : "-".length = 1 := by decide
    rw [String.length_append, e]
    omega

mutual
def fit : Nat → D → Bool
  | _, .non => true
  | _, .bl _ => true
  | _, .int i => decide (i.natAbs < 10 ^ 129)
  | _, .str x => PyData.strOk x
  | n + 1, .tup ds => fits n ds
  | n + 1, .lst ds => fits n ds
  | n + 1, .scr ds => fits n ds
  | _, _ => false
def fits : Nat → List D → Bool
  | _, [] => true
  | n, d :: ds => fit n d && fits n ds
end
theorem log_lt {n k : Nat} (h : n < 2 ^ k) (hk : 0 < k) : n.log2 < k := by
  cases n with
  | zero => rw [Nat.log2_zero]; exact hk
  | succ m => exact (Nat.log2_lt (by omega)).mpr h
structure FitOk (n : Nat) (d : PyData) : Prop where
  lay : d.canLay0 = true
  dep : d.depth ≤ n
  show_ : d.showable = true
  nsh : d.intsShort 130 = true
structure FitsOk (n : Nat) (ds : List PyData) : Prop where
  lay : PyData.canLayAll0 ds = true
  dep : PyData.depthAll ds ≤ n
  show_ : PyData.showableAll ds = true
  nsh : PyData.intsShortAll 130 ds = true
theorem pow_129 : (10 : Nat) ^ 129 < 2 ^ 1920 := by decide +kernel
mutual
theorem fit_p : ∀ (n : Nat) (d : D), fit n d = true → isP d = true ∧ FitOk n (py d)
  | n, .non, _ => ⟨rfl, by simp only [py]; exact ⟨rfl, Nat.zero_le _, rfl, rfl⟩⟩
  | n, .bl b, _ => ⟨rfl, by simp only [py]; exact ⟨rfl, Nat.zero_le _, rfl, rfl⟩⟩
  | n, .int i, h => by
    have h' : i.natAbs < 10 ^ 129 := by simpa only [fit, decide_eq_true_eq] using h
    refine ⟨rfl, ?_⟩
    simp only [py]
    refine ⟨rfl, Nat.zero_le _, ?_, ?_⟩
    · simp only [PyData.showable, decide_eq_true_eq]
      exact log_lt (Nat.lt_trans h' pow_129) (by decide)
    · simp only [PyData.intsShort, decide_eq_true_eq]
      exact intText_len (by decide) h'
  | n, .str x, h => by
    refine ⟨rfl, ?_⟩
    simp only [py]
    exact ⟨by simpa only [fit, PyData.canLay0] using h, Nat.zero_le _, rfl, rfl⟩
  | n + 1, .tup ds, h => by
    obtain ⟨a, b⟩ := fits_p n ds (by simpa only [fit] using h)
    refine ⟨by simpa only [isP] using a, ?_⟩
    simp only [py]
    exact ⟨by simpa only [PyData.canLay0] using b.lay, by simp only [PyData.depth]; have := b.dep; omega, by simpa only [PyData.showable] using b.show_, by simpa only [PyData.intsShort] using b.nsh⟩
  | n + 1, .lst ds, h => by
    obtain ⟨a, b⟩ := fits_p n ds (by simpa only [fit] using h)
    refine ⟨by simpa only [isP] using a, ?_⟩
    simp only [py]
    exact ⟨by simpa only [PyData.canLay0] using b.lay, by simp only [PyData.depth]; have := b.dep; omega, by simpa only [PyData.showable] using b.show_, by simpa only [PyData.intsShort] using b.nsh⟩
  | n + 1, .scr ds, h => by
    obtain ⟨a, b⟩ := fits_p n ds (by simpa only [fit] using h)
    refine ⟨by simpa only [isP] using a, ?_⟩
    simp only [py]
    exact ⟨by simpa only [PyData.canLay0] using b.lay, by simp only [PyData.depth]; have := b.dep; omega, by simpa only [PyData.showable] using b.show_, by simpa only [PyData.intsShort] using b.nsh⟩
  | 0, .tup _, h => by simp [fit] at h
  | 0, .lst _, h => by simp [fit] at h
  | 0, .scr _, h => by simp [fit] at h
  | n, .ty _, h => by cases n <;> simp [fit] at h
  | n, .ref _, h => by cases n <;> simp [fit] at h
  | n, .ins _ _, h => by cases n <;> simp [fit] at h
  | n, .cls _, h => by cases n <;> simp [fit] at h
  | n, .exn _ _ _ _, h => by cases n <;> simp [fit] at h
  | n, .dct _, h => by cases n <;> simp [fit] at h
theorem fits_p : ∀ (n : Nat) (ds : List D), fits n ds = true → isPs ds = true ∧ FitsOk n (pys ds)
  | n, [], _ => ⟨rfl, by simp only [pys]; exact ⟨rfl, Nat.zero_le _, rfl, rfl⟩⟩
  | n, d :: ds, h => by
    have h' : fit n d = true ∧ fits n ds = true := by simpa only [fits, Bool.and_eq_true] using h
    obtain ⟨a, b⟩ := fit_p n d h'.1
    obtain ⟨a2, b2⟩ := fits_p n ds h'.2
    refine ⟨by simp only [isPs, a, a2, Bool.and_self], ?_⟩
    simp only [pys]
    exact ⟨by simp only [PyData.canLayAll0, b.lay, b2.lay, Bool.and_self], by simp only [PyData.depthAll]; have := b.dep; have := b2.dep; omega, by simp only [PyData.showableAll, b.show_, b2.show_, Bool.and_self], by simp only [PyData.intsShortAll, b.nsh, b2.nsh, Bool.and_self]⟩
end
theorem fit_plain {d : D} (h : fit 64 d = true) : plain d = true := by
  obtain ⟨a, b⟩ := fit_p 64 d h
  unfold plain SeqAt.shaped
  simp only [a, b.lay, b.dep, decide_true, Bool.and_self]
theorem fit_deq {d : D} (h : fit 64 d = true) : deq d d = true := SeqAt.eqv_refl _ (fit_p 64 d h).2.lay
theorem fit_rOk {d : D} (h : fit 64 d = true) (hb : (py d).bulk ≤ 100000) : rOk d = true := by
  obtain ⟨a, b⟩ := fit_p 64 d h
  unfold rOk
  simp only [a, b.show_, PyData.leavesShort_of_canLay0 130 _ b.lay b.nsh, hb, decide_true, Bool.and_self]
theorem fits_all {n : Nat} : ∀ {ds : List D}, (∀ d ∈ ds, fit n d = true) → fits n ds = true
  | [], _ => by simp only [fits]
  | d :: ds, h => by
    simp only [fits, h d List.mem_cons_self, fits_all fun x hx => h x (List.mem_cons_of_mem _ hx), Bool.and_self]
theorem r_bind {α β : Type} (x : α) (f : α → Res β) : (Res.ok x).bind f = f x := id rfl
theorem r_okV (d : D) (S : Store) : okV d S = .ok (.fr d, S) := id rfl
theorem r_snap (S : Store) (d : D) : snap S (.fr d) = some d := id rfl
theorem r_add (c : Bool) (i j : Int) (S : Store) : addG c (.fr (.int i)) (.fr (.int j)) S = .ok (.fr (.int (i + j)), S) := id rfl
theorem r_sub (i j : Int) (S : Store) : subG (.fr (.int i)) (.fr (.int j)) S = .ok (.fr (.int (i - j)), S) := id rfl
theorem r_neg (i : Int) (S : Store) : negG (.fr (.int i)) S = .ok (.fr (.int (-i)), S) := id rfl
theorem r_mul (c : Bool) (i j : Int) (S : Store) : mulG c (.fr (.int i)) (.fr (.int j)) S = if CMul i j ∨ CMulW i j then .ok (.fr (.int (i * j)), S) else .stuck := id rfl
theorem r_fdiv (i j : Int) (S : Store) : fdivG (.fr (.int i)) (.fr (.int j)) S = if CDiv i j ∨ CDivW i j then .ok (.fr (.int (i / j)), S) else .stuck := id rfl
theorem r_mod (i j : Int) (S : Store) : modG (.fr (.int i)) (.fr (.int j)) S = if 0 < j then .ok (.fr (.int (i % j)), S) else .stuck := id rfl
theorem r_pow (i j : Int) (S : Store) : powG (.fr (.int i)) (.fr (.int j)) S = if CPow i j then .ok (.fr (.int (i ^ j.toNat)), S) else .stuck := id rfl
theorem r_cmp (p : Int → Int → Bool) (i j : Int) (S : Store) : cmpG p (.fr (.int i)) (.fr (.int j)) S = .ok (.fr (.bl (p i j)), S) := id rfl
theorem r_is (n : Bool) (a : SV) (S : Store) : isG n a (.fr .non) S = .ok (.fr (.bl (if n then !isNon a else isNon a)), S) := id rfl
theorem r_eq (n : Bool) {a b : SV} {d e : D} {r : Bool} {S : Store} (h1 : snap S a = some d) (h2 : snap S b = some e) (h3 : eqD d e = some r) : eqG n a b S = .ok (.fr (.bl (if n then !r else r)), S) := by
  unfold eqG
  simp only [h1, h2, h3, okV]
theorem plain_int (i : Int) : plain (.int i) = true := by simp [plain, isP, py, SeqAt.shaped, PyData.canLay0, PyData.depth]
theorem eqD_int (i j : Int) : eqD (.int i) (.int j) = some (decide (i = j)) := by
  simp only [eqD, plain_int, deq, py, PyData.eqv, Bool.and_self, if_true]
  rfl
theorem r_eqI (n : Bool) (i j : Int) (S : Store) : eqG n (.fr (.int i)) (.fr (.int j)) S = .ok (.fr (.bl (if n then !decide (i = j) else decide (i = j))), S) := r_eq n rfl rfl (eqD_int i j)
theorem r_abs (i : Int) (S : Store) : absG [.fr (.int i)] S = .ok (.fr (.int (if i < 0 then -i else i)), S) := id rfl
theorem r_int (i : Int) (S : Store) : intG [.fr (.int i)] S = .ok (.fr (.int i), S) := id rfl
theorem r_max (i j : Int) (S : Store) : max2G [.fr (.int i), .fr (.int j)] S = .ok (.fr (.int (max i j)), S) := by
  show okV (.int (if j > i then j else i)) S = _
  rw [r_okV]
  congr 4
  omega
theorem r_min (i j : Int) (S : Store) : min2G [.fr (.int i), .fr (.int j)] S = .ok (.fr (.int (min i j)), S) := by
  show okV (.int (if j < i then j else i)) S = _
  rw [r_okV]
  congr 4
  omega
theorem r_newC {xs : List SV} {S : Store} (hl : xs.length ≤ sizeLine) : newL true xs S = .ok (.cell S.length, S ++ [.lst xs]) := by
  unfold newL
  rw [if_pos hl]
  rfl
theorem atI_nat {α : Type} (xs : List α) (n : Nat) : atI xs (n : Int) = xs[n]? := by
  unfold atI ixN
  by_cases h : n < xs.length
  · rw [if_pos (by omega), if_pos (by omega)]; simp
  · rw [if_pos (by omega), if_neg (by omega)]; simp [List.getElem?_eq_none (Nat.le_of_not_lt h)]
theorem r_lenL {a : SV} {xs : List SV} {S : Store} (h : rdS S a = some xs) : lenG [a] S = .ok (.fr (.int xs.length), S) := by
  unfold lenG lenS
  simp only [h, okV]
theorem r_lenF {ds : List D} {S : Store} : lenG [.fr (.lst ds)] S = .ok (.fr (.int ds.length), S) := by
  rw [r_lenL rfl, List.length_map]
theorem r_lenT {ds : List D} {S : Store} : lenG [.fr (.tup ds)] S = .ok (.fr (.int ds.length), S) := id rfl
noncomputable def alikeM : FnM := fnM 2 2 (sRet (eAnd (e2 (eqG false) (eV 0) (eV 1)) (e2 (eqG false) (eA reprG (aC (eV 0) aN)) (eA reprG (aC (eV 1) aN)))))
noncomputable def bagM : FnM := fnM 1 3 (sRet (eA (newL true) (aC (eC (.int 0)) (aC (eC (.int 1234567891)) (aC (eC (.int 0)) (aC (eLC false (iSeq (eSl false (eV 0) pN (pS (eC (.int 63))))) (gNm 2) tTr (eA absG (aC (eV 2) aN)) [1, 2]) aN))))))
noncomputable def takeA : SM := (sIf (tB (e2 (eqG false) (e2 ixG (eV 0) (eC (.int 0))) (eC (.int 0)))) (sSeq (sSet 2 (eC (.int 0)))
    (sSeq (sIf (tB (e2 (ltG) (e2 ixG (eV 0) (eC (.int 2))) (eA lenG (aC (e2 ixG (eV 0) (eC (.int 3))) aN)))) (sSet 2 (e2 ixG (e2 ixG (eV 0) (eC (.int 3))) (e2 ixG (eV 0) (eC (.int 2))))) sNx)
    (sSeq (sAugS (eV 0) (eC (.int 2)) (eC (.int 1)))
    (sSeq (sIf (tB (e2 (geG) (eV 2) (eC (.int 1000000000000000000)))) (sAs (eV 2) (gSb (eV 0) (eC (.int 0)))) sNx)
    (sSeq (sSet 3 (e2 (addG false) (e2 (addG false) (e2 (mulG false) (e2 ixG (eV 0) (eC (.int 1))) (eC (.int 48271))) (e2 (modG) (eA intG (aC (eV 2) aN)) (eC (.int 2147483647)))) (e2 (mulG false) (eC (.int 7919)) (e2 ixG (eV 0) (eC (.int 2))))))
    (sAs (e2 (modG) (eA intG (aC (eV 3) aN)) (eC (.int 2147483647))) (gSb (eV 0) (eC (.int 1))))))))) sNx)
noncomputable def takeB : SM := (sSeq (sIf (tB (e2 (gtG) (e2 ixG (eV 0) (eC (.int 0))) (eC (.int 0)))) (sSeq (sSet 4 (e2 (modG) (eA intG (aC (e2 ixG (eV 0) (eC (.int 0))) aN)) (eV 1)))
    (sSeq (sAs (e2 (fdivG) (e2 ixG (eV 0) (eC (.int 0))) (eV 1)) (gSb (eV 0) (eC (.int 0))))
    (sRet (eV 4)))) sNx)
    (sSeq (sSet 5 (e2 (modG) (eA intG (aC (e2 (mulG false) (e2 (addG false) (e2 ixG (eV 0) (eC (.int 1))) (eC (.int 1))) (eC (.int 39373))) aN)) (eC (.int 1000000007))))
    (sSeq (sSet 6 (e2 (modG) (eA intG (aC (e2 (mulG false) (e2 (modG) (eA intG (aC (e2 (mulG false) (eV 5) (eV 5)) aN)) (eC (.int 998244353))) (eC (.int 30011))) aN)) (eC (.int 998244353))))
    (sSeq (sIf (tB (e2 (gtG) (eV 1) (eC (.int 1000000)))) (sRet (e2 (modG) (eA intG (aC (e2 (addG false) (e2 (mulG false) (eV 6) (eC (.int 1000000007))) (eV 5)) aN)) (eV 1))) sNx)
    (sRet (e2 (modG) (eA intG (aC (e2 (fdivG) (eV 6) (eC (.int 7))) aN)) (eV 1)))))))
noncomputable def takeM : FnM := fnM 2 7 (sSeq takeA takeB)
theorem eqD_refl {d : D} (h : fit 64 d = true) : eqD d d = some true := by
  have h1 := fit_plain h
  have h2 := fit_deq h
  unfold eqD
  split
  · simp
  · rw [h1, h2]; rfl
theorem eqD_str (x : Str) : eqD (.str x) (.str x) = some true := by simp [eqD]
theorem alike_run {S : Store} {a b : SV} {d : D} (wf : WF S) (ha : snap S a = some d) (hb : snap S b = some d) (hf : fit 64 d = true) (hk : (py d).bulk ≤ 100000) : alikeM [a, b] S = .ok (.val (.fr (.bl true)), S) := by
  have hp := fit_plain hf
  have hr := fit_rOk hf hk
  have hd := eqD_refl hf
  simp [alikeM, fnM, sRet, eAnd, eTr, e2, eV, eA, aC, aN, eqG, reprG, r_bind, ha, hb, hp, hr, hd, okV, truth, truthD, r_snap, eqD_str, leaveF, leave_val wf]
end DL

namespace DL
open PySem L2

def Ends {α : Type} (r : Res α) (Q : α → Prop) : Prop := ∃ a, r = .ok a ∧ Q a
theorem s_ends {α : Type} (a : α) (Q : α → Prop) : Ends (.ok a) Q = Q a := propext ⟨fun ⟨b, e, h⟩ => by cases e; exact h, fun h => ⟨a, rfl, h⟩⟩
section
variable {g g' : G2} {a b c : EM} {rho : Slots} {S : Store} {x y : SV} {m : AM} {t u : TM} {p q : SM}
def k_1 (g : G1) (r : SV × Store) : Res (SV × Store) := g r.1 r.2
theorem r_1 (g : G1) : e1 g a rho S = (a rho S).bind (k_1 g) := id rfl
theorem s_1 (g : G1) : k_1 g (x, S) = g x S := id rfl
def k_2b (g : G2) (x : SV) (r : SV × Store) : Res (SV × Store) := g x r.1 r.2
def k_2 (g : G2) (b : EM) (rho : Slots) (r : SV × Store) : Res (SV × Store) := (b rho r.2).bind (k_2b g r.1)
theorem r_2 : e2 g a b rho S = (a rho S).bind (k_2 g b rho) := id rfl
theorem s_2 : k_2 g b rho (x, S) = (b rho S).bind (k_2b g x) := id rfl
theorem s_2b : k_2b g x (y, S) = g x y S := id rfl
def k_v (S : Store) : Option (Option SV) → Res (SV × Store)
  | some (some x) => .ok (x, S)
  | _ => .stuck
theorem r_v (i : Nat) : eV i rho S = k_v S rho[i]? := by
  unfold eV k_v
  split <;> first | rfl | (split <;> simp_all)
theorem s_v : k_v S (some (some x)) = .ok (x, S) := id rfl
theorem r_c (d : D) : eC d rho S = .ok (.fr d, S) := id rfl
theorem r_n : aN rho S = .ok ([], S) := id rfl
def k_ab (x : SV) (r : List SV × Store) : Res (List SV × Store) := .ok (x :: r.1, r.2)
def k_a (m : AM) (rho : Slots) (r : SV × Store) : Res (List SV × Store) := (m rho r.2).bind (k_ab r.1)
theorem r_a : aC a m rho S = (a rho S).bind (k_a m rho) := id rfl
theorem s_a : k_a m rho (x, S) = (m rho S).bind (k_ab x) := id rfl
theorem s_ab (xs : List SV) : k_ab x (xs, S) = .ok (x :: xs, S) := id rfl
def k_g (g : GA) (r : List SV × Store) : Res (SV × Store) := g r.1 r.2
theorem r_g (g : GA) : eA g m rho S = (m rho S).bind (k_g g) := id rfl
theorem s_g (g : GA) (xs : List SV) : k_g g (xs, S) = g xs S := id rfl
def k_and (b : EM) (rho : Slots) (x : SV) (S : Store) : Option Bool → Res (SV × Store)
  | some true => b rho S
  | some false => .ok (x, S)
  | none => .stuck
def k_And (b : EM) (rho : Slots) (r : SV × Store) : Res (SV × Store) := k_and b rho r.1 r.2 (truth r.2 r.1)
theorem r_and : eAnd a b rho S = (a rho S).bind (k_And b rho) := by
  unfold eAnd eTr
  congr 1
theorem s_And : k_And b rho (x, S) = k_and b rho x S (truth S x) := id rfl
theorem s_and1 : k_and b rho x S (some true) = b rho S := id rfl
theorem s_and0 : k_and b rho x S (some false) = .ok (x, S) := id rfl
def k_or (b : EM) (rho : Slots) (x : SV) (S : Store) : Option Bool → Res (SV × Store)
  | some true => .ok (x, S)
  | some false => b rho S
  | none => .stuck
def k_Or (b : EM) (rho : Slots) (r : SV × Store) : Res (SV × Store) := k_or b rho r.1 r.2 (truth r.2 r.1)
theorem r_or : eOr a b rho S = (a rho S).bind (k_Or b rho) := by
  unfold eOr eTr
  congr 1
theorem s_Or : k_Or b rho (x, S) = k_or b rho x S (truth S x) := id rfl
theorem s_or1 : k_or b rho x S (some true) = .ok (x, S) := id rfl
theorem s_or0 : k_or b rho x S (some false) = b rho S := id rfl
def k_not (S : Store) : Option Bool → Res (SV × Store)
  | some v => .ok (.fr (.bl (!v)), S)
  | none => .stuck
def k_Not (r : SV × Store) : Res (SV × Store) := k_not r.2 (truth r.2 r.1)
theorem r_not : eNot a rho S = (a rho S).bind k_Not := by
  unfold eNot eTr
  congr 1
  funext z
  unfold k_Not k_not
  split <;> first | rfl | (split <;> simp_all [okV])
theorem s_Not : k_Not (x, S) = k_not S (truth S x) := id rfl
theorem s_not (v : Bool) : k_not S (some v) = .ok (.fr (.bl (!v)), S) := id rfl
def k_if (a b : EM) (rho : Slots) (r : Bool × Store) : Res (SV × Store) := if r.1 then a rho r.2 else b rho r.2
theorem r_if : eIf t a b rho S = (t rho S).bind (k_if a b rho) := id rfl
theorem s_if1 : k_if a b rho (true, S) = a rho S := id rfl
theorem s_if0 : k_if a b rho (false, S) = b rho S := id rfl
def k_chc (g' : G2) (y : SV) (r : SV × Store) : Res (SV × Store) := g' y r.1 r.2
def k_chb (g' : G2) (c : EM) (rho : Slots) (y : SV) (r : SV × Store) : Res (SV × Store) := match r.1 with
  | .fr (.bl true) => (c rho r.2).bind (k_chc g' y)
  | .fr (.bl false) => .ok (.fr (.bl false), r.2)
  | _ => .stuck
def k_cha (g g' : G2) (c : EM) (rho : Slots) (x : SV) (r : SV × Store) : Res (SV × Store) := (g x r.1 r.2).bind (k_chb g' c rho r.1)
def k_ch (g g' : G2) (b c : EM) (rho : Slots) (r : SV × Store) : Res (SV × Store) := (b rho r.2).bind (k_cha g g' c rho r.1)
theorem r_ch : eCh g g' a b c rho S = (a rho S).bind (k_ch g g' b c rho) := id rfl
theorem s_ch : k_ch g g' b c rho (x, S) = (b rho S).bind (k_cha g g' c rho x) := id rfl
theorem s_cha : k_cha g g' c rho x (y, S) = (g x y S).bind (k_chb g' c rho y) := id rfl
theorem s_chb1 : k_chb g' c rho y (.fr (.bl true), S) = (c rho S).bind (k_chc g' y) := id rfl
theorem s_chb0 : k_chb g' c rho y (.fr (.bl false), S) = .ok (.fr (.bl false), S) := id rfl
theorem s_chc : k_chc g' y (x, S) = g' y x S := id rfl
def k_tB (r : SV × Store) : Res (Bool × Store) := match r.1 with
  | .fr (.bl k) => .ok (k, r.2)
  | _ => .stuck
theorem r_tB : tB a rho S = (a rho S).bind k_tB := id rfl
theorem s_tB (k : Bool) : k_tB (.fr (.bl k), S) = .ok (k, S) := id rfl
def k_tv (S : Store) : Option Bool → Res (Bool × Store)
  | some v => .ok (v, S)
  | none => .stuck
def k_tV (r : SV × Store) : Res (Bool × Store) := k_tv r.2 (truth r.2 r.1)
theorem r_tV : tV a rho S = (a rho S).bind k_tV := by
  unfold tV
  congr 1
theorem s_tV : k_tV (x, S) = k_tv S (truth S x) := id rfl
theorem s_tv (v : Bool) : k_tv S (some v) = .ok (v, S) := id rfl
def k_tN (r : Bool × Store) : Res (Bool × Store) := .ok (!r.1, r.2)
theorem r_tN : tNt t rho S = (t rho S).bind k_tN := id rfl
theorem s_tN (v : Bool) : k_tN (v, S) = .ok (!v, S) := id rfl
def k_tA (u : TM) (rho : Slots) (r : Bool × Store) : Res (Bool × Store) := if r.1 then u rho r.2 else .ok (false, r.2)
theorem r_tA : tAn t u rho S = (t rho S).bind (k_tA u rho) := id rfl
theorem s_tA1 : k_tA u rho (true, S) = u rho S := id rfl
theorem s_tA0 : k_tA u rho (false, S) = .ok (false, S) := id rfl
def k_tO (u : TM) (rho : Slots) (r : Bool × Store) : Res (Bool × Store) := if r.1 then .ok (true, r.2) else u rho r.2
theorem r_tO : tOo t u rho S = (t rho S).bind (k_tO u rho) := id rfl
theorem s_tO1 : k_tO u rho (true, S) = .ok (true, S) := id rfl
theorem s_tO0 : k_tO u rho (false, S) = u rho S := id rfl
theorem r_tT : tTr rho S = .ok (true, S) := id rfl
theorem r_trB (v : Bool) : truth S (.fr (.bl v)) = some v := id rfl
theorem r_trI (i : Int) : truth S (.fr (.int i)) = some (i != 0) := id rfl
theorem r_trN : truth S (.fr .non) = some false := id rfl
def k_call (f : FnM) (cc : Bool) (r : List SV × Store) : Res (SV × Store) := (noX (f r.1 r.2)).bind (back cc)
theorem r_call (f : FnM) (cc : Bool) : eCall f cc m rho S = (m rho S).bind (k_call f cc) := id rfl
theorem s_call (f : FnM) (cc : Bool) (xs : List SV) : k_call f cc (xs, S) = (noX (f xs S)).bind (back cc) := id rfl
theorem s_noX (r : RV × Store) : noX (.ok r) = .ok r := id rfl
theorem s_backV (cc : Bool) : back cc (.val x, S) = .ok (x, S) := id rfl
theorem s_backC (l : Cell) : back true (.new l, S) = .ok (.cell S.length, S ++ [l]) := id rfl
def k_frz (S : Store) : Option D → Res (SV × Store)
  | some d => .ok (.fr d, S)
  | none => .stuck
theorem s_backF (l : Cell) : back false (.new l, S) = k_frz S (freeze l) := id rfl
theorem s_frz (d : D) : k_frz S (some d) = .ok (.fr d, S) := id rfl
theorem r_frz (xs : List SV) : freeze (.lst xs) = (allFr xs).map D.lst := id rfl
theorem r_all0 : allFr [] = some [] := id rfl
theorem r_all1 (d : D) (xs : List SV) : allFr (.fr d :: xs) = (allFr xs).map (d :: ·) := id rfl
theorem r_fn1 (n : Nat) (bd : SM) : fnM 1 n bd [x] S = (bd (some x :: List.replicate (n - 1) none) S).bind (leaveF S.length) := id rfl
theorem r_fn2 (n : Nat) (bd : SM) : fnM 2 n bd [x, y] S = (bd (some x :: some y :: List.replicate (n - 2) none) S).bind (leaveF S.length) := id rfl
theorem r_fn3 (n : Nat) (bd : SM) (z : SV) : fnM 3 n bd [x, y, z] S = (bd (some x :: some y :: some z :: List.replicate (n - 3) none) S).bind (leaveF S.length) := id rfl
theorem r_fn4 (n : Nat) (bd : SM) (z w : SV) : fnM 4 n bd [x, y, z, w] S = (bd (some x :: some y :: some z :: some w :: List.replicate (n - 4) none) S).bind (leaveF S.length) := id rfl
theorem r_fn5 (n : Nat) (bd : SM) (z w v : SV) : fnM 5 n bd [x, y, z, w, v] S = (bd (some x :: some y :: some z :: some w :: some v :: List.replicate (n - 5) none) S).bind (leaveF S.length) := id rfl
theorem s_lvR (n : Nat) : leaveF n (.rt x, rho, S) = leave n x S := id rfl
theorem s_lvN (n : Nat) : leaveF n (.nx, rho, S) = leave n (.fr .non) S := id rfl
theorem r_nx : sNx rho S = .ok (.nx, rho, S) := id rfl
theorem r_bk : sBk rho S = .ok (.bk, rho, S) := id rfl
theorem r_ct : sCt rho S = .ok (.ct, rho, S) := id rfl
def k_seq (q : SM) (r : Fl × Slots × Store) : Res (Fl × Slots × Store) := match r.1 with
  | .nx => q r.2.1 r.2.2
  | f => .ok (f, r.2.1, r.2.2)
theorem r_seq : sSeq p q rho S = (p rho S).bind (k_seq q) := id rfl
theorem s_seqN : k_seq q (.nx, rho, S) = q rho S := id rfl
theorem s_seqR : k_seq q (.rt x, rho, S) = .ok (.rt x, rho, S) := id rfl
theorem s_seqB : k_seq q (.bk, rho, S) = .ok (.bk, rho, S) := id rfl
theorem s_seqC : k_seq q (.ct, rho, S) = .ok (.ct, rho, S) := id rfl
def k_ret (rho : Slots) (r : SV × Store) : Res (Fl × Slots × Store) := .ok (.rt r.1, rho, r.2)
theorem r_ret : sRet a rho S = (a rho S).bind (k_ret rho) := id rfl
theorem s_ret : k_ret rho (x, S) = .ok (.rt x, rho, S) := id rfl
theorem r_retN : sRetN rho S = .ok (.rt (.fr .non), rho, S) := id rfl
def k_sif (p q : SM) (rho : Slots) (r : Bool × Store) : Res (Fl × Slots × Store) := if r.1 then p rho r.2 else q rho r.2
theorem r_sif : sIf t p q rho S = (t rho S).bind (k_sif p q rho) := id rfl
theorem s_sif1 : k_sif p q rho (true, S) = p rho S := id rfl
theorem s_sif0 : k_sif p q rho (false, S) = q rho S := id rfl
def k_ex (rho : Slots) (r : SV × Store) : Res (Fl × Slots × Store) := .ok (.nx, rho, r.2)
theorem r_ex : sEx a rho S = (a rho S).bind (k_ex rho) := id rfl
theorem s_ex : k_ex rho (x, S) = .ok (.nx, rho, S) := id rfl
def k_set (i : Nat) (rho : Slots) (r : SV × Store) : Res (Fl × Slots × Store) := .ok (.nx, rho.set i (some r.1), r.2)
theorem r_set (i : Nat) : sSet i a rho S = (a rho S).bind (k_set i rho) := id rfl
theorem s_set (i : Nat) : k_set i rho (x, S) = .ok (.nx, rho.set i (some x), S) := id rfl
def k_par (i j : Nat) (rho : Slots) (r : List SV × Store) : Res (Fl × Slots × Store) := match r.1 with
  | [u, v] => .ok (.nx, (rho.set i (some u)).set j (some v), r.2)
  | _ => .stuck
theorem r_par (i j : Nat) : sPar i j m rho S = (m rho S).bind (k_par i j rho) := id rfl
theorem s_par (i j : Nat) : k_par i j rho ([x, y], S) = .ok (.nx, (rho.set i (some x)).set j (some y), S) := id rfl
def k_gb (r : Slots × Store) : Res (Fl × Slots × Store) := .ok (.nx, r.1, r.2)
def k_as (gm : GM) (rho : Slots) (r : SV × Store) : Res (Fl × Slots × Store) := (gm r.1 rho r.2).bind k_gb
theorem r_as (gm : GM) : sAs a gm rho S = (a rho S).bind (k_as gm rho) := id rfl
theorem s_as (gm : GM) : k_as gm rho (x, S) = (gm x rho S).bind k_gb := id rfl
theorem s_gb : k_gb (rho, S) = .ok (.nx, rho, S) := id rfl
theorem r_gNm (i : Nat) : gNm i x rho S = .ok (rho.set i (some x), S) := id rfl
theorem r_gNl : gNl [] rho S = .ok (rho, S) := id rfl
def k_gCs (ms : GMs) (xs : List SV) (r : Slots × Store) : Res (Slots × Store) := ms xs r.1 r.2
theorem r_gCs (gm : GM) (ms : GMs) (xs : List SV) : gCs gm ms (x :: xs) rho S = (gm x rho S).bind (k_gCs ms xs) := id rfl
theorem s_gCs (ms : GMs) (xs : List SV) : k_gCs ms xs (rho, S) = ms xs rho S := id rfl
theorem r_gTu2 (ms : GMs) (d e : D) : gTu 2 ms (.fr (.tup [d, e])) rho S = ms [.fr d, .fr e] rho S := id rfl
theorem r_gTu3 (ms : GMs) (d e f : D) : gTu 3 ms (.fr (.tup [d, e, f])) rho S = ms [.fr d, .fr e, .fr f] rho S := id rfl
theorem r_gTu4 (ms : GMs) (d e f h : D) : gTu 4 ms (.fr (.tup [d, e, f, h])) rho S = ms [.fr d, .fr e, .fr f, .fr h] rho S := id rfl
def k_st (rho : Slots) (S' : Store) : Res (Slots × Store) := .ok (rho, S')
def k_sb2 (rho : Slots) (v o : SV) (r : SV × Store) : Res (Slots × Store) := (setL o r.1 v r.2).bind (k_st rho)
def k_sb (mi : EM) (rho : Slots) (v : SV) (r : SV × Store) : Res (Slots × Store) := (mi rho r.2).bind (k_sb2 rho v r.1)
theorem r_gSb : gSb a b x rho S = (a rho S).bind (k_sb b rho x) := id rfl
theorem s_sb : k_sb b rho y (x, S) = (b rho S).bind (k_sb2 rho y x) := id rfl
theorem s_sb2 (v : SV) : k_sb2 rho y x (v, S) = (setL x v y S).bind (k_st rho) := id rfl
theorem s_st : k_st rho S = .ok (rho, S) := id rfl
def k_nxS (rho : Slots) (S' : Store) : Res (Fl × Slots × Store) := .ok (.nx, rho, S')
theorem s_nxS : k_nxS rho S = .ok (.nx, rho, S) := id rfl
def k_au3 (rho : Slots) (o i : SV) (S : Store) : Option SV → Res (Fl × Slots × Store)
  | some z => (setL o i z S).bind (k_nxS rho)
  | none => .stuck
def k_au2 (rho : Slots) (o i old : SV) (r : SV × Store) : Res (Fl × Slots × Store) := k_au3 rho o i r.2 (addI old r.1)
def k_au1 (me : EM) (rho : Slots) (o i : SV) (S : Store) : Option SV → Res (Fl × Slots × Store)
  | some old => (me rho S).bind (k_au2 rho o i old)
  | none => .stuck
def k_au0 (me : EM) (rho : Slots) (o : SV) (r : SV × Store) : Res (Fl × Slots × Store) := k_au1 me rho o r.1 r.2 (getL o r.1 r.2)
def k_au (mi me : EM) (rho : Slots) (r : SV × Store) : Res (Fl × Slots × Store) := (mi rho r.2).bind (k_au0 me rho r.1)
theorem r_au : sAugS a b c rho S = (a rho S).bind (k_au b c rho) := by
  unfold sAugS
  congr 1
theorem s_au : k_au b c rho (x, S) = (b rho S).bind (k_au0 c rho x) := id rfl
theorem s_au0 : k_au0 c rho x (y, S) = k_au1 c rho x y S (getL x y S) := id rfl
theorem s_au1 (o i : SV) : k_au1 c rho o i S (some x) = (c rho S).bind (k_au2 rho o i x) := id rfl
theorem s_au2 (o i old : SV) : k_au2 rho o i old (x, S) = k_au3 rho o i S (addI old x) := id rfl
theorem s_au3 (o i : SV) : k_au3 rho o i S (some x) = (setL o i x S).bind (k_nxS rho) := id rfl
theorem r_addI (i j : Int) : addI (.fr (.int i)) (.fr (.int j)) = some (.fr (.int (i + j))) := id rfl
noncomputable def k_for (gm : GM) (bd : SM) (rho : Slots) (r : Wk × Store) : Res (Fl × Slots × Store) := loopM r.1.lk gm bd r.1.xs rho r.2
theorem r_for (im : IM) (gm : GM) (bd : SM) : sFor im gm bd rho S = (im rho S).bind (k_for gm bd rho) := id rfl
theorem s_for (gm : GM) (bd : SM) (w : Wk) : k_for gm bd rho (w, S) = loopM w.lk gm bd w.xs rho S := id rfl
noncomputable def k_turn (lk : Store → Prop) (gm : GM) (bd : SM) (xs : List SV) (q : Fl × Slots × Store) : Res (Fl × Slots × Store) := match q.1 with
  | .nx => loopM lk gm bd xs q.2.1 q.2.2
  | .ct => loopM lk gm bd xs q.2.1 q.2.2
  | .bk => .ok (.nx, q.2.1, q.2.2)
  | .rt v => .ok (.rt v, q.2.1, q.2.2)
def k_body (bd : SM) (r : Slots × Store) : Res (Fl × Slots × Store) := bd r.1 r.2
theorem s_body (bd : SM) : k_body bd (rho, S) = bd rho S := id rfl
theorem res_assoc {α β γ : Type} (r : Res α) (f : α → Res β) (h : β → Res γ) : (r.bind f).bind h = r.bind fun x => (f x).bind h := by cases r <;> rfl
theorem loop_nil {lk : Store → Prop} (gm : GM) (bd : SM) (h : lk S) : loopM lk gm bd [] rho S = .ok (.nx, rho, S) := by
  unfold loopM
  rw [if_pos h]
theorem loop_cons {lk : Store → Prop} (gm : GM) (bd : SM) (xs : List SV) (h : lk S) : loopM lk gm bd (x :: xs) rho S = ((gm x rho S).bind (k_body bd)).bind (k_turn lk gm bd xs) := by
  rw [res_assoc]
  conv => lhs; unfold loopM
  rw [if_pos h]
  rfl
theorem s_turnN (lk : Store → Prop) (gm : GM) (bd : SM) (xs : List SV) : k_turn lk gm bd xs (.nx, rho, S) = loopM lk gm bd xs rho S := id rfl
theorem s_turnC (lk : Store → Prop) (gm : GM) (bd : SM) (xs : List SV) : k_turn lk gm bd xs (.ct, rho, S) = loopM lk gm bd xs rho S := id rfl
theorem s_turnB (lk : Store → Prop) (gm : GM) (bd : SM) (xs : List SV) : k_turn lk gm bd xs (.bk, rho, S) = .ok (.nx, rho, S) := id rfl
theorem s_turnR (lk : Store → Prop) (gm : GM) (bd : SM) (xs : List SV) : k_turn lk gm bd xs (.rt x, rho, S) = .ok (.rt x, rho, S) := id rfl
theorem loop_inv {lk : Store → Prop} (gm : GM) (bd : SM) (J : List SV → Slots → Store → Prop) (hl : ∀ xs rho S, J xs rho S → lk S)
    (step : ∀ x xs rho S, J (x :: xs) rho S → ∃ rho' S', (gm x rho S).bind (k_body bd) = .ok (.nx, rho', S') ∧ J xs rho' S') :
    ∀ (xs : List SV) (rho : Slots) (S : Store), J xs rho S → ∃ rho' S', loopM lk gm bd xs rho S = .ok (.nx, rho', S') ∧ J [] rho' S'
  | [], rho, S, h => ⟨rho, S, loop_nil gm bd (hl _ _ _ h), h⟩
  | x :: xs, rho, S, h => by
    obtain ⟨rho1, S1, e, h1⟩ := step x xs rho S h
    obtain ⟨rho2, S2, e2, h2⟩ := loop_inv gm bd J hl step xs rho1 S1 h1
    refine ⟨rho2, S2, ?_, h2⟩
    rw [loop_cons gm bd xs (hl _ _ _ h), e, r_bind, s_turnN, e2]
def k_r1 (r : List SV × Store) : Res (Wk × Store) := match r.1 with
  | [.fr (.int j)] => if -(2 ^ 62) ≤ j ∧ j < 2 ^ 62 then .ok (⟨rngS 0 j.toNat, fun _ => True⟩, r.2) else .stuck
  | _ => .stuck
theorem r_r1 : iR1 m rho S = (m rho S).bind k_r1 := id rfl
theorem s_r1 {j : Int} (h : -(2 ^ 62) ≤ j ∧ j < 2 ^ 62) : k_r1 ([.fr (.int j)], S) = .ok (⟨rngS 0 j.toNat, fun _ => True⟩, S) := if_pos h
def k_r2 (r : List SV × Store) : Res (Wk × Store) := match r.1 with
  | [.fr (.int i), .fr (.int j)] => if -(2 ^ 62) ≤ i ∧ i < 2 ^ 62 ∧ -(2 ^ 62) ≤ j ∧ j < 2 ^ 62 then .ok (⟨rngS i (j - i).toNat, fun _ => True⟩, r.2) else .stuck
  | _ => .stuck
theorem r_r2 : iR2 m rho S = (m rho S).bind k_r2 := id rfl
theorem s_r2 {i j : Int} (h : -(2 ^ 62) ≤ i ∧ i < 2 ^ 62 ∧ -(2 ^ 62) ≤ j ∧ j < 2 ^ 62) : k_r2 ([.fr (.int i), .fr (.int j)], S) = .ok (⟨rngS i (j - i).toNat, fun _ => True⟩, S) := if_pos h
def k_sq (r : SV × Store) : Res (Wk × Store) := match r.1 with
  | .fr (.tup _) => .stuck
  | .fr _ => match rdS r.2 r.1 with
    | some xs => .ok (⟨xs, fun _ => True⟩, r.2)
    | none => .stuck
  | .cell k => match rdL r.2 (.cell k) with
    | some xs => .ok (⟨xs, fun S' => S'[k]? = some (.lst xs)⟩, r.2)
    | none => .stuck
theorem r_sq : iSeq a rho S = (a rho S).bind k_sq := id rfl
theorem s_sqL (ds : List D) : k_sq (.fr (.lst ds), S) = .ok (⟨ds.map SV.fr, fun _ => True⟩, S) := id rfl
theorem s_sqS (ds : List D) : k_sq (.fr (.scr ds), S) = .ok (⟨ds.map SV.fr, fun _ => True⟩, S) := id rfl
theorem s_sqC {k : Nat} {xs : List SV} (h : S[k]? = some (.lst xs)) : k_sq (.cell k, S) = .ok (⟨xs, fun S' => S'[k]? = some (.lst xs)⟩, S) := by
  unfold k_sq rdL
  simp only [h]
def k_tp (r : SV × Store) : Res (Wk × Store) := match r.1 with
  | .fr (.tup ds) => .ok (⟨ds.map SV.fr, fun _ => True⟩, r.2)
  | _ => .stuck
theorem r_tp : iTp a rho S = (a rho S).bind k_tp := id rfl
theorem s_tp (ds : List D) : k_tp (.fr (.tup ds), S) = .ok (⟨ds.map SV.fr, fun _ => True⟩, S) := id rfl
def k_x (S : Store) : Option SV → Res (SV × Store)
  | some x => .ok (x, S)
  | none => .stuck
def k_xd (S : Store) : Option D → Res (SV × Store)
  | some d => .ok (.fr d, S)
  | none => .stuck
theorem r_xT (ds : List D) (i : Int) : ixG (.fr (.tup ds)) (.fr (.int i)) S = k_xd S (atI ds i) := by
  unfold ixG
  simp only [rdS, rdL]
  cases atI ds i <;> rfl
theorem atI_map {α β : Type} (f : α → β) (xs : List α) (i : Int) : atI (xs.map f) i = (atI xs i).map f := by
  unfold atI
  rw [List.length_map]
  cases ixN xs.length i <;> simp
theorem r_xL (ds : List D) (i : Int) : ixG (.fr (.lst ds)) (.fr (.int i)) S = k_xd S (atI ds i) := by
  unfold ixG
  simp only [rdS, rdL, atI_map]
  cases atI ds i <;> rfl
theorem r_xC {k : Nat} {xs : List SV} (h : S[k]? = some (.lst xs)) (i : Int) : ixG (.cell k) (.fr (.int i)) S = k_x S (atI xs i) := by
  unfold ixG
  simp only [rdS, rdL, h]
  cases atI xs i <;> rfl
theorem s_x : k_x S (some x) = .ok (x, S) := id rfl
theorem s_xd (d : D) : k_xd S (some d) = .ok (.fr d, S) := id rfl
theorem at_0 {α : Type} (a : α) (l : List α) : atI (a :: l) 0 = some a := atI_nat (a :: l) 0
theorem at_1 {α : Type} (a b : α) (l : List α) : atI (a :: b :: l) 1 = some b := atI_nat (a :: b :: l) 1
theorem at_2 {α : Type} (a b c : α) (l : List α) : atI (a :: b :: c :: l) 2 = some c := atI_nat (a :: b :: c :: l) 2
theorem at_3 {α : Type} (a b c d : α) (l : List α) : atI (a :: b :: c :: d :: l) 3 = some d := atI_nat (a :: b :: c :: d :: l) 3
theorem at_4 {α : Type} (a b c d e : α) (l : List α) : atI (a :: b :: c :: d :: e :: l) 4 = some e := atI_nat (a :: b :: c :: d :: e :: l) 4
end
end DL

namespace DL
open PySem L2

structure Bag where
  z : Int
  mix : Int
  k : Int
  ns : List Int
structure Bag.Ok (b : Bag) : Prop where
  z0 : 0 ≤ b.z
  m0 : 0 ≤ b.mix
  k0 : 0 ≤ b.k
  n0 : ∀ n ∈ b.ns, 0 ≤ n
def Bag.c (b : Bag) : Cell := .lst [.fr (.int b.z), .fr (.int b.mix), .fr (.int b.k), .fr (.lst (b.ns.map D.int))]
section
variable {b : Bag} {R : Store}
theorem bag_x (b : Bag) (R : Store) (i : Int) : ixG (.cell 0) (.fr (.int i)) (b.c :: R) = k_x (b.c :: R) (atI [.fr (.int b.z), .fr (.int b.mix), .fr (.int b.k), .fr (.lst (b.ns.map D.int))] i) := r_xC rfl i
theorem bag_set0 (v : Int) : setL (.cell 0) (.fr (.int 0)) (.fr (.int v)) (b.c :: R) = .ok ({ b with z := v }.c :: R) := rfl
theorem bag_set1 (v : Int) : setL (.cell 0) (.fr (.int 1)) (.fr (.int v)) (b.c :: R) = .ok ({ b with mix := v }.c :: R) := rfl
theorem bag_set2 (v : Int) : setL (.cell 0) (.fr (.int 2)) (.fr (.int v)) (b.c :: R) = .ok ({ b with k := v }.c :: R) := rfl
theorem bag_get2 : getL (.cell 0) (.fr (.int 2)) (b.c :: R) = some (.fr (.int b.k)) := rfl
theorem WF.bag {b' : Bag} (h : WF (b.c :: R)) : WF (b'.c :: R) := by
  unfold WF at h ⊢
  simpa [Bag.c, Cell.below, SV.below] using h
theorem leave_bag {b' : Bag} (h : WF (b.c :: R)) (d : D) : leave (b.c :: R).length (.fr d) (b'.c :: R) = .ok (.val (.fr d), b'.c :: R) := leave_val (WF.bag (b' := b') h) d
theorem cdiv_of {i j : Int} (h : 0 < j) (h2 : j.natAbs.log2 < 9000) : (CDiv i j ∨ CDivW i j) = True := by simp [CDivW, h, h2]
theorem takeA_run (hb : b.Ok) (many : Int) : Ends (takeA [some (.cell 0), some (.fr (.int many)), none, none, none, none, none] (b.c :: R)) fun r => ∃ b1 x2 x3, Bag.Ok b1 ∧ r = (.nx, [some (.cell 0), some (.fr (.int many)), x2, x3, none, none, none], b1.c :: R) := by
  have c1 : ∀ i : Int, (CMul i 48271 ∨ CMulW i 48271) = True := fun i => by simp [CMul]
  have c2 : ∀ i : Int, (CMul 7919 i ∨ CMulW 7919 i) = True := fun i => by simp [CMul]
  have p1 : (0 : Int) < 2147483647 := by decide
  have e0 : (0 : Int) ≤ b.k + 1 := by have := hb.k0; omega
  have fin : ∀ m : Int, 0 ≤ m % 2147483647 := fun m => Int.emod_nonneg _ (by decide)
  by_cases hz : b.z = 0
  · by_cases hk : b.k < (b.ns.length : Int)
    · obtain ⟨k, hkk⟩ : ∃ k : Nat, b.k = k := ⟨b.k.toNat, by have := hb.k0; omega⟩
      have hlt : k < b.ns.length := by omega
      have hx : atI (b.ns.map D.int) b.k = some (.int b.ns[k]) := by
        rw [hkk, atI_nat, List.getElem?_map, List.getElem?_eq_getElem hlt]
        rfl
      have hn := hb.n0 _ (List.getElem_mem hlt)
      by_cases hc : (1000000000000000000 : Int) ≤ b.ns[k]
      · simp only [r_bind, r_1, s_1, r_2, s_2, s_2b, r_v, s_v, r_c, r_n, r_a, s_a, s_ab, r_g, s_g, r_and, s_And, s_and1, s_and0, r_or, s_Or, s_or1, s_or0, r_not, s_Not, s_not, r_if, s_if1, s_if0, r_ch, s_ch, s_cha, s_chb1, s_chb0, s_chc, r_tB, s_tB, r_tV, s_tV, s_tv, r_tN, s_tN, r_tA, s_tA1, s_tA0, r_tO, s_tO1, s_tO0, r_tT, r_trB, r_trI, r_trN, r_call, s_call, s_noX, s_backV, s_backC, s_backF, s_frz, r_frz, r_all0, r_all1, r_fn1, r_fn2, r_fn3, r_fn4, r_fn5, s_lvR, s_lvN, r_nx, r_bk, r_ct, r_seq, s_seqN, s_seqR, s_seqB, s_seqC, r_ret, s_ret, r_retN, r_sif, s_sif1, s_sif0, r_ex, s_ex, r_set, s_set, r_par, s_par, r_as, s_as, s_gb, r_gNm, r_gNl, r_gCs, s_gCs, r_gTu2, r_gTu3, r_gTu4, r_gSb, s_sb, s_sb2, s_st, s_nxS, r_au, s_au, s_au0, s_au1, s_au2, s_au3, r_addI, r_for, s_for, s_body, s_turnN, s_turnC, s_turnB, s_turnR, r_r1, s_r1, r_r2, s_r2, r_sq, s_sqL, s_sqS, r_tp, s_tp, r_xT, r_xL, s_x, s_xd, at_0, at_1, at_2, at_3, at_4, r_add, r_sub, r_neg, r_mul, r_fdiv, r_mod, r_pow, r_cmp, r_is, r_eqI, r_abs, r_int, r_max, r_min, r_okV, r_snap, r_lenF, r_lenT, DL.isNon, List.replicate_succ, List.replicate_zero, List.set_cons_zero, List.set_cons_succ, List.getElem?_cons_zero, List.getElem?_cons_succ, Option.map_some, Nat.reduceSub, and_self, and_true, true_and, decide_true, decide_false, if_true, if_false, Bool.false_eq_true, Bool.not_true, Bool.not_false, Nat.reduceSub, Nat.reduceAdd, Nat.reduceMul, Nat.reduceLeDiff, takeA, bag_x, bag_set0, bag_set1, bag_set2, bag_get2, hz, hk, hx, hc, c1, c2, p1, List.length_map, s_ends]
        exact ⟨⟨_, _, _, b.ns⟩, _, _, ⟨hn, fin _, e0, hb.n0⟩, rfl⟩
      · simp only [r_bind, r_1, s_1, r_2, s_2, s_2b, r_v, s_v, r_c, r_n, r_a, s_a, s_ab, r_g, s_g, r_and, s_And, s_and1, s_and0, r_or, s_Or, s_or1, s_or0, r_not, s_Not, s_not, r_if, s_if1, s_if0, r_ch, s_ch, s_cha, s_chb1, s_chb0, s_chc, r_tB, s_tB, r_tV, s_tV, s_tv, r_tN, s_tN, r_tA, s_tA1, s_tA0, r_tO, s_tO1, s_tO0, r_tT, r_trB, r_trI, r_trN, r_call, s_call, s_noX, s_backV, s_backC, s_backF, s_frz, r_frz, r_all0, r_all1, r_fn1, r_fn2, r_fn3, r_fn4, r_fn5, s_lvR, s_lvN, r_nx, r_bk, r_ct, r_seq, s_seqN, s_seqR, s_seqB, s_seqC, r_ret, s_ret, r_retN, r_sif, s_sif1, s_sif0, r_ex, s_ex, r_set, s_set, r_par, s_par, r_as, s_as, s_gb, r_gNm, r_gNl, r_gCs, s_gCs, r_gTu2, r_gTu3, r_gTu4, r_gSb, s_sb, s_sb2, s_st, s_nxS, r_au, s_au, s_au0, s_au1, s_au2, s_au3, r_addI, r_for, s_for, s_body, s_turnN, s_turnC, s_turnB, s_turnR, r_r1, s_r1, r_r2, s_r2, r_sq, s_sqL, s_sqS, r_tp, s_tp, r_xT, r_xL, s_x, s_xd, at_0, at_1, at_2, at_3, at_4, r_add, r_sub, r_neg, r_mul, r_fdiv, r_mod, r_pow, r_cmp, r_is, r_eqI, r_abs, r_int, r_max, r_min, r_okV, r_snap, r_lenF, r_lenT, DL.isNon, List.replicate_succ, List.replicate_zero, List.set_cons_zero, List.set_cons_succ, List.getElem?_cons_zero, List.getElem?_cons_succ, Option.map_some, Nat.reduceSub, and_self, and_true, true_and, decide_true, decide_false, if_true, if_false, Bool.false_eq_true, Bool.not_true, Bool.not_false, Nat.reduceSub, Nat.reduceAdd, Nat.reduceMul, Nat.reduceLeDiff, takeA, bag_x, bag_set0, bag_set1, bag_set2, bag_get2, hz, hk, hx, hc, c1, c2, p1, List.length_map, s_ends]
        exact ⟨⟨0, _, b.k + 1, b.ns⟩, _, _, ⟨Int.le_refl 0, fin _, e0, hb.n0⟩, rfl⟩
    · have hc : ¬ (1000000000000000000 : Int) ≤ 0 := by decide
      simp only [r_bind, r_1, s_1, r_2, s_2, s_2b, r_v, s_v, r_c, r_n, r_a, s_a, s_ab, r_g, s_g, r_and, s_And, s_and1, s_and0, r_or, s_Or, s_or1, s_or0, r_not, s_Not, s_not, r_if, s_if1, s_if0, r_ch, s_ch, s_cha, s_chb1, s_chb0, s_chc, r_tB, s_tB, r_tV, s_tV, s_tv, r_tN, s_tN, r_tA, s_tA1, s_tA0, r_tO, s_tO1, s_tO0, r_tT, r_trB, r_trI, r_trN, r_call, s_call, s_noX, s_backV, s_backC, s_backF, s_frz, r_frz, r_all0, r_all1, r_fn1, r_fn2, r_fn3, r_fn4, r_fn5, s_lvR, s_lvN, r_nx, r_bk, r_ct, r_seq, s_seqN, s_seqR, s_seqB, s_seqC, r_ret, s_ret, r_retN, r_sif, s_sif1, s_sif0, r_ex, s_ex, r_set, s_set, r_par, s_par, r_as, s_as, s_gb, r_gNm, r_gNl, r_gCs, s_gCs, r_gTu2, r_gTu3, r_gTu4, r_gSb, s_sb, s_sb2, s_st, s_nxS, r_au, s_au, s_au0, s_au1, s_au2, s_au3, r_addI, r_for, s_for, s_body, s_turnN, s_turnC, s_turnB, s_turnR, r_r1, s_r1, r_r2, s_r2, r_sq, s_sqL, s_sqS, r_tp, s_tp, r_xT, r_xL, s_x, s_xd, at_0, at_1, at_2, at_3, at_4, r_add, r_sub, r_neg, r_mul, r_fdiv, r_mod, r_pow, r_cmp, r_is, r_eqI, r_abs, r_int, r_max, r_min, r_okV, r_snap, r_lenF, r_lenT, DL.isNon, List.replicate_succ, List.replicate_zero, List.set_cons_zero, List.set_cons_succ, List.getElem?_cons_zero, List.getElem?_cons_succ, Option.map_some, Nat.reduceSub, and_self, and_true, true_and, decide_true, decide_false, if_true, if_false, Bool.false_eq_true, Bool.not_true, Bool.not_false, Nat.reduceSub, Nat.reduceAdd, Nat.reduceMul, Nat.reduceLeDiff, takeA, bag_x, bag_set0, bag_set1, bag_set2, bag_get2, hz, hk, hc, c1, c2, p1, List.length_map, s_ends]
      exact ⟨⟨0, _, b.k + 1, b.ns⟩, _, _, ⟨Int.le_refl 0, fin _, e0, hb.n0⟩, rfl⟩
  · simp only [r_bind, r_1, s_1, r_2, s_2, s_2b, r_v, s_v, r_c, r_n, r_a, s_a, s_ab, r_g, s_g, r_and, s_And, s_and1, s_and0, r_or, s_Or, s_or1, s_or0, r_not, s_Not, s_not, r_if, s_if1, s_if0, r_ch, s_ch, s_cha, s_chb1, s_chb0, s_chc, r_tB, s_tB, r_tV, s_tV, s_tv, r_tN, s_tN, r_tA, s_tA1, s_tA0, r_tO, s_tO1, s_tO0, r_tT, r_trB, r_trI, r_trN, r_call, s_call, s_noX, s_backV, s_backC, s_backF, s_frz, r_frz, r_all0, r_all1, r_fn1, r_fn2, r_fn3, r_fn4, r_fn5, s_lvR, s_lvN, r_nx, r_bk, r_ct, r_seq, s_seqN, s_seqR, s_seqB, s_seqC, r_ret, s_ret, r_retN, r_sif, s_sif1, s_sif0, r_ex, s_ex, r_set, s_set, r_par, s_par, r_as, s_as, s_gb, r_gNm, r_gNl, r_gCs, s_gCs, r_gTu2, r_gTu3, r_gTu4, r_gSb, s_sb, s_sb2, s_st, s_nxS, r_au, s_au, s_au0, s_au1, s_au2, s_au3, r_addI, r_for, s_for, s_body, s_turnN, s_turnC, s_turnB, s_turnR, r_r1, s_r1, r_r2, s_r2, r_sq, s_sqL, s_sqS, r_tp, s_tp, r_xT, r_xL, s_x, s_xd, at_0, at_1, at_2, at_3, at_4, r_add, r_sub, r_neg, r_mul, r_fdiv, r_mod, r_pow, r_cmp, r_is, r_eqI, r_abs, r_int, r_max, r_min, r_okV, r_snap, r_lenF, r_lenT, DL.isNon, List.replicate_succ, List.replicate_zero, List.set_cons_zero, List.set_cons_succ, List.getElem?_cons_zero, List.getElem?_cons_succ, Option.map_some, Nat.reduceSub, and_self, and_true, true_and, decide_true, decide_false, if_true, if_false, Bool.false_eq_true, Bool.not_true, Bool.not_false, Nat.reduceSub, Nat.reduceAdd, Nat.reduceMul, Nat.reduceLeDiff, takeA, bag_x, hz, s_ends]
    exact ⟨b, none, none, hb, rfl⟩
theorem takeB_run (hb : b.Ok) (many : Int) (h1 : 0 < many) (h2 : many.natAbs.log2 < 9000) (x2 x3 : Option SV) : Ends (takeB [some (.cell 0), some (.fr (.int many)), x2, x3, none, none, none] (b.c :: R)) fun r => ∃ v b1 rho, 0 ≤ v ∧ v < many ∧ Bag.Ok b1 ∧ r = (.rt (.fr (.int v)), rho, b1.c :: R) := by
  have c1 : ∀ i : Int, (CMul i 39373 ∨ CMulW i 39373) = True := fun i => by simp [CMul]
  have c2 : ∀ i : Int, (CMul i 30011 ∨ CMulW i 30011) = True := fun i => by simp [CMul]
  have c3 : ∀ i : Int, (CMul i 1000000007 ∨ CMulW i 1000000007) = True := fun i => by simp [CMul]
  have c4 : ∀ i : Int, (CMul (i % 1000000007) (i % 1000000007) ∨ CMulW (i % 1000000007) (i % 1000000007)) = True := fun i => by
    have q1 := Int.emod_nonneg i (b := 1000000007) (by decide)
    have q2 := Int.emod_lt_of_pos i (b := 1000000007) (by decide)
    have q3 : -(2 ^ 64) < i % 1000000007 := by omega
    have q4 : i % 1000000007 < 2 ^ 64 := by omega
    simp only [CMul, q3, q4, and_self, true_or]
  have c5 : ∀ i : Int, (CDiv i 7 ∨ CDivW i 7) = True := fun i => by simp [CDiv]
  have cm : ∀ i : Int, (CDiv i many ∨ CDivW i many) = True := fun i => cdiv_of h1 h2
  have p1 : (0 : Int) < 1000000007 := by decide
  have p2 : (0 : Int) < 998244353 := by decide
  have q1 : ∀ m : Int, 0 ≤ m % many := fun m => Int.emod_nonneg _ (by omega)
  have q2 : ∀ m : Int, m % many < many := fun m => Int.emod_lt_of_pos _ h1
  have q3 : 0 ≤ b.z / many := Int.ediv_nonneg hb.z0 (by omega)
  by_cases hz : 0 < b.z
  · simp only [r_bind, r_1, s_1, r_2, s_2, s_2b, r_v, s_v, r_c, r_n, r_a, s_a, s_ab, r_g, s_g, r_and, s_And, s_and1, s_and0, r_or, s_Or, s_or1, s_or0, r_not, s_Not, s_not, r_if, s_if1, s_if0, r_ch, s_ch, s_cha, s_chb1, s_chb0, s_chc, r_tB, s_tB, r_tV, s_tV, s_tv, r_tN, s_tN, r_tA, s_tA1, s_tA0, r_tO, s_tO1, s_tO0, r_tT, r_trB, r_trI, r_trN, r_call, s_call, s_noX, s_backV, s_backC, s_backF, s_frz, r_frz, r_all0, r_all1, r_fn1, r_fn2, r_fn3, r_fn4, r_fn5, s_lvR, s_lvN, r_nx, r_bk, r_ct, r_seq, s_seqN, s_seqR, s_seqB, s_seqC, r_ret, s_ret, r_retN, r_sif, s_sif1, s_sif0, r_ex, s_ex, r_set, s_set, r_par, s_par, r_as, s_as, s_gb, r_gNm, r_gNl, r_gCs, s_gCs, r_gTu2, r_gTu3, r_gTu4, r_gSb, s_sb, s_sb2, s_st, s_nxS, r_au, s_au, s_au0, s_au1, s_au2, s_au3, r_addI, r_for, s_for, s_body, s_turnN, s_turnC, s_turnB, s_turnR, r_r1, s_r1, r_r2, s_r2, r_sq, s_sqL, s_sqS, r_tp, s_tp, r_xT, r_xL, s_x, s_xd, at_0, at_1, at_2, at_3, at_4, r_add, r_sub, r_neg, r_mul, r_fdiv, r_mod, r_pow, r_cmp, r_is, r_eqI, r_abs, r_int, r_max, r_min, r_okV, r_snap, r_lenF, r_lenT, DL.isNon, List.replicate_succ, List.replicate_zero, List.set_cons_zero, List.set_cons_succ, List.getElem?_cons_zero, List.getElem?_cons_succ, Option.map_some, Nat.reduceSub, and_self, and_true, true_and, decide_true, decide_false, if_true, if_false, Bool.false_eq_true, Bool.not_true, Bool.not_false, Nat.reduceSub, Nat.reduceAdd, Nat.reduceMul, Nat.reduceLeDiff, takeB, bag_x, bag_set0, hz, h1, cm, s_ends]
    exact ⟨_, ⟨_, _, _, b.ns⟩, _, q1 _, q2 _, ⟨q3, hb.m0, hb.k0, hb.n0⟩, rfl⟩
  · by_cases hm : (1000000 : Int) < many
    · simp only [r_bind, r_1, s_1, r_2, s_2, s_2b, r_v, s_v, r_c, r_n, r_a, s_a, s_ab, r_g, s_g, r_and, s_And, s_and1, s_and0, r_or, s_Or, s_or1, s_or0, r_not, s_Not, s_not, r_if, s_if1, s_if0, r_ch, s_ch, s_cha, s_chb1, s_chb0, s_chc, r_tB, s_tB, r_tV, s_tV, s_tv, r_tN, s_tN, r_tA, s_tA1, s_tA0, r_tO, s_tO1, s_tO0, r_tT, r_trB, r_trI, r_trN, r_call, s_call, s_noX, s_backV, s_backC, s_backF, s_frz, r_frz, r_all0, r_all1, r_fn1, r_fn2, r_fn3, r_fn4, r_fn5, s_lvR, s_lvN, r_nx, r_bk, r_ct, r_seq, s_seqN, s_seqR, s_seqB, s_seqC, r_ret, s_ret, r_retN, r_sif, s_sif1, s_sif0, r_ex, s_ex, r_set, s_set, r_par, s_par, r_as, s_as, s_gb, r_gNm, r_gNl, r_gCs, s_gCs, r_gTu2, r_gTu3, r_gTu4, r_gSb, s_sb, s_sb2, s_st, s_nxS, r_au, s_au, s_au0, s_au1, s_au2, s_au3, r_addI, r_for, s_for, s_body, s_turnN, s_turnC, s_turnB, s_turnR, r_r1, s_r1, r_r2, s_r2, r_sq, s_sqL, s_sqS, r_tp, s_tp, r_xT, r_xL, s_x, s_xd, at_0, at_1, at_2, at_3, at_4, r_add, r_sub, r_neg, r_mul, r_fdiv, r_mod, r_pow, r_cmp, r_is, r_eqI, r_abs, r_int, r_max, r_min, r_okV, r_snap, r_lenF, r_lenT, DL.isNon, List.replicate_succ, List.replicate_zero, List.set_cons_zero, List.set_cons_succ, List.getElem?_cons_zero, List.getElem?_cons_succ, Option.map_some, Nat.reduceSub, and_self, and_true, true_and, decide_true, decide_false, if_true, if_false, Bool.false_eq_true, Bool.not_true, Bool.not_false, Nat.reduceSub, Nat.reduceAdd, Nat.reduceMul, Nat.reduceLeDiff, takeB, bag_x, bag_set0, hz, h1, hm, c1, c2, c3, c4, c5, p1, p2, s_ends]
      exact ⟨_, b, _, q1 _, q2 _, hb, rfl⟩
    · simp only [r_bind, r_1, s_1, r_2, s_2, s_2b, r_v, s_v, r_c, r_n, r_a, s_a, s_ab, r_g, s_g, r_and, s_And, s_and1, s_and0, r_or, s_Or, s_or1, s_or0, r_not, s_Not, s_not, r_if, s_if1, s_if0, r_ch, s_ch, s_cha, s_chb1, s_chb0, s_chc, r_tB, s_tB, r_tV, s_tV, s_tv, r_tN, s_tN, r_tA, s_tA1, s_tA0, r_tO, s_tO1, s_tO0, r_tT, r_trB, r_trI, r_trN, r_call, s_call, s_noX, s_backV, s_backC, s_backF, s_frz, r_frz, r_all0, r_all1, r_fn1, r_fn2, r_fn3, r_fn4, r_fn5, s_lvR, s_lvN, r_nx, r_bk, r_ct, r_seq, s_seqN, s_seqR, s_seqB, s_seqC, r_ret, s_ret, r_retN, r_sif, s_sif1, s_sif0, r_ex, s_ex, r_set, s_set, r_par, s_par, r_as, s_as, s_gb, r_gNm, r_gNl, r_gCs, s_gCs, r_gTu2, r_gTu3, r_gTu4, r_gSb, s_sb, s_sb2, s_st, s_nxS, r_au, s_au, s_au0, s_au1, s_au2, s_au3, r_addI, r_for, s_for, s_body, s_turnN, s_turnC, s_turnB, s_turnR, r_r1, s_r1, r_r2, s_r2, r_sq, s_sqL, s_sqS, r_tp, s_tp, r_xT, r_xL, s_x, s_xd, at_0, at_1, at_2, at_3, at_4, r_add, r_sub, r_neg, r_mul, r_fdiv, r_mod, r_pow, r_cmp, r_is, r_eqI, r_abs, r_int, r_max, r_min, r_okV, r_snap, r_lenF, r_lenT, DL.isNon, List.replicate_succ, List.replicate_zero, List.set_cons_zero, List.set_cons_succ, List.getElem?_cons_zero, List.getElem?_cons_succ, Option.map_some, Nat.reduceSub, and_self, and_true, true_and, decide_true, decide_false, if_true, if_false, Bool.false_eq_true, Bool.not_true, Bool.not_false, Nat.reduceSub, Nat.reduceAdd, Nat.reduceMul, Nat.reduceLeDiff, takeB, bag_x, bag_set0, hz, h1, hm, c1, c2, c3, c4, c5, p1, p2, s_ends]
      exact ⟨_, b, _, q1 _, q2 _, hb, rfl⟩
theorem take_run (b : Bag) (hb : b.Ok) (many : Int) (h1 : 0 < many) (h2 : many.natAbs.log2 < 9000) (R : Store) (wf : WF (b.c :: R)) :
    ∃ v b', 0 ≤ v ∧ v < many ∧ Bag.Ok b' ∧ WF (b'.c :: R) ∧ takeM [.cell 0, .fr (.int many)] (b.c :: R) = .ok (.val (.fr (.int v)), b'.c :: R) := by
  obtain ⟨_, e1, b1, x2, x3, hb1, rfl⟩ := takeA_run (R := R) hb many
  obtain ⟨_, e2, v, b2, rho, g1, g2, hb2, rfl⟩ := takeB_run (R := R) hb1 many h1 h2 x2 x3
  refine ⟨v, b2, g1, g2, hb2, wf.bag, ?_⟩
  simp only [r_bind, r_1, s_1, r_2, s_2, s_2b, r_v, s_v, r_c, r_n, r_a, s_a, s_ab, r_g, s_g, r_and, s_And, s_and1, s_and0, r_or, s_Or, s_or1, s_or0, r_not, s_Not, s_not, r_if, s_if1, s_if0, r_ch, s_ch, s_cha, s_chb1, s_chb0, s_chc, r_tB, s_tB, r_tV, s_tV, s_tv, r_tN, s_tN, r_tA, s_tA1, s_tA0, r_tO, s_tO1, s_tO0, r_tT, r_trB, r_trI, r_trN, r_call, s_call, s_noX, s_backV, s_backC, s_backF, s_frz, r_frz, r_all0, r_all1, r_fn1, r_fn2, r_fn3, r_fn4, r_fn5, s_lvR, s_lvN, r_nx, r_bk, r_ct, r_seq, s_seqN, s_seqR, s_seqB, s_seqC, r_ret, s_ret, r_retN, r_sif, s_sif1, s_sif0, r_ex, s_ex, r_set, s_set, r_par, s_par, r_as, s_as, s_gb, r_gNm, r_gNl, r_gCs, s_gCs, r_gTu2, r_gTu3, r_gTu4, r_gSb, s_sb, s_sb2, s_st, s_nxS, r_au, s_au, s_au0, s_au1, s_au2, s_au3, r_addI, r_for, s_for, s_body, s_turnN, s_turnC, s_turnB, s_turnR, r_r1, s_r1, r_r2, s_r2, r_sq, s_sqL, s_sqS, r_tp, s_tp, r_xT, r_xL, s_x, s_xd, at_0, at_1, at_2, at_3, at_4, r_add, r_sub, r_neg, r_mul, r_fdiv, r_mod, r_pow, r_cmp, r_is, r_eqI, r_abs, r_int, r_max, r_min, r_okV, r_snap, r_lenF, r_lenT, DL.isNon, List.replicate_succ, List.replicate_zero, List.set_cons_zero, List.set_cons_succ, List.getElem?_cons_zero, List.getElem?_cons_succ, Option.map_some, Nat.reduceSub, and_self, and_true, true_and, decide_true, decide_false, if_true, if_false, Bool.false_eq_true, Bool.not_true, Bool.not_false, Nat.reduceSub, Nat.reduceAdd, Nat.reduceMul, Nat.reduceLeDiff, takeM, e1, e2, leave_bag wf]
end
end DL

namespace DL
open PySem L2

theorem loop_ends {gm : GM} {bd : SM} (J : List SV → Slots → Store → Prop)
    (step : ∀ x xs rho S, J (x :: xs) rho S → Ends ((gm x rho S).bind (k_body bd)) fun r => r.1 = .nx ∧ J xs r.2.1 r.2.2) {xs : List SV} {rho : Slots} {S : Store} (h : J xs rho S) :
    Ends (loopM (fun _ => True) gm bd xs rho S) fun r => r.1 = .nx ∧ J [] r.2.1 r.2.2 := by
  obtain ⟨rho', S', e, j⟩ := loop_inv (lk := fun _ => True) gm bd J (fun _ _ _ _ => trivial) (fun x xs rho S h => by
    obtain ⟨⟨f, r1, S1⟩, e, q1, q2⟩ := step x xs rho S h
    cases q1
    exact ⟨r1, S1, e, q2⟩) xs rho S h
  exact ⟨_, e, rfl, j⟩
section
variable {a b : EM} {rho : Slots} {S T : Store} {x y : SV} {t : TM} {e : EM} {gm : GM}
def k_ps (r : SV × Store) : Res (Option Int × Store) := match r.1 with
  | .fr (.int i) => .ok (some i, r.2)
  | _ => .stuck
theorem r_ps : pS a rho S = (a rho S).bind k_ps := id rfl
theorem s_ps (i : Int) : k_ps (.fr (.int i), S) = .ok (some i, S) := id rfl
theorem r_pn : pN rho S = .ok (none, S) := id rfl
def k_sl2 (c : Bool) (x : SV) (lo : Option Int) (r : Option Int × Store) : Res (SV × Store) := slG c x lo r.1 r.2
def k_sl1 (c : Bool) (hi : PM) (rho : Slots) (x : SV) (r : Option Int × Store) : Res (SV × Store) := (hi rho r.2).bind (k_sl2 c x r.1)
def k_sl (c : Bool) (lo hi : PM) (rho : Slots) (r : SV × Store) : Res (SV × Store) := (lo rho r.2).bind (k_sl1 c hi rho r.1)
theorem r_sl (c : Bool) (lo hi : PM) : eSl c a lo hi rho S = (a rho S).bind (k_sl c lo hi rho) := id rfl
theorem s_sl (c : Bool) (lo hi : PM) : k_sl c lo hi rho (x, S) = (lo rho S).bind (k_sl1 c hi rho x) := id rfl
theorem s_sl1 (c : Bool) (hi : PM) (l : Option Int) : k_sl1 c hi rho x (l, S) = (hi rho S).bind (k_sl2 c x l) := id rfl
theorem s_sl2 (c : Bool) (l u : Option Int) : k_sl2 c x l (u, S) = slG c x l u S := id rfl
theorem cut_map {α β : Type} (f : α → β) (xs : List α) (l u : Option Int) : cutA (xs.map f) l u = (cutA xs l u).map f := by
  unfold cutA
  simp [List.map_drop, List.map_take]
theorem r_slL (ds : List D) (l u : Option Int) : slG false (.fr (.lst ds)) l u S = .ok (.fr (.lst (cutA ds l u)), S) := by
  unfold slG
  simp only [rdS, rdL, cut_map, newL0, allFr_map, Bool.false_eq_true, if_false]
theorem r_slS (ds : List D) (l u : Option Int) : slG false (.fr (.scr ds)) l u S = .ok (.fr (.lst (cutA ds l u)), S) := by
  unfold slG
  simp only [rdS, cut_map, newL0, allFr_map, Bool.false_eq_true, if_false]
theorem r_slT (c : Bool) (ds : List D) (l u : Option Int) : slG c (.fr (.tup ds)) l u S = .ok (.fr (.tup (cutA ds l u)), S) := id rfl
theorem cut_to {α : Type} (xs : List α) (n : Nat) : cutA xs none (some (n : Int)) = xs.take n := by
  unfold cutA
  rw [HT.sIx_none, HT.sIx_nat, List.drop_zero, Nat.sub_zero]
  by_cases h : n ≤ xs.length
  · rw [Nat.min_eq_left h]
  · rw [Nat.min_eq_right (by omega), List.take_length, List.take_of_length_le (by omega)]
theorem cut_from {α : Type} (xs : List α) (n : Nat) : cutA xs (some (n : Int)) none = xs.drop n := by
  unfold cutA
  rw [HT.sIx_none, HT.sIx_nat]
  by_cases h : n ≤ xs.length
  · rw [Nat.min_eq_left h, List.take_of_length_le (by simp)]
  · rw [Nat.min_eq_right (by omega)]
    simp [List.drop_eq_nil_of_le (show xs.length ≤ n by omega)]
def k_l3 (r : SV × Store) : Res (Option SV × Store) := .ok (some r.1, r.2)
def k_l2 (e : EM) (rho : Slots) (r : Bool × Store) : Res (Option SV × Store) := if r.1 then (e rho r.2).bind k_l3 else .ok (none, r.2)
def k_l1 (t : TM) (e : EM) (r : Slots × Store) : Res (Option SV × Store) := (t r.1 r.2).bind (k_l2 e r.1)
def lcT (gm : GM) (t : TM) (e : EM) (x : SV) (rho : Slots) (S : Store) : Res (Option SV × Store) := (gm x rho S).bind (k_l1 t e)
theorem r_lcT : lcT gm t e x rho S = (gm x rho S).bind (k_l1 t e) := id rfl
theorem s_l1 : k_l1 t e (rho, S) = (t rho S).bind (k_l2 e rho) := id rfl
theorem s_l2t : k_l2 e rho (true, S) = (e rho S).bind k_l3 := id rfl
theorem s_l2f : k_l2 e rho (false, S) = .ok (none, S) := id rfl
theorem s_l3 : k_l3 (x, S) = .ok (some x, S) := id rfl
theorem lc_nil {lk : Store → Prop} {own : List Nat} {acc : List SV} (h : lk (S ++ [.lst acc])) : lcM lk gm t e own rho [] S acc = .ok (acc, S) := by
  unfold lcM
  rw [if_pos h]
theorem lc_some {lk : Store → Prop} {own : List Nat} {acc : List SV} {xs : List SV} {S1 : Store} (h : lk (S ++ [.lst acc])) (hl : acc.length < sizeLine) (hs : S1.length = S.length) (hr : lcT gm t e x (wipeR rho own) (S ++ [.lst acc]) = .ok (some y, S1 ++ [.lst acc])) :
    lcM lk gm t e own rho (x :: xs) S acc = lcM lk gm t e own rho xs S1 (acc ++ [y]) := by
  conv => lhs; unfold lcM
  rw [if_pos h]
  unfold lcT k_l1 k_l2 k_l3 at hr
  cases hg : gm x (wipeR rho own) (S ++ [.lst acc]) with
  | ok r =>
    rw [hg, r_bind] at hr
    rw [r_bind]
    cases ht : t r.1 r.2 with
    | ok k =>
      rw [ht, r_bind] at hr
      rw [r_bind]
      by_cases hk : k.1 = true
      · rw [if_pos hk] at hr ⊢
        cases he : e r.1 k.2 with
        | ok z =>
          rw [he, r_bind] at hr
          rw [r_bind]
          simp only [Res.ok.injEq, Prod.mk.injEq, Option.some.injEq] at hr
          obtain ⟨rfl, h2⟩ := hr
          rw [h2, unS_app hs]
          dsimp only
          rw [if_pos hl]
        | _ => rw [he] at hr; cases hr
      · rw [if_neg hk] at hr
        simp at hr
    | _ => rw [ht] at hr; cases hr
  | _ => rw [hg] at hr; cases hr
theorem lc_none {lk : Store → Prop} {own : List Nat} {acc : List SV} {xs : List SV} {S1 : Store} (h : lk (S ++ [.lst acc])) (hs : S1.length = S.length) (hr : lcT gm t e x (wipeR rho own) (S ++ [.lst acc]) = .ok (none, S1 ++ [.lst acc])) :
    lcM lk gm t e own rho (x :: xs) S acc = lcM lk gm t e own rho xs S1 acc := by
  conv => lhs; unfold lcM
  rw [if_pos h]
  unfold lcT k_l1 k_l2 k_l3 at hr
  cases hg : gm x (wipeR rho own) (S ++ [.lst acc]) with
  | ok r =>
    rw [hg, r_bind] at hr
    rw [r_bind]
    cases ht : t r.1 r.2 with
    | ok k =>
      rw [ht, r_bind] at hr
      rw [r_bind]
      by_cases hk : k.1 = true
      · rw [if_pos hk] at hr
        cases he : e r.1 k.2 with
        | ok z => rw [he, r_bind] at hr; simp at hr
        | _ => rw [he] at hr; cases hr
      · rw [if_neg hk] at hr ⊢
        simp only [Res.ok.injEq, Prod.mk.injEq, true_and] at hr
        rw [hr, unS_app hs]
    | _ => rw [ht] at hr; cases hr
  | _ => rw [hg] at hr; cases hr
theorem lc_map {lk : Store → Prop} {own : List Nat} (f : SV → SV) (hlk : ∀ acc, lk (S ++ [.lst acc])) : ∀ (xs acc : List SV), acc.length + xs.length ≤ sizeLine →
    (∀ x ∈ xs, ∀ acc, lcT gm t e x (wipeR rho own) (S ++ [.lst acc]) = .ok (some (f x), S ++ [.lst acc])) → lcM lk gm t e own rho xs S acc = .ok (acc ++ xs.map f, S)
  | [], acc, _, _ => by rw [lc_nil (hlk _)]; simp
  | x :: xs, acc, hz, h => by
    have hz' : acc.length + (xs.length + 1) ≤ sizeLine := hz
    rw [lc_some (hlk _) (by omega) rfl (h x List.mem_cons_self acc), lc_map f hlk xs (acc ++ [f x]) (by simp; omega) fun z hz => h z (List.mem_cons_of_mem _ hz)]
    simp
noncomputable def k_lce (cc : Bool) (r : List SV × Store) : Res (SV × Store) := lcEnd cc r.1 r.2
noncomputable def k_lc (cc : Bool) (gm : GM) (t : TM) (e : EM) (own : List Nat) (rho : Slots) (r : Wk × Store) : Res (SV × Store) := (noE (lcM r.1.lk gm t e own rho r.1.xs r.2 [])).bind (k_lce cc)
theorem r_lc (cc : Bool) (im : IM) (own : List Nat) : eLC cc im gm t e own rho S = (im rho S).bind (k_lc cc gm t e own rho) := id rfl
theorem s_lc (cc : Bool) (own : List Nat) (w : Wk) : k_lc cc gm t e own rho (w, S) = (noE (lcM w.lk gm t e own rho w.xs S [])).bind (k_lce cc) := id rfl
theorem s_noE {α : Type} (r : α) : noE (.ok r) = .ok r := id rfl
theorem s_lceC (acc : List SV) : k_lce true (acc, S) = .ok (.cell S.length, S ++ [.lst acc]) := id rfl
theorem s_lceF {ds : List D} (wf : WF S) : k_lce false (ds.map SV.fr, S) = .ok (.fr (.lst ds), S) := by
  unfold k_lce lcEnd
  simp only [Bool.false_eq_true, if_false, allFr_map]
  rw [if_pos (show S.all (Cell.below S.length) = true from wf)]
theorem s_wr0 : wipeR rho [] = rho := id rfl
theorem s_wr (v : Nat) (vs : List Nat) : wipeR rho (v :: vs) = (wipeR rho vs).set v none := id rfl
end
def szN {α : Type} : List α → Nat
  | [] => 0
  | _ :: xs => szN xs + 1
theorem szN_eq {α : Type} : ∀ xs : List α, szN xs = xs.length
  | [] => rfl
  | _ :: xs => by rw [szN, szN_eq xs]; rfl
theorem s_sz0 {α : Type} : szN ([] : List α) = 0 := id rfl
theorem s_sz1 {α : Type} (x : α) (xs : List α) : szN (x :: xs) = szN xs + 1 := id rfl
section
variable {S : Store}
def k_nT (n : Nat) (S : Store) (o : Option (List D)) : Res (SV × Store) := if n ≤ 16777216 then (match o with
  | some ds => .ok (.fr (.tup ds), S)
  | none => .stuck) else .stuck
theorem r_nT (xs : List SV) : newT xs S = k_nT (szN xs) S (allFr xs) := by
  unfold newT k_nT
  rw [szN_eq, sizeLine_eq]
  try rfl
theorem s_nT {n : Nat} (h : n ≤ 16777216) (ds : List D) : k_nT n S (some ds) = .ok (.fr (.tup ds), S) := if_pos h
def k_nF (n : Nat) (S : Store) (o : Option (List D)) : Res (SV × Store) := if n ≤ 16777216 then (match o with
  | some ds => .ok (.fr (.lst ds), S)
  | none => .stuck) else .stuck
theorem r_nF (xs : List SV) : newL false xs S = k_nF (szN xs) S (allFr xs) := by
  unfold newL k_nF
  rw [szN_eq, sizeLine_eq]
  try rfl
theorem s_nF {n : Nat} (h : n ≤ 16777216) (ds : List D) : k_nF n S (some ds) = .ok (.fr (.lst ds), S) := if_pos h
def k_nC (n : Nat) (xs : List SV) (S : Store) : Res (SV × Store) := if n ≤ 16777216 then .ok (.cell S.length, S ++ [.lst xs]) else .stuck
theorem r_nC (xs : List SV) : newL true xs S = k_nC (szN xs) xs S := by
  unfold newL k_nC
  rw [szN_eq, sizeLine_eq]
  try rfl
theorem s_nC {n : Nat} (h : n ≤ 16777216) (xs : List SV) : k_nC n xs S = .ok (.cell S.length, S ++ [.lst xs]) := if_pos h
end
def absI (i : Int) : Int := if i < 0 then -i else i
theorem bag_run (ns : List Int) (hn : ns.length ≤ sizeLine) : bagM [.fr (.scr (ns.map D.int))] [] = .ok (.new (Bag.c ⟨0, 1234567891, 0, (ns.take 63).map absI⟩), []) := by
  have e1 : cutA (ns.map D.int) none (some 63) = (ns.take 63).map D.int := by
    rw [show (63 : Int) = ((63 : Nat) : Int) from rfl, cut_to, List.map_take]
  have e2 : lcM (fun _ => True) (gNm 2) tTr (eA absG (aC (eV 2) aN)) [1, 2] [some (.fr (.scr (ns.map D.int))), none, none] (((ns.take 63).map D.int).map SV.fr) [] [] = .ok ((((ns.take 63).map absI).map D.int).map SV.fr, []) := by
    rw [lc_map (fun x => match x with
      | .fr (.int i) => .fr (.int (absI i))
      | z => z) (fun _ => trivial)]
    · simp [Function.comp_def]
    · simp
      omega
    · intro x hx acc
      obtain ⟨d, hd, rfl⟩ := List.mem_map.mp hx
      obtain ⟨i, _, rfl⟩ := List.mem_map.mp hd
      simp only [r_bind, r_1, s_1, r_2, s_2, s_2b, r_v, s_v, r_c, r_n, r_a, s_a, s_ab, r_g, s_g, r_and, s_And, s_and1, s_and0, r_or, s_Or, s_or1, s_or0, r_not, s_Not, s_not, r_if, s_if1, s_if0, r_ch, s_ch, s_cha, s_chb1, s_chb0, s_chc, r_tB, s_tB, r_tV, s_tV, s_tv, r_tN, s_tN, r_tA, s_tA1, s_tA0, r_tO, s_tO1, s_tO0, r_tT, r_trB, r_trI, r_trN, r_call, s_call, s_noX, s_backV, s_backC, s_backF, s_frz, r_frz, r_all0, r_all1, r_fn1, r_fn2, r_fn3, r_fn4, r_fn5, s_lvR, s_lvN, r_nx, r_bk, r_ct, r_seq, s_seqN, s_seqR, s_seqB, s_seqC, r_ret, s_ret, r_retN, r_sif, s_sif1, s_sif0, r_ex, s_ex, r_set, s_set, r_par, s_par, r_as, s_as, s_gb, r_gNm, r_gNl, r_gCs, s_gCs, r_gTu2, r_gTu3, r_gTu4, r_gSb, s_sb, s_sb2, s_st, s_nxS, r_au, s_au, s_au0, s_au1, s_au2, s_au3, r_addI, r_for, s_for, s_body, s_turnN, s_turnC, s_turnB, s_turnR, r_r1, s_r1, r_r2, s_r2, r_sq, s_sqL, s_sqS, r_tp, s_tp, r_xT, r_xL, s_x, s_xd, at_0, at_1, at_2, at_3, at_4, r_add, r_sub, r_neg, r_mul, r_fdiv, r_mod, r_pow, r_cmp, r_is, r_eqI, r_abs, r_int, r_max, r_min, r_okV, r_snap, r_lenF, r_lenT, DL.isNon, List.replicate_succ, List.replicate_zero, List.set_cons_zero, List.set_cons_succ, List.getElem?_cons_zero, List.getElem?_cons_succ, Option.map_some, Nat.reduceSub, and_self, and_true, true_and, decide_true, decide_false, if_true, if_false, Bool.false_eq_true, Bool.not_true, Bool.not_false, Nat.reduceSub, Nat.reduceAdd, Nat.reduceMul, Nat.reduceLeDiff, r_lcT, s_l1, s_l2t, s_l3, s_wr0, s_wr]
      rfl
  simp only [r_bind, r_1, s_1, r_2, s_2, s_2b, r_v, s_v, r_c, r_n, r_a, s_a, s_ab, r_g, s_g, r_and, s_And, s_and1, s_and0, r_or, s_Or, s_or1, s_or0, r_not, s_Not, s_not, r_if, s_if1, s_if0, r_ch, s_ch, s_cha, s_chb1, s_chb0, s_chc, r_tB, s_tB, r_tV, s_tV, s_tv, r_tN, s_tN, r_tA, s_tA1, s_tA0, r_tO, s_tO1, s_tO0, r_tT, r_trB, r_trI, r_trN, r_call, s_call, s_noX, s_backV, s_backC, s_backF, s_frz, r_frz, r_all0, r_all1, r_fn1, r_fn2, r_fn3, r_fn4, r_fn5, s_lvR, s_lvN, r_nx, r_bk, r_ct, r_seq, s_seqN, s_seqR, s_seqB, s_seqC, r_ret, s_ret, r_retN, r_sif, s_sif1, s_sif0, r_ex, s_ex, r_set, s_set, r_par, s_par, r_as, s_as, s_gb, r_gNm, r_gNl, r_gCs, s_gCs, r_gTu2, r_gTu3, r_gTu4, r_gSb, s_sb, s_sb2, s_st, s_nxS, r_au, s_au, s_au0, s_au1, s_au2, s_au3, r_addI, r_for, s_for, s_body, s_turnN, s_turnC, s_turnB, s_turnR, r_r1, s_r1, r_r2, s_r2, r_sq, s_sqL, s_sqS, r_tp, s_tp, r_xT, r_xL, s_x, s_xd, at_0, at_1, at_2, at_3, at_4, r_add, r_sub, r_neg, r_mul, r_fdiv, r_mod, r_pow, r_cmp, r_is, r_eqI, r_abs, r_int, r_max, r_min, r_okV, r_snap, r_lenF, r_lenT, DL.isNon, List.replicate_succ, List.replicate_zero, List.set_cons_zero, List.set_cons_succ, List.getElem?_cons_zero, List.getElem?_cons_succ, Option.map_some, Nat.reduceSub, and_self, and_true, true_and, decide_true, decide_false, if_true, if_false, Bool.false_eq_true, Bool.not_true, Bool.not_false, Nat.reduceSub, Nat.reduceAdd, Nat.reduceMul, Nat.reduceLeDiff, bagM, r_nC, s_nC, s_sz0, s_sz1, r_lc, r_sl, s_sl, s_sl1, s_sl2, r_ps, s_ps, r_pn, r_slS, e1, s_lc, e2, s_noE, s_lceF wf_nil, Option.map_none]
  rfl
end DL

namespace DL
open PySem L2

section
variable {S : Store} {c c' : Cell} {x y : SV} {xs : List SV} {m : AM} {rho : Slots} {o : EM}
theorem get_snoc : (S ++ [c])[S.length]? = some c := by simp
theorem set_snoc : (S ++ [c]).set S.length c' = S ++ [c'] := by simp
theorem last_x (i : Int) : ixG (.cell S.length) (.fr (.int i)) (S ++ [.lst xs]) = k_x (S ++ [.lst xs]) (atI xs i) := r_xC get_snoc i
theorem at_m1 {α : Type} (l : List α) (a : α) : atI (l ++ [a]) (-1) = some a := by
  unfold atI ixN
  rw [if_neg (by decide), List.length_append, List.length_singleton, if_pos (by omega), Option.bind_some]
  have : ((-1 : Int) + ((l.length + 1 : Nat) : Int)).toNat = l.length := by omega
  rw [this]
  simp
theorem last_set (v : SV) (l : List SV) (a : SV) : setL (.cell S.length) (.fr (.int (-1))) v (S ++ [.lst (l ++ [a])]) = .ok (S ++ [.lst (l ++ [v])]) := by
  unfold setL
  have e : ixN (l ++ [a]).length (-1) = some l.length := by
    unfold ixN
    rw [if_neg (by decide), List.length_append, List.length_singleton, if_pos (by omega)]
    congr 1
    omega
  simp only [get_snoc, e, set_snoc]
  congr 4
  simp
def k_mtb (g : GMt) (x : SV) (r : List SV × Store) : Res (SV × Store) := g x r.1 r.2
def k_mt (T : String) (g : GMt) (m : AM) (rho : Slots) (r : SV × Store) : Res (SV × Store) := if tyS T r.2 r.1 then (m rho r.2).bind (k_mtb g r.1) else .stuck
theorem r_mt (T : String) (g : GMt) : eMt T g o m rho S = (o rho S).bind (k_mt T g m rho) := id rfl
theorem s_mt {T : String} (g : GMt) (h : tyS T S x = true) : k_mt T g m rho (x, S) = (m rho S).bind (k_mtb g x) := if_pos h
theorem s_mtb (g : GMt) : k_mtb g x (xs, S) = g x xs S := id rfl
theorem ty_last : tyS "list" (S ++ [.lst xs]) (.cell S.length) = true := by
  unfold tyS
  simp [rdL, get_snoc]
theorem last_app (h : xs.length < 16777216) : appendG (.cell S.length) [y] (S ++ [.lst xs]) = .ok (.fr .non, S ++ [.lst (xs ++ [y])]) := by
  unfold appendG cellOf
  have hz := sizeLine_eq
  simp only [get_snoc, hz, if_pos h, set_snoc]
  rfl
theorem last_snap {ds : List D} : snap (S ++ [.lst (ds.map SV.fr)]) (.cell S.length) = some (.lst ds) := by
  unfold snap
  simp only [get_snoc, allSn_map (snap0_fr _), Option.map_some]
theorem deq_nil (ds : List D) : deq (.lst ds) (.lst []) = ds.isEmpty := by
  cases ds <;> rfl
theorem plain_nil : plain (.lst []) = true := by rfl
theorem eqD_nil {ds : List D} (h : plain (.lst ds) = true) : eqD (.lst ds) (.lst []) = some ds.isEmpty := by
  unfold eqD
  split
  · rename_i e
    cases e
  · rw [h, plain_nil, deq_nil]; rfl
theorem eq_nilL {ds : List D} (n : Bool) (h : plain (.lst ds) = true) : eqG n (.cell S.length) (.fr (.lst [])) (S ++ [.lst (ds.map SV.fr)]) = .ok (.fr (.bl (if n then !ds.isEmpty else ds.isEmpty)), S ++ [.lst (ds.map SV.fr)]) := r_eq n last_snap rfl (eqD_nil h)
def k_fld (ns : List Str) (f : Str) (r : SV × Store) : Res (SV × Store) := fldG ns f r.1 r.2
theorem r_fld' (ns : List Str) (f : Str) : eFld ns f o rho S = (o rho S).bind (k_fld ns f) := id rfl
theorem s_fld (ns : List Str) (f : Str) : k_fld ns f (x, S) = fldG ns f x S := id rfl
def k_meth0 (cc : Bool) (tbl : Tbl) (nm : Str) (r : SV × Store) : Res (SV × Store) := match metOf tbl nm r.2 r.1 with
  | some f => (noX (f [r.1] r.2)).bind (back cc)
  | none => .stuck
theorem r_meth0 (cc : Bool) (tbl : Tbl) (nm : Str) : eMeth0 cc tbl nm o rho S = (o rho S).bind (k_meth0 cc tbl nm) := id rfl
theorem s_meth0 {cc : Bool} {tbl : Tbl} {nm : Str} {f : FnM} (h : metOf tbl nm S x = some f) : k_meth0 cc tbl nm (x, S) = (noX (f [x] S)).bind (back cc) := by
  unfold k_meth0
  simp only [h]
def k_methb (cc : Bool) (f : FnM) (x : SV) (r : List SV × Store) : Res (SV × Store) := (noX (f (x :: r.1) r.2)).bind (back cc)
def k_meth (cc : Bool) (tbl : Tbl) (nm : Str) (m : AM) (rho : Slots) (r : SV × Store) : Res (SV × Store) := match metOf tbl nm r.2 r.1 with
  | some f => (m rho r.2).bind (k_methb cc f r.1)
  | none => .stuck
theorem r_meth (cc : Bool) (tbl : Tbl) (nm : Str) : eMeth cc tbl nm o m rho S = (o rho S).bind (k_meth cc tbl nm m rho) := id rfl
theorem s_meth {cc : Bool} {tbl : Tbl} {nm : Str} {f : FnM} (h : metOf tbl nm S x = some f) : k_meth cc tbl nm m rho (x, S) = (m rho S).bind (k_methb cc f x) := by
  unfold k_meth
  simp only [h]
theorem s_methb (cc : Bool) (f : FnM) : k_methb cc f x (xs, S) = (noX (f (x :: xs) S)).bind (back cc) := id rfl
def k_make (c : Bool) (n : Str) (f : FnM) (r : List SV × Store) : Res (SV × Store) := (noX (f (.cell r.2.length :: r.1) (r.2 ++ [.ins n []]))).bind (mkEnd c r.2.length)
theorem r_make (c : Bool) (n : Str) (f : FnM) : eMake c n f m rho S = (m rho S).bind (k_make c n f) := id rfl
theorem s_make (c : Bool) (n : Str) (f : FnM) : k_make c n f (xs, S) = (noX (f (.cell S.length :: xs) (S ++ [.ins n []]))).bind (mkEnd c S.length) := id rfl
theorem s_mkEnd {n : Str} {fs : List (Str × SV)} {ds : List (Str × D)} (wf : WF S) (h : allFrF fs = some ds) : mkEnd false S.length (.val (.fr .non), S ++ [.ins n fs]) = .ok (.fr (.ins n ds), S) := by
  unfold mkEnd
  simp only [get_snoc, Bool.false_eq_true, if_false, List.take_left', h]
  rw [if_pos (show S.all (Cell.below S.length) = true from wf)]
def k_sfb (ns : List Str) (f : Str) (rho : Slots) (v : SV) (r : SV × Store) : Res (Fl × Slots × Store) := match r.1 with
  | .cell k => match r.2[k]? with
    | some (.ins n fs) => if n ∈ ns ∧ fs.length < 1000 then .ok (.nx, rho, r.2.set k (.ins n (putS f v fs))) else .stuck
    | _ => .stuck
  | _ => .stuck
def k_sf (ns : List Str) (f : Str) (o : EM) (rho : Slots) (r : SV × Store) : Res (Fl × Slots × Store) := (o rho r.2).bind (k_sfb ns f rho r.1)
theorem r_sf (ns : List Str) (f : Str) (p : EM) : sFldM ns f o p rho S = (p rho S).bind (k_sf ns f o rho) := id rfl
theorem s_sf (ns : List Str) (f : Str) : k_sf ns f o rho (x, S) = (o rho S).bind (k_sfb ns f rho x) := id rfl
theorem s_sfb {ns : List Str} {f n : Str} {fs : List (Str × SV)} (h : n ∈ ns ∧ fs.length < 1000) : k_sfb ns f rho x (.cell S.length, S ++ [.ins n fs]) = .ok (.nx, rho, S ++ [.ins n (putS f x fs)]) := by
  unfold k_sfb
  simp only [get_snoc, if_pos h, set_snoc]
def k_sort (c : Bool) (r : SV × Store) : Res (SV × Store) := sortG c r.1 r.2
theorem r_sort (c : Bool) : eSortF c o rho S = (o rho S).bind (k_sort c) := id rfl
theorem s_sort (c : Bool) : k_sort c (x, S) = sortG c x S := id rfl
theorem wf_acc (h : WF S) (ds : List D) : WF (S ++ [.lst (ds.map SV.fr)]) := h.snoc (by simp only [Cell.below]; exact below_map _ ds)
theorem lc_fm {gm : GM} {t : TM} {e : EM} {lk : Store → Prop} {own : List Nat} (f : SV → Option D) (hlk : ∀ ds : List D, lk (S ++ [.lst (ds.map SV.fr)])) : ∀ (xs : List SV) (ds : List D), ds.length + xs.length ≤ 16777216 →
    (∀ x ∈ xs, ∀ ds : List D, lcT gm t e x (wipeR rho own) (S ++ [.lst (ds.map SV.fr)]) = .ok ((f x).map SV.fr, S ++ [.lst (ds.map SV.fr)])) → lcM lk gm t e own rho xs S (ds.map SV.fr) = .ok ((ds ++ xs.filterMap f).map SV.fr, S)
  | [], ds, _, _ => by rw [lc_nil (hlk _)]; simp
  | x :: xs, ds, hz, h => by
    have hz' : ds.length + (xs.length + 1) ≤ 16777216 := hz
    have hs := sizeLine_eq
    have h1 := h x List.mem_cons_self ds
    cases q : f x with
    | none =>
      rw [q] at h1
      rw [lc_none (hlk _) rfl h1, lc_fm f hlk xs ds (by omega) fun z hz => h z (List.mem_cons_of_mem _ hz), List.filterMap_cons_none q]
    | some d =>
      rw [q] at h1
      have e2 : ds.map SV.fr ++ [SV.fr d] = (ds ++ [d]).map SV.fr := by simp
      rw [lc_some (hlk _) (by rw [List.length_map, hs]; omega) rfl h1, e2, lc_fm f hlk xs (ds ++ [d]) (by simp; omega) fun z hz => h z (List.mem_cons_of_mem _ hz), List.filterMap_cons_some q]
      simp
theorem lc_fm0 {gm : GM} {t : TM} {e : EM} {lk : Store → Prop} {own : List Nat} (f : SV → Option D) (hlk : ∀ ds : List D, lk (S ++ [.lst (ds.map SV.fr)])) (xs : List SV) (hz : xs.length ≤ 16777216)
    (h : ∀ x ∈ xs, ∀ ds : List D, lcT gm t e x (wipeR rho own) (S ++ [.lst (ds.map SV.fr)]) = .ok ((f x).map SV.fr, S ++ [.lst (ds.map SV.fr)])) : lcM lk gm t e own rho xs S [] = .ok ((xs.filterMap f).map SV.fr, S) := by
  have := lc_fm f hlk xs [] (by simpa using hz) h
  simpa using this
theorem blsOf_map : ∀ bs : List Bool, blsOf (bs.map fun b => SV.fr (.bl b)) = some bs
  | [] => rfl
  | b :: bs => by simp [blsOf, blsOf_map bs]
theorem intsOf_map : ∀ bs : List Int, intsOf (bs.map fun b => SV.fr (.int b)) = some bs
  | [] => rfl
  | b :: bs => by simp [intsOf, intsOf_map bs]
theorem all_bls (bs : List Bool) : allG [.fr (.lst (bs.map D.bl))] S = .ok (.fr (.bl (bs.all id)), S) := by
  unfold allG
  have e : (rdS S (.fr (.lst (bs.map D.bl)))).bind blsOf = some bs := by
    simp only [rdS, rdL, Option.bind_some, List.map_map]
    exact blsOf_map bs
  simp only [e, okV]
theorem any_bls (bs : List Bool) : anyG [.fr (.lst (bs.map D.bl))] S = .ok (.fr (.bl (bs.any id)), S) := by
  unfold anyG
  have e : (rdS S (.fr (.lst (bs.map D.bl)))).bind blsOf = some bs := by
    simp only [rdS, rdL, Option.bind_some, List.map_map]
    exact blsOf_map bs
  simp only [e, okV]
theorem sum_ints (ns : List Int) : sumG [.fr (.lst (ns.map D.int))] S = .ok (.fr (.int ns.sum), S) := by
  unfold sumG
  have e : (rdS S (.fr (.lst (ns.map D.int)))).bind intsOf = some ns := by
    simp only [rdS, rdL, Option.bind_some, List.map_map]
    exact intsOf_map ns
  simp only [e, okV]
theorem list_new (ds : List D) : listG true [.fr (.lst ds)] S = .ok (.cell S.length, S ++ [.lst (ds.map SV.fr)]) := rfl
end
end DL

namespace DL
open PySem L2

section
variable {S : Store} {a : EM} {m : AM} {rho : Slots} {x y : SV}
def k_en (r : List SV × Store) : Res (Wk × Store) := match r.1 with
  | [a] => match srcM r.2 a with
    | some (ds, lk) => .ok (⟨enF 0 ds, lk⟩, r.2)
    | none => .stuck
  | _ => .stuck
theorem r_en : iEn m rho S = (m rho S).bind k_en := id rfl
theorem src_L (ds : List D) : srcM S (.fr (.lst ds)) = some (ds, fun _ => True) := by
  unfold srcM
  simp only [rdS, rdL, Option.bind_some, allFr_map, Option.map_some]
theorem src_C {k : Nat} {ds : List D} (h : S[k]? = some (.lst (ds.map SV.fr))) : srcM S (.cell k) = some (ds, fun S' => S'[k]? = some (.lst (ds.map SV.fr))) := by
  unfold srcM
  simp only [rdL, h, Option.bind_some, allFr_map, Option.map_some]
theorem s_enL (ds : List D) : k_en ([.fr (.lst ds)], S) = .ok (⟨enF 0 ds, fun _ => True⟩, S) := by
  unfold k_en
  simp only [src_L]
theorem s_enC {k : Nat} {ds : List D} (h : S[k]? = some (.lst (ds.map SV.fr))) : k_en ([.cell k], S) = .ok (⟨enF 0 ds, fun S' => S'[k]? = some (.lst (ds.map SV.fr))⟩, S) := by
  unfold k_en
  simp only [src_C h]
def k_zi (r : List SV × Store) : Res (Wk × Store) := match r.1 with
  | [a, b] => match srcM r.2 a, srcM r.2 b with
    | some (ds, lk), some (es, lk') => .ok (⟨ziF ds es, fun S => lk S ∧ lk' S⟩, r.2)
    | _, _ => .stuck
  | _ => .stuck
theorem r_zi : iZi m rho S = (m rho S).bind k_zi := id rfl
theorem s_ziL (ds es : List D) : k_zi ([.fr (.lst ds), .fr (.lst es)], S) = .ok (⟨ziF ds es, fun _ => True ∧ True⟩, S) := by
  unfold k_zi
  simp only [src_L]
def k_sst (c : Bool) (r : SV × Store) : Res (SV × Store) := sortSetG c r.1 r.2
theorem r_sst (c : Bool) : eSortSet c a rho S = (a rho S).bind (k_sst c) := id rfl
theorem intsOf_fr (ns : List Int) : intsOf (ns.map fun i => SV.fr (.int i)) = some ns := intsOf_map ns
theorem s_sstC4 {k : Nat} {ns : List Int} (h : S[k]? = some (.lst (ns.map fun i => SV.fr (.int i)))) (h1 : ns.length < 4000) (h2 : (asc ns).length < 4000) : k_sst true (.cell k, S) = .ok (.cell S.length, S ++ [.lst ((asc ns).map fun i => SV.fr (.int i))]) := by
  show sortSetG true (.cell k) S = _
  unfold sortSetG
  simp only [rdS, rdL, h, Option.bind_some, intsOf_fr, if_pos (And.intro h1 h2)]
  rfl
theorem s_sstC {k : Nat} {ns : List Int} (h : S[k]? = some (.lst (ns.map fun i => SV.fr (.int i)))) (h1 : ns.length < 4000) (h2 : (asc ns).length < 64) : k_sst true (.cell k, S) = .ok (.cell S.length, S ++ [.lst ((asc ns).map fun i => SV.fr (.int i))]) := s_sstC4 h h1 (Nat.lt_trans h2 (by decide))
def k_cmA (cc : Bool) (n : Str) (f : FnM) (r : List SV × Store) : Res (SV × Store) := (noX (f (.fr (.cls n) :: r.1) r.2)).bind (back cc)
theorem r_cmA (cc : Bool) (n : Str) (f : FnM) : eCmA cc n f m rho S = (m rho S).bind (k_cmA cc n f) := id rfl
theorem s_cmA (cc : Bool) (n : Str) (f : FnM) (xs : List SV) : k_cmA cc n f (xs, S) = (noX (f (.fr (.cls n) :: xs) S)).bind (back cc) := id rfl
def k_rev (c : Bool) (r : SV × Store) : Res (SV × Store) := revG c r.1 r.2
theorem r_rev (c : Bool) : eRev c a rho S = (a rho S).bind (k_rev c) := id rfl
theorem s_revF (ds : List D) : k_rev false (.fr (.lst ds), S) = .ok (.fr (.lst ds.reverse), S) := by
  show revG false (.fr (.lst ds)) S = _
  unfold revG newL0
  simp only [rdS, rdL, ← List.map_reverse, allFr_map, Bool.false_eq_true, if_false]
def k_par3 (i j l : Nat) (rho : Slots) (r : List SV × Store) : Res (Fl × Slots × Store) := match r.1 with
  | [u, v, w] => .ok (.nx, ((rho.set i (some u)).set j (some v)).set l (some w), r.2)
  | _ => .stuck
theorem r_par3 (i j l : Nat) : sPar3 i j l m rho S = (m rho S).bind (k_par3 i j l rho) := id rfl
theorem s_par3 (i j l : Nat) (z : SV) : k_par3 i j l rho ([x, y, z], S) = .ok (.nx, ((rho.set i (some x)).set j (some y)).set l (some z), S) := id rfl
theorem r_gUl3 {ms : GMs} (d e f : D) : gUl 3 ms (.fr (.lst [d, e, f])) rho S = ms [.fr d, .fr e, .fr f] rho S := id rfl
def k_mt0 (T : String) (g : GMt) (r : SV × Store) : Res (SV × Store) := if tyS T r.2 r.1 then g r.1 [] r.2 else .stuck
theorem r_mt0' (T : String) (g : GMt) : eMt0 T g a rho S = (a rho S).bind (k_mt0 T g) := id rfl
end
theorem loop_endsL {lk : Store → Prop} {gm : GM} {bd : SM} (J : List SV → Slots → Store → Prop) (hl : ∀ xs rho S, J xs rho S → lk S)
    (step : ∀ x xs rho S, J (x :: xs) rho S → Ends ((gm x rho S).bind (k_body bd)) fun r => r.1 = .nx ∧ J xs r.2.1 r.2.2) {xs : List SV} {rho : Slots} {S : Store} (h : J xs rho S) :
    Ends (loopM lk gm bd xs rho S) fun r => r.1 = .nx ∧ J [] r.2.1 r.2.2 := by
  obtain ⟨rho', S', e, j⟩ := loop_inv (lk := lk) gm bd J hl (fun x xs rho S h => by
    obtain ⟨⟨f, r1, S1⟩, e, q1, q2⟩ := step x xs rho S h
    cases q1
    exact ⟨r1, S1, e, q2⟩) xs rho S h
  exact ⟨_, e, rfl, j⟩
section
variable {S : Store}
def k_nTC (n : Nat) (xs : List SV) (S : Store) : Res (SV × Store) := if n ≤ 16777216 then .ok (.cell S.length, S ++ [.tup xs]) else .stuck
theorem r_nTC (xs : List SV) : newTC xs S = k_nTC (szN xs) xs S := by
  unfold newTC k_nTC
  rw [szN_eq, sizeLine_eq]
  try rfl
theorem s_nTC {n : Nat} (h : n ≤ 16777216) (xs : List SV) : k_nTC n xs S = .ok (.cell S.length, S ++ [.tup xs]) := if_pos h
end
end DL

namespace DL
open PySem PySem.Spec PyProof.Rows L2
section
variable {a b c : EM} {m : AM} {rho : Slots} {S : Store} {x y z : SV} {xs : List SV} {k j : Nat} {kvs : List (List Key × SV)} {key : List Key}
def k_get3 (o k : SV) (r : SV × Store) : Res (SV × Store) := getTG o k r.1 r.2
def k_get2 (o : SV) (mx : EM) (rho : Slots) (r : SV × Store) : Res (SV × Store) := (mx rho r.2).bind (k_get3 o r.1)
def k_get1 (mk mx : EM) (rho : Slots) (r : SV × Store) : Res (SV × Store) := if (rdTD r.2 r.1).isSome then (mk rho r.2).bind (k_get2 r.1 mx rho) else .stuck
theorem r_getT : eGetT a b c rho S = (a rho S).bind (k_get1 b c rho) := id rfl
theorem s_get2 : k_get2 x c rho (y, S) = (c rho S).bind (k_get3 x y) := id rfl
theorem s_get3 : k_get3 x y (z, S) = getTG x y z S := id rfl
def k_ptT3 (rho : Slots) (S' : Store) : Res (Slots × Store) := .ok (rho, S')
def k_ptT2 (x : SV) (rho : Slots) (o : SV) (i : SV × Store) : Res (Slots × Store) := (putTD o i.1 x i.2).bind (k_ptT3 rho)
def k_ptT (mi : EM) (x : SV) (rho : Slots) (o : SV × Store) : Res (Slots × Store) := (mi rho o.2).bind (k_ptT2 x rho o.1)
theorem r_ptT : gPtT a b x rho S = (a rho S).bind (k_ptT b x rho) := id rfl
theorem s_ptT : k_ptT b x rho (y, S) = (b rho S).bind (k_ptT2 x rho y) := id rfl
theorem s_ptT2 : k_ptT2 x rho y (z, S) = (putTD y z x S).bind (k_ptT3 rho) := id rfl
theorem s_ptT3 : k_ptT3 rho S = .ok (rho, S) := id rfl
def k_mtT (g : GMt) (m : AM) (rho : Slots) (r : SV × Store) : Res (SV × Store) := match r.1 with
  | .cell j => match r.2[j]? with
    | some (.dit _) => (m rho r.2).bind (k_mtb g r.1)
    | _ => .stuck
  | _ => .stuck
theorem r_mtT (g : GMt) : eMtT g a m rho S = (a rho S).bind (k_mtT g m rho) := by
  unfold eMtT
  congr 1
def k_itT (r : SV × Store) : Res (Wk × Store) := match lkd r.2 r.1 with
  | some kvs => match itemsT kvs with
    | some xs => .ok (⟨xs, ktP⟩, r.2)
    | none => .stuck
  | none => .stuck
theorem r_itT : iItT a rho S = (a rho S).bind k_itT := id rfl
def k_kyT (r : SV × Store) : Res (Wk × Store) := match lkd r.2 r.1 with
  | some kvs => .ok (⟨kvs.map fun p => .fr (tupK p.1), ktP⟩, r.2)
  | none => .stuck
theorem r_kyT : iKyT a rho S = (a rho S).bind k_kyT := id rfl
theorem r_mkK0 (n : Str) (f : KnM) : eMakeK0 n f rho S = (noXK (f [.cell S.length] (S ++ [.ins n []]))).bind (mkEndK S.length) := id rfl
theorem s_noXK (r : SV × Store) : noXK (.ok r) = .ok r := id rfl
theorem s_mkEndK (T : Store) : mkEndK k (.fr .non, T) = .ok (.cell k, T) := id rfl
def k_tOwn2 (r : RV × Store) : Res (Bool × Store) := match r.1 with
  | .val (.fr (.bl b)) => .ok (b, r.2)
  | _ => .stuck
def k_tOwn (tbl : Tbl) (x : SV × Store) : Res (Bool × Store) := match insOf x.2 x.1 with
  | some (n, _) => match tbl.lookup n with
    | some f => (noX (f [x.1] x.2)).bind k_tOwn2
    | none => .stuck
  | none => .stuck
theorem r_tOwn (tbl : Tbl) : tOwn tbl a rho S = (a rho S).bind (k_tOwn tbl) := id rfl
theorem s_tOwn2 (r : Bool) : k_tOwn2 (.val (.fr (.bl r)), S) = .ok (r, S) := id rfl
def k_cK (f : KnM) (x : List SV × Store) : Res (SV × Store) := match f x.1 x.2 with
  | .exc _ _ _ => .stuck
  | r => r
theorem r_cK (f : KnM) : eCallK f m rho S = (m rho S).bind (k_cK f) := id rfl
theorem r_dnt : eDNT rho S = .ok (.cell S.length, S ++ [.dit []]) := id rfl
end
section
variable {κ : Type} [DecidableEq κ]
end
end DL

namespace DL
open PySem PySem.Spec PyProof.Rows L2
section
variable {a b c : EM} {m : AM} {rho r : Slots} {S : Store} {x y z : SV} {xs : List SV} {k j : Nat} {kvs : List (List Key × SV)} {key : List Key}
def k_callX (f : FnM) (cc : Bool) (rho : Slots) (x : List SV × Store) : Res (SV × Store) := (cutX x.2.length rho (f x.1 x.2)).bind (back cc)
theorem r_callX (f : FnM) (cc : Bool) : eCallX f cc m rho S = (m rho S).bind (k_callX f cc rho) := id rfl
theorem s_callX (f : FnM) (cc : Bool) : k_callX f cc rho (xs, S) = (cutX S.length rho (f xs S)).bind (back cc) := id rfl
theorem s_cutX (n : Nat) (x : RV × Store) : cutX n rho (.ok x) = .ok x := id rfl
def k_methX2 (cc : Bool) (f : FnM) (x : SV) (rho : Slots) (y : List SV × Store) : Res (SV × Store) := (cutX y.2.length rho (f (x :: y.1) y.2)).bind (back cc)
def k_methX (cc : Bool) (tbl : Tbl) (nm : Str) (m : AM) (rho : Slots) (x : SV × Store) : Res (SV × Store) := match metOf tbl nm x.2 x.1 with
  | some f => (m rho x.2).bind (k_methX2 cc f x.1 rho)
  | none => .stuck
theorem r_methX (cc : Bool) (tbl : Tbl) (nm : Str) : eMethX cc tbl nm a m rho S = (a rho S).bind (k_methX cc tbl nm m rho) := id rfl
theorem s_methX2 (cc : Bool) (f : FnM) : k_methX2 cc f x rho (xs, S) = (cutX S.length rho (f (x :: xs) S)).bind (back cc) := id rfl
def k_rsF (C : Str) (fs : List Str) (rho : Slots) (x : List SV × Store) : Res (Fl × Slots × Store) := match allFr x.1 with
  | some ds => if ds.length = fs.length ∧ fs.length ≤ 900 ∧ fs ≠ [] then .exc ⟨C, (fs.zip ds).reverse⟩ rho x.2 else .stuck
  | none => .stuck
theorem r_rsF (C : Str) (fs : List Str) : sRsF C fs m rho S = (m rho S).bind (k_rsF C fs rho) := id rfl
def k_prop (cc : Bool) (n : Str) (f : FnM) (x : SV × Store) : Res (SV × Store) := match insOf x.2 x.1 with
  | some (n', _) => if n' = n then (noX (f [x.1] x.2)).bind (back cc) else .stuck
  | none => .stuck
theorem r_prop (cc : Bool) (n : Str) (f : FnM) : eProp cc n f a rho S = (a rho S).bind (k_prop cc n f) := id rfl
def k_vlT (r : SV × Store) : Res (Wk × Store) := match lkd r.2 r.1 with
  | some kvs => .ok (⟨kvs.map (·.2), ktP⟩, r.2)
  | none => .stuck
theorem r_vlT : iVlT a rho S = (a rho S).bind k_vlT := id rfl
def k_sortL (kG : KG) (cc : Bool) (x : SV × Store) : Res (SV × Store) := sortLG kG cc x.1 x.2
theorem r_sortL (kG : KG) (cc : Bool) : eSortL kG cc a rho S = (a rho S).bind (k_sortL kG cc) := id rfl
theorem s_sortL (kG : KG) (cc : Bool) : k_sortL kG cc (x, S) = sortLG kG cc x S := id rfl
def k_minL (kG : KG) (x : SV × Store) : Res (SV × Store) := minLG kG x.1 x.2
theorem r_minL (kG : KG) : eMinL kG a rho S = (a rho S).bind (k_minL kG) := id rfl
theorem s_minL (kG : KG) : k_minL kG (x, S) = minLG kG x S := id rfl
end
end DL

namespace DL
open PySem PySem.Spec PyProof.Rows L2
def RR := (And.intro (And.intro (And.intro (And.intro (And.intro (And.intro (And.intro @r_bind (And.intro @r_1 @s_1)) (And.intro (And.intro @r_2 @s_2) (And.intro @s_2b @r_v))) (And.intro (And.intro (And.intro @s_v @r_c) (And.intro @r_n @r_a)) (And.intro (And.intro @s_a @s_ab) (And.intro @r_g @s_g)))) (And.intro (And.intro (And.intro (And.intro @r_and @s_And) (And.intro @s_and1 @s_and0)) (And.intro (And.intro @r_or @s_Or) (And.intro @s_or1 @s_or0))) (And.intro (And.intro (And.intro @r_not @s_Not) (And.intro @s_not @r_if)) (And.intro (And.intro @s_if1 @s_if0) (And.intro @r_ch @s_ch))))) (And.intro (And.intro (And.intro (And.intro (And.intro @s_cha @s_chb1) (And.intro @s_chb0 @s_chc)) (And.intro (And.intro @r_tB @s_tB) (And.intro @r_tV @s_tV))) (And.intro (And.intro (And.intro @s_tv @r_tN) (And.intro @s_tN @r_tA)) (And.intro (And.intro @s_tA1 @s_tA0) (And.intro @r_tO @s_tO1)))) (And.intro (And.intro (And.intro (And.intro @s_tO0 @r_tT) (And.intro @r_trB @r_trI)) (And.intro (And.intro @r_trN @r_call) (And.intro @s_call @s_noX))) (And.intro (And.intro (And.intro @s_backV @s_backC) (And.intro @s_backF @s_frz)) (And.intro (And.intro @r_frz @r_all0) (And.intro @r_all1 @r_fn1)))))) (And.intro (And.intro (And.intro (And.intro (And.intro @r_fn2 (And.intro @r_fn3 @r_fn4)) (And.intro (And.intro @r_fn5 @s_lvR) (And.intro @s_lvN @r_nx))) (And.intro (And.intro (And.intro @r_bk @r_ct) (And.intro @r_seq @s_seqN)) (And.intro (And.intro @s_seqR @s_seqB) (And.intro @s_seqC @r_ret)))) (And.intro (And.intro (And.intro (And.intro @s_ret @r_retN) (And.intro @r_sif @s_sif1)) (And.intro (And.intro @s_sif0 @r_ex) (And.intro @s_ex @r_set))) (And.intro (And.intro (And.intro @s_set @r_par) (And.intro @s_par @r_as)) (And.intro (And.intro @s_as @s_gb) (And.intro @r_gNm @r_gNl))))) (And.intro (And.intro (And.intro (And.intro (And.intro @r_gCs @s_gCs) (And.intro @r_gTu2 @r_gTu3)) (And.intro (And.intro @r_gTu4 @r_gSb) (And.intro @s_sb @s_sb2))) (And.intro (And.intro (And.intro @s_st @s_nxS) (And.intro @r_au @s_au)) (And.intro (And.intro @s_au0 @s_au1) (And.intro @s_au2 @s_au3)))) (And.intro (And.intro (And.intro (And.intro @r_addI @r_for) (And.intro @s_for @s_body)) (And.intro (And.intro @s_turnN @s_turnC) (And.intro @s_turnB @s_turnR))) (And.intro (And.intro (And.intro @r_r1 @s_r1) (And.intro @r_r2 @s_r2)) (And.intro (And.intro @r_sq @s_sqL) (And.intro @s_sqS @r_tp))))))) (And.intro (And.intro (And.intro (And.intro (And.intro (And.intro @s_tp (And.intro @r_xT @r_xL)) (And.intro (And.intro @s_x @s_xd) (And.intro @at_0 @at_1))) (And.intro (And.intro (And.intro @at_2 @at_3) (And.intro @at_4 @r_add)) (And.intro (And.intro @r_sub @r_neg) (And.intro @r_mul @r_fdiv)))) (And.intro (And.intro (And.intro (And.intro @r_mod @r_pow) (And.intro @r_cmp @r_is)) (And.intro (And.intro @r_eqI @r_abs) (And.intro @r_int @r_max))) (And.intro (And.intro (And.intro @r_min @r_okV) (And.intro @r_snap @r_lenF)) (And.intro (And.intro @r_lenT @r_ps) (And.intro @s_ps @r_pn))))) (And.intro (And.intro (And.intro (And.intro (And.intro @r_sl @s_sl) (And.intro @s_sl1 @s_sl2)) (And.intro (And.intro @r_slL @r_slS) (And.intro @r_slT @r_lcT))) (And.intro (And.intro (And.intro @s_l1 @s_l2t) (And.intro @s_l2f @s_l3)) (And.intro (And.intro @r_lc @s_lc) (And.intro @s_noE @s_lceC)))) (And.intro (And.intro (And.intro (And.intro @s_wr0 @s_wr) (And.intro @r_nT @s_nT)) (And.intro (And.intro @r_nF @s_nF) (And.intro @r_nC @s_nC))) (And.intro (And.intro (And.intro @s_sz0 @s_sz1) (And.intro @last_x @at_m1)) (And.intro (And.intro @last_set @r_mt) (And.intro @s_mt @s_mtb)))))) (And.intro (And.intro (And.intro (And.intro (And.intro (And.intro @ty_last @r_fld') (And.intro @s_fld @r_meth0)) (And.intro (And.intro @s_meth0 @r_meth) (And.intro @s_meth @s_methb))) (And.intro (And.intro (And.intro @r_make @s_make) (And.intro @r_sf @s_sf)) (And.intro (And.intro @s_sfb @r_sort) (And.intro @s_sort @r_en)))) (And.intro (And.intro (And.intro (And.intro @s_enL @r_zi) (And.intro @s_ziL @r_sst)) (And.intro (And.intro @r_mt0' @r_gUl3) (And.intro @r_par3 @s_par3))) (And.intro (And.intro (And.intro @r_cmA @s_cmA) (And.intro @r_rev @s_revF)) (And.intro (And.intro @r_cw @s_cw) (And.intro @s_cw1 @r_fill))))) (And.intro (And.intro (And.intro (And.intro (And.intro @r_isB @r_nTC) (And.intro @s_nTC @r_getT)) (And.intro (And.intro @s_get2 @s_get3) (And.intro @r_ptT @s_ptT))) (And.intro (And.intro (And.intro @s_ptT2 @s_ptT3) (And.intro @r_mtT @r_itT)) (And.intro (And.intro @r_kyT @r_mkK0) (And.intro @s_noXK @s_mkEndK)))) (And.intro (And.intro (And.intro (And.intro @r_tOwn @s_tOwn2) (And.intro @r_cK @r_dnt)) (And.intro (And.intro @r_callX @s_callX) (And.intro @s_cutX @r_methX))) (And.intro (And.intro (And.intro @s_methX2 @r_rsF) (And.intro @r_prop @r_vlT)) (And.intro (And.intro @r_sortL @s_sortL) (And.intro @r_minL @s_minL))))))))
end DL

namespace MA

abbrev Span := Int × Option Int
def below (x : Int) : Option Int → Bool
  | none => true
  | some l => decide (x ≤ l)
def cov (s : Span) (x : Int) : Bool := decide (s.1 ≤ x) && below x s.2
def mem (ss : List Span) (x : Int) : Bool := ss.any fun s => cov s x
structure Ok (s : Span) : Prop where
  f0 : 0 ≤ s.1
  l1 : ∀ l, s.2 = some l → s.1 ≤ l
def Nf : Int → List Span → Prop
  | _, [] => True
  | lo, (f, none) :: r => lo ≤ f ∧ r = []
  | lo, (f, some l) :: r => lo ≤ f ∧ f ≤ l ∧ Nf (l + 2) r
theorem Nf.mono {a b : Int} (h : b ≤ a) : ∀ {ss : List Span}, Nf a ss → Nf b ss
  | [], _ => True.intro
  | (f, none) :: r, q => ⟨Int.le_trans h q.1, q.2⟩
  | (f, some l) :: r, q => ⟨Int.le_trans h q.1, q.2⟩
theorem mem_nil (x : Int) : mem [] x = false := rfl
theorem mem_cons (s : Span) (ss : List Span) (x : Int) : mem (s :: ss) x = (cov s x || mem ss x) := rfl
theorem Nf.low {lo x : Int} : ∀ {ss : List Span}, Nf lo ss → x < lo → mem ss x = false
  | [], _, _ => rfl
  | (f, none) :: r, q, h => by
    obtain ⟨q1, rfl⟩ := q
    have : ¬ f ≤ x := by omega
    simp [mem_cons, mem_nil, cov, this]
  | (f, some l) :: r, q, h => by
    obtain ⟨q1, q2, q3⟩ := q
    have : ¬ f ≤ x := by omega
    rw [mem_cons, Nf.low q3 (by omega)]
    simp [cov, this]
theorem Nf.uniq : ∀ {xs ys : List Span} {a b : Int}, Nf a xs → Nf b ys → (∀ x, mem xs x = mem ys x) → xs = ys
  | [], [], _, _, _, _, _ => rfl
  | [], (f, l) :: r, _, _, _, q, h => by
    have z := h f
    have : cov (f, l) f = true := by
      cases l with
      | none => simp [cov, below]
      | some i => simp [cov, below, q.2.1]
    rw [mem_nil, mem_cons, this] at z
    cases z
  | (f, l) :: r, [], _, _, q, _, h => by
    have z := h f
    have : cov (f, l) f = true := by
      cases l with
      | none => simp [cov, below]
      | some i => simp [cov, below, q.2.1]
    rw [mem_nil, mem_cons, this] at z
    cases z
  | (f, l) :: r, (g, k) :: t, a, b, q, p, h => by
    have cf : cov (f, l) f = true := by
      cases l with
      | none => simp [cov, below]
      | some i => simp [cov, below, q.2.1]
    have cg : cov (g, k) g = true := by
      cases k with
      | none => simp [cov, below]
      | some i => simp [cov, below, p.2.1]
    have lowr : ∀ x, x ≤ f → mem r x = false := fun x hx => by
      cases l with
      | none => rw [q.2]; rfl
      | some i => exact q.2.2.low (by have := q.2.1; omega)
    have lowt : ∀ x, x ≤ g → mem t x = false := fun x hx => by
      cases k with
      | none => rw [p.2]; rfl
      | some i => exact p.2.2.low (by have := p.2.1; omega)
    have fg : f = g := by
      rcases Int.lt_trichotomy f g with c | c | c
      · have z := h f
        rw [mem_cons, mem_cons, cf, lowt f (by omega)] at z
        have : cov (g, k) f = false := by simp [cov]; intro; omega
        rw [this] at z
        cases z
      · exact c
      · have z := h g
        rw [mem_cons, mem_cons, cg, lowr g (by omega)] at z
        have : cov (f, l) g = false := by simp [cov]; intro; omega
        rw [this] at z
        cases z
    subst fg
    cases l with
    | none =>
      cases k with
      | none => rw [q.2, p.2]
      | some j =>
        have z := h (j + 1)
        have e1 : cov (f, none) (j + 1) = true := by
          have := p.2.1
          simp [cov, below]; omega
        have e2 : cov (f, some j) (j + 1) = false := by simp [cov, below]; intro; omega
        rw [mem_cons, mem_cons, e1, e2, p.2.2.low (by omega)] at z
        cases z
    | some i =>
      cases k with
      | none =>
        have z := h (i + 1)
        have e1 : cov (f, none) (i + 1) = true := by
          have := q.2.1
          simp [cov, below]; omega
        have e2 : cov (f, some i) (i + 1) = false := by simp [cov, below]; intro; omega
        rw [mem_cons, mem_cons, e1, e2, q.2.2.low (by omega)] at z
        cases z
      | some j =>
        have ij : i = j := by
          rcases Int.lt_trichotomy i j with c | c | c
          · have z := h (i + 1)
            have e1 : cov (f, some j) (i + 1) = true := by
              have := q.2.1
              simp [cov, below]; omega
            have e2 : cov (f, some i) (i + 1) = false := by simp [cov, below]; intro; omega
            rw [mem_cons, mem_cons, e1, e2, q.2.2.low (by omega)] at z
            cases z
          · exact c
          · have z := h (j + 1)
            have e1 : cov (f, some i) (j + 1) = true := by
              have := p.2.1
              simp [cov, below]; omega
            have e2 : cov (f, some j) (j + 1) = false := by simp [cov, below]; intro; omega
            rw [mem_cons, mem_cons, e1, e2, p.2.2.low (by omega)] at z
            cases z
        subst ij
        have rest : r = t := Nf.uniq q.2.2 p.2.2 fun x => by
          by_cases hx : x ≤ i
          · rw [q.2.2.low (by omega), p.2.2.low (by omega)]
          · have z := h x
            have e2 : cov (f, some i) x = false := by simp [cov, below]; intro; omega
            rw [mem_cons, mem_cons, e2] at z
            exact z
        rw [rest]
theorem Nf.ok {lo : Int} (h0 : 0 ≤ lo) : ∀ {ss : List Span}, Nf lo ss → ∀ s ∈ ss, Ok s
  | [], _, s, hs => by cases hs
  | (f, none) :: r, q, s, hs => by
    rw [q.2] at hs
    rcases List.mem_cons.mp hs with rfl | hs
    · exact ⟨by have := q.1; show 0 ≤ f; omega, fun l e => by cases e⟩
    · cases hs
  | (f, some l) :: r, q, s, hs => by
    rcases List.mem_cons.mp hs with rfl | hs
    · exact ⟨by have := q.1; show 0 ≤ f; omega, fun i e => by cases e; exact q.2.1⟩
    · exact Nf.ok (by have := q.1; have := q.2.1; omega) q.2.2 s hs

theorem mem_iff {ss : List Span} {x : Int} : mem ss x = true ↔ ∃ s ∈ ss, cov s x = true := by simp [mem]
def lesser : Option Int → Option Int → Option Int
  | none, b => b
  | some a, none => some a
  | some a, some b => some (min a b)
def meet (s t : Span) : Option Span := if below (max s.1 t.1) (lesser s.2 t.2) = true then some (max s.1 t.1, lesser s.2 t.2) else none
def shared (xs ys : List Span) : List Span := xs.flatMap fun s => ys.filterMap fun t => meet s t
theorem below_mono {x y : Int} (h : y ≤ x) {l : Option Int} (b : below x l = true) : below y l = true := by
  cases l with
  | none => rfl
  | some i => simp only [below, decide_eq_true_eq] at *; omega
end MA

namespace MB

abbrev St := Int × MA.Span
def lev : List St → Int → Int
  | [], _ => 0
  | (l, s) :: r, x => if MA.cov s x = true then l else lev r x
def Wf : Int → List St → Prop
  | _, [] => True
  | p, (l, f, none) :: r => 1 ≤ l ∧ l ≤ 2 ∧ p ≤ f ∧ r = []
  | p, (l, f, some i) :: r => 1 ≤ l ∧ l ≤ 2 ∧ p ≤ f ∧ f ≤ i ∧ Wf (i + 1) r
def Nf : Int → Int → List St → Prop
  | _, _, [] => True
  | p, q, (l, f, none) :: r => 1 ≤ l ∧ l ≤ 2 ∧ p ≤ f ∧ (f = p → l ≠ q) ∧ r = []
  | p, q, (l, f, some i) :: r => 1 ≤ l ∧ l ≤ 2 ∧ p ≤ f ∧ (f = p → l ≠ q) ∧ f ≤ i ∧ Nf (i + 1) l r
theorem Nf.wf : ∀ {ss : List St} {p q : Int}, Nf p q ss → Wf p ss
  | [], _, _, _ => True.intro
  | (l, f, none) :: r, _, _, h => ⟨h.1, h.2.1, h.2.2.1, h.2.2.2.2⟩
  | (l, f, some i) :: r, _, _, h => ⟨h.1, h.2.1, h.2.2.1, h.2.2.2.2.1, h.2.2.2.2.2.wf⟩
theorem Wf.mono {a b : Int} (h : b ≤ a) : ∀ {ss : List St}, Wf a ss → Wf b ss
  | [], _ => True.intro
  | (l, f, none) :: r, q => ⟨q.1, q.2.1, Int.le_trans h q.2.2.1, q.2.2.2⟩
  | (l, f, some i) :: r, q => ⟨q.1, q.2.1, Int.le_trans h q.2.2.1, q.2.2.2⟩
theorem lev_cons (l : Int) (s : MA.Span) (r : List St) (x : Int) : lev ((l, s) :: r) x = if MA.cov s x = true then l else lev r x := rfl
theorem cov_n {f x : Int} : (MA.cov (f, none) x = true) ↔ f ≤ x := by simp [MA.cov, MA.below]
theorem cov_s {f i x : Int} : (MA.cov (f, some i) x = true) ↔ (f ≤ x ∧ x ≤ i) := by simp [MA.cov, MA.below]
theorem Wf.low {p x : Int} : ∀ {ss : List St}, Wf p ss → x < p → lev ss x = 0
  | [], _, _ => rfl
  | (l, f, none) :: r, q, h => by
    obtain ⟨_, _, q3, rfl⟩ := q
    rw [lev_cons, if_neg (by rw [cov_n]; omega)]
    rfl
  | (l, f, some i) :: r, q, h => by
    obtain ⟨_, _, q3, q4, q5⟩ := q
    rw [lev_cons, if_neg (by rw [cov_s]; omega)]
    exact q5.low (by omega)
theorem Nf.at_ {p q : Int} (hq : 1 ≤ q) : ∀ {ss : List St}, Nf p q ss → lev ss p ≠ q
  | [], _ => by show (0 : Int) ≠ q; omega
  | (l, f, none) :: r, h => by
    obtain ⟨h1, h2, h3, h4, rfl⟩ := h
    rw [lev_cons]
    split
    · rename_i c
      rw [cov_n] at c
      exact h4 (by omega)
    · show (0 : Int) ≠ q
      omega
  | (l, f, some i) :: r, h => by
    obtain ⟨h1, h2, h3, h4, h5, h6⟩ := h
    rw [lev_cons]
    split
    · rename_i c
      rw [cov_s] at c
      exact h4 (by omega)
    · rename_i c
      rw [cov_s] at c
      rw [h6.wf.low (by omega)]
      omega
theorem Wf.rng : ∀ {ss : List St} {p : Int}, Wf p ss → ∀ x, 0 ≤ lev ss x ∧ lev ss x ≤ 2
  | [], _, _, x => by show (0 : Int) ≤ 0 ∧ (0 : Int) ≤ 2; omega
  | (l, f, none) :: r, _, h, x => by
    obtain ⟨h1, h2, h3, rfl⟩ := h
    rw [lev_cons]
    split
    · omega
    · show (0 : Int) ≤ 0 ∧ (0 : Int) ≤ 2; omega
  | (l, f, some i) :: r, _, h, x => by
    obtain ⟨h1, h2, h3, h4, h5⟩ := h
    rw [lev_cons]
    split
    · omega
    · exact h5.rng x
theorem Nf.uniq : ∀ {xs ys : List St} {p q : Int}, Nf p q xs → Nf p q ys → (∀ x, p ≤ x → lev xs x = lev ys x) → xs = ys
  | [], [], _, _, _, _, _ => rfl
  | [], (l, f, e) :: r, p, q, _, k, h => by
    have hf : p ≤ f ∧ 1 ≤ l ∧ MA.cov (f, e) f = true := by
      cases e with
      | none => exact ⟨k.2.2.1, k.1, cov_n.mpr (Int.le_refl _)⟩
      | some i => exact ⟨k.2.2.1, k.1, cov_s.mpr ⟨Int.le_refl _, k.2.2.2.2.1⟩⟩
    have z := h f hf.1
    rw [lev_cons, if_pos hf.2.2] at z
    have : (0 : Int) = l := z
    omega
  | (l, f, e) :: r, [], p, q, k, _, h => by
    have hf : p ≤ f ∧ 1 ≤ l ∧ MA.cov (f, e) f = true := by
      cases e with
      | none => exact ⟨k.2.2.1, k.1, cov_n.mpr (Int.le_refl _)⟩
      | some i => exact ⟨k.2.2.1, k.1, cov_s.mpr ⟨Int.le_refl _, k.2.2.2.2.1⟩⟩
    have z := h f hf.1
    rw [lev_cons, if_pos hf.2.2] at z
    have : l = (0 : Int) := z
    omega
  | (l, f, e) :: r, (m, g, d) :: t, p, q, k, j, h => by
    have hf : p ≤ f ∧ 1 ≤ l ∧ MA.cov (f, e) f = true ∧ (∀ x, x < f → lev ((l, f, e) :: r) x = 0) := by
      cases e with
      | none => exact ⟨k.2.2.1, k.1, cov_n.mpr (Int.le_refl _), fun x hx => Wf.low (p := f) (ss := (l, f, none) :: r) ⟨k.1, k.2.1, Int.le_refl _, k.2.2.2.2⟩ hx⟩
      | some i => exact ⟨k.2.2.1, k.1, cov_s.mpr ⟨Int.le_refl _, k.2.2.2.2.1⟩, fun x hx => Wf.low (p := f) (ss := (l, f, some i) :: r) ⟨k.1, k.2.1, Int.le_refl _, k.2.2.2.2.1, k.2.2.2.2.2.wf⟩ hx⟩
    have hg : p ≤ g ∧ 1 ≤ m ∧ MA.cov (g, d) g = true ∧ (∀ x, x < g → lev ((m, g, d) :: t) x = 0) := by
      cases d with
      | none => exact ⟨j.2.2.1, j.1, cov_n.mpr (Int.le_refl _), fun x hx => Wf.low (p := g) (ss := (m, g, none) :: t) ⟨j.1, j.2.1, Int.le_refl _, j.2.2.2.2⟩ hx⟩
      | some i => exact ⟨j.2.2.1, j.1, cov_s.mpr ⟨Int.le_refl _, j.2.2.2.2.1⟩, fun x hx => Wf.low (p := g) (ss := (m, g, some i) :: t) ⟨j.1, j.2.1, Int.le_refl _, j.2.2.2.2.1, j.2.2.2.2.2.wf⟩ hx⟩
    have vf : lev ((l, f, e) :: r) f = l := by rw [lev_cons, if_pos hf.2.2.1]
    have vg : lev ((m, g, d) :: t) g = m := by rw [lev_cons, if_pos hg.2.2.1]
    have fg : f = g := by
      rcases Int.lt_trichotomy f g with c | c | c
      · have z := h f hf.1
        rw [vf, hg.2.2.2 f c] at z
        omega
      · exact c
      · have z := h g hg.1
        rw [vg, hf.2.2.2 g c] at z
        omega
    subst fg
    have lm : l = m := by
      have z := h f hf.1
      rw [vf, vg] at z
      exact z
    subst lm
    cases e with
    | none =>
      cases d with
      | none => rw [k.2.2.2.2, j.2.2.2.2]
      | some i =>
        have z := h (i + 1) (by have := j.2.2.2.2.1; omega)
        rw [lev_cons, if_pos (cov_n.mpr (by have := j.2.2.2.2.1; omega)), lev_cons, if_neg (by rw [cov_s]; omega)] at z
        exact absurd z.symm (Nf.at_ j.1 j.2.2.2.2.2)
    | some i =>
      cases d with
      | none =>
        have z := h (i + 1) (by have := k.2.2.2.2.1; omega)
        rw [lev_cons, if_neg (by rw [cov_s]; omega), lev_cons, if_pos (cov_n.mpr (by have := k.2.2.2.2.1; omega))] at z
        exact absurd z (Nf.at_ k.1 k.2.2.2.2.2)
      | some i' =>
        have ii : i = i' := by
          rcases Int.lt_trichotomy i i' with c | c | c
          · have z := h (i + 1) (by have := k.2.2.2.2.1; omega)
            rw [lev_cons, if_neg (by rw [cov_s]; omega), lev_cons, if_pos (cov_s.mpr (by have := k.2.2.2.2.1; omega))] at z
            exact absurd z (Nf.at_ k.1 k.2.2.2.2.2)
          · exact c
          · have z := h (i' + 1) (by have := j.2.2.2.2.1; omega)
            rw [lev_cons, if_pos (cov_s.mpr (by have := j.2.2.2.2.1; omega)), lev_cons, if_neg (by rw [cov_s]; omega)] at z
            exact absurd z.symm (Nf.at_ j.1 j.2.2.2.2.2)
        subst ii
        have rt : r = t := Nf.uniq k.2.2.2.2.2 j.2.2.2.2.2 fun x hx => by
          have z := h x (by have := k.2.2.2.2.1; omega)
          rw [lev_cons, if_neg (by rw [cov_s]; omega), lev_cons, if_neg (by rw [cov_s]; omega)] at z
          exact z
        rw [rt]

def ends : List St → List Int
  | [] => []
  | (_, f, none) :: r => f :: ends r
  | (_, f, some i) :: r => f :: (i + 1) :: ends r
def Cst (F : List Int) (g : Int → Int) : Prop := ∀ x y, x ≤ y → (∀ b ∈ F, ¬ (x < b ∧ b ≤ y)) → g x = g y
theorem Cst.mono {F G : List Int} {g : Int → Int} (h : Cst F g) (k : ∀ b ∈ F, b ∈ G) : Cst G g := fun x y q n => h x y q fun b hb => n b (k b hb)
theorem cst_lev : ∀ ss : List St, Cst (ends ss) (lev ss)
  | [], x, y, _, _ => rfl
  | (l, f, none) :: r, x, y, q, n => by
    have h1 := n f List.mem_cons_self
    have h2 := cst_lev r x y q fun b hb => n b (List.mem_cons_of_mem _ hb)
    rw [lev_cons, lev_cons, h2]
    have e : (MA.cov (f, none) x = true) ↔ (MA.cov (f, none) y = true) := by rw [cov_n, cov_n]; omega
    simp only [e]
  | (l, f, some i) :: r, x, y, q, n => by
    have h1 := n f List.mem_cons_self
    have h3 := n (i + 1) (List.mem_cons_of_mem _ List.mem_cons_self)
    have h2 := cst_lev r x y q fun b hb => n b (List.mem_cons_of_mem _ (List.mem_cons_of_mem _ hb))
    rw [lev_cons, lev_cons, h2]
    have e : (MA.cov (f, some i) x = true) ↔ (MA.cov (f, some i) y = true) := by rw [cov_s, cov_s]; omega
    simp only [e]
theorem ends_pos : ∀ {ss : List St} {p : Int}, 0 ≤ p → Wf p ss → ∀ b ∈ ends ss, 0 ≤ b
  | [], _, _, _, b, hb => by cases hb
  | (l, f, none) :: r, p, h0, h, b, hb => by
    obtain ⟨h1, h2, h3, rfl⟩ := h
    simp only [ends, List.mem_cons, List.not_mem_nil, or_false] at hb
    omega
  | (l, f, some i) :: r, p, h0, h, b, hb => by
    obtain ⟨h1, h2, h3, h4, h5⟩ := h
    simp only [ends, List.mem_cons] at hb
    rcases hb with rfl | rfl | hb
    · omega
    · omega
    · exact ends_pos (by omega) h5 b hb
theorem ends_len : ∀ ss : List St, (ends ss).length ≤ 2 * ss.length
  | [] => Nat.le_refl _
  | (l, f, none) :: r => by
    have := ends_len r
    simp only [ends, List.length_cons]; omega
  | (l, f, some i) :: r => by
    have := ends_len r
    simp only [ends, List.length_cons]; omega
theorem Nf.change : ∀ {ss : List St} {p q : Int}, Nf p q ss → ∀ b ∈ ends ss, (b = p ∧ lev ss p ≠ q) ∨ (p < b ∧ lev ss b ≠ lev ss (b - 1))
  | [], _, _, _, b, hb => by cases hb
  | (l, f, none) :: r, p, q, h, b, hb => by
    obtain ⟨h1, h2, h3, h4, rfl⟩ := h
    simp only [ends, List.mem_cons, List.not_mem_nil, or_false] at hb
    subst hb
    by_cases c : b = p
    · left
      refine ⟨c, ?_⟩
      rw [lev_cons, if_pos (cov_n.mpr (by omega))]
      exact h4 c
    · right
      refine ⟨by omega, ?_⟩
      rw [lev_cons, if_pos (cov_n.mpr (by omega)), lev_cons, if_neg (by rw [cov_n]; omega)]
      show l ≠ (0 : Int)
      omega
  | (l, f, some i) :: r, p, q, h, b, hb => by
    obtain ⟨h1, h2, h3, h4, h5, h6⟩ := h
    simp only [ends, List.mem_cons] at hb
    rcases hb with rfl | rfl | hb
    · by_cases c : b = p
      · left
        refine ⟨c, ?_⟩
        rw [lev_cons, if_pos (cov_s.mpr (by omega))]
        exact h4 c
      · right
        refine ⟨by omega, ?_⟩
        rw [lev_cons, if_pos (cov_s.mpr (by omega)), lev_cons, if_neg (by rw [cov_s]; omega), h6.wf.low (by omega)]
        omega
    · right
      refine ⟨by omega, ?_⟩
      rw [lev_cons, if_neg (by rw [cov_s]; omega), lev_cons, if_pos (cov_s.mpr (by omega))]
      exact Nf.at_ h1 h6
    · right
      rcases Nf.change h6 b hb with ⟨rfl, c⟩ | ⟨c1, c2⟩
      · refine ⟨by omega, ?_⟩
        rw [lev_cons, if_neg (by rw [cov_s]; omega), lev_cons, if_pos (cov_s.mpr (by omega))]
        exact c
      · refine ⟨by omega, ?_⟩
        rw [lev_cons, if_neg (by rw [cov_s]; omega), lev_cons, if_neg (by rw [cov_s]; omega)]
        exact c2
theorem Cst.mem {F : List Int} {g : Int → Int} (h : Cst F g) {b : Int} (n : g b ≠ g (b - 1)) : b ∈ F := by
  refine Decidable.byContradiction fun c => n (h (b - 1) b (by omega) fun d hd k => ?_).symm
  have : d = b := by omega
  exact c (this ▸ hd)
theorem Nf.ends_in {ss : List St} {F : List Int} (h : Nf 0 0 ss) (h0 : (0 : Int) ∈ F) {g : Int → Int} (hg : ∀ x, 0 ≤ x → lev ss x = g x) (k : Cst F g) : ∀ b ∈ ends ss, b ∈ F := fun b hb => by
  rcases h.change b hb with ⟨rfl, _⟩ | ⟨c1, c2⟩
  · exact h0
  · rw [hg b (by omega), hg (b - 1) (by omega)] at c2
    exact k.mem c2
theorem Wf.firsts : ∀ {ss : List St} {p : Int}, Wf p ss → (ss.map fun s => s.2.1).Pairwise (· < ·) ∧ ∀ b ∈ ss.map (fun s => s.2.1), p ≤ b
  | [], _, _ => ⟨List.Pairwise.nil, fun b hb => by cases hb⟩
  | (l, f, none) :: r, p, h => by
    obtain ⟨h1, h2, h3, rfl⟩ := h
    exact ⟨by simp, fun b hb => by simp only [List.map_cons, List.map_nil, List.mem_singleton] at hb; omega⟩
  | (l, f, some i) :: r, p, h => by
    obtain ⟨h1, h2, h3, h4, h5⟩ := h
    obtain ⟨q1, q2⟩ := h5.firsts
    refine ⟨List.pairwise_cons.mpr ⟨fun b hb => by have := q2 b hb; dsimp only; omega, q1⟩, fun b hb => ?_⟩
    simp only [List.map_cons, List.mem_cons] at hb
    rcases hb with rfl | hb
    · exact h3
    · have := q2 b hb; omega
theorem first_end : ∀ (ss : List St), ∀ b ∈ ss.map (fun s => s.2.1), b ∈ ends ss
  | [], b, hb => by cases hb
  | (l, f, none) :: r, b, hb => by
    simp only [List.map_cons, List.mem_cons, ends] at hb ⊢
    exact hb.imp id (first_end r b)
  | (l, f, some i) :: r, b, hb => by
    simp only [List.map_cons, List.mem_cons, ends] at hb ⊢
    exact hb.imp id fun h => .inr (first_end r b h)
theorem Wf.len_le {ss : List St} {F : List Int} {p : Int} (h : Wf p ss) (k : ∀ b ∈ ends ss, b ∈ F) : ss.length ≤ F.length := by
  have := DL.nodup_le (h.firsts.1.imp fun h => Int.ne_of_lt h) fun x hx => k x (first_end ss x hx)
  rwa [List.length_map] at this

def stp (d : Int) : List (Int × Int) → Int → Int
  | [], _ => d
  | (b, k) :: r, x => if b ≤ x then stp k r x else d
def Asc (ps : List (Int × Int)) : Prop := (ps.map Prod.fst).Pairwise (· < ·)
theorem Asc.tail {c : Int × Int} {r : List (Int × Int)} (h : Asc (c :: r)) : Asc r ∧ ∀ e ∈ r, c.1 < e.1 := by
  obtain ⟨h1, h2⟩ := List.pairwise_cons.mp (show ((c :: r).map Prod.fst).Pairwise (· < ·) from h)
  exact ⟨h2, fun e he => h1 e.1 (List.mem_map_of_mem he)⟩
theorem stp_low {d x : Int} : ∀ {r : List (Int × Int)}, (∀ e ∈ r, x < e.1) → stp d r x = d
  | [], _ => rfl
  | (b, k) :: r, h => by
    have := h (b, k) List.mem_cons_self
    dsimp only at this
    unfold stp
    rw [if_neg (by omega)]
theorem stp_cst : ∀ (r : List (Int × Int)) (d : Int), Cst (r.map Prod.fst) (stp d r)
  | [], d, x, y, _, _ => rfl
  | (b, k) :: r, d, x, y, q, n => by
    have h1 := n b List.mem_cons_self
    have h2 := stp_cst r k x y q fun c hc => n c (List.mem_cons_of_mem _ hc)
    unfold stp
    rw [h2]
    by_cases c : b ≤ x
    · rw [if_pos c, if_pos (by omega)]
    · rw [if_neg c, if_neg (by omega)]
theorem stp_go {g : Int → Int} : ∀ (r : List Int) (b0 : Int), (∀ c ∈ r, b0 < c) → r.Pairwise (· < ·) → (∀ y z, b0 ≤ y → y ≤ z → (∀ b ∈ r, ¬ (y < b ∧ b ≤ z)) → g y = g z) → ∀ x, b0 ≤ x → stp (g b0) (r.map fun b => (b, g b)) x = g x
  | [], b0, _, _, h, x, hx => h b0 x (Int.le_refl _) hx fun b hb => by cases hb
  | c :: r, b0, h1, h2, h, x, hx => by
    obtain ⟨p1, p2⟩ := List.pairwise_cons.mp h2
    have hc := h1 c List.mem_cons_self
    show (if c ≤ x then stp (g c) (r.map fun b => (b, g b)) x else g b0) = g x
    by_cases q : c ≤ x
    · rw [if_pos q]
      refine stp_go r c p1 p2 (fun y z hy hz n => h y z (by omega) hz fun b hb k => ?_) x q
      rcases List.mem_cons.mp hb with rfl | hb
      · omega
      · exact n b hb k
    · rw [if_neg q]
      refine h b0 x (Int.le_refl _) hx fun b hb k => ?_
      rcases List.mem_cons.mp hb with rfl | hb
      · omega
      · have := p1 b hb; omega
structure Fs (F : List Int) : Prop where
  ex : ∃ r, F = 0 :: r
  asc : F.Pairwise (· < ·)
theorem Fs.zero {F : List Int} (h : Fs F) : (0 : Int) ∈ F := by
  obtain ⟨r, rfl⟩ := h.ex
  exact List.mem_cons_self
theorem Fs.pos {F : List Int} (h : Fs F) : ∀ b ∈ F, 0 ≤ b := by
  obtain ⟨⟨r, rfl⟩, h2⟩ := h
  intro b hb
  rcases List.mem_cons.mp hb with rfl | hb
  · exact Int.le_refl _
  · exact Int.le_of_lt ((List.pairwise_cons.mp h2).1 b hb)
theorem fs_asc {E : List Int} (h : ∀ b ∈ E, 0 ≤ b) : Fs (DL.asc (0 :: E)) := by
  have a := DL.asc_asc (0 :: E)
  have m : (0 : Int) ∈ DL.asc (0 :: E) := DL.asc_mem.mpr List.mem_cons_self
  refine ⟨?_, a⟩
  cases q : DL.asc (0 :: E) with
  | nil => rw [q] at m; cases m
  | cons x r =>
    rw [q] at a m
    have hx : x ∈ 0 :: E := DL.asc_mem.mp (by rw [q]; exact List.mem_cons_self)
    have x0 : 0 ≤ x := by
      rcases List.mem_cons.mp hx with rfl | hx
      · exact Int.le_refl _
      · exact h x hx
    rcases List.mem_cons.mp m with e | m
    · exact ⟨r, by rw [← e]⟩
    · have := (List.pairwise_cons.mp a).1 0 m
      omega
theorem stp_map {F : List Int} {g : Int → Int} (h : Fs F) (k : Cst F g) {x : Int} (hx : 0 ≤ x) : stp 0 (F.map fun b => (b, g b)) x = g x := by
  obtain ⟨⟨r, rfl⟩, h2⟩ := h
  obtain ⟨p1, p2⟩ := List.pairwise_cons.mp h2
  show (if (0 : Int) ≤ x then stp (g 0) (r.map fun b => (b, g b)) x else 0) = g x
  rw [if_pos hx]
  refine stp_go r 0 p1 p2 (fun y z hy hz n => k y z hz fun b hb q => ?_) x hx
  rcases List.mem_cons.mp hb with rfl | hb
  · omega
  · exact n b hb q

def lastOf : List (Int × Int) → Option Int
  | [] => none
  | (b, _) :: _ => some (b - 1)
def stGo : Option (Int × Int) → List (Int × Int) → List St
  | none, [] => []
  | some (l, f), [] => [(l, f, none)]
  | none, (b, k) :: r => if k = 0 then stGo none r else stGo (some (k, b)) r
  | some (l, f), (b, k) :: r => if k = l then stGo (some (l, f)) r else (l, f, some (b - 1)) :: (if k = 0 then stGo none r else stGo (some (k, b)) r)
def Lok (ps : List (Int × Int)) : Prop := ∀ e ∈ ps, 0 ≤ e.2 ∧ e.2 ≤ 2
theorem stGo_ok : ∀ (r : List (Int × Int)), Asc r → Lok r →
    (∀ p q : Int, (∀ e ∈ r, p < e.1) → Nf p q (stGo none r) ∧ ∀ x, lev (stGo none r) x = stp 0 r x) ∧
    (∀ l f p q : Int, p ≤ f → (f = p → l ≠ q) → 1 ≤ l → l ≤ 2 → (∀ e ∈ r, f < e.1) → Nf p q (stGo (some (l, f)) r) ∧ ∀ x, lev (stGo (some (l, f)) r) x = if f ≤ x then stp l r x else 0)
  | [], _, _ => by
    refine ⟨fun p q _ => ⟨True.intro, fun x => rfl⟩, fun l f p q h1 h2 h3 h4 _ => ⟨⟨h3, h4, h1, h2, rfl⟩, fun x => ?_⟩⟩
    show lev [(l, f, none)] x = if f ≤ x then l else 0
    rw [lev_cons]
    simp only [cov_n]
    rfl
  | (b, k) :: r, ha, hl => by
    obtain ⟨a1, a2⟩ := ha.tail
    obtain ⟨i1, i2⟩ := stGo_ok r a1 fun e he => hl e (List.mem_cons_of_mem _ he)
    obtain ⟨k0, k2⟩ := hl (b, k) List.mem_cons_self
    dsimp only at a2 k0 k2
    refine ⟨fun p q hp => ?_, fun l f p q h1 h2 h3 h4 hp => ?_⟩
    · have pb := hp (b, k) List.mem_cons_self
      dsimp only at pb
      unfold stGo
      by_cases c : k = 0
      · rw [if_pos c]
        obtain ⟨j1, j2⟩ := i1 p q fun e he => by have := a2 e he; omega
        refine ⟨j1, fun x => ?_⟩
        rw [j2 x]
        show stp 0 r x = if b ≤ x then stp k r x else 0
        rw [c]
        by_cases d : b ≤ x
        · rw [if_pos d]
        · rw [if_neg d]
          exact stp_low fun e he => by have := a2 e he; omega
      · rw [if_neg c]
        obtain ⟨j1, j2⟩ := i2 k b p q (by omega) (by omega) (by omega) k2 a2
        exact ⟨j1, j2⟩
    · have pb := hp (b, k) List.mem_cons_self
      dsimp only at pb
      unfold stGo
      by_cases c : k = l
      · rw [if_pos c]
        obtain ⟨j1, j2⟩ := i2 l f p q h1 h2 h3 h4 fun e he => by have := a2 e he; omega
        refine ⟨j1, fun x => ?_⟩
        rw [j2 x]
        by_cases d : f ≤ x
        · rw [if_pos d, if_pos d]
          show stp l r x = if b ≤ x then stp k r x else l
          by_cases d2 : b ≤ x
          · rw [if_pos d2, c]
          · rw [if_neg d2]
            exact stp_low fun e he => by have := a2 e he; omega
        · rw [if_neg d, if_neg d]
      · rw [if_neg c]
        have tl : ∃ T, T = (if k = 0 then stGo none r else stGo (some (k, b)) r) ∧ Nf (b - 1 + 1) l T ∧ ∀ x, lev T x = if b ≤ x then stp k r x else 0 := by
          refine ⟨_, rfl, ?_⟩
          by_cases c0 : k = 0
          · rw [if_pos c0]
            obtain ⟨j1, j2⟩ := i1 (b - 1 + 1) l fun e he => by have := a2 e he; omega
            refine ⟨j1, fun x => ?_⟩
            rw [j2 x, c0]
            by_cases d : b ≤ x
            · rw [if_pos d]
            · rw [if_neg d]
              exact stp_low fun e he => by have := a2 e he; omega
          · rw [if_neg c0]
            exact i2 k b (b - 1 + 1) l (by omega) (fun _ => c) (by omega) k2 a2
        obtain ⟨T, eT, t1, t2⟩ := tl
        rw [← eT]
        refine ⟨⟨h3, h4, h1, h2, by omega, t1⟩, fun x => ?_⟩
        rw [lev_cons, t2 x]
        simp only [cov_s]
        show (if f ≤ x ∧ x ≤ b - 1 then l else if b ≤ x then stp k r x else 0) = if f ≤ x then (if b ≤ x then stp k r x else l) else 0
        by_cases d : f ≤ x
        · by_cases d2 : b ≤ x
          · rw [if_neg (by omega), if_pos d2, if_pos d, if_pos d2]
          · rw [if_pos (by omega), if_pos d, if_neg d2]
        · rw [if_neg (by omega), if_neg (by omega), if_neg d]
theorem st0_ok {ps : List (Int × Int)} (h : Asc ps) (hl : Lok ps) (h0 : ∀ e ∈ ps, 0 ≤ e.1) : Nf 0 0 (stGo none ps) ∧ ∀ x, lev (stGo none ps) x = stp 0 ps x := by
  cases ps with
  | nil => exact ⟨True.intro, fun _ => rfl⟩
  | cons c r =>
    obtain ⟨b, k⟩ := c
    obtain ⟨a1, a2⟩ := h.tail
    obtain ⟨k0, k2⟩ := hl (b, k) List.mem_cons_self
    have b0 := h0 (b, k) List.mem_cons_self
    dsimp only at a2 k0 k2 b0
    obtain ⟨i1, i2⟩ := stGo_ok r a1 fun e he => hl e (List.mem_cons_of_mem _ he)
    by_cases c0 : k = 0
    · obtain ⟨j1, j2⟩ := i1 0 0 fun e he => by have := a2 e he; omega
      have e : stGo none ((b, k) :: r) = stGo none r := by
        conv => lhs; unfold stGo
        rw [if_pos c0]
      rw [e]
      refine ⟨j1, fun x => ?_⟩
      rw [j2 x]
      show stp 0 r x = if b ≤ x then stp k r x else 0
      rw [c0]
      by_cases d : b ≤ x
      · rw [if_pos d]
      · rw [if_neg d]
        exact stp_low fun e he => by have := a2 e he; omega
    · obtain ⟨j1, j2⟩ := i2 k b 0 0 b0 (by omega) (by omega) k2 a2
      have e : stGo none ((b, k) :: r) = stGo (some (k, b)) r := by
        conv => lhs; unfold stGo
        rw [if_neg c0]
      rw [e]
      exact ⟨j1, j2⟩

def mk (F : List Int) (g : Int → Int) : List St := stGo none (F.map fun b => (b, g b))
def bnd (several : List (List St)) : List Int := DL.asc (0 :: several.flatMap ends)
structure Hd (F : List Int) (ss : List St) : Prop where
  nf : Nf 0 0 ss
  inn : ∀ b ∈ ends ss, b ∈ F
theorem Hd.wf {F : List Int} {ss : List St} (h : Hd F ss) : Wf 0 ss := h.nf.wf
theorem Hd.cst {F : List Int} {ss : List St} (h : Hd F ss) : Cst F (lev ss) := (cst_lev ss).mono h.inn
theorem Hd.rng {F : List Int} {ss : List St} (h : Hd F ss) (x : Int) : 0 ≤ lev ss x ∧ lev ss x ≤ 2 := h.wf.rng x
theorem Hd.len {F : List Int} {ss : List St} (h : Hd F ss) : ss.length ≤ F.length := h.wf.len_le h.inn
theorem Hd.ext {F G : List Int} {xs ys : List St} (h : Hd F xs) (k : Hd G ys) (e : ∀ x, 0 ≤ x → lev xs x = lev ys x) : xs = ys := Nf.uniq h.nf k.nf e
theorem mk_hd {F G : List Int} {g : Int → Int} (hF : Fs F) (k : Cst F g) (r : ∀ x, 0 ≤ g x ∧ g x ≤ 2) (h0 : (0 : Int) ∈ G) (kG : Cst G g) : Hd G (mk F g) ∧ ∀ x, 0 ≤ x → lev (mk F g) x = g x := by
  have a : Asc (F.map fun b => (b, g b)) := by
    have e : (F.map fun b => (b, g b)).map Prod.fst = F := by rw [List.map_map]; exact List.map_id F
    unfold Asc
    rw [e]
    exact hF.asc
  have l : Lok (F.map fun b => (b, g b)) := fun e he => by
    obtain ⟨b, _, rfl⟩ := List.mem_map.mp he
    exact r b
  obtain ⟨q1, q2⟩ := st0_ok a l fun e he => by
    obtain ⟨b, hb, rfl⟩ := List.mem_map.mp he
    exact hF.pos b hb
  have q3 : ∀ x, 0 ≤ x → lev (mk F g) x = g x := fun x hx => by rw [mk, q2 x, stp_map hF k hx]
  exact ⟨⟨q1, Nf.ends_in q1 h0 q3 kG⟩, q3⟩
theorem bnd_fs {several : List (List St)} (h : ∀ ss ∈ several, Wf 0 ss) : Fs (bnd several) := fs_asc fun b hb => by
  obtain ⟨ss, h1, h2⟩ := List.mem_flatMap.mp hb
  exact ends_pos (Int.le_refl _) (h ss h1) b h2
theorem bnd_cst {several : List (List St)} {ss : List St} (h : ss ∈ several) : Cst (bnd several) (lev ss) :=
  (cst_lev ss).mono fun b hb => DL.asc_mem.mpr (List.mem_cons_of_mem _ (List.mem_flatMap.mpr ⟨ss, h, hb⟩))
theorem bnd_len {several : List (List St)} {F : List Int} (h0 : (0 : Int) ∈ F) (h : ∀ ss ∈ several, ∀ b ∈ ends ss, b ∈ F) : (bnd several).length ≤ F.length := DL.asc_le fun x hx => by
  rcases List.mem_cons.mp hx with rfl | hx
  · exact h0
  · obtain ⟨ss, h1, h2⟩ := List.mem_flatMap.mp hx
    exact h ss h1 x h2
theorem all_cells {F : List Int} (hF : Fs F) {g h : Int → Int} {p : Int → Int → Bool} (kg : Cst F g) (kh : Cst F h) : (F.all fun b => p (g b) (h b)) = true ↔ ∀ x, 0 ≤ x → p (g x) (h x) = true := by
  rw [List.all_eq_true]
  constructor
  · intro a x hx
    have kk : ∃ b ∈ F, b ≤ x ∧ ∀ c ∈ F, ¬ (b < c ∧ c ≤ x) := by
      obtain ⟨⟨r, rfl⟩, ha⟩ := hF
      suffices ∀ (r : List Int) (b0 : Int), (b0 :: r).Pairwise (· < ·) → b0 ≤ x → ∃ b ∈ b0 :: r, b ≤ x ∧ ∀ c ∈ b0 :: r, ¬ (b < c ∧ c ≤ x) from this r 0 ha hx
      intro r
      induction r with
      | nil => exact fun b0 _ h => ⟨b0, List.mem_cons_self, h, fun c hc => by rw [List.mem_singleton] at hc; omega⟩
      | cons d r ih =>
        intro b0 hp h
        obtain ⟨p1, p2⟩ := List.pairwise_cons.mp hp
        by_cases q : d ≤ x
        · obtain ⟨b, h1, h2, h3⟩ := ih d p2 q
          refine ⟨b, List.mem_cons_of_mem _ h1, h2, fun c hc => ?_⟩
          rcases List.mem_cons.mp hc with rfl | hc
          · have := p1 b h1; omega
          · exact h3 c hc
        · refine ⟨b0, List.mem_cons_self, h, fun c hc => ?_⟩
          rcases List.mem_cons.mp hc with rfl | hc
          · omega
          · have hd : d ≤ c := by
              rcases List.mem_cons.mp hc with rfl | hc
              · exact Int.le_refl _
              · exact Int.le_of_lt ((List.pairwise_cons.mp p2).1 c hc)
            omega
    obtain ⟨b, h1, h2, h3⟩ := kk
    have q := a b h1
    rwa [kg b x h2 h3, kh b x h2 h3] at q
  · exact fun a b hb => a b (hF.pos b hb)

end MB

namespace K71
open PySem PySem.Spec PyProof.Rows L2 DL
structure Txt (K : PySem.W.Frag) (mg : Str → Option Value) : Prop where
  n_abs : mg "abs" = none
  n_all : mg "all" = none
  n_any : mg "any" = none
  n_bool : mg "bool" = none
  n_enumerate : mg "enumerate" = none
  n_int : mg "int" = none
  n_isinstance : mg "isinstance" = none
  n_len : mg "len" = none
  n_list : mg "list" = none
  n_max : mg "max" = none
  n_min : mg "min" = none
  n_range : mg "range" = none
  n_repr : mg "repr" = none
  n_set : mg "set" = none
  n_sorted : mg "sorted" = none
  n_sum : mg "sum" = none
  n_tuple : mg "tuple" = none
  n_zip : mg "zip" = none
  g_first_of : mg "first_of" = some (.ref (He.ga K "first_of"))
  k_MOST_CALLS : ∃ t, mg "MOST_CALLS" = some (.int (6) t)
  k_MOST_LEVEL : ∃ t, mg "MOST_LEVEL" = some (.int (2) t)
  k_MOST_PROGRAMS : ∃ t, mg "MOST_PROGRAMS" = some (.int (4) t)
  fl_kept : FldsOk K "kept" ["Area", "Holding"]
  fl_kept_programs : FldsOk K "kept_programs" ["Crowd"]
section
variable {P : Program} {w : World} {K : PySem.W.Frag} {mg : Str → Option Value} {base : Heap}
theorem sc_is_integer : FnScope ["thing"] ["thing"] (defScope s_is_integer) :=
  ⟨rfl, rfl, rfl, by decide +kernel, rfl, by decide +kernel, by decide +kernel⟩
noncomputable def b_is_integer : SM :=
    (sRet (eAnd (eA isiG (aC (eV 0) (aC (eC (.ty "int")) aN))) (eNot (eA isiG (aC (eV 0) (aC (eC (.ty "bool")) aN))))))
noncomputable def m_is_integer : FnM := fnM 1 1 b_is_integer
theorem ok_is_integer (T : Txt K mg) {f : Addr} {fd : FuncData} (F : Fun K "is_integer" "is_integer" s_is_integer f fd) (hm : mg "is_integer" = some (.ref f)) (hb : Binds K fd ["thing"] [])  :
    CalD P w K mg base 1 "is_integer" m_is_integer :=
  calD_of (k := 0) F hm hb sc_is_integer fun cdv A outer s H E hgd hr =>
    (pss_1 (psd_ret (pd_and (pd_callB call_isi isi_ok T.n_isinstance PyProof.Rows.boot_isinstance (pda_cons (pd_v 0) (pda_cons (pd_ty T.n_int PyProof.Rows.boot_int) pda_nil))) (pd_one (pd_not (pd_callB call_isi isi_ok T.n_isinstance PyProof.Rows.boot_isinstance (pda_cons (pd_v 0) (pda_cons (pd_ty T.n_bool PyProof.Rows.boot_bool) pda_nil))))))))
theorem sc_need : FnScope ["place", "good"] ["place", "good"] (defScope s_need) :=
  ⟨rfl, rfl, rfl, by decide +kernel, rfl, by decide +kernel, by decide +kernel⟩
noncomputable def b_need : SM :=
    (sIf (tNt (tV (eV 1))) sNo sNx)
noncomputable def m_need : FnM := fnM 2 2 b_need
theorem ok_need (T : Txt K mg) {f : Addr} {fd : FuncData} (F : Fun K "need" "need" s_need f fd) (hm : mg "need" = some (.ref f)) (hb : Binds K fd ["place", "good"] [])  :
    CalD P w K mg base 1 "need" m_need :=
  calD_of (k := 0) F hm hb sc_need fun cdv A outer s H E hgd hr =>
    (pss_1 (psd_if (pt_nt (pt_v (pd_v 1))) (pss_1 psd_never) pss_n))
theorem sc_covers : FnScope ["span", "byte", "first", "last"] ["span", "byte"] (defScope s_covers) :=
  ⟨rfl, rfl, rfl, by decide +kernel, rfl, by decide +kernel, by decide +kernel⟩
noncomputable def b_covers : SM :=
    (sSeq (sAs (eV 0) (gTu 2 (gCs (gNm 2) (gCs (gNm 3) gNl))))
    (sRet (eAnd (e2 (leG) (eV 2) (eV 1)) (eOr (e2 (isG false) (eV 3) (eC .non)) (e2 (leG) (eV 1) (eV 3))))))
noncomputable def m_covers : FnM := fnM 2 4 b_covers
theorem ok_covers (T : Txt K mg) {f : Addr} {fd : FuncData} (F : Fun K "covers" "covers" s_covers f fd) (hm : mg "covers" = some (.ref f)) (hb : Binds K fd ["span", "byte"] [])  :
    CalD P w K mg base 1 "covers" m_covers :=
  calD_of (k := 0) F hm hb sc_covers fun cdv A outer s H E hgd hr =>
    (pss_c (psd_asg (pd_v 0) (pgd_tup rfl (pgds_cons (pgd_name (i := 2) sc_covers.nd) (pgds_cons (pgd_name (i := 3) sc_covers.nd) pgds_nil))))
    (pss_1 (psd_ret (pd_and (pd_le (pd_v 2) (pd_v 1)) (pd_one (pd_or (pd_is (pd_v 3) pd_non) (pd_one (pd_le (pd_v 1) (pd_v 3)))))))))
theorem sc_lesser_last : FnScope ["one", "other"] ["one", "other"] (defScope s_lesser_last) :=
  ⟨rfl, rfl, rfl, by decide +kernel, rfl, by decide +kernel, by decide +kernel⟩
noncomputable def b_lesser_last : SM :=
    (sSeq (sIf (tB (e2 (isG false) (eV 0) (eC .non))) (sRet (eV 1)) sNx)
    (sRet (eIf (tB (e2 (isG false) (eV 1) (eC .non))) (eV 0) (eA min2G (aC (eV 0) (aC (eV 1) aN))))))
noncomputable def m_lesser_last : FnM := fnM 2 2 b_lesser_last
theorem ok_lesser_last (T : Txt K mg) {f : Addr} {fd : FuncData} (F : Fun K "lesser_last" "lesser_last" s_lesser_last f fd) (hm : mg "lesser_last" = some (.ref f)) (hb : Binds K fd ["one", "other"] [])  :
    CalD P w K mg base 1 "lesser_last" m_lesser_last :=
  calD_of (k := 0) F hm hb sc_lesser_last fun cdv A outer s H E hgd hr =>
    (pss_c (psd_if (pt_is (pd_v 0) pd_non) (pss_1 (psd_ret (pd_v 1))) pss_n)
    (pss_1 (psd_ret (pd_if (pt_is (pd_v 1) pd_non) (pd_v 0) (pd_callB (call_min2 rfl) min2_ok T.n_min PyProof.Rows.boot_min (pda_cons (pd_v 0) (pda_cons (pd_v 1) pda_nil)))))))
theorem sc_greater_last : FnScope ["one", "other"] ["one", "other"] (defScope s_greater_last) :=
  ⟨rfl, rfl, rfl, by decide +kernel, rfl, by decide +kernel, by decide +kernel⟩
noncomputable def b_greater_last : SM :=
    (sRet (eIf (tOo (tB (e2 (isG false) (eV 0) (eC .non))) (tB (e2 (isG false) (eV 1) (eC .non)))) (eC .non) (eA max2G (aC (eV 0) (aC (eV 1) aN)))))
noncomputable def m_greater_last : FnM := fnM 2 2 b_greater_last
theorem ok_greater_last (T : Txt K mg) {f : Addr} {fd : FuncData} (F : Fun K "greater_last" "greater_last" s_greater_last f fd) (hm : mg "greater_last" = some (.ref f)) (hb : Binds K fd ["one", "other"] [])  :
    CalD P w K mg base 1 "greater_last" m_greater_last :=
  calD_of (k := 0) F hm hb sc_greater_last fun cdv A outer s H E hgd hr =>
    (pss_1 (psd_ret (pd_if (pt_w (pw_o (pt_is (pd_v 0) pd_non) (pw_o1 (pt_is (pd_v 1) pd_non)))) pd_non (pd_callB (call_max2 rfl) max2_ok T.n_max PyProof.Rows.boot_max (pda_cons (pd_v 0) (pda_cons (pd_v 1) pda_nil))))))
theorem sc_first_of : FnScope ["span"] ["span"] (defScope s_first_of) :=
  ⟨rfl, rfl, rfl, by decide +kernel, rfl, by decide +kernel, by decide +kernel⟩
noncomputable def b_first_of : SM :=
    (sRet (e2 ixG (eV 0) (eC (.int 0))))
noncomputable def m_first_of : FnM := fnM 1 1 b_first_of
theorem ok_first_of (T : Txt K mg) {f : Addr} {fd : FuncData} (F : Fun K "first_of" "first_of" s_first_of f fd) (hm : mg "first_of" = some (.ref f)) (hb : Binds K fd ["span"] [])  :
    CalD P w K mg base 1 "first_of" m_first_of :=
  calD_of (k := 0) F hm hb sc_first_of fun cdv A outer s H E hgd hr =>
    (pss_1 (psd_ret (pd_ix (pd_v 0) pd_int)))
theorem sc_left_out : FnScope ["some", "found", "begin", "first", "last"] ["some"] (defScope s_left_out) :=
  ⟨rfl, rfl, rfl, by decide +kernel, rfl, by decide +kernel, by decide +kernel⟩
noncomputable def f_left_out_1 : SM :=
    (sSeq (sIf (tB (e2 (ltG) (eV 2) (eV 3))) (sEx (eMt "list" appendG (eV 1) (aC (eA newT (aC (eV 2) (aC (e2 (subG) (eV 3) (eC (.int 1))) aN))) aN))) sNx)
    (sSeq (sIf (tB (e2 (isG false) (eV 4) (eC .non))) (sRet (eV 1)) sNx)
    (sSet 2 (e2 (addG false) (eV 4) (eC (.int 1))))))
noncomputable def b_left_out : SM :=
    (sSeq (sSet 1 (eA (newL true) aN))
    (sSeq (sSet 2 (eC (.int 0)))
    (sSeq (sFor (iSeq (eV 0)) (gTu 2 (gCs (gNm 3) (gCs (gNm 4) gNl))) f_left_out_1)
    (sRet (e2 (addG true) (eV 1) (eA (newL false) (aC (eA newT (aC (eV 2) (aC (eC .non) aN))) aN)))))))
noncomputable def m_left_out : FnM := fnM 1 5 b_left_out
theorem ok_left_out (T : Txt K mg) {f : Addr} {fd : FuncData} (F : Fun K "left_out" "left_out" s_left_out f fd) (hm : mg "left_out" = some (.ref f)) (hb : Binds K fd ["some"] [])  :
    CalD P w K mg base 1 "left_out" m_left_out :=
  calD_of (k := 0) F hm hb sc_left_out fun cdv A outer s H E hgd hr =>
    (pss_c (psd_set (i := 1) sc_left_out.nd (pd_lst true pda_nil))
    (pss_c (psd_set (i := 2) sc_left_out.nd pd_int)
    (pss_c (psd_for rfl (passes_of rfl) (pid_seq (pd_v 0)) (pgd_tup rfl (pgds_cons (pgd_name (i := 3) sc_left_out.nd) (pgds_cons (pgd_name (i := 4) sc_left_out.nd) pgds_nil))) (pss_c (psd_if (pt_lt (pd_v 2) (pd_v 3)) (pss_1 (psd_expr (pd_mt PySem.F.plainAttrs_list PySem.F.slot_list_append PySem.F.type_list_append mt_append append_ok (pd_v 1) (pda_cons (pd_tup (pda_cons (pd_v 2) (pda_cons (pd_sub (pd_v 3) pd_int) pda_nil))) pda_nil)))) pss_n)
    (pss_c (psd_if (pt_is (pd_v 4) pd_non) (pss_1 (psd_ret (pd_v 1))) pss_n)
    (pss_1 (psd_set (i := 2) sc_left_out.nd (pd_add false (pd_v 4) pd_int))))))
    (pss_1 (psd_ret (pd_add true (pd_v 1) (pd_lst false (pda_cons (pd_tup (pda_cons (pd_v 2) (pda_cons pd_non pda_nil))) pda_nil))))))))
theorem sc_bounds : FnScope ["several", "found", "stretches", "level", "first", "last"] ["several"] (defScope s_bounds) :=
  ⟨rfl, rfl, rfl, by decide +kernel, rfl, by decide +kernel, by decide +kernel⟩
noncomputable def f_bounds_1 : SM :=
    (sSeq (sEx (eMt "list" appendG (eV 1) (aC (eV 4) aN)))
    (sIf (tB (e2 (isG true) (eV 5) (eC .non))) (sEx (eMt "list" appendG (eV 1) (aC (e2 (addG false) (eV 5) (eC (.int 1))) aN))) sNx))
noncomputable def f_bounds_2 : SM :=
    (sFor (iSeq (eV 2)) (gTu 3 (gCs (gNm 3) (gCs (gNm 4) (gCs (gNm 5) gNl)))) f_bounds_1)
noncomputable def b_bounds : SM :=
    (sSeq (sSet 1 (eA (newL true) (aC (eC (.int 0)) aN)))
    (sSeq (sFor (iSeq (eV 0)) (gNm 2) f_bounds_2)
    (sRet (eSortSet true (eV 1)))))
noncomputable def m_bounds : FnM := fnM 1 6 b_bounds
theorem ok_bounds (T : Txt K mg) {f : Addr} {fd : FuncData} (F : Fun K "bounds" "bounds" s_bounds f fd) (hm : mg "bounds" = some (.ref f)) (hb : Binds K fd ["several"] [])  :
    CalD P w K mg base 1 "bounds" m_bounds :=
  calD_of (k := 0) F hm hb sc_bounds fun cdv A outer s H E hgd hr =>
    (pss_c (psd_set (i := 1) sc_bounds.nd (pd_lst true (pda_cons pd_int pda_nil)))
    (pss_c (psd_for rfl (passes_of rfl) (pid_seq (pd_v 0)) (pgd_name (i := 2) sc_bounds.nd) (pss_1 (psd_for rfl (passes_of rfl) (pid_seq (pd_v 2)) (pgd_tup rfl (pgds_cons (pgd_name (i := 3) sc_bounds.nd) (pgds_cons (pgd_name (i := 4) sc_bounds.nd) (pgds_cons (pgd_name (i := 5) sc_bounds.nd) pgds_nil)))) (pss_c (psd_expr (pd_mt PySem.F.plainAttrs_list PySem.F.slot_list_append PySem.F.type_list_append mt_append append_ok (pd_v 1) (pda_cons (pd_v 4) pda_nil)))
    (pss_1 (psd_if (pt_isnot (pd_v 5) pd_non) (pss_1 (psd_expr (pd_mt PySem.F.plainAttrs_list PySem.F.slot_list_append PySem.F.type_list_append mt_append append_ok (pd_v 1) (pda_cons (pd_add false (pd_v 5) pd_int) pda_nil)))) pss_n))))))
    (pss_1 (psd_ret (pd_sortSet true T.n_sorted T.n_set (pd_v 1))))))
theorem sc_last_before : FnScope ["firsts", "index"] ["firsts", "index"] (defScope s_last_before) :=
  ⟨rfl, rfl, rfl, by decide +kernel, rfl, by decide +kernel, by decide +kernel⟩
noncomputable def b_last_before : SM :=
    (sRet (eIf (tB (e2 (ltG) (e2 (addG false) (eV 1) (eC (.int 1))) (eA lenG (aC (eV 0) aN)))) (e2 (subG) (e2 ixG (eV 0) (e2 (addG false) (eV 1) (eC (.int 1)))) (eC (.int 1))) (eC .non)))
noncomputable def m_last_before : FnM := fnM 2 2 b_last_before
theorem ok_last_before (T : Txt K mg) {f : Addr} {fd : FuncData} (F : Fun K "last_before" "last_before" s_last_before f fd) (hm : mg "last_before" = some (.ref f)) (hb : Binds K fd ["firsts", "index"] [])  :
    CalD P w K mg base 1 "last_before" m_last_before :=
  calD_of (k := 0) F hm hb sc_last_before fun cdv A outer s H E hgd hr =>
    (pss_1 (psd_ret (pd_if (pt_lt (pd_add false (pd_v 1) pd_int) (pd_callB call_len len_ok T.n_len PySem.boot_len (pda_cons (pd_v 0) pda_nil))) (pd_sub (pd_ix (pd_v 0) (pd_add false (pd_v 1) pd_int)) pd_int) pd_non)))
theorem sc_Holding_stretches : FnScope ["self"] ["self"] (defScope s_Holding_stretches) :=
  ⟨rfl, rfl, rfl, by decide +kernel, rfl, by decide +kernel, by decide +kernel⟩
noncomputable def b_Holding_stretches : SM :=
    (sRet (eA (listG true) (aC (eFld ["Area", "Holding"] "kept" (eV 0)) aN)))
noncomputable def m_Holding_stretches : FnM := fnM 1 1 b_Holding_stretches
theorem ok_Holding_stretches (T : Txt K mg) {f : Addr} {fd : FuncData} (F : Fun K "stretches" "Holding.stretches" s_Holding_stretches f fd) (hfn : PySem.W.isFn K (.ref f) = true) (hb : Binds K fd ["self"] [])  :
    FunAt P w K mg base 1 f m_Holding_stretches :=
  funAt_of (k := 0) F hfn hb sc_Holding_stretches fun cdv A outer s H E hgd hr =>
    (pss_1 (psd_ret (pd_callTy call_list_of (list_ok true) T.n_list PyProof.Rows.boot_list (pda_cons (pd_fld T.fl_kept (pd_v 0)) pda_nil))))
theorem sc_Crowd_places : FnScope ["self", "sizes", ".0", "program", "size", "done"] ["self"] (defScope s_Crowd_places) :=
  ⟨rfl, rfl, rfl, by decide +kernel, rfl, by decide +kernel, by decide +kernel⟩
noncomputable def b_Crowd_places : SM :=
    (sSeq (sSet 1 (eLC false (iSeq (eFld ["Crowd"] "kept_programs" (eV 0))) (gNm 3) tTr (eA lenG (aC (eV 3) aN)) [2, 3]))
    (sRet (eLC2 true (iEn (aC (eV 1) aN)) (gTu 2 (gCs (gNm 3) (gCs (gNm 4) gNl))) tTr (iR1 (aC (eV 4) aN)) (gNm 5) tTr (eA newT (aC (eV 3) (aC (eV 5) aN))) [2, 3, 4, 5] [5])))
noncomputable def m_Crowd_places : FnM := fnM 1 6 b_Crowd_places
theorem ok_Crowd_places (T : Txt K mg) {f : Addr} {fd : FuncData} (F : Fun K "places" "Crowd.places" s_Crowd_places f fd) (hfn : PySem.W.isFn K (.ref f) = true) (hb : Binds K fd ["self"] [])  :
    FunAt P w K mg base 1 f m_Crowd_places :=
  funAt_of (k := 0) F hfn hb sc_Crowd_places fun cdv A outer s H E hgd hr =>
    (pss_c (psd_setLc false (i := 1) rfl sc_Crowd_places.nd (pid_seq (pd_fld T.fl_kept_programs (pd_v 0))) (blkOk_by (own := [(".0", 2), ("program", 3)]) (by kernel_rfl)) (fun _ _ _ _ _ => (pgd_name (i := 3) sc_Crowd_places.nd)) (fun _ _ _ _ _ => pts_n) (fun _ _ _ _ _ => (pd_callB call_len len_ok T.n_len PySem.boot_len (pda_cons (pd_v 3) pda_nil))))
    (pss_1 (psd_ret (pd_lc2 true (own1 := [5]) rfl sc_Crowd_places.nd (pid_enum T.n_enumerate (pda_cons (pd_v 1) pda_nil)) (blkOk_by (own := [(".0", 2), ("program", 3), ("size", 4), ("done", 5)]) (by kernel_rfl)) (fun _ _ _ _ _ => (pgd_tup rfl (pgds_cons (pgd_name (i := 3) sc_Crowd_places.nd) (pgds_cons (pgd_name (i := 4) sc_Crowd_places.nd) pgds_nil)))) (fun _ _ _ _ _ => pts_n) (fun _ _ _ _ _ => (pid_range1 T.n_range (pda_cons (pd_v 4) pda_nil))) (fun _ _ _ _ _ => (pgd_name (i := 5) sc_Crowd_places.nd)) (fun _ _ _ _ _ => pts_n) (fun _ _ _ _ _ => (pd_tup (pda_cons (pd_v 3) (pda_cons (pd_v 5) pda_nil))))))))
theorem sc_Crowd_next_call : FnScope ["self", "place", "program", "done"] ["self", "place"] (defScope s_Crowd_next_call) :=
  ⟨rfl, rfl, rfl, by decide +kernel, rfl, by decide +kernel, by decide +kernel⟩
noncomputable def b_Crowd_next_call : SM :=
    (sSeq (sAs (eV 1) (gTu 2 (gCs (gNm 2) (gCs (gNm 3) gNl))))
    (sRet (e2 ixG (e2 ixG (eFld ["Crowd"] "kept_programs" (eV 0)) (eV 2)) (eV 3))))
noncomputable def m_Crowd_next_call : FnM := fnM 2 4 b_Crowd_next_call
theorem ok_Crowd_next_call (T : Txt K mg) {f : Addr} {fd : FuncData} (F : Fun K "next_call" "Crowd.next_call" s_Crowd_next_call f fd) (hfn : PySem.W.isFn K (.ref f) = true) (hb : Binds K fd ["self", "place"] [])  :
    FunAt P w K mg base 1 f m_Crowd_next_call :=
  funAt_of (k := 0) F hfn hb sc_Crowd_next_call fun cdv A outer s H E hgd hr =>
    (pss_c (psd_asg (pd_v 1) (pgd_tup rfl (pgds_cons (pgd_name (i := 2) sc_Crowd_next_call.nd) (pgds_cons (pgd_name (i := 3) sc_Crowd_next_call.nd) pgds_nil))))
    (pss_1 (psd_ret (pd_ix (pd_ix (pd_fld T.fl_kept_programs (pd_v 0)) (pd_v 2)) (pd_v 3)))))
theorem sc_law_bag : FnScope ["_law_script", ".0", "_law_cell"] ["_law_script"] (defScope s_law_bag) :=
  ⟨rfl, rfl, rfl, by decide +kernel, rfl, by decide +kernel, by decide +kernel⟩
noncomputable def b_law_bag : SM :=
    (sRet (eA (newL true) (aC (eC (.int 0)) (aC (eC (.int 1234567891)) (aC (eC (.int 0)) (aC (eLC false (iSeq (eSl false (eV 0) pN (pS (eC (.int 63))))) (gNm 2) tTr (eA absG (aC (eV 2) aN)) [1, 2]) aN))))))
noncomputable def m_law_bag : FnM := fnM 1 3 b_law_bag
theorem ok_law_bag (T : Txt K mg) {f : Addr} {fd : FuncData} (F : Fun K "_law_bag" "_law_bag" s_law_bag f fd) (hm : mg "_law_bag" = some (.ref f)) (hb : Binds K fd ["_law_script"] [])  :
    CalD P w K mg base 1 "_law_bag" m_law_bag :=
  calD_of (k := 0) F hm hb sc_law_bag fun cdv A outer s H E hgd hr =>
    (pss_1 (psd_ret (pd_lst true (pda_cons pd_int (pda_cons pd_int (pda_cons pd_int (pda_cons (pd_lc false rfl sc_law_bag.nd (pid_seq (pd_sl false (pd_v 0) po_n (po_s pd_int))) (blkOk_by (own := [(".0", 1), ("_law_cell", 2)]) (by kernel_rfl)) (fun _ _ _ _ _ => (pgd_name (i := 2) sc_law_bag.nd)) (fun _ _ _ _ _ => pts_n) (fun _ _ _ _ _ => (pd_callB call_abs abs_ok T.n_abs PyProof.Rows.boot_abs (pda_cons (pd_v 2) pda_nil)))) pda_nil)))))))
theorem sc_law_take : FnScope ["_law_bag_here", "_law_many", "_law_cell", "_law_mixed", "_law_value", "_law_begin", "_law_second"] ["_law_bag_here", "_law_many"] (defScope s_law_take) :=
  ⟨rfl, rfl, rfl, by decide +kernel, rfl, by decide +kernel, by decide +kernel⟩
noncomputable def b_law_take : SM :=
    (sSeq (sIf (tB (e2 (eqG false) (e2 ixG (eV 0) (eC (.int 0))) (eC (.int 0)))) (sSeq (sSet 2 (eC (.int 0)))
    (sSeq (sIf (tB (e2 (ltG) (e2 ixG (eV 0) (eC (.int 2))) (eA lenG (aC (e2 ixG (eV 0) (eC (.int 3))) aN)))) (sSet 2 (e2 ixG (e2 ixG (eV 0) (eC (.int 3))) (e2 ixG (eV 0) (eC (.int 2))))) sNx)
    (sSeq (sAugS (eV 0) (eC (.int 2)) (eC (.int 1)))
    (sSeq (sIf (tB (e2 (geG) (eV 2) (eC (.int 1000000000000000000)))) (sAs (eV 2) (gSb (eV 0) (eC (.int 0)))) sNx)
    (sSeq (sSet 3 (e2 (addG false) (e2 (addG false) (e2 (mulG false) (e2 ixG (eV 0) (eC (.int 1))) (eC (.int 48271))) (e2 (modG) (eA intG (aC (eV 2) aN)) (eC (.int 2147483647)))) (e2 (mulG false) (eC (.int 7919)) (e2 ixG (eV 0) (eC (.int 2))))))
    (sAs (e2 (modG) (eA intG (aC (eV 3) aN)) (eC (.int 2147483647))) (gSb (eV 0) (eC (.int 1))))))))) sNx)
    (sSeq (sIf (tB (e2 (gtG) (e2 ixG (eV 0) (eC (.int 0))) (eC (.int 0)))) (sSeq (sSet 4 (e2 (modG) (eA intG (aC (e2 ixG (eV 0) (eC (.int 0))) aN)) (eV 1)))
    (sSeq (sAs (e2 (fdivG) (e2 ixG (eV 0) (eC (.int 0))) (eV 1)) (gSb (eV 0) (eC (.int 0))))
    (sRet (eV 4)))) sNx)
    (sSeq (sSet 5 (e2 (modG) (eA intG (aC (e2 (mulG false) (e2 (addG false) (e2 ixG (eV 0) (eC (.int 1))) (eC (.int 1))) (eC (.int 39373))) aN)) (eC (.int 1000000007))))
    (sSeq (sSet 6 (e2 (modG) (eA intG (aC (e2 (mulG false) (e2 (modG) (eA intG (aC (e2 (mulG false) (eV 5) (eV 5)) aN)) (eC (.int 998244353))) (eC (.int 30011))) aN)) (eC (.int 998244353))))
    (sSeq (sIf (tB (e2 (gtG) (eV 1) (eC (.int 1000000)))) (sRet (e2 (modG) (eA intG (aC (e2 (addG false) (e2 (mulG false) (eV 6) (eC (.int 1000000007))) (eV 5)) aN)) (eV 1))) sNx)
    (sRet (e2 (modG) (eA intG (aC (e2 (fdivG) (eV 6) (eC (.int 7))) aN)) (eV 1))))))))
noncomputable def m_law_take : FnM := fnM 2 7 b_law_take
theorem ok_law_take (T : Txt K mg) {f : Addr} {fd : FuncData} (F : Fun K "_law_take" "_law_take" s_law_take f fd) (hm : mg "_law_take" = some (.ref f)) (hb : Binds K fd ["_law_bag_here", "_law_many"] [])  :
    CalD P w K mg base 1 "_law_take" m_law_take :=
  calD_of (k := 0) F hm hb sc_law_take fun cdv A outer s H E hgd hr =>
    (pss_c (psd_if (pt_eq hr.units (pd_ix (pd_v 0) pd_int) pd_int) (pss_c (psd_set (i := 2) sc_law_take.nd pd_int)
    (pss_c (psd_if (pt_lt (pd_ix (pd_v 0) pd_int) (pd_callB call_len len_ok T.n_len PySem.boot_len (pda_cons (pd_ix (pd_v 0) pd_int) pda_nil))) (pss_1 (psd_set (i := 2) sc_law_take.nd (pd_ix (pd_ix (pd_v 0) pd_int) (pd_ix (pd_v 0) pd_int)))) pss_n)
    (pss_c (psd_augS (pd_v 0) pd_int pd_int)
    (pss_c (psd_if (pt_ge (pd_v 2) pd_int) (pss_1 (psd_asg (pd_v 2) (pgd_sub (pd_v 0) pd_int))) pss_n)
    (pss_c (psd_set (i := 3) sc_law_take.nd (pd_add false (pd_add false (pd_mul false (pd_ix (pd_v 0) pd_int) pd_int) (pd_mod (pd_callTy call_int1 int_ok T.n_int PyProof.Rows.boot_int (pda_cons (pd_v 2) pda_nil)) pd_int)) (pd_mul false pd_int (pd_ix (pd_v 0) pd_int))))
    (pss_1 (psd_asg (pd_mod (pd_callTy call_int1 int_ok T.n_int PyProof.Rows.boot_int (pda_cons (pd_v 3) pda_nil)) pd_int) (pgd_sub (pd_v 0) pd_int)))))))) pss_n)
    (pss_c (psd_if (pt_gt (pd_ix (pd_v 0) pd_int) pd_int) (pss_c (psd_set (i := 4) sc_law_take.nd (pd_mod (pd_callTy call_int1 int_ok T.n_int PyProof.Rows.boot_int (pda_cons (pd_ix (pd_v 0) pd_int) pda_nil)) (pd_v 1)))
    (pss_c (psd_asg (pd_fdiv (pd_ix (pd_v 0) pd_int) (pd_v 1)) (pgd_sub (pd_v 0) pd_int))
    (pss_1 (psd_ret (pd_v 4))))) pss_n)
    (pss_c (psd_set (i := 5) sc_law_take.nd (pd_mod (pd_callTy call_int1 int_ok T.n_int PyProof.Rows.boot_int (pda_cons (pd_mul false (pd_add false (pd_ix (pd_v 0) pd_int) pd_int) pd_int) pda_nil)) pd_int))
    (pss_c (psd_set (i := 6) sc_law_take.nd (pd_mod (pd_callTy call_int1 int_ok T.n_int PyProof.Rows.boot_int (pda_cons (pd_mul false (pd_mod (pd_callTy call_int1 int_ok T.n_int PyProof.Rows.boot_int (pda_cons (pd_mul false (pd_v 5) (pd_v 5)) pda_nil)) pd_int) pd_int) pda_nil)) pd_int))
    (pss_c (psd_if (pt_gt (pd_v 1) pd_int) (pss_1 (psd_ret (pd_mod (pd_callTy call_int1 int_ok T.n_int PyProof.Rows.boot_int (pda_cons (pd_add false (pd_mul false (pd_v 6) pd_int) (pd_v 5)) pda_nil)) (pd_v 1)))) pss_n)
    (pss_1 (psd_ret (pd_mod (pd_callTy call_int1 int_ok T.n_int PyProof.Rows.boot_int (pda_cons (pd_fdiv (pd_v 6) pd_int) pda_nil)) (pd_v 1)))))))))
theorem sc_law_alike : FnScope ["_law_found", "_law_due"] ["_law_found", "_law_due"] (defScope s_law_alike) :=
  ⟨rfl, rfl, rfl, by decide +kernel, rfl, by decide +kernel, by decide +kernel⟩
noncomputable def b_law_alike : SM :=
    (sRet (eAnd (e2 (eqG false) (eV 0) (eV 1)) (e2 (eqG false) (eA reprG (aC (eV 0) aN)) (eA reprG (aC (eV 1) aN)))))
noncomputable def m_law_alike : FnM := fnM 2 2 b_law_alike
theorem ok_law_alike (T : Txt K mg) {f : Addr} {fd : FuncData} (F : Fun K "_law_alike" "_law_alike" s_law_alike f fd) (hm : mg "_law_alike" = some (.ref f)) (hb : Binds K fd ["_law_found", "_law_due"] [])  :
    CalD P w K mg base 1 "_law_alike" m_law_alike :=
  calD_of (k := 0) F hm hb sc_law_alike fun cdv A outer s H E hgd hr =>
    (pss_1 (psd_ret (pd_and (pd_eq hr.units (pd_v 0) (pd_v 1)) (pd_one (pd_eq hr.units (pd_callB (call_reprD hgd (hu80 hr)) repr_ok T.n_repr PyProof.Rows.boot_repr (pda_cons (pd_v 0) pda_nil)) (pd_callB (call_reprD hgd (hu80 hr)) repr_ok T.n_repr PyProof.Rows.boot_repr (pda_cons (pd_v 1) pda_nil)))))))
theorem sc_law_span : FnScope ["_law_cuts_here", "_law_left", "_law_right_here"] ["_law_cuts_here", "_law_left", "_law_right_here"] (defScope s_law_span) :=
  ⟨rfl, rfl, rfl, by decide +kernel, rfl, by decide +kernel, by decide +kernel⟩
noncomputable def b_law_span : SM :=
    (sRet (eA newT (aC (e2 ixG (eV 0) (eV 1)) (aC (eIf (tB (e2 (ltG) (e2 (addG false) (eV 2) (eC (.int 1))) (eA lenG (aC (eV 0) aN)))) (e2 (subG) (e2 ixG (eV 0) (e2 (addG false) (eV 2) (eC (.int 1)))) (eC (.int 1))) (eC .non)) aN))))
noncomputable def m_law_span : FnM := fnM 3 3 b_law_span
theorem ok_law_span (T : Txt K mg) {f : Addr} {fd : FuncData} (F : Fun K "_law_span" "_law_span" s_law_span f fd) (hm : mg "_law_span" = some (.ref f)) (hb : Binds K fd ["_law_cuts_here", "_law_left", "_law_right_here"] [])  :
    CalD P w K mg base 1 "_law_span" m_law_span :=
  calD_of (k := 0) F hm hb sc_law_span fun cdv A outer s H E hgd hr =>
    (pss_1 (psd_ret (pd_tup (pda_cons (pd_ix (pd_v 0) (pd_v 1)) (pda_cons (pd_if (pt_lt (pd_add false (pd_v 2) pd_int) (pd_callB call_len len_ok T.n_len PySem.boot_len (pda_cons (pd_v 0) pda_nil))) (pd_sub (pd_ix (pd_v 0) (pd_add false (pd_v 2) pd_int)) pd_int) pd_non) pda_nil)))))
theorem sc_law_places : FnScope ["_law_programs_here", "_law_found", "_law_at", "_law_program", ".0", "_law_number"] ["_law_programs_here"] (defScope s_law_places) :=
  ⟨rfl, rfl, rfl, by decide +kernel, rfl, by decide +kernel, by decide +kernel⟩
noncomputable def f_law_places_1 : SM :=
    (sEx (eMt "list" extendG (eV 1) (aC (eLC false (iR1 (aC (eA lenG (aC (eV 3) aN)) aN)) (gNm 5) tTr (eA newT (aC (eV 2) (aC (eV 5) aN))) [4, 5]) aN)))
noncomputable def b_law_places : SM :=
    (sSeq (sSet 1 (eA (newL true) aN))
    (sSeq (sFor (iEn (aC (eV 0) aN)) (gTu 2 (gCs (gNm 2) (gCs (gNm 3) gNl))) f_law_places_1)
    (sRet (eV 1))))
noncomputable def m_law_places : FnM := fnM 1 6 b_law_places
theorem ok_law_places (T : Txt K mg) {f : Addr} {fd : FuncData} (F : Fun K "_law_places" "_law_places" s_law_places f fd) (hm : mg "_law_places" = some (.ref f)) (hb : Binds K fd ["_law_programs_here"] [])  :
    CalD P w K mg base 1 "_law_places" m_law_places :=
  calD_of (k := 0) F hm hb sc_law_places fun cdv A outer s H E hgd hr =>
    (pss_c (psd_set (i := 1) sc_law_places.nd (pd_lst true pda_nil))
    (pss_c (psd_for rfl (passes_of rfl) (pid_enum T.n_enumerate (pda_cons (pd_v 0) pda_nil)) (pgd_tup rfl (pgds_cons (pgd_name (i := 2) sc_law_places.nd) (pgds_cons (pgd_name (i := 3) sc_law_places.nd) pgds_nil))) (pss_1 (psd_expr (pd_mt PySem.F.plainAttrs_list PySem.F.slot_list_extend PySem.F.type_list_extend mt_extend extend_ok (pd_v 1) (pda_cons (pd_lc false rfl sc_law_places.nd (pid_range1 T.n_range (pda_cons (pd_callB call_len len_ok T.n_len PySem.boot_len (pda_cons (pd_v 3) pda_nil)) pda_nil)) (blkOk_by (own := [(".0", 4), ("_law_number", 5)]) (by kernel_rfl)) (fun _ _ _ _ _ => (pgd_name (i := 5) sc_law_places.nd)) (fun _ _ _ _ _ => pts_n) (fun _ _ _ _ _ => (pd_tup (pda_cons (pd_v 2) (pda_cons (pd_v 5) pda_nil))))) pda_nil)))))
    (pss_1 (psd_ret (pd_v 1)))))
theorem sc_law_levels_at : FnScope ["_law_programs_here", "_law_place", "_law_many", "_law_levels", "_law_level", "_law_left", "_law_right_here", "_law_k"] ["_law_programs_here", "_law_place", "_law_many"] (defScope s_law_levels_at) :=
  ⟨rfl, rfl, rfl, by decide +kernel, rfl, by decide +kernel, by decide +kernel⟩
noncomputable def f_law_levels_at_1 : SM :=
    (sAs (eV 4) (gSb (eV 3) (eV 7)))
noncomputable def f_law_levels_at_2 : SM :=
    (sFor (iR2 (aC (eV 5) (aC (e2 (addG false) (eV 6) (eC (.int 1))) aN))) (gNm 7) f_law_levels_at_1)
noncomputable def b_law_levels_at : SM :=
    (sSeq (sSet 3 (e2 (mulG true) (eA (newL false) (aC (eC (.int 0)) aN)) (eV 2)))
    (sSeq (sFor (iSeq (eSl false (e2 ixG (eV 0) (e2 ixG (eV 1) (eC (.int 0)))) pN (pS (e2 ixG (eV 1) (eC (.int 1)))))) (gTu 3 (gCs (gNm 4) (gCs (gNm 5) (gCs (gNm 6) gNl)))) f_law_levels_at_2)
    (sRet (eV 3))))
noncomputable def m_law_levels_at : FnM := fnM 3 8 b_law_levels_at
theorem ok_law_levels_at (T : Txt K mg) {f : Addr} {fd : FuncData} (F : Fun K "_law_levels_at" "_law_levels_at" s_law_levels_at f fd) (hm : mg "_law_levels_at" = some (.ref f)) (hb : Binds K fd ["_law_programs_here", "_law_place", "_law_many"] [])  :
    CalD P w K mg base 1 "_law_levels_at" m_law_levels_at :=
  calD_of (k := 0) F hm hb sc_law_levels_at fun cdv A outer s H E hgd hr =>
    (pss_c (psd_set (i := 3) sc_law_levels_at.nd (pd_mul true (pd_lst false (pda_cons pd_int pda_nil)) (pd_v 2)))
    (pss_c (psd_for rfl (passes_of rfl) (pid_seq (pd_sl false (pd_ix (pd_v 0) (pd_ix (pd_v 1) pd_int)) po_n (po_s (pd_ix (pd_v 1) pd_int)))) (pgd_tup rfl (pgds_cons (pgd_name (i := 4) sc_law_levels_at.nd) (pgds_cons (pgd_name (i := 5) sc_law_levels_at.nd) (pgds_cons (pgd_name (i := 6) sc_law_levels_at.nd) pgds_nil)))) (pss_1 (psd_for rfl (passes_of rfl) (pid_range2 T.n_range (pda_cons (pd_v 5) (pda_cons (pd_add false (pd_v 6) pd_int) pda_nil))) (pgd_name (i := 7) sc_law_levels_at.nd) (pss_1 (psd_asg (pd_v 4) (pgd_sub (pd_v 3) (pd_v 7)))))))
    (pss_1 (psd_ret (pd_v 3)))))
theorem sc_is_between : FnScope ["thing", "least", "greatest"] ["thing", "least", "greatest"] (defScope s_is_between) :=
  ⟨rfl, rfl, rfl, by decide +kernel, rfl, by decide +kernel, by decide +kernel⟩
noncomputable def b_is_between : SM :=
    (sRet (eAnd (eCall m_is_integer false (aC (eV 0) aN)) (eCh (leG) (leG) (eV 1) (eV 0) (eV 2))))
noncomputable def m_is_between : FnM := fnM 3 3 b_is_between
theorem ok_is_between (T : Txt K mg) {f : Addr} {fd : FuncData} (F : Fun K "is_between" "is_between" s_is_between f fd) (hm : mg "is_between" = some (.ref f)) (hb : Binds K fd ["thing", "least", "greatest"] []) (c_is_integer : CalD P w K mg base 1 "is_integer" m_is_integer) :
    CalD P w K mg base 2 "is_between" m_is_between :=
  calD_of (k := 1) F hm hb sc_is_between fun cdv A outer s H E hgd hr =>
    (pss_1 (psd_ret (pd_and (pd_call false c_is_integer hr (by decide) hgd (pda_cons (pd_v 0) pda_nil)) (pd_one (pd_ch op_le op_le cmp_ok cmp_ok (pd_v 1) (pd_v 0) (pd_v 2))))))
theorem sc_is_byte : FnScope ["thing"] ["thing"] (defScope s_is_byte) :=
  ⟨rfl, rfl, rfl, by decide +kernel, rfl, by decide +kernel, by decide +kernel⟩
noncomputable def b_is_byte : SM :=
    (sRet (eAnd (eCall m_is_integer false (aC (eV 0) aN)) (e2 (geG) (eV 0) (eC (.int 0)))))
noncomputable def m_is_byte : FnM := fnM 1 1 b_is_byte
theorem ok_is_byte (T : Txt K mg) {f : Addr} {fd : FuncData} (F : Fun K "is_byte" "is_byte" s_is_byte f fd) (hm : mg "is_byte" = some (.ref f)) (hb : Binds K fd ["thing"] []) (c_is_integer : CalD P w K mg base 1 "is_integer" m_is_integer) :
    CalD P w K mg base 2 "is_byte" m_is_byte :=
  calD_of (k := 1) F hm hb sc_is_byte fun cdv A outer s H E hgd hr =>
    (pss_1 (psd_ret (pd_and (pd_call false c_is_integer hr (by decide) hgd (pda_cons (pd_v 0) pda_nil)) (pd_one (pd_ge (pd_v 0) pd_int)))))
theorem sc_meet : FnScope ["one", "other", "first", "last"] ["one", "other"] (defScope s_meet) :=
  ⟨rfl, rfl, rfl, by decide +kernel, rfl, by decide +kernel, by decide +kernel⟩
noncomputable def b_meet : SM :=
    (sSeq (sPar 2 3 (aC (eA max2G (aC (e2 ixG (eV 0) (eC (.int 0))) (aC (e2 ixG (eV 1) (eC (.int 0))) aN))) (aC (eCall m_lesser_last false (aC (e2 ixG (eV 0) (eC (.int 1))) (aC (e2 ixG (eV 1) (eC (.int 1))) aN))) aN)))
    (sRet (eIf (tOo (tB (e2 (isG false) (eV 3) (eC .non))) (tB (e2 (leG) (eV 2) (eV 3)))) (eA newT (aC (eV 2) (aC (eV 3) aN))) (eC .non))))
noncomputable def m_meet : FnM := fnM 2 4 b_meet
theorem ok_meet (T : Txt K mg) {f : Addr} {fd : FuncData} (F : Fun K "meet" "meet" s_meet f fd) (hm : mg "meet" = some (.ref f)) (hb : Binds K fd ["one", "other"] []) (c_lesser_last : CalD P w K mg base 1 "lesser_last" m_lesser_last) :
    CalD P w K mg base 2 "meet" m_meet :=
  calD_of (k := 1) F hm hb sc_meet fun cdv A outer s H E hgd hr =>
    (pss_c (psd_par (i := 2) (j := 3) rfl sc_meet.nd (pda_cons (pd_callB (call_max2 rfl) max2_ok T.n_max PyProof.Rows.boot_max (pda_cons (pd_ix (pd_v 0) pd_int) (pda_cons (pd_ix (pd_v 1) pd_int) pda_nil))) (pda_cons (pd_call false c_lesser_last hr (by decide) hgd (pda_cons (pd_ix (pd_v 0) pd_int) (pda_cons (pd_ix (pd_v 1) pd_int) pda_nil))) pda_nil)))
    (pss_1 (psd_ret (pd_if (pt_w (pw_o (pt_is (pd_v 3) pd_non) (pw_o1 (pt_le (pd_v 2) (pd_v 3))))) (pd_tup (pda_cons (pd_v 2) (pda_cons (pd_v 3) pda_nil))) pd_non))))
theorem sc_merged : FnScope ["some", "found", "first", "last"] ["some"] (defScope s_merged) :=
  ⟨rfl, rfl, rfl, by decide +kernel, rfl, by decide +kernel, by decide +kernel⟩
noncomputable def f_merged_1 : SM :=
    (sIf (tAn (tB (e2 (eqG true) (eV 1) (eA (newL false) aN))) (tOo (tB (e2 (isG false) (e2 ixG (e2 ixG (eV 1) (e1 negG (eC (.int 1)))) (eC (.int 1))) (eC .non))) (tB (e2 (leG) (eV 2) (e2 (addG false) (e2 ixG (e2 ixG (eV 1) (e1 negG (eC (.int 1)))) (eC (.int 1))) (eC (.int 1))))))) (sAs (eA newT (aC (e2 ixG (e2 ixG (eV 1) (e1 negG (eC (.int 1)))) (eC (.int 0))) (aC (eCall m_greater_last false (aC (e2 ixG (e2 ixG (eV 1) (e1 negG (eC (.int 1)))) (eC (.int 1))) (aC (eV 3) aN))) aN))) (gSb (eV 1) (e1 negG (eC (.int 1))))) (sEx (eMt "list" appendG (eV 1) (aC (eA newT (aC (eV 2) (aC (eV 3) aN))) aN))))
noncomputable def b_merged : SM :=
    (sSeq (sSet 1 (eA (newL true) aN))
    (sSeq (sFor (iSeq (eSortF false (eV 0))) (gTu 2 (gCs (gNm 2) (gCs (gNm 3) gNl))) f_merged_1)
    (sRet (eV 1))))
noncomputable def m_merged : FnM := fnM 1 4 b_merged
theorem ok_merged (T : Txt K mg) {f : Addr} {fd : FuncData} (F : Fun K "merged" "merged" s_merged f fd) (hm : mg "merged" = some (.ref f)) (hb : Binds K fd ["some"] []) (FO_first_of : FirstOf K (He.ga K "first_of")) (c_greater_last : CalD P w K mg base 1 "greater_last" m_greater_last) :
    CalD P w K mg base 2 "merged" m_merged :=
  calD_of (k := 1) F hm hb sc_merged fun cdv A outer s H E hgd hr =>
    (pss_c (psd_set (i := 1) sc_merged.nd (pd_lst true pda_nil))
    (pss_c (psd_for rfl (passes_of rfl) (pid_seq (pd_sortF false hr.depth (hu80 hr) FO_first_of T.n_sorted T.g_first_of (pd_v 0))) (pgd_tup rfl (pgds_cons (pgd_name (i := 2) sc_merged.nd) (pgds_cons (pgd_name (i := 3) sc_merged.nd) pgds_nil))) (pss_1 (psd_if (pt_w (pw_a (pt_ne hr.units (pd_v 1) (pd_lst false pda_nil)) (pw_a1 (pt_w (pw_o (pt_is (pd_ix (pd_ix (pd_v 1) (pd_neg pd_int)) pd_int) pd_non) (pw_o1 (pt_le (pd_v 2) (pd_add false (pd_ix (pd_ix (pd_v 1) (pd_neg pd_int)) pd_int) pd_int)))))))) (pss_1 (psd_asg (pd_tup (pda_cons (pd_ix (pd_ix (pd_v 1) (pd_neg pd_int)) pd_int) (pda_cons (pd_call false c_greater_last hr (by decide) hgd (pda_cons (pd_ix (pd_ix (pd_v 1) (pd_neg pd_int)) pd_int) (pda_cons (pd_v 3) pda_nil))) pda_nil))) (pgd_sub (pd_v 1) (pd_neg pd_int)))) (pss_1 (psd_expr (pd_mt PySem.F.plainAttrs_list PySem.F.slot_list_append PySem.F.type_list_append mt_append append_ok (pd_v 1) (pda_cons (pd_tup (pda_cons (pd_v 2) (pda_cons (pd_v 3) pda_nil))) pda_nil)))))))
    (pss_1 (psd_ret (pd_v 1)))))
theorem sc_level_in : FnScope ["stretches", "byte", "level", "first", "last"] ["stretches", "byte"] (defScope s_level_in) :=
  ⟨rfl, rfl, rfl, by decide +kernel, rfl, by decide +kernel, by decide +kernel⟩
noncomputable def f_level_in_1 : SM :=
    (sIf (tV (eCall m_covers false (aC (eA newT (aC (eV 3) (aC (eV 4) aN))) (aC (eV 1) aN)))) (sRet (eV 2)) sNx)
noncomputable def b_level_in : SM :=
    (sSeq (sFor (iSeq (eV 0)) (gTu 3 (gCs (gNm 2) (gCs (gNm 3) (gCs (gNm 4) gNl)))) f_level_in_1)
    (sRet (eC (.int 0))))
noncomputable def m_level_in : FnM := fnM 2 5 b_level_in
theorem ok_level_in (T : Txt K mg) {f : Addr} {fd : FuncData} (F : Fun K "level_in" "level_in" s_level_in f fd) (hm : mg "level_in" = some (.ref f)) (hb : Binds K fd ["stretches", "byte"] []) (c_covers : CalD P w K mg base 1 "covers" m_covers) :
    CalD P w K mg base 2 "level_in" m_level_in :=
  calD_of (k := 1) F hm hb sc_level_in fun cdv A outer s H E hgd hr =>
    (pss_c (psd_for rfl (passes_of rfl) (pid_seq (pd_v 0)) (pgd_tup rfl (pgds_cons (pgd_name (i := 2) sc_level_in.nd) (pgds_cons (pgd_name (i := 3) sc_level_in.nd) (pgds_cons (pgd_name (i := 4) sc_level_in.nd) pgds_nil)))) (pss_1 (psd_if (pt_v (pd_call false c_covers hr (by decide) hgd (pda_cons (pd_tup (pda_cons (pd_v 3) (pda_cons (pd_v 4) pda_nil))) (pda_cons (pd_v 1) pda_nil)))) (pss_1 (psd_ret (pd_v 2))) pss_n)))
    (pss_1 (psd_ret pd_int)))
theorem sc_stretches_of : FnScope ["firsts", "levels", "found", "before", "index", "level", "last"] ["firsts", "levels"] (defScope s_stretches_of) :=
  ⟨rfl, rfl, rfl, by decide +kernel, rfl, by decide +kernel, by decide +kernel⟩
noncomputable def f_stretches_of_1 : SM :=
    (sSeq (sSet 6 (eCall m_last_before false (aC (eV 0) (aC (eV 4) aN))))
    (sSeq (sIf (tAn (tB (e2 (eqG true) (eV 5) (eC (.int 0)))) (tB (e2 (eqG false) (eV 5) (eV 3)))) (sAs (eA newT (aC (eV 5) (aC (e2 ixG (e2 ixG (eV 2) (e1 negG (eC (.int 1)))) (eC (.int 1))) (aC (eV 6) aN)))) (gSb (eV 2) (e1 negG (eC (.int 1))))) (sIf (tB (e2 (eqG true) (eV 5) (eC (.int 0)))) (sEx (eMt "list" appendG (eV 2) (aC (eA newT (aC (eV 5) (aC (e2 ixG (eV 0) (eV 4)) (aC (eV 6) aN)))) aN))) sNx))
    (sSet 3 (eV 5))))
noncomputable def b_stretches_of : SM :=
    (sSeq (sSet 2 (eA (newL true) aN))
    (sSeq (sSet 3 (eC (.int 0)))
    (sSeq (sFor (iEn (aC (eV 1) aN)) (gTu 2 (gCs (gNm 4) (gCs (gNm 5) gNl))) f_stretches_of_1)
    (sRet (eV 2)))))
noncomputable def m_stretches_of : FnM := fnM 2 7 b_stretches_of
theorem ok_stretches_of (T : Txt K mg) {f : Addr} {fd : FuncData} (F : Fun K "stretches_of" "stretches_of" s_stretches_of f fd) (hm : mg "stretches_of" = some (.ref f)) (hb : Binds K fd ["firsts", "levels"] []) (c_last_before : CalD P w K mg base 1 "last_before" m_last_before) :
    CalD P w K mg base 2 "stretches_of" m_stretches_of :=
  calD_of (k := 1) F hm hb sc_stretches_of fun cdv A outer s H E hgd hr =>
    (pss_c (psd_set (i := 2) sc_stretches_of.nd (pd_lst true pda_nil))
    (pss_c (psd_set (i := 3) sc_stretches_of.nd pd_int)
    (pss_c (psd_for rfl (passes_of rfl) (pid_enum T.n_enumerate (pda_cons (pd_v 1) pda_nil)) (pgd_tup rfl (pgds_cons (pgd_name (i := 4) sc_stretches_of.nd) (pgds_cons (pgd_name (i := 5) sc_stretches_of.nd) pgds_nil))) (pss_c (psd_set (i := 6) sc_stretches_of.nd (pd_call false c_last_before hr (by decide) hgd (pda_cons (pd_v 0) (pda_cons (pd_v 4) pda_nil))))
    (pss_c (psd_if (pt_w (pw_a (pt_ne hr.units (pd_v 5) pd_int) (pw_a1 (pt_eq hr.units (pd_v 5) (pd_v 3))))) (pss_1 (psd_asg (pd_tup (pda_cons (pd_v 5) (pda_cons (pd_ix (pd_ix (pd_v 2) (pd_neg pd_int)) pd_int) (pda_cons (pd_v 6) pda_nil)))) (pgd_sub (pd_v 2) (pd_neg pd_int)))) (pss_1 (psd_if (pt_ne hr.units (pd_v 5) pd_int) (pss_1 (psd_expr (pd_mt PySem.F.plainAttrs_list PySem.F.slot_list_append PySem.F.type_list_append mt_append append_ok (pd_v 2) (pda_cons (pd_tup (pda_cons (pd_v 5) (pda_cons (pd_ix (pd_v 0) (pd_v 4)) (pda_cons (pd_v 6) pda_nil)))) pda_nil)))) pss_n)))
    (pss_1 (psd_set (i := 3) sc_stretches_of.nd (pd_v 5))))))
    (pss_1 (psd_ret (pd_v 2))))))
theorem sc_law_cuts : FnScope ["_law_bag_here", "_law_many", "_law_sizes", "_law_found", "_law_k"] ["_law_bag_here", "_law_many"] (defScope s_law_cuts) :=
  ⟨rfl, rfl, rfl, by decide +kernel, rfl, by decide +kernel, by decide +kernel⟩
noncomputable def f_law_cuts_1 : SM :=
    (sEx (eMt "list" appendG (eV 3) (aC (e2 (addG false) (e2 ixG (eV 3) (e1 negG (eC (.int 1)))) (eV 1)) aN)))
noncomputable def f_law_cuts_2 : SM :=
    (sEx (eMt "list" appendG (eV 2) (aC (e2 ixG (eA (newL false) (aC (eC (.int 1)) (aC (eC (.int 1)) (aC (eC (.int 2)) (aC (e2 (addG false) (eC (.int 1)) (eCall m_law_take false (aC (eV 0) (aC (eC (.int 9)) aN)))) (aC (e2 (addG false) (e2 (powG) (eC (.int 10)) (eC (.int 12))) (eCall m_law_take false (aC (eV 0) (aC (e2 (powG) (eC (.int 10)) (eC (.int 6))) aN)))) aN)))))) (eCall m_law_take false (aC (eV 0) (aC (eC (.int 5)) aN)))) aN)))
noncomputable def b_law_cuts : SM :=
    (sSeq (sPar 2 3 (aC (eA (newL true) aN) (aC (eA (newL true) (aC (eC (.int 0)) aN)) aN)))
    (sSeq (sFor (iR1 (aC (e2 (subG) (eV 1) (eC (.int 1))) aN)) (gNm 4) f_law_cuts_2)
    (sSeq (sFor (iSeq (eV 2)) (gNm 1) f_law_cuts_1)
    (sRet (eV 3)))))
noncomputable def m_law_cuts : FnM := fnM 2 5 b_law_cuts
theorem ok_law_cuts (T : Txt K mg) {f : Addr} {fd : FuncData} (F : Fun K "_law_cuts" "_law_cuts" s_law_cuts f fd) (hm : mg "_law_cuts" = some (.ref f)) (hb : Binds K fd ["_law_bag_here", "_law_many"] []) (c_law_take : CalD P w K mg base 1 "_law_take" m_law_take) :
    CalD P w K mg base 2 "_law_cuts" m_law_cuts :=
  calD_of (k := 1) F hm hb sc_law_cuts fun cdv A outer s H E hgd hr =>
    (pss_c (psd_par (i := 2) (j := 3) rfl sc_law_cuts.nd (pda_cons (pd_lst true pda_nil) (pda_cons (pd_lst true (pda_cons pd_int pda_nil)) pda_nil)))
    (pss_c (psd_for rfl (passes_of rfl) (pid_range1 T.n_range (pda_cons (pd_sub (pd_v 1) pd_int) pda_nil)) (pgd_name (i := 4) sc_law_cuts.nd) (pss_1 (psd_expr (pd_mt PySem.F.plainAttrs_list PySem.F.slot_list_append PySem.F.type_list_append mt_append append_ok (pd_v 2) (pda_cons (pd_ix (pd_lst false (pda_cons pd_int (pda_cons pd_int (pda_cons pd_int (pda_cons (pd_add false pd_int (pd_call false c_law_take hr (by decide) hgd (pda_cons (pd_v 0) (pda_cons pd_int pda_nil)))) (pda_cons (pd_add false (pd_pow pd_int pd_int) (pd_call false c_law_take hr (by decide) hgd (pda_cons (pd_v 0) (pda_cons (pd_pow pd_int pd_int) pda_nil)))) pda_nil)))))) (pd_call false c_law_take hr (by decide) hgd (pda_cons (pd_v 0) (pda_cons pd_int pda_nil)))) pda_nil)))))
    (pss_c (psd_for rfl (passes_of rfl) (pid_seq (pd_v 2)) (pgd_name (i := 1) sc_law_cuts.nd) (pss_1 (psd_expr (pd_mt PySem.F.plainAttrs_list PySem.F.slot_list_append PySem.F.type_list_append mt_append append_ok (pd_v 3) (pda_cons (pd_add false (pd_ix (pd_v 3) (pd_neg pd_int)) (pd_v 1)) pda_nil)))))
    (pss_1 (psd_ret (pd_v 3))))))
theorem sc_law_programs : FnScope ["_law_bag_here", "_law_cuts_here", "_law_most", "_law_top", "_law_many", "_law_left", "_law_found", "_law_k", "_law_room", "_law_program", "_law_length", "_law_j", "_law_begin", "_law_end"] ["_law_bag_here", "_law_cuts_here", "_law_most", "_law_top"] (defScope s_law_programs) :=
  ⟨rfl, rfl, rfl, by decide +kernel, rfl, by decide +kernel, by decide +kernel⟩
noncomputable def f_law_programs_1 : SM :=
    (sSeq (sSet 12 (eCall m_law_take false (aC (eV 0) (aC (eA lenG (aC (eV 1) aN)) aN))))
    (sSeq (sSet 13 (e2 (addG false) (eV 12) (eCall m_law_take false (aC (eV 0) (aC (e2 ixG (eA (newL false) (aC (eC (.int 1)) (aC (eC (.int 1)) (aC (e2 (subG) (eA lenG (aC (eV 1) aN)) (eV 12)) aN)))) (eCall m_law_take false (aC (eV 0) (aC (eC (.int 3)) aN)))) aN)))))
    (sEx (eMt "list" appendG (eV 9) (aC (eA newT (aC (e2 ixG (eA (newL false) (aC (eC (.int 0)) (aC (eC (.int 1)) (aC (eC (.int 1)) (aC (eC (.int 2)) (aC (eC (.int 2)) (aC (eC (.int 2)) aN))))))) (eCall m_law_take false (aC (eV 0) (aC (eC (.int 6)) aN)))) (aC (eV 12) (aC (eV 13) aN)))) aN)))))
noncomputable def f_law_programs_2 : SM :=
    (sSeq (sPar 8 9 (aC (e2 (subG) (eV 5) (e2 (subG) (e2 (subG) (eV 4) (eV 7)) (eC (.int 1)))) (aC (eA (newL true) aN) aN)))
    (sSeq (sSet 10 (e2 ixG (eA (newL false) (aC (e2 (addG false) (eC (.int 1)) (eCall m_law_take false (aC (eV 0) (aC (eV 8) aN)))) (aC (eV 8) aN))) (eA intG (aC (eOr (e2 (eqG false) (eCall m_law_take false (aC (eV 0) (aC (eC (.int 2)) aN))) (eC (.int 0))) (e2 (eqG false) (eV 7) (e2 (subG) (eV 4) (eC (.int 1))))) aN))))
    (sSeq (sSet 5 (e2 (subG) (eV 5) (eV 10)))
    (sSeq (sFor (iR1 (aC (eV 10) aN)) (gNm 11) f_law_programs_1)
    (sEx (eMt "list" appendG (eV 6) (aC (eV 9) aN)))))))
noncomputable def b_law_programs : SM :=
    (sFz fun N =>
    (sSeq (sSet 4 (e2 (addG false) (eC (.int 1)) (eCall m_law_take false (aC (eV 0) (aC (e2 ixG (eA (newL false) (aC (eA min2G (aC (eC (.int 2)) (aC (eV 3) aN))) (aC (eV 3) aN))) (eCall m_law_take false (aC (eV 0) (aC (eC (.int 2)) aN)))) aN)))))
    (sSeq (sPar 5 6 (aC (eV 2) (aC (eA (newL true) aN) aN)))
    (sSeq (sFor (iR1 (aC (eV 4) aN)) (gNm 7) f_law_programs_2)
    (frzM N
    (sRet (eV 6)))))))
noncomputable def m_law_programs : FnM := fnM 4 14 b_law_programs
theorem ok_law_programs (T : Txt K mg) {f : Addr} {fd : FuncData} (F : Fun K "_law_programs" "_law_programs" s_law_programs f fd) (hm : mg "_law_programs" = some (.ref f)) (hb : Binds K fd ["_law_bag_here", "_law_cuts_here", "_law_most", "_law_top"] []) (c_law_take : CalD P w K mg base 1 "_law_take" m_law_take) :
    CalD P w K mg base 2 "_law_programs" m_law_programs :=
  calD_of (k := 1) F hm hb sc_law_programs fun cdv A outer s H E hgd hr =>
    (pss_z (psz_c (psd_set (i := 4) sc_law_programs.nd (pd_add false pd_int (pd_call false c_law_take hr (by decide) hgd (pda_cons (pd_v 0) (pda_cons (pd_ix (pd_lst false (pda_cons (pd_callB (call_min2 rfl) min2_ok T.n_min PyProof.Rows.boot_min (pda_cons pd_int (pda_cons (pd_v 3) pda_nil))) (pda_cons (pd_v 3) pda_nil))) (pd_call false c_law_take hr (by decide) hgd (pda_cons (pd_v 0) (pda_cons pd_int pda_nil)))) pda_nil)))))
    (psz_c (psd_par (i := 5) (j := 6) rfl sc_law_programs.nd (pda_cons (pd_v 2) (pda_cons (pd_lst true pda_nil) pda_nil)))
    (psz_c (psd_for rfl (passes_of rfl) (pid_range1 T.n_range (pda_cons (pd_v 4) pda_nil)) (pgd_name (i := 7) sc_law_programs.nd) (pss_c (psd_par (i := 8) (j := 9) rfl sc_law_programs.nd (pda_cons (pd_sub (pd_v 5) (pd_sub (pd_sub (pd_v 4) (pd_v 7)) pd_int)) (pda_cons (pd_lst true pda_nil) pda_nil)))
    (pss_c (psd_set (i := 10) sc_law_programs.nd (pd_ix (pd_lst false (pda_cons (pd_add false pd_int (pd_call false c_law_take hr (by decide) hgd (pda_cons (pd_v 0) (pda_cons (pd_v 8) pda_nil)))) (pda_cons (pd_v 8) pda_nil))) (pd_callTy call_int1 int_ok T.n_int PyProof.Rows.boot_int (pda_cons (pd_or (pd_eq hr.units (pd_call false c_law_take hr (by decide) hgd (pda_cons (pd_v 0) (pda_cons pd_int pda_nil))) pd_int) (pd_one (pd_eq hr.units (pd_v 7) (pd_sub (pd_v 4) pd_int)))) pda_nil))))
    (pss_c (psd_set (i := 5) sc_law_programs.nd (pd_sub (pd_v 5) (pd_v 10)))
    (pss_c (psd_for rfl (passes_of rfl) (pid_range1 T.n_range (pda_cons (pd_v 10) pda_nil)) (pgd_name (i := 11) sc_law_programs.nd) (pss_c (psd_set (i := 12) sc_law_programs.nd (pd_call false c_law_take hr (by decide) hgd (pda_cons (pd_v 0) (pda_cons (pd_callB call_len len_ok T.n_len PySem.boot_len (pda_cons (pd_v 1) pda_nil)) pda_nil))))
    (pss_c (psd_set (i := 13) sc_law_programs.nd (pd_add false (pd_v 12) (pd_call false c_law_take hr (by decide) hgd (pda_cons (pd_v 0) (pda_cons (pd_ix (pd_lst false (pda_cons pd_int (pda_cons pd_int (pda_cons (pd_sub (pd_callB call_len len_ok T.n_len PySem.boot_len (pda_cons (pd_v 1) pda_nil)) (pd_v 12)) pda_nil)))) (pd_call false c_law_take hr (by decide) hgd (pda_cons (pd_v 0) (pda_cons pd_int pda_nil)))) pda_nil)))))
    (pss_1 (psd_expr (pd_mt PySem.F.plainAttrs_list PySem.F.slot_list_append PySem.F.type_list_append mt_append append_ok (pd_v 9) (pda_cons (pd_tup (pda_cons (pd_ix (pd_lst false (pda_cons pd_int (pda_cons pd_int (pda_cons pd_int (pda_cons pd_int (pda_cons pd_int (pda_cons pd_int pda_nil))))))) (pd_call false c_law_take hr (by decide) hgd (pda_cons (pd_v 0) (pda_cons pd_int pda_nil)))) (pda_cons (pd_v 12) (pda_cons (pd_v 13) pda_nil)))) pda_nil)))))))
    (pss_1 (psd_expr (pd_mt PySem.F.plainAttrs_list PySem.F.slot_list_append PySem.F.type_list_append mt_append append_ok (pd_v 6) (pda_cons (pd_v 9) pda_nil)))))))))
    (psz_f
    (pss_1 (psd_ret (pd_v 6))))))))
theorem sc_law_told_programs : FnScope ["_law_cuts_here", "_law_programs_here", ".0", "_law_program", "_law_row"] ["_law_cuts_here", "_law_programs_here"] (defScope s_law_told_programs) :=
  ⟨rfl, rfl, rfl, by decide +kernel, rfl, by decide +kernel, by decide +kernel⟩
noncomputable def b_law_told_programs : SM :=
    (sRet (eLC true (iSeq (eV 1)) (gNm 3) tTr (eLC false (iSeq (eV 3)) (gNm 4) tTr (e2 (addG false) (eSl false (eV 4) pN (pS (eC (.int 1)))) (eCall m_law_span false (aC (eV 0) (aC (e2 ixG (eV 4) (eC (.int 1))) (aC (e2 ixG (eV 4) (eC (.int 2))) aN))))) [2, 4]) [2, 3]))
noncomputable def m_law_told_programs : FnM := fnM 2 5 b_law_told_programs
theorem ok_law_told_programs (T : Txt K mg) {f : Addr} {fd : FuncData} (F : Fun K "_law_told_programs" "_law_told_programs" s_law_told_programs f fd) (hm : mg "_law_told_programs" = some (.ref f)) (hb : Binds K fd ["_law_cuts_here", "_law_programs_here"] []) (c_law_span : CalD P w K mg base 1 "_law_span" m_law_span) :
    CalD P w K mg base 2 "_law_told_programs" m_law_told_programs :=
  calD_of (k := 1) F hm hb sc_law_told_programs fun cdv A outer s H E hgd hr =>
    (pss_1 (psd_ret (pd_lc true rfl sc_law_told_programs.nd (pid_seq (pd_v 1)) (blkOk_by (own := [(".0", 2), ("_law_program", 3)]) (by kernel_rfl)) (fun _ _ _ _ _ => (pgd_name (i := 3) sc_law_told_programs.nd)) (fun _ _ _ _ _ => pts_n) (fun _ _ _ _ _ => (pd_lc false rfl sc_law_told_programs.nd (pid_seq (pd_v 3)) (blkOk_by (own := [(".0", 2), ("_law_row", 4)]) (by kernel_rfl)) (fun _ _ _ _ _ => (pgd_name (i := 4) sc_law_told_programs.nd)) (fun _ _ _ _ _ => pts_n) (fun _ _ _ _ _ => (pd_add false (pd_sl false (pd_v 4) po_n (po_s pd_int)) (pd_call false c_law_span hr (by decide) hgd (pda_cons (pd_v 0) (pda_cons (pd_ix (pd_v 4) pd_int) (pda_cons (pd_ix (pd_v 4) pd_int) pda_nil)))))))))))
theorem sc_law_stretches : FnScope ["_law_cuts_here", "_law_levels", "_law_found", "_law_k"] ["_law_cuts_here", "_law_levels"] (defScope s_law_stretches) :=
  ⟨rfl, rfl, rfl, by decide +kernel, rfl, by decide +kernel, by decide +kernel⟩
noncomputable def f_law_stretches_1 : SM :=
    (sIf (tAn (tB (e2 (gtG) (eV 3) (eC (.int 0)))) (tAn (tB (e2 (eqG false) (e2 ixG (eV 1) (eV 3)) (e2 ixG (eV 1) (e2 (subG) (eV 3) (eC (.int 1)))))) (tB (e2 (eqG true) (eV 2) (eA (newL false) aN))))) (sIf (tB (e2 (gtG) (e2 ixG (eV 1) (eV 3)) (eC (.int 0)))) (sAs (e2 (addG false) (eSl false (e2 ixG (eV 2) (e1 negG (eC (.int 1)))) pN (pS (eC (.int 2)))) (eA newT (aC (e2 ixG (eCall m_law_span false (aC (eV 0) (aC (eV 3) (aC (eV 3) aN)))) (eC (.int 1))) aN))) (gSb (eV 2) (e1 negG (eC (.int 1))))) sNx) (sIf (tB (e2 (gtG) (e2 ixG (eV 1) (eV 3)) (eC (.int 0)))) (sEx (eMt "list" appendG (eV 2) (aC (e2 (addG false) (eA newT (aC (e2 ixG (eV 1) (eV 3)) aN)) (eCall m_law_span false (aC (eV 0) (aC (eV 3) (aC (eV 3) aN))))) aN))) sNx))
noncomputable def b_law_stretches : SM :=
    (sSeq (sSet 2 (eA (newL true) aN))
    (sSeq (sFor (iR1 (aC (eA lenG (aC (eV 0) aN)) aN)) (gNm 3) f_law_stretches_1)
    (sRet (eV 2))))
noncomputable def m_law_stretches : FnM := fnM 2 4 b_law_stretches
theorem ok_law_stretches (T : Txt K mg) {f : Addr} {fd : FuncData} (F : Fun K "_law_stretches" "_law_stretches" s_law_stretches f fd) (hm : mg "_law_stretches" = some (.ref f)) (hb : Binds K fd ["_law_cuts_here", "_law_levels"] []) (c_law_span : CalD P w K mg base 1 "_law_span" m_law_span) :
    CalD P w K mg base 2 "_law_stretches" m_law_stretches :=
  calD_of (k := 1) F hm hb sc_law_stretches fun cdv A outer s H E hgd hr =>
    (pss_c (psd_set (i := 2) sc_law_stretches.nd (pd_lst true pda_nil))
    (pss_c (psd_for rfl (passes_of rfl) (pid_range1 T.n_range (pda_cons (pd_callB call_len len_ok T.n_len PySem.boot_len (pda_cons (pd_v 0) pda_nil)) pda_nil)) (pgd_name (i := 3) sc_law_stretches.nd) (pss_1 (psd_if (pt_w (pw_a (pt_gt (pd_v 3) pd_int) (pw_a (pt_eq hr.units (pd_ix (pd_v 1) (pd_v 3)) (pd_ix (pd_v 1) (pd_sub (pd_v 3) pd_int))) (pw_a1 (pt_ne hr.units (pd_v 2) (pd_lst false pda_nil)))))) (pss_1 (psd_if (pt_gt (pd_ix (pd_v 1) (pd_v 3)) pd_int) (pss_1 (psd_asg (pd_add false (pd_sl false (pd_ix (pd_v 2) (pd_neg pd_int)) po_n (po_s pd_int)) (pd_tup (pda_cons (pd_ix (pd_call false c_law_span hr (by decide) hgd (pda_cons (pd_v 0) (pda_cons (pd_v 3) (pda_cons (pd_v 3) pda_nil)))) pd_int) pda_nil))) (pgd_sub (pd_v 2) (pd_neg pd_int)))) pss_n)) (pss_1 (psd_if (pt_gt (pd_ix (pd_v 1) (pd_v 3)) pd_int) (pss_1 (psd_expr (pd_mt PySem.F.plainAttrs_list PySem.F.slot_list_append PySem.F.type_list_append mt_append append_ok (pd_v 2) (pda_cons (pd_add false (pd_tup (pda_cons (pd_ix (pd_v 1) (pd_v 3)) pda_nil)) (pd_call false c_law_span hr (by decide) hgd (pda_cons (pd_v 0) (pda_cons (pd_v 3) (pda_cons (pd_v 3) pda_nil))))) pda_nil)))) pss_n)))))
    (pss_1 (psd_ret (pd_v 2)))))
theorem sc_law_ways : FnScope ["_law_programs_here", "_law_many", "_law_ways_here", "_law_places_here", "_law_place", "_law_levels", "_law_other", "_law_level", "_law_left", "_law_right_here", ".0", "_law_k"] ["_law_programs_here", "_law_many"] (defScope s_law_ways) :=
  ⟨rfl, rfl, rfl, by decide +kernel, rfl, by decide +kernel, by decide +kernel⟩
noncomputable def f_law_ways_1 : SM :=
    (sSeq (sAs (e2 ixG (e2 ixG (eV 0) (e2 ixG (eV 6) (eC (.int 0)))) (e2 ixG (eV 6) (eC (.int 1)))) (gTu 3 (gCs (gNm 7) (gCs (gNm 8) (gCs (gNm 9) gNl)))))
    (sAs (eA anyG (aC (eLC false (iR2 (aC (eV 8) (aC (e2 (addG false) (eV 9) (eC (.int 1))) aN))) (gNm 11) tTr (e2 (gtG) (e2 (addG false) (eV 7) (e2 ixG (eV 5) (eV 11))) (eC (.int 2))) [10, 11]) aN)) (gPtN (eV 2) (eA newT (aC (eV 4) (aC (eV 6) aN))))))
noncomputable def f_law_ways_2 : SM :=
    (sSeq (sSet 5 (eCall m_law_levels_at false (aC (eV 0) (aC (eV 4) (aC (eV 1) aN)))))
    (sFor (iSeq (eV 3)) (gNm 6) f_law_ways_1))
noncomputable def b_law_ways : SM :=
    (sSeq (sPar 2 3 (aC eDNN (aC (eCall m_law_places false (aC (eV 0) aN)) aN)))
    (sSeq (sFor (iSeq (eV 3)) (gNm 4) f_law_ways_2)
    (sRet (eV 2))))
noncomputable def m_law_ways : FnM := fnM 2 12 b_law_ways
theorem ok_law_ways (T : Txt K mg) {f : Addr} {fd : FuncData} (F : Fun K "_law_ways" "_law_ways" s_law_ways f fd) (hm : mg "_law_ways" = some (.ref f)) (hb : Binds K fd ["_law_programs_here", "_law_many"] []) (c_law_levels_at : CalD P w K mg base 1 "_law_levels_at" m_law_levels_at) (c_law_places : CalD P w K mg base 1 "_law_places" m_law_places) :
    CalD P w K mg base 2 "_law_ways" m_law_ways :=
  calD_of (k := 1) F hm hb sc_law_ways fun cdv A outer s H E hgd hr =>
    (pss_c (psd_par (i := 2) (j := 3) rfl sc_law_ways.nd (pda_cons pd_dnn (pda_cons (pd_call false c_law_places hr (by decide) hgd (pda_cons (pd_v 0) pda_nil)) pda_nil)))
    (pss_c (psd_for rfl (passes_of rfl) (pid_seq (pd_v 3)) (pgd_name (i := 4) sc_law_ways.nd) (pss_c (psd_set (i := 5) sc_law_ways.nd (pd_call false c_law_levels_at hr (by decide) hgd (pda_cons (pd_v 0) (pda_cons (pd_v 4) (pda_cons (pd_v 1) pda_nil)))))
    (pss_1 (psd_for rfl (passes_of rfl) (pid_seq (pd_v 3)) (pgd_name (i := 6) sc_law_ways.nd) (pss_c (psd_asg (pd_ix (pd_ix (pd_v 0) (pd_ix (pd_v 6) pd_int)) (pd_ix (pd_v 6) pd_int)) (pgd_tup rfl (pgds_cons (pgd_name (i := 7) sc_law_ways.nd) (pgds_cons (pgd_name (i := 8) sc_law_ways.nd) (pgds_cons (pgd_name (i := 9) sc_law_ways.nd) pgds_nil)))))
    (pss_1 (psd_asg (pd_callB (cr_any rfl) any_ok T.n_any PyProof.Rows.boot_any (pda_cons (pd_lc false rfl sc_law_ways.nd (pid_range2 T.n_range (pda_cons (pd_v 8) (pda_cons (pd_add false (pd_v 9) pd_int) pda_nil))) (blkOk_by (own := [(".0", 10), ("_law_k", 11)]) (by kernel_rfl)) (fun _ _ _ _ _ => (pgd_name (i := 11) sc_law_ways.nd)) (fun _ _ _ _ _ => pts_n) (fun _ _ _ _ _ => (pd_gt (pd_add false (pd_v 7) (pd_ix (pd_v 5) (pd_v 11))) pd_int))) pda_nil)) (pgd_putN (hu80 hr) (pd_v 2) (pd_tup (pda_cons (pd_v 4) (pda_cons (pd_v 6) pda_nil)))))))))))
    (pss_1 (psd_ret (pd_v 2)))))
theorem sc_span_fault : FnScope ["first", "last"] ["first", "last"] (defScope s_span_fault) :=
  ⟨rfl, rfl, rfl, by decide +kernel, rfl, by decide +kernel, by decide +kernel⟩
noncomputable def b_span_fault : SM :=
    (sSeq (sIf (tNt (tV (eCall m_is_byte false (aC (eV 0) aN)))) (sRet (eC (.int 0))) sNx)
    (sSeq (sIf (tOo (tB (e2 (isG false) (eV 1) (eC .non))) (tAn (tV (eCall m_is_byte false (aC (eV 1) aN))) (tB (e2 (geG) (eV 1) (eV 0))))) (sRet (eC .non)) sNx)
    (sRet (eC (.int 1)))))
noncomputable def m_span_fault : FnM := fnM 2 2 b_span_fault
theorem ok_span_fault (T : Txt K mg) {f : Addr} {fd : FuncData} (F : Fun K "span_fault" "span_fault" s_span_fault f fd) (hm : mg "span_fault" = some (.ref f)) (hb : Binds K fd ["first", "last"] []) (c_is_byte : CalD P w K mg base 2 "is_byte" m_is_byte) :
    CalD P w K mg base 3 "span_fault" m_span_fault :=
  calD_of (k := 2) F hm hb sc_span_fault fun cdv A outer s H E hgd hr =>
    (pss_c (psd_if (pt_nt (pt_v (pd_call false c_is_byte hr (by decide) hgd (pda_cons (pd_v 0) pda_nil)))) (pss_1 (psd_ret pd_int)) pss_n)
    (pss_c (psd_if (pt_w (pw_o (pt_is (pd_v 1) pd_non) (pw_o1 (pt_w (pw_a (pt_v (pd_call false c_is_byte hr (by decide) hgd (pda_cons (pd_v 1) pda_nil))) (pw_a1 (pt_ge (pd_v 1) (pd_v 0)))))))) (pss_1 (psd_ret pd_non)) pss_n)
    (pss_1 (psd_ret pd_int))))
theorem sc_is_level : FnScope ["thing"] ["thing"] (defScope s_is_level) :=
  ⟨rfl, rfl, rfl, by decide +kernel, rfl, by decide +kernel, by decide +kernel⟩
noncomputable def b_is_level : SM :=
    (sRet (eCall m_is_between true (aC (eV 0) (aC (eC (.int 0)) (aC (eC (.int 2)) aN)))))
noncomputable def m_is_level : FnM := fnM 1 1 b_is_level
theorem ok_is_level (T : Txt K mg) {f : Addr} {fd : FuncData} (F : Fun K "is_level" "is_level" s_is_level f fd) (hm : mg "is_level" = some (.ref f)) (hb : Binds K fd ["thing"] []) (c_is_between : CalD P w K mg base 2 "is_between" m_is_between) :
    CalD P w K mg base 3 "is_level" m_is_level :=
  calD_of (k := 2) F hm hb sc_is_level fun cdv A outer s H E hgd hr =>
    (pss_1 (psd_ret (pd_call true c_is_between hr (by decide) hgd (pda_cons (pd_v 0) (pda_cons pd_int (pda_cons (pd_cint T.k_MOST_LEVEL) pda_nil))))))
theorem sc_shared : FnScope ["one", "other", "found", "span", "second", "both"] ["one", "other"] (defScope s_shared) :=
  ⟨rfl, rfl, rfl, by decide +kernel, rfl, by decide +kernel, by decide +kernel⟩
noncomputable def f_shared_1 : SM :=
    (sSeq (sSet 5 (eCall m_meet false (aC (eV 3) (aC (eV 4) aN))))
    (sIf (tB (e2 (isG true) (eV 5) (eC .non))) (sEx (eMt "list" appendG (eV 2) (aC (eV 5) aN))) sNx))
noncomputable def f_shared_2 : SM :=
    (sFor (iSeq (eV 1)) (gNm 4) f_shared_1)
noncomputable def b_shared : SM :=
    (sSeq (sSet 2 (eA (newL true) aN))
    (sSeq (sFor (iSeq (eV 0)) (gNm 3) f_shared_2)
    (sRet (eV 2))))
noncomputable def m_shared : FnM := fnM 2 6 b_shared
theorem ok_shared (T : Txt K mg) {f : Addr} {fd : FuncData} (F : Fun K "shared" "shared" s_shared f fd) (hm : mg "shared" = some (.ref f)) (hb : Binds K fd ["one", "other"] []) (c_meet : CalD P w K mg base 2 "meet" m_meet) :
    CalD P w K mg base 3 "shared" m_shared :=
  calD_of (k := 2) F hm hb sc_shared fun cdv A outer s H E hgd hr =>
    (pss_c (psd_set (i := 2) sc_shared.nd (pd_lst true pda_nil))
    (pss_c (psd_for rfl (passes_of rfl) (pid_seq (pd_v 0)) (pgd_name (i := 3) sc_shared.nd) (pss_1 (psd_for rfl (passes_of rfl) (pid_seq (pd_v 1)) (pgd_name (i := 4) sc_shared.nd) (pss_c (psd_set (i := 5) sc_shared.nd (pd_call false c_meet hr (by decide) hgd (pda_cons (pd_v 3) (pda_cons (pd_v 4) pda_nil))))
    (pss_1 (psd_if (pt_isnot (pd_v 5) pd_non) (pss_1 (psd_expr (pd_mt PySem.F.plainAttrs_list PySem.F.slot_list_append PySem.F.type_list_append mt_append append_ok (pd_v 2) (pda_cons (pd_v 5) pda_nil)))) pss_n))))))
    (pss_1 (psd_ret (pd_v 2)))))
theorem sc_Holding_within : FnScope ["self", "other", "firsts", ".0", "byte"] ["self", "other"] (defScope s_Holding_within) :=
  ⟨rfl, rfl, rfl, by decide +kernel, rfl, by decide +kernel, by decide +kernel⟩
noncomputable def b_Holding_within : SM :=
    (sSeq (sSet 2 (eCall m_bounds false (aC (eA (newL false) (aC (eFld ["Area", "Holding"] "kept" (eV 0)) (aC (eFld ["Area", "Holding"] "kept" (eV 1)) aN))) aN)))
    (sRet (eA allG (aC (eLC false (iSeq (eV 2)) (gNm 4) tTr (e2 (leG) (eCall m_level_in false (aC (eFld ["Area", "Holding"] "kept" (eV 0)) (aC (eV 4) aN))) (eCall m_level_in false (aC (eFld ["Area", "Holding"] "kept" (eV 1)) (aC (eV 4) aN)))) [3, 4]) aN))))
noncomputable def m_Holding_within : FnM := fnM 2 5 b_Holding_within
theorem ok_Holding_within (T : Txt K mg) {f : Addr} {fd : FuncData} (F : Fun K "within" "Holding.within" s_Holding_within f fd) (hfn : PySem.W.isFn K (.ref f) = true) (hb : Binds K fd ["self", "other"] []) (c_level_in : CalD P w K mg base 2 "level_in" m_level_in) (c_bounds : CalD P w K mg base 1 "bounds" m_bounds) :
    FunAt P w K mg base 3 f m_Holding_within :=
  funAt_of (k := 2) F hfn hb sc_Holding_within fun cdv A outer s H E hgd hr =>
    (pss_c (psd_set (i := 2) sc_Holding_within.nd (pd_call false c_bounds hr (by decide) hgd (pda_cons (pd_lst false (pda_cons (pd_fld T.fl_kept (pd_v 0)) (pda_cons (pd_fld T.fl_kept (pd_v 1)) pda_nil))) pda_nil)))
    (pss_1 (psd_ret (pd_callB (cr_all rfl) all_ok T.n_all PyProof.Rows.boot_all (pda_cons (pd_lc false rfl sc_Holding_within.nd (pid_seq (pd_v 2)) (blkOk_by (own := [(".0", 3), ("byte", 4)]) (by kernel_rfl)) (fun _ _ _ _ _ => (pgd_name (i := 4) sc_Holding_within.nd)) (fun _ _ _ _ _ => pts_n) (fun _ _ _ _ _ => (pd_le (pd_call false c_level_in hr (by decide) hgd (pda_cons (pd_fld T.fl_kept (pd_v 0)) (pda_cons (pd_v 4) pda_nil))) (pd_call false c_level_in hr (by decide) hgd (pda_cons (pd_fld T.fl_kept (pd_v 1)) (pda_cons (pd_v 4) pda_nil)))))) pda_nil)))))
theorem sc_is_span : FnScope ["thing"] ["thing"] (defScope s_is_span) :=
  ⟨rfl, rfl, rfl, by decide +kernel, rfl, by decide +kernel, by decide +kernel⟩
noncomputable def b_is_span : SM :=
    (sRet (eAnd (eA isiG (aC (eV 0) (aC (eC (.ty "tuple")) aN))) (eAnd (e2 (eqG false) (eA lenG (aC (eV 0) aN)) (eC (.int 2))) (e2 (isG false) (eCall m_span_fault false (aC (e2 ixG (eV 0) (eC (.int 0))) (aC (e2 ixG (eV 0) (eC (.int 1))) aN))) (eC .non)))))
noncomputable def m_is_span : FnM := fnM 1 1 b_is_span
theorem ok_is_span (T : Txt K mg) {f : Addr} {fd : FuncData} (F : Fun K "is_span" "is_span" s_is_span f fd) (hm : mg "is_span" = some (.ref f)) (hb : Binds K fd ["thing"] []) (c_span_fault : CalD P w K mg base 3 "span_fault" m_span_fault) :
    CalD P w K mg base 4 "is_span" m_is_span :=
  calD_of (k := 3) F hm hb sc_is_span fun cdv A outer s H E hgd hr =>
    (pss_1 (psd_ret (pd_and (pd_callB call_isi isi_ok T.n_isinstance PyProof.Rows.boot_isinstance (pda_cons (pd_v 0) (pda_cons (pd_ty T.n_tuple PyProof.Rows.boot_tuple) pda_nil))) (pd_and (pd_eq hr.units (pd_callB call_len len_ok T.n_len PySem.boot_len (pda_cons (pd_v 0) pda_nil)) pd_int) (pd_one (pd_is (pd_call false c_span_fault hr (by decide) hgd (pda_cons (pd_ix (pd_v 0) pd_int) (pda_cons (pd_ix (pd_v 0) pd_int) pda_nil))) pd_non))))))
theorem sc_Area_within : FnScope ["self", "other"] ["self", "other"] (defScope s_Area_within) :=
  ⟨rfl, rfl, rfl, by decide +kernel, rfl, by decide +kernel, by decide +kernel⟩
noncomputable def b_Area_within : SM :=
    (sRet (e2 (eqG false) (eCall m_shared false (aC (eFld ["Area", "Holding"] "kept" (eV 0)) (aC (eCall m_left_out false (aC (eFld ["Area", "Holding"] "kept" (eV 1)) aN)) aN))) (eA (newL false) aN)))
noncomputable def m_Area_within : FnM := fnM 2 2 b_Area_within
theorem ok_Area_within (T : Txt K mg) {f : Addr} {fd : FuncData} (F : Fun K "within" "Area.within" s_Area_within f fd) (hfn : PySem.W.isFn K (.ref f) = true) (hb : Binds K fd ["self", "other"] []) (c_left_out : CalD P w K mg base 1 "left_out" m_left_out) (c_shared : CalD P w K mg base 3 "shared" m_shared) :
    FunAt P w K mg base 4 f m_Area_within :=
  funAt_of (k := 3) F hfn hb sc_Area_within fun cdv A outer s H E hgd hr =>
    (pss_1 (psd_ret (pd_eq hr.units (pd_call false c_shared hr (by decide) hgd (pda_cons (pd_fld T.fl_kept (pd_v 0)) (pda_cons (pd_call false c_left_out hr (by decide) hgd (pda_cons (pd_fld T.fl_kept (pd_v 1)) pda_nil)) pda_nil))) (pd_lst false pda_nil))))
theorem sc_are_spans : FnScope ["thing", ".0", "span"] ["thing"] (defScope s_are_spans) :=
  ⟨rfl, rfl, rfl, by decide +kernel, rfl, by decide +kernel, by decide +kernel⟩
noncomputable def b_are_spans : SM :=
    (sRet (eAnd (eA isiG (aC (eV 0) (aC (eC (.ty "list")) aN))) (eA allG (aC (eLC false (iSeq (eV 0)) (gNm 2) tTr (eCall m_is_span false (aC (eV 2) aN)) [1, 2]) aN))))
noncomputable def m_are_spans : FnM := fnM 1 3 b_are_spans
theorem ok_are_spans (T : Txt K mg) {f : Addr} {fd : FuncData} (F : Fun K "are_spans" "are_spans" s_are_spans f fd) (hm : mg "are_spans" = some (.ref f)) (hb : Binds K fd ["thing"] []) (c_is_span : CalD P w K mg base 4 "is_span" m_is_span) :
    CalD P w K mg base 5 "are_spans" m_are_spans :=
  calD_of (k := 4) F hm hb sc_are_spans fun cdv A outer s H E hgd hr =>
    (pss_1 (psd_ret (pd_and (pd_callB call_isi isi_ok T.n_isinstance PyProof.Rows.boot_isinstance (pda_cons (pd_v 0) (pda_cons (pd_ty T.n_list PyProof.Rows.boot_list) pda_nil))) (pd_one (pd_callB (cr_all rfl) all_ok T.n_all PyProof.Rows.boot_all (pda_cons (pd_lc false rfl sc_are_spans.nd (pid_seq (pd_v 0)) (blkOk_by (own := [(".0", 1), ("span", 2)]) (by kernel_rfl)) (fun _ _ _ _ _ => (pgd_name (i := 2) sc_are_spans.nd)) (fun _ _ _ _ _ => pts_n) (fun _ _ _ _ _ => (pd_call false c_is_span hr (by decide) hgd (pda_cons (pd_v 2) pda_nil)))) pda_nil))))))
theorem sc_is_stretch : FnScope ["thing"] ["thing"] (defScope s_is_stretch) :=
  ⟨rfl, rfl, rfl, by decide +kernel, rfl, by decide +kernel, by decide +kernel⟩
noncomputable def b_is_stretch : SM :=
    (sRet (eAnd (eA isiG (aC (eV 0) (aC (eC (.ty "tuple")) aN))) (eAnd (e2 (eqG false) (eA lenG (aC (eV 0) aN)) (eC (.int 3))) (eAnd (eCall m_is_level false (aC (e2 ixG (eV 0) (eC (.int 0))) aN)) (eAnd (e2 (gtG) (e2 ixG (eV 0) (eC (.int 0))) (eC (.int 0))) (eCall m_is_span false (aC (eSl false (eV 0) (pS (eC (.int 1))) pN) aN)))))))
noncomputable def m_is_stretch : FnM := fnM 1 1 b_is_stretch
theorem ok_is_stretch (T : Txt K mg) {f : Addr} {fd : FuncData} (F : Fun K "is_stretch" "is_stretch" s_is_stretch f fd) (hm : mg "is_stretch" = some (.ref f)) (hb : Binds K fd ["thing"] []) (c_is_span : CalD P w K mg base 4 "is_span" m_is_span) (c_is_level : CalD P w K mg base 3 "is_level" m_is_level) :
    CalD P w K mg base 5 "is_stretch" m_is_stretch :=
  calD_of (k := 4) F hm hb sc_is_stretch fun cdv A outer s H E hgd hr =>
    (pss_1 (psd_ret (pd_and (pd_callB call_isi isi_ok T.n_isinstance PyProof.Rows.boot_isinstance (pda_cons (pd_v 0) (pda_cons (pd_ty T.n_tuple PyProof.Rows.boot_tuple) pda_nil))) (pd_and (pd_eq hr.units (pd_callB call_len len_ok T.n_len PySem.boot_len (pda_cons (pd_v 0) pda_nil)) pd_int) (pd_and (pd_call false c_is_level hr (by decide) hgd (pda_cons (pd_ix (pd_v 0) pd_int) pda_nil)) (pd_and (pd_gt (pd_ix (pd_v 0) pd_int) pd_int) (pd_one (pd_call false c_is_span hr (by decide) hgd (pda_cons (pd_sl false (pd_v 0) (po_s pd_int) po_n) pda_nil)))))))))
theorem sc_is_plain_call : FnScope ["thing"] ["thing"] (defScope s_is_plain_call) :=
  ⟨rfl, rfl, rfl, by decide +kernel, rfl, by decide +kernel, by decide +kernel⟩
noncomputable def b_is_plain_call : SM :=
    (sRet (eAnd (eA isiG (aC (eV 0) (aC (eC (.ty "tuple")) aN))) (eAnd (e2 (eqG false) (eA lenG (aC (eV 0) aN)) (eC (.int 3))) (eAnd (eCall m_is_level false (aC (e2 ixG (eV 0) (eC (.int 0))) aN)) (eCall m_is_span false (aC (eSl false (eV 0) (pS (eC (.int 1))) pN) aN))))))
noncomputable def m_is_plain_call : FnM := fnM 1 1 b_is_plain_call
theorem ok_is_plain_call (T : Txt K mg) {f : Addr} {fd : FuncData} (F : Fun K "is_plain_call" "is_plain_call" s_is_plain_call f fd) (hm : mg "is_plain_call" = some (.ref f)) (hb : Binds K fd ["thing"] []) (c_is_span : CalD P w K mg base 4 "is_span" m_is_span) (c_is_level : CalD P w K mg base 3 "is_level" m_is_level) :
    CalD P w K mg base 5 "is_plain_call" m_is_plain_call :=
  calD_of (k := 4) F hm hb sc_is_plain_call fun cdv A outer s H E hgd hr =>
    (pss_1 (psd_ret (pd_and (pd_callB call_isi isi_ok T.n_isinstance PyProof.Rows.boot_isinstance (pda_cons (pd_v 0) (pda_cons (pd_ty T.n_tuple PyProof.Rows.boot_tuple) pda_nil))) (pd_and (pd_eq hr.units (pd_callB call_len len_ok T.n_len PySem.boot_len (pda_cons (pd_v 0) pda_nil)) pd_int) (pd_and (pd_call false c_is_level hr (by decide) hgd (pda_cons (pd_ix (pd_v 0) pd_int) pda_nil)) (pd_one (pd_call false c_is_span hr (by decide) hgd (pda_cons (pd_sl false (pd_v 0) (po_s pd_int) po_n) pda_nil))))))))
theorem sc_Area___init__ : FnScope ["self", "some"] ["self", "some"] (defScope s_Area___init__) :=
  ⟨rfl, rfl, rfl, by decide +kernel, rfl, by decide +kernel, by decide +kernel⟩
noncomputable def b_Area___init__ : SM :=
    (sSeq (sEx (eCall m_need false (aC (eC (.int 0)) (aC (eCall m_are_spans false (aC (eV 1) aN)) aN))))
    (sFldM ["Area", "Holding"] "kept" (eV 0) (eCall m_merged false (aC (eV 1) aN))))
noncomputable def m_Area___init__ : FnM := fnM 2 2 b_Area___init__
theorem ok_Area___init__ (T : Txt K mg) {f : Addr} {fd : FuncData} (F : Fun K "__init__" "Area.__init__" s_Area___init__ f fd) (hfn : PySem.W.isFn K (.ref f) = true) (hb : Binds K fd ["self", "some"] []) (c_merged : CalD P w K mg base 2 "merged" m_merged) (c_are_spans : CalD P w K mg base 5 "are_spans" m_are_spans) (c_need : CalD P w K mg base 1 "need" m_need) :
    FunAt P w K mg base 6 f m_Area___init__ :=
  funAt_of (k := 5) F hfn hb sc_Area___init__ fun cdv A outer s H E hgd hr =>
    (pss_c (psd_expr (pd_call false c_need hr (by decide) hgd (pda_cons pd_int (pda_cons (pd_call false c_are_spans hr (by decide) hgd (pda_cons (pd_v 1) pda_nil)) pda_nil))))
    (pss_1 (psd_fld T.fl_kept (pd_v 0) (pd_call false c_merged hr (by decide) hgd (pda_cons (pd_v 1) pda_nil)))))
theorem sc_are_stretches : FnScope ["thing", "one", "other", ".0", "stretch"] ["thing"] (defScope s_are_stretches) :=
  ⟨rfl, rfl, rfl, by decide +kernel, rfl, by decide +kernel, by decide +kernel⟩
noncomputable def f_are_stretches_1 : SM :=
    (sIf (tOo (tB (e2 (isG false) (e2 ixG (eV 1) (eC (.int 2))) (eC .non))) (tB (e2 (leG) (e2 ixG (eV 2) (eC (.int 1))) (e2 ixG (eV 1) (eC (.int 2)))))) (sRet (eC (.bl false))) sNx)
noncomputable def b_are_stretches : SM :=
    (sSeq (sIf (tOo (tNt (tV (eA isiG (aC (eV 0) (aC (eC (.ty "list")) aN))))) (tNt (tV (eA allG (aC (eLC false (iSeq (eV 0)) (gNm 4) tTr (eCall m_is_stretch false (aC (eV 4) aN)) [3, 4]) aN))))) (sRet (eC (.bl false))) sNx)
    (sSeq (sFor (iZi (aC (eV 0) (aC (eSl false (eV 0) (pS (eC (.int 1))) pN) aN))) (gTu 2 (gCs (gNm 1) (gCs (gNm 2) gNl))) f_are_stretches_1)
    (sRet (eC (.bl true)))))
noncomputable def m_are_stretches : FnM := fnM 1 5 b_are_stretches
theorem ok_are_stretches (T : Txt K mg) {f : Addr} {fd : FuncData} (F : Fun K "are_stretches" "are_stretches" s_are_stretches f fd) (hm : mg "are_stretches" = some (.ref f)) (hb : Binds K fd ["thing"] []) (c_is_stretch : CalD P w K mg base 5 "is_stretch" m_is_stretch) :
    CalD P w K mg base 6 "are_stretches" m_are_stretches :=
  calD_of (k := 5) F hm hb sc_are_stretches fun cdv A outer s H E hgd hr =>
    (pss_c (psd_if (pt_w (pw_o (pt_nt (pt_v (pd_callB call_isi isi_ok T.n_isinstance PyProof.Rows.boot_isinstance (pda_cons (pd_v 0) (pda_cons (pd_ty T.n_list PyProof.Rows.boot_list) pda_nil))))) (pw_o1 (pt_nt (pt_v (pd_callB (cr_all rfl) all_ok T.n_all PyProof.Rows.boot_all (pda_cons (pd_lc false rfl sc_are_stretches.nd (pid_seq (pd_v 0)) (blkOk_by (own := [(".0", 3), ("stretch", 4)]) (by kernel_rfl)) (fun _ _ _ _ _ => (pgd_name (i := 4) sc_are_stretches.nd)) (fun _ _ _ _ _ => pts_n) (fun _ _ _ _ _ => (pd_call false c_is_stretch hr (by decide) hgd (pda_cons (pd_v 4) pda_nil)))) pda_nil))))))) (pss_1 (psd_ret pd_bl)) pss_n)
    (pss_c (psd_for rfl (passes_of rfl) (pid_zip T.n_zip (pda_cons (pd_v 0) (pda_cons (pd_sl false (pd_v 0) (po_s pd_int) po_n) pda_nil))) (pgd_tup rfl (pgds_cons (pgd_name (i := 1) sc_are_stretches.nd) (pgds_cons (pgd_name (i := 2) sc_are_stretches.nd) pgds_nil))) (pss_1 (psd_if (pt_w (pw_o (pt_is (pd_ix (pd_v 1) pd_int) pd_non) (pw_o1 (pt_le (pd_ix (pd_v 2) pd_int) (pd_ix (pd_v 1) pd_int))))) (pss_1 (psd_ret pd_bl)) pss_n)))
    (pss_1 (psd_ret pd_bl))))
theorem sc_is_program : FnScope ["thing", ".0", "call"] ["thing"] (defScope s_is_program) :=
  ⟨rfl, rfl, rfl, by decide +kernel, rfl, by decide +kernel, by decide +kernel⟩
noncomputable def b_is_program : SM :=
    (sRet (eAnd (eA isiG (aC (eV 0) (aC (eC (.ty "list")) aN))) (eAnd (e2 (gtG) (eA lenG (aC (eV 0) aN)) (eC (.int 0))) (eA allG (aC (eLC false (iSeq (eV 0)) (gNm 2) tTr (eCall m_is_plain_call false (aC (eV 2) aN)) [1, 2]) aN)))))
noncomputable def m_is_program : FnM := fnM 1 3 b_is_program
theorem ok_is_program (T : Txt K mg) {f : Addr} {fd : FuncData} (F : Fun K "is_program" "is_program" s_is_program f fd) (hm : mg "is_program" = some (.ref f)) (hb : Binds K fd ["thing"] []) (c_is_plain_call : CalD P w K mg base 5 "is_plain_call" m_is_plain_call) :
    CalD P w K mg base 6 "is_program" m_is_program :=
  calD_of (k := 5) F hm hb sc_is_program fun cdv A outer s H E hgd hr =>
    (pss_1 (psd_ret (pd_and (pd_callB call_isi isi_ok T.n_isinstance PyProof.Rows.boot_isinstance (pda_cons (pd_v 0) (pda_cons (pd_ty T.n_list PyProof.Rows.boot_list) pda_nil))) (pd_and (pd_gt (pd_callB call_len len_ok T.n_len PySem.boot_len (pda_cons (pd_v 0) pda_nil)) pd_int) (pd_one (pd_callB (cr_all rfl) all_ok T.n_all PyProof.Rows.boot_all (pda_cons (pd_lc false rfl sc_is_program.nd (pid_seq (pd_v 0)) (blkOk_by (own := [(".0", 1), ("call", 2)]) (by kernel_rfl)) (fun _ _ _ _ _ => (pgd_name (i := 2) sc_is_program.nd)) (fun _ _ _ _ _ => pts_n) (fun _ _ _ _ _ => (pd_call false c_is_plain_call hr (by decide) hgd (pda_cons (pd_v 2) pda_nil)))) pda_nil)))))))
theorem sc_Holding___init__ : FnScope ["self", "stretches", "firsts", ".0", "byte"] ["self", "stretches"] (defScope s_Holding___init__) :=
  ⟨rfl, rfl, rfl, by decide +kernel, rfl, by decide +kernel, by decide +kernel⟩
noncomputable def b_Holding___init__ : SM :=
    (sSeq (sEx (eCall m_need false (aC (eC (.int 0)) (aC (eCall m_are_stretches false (aC (eV 1) aN)) aN))))
    (sSeq (sSet 2 (eCall m_bounds false (aC (eA (newL false) (aC (eV 1) aN)) aN)))
    (sFldM ["Area", "Holding"] "kept" (eV 0) (eCall m_stretches_of false (aC (eV 2) (aC (eLC false (iSeq (eV 2)) (gNm 4) tTr (eCall m_level_in false (aC (eV 1) (aC (eV 4) aN))) [3, 4]) aN))))))
noncomputable def m_Holding___init__ : FnM := fnM 2 5 b_Holding___init__
theorem ok_Holding___init__ (T : Txt K mg) {f : Addr} {fd : FuncData} (F : Fun K "__init__" "Holding.__init__" s_Holding___init__ f fd) (hfn : PySem.W.isFn K (.ref f) = true) (hb : Binds K fd ["self", "stretches"] []) (c_level_in : CalD P w K mg base 2 "level_in" m_level_in) (c_stretches_of : CalD P w K mg base 2 "stretches_of" m_stretches_of) (c_bounds : CalD P w K mg base 1 "bounds" m_bounds) (c_are_stretches : CalD P w K mg base 6 "are_stretches" m_are_stretches) (c_need : CalD P w K mg base 1 "need" m_need) :
    FunAt P w K mg base 7 f m_Holding___init__ :=
  funAt_of (k := 6) F hfn hb sc_Holding___init__ fun cdv A outer s H E hgd hr =>
    (pss_c (psd_expr (pd_call false c_need hr (by decide) hgd (pda_cons pd_int (pda_cons (pd_call false c_are_stretches hr (by decide) hgd (pda_cons (pd_v 1) pda_nil)) pda_nil))))
    (pss_c (psd_set (i := 2) sc_Holding___init__.nd (pd_call false c_bounds hr (by decide) hgd (pda_cons (pd_lst false (pda_cons (pd_v 1) pda_nil)) pda_nil)))
    (pss_1 (psd_fld T.fl_kept (pd_v 0) (pd_call false c_stretches_of hr (by decide) hgd (pda_cons (pd_v 2) (pda_cons (pd_lc false rfl sc_Holding___init__.nd (pid_seq (pd_v 2)) (blkOk_by (own := [(".0", 3), ("byte", 4)]) (by kernel_rfl)) (fun _ _ _ _ _ => (pgd_name (i := 4) sc_Holding___init__.nd)) (fun _ _ _ _ _ => pts_n) (fun _ _ _ _ _ => (pd_call false c_level_in hr (by decide) hgd (pda_cons (pd_v 1) (pda_cons (pd_v 4) pda_nil))))) pda_nil)))))))
theorem sc_are_programs : FnScope ["thing", ".0", "program"] ["thing"] (defScope s_are_programs) :=
  ⟨rfl, rfl, rfl, by decide +kernel, rfl, by decide +kernel, by decide +kernel⟩
noncomputable def b_are_programs : SM :=
    (sSeq (sIf (tOo (tNt (tV (eA isiG (aC (eV 0) (aC (eC (.ty "list")) aN))))) (tNt (tB (eCh (leG) (leG) (eC (.int 1)) (eA lenG (aC (eV 0) aN)) (eC (.int 4)))))) (sRet (eC (.bl false))) sNx)
    (sSeq (sIf (tNt (tV (eA allG (aC (eLC false (iSeq (eV 0)) (gNm 2) tTr (eCall m_is_program false (aC (eV 2) aN)) [1, 2]) aN)))) (sRet (eC (.bl false))) sNx)
    (sRet (e2 (leG) (eA sumG (aC (eLC false (iSeq (eV 0)) (gNm 2) tTr (eA lenG (aC (eV 2) aN)) [1, 2]) aN)) (eC (.int 6))))))
noncomputable def m_are_programs : FnM := fnM 1 3 b_are_programs
theorem ok_are_programs (T : Txt K mg) {f : Addr} {fd : FuncData} (F : Fun K "are_programs" "are_programs" s_are_programs f fd) (hm : mg "are_programs" = some (.ref f)) (hb : Binds K fd ["thing"] []) (c_is_program : CalD P w K mg base 6 "is_program" m_is_program) :
    CalD P w K mg base 7 "are_programs" m_are_programs :=
  calD_of (k := 6) F hm hb sc_are_programs fun cdv A outer s H E hgd hr =>
    (pss_c (psd_if (pt_w (pw_o (pt_nt (pt_v (pd_callB call_isi isi_ok T.n_isinstance PyProof.Rows.boot_isinstance (pda_cons (pd_v 0) (pda_cons (pd_ty T.n_list PyProof.Rows.boot_list) pda_nil))))) (pw_o1 (pt_nt (pt_ch op_le op_le cmp_ok cmp_ok pd_int (pd_callB call_len len_ok T.n_len PySem.boot_len (pda_cons (pd_v 0) pda_nil)) (pd_cint T.k_MOST_PROGRAMS)))))) (pss_1 (psd_ret pd_bl)) pss_n)
    (pss_c (psd_if (pt_nt (pt_v (pd_callB (cr_all rfl) all_ok T.n_all PyProof.Rows.boot_all (pda_cons (pd_lc false rfl sc_are_programs.nd (pid_seq (pd_v 0)) (blkOk_by (own := [(".0", 1), ("program", 2)]) (by kernel_rfl)) (fun _ _ _ _ _ => (pgd_name (i := 2) sc_are_programs.nd)) (fun _ _ _ _ _ => pts_n) (fun _ _ _ _ _ => (pd_call false c_is_program hr (by decide) hgd (pda_cons (pd_v 2) pda_nil)))) pda_nil)))) (pss_1 (psd_ret pd_bl)) pss_n)
    (pss_1 (psd_ret (pd_le (pd_callB (cr_sum rfl) sum_ok T.n_sum PyProof.Rows.boot_sum (pda_cons (pd_lc false rfl sc_are_programs.nd (pid_seq (pd_v 0)) (blkOk_by (own := [(".0", 1), ("program", 2)]) (by kernel_rfl)) (fun _ _ _ _ _ => (pgd_name (i := 2) sc_are_programs.nd)) (fun _ _ _ _ _ => pts_n) (fun _ _ _ _ _ => (pd_callB call_len len_ok T.n_len PySem.boot_len (pda_cons (pd_v 2) pda_nil)))) pda_nil)) (pd_cint T.k_MOST_CALLS))))))
theorem sc_Area___invert__ : FnScope ["self"] ["self"] (defScope s_Area___invert__) :=
  ⟨rfl, rfl, rfl, by decide +kernel, rfl, by decide +kernel, by decide +kernel⟩
noncomputable def b_Area___invert__ : SM :=
    (sRet (eMake false "Area" m_Area___init__ (aC (eCall m_left_out false (aC (eFld ["Area", "Holding"] "kept" (eV 0)) aN)) aN)))
noncomputable def m_Area___invert__ : FnM := fnM 1 1 b_Area___invert__
theorem ok_Area___invert__ (T : Txt K mg) {f : Addr} {fd : FuncData} (F : Fun K "__invert__" "Area.__invert__" s_Area___invert__ f fd) (hfn : PySem.W.isFn K (.ref f) = true) (hb : Binds K fd ["self"] []) (c_left_out : CalD P w K mg base 1 "left_out" m_left_out) (K_Area : MakD P w K mg base 6 "Area" m_Area___init__) :
    FunAt P w K mg base 8 f m_Area___invert__ :=
  funAt_of (k := 7) F hfn hb sc_Area___invert__ fun cdv A outer s H E hgd hr =>
    (pss_1 (psd_ret (pd_make false K_Area (hr.mono (by decide)) hgd (pda_cons (pd_call false c_left_out hr (by decide) hgd (pda_cons (pd_fld T.fl_kept (pd_v 0)) pda_nil)) pda_nil))))
theorem sc_Crowd___init__ : FnScope ["self", "programs", ".0", "program"] ["self", "programs"] (defScope s_Crowd___init__) :=
  ⟨rfl, rfl, rfl, by decide +kernel, rfl, by decide +kernel, by decide +kernel⟩
noncomputable def b_Crowd___init__ : SM :=
    (sSeq (sIf (tNt (tV (eCall m_are_programs false (aC (eV 1) aN)))) sNo sNx)
    (sFldM ["Crowd"] "kept_programs" (eV 0) (eLC false (iSeq (eV 1)) (gNm 3) tTr (eA (listG false) (aC (eV 3) aN)) [2, 3])))
noncomputable def m_Crowd___init__ : FnM := fnM 2 4 b_Crowd___init__
theorem ok_Crowd___init__ (T : Txt K mg) {f : Addr} {fd : FuncData} (F : Fun K "__init__" "Crowd.__init__" s_Crowd___init__ f fd) (hfn : PySem.W.isFn K (.ref f) = true) (hb : Binds K fd ["self", "programs"] []) (c_are_programs : CalD P w K mg base 7 "are_programs" m_are_programs) :
    FunAt P w K mg base 8 f m_Crowd___init__ :=
  funAt_of (k := 7) F hfn hb sc_Crowd___init__ fun cdv A outer s H E hgd hr =>
    (pss_c (psd_if (pt_nt (pt_v (pd_call false c_are_programs hr (by decide) hgd (pda_cons (pd_v 1) pda_nil)))) (pss_1 psd_never) pss_n)
    (pss_1 (psd_fld T.fl_kept_programs (pd_v 0) (pd_lc false rfl sc_Crowd___init__.nd (pid_seq (pd_v 1)) (blkOk_by (own := [(".0", 2), ("program", 3)]) (by kernel_rfl)) (fun _ _ _ _ _ => (pgd_name (i := 3) sc_Crowd___init__.nd)) (fun _ _ _ _ _ => pts_n) (fun _ _ _ _ _ => (pd_callTy call_list_of (list_ok false) T.n_list PyProof.Rows.boot_list (pda_cons (pd_v 3) pda_nil)))))))
theorem sc_Holding_painted : FnScope ["self", "level", "first", "last", "firsts", "levels", "byte"] ["self", "level", "first", "last"] (defScope s_Holding_painted) :=
  ⟨rfl, rfl, rfl, by decide +kernel, rfl, by decide +kernel, by decide +kernel⟩
noncomputable def f_Holding_painted_1 : SM :=
    (sEx (eMt "list" appendG (eV 5) (aC (eIf (tV (eCall m_covers false (aC (eA newT (aC (eV 2) (aC (eV 3) aN))) (aC (eV 6) aN)))) (eV 1) (eCall m_level_in false (aC (eFld ["Area", "Holding"] "kept" (eV 0)) (aC (eV 6) aN)))) aN)))
noncomputable def b_Holding_painted : SM :=
    (sSeq (sSet 4 (eCall m_bounds false (aC (eA (newL false) (aC (eFld ["Area", "Holding"] "kept" (eV 0)) (aC (eA (newL false) (aC (eA newT (aC (eV 1) (aC (eV 2) (aC (eV 3) aN)))) aN)) aN))) aN)))
    (sSeq (sSet 5 (eA (newL true) aN))
    (sSeq (sFor (iSeq (eV 4)) (gNm 6) f_Holding_painted_1)
    (sRet (eMake false "Holding" m_Holding___init__ (aC (eCall m_stretches_of false (aC (eV 4) (aC (eV 5) aN))) aN))))))
noncomputable def m_Holding_painted : FnM := fnM 4 7 b_Holding_painted
theorem ok_Holding_painted (T : Txt K mg) {f : Addr} {fd : FuncData} (F : Fun K "painted" "Holding.painted" s_Holding_painted f fd) (hfn : PySem.W.isFn K (.ref f) = true) (hb : Binds K fd ["self", "level", "first", "last"] []) (c_stretches_of : CalD P w K mg base 2 "stretches_of" m_stretches_of) (K_Holding : MakD P w K mg base 7 "Holding" m_Holding___init__) (c_covers : CalD P w K mg base 1 "covers" m_covers) (c_level_in : CalD P w K mg base 2 "level_in" m_level_in) (c_bounds : CalD P w K mg base 1 "bounds" m_bounds) :
    FunAt P w K mg base 9 f m_Holding_painted :=
  funAt_of (k := 8) F hfn hb sc_Holding_painted fun cdv A outer s H E hgd hr =>
    (pss_c (psd_set (i := 4) sc_Holding_painted.nd (pd_call false c_bounds hr (by decide) hgd (pda_cons (pd_lst false (pda_cons (pd_fld T.fl_kept (pd_v 0)) (pda_cons (pd_lst false (pda_cons (pd_tup (pda_cons (pd_v 1) (pda_cons (pd_v 2) (pda_cons (pd_v 3) pda_nil)))) pda_nil)) pda_nil))) pda_nil)))
    (pss_c (psd_set (i := 5) sc_Holding_painted.nd (pd_lst true pda_nil))
    (pss_c (psd_for rfl (passes_of rfl) (pid_seq (pd_v 4)) (pgd_name (i := 6) sc_Holding_painted.nd) (pss_1 (psd_expr (pd_mt PySem.F.plainAttrs_list PySem.F.slot_list_append PySem.F.type_list_append mt_append append_ok (pd_v 5) (pda_cons (pd_if (pt_v (pd_call false c_covers hr (by decide) hgd (pda_cons (pd_tup (pda_cons (pd_v 2) (pda_cons (pd_v 3) pda_nil))) (pda_cons (pd_v 6) pda_nil)))) (pd_v 1) (pd_call false c_level_in hr (by decide) hgd (pda_cons (pd_fld T.fl_kept (pd_v 0)) (pda_cons (pd_v 6) pda_nil)))) pda_nil)))))
    (pss_1 (psd_ret (pd_make false K_Holding (hr.mono (by decide)) hgd (pda_cons (pd_call false c_stretches_of hr (by decide) hgd (pda_cons (pd_v 4) (pda_cons (pd_v 5) pda_nil))) pda_nil)))))))
theorem sc_Holding___invert__ : FnScope ["self", "firsts", ".0", "byte"] ["self"] (defScope s_Holding___invert__) :=
  ⟨rfl, rfl, rfl, by decide +kernel, rfl, by decide +kernel, by decide +kernel⟩
noncomputable def b_Holding___invert__ : SM :=
    (sSeq (sSet 1 (eCall m_bounds false (aC (eA (newL false) (aC (eFld ["Area", "Holding"] "kept" (eV 0)) aN)) aN)))
    (sRet (eMake false "Holding" m_Holding___init__ (aC (eCall m_stretches_of false (aC (eV 1) (aC (eLC false (iSeq (eV 1)) (gNm 3) tTr (e2 (subG) (eC (.int 2)) (eCall m_level_in false (aC (eFld ["Area", "Holding"] "kept" (eV 0)) (aC (eV 3) aN)))) [2, 3]) aN))) aN))))
noncomputable def m_Holding___invert__ : FnM := fnM 1 4 b_Holding___invert__
theorem ok_Holding___invert__ (T : Txt K mg) {f : Addr} {fd : FuncData} (F : Fun K "__invert__" "Holding.__invert__" s_Holding___invert__ f fd) (hfn : PySem.W.isFn K (.ref f) = true) (hb : Binds K fd ["self"] []) (c_level_in : CalD P w K mg base 2 "level_in" m_level_in) (c_stretches_of : CalD P w K mg base 2 "stretches_of" m_stretches_of) (K_Holding : MakD P w K mg base 7 "Holding" m_Holding___init__) (c_bounds : CalD P w K mg base 1 "bounds" m_bounds) :
    FunAt P w K mg base 9 f m_Holding___invert__ :=
  funAt_of (k := 8) F hfn hb sc_Holding___invert__ fun cdv A outer s H E hgd hr =>
    (pss_c (psd_set (i := 1) sc_Holding___invert__.nd (pd_call false c_bounds hr (by decide) hgd (pda_cons (pd_lst false (pda_cons (pd_fld T.fl_kept (pd_v 0)) pda_nil)) pda_nil)))
    (pss_1 (psd_ret (pd_make false K_Holding (hr.mono (by decide)) hgd (pda_cons (pd_call false c_stretches_of hr (by decide) hgd (pda_cons (pd_v 1) (pda_cons (pd_lc false rfl sc_Holding___invert__.nd (pid_seq (pd_v 1)) (blkOk_by (own := [(".0", 2), ("byte", 3)]) (by kernel_rfl)) (fun _ _ _ _ _ => (pgd_name (i := 3) sc_Holding___invert__.nd)) (fun _ _ _ _ _ => pts_n) (fun _ _ _ _ _ => (pd_sub (pd_cint T.k_MOST_LEVEL) (pd_call false c_level_in hr (by decide) hgd (pda_cons (pd_fld T.fl_kept (pd_v 0)) (pda_cons (pd_v 3) pda_nil)))))) pda_nil))) pda_nil)))))
theorem sc_span_holding : FnScope ["level", "first", "last"] ["level", "first", "last"] (defScope s_span_holding) :=
  ⟨rfl, rfl, rfl, by decide +kernel, rfl, by decide +kernel, by decide +kernel⟩
noncomputable def b_span_holding : SM :=
    (sRet (eMeth true [("Holding", m_Holding_painted)] "painted" (eMake false "Holding" m_Holding___init__ (aC (eA (newL false) aN) aN)) (aC (eV 0) (aC (eV 1) (aC (eV 2) aN)))))
noncomputable def m_span_holding : FnM := fnM 3 3 b_span_holding
theorem ok_span_holding (T : Txt K mg) {f : Addr} {fd : FuncData} (F : Fun K "span_holding" "span_holding" s_span_holding f fd) (hm : mg "span_holding" = some (.ref f)) (hb : Binds K fd ["level", "first", "last"] []) (K_Holding : MakD P w K mg base 7 "Holding" m_Holding___init__) (M_painted : MetsD P w K mg base 9 "painted" [("Holding", m_Holding_painted)]) :
    CalD P w K mg base 10 "span_holding" m_span_holding :=
  calD_of (k := 9) F hm hb sc_span_holding fun cdv A outer s H E hgd hr =>
    (pss_1 (psd_ret (pd_meth true M_painted (hr.mono (by decide)) hgd (pd_make false K_Holding (hr.mono (by decide)) hgd (pda_cons (pd_lst false pda_nil) pda_nil)) (pda_cons (pd_v 0) (pda_cons (pd_v 1) (pda_cons (pd_v 2) pda_nil))))))
theorem sc_Crowd_held : FnScope ["self", "place", "program", "done", "holding", "level", "first", "last"] ["self", "place"] (defScope s_Crowd_held) :=
  ⟨rfl, rfl, rfl, by decide +kernel, rfl, by decide +kernel, by decide +kernel⟩
noncomputable def f_Crowd_held_1 : SM :=
    (sSet 4 (eMeth false [("Holding", m_Holding_painted)] "painted" (eV 4) (aC (eV 5) (aC (eV 6) (aC (eV 7) aN)))))
noncomputable def b_Crowd_held : SM :=
    (sSeq (sAs (eV 1) (gTu 2 (gCs (gNm 2) (gCs (gNm 3) gNl))))
    (sSeq (sSet 4 (eMake false "Holding" m_Holding___init__ (aC (eA (newL false) aN) aN)))
    (sSeq (sFor (iSeq (eSl false (e2 ixG (eFld ["Crowd"] "kept_programs" (eV 0)) (eV 2)) pN (pS (eV 3)))) (gTu 3 (gCs (gNm 5) (gCs (gNm 6) (gCs (gNm 7) gNl)))) f_Crowd_held_1)
    (sRet (eV 4)))))
noncomputable def m_Crowd_held : FnM := fnM 2 8 b_Crowd_held
theorem ok_Crowd_held (T : Txt K mg) {f : Addr} {fd : FuncData} (F : Fun K "held" "Crowd.held" s_Crowd_held f fd) (hfn : PySem.W.isFn K (.ref f) = true) (hb : Binds K fd ["self", "place"] []) (M_painted : MetsD P w K mg base 9 "painted" [("Holding", m_Holding_painted)]) (K_Holding : MakD P w K mg base 7 "Holding" m_Holding___init__) :
    FunAt P w K mg base 10 f m_Crowd_held :=
  funAt_of (k := 9) F hfn hb sc_Crowd_held fun cdv A outer s H E hgd hr =>
    (pss_c (psd_asg (pd_v 1) (pgd_tup rfl (pgds_cons (pgd_name (i := 2) sc_Crowd_held.nd) (pgds_cons (pgd_name (i := 3) sc_Crowd_held.nd) pgds_nil))))
    (pss_c (psd_set (i := 4) sc_Crowd_held.nd (pd_make false K_Holding (hr.mono (by decide)) hgd (pda_cons (pd_lst false pda_nil) pda_nil)))
    (pss_c (psd_for rfl (passes_of rfl) (pid_seq (pd_sl false (pd_ix (pd_fld T.fl_kept_programs (pd_v 0)) (pd_v 2)) po_n (po_s (pd_v 3)))) (pgd_tup rfl (pgds_cons (pgd_name (i := 5) sc_Crowd_held.nd) (pgds_cons (pgd_name (i := 6) sc_Crowd_held.nd) (pgds_cons (pgd_name (i := 7) sc_Crowd_held.nd) pgds_nil)))) (pss_1 (psd_set (i := 4) sc_Crowd_held.nd (pd_meth false M_painted (hr.mono (by decide)) hgd (pd_v 4) (pda_cons (pd_v 5) (pda_cons (pd_v 6) (pda_cons (pd_v 7) pda_nil)))))))
    (pss_1 (psd_ret (pd_v 4))))))
theorem sc_law_case : FnScope ["_law_bag_here", "_law_cuts_here", "_law_programs_here"] ["_law_bag_here"] (defScope s_law_case) :=
  ⟨rfl, rfl, rfl, by decide +kernel, rfl, by decide +kernel, by decide +kernel⟩
noncomputable def b_law_case : SM :=
    (sSeq (sSet 1 (eCall m_law_cuts false (aC (eV 0) (aC (e2 (addG false) (eC (.int 1)) (eCall m_law_take false (aC (eV 0) (aC (eC (.int 5)) aN)))) aN))))
    (sSeq (sSet 2 (eCall m_law_programs false (aC (eV 0) (aC (eV 1) (aC (eC (.int 6)) (aC (eC (.int 4)) aN))))))
    (sRet (eA newT (aC (eV 1) (aC (eV 2) (aC (eMake false "Crowd" m_Crowd___init__ (aC (eCall m_law_told_programs false (aC (eV 1) (aC (eV 2) aN))) aN)) aN)))))))
noncomputable def m_law_case : FnM := fnM 1 3 b_law_case
theorem ok_law_case (T : Txt K mg) {f : Addr} {fd : FuncData} (F : Fun K "_law_case" "_law_case" s_law_case f fd) (hm : mg "_law_case" = some (.ref f)) (hb : Binds K fd ["_law_bag_here"] []) (c_law_told_programs : CalD P w K mg base 2 "_law_told_programs" m_law_told_programs) (K_Crowd : MakD P w K mg base 8 "Crowd" m_Crowd___init__) (c_law_programs : CalD P w K mg base 2 "_law_programs" m_law_programs) (c_law_take : CalD P w K mg base 1 "_law_take" m_law_take) (c_law_cuts : CalD P w K mg base 2 "_law_cuts" m_law_cuts) :
    CalD P w K mg base 10 "_law_case" m_law_case :=
  calD_of (k := 9) F hm hb sc_law_case fun cdv A outer s H E hgd hr =>
    (pss_c (psd_set (i := 1) sc_law_case.nd (pd_call false c_law_cuts hr (by decide) hgd (pda_cons (pd_v 0) (pda_cons (pd_add false pd_int (pd_call false c_law_take hr (by decide) hgd (pda_cons (pd_v 0) (pda_cons pd_int pda_nil)))) pda_nil))))
    (pss_c (psd_set (i := 2) sc_law_case.nd (pd_call false c_law_programs hr (by decide) hgd (pda_cons (pd_v 0) (pda_cons (pd_v 1) (pda_cons pd_int (pda_cons pd_int pda_nil))))))
    (pss_1 (psd_ret (pd_tup (pda_cons (pd_v 1) (pda_cons (pd_v 2) (pda_cons (pd_make false K_Crowd (hr.mono (by decide)) hgd (pda_cons (pd_call false c_law_told_programs hr (by decide) hgd (pda_cons (pd_v 1) (pda_cons (pd_v 2) pda_nil))) pda_nil)) pda_nil))))))))
theorem sc_Crowd_in_the_way : FnScope ["self", "place", "other", "level", "first", "last"] ["self", "place", "other"] (defScope s_Crowd_in_the_way) :=
  ⟨rfl, rfl, rfl, by decide +kernel, rfl, by decide +kernel, by decide +kernel⟩
noncomputable def b_Crowd_in_the_way : SM :=
    (sSeq (sAs (eMeth false [("Crowd", m_Crowd_next_call)] "next_call" (eV 0) (aC (eV 2) aN)) (gTu 3 (gCs (gNm 3) (gCs (gNm 4) (gCs (gNm 5) gNl)))))
    (sRet (eNot (eMeth false [("Area", m_Area_within), ("Holding", m_Holding_within)] "within" (eCall m_span_holding false (aC (eV 3) (aC (eV 4) (aC (eV 5) aN)))) (aC (e1 (own1G false [("Area", m_Area___invert__), ("Holding", m_Holding___invert__)]) (eMeth false [("Crowd", m_Crowd_held)] "held" (eV 0) (aC (eV 1) aN))) aN)))))
noncomputable def m_Crowd_in_the_way : FnM := fnM 3 6 b_Crowd_in_the_way
theorem ok_Crowd_in_the_way (T : Txt K mg) {f : Addr} {fd : FuncData} (F : Fun K "in_the_way" "Crowd.in_the_way" s_Crowd_in_the_way f fd) (hfn : PySem.W.isFn K (.ref f) = true) (hb : Binds K fd ["self", "place", "other"] []) (c_span_holding : CalD P w K mg base 10 "span_holding" m_span_holding) (M_within : MetsD P w K mg base 4 "within" [("Area", m_Area_within), ("Holding", m_Holding_within)]) (M_held : MetsD P w K mg base 10 "held" [("Crowd", m_Crowd_held)]) (O_invert_ : OpsD P w K mg base 9 "__invert__" [("Area", m_Area___invert__), ("Holding", m_Holding___invert__)]) (M_next_call : MetsD P w K mg base 1 "next_call" [("Crowd", m_Crowd_next_call)]) :
    FunAt P w K mg base 11 f m_Crowd_in_the_way :=
  funAt_of (k := 10) F hfn hb sc_Crowd_in_the_way fun cdv A outer s H E hgd hr =>
    (pss_c (psd_asg (pd_meth false M_next_call (hr.mono (by decide)) hgd (pd_v 0) (pda_cons (pd_v 2) pda_nil)) (pgd_tup rfl (pgds_cons (pgd_name (i := 3) sc_Crowd_in_the_way.nd) (pgds_cons (pgd_name (i := 4) sc_Crowd_in_the_way.nd) (pgds_cons (pgd_name (i := 5) sc_Crowd_in_the_way.nd) pgds_nil)))))
    (pss_1 (psd_ret (pd_not (pd_meth false M_within (hr.mono (by decide)) hgd (pd_call false c_span_holding hr (by decide) hgd (pda_cons (pd_v 3) (pda_cons (pd_v 4) (pda_cons (pd_v 5) pda_nil)))) (pda_cons (pd_inv false O_invert_ (hr.mono (by decide)) hgd (pd_meth false M_held (hr.mono (by decide)) hgd (pd_v 0) (pda_cons (pd_v 1) pda_nil))) pda_nil))))))
theorem sc_law_right : FnScope ["_law_case_here", "_law_cuts_here", "_law_programs_here", "_law_crowd", "_law_due", "_law_ways_here", "_law_places_here", "_law_place", "_law_levels", "_law_found", "_law_other", "_law_answer"] ["_law_case_here"] (defScope s_law_right) :=
  ⟨rfl, rfl, rfl, by decide +kernel, rfl, by decide +kernel, by decide +kernel⟩
noncomputable def f_law_right_1 : SM :=
    (sSeq (sSet 11 (eMeth false [("Crowd", m_Crowd_in_the_way)] "in_the_way" (eV 3) (aC (eV 7) (aC (eV 10) aN))))
    (sIf (tOo (tNt (tV (eA isiG (aC (eV 11) (aC (eC (.ty "bool")) aN))))) (tB (e2 (eqG true) (eV 11) (e2 dgNG (eV 5) (eA newT (aC (eV 7) (aC (eV 10) aN))))))) (sRet (eC (.bl false))) sNx))
noncomputable def f_law_right_2 : SM :=
    (sSeq (sSet 8 (eCall m_law_levels_at false (aC (eV 2) (aC (eV 7) (aC (eA lenG (aC (eV 1) aN)) aN)))))
    (sSeq (sSet 9 (eMeth0 true [("Holding", m_Holding_stretches)] "stretches" (eMeth false [("Crowd", m_Crowd_held)] "held" (eV 3) (aC (eV 7) aN))))
    (sSeq (sIf (tNt (tV (eCall m_law_alike false (aC (eV 9) (aC (eCall m_law_stretches false (aC (eV 1) (aC (eV 8) aN))) aN))))) (sRet (eC (.bl false))) sNx)
    (sSeq (sEx (eMt "list" appendG (eV 9) (aC (eC (.str "x")) aN)))
    (sFor (iSeq (eV 4)) (gNm 10) f_law_right_1)))))
noncomputable def b_law_right : SM :=
    (sSeq (sAs (eV 0) (gTu 3 (gCs (gNm 1) (gCs (gNm 2) (gCs (gNm 3) gNl)))))
    (sSeq (sPar 4 5 (aC (eCall m_law_places false (aC (eV 2) aN)) (aC (eCall m_law_ways true (aC (eV 2) (aC (eA lenG (aC (eV 1) aN)) aN))) aN)))
    (sSeq (sSet 6 (eMeth0 true [("Crowd", m_Crowd_places)] "places" (eV 3)))
    (sSeq (sIf (tNt (tV (eCall m_law_alike false (aC (eV 6) (aC (eV 4) aN))))) (sRet (eC (.bl false))) sNx)
    (sSeq (sEx (eMt "list" appendG (eV 6) (aC (eC (.str "x")) aN)))
    (sSeq (sAs (eA newT (aC (eC (.int 9)) (aC (eC (.int 9)) aN))) (gSb (eV 6) (eC (.int 0))))
    (sSeq (sFor (iSeq (eV 4)) (gNm 7) f_law_right_2)
    (sRet (eCall m_law_alike true (aC (eMeth0 false [("Crowd", m_Crowd_places)] "places" (eV 3)) (aC (eV 4) aN)))))))))))
noncomputable def m_law_right : FnM := fnM 1 12 b_law_right
theorem ok_law_right (T : Txt K mg) {f : Addr} {fd : FuncData} (F : Fun K "_law_right" "_law_right" s_law_right f fd) (hm : mg "_law_right" = some (.ref f)) (hb : Binds K fd ["_law_case_here"] []) (M_places : MetsD P w K mg base 1 "places" [("Crowd", m_Crowd_places)]) (c_law_alike : CalD P w K mg base 1 "_law_alike" m_law_alike) (M_in_the_way : MetsD P w K mg base 11 "in_the_way" [("Crowd", m_Crowd_in_the_way)]) (c_law_stretches : CalD P w K mg base 2 "_law_stretches" m_law_stretches) (M_held : MetsD P w K mg base 10 "held" [("Crowd", m_Crowd_held)]) (M_stretches : MetsD P w K mg base 1 "stretches" [("Holding", m_Holding_stretches)]) (c_law_levels_at : CalD P w K mg base 1 "_law_levels_at" m_law_levels_at) (c_law_ways : CalD P w K mg base 2 "_law_ways" m_law_ways) (c_law_places : CalD P w K mg base 1 "_law_places" m_law_places) :
    CalD P w K mg base 12 "_law_right" m_law_right :=
  calD_of (k := 11) F hm hb sc_law_right fun cdv A outer s H E hgd hr =>
    (pss_c (psd_asg (pd_v 0) (pgd_tup rfl (pgds_cons (pgd_name (i := 1) sc_law_right.nd) (pgds_cons (pgd_name (i := 2) sc_law_right.nd) (pgds_cons (pgd_name (i := 3) sc_law_right.nd) pgds_nil)))))
    (pss_c (psd_par (i := 4) (j := 5) rfl sc_law_right.nd (pda_cons (pd_call false c_law_places hr (by decide) hgd (pda_cons (pd_v 2) pda_nil)) (pda_cons (pd_call true c_law_ways hr (by decide) hgd (pda_cons (pd_v 2) (pda_cons (pd_callB call_len len_ok T.n_len PySem.boot_len (pda_cons (pd_v 1) pda_nil)) pda_nil))) pda_nil)))
    (pss_c (psd_set (i := 6) sc_law_right.nd (pd_meth0 true M_places (hr.mono (by decide)) hgd (pd_v 3)))
    (pss_c (psd_if (pt_nt (pt_v (pd_call false c_law_alike hr (by decide) hgd (pda_cons (pd_v 6) (pda_cons (pd_v 4) pda_nil))))) (pss_1 (psd_ret pd_bl)) pss_n)
    (pss_c (psd_expr (pd_mt PySem.F.plainAttrs_list PySem.F.slot_list_append PySem.F.type_list_append mt_append append_ok (pd_v 6) (pda_cons pd_str pda_nil)))
    (pss_c (psd_asg (pd_tup (pda_cons pd_int (pda_cons pd_int pda_nil))) (pgd_sub (pd_v 6) pd_int))
    (pss_c (psd_for rfl (passes_of rfl) (pid_seq (pd_v 4)) (pgd_name (i := 7) sc_law_right.nd) (pss_c (psd_set (i := 8) sc_law_right.nd (pd_call false c_law_levels_at hr (by decide) hgd (pda_cons (pd_v 2) (pda_cons (pd_v 7) (pda_cons (pd_callB call_len len_ok T.n_len PySem.boot_len (pda_cons (pd_v 1) pda_nil)) pda_nil)))))
    (pss_c (psd_set (i := 9) sc_law_right.nd (pd_meth0 true M_stretches (hr.mono (by decide)) hgd (pd_meth false M_held (hr.mono (by decide)) hgd (pd_v 3) (pda_cons (pd_v 7) pda_nil))))
    (pss_c (psd_if (pt_nt (pt_v (pd_call false c_law_alike hr (by decide) hgd (pda_cons (pd_v 9) (pda_cons (pd_call false c_law_stretches hr (by decide) hgd (pda_cons (pd_v 1) (pda_cons (pd_v 8) pda_nil))) pda_nil))))) (pss_1 (psd_ret pd_bl)) pss_n)
    (pss_c (psd_expr (pd_mt PySem.F.plainAttrs_list PySem.F.slot_list_append PySem.F.type_list_append mt_append append_ok (pd_v 9) (pda_cons pd_str pda_nil)))
    (pss_1 (psd_for rfl (passes_of rfl) (pid_seq (pd_v 4)) (pgd_name (i := 10) sc_law_right.nd) (pss_c (psd_set (i := 11) sc_law_right.nd (pd_meth false M_in_the_way (hr.mono (by decide)) hgd (pd_v 3) (pda_cons (pd_v 7) (pda_cons (pd_v 10) pda_nil))))
    (pss_1 (psd_if (pt_w (pw_o (pt_nt (pt_v (pd_callB call_isi isi_ok T.n_isinstance PyProof.Rows.boot_isinstance (pda_cons (pd_v 11) (pda_cons (pd_ty T.n_bool PyProof.Rows.boot_bool) pda_nil))))) (pw_o1 (pt_ne hr.units (pd_v 11) (pd_dgN (hu80 hr) (pd_v 5) (pd_tup (pda_cons (pd_v 7) (pda_cons (pd_v 10) pda_nil)))))))) (pss_1 (psd_ret pd_bl)) pss_n))))))))))
    (pss_1 (psd_ret (pd_call true c_law_alike hr (by decide) hgd (pda_cons (pd_meth0 false M_places (hr.mono (by decide)) hgd (pd_v 3)) (pda_cons (pd_v 4) pda_nil))))))))))))
theorem sc_law : FnScope ["_law_script", "_law_bag_here", "_law_cases", "_law_turn"] ["_law_script"] (defScope s_law) :=
  ⟨rfl, rfl, rfl, by decide +kernel, rfl, by decide +kernel, by decide +kernel⟩
noncomputable def f_law_1 : SM :=
    (sIf (tNt (tV (eCall m_law_right false (aC (e2 ixG (eV 2) (e2 (modG) (eV 3) (eC (.int 3)))) aN)))) (sRet (eC (.bl false))) sNx)
noncomputable def b_law : SM :=
    (sSeq (sSet 1 (eCall m_law_bag true (aC (eV 0) aN)))
    (sSeq (sSet 2 (eA (newL false) (aC (eCall m_law_case false (aC (eV 1) aN)) (aC (eCall m_law_case false (aC (eV 1) aN)) (aC (eCall m_law_case false (aC (eV 1) aN)) aN)))))
    (sSeq (sFor (iR1 (aC (eC (.int 6)) aN)) (gNm 3) f_law_1)
    (sRet (eC (.bl true))))))
noncomputable def m_law : FnM := fnM 1 4 b_law
theorem ok_law (T : Txt K mg) {f : Addr} {fd : FuncData} (F : Fun K "law" "law" s_law f fd) (hm : mg "law" = some (.ref f)) (hb : Binds K fd ["_law_script"] []) (c_law_right : CalD P w K mg base 12 "_law_right" m_law_right) (c_law_case : CalD P w K mg base 10 "_law_case" m_law_case) (c_law_bag : CalD P w K mg base 1 "_law_bag" m_law_bag) :
    CalD P w K mg base 13 "law" m_law :=
  calD_of (k := 12) F hm hb sc_law fun cdv A outer s H E hgd hr =>
    (pss_c (psd_set (i := 1) sc_law.nd (pd_call true c_law_bag hr (by decide) hgd (pda_cons (pd_v 0) pda_nil)))
    (pss_c (psd_set (i := 2) sc_law.nd (pd_lst false (pda_cons (pd_call false c_law_case hr (by decide) hgd (pda_cons (pd_v 1) pda_nil)) (pda_cons (pd_call false c_law_case hr (by decide) hgd (pda_cons (pd_v 1) pda_nil)) (pda_cons (pd_call false c_law_case hr (by decide) hgd (pda_cons (pd_v 1) pda_nil)) pda_nil)))))
    (pss_c (psd_for rfl (passes_of rfl) (pid_range1 T.n_range (pda_cons pd_int pda_nil)) (pgd_name (i := 3) sc_law.nd) (pss_1 (psd_if (pt_nt (pt_v (pd_call false c_law_right hr (by decide) hgd (pda_cons (pd_ix (pd_v 2) (pd_mod (pd_v 3) pd_int)) pda_nil)))) (pss_1 (psd_ret pd_bl)) pss_n)))
    (pss_1 (psd_ret pd_bl)))))
end
def oD : Option Int → D
  | none => .non
  | some i => .int i
theorem oD_n : oD none = .non := rfl
theorem oD_s (i : Int) : oD (some i) = .int i := rfl
abbrev spD (s : MA.Span) : D := .tup [.int s.1, oD s.2]
theorem lay_o (l : Option Int) : isP (oD l) = true ∧ (py (oD l)).canLay0 = true ∧ (py (oD l)).depth = 0 := by
  cases l <;> simp [oD, isP, py, PyData.canLay0, PyData.depth]
section
variable {S : Store} (wf : WF S)
include wf
theorem r_isi (x : SV) (t b : String) (r : Bool) (h : (tyN S x).bind (fun a => kin a b) = some r) : isiG [x, .fr (.ty b)] S = .ok (.fr (.bl r), S) := by
  unfold isiG
  simp only [h, okV]
theorem integer_run (i : Int) : m_is_integer [.fr (.int i)] S = .ok (.val (.fr (.bl true)), S) := by
  have e1 : isiG [.fr (.int i), .fr (.ty "int")] S = .ok (.fr (.bl true), S) := r_isi wf _ "int" _ _ rfl
  have e2 : isiG [.fr (.int i), .fr (.ty "bool")] S = .ok (.fr (.bl false), S) := r_isi wf _ "int" _ _ rfl
  simp only [RR, DL.isNon, List.replicate_succ, List.replicate_zero, List.set_cons_zero, List.set_cons_succ, List.getElem?_cons_zero, List.getElem?_cons_succ, Option.map_some, Nat.reduceSub, and_self, and_true, true_and, decide_true, decide_false, if_true, if_false, Bool.false_eq_true, Bool.not_true, Bool.not_false, Nat.reduceAdd, Nat.reduceMul, Nat.reduceLeDiff, m_is_integer, b_is_integer, isvG, isbG, e1, e2, leave_val wf]
theorem byte_run (i : Int) : m_is_byte [.fr (.int i)] S = .ok (.val (.fr (.bl (decide (0 ≤ i)))), S) := by
  simp only [RR, DL.isNon, List.replicate_succ, List.replicate_zero, List.set_cons_zero, List.set_cons_succ, List.getElem?_cons_zero, List.getElem?_cons_succ, Option.map_some, Nat.reduceSub, and_self, and_true, true_and, decide_true, decide_false, if_true, if_false, Bool.false_eq_true, Bool.not_true, Bool.not_false, Nat.reduceAdd, Nat.reduceMul, Nat.reduceLeDiff, m_is_byte, b_is_byte, integer_run wf, leave_val wf]
theorem fault_run {s : MA.Span} (h : MA.Ok s) : m_span_fault [.fr (.int s.1), .fr (oD s.2)] S = .ok (.val (.fr .non), S) := by
  obtain ⟨f, l⟩ := s
  have h0 := h.f0
  cases l with
  | none => simp only [RR, DL.isNon, List.replicate_succ, List.replicate_zero, List.set_cons_zero, List.set_cons_succ, List.getElem?_cons_zero, List.getElem?_cons_succ, Option.map_some, Nat.reduceSub, and_self, and_true, true_and, decide_true, decide_false, if_true, if_false, Bool.false_eq_true, Bool.not_true, Bool.not_false, Nat.reduceAdd, Nat.reduceMul, Nat.reduceLeDiff, m_span_fault, b_span_fault, byte_run wf, h0, oD_n, leave_val wf]
  | some i =>
    have h1 := h.l1 i rfl
    dsimp only at h0 h1
    have h2 : 0 ≤ i := by omega
    simp only [RR, DL.isNon, List.replicate_succ, List.replicate_zero, List.set_cons_zero, List.set_cons_succ, List.getElem?_cons_zero, List.getElem?_cons_succ, Option.map_some, Nat.reduceSub, and_self, and_true, true_and, decide_true, decide_false, if_true, if_false, Bool.false_eq_true, Bool.not_true, Bool.not_false, Nat.reduceAdd, Nat.reduceMul, Nat.reduceLeDiff, m_span_fault, b_span_fault, byte_run wf, h0, h1, h2, oD_s, leave_val wf]
theorem is_span_run {s : MA.Span} (h : MA.Ok s) : m_is_span [.fr (spD s)] S = .ok (.val (.fr (.bl true)), S) := by
  have e1 : isiG [.fr (spD s), .fr (.ty "tuple")] S = .ok (.fr (.bl true), S) := r_isi wf _ "tuple" _ _ rfl
  have e2 : lenG [.fr (spD s)] S = .ok (.fr (.int 2), S) := rfl
  have e3 : decide ((2 : Int) = 2) = true := rfl
  simp only [RR, DL.isNon, List.replicate_succ, List.replicate_zero, List.set_cons_zero, List.set_cons_succ, List.getElem?_cons_zero, List.getElem?_cons_succ, Option.map_some, Nat.reduceSub, and_self, and_true, true_and, decide_true, decide_false, if_true, if_false, Bool.false_eq_true, Bool.not_true, Bool.not_false, Nat.reduceAdd, Nat.reduceMul, Nat.reduceLeDiff, m_is_span, b_is_span, isvG, isbG, e1, e2, e3, fault_run wf h, leave_val wf]
end

theorem leave_new2 {S : Store} {a c : Cell} (h : WF S) (hc : c.below S.length = true) : leave S.length (.cell (S.length + 1)) (S ++ [a] ++ [c]) = .ok (.new c, S) := by
  unfold leave
  have e1 : (S ++ [a] ++ [c]).take S.length = S := by simp
  have e2 : (S ++ [a] ++ [c])[S.length + 1]? = some c := by
    rw [List.getElem?_append_right (by simp)]
    simp
  rw [e1, if_pos (show S.all (Cell.below S.length) = true from h)]
  simp only [e2]
  rw [if_neg (by omega), if_pos hc]
theorem take_is : m_law_take = takeM := rfl
theorem bag_is : m_law_bag = bagM := rfl
theorem wfb (b : Bag) : WF [b.c] := by unfold WF; simp [Bag.c, Cell.below, SV.below]
theorem rng_len (a : Int) (n : Nat) : (rngS a n).length = n := by simp [rngS]
theorem fit_int {n : Nat} {i : Int} (h : i.natAbs < 10 ^ 129) : fit n (.int i) = true := by
  cases n <;> simp [fit, h]
theorem fit_oD {n : Nat} {l : Option Int} (h : ∀ i, l = some i → i.natAbs < 10 ^ 129) : fit n (oD l) = true := by
  cases l with
  | none => cases n <;> simp [fit, oD]
  | some i => exact fit_int (h i rfl)
theorem bulk_oD (l : Option Int) : (py (oD l)).bulk = 0 := by cases l <;> simp only [oD, py, PyData.bulk]
theorem int_bl (S : Store) (r : Bool) : intG [.fr (.bl r)] S = .ok (.fr (.int (if r then 1 else 0)), S) := rfl
section
variable {S : Store} (wf : WF S)
include wf
theorem need_run (i : Int) : m_need [.fr (.int i), .fr (.bl true)] S = .ok (.val (.fr .non), S) := by
  simp only [RR, DL.isNon, List.replicate_succ, List.replicate_zero, List.set_cons_zero, List.set_cons_succ, List.getElem?_cons_zero, List.getElem?_cons_succ, Option.map_some, Nat.reduceSub, and_self, and_true, true_and, decide_true, decide_false, if_true, if_false, Bool.false_eq_true, Bool.not_true, Bool.not_false, Nat.reduceAdd, Nat.reduceMul, Nat.reduceLeDiff, m_need, b_need, leave_val wf]
theorem covers_run (s : MA.Span) (x : Int) : m_covers [.fr (spD s), .fr (.int x)] S = .ok (.val (.fr (.bl (MA.cov s x))), S) := by
  obtain ⟨f, l⟩ := s
  by_cases h : f ≤ x
  · cases l with
    | none => simp only [RR, DL.isNon, List.replicate_succ, List.replicate_zero, List.set_cons_zero, List.set_cons_succ, List.getElem?_cons_zero, List.getElem?_cons_succ, Option.map_some, Nat.reduceSub, and_self, and_true, true_and, decide_true, decide_false, if_true, if_false, Bool.false_eq_true, Bool.not_true, Bool.not_false, Nat.reduceAdd, Nat.reduceMul, Nat.reduceLeDiff, m_covers, b_covers, oD_n, h, leave_val wf, MA.cov, MA.below, Bool.and_self]
    | some i => simp only [RR, DL.isNon, List.replicate_succ, List.replicate_zero, List.set_cons_zero, List.set_cons_succ, List.getElem?_cons_zero, List.getElem?_cons_succ, Option.map_some, Nat.reduceSub, and_self, and_true, true_and, decide_true, decide_false, if_true, if_false, Bool.false_eq_true, Bool.not_true, Bool.not_false, Nat.reduceAdd, Nat.reduceMul, Nat.reduceLeDiff, m_covers, b_covers, oD_s, h, leave_val wf, MA.cov, MA.below, Bool.true_and]
  · simp only [RR, DL.isNon, List.replicate_succ, List.replicate_zero, List.set_cons_zero, List.set_cons_succ, List.getElem?_cons_zero, List.getElem?_cons_succ, Option.map_some, Nat.reduceSub, and_self, and_true, true_and, decide_true, decide_false, if_true, if_false, Bool.false_eq_true, Bool.not_true, Bool.not_false, Nat.reduceAdd, Nat.reduceMul, Nat.reduceLeDiff, m_covers, b_covers, h, leave_val wf, MA.cov, Bool.false_and]
end

abbrev stD (s : MB.St) : D := .tup [.int s.1, .int s.2.1, oD s.2.2]
abbrev stsD (ss : List MB.St) : D := .lst (ss.map stD)
abbrev hdD (ss : List MB.St) : D := .ins "Holding" [("kept", stsD ss)]
abbrev svt (ss : List MB.St) : List SV := ss.map fun s => SV.fr (stD s)
abbrev intsD (ns : List Int) : D := .lst (ns.map D.int)
abbrev svi (ns : List Int) : List SV := ns.map fun i => SV.fr (.int i)
theorem svt_eq (ss : List MB.St) : (ss.map stD).map SV.fr = svt ss := by rw [List.map_map]; rfl
theorem svi_eq (ns : List Int) : (ns.map D.int).map SV.fr = svi ns := by rw [List.map_map]; rfl
theorem svt_snoc (ss : List MB.St) (s : MB.St) : svt (ss ++ [s]) = svt ss ++ [SV.fr (.tup [.int s.1, .int s.2.1, oD s.2.2])] := by simp
theorem svi_snoc (ns : List Int) (i : Int) : svi (ns ++ [i]) = svi ns ++ [SV.fr (.int i)] := by simp
theorem below_svt (n : Nat) (ss : List MB.St) : (Cell.lst (svt ss)).below n = true := by
  simp only [Cell.below]
  rw [← svt_eq]
  exact below_map _ _
theorem below_svi (n : Nat) (ns : List Int) : (Cell.lst (svi ns)).below n = true := by
  simp only [Cell.below]
  rw [← svi_eq]
  exact below_map _ _
theorem frz_svt (ss : List MB.St) : allFr (svt ss) = some (ss.map stD) := by rw [← svt_eq, allFr_map]
theorem frz_svi (ns : List Int) : allFr (svi ns) = some (ns.map D.int) := by rw [← svi_eq, allFr_map]
theorem wf_svt {S : Store} (h : WF S) (ss : List MB.St) : WF (S ++ [.lst (svt ss)]) := h.snoc (below_svt _ _)
theorem wf_svi {S : Store} (h : WF S) (ns : List Int) : WF (S ++ [.lst (svi ns)]) := h.snoc (below_svi _ _)
theorem lay_sts : ∀ ss : List MB.St, isPs (ss.map stD) = true ∧ PyData.canLayAll0 (pys (ss.map stD)) = true ∧ PyData.depthAll (pys (ss.map stD)) ≤ 1
  | [] => by simp [isPs, pys, PyData.canLayAll0, PyData.depthAll]
  | s :: ss => by
    obtain ⟨a, b, c⟩ := lay_sts ss
    obtain ⟨a2, b2, c2⟩ := lay_o s.2.2
    refine ⟨?_, ?_, ?_⟩
    · simp only [List.map_cons, isPs, isP, a, a2, Bool.and_self]
    · simp only [List.map_cons, pys, py, PyData.canLayAll0, PyData.canLay0, b, b2, Bool.and_self]
    · simp only [List.map_cons, pys, py, PyData.depthAll, PyData.depth, c2]
      omega
theorem plain_sts (ss : List MB.St) : DL.plain (stsD ss) = true := by
  obtain ⟨a, b, c⟩ := lay_sts ss
  unfold DL.plain SeqAt.shaped
  simp only [stsD, isP, py, PyData.canLay0, PyData.depth, a, b, Bool.true_and, decide_eq_true_eq]
  omega
section
variable {S : Store} (wf : WF S)
include wf
theorem covers_run' (f : Int) (e : Option Int) (x : Int) : m_covers [.fr (.tup [.int f, oD e]), .fr (.int x)] S = .ok (.val (.fr (.bl (MA.cov (f, e) x))), S) := covers_run wf (f, e) x
theorem level_loop (x : Int) : ∀ (rest : List MB.St) (x0 x2 x3 x4 : Option SV), ∃ fl rho, loopM (fun _ => True) (gTu 3 (gCs (gNm 2) (gCs (gNm 3) (gCs (gNm 4) gNl)))) f_level_in_1 (svt rest) [x0, some (.fr (.int x)), x2, x3, x4] S = .ok (fl, rho, S) ∧
    ((fl = .nx ∧ MB.lev rest x = 0) ∨ fl = .rt (.fr (.int (MB.lev rest x))))
  | [], x0, x2, x3, x4 => ⟨_, _, loop_nil _ _ trivial, .inl ⟨rfl, rfl⟩⟩
  | (l, f, e) :: rest, x0, x2, x3, x4 => by
    simp only [svt, List.map_cons]
    rw [loop_cons _ _ _ trivial]
    by_cases h : MA.cov (f, e) x = true
    · have e1 : MB.lev ((l, f, e) :: rest) x = l := if_pos h
      simp only [RR, DL.isNon, List.replicate_succ, List.replicate_zero, List.set_cons_zero, List.set_cons_succ, List.getElem?_cons_zero, List.getElem?_cons_succ, Option.map_some, Nat.reduceSub, and_self, and_true, true_and, decide_true, decide_false, if_true, if_false, Bool.false_eq_true, Bool.not_true, Bool.not_false, Nat.reduceAdd, Nat.reduceMul, Nat.reduceLeDiff, f_level_in_1, covers_run' wf, h]
      exact ⟨_, _, rfl, .inr (by rw [e1])⟩
    · have e1 : MB.lev ((l, f, e) :: rest) x = MB.lev rest x := if_neg h
      have h' : MA.cov (f, e) x = false := by simpa using h
      simp only [RR, DL.isNon, List.replicate_succ, List.replicate_zero, List.set_cons_zero, List.set_cons_succ, List.getElem?_cons_zero, List.getElem?_cons_succ, Option.map_some, Nat.reduceSub, and_self, and_true, true_and, decide_true, decide_false, if_true, if_false, Bool.false_eq_true, Bool.not_true, Bool.not_false, Nat.reduceAdd, Nat.reduceMul, Nat.reduceLeDiff, f_level_in_1, covers_run' wf, h']
      rw [e1]
      exact level_loop x rest _ _ _ _
theorem level_run (ss : List MB.St) (x : Int) : m_level_in [.fr (stsD ss), .fr (.int x)] S = .ok (.val (.fr (.int (MB.lev ss x))), S) := by
  obtain ⟨fl, rho, e, h⟩ := level_loop wf x ss (some (.fr (stsD ss))) none none none
  rw [← svt_eq] at e
  rcases h with ⟨rfl, h⟩ | rfl
  · simp only [RR, DL.isNon, List.replicate_succ, List.replicate_zero, List.set_cons_zero, List.set_cons_succ, List.getElem?_cons_zero, List.getElem?_cons_succ, Option.map_some, Nat.reduceSub, and_self, and_true, true_and, decide_true, decide_false, if_true, if_false, Bool.false_eq_true, Bool.not_true, Bool.not_false, Nat.reduceAdd, Nat.reduceMul, Nat.reduceLeDiff, m_level_in, b_level_in, e, leave_val wf, h]
  · simp only [RR, DL.isNon, List.replicate_succ, List.replicate_zero, List.set_cons_zero, List.set_cons_succ, List.getElem?_cons_zero, List.getElem?_cons_succ, Option.map_some, Nat.reduceSub, and_self, and_true, true_and, decide_true, decide_false, if_true, if_false, Bool.false_eq_true, Bool.not_true, Bool.not_false, Nat.reduceAdd, Nat.reduceMul, Nat.reduceLeDiff, m_level_in, b_level_in, e, leave_val wf]
omit wf in
theorem bounds_in : ∀ (rest : List MB.St) (acc : List Int) (x0 x2 x3 x4 x5 : Option SV), acc.length + 2 * rest.length ≤ 1000000 →
    ∃ y3 y4 y5, loopM (fun _ => True) (gTu 3 (gCs (gNm 3) (gCs (gNm 4) (gCs (gNm 5) gNl)))) f_bounds_1 (svt rest) [x0, some (.cell S.length), x2, x3, x4, x5] (S ++ [.lst (svi acc)]) = .ok (.nx, [x0, some (.cell S.length), x2, y3, y4, y5], S ++ [.lst (svi (acc ++ MB.ends rest))])
  | [], acc, x0, x2, x3, x4, x5, _ => by
    refine ⟨x3, x4, x5, ?_⟩
    rw [show MB.ends [] = [] from rfl, List.append_nil]
    exact loop_nil _ _ trivial
  | (l, f, e) :: rest, acc, x0, x2, x3, x4, x5, hz => by
    simp only [svt, List.map_cons]
    rw [show (List.map (fun s => SV.fr (stD s)) rest) = svt rest from rfl, loop_cons _ _ _ trivial]
    simp only [List.length_cons] at hz
    have ap := last_app (S := S) (xs := svi acc) (y := .fr (.int f)) (by simp only [svi, List.length_map]; omega)
    have ty := ty_last (S := S) (xs := svi acc)
    have ty2 := ty_last (S := S) (xs := svi acc ++ [.fr (.int f)])
    cases e with
    | none =>
      simp only [RR, DL.isNon, List.replicate_succ, List.replicate_zero, List.set_cons_zero, List.set_cons_succ, List.getElem?_cons_zero, List.getElem?_cons_succ, Option.map_some, Nat.reduceSub, and_self, and_true, true_and, decide_true, decide_false, if_true, if_false, Bool.false_eq_true, Bool.not_true, Bool.not_false, Nat.reduceAdd, Nat.reduceMul, Nat.reduceLeDiff, f_bounds_1, oD_n, ty, ap]
      rw [← svi_snoc]
      obtain ⟨y3, y4, y5, e⟩ := bounds_in rest (acc ++ [f]) x0 x2 (some (.fr (.int l))) (some (.fr (.int f))) (some (.fr .non)) (by simp only [List.length_append, List.length_cons, List.length_nil]; omega)
      rw [show acc ++ [f] ++ MB.ends rest = acc ++ MB.ends ((l, f, none) :: rest) by simp [MB.ends]] at e
      exact ⟨y3, y4, y5, e⟩
    | some i =>
      have ap2 := last_app (S := S) (xs := svi acc ++ [.fr (.int f)]) (y := .fr (.int (i + 1))) (by simp only [svi, List.length_map, List.length_append, List.length_cons, List.length_nil]; omega)
      simp only [RR, DL.isNon, List.replicate_succ, List.replicate_zero, List.set_cons_zero, List.set_cons_succ, List.getElem?_cons_zero, List.getElem?_cons_succ, Option.map_some, Nat.reduceSub, and_self, and_true, true_and, decide_true, decide_false, if_true, if_false, Bool.false_eq_true, Bool.not_true, Bool.not_false, Nat.reduceAdd, Nat.reduceMul, Nat.reduceLeDiff, f_bounds_1, oD_s, ty, ap, ty2, ap2]
      rw [← svi_snoc, ← svi_snoc]
      obtain ⟨y3, y4, y5, e⟩ := bounds_in rest (acc ++ [f] ++ [i + 1]) x0 x2 (some (.fr (.int l))) (some (.fr (.int f))) (some (.fr (.int i))) (by simp only [List.length_append, List.length_cons, List.length_nil]; omega)
      rw [show acc ++ [f] ++ [i + 1] ++ MB.ends rest = acc ++ MB.ends ((l, f, some i) :: rest) by simp [MB.ends]] at e
      exact ⟨y3, y4, y5, e⟩
omit wf in
theorem bounds_out : ∀ (rest : List (List MB.St)) (acc : List Int) (x0 x2 x3 x4 x5 : Option SV), (∀ ss ∈ rest, ss.length ≤ 1000) → acc.length + 2000 * rest.length ≤ 1000000 →
    ∃ y2 y3 y4 y5, loopM (fun _ => True) (gNm 2) f_bounds_2 (rest.map fun ss => SV.fr (stsD ss)) [x0, some (.cell S.length), x2, x3, x4, x5] (S ++ [.lst (svi acc)]) = .ok (.nx, [x0, some (.cell S.length), y2, y3, y4, y5], S ++ [.lst (svi (acc ++ rest.flatMap MB.ends))])
  | [], acc, x0, x2, x3, x4, x5, _, _ => by
    refine ⟨x2, x3, x4, x5, ?_⟩
    rw [List.flatMap_nil, List.append_nil]
    exact loop_nil _ _ trivial
  | ss :: rest, acc, x0, x2, x3, x4, x5, hs, hz => by
    simp only [List.map_cons]
    rw [loop_cons _ _ _ trivial]
    simp only [List.length_cons] at hz
    have l1 := hs ss List.mem_cons_self
    have l2 := MB.ends_len ss
    obtain ⟨y3, y4, y5, e⟩ := bounds_in (S := S) ss acc x0 (some (.fr (stsD ss))) x3 x4 x5 (by omega)
    rw [← svt_eq] at e
    simp only [RR, DL.isNon, List.replicate_succ, List.replicate_zero, List.set_cons_zero, List.set_cons_succ, List.getElem?_cons_zero, List.getElem?_cons_succ, Option.map_some, Nat.reduceSub, and_self, and_true, true_and, decide_true, decide_false, if_true, if_false, Bool.false_eq_true, Bool.not_true, Bool.not_false, Nat.reduceAdd, Nat.reduceMul, Nat.reduceLeDiff, f_bounds_2, e]
    obtain ⟨z2, z3, z4, z5, e2⟩ := bounds_out rest (acc ++ MB.ends ss) x0 (some (.fr (stsD ss))) y3 y4 y5 (fun t ht => hs t (List.mem_cons_of_mem _ ht)) (by rw [List.length_append]; omega)
    rw [List.append_assoc, ← List.flatMap_cons] at e2
    exact ⟨z2, z3, z4, z5, e2⟩
theorem bounds_run {several : List (List MB.St)} (hs : ∀ ss ∈ several, ss.length ≤ 1000) (hn : several.length ≤ 100) (h1 : (several.flatMap MB.ends).length < 3900) (h2 : (MB.bnd several).length < 64) :
    m_bounds [.fr (.lst (several.map stsD))] S = .ok (.new (.lst (svi (MB.bnd several))), S) := by
  obtain ⟨y2, y3, y4, y5, e⟩ := bounds_out (S := S) several [0] (some (.fr (.lst (several.map stsD)))) none none none none hs (by simp only [List.length_cons, List.length_nil]; omega)
  rw [show (several.map fun ss => SV.fr (stsD ss)) = (several.map stsD).map SV.fr by rw [List.map_map]; rfl] at e
  simp only [svi, List.map_cons, List.map_nil] at e
  have sst := s_sstC (S := S ++ [.lst (svi (0 :: several.flatMap MB.ends))]) (k := S.length) (ns := 0 :: several.flatMap MB.ends) (by simp) (by simp only [List.length_cons]; omega) h2
  rw [List.length_append, List.length_singleton] at sst
  rw [show ([0] ++ several.flatMap MB.ends) = 0 :: several.flatMap MB.ends from rfl] at e
  simp only [svi, List.map_cons] at sst e
  simp only [RR, DL.isNon, List.replicate_succ, List.replicate_zero, List.set_cons_zero, List.set_cons_succ, List.getElem?_cons_zero, List.getElem?_cons_succ, Option.map_some, Nat.reduceSub, and_self, and_true, true_and, decide_true, decide_false, if_true, if_false, Bool.false_eq_true, Bool.not_true, Bool.not_false, Nat.reduceAdd, Nat.reduceMul, Nat.reduceLeDiff, m_bounds, b_bounds, e, sst]
  exact leave_new2 wf (below_svi _ _)
end

structure LvS (S : Store) (x : SV) (ls : List Int) : Prop where
  ex : ∃ lk : Store → Prop, (∀ T, lk (S ++ T)) ∧ ∀ T, k_en ([x], S ++ T) = .ok (⟨enF 0 (ls.map D.int), lk⟩, S ++ T)
theorem lvs_fr (S : Store) (ls : List Int) : LvS S (.fr (intsD ls)) ls := ⟨⟨_, fun _ => trivial, fun _ => s_enL _⟩⟩
theorem lvs_cell (R : Store) (ls : List Int) : LvS (R ++ [.lst (svi ls)]) (.cell R.length) ls := by
  have e : ∀ T : Store, (R ++ [.lst (svi ls)] ++ T)[R.length]? = some (.lst ((ls.map D.int).map SV.fr)) := fun T => by
    rw [List.append_assoc, List.getElem?_append_right (Nat.le_refl _), Nat.sub_self, svi_eq]
    rfl
  exact ⟨⟨_, e, fun T => s_enC (e T)⟩⟩
theorem at_mid {α : Type} (pre : List α) (a : α) (r : List α) : atI (pre ++ a :: r) (pre.length : Int) = some a := by
  rw [DL.atI_nat, List.getElem?_append_right (Nat.le_refl _), Nat.sub_self]
  rfl
theorem at_nxt {α : Type} (pre : List α) (a b : α) (r : List α) : atI (pre ++ a :: b :: r) ((pre.length : Int) + 1) = some b := by
  have := at_mid (pre ++ [a]) b r
  rw [List.append_assoc, List.length_append, List.length_singleton] at this
  exact this
theorem atD_mid (pre : List Int) (a : Int) (r : List Int) : atI ((pre ++ a :: r).map D.int) (pre.length : Int) = some (.int a) := by rw [atI_map, at_mid]; rfl
theorem atD_nxt (pre : List Int) (a b : Int) (r : List Int) : atI ((pre ++ a :: b :: r).map D.int) ((pre.length : Int) + 1) = some (.int b) := by rw [atI_map, at_nxt]; rfl
def curSt : Option (Int × Int) → List (Int × Int) → List MB.St
  | none, _ => []
  | some (l, f), rest => [(l, f, MB.lastOf rest)]
def curLv : Option (Int × Int) → Int
  | none => 0
  | some (l, _) => l
section
variable {S : Store} (wf : WF S)
include wf
theorem lastb_run {F pre : List Int} {b : Int} {r : List (Int × Int)} (hF : F = pre ++ b :: r.map Prod.fst) : m_last_before [.fr (intsD F), .fr (.int (pre.length : Nat))] S = .ok (.val (.fr (oD (MB.lastOf r))), S) := by
  cases r with
  | nil =>
    have h : ¬ ((pre.length : Int) + 1 < (F.length : Int)) := by
      rw [hF]; simp only [List.length_append, List.length_cons, List.length_nil, List.map_nil]; omega
    simp only [RR, DL.isNon, List.replicate_succ, List.replicate_zero, List.set_cons_zero, List.set_cons_succ, List.getElem?_cons_zero, List.getElem?_cons_succ, Option.map_some, Nat.reduceSub, and_self, and_true, true_and, decide_true, decide_false, if_true, if_false, Bool.false_eq_true, Bool.not_true, Bool.not_false, Nat.reduceAdd, Nat.reduceMul, Nat.reduceLeDiff, m_last_before, b_last_before, List.length_map, h, leave_val wf, MB.lastOf, oD_n]
  | cons c r =>
    have h : ((pre.length : Int) + 1 < (F.length : Int)) := by
      rw [hF]; simp only [List.length_append, List.length_cons, List.map_cons]; omega
    have hx : atI (F.map D.int) ((pre.length : Int) + 1) = some (.int c.1) := by rw [hF]; exact atD_nxt pre b c.1 _
    simp only [RR, DL.isNon, List.replicate_succ, List.replicate_zero, List.set_cons_zero, List.set_cons_succ, List.getElem?_cons_zero, List.getElem?_cons_succ, Option.map_some, Nat.reduceSub, and_self, and_true, true_and, decide_true, decide_false, if_true, if_false, Bool.false_eq_true, Bool.not_true, Bool.not_false, Nat.reduceAdd, Nat.reduceMul, Nat.reduceLeDiff, m_last_before, b_last_before, List.length_map, h, hx, leave_val wf, MB.lastOf, oD_s]
omit wf in
theorem negone (S : Store) : negG (.fr (.int 1)) S = .ok (.fr (.int (-1)), S) := rfl
def JS (S : Store) (F : List Int) (x : SV) (tgt : List MB.St) (xs : List SV) (rho : Slots) (S' : Store) : Prop :=
  ∃ (pre : List Int) (rest : List (Int × Int)) (cur : Option (Int × Int)) (done : List MB.St) (x4 x5 x6 : Option SV), xs = enF pre.length (rest.map fun e => D.int e.2) ∧ F = pre ++ rest.map Prod.fst ∧
    rho = [some (.fr (intsD F)), some x, some (.cell S.length), some (.fr (.int (curLv cur))), x4, x5, x6] ∧ S' = S ++ [.lst (svt (done ++ curSt cur rest))] ∧ done ++ MB.stGo cur rest = tgt ∧
    (∀ l f, cur = some (l, f) → ¬ l = 0) ∧ done.length + rest.length + 1 ≤ 1000000
theorem st_step (F : List Int) (v : SV) (tgt : List MB.St) (x : SV) (xs : List SV) (rho : Slots) (S' : Store) (h : JS S F v tgt (x :: xs) rho S') :
    Ends ((gTu 2 (gCs (gNm 4) (gCs (gNm 5) gNl)) x rho S').bind (k_body f_stretches_of_1)) fun r => r.1 = .nx ∧ JS S F v tgt xs r.2.1 r.2.2 := by
  obtain ⟨pre, rest, cur, done, x4, x5, x6, e1, hF, rfl, rfl, ht, hc, hz⟩ := h
  cases rest with
  | nil => cases e1
  | cons c r =>
    obtain ⟨b, k⟩ := c
    simp only [List.map_cons, enF, List.cons.injEq] at e1
    obtain ⟨rfl, rfl⟩ := e1
    rw [List.map_cons] at hF
    have lb := lastb_run (wf_svt wf (done ++ curSt cur ((b, k) :: r))) hF
    have hx : atI (F.map D.int) (pre.length : Int) = some (.int b) := by rw [hF]; exact atD_mid pre b _
    have len1 : (pre ++ [b]).length = pre.length + 1 := by simp
    have F1 : F = (pre ++ [b]) ++ r.map Prod.fst := by rw [hF, List.append_assoc]; rfl
    simp only [List.length_cons] at hz
    cases cur with
    | none =>
      simp only [curSt, curLv, List.append_nil] at lb ⊢
      by_cases hk : k = 0
      · subst hk
        simp only [RR, DL.isNon, List.replicate_succ, List.replicate_zero, List.set_cons_zero, List.set_cons_succ, List.getElem?_cons_zero, List.getElem?_cons_succ, Option.map_some, Nat.reduceSub, and_self, and_true, true_and, decide_true, decide_false, if_true, if_false, Bool.false_eq_true, Bool.not_true, Bool.not_false, Nat.reduceAdd, Nat.reduceMul, Nat.reduceLeDiff, f_stretches_of_1, lb, s_ends]
        refine ⟨pre ++ [b], r, none, done, _, _, _, by rw [len1], F1, rfl, by simp only [curSt, List.append_nil], ?_, (fun _ _ e => by cases e), by omega⟩
        rw [← ht]
        conv => rhs; unfold MB.stGo
        rw [if_pos rfl]
      · have ap := last_app (S := S) (xs := svt done) (y := .fr (.tup [.int k, .int b, oD (MB.lastOf r)])) (by simp only [svt, List.length_map]; omega)
        have ty := ty_last (S := S) (xs := svt done)
        simp only [RR, DL.isNon, List.replicate_succ, List.replicate_zero, List.set_cons_zero, List.set_cons_succ, List.getElem?_cons_zero, List.getElem?_cons_succ, Option.map_some, Nat.reduceSub, and_self, and_true, true_and, decide_true, decide_false, if_true, if_false, Bool.false_eq_true, Bool.not_true, Bool.not_false, Nat.reduceAdd, Nat.reduceMul, Nat.reduceLeDiff, f_stretches_of_1, lb, hk, hx, ty, ap, s_ends]
        refine ⟨pre ++ [b], r, some (k, b), done, _, _, _, by rw [len1], F1, rfl, by rw [show curSt (some (k, b)) r = [(k, b, MB.lastOf r)] from rfl, svt_snoc], ?_, (fun _ _ e => by cases e; exact hk), by omega⟩
        rw [← ht]
        conv => rhs; unfold MB.stGo
        rw [if_neg hk]
    | some lf =>
      obtain ⟨l, f⟩ := lf
      have hl := hc l f rfl
      have cs : curSt (some (l, f)) ((b, k) :: r) = [(l, f, some (b - 1))] := rfl
      rw [cs] at lb ⊢
      by_cases hk : k = l
      · subst hk
        rw [svt_snoc] at lb ⊢
        simp only [curLv]
        simp only [RR, DL.isNon, List.replicate_succ, List.replicate_zero, List.set_cons_zero, List.set_cons_succ, List.getElem?_cons_zero, List.getElem?_cons_succ, Option.map_some, Nat.reduceSub, and_self, and_true, true_and, decide_true, decide_false, if_true, if_false, Bool.false_eq_true, Bool.not_true, Bool.not_false, Nat.reduceAdd, Nat.reduceMul, Nat.reduceLeDiff, f_stretches_of_1, lb, hl, negone, s_ends]
        refine ⟨pre ++ [b], r, some (k, f), done, _, _, _, by rw [len1], F1, rfl, by rw [show curSt (some (k, f)) r = [(k, f, MB.lastOf r)] from rfl, svt_snoc], ?_, (fun _ _ e => by cases e; exact hl), by omega⟩
        rw [← ht]
        conv => rhs; unfold MB.stGo
        rw [if_pos rfl]
      · simp only [curLv]
        by_cases h0 : k = 0
        · subst h0
          simp only [RR, DL.isNon, List.replicate_succ, List.replicate_zero, List.set_cons_zero, List.set_cons_succ, List.getElem?_cons_zero, List.getElem?_cons_succ, Option.map_some, Nat.reduceSub, and_self, and_true, true_and, decide_true, decide_false, if_true, if_false, Bool.false_eq_true, Bool.not_true, Bool.not_false, Nat.reduceAdd, Nat.reduceMul, Nat.reduceLeDiff, f_stretches_of_1, lb, s_ends]
          refine ⟨pre ++ [b], r, none, done ++ [(l, f, some (b - 1))], _, _, _, by rw [len1], F1, rfl, by simp only [curSt, List.append_nil], ?_, (fun _ _ e => by cases e), by simp only [List.length_append, List.length_cons, List.length_nil]; omega⟩
          rw [← ht]
          conv => rhs; unfold MB.stGo
          rw [if_neg hk, if_pos rfl, List.append_assoc]
          rfl
        · have ap := last_app (S := S) (xs := svt (done ++ [(l, f, some (b - 1))])) (y := .fr (.tup [.int k, .int b, oD (MB.lastOf r)])) (by simp only [svt, List.length_map, List.length_append, List.length_cons, List.length_nil]; omega)
          have ty := ty_last (S := S) (xs := svt (done ++ [(l, f, some (b - 1))]))
          simp only [RR, DL.isNon, List.replicate_succ, List.replicate_zero, List.set_cons_zero, List.set_cons_succ, List.getElem?_cons_zero, List.getElem?_cons_succ, Option.map_some, Nat.reduceSub, and_self, and_true, true_and, decide_true, decide_false, if_true, if_false, Bool.false_eq_true, Bool.not_true, Bool.not_false, Nat.reduceAdd, Nat.reduceMul, Nat.reduceLeDiff, f_stretches_of_1, lb, hk, h0, hx, ty, ap, s_ends]
          refine ⟨pre ++ [b], r, some (k, b), done ++ [(l, f, some (b - 1))], _, _, _, by rw [len1], F1, rfl, by simp only [curSt, svt, List.map_append, List.map_cons, List.map_nil], ?_, (fun _ _ e => by cases e; exact h0), by simp only [List.length_append, List.length_cons, List.length_nil]; omega⟩
          rw [← ht]
          conv => rhs; unfold MB.stGo
          rw [if_neg hk, if_neg h0, List.append_assoc]
          rfl
theorem stretches_run {ps : List (Int × Int)} {x : SV} (hx : LvS S x (ps.map Prod.snd)) (hz : ps.length ≤ 100000) : m_stretches_of [.fr (intsD (ps.map Prod.fst)), x] S = .ok (.new (.lst (svt (MB.stGo none ps))), S) := by
  obtain ⟨lk, l1, l2⟩ := hx.ex
  have l2' := l2 [.lst []]
  have lp : Ends (loopM lk (gTu 2 (gCs (gNm 4) (gCs (gNm 5) gNl))) f_stretches_of_1 (enF 0 ((ps.map Prod.snd).map D.int)) [some (.fr (intsD (ps.map Prod.fst))), some x, some (.cell S.length), some (.fr (.int 0)), none, none, none] (S ++ [.lst []])) fun r => r.1 = .nx ∧ JS S (ps.map Prod.fst) x (MB.stGo none ps) [] r.2.1 r.2.2 := by
    refine loop_endsL (JS S (ps.map Prod.fst) x (MB.stGo none ps)) (fun xs rho S' h => ?_) (fun y xs rho S' h => st_step wf _ _ _ y xs rho S' h) ?_
    · obtain ⟨_, _, _, _, _, _, _, _, _, _, rfl, _⟩ := h
      exact l1 _
    · exact ⟨[], ps, none, [], _, _, _, by rw [List.map_map]; rfl, rfl, rfl, rfl, rfl, (fun _ _ e => by cases e), by simp only [List.length_nil]; omega⟩
  obtain ⟨⟨fl, rho, S'⟩, e, h1, pre, rest, cur, done, x4, x5, x6, h2, h3, h4, h5, h6, h7, h8⟩ := lp
  dsimp only at h1 h4 h5
  subst h1 h4 h5
  have hr : rest = [] := by cases rest with
    | nil => rfl
    | cons _ _ => cases h2
  subst hr
  have es : done ++ curSt cur [] = MB.stGo none ps := by
    rw [← h6]
    cases cur with
    | none => rfl
    | some lf => rfl
  rw [es] at e
  simp only [RR, DL.isNon, List.replicate_succ, List.replicate_zero, List.set_cons_zero, List.set_cons_succ, List.getElem?_cons_zero, List.getElem?_cons_succ, Option.map_some, Nat.reduceSub, and_self, and_true, true_and, decide_true, decide_false, if_true, if_false, Bool.false_eq_true, Bool.not_true, Bool.not_false, Nat.reduceAdd, Nat.reduceMul, Nat.reduceLeDiff, m_stretches_of, b_stretches_of, l2', e]
  exact leave_new wf (below_svt _ _)
theorem between_run (i : Int) : m_is_between [.fr (.int i), .fr (.int 0), .fr (.int 2)] S = .ok (.val (.fr (.bl (decide (0 ≤ i) && decide (i ≤ 2)))), S) := by
  by_cases h : 0 ≤ i
  · simp only [RR, DL.isNon, List.replicate_succ, List.replicate_zero, List.set_cons_zero, List.set_cons_succ, List.getElem?_cons_zero, List.getElem?_cons_succ, Option.map_some, Nat.reduceSub, and_self, and_true, true_and, decide_true, decide_false, if_true, if_false, Bool.false_eq_true, Bool.not_true, Bool.not_false, Nat.reduceAdd, Nat.reduceMul, Nat.reduceLeDiff, m_is_between, b_is_between, integer_run wf, h, leave_val wf, Bool.true_and]
  · simp only [RR, DL.isNon, List.replicate_succ, List.replicate_zero, List.set_cons_zero, List.set_cons_succ, List.getElem?_cons_zero, List.getElem?_cons_succ, Option.map_some, Nat.reduceSub, and_self, and_true, true_and, decide_true, decide_false, if_true, if_false, Bool.false_eq_true, Bool.not_true, Bool.not_false, Nat.reduceAdd, Nat.reduceMul, Nat.reduceLeDiff, m_is_between, b_is_between, integer_run wf, h, leave_val wf, Bool.false_and]
theorem isst_run {l f : Int} {e : Option Int} (h1 : 1 ≤ l) (h2 : l ≤ 2) (ho : MA.Ok (f, e)) : m_is_stretch [.fr (.tup [.int l, .int f, oD e])] S = .ok (.val (.fr (.bl true)), S) := by
  have e1 : isiG [.fr (.tup [.int l, .int f, oD e]), .fr (.ty "tuple")] S = .ok (.fr (.bl true), S) := r_isi wf _ "tuple" _ _ rfl
  have e2 : lenG [.fr (.tup [.int l, .int f, oD e])] S = .ok (.fr (.int 3), S) := rfl
  have e3 : decide ((3 : Int) = 3) = true := rfl
  have e4 : (0 : Int) ≤ l := by omega
  have e5 : (0 : Int) < l := by omega
  have e6 : cutA [D.int l, D.int f, oD e] (some 1) none = [D.int f, oD e] := rfl
  have e7 := is_span_run wf ho
  simp only [spD] at e7
  simp only [RR, DL.isNon, List.replicate_succ, List.replicate_zero, List.set_cons_zero, List.set_cons_succ, List.getElem?_cons_zero, List.getElem?_cons_succ, Option.map_some, Nat.reduceSub, and_self, and_true, true_and, decide_true, decide_false, if_true, if_false, Bool.false_eq_true, Bool.not_true, Bool.not_false, Nat.reduceAdd, Nat.reduceMul, Nat.reduceLeDiff, m_is_stretch, b_is_stretch, m_is_level, b_is_level, isvG, isbG, e1, e2, e3, between_run wf, e4, h2, e5, e6, e7, leave_val wf, Bool.and_self]
end

def unint : SV → Int
  | .fr (.int i) => i
  | _ => 0
theorem fm_int {β : Type} (f : Int → β) (F : List Int) : (svi F).filterMap (fun v => some (f (unint v))) = F.map f := by
  rw [List.filterMap_eq_map', List.map_map]
  rfl
section
variable {S : Store} (wf : WF S)
include wf
omit wf in
theorem lc_int {gm : GM} {t : TM} {e : EM} {rho : Slots} {own : List Nat} (d : Int → D) (F : List Int) (hz : F.length ≤ 1000000)
    (h : ∀ i ∈ F, ∀ ds : List D, lcT gm t e (.fr (.int i)) (wipeR rho own) (S ++ [.lst (ds.map SV.fr)]) = .ok (some (.fr (d i)), S ++ [.lst (ds.map SV.fr)])) :
    lcM (fun _ => True) gm t e own rho ((F.map D.int).map SV.fr) S [] = .ok ((F.map d).map SV.fr, S) := by
  rw [lc_fm0 (fun v => some (d (unint v))) (fun _ => trivial) _ (by simp only [List.length_map]; omega), svi_eq, fm_int d]
  intro x hx ds
  rw [svi_eq] at hx
  obtain ⟨i, hi, rfl⟩ := List.mem_map.mp hx
  exact h i hi ds
theorem arest_loop : ∀ (ss : List MB.St) (p : Int) (x0 x1 x2 x3 x4 : Option SV), MB.Wf p ss → ∃ y1 y2, loopM (fun _ => True) (gTu 2 (gCs (gNm 1) (gCs (gNm 2) gNl))) f_are_stretches_1 (ziF (ss.map stD) ((ss.map stD).drop 1)) [x0, x1, x2, x3, x4] S = .ok (.nx, [x0, y1, y2, x3, x4], S)
  | [], p, x0, x1, x2, x3, x4, _ => ⟨_, _, loop_nil _ _ trivial⟩
  | [s], p, x0, x1, x2, x3, x4, _ => ⟨_, _, loop_nil _ _ trivial⟩
  | (l, f, none) :: t :: r, p, x0, x1, x2, x3, x4, h => by
    cases h.2.2.2
  | (l, f, some i) :: (m, g, e) :: r, p, x0, x1, x2, x3, x4, h => by
    obtain ⟨h1, h2, h3, h4, h5⟩ := h
    have hg : ¬ g ≤ i := by
      cases e with
      | none => have := h5.2.2.1; omega
      | some j => have := h5.2.2.1; omega
    have e1 : ziF (((l, f, some i) :: (m, g, e) :: r : List MB.St).map stD) ((((l, f, some i) :: (m, g, e) :: r : List MB.St).map stD).drop 1) = SV.fr (.tup [.tup [.int l, .int f, .int i], .tup [.int m, .int g, oD e]]) :: ziF (((m, g, e) :: r : List MB.St).map stD) ((((m, g, e) :: r : List MB.St).map stD).drop 1) := rfl
    rw [e1, loop_cons _ _ _ trivial]
    simp only [RR, DL.isNon, List.replicate_succ, List.replicate_zero, List.set_cons_zero, List.set_cons_succ, List.getElem?_cons_zero, List.getElem?_cons_succ, Option.map_some, Nat.reduceSub, and_self, and_true, true_and, decide_true, decide_false, if_true, if_false, Bool.false_eq_true, Bool.not_true, Bool.not_false, Nat.reduceAdd, Nat.reduceMul, Nat.reduceLeDiff, f_are_stretches_1, hg]
    exact arest_loop ((m, g, e) :: r) (i + 1) _ _ _ _ _ h5
omit wf in
theorem wf_item : ∀ {ss : List MB.St} {p : Int}, 0 ≤ p → MB.Wf p ss → ∀ s ∈ ss, 1 ≤ s.1 ∧ s.1 ≤ 2 ∧ MA.Ok s.2
  | [], _, _, _, s, hs => by cases hs
  | (l, f, none) :: r, p, h0, h, s, hs => by
    obtain ⟨h1, h2, h3, rfl⟩ := h
    rw [List.mem_singleton] at hs
    subst hs
    exact ⟨h1, h2, by show 0 ≤ f; omega, fun i e => by cases e⟩
  | (l, f, some i) :: r, p, h0, h, s, hs => by
    obtain ⟨h1, h2, h3, h4, h5⟩ := h
    rcases List.mem_cons.mp hs with rfl | hs
    · exact ⟨h1, h2, by show 0 ≤ f; omega, fun j e => by cases e; exact h4⟩
    · exact wf_item (by omega) h5 s hs
theorem arest_run {ss : List MB.St} (h : MB.Wf 0 ss) (hz : ss.length ≤ 100000) : m_are_stretches [.fr (stsD ss)] S = .ok (.val (.fr (.bl true)), S) := by
  have e1 : isiG [.fr (stsD ss), .fr (.ty "list")] S = .ok (.fr (.bl true), S) := r_isi wf _ "list" _ _ rfl
  have e2 : lcM (fun _ => True) (gNm 4) tTr (eCall m_is_stretch false (aC (eV 4) aN)) [3, 4] [some (.fr (stsD ss)), none, none, none, none] ((ss.map stD).map SV.fr) S [] = .ok (((ss.map fun _ => true).map D.bl).map SV.fr, S) := by
    rw [lc_fm0 (fun _ => some (.bl true)) (fun _ => trivial) _ (by simp only [List.length_map]; omega)]
    · simp [List.filterMap_map, Function.comp_def]
    · intro x hx ds
      rw [svt_eq] at hx
      obtain ⟨s, hm, rfl⟩ := List.mem_map.mp hx
      obtain ⟨l, f, e⟩ := s
      obtain ⟨q1, q2, q3⟩ := wf_item (Int.le_refl 0) h _ hm
      simp only [RR, DL.isNon, List.replicate_succ, List.replicate_zero, List.set_cons_zero, List.set_cons_succ, List.getElem?_cons_zero, List.getElem?_cons_succ, Option.map_some, Nat.reduceSub, and_self, and_true, true_and, decide_true, decide_false, if_true, if_false, Bool.false_eq_true, Bool.not_true, Bool.not_false, Nat.reduceAdd, Nat.reduceMul, Nat.reduceLeDiff, isst_run (wf_acc wf ds) q1 q2 q3]
  have e3 : ((ss.map fun _ => true).all id) = true := by simp
  obtain ⟨y1, y2, e4⟩ := arest_loop wf ss 0 (some (.fr (stsD ss))) none none none none h
  have e5 : cutA (ss.map stD) (some 1) none = (ss.map stD).drop 1 := by
    rw [show (1 : Int) = ((1 : Nat) : Int) from rfl, cut_from]
  simp only [RR, DL.isNon, List.replicate_succ, List.replicate_zero, List.set_cons_zero, List.set_cons_succ, List.getElem?_cons_zero, List.getElem?_cons_succ, Option.map_some, Nat.reduceSub, and_self, and_true, true_and, decide_true, decide_false, if_true, if_false, Bool.false_eq_true, Bool.not_true, Bool.not_false, Nat.reduceAdd, Nat.reduceMul, Nat.reduceLeDiff, m_are_stretches, b_are_stretches, isvG, isbG, e1, e2, s_lceF wf, all_bls, e3, e5, e4, leave_val wf]
end
structure Wk (F : List Int) (ss : List MB.St) : Prop where
  wf : MB.Wf 0 ss
  inn : ∀ b ∈ MB.ends ss, b ∈ F
theorem hd_wk {F : List Int} {ss : List MB.St} (h : MB.Hd F ss) : Wk F ss := ⟨h.wf, h.inn⟩
structure Few (F : List Int) : Prop where
  z : (0 : Int) ∈ F
  le : F.length < 64
theorem Wk.len {F : List Int} {ss : List MB.St} (h : Wk F ss) : ss.length ≤ F.length := h.wf.len_le h.inn
abbrev can (ss : List MB.St) : List MB.St := MB.mk (MB.bnd [ss]) (MB.lev ss)
theorem can_hd {F : List Int} {ss : List MB.St} (hF : Few F) (h : Wk F ss) : MB.Hd F (can ss) ∧ ∀ x, 0 ≤ x → MB.lev (can ss) x = MB.lev ss x :=
  MB.mk_hd (MB.bnd_fs fun s hs => by rw [List.mem_singleton] at hs; exact hs ▸ h.wf) (MB.bnd_cst (List.mem_singleton.mpr rfl)) h.wf.rng hF.z ((MB.cst_lev ss).mono h.inn)
theorem can_self {F : List Int} {ss : List MB.St} (hF : Few F) (h : MB.Hd F ss) : can ss = ss := (can_hd hF (hd_wk h)).1.ext h (can_hd hF (hd_wk h)).2
theorem ends_few {F : List Int} (hF : Few F) {several : List (List MB.St)} (h : ∀ ss ∈ several, Wk F ss) (hn : several.length ≤ 10) : (several.flatMap MB.ends).length < 3900 := by
  have : ∀ (several : List (List MB.St)), (∀ ss ∈ several, Wk F ss) → (several.flatMap MB.ends).length ≤ 128 * several.length := by
    intro several
    induction several with
    | nil => exact fun _ => Nat.le_refl _
    | cons s r ih =>
      intro h
      have h1 := (h s List.mem_cons_self).len
      have h2 := MB.ends_len s
      have h3 := ih fun t ht => h t (List.mem_cons_of_mem _ ht)
      have h4 := hF.le
      rw [List.flatMap_cons, List.length_append, List.length_cons]
      omega
  have := this several h
  omega
section
variable {S : Store} (wf : WF S) {F : List Int} (hF : Few F)
include wf hF
theorem bnd_run {several : List (List MB.St)} (h : ∀ ss ∈ several, Wk F ss) (hn : several.length ≤ 10) : m_bounds [.fr (.lst (several.map stsD))] S = .ok (.new (.lst (svi (MB.bnd several))), S) :=
  bounds_run wf (fun ss hs => by have := (h ss hs).len; have := hF.le; omega) (by omega) (ends_few hF h hn) (Nat.lt_of_le_of_lt (MB.bnd_len hF.z fun ss hs => (h ss hs).inn) hF.le)
omit wf hF in
theorem mk_map (F : List Int) (g : Int → Int) : (F.map fun b => (b, g b)).map Prod.fst = F ∧ (F.map fun b => (b, g b)).map Prod.snd = F.map g := by
  constructor
  · rw [List.map_map]; exact List.map_id F
  · rw [List.map_map]; rfl
omit hF in
theorem mk_run (G : List Int) (hz : G.length ≤ 100000) (g : Int → Int) : m_stretches_of [.fr (intsD G), .fr (.lst (G.map fun b => D.int (g b)))] S = .ok (.new (.lst (svt (MB.mk G g))), S) := by
  obtain ⟨e1, e2⟩ := mk_map G g
  have e3 : G.map (fun b => D.int (g b)) = (G.map g).map D.int := by rw [List.map_map]; rfl
  have := stretches_run wf (ps := G.map fun b => (b, g b)) (x := .fr (intsD (G.map g))) (by rw [e2]; exact lvs_fr S _) (by rw [List.length_map]; exact hz)
  rw [e1] at this
  rw [e3]
  exact this
theorem hinit_run {ss : List MB.St} (h : Wk F ss) :
    m_Holding___init__ [.cell S.length, .fr (stsD ss)] (S ++ [.ins "Holding" []]) = .ok (.val (.fr .non), S ++ [.ins "Holding" [("kept", .fr (stsD (can ss)))]]) := by
  have w2 : WF (S ++ [.ins "Holding" []]) := wf.snoc rfl
  have w3 : WF (S ++ [.ins "Holding" [("kept", .fr (stsD (can ss)))]]) := wf.snoc rfl
  have lv := leave_val w3 .non
  rw [List.length_append, List.length_singleton] at lv
  have z1 := h.len
  have z2 := hF.le
  have b1 := bnd_run w2 hF (several := [ss]) (fun s hs => by rw [List.mem_singleton] at hs; exact hs ▸ h) (by simp)
  simp only [List.map_cons, List.map_nil] at b1
  have zb : (MB.bnd [ss]).length < 64 := Nat.lt_of_le_of_lt (MB.bnd_len hF.z fun s hs => by rw [List.mem_singleton] at hs; exact hs ▸ h.inn) hF.le
  have e2 : lcM (fun _ => True) (gNm 4) tTr (eCall m_level_in false (aC (eV 1) (aC (eV 4) aN))) [3, 4] [some (.cell S.length), some (.fr (stsD ss)), some (.fr (intsD (MB.bnd [ss]))), none, none] (((MB.bnd [ss]).map D.int).map SV.fr) (S ++ [.ins "Holding" []]) [] = .ok (((MB.bnd [ss]).map fun b => D.int (MB.lev ss b)).map SV.fr, S ++ [.ins "Holding" []]) :=
    lc_int _ _ (by omega) fun i hi ds => by simp only [RR, DL.isNon, List.replicate_succ, List.replicate_zero, List.set_cons_zero, List.set_cons_succ, List.getElem?_cons_zero, List.getElem?_cons_succ, Option.map_some, Nat.reduceSub, and_self, and_true, true_and, decide_true, decide_false, if_true, if_false, Bool.false_eq_true, Bool.not_true, Bool.not_false, Nat.reduceAdd, Nat.reduceMul, Nat.reduceLeDiff, level_run (wf_acc w2 ds)]
  have mr := mk_run w2 (MB.bnd [ss]) (by omega) (MB.lev ss)
  have sf : ∀ rho, k_sfb ["Area", "Holding"] "kept" rho (.fr (stsD (can ss))) (.cell S.length, S ++ [.ins "Holding" []]) = .ok (.nx, rho, S ++ [.ins "Holding" [("kept", .fr (stsD (can ss)))]]) := fun rho => by
    have sf := s_sfb (S := S) (rho := rho) (x := .fr (stsD (can ss))) (ns := ["Area", "Holding"]) (f := "kept") (n := "Holding") (fs := []) ⟨by simp, by simp⟩
    exact sf
  simp only [RR, DL.isNon, List.replicate_succ, List.replicate_zero, List.set_cons_zero, List.set_cons_succ, List.getElem?_cons_zero, List.getElem?_cons_succ, Option.map_some, Nat.reduceSub, and_self, and_true, true_and, decide_true, decide_false, if_true, if_false, Bool.false_eq_true, Bool.not_true, Bool.not_false, Nat.reduceAdd, Nat.reduceMul, Nat.reduceLeDiff, m_Holding___init__, b_Holding___init__, arest_run w2 h.wf (by omega), need_run w2, b1, frz_svi, e2, s_lceF w2, mr, frz_svt, sf]
  rw [List.length_append, List.length_singleton]
  exact lv
omit hF in
theorem hmk (ss : List MB.St) : mkEnd false S.length (.val (.fr .non), S ++ [.ins "Holding" [("kept", .fr (stsD ss))]]) = .ok (.fr (hdD ss), S) := s_mkEnd wf rfl
end
theorem fldH (a : List MB.St) (S : Store) : fldG ["Area", "Holding"] "kept" (.fr (hdD a)) S = .ok (.fr (stsD a), S) := by
  unfold fldG
  simp only [hdD, insOf, List.map_cons, List.map_nil]
  rw [if_pos (by decide)]
  rfl

abbrev invH (a : List MB.St) : List MB.St := MB.mk (MB.bnd [a]) fun x => 2 - MB.lev a x
abbrev ptH (a : List MB.St) (l : Int) (s : MA.Span) : List MB.St := MB.mk (MB.bnd [a, [(l, s)]]) fun x => if MA.cov s x = true then l else MB.lev a x
section
variable {F : List Int} (hF : Few F) {a b : List MB.St} (ha : MB.Hd F a) (hb : MB.Hd F b)
include hF ha
theorem inv_hd : MB.Hd F (invH a) ∧ ∀ x, 0 ≤ x → MB.lev (invH a) x = 2 - MB.lev a x := by
  have c : ∀ G, MB.Cst G (MB.lev a) → MB.Cst G fun x => 2 - MB.lev a x := fun G k x y q n => by dsimp only; rw [k x y q n]
  exact MB.mk_hd (MB.bnd_fs fun s hs => by rw [List.mem_singleton] at hs; exact hs ▸ ha.wf) (c _ (MB.bnd_cst (List.mem_singleton.mpr rfl))) (fun x => by have := ha.rng x; omega) hF.z (c _ ha.cst)
include hb
theorem two_wf : ∀ s ∈ [a, b], MB.Wf 0 s := fun s hs => by
  simp only [List.mem_cons, List.not_mem_nil, or_false] at hs
  rcases hs with rfl | rfl
  · exact ha.wf
  · exact hb.wf
theorem two_wk : ∀ s ∈ [a, b], Wk F s := fun s hs => by
  simp only [List.mem_cons, List.not_mem_nil, or_false] at hs
  rcases hs with rfl | rfl
  · exact hd_wk ha
  · exact hd_wk hb
theorem two_len : (MB.bnd [a, b]).length < 64 := Nat.lt_of_le_of_lt (MB.bnd_len hF.z fun ss hs => (two_wk hF ha hb ss hs).inn) hF.le
end
theorem cov_cst {F : List Int} {f : Int} {e : Option Int} (h1 : f ∈ F) (h2 : ∀ i, e = some i → i + 1 ∈ F) {x y : Int} (q : x ≤ y) (n : ∀ b ∈ F, ¬ (x < b ∧ b ≤ y)) : MA.cov (f, e) x = MA.cov (f, e) y := by
  have n1 := n f h1
  rw [Bool.eq_iff_iff]
  cases e with
  | none => rw [MB.cov_n, MB.cov_n]; omega
  | some i =>
    have n2 := n (i + 1) (h2 i rfl)
    rw [MB.cov_s, MB.cov_s]; omega
section
variable {F : List Int} (hF : Few F) {a : List MB.St} (ha : MB.Hd F a) {l f : Int} {e : Option Int} (hl : 0 ≤ l ∧ l ≤ 2) (ho : MA.Ok (f, e)) (h1 : f ∈ F) (h2 : ∀ i, e = some i → i + 1 ∈ F)
include hF ha ho h1 h2
theorem pt_fs : MB.Fs (MB.bnd [a, [(l, f, e)]]) ∧ (MB.bnd [a, [(l, f, e)]]).length < 64 := by
  have e2 : ∀ b ∈ MB.ends [(l, f, e)], b ∈ F ∧ 0 ≤ b := fun b hb => by
    have f0 := ho.f0
    dsimp only at f0
    cases e with
    | none =>
      simp only [MB.ends, List.mem_cons, List.not_mem_nil, or_false] at hb
      subst hb
      exact ⟨h1, f0⟩
    | some i =>
      have l1 := ho.l1 i rfl
      dsimp only at l1
      simp only [MB.ends, List.mem_cons, List.not_mem_nil, or_false] at hb
      rcases hb with rfl | rfl
      · exact ⟨h1, f0⟩
      · exact ⟨h2 i rfl, by omega⟩
  refine ⟨MB.fs_asc fun b hb => ?_, Nat.lt_of_le_of_lt (MB.bnd_len hF.z fun ss hs b hb => ?_) hF.le⟩
  · obtain ⟨ss, q1, q2⟩ := List.mem_flatMap.mp hb
    simp only [List.mem_cons, List.not_mem_nil, or_false] at q1
    rcases q1 with rfl | rfl
    · exact MB.ends_pos (Int.le_refl _) ha.wf b q2
    · exact (e2 b q2).2
  · simp only [List.mem_cons, List.not_mem_nil, or_false] at hs
    rcases hs with rfl | rfl
    · exact ha.inn b hb
    · exact (e2 b hb).1
include hl
theorem pt_hd : MB.Hd F (ptH a l (f, e)) ∧ ∀ x, 0 ≤ x → MB.lev (ptH a l (f, e)) x = if MA.cov (f, e) x = true then l else MB.lev a x := by
  have c : ∀ G, f ∈ G → (∀ i, e = some i → i + 1 ∈ G) → MB.Cst G (MB.lev a) → MB.Cst G fun x => if MA.cov (f, e) x = true then l else MB.lev a x := fun G g1 g2 k x y q n => by dsimp only; rw [k x y q n, cov_cst g1 g2 q n]
  have m1 : f ∈ MB.ends [(l, f, e)] := by cases e <;> simp [MB.ends]
  have m2 : ∀ i, e = some i → i + 1 ∈ MB.ends [(l, f, e)] := fun i q => by subst q; simp [MB.ends]
  have m3 : ∀ x ∈ MB.ends [(l, f, e)], x ∈ MB.bnd [a, [(l, f, e)]] := fun x hx => DL.asc_mem.mpr (List.mem_cons_of_mem _ (List.mem_flatMap.mpr ⟨_, by simp, hx⟩))
  exact MB.mk_hd (pt_fs hF ha ho h1 h2).1 (c _ (m3 _ m1) (fun i q => m3 _ (m2 i q)) (MB.bnd_cst (by simp))) (fun x => by split; exact hl; exact ha.rng x) hF.z (c _ h1 h2 ha.cst)
end
section
variable {S : Store} (wf : WF S) {F : List Int} (hF : Few F) {a b : List MB.St} (ha : MB.Hd F a) (hb : MB.Hd F b)
include wf hF ha
theorem init_self : m_Holding___init__ [.cell S.length, .fr (stsD a)] (S ++ [.ins "Holding" []]) = .ok (.val (.fr .non), S ++ [.ins "Holding" [("kept", .fr (stsD a))]]) := by
  have := hinit_run wf hF (hd_wk ha)
  rwa [can_self hF ha] at this
theorem hinv_run : m_Holding___invert__ [.fr (hdD a)] S = .ok (.val (.fr (hdD (invH a))), S) := by
  have z2 := hF.le
  have b1 := bnd_run wf hF (several := [a]) (fun s hs => by rw [List.mem_singleton] at hs; exact hs ▸ hd_wk ha) (by simp)
  simp only [List.map_cons, List.map_nil] at b1
  have zb : (MB.bnd [a]).length < 64 := Nat.lt_of_le_of_lt (MB.bnd_len hF.z fun s hs => by rw [List.mem_singleton] at hs; exact hs ▸ ha.inn) hF.le
  have e2 : lcM (fun _ => True) (gNm 3) tTr (e2 subG (eC (.int 2)) (eCall m_level_in false (aC (eFld ["Area", "Holding"] "kept" (eV 0)) (aC (eV 3) aN)))) [2, 3] [some (.fr (hdD a)), some (.fr (intsD (MB.bnd [a]))), none, none] (((MB.bnd [a]).map D.int).map SV.fr) S [] = .ok (((MB.bnd [a]).map fun b => D.int (2 - MB.lev a b)).map SV.fr, S) :=
    lc_int _ _ (by omega) fun i hi ds => by simp only [RR, DL.isNon, List.replicate_succ, List.replicate_zero, List.set_cons_zero, List.set_cons_succ, List.getElem?_cons_zero, List.getElem?_cons_succ, Option.map_some, Nat.reduceSub, and_self, and_true, true_and, decide_true, decide_false, if_true, if_false, Bool.false_eq_true, Bool.not_true, Bool.not_false, Nat.reduceAdd, Nat.reduceMul, Nat.reduceLeDiff, fldH, level_run (wf_acc wf ds)]
  have mr := mk_run wf (MB.bnd [a]) (by omega) fun b => 2 - MB.lev a b
  have ini := init_self wf hF (inv_hd hF ha).1
  simp only [RR, DL.isNon, List.replicate_succ, List.replicate_zero, List.set_cons_zero, List.set_cons_succ, List.getElem?_cons_zero, List.getElem?_cons_succ, Option.map_some, Nat.reduceSub, and_self, and_true, true_and, decide_true, decide_false, if_true, if_false, Bool.false_eq_true, Bool.not_true, Bool.not_false, Nat.reduceAdd, Nat.reduceMul, Nat.reduceLeDiff, m_Holding___invert__, b_Holding___invert__, fldH, b1, frz_svi, e2, s_lceF wf, mr, frz_svt, ini, hmk wf, leave_val wf]
include hb
theorem hwithin_run : m_Holding_within [.fr (hdD a), .fr (hdD b)] S = .ok (.val (.fr (.bl ((MB.bnd [a, b]).all fun x => decide (MB.lev a x ≤ MB.lev b x)))), S) := by
  have b1 := bnd_run wf hF (several := [a, b]) (two_wk hF ha hb) (by simp)
  simp only [List.map_cons, List.map_nil] at b1
  have zb := two_len hF ha hb
  have e2 : lcM (fun _ => True) (gNm 4) tTr (e2 leG (eCall m_level_in false (aC (eFld ["Area", "Holding"] "kept" (eV 0)) (aC (eV 4) aN))) (eCall m_level_in false (aC (eFld ["Area", "Holding"] "kept" (eV 1)) (aC (eV 4) aN)))) [3, 4] [some (.fr (hdD a)), some (.fr (hdD b)), some (.fr (intsD (MB.bnd [a, b]))), none, none] (((MB.bnd [a, b]).map D.int).map SV.fr) S [] = .ok (((MB.bnd [a, b]).map fun x => D.bl (decide (MB.lev a x ≤ MB.lev b x))).map SV.fr, S) :=
    lc_int _ _ (by omega) fun i hi ds => by simp only [RR, DL.isNon, List.replicate_succ, List.replicate_zero, List.set_cons_zero, List.set_cons_succ, List.getElem?_cons_zero, List.getElem?_cons_succ, Option.map_some, Nat.reduceSub, and_self, and_true, true_and, decide_true, decide_false, if_true, if_false, Bool.false_eq_true, Bool.not_true, Bool.not_false, Nat.reduceAdd, Nat.reduceMul, Nat.reduceLeDiff, fldH, level_run (wf_acc wf ds)]
  have e3 : (MB.bnd [a, b]).map (fun x => D.bl (decide (MB.lev a x ≤ MB.lev b x))) = ((MB.bnd [a, b]).map fun x => decide (MB.lev a x ≤ MB.lev b x)).map D.bl := by rw [List.map_map]; rfl
  have e4 : ((MB.bnd [a, b]).map fun x => decide (MB.lev a x ≤ MB.lev b x)).all id = (MB.bnd [a, b]).all fun x => decide (MB.lev a x ≤ MB.lev b x) := by rw [List.all_map]; rfl
  simp only [RR, DL.isNon, List.replicate_succ, List.replicate_zero, List.set_cons_zero, List.set_cons_succ, List.getElem?_cons_zero, List.getElem?_cons_succ, Option.map_some, Nat.reduceSub, and_self, and_true, true_and, decide_true, decide_false, if_true, if_false, Bool.false_eq_true, Bool.not_true, Bool.not_false, Nat.reduceAdd, Nat.reduceMul, Nat.reduceLeDiff, m_Holding_within, b_Holding_within, fldH, b1, frz_svi, e2, s_lceF wf, e3, all_bls, e4, leave_val wf]
end

section
variable {S : Store} {a b : List MB.St}
theorem own1H (f g : FnM) : own1G false [("Area", f), ("Holding", g)] (.fr (hdD a)) S = (noX (g [.fr (hdD a)] S)).bind (back false) := rfl
theorem metH1 (f : FnM) (nm : Str) (h : (nm == "kept") = false) : metOf [("Holding", f)] nm S (.fr (hdD a)) = some f := by
  unfold metOf
  simp only [hdD, insOf, List.map_cons, List.map_nil, List.lookup, h]
  rfl
theorem metH2 (e f : FnM) (nm : Str) (h : (nm == "kept") = false) : metOf [("Area", e), ("Holding", f)] nm S (.fr (hdD a)) = some f := by
  unfold metOf
  simp only [hdD, insOf, List.map_cons, List.map_nil, List.lookup, h]
  rfl
theorem kPaint (cc : Bool) (g : FnM) (m : AM) (rho : Slots) : k_meth cc [("Holding", g)] "painted" m rho (.fr (hdD a), S) = (m rho S).bind (k_methb cc g (.fr (hdD a))) := s_meth (metH1 g "painted" (by decide))
theorem kWithin (cc : Bool) (f g : FnM) (m : AM) (rho : Slots) : k_meth cc [("Area", f), ("Holding", g)] "within" m rho (.fr (hdD a), S) = (m rho S).bind (k_methb cc g (.fr (hdD a))) := s_meth (metH2 f g "within" (by decide))
theorem tup_add (c : Bool) {xs ys : List D} (h : xs.length + ys.length ≤ 1000) : addG c (.fr (.tup xs)) (.fr (.tup ys)) S = .ok (.fr (.tup (xs ++ ys)), S) := by
  have hz := sizeLine_eq
  show (if xs.length + ys.length ≤ sizeLine then okV (.tup (xs ++ ys)) S else .stuck) = _
  rw [if_pos (by omega)]
  rfl
end
section
variable {S : Store} (wf : WF S) {F : List Int} (hF : Few F) {a b : List MB.St} (ha : MB.Hd F a)
include wf
theorem pt_loop (l f : Int) (e : Option Int) (x4 : Option SV) : ∀ (rest acc : List Int) (x6 : Option SV), acc.length + rest.length ≤ 1000000 →
    ∃ y6, loopM (fun _ => True) (gNm 6) f_Holding_painted_1 ((rest.map D.int).map SV.fr) [some (.fr (hdD a)), some (.fr (.int l)), some (.fr (.int f)), some (.fr (oD e)), x4, some (.cell S.length), x6] (S ++ [.lst (svi acc)]) =
      .ok (.nx, [some (.fr (hdD a)), some (.fr (.int l)), some (.fr (.int f)), some (.fr (oD e)), x4, some (.cell S.length), y6], S ++ [.lst (svi (acc ++ rest.map fun x => if MA.cov (f, e) x = true then l else MB.lev a x))])
  | [], acc, x6, _ => by
    refine ⟨x6, ?_⟩
    simp only [List.map_nil, List.append_nil]
    exact loop_nil _ _ trivial
  | i :: rest, acc, x6, hz => by
    simp only [List.map_cons]
    rw [loop_cons _ _ _ trivial]
    simp only [List.length_cons] at hz
    have w2 := wf_svi wf acc
    have ty := ty_last (S := S) (xs := svi acc)
    by_cases h : MA.cov (f, e) i = true
    · have ap := last_app (S := S) (xs := svi acc) (y := .fr (.int l)) (by simp only [svi, List.length_map]; omega)
      simp only [RR, DL.isNon, List.replicate_succ, List.replicate_zero, List.set_cons_zero, List.set_cons_succ, List.getElem?_cons_zero, List.getElem?_cons_succ, Option.map_some, Nat.reduceSub, and_self, and_true, true_and, decide_true, decide_false, if_true, if_false, Bool.false_eq_true, Bool.not_true, Bool.not_false, Nat.reduceAdd, Nat.reduceMul, Nat.reduceLeDiff, f_Holding_painted_1, covers_run' w2, h, ty, ap]
      rw [← svi_snoc]
      obtain ⟨y6, q⟩ := pt_loop l f e x4 rest (acc ++ [l]) (some (.fr (.int i))) (by simp only [List.length_append, List.length_cons, List.length_nil]; omega)
      rw [List.append_assoc, List.singleton_append] at q
      exact ⟨y6, q⟩
    · have h' : MA.cov (f, e) i = false := by simpa using h
      have ap := last_app (S := S) (xs := svi acc) (y := .fr (.int (MB.lev a i))) (by simp only [svi, List.length_map]; omega)
      simp only [RR, DL.isNon, List.replicate_succ, List.replicate_zero, List.set_cons_zero, List.set_cons_succ, List.getElem?_cons_zero, List.getElem?_cons_succ, Option.map_some, Nat.reduceSub, and_self, and_true, true_and, decide_true, decide_false, if_true, if_false, Bool.false_eq_true, Bool.not_true, Bool.not_false, Nat.reduceAdd, Nat.reduceMul, Nat.reduceLeDiff, f_Holding_painted_1, covers_run' w2, h', fldH, level_run w2, ty, ap]
      rw [← svi_snoc]
      obtain ⟨y6, q⟩ := pt_loop l f e x4 rest (acc ++ [MB.lev a i]) (some (.fr (.int i))) (by simp only [List.length_append, List.length_cons, List.length_nil]; omega)
      rw [List.append_assoc, List.singleton_append] at q
      exact ⟨y6, q⟩
include hF ha
theorem paint_run {l f : Int} {e : Option Int} (hl : 0 ≤ l ∧ l ≤ 2) (ho : MA.Ok (f, e)) (h1 : f ∈ F) (h2 : ∀ i, e = some i → i + 1 ∈ F) :
    m_Holding_painted [.fr (hdD a), .fr (.int l), .fr (.int f), .fr (oD e)] S = .ok (.val (.fr (hdD (ptH a l (f, e)))), S) := by
  have q := pt_fs hF ha (l := l) ho h1 h2
  have z1 := ha.len
  have z2 := hF.le
  have b1 := bounds_run wf (several := [a, [(l, f, e)]]) (fun ss hs => by
    simp only [List.mem_cons, List.not_mem_nil, or_false] at hs
    rcases hs with rfl | rfl
    · omega
    · simp) (by simp) (by
      have e1 := MB.ends_len a
      have e2 := MB.ends_len [(l, f, e)]
      simp only [List.length_cons, List.length_nil] at e2
      rw [List.flatMap_cons, List.flatMap_cons, List.flatMap_nil, List.length_append, List.append_nil]
      omega) q.2
  have b1 : m_bounds [.fr (.lst [stsD a, .lst [.tup [.int l, .int f, oD e]]])] S = .ok (.new (.lst (svi (MB.bnd [a, [(l, f, e)]]))), S) := b1
  have zb := q.2
  obtain ⟨y6, pl⟩ := pt_loop (S := S) wf (a := a) l f e (some (.fr (intsD (MB.bnd [a, [(l, f, e)]])))) (MB.bnd [a, [(l, f, e)]]) [] none (by simp only [List.length_nil]; omega)
  rw [List.nil_append, show svi [] = [] from rfl] at pl
  have em := mk_map (MB.bnd [a, [(l, f, e)]]) fun x => if MA.cov (f, e) x = true then l else MB.lev a x
  have w2 := wf_svi wf ((MB.bnd [a, [(l, f, e)]]).map fun x => if MA.cov (f, e) x = true then l else MB.lev a x)
  have sr := stretches_run w2 (ps := (MB.bnd [a, [(l, f, e)]]).map fun x => (x, if MA.cov (f, e) x = true then l else MB.lev a x)) (x := .cell S.length) (by rw [em.2]; exact lvs_cell S _) (by rw [List.length_map]; omega)
  rw [em.1, show MB.stGo none ((MB.bnd [a, [(l, f, e)]]).map fun x => (x, if MA.cov (f, e) x = true then l else MB.lev a x)) = ptH a l (f, e) from rfl] at sr
  have ini := init_self w2 hF (pt_hd hF ha hl ho h1 h2).1
  have hm := hmk w2 (ptH a l (f, e))
  have lm := leave_more (T := [.lst (svi ((MB.bnd [a, [(l, f, e)]]).map fun x => if MA.cov (f, e) x = true then l else MB.lev a x))]) wf (hdD (ptH a l (f, e)))
  simp only [RR, DL.isNon, List.replicate_succ, List.replicate_zero, List.set_cons_zero, List.set_cons_succ, List.getElem?_cons_zero, List.getElem?_cons_succ, Option.map_some, Nat.reduceSub, and_self, and_true, true_and, decide_true, decide_false, if_true, if_false, Bool.false_eq_true, Bool.not_true, Bool.not_false, Nat.reduceAdd, Nat.reduceMul, Nat.reduceLeDiff, m_Holding_painted, b_Holding_painted, fldH, b1, frz_svi, pl, sr, frz_svt, ini, hm, lm]
end

theorem app_at {S : Store} {k : Nat} {xs : List SV} {y : SV} (h : S[k]? = some (.lst xs)) (hl : xs.length < 16777216) : appendG (.cell k) [y] S = .ok (.fr .non, S.set k (.lst (xs ++ [y]))) := by
  unfold appendG DL.cellOf
  have hz := sizeLine_eq
  simp only [h, hz, if_pos hl]
  rfl
theorem ty_at {S : Store} {k : Nat} {xs : List SV} (h : S[k]? = some (.lst xs)) : tyS "list" S (.cell k) = true := by
  unfold tyS
  simp [rdL, h]
section
variable {c d c' d' e : Cell} {R : Store}
theorem g2a : (e :: (R ++ [c, d]))[R.length + 1]? = some c := by simp
theorem g2b : (e :: (R ++ [c, d]))[R.length + 1 + 1]? = some d := by simp [List.getElem?_append_right]
theorem s2a : (e :: (R ++ [c, d])).set (R.length + 1) c' = e :: (R ++ [c', d]) := by simp
theorem s2b : (e :: (R ++ [c, d])).set (R.length + 1 + 1) d' = e :: (R ++ [c, d']) := by simp
theorem g1a : (e :: (R ++ [c]))[R.length + 1]? = some c := by simp
theorem s1a : (e :: (R ++ [c])).set (R.length + 1) c' = e :: (R ++ [c']) := by simp
theorem leave_c2 {b : Bag} (h : WF (b.c :: R)) (hc : d.below (R.length + 1) = true) : leave (R.length + 1) (.cell (R.length + 1 + 1)) (b.c :: (R ++ [c, d])) = .ok (.new d, b.c :: R) := by
  have := leave_new2 (S := b.c :: R) (a := c) (c := d) h hc
  rw [List.append_assoc] at this
  exact this
theorem wf2 {b : Bag} (h : WF (b.c :: R)) (hc : c.below 0 = true) (hd : d.below 0 = true) : WF (b.c :: (R ++ [c, d])) := by
  have h1 : WF (b.c :: R ++ [c]) := h.snoc (Cell.below_mono (Nat.zero_le _) hc)
  have h2 : WF (b.c :: R ++ [c] ++ [d]) := h1.snoc (Cell.below_mono (Nat.zero_le _) hd)
  rw [List.append_assoc] at h2
  exact h2
end
def sums (c : Int) : List Int → List Int
  | [] => [c]
  | z :: zs => c :: sums (c + z) zs
theorem sums_len : ∀ (zs : List Int) (c : Int), (sums c zs).length = zs.length + 1
  | [], _ => rfl
  | z :: zs, c => by simp only [sums, List.length_cons, sums_len zs (c + z)]
theorem sums_ok : ∀ (zs : List Int) (c : Int), (∀ z ∈ zs, 1 ≤ z ∧ z ≤ 2000000000000) → (∃ r, sums c zs = c :: r) ∧ (sums c zs).Pairwise (· < ·) ∧ ∀ x ∈ sums c zs, c ≤ x ∧ x ≤ c + 2000000000000 * (zs.length : Int)
  | [], c, _ => ⟨⟨[], rfl⟩, by simp [sums], fun x hx => by simp only [sums, List.mem_singleton] at hx; subst hx; simp⟩
  | z :: zs, c, h => by
    obtain ⟨z1, z2⟩ := h z List.mem_cons_self
    obtain ⟨_, q2, q3⟩ := sums_ok zs (c + z) fun y hy => h y (List.mem_cons_of_mem _ hy)
    refine ⟨⟨_, rfl⟩, List.pairwise_cons.mpr ⟨fun x hx => by have := (q3 x hx).1; omega, q2⟩, fun x hx => ?_⟩
    rcases List.mem_cons.mp hx with rfl | hx
    · simp only [List.length_cons]; omega
    · have := q3 x hx
      simp only [List.length_cons]; omega
def JC1 (R : Store) (N : Nat) (xs : List SV) (rho : Slots) (S' : Store) : Prop :=
  ∃ (b : Bag) (zs : List Int) (x1 x4 : Option SV), b.Ok ∧ WF (b.c :: R) ∧ rho = [some (.cell 0), x1, some (.cell (R.length + 1)), some (.cell (R.length + 1 + 1)), x4] ∧ S' = b.c :: (R ++ [.lst (svi zs), .lst [.fr (.int 0)]]) ∧ (∀ z ∈ zs, 1 ≤ z ∧ z ≤ 2000000000000) ∧ zs.length + xs.length = N
theorem cut_step (R : Store) (N : Nat) (hN : N ≤ 1000) (x : SV) (xs : List SV) (rho : Slots) (S' : Store) (h : JC1 R N (x :: xs) rho S') : Ends ((gNm 4 x rho S').bind (k_body f_law_cuts_2)) fun r => r.1 = .nx ∧ JC1 R N xs r.2.1 r.2.2 := by
  obtain ⟨b, zs, x1, x4, hb, w, rfl, rfl, hz, hl⟩ := h
  have W : ∀ b' : Bag, WF (b'.c :: (R ++ [.lst (svi zs), .lst [.fr (.int 0)]])) := fun b' => wf2 (WF.bag w) (below_svi _ _) rfl
  have p1 : CPow 10 12 := by decide
  have p2 : CPow 10 6 := by decide
  have g1 : (10 : Int) ^ (12 : Int).toNat = 1000000000000 := rfl
  have g2 : (10 : Int) ^ (6 : Int).toNat = 1000000 := rfl
  obtain ⟨v1, b1, l1, u1, k1, w1, e1⟩ := take_run b hb 9 (by decide) (by decide) _ (W b)
  obtain ⟨v2, b2, l2, u2, k2, w2, e2⟩ := take_run b1 k1 1000000 (by decide) (by decide) _ w1
  obtain ⟨v3, b3, l3, u3, k3, w3, e3⟩ := take_run b2 k2 5 (by decide) (by decide) _ w2
  obtain ⟨y, hy, hy0, hy1⟩ : ∃ y : Int, atI [D.int 1, D.int 1, D.int 2, D.int (1 + v1), D.int (1000000000000 + v2)] v3 = some (.int y) ∧ 1 ≤ y ∧ y ≤ 2000000000000 := by
    rcases (show v3 = 0 ∨ v3 = 1 ∨ v3 = 2 ∨ v3 = 3 ∨ v3 = 4 by omega) with rfl | rfl | rfl | rfl | rfl
    · exact ⟨_, at_0 _ _, by omega, by omega⟩
    · exact ⟨_, at_1 _ _ _, by omega, by omega⟩
    · exact ⟨_, at_2 _ _ _ _, by omega, by omega⟩
    · exact ⟨_, at_3 _ _ _ _ _, by omega, by omega⟩
    · exact ⟨_, at_4 _ _ _ _ _ _, by omega, by omega⟩
  have ty := ty_at (g2a (e := b.c) (R := R) (c := .lst (svi zs)) (d := .lst [.fr (.int 0)]))
  have ap := app_at (y := .fr (.int y)) (g2a (e := b3.c) (R := R) (c := .lst (svi zs)) (d := .lst [.fr (.int 0)])) (by simp only [svi, List.length_map, List.length_cons] at hl ⊢; omega)
  rw [s2a] at ap
  simp only [RR, DL.isNon, List.replicate_succ, List.replicate_zero, List.set_cons_zero, List.set_cons_succ, List.getElem?_cons_zero, List.getElem?_cons_succ, Option.map_some, Nat.reduceSub, and_self, and_true, true_and, decide_true, decide_false, if_true, if_false, Bool.false_eq_true, Bool.not_true, Bool.not_false, Nat.reduceAdd, Nat.reduceMul, Nat.reduceLeDiff, f_law_cuts_2, take_is, p1, p2, g1, g2, e1, e2, e3, hy, ty, ap, s_ends]
  refine ⟨b3, zs ++ [y], _, _, k3, WF.bag w, rfl, by rw [svi_snoc], fun z q => ?_, by simp only [List.length_append, List.length_cons, List.length_nil] at hl ⊢; omega⟩
  rcases List.mem_append.mp q with q | q
  · exact hz z q
  · rw [List.mem_singleton] at q
    subst q
    exact ⟨hy0, hy1⟩
def JC2 (b : Bag) (R : Store) (zs : List Int) (xs : List SV) (rho : Slots) (S' : Store) : Prop :=
  ∃ (rest done : List Int) (c : Int) (x1 x4 : Option SV), xs = svi rest ∧ rho = [some (.cell 0), x1, some (.cell (R.length + 1)), some (.cell (R.length + 1 + 1)), x4] ∧ S' = b.c :: (R ++ [.lst (svi zs), .lst (svi (done ++ [c]))]) ∧ done ++ sums c rest = sums 0 zs ∧ done.length + rest.length ≤ 1000
theorem last_i (b : Bag) (R : Store) (z : Cell) (done : List Int) (c : Int) : ixG (.cell (R.length + 1 + 1)) (.fr (.int (-1))) (b.c :: (R ++ [z, .lst (svi (done ++ [c]))])) = .ok (.fr (.int c), b.c :: (R ++ [z, .lst (svi (done ++ [c]))])) := by
  rw [r_xC g2b, svi_snoc, at_m1]
  rfl
theorem cut2_step (b : Bag) (R : Store) (zs : List Int) (x : SV) (xs : List SV) (rho : Slots) (S' : Store) (h : JC2 b R zs (x :: xs) rho S') : Ends ((gNm 1 x rho S').bind (k_body f_law_cuts_1)) fun r => r.1 = .nx ∧ JC2 b R zs xs r.2.1 r.2.2 := by
  obtain ⟨rest, done, c, x1, x4, e1, rfl, rfl, ht, hz⟩ := h
  cases rest with
  | nil => cases e1
  | cons z rest =>
    simp only [svi, List.map_cons, List.cons.injEq] at e1
    obtain ⟨rfl, rfl⟩ := e1
    simp only [List.length_cons] at hz
    have ty := ty_at (g2b (e := b.c) (R := R) (c := .lst (svi zs)) (d := .lst (svi (done ++ [c]))))
    have ap := app_at (y := .fr (.int (c + z))) (g2b (e := b.c) (R := R) (c := .lst (svi zs)) (d := .lst (svi (done ++ [c])))) (by simp only [svi, List.length_map, List.length_append, List.length_cons, List.length_nil]; omega)
    rw [s2b] at ap
    have li := last_i b R (.lst (svi zs)) done c
    simp only [RR, DL.isNon, List.replicate_succ, List.replicate_zero, List.set_cons_zero, List.set_cons_succ, List.getElem?_cons_zero, List.getElem?_cons_succ, Option.map_some, Nat.reduceSub, and_self, and_true, true_and, decide_true, decide_false, if_true, if_false, Bool.false_eq_true, Bool.not_true, Bool.not_false, Nat.reduceAdd, Nat.reduceMul, Nat.reduceLeDiff, f_law_cuts_1, negone, li, ty, ap, s_ends]
    refine ⟨rest, done ++ [c], c + z, _, _, rfl, rfl, by rw [← svi_snoc], ?_, by simp only [List.length_append, List.length_cons, List.length_nil]; omega⟩
    rw [← ht, List.append_assoc]
    rfl
structure Cuts (n : Nat) (cs : List Int) : Prop where
  fs : MB.Fs cs
  len : cs.length = n
  le : ∀ c ∈ cs, c ≤ 200000000000000
theorem cuts_run (b : Bag) (hb : b.Ok) (R : Store) (w : WF (b.c :: R)) {n : Int} (hn : 1 ≤ n ∧ n ≤ 40) : ∃ cs b', Bag.Ok b' ∧ WF (b'.c :: R) ∧ Cuts n.toNat cs ∧ m_law_cuts [.cell 0, .fr (.int n)] (b.c :: R) = .ok (.new (.lst (svi cs)), b'.c :: R) := by
  have lp : Ends (loopM (fun _ => True) (gNm 4) f_law_cuts_2 (rngS 0 (n - 1).toNat) [some (.cell 0), some (.fr (.int n)), some (.cell (R.length + 1)), some (.cell (R.length + 1 + 1)), none] (b.c :: (R ++ [.lst [], .lst [.fr (.int 0)]]))) fun r => r.1 = .nx ∧ JC1 R (n - 1).toNat [] r.2.1 r.2.2 := by
    refine loop_ends (JC1 R (n - 1).toNat) (fun x xs rho S' h => cut_step R _ (by omega) x xs rho S' h) ⟨b, [], _, _, hb, w, rfl, rfl, (fun z hz => by cases hz), ?_⟩
    rw [rng_len, List.length_nil, Nat.zero_add]
  obtain ⟨⟨fl, rho, S'⟩, e, h1, b2, zs, x1, x4, k2, w2, h2, h3, h4, h5⟩ := lp
  dsimp only at h1 h2 h3
  subst h1 h2 h3
  simp only [List.length_nil, Nat.add_zero] at h5
  have lp2 : Ends (loopM (fun S' => S'[R.length + 1]? = some (.lst (svi zs))) (gNm 1) f_law_cuts_1 (svi zs) [some (.cell 0), x1, some (.cell (R.length + 1)), some (.cell (R.length + 1 + 1)), x4] (b2.c :: (R ++ [.lst (svi zs), .lst [.fr (.int 0)]]))) fun r => r.1 = .nx ∧ JC2 b2 R zs [] r.2.1 r.2.2 := by
    refine loop_endsL (JC2 b2 R zs) (fun xs rho S h => ?_) (cut2_step b2 R zs) ⟨zs, [], 0, _, _, rfl, rfl, rfl, rfl, by simp only [List.length_nil]; omega⟩
    obtain ⟨_, _, _, _, _, _, _, rfl, _⟩ := h
    exact g2a
  obtain ⟨⟨fl, rho, S'⟩, e2, h1, rest, done, c, y1, y4, q1, q2, q3, q4, q5⟩ := lp2
  dsimp only at h1 q2 q3
  subst h1 q2 q3
  have hr : rest = [] := by cases rest with
    | nil => rfl
    | cons _ _ => cases q1
  subst hr
  obtain ⟨s1, s2, s3⟩ := sums_ok zs 0 h4
  rw [show done ++ [c] = sums 0 zs from q4] at e2
  refine ⟨sums 0 zs, b2, k2, w2, ⟨⟨s1, s2⟩, by rw [sums_len]; omega, fun x hx => by have := (s3 x hx).2; omega⟩, ?_⟩
  have sq : k_sq (.cell (R.length + 1), b2.c :: (R ++ [.lst (svi zs), .lst [.fr (.int 0)]])) = .ok (⟨svi zs, fun S' => S'[R.length + 1]? = some (.lst (svi zs))⟩, b2.c :: (R ++ [.lst (svi zs), .lst [.fr (.int 0)]])) := s_sqC g2a
  simp only [RR, DL.isNon, List.replicate_succ, List.replicate_zero, List.set_cons_zero, List.set_cons_succ, List.getElem?_cons_zero, List.getElem?_cons_succ, Option.map_some, Nat.reduceSub, and_self, and_true, true_and, decide_true, decide_false, if_true, if_false, Bool.false_eq_true, Bool.not_true, Bool.not_false, Nat.reduceAdd, Nat.reduceMul, Nat.reduceLeDiff, m_law_cuts, b_law_cuts, List.length_cons, List.length_nil, List.length_append, List.cons_append, List.append_assoc, List.nil_append, Nat.zero_add, s_r1 (show -(2 ^ 62) ≤ n - 1 ∧ n - 1 < 2 ^ 62 by omega), e, sq, e2]
  exact leave_c2 w2 (below_svi _ _)
def Lv2 (ls : List Int) : Prop := ∀ l ∈ ls, 0 ≤ l ∧ l ≤ 2
theorem zip_fst : ∀ {cs ls : List Int}, ls.length = cs.length → (cs.zip ls).map Prod.fst = cs
  | [], _, _ => by simp
  | c :: cs, [], h => by simp at h
  | c :: cs, l :: ls, h => by simp only [List.zip_cons_cons, List.map_cons, zip_fst (cs := cs) (ls := ls) (by simpa using h)]
theorem zip_snd : ∀ {cs ls : List Int}, ls.length = cs.length → (cs.zip ls).map Prod.snd = ls
  | [], [], _ => rfl
  | [], _ :: _, h => by simp at h
  | c :: cs, [], h => by simp at h
  | c :: cs, l :: ls, h => by simp only [List.zip_cons_cons, List.map_cons, zip_snd (cs := cs) (ls := ls) (by simpa using h)]
def lastAt (cs : List Int) (j : Nat) : Option Int := cs[j + 1]?.map fun c => c - 1
section
variable {S : Store} (wf : WF S)
include wf
theorem span_run {cs : List Int} {i j : Nat} {c : Int} (hi : cs[i]? = some c) : m_law_span [.fr (intsD cs), .fr (.int (i : Nat)), .fr (.int (j : Nat))] S = .ok (.val (.fr (.tup [.int c, oD (lastAt cs j)])), S) := by
  have hx : atI (cs.map D.int) (i : Int) = some (.int c) := by rw [DL.atI_nat, List.getElem?_map, hi]; rfl
  cases h : cs[j + 1]? with
  | none =>
    have h2 : ¬ ((j : Int) + 1 < (cs.length : Int)) := by
      have := List.getElem?_eq_none_iff.mp h
      omega
    simp only [RR, DL.isNon, List.replicate_succ, List.replicate_zero, List.set_cons_zero, List.set_cons_succ, List.getElem?_cons_zero, List.getElem?_cons_succ, Option.map_some, Nat.reduceSub, and_self, and_true, true_and, decide_true, decide_false, if_true, if_false, Bool.false_eq_true, Bool.not_true, Bool.not_false, Nat.reduceAdd, Nat.reduceMul, Nat.reduceLeDiff, m_law_span, b_law_span, hx, List.length_map, h2, leave_val wf, lastAt, h, Option.map_none, oD_n]
  | some d =>
    have h2 : ((j : Int) + 1 < (cs.length : Int)) := by
      have := (List.getElem?_eq_some_iff.mp h).1
      omega
    have hx2 : atI (cs.map D.int) ((j : Int) + 1) = some (.int d) := by
      rw [show ((j : Int) + 1) = ((j + 1 : Nat) : Int) by omega, DL.atI_nat, List.getElem?_map, h]; rfl
    simp only [RR, DL.isNon, List.replicate_succ, List.replicate_zero, List.set_cons_zero, List.set_cons_succ, List.getElem?_cons_zero, List.getElem?_cons_succ, Option.map_some, Nat.reduceSub, and_self, and_true, true_and, decide_true, decide_false, if_true, if_false, Bool.false_eq_true, Bool.not_true, Bool.not_false, Nat.reduceAdd, Nat.reduceMul, Nat.reduceLeDiff, m_law_span, b_law_span, hx, hx2, List.length_map, h2, leave_val wf, lastAt, h, oD_s]
omit wf in
theorem rng_cons (a : Int) (n : Nat) : rngS a (n + 1) = .fr (.int a) :: rngS (a + 1) n := by
  unfold rngS
  rw [List.range_succ_eq_map, List.map_cons, List.map_map]
  congr 1
  · simp
  · refine List.map_congr_left fun i _ => ?_
    simp only [Function.comp_apply]
    congr 2
    omega
omit wf in
theorem ne_nilT (n : Bool) (ss : List MB.St) : eqG n (.cell S.length) (.fr (.lst [])) (S ++ [.lst (svt ss)]) = .ok (.fr (.bl (if n then !ss.isEmpty else ss.isEmpty)), S ++ [.lst (svt ss)]) := by
  have := eq_nilL (S := S) n (plain_sts ss)
  rw [svt_eq, List.isEmpty_map] at this
  exact this
def LJ (S : Store) (cs ls : List Int) (tgt : List MB.St) (xs : List SV) (rho : Slots) (S' : Store) : Prop :=
  ∃ (pre rest : List (Int × Int)) (cur : Option (Int × Int)) (done : List MB.St) (x3 : Option SV), xs = rngS (pre.length : Int) rest.length ∧ cs = pre.map Prod.fst ++ rest.map Prod.fst ∧ ls = pre.map Prod.snd ++ rest.map Prod.snd ∧
    rho = [some (.fr (intsD cs)), some (.fr (intsD ls)), some (.cell S.length), x3] ∧ S' = S ++ [.lst (svt (done ++ curSt cur rest))] ∧ done ++ MB.stGo cur rest = tgt ∧
    (∀ l f, cur = some (l, f) → 0 < l) ∧ (∀ c p, pre = p ++ [c] → c.2 = curLv cur) ∧ (pre = [] → cur = none) ∧ (∀ e ∈ rest, 0 ≤ e.2) ∧ done.length + rest.length + 1 ≤ 100000
theorem ls_step (cs ls : List Int) (tgt : List MB.St) (x : SV) (xs : List SV) (rho : Slots) (S' : Store) (h : LJ S cs ls tgt (x :: xs) rho S') : Ends ((gNm 3 x rho S').bind (k_body f_law_stretches_1)) fun r => r.1 = .nx ∧ LJ S cs ls tgt xs r.2.1 r.2.2 := by
  obtain ⟨pre, rest, cur, done, x3, e1, hcs, hls, rfl, rfl, ht, hc, hp, hn, h0, hz⟩ := h
  cases rest with
  | nil => cases e1
  | cons c r =>
    obtain ⟨b, k⟩ := c
    rw [List.length_cons, rng_cons] at e1
    simp only [List.cons.injEq] at e1
    obtain ⟨rfl, rfl⟩ := e1
    have k0 := h0 (b, k) List.mem_cons_self
    dsimp only at k0
    simp only [List.map_cons] at hcs hls
    simp only [List.length_cons] at hz
    have pl : (pre.map Prod.fst).length = pre.length := List.length_map _
    have pl2 : (pre.map Prod.snd).length = pre.length := List.length_map _
    have hci : cs[pre.length]? = some b := by rw [hcs, List.getElem?_append_right (by omega), pl, Nat.sub_self]; rfl
    have hx : atI (cs.map D.int) (pre.length : Int) = some (.int b) := by rw [DL.atI_nat, List.getElem?_map, hci]; rfl
    have hk : atI (ls.map D.int) (pre.length : Int) = some (.int k) := by rw [DL.atI_nat, List.getElem?_map, hls, List.getElem?_append_right (by omega), pl2, Nat.sub_self]; rfl
    have hla : lastAt cs pre.length = MB.lastOf r := by
      unfold lastAt
      rw [hcs, List.getElem?_append_right (by omega), pl, show pre.length + 1 - pre.length = 0 + 1 by omega, List.getElem?_cons_succ]
      cases r with
      | nil => rfl
      | cons e r => rfl
    have sp := span_run (wf_svt wf (done ++ curSt cur ((b, k) :: r))) (j := pre.length) hci
    rw [hla] at sp
    have F1 : cs = (pre ++ [(b, k)]).map Prod.fst ++ r.map Prod.fst := by rw [hcs, List.map_append, List.append_assoc]; rfl
    have F2 : ls = (pre ++ [(b, k)]).map Prod.snd ++ r.map Prod.snd := by rw [hls, List.map_append, List.append_assoc]; rfl
    have len1 : rngS ((pre.length : Int) + 1) r.length = rngS (((pre ++ [(b, k)]).length : Nat) : Int) r.length := by rw [List.length_append, List.length_singleton]; rfl
    have hh0 : ∀ e ∈ r, 0 ≤ e.2 := fun e he => h0 e (List.mem_cons_of_mem _ he)
    have pn : ∀ (lv : Int), k = lv → ∀ c p, pre ++ [(b, k)] = p ++ [c] → c.2 = lv := fun lv hlv c p q => by
      have := List.append_inj_right' q rfl
      simp only [List.cons.injEq, and_true] at this
      rw [← this]; exact hlv
    have pe : pre ++ [(b, k)] ≠ [] := by simp
    -- the level before
    have prev : pre ≠ [] → atI (ls.map D.int) ((pre.length : Int) - 1) = some (.int (curLv cur)) := fun hne => by
      obtain ⟨p, c, rfl⟩ : ∃ p c, pre = p ++ [c] := ⟨pre.dropLast, pre.getLast hne, (List.dropLast_concat_getLast hne).symm⟩
      rw [show (((p ++ [c]).length : Nat) : Int) - 1 = (p.length : Int) by rw [List.length_append, List.length_singleton]; omega, DL.atI_nat, List.getElem?_map, hls, List.map_append, List.append_assoc, List.getElem?_append_right (by rw [List.length_map]; omega), List.length_map, Nat.sub_self]
      show some (D.int c.2) = _
      rw [hp c p rfl]
    have app : ∀ ss : List MB.St, ss.length ≤ 100000 → appendG (.cell S.length) [.fr (.tup ([.int k] ++ [.int b, oD (MB.lastOf r)]))] (S ++ [.lst (svt ss)]) = .ok (.fr .non, S ++ [.lst (svt (ss ++ [(k, b, MB.lastOf r)]))]) := fun ss hs => by
      rw [last_app (by simp only [svt, List.length_map]; omega), svt_snoc]
      rfl
    have ta : ∀ T : Store, addG false (.fr (.tup [.int k])) (.fr (.tup [.int b, oD (MB.lastOf r)])) T = .ok (.fr (.tup ([.int k] ++ [.int b, oD (MB.lastOf r)])), T) := fun T => tup_add _ (by simp)
    have fin0 : k = 0 → cur = none → LJ S cs ls tgt (rngS ((pre.length : Int) + 1) r.length) [some (.fr (intsD cs)), some (.fr (intsD ls)), some (.cell S.length), some (.fr (.int (pre.length : Nat)))] (S ++ [.lst (svt done)]) := fun q1 q2 => by
      subst q2
      refine ⟨pre ++ [(b, k)], r, none, done, _, len1, F1, F2, rfl, by simp only [curSt, List.append_nil], ?_, (fun _ _ e => by cases e), pn 0 q1, fun _ => rfl, hh0, by omega⟩
      rw [← ht]
      conv => rhs; unfold MB.stGo
      rw [if_pos q1]
    cases cur with
    | none =>
      simp only [curSt, curLv, List.append_nil] at sp prev ⊢
      have ne := ne_nilT (S := S) true done
      simp only [if_true] at ne
      by_cases kk : k = 0
      · have nk : ¬ 0 < k := by omega
        by_cases hpre : pre = []
        · subst hpre
          have z0 : ((([] : List (Int × Int)).length : Nat) : Int) = 0 := rfl
          simp only [z0] at hk
          simp only [RR, DL.isNon, List.replicate_succ, List.replicate_zero, List.set_cons_zero, List.set_cons_succ, List.getElem?_cons_zero, List.getElem?_cons_succ, Option.map_some, Nat.reduceSub, and_self, and_true, true_and, decide_true, decide_false, if_true, if_false, Bool.false_eq_true, Bool.not_true, Bool.not_false, Nat.reduceAdd, Nat.reduceMul, Nat.reduceLeDiff, f_law_stretches_1, z0, Int.lt_irrefl, hk, nk, s_ends]
          exact fin0 kk rfl
        · have hgt : 0 < (pre.length : Int) := by
            have := List.length_pos_iff.mpr hpre
            omega
          have pv := prev hpre
          by_cases hd : done = []
          · subst hd
            simp only [RR, DL.isNon, List.replicate_succ, List.replicate_zero, List.set_cons_zero, List.set_cons_succ, List.getElem?_cons_zero, List.getElem?_cons_succ, Option.map_some, Nat.reduceSub, and_self, and_true, true_and, decide_true, decide_false, if_true, if_false, Bool.false_eq_true, Bool.not_true, Bool.not_false, Nat.reduceAdd, Nat.reduceMul, Nat.reduceLeDiff, f_law_stretches_1, hgt, hk, pv, kk, ne, List.isEmpty_nil, Int.lt_irrefl, s_ends]
            exact fin0 kk rfl
          · have he : done.isEmpty = false := by cases done; exact absurd rfl hd; rfl
            simp only [RR, DL.isNon, List.replicate_succ, List.replicate_zero, List.set_cons_zero, List.set_cons_succ, List.getElem?_cons_zero, List.getElem?_cons_succ, Option.map_some, Nat.reduceSub, and_self, and_true, true_and, decide_true, decide_false, if_true, if_false, Bool.false_eq_true, Bool.not_true, Bool.not_false, Nat.reduceAdd, Nat.reduceMul, Nat.reduceLeDiff, f_law_stretches_1, hgt, hk, pv, kk, ne, he, Int.lt_irrefl, s_ends]
            exact fin0 kk rfl
      · have kp : 0 < k := by omega
        have ap := app done (by omega)
        have ty := ty_last (S := S) (xs := svt done)
        have fin : LJ S cs ls tgt (rngS ((pre.length : Int) + 1) r.length) [some (.fr (intsD cs)), some (.fr (intsD ls)), some (.cell S.length), some (.fr (.int (pre.length : Nat)))] (S ++ [.lst (svt (done ++ [(k, b, MB.lastOf r)]))]) := by
          refine ⟨pre ++ [(b, k)], r, some (k, b), done, _, len1, F1, F2, rfl, rfl, ?_, (fun _ _ e => by cases e; exact kp), pn k rfl, (fun q => absurd q pe), hh0, by omega⟩
          rw [← ht]
          conv => rhs; unfold MB.stGo
          rw [if_neg kk]
        by_cases hpre : pre = []
        · subst hpre
          have z0 : ((([] : List (Int × Int)).length : Nat) : Int) = 0 := rfl
          simp only [z0] at hk sp
          simp only [RR, DL.isNon, List.replicate_succ, List.replicate_zero, List.set_cons_zero, List.set_cons_succ, List.getElem?_cons_zero, List.getElem?_cons_succ, Option.map_some, Nat.reduceSub, and_self, and_true, true_and, decide_true, decide_false, if_true, if_false, Bool.false_eq_true, Bool.not_true, Bool.not_false, Nat.reduceAdd, Nat.reduceMul, Nat.reduceLeDiff, f_law_stretches_1, z0, Int.lt_irrefl, hk, kp, ta, sp, ty, ap, s_ends]
          exact fin
        · have hgt : 0 < (pre.length : Int) := by
            have := List.length_pos_iff.mpr hpre
            omega
          have pv := prev hpre
          simp only [RR, DL.isNon, List.replicate_succ, List.replicate_zero, List.set_cons_zero, List.set_cons_succ, List.getElem?_cons_zero, List.getElem?_cons_succ, Option.map_some, Nat.reduceSub, and_self, and_true, true_and, decide_true, decide_false, if_true, if_false, Bool.false_eq_true, Bool.not_true, Bool.not_false, Nat.reduceAdd, Nat.reduceMul, Nat.reduceLeDiff, f_law_stretches_1, hgt, hk, pv, kk, kp, ta, sp, ty, ap, s_ends]
          exact fin
    | some lf =>
      obtain ⟨l, f⟩ := lf
      have hl := hc l f rfl
      have hpre : pre ≠ [] := fun q => by cases hn q
      have hgt : 0 < (pre.length : Int) := by
        have := List.length_pos_iff.mpr hpre
        omega
      have pv := prev hpre
      simp only [curLv] at pv
      rw [show curSt (some (l, f)) ((b, k) :: r) = [(l, f, some (b - 1))] from rfl] at sp ⊢
      have ne := ne_nilT (S := S) true (done ++ [(l, f, some (b - 1))])
      simp only [if_true] at ne
      have he : (done ++ [(l, f, some (b - 1))]).isEmpty = false := by cases done <;> rfl
      by_cases kl : k = l
      · subst kl
        have c2 : cutA [D.int k, D.int f, D.int (b - 1)] none (some 2) = [D.int k, D.int f] := rfl
        have ta2 : ∀ T : Store, addG false (.fr (.tup [.int k, .int f])) (.fr (.tup [oD (MB.lastOf r)])) T = .ok (.fr (.tup [.int k, .int f, oD (MB.lastOf r)]), T) := fun T => tup_add _ (by simp)
        have lx : ixG (.cell S.length) (.fr (.int (-1))) (S ++ [.lst (svt (done ++ [(k, f, some (b - 1))]))]) = .ok (.fr (.tup [.int k, .int f, .int (b - 1)]), S ++ [.lst (svt (done ++ [(k, f, some (b - 1))]))]) := by
          rw [svt_snoc, last_x, at_m1]; rfl
        have ls' : setL (.cell S.length) (.fr (.int (-1))) (.fr (.tup [.int k, .int f, oD (MB.lastOf r)])) (S ++ [.lst (svt (done ++ [(k, f, some (b - 1))]))]) = .ok (S ++ [.lst (svt (done ++ [(k, f, MB.lastOf r)]))]) := by
          rw [svt_snoc, last_set, ← svt_snoc done (k, f, MB.lastOf r)]
        simp only [RR, DL.isNon, List.replicate_succ, List.replicate_zero, List.set_cons_zero, List.set_cons_succ, List.getElem?_cons_zero, List.getElem?_cons_succ, Option.map_some, Nat.reduceSub, and_self, and_true, true_and, decide_true, decide_false, if_true, if_false, Bool.false_eq_true, Bool.not_true, Bool.not_false, Nat.reduceAdd, Nat.reduceMul, Nat.reduceLeDiff, f_law_stretches_1, hgt, hk, pv, ne, he, hl, negone, lx, c2, sp, ta2, ls', s_ends]
        refine ⟨pre ++ [(b, k)], r, some (k, f), done, _, len1, F1, F2, rfl, rfl, ?_, (fun _ _ e => by cases e; exact hl), pn k rfl, (fun q => absurd q pe), hh0, by omega⟩
        rw [← ht]
        conv => rhs; unfold MB.stGo
        rw [if_pos rfl]
      · by_cases kk : k = 0
        · subst kk
          have kl' : ¬ (0 : Int) = l := kl
          simp only [RR, DL.isNon, List.replicate_succ, List.replicate_zero, List.set_cons_zero, List.set_cons_succ, List.getElem?_cons_zero, List.getElem?_cons_succ, Option.map_some, Nat.reduceSub, and_self, and_true, true_and, decide_true, decide_false, if_true, if_false, Bool.false_eq_true, Bool.not_true, Bool.not_false, Nat.reduceAdd, Nat.reduceMul, Nat.reduceLeDiff, f_law_stretches_1, hgt, hk, pv, kl', Int.lt_irrefl, s_ends]
          refine ⟨pre ++ [(b, 0)], r, none, done ++ [(l, f, some (b - 1))], _, len1, F1, F2, rfl, by simp only [curSt, List.append_nil], ?_, (fun _ _ e => by cases e), pn 0 rfl, fun _ => rfl, hh0, by simp only [List.length_append, List.length_cons, List.length_nil]; omega⟩
          rw [← ht]
          conv => rhs; unfold MB.stGo
          rw [if_neg kl, if_pos rfl, List.append_assoc]
          rfl
        · have kp : 0 < k := by omega
          have ap := app (done ++ [(l, f, some (b - 1))]) (by simp only [List.length_append, List.length_cons, List.length_nil]; omega)
          have ty := ty_last (S := S) (xs := svt (done ++ [(l, f, some (b - 1))]))
          simp only [RR, DL.isNon, List.replicate_succ, List.replicate_zero, List.set_cons_zero, List.set_cons_succ, List.getElem?_cons_zero, List.getElem?_cons_succ, Option.map_some, Nat.reduceSub, and_self, and_true, true_and, decide_true, decide_false, if_true, if_false, Bool.false_eq_true, Bool.not_true, Bool.not_false, Nat.reduceAdd, Nat.reduceMul, Nat.reduceLeDiff, f_law_stretches_1, hgt, hk, pv, kl, kp, ta, sp, ty, ap, s_ends]
          refine ⟨pre ++ [(b, k)], r, some (k, b), done ++ [(l, f, some (b - 1))], _, len1, F1, F2, rfl, rfl, ?_, (fun _ _ e => by cases e; exact kp), pn k rfl, (fun q => absurd q pe), hh0, by simp only [List.length_append, List.length_cons, List.length_nil]; omega⟩
          rw [← ht]
          conv => rhs; unfold MB.stGo
          rw [if_neg kl, if_neg kk, List.append_assoc]
          rfl
end

theorem len62 {n : Nat} (h : n ≤ 100000) : -(2 ^ 62) ≤ (n : Int) ∧ (n : Int) < 2 ^ 62 := by
  have h1 : (n : Int) ≤ 100000 := by omega
  have h2 : (0 : Int) ≤ n := by omega
  generalize (n : Int) = i at h1 h2
  omega
abbrev cellH (cs ls : List Int) : List MB.St := MB.stGo none (cs.zip ls)
section
variable {S : Store} (wf : WF S)
include wf
theorem lstr_run {cs ls : List Int} (hl : ls.length = cs.length) (h2 : Lv2 ls) (hz : cs.length ≤ 1000) : m_law_stretches [.fr (intsD cs), .fr (intsD ls)] S = .ok (.new (.lst (svt (cellH cs ls))), S) := by
  have zl : (cs.zip ls).length = cs.length := by rw [List.length_zip]; omega
  have lp : Ends (loopM (fun _ => True) (gNm 3) f_law_stretches_1 (rngS 0 cs.length) [some (.fr (intsD cs)), some (.fr (intsD ls)), some (.cell S.length), none] (S ++ [.lst []])) fun r => r.1 = .nx ∧ LJ S cs ls (cellH cs ls) [] r.2.1 r.2.2 := by
    refine loop_ends (LJ S cs ls (cellH cs ls)) (fun x xs rho S' h => ls_step wf cs ls _ x xs rho S' h) ?_
    refine ⟨[], cs.zip ls, none, [], _, by rw [zl]; rfl, (zip_fst hl).symm, (zip_snd hl).symm, rfl, rfl, rfl, (fun _ _ e => by cases e), (fun c p e => by cases p <;> cases e), fun _ => rfl, fun e he => ?_, by rw [zl, List.length_nil]; omega⟩
    exact (h2 e.2 (List.of_mem_zip he).2).1
  obtain ⟨⟨fl, rho, S'⟩, e, h1, pre, rest, cur, done, x3, q1, q2, q3, q4, q5, q6, q7, q8, q9, q10⟩ := lp
  dsimp only at h1 q4 q5
  subst h1 q4 q5
  have hr : rest = [] := by cases rest with
    | nil => rfl
    | cons _ _ => rw [List.length_cons, rng_cons] at q1; cases q1
  subst hr
  have es : done ++ curSt cur [] = cellH cs ls := by
    rw [← q6]
    cases cur with
    | none => rfl
    | some lf => rfl
  rw [es] at e
  simp only [RR, DL.isNon, List.replicate_succ, List.replicate_zero, List.set_cons_zero, List.set_cons_succ, List.getElem?_cons_zero, List.getElem?_cons_succ, Option.map_some, Nat.reduceSub, and_self, and_true, true_and, decide_true, decide_false, if_true, if_false, Bool.false_eq_true, Bool.not_true, Bool.not_false, Nat.reduceAdd, Nat.reduceMul, Nat.reduceLeDiff, m_law_stretches, b_law_stretches, List.length_map, s_r1 (len62 (show cs.length ≤ 100000 by omega)), Int.toNat_natCast, e]
  exact leave_new wf (below_svt _ _)
end
structure Cel (cs ls : List Int) : Prop where
  fs : MB.Fs cs
  le : cs.length < 60
  len : ls.length = cs.length
  lv : Lv2 ls
theorem Cel.few {cs ls : List Int} (h : Cel cs ls) : Few cs := ⟨h.fs.zero, by have := h.le; omega⟩
theorem Cel.hd {cs ls : List Int} (h : Cel cs ls) : MB.Hd cs (cellH cs ls) ∧ ∀ x, MB.lev (cellH cs ls) x = MB.stp 0 (cs.zip ls) x := by
  have a : MB.Asc (cs.zip ls) := by unfold MB.Asc; rw [zip_fst h.len]; exact h.fs.asc
  obtain ⟨q1, q2⟩ := MB.st0_ok a (fun e he => h.lv e.2 (List.of_mem_zip he).2) (fun e he => h.fs.pos e.1 (List.of_mem_zip he).1)
  refine ⟨⟨q1, MB.Nf.ends_in q1 h.fs.zero (fun x _ => q2 x) ?_⟩, q2⟩
  have := MB.stp_cst (cs.zip ls) 0
  rwa [zip_fst h.len] at this
structure InC (cs : List Int) (i : Nat) (x : Int) : Prop where
  ex : ∃ pre c post, cs = pre ++ c :: post ∧ pre.length = i ∧ c ≤ x ∧ ∀ d ∈ post, x < d
theorem InC.lt {cs : List Int} {i : Nat} {x : Int} (h : InC cs i x) : i < cs.length := by
  obtain ⟨pre, c, post, rfl, rfl, _, _⟩ := h.ex
  rw [List.length_append, List.length_cons]
  omega
theorem stp_zip {c x : Int} {post : List Int} (hc : c ≤ x) (hp : ∀ d ∈ post, x < d) : ∀ (pre ls : List Int) (d : Int), (pre ++ c :: post).Pairwise (· < ·) → ls.length = (pre ++ c :: post).length → MB.stp d ((pre ++ c :: post).zip ls) x = ls.getD pre.length 0
  | [], [], d, _, h => by simp at h
  | [], l :: ls, d, ha, h => by
    show (if c ≤ x then MB.stp l (post.zip ls) x else d) = l
    rw [if_pos hc]
    exact MB.stp_low fun e he => hp e.1 (List.of_mem_zip he).1
  | p :: pre, [], d, _, h => by simp at h
  | p :: pre, l :: ls, d, ha, h => by
    obtain ⟨a1, a2⟩ := List.pairwise_cons.mp (show (p :: (pre ++ c :: post)).Pairwise (· < ·) from ha)
    have := a1 c (by simp)
    show (if p ≤ x then MB.stp l ((pre ++ c :: post).zip ls) x else d) = ls.getD pre.length 0
    rw [if_pos (by omega)]
    exact stp_zip hc hp pre ls l a2 (by simpa using h)
theorem cell_val {cs ls : List Int} (h : Cel cs ls) {i : Nat} {x : Int} (k : InC cs i x) : MB.lev (cellH cs ls) x = ls.getD i 0 := by
  rw [h.hd.2]
  obtain ⟨pre, c, post, e, rfl, h1, h2⟩ := k.ex
  have a := h.fs.asc
  have l := h.len
  rw [e] at a l ⊢
  exact stp_zip h1 h2 pre ls 0 a l
theorem cell_ex {cs : List Int} (h : MB.Fs cs) {x : Int} (hx : 0 ≤ x) : ∃ i, InC cs i x := by
  obtain ⟨⟨r, rfl⟩, ha⟩ := h
  suffices ∀ (r : List Int) (b : Int), (b :: r).Pairwise (· < ·) → b ≤ x → ∃ pre c post, b :: r = pre ++ c :: post ∧ c ≤ x ∧ ∀ d ∈ post, x < d by
    obtain ⟨pre, c, post, h1, h2, h3⟩ := this r 0 ha hx
    exact ⟨pre.length, pre, c, post, h1, rfl, h2, h3⟩
  intro r
  induction r with
  | nil => exact fun b _ h => ⟨[], b, [], rfl, h, fun d hd => by cases hd⟩
  | cons d r ih =>
    intro b hp h
    obtain ⟨p1, p2⟩ := List.pairwise_cons.mp hp
    by_cases q : d ≤ x
    · obtain ⟨pre, c, post, h1, h2, h3⟩ := ih d p2 q
      exact ⟨b :: pre, c, post, by rw [h1]; rfl, h2, h3⟩
    · refine ⟨[], b, d :: r, rfl, h, fun e he => ?_⟩
      rcases List.mem_cons.mp he with rfl | he
      · omega
      · have := (List.pairwise_cons.mp p2).1 e he
        omega
theorem split_at {cs : List Int} {i : Nat} {c : Int} (h : cs[i]? = some c) : ∃ pre post, cs = pre ++ c :: post ∧ pre.length = i := by
  obtain ⟨hi, e⟩ := List.getElem?_eq_some_iff.mp h
  refine ⟨cs.take i, cs.drop (i + 1), ?_, by rw [List.length_take]; omega⟩
  rw [← e, List.getElem_cons_drop, List.take_append_drop]
theorem inc_first {cs : List Int} (h : MB.Fs cs) {i : Nat} {c : Int} (hi : cs[i]? = some c) : InC cs i c := by
  obtain ⟨pre, post, e, hl⟩ := split_at hi
  refine ⟨pre, c, post, e, hl, Int.le_refl _, fun d hd => ?_⟩
  have a := h.asc
  rw [e] at a
  exact (List.pairwise_cons.mp (List.pairwise_append.mp a).2.1).1 d hd
structure Rp (cs ls : List Int) (a : List MB.St) : Prop where
  hd : MB.Hd cs a
  lv : ∀ i x, InC cs i x → MB.lev a x = ls.getD i 0
theorem Rp.eq {cs ls : List Int} {a : List MB.St} (h : Cel cs ls) (k : Rp cs ls a) : a = cellH cs ls := k.hd.ext h.hd.1 fun x hx => by
  obtain ⟨i, hi⟩ := cell_ex h.fs hx
  rw [k.lv i x hi, cell_val h hi]
theorem Lv2.getD {ls : List Int} (h : Lv2 ls) (i : Nat) : 0 ≤ ls.getD i 0 ∧ ls.getD i 0 ≤ 2 := by
  rw [List.getD_eq_getElem?_getD]
  cases q : ls[i]? with
  | none => simp
  | some x => exact h x (List.mem_of_getElem? q)
theorem bnd_all {F : List Int} (hF : Few F) {a b : List MB.St} (ha : MB.Hd F a) (hb : MB.Hd F b) (p : Int → Int → Bool) : ((MB.bnd [a, b]).all fun x => p (MB.lev a x) (MB.lev b x)) = true ↔ ∀ x, 0 ≤ x → p (MB.lev a x) (MB.lev b x) = true :=
  MB.all_cells (MB.bnd_fs (two_wf hF ha hb)) (MB.bnd_cst (by simp)) (MB.bnd_cst (by simp))
abbrev withB (a b : List MB.St) : Bool := (MB.bnd [a, b]).all fun x => decide (MB.lev a x ≤ MB.lev b x)
section
variable {F : List Int} (hF : Few F) {a b : List MB.St} (ha : MB.Hd F a) (hb : MB.Hd F b)
include hF ha hb
theorem with_iff : withB a b = true ↔ ∀ x, 0 ≤ x → MB.lev a x ≤ MB.lev b x := by
  rw [withB, bnd_all hF ha hb fun u v => decide (u ≤ v)]
  simp only [decide_eq_true_eq]
end

section
variable {S : Store}
theorem lc_genO {α : Type} {gm : GM} {t : TM} {e : EM} {rho : Slots} {own : List Nat} (enc : α → D) (out : α → Option D) : ∀ (l : List α) (ds : List D), ds.length + l.length ≤ 1000000 →
    (∀ a ∈ l, ∀ ds : List D, lcT gm t e (.fr (enc a)) (wipeR rho own) (S ++ [.lst (ds.map SV.fr)]) = .ok ((out a).map SV.fr, S ++ [.lst (ds.map SV.fr)])) →
    lcM (fun _ => True) gm t e own rho ((l.map enc).map SV.fr) S (ds.map SV.fr) = .ok ((ds ++ l.filterMap out).map SV.fr, S)
  | [], ds, _, _ => by rw [List.map_nil, List.map_nil, lc_nil trivial]; simp
  | a :: l, ds, hz, h => by
    simp only [List.map_cons, List.length_cons] at hz ⊢
    have hs := sizeLine_eq
    have h1 := h a List.mem_cons_self ds
    cases q : out a with
    | none =>
      rw [q] at h1
      rw [lc_none trivial rfl h1, lc_genO enc out l ds (by omega) fun z hz => h z (List.mem_cons_of_mem _ hz), List.filterMap_cons_none q]
    | some d =>
      rw [q] at h1
      have e2 : ds.map SV.fr ++ [SV.fr d] = (ds ++ [d]).map SV.fr := by simp
      rw [lc_some trivial (by rw [List.length_map, hs]; omega) rfl h1, e2, lc_genO enc out l (ds ++ [d]) (by simp; omega) fun z hz => h z (List.mem_cons_of_mem _ hz), List.filterMap_cons_some q]
      simp
theorem lc_gen {α : Type} {gm : GM} {t : TM} {e : EM} {rho : Slots} {own : List Nat} (enc out : α → D) (l : List α) (hz : l.length ≤ 1000000)
    (h : ∀ a ∈ l, ∀ ds : List D, lcT gm t e (.fr (enc a)) (wipeR rho own) (S ++ [.lst (ds.map SV.fr)]) = .ok (some (.fr (out a)), S ++ [.lst (ds.map SV.fr)])) :
    lcM (fun _ => True) gm t e own rho ((l.map enc).map SV.fr) S [] = .ok ((l.map out).map SV.fr, S) := by
  have := lc_genO (S := S) (gm := gm) (t := t) (e := e) (rho := rho) (own := own) enc (fun a => some (out a)) l [] (by simpa using hz) h
  rw [List.filterMap_eq_map', List.nil_append] at this
  exact this
end
theorem hd_mono {F G : List Int} {a : List MB.St} (h : MB.Hd F a) (k : ∀ x ∈ F, x ∈ G) : MB.Hd G a := ⟨h.nf, fun b hb => k b (h.inn b hb)⟩

theorem list_newT (ss : List MB.St) (S : Store) : listG true [.fr (stsD ss)] S = .ok (.cell S.length, S ++ [.lst (svt ss)]) := by
  rw [list_new, svt_eq]
theorem kSt (cc : Bool) (g : FnM) (a : List MB.St) (S : Store) : k_meth0 cc [("Holding", g)] "stretches" (.fr (hdD a), S) = (noX (g [.fr (hdD a)] S)).bind (back cc) := s_meth0 (metH1 g "stretches" (by decide))
section
variable {S : Store} (wf : WF S) {a : List MB.St}
include wf
theorem hst_run (a : List MB.St) : m_Holding_stretches [.fr (hdD a)] S = .ok (.new (.lst (svt a)), S) := by
  simp only [RR, DL.isNon, List.replicate_succ, List.replicate_zero, List.set_cons_zero, List.set_cons_succ, List.getElem?_cons_zero, List.getElem?_cons_succ, Option.map_some, Nat.reduceSub, and_self, and_true, true_and, decide_true, decide_false, if_true, if_false, Bool.false_eq_true, Bool.not_true, Bool.not_false, Nat.reduceAdd, Nat.reduceMul, Nat.reduceLeDiff, m_Holding_stretches, b_Holding_stretches, fldH, list_newT]
  exact leave_new wf (below_svt _ _)
end
theorem snapC {S : Store} {k : Nat} {ds : List D} (h : S[k]? = some (.lst (ds.map SV.fr))) : snap S (.cell k) = some (.lst ds) := by
  unfold snap
  simp only [h, allSn_map (snap0_fr _), Option.map_some]
def Sml (i : Int) : Prop := i.natAbs < 10 ^ 129
theorem sml_of {i : Int} (h0 : -1 ≤ i) (h : i ≤ 10 ^ 41) : Sml i := by
  unfold Sml
  have : i.natAbs ≤ 10 ^ 41 := by omega
  exact Nat.lt_of_le_of_lt this (Nat.pow_lt_pow_right (by decide) (by decide))
theorem item_ends : ∀ {ss : List MB.St} {s : MB.St}, s ∈ ss → s.2.1 ∈ MB.ends ss ∧ ∀ i, s.2.2 = some i → i + 1 ∈ MB.ends ss
  | [], _, h => by cases h
  | (l, f, e) :: r, s, h => by
    rcases List.mem_cons.mp h with rfl | h
    · cases e with
      | none => exact ⟨by simp [MB.ends], fun i q => by cases q⟩
      | some j => exact ⟨by simp [MB.ends], fun i q => by cases q; simp [MB.ends]⟩
    · obtain ⟨a, b⟩ := item_ends h
      have m : ∀ x ∈ MB.ends r, x ∈ MB.ends ((l, f, e) :: r) := fun x hx => by
        cases e with
        | none => exact List.mem_cons_of_mem _ hx
        | some j => exact List.mem_cons_of_mem _ (List.mem_cons_of_mem _ hx)
      exact ⟨m _ a, fun i q => m _ (b i q)⟩
theorem fit_st {n : Nat} {s : MB.St} (h1 : Sml s.1) (h2 : Sml s.2.1) (h3 : ∀ i, s.2.2 = some i → Sml i) : fit (n + 1) (stD s) = true := by
  show fits n [.int s.1, .int s.2.1, oD s.2.2] = true
  simp only [fits, fit_int (n := n) h1, fit_int (n := n) h2, fit_oD (n := n) h3, Bool.and_self]
theorem fit_sts {n : Nat} {ss : List MB.St} (h : ∀ s ∈ ss, Sml s.1 ∧ Sml s.2.1 ∧ ∀ i, s.2.2 = some i → Sml i) : fit (n + 2) (stsD ss) = true := by
  simp only [fit]
  refine fits_all fun d hd => ?_
  obtain ⟨s, hs, rfl⟩ := List.mem_map.mp hd
  exact fit_st (h s hs).1 (h s hs).2.1 (h s hs).2.2
theorem bulk_st (s : MB.St) : (py (stD s)).bulk = 3 := by
  simp only [py, pys, PyData.bulk, PyData.bulkAll, bulk_oD]
theorem bulk_sts (ss : List MB.St) : (py (stsD ss)).bulk = 4 * ss.length := by
  have : ∀ ss : List MB.St, PyData.bulkAll (pys (ss.map stD)) = 4 * ss.length := by
    intro ss
    induction ss with
    | nil => rfl
    | cons s ss ih =>
      simp only [List.map_cons, pys, PyData.bulkAll, ih, bulk_st, List.length_cons]
      omega
  simp only [py, PyData.bulk, this]
theorem hd_sml {F : List Int} {a : List MB.St} (h : MB.Hd F a) (hs : ∀ c ∈ F, c ≤ 10 ^ 41) : ∀ s ∈ a, Sml s.1 ∧ Sml s.2.1 ∧ ∀ i, s.2.2 = some i → Sml i := fun s hs' => by
  obtain ⟨q1, q2, q3⟩ := wf_item (Int.le_refl 0) h.wf s hs'
  obtain ⟨e1, e2⟩ := item_ends hs'
  have p := MB.ends_pos (Int.le_refl 0) h.wf
  refine ⟨sml_of (by omega) (by omega), sml_of (by have := p _ e1; omega) (hs _ (h.inn _ e1)), fun i q => ?_⟩
  have a1 := p _ (e2 i q)
  have a2 := hs _ (h.inn _ (e2 i q))
  exact sml_of (by omega) (by omega)
theorem atI_getD {xs : List Int} {k : Nat} (h : k < xs.length) : atI (xs.map D.int) (k : Int) = some (.int (xs.getD k 0)) := by
  rw [DL.atI_nat, List.getElem?_map, List.getD_eq_getElem?_getD, List.getElem?_eq_getElem h]
  rfl
section
variable {S : Store} (wf : WF S) {cs ls : List Int} (hc : Cel cs ls)
include wf hc
end
section
variable {cs l1 l2 : List Int} (c1 : Cel cs l1) (c2 : Cel cs l2)
theorem Cel.x0 {cs ls : List Int} (h : Cel cs ls) {i : Nat} {x : Int} (k : InC cs i x) : 0 ≤ x := by
  obtain ⟨pre, c, post, e, _, h1, _⟩ := k.ex
  have := h.fs.pos c (by rw [e]; simp)
  omega
include c1
include c2
end
theorem cuts_sml {n : Nat} {cs : List Int} (h : Cuts n cs) : ∀ c ∈ cs, c ≤ 10 ^ 41 := fun c hc => by
  have := h.le c hc
  omega

theorem first_le {cs : List Int} (h : MB.Fs cs) {i p : Nat} {x c : Int} (k : InC cs i x) (hp : cs[p]? = some c) : c ≤ x ↔ p ≤ i := by
  obtain ⟨pre, d, post, e, hl, h1, h2⟩ := k.ex
  have a := h.asc
  obtain ⟨hpl, hc⟩ := List.getElem?_eq_some_iff.mp hp
  have gi : i < cs.length := k.lt
  have ed : cs[i]? = some d := by rw [e, List.getElem?_append_right (by omega), hl, Nat.sub_self]; rfl
  obtain ⟨_, hd⟩ := List.getElem?_eq_some_iff.mp ed
  have as := List.pairwise_iff_getElem.mp a
  constructor
  · intro q
    refine Decidable.byContradiction fun n => ?_
    have hm : c ∈ post := by
      have : cs[p]? = post[p - i - 1]? := by
        rw [e, List.getElem?_append_right (by omega), hl, show p - i = (p - i - 1) + 1 by omega, List.getElem?_cons_succ]
        rfl
      rw [hp] at this
      exact List.mem_of_getElem? this.symm
    have := h2 c hm
    omega
  · intro q
    rcases Nat.lt_or_eq_of_le q with q | q
    · have := as p i hpl gi q
      omega
    · subst q
      omega
theorem cov_cell {cs : List Int} (h : MB.Fs cs) {i p q : Nat} {x c : Int} (k : InC cs i x) (hp : cs[p]? = some c) : MA.cov (c, lastAt cs q) x = true ↔ (p ≤ i ∧ i ≤ q) := by
  have f1 := first_le h k hp
  cases he : lastAt cs q with
  | none =>
    rw [MB.cov_n, f1]
    unfold lastAt at he
    have hn : cs[q + 1]? = none := by
      cases r : cs[q + 1]? with
      | none => rfl
      | some d => rw [r] at he; cases he
    have := List.getElem?_eq_none_iff.mp hn
    have := k.lt
    omega
  | some e =>
    unfold lastAt at he
    cases r : cs[q + 1]? with
    | none => rw [r] at he; cases he
    | some d =>
      rw [r] at he
      simp only [Option.map_some, Option.some.injEq] at he
      have f2 := first_le h k r
      rw [MB.cov_s, f1]
      omega
abbrev rep (l : List Int) (p q : Nat) (v : Int) : List Int := l.take p ++ List.replicate (q + 1 - p) v ++ l.drop (q + 1)
theorem rep_len {l : List Int} {p q : Nat} (v : Int) (hpq : p ≤ q) (hq : q < l.length) : (rep l p q v).length = l.length := by
  simp only [rep, List.length_append, List.length_take, List.length_replicate, List.length_drop]
  omega
theorem rep_getD {l : List Int} {p q i : Nat} (v : Int) (hpq : p ≤ q) (hq : q < l.length) (hi : i < l.length) : (rep l p q v).getD i 0 = if p ≤ i ∧ i ≤ q then v else l.getD i 0 := by
  rw [List.getD_eq_getElem?_getD, List.getD_eq_getElem?_getD]
  by_cases h1 : i < p
  · rw [if_neg (by omega), rep, List.append_assoc, List.getElem?_append_left (by rw [List.length_take]; omega), List.getElem?_take, if_pos h1]
  · by_cases h2 : i ≤ q
    · rw [if_pos ⟨by omega, h2⟩, rep, List.append_assoc, List.getElem?_append_right (by rw [List.length_take]; omega), List.getElem?_append_left (by rw [List.length_take, List.length_replicate]; omega), List.getElem?_replicate, if_pos (by rw [List.length_take]; omega)]
      rfl
    · rw [if_neg (by omega), rep, List.getElem?_append_right (by rw [List.length_append, List.length_take, List.length_replicate]; omega), List.getElem?_drop]
      congr 2
      rw [List.length_append, List.length_take, List.length_replicate]
      omega
theorem rep_lv {l : List Int} {p q : Nat} {v : Int} (hl : Lv2 l) (hv : 0 ≤ v ∧ v ≤ 2) : Lv2 (rep l p q v) := fun x hx => by
  rcases List.mem_append.mp hx with hx | hx
  · rcases List.mem_append.mp hx with hx | hx
    · exact hl x (List.mem_of_mem_take hx)
    · rw [(List.mem_replicate.mp hx).2]; exact hv
  · exact hl x (List.mem_of_mem_drop hx)
theorem span_ok {cs l : List Int} (h : Cel cs l) {p q : Nat} {c : Int} (hp : cs[p]? = some c) (hpq : p ≤ q) : MA.Ok (c, lastAt cs q) ∧ c ∈ cs ∧ ∀ e, lastAt cs q = some e → e + 1 ∈ cs := by
  have cm := List.mem_of_getElem? hp
  refine ⟨⟨h.fs.pos c cm, fun e he => ?_⟩, cm, fun e he => ?_⟩
  · unfold lastAt at he
    cases r : cs[q + 1]? with
    | none => rw [r] at he; cases he
    | some d =>
      rw [r] at he
      simp only [Option.map_some, Option.some.injEq] at he
      obtain ⟨h1, e1⟩ := List.getElem?_eq_some_iff.mp hp
      obtain ⟨h2, e2⟩ := List.getElem?_eq_some_iff.mp r
      have := List.pairwise_iff_getElem.mp h.fs.asc p (q + 1) h1 h2 (by omega)
      dsimp only
      omega
  · unfold lastAt at he
    cases r : cs[q + 1]? with
    | none => rw [r] at he; cases he
    | some d =>
      rw [r] at he
      simp only [Option.map_some, Option.some.injEq] at he
      have := List.mem_of_getElem? r
      rw [show e + 1 = d by omega]
      exact this
theorem rep_cel {cs l : List Int} (h : Cel cs l) {p q : Nat} {v : Int} (hv : 0 ≤ v ∧ v ≤ 2) (hpq : p ≤ q) (hq : q < cs.length) : Cel cs (rep l p q v) := ⟨h.fs, h.le, by rw [rep_len v hpq (by rw [h.len]; exact hq), h.len], rep_lv h.lv hv⟩
theorem paint_cell {cs l : List Int} (h : Cel cs l) {p q : Nat} {c v : Int} (hv : 0 ≤ v ∧ v ≤ 2) (hp : cs[p]? = some c) (hpq : p ≤ q) (hq : q < cs.length) :
    ptH (cellH cs l) v (c, lastAt cs q) = cellH cs (rep l p q v) := by
  obtain ⟨o1, o2, o3⟩ := span_ok h hp hpq
  obtain ⟨q1, q2⟩ := pt_hd h.few h.hd.1 hv o1 o2 o3
  refine Rp.eq (rep_cel h hv hpq hq) ⟨q1, fun i x k => ?_⟩
  have x0 : 0 ≤ x := by
    obtain ⟨pre, d, post, e, _, h1, _⟩ := k.ex
    have := h.fs.pos d (by rw [e]; simp)
    omega
  rw [q2 x x0, rep_getD v hpq (by rw [h.len]; exact hq) (by rw [h.len]; exact k.lt), cell_val h k]
  simp only [cov_cell h.fs k hp]
theorem bag0 (ns : List Int) (hns : ns.length ≤ 63) : ∃ b0 : Bag, b0.Ok ∧ bagM [.fr (.scr (ns.map D.int))] [] = .ok (.new b0.c, []) := by
  have hz := sizeLine_eq
  refine ⟨_, ?_, bag_run ns (by omega)⟩
  refine ⟨Int.le_refl _, (show (0 : Int) ≤ 1234567891 by decide), Int.le_refl _, fun n hn => ?_⟩
  obtain ⟨m, _, rfl⟩ := List.mem_map.mp hn
  unfold absI
  split <;> omega
theorem tells_of (h : ∀ ns : List Int, ns.length ≤ 63 → Ends (m_law [.fr (.scr (ns.map D.int))] []) fun r => r.1 = .val (.fr (.bl true))) : DL.Tells 63 m_law := by
  intro ns hns
  obtain ⟨⟨v, S'⟩, e, q⟩ := h ns hns
  cases q
  exact ⟨S', e⟩
theorem leave0 (b : Bag) : leave 0 (.fr (.bl true)) [b.c] = .ok (.val (.fr (.bl true)), []) := rfl
theorem lognat {n : Nat} (h : n ≤ 1000) : ((n : Int)).natAbs.log2 < 9000 := by
  have h1 : ((n : Int)).natAbs < 2 ^ 10 := by
    rw [Int.natAbs_natCast]
    exact Nat.lt_of_le_of_lt h (by decide)
  exact Nat.lt_of_lt_of_le (log_lt h1 (by decide)) (by decide)

theorem nil_hd {F : List Int} (h : (0 : Int) ∈ F) : MB.Hd F [] := ⟨trivial, fun b hb => by cases hb⟩
def sF (f : Int) (e : Option Int) : List Int := 0 :: f :: e.toList.map (· + 1)
theorem sF_0 (f : Int) (e : Option Int) : (0 : Int) ∈ sF f e := List.mem_cons_self
theorem sF_f (f : Int) (e : Option Int) : f ∈ sF f e := List.mem_cons_of_mem _ List.mem_cons_self
theorem sF_e (f : Int) (e : Option Int) : ∀ i, e = some i → i + 1 ∈ sF f e := fun i h => by
  subst h
  simp [sF]
theorem sF_len (f : Int) (e : Option Int) : (sF f e).length ≤ 3 := by
  cases e <;> simp [sF]
theorem sF_few (f : Int) (e : Option Int) : Few (sF f e) := ⟨sF_0 f e, by have := sF_len f e; omega⟩
abbrev oneH (l f : Int) (e : Option Int) : List MB.St := ptH [] l (f, e)
abbrev G (l f : Int) (e : Option Int) (W : List MB.St) : Bool := withB (oneH l f e) (invH W)
theorem one_hd {l f : Int} {e : Option Int} (hl : 0 ≤ l ∧ l ≤ 2) (ho : MA.Ok (f, e)) : MB.Hd (sF f e) (oneH l f e) ∧ ∀ x, 0 ≤ x → MB.lev (oneH l f e) x = if MA.cov (f, e) x = true then l else 0 :=
  pt_hd (sF_few f e) (nil_hd (sF_0 f e)) hl ho (sF_f f e) (sF_e f e)
theorem big_few {cs ls : List Int} (h : Cel cs ls) (f : Int) (e : Option Int) : Few (cs ++ sF f e) := ⟨List.mem_append.mpr (.inr (sF_0 f e)), by
  have := sF_len f e
  have := h.le
  rw [List.length_append]
  omega⟩
theorem G_iff {cs ls : List Int} (h : Cel cs ls) {l f : Int} {e : Option Int} (hl : 0 ≤ l ∧ l ≤ 2) (ho : MA.Ok (f, e)) :
    G l f e (cellH cs ls) = true ↔ ∀ x, 0 ≤ x → MA.cov (f, e) x = true → l + MB.lev (cellH cs ls) x ≤ 2 := by
  obtain ⟨o1, o2⟩ := one_hd hl ho
  obtain ⟨i1, i2⟩ := inv_hd h.few h.hd.1
  have w := with_iff (big_few h f e) (hd_mono o1 fun x hx => List.mem_append.mpr (.inr hx)) (hd_mono i1 fun x hx => List.mem_append.mpr (.inl hx))
  rw [show G l f e (cellH cs ls) = withB (oneH l f e) (invH (cellH cs ls)) from rfl, w]
  constructor
  · intro k x hx c
    have := k x hx
    rw [o2 x hx, i2 x hx, if_pos c] at this
    omega
  · intro k x hx
    rw [o2 x hx, i2 x hx]
    have r := h.hd.1.rng x
    by_cases c : MA.cov (f, e) x = true
    · rw [if_pos c]
      have := k x hx c
      omega
    · rw [if_neg c]
      omega
section
variable {S : Store} (wf : WF S)
include wf
theorem nil_init : m_Holding___init__ [.cell S.length, .fr (.lst [])] (S ++ [.ins "Holding" []]) = .ok (.val (.fr .non), S ++ [.ins "Holding" [("kept", .fr (.lst []))]]) := by
  have h := init_self (S := S) (F := [0]) (a := []) wf ⟨List.mem_cons_self, by decide⟩ (nil_hd List.mem_cons_self)
  rw [show stsD [] = D.lst [] from rfl] at h
  exact h
theorem nil_mk : mkEnd false S.length (.val (.fr .non), S ++ [.ins "Holding" [("kept", .fr (.lst []))]]) = .ok (.fr (hdD []), S) := by
  have h := hmk wf []
  rw [show hdD [] = D.ins "Holding" [("kept", .lst [])] from rfl]
  rw [show hdD [] = D.ins "Holding" [("kept", .lst [])] from rfl, show stsD [] = D.lst [] from rfl] at h
  exact h
theorem one_paint {l f : Int} {e : Option Int} (hl : 0 ≤ l ∧ l ≤ 2) (ho : MA.Ok (f, e)) : m_Holding_painted [.fr (hdD []), .fr (.int l), .fr (.int f), .fr (oD e)] S = .ok (.val (.fr (hdD (oneH l f e))), S) :=
  paint_run (F := sF f e) wf (sF_few f e) (nil_hd (sF_0 f e)) hl ho (sF_f f e) (sF_e f e)
theorem one_run {l f : Int} {e : Option Int} (hl : 0 ≤ l ∧ l ≤ 2) (ho : MA.Ok (f, e)) : m_span_holding [.fr (.int l), .fr (.int f), .fr (oD e)] S = .ok (.val (.fr (hdD (oneH l f e))), S) := by
  have e1 := nil_init wf
  have e2 := nil_mk wf
  have e3 := one_paint wf hl ho
  have e4 : ∀ (cc : Bool) (g : FnM) (m : AM) (rho : Slots), k_meth cc [("Holding", g)] "painted" m rho (.fr (hdD []), S) = (m rho S).bind (k_methb cc g (.fr (hdD []))) := fun cc g m rho => kPaint cc g m rho
  simp only [RR, DL.isNon, List.replicate_succ, List.replicate_zero, List.set_cons_zero, List.set_cons_succ, List.getElem?_cons_zero, List.getElem?_cons_succ, Option.map_some, Nat.reduceSub, and_self, and_true, true_and, decide_true, decide_false, if_true, if_false, Bool.false_eq_true, Bool.not_true, Bool.not_false, Nat.reduceAdd, Nat.reduceMul, Nat.reduceLeDiff, m_span_holding, b_span_holding, e1, e2, e4, e3, leave_val wf]
theorem oneW_run {cs ls : List Int} (h : Cel cs ls) {l f : Int} {e : Option Int} (hl : 0 ≤ l ∧ l ≤ 2) (ho : MA.Ok (f, e)) : m_Holding_within [.fr (hdD (oneH l f e)), .fr (hdD (invH (cellH cs ls)))] S = .ok (.val (.fr (.bl (G l f e (cellH cs ls)))), S) :=
  hwithin_run wf (big_few h f e) (hd_mono (one_hd hl ho).1 fun x hx => List.mem_append.mpr (.inr hx)) (hd_mono (inv_hd h.few h.hd.1).1 fun x hx => List.mem_append.mpr (.inl hx))
end
theorem rngP (a : Int) (n : Nat) : rngS a n = ((List.range n).map fun k => D.int (a + ((k : Nat) : Int))).map SV.fr := by
  rw [List.map_map]
  rfl
def lawG (l : Int) (ls : List Int) (p q : Nat) : Bool := (List.range (q + 1 - p)).all fun k => decide (l + ls.getD (p + k) 0 ≤ 2)
theorem lawG_iff {l : Int} {ls : List Int} {p q : Nat} : lawG l ls p q = true ↔ ∀ i, p ≤ i → i ≤ q → l + ls.getD i 0 ≤ 2 := by
  unfold lawG
  rw [List.all_eq_true]
  constructor
  · intro h i h1 h2
    have := h (i - p) (List.mem_range.mpr (by omega))
    rw [show p + (i - p) = i by omega] at this
    exact of_decide_eq_true this
  · intro h k hk
    have := List.mem_range.mp hk
    exact decide_eq_true (h (p + k) (by omega) (by omega))
theorem gr_eq {cs ls : List Int} (h : Cel cs ls) {l : Int} (hl : 0 ≤ l ∧ l ≤ 2) {p q : Nat} {c : Int} (hc : cs[p]? = some c) (hpq : p ≤ q) (hq : q < cs.length) : lawG l ls p q = G l c (lastAt cs q) (cellH cs ls) := by
  obtain ⟨o1, o2, o3⟩ := span_ok h hc hpq
  rw [Bool.eq_iff_iff, lawG_iff, G_iff h hl o1]
  constructor
  · intro k x hx cv
    obtain ⟨i, hi⟩ := cell_ex h.fs hx
    have := (cov_cell h.fs hi hc).mp cv
    rw [cell_val h hi]
    exact k i this.1 this.2
  · intro k i h1 h2
    have hi := inc_first h.fs (List.getElem?_eq_getElem (show i < cs.length by omega))
    have := k cs[i] (h.x0 hi) ((cov_cell h.fs hi hc).mpr ⟨h1, h2⟩)
    rwa [cell_val h hi] at this
def tInt : D → Bool
  | .int _ => true
  | .bl _ => true
  | _ => false
def tBl : D → Bool
  | .bl _ => true
  | _ => false
def tStr : D → Bool
  | .str _ => true
  | _ => false
def tTup : D → Bool
  | .tup _ => true
  | _ => false
def tLst : D → Bool
  | .lst _ => true
  | .scr _ => true
  | _ => false
theorem isi_x {d : D} (h : isX d = true) (S : Store) : isiG [.fr d, .fr (.ty "int")] S = .ok (.fr (.bl (tInt d)), S) ∧ isiG [.fr d, .fr (.ty "bool")] S = .ok (.fr (.bl (tBl d)), S) ∧
    isiG [.fr d, .fr (.ty "str")] S = .ok (.fr (.bl (tStr d)), S) ∧ isiG [.fr d, .fr (.ty "tuple")] S = .ok (.fr (.bl (tTup d)), S) ∧ isiG [.fr d, .fr (.ty "list")] S = .ok (.fr (.bl (tLst d)), S) := by
  cases d <;> first | exact ⟨rfl, rfl, rfl, rfl, rfl⟩ | (exfalso; revert h; simp [isX]; done)
theorem isn_x {d : D} (h : d ≠ .non) (S : Store) : isG false (.fr d) (.fr .non) S = .ok (.fr (.bl false), S) := by
  cases d <;> first | rfl | exact absurd rfl h
def isI : D → Bool
  | .int _ => true
  | _ => false
def byteB : D → Bool
  | .int i => decide (0 ≤ i)
  | _ => false
def levB : D → Bool
  | .int i => decide (0 ≤ i) && decide (i ≤ 2)
  | _ => false
def endB : D → D → Bool
  | .int _, .non => true
  | .int a, .int b => decide (0 ≤ b) && decide (a ≤ b)
  | _, _ => false
def callB : D → Bool
  | .tup [l, f, z] => levB l && (byteB f && endB f z)
  | _ => false
theorem byteB_int {d : D} (h : byteB d = true) : ∃ i, d = .int i ∧ 0 ≤ i := by
  cases d with
  | int i => exact ⟨i, rfl, by simpa [byteB] using h⟩
  | _ => simp [byteB] at h
theorem endB_no {a : Int} {z : D} (h : z ≠ .non) (hb : byteB z = false) : endB (.int a) z = false := by
  cases z with
  | non => exact absurd rfl h
  | int b =>
    simp only [byteB, endB] at hb ⊢
    rw [hb, Bool.false_and]
  | _ => rfl
theorem endB_yes {a b : Int} (h : 0 ≤ b) : endB (.int a) (.int b) = decide (a ≤ b) := by
  simp only [endB]
  rw [decide_eq_true h, Bool.true_and]
section
variable {S : Store} (wf : WF S)
include wf
theorem integer_x {d : D} (h : isX d = true) : m_is_integer [.fr d] S = .ok (.val (.fr (.bl (isI d))), S) := by
  obtain ⟨e1, e2, _⟩ := isi_x h S
  cases d <;> first
    | (exfalso; revert h; simp [isX]; done)
    | (simp only [tInt, tBl, isI] at e1 e2 ⊢; simp only [RR, DL.isNon, List.replicate_succ, List.replicate_zero, List.set_cons_zero, List.set_cons_succ, List.getElem?_cons_zero, List.getElem?_cons_succ, Option.map_some, Nat.reduceSub, and_self, and_true, true_and, decide_true, decide_false, if_true, if_false, Bool.false_eq_true, Bool.not_true, Bool.not_false, Nat.reduceAdd, Nat.reduceMul, Nat.reduceLeDiff, m_is_integer, b_is_integer, e1, e2, leave_val wf])
theorem byte_x {d : D} (h : isX d = true) : m_is_byte [.fr d] S = .ok (.val (.fr (.bl (byteB d))), S) := by
  have e := integer_x wf h
  cases d <;> first
    | (exfalso; revert h; simp [isX]; done)
    | (simp only [isI, byteB] at e ⊢; simp only [RR, DL.isNon, List.replicate_succ, List.replicate_zero, List.set_cons_zero, List.set_cons_succ, List.getElem?_cons_zero, List.getElem?_cons_succ, Option.map_some, Nat.reduceSub, and_self, and_true, true_and, decide_true, decide_false, if_true, if_false, Bool.false_eq_true, Bool.not_true, Bool.not_false, Nat.reduceAdd, Nat.reduceMul, Nat.reduceLeDiff, m_is_byte, b_is_byte, e, leave_val wf])
theorem level_x {d : D} (h : isX d = true) : m_is_level [.fr d] S = .ok (.val (.fr (.bl (levB d))), S) := by
  have e := integer_x wf h
  cases d with
  | int i =>
    simp only [isI, levB] at e ⊢
    by_cases q : 0 ≤ i
    · rw [decide_eq_true q, Bool.true_and]
      simp only [RR, DL.isNon, List.replicate_succ, List.replicate_zero, List.set_cons_zero, List.set_cons_succ, List.getElem?_cons_zero, List.getElem?_cons_succ, Option.map_some, Nat.reduceSub, and_self, and_true, true_and, decide_true, decide_false, if_true, if_false, Bool.false_eq_true, Bool.not_true, Bool.not_false, Nat.reduceAdd, Nat.reduceMul, Nat.reduceLeDiff, m_is_level, b_is_level, m_is_between, b_is_between, e, decide_eq_true q, leave_val wf]
    · rw [decide_eq_false q, Bool.false_and]
      simp only [RR, DL.isNon, List.replicate_succ, List.replicate_zero, List.set_cons_zero, List.set_cons_succ, List.getElem?_cons_zero, List.getElem?_cons_succ, Option.map_some, Nat.reduceSub, and_self, and_true, true_and, decide_true, decide_false, if_true, if_false, Bool.false_eq_true, Bool.not_true, Bool.not_false, Nat.reduceAdd, Nat.reduceMul, Nat.reduceLeDiff, m_is_level, b_is_level, m_is_between, b_is_between, e, decide_eq_false q, leave_val wf]
  | _ => first
    | (exfalso; revert h; simp [isX]; done)
    | (simp only [isI, levB] at e ⊢; simp only [RR, DL.isNon, List.replicate_succ, List.replicate_zero, List.set_cons_zero, List.set_cons_succ, List.getElem?_cons_zero, List.getElem?_cons_succ, Option.map_some, Nat.reduceSub, and_self, and_true, true_and, decide_true, decide_false, if_true, if_false, Bool.false_eq_true, Bool.not_true, Bool.not_false, Nat.reduceAdd, Nat.reduceMul, Nat.reduceLeDiff, m_is_level, b_is_level, m_is_between, b_is_between, e, leave_val wf])
theorem fault_x {f z : D} (hf : isX f = true) (hz : isX z = true) : m_span_fault [.fr f, .fr z] S = .ok (.val (.fr (if byteB f = true then (if endB f z = true then .non else .int 1) else .int 0)), S) := by
  have e1 := byte_x wf hf
  have e2 := byte_x wf hz
  cases hb : byteB f with
  | false =>
    rw [hb] at e1
    rw [if_neg (by decide)]
    simp only [RR, DL.isNon, List.replicate_succ, List.replicate_zero, List.set_cons_zero, List.set_cons_succ, List.getElem?_cons_zero, List.getElem?_cons_succ, Option.map_some, Nat.reduceSub, and_self, and_true, true_and, decide_true, decide_false, if_true, if_false, Bool.false_eq_true, Bool.not_true, Bool.not_false, Nat.reduceAdd, Nat.reduceMul, Nat.reduceLeDiff, m_span_fault, b_span_fault, e1, leave_val wf]
  | true =>
    rw [hb] at e1
    rw [if_pos rfl]
    cases f with
    | int a =>
      by_cases hn : z = .non
      · subst hn
        rw [if_pos (show endB (.int a) .non = true from rfl)]
        simp only [RR, DL.isNon, List.replicate_succ, List.replicate_zero, List.set_cons_zero, List.set_cons_succ, List.getElem?_cons_zero, List.getElem?_cons_succ, Option.map_some, Nat.reduceSub, and_self, and_true, true_and, decide_true, decide_false, if_true, if_false, Bool.false_eq_true, Bool.not_true, Bool.not_false, Nat.reduceAdd, Nat.reduceMul, Nat.reduceLeDiff, m_span_fault, b_span_fault, e1, leave_val wf]
      · have isn := isn_x hn S
        cases h2 : byteB z with
        | false =>
          rw [h2] at e2
          rw [endB_no hn h2, if_neg (by decide)]
          simp only [RR, DL.isNon, List.replicate_succ, List.replicate_zero, List.set_cons_zero, List.set_cons_succ, List.getElem?_cons_zero, List.getElem?_cons_succ, Option.map_some, Nat.reduceSub, and_self, and_true, true_and, decide_true, decide_false, if_true, if_false, Bool.false_eq_true, Bool.not_true, Bool.not_false, Nat.reduceAdd, Nat.reduceMul, Nat.reduceLeDiff, m_span_fault, b_span_fault, e1, e2, isn, leave_val wf]
        | true =>
          obtain ⟨b, rfl, q⟩ := byteB_int h2
          rw [h2] at e2
          rw [endB_yes q]
          by_cases r : a ≤ b
          · rw [decide_eq_true r, if_pos rfl]
            simp only [RR, DL.isNon, List.replicate_succ, List.replicate_zero, List.set_cons_zero, List.set_cons_succ, List.getElem?_cons_zero, List.getElem?_cons_succ, Option.map_some, Nat.reduceSub, and_self, and_true, true_and, decide_true, decide_false, if_true, if_false, Bool.false_eq_true, Bool.not_true, Bool.not_false, Nat.reduceAdd, Nat.reduceMul, Nat.reduceLeDiff, m_span_fault, b_span_fault, e1, e2, isn, decide_eq_true r, leave_val wf]
          · rw [decide_eq_false r, if_neg (by decide)]
            simp only [RR, DL.isNon, List.replicate_succ, List.replicate_zero, List.set_cons_zero, List.set_cons_succ, List.getElem?_cons_zero, List.getElem?_cons_succ, Option.map_some, Nat.reduceSub, and_self, and_true, true_and, decide_true, decide_false, if_true, if_false, Bool.false_eq_true, Bool.not_true, Bool.not_false, Nat.reduceAdd, Nat.reduceMul, Nat.reduceLeDiff, m_span_fault, b_span_fault, e1, e2, isn, decide_eq_false r, leave_val wf]
    | _ => simp [byteB] at hb
theorem span_x {f z : D} (hf : isX f = true) (hz : isX z = true) : m_is_span [.fr (.tup [f, z])] S = .ok (.val (.fr (.bl (byteB f && endB f z))), S) := by
  have e1 := fault_x wf hf hz
  have e2 : isiG [.fr (.tup [f, z]), .fr (.ty "tuple")] S = .ok (.fr (.bl true), S) := rfl
  have e3 : lenG [.fr (.tup [f, z])] S = .ok (.fr (.int 2), S) := rfl
  have is0 : isG false (.fr (.int 0)) (.fr .non) S = .ok (.fr (.bl false), S) := rfl
  have is1 : isG false (.fr (.int 1)) (.fr .non) S = .ok (.fr (.bl false), S) := rfl
  cases hb : byteB f with
  | false =>
    rw [hb, if_neg (by decide)] at e1
    simp only [RR, DL.isNon, List.replicate_succ, List.replicate_zero, List.set_cons_zero, List.set_cons_succ, List.getElem?_cons_zero, List.getElem?_cons_succ, Option.map_some, Nat.reduceSub, and_self, and_true, true_and, decide_true, decide_false, if_true, if_false, Bool.false_eq_true, Bool.not_true, Bool.not_false, Nat.reduceAdd, Nat.reduceMul, Nat.reduceLeDiff, m_is_span, b_is_span, e1, e2, e3, is0, Bool.false_and, leave_val wf]
  | true =>
    rw [hb, if_pos rfl] at e1
    cases he : endB f z with
    | false =>
      rw [he, if_neg (by decide)] at e1
      simp only [RR, DL.isNon, List.replicate_succ, List.replicate_zero, List.set_cons_zero, List.set_cons_succ, List.getElem?_cons_zero, List.getElem?_cons_succ, Option.map_some, Nat.reduceSub, and_self, and_true, true_and, decide_true, decide_false, if_true, if_false, Bool.false_eq_true, Bool.not_true, Bool.not_false, Nat.reduceAdd, Nat.reduceMul, Nat.reduceLeDiff, m_is_span, b_is_span, e1, e2, e3, is1, Bool.true_and, leave_val wf]
    | true =>
      rw [he, if_pos rfl] at e1
      simp only [RR, DL.isNon, List.replicate_succ, List.replicate_zero, List.set_cons_zero, List.set_cons_succ, List.getElem?_cons_zero, List.getElem?_cons_succ, Option.map_some, Nat.reduceSub, and_self, and_true, true_and, decide_true, decide_false, if_true, if_false, Bool.false_eq_true, Bool.not_true, Bool.not_false, Nat.reduceAdd, Nat.reduceMul, Nat.reduceLeDiff, m_is_span, b_is_span, e1, e2, e3, Bool.true_and, leave_val wf]
end
section
variable {S : Store} (wf : WF S)
include wf
theorem plain3_x {l f z : D} (hl : isX l = true) (hf : isX f = true) (hz : isX z = true) : m_is_plain_call [.fr (.tup [l, f, z])] S = .ok (.val (.fr (.bl (callB (.tup [l, f, z])))), S) := by
  have e2 : isiG [.fr (.tup [l, f, z]), .fr (.ty "tuple")] S = .ok (.fr (.bl true), S) := rfl
  have e3 : lenG [.fr (.tup [l, f, z])] S = .ok (.fr (.int 3), S) := rfl
  have e4 := level_x wf hl
  have e5 := span_x wf hf hz
  have ct : cutA [l, f, z] (some 1) none = [f, z] := rfl
  simp only [callB]
  cases hb2 : levB l with
  | false =>
    rw [hb2] at e4
    simp only [RR, DL.isNon, List.replicate_succ, List.replicate_zero, List.set_cons_zero, List.set_cons_succ, List.getElem?_cons_zero, List.getElem?_cons_succ, Option.map_some, Nat.reduceSub, and_self, and_true, true_and, decide_true, decide_false, if_true, if_false, Bool.false_eq_true, Bool.not_true, Bool.not_false, Nat.reduceAdd, Nat.reduceMul, Nat.reduceLeDiff, m_is_plain_call, b_is_plain_call, e2, e3, e4, Bool.false_and, leave_val wf]
  | true =>
    rw [hb2] at e4
    simp only [RR, DL.isNon, List.replicate_succ, List.replicate_zero, List.set_cons_zero, List.set_cons_succ, List.getElem?_cons_zero, List.getElem?_cons_succ, Option.map_some, Nat.reduceSub, and_self, and_true, true_and, decide_true, decide_false, if_true, if_false, Bool.false_eq_true, Bool.not_true, Bool.not_false, Nat.reduceAdd, Nat.reduceMul, Nat.reduceLeDiff, m_is_plain_call, b_is_plain_call, e2, e3, e4, ct, e5, Bool.true_and, leave_val wf]
end

theorem oD_x (e : Option Int) : isX (oD e) = true := by cases e <;> rfl
def PC (d : D) : Prop := ∃ (l f : Int) (e : Option Int), d = .tup [.int l, .int f, oD e] ∧ (0 ≤ l ∧ l ≤ 2) ∧ 0 ≤ f ∧ ∀ i, e = some i → f ≤ i
structure PG (ps : List (List D)) : Prop where
  n1 : 1 ≤ ps.length
  n4 : ps.length ≤ 4
  it : ∀ p ∈ ps, (∀ d ∈ p, PC d) ∧ p ≠ []
  sum : (ps.map List.length).sum ≤ 6
theorem sum_geN : ∀ {l : List Nat} {a : Nat}, a ∈ l → a ≤ l.sum
  | b :: l, a, h => by
    rw [List.sum_cons]
    rcases List.mem_cons.mp h with rfl | h
    · omega
    · have := sum_geN h; omega
theorem PG.len {ps : List (List D)} (g : PG ps) {p : List D} (h : p ∈ ps) : 1 ≤ p.length ∧ p.length ≤ 6 :=
  ⟨List.length_pos_iff.mpr (g.it p h).2, Nat.le_trans (sum_geN (List.mem_map_of_mem h)) g.sum⟩
abbrev crwD (ps : List (List D)) : D := .ins "Crowd" [("kept_programs", .lst (ps.map D.lst))]
section
variable {S : Store} (wf : WF S)
include wf
theorem pcall_run {d : D} (h : PC d) : m_is_plain_call [.fr d] S = .ok (.val (.fr (.bl true)), S) := by
  obtain ⟨l, f, e, rfl, hl, hf, he⟩ := h
  rw [plain3_x wf (l := .int l) (f := .int f) (z := oD e) rfl rfl (oD_x e)]
  have : callB (.tup [.int l, .int f, oD e]) = true := by
    cases e with
    | none => simp only [oD, callB, levB, byteB, endB, decide_eq_true hl.1, decide_eq_true hl.2, decide_eq_true hf, Bool.and_true]
    | some i => simp only [oD, callB, levB, byteB, endB, decide_eq_true hl.1, decide_eq_true hl.2, decide_eq_true hf, decide_eq_true (he i rfl), decide_eq_true (Int.le_trans hf (he i rfl)), Bool.and_true]
  rw [this]
theorem isprog_run {p : List D} (h : ∀ d ∈ p, PC d) (h0 : p ≠ []) (hl : p.length ≤ 1000) : m_is_program [.fr (.lst p)] S = .ok (.val (.fr (.bl true)), S) := by
  have lv := leave_val wf (d := .bl true)
  have pl := List.length_pos_iff.mpr h0
  have e1 : isiG [.fr (.lst p), .fr (.ty "list")] S = .ok (.fr (.bl true), S) := rfl
  have q' : decide ((p.length : Int) > 0) = true := decide_eq_true (by omega)
  have cc : lcM (fun _ => True) (gNm 2) tTr (eCall m_is_plain_call false (aC (eV 2) aN)) [1, 2] [some (.fr (.lst p)), none, none] (p.map SV.fr) S [] = .ok ((p.map fun _ => D.bl true).map SV.fr, S) := by
    have := lc_gen (S := S) (gm := gNm 2) (t := tTr) (e := eCall m_is_plain_call false (aC (eV 2) aN)) (own := [1, 2]) (rho := [some (.fr (.lst p)), none, none]) (fun d : D => d) (fun _ => D.bl true) p (by omega) fun d hd as => by
      have e := pcall_run (wf_acc wf as) (h d hd)
      simp only [RR, DL.isNon, List.replicate_succ, List.replicate_zero, List.set_cons_zero, List.set_cons_succ, List.getElem?_cons_zero, List.getElem?_cons_succ, Option.map_some, Nat.reduceSub, and_self, and_true, true_and, decide_true, decide_false, if_true, if_false, Bool.false_eq_true, Bool.not_true, Bool.not_false, Nat.reduceAdd, Nat.reduceMul, Nat.reduceLeDiff, e]
    rw [List.map_id'] at this
    exact this
  have al : allG [.fr (.lst (p.map fun _ => D.bl true))] S = .ok (.fr (.bl true), S) := by
    have := all_bls (S := S) (p.map fun _ => true)
    rw [List.map_map] at this
    rw [show (p.map fun _ => D.bl true) = p.map (D.bl ∘ fun _ => true) from rfl, this, List.all_map]
    congr 4
    exact List.all_eq_true.mpr fun _ _ => rfl
  simp only [RR, DL.isNon, List.replicate_succ, List.replicate_zero, List.set_cons_zero, List.set_cons_succ, List.getElem?_cons_zero, List.getElem?_cons_succ, Option.map_some, Nat.reduceSub, and_self, and_true, true_and, decide_true, decide_false, if_true, if_false, Bool.false_eq_true, Bool.not_true, Bool.not_false, Nat.reduceAdd, Nat.reduceMul, Nat.reduceLeDiff, m_is_program, b_is_program, e1, q', cc, s_lceF wf, al, lv]
theorem areprogs_run {ps : List (List D)} (g : PG ps) : m_are_programs [.fr (.lst (ps.map D.lst))] S = .ok (.val (.fr (.bl true)), S) := by
  have lv := leave_val wf (d := .bl true)
  have n1 := g.n1
  have n4 := g.n4
  have hl : (ps.map D.lst).length = ps.length := List.length_map ..
  have e1 : isiG [.fr (.lst (ps.map D.lst)), .fr (.ty "list")] S = .ok (.fr (.bl true), S) := rfl
  have p1 : decide ((1 : Int) ≤ ((ps.map D.lst).length : Int)) = true := decide_eq_true (by omega)
  have p2 : decide (((ps.map D.lst).length : Int) ≤ 4) = true := decide_eq_true (by omega)
  have c1 : lcM (fun _ => True) (gNm 2) tTr (eCall m_is_program false (aC (eV 2) aN)) [1, 2] [some (.fr (.lst (ps.map D.lst))), none, none] ((ps.map D.lst).map SV.fr) S [] = .ok ((ps.map fun _ => D.bl true).map SV.fr, S) := 
    lc_gen D.lst (fun _ => D.bl true) ps (by omega) fun p hp as => by
      have e := isprog_run (wf_acc wf as) (g.it p hp).1 (g.it p hp).2 (by have := (g.len hp).2; omega)
      simp only [RR, DL.isNon, List.replicate_succ, List.replicate_zero, List.set_cons_zero, List.set_cons_succ, List.getElem?_cons_zero, List.getElem?_cons_succ, Option.map_some, Nat.reduceSub, and_self, and_true, true_and, decide_true, decide_false, if_true, if_false, Bool.false_eq_true, Bool.not_true, Bool.not_false, Nat.reduceAdd, Nat.reduceMul, Nat.reduceLeDiff, e]
  have al : allG [.fr (.lst (ps.map fun _ => D.bl true))] S = .ok (.fr (.bl true), S) := by
    have := all_bls (S := S) (ps.map fun _ => true)
    rw [List.map_map] at this
    rw [show (ps.map fun _ => D.bl true) = ps.map (D.bl ∘ fun _ => true) from rfl, this, List.all_map]
    congr 4
    exact List.all_eq_true.mpr fun _ _ => rfl
  have c2 : lcM (fun _ => True) (gNm 2) tTr (eA lenG (aC (eV 2) aN)) [1, 2] [some (.fr (.lst (ps.map D.lst))), none, none] ((ps.map D.lst).map SV.fr) S [] = .ok ((ps.map fun p => D.int p.length).map SV.fr, S) :=
    lc_gen D.lst (fun p => D.int p.length) ps (by omega) fun p hp as => by simp only [RR, DL.isNon, List.replicate_succ, List.replicate_zero, List.set_cons_zero, List.set_cons_succ, List.getElem?_cons_zero, List.getElem?_cons_succ, Option.map_some, Nat.reduceSub, and_self, and_true, true_and, decide_true, decide_false, if_true, if_false, Bool.false_eq_true, Bool.not_true, Bool.not_false, Nat.reduceAdd, Nat.reduceMul, Nat.reduceLeDiff]
  have su : sumG [.fr (.lst (ps.map fun p => D.int p.length))] S = .ok (.fr (.int ((ps.map List.length).sum : Nat)), S) := by
    have := sum_ints (S := S) (ps.map fun p => ((p.length : Nat) : Int))
    rw [List.map_map] at this
    rw [show (ps.map fun p => D.int p.length) = ps.map (D.int ∘ fun p => ((p.length : Nat) : Int)) from rfl, this]
    congr 4
    clear this c1 c2 al p1 p2 e1 hl n1 n4 g
    induction ps with
    | nil => rfl
    | cons a r ih => simp only [List.map_cons, List.sum_cons, ih]; omega
  have d6 : decide ((((ps.map List.length).sum : Nat) : Int) ≤ 6) = true := decide_eq_true (by have := g.sum; omega)
  generalize (ps.map List.length).sum = n at *
  simp only [RR, DL.isNon, List.replicate_succ, List.replicate_zero, List.set_cons_zero, List.set_cons_succ, List.getElem?_cons_zero, List.getElem?_cons_succ, Option.map_some, Nat.reduceSub, and_self, and_true, true_and, decide_true, decide_false, if_true, if_false, Bool.false_eq_true, Bool.not_true, Bool.not_false, Nat.reduceAdd, Nat.reduceMul, Nat.reduceLeDiff, m_are_programs, b_are_programs, e1, p1, p2, c1, s_lceF wf, al, c2, su, d6, lv]
theorem cinit_run {ps : List (List D)} (g : PG ps) : m_Crowd___init__ [.cell S.length, .fr (.lst (ps.map D.lst))] (S ++ [.ins "Crowd" []]) = .ok (.val (.fr .non), S ++ [.ins "Crowd" [("kept_programs", .fr (.lst (ps.map D.lst)))]]) := by
  have w2 : WF (S ++ [.ins "Crowd" []]) := wf.snoc rfl
  have w3 : WF (S ++ [.ins "Crowd" [("kept_programs", .fr (.lst (ps.map D.lst)))]]) := wf.snoc rfl
  have lv := leave_val w3 .non
  rw [List.length_append, List.length_singleton] at lv
  have ar := areprogs_run w2 g
  have cc : lcM (fun _ => True) (gNm 3) tTr (eA (listG false) (aC (eV 3) aN)) [2, 3] [some (.cell S.length), some (.fr (.lst (ps.map D.lst))), none, none] ((ps.map D.lst).map SV.fr) (S ++ [.ins "Crowd" []]) [] = .ok ((ps.map D.lst).map SV.fr, S ++ [.ins "Crowd" []]) :=
    lc_gen D.lst D.lst ps (by have := g.n4; omega) fun p hp as => by
      have e : ∀ S : Store, listG false [.fr (.lst p)] S = .ok (.fr (.lst p), S) := fun S => by
        unfold listG
        simp only [rdS, rdL, newL0, DL.allFr_map, Bool.false_eq_true, if_false]
      simp only [RR, DL.isNon, List.replicate_succ, List.replicate_zero, List.set_cons_zero, List.set_cons_succ, List.getElem?_cons_zero, List.getElem?_cons_succ, Option.map_some, Nat.reduceSub, and_self, and_true, true_and, decide_true, decide_false, if_true, if_false, Bool.false_eq_true, Bool.not_true, Bool.not_false, Nat.reduceAdd, Nat.reduceMul, Nat.reduceLeDiff, e]
  have sf := s_sfb (S := S) (rho := [some (.cell S.length), some (.fr (.lst (ps.map D.lst))), none, none]) (x := .fr (.lst (ps.map D.lst))) (ns := ["Crowd"]) (f := "kept_programs") (n := "Crowd") (fs := []) ⟨by simp, by simp⟩
  have ep : putS "kept_programs" (.fr (.lst (ps.map D.lst))) [] = [(("kept_programs" : Str), SV.fr (.lst (ps.map D.lst)))] := rfl
  rw [ep] at sf
  simp only [RR, DL.isNon, List.replicate_succ, List.replicate_zero, List.set_cons_zero, List.set_cons_succ, List.getElem?_cons_zero, List.getElem?_cons_succ, Option.map_some, Nat.reduceSub, and_self, and_true, true_and, decide_true, decide_false, if_true, if_false, Bool.false_eq_true, Bool.not_true, Bool.not_false, Nat.reduceAdd, Nat.reduceMul, Nat.reduceLeDiff, m_Crowd___init__, b_Crowd___init__, ar, cc, s_lceF w2, sf]
  rw [List.length_append, List.length_singleton]
  exact lv
theorem cmk (ps : List (List D)) : mkEnd false S.length (.val (.fr .non), S ++ [.ins "Crowd" [("kept_programs", .fr (.lst (ps.map D.lst)))]]) = .ok (.fr (crwD ps), S) := s_mkEnd wf rfl
end
theorem fldC (ps : List (List D)) (S : Store) : fldG ["Crowd"] "kept_programs" (.fr (crwD ps)) S = .ok (.fr (.lst (ps.map D.lst)), S) := rfl
abbrev Rw := Int × Nat × Nat
abbrev rwD (r : Rw) : D := .tup [.int r.1, .int (r.2.1 : Nat), .int (r.2.2 : Nat)]
structure RwOk (N : Nat) (r : Rw) : Prop where
  l : 0 ≤ r.1 ∧ r.1 ≤ 2
  pq : r.2.1 ≤ r.2.2
  q : r.2.2 < N
structure Pgs (N : Nat) (pss : List (List Rw)) : Prop where
  n1 : 1 ≤ pss.length
  n4 : pss.length ≤ 4
  it : ∀ p ∈ pss, (∀ r ∈ p, RwOk N r) ∧ p ≠ []
  sum : (pss.map List.length).sum ≤ 6
abbrev pgsD (pss : List (List Rw)) : D := .lst (pss.map fun p => D.lst (p.map rwD))
def tcD (cs : List Int) (r : Rw) : D := .tup [.int r.1, .int (cs.getD r.2.1 0), oD (lastAt cs r.2.2)]
def tps (cs : List Int) (pss : List (List Rw)) : List (List D) := pss.map fun p => p.map (tcD cs)
theorem Pgs.len {N : Nat} {pss : List (List Rw)} (g : Pgs N pss) {p : List Rw} (h : p ∈ pss) : 1 ≤ p.length ∧ p.length ≤ 6 :=
  ⟨List.length_pos_iff.mpr (g.it p h).2, Nat.le_trans (sum_geN (List.mem_map_of_mem h)) g.sum⟩
theorem getD_at {cs : List Int} {k : Nat} (h : k < cs.length) : cs[k]? = some (cs.getD k 0) := by
  rw [List.getD_eq_getElem?_getD, List.getElem?_eq_getElem h]
  rfl
theorem zer_cel {cs : List Int} (h : MB.Fs cs) (hl : cs.length < 60) : Cel cs (List.replicate cs.length 0) := ⟨h, hl, List.length_replicate, fun l hl => by rw [List.eq_of_mem_replicate hl]; omega⟩
theorem tc_pc {cs : List Int} (h : MB.Fs cs) (hl : cs.length < 60) {r : Rw} (hr : RwOk cs.length r) : PC (tcD cs r) := by
  have c := getD_at (cs := cs) (k := r.2.1) (by have := hr.pq; have := hr.q; omega)
  obtain ⟨o1, o2, _⟩ := span_ok (zer_cel h hl) c hr.pq
  exact ⟨_, _, _, rfl, hr.l, o1.1, fun i hi => o1.2 i hi⟩
theorem tps_pg {cs : List Int} (h : MB.Fs cs) (hl : cs.length < 60) {pss : List (List Rw)} (g : Pgs cs.length pss) : PG (tps cs pss) := by
  refine ⟨by unfold tps; rw [List.length_map]; exact g.n1, by unfold tps; rw [List.length_map]; exact g.n4, fun p hp => ?_, ?_⟩
  · obtain ⟨q, hq, rfl⟩ := List.mem_map.mp hp
    refine ⟨fun d hd => ?_, fun e => (g.it q hq).2 (by simpa using e)⟩
    obtain ⟨r, hr, rfl⟩ := List.mem_map.mp hd
    exact tc_pc h hl ((g.it q hq).1 r hr)
  · unfold tps
    rw [List.map_map]
    have : (List.length ∘ fun p : List Rw => p.map (tcD cs)) = List.length := funext fun p => List.length_map ..
    rw [this]
    exact g.sum

theorem get70 (c : Cell) (R T : Store) (i : Nat) : (c :: (R ++ T))[R.length + (1 + i)]? = T[i]? := by
  rw [show R.length + (1 + i) = R.length + i + 1 by omega, List.getElem?_cons_succ, List.getElem?_append_right (by omega)]
  congr 1
  omega
theorem set70 (c x : Cell) (R T : Store) (i : Nat) : (c :: (R ++ T)).set (R.length + (1 + i)) x = c :: (R ++ T.set i x) := by
  rw [show R.length + (1 + i) = R.length + i + 1 by omega, List.set_cons_succ, List.set_append, if_neg (by omega)]
  congr 3
  omega
theorem wf_app70 {S T : Store} (h : WF S) (hT : ∀ c ∈ T, c.below (S.length + T.length) = true) : WF (S ++ T) := by
  unfold WF at h ⊢
  simp only [List.all_append, List.length_append, Bool.and_eq_true, List.all_eq_true] at h ⊢
  exact ⟨fun c hc => Cell.below_mono (Nat.le_add_right _ _) (h c hc), hT⟩
theorem below_lst {n m : Nat} {xs : List SV} (h : ∀ y ∈ xs, y.below n = true) (hm : n ≤ m) : Cell.below m (.lst xs) = true := by
  simp only [Cell.below, List.all_eq_true]
  exact fun y hy => SV.below_mono hm (h y hy)
def cf (a m : Nat) : List SV := (List.range m).map fun i => SV.cell (a + i)
theorem cf_succ (a m : Nat) : cf a (m + 1) = cf a m ++ [.cell (a + m)] := by unfold cf; rw [List.range_succ, List.map_append]; rfl
def blk (n : Nat) (ps : List (List D)) : Store := .lst (cf (n + 1) ps.length) :: ps.map fun p => .lst (p.map SV.fr)
theorem blk_len (n : Nat) (ps : List (List D)) : (blk n ps).length = ps.length + 1 := by simp [blk]
theorem mid_get {α : Type} (S : List α) (x : α) (U : List α) : (S ++ x :: U)[S.length]? = some x := by
  rw [List.getElem?_append_right (Nat.le_refl _), Nat.sub_self]
  rfl
theorem get71 (c : Cell) (R T : Store) (i : Nat) : (c :: (R ++ T))[R.length + 1 + i]? = T[i]? := by
  rw [Nat.add_assoc]
  exact get70 c R T i
theorem set71 (c x : Cell) (R T : Store) (i : Nat) : (c :: (R ++ T)).set (R.length + 1 + i) x = c :: (R ++ T.set i x) := by
  rw [Nat.add_assoc]
  exact set70 c x R T i
theorem ixN_nat {n m : Nat} (h : m < n) : ixN n (m : Int) = some m := by
  unfold ixN
  rw [if_pos (by omega), if_pos (by omega)]
  simp
theorem app71 {c : Cell} {R T : Store} {i : Nat} {xs : List SV} {y : SV} (h : T[i]? = some (.lst xs)) (hl : xs.length ≤ 1000) : appendG (.cell (R.length + 1 + i)) [y] (c :: (R ++ T)) = .ok (.fr .non, c :: (R ++ T.set i (.lst (xs ++ [y])))) := by
  have g : (c :: (R ++ T))[R.length + 1 + i]? = some (.lst xs) := by rw [get71, h]
  rw [app_at g (by omega), set71]
theorem ty71 {c : Cell} {R T : Store} {i : Nat} {xs : List SV} (h : T[i]? = some (.lst xs)) : tyS "list" (c :: (R ++ T)) (.cell (R.length + 1 + i)) = true := by
  have g : (c :: (R ++ T))[R.length + 1 + i]? = some (.lst xs) := by rw [get71, h]
  unfold tyS
  simp only [rdL, g]
  rfl
theorem cf_len (a m : Nat) : (cf a m).length = m := by unfold cf; rw [List.length_map, List.length_range]
theorem blk_0 (a : Nat) (ps : List (List D)) : (blk a ps)[0]? = some (.lst (cf (a + 1) ps.length)) := rfl
theorem blk_1 (a : Nat) {ps : List (List D)} {i : Nat} (h : i < ps.length) : (blk a ps)[1 + i]? = some (.lst (ps[i].map SV.fr)) := by
  unfold blk
  rw [Nat.add_comm 1 i, List.getElem?_cons_succ, List.getElem?_map, List.getElem?_eq_getElem h]
  rfl
theorem blk_snoc (n : Nat) (ps : List (List D)) (p : List D) : (blk n ps ++ [Cell.lst (p.map SV.fr)]).set 0 (Cell.lst (cf (n + 1) ps.length ++ [SV.cell (n + 1 + ps.length)])) = blk n (ps ++ [p]) := by
  unfold blk
  rw [List.length_append, List.length_singleton, cf_succ, List.map_append]
  rfl
theorem blk_below (n k : Nat) (ps : List (List D)) (h : n + 1 + ps.length ≤ k) : ∀ c ∈ blk n ps, c.below k = true := fun c hc => by
  rcases List.mem_cons.mp hc with rfl | hc
  · simp only [Cell.below, List.all_eq_true]
    intro y hy
    obtain ⟨i, hi, rfl⟩ := List.mem_map.mp hy
    rw [List.mem_range] at hi
    simp only [SV.below, decide_eq_true_eq]
    omega
  · obtain ⟨p, hp, rfl⟩ := List.mem_map.mp hc
    exact below_map _ _
theorem z_hi2 {S : Store} {n j : Nat} {xs : List SV} {ds : List D} (h : n ≤ j) (e : S[j]? = some (.lst xs)) (hx : allSn (frzD S n 3) xs = some ds) : frzSl S n (some (.cell j)) = some (.fr (.lst ds)) := by
  have q : frzSl S n (some (.cell j)) = if j < n then some (.cell j) else (frzD S n 4 (.cell j)).map SV.fr := rfl
  have r : frzD S n 4 (.cell j) = some (.lst ds) := by
    have : frzD S n 4 (.cell j) = if n ≤ j then (match S[j]? with
      | some (.lst ys) => (allSn (frzD S n 3) ys).map D.lst
      | some (.tup ys) => (allSn (frzD S n 3) ys).map D.tup
      | _ => none) else none := rfl
    rw [this, if_pos h, e]
    dsimp only
    rw [hx]
    rfl
  rw [q, if_neg (by omega), r]
  rfl
theorem frz3 {S : Store} {n j : Nat} {ds : List D} (h : n ≤ j) (e : S[j]? = some (.lst (ds.map SV.fr))) : frzD S n 3 (.cell j) = some (.lst ds) := by
  have : frzD S n 3 (.cell j) = if n ≤ j then (match S[j]? with
    | some (.lst ys) => (allSn (frzD S n 2) ys).map D.lst
    | some (.tup ys) => (allSn (frzD S n 2) ys).map D.tup
    | _ => none) else none := rfl
  rw [this, if_pos h, e]
  dsimp only
  rw [allSn_map (fun d => by rfl)]
  rfl
theorem frz_cells {S : Store} {n : Nat} {f : SV → Option D} : ∀ (m a : Nat) (ps : List (List D)), ps.length = m → (∀ i (h : i < ps.length), f (.cell (a + i)) = some (.lst ps[i])) → allSn f (cf a m) = some (ps.map D.lst)
  | 0, a, ps, hl, _ => by
    have : ps = [] := List.length_eq_zero_iff.mp hl
    subst this
    rfl
  | m + 1, a, [], hl, _ => by simp at hl
  | m + 1, a, p :: ps, hl, h => by
    have c : cf a (m + 1) = .cell a :: cf (a + 1) m := by
      unfold cf
      rw [List.range_succ_eq_map, List.map_cons, List.map_map]
      congr 1
      refine List.map_congr_left fun i _ => ?_
      show SV.cell (a + (i + 1)) = SV.cell (a + 1 + i)
      congr 1
      omega
    have h0 := h 0 (by simp)
    rw [Nat.add_zero, List.getElem_cons_zero] at h0
    rw [c, allSn, h0, frz_cells (S := S) (n := n) (f := f) m (a + 1) ps (by simpa using hl) (fun i hi => by
      have := h (i + 1) (by simpa using hi)
      rw [show a + (i + 1) = a + 1 + i by omega, List.getElem_cons_succ] at this
      exact this)]
    rfl

theorem row_turn {cs : List Int} (h0 : 0 < cs.length) (hz : cs.length ≤ 60) {Q : Store} (b : Bag) (hb : b.Ok) (x : SV) (p : List Rw) (hp : p.length ≤ 100) (w : WF (b.c :: (Q ++ [.lst ((p.map rwD).map SV.fr)]))) {x2 x3 x4 x5 x6 x7 x8 x10 x11 x12 x13 : Option SV} :
    ∃ (b' : Bag) (r : Rw) (y12 y13 : Option SV), Bag.Ok b' ∧ WF (b'.c :: (Q ++ [.lst (((p ++ [r]).map rwD).map SV.fr)])) ∧ RwOk cs.length r ∧
    (gNm 11 x [some (.cell 0), some (.fr (intsD cs)), x2, x3, x4, x5, x6, x7, x8, some (.cell (Q.length + 1)), x10, x11, x12, x13] (b.c :: (Q ++ [.lst ((p.map rwD).map SV.fr)]))).bind (k_body f_law_programs_1) =
      .ok (.nx, [some (.cell 0), some (.fr (intsD cs)), x2, x3, x4, x5, x6, x7, x8, some (.cell (Q.length + 1)), x10, some x, y12, y13], b'.c :: (Q ++ [.lst (((p ++ [r]).map rwD).map SV.fr)])) := by
  obtain ⟨v1, b1, l1, u1, k1, w1, e1⟩ := take_run b hb (cs.length : Int) (by omega) (lognat (by omega)) _ w
  obtain ⟨m1, rfl⟩ : ∃ n : Nat, v1 = n := ⟨v1.toNat, by omega⟩
  obtain ⟨v2, b2, l2, u2, k2, w2, e2⟩ := take_run b1 k1 3 (by decide) (by decide) _ w1
  obtain ⟨mm, hmm, h1, h2⟩ : ∃ mm : Nat, atI [D.int 1, D.int 1, D.int ((cs.length : Int) - (m1 : Int))] v2 = some (.int (mm : Int)) ∧ 0 < mm ∧ m1 + mm ≤ cs.length := by
    rcases (show v2 = 0 ∨ v2 = 1 ∨ v2 = 2 by omega) with rfl | rfl | rfl
    · exact ⟨1, at_0 _ _, by omega, by omega⟩
    · exact ⟨1, at_1 _ _ _, by omega, by omega⟩
    · exact ⟨cs.length - m1, by rw [at_2, show ((cs.length - m1 : Nat) : Int) = (cs.length : Int) - (m1 : Int) by omega], by omega, by omega⟩
  obtain ⟨v3, b3, l3, u3, k3, w3, e3⟩ := take_run b2 k2 (mm : Int) (by omega) (lognat (by omega)) _ w2
  obtain ⟨m3, rfl⟩ : ∃ n : Nat, v3 = n := ⟨v3.toNat, by omega⟩
  obtain ⟨v4, b4, l4, u4, k4, w4, e4⟩ := take_run b3 k3 6 (by decide) (by decide) _ w3
  obtain ⟨l, hl, el⟩ : ∃ l : Int, (0 ≤ l ∧ l ≤ 2) ∧ atI [D.int 0, D.int 1, D.int 1, D.int 2, D.int 2, D.int 2] v4 = some (.int l) := by
    rcases (show v4 = 0 ∨ v4 = 1 ∨ v4 = 2 ∨ v4 = 3 ∨ v4 = 4 ∨ v4 = 5 by omega) with rfl | rfl | rfl | rfl | rfl | rfl
    · exact ⟨_, by decide, at_0 _ _⟩
    · exact ⟨_, by decide, at_1 _ _ _⟩
    · exact ⟨_, by decide, at_2 _ _ _ _⟩
    · exact ⟨_, by decide, at_3 _ _ _ _ _⟩
    · exact ⟨_, by decide, at_4 _ _ _ _ _ _⟩
    · exact ⟨2, by decide, DL.atI_nat _ 5⟩
  have hc : ∀ b : Bag, (b.c :: (Q ++ [Cell.lst ((p.map rwD).map SV.fr)]))[Q.length + 1]? = some (.lst ((p.map rwD).map SV.fr)) := fun b => g1a
  have ty : ∀ b : Bag, tyS "list" (b.c :: (Q ++ [Cell.lst ((p.map rwD).map SV.fr)])) (.cell (Q.length + 1)) = true := fun b => ty_at (hc b)
  have ap := app_at (y := .fr (.tup [.int l, .int (m1 : Int), .int ((m1 : Int) + (m3 : Int))])) (hc b4) (by rw [List.length_map, List.length_map]; omega)
  have es : (b4.c :: (Q ++ [Cell.lst ((p.map rwD).map SV.fr)])).set (Q.length + 1) (.lst ((p.map rwD).map SV.fr ++ [.fr (.tup [.int l, .int (m1 : Int), .int ((m1 : Int) + (m3 : Int))])])) = b4.c :: (Q ++ [.lst (((p ++ [(l, m1, m1 + m3)]).map rwD).map SV.fr)]) := by
    rw [s1a, List.map_append, List.map_append]
    congr 5
  rw [es] at ap
  refine ⟨b4, (l, m1, m1 + m3), some (.fr (.int (m1 : Int))), some (.fr (.int ((m1 : Int) + (m3 : Int)))), k4, ?_, ⟨hl, by dsimp only; omega, by dsimp only; omega⟩, ?_⟩
  · rw [← es]
    refine w4.set _ (below_lst (n := 0) (fun y hy => ?_) (Nat.zero_le _))
    rcases List.mem_append.mp hy with hy | hy
    · obtain ⟨d, _, rfl⟩ := List.mem_map.mp hy; rfl
    · rcases List.mem_singleton.mp hy with rfl; rfl
  · simp only [RR, DL.isNon, List.replicate_succ, List.replicate_zero, List.set_cons_zero, List.set_cons_succ, List.getElem?_cons_zero, List.getElem?_cons_succ, Option.map_some, Nat.reduceSub, and_self, and_true, true_and, decide_true, decide_false, if_true, if_false, Bool.false_eq_true, Bool.not_true, Bool.not_false, Nat.reduceAdd, Nat.reduceMul, Nat.reduceLeDiff, f_law_programs_1, take_is, List.length_map, e1, e2, hmm, e3, s_mt appendG (ty b3), e4, el, ap]
theorem row_loop {cs : List Int} (h0 : 0 < cs.length) (hz : cs.length ≤ 60) {Q : Store} {x2 x3 x4 x5 x6 x7 x8 x10 : Option SV} : ∀ (xs : List SV) (b : Bag) (p : List Rw) (x11 x12 x13 : Option SV), b.Ok → p.length + xs.length ≤ 90 → (∀ r ∈ p, RwOk cs.length r) → WF (b.c :: (Q ++ [.lst ((p.map rwD).map SV.fr)])) →
    ∃ (b' : Bag) (p' : List Rw) (y11 y12 y13 : Option SV), Bag.Ok b' ∧ WF (b'.c :: (Q ++ [.lst ((p'.map rwD).map SV.fr)])) ∧ (∀ r ∈ p', RwOk cs.length r) ∧ p'.length = p.length + xs.length ∧
    loopM (fun _ => True) (gNm 11) f_law_programs_1 xs [some (.cell 0), some (.fr (intsD cs)), x2, x3, x4, x5, x6, x7, x8, some (.cell (Q.length + 1)), x10, x11, x12, x13] (b.c :: (Q ++ [.lst ((p.map rwD).map SV.fr)])) =
      .ok (.nx, [some (.cell 0), some (.fr (intsD cs)), x2, x3, x4, x5, x6, x7, x8, some (.cell (Q.length + 1)), x10, y11, y12, y13], b'.c :: (Q ++ [.lst ((p'.map rwD).map SV.fr)]))
  | [], b, p, x11, x12, x13, hb, _, hr, w => ⟨b, p, x11, x12, x13, hb, w, hr, rfl, loop_nil _ _ trivial⟩
  | x :: xs, b, p, x11, x12, x13, hb, hl, hr, w => by
    rw [List.length_cons] at hl
    obtain ⟨b1, r, y12, y13, k1, w1, r1, st⟩ := row_turn h0 hz b hb x p (by omega) w (x2 := x2) (x3 := x3) (x4 := x4) (x5 := x5) (x6 := x6) (x7 := x7) (x8 := x8) (x10 := x10) (x11 := x11) (x12 := x12) (x13 := x13)
    obtain ⟨b2, p2, z11, z12, z13, k2, w2, h2, l2, ih⟩ := row_loop h0 hz xs b1 (p ++ [r]) (some x) y12 y13 k1 (by rw [List.length_append, List.length_singleton]; omega) (fun q hq => by
      rcases List.mem_append.mp hq with hq | hq
      · exact hr q hq
      · rcases List.mem_singleton.mp hq with rfl; exact r1) w1 (x2 := x2) (x3 := x3) (x4 := x4) (x5 := x5) (x6 := x6) (x7 := x7) (x8 := x8) (x10 := x10)
    refine ⟨b2, p2, z11, z12, z13, k2, w2, h2, by rw [l2, List.length_append, List.length_singleton, List.length_cons]; omega, ?_⟩
    rw [loop_cons _ _ _ trivial, st, r_bind, s_turnN, ih]
abbrev rwsD (pss : List (List Rw)) : List (List D) := pss.map fun p => p.map rwD
theorem pgs_turn {cs : List Int} (h0 : 0 < cs.length) (hz : cs.length ≤ 60) {R : Store} (b : Bag) (hb : b.Ok) {M L k : Nat} (hM : M ≤ 10) (hk : k < M) (hL : M - k ≤ L) (hL6 : L ≤ 10) (pss : List (List Rw)) (hps : pss.length ≤ 10) (wR : WF (b.c :: R)) (w : WF (b.c :: (R ++ blk (R.length + 1) (rwsD pss)))) {x2 x3 x7 x8 x9 x10 x11 x12 x13 : Option SV} :
    ∃ (b' : Bag) (p : List Rw) (y8 y9 y10 y11 y12 y13 : Option SV), Bag.Ok b' ∧ WF (b'.c :: (R ++ blk (R.length + 1) (rwsD (pss ++ [p])))) ∧ (∀ r ∈ p, RwOk cs.length r) ∧ 1 ≤ p.length ∧ p.length ≤ L ∧ M - k - 1 ≤ L - p.length ∧
    (gNm 7 (.fr (.int (k : Int))) [some (.cell 0), some (.fr (intsD cs)), x2, x3, some (.fr (.int (M : Int))), some (.fr (.int (L : Int))), some (.cell (R.length + 1)), x7, x8, x9, x10, x11, x12, x13] (b.c :: (R ++ blk (R.length + 1) (rwsD pss)))).bind (k_body f_law_programs_2) =
      .ok (.nx, [some (.cell 0), some (.fr (intsD cs)), x2, x3, some (.fr (.int (M : Int))), some (.fr (.int ((L - p.length : Nat) : Int))), some (.cell (R.length + 1)), some (.fr (.int (k : Int))), y8, y9, y10, y11, y12, y13], b'.c :: (R ++ blk (R.length + 1) (rwsD (pss ++ [p])))) := by
  obtain ⟨room, hroom⟩ : ∃ room : Nat, room = L - (M - k - 1) := ⟨_, rfl⟩
  have er : (L : Int) - ((M : Int) - (k : Int) - 1) = (room : Int) := by omega
  have wN : WF (b.c :: (R ++ blk (R.length + 1) (rwsD pss) ++ [.lst []])) := w.snoc rfl
  obtain ⟨v1, b1, l1, u1, k1, w1, e1⟩ := take_run b hb (room : Int) (by omega) (lognat (by omega)) _ wN
  obtain ⟨m1, rfl⟩ : ∃ n : Nat, v1 = n := ⟨v1.toNat, by omega⟩
  obtain ⟨v2, b2, l2, u2, k2, w2, e2⟩ := take_run b1 k1 2 (by decide) (by decide) _ w1
  obtain ⟨ln, hln, n1, n2⟩ : ∃ ln : Nat, atI [D.int (1 + (m1 : Int)), D.int (room : Int)] (if (decide (v2 = 0) || decide ((k : Int) = (M : Int) - 1)) = true then 1 else 0) = some (.int (ln : Int)) ∧ 1 ≤ ln ∧ ln ≤ room := by
    split
    · exact ⟨room, at_1 _ _ _, by omega, by omega⟩
    · exact ⟨1 + m1, by rw [at_0]; congr 2, by omega, by omega⟩
  have eo : ∀ (A : EM) (rho : Slots) (S' : Store) (c : Bool) (r : Bool), True := fun _ _ _ _ _ => trivial
  obtain ⟨b3, p, y11, y12, y13, k3, w3, h3, l3, lp⟩ := row_loop h0 hz (Q := R ++ blk (R.length + 1) (rwsD pss)) (rngS 0 ln) b2 [] x11 x12 x13 k2 (by rw [rng_len, List.length_nil]; omega) nofun w2
    (x2 := x2) (x3 := x3) (x4 := some (.fr (.int (M : Int)))) (x5 := some (.fr (.int ((L - ln : Nat) : Int)))) (x6 := some (.cell (R.length + 1))) (x7 := some (.fr (.int (k : Int)))) (x8 := some (.fr (.int (room : Int)))) (x10 := some (.fr (.int (ln : Int))))
  rw [rng_len, List.length_nil, Nat.zero_add] at l3
  have bl : (blk (R.length + 1) (rwsD pss)).length = pss.length + 1 := by rw [blk_len, List.length_map]
  have ql : (R ++ blk (R.length + 1) (rwsD pss)).length + 1 = R.length + 1 + 1 + pss.length := by rw [List.length_append, bl]; omega
  rw [ql] at lp
  simp only [List.map_nil] at lp
  have hc : (blk (R.length + 1) (rwsD pss) ++ [Cell.lst ((p.map rwD).map SV.fr)])[0]? = some (.lst (cf (R.length + 1 + 1) (rwsD pss).length)) := rfl
  have ty : tyS "list" (b3.c :: (R ++ (blk (R.length + 1) (rwsD pss) ++ [Cell.lst ((p.map rwD).map SV.fr)]))) (.cell (R.length + 1)) = true := ty71 (i := 0) hc
  have ap := app71 (c := b3.c) (R := R) (i := 0) (y := .cell (R.length + 1 + 1 + pss.length)) hc (by rw [cf_len, List.length_map]; omega)
  have sn := blk_snoc (R.length + 1) (rwsD pss) (p.map rwD)
  have hl : (rwsD pss).length = pss.length := List.length_map ..
  rw [hl] at sn ap
  rw [sn, show rwsD pss ++ [p.map rwD] = rwsD (pss ++ [p]) by unfold rwsD; rw [List.map_append]; rfl] at ap
  refine ⟨b3, p, some (.fr (.int (room : Int))), some (.cell (R.length + 1 + 1 + pss.length)), some (.fr (.int (ln : Int))), y11, y12, y13, k3, ?_, h3, by omega, by omega, by omega, ?_⟩
  · exact wf_app70 (S := b3.c :: R) (WF.bag (b := b) wR) fun c hc => blk_below _ _ _ (by rw [List.length_cons, blk_len]; omega) c hc
  · have nl : newL true [] (b.c :: (R ++ blk (R.length + 1) (rwsD pss))) = .ok (.cell (R.length + 1 + 1 + pss.length), b.c :: (R ++ blk (R.length + 1) (rwsD pss) ++ [.lst []])) := by
      have := r_newC (xs := []) (S := b.c :: (R ++ blk (R.length + 1) (rwsD pss))) (by rw [sizeLine_eq]; simp)
      rw [this]
      congr 2
      rw [List.length_cons, ql]
    have q2 : ∀ S : Store, eqG false (.fr (.int v2)) (.fr (.int 0)) S = .ok (.fr (.bl (decide (v2 = 0))), S) := fun S => r_eqI false v2 0 S
    have el : (L : Int) - (ln : Int) = ((L - ln : Nat) : Int) := by omega
    have r1 : ∀ S : Store, k_r1 ([.fr (.int (ln : Int))], S) = .ok (⟨rngS 0 ln, fun _ => True⟩, S) := fun S => s_r1 (by omega)
    rw [l3]
    have asc : R ++ (blk (R.length + 1) (rwsD pss) ++ [Cell.lst ((p.map rwD).map SV.fr)]) = R ++ blk (R.length + 1) (rwsD pss) ++ [Cell.lst ((p.map rwD).map SV.fr)] := (List.append_assoc ..).symm
    rw [asc] at ty ap
    cases q : decide (v2 = 0) with
    | true =>
      rw [q, Bool.true_or, if_pos rfl, at_1] at hln
      have hlr : room = ln := by
        have := Option.some.inj hln
        simp only [D.int.injEq] at this
        omega
      rw [hlr] at e1 lp er
      rw [hlr]
      simp only [RR, DL.isNon, List.replicate_succ, List.replicate_zero, List.set_cons_zero, List.set_cons_succ, List.getElem?_cons_zero, List.getElem?_cons_succ, Option.map_some, Nat.reduceSub, and_self, and_true, true_and, decide_true, decide_false, if_true, if_false, Bool.false_eq_true, Bool.not_true, Bool.not_false, Nat.reduceAdd, Nat.reduceMul, Nat.reduceLeDiff, f_law_programs_2, er, nl, take_is, e1, e2, q, int_bl, el, r1, lp, s_mt appendG ty, ap]
    | false =>
      rw [q, Bool.false_or] at hln
      simp only [RR, DL.isNon, List.replicate_succ, List.replicate_zero, List.set_cons_zero, List.set_cons_succ, List.getElem?_cons_zero, List.getElem?_cons_succ, Option.map_some, Nat.reduceSub, and_self, and_true, true_and, decide_true, decide_false, if_true, if_false, Bool.false_eq_true, Bool.not_true, Bool.not_false, Nat.reduceAdd, Nat.reduceMul, Nat.reduceLeDiff, f_law_programs_2, er, nl, take_is, e1, e2, q, int_bl, hln, el, r1, lp, s_mt appendG ty, ap]

theorem fz_bag {b b' : Bag} {R T : Store} {n : SM} (w : WF (b.c :: R)) (rho : Slots) : frzM (R.length + 1) n rho (b'.c :: (R ++ T)) = n (rho.map (frzSl (b'.c :: (R ++ T)) (R.length + 1))) (b'.c :: R) := by
  have := s_frzM (n := n) (S := b'.c :: R) (S' := b'.c :: R ++ T) (WF.bag (b' := b') w) (List.take_left' rfl) rho
  exact this
theorem pgs_loop {cs : List Int} (h0 : 0 < cs.length) (hz : cs.length ≤ 60) {R : Store} {M Z : Nat} (hM : M ≤ 10) (hZ : Z ≤ 10) {x2 x3 : Option SV} : ∀ (m k : Nat) (b : Bag) (L : Nat) (pss : List (List Rw)) (x7 x8 x9 x10 x11 x12 x13 : Option SV), k + m = M → b.Ok → pss.length = k → (pss.map List.length).sum + L = Z → M - k ≤ L →
    (∀ p ∈ pss, (∀ r ∈ p, RwOk cs.length r) ∧ p ≠ []) → WF (b.c :: R) → WF (b.c :: (R ++ blk (R.length + 1) (rwsD pss))) →
    ∃ (b' : Bag) (pss' : List (List Rw)) (L' : Nat) (y7 y8 y9 y10 y11 y12 y13 : Option SV), Bag.Ok b' ∧ WF (b'.c :: R) ∧ (∀ p ∈ pss', (∀ r ∈ p, RwOk cs.length r) ∧ p ≠ []) ∧ pss'.length = M ∧ (pss'.map List.length).sum ≤ Z ∧
    loopM (fun _ => True) (gNm 7) f_law_programs_2 (rngS (k : Int) m) [some (.cell 0), some (.fr (intsD cs)), x2, x3, some (.fr (.int (M : Int))), some (.fr (.int (L : Int))), some (.cell (R.length + 1)), x7, x8, x9, x10, x11, x12, x13] (b.c :: (R ++ blk (R.length + 1) (rwsD pss))) =
      .ok (.nx, [some (.cell 0), some (.fr (intsD cs)), x2, x3, some (.fr (.int (M : Int))), some (.fr (.int (L' : Int))), some (.cell (R.length + 1)), y7, y8, y9, y10, y11, y12, y13], b'.c :: (R ++ blk (R.length + 1) (rwsD pss')))
  | 0, k, b, L, pss, x7, x8, x9, x10, x11, x12, x13, hk, hb, hl, hs, hL, hp, wR, w => ⟨b, pss, L, x7, x8, x9, x10, x11, x12, x13, hb, wR, hp, by omega, by omega, loop_nil _ _ trivial⟩
  | m + 1, k, b, L, pss, x7, x8, x9, x10, x11, x12, x13, hk, hb, hl, hs, hL, hp, wR, w => by
    obtain ⟨b1, p, y8, y9, y10, y11, y12, y13, k1, w1, hr, n1, n2, n3, st⟩ := pgs_turn h0 hz b hb hM (k := k) (by omega) hL (by omega) pss (by omega) wR w (x2 := x2) (x3 := x3) (x7 := x7) (x8 := x8) (x9 := x9) (x10 := x10) (x11 := x11) (x12 := x12) (x13 := x13)
    obtain ⟨b2, pss2, L2, z7, z8, z9, z10, z11, z12, z13, k2, w2, hp2, l2, s2, ih⟩ := pgs_loop h0 hz hM hZ m (k + 1) b1 (L - p.length) (pss ++ [p]) (some (.fr (.int (k : Int)))) y8 y9 y10 y11 y12 y13 (by omega) k1 (by rw [List.length_append, List.length_singleton]; omega)
      (by rw [List.map_append, List.sum_append, List.map_cons, List.map_nil, List.sum_cons, List.sum_nil]; omega) (by omega) (fun q hq => by
        rcases List.mem_append.mp hq with hq | hq
        · exact hp q hq
        · rcases List.mem_singleton.mp hq with rfl
          exact ⟨hr, fun e => by rw [e] at n1; simp at n1⟩) (WF.bag wR) w1 (x2 := x2) (x3 := x3)
    refine ⟨b2, pss2, L2, z7, z8, z9, z10, z11, z12, z13, k2, w2, hp2, l2, s2, ?_⟩
    rw [rng_cons, loop_cons _ _ _ trivial, st, r_bind, s_turnN, show (k : Int) + 1 = ((k + 1 : Nat) : Int) by omega, ih]
theorem programs_run (b : Bag) (hb : b.Ok) (R : Store) (w : WF (b.c :: R)) {cs : List Int} (h0 : 0 < cs.length) (hz : cs.length ≤ 60) {Z T : Nat} (hT : 1 ≤ T ∧ T ≤ 4) (hZ : T ≤ Z ∧ Z ≤ 6) :
    ∃ (b' : Bag) (pss : List (List Rw)), Bag.Ok b' ∧ WF (b'.c :: R) ∧ Pgs cs.length pss ∧ m_law_programs [.cell 0, .fr (intsD cs), .fr (.int (Z : Int)), .fr (.int (T : Int))] (b.c :: R) = .ok (.val (.fr (pgsD pss)), b'.c :: R) := by
  obtain ⟨v1, b1, l1, u1, k1, w1, e1⟩ := take_run b hb 2 (by decide) (by decide) R w
  obtain ⟨mm, hmm, n1, n2⟩ : ∃ mm : Nat, atI [D.int (min 2 (T : Int)), D.int (T : Int)] v1 = some (.int (mm : Int)) ∧ 1 ≤ mm ∧ mm ≤ T := by
    rcases (show v1 = 0 ∨ v1 = 1 by omega) with rfl | rfl
    · exact ⟨min 2 T, by rw [at_0]; congr 2; omega, by omega, by omega⟩
    · exact ⟨T, at_1 _ _ _, by omega, by omega⟩
  obtain ⟨v2, b2, l2, u2, k2, w2, e2⟩ := take_run b1 k1 (mm : Int) (by omega) (lognat (by omega)) R w1
  obtain ⟨M, hM⟩ : ∃ M : Nat, (1 : Int) + v2 = (M : Int) := ⟨(1 + v2).toNat, by omega⟩
  have wB : WF (b2.c :: (R ++ blk (R.length + 1) (rwsD []))) := w2.snoc rfl
  obtain ⟨b3, pss, L', y7, y8, y9, y10, y11, y12, y13, k3, w3, hp, hl, hs, lp⟩ := pgs_loop h0 hz (R := R) (M := M) (Z := Z) (by omega) (by omega) M 0 b2 Z [] none none none none none none none (by omega) k2 rfl (by simp) (by omega) nofun w2 wB (x2 := some (.fr (.int (Z : Int)))) (x3 := some (.fr (.int (T : Int))))
  have nl : newL true [] (b2.c :: R) = .ok (.cell (R.length + 1), b2.c :: (R ++ blk (R.length + 1) (rwsD []))) := rfl
  have r1 : ∀ S : Store, k_r1 ([.fr (.int (M : Int))], S) = .ok (⟨rngS 0 M, fun _ => True⟩, S) := fun S => s_r1 (by omega)
  have fz := fun (n : SM) (rho : Slots) => fz_bag (b := b) (b' := b3) (R := R) (T := blk (R.length + 1) (rwsD pss)) (n := n) w rho
  have at_ : (b3.c :: (R ++ blk (R.length + 1) (rwsD pss)))[R.length + 1]? = some (.lst (cf (R.length + 1 + 1) (rwsD pss).length)) := by
    have := get71 b3.c R (blk (R.length + 1) (rwsD pss)) 0
    rw [Nat.add_zero] at this
    rw [this]
    exact blk_0 _ _
  have z6 : frzSl (b3.c :: (R ++ blk (R.length + 1) (rwsD pss))) (R.length + 1) (some (.cell (R.length + 1))) = some (.fr (pgsD pss)) := by
    rw [z_hi2 (Nat.le_refl _) at_ (frz_cells (S := []) (n := 0) (rwsD pss).length (R.length + 1 + 1) (rwsD pss) rfl fun i hi => frz3 (by omega) (by
      have := get71 b3.c R (blk (R.length + 1) (rwsD pss)) (1 + i)
      rw [show R.length + 1 + (1 + i) = R.length + 1 + 1 + i by omega] at this
      rw [this]
      exact blk_1 _ hi))]
    unfold rwsD
    rw [List.map_map]
    rfl
  refine ⟨b3, pss, k3, w3, ⟨by omega, by omega, hp, by omega⟩, ?_⟩
  have lv := leave_bag (b := b) (b' := b3) w (pgsD pss)
  rw [show (b.c :: R).length = R.length + 1 from rfl] at lv
  have ln : (b.c :: R).length = R.length + 1 := rfl
  rw [show rwsD [] = [] from rfl] at nl lp
  rw [show ((0 : Nat) : Int) = 0 from rfl] at lp
  simp only [RR, DL.isNon, List.replicate_succ, List.replicate_zero, List.set_cons_zero, List.set_cons_succ, List.getElem?_cons_zero, List.getElem?_cons_succ, Option.map_some, Nat.reduceSub, and_self, and_true, true_and, decide_true, decide_false, if_true, if_false, Bool.false_eq_true, Bool.not_true, Bool.not_false, Nat.reduceAdd, Nat.reduceMul, Nat.reduceLeDiff, m_law_programs, b_law_programs, r_fz, ln, take_is, r_min, e1, hmm, e2, hM, nl, r1, lp, fz, List.map_cons, List.map_nil, z6]
  exact lv
section
variable {S : Store} (wf : WF S)
include wf
theorem told_run {cs : List Int} {pss : List (List Rw)} (g : Pgs cs.length pss) : m_law_told_programs [.fr (intsD cs), .fr (pgsD pss)] S = .ok (.new (.lst (((tps cs pss).map D.lst).map SV.fr)), S) := by
  have n4 := g.n4
  have lv : leave S.length (.cell S.length) (S ++ [.lst (((tps cs pss).map D.lst).map SV.fr)]) = .ok (.new (.lst (((tps cs pss).map D.lst).map SV.fr)), S) := leave_new wf (below_map _ _)
  have oc : lcM (fun _ => True) (gNm 3) tTr (eLC false (iSeq (eV 3)) (gNm 4) tTr (DL.e2 (addG false) (eSl false (eV 4) pN (pS (eC (.int 1)))) (eCall m_law_span false (aC (eV 0) (aC (DL.e2 ixG (eV 4) (eC (.int 1))) (aC (DL.e2 ixG (eV 4) (eC (.int 2))) aN))))) [2, 4]) [2, 3]
      [some (.fr (intsD cs)), some (.fr (pgsD pss)), none, none, none] ((pss.map fun p => D.lst (p.map rwD)).map SV.fr) S [] = .ok ((pss.map fun p => D.lst (p.map (tcD cs))).map SV.fr, S) := by
    refine lc_gen (fun p : List Rw => D.lst (p.map rwD)) (fun p => D.lst (p.map (tcD cs))) pss (by omega) fun p hp as => ?_
    have wa := wf_acc wf as
    have hl := (g.len hp).2
    have ic : lcM (fun _ => True) (gNm 4) tTr (DL.e2 (addG false) (eSl false (eV 4) pN (pS (eC (.int 1)))) (eCall m_law_span false (aC (eV 0) (aC (DL.e2 ixG (eV 4) (eC (.int 1))) (aC (DL.e2 ixG (eV 4) (eC (.int 2))) aN))))) [2, 4]
        [some (.fr (intsD cs)), some (.fr (pgsD pss)), none, some (.fr (.lst (p.map rwD))), none] ((p.map rwD).map SV.fr) (S ++ [.lst (as.map SV.fr)]) [] = .ok ((p.map (tcD cs)).map SV.fr, S ++ [.lst (as.map SV.fr)]) := by
      refine lc_gen rwD (tcD cs) p (by omega) fun r hr as2 => ?_
      have ok := (g.it p hp).1 r hr
      have sp := span_run (wf_acc wa as2) (cs := cs) (i := r.2.1) (j := r.2.2) (getD_at (by have := ok.pq; have := ok.q; omega))
      have ct : cutA [D.int r.1, D.int (r.2.1 : Nat), D.int (r.2.2 : Nat)] none (some 1) = [D.int r.1] := rfl
      have sl : ∀ S : Store, slG false (.fr (.tup [D.int r.1, D.int (r.2.1 : Nat), D.int (r.2.2 : Nat)])) none (some 1) S = .ok (.fr (.tup [D.int r.1]), S) := fun S => rfl
      have ad : ∀ S : Store, addG false (.fr (.tup [D.int r.1])) (.fr (.tup [D.int (cs.getD r.2.1 0), oD (lastAt cs r.2.2)])) S = .ok (.fr (tcD cs r), S) := fun S => tup_add (S := S) false (by simp)
      simp only [RR, DL.isNon, List.replicate_succ, List.replicate_zero, List.set_cons_zero, List.set_cons_succ, List.getElem?_cons_zero, List.getElem?_cons_succ, Option.map_some, Nat.reduceSub, and_self, and_true, true_and, decide_true, decide_false, if_true, if_false, Bool.false_eq_true, Bool.not_true, Bool.not_false, Nat.reduceAdd, Nat.reduceMul, Nat.reduceLeDiff, sl, sp, ad]
    simp only [RR, DL.isNon, List.replicate_succ, List.replicate_zero, List.set_cons_zero, List.set_cons_succ, List.getElem?_cons_zero, List.getElem?_cons_succ, Option.map_some, Nat.reduceSub, and_self, and_true, true_and, decide_true, decide_false, if_true, if_false, Bool.false_eq_true, Bool.not_true, Bool.not_false, Nat.reduceAdd, Nat.reduceMul, Nat.reduceLeDiff, ic, s_lceF wa]
  have et : (pss.map fun p => D.lst (p.map (tcD cs))) = (tps cs pss).map D.lst := by unfold tps; rw [List.map_map]; rfl
  rw [et] at oc
  simp only [RR, DL.isNon, List.replicate_succ, List.replicate_zero, List.set_cons_zero, List.set_cons_succ, List.getElem?_cons_zero, List.getElem?_cons_succ, Option.map_some, Nat.reduceSub, and_self, and_true, true_and, decide_true, decide_false, if_true, if_false, Bool.false_eq_true, Bool.not_true, Bool.not_false, Nat.reduceAdd, Nat.reduceMul, Nat.reduceLeDiff, m_law_told_programs, b_law_told_programs, oc, lv]
end
abbrev caseD (cs : List Int) (pss : List (List Rw)) : D := .tup [intsD cs, pgsD pss, crwD (tps cs pss)]
theorem case_run (b : Bag) (hb : b.Ok) (R : Store) (w : WF (b.c :: R)) : ∃ (b' : Bag) (n : Nat) (cs : List Int) (pss : List (List Rw)), Bag.Ok b' ∧ WF (b'.c :: R) ∧ Cuts n cs ∧ (1 ≤ n ∧ n ≤ 5) ∧ Pgs cs.length pss ∧ m_law_case [.cell 0] (b.c :: R) = .ok (.val (.fr (caseD cs pss)), b'.c :: R) := by
  obtain ⟨v1, b1, l1, u1, k1, w1, e1⟩ := take_run b hb 5 (by decide) (by decide) R w
  obtain ⟨cs, b2, k2, w2, hc, e2⟩ := cuts_run b1 k1 R w1 (n := 1 + v1) (by omega)
  have cl : cs.length = (1 + v1).toNat := hc.len
  obtain ⟨b3, pss, k3, w3, g, e3⟩ := programs_run b2 k2 R w2 (cs := cs) (by omega) (by omega) (Z := 6) (T := 4) (by omega) (by omega)
  have e4 := told_run w3 g
  have pg := tps_pg hc.fs (by omega) g
  have e5 := cinit_run w3 pg
  have e6 := cmk w3 (tps cs pss)
  have lv := leave_bag (b := b) (b' := b3) w (caseD cs pss)
  have fa : allFr (svi cs) = some (cs.map D.int) := by
    have : svi cs = (cs.map D.int).map SV.fr := by rw [List.map_map]; rfl
    rw [this, DL.allFr_map]
  have ft := DL.allFr_map ((tps cs pss).map D.lst)
  have e3' : m_law_programs [.cell 0, .fr (intsD cs), .fr (.int 6), .fr (.int 4)] (b2.c :: R) = .ok (.val (.fr (pgsD pss)), b3.c :: R) := e3
  refine ⟨b3, (1 + v1).toNat, cs, pss, k3, w3, hc, by omega, g, ?_⟩
  simp only [RR, DL.isNon, List.replicate_succ, List.replicate_zero, List.set_cons_zero, List.set_cons_succ, List.getElem?_cons_zero, List.getElem?_cons_succ, Option.map_some, Nat.reduceSub, and_self, and_true, true_and, decide_true, decide_false, if_true, if_false, Bool.false_eq_true, Bool.not_true, Bool.not_false, Nat.reduceAdd, Nat.reduceMul, Nat.reduceLeDiff, m_law_case, b_law_case, take_is, e1, e2, fa, e3', e4, ft, e5, e6]
  exact lv

theorem lc_genL {α : Type} {S : Store} {lk : Store → Prop} {gm : GM} {t : TM} {e : EM} {rho : Slots} {own : List Nat} (hlk : ∀ ds : List D, lk (S ++ [.lst (ds.map SV.fr)])) (enc : α → SV) (out : α → D) : ∀ (l : List α) (ds : List D), ds.length + l.length ≤ 1000000 →
    (∀ a ∈ l, ∀ ds : List D, lcT gm t e (enc a) (wipeR rho own) (S ++ [.lst (ds.map SV.fr)]) = .ok (some (.fr (out a)), S ++ [.lst (ds.map SV.fr)])) →
    lcM lk gm t e own rho (l.map enc) S (ds.map SV.fr) = .ok ((ds ++ l.map out).map SV.fr, S)
  | [], ds, _, _ => by rw [List.map_nil, lc_nil (hlk _)]; simp
  | a :: l, ds, hz, h => by
    simp only [List.map_cons, List.length_cons] at hz ⊢
    have hs := sizeLine_eq
    have st : lcM lk gm t e own rho (enc a :: l.map enc) S (ds.map SV.fr) = lcM lk gm t e own rho (l.map enc) S ((ds ++ [out a]).map SV.fr) := by
      rw [List.map_append, List.map_cons, List.map_nil]
      exact lc_some (hlk _) (by rw [List.length_map]; omega) rfl (h a List.mem_cons_self ds)
    rw [st, lc_genL hlk enc out l (ds ++ [out a]) (by simp; omega) fun b hb => h b (List.mem_cons_of_mem _ hb)]
    simp

abbrev Pl := Nat × Nat
abbrev plD (p : Pl) : D := .tup [.int (p.1 : Nat), .int (p.2 : Nat)]
def pls : Nat → List Nat → List Pl
  | _, [] => []
  | k, n :: ns => (List.range n).map (fun d => (k, d)) ++ pls (k + 1) ns
theorem pls_mem : ∀ {ns : List Nat} {k : Nat} {p : Pl}, p ∈ pls k ns → k ≤ p.1 ∧ ∃ n, ns[p.1 - k]? = some n ∧ p.2 < n
  | [], k, p, h => by cases h
  | n :: ns, k, p, h => by
    unfold pls at h
    rcases List.mem_append.mp h with h | h
    · obtain ⟨d, hd, rfl⟩ := List.mem_map.mp h
      refine ⟨Nat.le_refl _, n, ?_, List.mem_range.mp hd⟩
      rw [Nat.sub_self]
      rfl
    · obtain ⟨h1, m, h2, h3⟩ := pls_mem h
      refine ⟨by omega, m, ?_, h3⟩
      rw [show p.1 - k = (p.1 - (k + 1)) + 1 by omega, List.getElem?_cons_succ]
      exact h2
theorem pls_len : ∀ (ns : List Nat) (k : Nat), (pls k ns).length = ns.sum
  | [], _ => rfl
  | n :: ns, k => by unfold pls; rw [List.length_append, List.length_map, List.length_range, pls_len ns, List.sum_cons]
theorem rngN (n : Nat) : rngS 0 n = ((List.range n).map fun d => D.int ((d : Nat) : Int)).map SV.fr := by
  rw [List.map_map]
  unfold rngS
  refine List.map_congr_left fun i _ => ?_
  show SV.fr (.int (0 + (i : Int))) = _
  rw [Int.zero_add]
  rfl
theorem plc_comp {S : Store} {rho : Slots} {a : Nat} (i j : Nat) (own : List Nat) (h1 : ∀ x : SV, ((wipeR rho own).set j (some x))[i]? = some (some (.fr (.int (a : Nat))))) (hj : j < rho.length) (n : Nat) (hn : n ≤ 1000) (ds : List D) (hd : ds.length ≤ 1000) :
    lcM (fun _ => True) (gNm j) tTr (eA newT (aC (eV i) (aC (eV j) aN))) own rho (rngS 0 n) S (ds.map SV.fr) = .ok ((ds ++ (List.range n).map fun d => plD (a, d)).map SV.fr, S) := by
  rw [rngN, List.map_map]
  refine lc_genL (S := S) (fun _ => trivial) (fun d : Nat => SV.fr (D.int ((d : Nat) : Int))) (fun d => plD (a, d)) (List.range n) ds (by rw [List.length_range]; omega) fun d hd as => ?_
  have g1 := h1 (SV.fr (D.int ((d : Nat) : Int)))
  have g2 : ((wipeR rho own).set j (some (SV.fr (D.int ((d : Nat) : Int)))))[j]? = some (some (SV.fr (D.int ((d : Nat) : Int)))) := by rw [List.getElem?_set_self (by rw [wipeR_len]; exact hj)]
  have nt : ∀ S : Store, newT [.fr (.int (a : Nat)), .fr (.int (d : Nat))] S = .ok (.fr (plD (a, d)), S) := fun S => rfl
  simp only [r_lcT, r_gNm, r_bind, s_l1, r_tT, s_l2t, r_g, r_a, r_v, g1, g2, s_v, s_a, r_n, s_ab, s_g, nt, s_l3]
theorem lp_loop {S : Store} (wf : WF S) {x0 x4 x5 : Option SV} : ∀ (rows : List (List D)) (k : Nat) (acc : List Pl) (x2 x3 : Option SV), acc.length + (rows.map List.length).sum ≤ 1000 →
    ∃ y2 y3 : Option SV, loopM (fun _ => True) (gTu 2 (gCs (gNm 2) (gCs (gNm 3) gNl))) f_law_places_1 (enF k (rows.map D.lst)) [x0, some (.cell S.length), x2, x3, x4, x5] (S ++ [.lst ((acc.map plD).map SV.fr)]) =
      .ok (.nx, [x0, some (.cell S.length), y2, y3, x4, x5], S ++ [.lst (((acc ++ pls k (rows.map List.length)).map plD).map SV.fr)])
  | [], k, acc, x2, x3, _ => ⟨x2, x3, by rw [List.map_nil, enF, loop_nil _ _ trivial, List.map_nil, pls, List.append_nil]⟩
  | r :: rows, k, acc, x2, x3, hl => by
    simp only [List.map_cons, List.sum_cons] at hl
    have hz := sizeLine_eq
    obtain ⟨y2, y3, ih⟩ := lp_loop wf rows (k + 1) (acc ++ (List.range r.length).map fun d => (k, d)) (some (.fr (.int (k : Nat)))) (some (.fr (.lst r))) (by rw [List.length_append, List.length_map, List.length_range]; omega) (x0 := x0) (x4 := x4) (x5 := x5)
    refine ⟨y2, y3, ?_⟩
    have wa := wf_acc wf (acc.map plD)
    have cm := plc_comp (S := S ++ [.lst ((acc.map plD).map SV.fr)]) (rho := [x0, some (.cell S.length), some (.fr (.int (k : Nat))), some (.fr (.lst r)), x4, x5]) (a := k) 2 5 [4, 5] (fun _ => rfl) (by simp) r.length (by omega) [] (by simp)
    rw [List.map_nil, List.nil_append] at cm
    have ty : tyS "list" (S ++ [.lst ((acc.map plD).map SV.fr)]) (.cell S.length) = true := ty_last
    have r1 : ∀ S : Store, k_r1 ([.fr (.int (r.length : Int))], S) = .ok (⟨rngS 0 r.length, fun _ => True⟩, S) := fun S => s_r1 (by omega)
    have ex : extendG (.cell S.length) [.fr (.lst ((List.range r.length).map fun d => plD (k, d)))] (S ++ [.lst ((acc.map plD).map SV.fr)]) = .ok (.fr .non, S ++ [.lst (((acc ++ (List.range r.length).map fun d => (k, d)).map plD).map SV.fr)]) := by
      have g : (S ++ [Cell.lst ((acc.map plD).map SV.fr)])[S.length]? = some (.lst ((acc.map plD).map SV.fr)) := get_snoc
      unfold extendG DL.cellOf
      simp only [g, rdL]
      rw [if_pos (by simp only [List.length_map, List.length_range]; omega), set_snoc]
      have ee : (acc.map plD).map SV.fr ++ ((List.range r.length).map fun d => plD (k, d)).map SV.fr = ((acc ++ (List.range r.length).map fun d => (k, d)).map plD).map SV.fr := by
        rw [← List.map_append, List.map_append (f := plD), List.map_map (l := List.range r.length)]
        rfl
      rw [ee]
      rfl
    have st : (gTu 2 (gCs (gNm 2) (gCs (gNm 3) gNl)) (.fr (.tup [.int (k : Nat), .lst r])) [x0, some (.cell S.length), x2, x3, x4, x5] (S ++ [.lst ((acc.map plD).map SV.fr)])).bind (k_body f_law_places_1) =
        .ok (.nx, [x0, some (.cell S.length), some (.fr (.int (k : Nat))), some (.fr (.lst r)), x4, x5], S ++ [.lst (((acc ++ (List.range r.length).map fun d => (k, d)).map plD).map SV.fr)]) := by
      simp only [RR, DL.isNon, List.replicate_succ, List.replicate_zero, List.set_cons_zero, List.set_cons_succ, List.getElem?_cons_zero, List.getElem?_cons_succ, Option.map_some, Nat.reduceSub, and_self, and_true, true_and, decide_true, decide_false, if_true, if_false, Bool.false_eq_true, Bool.not_true, Bool.not_false, Nat.reduceAdd, Nat.reduceMul, Nat.reduceLeDiff, f_law_places_1, s_mt extendG ty, r1, cm, s_lceF wa, ex]
    rw [List.map_cons, enF, loop_cons _ _ _ trivial, st, r_bind, s_turnN, ih, List.map_cons, pls, List.append_assoc]
theorem below_pl (n : Nat) (l : List Pl) : Cell.below n (.lst ((l.map plD).map SV.fr)) = true := below_map _ _
theorem lplaces_run {S : Store} (wf : WF S) {rows : List (List D)} (h : (rows.map List.length).sum ≤ 6) : m_law_places [.fr (.lst (rows.map D.lst))] S = .ok (.new (.lst (((pls 0 (rows.map List.length)).map plD).map SV.fr)), S) := by
  obtain ⟨y2, y3, lp⟩ := lp_loop wf rows 0 [] none none (by rw [List.length_nil]; omega) (x0 := some (.fr (.lst (rows.map D.lst)))) (x4 := none) (x5 := none)
  simp only [List.map_nil, List.nil_append] at lp
  have en := s_enL (S := S ++ [.lst []]) (rows.map D.lst)
  have lv : leave S.length (.cell S.length) (S ++ [.lst (((pls 0 (rows.map List.length)).map plD).map SV.fr)]) = .ok (.new (.lst (((pls 0 (rows.map List.length)).map plD).map SV.fr)), S) := leave_new wf (below_pl _ _)
  simp only [RR, DL.isNon, List.replicate_succ, List.replicate_zero, List.set_cons_zero, List.set_cons_succ, List.getElem?_cons_zero, List.getElem?_cons_succ, Option.map_some, Nat.reduceSub, and_self, and_true, true_and, decide_true, decide_false, if_true, if_false, Bool.false_eq_true, Bool.not_true, Bool.not_false, Nat.reduceAdd, Nat.reduceMul, Nat.reduceLeDiff, m_law_places, b_law_places, en, lp, lv]
noncomputable def k_lc2 (c : Bool) (g : GM) (t : TM) (im1 : IM) (g1 : GM) (t1 : TM) (e : EM) (own own1 : List Nat) (rho : Slots) (w : DL.Wk × Store) : Res (SV × Store) := (noE (lc2M w.1.lk g t im1 g1 t1 e own own1 rho w.1.xs w.2 [])).bind fun r => lcEnd c r.1 r.2
theorem r_lc2 (c : Bool) (im : IM) (g : GM) (t : TM) (im1 : IM) (g1 : GM) (t1 : TM) (e : EM) (own own1 : List Nat) (rho : Slots) (S : Store) : eLC2 c im g t im1 g1 t1 e own own1 rho S = (im rho S).bind (k_lc2 c g t im1 g1 t1 e own own1 rho) := id rfl
theorem s_lc2C {g : GM} {t : TM} {im1 : IM} {g1 : GM} {t1 : TM} {e : EM} {own own1 : List Nat} {rho : Slots} {w : DL.Wk} {S : Store} {acc : List SV} (h : lc2M w.lk g t im1 g1 t1 e own own1 rho w.xs S [] = .ok (acc, S)) : k_lc2 true g t im1 g1 t1 e own own1 rho (w, S) = .ok (.cell S.length, S ++ [.lst acc]) := by
  unfold k_lc2
  dsimp only
  rw [h]
  rfl
theorem lc2_nil {lk : Store → Prop} {g : GM} {t : TM} {im1 : IM} {g1 : GM} {t1 : TM} {e : EM} {own own1 : List Nat} {rho : Slots} {S : Store} {acc : List SV} (h : lk (S ++ [.lst acc])) : lc2M lk g t im1 g1 t1 e own own1 rho [] S acc = .ok (acc, S) := by
  unfold lc2M
  rw [if_pos h]
theorem lc2_cons {lk : Store → Prop} {g : GM} {im1 : IM} {g1 : GM} {t1 : TM} {e : EM} {own own1 : List Nat} {rho rho1 : Slots} {S : Store} {acc acc1 : List SV} {x : SV} {xs : List SV} {w : DL.Wk} (h : lk (S ++ [.lst acc])) (hg : g x (wipeR rho own) (S ++ [.lst acc]) = .ok (rho1, S ++ [.lst acc]))
    (hi : im1 rho1 (S ++ [.lst acc]) = .ok (w, S ++ [.lst acc])) (hn : lcM w.lk g1 t1 e own1 rho1 w.xs S acc = .ok (acc1, S)) : lc2M lk g tTr im1 g1 t1 e own own1 rho (x :: xs) S acc = lc2M lk g tTr im1 g1 t1 e own own1 rho xs S acc1 := by
  conv => lhs; unfold lc2M
  rw [if_pos h, hg, r_bind, r_tT, r_bind, if_pos rfl]
  dsimp only
  rw [hi, r_bind]
  dsimp only
  rw [unS_app rfl]
  dsimp only
  rw [hn, r_bind]
theorem cp_loop {S : Store} (wf : WF S) {x0 x1 x2 x3 x4 x5 : Option SV} : ∀ (ns : List Nat) (k : Nat) (acc : List Pl), acc.length + ns.sum ≤ 1000 →
    lc2M (fun _ => True) (gTu 2 (gCs (gNm 3) (gCs (gNm 4) gNl))) tTr (iR1 (aC (eV 4) aN)) (gNm 5) tTr (eA newT (aC (eV 3) (aC (eV 5) aN))) [2, 3, 4, 5] [5] [x0, x1, x2, x3, x4, x5] (enF k (ns.map fun n => D.int (n : Nat))) S ((acc.map plD).map SV.fr) =
      .ok (((acc ++ pls k ns).map plD).map SV.fr, S)
  | [], k, acc, _ => by rw [List.map_nil, enF, lc2_nil trivial, pls, List.append_nil]
  | n :: ns, k, acc, hl => by
    rw [List.sum_cons] at hl
    have hg : gTu 2 (gCs (gNm 3) (gCs (gNm 4) gNl)) (.fr (.tup [.int (k : Nat), .int (n : Nat)])) (wipeR [x0, x1, x2, x3, x4, x5] [2, 3, 4, 5]) (S ++ [.lst ((acc.map plD).map SV.fr)]) = .ok ([x0, x1, none, some (.fr (.int (k : Nat))), some (.fr (.int (n : Nat))), none], S ++ [.lst ((acc.map plD).map SV.fr)]) := rfl
    have hi : iR1 (aC (eV 4) aN) [x0, x1, none, some (.fr (.int (k : Nat))), some (.fr (.int (n : Nat))), none] (S ++ [.lst ((acc.map plD).map SV.fr)]) = .ok (⟨rngS 0 n, fun _ => True⟩, S ++ [.lst ((acc.map plD).map SV.fr)]) := by
      have e : aC (eV 4) aN [x0, x1, none, some (.fr (.int (k : Nat))), some (.fr (.int (n : Nat))), none] (S ++ [.lst ((acc.map plD).map SV.fr)]) = .ok ([.fr (.int (n : Nat))], S ++ [.lst ((acc.map plD).map SV.fr)]) := rfl
      rw [r_r1, e, r_bind, s_r1 (by omega)]
      rfl
    have hn := plc_comp (S := S) (rho := [x0, x1, none, some (.fr (.int (k : Nat))), some (.fr (.int (n : Nat))), none]) (a := k) 3 5 [5] (fun _ => rfl) (by simp) n (by omega) (acc.map plD) (by rw [List.length_map]; omega)
    have ea : acc.map plD ++ ((List.range n).map fun d => plD (k, d)) = (acc ++ (List.range n).map fun d => (k, d)).map plD := by rw [List.map_append, List.map_map]; rfl
    rw [ea] at hn
    rw [List.map_cons, enF, lc2_cons trivial hg hi hn, cp_loop wf ns (k + 1) _ (by rw [List.length_append, List.length_map, List.length_range]; omega), pls, List.append_assoc]
theorem cplaces_run {S : Store} (wf : WF S) {ps : List (List D)} (g : PG ps) : m_Crowd_places [.fr (crwD ps)] S = .ok (.new (.lst (((pls 0 (ps.map List.length)).map plD).map SV.fr)), S) := by
  have n4 := g.n4
  have sm := g.sum
  have c1 : lcM (fun _ => True) (gNm 3) tTr (eA lenG (aC (eV 3) aN)) [2, 3] [some (.fr (crwD ps)), none, none, none, none, none] ((ps.map D.lst).map SV.fr) S [] = .ok ((ps.map fun p => D.int (p.length : Nat)).map SV.fr, S) :=
    lc_gen D.lst (fun p => D.int (p.length : Nat)) ps (by omega) fun p hp as => by simp only [RR, DL.isNon, List.replicate_succ, List.replicate_zero, List.set_cons_zero, List.set_cons_succ, List.getElem?_cons_zero, List.getElem?_cons_succ, Option.map_some, Nat.reduceSub, and_self, and_true, true_and, decide_true, decide_false, if_true, if_false, Bool.false_eq_true, Bool.not_true, Bool.not_false, Nat.reduceAdd, Nat.reduceMul, Nat.reduceLeDiff]
  have em : (ps.map fun p => D.int (p.length : Nat)) = (ps.map List.length).map fun n => D.int (n : Nat) := by rw [List.map_map]; rfl
  have cp := cp_loop wf (x0 := some (.fr (crwD ps))) (x1 := some (.fr (.lst (ps.map fun p => D.int (p.length : Nat))))) (x2 := none) (x3 := none) (x4 := none) (x5 := none) (ps.map List.length) 0 [] (by rw [List.length_nil]; omega)
  rw [← em] at cp
  simp only [List.map_nil, List.nil_append] at cp
  have en := s_enL (S := S) (ps.map fun p => D.int (p.length : Nat))
  have sc := s_lc2C (w := ⟨enF 0 (ps.map fun p => D.int (p.length : Nat)), fun _ => True⟩) cp
  have lv : leave S.length (.cell S.length) (S ++ [.lst (((pls 0 (ps.map List.length)).map plD).map SV.fr)]) = .ok (.new (.lst (((pls 0 (ps.map List.length)).map plD).map SV.fr)), S) := leave_new wf (below_pl _ _)
  simp only [RR, DL.isNon, List.replicate_succ, List.replicate_zero, List.set_cons_zero, List.set_cons_succ, List.getElem?_cons_zero, List.getElem?_cons_succ, Option.map_some, Nat.reduceSub, and_self, and_true, true_and, decide_true, decide_false, if_true, if_false, Bool.false_eq_true, Bool.not_true, Bool.not_false, Nat.reduceAdd, Nat.reduceMul, Nat.reduceLeDiff, m_Crowd_places, b_Crowd_places, fldC, c1, s_lceF wf, r_lc2, en, sc, lv]

def lv1 (ls : List Int) (r : Rw) : List Int := rep ls r.2.1 r.2.2 r.1
def lvs (ls : List Int) (rows : List Rw) : List Int := rows.foldl lv1 ls
theorem lvs_cel {cs : List Int} : ∀ {rows : List Rw} {ls : List Int}, Cel cs ls → (∀ r ∈ rows, RwOk cs.length r) → Cel cs (lvs ls rows)
  | [], _, h, _ => h
  | r :: rows, ls, h, hr => lvs_cel (rows := rows) (rep_cel h (hr r List.mem_cons_self).l (hr r List.mem_cons_self).pq (hr r List.mem_cons_self).q) fun x hx => hr x (List.mem_cons_of_mem _ hx)
abbrev zer (N : Nat) : List Int := List.replicate N 0
abbrev lvP (N : Nat) (pss : List (List Rw)) (p : Pl) : List Int := lvs (zer N) ((pss.getD p.1 []).take p.2)
def midL (ls : List Int) (p j : Nat) (v : Int) : List Int := ls.take p ++ List.replicate j v ++ ls.drop (p + j)
theorem midL_0 (ls : List Int) (p : Nat) (v : Int) : midL ls p 0 v = ls := by unfold midL; rw [List.replicate_zero, List.append_nil, Nat.add_zero, List.take_append_drop]
theorem midL_len {ls : List Int} {p j : Nat} (v : Int) (h : p + j ≤ ls.length) : (midL ls p j v).length = ls.length := by
  unfold midL
  simp only [List.length_append, List.length_take, List.length_replicate, List.length_drop]
  omega
theorem midL_set {ls : List Int} {p j : Nat} {v : Int} (h : p + j < ls.length) : (midL ls p j v).set (p + j) v = midL ls p (j + 1) v := by
  unfold midL
  have e : ls.drop (p + j) = ls[p + j] :: ls.drop (p + (j + 1)) := (List.getElem_cons_drop h).symm
  have l : (ls.take p ++ List.replicate j v).length = p + j := by simp only [List.length_append, List.length_take, List.length_replicate]; omega
  rw [List.set_append, if_neg (by omega), l, Nat.sub_self, e, List.set_cons_zero, List.replicate_succ', List.append_assoc, List.append_assoc, List.append_assoc]
  rfl
theorem midL_rep (ls : List Int) {p q : Nat} (v : Int) (h : p ≤ q) : midL ls p (q + 1 - p) v = rep ls p q v := by
  unfold midL rep
  rw [show p + (q + 1 - p) = q + 1 by omega]
section
variable {S : Store} (wf : WF S)
include wf
theorem fill_loop {ls : List Int} {p : Nat} {v : Int} {x0 x1 x2 x5 x6 : Option SV} : ∀ (m j : Nat) (x7 : Option SV), p + j + m ≤ ls.length → ∃ y7 : Option SV,
    loopM (fun _ => True) (gNm 7) f_law_levels_at_1 (rngS ((p + j : Nat) : Int) m) [x0, x1, x2, some (.cell S.length), some (.fr (.int v)), x5, x6, x7] (S ++ [.lst (svi (midL ls p j v))]) =
      .ok (.nx, [x0, x1, x2, some (.cell S.length), some (.fr (.int v)), x5, x6, y7], S ++ [.lst (svi (midL ls p (j + m) v))])
  | 0, j, x7, _ => ⟨x7, loop_nil _ _ trivial⟩
  | m + 1, j, x7, h => by
    obtain ⟨y7, ih⟩ := fill_loop m (j + 1) (some (.fr (.int ((p + j : Nat) : Int)))) (by omega) (x0 := x0) (x1 := x1) (x2 := x2) (x5 := x5) (x6 := x6) (ls := ls) (p := p) (v := v)
    have g : (S ++ [Cell.lst (svi (midL ls p j v))])[S.length]? = some (.lst (svi (midL ls p j v))) := get_snoc
    have st : setL (.cell S.length) (.fr (.int ((p + j : Nat) : Int))) (.fr (.int v)) (S ++ [.lst (svi (midL ls p j v))]) = .ok (S ++ [.lst (svi (midL ls p (j + 1) v))]) := by
      unfold setL
      simp only [g]
      rw [ixN_nat (by rw [List.length_map, midL_len v (by omega)]; omega)]
      dsimp only
      rw [set_snoc, ← List.map_set, midL_set (by omega)]
    refine ⟨y7, ?_⟩
    have tn : (gNm 7 (.fr (.int ((p + j : Nat) : Int))) [x0, x1, x2, some (.cell S.length), some (.fr (.int v)), x5, x6, x7] (S ++ [.lst (svi (midL ls p j v))])).bind (k_body f_law_levels_at_1) =
        .ok (.nx, [x0, x1, x2, some (.cell S.length), some (.fr (.int v)), x5, x6, some (.fr (.int ((p + j : Nat) : Int)))], S ++ [.lst (svi (midL ls p (j + 1) v))]) := by
      simp only [RR, DL.isNon, List.replicate_succ, List.replicate_zero, List.set_cons_zero, List.set_cons_succ, List.getElem?_cons_zero, List.getElem?_cons_succ, Option.map_some, Nat.reduceSub, and_self, and_true, true_and, decide_true, decide_false, if_true, if_false, Bool.false_eq_true, Bool.not_true, Bool.not_false, Nat.reduceAdd, Nat.reduceMul, Nat.reduceLeDiff, f_law_levels_at_1, st]
    rw [rng_cons, loop_cons _ _ _ trivial, tn, r_bind, s_turnN, show ((p + j : Nat) : Int) + 1 = ((p + (j + 1) : Nat) : Int) by omega, ih, show j + 1 + m = j + (m + 1) by omega]
theorem lv_loop {N : Nat} (hN : N ≤ 60) {x0 x1 x2 : Option SV} : ∀ (rows : List Rw) (ls : List Int) (x4 x5 x6 x7 : Option SV), ls.length = N → (∀ r ∈ rows, RwOk N r) → ∃ y4 y5 y6 y7 : Option SV,
    loopM (fun _ => True) (gTu 3 (gCs (gNm 4) (gCs (gNm 5) (gCs (gNm 6) gNl)))) f_law_levels_at_2 ((rows.map rwD).map SV.fr) [x0, x1, x2, some (.cell S.length), x4, x5, x6, x7] (S ++ [.lst (svi ls)]) =
      .ok (.nx, [x0, x1, x2, some (.cell S.length), y4, y5, y6, y7], S ++ [.lst (svi (lvs ls rows))])
  | [], ls, x4, x5, x6, x7, _, _ => ⟨x4, x5, x6, x7, loop_nil _ _ trivial⟩
  | r :: rows, ls, x4, x5, x6, x7, hl, h => by
    have ok := h r List.mem_cons_self
    have h1 := ok.pq
    have h2 := ok.q
    have l1 : (lv1 ls r).length = N := by unfold lv1; rw [rep_len _ h1 (by omega), hl]
    obtain ⟨z7, fl⟩ := fill_loop wf (ls := ls) (p := r.2.1) (v := r.1) (r.2.2 + 1 - r.2.1) 0 x7 (by omega) (x0 := x0) (x1 := x1) (x2 := x2) (x5 := some (.fr (.int (r.2.1 : Nat)))) (x6 := some (.fr (.int (r.2.2 : Nat))))
    rw [midL_0, Nat.zero_add, midL_rep ls r.1 h1, Nat.add_zero] at fl
    obtain ⟨y4, y5, y6, y7, ih⟩ := lv_loop hN rows (lv1 ls r) (some (.fr (.int r.1))) (some (.fr (.int (r.2.1 : Nat)))) (some (.fr (.int (r.2.2 : Nat)))) z7 l1 (fun x hx => h x (List.mem_cons_of_mem _ hx)) (x0 := x0) (x1 := x1) (x2 := x2)
    have r2 : ∀ S : Store, k_r2 ([.fr (.int (r.2.1 : Nat)), .fr (.int ((r.2.2 : Nat) + 1))], S) = .ok (⟨rngS (r.2.1 : Nat) (r.2.2 + 1 - r.2.1), fun _ => True⟩, S) := fun S => by
      rw [s_r2 (by omega)]
      congr 4
      omega
    refine ⟨y4, y5, y6, y7, ?_⟩
    have st : (gTu 3 (gCs (gNm 4) (gCs (gNm 5) (gCs (gNm 6) gNl))) (.fr (rwD r)) [x0, x1, x2, some (.cell S.length), x4, x5, x6, x7] (S ++ [.lst (svi ls)])).bind (k_body f_law_levels_at_2) =
        .ok (.nx, [x0, x1, x2, some (.cell S.length), some (.fr (.int r.1)), some (.fr (.int (r.2.1 : Nat))), some (.fr (.int (r.2.2 : Nat))), z7], S ++ [.lst (svi (lv1 ls r))]) := by
      simp only [RR, DL.isNon, List.replicate_succ, List.replicate_zero, List.set_cons_zero, List.set_cons_succ, List.getElem?_cons_zero, List.getElem?_cons_succ, Option.map_some, Nat.reduceSub, and_self, and_true, true_and, decide_true, decide_false, if_true, if_false, Bool.false_eq_true, Bool.not_true, Bool.not_false, Nat.reduceAdd, Nat.reduceMul, Nat.reduceLeDiff, f_law_levels_at_2, r2, fl]
      rfl
    rw [List.map_cons, List.map_cons, loop_cons _ _ _ trivial, st, r_bind, s_turnN, ih]
    rfl
theorem pg_at {pss : List (List Rw)} {p : Pl} (h : p.1 < pss.length) : atI (pss.map fun p => D.lst (p.map rwD)) ((p.1 : Nat) : Int) = some (.lst ((pss.getD p.1 []).map rwD)) := by
  rw [DL.atI_nat, List.getElem?_map, List.getElem?_eq_getElem h, List.getD_eq_getElem?_getD, List.getElem?_eq_getElem h]
  rfl
theorem levels_at_run {N : Nat} (hN : N ≤ 60) {pss : List (List Rw)} (g : Pgs N pss) {p : Pl} (hp : p.1 < pss.length) : m_law_levels_at [.fr (pgsD pss), .fr (plD p), .fr (.int (N : Nat))] S = .ok (.new (.lst (svi (lvP N pss p))), S) := by
  have hz := sizeLine_eq
  have mu : mulG true (.fr (.lst [.int 0])) (.fr (.int (N : Nat))) S = .ok (.cell S.length, S ++ [.lst (svi (zer N))]) := by
    unfold mulG
    simp only [rdL]
    rw [if_pos ⟨by omega, by omega, by simp; omega⟩]
    have e : (List.replicate ((N : Int).toNat) (List.map SV.fr [D.int 0])).flatten = svi (zer N) := by
      rw [Int.toNat_natCast]
      clear g hN
      have : ∀ n : Nat, (List.replicate n (List.map SV.fr [D.int 0])).flatten = svi (zer n) := fun n => by
        induction n with
        | zero => rfl
        | succ n ih => rw [List.replicate_succ, List.flatten_cons, ih]; rfl
      exact this N
    rw [e]
    unfold newL
    rw [if_pos (by simp; omega)]
    rfl
  have hm : pss.getD p.1 [] ∈ pss := by
    rw [List.getD_eq_getElem?_getD, List.getElem?_eq_getElem hp]
    exact List.getElem_mem hp
  have hr : ∀ r ∈ (pss.getD p.1 []).take p.2, RwOk N r := fun r hr => (g.it _ hm).1 r (List.mem_of_mem_take hr)
  obtain ⟨y4, y5, y6, y7, lp⟩ := lv_loop wf hN ((pss.getD p.1 []).take p.2) (zer N) none none none none List.length_replicate hr (x0 := some (.fr (pgsD pss))) (x1 := some (.fr (plD p))) (x2 := some (.fr (.int (N : Nat))))
  have ct : cutA ((pss.getD p.1 []).map rwD) none (some ((p.2 : Nat) : Int)) = ((pss.getD p.1 []).take p.2).map rwD := by rw [cut_to, List.map_take]
  have at_ := pg_at wf hp
  have lv : leave S.length (.cell S.length) (S ++ [.lst (svi (lvP N pss p))]) = .ok (.new (.lst (svi (lvP N pss p))), S) := leave_new wf (below_svi _ _)
  simp only [RR, DL.isNon, List.replicate_succ, List.replicate_zero, List.set_cons_zero, List.set_cons_succ, List.getElem?_cons_zero, List.getElem?_cons_succ, Option.map_some, Nat.reduceSub, and_self, and_true, true_and, decide_true, decide_false, if_true, if_false, Bool.false_eq_true, Bool.not_true, Bool.not_false, Nat.reduceAdd, Nat.reduceMul, Nat.reduceLeDiff, m_law_levels_at, b_law_levels_at, mu, at_, ct, lp, lv]
theorem zer_nil {cs : List Int} (h : MB.Fs cs) (hl : cs.length < 60) : cellH cs (zer cs.length) = [] := by
  have c := zer_cel h hl
  refine (Rp.eq c ⟨nil_hd h.zero, fun i x k => ?_⟩).symm
  rw [List.getD_eq_getElem?_getD, List.getElem?_replicate]
  split <;> rfl
theorem held_loop {cs : List Int} {x0 x1 x2 x3 : Option SV} : ∀ (rows : List Rw) (ls : List Int) (x5 x6 x7 : Option SV), Cel cs ls → (∀ r ∈ rows, RwOk cs.length r) → ∃ y5 y6 y7 : Option SV,
    loopM (fun _ => True) (gTu 3 (gCs (gNm 5) (gCs (gNm 6) (gCs (gNm 7) gNl)))) f_Crowd_held_1 ((rows.map (tcD cs)).map SV.fr) [x0, x1, x2, x3, some (.fr (hdD (cellH cs ls))), x5, x6, x7] S =
      .ok (.nx, [x0, x1, x2, x3, some (.fr (hdD (cellH cs (lvs ls rows)))), y5, y6, y7], S)
  | [], ls, x5, x6, x7, _, _ => ⟨x5, x6, x7, loop_nil _ _ trivial⟩
  | r :: rows, ls, x5, x6, x7, c, h => by
    have ok := h r List.mem_cons_self
    have hc := getD_at (cs := cs) (k := r.2.1) (by have := ok.pq; have := ok.q; omega)
    obtain ⟨o1, o2, o3⟩ := span_ok c hc ok.pq
    have pr := paint_run (F := cs) wf c.few c.hd.1 ok.l o1 o2 o3
    rw [paint_cell c ok.l hc ok.pq ok.q] at pr
    obtain ⟨y5, y6, y7, ih⟩ := held_loop rows (lv1 ls r) (some (.fr (.int r.1))) (some (.fr (.int (cs.getD r.2.1 0)))) (some (.fr (oD (lastAt cs r.2.2)))) (rep_cel c ok.l ok.pq ok.q) (fun x hx => h x (List.mem_cons_of_mem _ hx)) (x0 := x0) (x1 := x1) (x2 := x2) (x3 := x3)
    refine ⟨y5, y6, y7, ?_⟩
    have e4 : ∀ (m : AM) (rho : Slots), k_meth false [("Holding", m_Holding_painted)] "painted" m rho (.fr (hdD (cellH cs ls)), S) = (m rho S).bind (k_methb false m_Holding_painted (.fr (hdD (cellH cs ls)))) := fun m rho => kPaint false m_Holding_painted m rho
    have st : (gTu 3 (gCs (gNm 5) (gCs (gNm 6) (gCs (gNm 7) gNl))) (.fr (tcD cs r)) [x0, x1, x2, x3, some (.fr (hdD (cellH cs ls))), x5, x6, x7] S).bind (k_body f_Crowd_held_1) =
        .ok (.nx, [x0, x1, x2, x3, some (.fr (hdD (cellH cs (lv1 ls r)))), some (.fr (.int r.1)), some (.fr (.int (cs.getD r.2.1 0))), some (.fr (oD (lastAt cs r.2.2)))], S) := by
      unfold tcD
      simp only [RR, DL.isNon, List.replicate_succ, List.replicate_zero, List.set_cons_zero, List.set_cons_succ, List.getElem?_cons_zero, List.getElem?_cons_succ, Option.map_some, Nat.reduceSub, and_self, and_true, true_and, decide_true, decide_false, if_true, if_false, Bool.false_eq_true, Bool.not_true, Bool.not_false, Nat.reduceAdd, Nat.reduceMul, Nat.reduceLeDiff, f_Crowd_held_1, e4, pr]
      rfl
    rw [List.map_cons, List.map_cons, loop_cons _ _ _ trivial, st, r_bind, s_turnN, ih]
    rfl
theorem cw_at {cs : List Int} {pss : List (List Rw)} {p : Pl} (h : p.1 < pss.length) : atI ((tps cs pss).map D.lst) ((p.1 : Nat) : Int) = some (.lst ((pss.getD p.1 []).map (tcD cs))) := by
  unfold tps
  rw [List.map_map, DL.atI_nat, List.getElem?_map, List.getElem?_eq_getElem h, List.getD_eq_getElem?_getD, List.getElem?_eq_getElem h]
  rfl
theorem held_run {cs : List Int} (hf : MB.Fs cs) (hl : cs.length < 60) {pss : List (List Rw)} (g : Pgs cs.length pss) {p : Pl} (hp : p.1 < pss.length) : m_Crowd_held [.fr (crwD (tps cs pss)), .fr (plD p)] S = .ok (.val (.fr (hdD (cellH cs (lvP cs.length pss p)))), S) ∧ Cel cs (lvP cs.length pss p) := by
  have hm : pss.getD p.1 [] ∈ pss := by
    rw [List.getD_eq_getElem?_getD, List.getElem?_eq_getElem hp]
    exact List.getElem_mem hp
  have hr : ∀ r ∈ (pss.getD p.1 []).take p.2, RwOk cs.length r := fun r hr => (g.it _ hm).1 r (List.mem_of_mem_take hr)
  have c0 := zer_cel hf hl
  obtain ⟨y5, y6, y7, lp⟩ := held_loop wf ((pss.getD p.1 []).take p.2) (zer cs.length) none none none c0 hr (x0 := some (.fr (crwD (tps cs pss)))) (x1 := some (.fr (plD p))) (x2 := some (.fr (.int (p.1 : Nat)))) (x3 := some (.fr (.int (p.2 : Nat))))
  rw [zer_nil wf hf hl] at lp
  have ct : cutA ((pss.getD p.1 []).map (tcD cs)) none (some ((p.2 : Nat) : Int)) = ((pss.getD p.1 []).take p.2).map (tcD cs) := by rw [cut_to, List.map_take]
  have at_ := cw_at wf (cs := cs) hp
  have e1 := nil_init wf
  have e2 := nil_mk wf
  refine ⟨?_, lvs_cel c0 hr⟩
  simp only [RR, DL.isNon, List.replicate_succ, List.replicate_zero, List.set_cons_zero, List.set_cons_succ, List.getElem?_cons_zero, List.getElem?_cons_succ, Option.map_some, Nat.reduceSub, and_self, and_true, true_and, decide_true, decide_false, if_true, if_false, Bool.false_eq_true, Bool.not_true, Bool.not_false, Nat.reduceAdd, Nat.reduceMul, Nat.reduceLeDiff, m_Crowd_held, b_Crowd_held, e1, e2, fldC, at_, ct, lp, leave_val wf]
abbrev rwAt (pss : List (List Rw)) (p : Pl) : Rw := (pss.getD p.1 []).getD p.2 (0, 0, 0)
abbrev wayB (N : Nat) (pss : List (List Rw)) (p o : Pl) : Bool := !lawG (rwAt pss o).1 (lvP N pss p) (rwAt pss o).2.1 (rwAt pss o).2.2
structure PlOk (pss : List (List Rw)) (p : Pl) : Prop where
  a : p.1 < pss.length
  d : p.2 < (pss.getD p.1 []).length
theorem PlOk.row {N : Nat} {pss : List (List Rw)} (g : Pgs N pss) {p : Pl} (h : PlOk pss p) : RwOk N (rwAt pss p) ∧ (pss.getD p.1 [])[p.2]? = some (rwAt pss p) := by
  have hm : pss.getD p.1 [] ∈ pss := by
    rw [List.getD_eq_getElem?_getD, List.getElem?_eq_getElem h.a]
    exact List.getElem_mem h.a
  have e : (pss.getD p.1 [])[p.2]? = some (rwAt pss p) := by
    unfold rwAt
    rw [List.getD_eq_getElem?_getD (l := pss.getD p.1 []), List.getElem?_eq_getElem h.d]
    rfl
  exact ⟨(g.it _ hm).1 _ (List.mem_of_getElem? e), e⟩
theorem next_run {cs : List Int} {pss : List (List Rw)} (g : Pgs cs.length pss) {p : Pl} (h : PlOk pss p) : m_Crowd_next_call [.fr (crwD (tps cs pss)), .fr (plD p)] S = .ok (.val (.fr (tcD cs (rwAt pss p))), S) := by
  have at_ := cw_at wf (cs := cs) h.a
  have a2 : atI ((pss.getD p.1 []).map (tcD cs)) ((p.2 : Nat) : Int) = some (tcD cs (rwAt pss p)) := by
    rw [DL.atI_nat, List.getElem?_map, (h.row wf g).2]
    rfl
  simp only [RR, DL.isNon, List.replicate_succ, List.replicate_zero, List.set_cons_zero, List.set_cons_succ, List.getElem?_cons_zero, List.getElem?_cons_succ, Option.map_some, Nat.reduceSub, and_self, and_true, true_and, decide_true, decide_false, if_true, if_false, Bool.false_eq_true, Bool.not_true, Bool.not_false, Nat.reduceAdd, Nat.reduceMul, Nat.reduceLeDiff, m_Crowd_next_call, b_Crowd_next_call, fldC, at_, a2, leave_val wf]
theorem way_run {cs : List Int} (hf : MB.Fs cs) (hl : cs.length < 60) {pss : List (List Rw)} (g : Pgs cs.length pss) {p o : Pl} (hp : p.1 < pss.length) (ho : PlOk pss o) : m_Crowd_in_the_way [.fr (crwD (tps cs pss)), .fr (plD p), .fr (plD o)] S = .ok (.val (.fr (.bl (wayB cs.length pss p o))), S) := by
  obtain ⟨e1, c⟩ := held_run wf hf hl g hp
  have e2 := next_run wf g ho
  obtain ⟨ok, _⟩ := ho.row wf g
  have hc := getD_at (cs := cs) (k := (rwAt pss o).2.1) (by have := ok.pq; have := ok.q; omega)
  obtain ⟨o1, o2, o3⟩ := span_ok c hc ok.pq
  have e3 := one_run wf ok.l o1
  have e4 := hinv_run wf c.few c.hd.1
  have e5 := oneW_run wf c ok.l o1
  rw [← gr_eq c ok.l hc ok.pq ok.q] at e5
  have k1 : ∀ (cc : Bool) (m : AM) (rho : Slots), k_meth cc [("Crowd", m_Crowd_next_call)] "next_call" m rho (.fr (crwD (tps cs pss)), S) = (m rho S).bind (k_methb cc m_Crowd_next_call (.fr (crwD (tps cs pss)))) := fun cc m rho => s_meth rfl
  have k2 : ∀ (cc : Bool) (m : AM) (rho : Slots), k_meth cc [("Crowd", m_Crowd_held)] "held" m rho (.fr (crwD (tps cs pss)), S) = (m rho S).bind (k_methb cc m_Crowd_held (.fr (crwD (tps cs pss)))) := fun cc m rho => s_meth rfl
  have lv := leave_val wf (d := .bl (wayB cs.length pss p o))
  unfold tcD at e2
  simp only [RR, DL.isNon, List.replicate_succ, List.replicate_zero, List.set_cons_zero, List.set_cons_succ, List.getElem?_cons_zero, List.getElem?_cons_succ, Option.map_some, Nat.reduceSub, and_self, and_true, true_and, decide_true, decide_false, if_true, if_false, Bool.false_eq_true, Bool.not_true, Bool.not_false, Nat.reduceAdd, Nat.reduceMul, Nat.reduceLeDiff, m_Crowd_in_the_way, b_Crowd_in_the_way, k1, e2, e3, kWithin, own1H, k2, e1, e4, e5, lv]
end

theorem alike_is71 : m_law_alike = alikeM := rfl
abbrev nkP (p o : Pl) : NK := [[(p.1 : Nat), (p.2 : Nat)], [(o.1 : Nat), (o.2 : Nat)]]
theorem findN_set (kvs : List (NK × Bool)) (k k' : NK) (v : Bool) : findN (setN kvs k v) k' = if k' = k then some v else findN kvs k' := by
  have upd : ∀ l : List (NK × Bool), findN (l.map fun x => if x.1 = k then (x.1, v) else x) k' = if k' = k then (findN l k).map (fun _ => v) else findN l k' := by
    intro l
    induction l with
    | nil => unfold findN; simp
    | cons x l ih =>
      unfold findN at ih ⊢
      rw [List.map_cons]
      by_cases q : x.1 = k
      · rw [if_pos q]
        by_cases q2 : k' = k
        · subst q2
          rw [List.find?_cons_of_pos (by simpa using q), List.find?_cons_of_pos (by simpa using q), if_pos rfl]
          rfl
        · have q3 : ¬ x.1 = k' := fun e => q2 (e.symm.trans q)
          rw [if_neg q2] at ih ⊢
          rw [List.find?_cons_of_neg (by simpa using q3), List.find?_cons_of_neg (by simpa using q3)]
          exact ih
      · rw [if_neg q]
        by_cases q2 : k' = k
        · subst q2
          rw [if_pos rfl] at ih ⊢
          rw [List.find?_cons_of_neg (by simpa using q), List.find?_cons_of_neg (by simpa using q)]
          exact ih
        · rw [if_neg q2] at ih ⊢
          by_cases q3 : x.1 = k'
          · rw [List.find?_cons_of_pos (by simpa using q3), List.find?_cons_of_pos (by simpa using q3)]
          · rw [List.find?_cons_of_neg (by simpa using q3), List.find?_cons_of_neg (by simpa using q3)]
            exact ih
  unfold setN
  by_cases h : (findN kvs k).isSome = true
  · rw [if_pos h, upd]
    by_cases q : k' = k
    · rw [if_pos q, if_pos q]
      obtain ⟨w, hw⟩ := Option.isSome_iff_exists.mp h
      rw [hw]
      rfl
    · rw [if_neg q, if_neg q]
  · rw [if_neg h]
    have hn : findN kvs k = none := by simpa using h
    unfold findN at hn ⊢
    rw [List.find?_append]
    by_cases q : k' = k
    · subst q
      rw [if_pos rfl, Option.map_eq_none_iff.mp hn]
      simp
    · have q3 : ¬ k = k' := fun e => q e.symm
      rw [if_neg q, List.find?_cons_of_neg (by simpa using q3), List.find?_nil, Option.or_none]
theorem setN_len (kvs : List (NK × Bool)) (k : NK) (v : Bool) : (setN kvs k v).length ≤ kvs.length + 1 := by
  unfold setN
  split
  · rw [List.length_map]; omega
  · rw [List.length_append]; exact Nat.le_refl _
theorem any_law (l : Int) (ls : List Int) (p q : Nat) : (((List.range (q + 1 - p)).map fun k => decide (2 < l + ls.getD (p + k) 0)).any id) = !lawG l ls p q := by
  unfold lawG
  rw [List.any_map]
  generalize q + 1 - p = n
  generalize List.range n = r
  induction r with
  | nil => rfl
  | cons a r ih =>
    rw [List.any_cons, List.all_cons, ih, Bool.not_and]
    congr 1
    show decide (2 < l + ls.getD (p + a) 0) = !decide (l + ls.getD (p + a) 0 ≤ 2)
    by_cases h : l + ls.getD (p + a) 0 ≤ 2
    · rw [decide_eq_true h, decide_eq_false (by omega)]; rfl
    · rw [decide_eq_false h, decide_eq_true (by omega)]; rfl
section
variable {S : Store} (wf : WF S) {N : Nat} (hN : N ≤ 60) {pss : List (List Rw)} (g : Pgs N pss)
include wf hN g
theorem way_turn (kvs : List (NK × Bool)) (hk : kvs.length ≤ 1000) (p o : Pl) (ho : PlOk pss o) (hl : (lvP N pss p).length = N) {x1 x3 x7 x8 x9 x10 x11 y6 : Option SV} : ∃ z7 z8 z9 : Option SV,
    (gNm 6 (.fr (plD o)) [some (.fr (pgsD pss)), x1, some (.cell S.length), x3, some (.fr (plD p)), some (.fr (intsD (lvP N pss p))), y6, x7, x8, x9, none, none] (S ++ [.nd kvs])).bind (k_body f_law_ways_1) =
      .ok (.nx, [some (.fr (pgsD pss)), x1, some (.cell S.length), x3, some (.fr (plD p)), some (.fr (intsD (lvP N pss p))), some (.fr (plD o)), z7, z8, z9, none, none], S ++ [.nd (setN kvs (nkP p o) (wayB N pss p o))]) := by
  obtain ⟨ok, hrow⟩ := ho.row wf g
  have hz := sizeLine_eq
  have wn : WF (S ++ [.nd kvs]) := wf.snoc rfl
  obtain ⟨r, hr⟩ : ∃ r, rwAt pss o = r := ⟨_, rfl⟩
  have at_ := pg_at wf (pss := pss) ho.a
  have a2 : atI ((pss.getD o.1 []).map rwD) ((o.2 : Nat) : Int) = some (rwD r) := by
    rw [DL.atI_nat, List.getElem?_map, hrow, hr]
    rfl
  rw [hr] at ok
  obtain ⟨ls, hls⟩ : ∃ ls, lvP N pss p = ls := ⟨_, rfl⟩
  have ew : wayB N pss p o = !lawG r.1 ls r.2.1 r.2.2 := by unfold wayB; rw [hr, hls]
  rw [ew]
  rw [hls] at hl
  rw [hls]
  have h1 := ok.pq
  have h2 := ok.q
  have cm : lcM (fun _ => True) (gNm 11) tTr (DL.e2 gtG (DL.e2 (addG false) (eV 7) (DL.e2 ixG (eV 5) (eV 11))) (eC (.int 2))) [10, 11] [some (.fr (pgsD pss)), x1, some (.cell S.length), x3, some (.fr (plD p)), some (.fr (intsD ls)), some (.fr (plD o)), some (.fr (.int r.1)), some (.fr (.int (r.2.1 : Nat))), some (.fr (.int (r.2.2 : Nat))), none, none]
      (rngS (r.2.1 : Int) (r.2.2 + 1 - r.2.1)) (S ++ [.nd kvs]) [] = .ok (((List.range (r.2.2 + 1 - r.2.1)).map fun k => D.bl (decide (2 < r.1 + ls.getD (r.2.1 + k) 0))).map SV.fr, S ++ [.nd kvs]) := by
    rw [rngP]
    refine lc_gen (fun k : Nat => D.int ((r.2.1 : Int) + (k : Int))) (fun k : Nat => D.bl (decide (2 < r.1 + ls.getD (r.2.1 + k) 0))) _ (by rw [List.length_range]; omega) fun k hk ds => ?_
    have hk := List.mem_range.mp hk
    have e1 := atI_getD (xs := ls) (k := r.2.1 + k) (by omega)
    rw [show ((r.2.1 + k : Nat) : Int) = (r.2.1 : Int) + (k : Int) by omega] at e1
    simp only [RR, DL.isNon, List.replicate_succ, List.replicate_zero, List.set_cons_zero, List.set_cons_succ, List.getElem?_cons_zero, List.getElem?_cons_succ, Option.map_some, Nat.reduceSub, and_self, and_true, true_and, decide_true, decide_false, if_true, if_false, Bool.false_eq_true, Bool.not_true, Bool.not_false, Nat.reduceAdd, Nat.reduceMul, Nat.reduceLeDiff, e1]
  have e2 : ((List.range (r.2.2 + 1 - r.2.1)).map fun k => D.bl (decide (2 < r.1 + ls.getD (r.2.1 + k) 0))) = ((List.range (r.2.2 + 1 - r.2.1)).map fun k => decide (2 < r.1 + ls.getD (r.2.1 + k) 0)).map D.bl := by
    rw [List.map_map]
    rfl
  rw [e2] at cm
  have an := any_bls (S := S ++ [.nd kvs]) ((List.range (r.2.2 + 1 - r.2.1)).map fun k => decide (2 < r.1 + ls.getD (r.2.1 + k) 0))
  rw [any_law] at an
  have r2 : ∀ S : Store, k_r2 ([.fr (.int (r.2.1 : Nat)), .fr (.int ((r.2.2 : Nat) + 1))], S) = .ok (⟨rngS (r.2.1 : Nat) (r.2.2 + 1 - r.2.1), fun _ => True⟩, S) := fun S => by
    rw [s_r2 (by omega)]
    congr 4
    omega
  have pt : ∀ (x : SV) (rho : Slots), rho[2]? = some (some (.cell S.length)) → rho[4]? = some (some (.fr (plD p))) → rho[6]? = some (some (.fr (plD o))) → x = .fr (.bl (!lawG r.1 ls r.2.1 r.2.2)) → gPtN (eV 2) (eA newT (aC (eV 4) (aC (eV 6) aN))) x rho (S ++ [.nd kvs]) = .ok (rho, S ++ [.nd (setN kvs (nkP p o) (!lawG r.1 ls r.2.1 r.2.2))]) := by
    rintro x rho h2 h4 h6 rfl
    unfold gPtN
    have nt : eA newT (aC (eV 4) (aC (eV 6) aN)) rho (S ++ [.nd kvs]) = .ok (.fr (nkD (nkP p o)), S ++ [.nd kvs]) := by
      rw [r_g, r_a, r_v, h4, s_v, r_bind, s_a, r_a, r_v, h6, s_v, r_bind, s_a, r_n, r_bind, s_ab, r_bind, s_ab, r_bind, s_g]
      rfl
    rw [r_v, h2, s_v, r_bind, nt, r_bind]
    dsimp only
    unfold putND
    rw [keyN_of]
    dsimp only
    rw [show (S ++ [Cell.nd kvs])[S.length]? = some (.nd kvs) from get_snoc]
    dsimp only
    rw [if_pos (by omega), set_snoc, r_bind]
  have pt1 := pt (.fr (.bl (!lawG r.1 ls r.2.1 r.2.2))) [some (.fr (pgsD pss)), x1, some (.cell S.length), x3, some (.fr (plD p)), some (.fr (intsD ls)), some (.fr (plD o)), some (.fr (.int r.1)), some (.fr (.int (r.2.1 : Nat))), some (.fr (.int (r.2.2 : Nat))), none, none] rfl rfl rfl rfl
  refine ⟨some (.fr (.int r.1)), some (.fr (.int (r.2.1 : Nat))), some (.fr (.int (r.2.2 : Nat))), ?_⟩
  simp only [RR, DL.isNon, List.replicate_succ, List.replicate_zero, List.set_cons_zero, List.set_cons_succ, List.getElem?_cons_zero, List.getElem?_cons_succ, Option.map_some, Nat.reduceSub, and_self, and_true, true_and, decide_true, decide_false, if_true, if_false, Bool.false_eq_true, Bool.not_true, Bool.not_false, Nat.reduceAdd, Nat.reduceMul, Nat.reduceLeDiff, f_law_ways_1, at_, a2, r2, cm, s_lceF wn, an, pt1]
theorem way_loop (p : Pl) (hl : (lvP N pss p).length = N) {x1 x3 : Option SV} : ∀ (os : List Pl) (kvs : List (NK × Bool)) (y6 x7 x8 x9 : Option SV) (done : List (Pl × Pl)), kvs.length + os.length ≤ 1000 → (∀ o ∈ os, PlOk pss o) → (∀ q ∈ done, findN kvs (nkP q.1 q.2) = some (wayB N pss q.1 q.2)) →
    ∃ (kvs' : List (NK × Bool)) (z6 z7 z8 z9 : Option SV), kvs'.length ≤ kvs.length + os.length ∧ (∀ q ∈ done ++ os.map fun o => (p, o), findN kvs' (nkP q.1 q.2) = some (wayB N pss q.1 q.2)) ∧
    loopM (fun _ => True) (gNm 6) f_law_ways_1 ((os.map plD).map SV.fr) [some (.fr (pgsD pss)), x1, some (.cell S.length), x3, some (.fr (plD p)), some (.fr (intsD (lvP N pss p))), y6, x7, x8, x9, none, none] (S ++ [.nd kvs]) =
      .ok (.nx, [some (.fr (pgsD pss)), x1, some (.cell S.length), x3, some (.fr (plD p)), some (.fr (intsD (lvP N pss p))), z6, z7, z8, z9, none, none], S ++ [.nd kvs'])
  | [], kvs, y6, x7, x8, x9, done, _, _, hd => ⟨kvs, y6, x7, x8, x9, by simp, by rw [List.map_nil, List.append_nil]; exact hd, loop_nil _ _ trivial⟩
  | o :: os, kvs, y6, x7, x8, x9, done, hk, ho, hd => by
    rw [List.length_cons] at hk
    obtain ⟨z7, z8, z9, st⟩ := way_turn wf hN g kvs (by omega) p o (ho o List.mem_cons_self) hl (x1 := x1) (x3 := x3) (x7 := x7) (x8 := x8) (x9 := x9) (y6 := y6) (x10 := none) (x11 := none)
    have sl := setN_len kvs (nkP p o) (wayB N pss p o)
    obtain ⟨kvs', w6, w7, w8, w9, kl, kd, ih⟩ := way_loop p hl os (setN kvs (nkP p o) (wayB N pss p o)) (some (.fr (plD o))) z7 z8 z9 (done ++ [(p, o)]) (by omega) (fun x hx => ho x (List.mem_cons_of_mem _ hx)) (fun q hq => by
      rw [findN_set]
      split
      · rename_i e
        obtain ⟨a, b⟩ := q
        have : a = p ∧ b = o := by
          simp only [nkP, List.cons.injEq, and_true, Int.natCast_inj] at e
          exact ⟨Prod.ext e.1.1 e.1.2, Prod.ext e.2.1 e.2.2⟩
        rw [this.1, this.2]
      · rename_i e
        rcases List.mem_append.mp hq with hq | hq
        · exact hd q hq
        · rcases List.mem_singleton.mp hq with rfl
          exact absurd rfl e) (x1 := x1) (x3 := x3)
    refine ⟨kvs', w6, w7, w8, w9, by rw [List.length_cons]; omega, ?_, ?_⟩
    · rw [List.map_cons]
      rw [List.append_assoc] at kd
      exact kd
    · rw [List.map_cons, List.map_cons, loop_cons _ _ _ trivial, st, r_bind, s_turnN, ih]
theorem lv_len {p : Pl} (hp : p.1 < pss.length) : (lvP N pss p).length = N := by
  have hm : pss.getD p.1 [] ∈ pss := by
    rw [List.getD_eq_getElem?_getD, List.getElem?_eq_getElem hp]
    exact List.getElem_mem hp
  have hr : ∀ r ∈ (pss.getD p.1 []).take p.2, RwOk N r := fun r hr => (g.it _ hm).1 r (List.mem_of_mem_take hr)
  have : ∀ (rows : List Rw) (ls : List Int), ls.length = N → (∀ r ∈ rows, RwOk N r) → (lvs ls rows).length = N := by
    intro rows
    induction rows with
    | nil => intro ls h _; exact h
    | cons r rows ih =>
      intro ls h hr
      have ok := hr r List.mem_cons_self
      exact ih (lv1 ls r) (by unfold lv1; rw [rep_len _ ok.pq (by rw [h]; exact ok.q), h]) fun x hx => hr x (List.mem_cons_of_mem _ hx)
  exact this _ _ List.length_replicate hr
theorem ways_loop (os : List Pl) (ho : ∀ o ∈ os, PlOk pss o) (hos : os.length ≤ 6) : ∀ (qs : List Pl) (kvs : List (NK × Bool)) (x4 x5 y6 x7 x8 x9 : Option SV) (done : List (Pl × Pl)), kvs.length + qs.length * 6 ≤ 900 → (∀ q ∈ qs, PlOk pss q) → (∀ q ∈ done, findN kvs (nkP q.1 q.2) = some (wayB N pss q.1 q.2)) →
    ∃ (kvs' : List (NK × Bool)) (z4 z5 z6 z7 z8 z9 : Option SV), (∀ q ∈ done ++ qs.flatMap fun p => os.map fun o => (p, o), findN kvs' (nkP q.1 q.2) = some (wayB N pss q.1 q.2)) ∧
    loopM (fun _ => True) (gNm 4) f_law_ways_2 ((qs.map plD).map SV.fr) [some (.fr (pgsD pss)), some (.fr (.int (N : Nat))), some (.cell S.length), some (.fr (.lst (os.map plD))), x4, x5, y6, x7, x8, x9, none, none] (S ++ [.nd kvs]) =
      .ok (.nx, [some (.fr (pgsD pss)), some (.fr (.int (N : Nat))), some (.cell S.length), some (.fr (.lst (os.map plD))), z4, z5, z6, z7, z8, z9, none, none], S ++ [.nd kvs'])
  | [], kvs, x4, x5, y6, x7, x8, x9, done, _, _, hd => ⟨kvs, x4, x5, y6, x7, x8, x9, by rw [List.flatMap_nil, List.append_nil]; exact hd, loop_nil _ _ trivial⟩
  | p :: qs, kvs, x4, x5, y6, x7, x8, x9, done, hk, hq, hd => by
    rw [List.length_cons] at hk
    have hp := hq p List.mem_cons_self
    have hl := lv_len wf hN g hp.a
    have la := levels_at_run (wf.snoc (c := .nd kvs) rfl) hN g hp.a
    have fa : allFr (svi (lvP N pss p)) = some ((lvP N pss p).map D.int) := by
      have : svi (lvP N pss p) = ((lvP N pss p).map D.int).map SV.fr := by rw [List.map_map]; rfl
      rw [this, DL.allFr_map]
    obtain ⟨kv1, w6, w7, w8, w9, kl, kd, lp⟩ := way_loop wf hN g p hl os kvs y6 x7 x8 x9 done (by omega) ho hd (x1 := some (.fr (.int (N : Nat)))) (x3 := some (.fr (.lst (os.map plD))))
    obtain ⟨kvs', z4, z5, z6, z7, z8, z9, zd, ih⟩ := ways_loop os ho hos qs kv1 (some (.fr (plD p))) (some (.fr (intsD (lvP N pss p)))) w6 w7 w8 w9 _ (by omega) (fun x hx => hq x (List.mem_cons_of_mem _ hx)) kd
    refine ⟨kvs', z4, z5, z6, z7, z8, z9, ?_, ?_⟩
    · rw [List.flatMap_cons, ← List.append_assoc]
      exact zd
    · have st : (gNm 4 (.fr (plD p)) [some (.fr (pgsD pss)), some (.fr (.int (N : Nat))), some (.cell S.length), some (.fr (.lst (os.map plD))), x4, x5, y6, x7, x8, x9, none, none] (S ++ [.nd kvs])).bind (k_body f_law_ways_2) =
          .ok (.nx, [some (.fr (pgsD pss)), some (.fr (.int (N : Nat))), some (.cell S.length), some (.fr (.lst (os.map plD))), some (.fr (plD p)), some (.fr (intsD (lvP N pss p))), w6, w7, w8, w9, none, none], S ++ [.nd kv1]) := by
        simp only [RR, DL.isNon, List.replicate_succ, List.replicate_zero, List.set_cons_zero, List.set_cons_succ, List.getElem?_cons_zero, List.getElem?_cons_succ, Option.map_some, Nat.reduceSub, and_self, and_true, true_and, decide_true, decide_false, if_true, if_false, Bool.false_eq_true, Bool.not_true, Bool.not_false, Nat.reduceAdd, Nat.reduceMul, Nat.reduceLeDiff, f_law_ways_2, la, fa, lp]
      rw [List.map_cons, List.map_cons, loop_cons _ _ _ trivial, st, r_bind, s_turnN, ih]
abbrev plsOf (pss : List (List Rw)) : List Pl := pls 0 (pss.map List.length)
theorem pls_ok : ∀ o ∈ plsOf pss, PlOk pss o := fun o ho => by
  obtain ⟨_, n, h1, h2⟩ := pls_mem ho
  rw [Nat.sub_zero, List.getElem?_map] at h1
  obtain ⟨p, hp, rfl⟩ := Option.map_eq_some_iff.mp h1
  have lt := (List.getElem?_eq_some_iff.mp hp).1
  refine ⟨lt, ?_⟩
  rw [List.getD_eq_getElem?_getD, hp]
  exact h2
theorem lways_run : ∃ kvs : List (NK × Bool), (∀ p ∈ plsOf pss, ∀ o ∈ plsOf pss, findN kvs (nkP p o) = some (wayB N pss p o)) ∧ m_law_ways [.fr (pgsD pss), .fr (.int (N : Nat))] S = .ok (.new (.nd kvs), S) := by
  have w1 : WF (S ++ [.nd []]) := wf.snoc rfl
  have ok := pls_ok wf hN g
  have ln : (plsOf pss).length ≤ 6 := by unfold plsOf; rw [pls_len]; exact g.sum
  have em : (pss.map fun p => p.map rwD).map List.length = pss.map List.length := by
    rw [List.map_map]
    exact List.map_congr_left fun p _ => List.length_map ..
  have e1 := lplaces_run w1 (rows := pss.map fun p => p.map rwD) (by rw [em]; exact g.sum)
  rw [em, List.map_map] at e1
  have e1' : m_law_places [.fr (pgsD pss)] (S ++ [.nd []]) = .ok (.new (.lst (((plsOf pss).map plD).map SV.fr)), S ++ [.nd []]) := e1
  have fp := DL.allFr_map ((plsOf pss).map plD)
  obtain ⟨kvs, z4, z5, z6, z7, z8, z9, zd, lp⟩ := ways_loop wf hN g (plsOf pss) ok ln (plsOf pss) [] none none none none none none [] (by rw [List.length_nil]; omega) ok nofun
  have lv : leave S.length (.cell S.length) (S ++ [.nd kvs]) = .ok (.new (.nd kvs), S) := leave_new wf rfl
  refine ⟨kvs, fun p hp o ho => ?_, ?_⟩
  · have := zd (p, o) (by rw [List.nil_append, List.mem_flatMap]; exact ⟨p, hp, List.mem_map_of_mem ho⟩)
    exact this
  · have ed : ∀ (rho : Slots), eDNN rho S = .ok (.cell S.length, S ++ [.nd []]) := fun _ => rfl
    simp only [RR, DL.isNon, List.replicate_succ, List.replicate_zero, List.set_cons_zero, List.set_cons_succ, List.getElem?_cons_zero, List.getElem?_cons_succ, Option.map_some, Nat.reduceSub, and_self, and_true, true_and, decide_true, decide_false, if_true, if_false, Bool.false_eq_true, Bool.not_true, Bool.not_false, Nat.reduceAdd, Nat.reduceMul, Nat.reduceLeDiff, m_law_ways, b_law_ways, ed, e1', fp, lp, lv]
end

theorem fit_pls {l : List Pl} (h : ∀ p ∈ l, p.1 ≤ 100 ∧ p.2 ≤ 100) : fit 64 (.lst (l.map plD)) = true ∧ (py (.lst (l.map plD))).bulk ≤ 100 * (l.length + 1) := by
  have hs : ∀ n : Nat, n ≤ 100 → ((n : Int)).natAbs < 10 ^ 129 := fun n hn => by
    have e : 100 < 10 ^ 129 := by decide +kernel
    omega
  constructor
  · simp only [fit]
    induction l with
    | nil => rfl
    | cons p l ih =>
      obtain ⟨h1, h2⟩ := h p List.mem_cons_self
      rw [List.map_cons, fits, ih fun q hq => h q (List.mem_cons_of_mem _ hq), Bool.and_true]
      simp only [fit, fits, Bool.and_true, Bool.and_eq_true, decide_eq_true_eq]
      exact ⟨hs _ h1, hs _ h2⟩
  · simp only [py, PyData.bulk]
    induction l with
    | nil => simp [pys, PyData.bulkAll]
    | cons p l ih =>
      have := ih fun q hq => h q (List.mem_cons_of_mem _ hq)
      rw [List.map_cons, pys, PyData.bulkAll, List.length_cons]
      have e : (py (plD p)).bulk ≤ 10 := by simp [py, pys, PyData.bulk, PyData.bulkAll]
      omega
theorem set_in70 {S U : Store} {c x : Cell} {i : Nat} (h : S.length < i) : (S ++ c :: U).set i x = S ++ c :: (U.set (i - S.length - 1) x) := by
  rw [List.set_append, if_neg (by omega), show i - S.length = (i - S.length - 1) + 1 by omega, List.set_cons_succ]
  rfl
section
variable {S : Store} (wf : WF S) {cs : List Int} (hf : MB.Fs cs) (hl : cs.length < 60) (hc : ∀ c ∈ cs, c ≤ 10 ^ 41) {pss : List (List Rw)} (g : Pgs cs.length pss) {kvs : List (NK × Bool)} (hk : ∀ p ∈ plsOf pss, ∀ o ∈ plsOf pss, findN kvs (nkP p o) = some (wayB cs.length pss p o))
include wf hf hl hc g hk
theorem ask_way {U : Store} (w : WF (S ++ .nd kvs :: U)) {p : Pl} (hp : p ∈ plsOf pss) {x0 x1 x2 x4 x6 x8 x9 : Option SV} : ∀ (os : List Pl) (y10 y11 : Option SV), (∀ o ∈ os, o ∈ plsOf pss) → ∃ z10 z11 : Option SV,
    loopM (fun _ => True) (gNm 10) f_law_right_1 ((os.map plD).map SV.fr) [x0, x1, x2, some (.fr (crwD (tps cs pss))), x4, some (.cell S.length), x6, some (.fr (plD p)), x8, x9, y10, y11] (S ++ .nd kvs :: U) =
      .ok (.nx, [x0, x1, x2, some (.fr (crwD (tps cs pss))), x4, some (.cell S.length), x6, some (.fr (plD p)), x8, x9, z10, z11], S ++ .nd kvs :: U)
  | [], y10, y11, _ => ⟨y10, y11, loop_nil _ _ trivial⟩
  | o :: os, y10, y11, ho => by
    have o1 := ho o List.mem_cons_self
    have pk := pls_ok wf (by omega) g
    have wy := way_run w hf hl g (pk p hp).a (pk o o1)
    have hv := hk p hp o o1
    have kw : ∀ (cc : Bool) (m : AM) (rho : Slots), k_meth cc [("Crowd", m_Crowd_in_the_way)] "in_the_way" m rho (.fr (crwD (tps cs pss)), S ++ .nd kvs :: U) = (m rho (S ++ .nd kvs :: U)).bind (k_methb cc m_Crowd_in_the_way (.fr (crwD (tps cs pss)))) := fun cc m rho => s_meth rfl
    generalize wayB cs.length pss p o = v at wy hv
    have dg : dgNG (.cell S.length) (.fr (.tup [plD p, plD o])) (S ++ .nd kvs :: U) = .ok (.fr (.bl v), S ++ .nd kvs :: U) := by
      have kn : keyN (.fr (.tup [plD p, plD o])) = some (nkP p o) := keyN_of (nkP p o)
      unfold dgNG
      rw [kn]
      dsimp only
      rw [mid_get]
      dsimp only
      rw [hv]
      rfl
    have nt : ∀ S : Store, newT [.fr (plD p), .fr (plD o)] S = .ok (.fr (.tup [plD p, plD o]), S) := fun _ => rfl
    have q1 : ∀ S : Store, eqG true (.fr (.bl v)) (.fr (.bl v)) S = .ok (.fr (.bl false), S) := fun S => by cases v <;> rfl
    have ib : ∀ S : Store, isiG [.fr (.bl v), .fr (.ty "bool")] S = .ok (.fr (.bl true), S) := fun _ => rfl
    have st : (gNm 10 (.fr (plD o)) [x0, x1, x2, some (.fr (crwD (tps cs pss))), x4, some (.cell S.length), x6, some (.fr (plD p)), x8, x9, y10, y11] (S ++ .nd kvs :: U)).bind (k_body f_law_right_1) =
        .ok (.nx, [x0, x1, x2, some (.fr (crwD (tps cs pss))), x4, some (.cell S.length), x6, some (.fr (plD p)), x8, x9, some (.fr (plD o)), some (.fr (.bl v))], S ++ .nd kvs :: U) := by
      generalize S ++ .nd kvs :: U = T at *
      simp only [RR, DL.isNon, List.replicate_succ, List.replicate_zero, List.set_cons_zero, List.set_cons_succ, List.getElem?_cons_zero, List.getElem?_cons_succ, Option.map_some, Nat.reduceSub, and_self, and_true, true_and, decide_true, decide_false, if_true, if_false, Bool.false_eq_true, Bool.not_true, Bool.not_false, Nat.reduceAdd, Nat.reduceMul, Nat.reduceLeDiff, f_law_right_1, kw, wy, ib, nt, dg, q1]
    obtain ⟨z10, z11, ih⟩ := ask_way w hp os (some (.fr (plD o))) (some (.fr (.bl v))) (fun x hx => ho x (List.mem_cons_of_mem _ hx)) (x0 := x0) (x1 := x1) (x2 := x2) (x4 := x4) (x6 := x6) (x8 := x8) (x9 := x9)
    exact ⟨z10, z11, by rw [List.map_cons, List.map_cons, loop_cons _ _ _ trivial, st, r_bind, s_turnN, ih]⟩
theorem ask_loop71 {x0 x6 : Option SV} : ∀ (qs : List Pl) (U : Store) (y7 y8 y9 y10 y11 : Option SV), WF (S ++ .nd kvs :: U) → (∀ q ∈ qs, q ∈ plsOf pss) → ∃ (U' : Store) (z7 z8 z9 z10 z11 : Option SV), WF (S ++ .nd kvs :: U') ∧
    loopM (fun _ => True) (gNm 7) f_law_right_2 ((qs.map plD).map SV.fr) [x0, some (.fr (intsD cs)), some (.fr (pgsD pss)), some (.fr (crwD (tps cs pss))), some (.fr (.lst ((plsOf pss).map plD))), some (.cell S.length), x6, y7, y8, y9, y10, y11] (S ++ .nd kvs :: U) =
      .ok (.nx, [x0, some (.fr (intsD cs)), some (.fr (pgsD pss)), some (.fr (crwD (tps cs pss))), some (.fr (.lst ((plsOf pss).map plD))), some (.cell S.length), x6, z7, z8, z9, z10, z11], S ++ .nd kvs :: U')
  | [], U, y7, y8, y9, y10, y11, w, _ => ⟨U, y7, y8, y9, y10, y11, w, loop_nil _ _ trivial⟩
  | p :: qs, U, y7, y8, y9, y10, y11, w, hq => by
    have hp := hq p List.mem_cons_self
    have pk := pls_ok wf (by omega) g p hp
    have la := levels_at_run w (show cs.length ≤ 60 by omega) g pk.a
    obtain ⟨he, c⟩ := held_run w hf hl g pk.a
    have fa : allFr (svi (lvP cs.length pss p)) = some ((lvP cs.length pss p).map D.int) := by
      have : svi (lvP cs.length pss p) = ((lvP cs.length pss p).map D.int).map SV.fr := by rw [List.map_map]; rfl
      rw [this, DL.allFr_map]
    obtain ⟨ls, hls⟩ : ∃ ls, lvP cs.length pss p = ls := ⟨_, rfl⟩
    rw [hls] at la he c fa
    have hs := hst_run w (cellH cs ls)
    have ws : WF (S ++ .nd kvs :: (U ++ [.lst (svt (cellH cs ls))])) := by
      have := w.snoc (c := .lst (svt (cellH cs ls))) (below_svt _ _)
      rw [List.append_assoc] at this
      exact this
    have lst := lstr_run ws c.len c.lv (by omega)
    have fs : allFr (svt (cellH cs ls)) = some ((cellH cs ls).map stD) := by
      have : svt (cellH cs ls) = ((cellH cs ls).map stD).map SV.fr := by rw [List.map_map]; rfl
      rw [this, DL.allFr_map]
    obtain ⟨n, hn⟩ : ∃ n, (S ++ .nd kvs :: U).length = n := ⟨_, rfl⟩
    have at_ : (S ++ .nd kvs :: (U ++ [.lst (svt (cellH cs ls))]))[n]? = some (.lst (svt (cellH cs ls))) := by
      rw [← hn, show S ++ .nd kvs :: (U ++ [Cell.lst (svt (cellH cs ls))]) = (S ++ .nd kvs :: U) ++ [Cell.lst (svt (cellH cs ls))] by rw [List.append_assoc]; rfl]
      exact get_snoc
    have sm := hd_sml c.hd.1 hc
    have len : (cellH cs ls).length ≤ 60 := by have := c.hd.1.len; omega
    have al : m_law_alike [.cell n, .fr (stsD (cellH cs ls))] (S ++ .nd kvs :: (U ++ [.lst (svt (cellH cs ls))])) = .ok (.val (.fr (.bl true)), S ++ .nd kvs :: (U ++ [.lst (svt (cellH cs ls))])) := by
      rw [alike_is71]
      refine alike_run ws (d := stsD (cellH cs ls)) (snapC (ds := (cellH cs ls).map stD) (by rw [at_, List.map_map]; rfl)) rfl (fit_sts sm) ?_
      rw [bulk_sts]
      omega
    have ty : tyS "list" (S ++ .nd kvs :: (U ++ [.lst (svt (cellH cs ls))])) (.cell n) = true := ty_at at_
    have ap := app_at (y := .fr (.str "x")) at_ (by rw [List.length_map]; omega)
    have nl : S.length < n := by rw [← hn, List.length_append, List.length_cons]; omega
    rw [set_in70 nl] at ap
    obtain ⟨U1, hU1⟩ : ∃ U1, (U ++ [Cell.lst (svt (cellH cs ls))]).set (n - S.length - 1) (.lst (svt (cellH cs ls) ++ [.fr (.str "x")])) = U1 := ⟨_, rfl⟩
    rw [hU1] at ap
    have w1 : WF (S ++ .nd kvs :: U1) := by
      rw [← hU1, ← set_in70 nl]
      refine ws.set _ (below_lst (n := 0) (fun y hy => ?_) (Nat.zero_le _))
      rcases List.mem_append.mp hy with hy | hy
      · obtain ⟨d, _, rfl⟩ := List.mem_map.mp hy; rfl
      · rcases List.mem_singleton.mp hy with rfl; rfl
    obtain ⟨z10, z11, lp⟩ := ask_way wf hf hl hc g hk w1 hp (plsOf pss) y10 y11 (fun _ h => h) (x0 := x0) (x1 := some (.fr (intsD cs))) (x2 := some (.fr (pgsD pss))) (x4 := some (.fr (.lst ((plsOf pss).map plD)))) (x6 := x6) (x8 := some (.fr (intsD ls))) (x9 := some (.cell n))
    obtain ⟨U', w7, w8, w9, w10, w11, w2, ih⟩ := ask_loop71 qs U1 (some (.fr (plD p))) (some (.fr (intsD ls))) (some (.cell n)) z10 z11 w1 (fun x hx => hq x (List.mem_cons_of_mem _ hx)) (x0 := x0) (x6 := x6)
    refine ⟨U', w7, w8, w9, w10, w11, w2, ?_⟩
    have kh : ∀ (cc : Bool) (m : AM) (rho : Slots), k_meth cc [("Crowd", m_Crowd_held)] "held" m rho (.fr (crwD (tps cs pss)), S ++ .nd kvs :: U) = (m rho (S ++ .nd kvs :: U)).bind (k_methb cc m_Crowd_held (.fr (crwD (tps cs pss)))) := fun cc m rho => s_meth rfl
    have asc : S ++ .nd kvs :: U ++ [Cell.lst (svt (cellH cs ls))] = S ++ .nd kvs :: (U ++ [Cell.lst (svt (cellH cs ls))]) := by rw [List.append_assoc]; rfl
    have st : (gNm 7 (.fr (plD p)) [x0, some (.fr (intsD cs)), some (.fr (pgsD pss)), some (.fr (crwD (tps cs pss))), some (.fr (.lst ((plsOf pss).map plD))), some (.cell S.length), x6, y7, y8, y9, y10, y11] (S ++ .nd kvs :: U)).bind (k_body f_law_right_2) =
        .ok (.nx, [x0, some (.fr (intsD cs)), some (.fr (pgsD pss)), some (.fr (crwD (tps cs pss))), some (.fr (.lst ((plsOf pss).map plD))), some (.cell S.length), x6, some (.fr (plD p)), some (.fr (intsD ls)), some (.cell n), z10, z11], S ++ .nd kvs :: U1) := by
      simp only [RR, DL.isNon, List.replicate_succ, List.replicate_zero, List.set_cons_zero, List.set_cons_succ, List.getElem?_cons_zero, List.getElem?_cons_succ, Option.map_some, Nat.reduceSub, and_self, and_true, true_and, decide_true, decide_false, if_true, if_false, Bool.false_eq_true, Bool.not_true, Bool.not_false, Nat.reduceAdd, Nat.reduceMul, Nat.reduceLeDiff, f_law_right_2, List.length_map, la, fa, kh, he, kSt, hs, hn, asc, lst, fs, al, s_mt appendG ty, ap, lp]
    rw [List.map_cons, List.map_cons, loop_cons _ _ _ trivial, st, r_bind, s_turnN, ih]
end
theorem right_run {S : Store} (wf : WF S) {n : Nat} {cs : List Int} (h : Cuts n cs) (hn : 1 ≤ n ∧ n ≤ 5) {pss : List (List Rw)} (g : Pgs cs.length pss) : m_law_right [.fr (caseD cs pss)] S = .ok (.val (.fr (.bl true)), S) := by
  have cl := h.len
  have hl : cs.length < 60 := by omega
  have hN : cs.length ≤ 60 := by omega
  have hc := cuts_sml h
  have ok := pls_ok wf hN g
  have em : (pss.map fun p => p.map rwD).map List.length = pss.map List.length := by
    rw [List.map_map]
    exact List.map_congr_left fun p _ => List.length_map ..
  have et : (tps cs pss).map List.length = pss.map List.length := by
    unfold tps
    rw [List.map_map]
    exact List.map_congr_left fun p _ => List.length_map ..
  have e1 := lplaces_run wf (rows := pss.map fun p => p.map rwD) (by rw [em]; exact g.sum)
  rw [em, List.map_map] at e1
  have e1' : m_law_places [.fr (pgsD pss)] S = .ok (.new (.lst (((plsOf pss).map plD).map SV.fr)), S) := e1
  have fp := DL.allFr_map ((plsOf pss).map plD)
  obtain ⟨kvs, hk, e2⟩ := lways_run wf hN g
  have w1 : WF (S ++ [.nd kvs]) := wf.snoc rfl
  have pg := tps_pg h.fs hl g
  have e3 := cplaces_run w1 pg
  rw [et] at e3
  have w2 : WF (S ++ [.nd kvs, .lst (((plsOf pss).map plD).map SV.fr)]) := by
    have := w1.snoc (c := .lst (((plsOf pss).map plD).map SV.fr)) (below_pl _ _)
    rw [List.append_assoc] at this
    exact this
  have len : (plsOf pss).length = (pss.map List.length).sum := pls_len _ _
  have l6 := g.sum
  have bnd : ∀ p ∈ plsOf pss, p.1 ≤ 100 ∧ p.2 ≤ 100 := fun p hp => by
    have k := ok p hp
    have n4 := g.n4
    have hm : pss.getD p.1 [] ∈ pss := by
      rw [List.getD_eq_getElem?_getD, List.getElem?_eq_getElem k.a]
      exact List.getElem_mem k.a
    have := (g.len hm).2
    have := k.a
    have := k.d
    omega
  obtain ⟨ft, bk⟩ := fit_pls bnd
  have at_ : (S ++ [.nd kvs, .lst (((plsOf pss).map plD).map SV.fr)])[S.length + 1]? = some (.lst (((plsOf pss).map plD).map SV.fr)) := by
    rw [List.getElem?_append_right (by omega), show S.length + 1 - S.length = 1 by omega]
    rfl
  have al : m_law_alike [.cell (S.length + 1), .fr (.lst ((plsOf pss).map plD))] (S ++ [.nd kvs, .lst (((plsOf pss).map plD).map SV.fr)]) = .ok (.val (.fr (.bl true)), S ++ [.nd kvs, .lst (((plsOf pss).map plD).map SV.fr)]) := by
    rw [alike_is71]
    exact alike_run w2 (d := .lst ((plsOf pss).map plD)) (snapC at_) rfl ft (by omega)
  have ty : tyS "list" (S ++ [.nd kvs, .lst (((plsOf pss).map plD).map SV.fr)]) (.cell (S.length + 1)) = true := ty_at at_
  have ap := app_at (y := .fr (.str "x")) at_ (by rw [List.length_map, List.length_map]; omega)
  have se : ∀ c c' : Cell, (S ++ [.nd kvs, c]).set (S.length + 1) c' = S ++ [.nd kvs, c'] := fun c c' => by
    rw [set_in70 (by omega), show S.length + 1 - S.length - 1 = 0 by omega]
    rfl
  rw [se] at ap
  have at2 : ∀ c : Cell, (S ++ [.nd kvs, c])[S.length + 1]? = some c := fun c => by
    rw [List.getElem?_append_right (by omega), show S.length + 1 - S.length = 1 by omega]
    rfl
  have sl : setL (.cell (S.length + 1)) (.fr (.int 0)) (.fr (.tup [.int 9, .int 9])) (S ++ [.nd kvs, .lst (((plsOf pss).map plD).map SV.fr ++ [SV.fr (.str "x")])]) = .ok (S ++ [.nd kvs, .lst ((((plsOf pss).map plD).map SV.fr ++ [SV.fr (.str "x")]).set 0 (.fr (.tup [.int 9, .int 9])))]) := by
    unfold setL
    simp only [at2]
    have := ixN_nat (n := (((plsOf pss).map plD).map SV.fr ++ [SV.fr (.str "x")]).length) (m := 0) (by rw [List.length_append, List.length_singleton]; omega)
    rw [show ((0 : Nat) : Int) = 0 from rfl] at this
    rw [this]
    dsimp only
    rw [se]
  have w3 : WF (S ++ .nd kvs :: [.lst ((((plsOf pss).map plD).map SV.fr ++ [SV.fr (.str "x")]).set 0 (.fr (.tup [.int 9, .int 9])))]) := by
    have := w2.set (S.length + 1) (c := .lst ((((plsOf pss).map plD).map SV.fr ++ [SV.fr (.str "x")]).set 0 (.fr (.tup [.int 9, .int 9])))) (below_lst (n := 0) (fun y hy => by
      rcases List.mem_or_eq_of_mem_set hy with hy | rfl
      · rcases List.mem_append.mp hy with hy | hy
        · obtain ⟨d, _, rfl⟩ := List.mem_map.mp hy; rfl
        · rcases List.mem_singleton.mp hy with rfl; rfl
      · rfl) (Nat.zero_le _))
    rw [se] at this
    exact this
  obtain ⟨U', z7, z8, z9, z10, z11, w4, lp⟩ := ask_loop71 wf h.fs hl hc g hk (plsOf pss) _ none none none none none w3 (fun _ h => h) (x0 := some (.fr (caseD cs pss))) (x6 := some (.cell (S.length + 1)))
  have e4 := cplaces_run w4 pg
  rw [et] at e4
  have al2 : m_law_alike [.fr (.lst ((plsOf pss).map plD)), .fr (.lst ((plsOf pss).map plD))] (S ++ .nd kvs :: U') = .ok (.val (.fr (.bl true)), S ++ .nd kvs :: U') := by
    rw [alike_is71]
    exact alike_run w4 (d := .lst ((plsOf pss).map plD)) rfl rfl ft (by omega)
  have lv := leave_more (T := .nd kvs :: U') wf (.bl true)
  have kp : ∀ (cc : Bool) (T : Store), k_meth0 cc [("Crowd", m_Crowd_places)] "places" (.fr (crwD (tps cs pss)), T) = (noX (m_Crowd_places [.fr (crwD (tps cs pss))] T)).bind (back cc) := fun cc T => s_meth0 rfl
  have asc : S ++ [.nd kvs] ++ [Cell.lst (((plsOf pss).map plD).map SV.fr)] = S ++ [.nd kvs, .lst (((plsOf pss).map plD).map SV.fr)] := by rw [List.append_assoc]; rfl
  have ln1 : (S ++ [Cell.nd kvs]).length = S.length + 1 := by rw [List.length_append]; rfl
  simp only [RR, DL.isNon, List.replicate_succ, List.replicate_zero, List.set_cons_zero, List.set_cons_succ, List.getElem?_cons_zero, List.getElem?_cons_succ, Option.map_some, Nat.reduceSub, and_self, and_true, true_and, decide_true, decide_false, if_true, if_false, Bool.false_eq_true, Bool.not_true, Bool.not_false, Nat.reduceAdd, Nat.reduceMul, Nat.reduceLeDiff, m_law_right, b_law_right, e1', fp, List.length_map, e2, kp, e3, ln1, asc, al, s_mt appendG ty, ap, sl, lp, e4, al2, lv]
theorem tells : DL.Tells 63 m_law := tells_of fun ns hns => by
  obtain ⟨b0, hb, e0⟩ := bag0 ns hns
  obtain ⟨b1, n1, cs1, ps1, k1, w1, c1, h1, g1, r1⟩ := case_run b0 hb [] (wfb b0)
  obtain ⟨b2, n2, cs2, ps2, k2, w2, c2, h2, g2, r2⟩ := case_run b1 k1 [] w1
  obtain ⟨b3, n3, cs3, ps3, k3, w3, c3, h3, g3, r3⟩ := case_run b2 k2 [] w2
  have q1 := right_run w3 c1 h1 g1
  have q2 := right_run w3 c2 h2 g2
  have q3 := right_run w3 c3 h3 g3
  have st : ∀ (k : Nat) (x : Option SV), k < 6 → (gNm 3 (.fr (.int (k : Nat))) [some (.fr (.scr (ns.map D.int))), some (.cell 0), some (.fr (.lst [caseD cs1 ps1, caseD cs2 ps2, caseD cs3 ps3])), x] [b3.c]).bind (k_body f_law_1) =
      .ok (.nx, [some (.fr (.scr (ns.map D.int))), some (.cell 0), some (.fr (.lst [caseD cs1 ps1, caseD cs2 ps2, caseD cs3 ps3])), some (.fr (.int (k : Nat)))], [b3.c]) := fun k x hk => by
    have md : ∀ S : Store, modG (.fr (.int (k : Nat))) (.fr (.int 3)) S = .ok (.fr (.int ((k : Int) % 3)), S) := fun S => by rw [r_mod, if_pos (by decide)]
    rcases (by omega : ((k : Int) % 3 = 0) ∨ ((k : Int) % 3 = 1) ∨ ((k : Int) % 3 = 2)) with e | e | e
    · simp only [RR, DL.isNon, List.replicate_succ, List.replicate_zero, List.set_cons_zero, List.set_cons_succ, List.getElem?_cons_zero, List.getElem?_cons_succ, Option.map_some, Nat.reduceSub, and_self, and_true, true_and, decide_true, decide_false, if_true, if_false, Bool.false_eq_true, Bool.not_true, Bool.not_false, Nat.reduceAdd, Nat.reduceMul, Nat.reduceLeDiff, f_law_1, md, e, at_0, q1]
    · simp only [RR, DL.isNon, List.replicate_succ, List.replicate_zero, List.set_cons_zero, List.set_cons_succ, List.getElem?_cons_zero, List.getElem?_cons_succ, Option.map_some, Nat.reduceSub, and_self, and_true, true_and, decide_true, decide_false, if_true, if_false, Bool.false_eq_true, Bool.not_true, Bool.not_false, Nat.reduceAdd, Nat.reduceMul, Nat.reduceLeDiff, f_law_1, md, e, at_1, q2]
    · simp only [RR, DL.isNon, List.replicate_succ, List.replicate_zero, List.set_cons_zero, List.set_cons_succ, List.getElem?_cons_zero, List.getElem?_cons_succ, Option.map_some, Nat.reduceSub, and_self, and_true, true_and, decide_true, decide_false, if_true, if_false, Bool.false_eq_true, Bool.not_true, Bool.not_false, Nat.reduceAdd, Nat.reduceMul, Nat.reduceLeDiff, f_law_1, md, e, at_2, q3]
  have lp : ∀ (m k : Nat) (x : Option SV), k + m = 6 → ∃ y : Option SV, loopM (fun _ => True) (gNm 3) f_law_1 (rngS (k : Nat) m) [some (.fr (.scr (ns.map D.int))), some (.cell 0), some (.fr (.lst [caseD cs1 ps1, caseD cs2 ps2, caseD cs3 ps3])), x] [b3.c] =
      .ok (.nx, [some (.fr (.scr (ns.map D.int))), some (.cell 0), some (.fr (.lst [caseD cs1 ps1, caseD cs2 ps2, caseD cs3 ps3])), y], [b3.c]) := by
    intro m
    induction m with
    | zero => exact fun k x _ => ⟨x, loop_nil _ _ trivial⟩
    | succ m ih =>
      intro k x hk
      obtain ⟨y, hy⟩ := ih (k + 1) (some (.fr (.int (k : Nat)))) (by omega)
      exact ⟨y, by rw [rng_cons, loop_cons _ _ _ trivial, st k x (by omega), r_bind, s_turnN, show ((k : Nat) : Int) + 1 = ((k + 1 : Nat) : Int) by omega, hy]⟩
  obtain ⟨y, lp6⟩ := lp 6 0 none rfl
  have s6 : k_r1 ([.fr (.int 6)], [b3.c]) = .ok (⟨rngS ((0 : Nat) : Int) 6, fun _ => True⟩, [b3.c]) := s_r1 (by decide)
  have e : m_law [.fr (.scr (ns.map D.int))] [] = .ok (.val (.fr (.bl true)), []) := by
    have nl : ∀ S : Store, newL false [.fr (caseD cs1 ps1), .fr (caseD cs2 ps2), .fr (caseD cs3 ps3)] S = .ok (.fr (.lst [caseD cs1 ps1, caseD cs2 ps2, caseD cs3 ps3]), S) := fun _ => rfl
    simp only [RR, DL.isNon, List.replicate_succ, List.replicate_zero, List.set_cons_zero, List.set_cons_succ, List.getElem?_cons_zero, List.getElem?_cons_succ, Option.map_some, Nat.reduceSub, and_self, and_true, true_and, decide_true, decide_false, if_true, if_false, Bool.false_eq_true, Bool.not_true, Bool.not_false, Nat.reduceAdd, Nat.reduceMul, Nat.reduceLeDiff, m_law, b_law, bag_is, e0, List.length_nil, List.nil_append, r1, r2, r3, nl, s6, lp6]
    exact leave0 b3
  rw [e]
  exact ⟨_, rfl, rfl⟩

theorem allD {P : Program} {w : World} {K : PySem.W.Frag} {mg : Str → Option Value} {h base : Heap} (X : K.In h) (G : h.Ns mainGlobals mg) (c : SaysF fcl fnl K) (TB : TBs K mg base) : CalD P w K mg base 13 "law" m_law := by
  have T : Txt K mg := ⟨He.free_ok X G (c.fact 0 (f := fcFree "abs") rfl), He.free_ok X G (c.fact 1 (f := fcFree "all") rfl), He.free_ok X G (c.fact 2 (f := fcFree "any") rfl), He.free_ok X G (c.fact 3 (f := fcFree "bool") rfl), He.free_ok X G (c.fact 4 (f := fcFree "enumerate") rfl), He.free_ok X G (c.fact 5 (f := fcFree "int") rfl), He.free_ok X G (c.fact 6 (f := fcFree "isinstance") rfl), He.free_ok X G (c.fact 7 (f := fcFree "len") rfl), He.free_ok X G (c.fact 8 (f := fcFree "list") rfl), He.free_ok X G (c.fact 9 (f := fcFree "max") rfl), He.free_ok X G (c.fact 10 (f := fcFree "min") rfl), He.free_ok X G (c.fact 11 (f := fcFree "range") rfl), He.free_ok X G (c.fact 12 (f := fcFree "repr") rfl), He.free_ok X G (c.fact 13 (f := fcFree "set") rfl), He.free_ok X G (c.fact 14 (f := fcFree "sorted") rfl), He.free_ok X G (c.fact 15 (f := fcFree "sum") rfl), He.free_ok X G (c.fact 16 (f := fcFree "tuple") rfl), He.free_ok X G (c.fact 17 (f := fcFree "zip") rfl), He.glo_ok X G (c.fact 18 (f := fcGlo "first_of") rfl), cint_of X G (c.fact 19 (f := fcInt "MOST_CALLS" (6)) rfl), cint_of X G (c.fact 20 (f := fcInt "MOST_LEVEL" (2)) rfl), cint_of X G (c.fact 21 (f := fcInt "MOST_PROGRAMS" (4)) rfl), (flds_cons (fld_of (c.fact 24 (f := fcCls "Area") rfl) (c.fact 25 (f := fcNo "Area" "kept") rfl)) (flds_cons (fld_of (c.fact 22 (f := fcCls "Holding") rfl) (c.fact 23 (f := fcNo "Holding" "kept") rfl)) (flds_nil))), (flds_cons (fld_of (c.fact 26 (f := fcCls "Crowd") rfl) (c.fact 27 (f := fcNo "Crowd" "kept_programs") rfl)) (flds_nil))⟩
  obtain ⟨_, F_is_integer⟩ := c.def_ 0 (d := dd_is_integer) rfl
  have B_is_integer := F_is_integer.bindsN (ps := ["thing"]) fun _ _ _ _ _ _ us hl => match us, hl with | [_], _ => rfl
  have c_is_integer := ok_is_integer (P := P) (w := w) (base := base) T (He5.fun_of F_is_integer) (He.glo_ok X G (c.fact 28 (f := fcGlo "is_integer") rfl)) B_is_integer 
  obtain ⟨_, F_need⟩ := c.def_ 1 (d := dd_need) rfl
  have B_need := F_need.bindsN (ps := ["place", "good"]) fun _ _ _ _ _ _ us hl => match us, hl with | [_, _], _ => rfl
  have c_need := ok_need (P := P) (w := w) (base := base) T (He5.fun_of F_need) (He.glo_ok X G (c.fact 29 (f := fcGlo "need") rfl)) B_need 
  obtain ⟨_, F_covers⟩ := c.def_ 2 (d := dd_covers) rfl
  have B_covers := F_covers.bindsN (ps := ["span", "byte"]) fun _ _ _ _ _ _ us hl => match us, hl with | [_, _], _ => rfl
  have c_covers := ok_covers (P := P) (w := w) (base := base) T (He5.fun_of F_covers) (He.glo_ok X G (c.fact 30 (f := fcGlo "covers") rfl)) B_covers 
  obtain ⟨_, F_lesser_last⟩ := c.def_ 3 (d := dd_lesser_last) rfl
  have B_lesser_last := F_lesser_last.bindsN (ps := ["one", "other"]) fun _ _ _ _ _ _ us hl => match us, hl with | [_, _], _ => rfl
  have c_lesser_last := ok_lesser_last (P := P) (w := w) (base := base) T (He5.fun_of F_lesser_last) (He.glo_ok X G (c.fact 31 (f := fcGlo "lesser_last") rfl)) B_lesser_last 
  obtain ⟨_, F_greater_last⟩ := c.def_ 4 (d := dd_greater_last) rfl
  have B_greater_last := F_greater_last.bindsN (ps := ["one", "other"]) fun _ _ _ _ _ _ us hl => match us, hl with | [_, _], _ => rfl
  have c_greater_last := ok_greater_last (P := P) (w := w) (base := base) T (He5.fun_of F_greater_last) (He.glo_ok X G (c.fact 32 (f := fcGlo "greater_last") rfl)) B_greater_last 
  obtain ⟨_, F_first_of⟩ := c.def_ 5 (d := dd_first_of) rfl
  have B_first_of := F_first_of.bindsN (ps := ["span"]) fun _ _ _ _ _ _ us hl => match us, hl with | [_], _ => rfl
  have c_first_of := ok_first_of (P := P) (w := w) (base := base) T (He5.fun_of F_first_of) (He.glo_ok X G (c.fact 18 (f := fcGlo "first_of") rfl)) B_first_of 
  obtain ⟨_, F_left_out⟩ := c.def_ 6 (d := dd_left_out) rfl
  have B_left_out := F_left_out.bindsN (ps := ["some"]) fun _ _ _ _ _ _ us hl => match us, hl with | [_], _ => rfl
  have c_left_out := ok_left_out (P := P) (w := w) (base := base) T (He5.fun_of F_left_out) (He.glo_ok X G (c.fact 33 (f := fcGlo "left_out") rfl)) B_left_out 
  obtain ⟨_, F_bounds⟩ := c.def_ 7 (d := dd_bounds) rfl
  have B_bounds := F_bounds.bindsN (ps := ["several"]) fun _ _ _ _ _ _ us hl => match us, hl with | [_], _ => rfl
  have c_bounds := ok_bounds (P := P) (w := w) (base := base) T (He5.fun_of F_bounds) (He.glo_ok X G (c.fact 34 (f := fcGlo "bounds") rfl)) B_bounds 
  obtain ⟨_, F_last_before⟩ := c.def_ 8 (d := dd_last_before) rfl
  have B_last_before := F_last_before.bindsN (ps := ["firsts", "index"]) fun _ _ _ _ _ _ us hl => match us, hl with | [_, _], _ => rfl
  have c_last_before := ok_last_before (P := P) (w := w) (base := base) T (He5.fun_of F_last_before) (He.glo_ok X G (c.fact 35 (f := fcGlo "last_before") rfl)) B_last_before 
  obtain ⟨_, F_Holding_stretches⟩ := c.def_ 9 (d := dd_Holding_stretches) rfl
  have B_Holding_stretches := F_Holding_stretches.bindsN (ps := ["self"]) fun _ _ _ _ _ _ us hl => match us, hl with | [_], _ => rfl
  have x_Holding_stretches := ok_Holding_stretches (P := P) (w := w) (base := base) T (He5.fun_of F_Holding_stretches) (He.meth_ok (c.fact 36 (f := fcMeth "Holding" "stretches") rfl)).fn B_Holding_stretches 
  obtain ⟨_, F_Crowd_places⟩ := c.def_ 10 (d := dd_Crowd_places) rfl
  have B_Crowd_places := F_Crowd_places.bindsN (ps := ["self"]) fun _ _ _ _ _ _ us hl => match us, hl with | [_], _ => rfl
  have x_Crowd_places := ok_Crowd_places (P := P) (w := w) (base := base) T (He5.fun_of F_Crowd_places) (He.meth_ok (c.fact 37 (f := fcMeth "Crowd" "places") rfl)).fn B_Crowd_places 
  obtain ⟨_, F_Crowd_next_call⟩ := c.def_ 11 (d := dd_Crowd_next_call) rfl
  have B_Crowd_next_call := F_Crowd_next_call.bindsN (ps := ["self", "place"]) fun _ _ _ _ _ _ us hl => match us, hl with | [_, _], _ => rfl
  have x_Crowd_next_call := ok_Crowd_next_call (P := P) (w := w) (base := base) T (He5.fun_of F_Crowd_next_call) (He.meth_ok (c.fact 38 (f := fcMeth "Crowd" "next_call") rfl)).fn B_Crowd_next_call 
  obtain ⟨_, F_law_bag⟩ := c.def_ 12 (d := dd_law_bag) rfl
  have B_law_bag := F_law_bag.bindsN (ps := ["_law_script"]) fun _ _ _ _ _ _ us hl => match us, hl with | [_], _ => rfl
  have c_law_bag := ok_law_bag (P := P) (w := w) (base := base) T (He5.fun_of F_law_bag) (He.glo_ok X G (c.fact 39 (f := fcGlo "_law_bag") rfl)) B_law_bag 
  obtain ⟨_, F_law_take⟩ := c.def_ 13 (d := dd_law_take) rfl
  have B_law_take := F_law_take.bindsN (ps := ["_law_bag_here", "_law_many"]) fun _ _ _ _ _ _ us hl => match us, hl with | [_, _], _ => rfl
  have c_law_take := ok_law_take (P := P) (w := w) (base := base) T (He5.fun_of F_law_take) (He.glo_ok X G (c.fact 40 (f := fcGlo "_law_take") rfl)) B_law_take 
  obtain ⟨_, F_law_alike⟩ := c.def_ 14 (d := dd_law_alike) rfl
  have B_law_alike := F_law_alike.bindsN (ps := ["_law_found", "_law_due"]) fun _ _ _ _ _ _ us hl => match us, hl with | [_, _], _ => rfl
  have c_law_alike := ok_law_alike (P := P) (w := w) (base := base) T (He5.fun_of F_law_alike) (He.glo_ok X G (c.fact 41 (f := fcGlo "_law_alike") rfl)) B_law_alike 
  obtain ⟨_, F_law_span⟩ := c.def_ 15 (d := dd_law_span) rfl
  have B_law_span := F_law_span.bindsN (ps := ["_law_cuts_here", "_law_left", "_law_right_here"]) fun _ _ _ _ _ _ us hl => match us, hl with | [_, _, _], _ => rfl
  have c_law_span := ok_law_span (P := P) (w := w) (base := base) T (He5.fun_of F_law_span) (He.glo_ok X G (c.fact 42 (f := fcGlo "_law_span") rfl)) B_law_span 
  obtain ⟨_, F_law_places⟩ := c.def_ 16 (d := dd_law_places) rfl
  have B_law_places := F_law_places.bindsN (ps := ["_law_programs_here"]) fun _ _ _ _ _ _ us hl => match us, hl with | [_], _ => rfl
  have c_law_places := ok_law_places (P := P) (w := w) (base := base) T (He5.fun_of F_law_places) (He.glo_ok X G (c.fact 43 (f := fcGlo "_law_places") rfl)) B_law_places 
  obtain ⟨_, F_law_levels_at⟩ := c.def_ 17 (d := dd_law_levels_at) rfl
  have B_law_levels_at := F_law_levels_at.bindsN (ps := ["_law_programs_here", "_law_place", "_law_many"]) fun _ _ _ _ _ _ us hl => match us, hl with | [_, _, _], _ => rfl
  have c_law_levels_at := ok_law_levels_at (P := P) (w := w) (base := base) T (He5.fun_of F_law_levels_at) (He.glo_ok X G (c.fact 44 (f := fcGlo "_law_levels_at") rfl)) B_law_levels_at 
  obtain ⟨_, F_is_between⟩ := c.def_ 18 (d := dd_is_between) rfl
  have B_is_between := F_is_between.bindsN (ps := ["thing", "least", "greatest"]) fun _ _ _ _ _ _ us hl => match us, hl with | [_, _, _], _ => rfl
  have c_is_between := ok_is_between (P := P) (w := w) (base := base) T (He5.fun_of F_is_between) (He.glo_ok X G (c.fact 45 (f := fcGlo "is_between") rfl)) B_is_between c_is_integer
  obtain ⟨_, F_is_byte⟩ := c.def_ 19 (d := dd_is_byte) rfl
  have B_is_byte := F_is_byte.bindsN (ps := ["thing"]) fun _ _ _ _ _ _ us hl => match us, hl with | [_], _ => rfl
  have c_is_byte := ok_is_byte (P := P) (w := w) (base := base) T (He5.fun_of F_is_byte) (He.glo_ok X G (c.fact 46 (f := fcGlo "is_byte") rfl)) B_is_byte c_is_integer
  obtain ⟨_, F_meet⟩ := c.def_ 20 (d := dd_meet) rfl
  have B_meet := F_meet.bindsN (ps := ["one", "other"]) fun _ _ _ _ _ _ us hl => match us, hl with | [_, _], _ => rfl
  have c_meet := ok_meet (P := P) (w := w) (base := base) T (He5.fun_of F_meet) (He.glo_ok X G (c.fact 47 (f := fcGlo "meet") rfl)) B_meet c_lesser_last
  have FO_first_of : FirstOf K (He.ga K "first_of") := first_of_ok (He5.fun_of F_first_of) B_first_of sc_first_of rfl (by decide) rfl
  obtain ⟨_, F_merged⟩ := c.def_ 21 (d := dd_merged) rfl
  have B_merged := F_merged.bindsN (ps := ["some"]) fun _ _ _ _ _ _ us hl => match us, hl with | [_], _ => rfl
  have c_merged := ok_merged (P := P) (w := w) (base := base) T (He5.fun_of F_merged) (He.glo_ok X G (c.fact 48 (f := fcGlo "merged") rfl)) B_merged FO_first_of c_greater_last
  obtain ⟨_, F_level_in⟩ := c.def_ 22 (d := dd_level_in) rfl
  have B_level_in := F_level_in.bindsN (ps := ["stretches", "byte"]) fun _ _ _ _ _ _ us hl => match us, hl with | [_, _], _ => rfl
  have c_level_in := ok_level_in (P := P) (w := w) (base := base) T (He5.fun_of F_level_in) (He.glo_ok X G (c.fact 49 (f := fcGlo "level_in") rfl)) B_level_in c_covers
  obtain ⟨_, F_stretches_of⟩ := c.def_ 23 (d := dd_stretches_of) rfl
  have B_stretches_of := F_stretches_of.bindsN (ps := ["firsts", "levels"]) fun _ _ _ _ _ _ us hl => match us, hl with | [_, _], _ => rfl
  have c_stretches_of := ok_stretches_of (P := P) (w := w) (base := base) T (He5.fun_of F_stretches_of) (He.glo_ok X G (c.fact 50 (f := fcGlo "stretches_of") rfl)) B_stretches_of c_last_before
  obtain ⟨_, F_law_cuts⟩ := c.def_ 24 (d := dd_law_cuts) rfl
  have B_law_cuts := F_law_cuts.bindsN (ps := ["_law_bag_here", "_law_many"]) fun _ _ _ _ _ _ us hl => match us, hl with | [_, _], _ => rfl
  have c_law_cuts := ok_law_cuts (P := P) (w := w) (base := base) T (He5.fun_of F_law_cuts) (He.glo_ok X G (c.fact 51 (f := fcGlo "_law_cuts") rfl)) B_law_cuts c_law_take
  obtain ⟨_, F_law_programs⟩ := c.def_ 25 (d := dd_law_programs) rfl
  have B_law_programs := F_law_programs.bindsN (ps := ["_law_bag_here", "_law_cuts_here", "_law_most", "_law_top"]) fun _ _ _ _ _ _ us hl => match us, hl with | [_, _, _, _], _ => rfl
  have c_law_programs := ok_law_programs (P := P) (w := w) (base := base) T (He5.fun_of F_law_programs) (He.glo_ok X G (c.fact 52 (f := fcGlo "_law_programs") rfl)) B_law_programs c_law_take
  obtain ⟨_, F_law_told_programs⟩ := c.def_ 26 (d := dd_law_told_programs) rfl
  have B_law_told_programs := F_law_told_programs.bindsN (ps := ["_law_cuts_here", "_law_programs_here"]) fun _ _ _ _ _ _ us hl => match us, hl with | [_, _], _ => rfl
  have c_law_told_programs := ok_law_told_programs (P := P) (w := w) (base := base) T (He5.fun_of F_law_told_programs) (He.glo_ok X G (c.fact 53 (f := fcGlo "_law_told_programs") rfl)) B_law_told_programs c_law_span
  obtain ⟨_, F_law_stretches⟩ := c.def_ 27 (d := dd_law_stretches) rfl
  have B_law_stretches := F_law_stretches.bindsN (ps := ["_law_cuts_here", "_law_levels"]) fun _ _ _ _ _ _ us hl => match us, hl with | [_, _], _ => rfl
  have c_law_stretches := ok_law_stretches (P := P) (w := w) (base := base) T (He5.fun_of F_law_stretches) (He.glo_ok X G (c.fact 54 (f := fcGlo "_law_stretches") rfl)) B_law_stretches c_law_span
  obtain ⟨_, F_law_ways⟩ := c.def_ 28 (d := dd_law_ways) rfl
  have B_law_ways := F_law_ways.bindsN (ps := ["_law_programs_here", "_law_many"]) fun _ _ _ _ _ _ us hl => match us, hl with | [_, _], _ => rfl
  have c_law_ways := ok_law_ways (P := P) (w := w) (base := base) T (He5.fun_of F_law_ways) (He.glo_ok X G (c.fact 55 (f := fcGlo "_law_ways") rfl)) B_law_ways c_law_levels_at c_law_places
  obtain ⟨_, F_span_fault⟩ := c.def_ 29 (d := dd_span_fault) rfl
  have B_span_fault := F_span_fault.bindsN (ps := ["first", "last"]) fun _ _ _ _ _ _ us hl => match us, hl with | [_, _], _ => rfl
  have c_span_fault := ok_span_fault (P := P) (w := w) (base := base) T (He5.fun_of F_span_fault) (He.glo_ok X G (c.fact 56 (f := fcGlo "span_fault") rfl)) B_span_fault c_is_byte
  obtain ⟨_, F_is_level⟩ := c.def_ 30 (d := dd_is_level) rfl
  have B_is_level := F_is_level.bindsN (ps := ["thing"]) fun _ _ _ _ _ _ us hl => match us, hl with | [_], _ => rfl
  have c_is_level := ok_is_level (P := P) (w := w) (base := base) T (He5.fun_of F_is_level) (He.glo_ok X G (c.fact 57 (f := fcGlo "is_level") rfl)) B_is_level c_is_between
  obtain ⟨_, F_shared⟩ := c.def_ 31 (d := dd_shared) rfl
  have B_shared := F_shared.bindsN (ps := ["one", "other"]) fun _ _ _ _ _ _ us hl => match us, hl with | [_, _], _ => rfl
  have c_shared := ok_shared (P := P) (w := w) (base := base) T (He5.fun_of F_shared) (He.glo_ok X G (c.fact 58 (f := fcGlo "shared") rfl)) B_shared c_meet
  obtain ⟨_, F_Holding_within⟩ := c.def_ 32 (d := dd_Holding_within) rfl
  have B_Holding_within := F_Holding_within.bindsN (ps := ["self", "other"]) fun _ _ _ _ _ _ us hl => match us, hl with | [_, _], _ => rfl
  have x_Holding_within := ok_Holding_within (P := P) (w := w) (base := base) T (He5.fun_of F_Holding_within) (He.meth_ok (c.fact 59 (f := fcMeth "Holding" "within") rfl)).fn B_Holding_within c_level_in c_bounds
  obtain ⟨_, F_is_span⟩ := c.def_ 33 (d := dd_is_span) rfl
  have B_is_span := F_is_span.bindsN (ps := ["thing"]) fun _ _ _ _ _ _ us hl => match us, hl with | [_], _ => rfl
  have c_is_span := ok_is_span (P := P) (w := w) (base := base) T (He5.fun_of F_is_span) (He.glo_ok X G (c.fact 60 (f := fcGlo "is_span") rfl)) B_is_span c_span_fault
  obtain ⟨_, F_Area_within⟩ := c.def_ 34 (d := dd_Area_within) rfl
  have B_Area_within := F_Area_within.bindsN (ps := ["self", "other"]) fun _ _ _ _ _ _ us hl => match us, hl with | [_, _], _ => rfl
  have x_Area_within := ok_Area_within (P := P) (w := w) (base := base) T (He5.fun_of F_Area_within) (He.meth_ok (c.fact 61 (f := fcMeth "Area" "within") rfl)).fn B_Area_within c_left_out c_shared
  obtain ⟨_, F_are_spans⟩ := c.def_ 35 (d := dd_are_spans) rfl
  have B_are_spans := F_are_spans.bindsN (ps := ["thing"]) fun _ _ _ _ _ _ us hl => match us, hl with | [_], _ => rfl
  have c_are_spans := ok_are_spans (P := P) (w := w) (base := base) T (He5.fun_of F_are_spans) (He.glo_ok X G (c.fact 62 (f := fcGlo "are_spans") rfl)) B_are_spans c_is_span
  obtain ⟨_, F_is_stretch⟩ := c.def_ 36 (d := dd_is_stretch) rfl
  have B_is_stretch := F_is_stretch.bindsN (ps := ["thing"]) fun _ _ _ _ _ _ us hl => match us, hl with | [_], _ => rfl
  have c_is_stretch := ok_is_stretch (P := P) (w := w) (base := base) T (He5.fun_of F_is_stretch) (He.glo_ok X G (c.fact 63 (f := fcGlo "is_stretch") rfl)) B_is_stretch c_is_span c_is_level
  obtain ⟨_, F_is_plain_call⟩ := c.def_ 37 (d := dd_is_plain_call) rfl
  have B_is_plain_call := F_is_plain_call.bindsN (ps := ["thing"]) fun _ _ _ _ _ _ us hl => match us, hl with | [_], _ => rfl
  have c_is_plain_call := ok_is_plain_call (P := P) (w := w) (base := base) T (He5.fun_of F_is_plain_call) (He.glo_ok X G (c.fact 64 (f := fcGlo "is_plain_call") rfl)) B_is_plain_call c_is_span c_is_level
  obtain ⟨_, F_Area___init__⟩ := c.def_ 38 (d := dd_Area___init__) rfl
  have B_Area___init__ := F_Area___init__.bindsN (ps := ["self", "some"]) fun _ _ _ _ _ _ us hl => match us, hl with | [_, _], _ => rfl
  have x_Area___init__ := ok_Area___init__ (P := P) (w := w) (base := base) T (He5.fun_of F_Area___init__) (He.meth_ok (c.fact 65 (f := fcMeth "Area" "__init__") rfl)).fn B_Area___init__ c_merged c_are_spans c_need
  obtain ⟨_, F_are_stretches⟩ := c.def_ 39 (d := dd_are_stretches) rfl
  have B_are_stretches := F_are_stretches.bindsN (ps := ["thing"]) fun _ _ _ _ _ _ us hl => match us, hl with | [_], _ => rfl
  have c_are_stretches := ok_are_stretches (P := P) (w := w) (base := base) T (He5.fun_of F_are_stretches) (He.glo_ok X G (c.fact 66 (f := fcGlo "are_stretches") rfl)) B_are_stretches c_is_stretch
  obtain ⟨_, F_is_program⟩ := c.def_ 40 (d := dd_is_program) rfl
  have B_is_program := F_is_program.bindsN (ps := ["thing"]) fun _ _ _ _ _ _ us hl => match us, hl with | [_], _ => rfl
  have c_is_program := ok_is_program (P := P) (w := w) (base := base) T (He5.fun_of F_is_program) (He.glo_ok X G (c.fact 67 (f := fcGlo "is_program") rfl)) B_is_program c_is_plain_call
  obtain ⟨_, F_Holding___init__⟩ := c.def_ 41 (d := dd_Holding___init__) rfl
  have B_Holding___init__ := F_Holding___init__.bindsN (ps := ["self", "stretches"]) fun _ _ _ _ _ _ us hl => match us, hl with | [_, _], _ => rfl
  have x_Holding___init__ := ok_Holding___init__ (P := P) (w := w) (base := base) T (He5.fun_of F_Holding___init__) (He.meth_ok (c.fact 68 (f := fcMeth "Holding" "__init__") rfl)).fn B_Holding___init__ c_level_in c_stretches_of c_bounds c_are_stretches c_need
  obtain ⟨_, F_are_programs⟩ := c.def_ 42 (d := dd_are_programs) rfl
  have B_are_programs := F_are_programs.bindsN (ps := ["thing"]) fun _ _ _ _ _ _ us hl => match us, hl with | [_], _ => rfl
  have c_are_programs := ok_are_programs (P := P) (w := w) (base := base) T (He5.fun_of F_are_programs) (He.glo_ok X G (c.fact 69 (f := fcGlo "are_programs") rfl)) B_are_programs c_is_program
  have K_Area : MakD P w K mg base 6 "Area" m_Area___init__ := mak_of X G (c.fact 70 (f := fcGlo "Area") rfl) (c.fact 71 (f := fcMk "Area") rfl) x_Area___init__
  obtain ⟨_, F_Area___invert__⟩ := c.def_ 43 (d := dd_Area___invert__) rfl
  have B_Area___invert__ := F_Area___invert__.bindsN (ps := ["self"]) fun _ _ _ _ _ _ us hl => match us, hl with | [_], _ => rfl
  have x_Area___invert__ := ok_Area___invert__ (P := P) (w := w) (base := base) T (He5.fun_of F_Area___invert__) (He.meth_ok (c.fact 72 (f := fcMeth "Area" "__invert__") rfl)).fn B_Area___invert__ c_left_out K_Area
  obtain ⟨_, F_Crowd___init__⟩ := c.def_ 44 (d := dd_Crowd___init__) rfl
  have B_Crowd___init__ := F_Crowd___init__.bindsN (ps := ["self", "programs"]) fun _ _ _ _ _ _ us hl => match us, hl with | [_, _], _ => rfl
  have x_Crowd___init__ := ok_Crowd___init__ (P := P) (w := w) (base := base) T (He5.fun_of F_Crowd___init__) (He.meth_ok (c.fact 73 (f := fcMeth "Crowd" "__init__") rfl)).fn B_Crowd___init__ c_are_programs
  have K_Holding : MakD P w K mg base 7 "Holding" m_Holding___init__ := mak_of X G (c.fact 74 (f := fcGlo "Holding") rfl) (c.fact 75 (f := fcMk "Holding") rfl) x_Holding___init__
  obtain ⟨_, F_Holding_painted⟩ := c.def_ 45 (d := dd_Holding_painted) rfl
  have B_Holding_painted := F_Holding_painted.bindsN (ps := ["self", "level", "first", "last"]) fun _ _ _ _ _ _ us hl => match us, hl with | [_, _, _, _], _ => rfl
  have x_Holding_painted := ok_Holding_painted (P := P) (w := w) (base := base) T (He5.fun_of F_Holding_painted) (He.meth_ok (c.fact 76 (f := fcMeth "Holding" "painted") rfl)).fn B_Holding_painted c_stretches_of K_Holding c_covers c_level_in c_bounds
  obtain ⟨_, F_Holding___invert__⟩ := c.def_ 46 (d := dd_Holding___invert__) rfl
  have B_Holding___invert__ := F_Holding___invert__.bindsN (ps := ["self"]) fun _ _ _ _ _ _ us hl => match us, hl with | [_], _ => rfl
  have x_Holding___invert__ := ok_Holding___invert__ (P := P) (w := w) (base := base) T (He5.fun_of F_Holding___invert__) (He.meth_ok (c.fact 77 (f := fcMeth "Holding" "__invert__") rfl)).fn B_Holding___invert__ c_level_in c_stretches_of K_Holding c_bounds
  have M_painted : MetsD P w K mg base 9 "painted" [("Holding", m_Holding_painted)] := mets_cons ((met_of (c.fact 22 (f := fcCls "Holding") rfl) (c.fact 76 (f := fcMeth "Holding" "painted") rfl) x_Holding_painted).mono (by decide)) (mets_nil)
  obtain ⟨_, F_span_holding⟩ := c.def_ 47 (d := dd_span_holding) rfl
  have B_span_holding := F_span_holding.bindsN (ps := ["level", "first", "last"]) fun _ _ _ _ _ _ us hl => match us, hl with | [_, _, _], _ => rfl
  have c_span_holding := ok_span_holding (P := P) (w := w) (base := base) T (He5.fun_of F_span_holding) (He.glo_ok X G (c.fact 78 (f := fcGlo "span_holding") rfl)) B_span_holding K_Holding M_painted
  obtain ⟨_, F_Crowd_held⟩ := c.def_ 48 (d := dd_Crowd_held) rfl
  have B_Crowd_held := F_Crowd_held.bindsN (ps := ["self", "place"]) fun _ _ _ _ _ _ us hl => match us, hl with | [_, _], _ => rfl
  have x_Crowd_held := ok_Crowd_held (P := P) (w := w) (base := base) T (He5.fun_of F_Crowd_held) (He.meth_ok (c.fact 79 (f := fcMeth "Crowd" "held") rfl)).fn B_Crowd_held M_painted K_Holding
  have K_Crowd : MakD P w K mg base 8 "Crowd" m_Crowd___init__ := mak_of X G (c.fact 80 (f := fcGlo "Crowd") rfl) (c.fact 81 (f := fcMk "Crowd") rfl) x_Crowd___init__
  obtain ⟨_, F_law_case⟩ := c.def_ 49 (d := dd_law_case) rfl
  have B_law_case := F_law_case.bindsN (ps := ["_law_bag_here"]) fun _ _ _ _ _ _ us hl => match us, hl with | [_], _ => rfl
  have c_law_case := ok_law_case (P := P) (w := w) (base := base) T (He5.fun_of F_law_case) (He.glo_ok X G (c.fact 82 (f := fcGlo "_law_case") rfl)) B_law_case c_law_told_programs K_Crowd c_law_programs c_law_take c_law_cuts
  have M_within : MetsD P w K mg base 4 "within" [("Area", m_Area_within), ("Holding", m_Holding_within)] := mets_cons ((met_of (c.fact 24 (f := fcCls "Area") rfl) (c.fact 61 (f := fcMeth "Area" "within") rfl) x_Area_within).mono (by decide)) (mets_cons ((met_of (c.fact 22 (f := fcCls "Holding") rfl) (c.fact 59 (f := fcMeth "Holding" "within") rfl) x_Holding_within).mono (by decide)) (mets_nil))
  have M_held : MetsD P w K mg base 10 "held" [("Crowd", m_Crowd_held)] := mets_cons ((met_of (c.fact 26 (f := fcCls "Crowd") rfl) (c.fact 79 (f := fcMeth "Crowd" "held") rfl) x_Crowd_held).mono (by decide)) (mets_nil)
  have O_invert_ : OpsD P w K mg base 9 "__invert__" [("Area", m_Area___invert__), ("Holding", m_Holding___invert__)] := ops_cons ((op_of (c.fact 84 (f := fcSelf "Area") rfl) (c.fact 72 (f := fcMeth "Area" "__invert__") rfl) x_Area___invert__).mono (by decide)) (ops_cons ((op_of (c.fact 83 (f := fcSelf "Holding") rfl) (c.fact 77 (f := fcMeth "Holding" "__invert__") rfl) x_Holding___invert__).mono (by decide)) (ops_nil))
  have M_next_call : MetsD P w K mg base 1 "next_call" [("Crowd", m_Crowd_next_call)] := mets_cons ((met_of (c.fact 26 (f := fcCls "Crowd") rfl) (c.fact 38 (f := fcMeth "Crowd" "next_call") rfl) x_Crowd_next_call).mono (by decide)) (mets_nil)
  obtain ⟨_, F_Crowd_in_the_way⟩ := c.def_ 50 (d := dd_Crowd_in_the_way) rfl
  have B_Crowd_in_the_way := F_Crowd_in_the_way.bindsN (ps := ["self", "place", "other"]) fun _ _ _ _ _ _ us hl => match us, hl with | [_, _, _], _ => rfl
  have x_Crowd_in_the_way := ok_Crowd_in_the_way (P := P) (w := w) (base := base) T (He5.fun_of F_Crowd_in_the_way) (He.meth_ok (c.fact 85 (f := fcMeth "Crowd" "in_the_way") rfl)).fn B_Crowd_in_the_way c_span_holding M_within M_held O_invert_ M_next_call
  have M_places : MetsD P w K mg base 1 "places" [("Crowd", m_Crowd_places)] := mets_cons ((met_of (c.fact 26 (f := fcCls "Crowd") rfl) (c.fact 37 (f := fcMeth "Crowd" "places") rfl) x_Crowd_places).mono (by decide)) (mets_nil)
  have M_in_the_way : MetsD P w K mg base 11 "in_the_way" [("Crowd", m_Crowd_in_the_way)] := mets_cons ((met_of (c.fact 26 (f := fcCls "Crowd") rfl) (c.fact 85 (f := fcMeth "Crowd" "in_the_way") rfl) x_Crowd_in_the_way).mono (by decide)) (mets_nil)
  have M_stretches : MetsD P w K mg base 1 "stretches" [("Holding", m_Holding_stretches)] := mets_cons ((met_of (c.fact 22 (f := fcCls "Holding") rfl) (c.fact 36 (f := fcMeth "Holding" "stretches") rfl) x_Holding_stretches).mono (by decide)) (mets_nil)
  obtain ⟨_, F_law_right⟩ := c.def_ 51 (d := dd_law_right) rfl
  have B_law_right := F_law_right.bindsN (ps := ["_law_case_here"]) fun _ _ _ _ _ _ us hl => match us, hl with | [_], _ => rfl
  have c_law_right := ok_law_right (P := P) (w := w) (base := base) T (He5.fun_of F_law_right) (He.glo_ok X G (c.fact 86 (f := fcGlo "_law_right") rfl)) B_law_right M_places c_law_alike M_in_the_way c_law_stretches M_held M_stretches c_law_levels_at c_law_ways c_law_places
  obtain ⟨_, F_law⟩ := c.def_ 52 (d := dd_law) rfl
  have B_law := F_law.bindsN (ps := ["_law_script"]) fun _ _ _ _ _ _ us hl => match us, hl with | [_], _ => rfl
  have c_law := ok_law (P := P) (w := w) (base := base) T (He5.fun_of F_law) (He.glo_ok X G (c.fact 87 (f := fcGlo "law") rfl)) B_law c_law_right c_law_case c_law_bag
  exact c_law
end K71
open PySem PySem.W PySem.Calls PyProof.Rows
theorem PySem.Challenge.cw_byteholds_k71_whole_places_holds : PySem.Challenge.rw_byteholds_k71_whole_places.Holds := by
  w_on; o_law
  refine HandSHeadRun.head_any (r := OpenLaw.row PySem.Challenge.rw_byteholds_k71_whole_places) (q := view (OpenLaw.row PySem.Challenge.rw_byteholds_k71_whole_places).prog [58]) (H := K71.hkD) (ob := K71.obD) (M := 6000) (loose := ("_wall" :: "LockError" :: "Wrong" :: "MOST_LEVEL" :: "is_integer" :: "is_between" :: "is_byte" :: "span_fault" :: "is_span" :: "are_spans" :: "is_level" :: "need" :: "covers" :: "size" :: "size_spans" :: "lesser_last" :: "greater_last" :: "meet" :: "first_of" :: "merged" :: "left_out" :: "shared" :: "Area" :: "is_stretch" :: "are_stretches" :: "level_in" :: "bounds" :: "last_before" :: "stretches_of" :: "Holding" :: "span_holding" :: "MOST_PROGRAMS" :: "MOST_CALLS" :: "is_plain_call" :: "is_program" :: "are_programs" :: "Crowd" :: "_law_bag" :: "_law_take" :: "_law_alike" :: "_law_cuts" :: "_law_span" :: "_law_programs" :: "_law_told_programs" :: "_law_stretches" :: "_law_places" :: "_law_levels_at" :: "_law_ways" :: "_law_case" :: "_law_right" :: [])) (d := HandSHeadRun.topDef (OpenLaw.row PySem.Challenge.rw_byteholds_k71_whole_places).prog 58) (kwd := []) K71.obD_eq
    (by kernel_rfl) (fun s => by kernel_rfl) K71.ranD (by kernel_rfl) (by kernel_rfl) (by kernel_rfl) (by rfl) (by first | assumption | decide +kernel) (by decide +kernel) ⟨rfl, rfl, rfl, rfl, rfl, by decide +kernel⟩ ?hw ?hc
  case hw => w_witness2
  case hc =>
    refine DL.walkD (l := PySem.Challenge.rw_byteholds_k71_whole_places) (n := 63) (k := 13) rfl (by decide) (by kernel_rfl) ⟨rfl, by decide, by decide⟩ (fun w mg h Y G => ?_) K71.tells
    obtain ⟨K, X, c, t⟩ := Y
    have e : (HandSHeadRun.topDef (OpenLaw.row PySem.Challenge.rw_byteholds_k71_whole_places).prog 58).name = ("law" : PySem.Str) := by kernel_rfl
    refine ⟨K, X, t, fun base _ _ TB => ?_⟩
    rw [e]
    exact K71.allD X G c TB

