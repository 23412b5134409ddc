import PyProof.Rows.All
import Wide.All
import OpenK.AllK
import Wide.FinOn
import KE.KStateDown
import HandS.ForMost
import HandS.NoneIn
import HandS.SetFor
import HandS.ForExc
import HandS.TupAny
import HandS.Wide
import HandS.Flow
import HandS.More
import HandS.Ends
import HandS.Defaults
import HandS.MakeKwOnly
import HandS.Head0
import HandS.Head1
import HandS.Head2
import HandS.HeadEnd
import HandS.HeadHook1
import HandS.HeadHook2
import HandS.HeadNt
import HandS.Words
import HandS.WordsExc
import HandS.Style
import HandS.SortKw
import HandS.IsInst
import HandS.Small
import HandS.Deep
import HandS.ClsMeth
import HandS.CallLocal
import KE.SortKeyHeap
import KE.IntTextText
import KE.KIntText
import KE.KOpsOwn
import OpenK.KMeth
import OpenK.KOps
import PyProof.ReprBulk
import PyProof.ReprRoads
import HandS.HeadHook3
import HandS.HeadHook4
import HandS.Lambda
import HandS.ExcField
import HandS.ExcInit
import HandS.EndTab
import HandS.TupSets
import PyProof.Conv_bool
import HandS.Set
import HandS.Strs
import KE.KFmtOwn
import PyProof.InstEq
import HandS.Conv
import HandS.ForDict
import HandS.WordsDict
import HandS.ExcIs
import KE.KExcIs
import HandS.TryOnly
import HandS.RaiseMore
import HandS.Text
import HandS.Steps
import HandS.Walk
import KE.KDictPairs
import KE.SortData
import HandS.DictTup
import HandS.Records
import KE.SortCalls
import PyProof.P3Eq
import KE.KLam
import KE.DataMinKey
import KE.KDictWalk
import HandS.Property
import KE.DataMinMax
import KE.DataFind
import KE.LtData
import HandS.List
import PyProof.ListCopy
import PyProof.CallStr
import HandS.Zip
import KE.GoesZip
import KE.GoesMore
import KE.GoesEnum
import HandS.RevRange
import HandS.Iter
import KE.KDictDisplayH
import HandS.Dict
import PyProof.ListMulRoad
import PyProof.FactsAll.tuple_2
import HandS.Base
import HandS.Call
import HandS.TupMul
import HandS.SortInts
import KE.KSortTup
import PyProof.CollectIter
import PyProof.TupleIter
import PyProof.WalksMore
import HandS.SetKeys
import HandS.FStr
import PySem.Challenge.RW_byteholds_k91_deeds_written
set_option Elab.async false
set_option linter.all false
set_option maxRecDepth 100000
set_option maxHeartbeats 4000000
namespace DL
open PySem PySem.Spec PyProof.Rows L2
def subSt (st : Stmt) (j : Nat) : Stmt := match st with
  | .ClassDef _ _ _ b _ _ _ _ _ _ _ => b.getD j (.Pass ⟨0, 0, 0, 0⟩)
  | _ => .Pass ⟨0, 0, 0, 0⟩
abbrev Fc := PySem.W.Frag → Bool
def obsF (fs : List Fc) (fn : List He5.DefA) (K : PySem.W.Frag) : He.AlD := ((fs.all fun f => f K) && fn.all fun d => d.ok K, fn.map fun d => He5.fnA K (d.at_ K))
def SaysF (fs : List Fc) (fn : List He5.DefA) (K : PySem.W.Frag) : Prop := obsF fs fn K = He5.valA fn
def fcGlo (x : Str) : Fc := fun K => (He.Fa.glo x).ok K
def fcFree (x : Str) : Fc := fun K => (He.Fa.free x).ok K
def fcInt (x : Str) (i : Int) : Fc := fun K => (He.Fa.int x i).ok K
def fcStr (x z : Str) : Fc := fun K => (He.Fa.str x z).ok K
abbrev IsT := List (Str × Bool)
def fcExm (C L : Str) (b : Bool) : Fc := fun K => decide (PySem.W.exmOne K (.ref (He.ga K C)) (.ref (He.ga K L)) = some b)
def isVI (r : Option PySem.W.CFound) : Bool := match r with
  | some (.val (.builtin i)) => i == "ValueError.__init__"
  | _ => false
def fcBas (n : Str) : Fc := fun K => PySem.W.readsIn K (He.ga K n) (.type "type") && (He.eqO (PySem.W.specialIn K (.ref (He.ga K n)) "__getattribute__") (some (some (.builtin "type.__getattribute__"))) &&
  isVI (PySem.W.findCls K (.ref (He.ga K n)) (.type "type") "__init__"))
def oexB (K : PySem.W.Frag) (C : Addr) : Bool := match K.lookup C with
  | some ⟨.type "type", _, .cls cd, sl⟩ => (match cd.mro, sl.toList with
    | .ref C' :: bm, [_, _, _, _, some (.builtin n), _] => C' == C && (n == "ValueError.__new__" && (!cd.hasDel && (cd.hasDict && PySem.HandSPX.refsVE bm)))
    | _, _ => false)
  | _ => false
def fcOx (n : Str) : Fc := fun K => oexB K (He.ga K n) && (He.eqO (PySem.W.findIn K (.ref (He.ga K n)) "__setattr__") (some (some (.builtin "object.__setattr__"))) && (decide (PySem.W.subIn K (.ref (He.ga K n)) (.type "BaseException") = some true) &&
  (decide (PySem.W.typeIn K (.ref (He.ga K n)) = some (.type "type")) && (PySem.W.keepIn K (.ref (He.ga K n)) && (He.eqO (PySem.W.findIn K (.ref (He.ga K n)) "__init__") (some (some (.ref (He.ma K (He.ga K n) "__init__")))) &&
  decide (PySem.W.typeIn K (.ref (He.ma K (He.ga K n) "__init__")) = some (.type "function")))))))
def kDv : Key → He.Dv
  | .inl i => .int i
  | .inr s => .str s
def fcTup (x : Str) (ws : List Key) : Fc := fun K => He.tupB K x (ws.map kDv)
def fcTupD (x : Str) : Fc := fun K => match K.lookup (He.ga K x) with
  | some ⟨.type c, none, _, _⟩ => decide (c = "tuple")
  | _ => false
def lamDefs : List (He.Defn × Str) := [(("Table", some "in_the_way"), "Table.in_the_way.<locals>.<lambda>"), (("Table", some "locks"), "Table.locks.<locals>.<lambda>")]
def knownT (K : PySem.W.Frag) (p : He.Defn) : Bool := PySem.W.codeHdIn K (He.cT K p).1 (He.cT K p).2
def tabL (K : PySem.W.Frag) : List (Addr × Str) := (lamDefs.filter fun p => knownT K p.1).map fun p => ((He.cT K p.1).2, p.2)
def kvOf (e : DictEntry) : Option (Str × Str) := match e.key, e.val with
  | .str k _, .str v _ => some (k, v)
  | _, _ => none
def fcDct (n : Str) (kvs : List (Str × Str)) : Fc := fun K => match K.lookup (He.ga K n) with
  | some ⟨_, _, .dict es _, _⟩ => decide (es.toList.map kvOf = kvs.map some)
  | _ => false
def TabsE (K : PySem.W.Frag) (h : Heap) : Prop := (∀ p ∈ tabL K, h.get? p.1 = some { cls := .none, data := .fields #[] } ∧ K.lookup p.1 = none) ∧ ∀ p ∈ tabL K, ∀ q ∈ tabL K, p.1 = q.1 → p.2 = q.2
theorem TabsE.keeps {K : PySem.W.Frag} {h h' : Heap} (t : TabsE K h) (k : ∀ b o, h.get? b = some o → h'.get? b = some o) : TabsE K h' := ⟨fun p hp => ⟨k _ _ (t.1 p hp).1, (t.1 p hp).2⟩, t.2⟩
def tabsE (g : Addr → Option Obj) (K : PySem.W.Frag) : Bool := (tabL K).all (fun p => match g p.1 with
  | some o => He.emptyTab o
  | none => false) && (tabL K).all fun p => (tabL K).all fun q => decide (p.1 = q.1 → p.2 = q.2)
theorem tabsE_ok {g : Addr → Option Obj} {as : List Addr} {h : Heap} (e : g = h.get?) (t : tabsE g (He.frT g as) = true) : TabsE (He.frT g as) h := by
  unfold tabsE at t
  rw [Bool.and_eq_true] at t
  refine ⟨fun p hp => ?_, fun p hp q hq => of_decide_eq_true (List.all_eq_true.mp (List.all_eq_true.mp t.2 p hp) q hq)⟩
  have h1 := List.all_eq_true.mp t.1 p hp
  cases q : g p.1 with
  | none => rw [q] at h1; cases h1
  | some o =>
    rw [q] at h1
    refine ⟨?_, He.frT_none q h1⟩
    rw [← e, q, He.emptyTab_eq h1]
def obsFT (fs : List Fc) (fn : List He5.DefA) (g : Addr → Option Obj) (K : PySem.W.Frag) : He.AlD := ((obsF fs fn K).1 && tabsE g K, (obsF fs fn K).2)
end DL

namespace K91
open PySem PySem.Spec PyProof.Rows L2 DL
def top (i : Nat) : Stmt := PySem.Challenge.pw_byteholds_k91_deeds_written.main.body.getD i (.Pass ⟨0, 0, 0, 0⟩)
abbrev s_NoText___init__ : Stmt := subSt (top 2) 0
abbrev s_is_integer : Stmt := top 8
abbrev s_is_name : Stmt := top 14
abbrev s_shown_span : Stmt := top 31
abbrev s_law_bag : Stmt := top 42
abbrev s_law_take : Stmt := top 43
abbrev s_law_alike : Stmt := top 44
abbrev s_law_text : Stmt := top 47
abbrev s_is_between : Stmt := top 9
abbrev s_is_byte : Stmt := top 10
abbrev s_show_deed : Stmt := top 32
abbrev s_law_names : Stmt := top 45
abbrev s_law_deed : Stmt := top 46
abbrev s_law_far : Stmt := top 48
abbrev s_span_fault : Stmt := top 11
abbrev s_is_level : Stmt := top 13
abbrev s_is_descriptor : Stmt := top 18
abbrev s_number_in : Stmt := top 33
abbrev s_level_of : Stmt := top 34
abbrev s_is_span : Stmt := top 12
abbrev s_is_part : Stmt := top 19
abbrev s_last_of : Stmt := top 35
abbrev s_whole_in : Stmt := top 37
abbrev s_dup_in : Stmt := top 38
abbrev s_is_lock : Stmt := top 20
abbrev s_lock_in : Stmt := top 36
abbrev s_is_deed : Stmt := top 21
abbrev s_deed_in : Stmt := top 39
abbrev s_read_deed : Stmt := top 40
abbrev s_law_long_right : Stmt := top 49
abbrev s_law : Stmt := top 50
def dd_NoText___init__ : He5.DefA := ⟨fun K => He.ma K (He.ga K "NoText") "__init__", "__init__", "NoText.__init__", defArgs s_NoText___init__, defBody s_NoText___init__, defScope s_NoText___init__, [], []⟩
def dd_is_integer : He5.DefA := ⟨fun K => He.ga K "is_integer", "is_integer", "is_integer", defArgs s_is_integer, defBody s_is_integer, defScope s_is_integer, [], []⟩
def dd_is_name : He5.DefA := ⟨fun K => He.ga K "is_name", "is_name", "is_name", defArgs s_is_name, defBody s_is_name, defScope s_is_name, [], []⟩
def dd_shown_span : He5.DefA := ⟨fun K => He.ga K "shown_span", "shown_span", "shown_span", defArgs s_shown_span, defBody s_shown_span, defScope s_shown_span, [], []⟩
def dd_law_bag : He5.DefA := ⟨fun K => He.ga K "_law_bag", "_law_bag", "_law_bag", defArgs s_law_bag, defBody s_law_bag, defScope s_law_bag, [], []⟩
def dd_law_take : He5.DefA := ⟨fun K => He.ga K "_law_take", "_law_take", "_law_take", defArgs s_law_take, defBody s_law_take, defScope s_law_take, [], []⟩
def dd_law_alike : He5.DefA := ⟨fun K => He.ga K "_law_alike", "_law_alike", "_law_alike", defArgs s_law_alike, defBody s_law_alike, defScope s_law_alike, [], []⟩
def dd_law_text : He5.DefA := ⟨fun K => He.ga K "_law_text", "_law_text", "_law_text", defArgs s_law_text, defBody s_law_text, defScope s_law_text, [], []⟩
def dd_is_between : He5.DefA := ⟨fun K => He.ga K "is_between", "is_between", "is_between", defArgs s_is_between, defBody s_is_between, defScope s_is_between, [], []⟩
def dd_is_byte : He5.DefA := ⟨fun K => He.ga K "is_byte", "is_byte", "is_byte", defArgs s_is_byte, defBody s_is_byte, defScope s_is_byte, [], []⟩
def dd_show_deed : He5.DefA := ⟨fun K => He.ga K "show_deed", "show_deed", "show_deed", defArgs s_show_deed, defBody s_show_deed, defScope s_show_deed, [], []⟩
def dd_law_names : He5.DefA := ⟨fun K => He.ga K "_law_names", "_law_names", "_law_names", defArgs s_law_names, defBody s_law_names, defScope s_law_names, [], []⟩
def dd_law_deed : He5.DefA := ⟨fun K => He.ga K "_law_deed", "_law_deed", "_law_deed", defArgs s_law_deed, defBody s_law_deed, defScope s_law_deed, [], []⟩
def dd_law_far : He5.DefA := ⟨fun K => He.ga K "_law_far", "_law_far", "_law_far", defArgs s_law_far, defBody s_law_far, defScope s_law_far, [], []⟩
def dd_span_fault : He5.DefA := ⟨fun K => He.ga K "span_fault", "span_fault", "span_fault", defArgs s_span_fault, defBody s_span_fault, defScope s_span_fault, [], []⟩
def dd_is_level : He5.DefA := ⟨fun K => He.ga K "is_level", "is_level", "is_level", defArgs s_is_level, defBody s_is_level, defScope s_is_level, [], []⟩
def dd_is_descriptor : He5.DefA := ⟨fun K => He.ga K "is_descriptor", "is_descriptor", "is_descriptor", defArgs s_is_descriptor, defBody s_is_descriptor, defScope s_is_descriptor, [], []⟩
def dd_number_in : He5.DefA := ⟨fun K => He.ga K "number_in", "number_in", "number_in", defArgs s_number_in, defBody s_number_in, defScope s_number_in, [], []⟩
def dd_level_of : He5.DefA := ⟨fun K => He.ga K "level_of", "level_of", "level_of", defArgs s_level_of, defBody s_level_of, defScope s_level_of, [], []⟩
def dd_is_span : He5.DefA := ⟨fun K => He.ga K "is_span", "is_span", "is_span", defArgs s_is_span, defBody s_is_span, defScope s_is_span, [], []⟩
def dd_is_part : He5.DefA := ⟨fun K => He.ga K "is_part", "is_part", "is_part", defArgs s_is_part, defBody s_is_part, defScope s_is_part, [], []⟩
def dd_last_of : He5.DefA := ⟨fun K => He.ga K "last_of", "last_of", "last_of", defArgs s_last_of, defBody s_last_of, defScope s_last_of, [], []⟩
def dd_whole_in : He5.DefA := ⟨fun K => He.ga K "whole_in", "whole_in", "whole_in", defArgs s_whole_in, defBody s_whole_in, defScope s_whole_in, [], []⟩
def dd_dup_in : He5.DefA := ⟨fun K => He.ga K "dup_in", "dup_in", "dup_in", defArgs s_dup_in, defBody s_dup_in, defScope s_dup_in, [], []⟩
def dd_is_lock : He5.DefA := ⟨fun K => He.ga K "is_lock", "is_lock", "is_lock", defArgs s_is_lock, defBody s_is_lock, defScope s_is_lock, [], []⟩
def dd_lock_in : He5.DefA := ⟨fun K => He.ga K "lock_in", "lock_in", "lock_in", defArgs s_lock_in, defBody s_lock_in, defScope s_lock_in, [], []⟩
def dd_is_deed : He5.DefA := ⟨fun K => He.ga K "is_deed", "is_deed", "is_deed", defArgs s_is_deed, defBody s_is_deed, defScope s_is_deed, [], []⟩
def dd_deed_in : He5.DefA := ⟨fun K => He.ga K "deed_in", "deed_in", "deed_in", defArgs s_deed_in, defBody s_deed_in, defScope s_deed_in, [], []⟩
def dd_read_deed : He5.DefA := ⟨fun K => He.ga K "read_deed", "read_deed", "read_deed", defArgs s_read_deed, defBody s_read_deed, defScope s_read_deed, [], []⟩
def dd_law_long_right : He5.DefA := ⟨fun K => He.ga K "_law_long_right", "_law_long_right", "_law_long_right", defArgs s_law_long_right, defBody s_law_long_right, defScope s_law_long_right, [], []⟩
def dd_law : He5.DefA := ⟨fun K => He.ga K "law", "law", "law", defArgs s_law, defBody s_law, defScope s_law, [], []⟩
def fnl : List He5.DefA := [dd_NoText___init__, dd_is_integer, dd_is_name, dd_shown_span, dd_law_bag, dd_law_take, dd_law_alike, dd_law_text, dd_is_between, dd_is_byte, dd_show_deed, dd_law_names, dd_law_deed, dd_law_far, dd_span_fault, dd_is_level, dd_is_descriptor, dd_number_in, dd_level_of, dd_is_span, dd_is_part, dd_last_of, dd_whole_in, dd_dup_in, dd_is_lock, dd_lock_in, dd_is_deed, dd_deed_in, dd_read_deed, dd_law_long_right, dd_law]
def fcl : List Fc := [fcFree "abs", fcFree "all", fcFree "bool", fcFree "int", fcFree "isinstance", fcFree "len", fcFree "range", fcFree "repr", fcFree "str", fcFree "tuple", fcFree "zip", fcGlo "LEVELS", fcGlo "LockError", fcGlo "NoText", fcGlo "OWNER_WORDS", fcGlo "PARTS", fcTup "LEVELS" [.inr "none", .inr "read", .inr "write"], fcTup "OWNER_WORDS" [.inr "process", .inr "open"], fcTupD "LEVELS", fcDct "PARTS" [("start", ""), ("fork", "p"), ("open", "pf"), ("dup", "pdt"), ("close", "pd"), ("end", "p"), ("lock", "pdlseow"), ("whole", "pdlw"), ("give up", "p")], fcStr "DIGITS" "0123456789", fcStr "END" "end", fcStr "GIVE_UP" "give up", fcStr "LETTERS" "abcdefghijklmnopqrstuvwxyz", fcInt "MOST_DESCRIPTOR" (15), fcInt "MOST_DIGITS" (40), fcInt "MOST_LETTERS" (8), fcInt "MOST_LEVEL" (2), fcStr "OPEN" "open", fcStr "TO" "to", fcStr "WAIT" "wait", fcBas "LockError", fcExm "NoText" "NoText" true, fcGlo "is_integer", fcGlo "is_name", fcGlo "shown_span", fcGlo "_law_bag", fcGlo "_law_take", fcGlo "_law_alike", fcGlo "_law_text", fcGlo "is_between", fcGlo "is_byte", fcGlo "show_deed", fcGlo "_law_names", fcGlo "_law_deed", fcGlo "_law_far", fcGlo "span_fault", fcGlo "is_level", fcGlo "is_descriptor", fcOx "NoText", fcGlo "number_in", fcGlo "level_of", fcGlo "is_span", fcGlo "is_part", fcGlo "last_of", fcGlo "whole_in", fcGlo "dup_in", fcGlo "is_lock", fcGlo "lock_in", fcGlo "is_deed", fcGlo "deed_in", fcGlo "read_deed", fcGlo "_law_long_right", fcGlo "law"]
abbrev RW : PySem.W.OpenRow := PySem.W.OpenLaw.row PySem.Challenge.rw_byteholds_k91_deeds_written
def dtl : List He.Tab := [(fun K => He.ga K "PARTS", ["start", "fork", "open", "dup", "close", "end", "lock", "whole", "give up"])]
def allA : List Addr := List.range 1000
abbrev AlDT : Type := He.AlD × List (Option (List (Option (Str × Int))))
def obsL (g : Addr → Option Obj) : AlDT := (obsFT fcl fnl g (He.frT g allA), dtl.map fun t => He.dicW (He.frT g allA) (t.1 (He.frT g allA)))
abbrev hkD : PySem.W.Hook where
  α := AlDT
  obs := fun z => obsL z.heap.get?
  val := fun w => (He5.valA fnl, dtl.map fun t => some (He.keysIn w.params t.2))
  says := fun w hp => ∃ K : PySem.W.Frag, K.In hp ∧ SaysF fcl fnl K ∧ TabsE K hp ∧ dtl.map (fun t => He.dicW K (t.1 K)) = dtl.map fun t => some (He.keysIn w.params t.2)
  of := fun w z q => by
    have q : (obsFT fcl fnl z.heap.get? (He.frT z.heap.get? allA), dtl.map fun t => He.dicW (He.frT z.heap.get? allA) (t.1 (He.frT z.heap.get? allA))) = (He5.valA fnl, dtl.map fun t => some (He.keysIn w.params t.2)) := q
    have q0 := congrArg (·.1) q
    have q3 := congrArg (·.2) q
    have q1 : ((obsF fcl fnl (He.frT z.heap.get? allA)).1 && tabsE z.heap.get? (He.frT z.heap.get? allA)) = true := congrArg (·.1) q0
    have q2 : (obsF fcl fnl (He.frT z.heap.get? allA)).2 = (He5.valA fnl).2 := congrArg (·.2) q0
    rw [Bool.and_eq_true] at q1
    exact ⟨_, He.frT_in, Prod.ext q1.1 q2, tabsE_ok rfl q1.2, q3⟩
  keeps := fun _ _ _ ⟨K, hK, c, t, d⟩ q => ⟨K, PySem.W.Frag.In.keeps hK q, c, t.keeps q, d⟩
def obD (s : PySem.W.SharedT) : AlDT := obsL (HandSHeadRun.getT s)
theorem obD_eq (s : PySem.W.SharedT) : obD s = hkD.obs s.abs := by
  have e : HandSHeadRun.getT s = s.abs.heap.get? := funext (HandSHeadRun.getT_eq s)
  show obsL (HandSHeadRun.getT s) = obsL s.abs.heap.get?
  rw [e]
theorem ranB (b : Bool) (w : World) : HandSHeadRun.RunEq RW (PySem.W.view RW.prog [50]) hkD obD 6000 ("LockError" :: "NoText" :: "LETTERS" :: "MOST_LETTERS" :: "MOST_LEVEL" :: "OWNER_WORDS" :: "is_integer" :: "is_between" :: "is_byte" :: "span_fault" :: "is_span" :: "is_level" :: "is_name" :: "MOST_DESCRIPTOR" :: "PARTS" :: "is_descriptor" :: "is_part" :: "is_lock" :: "is_deed" :: "DIGITS" :: "MOST_DIGITS" :: "LEVELS" :: "END" :: "OPEN" :: "TO" :: "WAIT" :: "GIVE_UP" :: "shown_span" :: "show_deed" :: "number_in" :: "level_of" :: "last_of" :: "lock_in" :: "whole_in" :: "dup_in" :: "deed_in" :: "read_deed" :: "_law_bag" :: "_law_take" :: "_law_alike" :: "_law_names" :: "_law_deed" :: "_law_text" :: "_law_far" :: "_law_long_right" :: []) (w.withFollow "special-get-raises" b) := by
  intro os
  cases b <;> kernel_rfl
theorem ranD (w : World) : HandSHeadRun.RunEq RW (PySem.W.view RW.prog [50]) hkD obD 6000 ("LockError" :: "NoText" :: "LETTERS" :: "MOST_LETTERS" :: "MOST_LEVEL" :: "OWNER_WORDS" :: "is_integer" :: "is_between" :: "is_byte" :: "span_fault" :: "is_span" :: "is_level" :: "is_name" :: "MOST_DESCRIPTOR" :: "PARTS" :: "is_descriptor" :: "is_part" :: "is_lock" :: "is_deed" :: "DIGITS" :: "MOST_DIGITS" :: "LEVELS" :: "END" :: "OPEN" :: "TO" :: "WAIT" :: "GIVE_UP" :: "shown_span" :: "show_deed" :: "number_in" :: "level_of" :: "last_of" :: "lock_in" :: "whole_in" :: "dup_in" :: "deed_in" :: "read_deed" :: "_law_bag" :: "_law_take" :: "_law_alike" :: "_law_names" :: "_law_deed" :: "_law_text" :: "_law_far" :: "_law_long_right" :: []) w := by
  have h := ranB (w.params.followText "special-get-raises") w
  rwa [World.withFollow_self] at h
end K91

namespace DL
open PySem L2

inductive D where
  | non | bl (b : Bool) | int (i : Int) | str (x : Str) | ty (n : String) | ref (a : Addr)
  | tup (ds : List D) | lst (ds : List D) | scr (ds : List D) | ins (C : Str) (fs : List (Str × D)) | cls (n : Str) | dct (kvs : List (Key × D))
  | exn (a : Addr) (od : Option Addr) (C : Str) (fs : List (Str × D))
inductive SV where
  | fr (d : D) | cell (k : Nat)
inductive Cell where
  | lst (xs : List SV) | ins (C : Str) (fs : List (Str × SV)) | tup (xs : List SV) | dic (kvs : List (Key × SV)) | dit (kvs : List (List Key × SV)) | dil (kvs : List (List Key × SV)) | dkl (kvs : List (Key × SV)) | err (C : Str)
abbrev Store := List Cell
abbrev Slots := List (Option SV)
structure Exc where
  cls : Str
  fs : List (Str × D)
inductive Res (α : Type) where
  | ok (a : α) | exc (e : Exc) (r : Slots) (s : Store) | stuck
def Res.bind {α β : Type} : Res α → (α → Res β) → Res β
  | .ok a, f => f a
  | .exc e r s, _ => .exc e r s
  | .stuck, _ => .stuck
def holds {α : Type} (r : Res α) (Q : α → Prop) (E : Exc → Slots → Store → Prop) : Prop := match r with
  | .ok a => Q a
  | .exc e r s => E e r s
  | .stuck => False
theorem holds_bind {α β : Type} {r : Res α} {f : α → Res β} {Q : β → Prop} {E : Exc → Slots → Store → Prop} (h : holds (r.bind f) Q E) : holds r (fun a => holds (f a) Q E) E := by
  cases r <;> exact h
theorem holds_imp {α : Type} {r : Res α} {Q Q' : α → Prop} {E E' : Exc → Slots → Store → Prop} (h : holds r Q E) (hq : ∀ a, Q a → Q' a) (he : ∀ e r s, E e r s → E' e r s) : holds r Q' E' := by
  cases r with
  | ok a => exact hq a h
  | exc e r s => exact he e r s h
  | stuck => exact h

def unT : Option HO → Option HO
  | some (.tbl _) => none
  | o => o
theorem unT_some {o : Option HO} {u : HO} (h : unT o = some u) : o = some u ∧ ∀ ps, u ≠ .tbl ps := by
  unfold unT at h
  split at h
  · cases h
  · rename_i o' hn
    subst h
    exact ⟨rfl, fun ps e => hn ps (by rw [e])⟩
theorem unT_of {u : HO} (h : ∀ ps, u ≠ .tbl ps) : unT (some u) = some u := by
  unfold unT
  split
  · rename_i ps e
    exact (h ps (Option.some.inj e)).elim
  · rfl
def hide (ph : List Addr) (H : Hp) : Hp := fun a => if a ∈ ph then none else unT (H a)
theorem hide_tb {ph : List Addr} {H : Hp} {a : Addr} {o : HO} (h : hide ph H a = some o) : (a ∉ ph ∧ H a = some o) ∧ ∀ ps, o ≠ .tbl ps := by
  unfold hide at h
  split at h
  · cases h
  · obtain ⟨h1, h2⟩ := unT_some h
    exact ⟨⟨by assumption, h1⟩, h2⟩
theorem hide_some {ph : List Addr} {H : Hp} {a : Addr} {o : HO} (h : hide ph H a = some o) : a ∉ ph ∧ H a = some o := (hide_tb h).1
theorem hide_of {ph : List Addr} {H : Hp} {a : Addr} {o : HO} (h1 : a ∉ ph) (h : H a = some o) (hn : ∀ ps, o ≠ .tbl ps := by intro _ z; cases z) : hide ph H a = some o := by
  unfold hide
  rw [if_neg h1, h]; exact unT_of hn
def TbOk (K : PySem.W.Frag) (H : Hp) : Prop := LamX.Tabs (tabL K) H ∧ ∀ p ∈ tabL K, ∀ q ∈ tabL K, p.1 = q.1 → p.2 = q.2
theorem TbOk.ext {K : PySem.W.Frag} {H H' : Hp} (t : TbOk K H) (e : ∀ b o, H b = some o → H' b = some o) : TbOk K H' := ⟨t.1.ext e, t.2⟩
theorem TbOk.wr {K : PySem.W.Frag} {H : Hp} {p : Addr} {o u : HO} (t : TbOk K H) (h : H p = some u) (h1 : ∀ ps, u ≠ .tbl ps) (h2 : ∀ q, u ≠ LamX.CodeO p q) : TbOk K (upd H p o) := by
  refine ⟨fun q hq => ?_, t.2⟩
  obtain ⟨ps, e1, e2, e3⟩ := t.1 q hq
  refine ⟨ps, ?_, e2, fun pos cv hc => ?_⟩
  · rw [upd_ne (fun e : q.1 = p => h1 ps (by rw [e, h] at e1; exact Option.some.inj e1))]; exact e1
  · obtain ⟨c, e4, e5⟩ := e3 pos cv hc
    refine ⟨c, e4, ?_⟩
    rw [upd_ne (fun e : c = p => by subst e; exact h2 q.2 (Option.some.inj (h.symm.trans e5)))]; exact e5

mutual
inductive Den (K : PySem.W.Frag) (F : Hp) : V → D → Prop
  | non : Den K F .non .non
  | bl (b : Bool) : Den K F (.bl b) (.bl b)
  | int (i : Int) : Den K F (.int i) (.int i)
  | str (x : Str) : Den K F (.str x) (.str x)
  | ty (n : String) : Den K F (.ty n) (.ty n)
  | ref (a : Addr) : Den K F (.ref a) (.ref a)
  | cls (n : Str) : Den K F (.ref (He.ga K n)) (.cls n)
  | tup {a : Addr} {vs : List V} {ds : List D} : F a = some (.tup vs) → Dens K F vs ds → Den K F (.ref a) (.tup ds)
  | lst {a : Addr} {vs : List V} {ds : List D} : F a = some (.lst vs) → Dens K F vs ds → Den K F (.ref a) (.lst ds)
  | scr {a : Addr} {vs : List V} {ds : List D} : SqL K F a vs → Dens K F vs ds → Den K F (.ref a) (.scr ds)
  | ins {a dx : Addr} {C : Str} {vs : List (Str × V)} {fs : List (Str × D)} : F a = some (.ins (He.ga K C) dx vs) → DenF K F vs fs → Den K F (.ref a) (.ins C fs)
  | dct {a : Addr} {vs : List (Key × V)} {ds : List (Key × D)} : F a = some (.dK vs) → DenK K F vs ds → Den K F (.ref a) (.dct ds)
  | exn0 (a : Addr) (C : Str) : Den K F (.ref a) (.exn a none C [])
  | exn {a d : Addr} {C : Str} {vs : List (Str × V)} {fs : List (Str × D)} : F d = some (.xd vs) → DenF K F vs fs → Den K F (.ref a) (.exn a (some d) C fs)
inductive Dens (K : PySem.W.Frag) (F : Hp) : List V → List D → Prop
  | nil : Dens K F [] []
  | cons {v : V} {vs : List V} {d : D} {ds : List D} : Den K F v d → Dens K F vs ds → Dens K F (v :: vs) (d :: ds)
inductive DenF (K : PySem.W.Frag) (F : Hp) : List (Str × V) → List (Str × D) → Prop
  | nil : DenF K F [] []
  | cons {x : Str} {v : V} {vs : List (Str × V)} {d : D} {ds : List (Str × D)} : Den K F v d → DenF K F vs ds → DenF K F ((x, v) :: vs) ((x, d) :: ds)
inductive DenK (K : PySem.W.Frag) (F : Hp) : List (Key × V) → List (Key × D) → Prop
  | nil : DenK K F [] []
  | cons {x : Key} {v : V} {vs : List (Key × V)} {d : D} {ds : List (Key × D)} : Den K F v d → DenK K F vs ds → DenK K F ((x, v) :: vs) ((x, d) :: ds)
end
def Sub (F F' : Hp) : Prop := ∀ a o, F a = some o → F' a = some o
section
variable {K : PySem.W.Frag} {F F' : Hp}
theorem Sub.rd (h : Sub F F') {a : Addr} {u : HO} (r : Rd F a u) : Rd F' a u := by
  rcases r with r | ⟨o, r⟩
  · exact .inl (h _ _ r)
  · exact .inr ⟨o, h _ _ r⟩
theorem Sub.sqL (h : Sub F F') {a : Addr} {xs : List V} (r : SqL K F a xs) : SqL K F' a xs := r.imp h.rd id
theorem Sub.sqT (h : Sub F F') {a : Addr} {xs : List V} (r : SqT K F a xs) : SqT K F' a xs := r.imp h.rd id
mutual
theorem Den.mono (h : Sub F F') : ∀ {v : V} {d : D}, Den K F v d → Den K F' v d
  | _, _, .non => .non
  | _, _, .bl b => .bl b
  | _, _, .int b => .int b
  | _, _, .str b => .str b
  | _, _, .ty b => .ty b
  | _, _, .ref b => .ref b
  | _, _, .cls b => .cls b
  | _, _, .tup s r => .tup (h _ _ s) (Dens.mono h r)
  | _, _, .lst s r => .lst (h _ _ s) (Dens.mono h r)
  | _, _, .scr s r => .scr (h.sqL s) (Dens.mono h r)
  | _, _, .ins s r => .ins (h _ _ s) (DenF.mono h r)
  | _, _, .dct s r => .dct (h _ _ s) (DenK.mono h r)
  | _, _, .exn0 a C => .exn0 a C
  | _, _, .exn s r => .exn (h _ _ s) (DenF.mono h r)
theorem Dens.mono (h : Sub F F') : ∀ {vs : List V} {ds : List D}, Dens K F vs ds → Dens K F' vs ds
  | _, _, .nil => .nil
  | _, _, .cons a r => .cons (Den.mono h a) (Dens.mono h r)
theorem DenF.mono (h : Sub F F') : ∀ {vs : List (Str × V)} {ds : List (Str × D)}, DenF K F vs ds → DenF K F' vs ds
  | _, _, .nil => .nil
  | _, _, .cons a r => .cons (Den.mono h a) (DenF.mono h r)
theorem DenK.mono (h : Sub F F') : ∀ {vs : List (Key × V)} {ds : List (Key × D)}, DenK K F vs ds → DenK K F' vs ds
  | _, _, .nil => .nil
  | _, _, .cons a r => .cons (Den.mono h a) (DenK.mono h r)
end
theorem Dens.len : ∀ {vs : List V} {ds : List D}, Dens K F vs ds → vs.length = ds.length
  | _, _, .nil => rfl
  | _, _, .cons _ r => by simp [Dens.len r]
theorem Dens.get : ∀ {vs : List V} {ds : List D} {i : Nat} {d : D}, Dens K F vs ds → ds[i]? = some d → ∃ v, vs[i]? = some v ∧ Den K F v d
  | _, _, _, _, .nil, e => by simp at e
  | _, _, 0, _, .cons a r, e => by simp at e; subst e; exact ⟨_, rfl, a⟩
  | _, _, i + 1, _, .cons a r, e => by
    obtain ⟨v, h1, h2⟩ := Dens.get (i := i) r (by simpa using e)
    exact ⟨v, by simpa using h1, h2⟩
theorem Dens.app : ∀ {vs ws : List V} {ds es : List D}, Dens K F vs ds → Dens K F ws es → Dens K F (vs ++ ws) (ds ++ es)
  | _, _, _, _, .nil, s => s
  | _, _, _, _, .cons a r, s => .cons a (Dens.app r s)
theorem Dens.take : ∀ {vs : List V} {ds : List D} (n : Nat), Dens K F vs ds → Dens K F (vs.take n) (ds.take n)
  | _, _, 0, _ => .nil
  | _, _, _ + 1, .nil => .nil
  | _, _, n + 1, .cons a r => .cons a (Dens.take n r)
theorem Dens.drop : ∀ {vs : List V} {ds : List D} (n : Nat), Dens K F vs ds → Dens K F (vs.drop n) (ds.drop n)
  | _, _, 0, r => r
  | _, _, _ + 1, .nil => .nil
  | _, _, n + 1, .cons _ r => Dens.drop n r
theorem Dens.of_ints : ∀ (ns : List Int), Dens K F (ns.map V.int) (ns.map D.int)
  | [] => .nil
  | n :: ns => .cons (.int n) (Dens.of_ints ns)
theorem DenF.look {f : Str} : ∀ {vs : List (Str × V)} {ds : List (Str × D)} {d : D}, DenF K F vs ds → ds.lookup f = some d → ∃ v, vs.lookup f = some v ∧ Den K F v d
  | _, _, _, .nil, e => by simp at e
  | _, _, _, .cons (x := x) a r, e => by
    rw [List.lookup_cons] at e ⊢
    cases q : f == x with
    | true => rw [q] at e; simp at e; subst e; exact ⟨_, rfl, a⟩
    | false => rw [q] at e; exact DenF.look r e
end

def DenS (K : PySem.W.Frag) (ph : List Addr) (H : Hp) (v : V) : SV → Prop
  | .fr d => Den K (hide ph H) v d
  | .cell k => ∃ p, ph[k]? = some p ∧ v = .ref p
abbrev DenSs (K : PySem.W.Frag) (ph : List Addr) (H : Hp) : List V → List SV → Prop := Paired (DenS K ph H)
abbrev DenSF (K : PySem.W.Frag) (ph : List Addr) (H : Hp) : List (Str × V) → List (Str × SV) → Prop := Paired fun p q => p.1 = q.1 ∧ DenS K ph H p.2 q.2
abbrev DenSK {κ : Type} (K : PySem.W.Frag) (ph : List Addr) (H : Hp) : List (κ × V) → List (κ × SV) → Prop := Paired fun p q => p.1 = q.1 ∧ DenS K ph H p.2 q.2
def CellAt (K : PySem.W.Frag) (ph : List Addr) (H : Hp) (p : Addr) : Cell → Prop
  | .lst xs => ∃ vs, H p = some (.lst vs) ∧ DenSs K ph H vs xs
  | .ins C fs => ∃ dx vs, H p = some (.ins (He.ga K C) dx vs) ∧ DenSF K ph H vs fs
  | .tup xs => ∃ vs, H p = some (.tup vs) ∧ DenSs K ph H vs xs
  | .dic kvs => ∃ vs, H p = some (.dK vs) ∧ DenSK K ph H vs kvs
  | .dit kvs => ∃ vs, H p = some (.dT vs) ∧ DenSK K ph H vs kvs
  | .dil kvs => ∃ od vs, H p = some (.frz od (.dT vs)) ∧ DenSK K ph H vs kvs
  | .dkl kvs => ∃ od vs, H p = some (.frz od (.dK vs)) ∧ DenSK K ph H vs kvs
  | .err C => ∃ dx fs, H p = some (exo p (He.ga K C) (some dx)) ∧ hide ph H dx = some (exd dx fs)
theorem exo_code {p C : Addr} {d : Option Addr} {q : Str} : exo p C d ≠ LamX.CodeO p q := fun z => by
  unfold exo LamX.CodeO at z
  have f := HO.ext.inj z
  have g := congrFun f ⟨Array.replicate (p + 1) ({ cls := .ref C, dict := d, data := .fields #[.ref 0, .none, .none, .none, .bool false, .none] } : Obj), {}⟩
  have k : (⟨Array.replicate (p + 1) ({ cls := .ref C, dict := d, data := .fields #[.ref 0, .none, .none, .none, .bool false, .none] } : Obj), {}⟩ : Heap).get? p = some ({ cls := .ref C, dict := d, data := .fields #[.ref 0, .none, .none, .none, .bool false, .none] } : Obj) := by
    unfold Heap.get?
    simp
  obtain ⟨oc, vs, t, h1, h2, h3⟩ := g.mp ⟨0, k⟩
  rw [k] at h1
  cases h1
  cases h2
  cases h3
structure Good (K : PySem.W.Frag) (ph : List Addr) (H : Hp) (S : Store) : Prop where
  nd : ph.Nodup
  cells : Paired (CellAt K ph H) ph S
  tb : TbOk K H
structure Ext (ph : List Addr) (H : Hp) (ph' : List Addr) (H' : Hp) : Prop where
  pre : ∃ ps, ph' = ph ++ ps ∧ ∀ p ∈ ps, H p = none
  keep : ∀ a o, H a = some o → a ∉ ph → (∀ ps, o ≠ .tbl ps) → H' a = some o
  trk : ∀ a, H' a = none → H a = none
  frz : ∀ a od u, H a = some (.frz od u) → H' a = some (.frz od u)
theorem Ext.refl (ph : List Addr) (H : Hp) : Ext ph H ph H := ⟨⟨[], by simp, by simp⟩, fun _ _ h _ _ => h, fun _ h => h, fun _ _ _ h => h⟩
theorem Ext.trans {p1 p2 p3 : List Addr} {H1 H2 H3 : Hp} (a : Ext p1 H1 p2 H2) (b : Ext p2 H2 p3 H3) : Ext p1 H1 p3 H3 := by
  obtain ⟨x, rfl, hx⟩ := a.pre
  obtain ⟨y, rfl, hy⟩ := b.pre
  refine ⟨⟨x ++ y, by simp, fun p hp => ?_⟩, fun c o h n m => b.keep c o (a.keep c o h n m) ?_ m, fun c h => a.trk c (b.trk c h), fun c od u h => b.frz c od u (a.frz c od u h)⟩
  · rcases List.mem_append.mp hp with h | h
    · exact hx p h
    · exact a.trk p (hy p h)
  · intro hc
    rcases List.mem_append.mp hc with h' | h'
    · exact n h'
    · have := hx c h'; rw [h] at this; cases this
theorem Ext.sub {ph ph' : List Addr} {H H' : Hp} (e : Ext ph H ph' H') : Sub (hide ph H) (hide ph' H') := fun a o h => by
  obtain ⟨⟨h1, h2⟩, h3⟩ := hide_tb h
  obtain ⟨ps, rfl, hps⟩ := e.pre
  refine hide_of (fun hm => ?_) (e.keep a o h2 h1 h3) h3
  rcases List.mem_append.mp hm with q | q
  · exact h1 q
  · have := hps a q; rw [h2] at this; cases this
section
variable {K : PySem.W.Frag} {ph ph' : List Addr} {H H' : Hp} {S : Store}
theorem DenS.mono (e : Ext ph H ph' H') {v : V} {x : SV} (h : DenS K ph H v x) : DenS K ph' H' v x := by
  cases x with
  | fr d => exact Den.mono e.sub h
  | cell k =>
    obtain ⟨p, h1, h2⟩ := h
    obtain ⟨ps, rfl, _⟩ := e.pre
    refine ⟨p, ?_, h2⟩
    rw [List.getElem?_append_left (List.getElem?_eq_some_iff.mp h1).1]; exact h1
theorem DenSs.mono (e : Ext ph H ph' H') {vs : List V} {xs : List SV} (h : DenSs K ph H vs xs) : DenSs K ph' H' vs xs := Paired.mapP h fun _ _ => DenS.mono e
theorem DenSF.mono (e : Ext ph H ph' H') {vs : List (Str × V)} {xs : List (Str × SV)} (h : DenSF K ph H vs xs) : DenSF K ph' H' vs xs := Paired.mapP h fun _ _ q => ⟨q.1, q.2.mono e⟩
theorem DenSK.mono {κ : Type} (e : Ext ph H ph' H') {vs : List (κ × V)} {xs : List (κ × SV)} (h : DenSK K ph H vs xs) : DenSK K ph' H' vs xs := Paired.mapP h fun _ _ q => ⟨q.1, q.2.mono e⟩
theorem paired_imp {α β : Type} {P Q : α → β → Prop} : ∀ {l : List α} {m : List β}, Paired P l m → (∀ a b, a ∈ l → P a b → Q a b) → Paired Q l m
  | _, _, .nil, _ => .nil
  | _, _, .cons h t, f => .cons (f _ _ List.mem_cons_self h) (paired_imp t fun a b m => f a b (List.mem_cons_of_mem _ m))
theorem paired_get {α β : Type} {P : α → β → Prop} : ∀ {l : List α} {m : List β} {k : Nat} {b : β}, Paired P l m → m[k]? = some b → ∃ a, l[k]? = some a ∧ P a b
  | _, _, _, _, .nil, e => by simp at e
  | _, _, 0, _, .cons h t, e => by simp at e; subst e; exact ⟨_, rfl, h⟩
  | _, _, k + 1, _, .cons h t, e => by
    obtain ⟨v, h1, h2⟩ := paired_get (k := k) t (by simpa using e)
    exact ⟨v, by simpa using h1, h2⟩
theorem paired_set {α β : Type} {P Q : α → β → Prop} {y : β} : ∀ {l : List α} {m : List β} {k : Nat} {x : α}, Paired P l m → l[k]? = some x → (∀ j a b, j ≠ k → l[j]? = some a → P a b → Q a b) → Q x y → Paired Q l (m.set k y)
  | _, _, _, _, .nil, e, _, _ => by simp at e
  | _, _, 0, _, .cons h t, e, f, q => by
    simp at e; subst e
    refine .cons q (paired_imp t fun a b m hp => ?_)
    obtain ⟨j, hj, ej⟩ := List.getElem_of_mem m
    exact f (j + 1) a b (by omega) (by simp [List.getElem?_eq_getElem hj, ej]) hp
  | _, _, k + 1, x, .cons h t, e, f, q => .cons (f 0 _ _ (by omega) (by simp) h) (paired_set (k := k) (x := x) t (by simpa using e) (fun j a b hj ha hp => f (j + 1) a b (by omega) (by simpa using ha) hp) q)
theorem CellAt.mono (e : Ext ph H ph' H') {p : Addr} {c : Cell} (hp : ∀ o, H p = some o → H' p = some o) (h : CellAt K ph H p c) : CellAt K ph' H' p c := by
  cases c with
  | lst xs => obtain ⟨vs, h1, h2⟩ := h; exact ⟨vs, hp _ h1, h2.mono e⟩
  | ins C fs => obtain ⟨dx, vs, h1, h2⟩ := h; exact ⟨dx, vs, hp _ h1, h2.mono e⟩
  | tup xs => obtain ⟨vs, h1, h2⟩ := h; exact ⟨vs, hp _ h1, h2.mono e⟩
  | dic kvs => obtain ⟨vs, h1, h2⟩ := h; exact ⟨vs, hp _ h1, DenSK.mono e h2⟩
  | dit kvs => obtain ⟨vs, h1, h2⟩ := h; exact ⟨vs, hp _ h1, DenSK.mono e h2⟩
  | dil kvs => obtain ⟨od, vs, h1, h2⟩ := h; exact ⟨od, vs, hp _ h1, DenSK.mono e h2⟩
  | dkl kvs => obtain ⟨od, vs, h1, h2⟩ := h; exact ⟨od, vs, hp _ h1, DenSK.mono e h2⟩
  | err C => obtain ⟨dx, fs, h1, h2⟩ := h; exact ⟨dx, fs, hp _ h1, e.sub _ _ h2⟩
theorem CellAt.there {p : Addr} {c : Cell} (h : CellAt K ph H p c) : ∃ o, H p = some o := by
  cases c with
  | lst xs => obtain ⟨vs, h1, _⟩ := h; exact ⟨_, h1⟩
  | ins C fs => obtain ⟨dx, vs, h1, _⟩ := h; exact ⟨_, h1⟩
  | tup xs => obtain ⟨vs, h1, _⟩ := h; exact ⟨_, h1⟩
  | dic kvs => obtain ⟨vs, h1, _⟩ := h; exact ⟨_, h1⟩
  | dit kvs => obtain ⟨vs, h1, _⟩ := h; exact ⟨_, h1⟩
  | dil kvs => obtain ⟨od, vs, h1, _⟩ := h; exact ⟨_, h1⟩
  | dkl kvs => obtain ⟨od, vs, h1, _⟩ := h; exact ⟨_, h1⟩
  | err C => obtain ⟨dx, fs, h1, _⟩ := h; exact ⟨_, h1⟩
theorem CellAt.thereN {p : Addr} {c : Cell} (h : CellAt K ph H p c) : ∃ o, H p = some o ∧ (∀ ps, o ≠ .tbl ps) ∧ ∀ q, o ≠ LamX.CodeO p q := by
  cases c with
  | lst xs => obtain ⟨vs, h1, _⟩ := h; exact ⟨_, h1, fun _ z => (nomatch z), fun _ z => (by unfold LamX.CodeO at z; nomatch z)⟩
  | ins C fs => obtain ⟨dx, vs, h1, _⟩ := h; exact ⟨_, h1, fun _ z => (nomatch z), fun _ z => (by unfold LamX.CodeO at z; nomatch z)⟩
  | tup xs => obtain ⟨vs, h1, _⟩ := h; exact ⟨_, h1, fun _ z => (nomatch z), fun _ z => (by unfold LamX.CodeO at z; nomatch z)⟩
  | dic kvs => obtain ⟨vs, h1, _⟩ := h; exact ⟨_, h1, fun _ z => (nomatch z), fun _ z => (by unfold LamX.CodeO at z; nomatch z)⟩
  | dit kvs => obtain ⟨vs, h1, _⟩ := h; exact ⟨_, h1, fun _ z => (nomatch z), fun _ z => (by unfold LamX.CodeO at z; nomatch z)⟩
  | dil kvs => obtain ⟨od, vs, h1, _⟩ := h; exact ⟨_, h1, fun _ z => (nomatch z), fun _ z => (by unfold LamX.CodeO at z; nomatch z)⟩
  | dkl kvs => obtain ⟨od, vs, h1, _⟩ := h; exact ⟨_, h1, fun _ z => (nomatch z), fun _ z => (by unfold LamX.CodeO at z; nomatch z)⟩
  | err C => obtain ⟨dx, fs, h1, _⟩ := h; exact ⟨_, h1, fun _ z => exo_tbl z, fun _ z => exo_code z⟩
theorem Good.len (g : Good K ph H S) : ph.length = S.length := g.cells.length
theorem Good.at (g : Good K ph H S) {k : Nat} {c : Cell} (h : S[k]? = some c) : ∃ p, ph[k]? = some p ∧ CellAt K ph H p c := paired_get g.cells h
theorem Good.there (g : Good K ph H S) {p : Addr} (h : p ∈ ph) : ∃ o, H p = some o := by
  obtain ⟨k, hk, e⟩ := List.getElem_of_mem h
  have hk' : k < S.length := by rw [← g.len]; exact hk
  obtain ⟨q, h1, h2⟩ := g.at (List.getElem?_eq_getElem hk')
  rw [List.getElem?_eq_getElem hk] at h1
  cases h1
  rw [e] at h2
  exact h2.there
theorem Good.new (g : Good K ph H S) {p : Addr} (h : H p = none) : p ∉ ph := fun m => by
  obtain ⟨o, e⟩ := g.there m
  rw [h] at e; cases e
theorem Ext.fresh {p : Addr} {o : HO} (h : H p = none) : Ext ph H ph (upd H p o) :=
  ⟨⟨[], by simp, by simp⟩, fun a u e _ _ => by rw [upd_ne (ne_of_none e h)]; exact e, fun a e => by
    by_cases q : a = p
    · rw [q]; exact h
    · rw [upd_ne q] at e; exact e, fun a od u e => by rw [upd_ne (ne_of_none e h)]; exact e⟩
theorem Good.fresh (g : Good K ph H S) {p : Addr} {o : HO} (h : H p = none) : Good K ph (upd H p o) S :=
  ⟨g.nd, paired_imp g.cells fun a c _ hc => hc.mono (Ext.fresh h) fun u e => by rw [upd_ne (ne_of_none e h)]; exact e, g.tb.ext fun b u e => by rw [upd_ne (ne_of_none e h)]; exact e⟩
theorem Ext.cell {p : Addr} {o : HO} (h : H p = none) : Ext ph H (ph ++ [p]) (upd H p o) :=
  ⟨⟨[p], rfl, fun q hq => by rw [List.mem_singleton.mp hq]; exact h⟩, (Ext.fresh (ph := ph) h).keep, (Ext.fresh (ph := ph) h).trk, (Ext.fresh (ph := ph) h).frz⟩
theorem paired_snoc {α β : Type} {P : α → β → Prop} {a : α} {b : β} {l : List α} {m : List β} (h : Paired P l m) (q : P a b) : Paired P (l ++ [a]) (m ++ [b]) := Paired.snoc h q
theorem Good.cell (g : Good K ph H S) {p : Addr} {o : HO} {c : Cell} (h : H p = none) (hc : CellAt K (ph ++ [p]) (upd H p o) p c) : Good K (ph ++ [p]) (upd H p o) (S ++ [c]) := by
  refine ⟨List.nodup_append.mpr ⟨g.nd, by simp, fun a ha b hb e => ?_⟩, paired_snoc (paired_imp g.cells fun a u _ hu => hu.mono (Ext.cell h) fun w e => by rw [upd_ne (ne_of_none e h)]; exact e) hc, g.tb.ext fun b u e => by rw [upd_ne (ne_of_none e h)]; exact e⟩
  have := List.mem_singleton.mp hb
  subst this; subst e
  exact g.new h ha
theorem hide_upd {p : Addr} {o : HO} (h : p ∈ ph) : hide ph (upd H p o) = hide ph H := by
  funext a
  unfold hide
  by_cases q : a ∈ ph
  · rw [if_pos q, if_pos q]
  · rw [if_neg q, if_neg q, upd_ne (fun e : a = p => q (e ▸ h))]
theorem Ext.write {p : Addr} {o : HO} (h : p ∈ ph) (hf : ∀ od u, H p ≠ some (.frz od u)) : Ext ph H ph (upd H p o) :=
  ⟨⟨[], by simp, by simp⟩, fun a u e n _ => by rw [upd_ne (fun q : a = p => n (q ▸ h))]; exact e, fun a e => by
    by_cases q : a = p
    · rw [q, upd_same] at e; cases e
    · rw [upd_ne q] at e; exact e, fun a od u e => by
    by_cases q : a = p
    · exact (hf od u (q ▸ e)).elim
    · rw [upd_ne q]; exact e⟩
theorem nofrz {p : Addr} {o : HO} (e : H p = some o) (h : ∀ od u, o ≠ .frz od u) : ∀ od u, H p ≠ some (.frz od u) := fun od u z => by
  rw [e] at z; cases z; exact h _ _ rfl
theorem DenS.writ {p : Addr} {o : HO} (h : p ∈ ph) {v : V} {x : SV} (d : DenS K ph H v x) : DenS K ph (upd H p o) v x := by
  cases x with
  | fr d' => show Den K (hide ph (upd H p o)) v d'; rw [hide_upd h]; exact d
  | cell k => exact d
theorem DenSK.writ {κ : Type} {p : Addr} {o : HO} (h : p ∈ ph) {vs : List (κ × V)} {xs : List (κ × SV)} (d : DenSK K ph H vs xs) : DenSK K ph (upd H p o) vs xs := Paired.mapP d fun _ _ q => ⟨q.1, q.2.writ h⟩
theorem CellAt.writ {p q : Addr} {o : HO} (h : p ∈ ph) (hq : q ≠ p) {c : Cell} (d : CellAt K ph H q c) : CellAt K ph (upd H p o) q c := by
  cases c with
  | lst xs => obtain ⟨vs, h1, h2⟩ := d; exact ⟨vs, by rw [upd_ne hq]; exact h1, Paired.mapP h2 fun _ _ => DenS.writ h⟩
  | ins C fs => obtain ⟨dx, vs, h1, h2⟩ := d; exact ⟨dx, vs, by rw [upd_ne hq]; exact h1, Paired.mapP h2 fun _ _ q => ⟨q.1, q.2.writ h⟩⟩
  | tup xs => obtain ⟨vs, h1, h2⟩ := d; exact ⟨vs, by rw [upd_ne hq]; exact h1, Paired.mapP h2 fun _ _ => DenS.writ h⟩
  | dic kvs => obtain ⟨vs, h1, h2⟩ := d; exact ⟨vs, by rw [upd_ne hq]; exact h1, DenSK.writ h h2⟩
  | dit kvs => obtain ⟨vs, h1, h2⟩ := d; exact ⟨vs, by rw [upd_ne hq]; exact h1, DenSK.writ h h2⟩
  | dil kvs => obtain ⟨od, vs, h1, h2⟩ := d; exact ⟨od, vs, by rw [upd_ne hq]; exact h1, DenSK.writ h h2⟩
  | dkl kvs => obtain ⟨od, vs, h1, h2⟩ := d; exact ⟨od, vs, by rw [upd_ne hq]; exact h1, DenSK.writ h h2⟩
  | err C => obtain ⟨dx, fs, h1, h2⟩ := d; exact ⟨dx, fs, by rw [upd_ne hq]; exact h1, by rw [hide_upd h]; exact h2⟩
theorem nodup_at {l : List Addr} (n : l.Nodup) {i j : Nat} {a : Addr} (h1 : l[i]? = some a) (h2 : l[j]? = some a) : i = j := by
  obtain ⟨k1, e1⟩ := List.getElem?_eq_some_iff.mp h1
  obtain ⟨k2, e2⟩ := List.getElem?_eq_some_iff.mp h2
  exact (List.getElem_inj n).mp (e1.trans e2.symm)
theorem Good.write (g : Good K ph H S) {k : Nat} {p : Addr} {o : HO} {c : Cell} (hp : ph[k]? = some p) (hc : CellAt K ph (upd H p o) p c) : Good K ph (upd H p o) (S.set k c) := by
  have hm : p ∈ ph := List.mem_of_getElem? hp
  obtain ⟨c0, hc0⟩ : ∃ c0, S[k]? = some c0 := by
    have := (List.getElem?_eq_some_iff.mp hp).1
    rw [g.len] at this
    exact ⟨_, List.getElem?_eq_getElem this⟩
  obtain ⟨p', h1, h2⟩ := g.at hc0
  rw [hp] at h1; cases h1
  obtain ⟨u, hu, u1, u2⟩ := h2.thereN
  exact ⟨g.nd, paired_set g.cells hp (fun j a b hj ha hb => hb.writ hm (fun q : a = p => hj (nodup_at g.nd (q ▸ ha) hp))) hc, g.tb.wr hu u1 u2⟩
end
end DL

namespace DL
open PySem L2

structure XW (K : PySem.W.Frag) where
  rel : List Addr → Hp → Exc → Slots → Store → Prop
  mono : ∀ ph H ph' H' e r S, Ext ph H ph' H' → rel ph H e r S → rel ph' H' e r S
abbrev EM := Slots → Store → Res (SV × Store)
abbrev TM := Slots → Store → Res (Bool × Store)
abbrev AM := Slots → Store → Res (List SV × Store)
def SlotsOk (K : PySem.W.Frag) (ph : List Addr) (H : Hp) (sg : L2.St) (rho : Slots) : Prop :=
  rho.length ≤ sg.length ∧ ∀ (i : Nat) (x : SV), rho[i]? = some (some x) → ∃ v, sg[i]? = some (some v) ∧ DenS K ph H v x
theorem SlotsOk.mono {K : PySem.W.Frag} {ph ph' : List Addr} {H H' : Hp} {sg : L2.St} {rho : Slots} (e : Ext ph H ph' H') (h : SlotsOk K ph H sg rho) : SlotsOk K ph' H' sg rho :=
  ⟨h.1, fun i x q => let ⟨v, a, b⟩ := h.2 i x q; ⟨v, a, b.mono e⟩⟩
theorem SlotsOk.set {K : PySem.W.Frag} {ph : List Addr} {H : Hp} {sg : L2.St} {rho : Slots} (h : SlotsOk K ph H sg rho) (i : Nat) {v : V} {x : SV} (hv : DenS K ph H v x) : SlotsOk K ph H (sg.set i (some v)) (rho.set i (some x)) := by
  refine ⟨by simpa using h.1, fun j y q => ?_⟩
  by_cases e : i = j
  · subst e
    by_cases hi : i < rho.length
    · rw [List.getElem?_set_self hi] at q
      have := Option.some.inj (Option.some.inj q)
      subst this
      exact ⟨v, List.getElem?_set_self (Nat.lt_of_lt_of_le hi h.1), hv⟩
    · rw [List.getElem?_eq_none (by simpa using hi)] at q; cases q
  · rw [List.getElem?_set_ne e] at q
    rw [List.getElem?_set_ne e]
    exact h.2 j y q
def post (K : PySem.W.Frag) (ph : List Addr) (H : Hp) (Q : VK) : SV × Store → Prop := fun r =>
  ∀ ph' v H', Ext ph H ph' H' → Good K ph' H' r.2 → DenS K ph' H' v r.1 → Q v H'
def postT (K : PySem.W.Frag) (ph : List Addr) (H : Hp) (Q : Bool → Hp → Prop) : Bool × Store → Prop := fun r =>
  ∀ ph' H', Ext ph H ph' H' → Good K ph' H' r.2 → Q r.1 H'
def postA (K : PySem.W.Frag) (ph : List Addr) (H : Hp) (Q : List V → Hp → Prop) : List SV × Store → Prop := fun r =>
  ∀ ph' vs H', Ext ph H ph' H' → Good K ph' H' r.2 → DenSs K ph' H' vs r.1 → Q vs H'
theorem post.mono {K : PySem.W.Frag} {ph ph' : List Addr} {H H' : Hp} {Q : VK} (e : Ext ph H ph' H') (r : SV × Store) (h : post K ph H Q r) : post K ph' H' Q r := fun p v G a g d => h p v G (e.trans a) g d
theorem postT.mono {K : PySem.W.Frag} {ph ph' : List Addr} {H H' : Hp} {Q : Bool → Hp → Prop} (e : Ext ph H ph' H') (r : Bool × Store) (h : postT K ph H Q r) : postT K ph' H' Q r := fun p G a g => h p G (e.trans a) g
theorem postA.mono {K : PySem.W.Frag} {ph ph' : List Addr} {H H' : Hp} {Q : List V → Hp → Prop} (e : Ext ph H ph' H') (r : List SV × Store) (h : postA K ph H Q r) : postA K ph' H' Q r := fun p v G a g d => h p v G (e.trans a) g d
section
variable {X : Cx} {W : XW X.K}
structure PD (X : Cx) (W : XW X.K) (e : Expr) (m : EM) : Prop where
  ex : ∃ t, PE X e t ∧ ∀ (ph : List Addr) (S : Store) (H : Hp) (sg : L2.St) (rho : Slots) (Q : VK), Good X.K ph H S → SlotsOk X.K ph H sg rho →
    holds (m rho S) (post X.K ph H Q) (W.rel ph H) → t sg H Q
structure PDT (X : Cx) (W : XW X.K) (e : Expr) (m : TM) : Prop where
  ex : ∃ t, PT X e t ∧ ∀ (ph : List Addr) (S : Store) (H : Hp) (sg : L2.St) (rho : Slots) (Q : Bool → Hp → Prop), Good X.K ph H S → SlotsOk X.K ph H sg rho →
    holds (m rho S) (postT X.K ph H Q) (W.rel ph H) → t sg H Q
structure PDA (X : Cx) (W : XW X.K) (es : List Expr) (m : AM) : Prop where
  ex : ∃ t, PA X es t ∧ ∀ (ph : List Addr) (S : Store) (H : Hp) (sg : L2.St) (rho : Slots) (Q : List V → Hp → Prop), Good X.K ph H S → SlotsOk X.K ph H sg rho →
    holds (m rho S) (postA X.K ph H Q) (W.rel ph H) → t sg H Q

def eV (i : Nat) : EM := fun rho S => match rho[i]? with
  | some (some x) => .ok (x, S)
  | _ => .stuck
def eC (d : D) : EM := fun _ S => .ok (.fr d, S)
theorem pd_v (i : Nat) {x : Str} {pos : Pos} (hN : X.N[i]? = some x := by rfl) (hv : Vis X.env.scope x := by first | exact Or.inl rfl | exact Or.inr (Or.inl rfl) | exact Or.inr (Or.inr rfl)) (hd : (x == ("__debug__" : Str)) = false := by decide)
    (hcd : (x == ("__classdict__" : Str)) = false := by decide) : PD X W (.Name x pos) (eV i) := by
  refine ⟨_, pe_var hN hv hd hcd, fun ph S H sg rho Q g so h => ?_⟩
  unfold eV at h
  split at h
  · rename_i y hy
    obtain ⟨v, h1, h2⟩ := so.2 i y hy
    exact ⟨v, h1, h ph v H (Ext.refl _ _) g h2⟩
  · exact h.elim
theorem pd_const {e : Expr} {v : V} {d : D} (h : PE X e (tC v)) (hd : ∀ F, Den X.K F v d) : PD X W e (eC d) :=
  ⟨_, h, fun ph S H sg rho Q g so hq => hq ph v H (Ext.refl _ _) g (hd _)⟩
theorem pd_int {i : Int} {j pos} : PD X W (.Constant (.int i) j pos) (eC (.int i)) := pd_const pe_int fun _ => .int _
theorem pd_bl {b : Bool} {j pos} : PD X W (.Constant (.bool b) j pos) (eC (.bl b)) := pd_const pe_bl fun _ => .bl _
theorem pd_non {j pos} : PD X W (.Constant .none j pos) (eC .non) := pd_const pe_non fun _ => .non
theorem pd_str {x : Str} {j pos} : PD X W (.Constant (.str x) j pos) (eC (.str x)) := pd_const pe_str fun _ => .str _

abbrev G1 := SV → Store → Res (SV × Store)
abbrev G2 := SV → SV → Store → Res (SV × Store)
abbrev GA := List SV → Store → Res (SV × Store)
def Op2 (X : Cx) (W : XW X.K) (r : R2) (g : G2) : Prop := ∀ (ph : List Addr) (S : Store) (H : Hp) (x y : V) (a b : SV) (Q : VK), Good X.K ph H S → DenS X.K ph H x a → DenS X.K ph H y b →
  holds (g a b S) (post X.K ph H Q) (W.rel ph H) → r x y H Q
def OpA (X : Cx) (W : XW X.K) (r : List V → Hp → VK → Prop) (g : GA) : Prop := ∀ (ph : List Addr) (S : Store) (H : Hp) (xs : List V) (as : List SV) (Q : VK), Good X.K ph H S → DenSs X.K ph H xs as →
  holds (g as S) (post X.K ph H Q) (W.rel ph H) → r xs H Q
def e2 (g : G2) (a b : EM) : EM := fun rho S => (a rho S).bind fun x => (b rho x.2).bind fun y => g x.1 y.1 y.2
def e1 (g : G1) (a : EM) : EM := fun rho S => (a rho S).bind fun x => g x.1 x.2
variable {a b : Expr} {ma mb : EM} {pos : Pos}
theorem snd2 {ta tb : TE} {r : R2} {g : G2}
    (ha : ∀ (ph : List Addr) (S : Store) (H : Hp) (sg : L2.St) (rho : Slots) (Q : VK), Good X.K ph H S → SlotsOk X.K ph H sg rho → holds (ma rho S) (post X.K ph H Q) (W.rel ph H) → ta sg H Q)
    (hb : ∀ (ph : List Addr) (S : Store) (H : Hp) (sg : L2.St) (rho : Slots) (Q : VK), Good X.K ph H S → SlotsOk X.K ph H sg rho → holds (mb rho S) (post X.K ph H Q) (W.rel ph H) → tb sg H Q)
    (hr : Op2 X W r g) (ph : List Addr) (S : Store) (H : Hp) (sg : L2.St) (rho : Slots) (Q : VK) (gd : Good X.K ph H S) (so : SlotsOk X.K ph H sg rho)
    (h : holds (e2 g ma mb rho S) (post X.K ph H Q) (W.rel ph H)) : ta sg H fun x H1 => tb sg H1 fun y H2 => r x y H2 Q := by
  refine ha ph S H sg rho _ gd so (holds_imp (holds_bind h) (fun x hx => ?_) fun _ _ _ q => q)
  intro ph1 v1 H1 x1 g1 d1
  refine hb ph1 x.2 H1 sg rho _ g1 (so.mono x1) (holds_imp (holds_bind hx) (fun y hy => ?_) fun e r s q => W.mono _ _ _ _ e r s x1 q)
  intro ph2 v2 H2 x2 g2 d2
  exact hr ph2 y.2 H2 v1 v2 x.1 y.1 Q g2 (d1.mono x2) d2 (holds_imp hy (fun c => post.mono (x1.trans x2) c) fun e r s q => W.mono _ _ _ _ e r s (x1.trans x2) q)
theorem pd_2 {op : Operator} {r : R2} {g : G2} (ho : OpR X (binaryOp op) r) (hr : Op2 X W r g) (ha : PD X W a ma) (hb : PD X W b mb) : PD X W (.BinOp a op b pos) (e2 g ma mb) := by
  obtain ⟨ta, pa, sa⟩ := ha.ex
  obtain ⟨tb, pb, sb⟩ := hb.ex
  exact ⟨_, pe_op ho pa pb, fun ph S H sg rho Q gd so h => snd2 sa sb hr ph S H sg rho Q gd so h⟩
theorem pd_cmp {op : CmpOp} {r : R2} {g : G2} (ho : OpR X (compareOp op) r) (hr : Op2 X W r g) (ha : PD X W a ma) (hb : PD X W b mb) (hm : behindInMarks op b = false := by first | exact nomark _ | rfl) : PD X W (.Compare a [op] [b] pos) (e2 g ma mb) := by
  obtain ⟨ta, pa, sa⟩ := ha.ex
  obtain ⟨tb, pb, sb⟩ := hb.ex
  exact ⟨_, pe_cmpR ho pa pb hm, fun ph S H sg rho Q gd so h => snd2 sa sb hr ph S H sg rho Q gd so h⟩
def aN : AM := fun _ S => .ok ([], S)
def aC (a : EM) (r : AM) : AM := fun rho S => (a rho S).bind fun x => (r rho x.2).bind fun y => .ok (x.1 :: y.1, y.2)
theorem pda_nil : PDA X W [] aN := ⟨_, pa_nil, fun ph S H sg rho Q g so h => h ph [] H (Ext.refl _ _) g .nil⟩
theorem pda_cons {es : List Expr} {mr : AM} (ha : PD X W a ma) (hr : PDA X W es mr) (hs : starEach (a :: es) X.env = (false, eval a X.env) :: starEach es X.env := by rfl) : PDA X W (a :: es) (aC ma mr) := by
  obtain ⟨ta, pa, sa⟩ := ha.ex
  obtain ⟨tr, pr, sr⟩ := hr.ex
  refine ⟨_, pa_cons pa pr hs, fun ph S H sg rho Q gd so h => sa ph S H sg rho _ gd so (holds_imp (holds_bind h) (fun x hx => ?_) fun _ _ _ q => q)⟩
  intro ph1 v1 H1 x1 g1 d1
  refine sr ph1 x.2 H1 sg rho _ g1 (so.mono x1) (holds_imp (holds_bind hx) (fun y hy => ?_) fun e r s q => W.mono _ _ _ _ e r s x1 q)
  intro ph2 vs H2 x2 g2 d2
  exact hy ph2 (v1 :: vs) H2 (x1.trans x2) g2 (.cons (d1.mono x2) d2)
def eA (g : GA) (m : AM) : EM := fun rho S => (m rho S).bind fun x => g x.1 x.2
theorem sndA {t : TA} {m : AM} {r : List V → Hp → VK → Prop} {g : GA}
    (ha : ∀ (ph : List Addr) (S : Store) (H : Hp) (sg : L2.St) (rho : Slots) (Q : List V → Hp → Prop), Good X.K ph H S → SlotsOk X.K ph H sg rho → holds (m rho S) (postA X.K ph H Q) (W.rel ph H) → t sg H Q)
    (hr : OpA X W r g) (ph : List Addr) (S : Store) (H : Hp) (sg : L2.St) (rho : Slots) (Q : VK) (gd : Good X.K ph H S) (so : SlotsOk X.K ph H sg rho)
    (h : holds (eA g m rho S) (post X.K ph H Q) (W.rel ph H)) : t sg H fun xs H1 => r xs H1 Q := by
  refine ha ph S H sg rho _ gd so (holds_imp (holds_bind h) (fun x hx => ?_) fun _ _ _ q => q)
  intro ph1 vs H1 x1 g1 d1
  exact hr ph1 x.2 H1 vs x.1 Q g1 d1 (holds_imp hx (fun c => post.mono x1 c) fun e r s q => W.mono _ _ _ _ e r s x1 q)

def allFr : List SV → Option (List D)
  | [] => some []
  | .fr d :: r => (allFr r).map (d :: ·)
  | .cell _ :: _ => none
theorem allFr_map : ∀ ds : List D, allFr (ds.map SV.fr) = some ds
  | [] => rfl
  | d :: ds => by simp [allFr, allFr_map ds]
theorem allFr_eq : ∀ {xs : List SV} {ds : List D}, allFr xs = some ds → xs = ds.map SV.fr
  | [], ds, h => by simp [allFr] at h; subst h; rfl
  | .fr d :: r, ds, h => by
    simp only [allFr, Option.map_eq_some_iff] at h
    obtain ⟨es, h1, rfl⟩ := h
    rw [allFr_eq h1]; rfl
  | .cell _ :: _, _, h => by simp [allFr] at h
theorem dens_of {K : PySem.W.Frag} {ph : List Addr} {H : Hp} : ∀ {ds : List D} {vs : List V}, DenSs K ph H vs (ds.map SV.fr) → Dens K (hide ph H) vs ds
  | [], _, .nil => .nil
  | d :: ds, _, .cons h t => .cons h (dens_of t)
theorem of_dens {K : PySem.W.Frag} {ph : List Addr} {H : Hp} : ∀ {ds : List D} {vs : List V}, Dens K (hide ph H) vs ds → DenSs K ph H vs (ds.map SV.fr)
  | _, _, .nil => .nil
  | _, _, .cons h t => .cons h (of_dens t)
def newL (m : Bool) (xs : List SV) (S : Store) : Res (SV × Store) := if xs.length ≤ sizeLine then (if m then .ok (.cell S.length, S ++ [.lst xs]) else match allFr xs with
  | some ds => .ok (.fr (.lst ds), S)
  | none => .stuck) else .stuck
def newT (xs : List SV) (S : Store) : Res (SV × Store) := if xs.length ≤ sizeLine then (match allFr xs with
  | some ds => .ok (.fr (.tup ds), S)
  | none => .stuck) else .stuck
theorem newL_ok {K : PySem.W.Frag} {ph : List Addr} {H : Hp} {S : Store} {vs : List V} {xs : List SV} {m : Bool} {Q : VK} {E : Exc → Slots → Store → Prop} (g : Good K ph H S) (d : DenSs K ph H vs xs) (h : holds (newL m xs S) (post K ph H Q) E) :
    vs.length ≤ sizeLine ∧ ∀ p, H p = none → Q (.ref p) (upd H p (.lst vs)) := by
  unfold newL at h
  split at h
  · rename_i hz
    refine ⟨by rw [d.length]; exact hz, fun p hp => ?_⟩
    cases m with
    | true =>
      have e : Ext ph H (ph ++ [p]) (upd H p (.lst vs)) := Ext.cell hp
      exact h (ph ++ [p]) (.ref p) _ e (g.cell hp ⟨vs, upd_same, d.mono e⟩) ⟨p, by rw [← g.len]; simp, rfl⟩
    | false =>
      simp only [Bool.false_eq_true, if_false] at h
      split at h
      · rename_i ds hd
        have e : Ext ph H ph (upd H p (.lst vs)) := Ext.fresh hp
        refine h ph (.ref p) _ e (g.fresh hp) (.lst (vs := vs) (hide_of (g.new hp) upd_same) ?_)
        have d' := d.mono e
        rw [allFr_eq hd] at d'
        exact dens_of d'
      · exact h.elim
  · exact h.elim
theorem newT_ok {K : PySem.W.Frag} {ph : List Addr} {H : Hp} {S : Store} {vs : List V} {xs : List SV} {Q : VK} {E : Exc → Slots → Store → Prop} (g : Good K ph H S) (d : DenSs K ph H vs xs) (h : holds (newT xs S) (post K ph H Q) E) :
    vs.length ≤ sizeLine ∧ ∀ p, H p = none → Q (.ref p) (upd H p (.tup vs)) := by
  unfold newT at h
  split at h
  · rename_i hz
    refine ⟨by rw [d.length]; exact hz, fun p hp => ?_⟩
    split at h
    · rename_i ds hd
      have e : Ext ph H ph (upd H p (.tup vs)) := Ext.fresh hp
      refine h ph (.ref p) _ e (g.fresh hp) (.tup (vs := vs) (hide_of (g.new hp) upd_same) ?_)
      have d' := d.mono e
      rw [allFr_eq hd] at d'
      exact dens_of d'
    · exact h.elim
  · exact h.elim
def newTC (xs : List SV) (S : Store) : Res (SV × Store) := if xs.length ≤ sizeLine then .ok (.cell S.length, S ++ [.tup xs]) else .stuck
theorem pd_lst {es : List Expr} {m : AM} (c : Bool) (h : PDA X W es m) : PD X W (.List es pos) (eA (newL c) m) := by
  obtain ⟨t, p, s⟩ := h.ex
  exact ⟨_, pe_lst p, fun ph S H sg rho Q gd so h => sndA (r := fun xs H1 Q => xs.length ≤ sizeLine ∧ ∀ p, H1 p = none → Q (.ref p) (upd H1 p (.lst xs))) s (fun _ _ _ _ _ _ g d hq => newL_ok g d hq) ph S H sg rho Q gd so h⟩
theorem pd_tup {es : List Expr} {m : AM} {k : Nat} (h : PDA X W es m) : PD X W (.Tuple es k pos) (eA newT m) := by
  obtain ⟨t, p, s⟩ := h.ex
  exact ⟨_, pe_tup p, fun ph S H sg rho Q gd so h => sndA (r := fun xs H1 Q => xs.length ≤ sizeLine ∧ ∀ p, H1 p = none → Q (.ref p) (upd H1 p (.tup xs))) s (fun _ _ _ _ _ _ g d hq => newT_ok g d hq) ph S H sg rho Q gd so h⟩
end

def snap0 (S : Store) : SV → Option D
  | .fr d => some d
  | .cell k => match S[k]? with
    | some (.lst xs) => (allFr xs).map D.lst
    | _ => none
def allSn (f : SV → Option D) : List SV → Option (List D)
  | [] => some []
  | x :: xs => match f x, allSn f xs with
    | some d, some ds => some (d :: ds)
    | _, _ => none
def snap (S : Store) : SV → Option D
  | .fr d => some d
  | .cell k => match S[k]? with
    | some (.lst xs) => (allSn (snap0 S) xs).map D.lst
    | some (.tup xs) => (allSn (snap0 S) xs).map D.tup
    | _ => none
theorem hide_sub {ph : List Addr} {H : Hp} : Sub (hide ph H) H := fun _ _ h => (hide_some h).2
theorem snap0_ok {K : PySem.W.Frag} {ph : List Addr} {H : Hp} {S : Store} {v : V} {x : SV} {d : D} (g : Good K ph H S) (h : DenS K ph H v x) (e : snap0 S x = some d) : Den K H v d := by
  cases x with
  | fr d' => simp [snap0] at e; subst e; exact Den.mono hide_sub h
  | cell k =>
    obtain ⟨p, h1, rfl⟩ := h
    unfold snap0 at e
    dsimp only at e
    split at e
    · rename_i xs hk
      simp only [Option.map_eq_some_iff] at e
      obtain ⟨ds, h2, rfl⟩ := e
      obtain ⟨q, h3, vs, h4, h5⟩ := g.at hk
      rw [h1] at h3; cases h3
      rw [allFr_eq h2] at h5
      exact .lst h4 (Dens.mono hide_sub (dens_of h5))
    · cases e
theorem snaps_ok {K : PySem.W.Frag} {ph : List Addr} {H : Hp} {S : Store} (g : Good K ph H S) : ∀ {vs : List V} {xs : List SV} {ds : List D}, DenSs K ph H vs xs → allSn (snap0 S) xs = some ds → Dens K H vs ds
  | _, _, ds, .nil, e => by simp [allSn] at e; subst e; exact .nil
  | _, _, ds, .cons h t, e => by
    unfold allSn at e
    split at e
    · rename_i d r h1 h2
      cases e
      exact .cons (snap0_ok g h h1) (snaps_ok g t h2)
    · cases e
theorem snap_ok {K : PySem.W.Frag} {ph : List Addr} {H : Hp} {S : Store} {v : V} {x : SV} {d : D} (g : Good K ph H S) (h : DenS K ph H v x) (e : snap S x = some d) : Den K H v d := by
  cases x with
  | fr d' => simp [snap] at e; subst e; exact Den.mono hide_sub h
  | cell k =>
    obtain ⟨p, h1, rfl⟩ := h
    unfold snap at e
    dsimp only at e
    split at e
    · rename_i xs hk
      simp only [Option.map_eq_some_iff] at e
      obtain ⟨ds, h2, rfl⟩ := e
      obtain ⟨q, h3, vs, h4, h5⟩ := g.at hk
      rw [h1] at h3; cases h3
      exact .lst h4 (snaps_ok g h5 h2)
    · rename_i xs hk
      simp only [Option.map_eq_some_iff] at e
      obtain ⟨ds, h2, rfl⟩ := e
      obtain ⟨q, h3, vs, h4, h5⟩ := g.at hk
      rw [h1] at h3; cases h3
      exact .tup h4 (snaps_ok g h5 h2)
    · cases e
def rdL (S : Store) : SV → Option (List SV)
  | .fr (.lst ds) => some (ds.map SV.fr)
  | .cell k => match S[k]? with
    | some (.lst xs) => some xs
    | _ => none
  | _ => none
theorem rdL_at {K : PySem.W.Frag} {ph : List Addr} {H : Hp} {S : Store} {v : V} {x : SV} {xs : List SV} (g : Good K ph H S) (h : DenS K ph H v x) (e : rdL S x = some xs) : ∃ a vs, v = .ref a ∧ H a = some (.lst vs) ∧ DenSs K ph H vs xs := by
  cases x with
  | fr d =>
    cases d with
    | lst ds =>
      simp [rdL] at e; subst e
      cases h with
      | lst s r => exact ⟨_, _, rfl, hide_sub _ _ s, of_dens r⟩
    | _ => simp [rdL] at e
  | cell k =>
    obtain ⟨p, h1, rfl⟩ := h
    unfold rdL at e
    dsimp only at e
    split at e
    · rename_i ys hk
      cases e
      obtain ⟨q, h3, vs, h4, h5⟩ := g.at hk
      rw [h1] at h3; cases h3
      exact ⟨p, vs, rfl, h4, h5⟩
    · cases e
def rdS (S : Store) : SV → Option (List SV)
  | .fr (.scr ds) => some (ds.map SV.fr)
  | x => rdL S x
theorem rdS_ok {K : PySem.W.Frag} {ph : List Addr} {H : Hp} {S : Store} {v : V} {x : SV} {xs : List SV} (g : Good K ph H S) (h : DenS K ph H v x) (e : rdS S x = some xs) : ∃ a vs, v = .ref a ∧ SqL K H a vs ∧ DenSs K ph H vs xs := by
  unfold rdS at e
  split at e
  · cases e
    cases h with
    | scr s r => exact ⟨_, _, rfl, hide_sub.sqL s, of_dens r⟩
  · obtain ⟨a, vs, h1, h2, h3⟩ := rdL_at g h e
    exact ⟨a, vs, h1, .of h2, h3⟩
end DL

namespace DL
open PySem L2

mutual
def py : D → PyData
  | .non => .none
  | .bl b => .bool b
  | .int i => .int i
  | .str x => .str x
  | .tup ds => .tuple (pys ds)
  | .lst ds => .list (pys ds)
  | .scr ds => .list (pys ds)
  | .ty _ => .none
  | .ref _ => .none
  | .ins _ _ => .none
  | .cls _ => .none
  | .exn _ _ _ _ => .none
  | .dct _ => .none
def pys : List D → List PyData
  | [] => []
  | d :: ds => py d :: pys ds
end
mutual
def isP : D → Bool
  | .non | .bl _ | .int _ | .str _ => true
  | .tup ds => isPs ds
  | .lst ds => isPs ds
  | .scr ds => isPs ds
  | .ty _ | .ref _ | .ins _ _ | .cls _ | .dct _ | .exn _ _ _ _ => false
def isPs : List D → Bool
  | [] => true
  | d :: ds => isP d && isPs ds
end
section
variable {K : PySem.W.Frag} {H : Hp}
mutual
theorem dp_of : ∀ {d : D} {v : V}, isP d = true → Den K H v d → Dp K H v (py d)
  | .non, _, _, .non => by simp only [py]; exact .non
  | .bl _, _, _, .bl _ => by simp only [py]; exact .bl _
  | .int _, _, _, .int _ => by simp only [py]; exact .int _
  | .str _, _, _, .str _ => by simp only [py]; exact .str _
  | .tup ds, _, h, .tup s r => by simp only [py]; exact .tup (.inl (.inl s)) (dps_of (by simpa only [isP] using h) r)
  | .lst ds, _, h, .lst s r => by simp only [py]; exact .lst (.of s) (dps_of (by simpa only [isP] using h) r)
  | .scr ds, _, h, .scr s r => by simp only [py]; exact .lst s (dps_of (by simpa only [isP] using h) r)
  | .ty _, _, h, _ => by simp [isP] at h
  | .ref _, _, h, _ => by simp [isP] at h
  | .ins _ _, _, h, _ => by simp [isP] at h
  | .cls _, _, h, _ => by simp [isP] at h
  | .exn _ _ _ _, _, h, _ => by simp [isP] at h
  | .dct _, _, h, _ => by simp [isP] at h
theorem dps_of : ∀ {ds : List D} {vs : List V}, isPs ds = true → Dens K H vs ds → DpAll K H vs (pys ds)
  | [], _, _, .nil => by simp only [pys]; exact .nil
  | d :: ds, _, h, .cons a r => by
    simp only [isPs, Bool.and_eq_true] at h
    simp only [pys]; exact .cons (dp_of h.1 a) (dps_of h.2 r)
end
end
def plain (d : D) : Bool := isP d && SeqAt.shaped (py d)
def deq (a b : D) : Bool := PyData.eqv (py a) (py b)
instance decCMul (i j : Int) : Decidable (CMul i j) := by unfold CMul; infer_instance
instance decCMulW (i j : Int) : Decidable (CMulW i j) := by unfold CMulW; infer_instance
instance decCDiv (i j : Int) : Decidable (CDiv i j) := by unfold CDiv; infer_instance
instance decCDivW (i j : Int) : Decidable (CDivW i j) := by unfold CDivW; infer_instance
instance decCPow (i j : Int) : Decidable (CPow i j) := by unfold CPow; infer_instance
def okV (d : D) (S : Store) : Res (SV × Store) := .ok (.fr d, S)
def addG (c : Bool) : G2 := fun a b S => match a, b with
  | .fr (.int i), .fr (.int j) => okV (.int (i + j)) S
  | .fr (.str i), .fr (.str j) => if i.length + j.length ≤ sizeLine then okV (.str (i ++ j)) S else .stuck
  | .fr (.tup xs), .fr (.tup ys) => if xs.length + ys.length ≤ sizeLine then okV (.tup (xs ++ ys)) S else .stuck
  | _, _ => match rdL S a, rdL S b with
    | some xs, some ys => newL c (xs ++ ys) S
    | _, _ => .stuck
def subG : G2 := fun a b S => match a, b with
  | .fr (.int i), .fr (.int j) => okV (.int (i - j)) S
  | _, _ => .stuck
def mulG (c : Bool) : G2 := fun a b S => match a, b with
  | .fr (.int i), .fr (.int j) => if CMul i j ∨ CMulW i j then okV (.int (i * j)) S else .stuck
  | _, .fr (.int k) => match rdL S a with
    | some xs => if -(2 ^ 63) ≤ k ∧ k < 2 ^ 63 ∧ xs.length * k.toNat ≤ sizeLine then newL c (List.replicate k.toNat xs).flatten S else .stuck
    | none => .stuck
  | _, _ => .stuck
def fdivG : G2 := fun a b S => match a, b with
  | .fr (.int i), .fr (.int j) => if CDiv i j ∨ CDivW i j then okV (.int (i / j)) S else .stuck
  | _, _ => .stuck
def modG : G2 := fun a b S => match a, b with
  | .fr (.int i), .fr (.int j) => if 0 < j then okV (.int (i % j)) S else .stuck
  | _, _ => .stuck
def powG : G2 := fun a b S => match a, b with
  | .fr (.int i), .fr (.int j) => if CPow i j then okV (.int (i ^ j.toNat)) S else .stuck
  | _, _ => .stuck
def negG : G1 := fun a S => match a with
  | .fr (.int i) => okV (.int (-i)) S
  | _ => .stuck
def cmpG (p : Int → Int → Bool) : G2 := fun a b S => match a, b with
  | .fr (.int i), .fr (.int j) => okV (.bl (p i j)) S
  | _, _ => .stuck
abbrev ltG : G2 := cmpG fun i j => decide (i < j)
abbrev leG : G2 := cmpG fun i j => decide (i ≤ j)
abbrev gtG : G2 := cmpG fun i j => decide (j < i)
abbrev geG : G2 := cmpG fun i j => decide (j ≤ i)
def eqD (d e : D) : Option Bool := match d, e with
  | .str x, .str y => some (decide (x = y))
  | _, _ => if plain d && plain e then some (deq d e) else none
def eqG (n : Bool) : G2 := fun a b S => match snap S a, snap S b with
  | some d, some e => match eqD d e with
    | some r => okV (.bl (if n then !r else r)) S
    | none => .stuck
  | _, _ => .stuck
def isNon : SV → Bool
  | .fr .non => true
  | _ => false
def isG (n : Bool) : G2 := fun a b S => match b with
  | .fr .non => okV (.bl (if n then !isNon a else isNon a)) S
  | _ => .stuck
section
variable {X : Cx} {W : XW X.K}
theorem fin_v {ph : List Addr} {S : Store} {H : Hp} {v : V} {d : D} {Q : VK} {E : Exc → Slots → Store → Prop} (g : Good X.K ph H S) (hd : Den X.K (hide ph H) v d) (h : holds (okV d S) (post X.K ph H Q) E) : Q v H :=
  h ph v H (Ext.refl _ _) g hd
theorem d_int {K : PySem.W.Frag} {F : Hp} {v : V} {i : Int} (h : Den K F v (.int i)) : v = .int i := by cases h; rfl
theorem d_bl {K : PySem.W.Frag} {F : Hp} {v : V} {i : Bool} (h : Den K F v (.bl i)) : v = .bl i := by cases h; rfl
theorem d_str {K : PySem.W.Frag} {F : Hp} {v : V} {i : Str} (h : Den K F v (.str i)) : v = .str i := by cases h; rfl
theorem d_non {K : PySem.W.Frag} {F : Hp} {v : V} (h : Den K F v .non) : v = .non := by cases h; rfl
theorem d_tupH {K : PySem.W.Frag} {F : Hp} {v : V} {ds : List D} (h : Den K F v (.tup ds)) : ∃ a vs, v = .ref a ∧ F a = some (.tup vs) ∧ Dens K F vs ds := by cases h; exact ⟨_, _, rfl, by assumption, by assumption⟩
theorem d_tup {K : PySem.W.Frag} {F : Hp} {v : V} {ds : List D} (h : Den K F v (.tup ds)) : ∃ a vs, v = .ref a ∧ SqT K F a vs ∧ Dens K F vs ds := by
  obtain ⟨a, vs, e, h1, h2⟩ := d_tupH h
  exact ⟨a, vs, e, .inl (.inl h1), h2⟩
abbrev rAddAll (K : PySem.W.Frag) : R2 := fun x y H Q => rI0 (fun i j => .int (i + j)) x y H Q ∨ (∃ i j, x = .str i ∧ y = .str j ∧ i.length + j.length ≤ sizeLine ∧ Q (.str (i ++ j)) H) ∨ rCatA K x y H Q ∨ rCat x y H Q
theorem op_addAll : OpR X (binaryOp .Add) (rAddAll X.K) := op_add.or (op_add_str.or (op_catA.or op_cat))
theorem add_ok (c : Bool) : Op2 X W (rAddAll X.K) (addG c) := by
  intro ph S H x y a b Q g da db h
  unfold addG at h
  split at h
  · rw [d_int da, d_int db]
    exact .inl ⟨_, _, rfl, rfl, fin_v g (.int _) h⟩
  · split at h
    · rw [d_str da, d_str db]
      exact .inr (.inl ⟨_, _, rfl, rfl, by assumption, fin_v g (.str _) h⟩)
    · exact h.elim
  · split at h
    · rename_i xs ys hz
      obtain ⟨p, vs, rfl, s1, r1⟩ := d_tupH da
      obtain ⟨q, ws, rfl, s2, r2⟩ := d_tupH db
      have l1 := r1.len
      have l2 := r2.len
      refine .inr (.inr (.inl ⟨p, q, vs, ws, rfl, rfl, hide_sub.sqT (.inl (.inl s1)), hide_sub.sqT (.inl (.inl s2)), by omega, fun e => ?_, fun _ e => ?_, fun _ _ t ht => ?_⟩))
      · subst e
        have : xs = [] := List.length_eq_zero_iff.mp (by simpa using l1.symm)
        subst this
        exact fin_v g (.tup s2 r2) h
      · subst e
        have : ys = [] := List.length_eq_zero_iff.mp (by simpa using l2.symm)
        subst this
        rw [List.append_nil] at h
        exact fin_v g (.tup s1 r1) h
      · have e : Ext ph H ph (upd H t (.tup (vs ++ ws))) := Ext.fresh ht
        exact h ph (.ref t) _ e (g.fresh ht) (.tup (hide_of (g.new ht) upd_same) ((r1.mono e.sub).app (r2.mono e.sub)))
    · exact h.elim
  · split at h
    · rename_i xs ys h1 h2
      obtain ⟨p, vs, rfl, s1, r1⟩ := rdL_at g da h1
      obtain ⟨q, ws, rfl, s2, r2⟩ := rdL_at g db h2
      have z := newL_ok g (vs := vs ++ ws) (by
        clear h h1 h2 s1 s2
        induction r1 with
        | nil => exact r2
        | cons a t ih => exact .cons a ih) h
      exact .inr (.inr (.inr ⟨p, q, vs, ws, rfl, rfl, s1, s2, by simpa using z.1, z.2⟩))
    · exact h.elim
theorem int2_ok {C : Int → Int → Prop} {f : Int → Int → V} {x y : V} {i j : Int} {ph : List Addr} {H : Hp} {K : PySem.W.Frag} {Q : VK} (da : Den K (hide ph H) x (.int i)) (db : Den K (hide ph H) y (.int j)) (hc : C i j) (hq : Q (f i j) H) : rI C f x y H Q := by
  rw [d_int da, d_int db]
  exact ⟨_, _, rfl, rfl, hc, hq⟩
theorem sub_ok : Op2 X W (rI0 fun i j => .int (i - j)) subG := by
  intro ph S H x y a b Q g da db h
  unfold subG at h
  split at h
  · rw [d_int da, d_int db]; exact ⟨_, _, rfl, rfl, fin_v g (.int _) h⟩
  · exact h.elim
theorem paired_append {α β : Type} {P : α → β → Prop} : ∀ {l l' : List α} {m m' : List β}, Paired P l m → Paired P l' m' → Paired P (l ++ l') (m ++ m')
  | _, _, _, _, .nil, s => s
  | _, _, _, _, .cons a t, s => .cons a (paired_append t s)
theorem paired_rep {α β : Type} {P : α → β → Prop} {l : List α} {m : List β} (h : Paired P l m) : ∀ k : Nat, Paired P (List.replicate k l).flatten (List.replicate k m).flatten
  | 0 => .nil
  | k + 1 => by rw [List.replicate_succ, List.replicate_succ, List.flatten_cons, List.flatten_cons]; exact paired_append h (paired_rep h k)
abbrev rMulAll : R2 := fun x y H Q => rI CMul (fun i j => .int (i * j)) x y H Q ∨ rI CMulW (fun i j => .int (i * j)) x y H Q ∨ rRep x y H Q
theorem op_mulAll : OpR X (binaryOp .Mult) rMulAll := op_mul.or (op_mulW.or op_rep)
theorem mul_ok (c : Bool) : Op2 X W rMulAll (mulG c) := by
  intro ph S H x y a b Q g da db h
  unfold mulG at h
  split at h
  · split at h
    · rename_i hc
      rcases hc with hc | hc
      · exact .inl (int2_ok da db hc (fin_v g (.int _) h))
      · exact .inr (.inl (int2_ok da db hc (fin_v g (.int _) h)))
    · exact h.elim
  · split at h
    · rename_i xs hx
      split at h
      · rename_i hk
        obtain ⟨p, vs, rfl, s1, r1⟩ := rdL_at g da hx
        rw [d_int db]
        have z := newL_ok g (paired_rep r1 _) h
        exact .inr (.inr ⟨p, _, vs, rfl, rfl, s1, hk.1, hk.2.1, by rw [r1.length]; exact hk.2.2, z.2⟩)
      · exact h.elim
    · exact h.elim
  · exact h.elim
abbrev rDivAll : R2 := fun x y H Q => rI CDiv (fun i j => .int (i / j)) x y H Q ∨ rI CDivW (fun i j => .int (i / j)) x y H Q
theorem op_divAll : OpR X (binaryOp .FloorDiv) rDivAll := op_fdiv.or op_fdivW
theorem fdiv_ok : Op2 X W rDivAll fdivG := by
  intro ph S H x y a b Q g da db h
  unfold fdivG at h
  split at h
  · split at h
    · rename_i hc
      rcases hc with hc | hc
      · exact .inl (int2_ok da db hc (fin_v g (.int _) h))
      · exact .inr (int2_ok da db hc (fin_v g (.int _) h))
    · exact h.elim
  · exact h.elim
theorem mod_ok : Op2 X W (rI (fun _ j => 0 < j) fun i j => .int (i % j)) modG := by
  intro ph S H x y a b Q g da db h
  unfold modG at h
  split at h
  · split at h
    · exact int2_ok (C := fun _ j => 0 < j) da db (by assumption) (fin_v g (.int _) h)
    · exact h.elim
  · exact h.elim
theorem cmp_ok {p : Int → Int → Bool} : Op2 X W (rI0 fun i j => .bl (p i j)) (cmpG p) := by
  intro ph S H x y a b Q g da db h
  unfold cmpG at h
  split at h
  · rw [d_int da, d_int db]; exact ⟨_, _, rfl, rfl, fin_v g (.bl _) h⟩
  · exact h.elim
theorem d_strH {K : PySem.W.Frag} {H : Hp} {v : V} {x : Str} (h : Den K H v (.str x)) : v = .str x := by cases h; rfl
abbrev rEqAll (K : PySem.W.Frag) : R2 := fun x y H Q => rEqD K x y H Q ∨ rEq x y H Q
abbrev rNeAll (K : PySem.W.Frag) : R2 := fun x y H Q => rNeD K x y H Q ∨ rNe x y H Q
theorem eq_ok : Op2 X W (rEqAll X.K) (eqG false) := by
  intro ph S H x y a b Q g da db h
  unfold eqG at h
  split at h
  · rename_i d e h1 h2
    have n1 := snap_ok g da h1
    have n2 := snap_ok g db h2
    unfold eqD at h
    split at h
    · rename_i r hr
      split at hr
      · rename_i s1 s2
        cases hr
        rw [d_strH n1, d_strH n2]
        refine .inr ⟨rfl, fin_v (E := W.rel ph H) g (Den.bl _) ?_⟩
        have e : decide (V.str s1 = V.str s2) = decide (s1 = s2) := by simp
        rw [e]
        simpa using h
      · split at hr
        · rename_i hp
          cases hr
          simp only [Bool.and_eq_true, plain] at hp
          exact .inl ⟨py d, py e, dp_of hp.1.1 n1, dp_of hp.2.1 n2, hp.1.2, hp.2.2, fin_v g (.bl _) h⟩
        · cases hr
    · exact h.elim
  · exact h.elim
theorem ne_ok : Op2 X W (rNeAll X.K) (eqG true) := by
  intro ph S H x y a b Q g da db h
  unfold eqG at h
  split at h
  · rename_i d e h1 h2
    have n1 := snap_ok g da h1
    have n2 := snap_ok g db h2
    unfold eqD at h
    split at h
    · rename_i r hr
      split at hr
      · rename_i s1 s2
        cases hr
        rw [d_strH n1, d_strH n2]
        refine .inr ⟨rfl, fin_v (E := W.rel ph H) g (Den.bl _) ?_⟩
        have e : decide (V.str s1 = V.str s2) = decide (s1 = s2) := by simp
        rw [e]
        simpa using h
      · split at hr
        · rename_i hp
          cases hr
          simp only [Bool.and_eq_true, plain] at hp
          exact .inl ⟨py d, py e, dp_of hp.1.1 n1, dp_of hp.2.1 n2, hp.1.2, hp.2.2, fin_v g (.bl _) h⟩
        · cases hr
    · exact h.elim
  · exact h.elim
theorem isNon_eq {K : PySem.W.Frag} {ph : List Addr} {H : Hp} {v : V} {x : SV} (h : DenS K ph H v x) : decide (v = .non) = isNon x := by
  cases x with
  | fr d => cases d <;> cases h <;> first | rfl | simp [isNon]
  | cell k => obtain ⟨p, _, rfl⟩ := h; simp [isNon]
theorem is_ok : Op2 X W (fun x y H Q => y = .non ∧ Q (.bl (decide (x = .non))) H) (isG false) := by
  intro ph S H x y a b Q g da db h
  unfold isG at h
  split at h
  · rw [d_non db, isNon_eq da]; exact ⟨rfl, fin_v g (.bl _) h⟩
  · exact h.elim
variable {a b : Expr} {ma mb : EM} {pos : Pos}
theorem pd_add (c : Bool) (ha : PD X W a ma) (hb : PD X W b mb) : PD X W (.BinOp a .Add b pos) (e2 (addG c) ma mb) := pd_2 op_addAll (add_ok c) ha hb
theorem pd_sub (ha : PD X W a ma) (hb : PD X W b mb) : PD X W (.BinOp a .Sub b pos) (e2 subG ma mb) := pd_2 op_sub sub_ok ha hb
theorem pd_mul (c : Bool) (ha : PD X W a ma) (hb : PD X W b mb) : PD X W (.BinOp a .Mult b pos) (e2 (mulG c) ma mb) := pd_2 op_mulAll (mul_ok c) ha hb
theorem pd_fdiv (ha : PD X W a ma) (hb : PD X W b mb) : PD X W (.BinOp a .FloorDiv b pos) (e2 fdivG ma mb) := pd_2 op_divAll fdiv_ok ha hb
theorem pd_mod (ha : PD X W a ma) (hb : PD X W b mb) : PD X W (.BinOp a .Mod b pos) (e2 modG ma mb) := pd_2 op_mod mod_ok ha hb
theorem pd_ge (ha : PD X W a ma) (hb : PD X W b mb) : PD X W (.Compare a [.GtE] [b] pos) (e2 geG ma mb) := pd_cmp op_ge cmp_ok ha hb
theorem pd_eq (hu : X.A.units + 64 < cLine) (ha : PD X W a ma) (hb : PD X W b mb) : PD X W (.Compare a [.Eq] [b] pos) (e2 (eqG false) ma mb) := pd_cmp ((op_eqD hu).or op_eq) eq_ok ha hb
theorem pd_is (ha : PD X W a ma) (hb : PD X W b mb) : PD X W (.Compare a [.Is] [b] pos) (e2 (isG false) ma mb) := pd_cmp op_isN is_ok ha hb
end
end DL

namespace DL
open PySem L2

def truthD : D → Option Bool
  | .non => some false
  | .bl b => some b
  | .int i => some (i != 0)
  | .str x => if x.length ≤ sizeLine then some ((x.length : Int) != 0) else none
  | .tup ds => some (!ds.isEmpty)
  | .lst ds => some (!ds.isEmpty)
  | _ => none
def truth (S : Store) : SV → Option Bool
  | .fr d => truthD d
  | .cell k => match S[k]? with
    | some (.lst xs) => some (!xs.isEmpty)
    | _ => none
theorem paired_empty {α β : Type} {P : α → β → Prop} {l : List α} {m : List β} (h : Paired P l m) : l.isEmpty = m.isEmpty := by
  cases h <;> rfl
theorem dens_empty {K : PySem.W.Frag} {F : Hp} {vs : List V} {ds : List D} (h : Dens K F vs ds) : vs.isEmpty = ds.isEmpty := by
  cases h <;> rfl
theorem truth_ok {K : PySem.W.Frag} {ph : List Addr} {S : Store} {H : Hp} {v : V} {x : SV} {k : Bool} (g : Good K ph H S) (h : DenS K ph H v x) (e : truth S x = some k) : TruV K v H k := by
  cases x with
  | fr d =>
    have e : truthD d = some k := e
    cases d with
    | non => rw [d_non h]; simp [truthD] at e; exact e
    | bl b => rw [d_bl h]; simp [truthD] at e; exact e.symm
    | int i => rw [d_int h]; simp only [truthD, Option.some.injEq] at e; exact e.symm
    | str z =>
      rw [d_str h]
      simp only [truthD] at e
      split at e
      · exact ⟨by assumption, (Option.some.inj e).symm⟩
      · cases e
    | tup ds =>
      obtain ⟨a, vs, rfl, s, r⟩ := d_tup h
      simp only [truthD, Option.some.injEq] at e
      exact .inr (.inl ⟨vs, hide_sub.sqT s, by rw [← e, dens_empty r]⟩)
    | lst ds =>
      cases h with
      | lst s r =>
        simp only [truthD, Option.some.injEq] at e
        exact .inl ⟨_, .of (hide_sub _ _ s), by rw [← e, dens_empty r]⟩
    | _ => simp [truthD] at e
  | cell n =>
    obtain ⟨p, h1, rfl⟩ := h
    simp only [truth] at e
    split at e
    · rename_i xs hk
      obtain ⟨q, h3, vs, h4, h5⟩ := g.at hk
      rw [h1] at h3; cases h3
      simp only [Option.some.injEq] at e
      exact .inl ⟨_, .of h4, by rw [← e, paired_empty h5]⟩
    · cases e

section
variable {X : Cx} {W : XW X.K} {a b c : Expr} {ma mb mc : EM} {pos : Pos}
def eTr (m : EM) (t f : SV × Store → Res (SV × Store)) : EM := fun rho S => (m rho S).bind fun x => match truth x.2 x.1 with
  | some true => t x
  | some false => f x
  | none => .stuck
def eAnd (a b : EM) : EM := fun rho S => eTr a (fun x => b rho x.2) (fun x => .ok x) rho S
def eOr (a b : EM) : EM := fun rho S => eTr a (fun x => .ok x) (fun x => b rho x.2) rho S
def eNot (a : EM) : EM := fun rho S => eTr a (fun x => okV (.bl false) x.2) (fun x => okV (.bl true) x.2) rho S
abbrev SndE (X : Cx) (W : XW X.K) (t : TE) (m : EM) : Prop := ∀ (ph : List Addr) (S : Store) (H : Hp) (sg : L2.St) (rho : Slots) (Q : VK), Good X.K ph H S → SlotsOk X.K ph H sg rho →
    holds (m rho S) (post X.K ph H Q) (W.rel ph H) → t sg H Q
abbrev SndT (X : Cx) (W : XW X.K) (t : TT) (m : TM) : Prop := ∀ (ph : List Addr) (S : Store) (H : Hp) (sg : L2.St) (rho : Slots) (Q : Bool → Hp → Prop), Good X.K ph H S → SlotsOk X.K ph H sg rho →
    holds (m rho S) (postT X.K ph H Q) (W.rel ph H) → t sg H Q
theorem pd_one {op : BoolOp} (h : PD X W a ma) : PD X W (.BoolOp op [a] pos) ma := by
  obtain ⟨t, p, s⟩ := h.ex
  exact ⟨t, pe_one p, s⟩
theorem pd_and {rest : List Expr} (ha : PD X W a ma) (hb : PD X W (.BoolOp .And (b :: rest) pos) mb) : PD X W (.BoolOp .And (a :: b :: rest) pos) (eAnd ma mb) := by
  obtain ⟨ta, pa, sa⟩ := ha.ex
  obtain ⟨tb, pb, sb⟩ := hb.ex
  refine ⟨_, pe_andT pa pb, fun ph S H sg rho Q g so h => sa ph S H sg rho _ g so (holds_imp (holds_bind h) (fun x hx => ?_) fun _ _ _ q => q)⟩
  intro ph1 v1 H1 x1 g1 d1
  revert hx
  cases e : truth x.2 x.1 with
  | none => exact fun hx => hx.elim
  | some k =>
    intro hx
    refine ⟨k, truth_ok g1 d1 e, ?_⟩
    cases k with
    | true =>
      rw [if_pos rfl]
      exact sb ph1 x.2 H1 sg rho Q g1 (so.mono x1) (holds_imp hx (fun c => post.mono x1 c) fun e r s q => W.mono _ _ _ _ e r s x1 q)
    | false =>
      rw [if_neg Bool.false_ne_true]
      exact hx ph1 v1 H1 x1 g1 d1
theorem pd_or {rest : List Expr} (ha : PD X W a ma) (hb : PD X W (.BoolOp .Or (b :: rest) pos) mb) : PD X W (.BoolOp .Or (a :: b :: rest) pos) (eOr ma mb) := by
  obtain ⟨ta, pa, sa⟩ := ha.ex
  obtain ⟨tb, pb, sb⟩ := hb.ex
  refine ⟨_, pe_orT pa pb, fun ph S H sg rho Q g so h => sa ph S H sg rho _ g so (holds_imp (holds_bind h) (fun x hx => ?_) fun _ _ _ q => q)⟩
  intro ph1 v1 H1 x1 g1 d1
  revert hx
  cases e : truth x.2 x.1 with
  | none => exact fun hx => hx.elim
  | some k =>
    intro hx
    refine ⟨k, truth_ok g1 d1 e, ?_⟩
    cases k with
    | true =>
      rw [if_pos rfl]
      exact hx ph1 v1 H1 x1 g1 d1
    | false =>
      rw [if_neg Bool.false_ne_true]
      exact sb ph1 x.2 H1 sg rho Q g1 (so.mono x1) (holds_imp hx (fun c => post.mono x1 c) fun e r s q => W.mono _ _ _ _ e r s x1 q)
theorem pd_not (ha : PD X W a ma) : PD X W (.UnaryOp .Not a pos) (eNot ma) := by
  obtain ⟨ta, pa, sa⟩ := ha.ex
  refine ⟨_, pe_notT pa, fun ph S H sg rho Q g so h => sa ph S H sg rho _ g so (holds_imp (holds_bind h) (fun x hx => ?_) fun _ _ _ q => q)⟩
  intro ph1 v1 H1 x1 g1 d1
  revert hx
  cases e : truth x.2 x.1 with
  | none => exact fun hx => hx.elim
  | some k =>
    intro hx
    refine ⟨k, truth_ok g1 d1 e, ?_⟩
    cases k with
    | true => exact hx ph1 (.bl false) H1 x1 g1 (.bl _)
    | false => exact hx ph1 (.bl true) H1 x1 g1 (.bl _)

def tV (m : EM) : TM := fun rho S => (m rho S).bind fun x => match truth x.2 x.1 with
  | some k => .ok (k, x.2)
  | none => .stuck
def tB (m : EM) : TM := fun rho S => (m rho S).bind fun x => match x.1 with
  | .fr (.bl k) => .ok (k, x.2)
  | _ => .stuck
theorem pt_v (ha : PD X W a ma) (he : ∀ whole, isTrue a X.env whole = (do let v ← whole; standAt a.pos; holding [v] (truthy v)) := by intro _; rfl) : PDT X W a (tV ma) := by
  obtain ⟨ta, pa, sa⟩ := ha.ex
  refine ⟨_, pt_truth pa he, fun ph S H sg rho Q g so h => sa ph S H sg rho _ g so (holds_imp (holds_bind h) (fun x hx => ?_) fun _ _ _ q => q)⟩
  intro ph1 v1 H1 x1 g1 d1
  revert hx
  cases e : truth x.2 x.1 with
  | none => exact fun hx => hx.elim
  | some k => exact fun hx => ⟨k, truth_ok g1 d1 e, hx ph1 H1 x1 g1⟩
theorem tB_post {K : PySem.W.Frag} {ph : List Addr} {H : Hp} {Q : Bool → Hp → Prop} {E : Exc → Slots → Store → Prop} {x : SV × Store} (hx : holds (match x.1 with | .fr (.bl k) => Res.ok (k, x.2) | _ => .stuck) (postT K ph H Q) E) : post K ph H (fun y H' => ∃ k, y = .bl k ∧ Q k H') x := by
  intro ph1 v1 H1 x1 g1 d1
  obtain ⟨sv, S'⟩ := x
  dsimp only at *
  split at hx
  · exact ⟨_, d_bl d1, hx ph1 H1 x1 g1⟩
  · exact hx.elim
theorem pt_of {r : TE} {m : EM} (hp : PT X a (tTest r)) (hs : SndE X W r m) : PDT X W a (tB m) :=
  ⟨_, hp, fun ph S H sg rho Q g so h => hs ph S H sg rho _ g so (holds_imp (holds_bind h) (fun x hx => tB_post hx) fun _ _ _ q => q)⟩
theorem pt_2 {op : CmpOp} {r : R2} {g : G2} (ho : OpR X (compareOp op) r) (hr : Op2 X W r g) (ha : PD X W a ma) (hb : PD X W b mb) (hm : behindInMarks op b = false := by first | exact nomark _ | rfl) : PDT X W (.Compare a [op] [b] pos) (tB (e2 g ma mb)) := by
  obtain ⟨ta, pa, sa⟩ := ha.ex
  obtain ⟨tb, pb, sb⟩ := hb.ex
  exact pt_of (pt_cmpR ho pa pb hm) fun ph S H sg rho Q gd so h => snd2 sa sb hr ph S H sg rho Q gd so h
theorem pt_lt (ha : PD X W a ma) (hb : PD X W b mb) : PDT X W (.Compare a [.Lt] [b] pos) (tB (e2 ltG ma mb)) := pt_2 op_lt cmp_ok ha hb
theorem pt_gt (ha : PD X W a ma) (hb : PD X W b mb) : PDT X W (.Compare a [.Gt] [b] pos) (tB (e2 gtG ma mb)) := pt_2 op_gt cmp_ok ha hb
theorem pt_ge (ha : PD X W a ma) (hb : PD X W b mb) : PDT X W (.Compare a [.GtE] [b] pos) (tB (e2 geG ma mb)) := pt_2 op_ge cmp_ok ha hb
theorem pt_eq (hu : X.A.units + 64 < cLine) (ha : PD X W a ma) (hb : PD X W b mb) : PDT X W (.Compare a [.Eq] [b] pos) (tB (e2 (eqG false) ma mb)) := pt_2 ((op_eqD hu).or op_eq) eq_ok ha hb
theorem pt_ne (hu : X.A.units + 64 < cLine) (ha : PD X W a ma) (hb : PD X W b mb) : PDT X W (.Compare a [.NotEq] [b] pos) (tB (e2 (eqG true) ma mb)) := pt_2 ((op_neD hu).or op_ne) ne_ok ha hb
theorem pt_is (ha : PD X W a ma) (hb : PD X W b mb) : PDT X W (.Compare a [.Is] [b] pos) (tB (e2 (isG false) ma mb)) := pt_2 op_isN is_ok ha hb
def eCh (g g' : G2) (a b c : EM) : EM := fun rho S => (a rho S).bind fun x => (b rho x.2).bind fun y => (g x.1 y.1 y.2).bind fun z => match z.1 with
  | .fr (.bl true) => (c rho z.2).bind fun w => g' y.1 w.1 w.2
  | .fr (.bl false) => okV (.bl false) z.2
  | _ => .stuck
theorem ch_snd {ta tb tc : TE} {r r' : R2} {g g' : G2} (sa : SndE X W ta ma) (sb : SndE X W tb mb) (sc : SndE X W tc mc) (hr : Op2 X W r g) (hr' : Op2 X W r' g') : SndE X W (tChain r r' ta tb tc) (eCh g g' ma mb mc) := by
  intro ph S H sg rho Q gd so h
  refine sa ph S H sg rho _ gd so (holds_imp (holds_bind h) (fun x hx => ?_) fun _ _ _ q => q)
  intro ph1 v1 H1 x1 g1 d1
  refine sb ph1 x.2 H1 sg rho _ g1 (so.mono x1) (holds_imp (holds_bind hx) (fun y hy => ?_) fun e r s q => W.mono _ _ _ _ e r s x1 q)
  intro ph2 v2 H2 x2 g2 d2
  refine hr ph2 y.2 H2 v1 v2 x.1 y.1 _ g2 (d1.mono x2) d2 (holds_imp (holds_bind hy) (fun z hz => ?_) fun e r s q => W.mono _ _ _ _ e r s (x1.trans x2) q)
  intro ph3 v3 H3 x3 g3 d3
  have x13 := x1.trans (x2.trans x3)
  obtain ⟨zv, zs⟩ := z
  dsimp only at *
  split at hz
  · refine ⟨true, d_bl d3, ?_⟩
    rw [if_pos rfl]
    refine sc ph3 zs H3 sg rho _ g3 (so.mono x13) (holds_imp (holds_bind hz) (fun w hw => ?_) fun e r s q => W.mono _ _ _ _ e r s x13 q)
    intro ph4 v4 H4 x4 g4 d4
    exact hr' ph4 w.2 H4 v2 v4 y.1 w.1 Q g4 (d2.mono (x3.trans x4)) d4 (holds_imp hw (fun c => post.mono (x13.trans x4) c) fun e r s q => W.mono _ _ _ _ e r s (x13.trans x4) q)
  · refine ⟨false, d_bl d3, ?_⟩
    rw [if_neg Bool.false_ne_true]
    exact hz ph3 (.bl false) H3 x13 g3 (.bl _)
  · exact hz.elim
theorem pd_ch {op op' : CmpOp} {r r' : R2} {g g' : G2} (ho : OpR X (compareOp op) r) (ho' : OpR X (compareOp op') r') (hr : Op2 X W r g) (hr' : Op2 X W r' g') (ha : PD X W a ma) (hb : PD X W b mb) (hc : PD X W c mc)
    (hm : lastMarks [op, op'] [b, c] = false := by with_unfolding_all rfl) : PD X W (.Compare a [op, op'] [b, c] pos) (eCh g g' ma mb mc) := by
  obtain ⟨ta, pa, sa⟩ := ha.ex
  obtain ⟨tb, pb, sb⟩ := hb.ex
  obtain ⟨tc, pc, sc⟩ := hc.ex
  exact ⟨_, pe_chain ho ho' pa pb pc hm, ch_snd sa sb sc hr hr'⟩
theorem pt_ch {op op' : CmpOp} {r r' : R2} {g g' : G2} (ho : OpR X (compareOp op) r) (ho' : OpR X (compareOp op') r') (hr : Op2 X W r g) (hr' : Op2 X W r' g') (ha : PD X W a ma) (hb : PD X W b mb) (hc : PD X W c mc)
    (hm : lastMarks [op, op'] [b, c] = false := by with_unfolding_all rfl) : PDT X W (.Compare a [op, op'] [b, c] pos) (tB (eCh g g' ma mb mc)) := by
  obtain ⟨ta, pa, sa⟩ := ha.ex
  obtain ⟨tb, pb, sb⟩ := hb.ex
  obtain ⟨tc, pc, sc⟩ := hc.ex
  exact pt_of (pt_chain ho ho' pa pb pc hm) (ch_snd sa sb sc hr hr')
structure PDW (X : Cx) (W : XW X.K) (e : Expr) (m : TM) : Prop where
  ex : ∃ t, PW X e t ∧ SndT X W t m
def tNt (m : TM) : TM := fun rho S => (m rho S).bind fun x => .ok (!x.1, x.2)
def tAn (m n : TM) : TM := fun rho S => (m rho S).bind fun x => if x.1 then n rho x.2 else .ok (false, x.2)
def tOo (m n : TM) : TM := fun rho S => (m rho S).bind fun x => if x.1 then .ok (true, x.2) else n rho x.2
theorem pt_w {m : TM} (h : PDW X W a m) : PDT X W a m := by
  obtain ⟨t, p, s⟩ := h.ex
  exact ⟨t, p.pt, s⟩
theorem pt_nt {m : TM} (h : PDT X W a m) : PDT X W (.UnaryOp .Not a pos) (tNt m) := by
  obtain ⟨t, p, s⟩ := h.ex
  refine ⟨_, pt_not p, fun ph S H sg rho Q g so h => s ph S H sg rho _ g so (holds_imp (holds_bind h) (fun x hx => ?_) fun _ _ _ q => q)⟩
  exact fun ph1 H1 x1 g1 => hx ph1 H1 x1 g1
theorem pw_a1 {m : TM} (h : PDT X W a m) : PDW X W (.BoolOp .And [a] pos) m := by
  obtain ⟨t, p, s⟩ := h.ex
  exact ⟨t, pw_and1 p, s⟩
theorem pw_o1 {m : TM} (h : PDT X W a m) : PDW X W (.BoolOp .Or [a] pos) m := by
  obtain ⟨t, p, s⟩ := h.ex
  exact ⟨t, pw_or1 p, s⟩
theorem pw_a {m n : TM} {rest : List Expr} (h : PDT X W a m) (h2 : PDW X W (.BoolOp .And (b :: rest) pos) n) : PDW X W (.BoolOp .And (a :: b :: rest) pos) (tAn m n) := by
  obtain ⟨t, p, s⟩ := h.ex
  obtain ⟨t2, p2, s2⟩ := h2.ex
  refine ⟨_, pw_and p p2, fun ph S H sg rho Q g so h => s ph S H sg rho _ g so (holds_imp (holds_bind h) (fun x hx => ?_) fun _ _ _ q => q)⟩
  intro ph1 H1 x1 g1
  obtain ⟨k, S1⟩ := x
  cases k with
  | true => exact s2 ph1 S1 H1 sg rho Q g1 (so.mono x1) (holds_imp hx (fun c => postT.mono x1 c) fun e r s q => W.mono _ _ _ _ e r s x1 q)
  | false => exact hx ph1 H1 x1 g1
theorem pw_o {m n : TM} {rest : List Expr} (h : PDT X W a m) (h2 : PDW X W (.BoolOp .Or (b :: rest) pos) n) : PDW X W (.BoolOp .Or (a :: b :: rest) pos) (tOo m n) := by
  obtain ⟨t, p, s⟩ := h.ex
  obtain ⟨t2, p2, s2⟩ := h2.ex
  refine ⟨_, pw_or p p2, fun ph S H sg rho Q g so h => s ph S H sg rho _ g so (holds_imp (holds_bind h) (fun x hx => ?_) fun _ _ _ q => q)⟩
  intro ph1 H1 x1 g1
  obtain ⟨k, S1⟩ := x
  cases k with
  | false => exact s2 ph1 S1 H1 sg rho Q g1 (so.mono x1) (holds_imp hx (fun c => postT.mono x1 c) fun e r s q => W.mono _ _ _ _ e r s x1 q)
  | true => exact hx ph1 H1 x1 g1
def eIf (t : TM) (a b : EM) : EM := fun rho S => (t rho S).bind fun x => if x.1 then a rho x.2 else b rho x.2
theorem pd_if {m : TM} (ht : PDT X W c m) (ha : PD X W a ma) (hb : PD X W b mb) : PD X W (.IfExp c a b pos) (eIf m ma mb) := by
  obtain ⟨t, p, s⟩ := ht.ex
  obtain ⟨ta, pa, sa⟩ := ha.ex
  obtain ⟨tb, pb, sb⟩ := hb.ex
  refine ⟨_, pe_ifExp p pa pb, fun ph S H sg rho Q g so h => s ph S H sg rho _ g so (holds_imp (holds_bind h) (fun x hx => ?_) fun _ _ _ q => q)⟩
  intro ph1 H1 x1 g1
  obtain ⟨k, S1⟩ := x
  have up : ∀ {r : Res (SV × Store)}, holds r (post X.K ph H Q) (W.rel ph H) → holds r (post X.K ph1 H1 Q) (W.rel ph1 H1) := fun q => holds_imp q (fun c => post.mono x1 c) fun e r s q => W.mono _ _ _ _ e r s x1 q
  cases k with
  | true => exact sa ph1 S1 H1 sg rho Q g1 (so.mono x1) (up hx)
  | false => exact sb ph1 S1 H1 sg rho Q g1 (so.mono x1) (up hx)
end
end DL

namespace DL
open PySem L2

theorem atI_pair {α β : Type} {P : α → β → Prop} {l : List α} {m : List β} {i : Int} {b : β} (h : Paired P l m) (e : atI m i = some b) : ∃ a, atI l i = some a ∧ P a b := by
  unfold atI at e ⊢
  rw [h.length]
  cases q : ixN m.length i with
  | none => rw [q] at e; simp at e
  | some j =>
    rw [q] at e
    exact paired_get h (by simpa using e)
def cutA {α : Type} (xs : List α) (lo hi : Option Int) : List α := (xs.drop (HT.sIx xs.length 0 lo)).take (HT.sIx xs.length xs.length hi - HT.sIx xs.length 0 lo)
theorem paired_drop {α β : Type} {P : α → β → Prop} : ∀ {l : List α} {m : List β} (n : Nat), Paired P l m → Paired P (l.drop n) (m.drop n)
  | _, _, 0, r => r
  | _, _, _ + 1, .nil => .nil
  | _, _, n + 1, .cons _ r => paired_drop n r
theorem paired_take {α β : Type} {P : α → β → Prop} : ∀ {l : List α} {m : List β} (n : Nat), Paired P l m → Paired P (l.take n) (m.take n)
  | _, _, 0, _ => .nil
  | _, _, _ + 1, .nil => .nil
  | _, _, n + 1, .cons a r => .cons a (paired_take n r)
theorem paired_cut {α β : Type} {P : α → β → Prop} {l : List α} {m : List β} (h : Paired P l m) (lo hi : Option Int) : Paired P (cutA l lo hi) (cutA m lo hi) := by
  unfold cutA
  rw [h.length]
  exact paired_take _ (paired_drop _ h)
def newL0 (m : Bool) (xs : List SV) (S : Store) : Res (SV × Store) := if m then .ok (.cell S.length, S ++ [.lst xs]) else match allFr xs with
  | some ds => .ok (.fr (.lst ds), S)
  | none => .stuck
theorem newL0_ok {K : PySem.W.Frag} {ph : List Addr} {H : Hp} {S : Store} {vs : List V} {xs : List SV} {m : Bool} {Q : VK} {E : Exc → Slots → Store → Prop} (g : Good K ph H S) (d : DenSs K ph H vs xs) (h : holds (newL0 m xs S) (post K ph H Q) E) :
    ∀ p, H p = none → Q (.ref p) (upd H p (.lst vs)) := fun p hp => by
  unfold newL0 at h
  cases m with
  | true =>
    have e : Ext ph H (ph ++ [p]) (upd H p (.lst vs)) := Ext.cell hp
    exact h (ph ++ [p]) (.ref p) _ e (g.cell hp ⟨vs, upd_same, d.mono e⟩) ⟨p, by rw [← g.len]; simp, rfl⟩
  | false =>
    simp only [Bool.false_eq_true, if_false] at h
    split at h
    · rename_i ds hd
      have e : Ext ph H ph (upd H p (.lst vs)) := Ext.fresh hp
      refine h ph (.ref p) _ e (g.fresh hp) (.lst (vs := vs) (hide_of (g.new hp) upd_same) ?_)
      have d' := d.mono e
      rw [allFr_eq hd] at d'
      exact dens_of d'
    · exact h.elim
section
variable {X : Cx} {W : XW X.K} {a b c : Expr} {ma mb mc : EM} {pos : Pos}

def ixG : G2 := fun a b S => match b with
  | .fr (.int i) => match rdS S a with
    | some xs => match atI xs i with
      | some x => .ok (x, S)
      | none => .stuck
    | none => match a with
      | .fr (.tup ds) => match atI ds i with
        | some d => okV d S
        | none => .stuck
      | .fr (.str z) => if z.length ≤ sizeLine then match atI z.cps.toList i with
        | some c => okV (.str ⟨#[c]⟩) S
        | none => .stuck else .stuck
      | _ => .stuck
  | _ => .stuck
theorem atI_dens {K : PySem.W.Frag} {F : Hp} {vs : List V} {ds : List D} {i : Int} {d : D} (h : Dens K F vs ds) (e : atI ds i = some d) : ∃ v, atI vs i = some v ∧ Den K F v d := by
  unfold atI at e ⊢
  rw [h.len]
  cases q : ixN ds.length i with
  | none => rw [q] at e; simp at e
  | some j =>
    rw [q] at e
    exact h.get (by simpa using e)
theorem ix_ok : Op2 X W (rIx X.K) ixG := by
  intro ph S H x y a b Q g da db h
  unfold ixG at h
  split at h
  · rw [d_int db]
    split at h
    · rename_i xs hx
      obtain ⟨p, vs, rfl, s, r⟩ := rdS_ok g da hx
      split at h
      · rename_i z hz
        obtain ⟨v, hv, dv⟩ := atI_pair r hz
        exact .inl ⟨p, vs, _, v, rfl, rfl, s, hv, h ph v H (Ext.refl _ _) g dv⟩
      · exact h.elim
    · split at h
      · obtain ⟨p, vs, rfl, s, r⟩ := d_tup da
        split at h
        · rename_i d hd
          obtain ⟨v, hv, dv⟩ := atI_dens r hd
          exact .inr (.inl ⟨p, vs, _, v, rfl, rfl, hide_sub.sqT s, hv, h ph v H (Ext.refl _ _) g dv⟩)
        · exact h.elim
      · rw [d_str da]
        split at h
        · split at h
          · rename_i hz _ c hc
            exact .inr (.inr ⟨_, _, c, rfl, rfl, hz, hc, fin_v g (.str _) h⟩)
          · exact h.elim
        · exact h.elim
      · exact h.elim
  · exact h.elim
theorem pd_ix (ha : PD X W a ma) (hb : PD X W b mb) (hs : PlainIx b := by intro _ _; rfl) : PD X W (.Subscript a b pos) (e2 ixG ma mb) := by
  obtain ⟨ta, pa, sa⟩ := ha.ex
  obtain ⟨tb, pb, sb⟩ := hb.ex
  exact ⟨_, pe_ix ix_seq pa pb hs, fun ph S H sg rho Q gd so h => snd2 sa sb ix_ok ph S H sg rho Q gd so h⟩

abbrev PM := Slots → Store → Res (Option Int × Store)
def postP (K : PySem.W.Frag) (ph : List Addr) (H : Hp) (Q : Option Int → Hp → Prop) : Option Int × Store → Prop := fun r => ∀ ph' H', Ext ph H ph' H' → Good K ph' H' r.2 → Q r.1 H'
structure PDO (X : Cx) (W : XW X.K) (e : Option Expr) (m : PM) : Prop where
  ex : ∃ t, PO X e t ∧ ∀ (ph : List Addr) (S : Store) (H : Hp) (sg : L2.St) (rho : Slots) (Q : Option Int → Hp → Prop), Good X.K ph H S → SlotsOk X.K ph H sg rho →
    holds (m rho S) (postP X.K ph H Q) (W.rel ph H) → t sg H Q
def pN : PM := fun _ S => .ok (none, S)
def pS (m : EM) : PM := fun rho S => (m rho S).bind fun x => match x.1 with
  | .fr (.int i) => .ok (some i, x.2)
  | _ => .stuck
theorem po_n : PDO X W none pN := ⟨_, po_none, fun ph S H sg rho Q g so h => h ph H (Ext.refl _ _) g⟩
theorem po_s (ha : PD X W a ma) : PDO X W (some a) (pS ma) := by
  obtain ⟨ta, pa, sa⟩ := ha.ex
  refine ⟨_, po_some pa, fun ph S H sg rho Q g so h => sa ph S H sg rho _ g so (holds_imp (holds_bind h) (fun x hx => ?_) fun _ _ _ q => q)⟩
  intro ph1 v1 H1 x1 g1 d1
  obtain ⟨sv, S1⟩ := x
  dsimp only at *
  split at hx
  · exact ⟨_, d_int d1, hx ph1 H1 x1 g1⟩
  · exact hx.elim
def slG (c : Bool) (a : SV) (lo hi : Option Int) (S : Store) : Res (SV × Store) := match rdS S a with
  | some xs => newL0 c (cutA xs lo hi) S
  | none => match a with
    | .fr (.tup ds) => okV (.tup (cutA ds lo hi)) S
    | .fr (.str z) => if z.length ≤ sizeLine then okV (.str (cutS z lo hi)) S else .stuck
    | _ => .stuck
abbrev rSlAll (K : PySem.W.Frag) : V → Option Int → Option Int → Hp → VK → Prop := fun x lo hi H Q => rSlL K x lo hi H Q ∨ rSlA K x lo hi H Q ∨ rSlS x lo hi H Q
theorem sl_all : SlR X (rSlAll X.K) := sl_list.or (sl_tupA.or sl_str)
theorem dens_cut {K : PySem.W.Frag} {F : Hp} {vs : List V} {ds : List D} (h : Dens K F vs ds) (lo hi : Option Int) : Dens K F (cutA vs lo hi) (cutA ds lo hi) := by
  unfold cutA
  rw [h.len]
  exact (h.drop _).take _
theorem sl_ok {c : Bool} {ph : List Addr} {S : Store} {H : Hp} {x : V} {a : SV} {lo hi : Option Int} {Q : VK} (g : Good X.K ph H S) (da : DenS X.K ph H x a) (h : holds (slG c a lo hi S) (post X.K ph H Q) (W.rel ph H)) : rSlAll X.K x lo hi H Q := by
  unfold slG at h
  split at h
  · rename_i xs hx
    obtain ⟨p, vs, rfl, s, r⟩ := rdS_ok g da hx
    exact .inl ⟨p, vs, rfl, s, newL0_ok g (paired_cut r lo hi) h⟩
  · split at h
    · rename_i ds _
      obtain ⟨p, vs, rfl, s, r⟩ := d_tupH da
      refine .inr (.inl ⟨p, vs, rfl, hide_sub.sqT (.inl (.inl s)), fun hw => ?_, fun hw t ht => ?_⟩)
      · have e : cutA ds lo hi = ds := by
          unfold cutA
          rw [← r.len, hw.1, hw.2, r.len]
          simp
        rw [e] at h
        exact fin_v g (.tup s r) h
      · have e : Ext ph H ph (upd H t (.tup (cutV vs lo hi))) := Ext.fresh ht
        exact h ph (.ref t) _ e (g.fresh ht) (.tup (hide_of (g.new ht) upd_same) (dens_cut (r.mono e.sub) lo hi))
    · rw [d_str da]
      split at h
      · exact .inr (.inr ⟨_, rfl, by assumption, fin_v g (.str _) h⟩)
      · exact h.elim
    · exact h.elim
def eSl (c : Bool) (a : EM) (lo hi : PM) : EM := fun rho S => (a rho S).bind fun x => (lo rho x.2).bind fun l => (hi rho l.2).bind fun u => slG c x.1 l.1 u.1 u.2
theorem pd_sl (c : Bool) {lo hi : Option Expr} {ml mh : PM} {p2 : Pos} (ha : PD X W a ma) (hl : PDO X W lo ml) (hh : PDO X W hi mh) : PD X W (.Subscript a (.Slice lo hi none p2) pos) (eSl c ma ml mh) := by
  obtain ⟨ta, pa, sa⟩ := ha.ex
  obtain ⟨tl, pl, sl⟩ := hl.ex
  obtain ⟨tu, pu, su⟩ := hh.ex
  refine ⟨_, pe_slice sl_all pa pl pu, fun ph S H sg rho Q g so h => sa ph S H sg rho _ g so (holds_imp (holds_bind h) (fun x hx => ?_) fun _ _ _ q => q)⟩
  intro ph1 v1 H1 x1 g1 d1
  refine sl ph1 x.2 H1 sg rho _ g1 (so.mono x1) (holds_imp (holds_bind hx) (fun y hy => ?_) fun e r s q => W.mono _ _ _ _ e r s x1 q)
  intro ph2 H2 x2 g2
  refine su ph2 y.2 H2 sg rho _ g2 (so.mono (x1.trans x2)) (holds_imp (holds_bind hy) (fun z hz => ?_) fun e r s q => W.mono _ _ _ _ e r s (x1.trans x2) q)
  intro ph3 H3 x3 g3
  have x13 := x1.trans (x2.trans x3)
  exact sl_ok (W := W) g3 (d1.mono (x2.trans x3)) (holds_imp hz (fun c => post.mono x13 c) fun e r s q => W.mono _ _ _ _ e r s x13 q)

theorem pd_callB {x : Str} {p : Pos} {id : String} {es : List Expr} {m : AM} {r : List V → Hp → VK → Prop} {g : GA} (hc : CallR X (.builtin id) r) (hr : OpA X W r g) (hm : X.mg x = none) (hv : bootBuiltins x = some (.builtin id)) (ha : PDA X W (a :: es) m) (hg : Gl X x := by rfl)
    (hn : x ≠ "__name__" := by decide) (hdb : (x == ("__debug__" : Str)) = false := by decide)
    (he : starEach (a :: es) X.env = (false, eval a X.env) :: starEach es X.env := by rfl) (hpl : (backTo pos (starEach es X.env)).any (·.1) = false := by rfl) : PD X W (.Call (.Name x p) (a :: es) [] pos) (eA g m) := by
  obtain ⟨t, pa, sa⟩ := ha.ex
  exact ⟨_, pe_callB hc hg hm hv pa hn hdb he hpl, fun ph S H sg rho Q gd so h => sndA (r := r) sa hr ph S H sg rho Q gd so h⟩
theorem pd_callTy {x : Str} {p : Pos} {T : String} {es : List Expr} {m : AM} {r : List V → Hp → VK → Prop} {g : GA} (hc : CallR X (.type T) r) (hr : OpA X W r g) (hm : X.mg x = none) (hv : bootBuiltins x = some (.type T)) (ha : PDA X W (a :: es) m) (hg : Gl X x := by rfl)
    (hn : x ≠ "__name__" := by decide) (hdb : (x == ("__debug__" : Str)) = false := by decide)
    (he : starEach (a :: es) X.env = (false, eval a X.env) :: starEach es X.env := by rfl) (hpl : (backTo pos (starEach es X.env)).any (·.1) = false := by rfl) : PD X W (.Call (.Name x p) (a :: es) [] pos) (eA g m) := by
  obtain ⟨t, pa, sa⟩ := ha.ex
  exact ⟨_, pe_callTy hc hg hm hv pa hn hdb he hpl, fun ph S H sg rho Q gd so h => sndA (r := r) sa hr ph S H sg rho Q gd so h⟩
theorem one_of {K : PySem.W.Frag} {ph : List Addr} {H : Hp} {vs : List V} {x : SV} (h : DenSs K ph H vs [x]) : ∃ v, vs = [v] ∧ DenS K ph H v x := by
  cases h with
  | cons h t => cases t; exact ⟨_, rfl, h⟩
theorem two_of {K : PySem.W.Frag} {ph : List Addr} {H : Hp} {vs : List V} {x y : SV} (h : DenSs K ph H vs [x, y]) : ∃ v u, vs = [v, u] ∧ DenS K ph H v x ∧ DenS K ph H u y := by
  cases h with
  | cons h t =>
    obtain ⟨u, rfl, q⟩ := one_of t
    exact ⟨_, u, rfl, h, q⟩
def lenS (S : Store) (a : SV) : Option Nat := match rdS S a with
  | some xs => some xs.length
  | none => match a with
    | .fr (.tup ds) => some ds.length
    | .fr (.str z) => if z.length ≤ sizeLine then some z.length else none
    | _ => none
theorem lenS_ok {K : PySem.W.Frag} {ph : List Addr} {S : Store} {H : Hp} {v : V} {x : SV} {n : Nat} (g : Good K ph H S) (h : DenS K ph H v x) (e : lenS S x = some n) : LenV K v H n := by
  unfold lenS at e
  split at e
  · rename_i xs hx
    obtain ⟨p, vs, rfl, s, r⟩ := rdS_ok g h hx
    cases e
    exact .inl ⟨vs, s, r.length.symm⟩
  · split at e
    · obtain ⟨p, vs, rfl, s, r⟩ := d_tup h
      cases e
      exact .inr ⟨vs, hide_sub.sqT s, r.len.symm⟩
    · rw [d_str h]
      split at e
      · cases e; exact ⟨by assumption, rfl⟩
      · cases e
    · cases e
def lenG : GA := fun as S => match as with
  | [a] => match lenS S a with
    | some n => okV (.int n) S
    | none => .stuck
  | _ => .stuck
theorem len_ok : OpA X W (fun xs H Q => ∃ x n, xs = [x] ∧ LenV X.K x H n ∧ Q (.int n) H) lenG := by
  intro ph S H xs as Q g d h
  unfold lenG at h
  split at h
  · obtain ⟨v, rfl, dv⟩ := one_of d
    split at h
    · rename_i n hn
      exact ⟨v, n, rfl, lenS_ok g dv hn, fin_v g (.int _) h⟩
    · exact h.elim
  · exact h.elim
def absG : GA := fun as S => match as with
  | [.fr (.int i)] => okV (.int (if i < 0 then -i else i)) S
  | _ => .stuck
theorem abs_ok : OpA X W (fun xs H Q => ∃ i, xs = [.int i] ∧ Q (.int (if i < 0 then -i else i)) H) absG := by
  intro ph S H xs as Q g d h
  unfold absG at h
  split at h
  · obtain ⟨v, rfl, dv⟩ := one_of d
    rw [d_int dv]
    exact ⟨_, rfl, fin_v g (.int _) h⟩
  · exact h.elim
def intG : GA := fun as S => match as with
  | [.fr (.int i)] => okV (.int i) S
  | [.fr (.bl k)] => okV (.int (if k then 1 else 0)) S
  | _ => .stuck
theorem int_ok : OpA X W (fun xs H Q => (∃ i, xs = [.int i] ∧ Q (.int i) H) ∨ ∃ k, xs = [.bl k] ∧ Q (.int (if k then 1 else 0)) H) intG := by
  intro ph S H xs as Q g d h
  unfold intG at h
  split at h
  · obtain ⟨v, rfl, dv⟩ := one_of d
    rw [d_int dv]
    exact .inl ⟨_, rfl, fin_v g (.int _) h⟩
  · obtain ⟨v, rfl, dv⟩ := one_of d
    rw [d_bl dv]
    exact .inr ⟨_, rfl, fin_v g (.int _) h⟩
  · exact h.elim
def max2G : GA := fun as S => match as with
  | [.fr (.int i), .fr (.int j)] => okV (.int (if j > i then j else i)) S
  | _ => .stuck
def min2G : GA := fun as S => match as with
  | [.fr (.int i), .fr (.int j)] => okV (.int (if j < i then j else i)) S
  | _ => .stuck
end
end DL

namespace DL
open PySem PySem.Spec PyProof.Rows L2

inductive RV where
  | val (x : SV) | new (c : Cell)
abbrev FnM := List SV → Store → Res (RV × Store)
inductive Fl where
  | nx | bk | ct | rt (x : SV)
abbrev SM := Slots → Store → Res (Fl × Slots × Store)
def SV.below (n : Nat) : SV → Bool
  | .fr _ => true
  | .cell k => decide (k < n)
def Cell.below (n : Nat) : Cell → Bool
  | .lst xs => xs.all (SV.below n)
  | .ins _ fs => fs.all fun p => p.2.below n
  | .tup xs => xs.all (SV.below n)
  | .dic kvs => kvs.all fun p => p.2.below n
  | .dit kvs => kvs.all fun p => p.2.below n
  | .dil kvs => kvs.all fun p => p.2.below n
  | .dkl kvs => kvs.all fun p => p.2.below n
  | .err _ => true
theorem below_map (n : Nat) (ds : List D) : (ds.map SV.fr).all (SV.below n) = true := by
  simp [SV.below]
def frzC (S : Store) (n : Nat) : SV → Option D
  | .fr d => some d
  | .cell j => if n ≤ j then (match S[j]? with
    | some (.lst ys) => (allFr ys).map D.lst
    | _ => none) else none
def frzA (S : Store) (n : Nat) : List SV → Option (List D)
  | [] => some []
  | x :: xs => match frzC S n x, frzA S n xs with
    | some d, some ds => some (d :: ds)
    | _, _ => none
def leaveT (S : Store) (n : Nat) : Cell → Res (RV × Store)
  | .tup xs => match frzA S n xs with
    | some ds => .ok (.val (.fr (.tup ds)), S.take n)
    | none => .stuck
  | _ => .stuck
def leave (n : Nat) (x : SV) (S : Store) : Res (RV × Store) := if (S.take n).all (Cell.below n) then (match x with
  | .fr d => .ok (.val (.fr d), S.take n)
  | .cell k => if k < n then .ok (.val (.cell k), S.take n) else match S[k]? with
    | some c => if c.below n then .ok (.new c, S.take n) else leaveT S n c
    | none => .stuck) else .stuck
def leaveF (n : Nat) (r : Fl × Slots × Store) : Res (RV × Store) := match r.1 with
  | .nx => leave n (.fr .non) r.2.2
  | .rt x => leave n x r.2.2
  | _ => .stuck
def fnM (np n : Nat) (b : SM) : FnM := fun as S => if as.length = np then (b (as.map some ++ List.replicate (n - as.length) none) S).bind (leaveF S.length) else .stuck
section
variable {K : PySem.W.Frag} {ph ph' ph2 : List Addr} {H H' : Hp} {S : Store}
theorem sub_hide (h : ∀ a ∈ ph2, a ∈ ph') : Sub (hide ph' H) (hide ph2 H) := fun a o e => by
  obtain ⟨⟨h1, h2⟩, h3⟩ := hide_tb e
  exact hide_of (fun m => h1 (h a m)) h2 h3
theorem DenS.shrink {n : Nat} (h : ∀ a ∈ ph2, a ∈ ph') (hk : ∀ k, k < n → ph2[k]? = ph'[k]?) {v : V} {x : SV} (hb : x.below n = true) (d : DenS K ph' H v x) : DenS K ph2 H v x := by
  cases x with
  | fr d' => exact Den.mono (sub_hide h) d
  | cell k =>
    obtain ⟨p, h1, h2⟩ := d
    exact ⟨p, by rw [hk k (by simpa [SV.below] using hb)]; exact h1, h2⟩
theorem paired_all {α β : Type} {P Q : α → β → Prop} {f : β → Bool} (hi : ∀ a b, f b = true → P a b → Q a b) : ∀ {l : List α} {m : List β}, Paired P l m → m.all f = true → Paired Q l m
  | _, _, .nil, _ => .nil
  | _, _, .cons h t, e => by
    simp only [List.all_cons, Bool.and_eq_true] at e
    exact .cons (hi _ _ e.1 h) (paired_all hi t e.2)
theorem CellAt.shrink {n : Nat} (h : ∀ a ∈ ph2, a ∈ ph') (hk : ∀ k, k < n → ph2[k]? = ph'[k]?) {p : Addr} {c : Cell} (hb : c.below n = true) (d : CellAt K ph' H p c) : CellAt K ph2 H p c := by
  cases c with
  | lst xs =>
    obtain ⟨vs, h1, h2⟩ := d
    exact ⟨vs, h1, paired_all (f := SV.below n) (fun a b hb q => DenS.shrink h hk hb q) h2 (show xs.all (SV.below n) = true from hb)⟩
  | ins C fs =>
    obtain ⟨dx, vs, h1, h2⟩ := d
    exact ⟨dx, vs, h1, paired_all (f := fun p : Str × SV => p.2.below n) (fun a b hb q => ⟨q.1, DenS.shrink h hk hb q.2⟩) h2 (show (fs.all fun p => p.2.below n) = true from hb)⟩
  | tup xs =>
    obtain ⟨vs, h1, h2⟩ := d
    exact ⟨vs, h1, paired_all (f := SV.below n) (fun a b hb q => DenS.shrink h hk hb q) h2 (show xs.all (SV.below n) = true from hb)⟩
  | dic kvs =>
    obtain ⟨vs, h1, h2⟩ := d
    exact ⟨vs, h1, paired_all (f := fun p : Key × SV => p.2.below n) (fun a b hb q => ⟨q.1, DenS.shrink h hk hb q.2⟩) h2 (show (kvs.all fun p => p.2.below n) = true from hb)⟩
  | dit kvs =>
    obtain ⟨vs, h1, h2⟩ := d
    exact ⟨vs, h1, paired_all (f := fun p : List Key × SV => p.2.below n) (fun a b hb q => ⟨q.1, DenS.shrink h hk hb q.2⟩) h2 (show (kvs.all fun p => p.2.below n) = true from hb)⟩
  | dil kvs =>
    obtain ⟨od, vs, h1, h2⟩ := d
    exact ⟨od, vs, h1, paired_all (f := fun p : List Key × SV => p.2.below n) (fun a b hb q => ⟨q.1, DenS.shrink h hk hb q.2⟩) h2 (show (kvs.all fun p => p.2.below n) = true from hb)⟩
  | dkl kvs =>
    obtain ⟨od, vs, h1, h2⟩ := d
    exact ⟨od, vs, h1, paired_all (f := fun p : Key × SV => p.2.below n) (fun a b hb q => ⟨q.1, DenS.shrink h hk hb q.2⟩) h2 (show (kvs.all fun p => p.2.below n) = true from hb)⟩
  | err C =>
    obtain ⟨dx, fs, h1, h2⟩ := d
    exact ⟨dx, fs, h1, sub_hide h _ _ h2⟩
theorem paired_at {α β : Type} {P : α → β → Prop} : ∀ {l : List α} {m : List β} {k : Nat} {a : α} {b : β}, Paired P l m → l[k]? = some a → m[k]? = some b → P a b
  | _, _, _, _, _, .nil, e, _ => by simp at e
  | _, _, 0, _, _, .cons h t, e, e' => by simp at e e'; subst e; subst e'; exact h
  | _, _, k + 1, _, _, .cons h t, e, e' => paired_at (k := k) t (by simpa using e) (by simpa using e')
theorem Good.cut (g0 : Good K ph H S) (x : Ext ph H ph' H') {S' : Store} (g : Good K ph' H' S') (hb : (S'.take S.length).all (Cell.below S.length) = true) : Good K ph H' (S'.take S.length) := by
  obtain ⟨ps, rfl, hps⟩ := x.pre
  have hl := g0.len
  refine ⟨g0.nd, ?_, g.tb⟩
  have q := paired_take S.length g.cells
  rw [← hl] at q hb
  rw [List.take_left'  (by rw [hl])] at q
  rw [← hl]
  refine paired_all (f := Cell.below ph.length) (fun p c hc d => CellAt.shrink (n := ph.length) (fun a m => List.mem_append_left _ m) (fun k hk => ?_) hc d) q hb
  rw [List.getElem?_append_left hk]
theorem Ext.back (x : Ext ph H ph' H') : Ext ph H ph H' := ⟨⟨[], by simp, by simp⟩, x.keep, x.trk, x.frz⟩
def DenR (K : PySem.W.Frag) (ph : List Addr) (H0 H : Hp) (v : V) (S : Store) : RV → Prop
  | .val x => DenS K ph H v x
  | .new c => ∃ p, v = .ref p ∧ H0 p = none ∧ Good K (ph ++ [p]) H (S ++ [c])
def postF (K : PySem.W.Frag) (ph : List Addr) (H : Hp) (Q : VK) : RV × Store → Prop := fun r => ∀ v H', Ext ph H ph H' → Good K ph H' r.2 → DenR K ph H H' v r.2 r.1 → Q v H'
theorem frz_den {ps : List Addr} {S' : Store} (hn : ∀ p ∈ ps, p ∉ ph) (g : Good K (ph ++ ps) H' S') : ∀ {vs : List V} {xs : List SV} {ds : List D}, DenSs K (ph ++ ps) H' vs xs → frzA S' ph.length xs = some ds → Dens K (hide ph H') vs ds
  | _, _, ds, .nil, e => by
    simp only [frzA, Option.some.injEq] at e
    subst e
    exact .nil
  | v :: vs, x :: xs, ds, .cons h t, e => by
    unfold frzA at e
    split at e
    · rename_i d es h1 h2
      cases e
      refine .cons ?_ (frz_den hn g t h2)
      cases x with
      | fr d' =>
        simp only [frzC, Option.some.injEq] at h1
        subst h1
        exact Den.mono (sub_hide fun a m => List.mem_append_left _ m) h
      | cell j =>
        obtain ⟨p, hp, rfl⟩ := h
        have h1 : (if ph.length ≤ j then (match S'[j]? with | some (.lst ys) => (allFr ys).map D.lst | _ => none) else none) = some d := h1
        split at h1
        · rename_i hj
          split at h1
          · rename_i ys hys
            simp only [Option.map_eq_some_iff] at h1
            obtain ⟨zs, hz, rfl⟩ := h1
            have hm : p ∈ ps := by
              rw [List.getElem?_append_right hj] at hp
              exact List.mem_of_getElem? hp
            obtain ⟨ws, h4, h5⟩ := paired_at g.cells hp hys
            rw [allFr_eq hz] at h5
            exact .lst (hide_of (hn p hm) h4) (Dens.mono (sub_hide fun a m => List.mem_append_left _ m) (dens_of h5))
          · cases h1
        · cases h1
    · cases e
theorem leave_ok {Q : VK} {E : Exc → Slots → Store → Prop} (g0 : Good K ph H S) (x : Ext ph H ph' H') {S' : Store} (g : Good K ph' H' S') {v : V} {sv : SV} (d : DenS K ph' H' v sv) (h : holds (leave S.length sv S') (postF K ph H Q) E) : Q v H' := by
  unfold leave at h
  split at h
  · rename_i hb
    have gc := g0.cut x g hb
    obtain ⟨ps, rfl, hps⟩ := x.pre
    have hl := g0.len
    split at h
    · exact h v H' x.back gc (DenS.shrink (n := 0) (ph2 := ph) (fun a m => List.mem_append_left _ m) (fun k hk => by omega) rfl d)
    · obtain ⟨p, h1, rfl⟩ := d
      rename_i k
      split at h
      · rename_i hk
        refine h _ H' x.back gc ⟨p, ?_, rfl⟩
        rw [List.getElem?_append_left (by omega)] at h1
        exact h1
      · rename_i hk
        split at h
        · rename_i c hc
          split at h
          · rename_i hcb
            have hp : p ∈ ps := by
              rw [List.getElem?_append_right (by omega)] at h1
              exact List.mem_of_getElem? h1
            have hm : ∀ a ∈ ph ++ [p], a ∈ ph ++ ps := fun a m => by
              rcases List.mem_append.mp m with m | m
              · exact List.mem_append_left _ m
              · rw [List.mem_singleton.mp m]; exact List.mem_append_right _ hp
            have hn : p ∉ ph := fun m => by
              obtain ⟨o, e⟩ := g0.there m
              rw [hps p hp] at e; cases e
            have hix : ∀ j, j < S.length → (ph ++ [p])[j]? = (ph ++ ps)[j]? := fun j hj => by
              rw [List.getElem?_append_left (by omega), List.getElem?_append_left (by omega)]
            refine h _ H' x.back gc ⟨p, rfl, hps p hp, ⟨?_, ?_, g.tb⟩⟩
            · exact List.nodup_append.mpr ⟨g0.nd, by simp, fun a ha b hb' e => hn (by rw [← List.mem_singleton.mp hb', ← e]; exact ha)⟩
            · have q := paired_take S.length g.cells
              rw [List.take_left' hl] at q
              exact paired_snoc (paired_all (f := Cell.below S.length) (fun p' c' hc' d' => CellAt.shrink (n := S.length) hm hix hc' d') q hb) (CellAt.shrink (n := S.length) hm hix hcb (paired_at g.cells h1 hc))
          · unfold leaveT at h
            split at h
            · rename_i xs hxs
              split at h
              · rename_i ds hds
                have hp : ∀ q ∈ ps, q ∉ ph := fun q hq m => by
                  obtain ⟨o, e⟩ := g0.there m
                  rw [hps q hq] at e; cases e
                have hpm : p ∈ ps := by
                  rw [List.getElem?_append_right (by omega)] at h1
                  exact List.mem_of_getElem? h1
                obtain ⟨ws, h4, h5⟩ := paired_at g.cells h1 hc
                rw [← hl] at hds
                exact h _ H' x.back gc (Den.tup (vs := ws) (hide_of (hp p hpm) h4) (frz_den hp g h5 hds))
              · exact h.elim
            · exact h.elim
        · exact h.elim
  · exact h.elim
end

def postS (K : PySem.W.Frag) (ph : List Addr) (H : Hp) (Dn : Ends) : Fl × Slots × Store → Prop := fun r => ∀ ph' sg H', Ext ph H ph' H' → Good K ph' H' r.2.2 → SlotsOk K ph' H' sg r.2.1 → match r.1 with
  | .nx => Dn.nx sg H'
  | .bk => Dn.bk sg H'
  | .ct => Dn.ct sg H'
  | .rt x => ∀ v, DenS K ph' H' v x → Dn.rt v H'
theorem postS.mono {K : PySem.W.Frag} {ph ph' : List Addr} {H H' : Hp} {Dn : Ends} (e : Ext ph H ph' H') (r : Fl × Slots × Store) (h : postS K ph H Dn r) : postS K ph' H' Dn r := fun p s G a g d => h p s G (e.trans a) g d
abbrev SndS (X : Cx) (W : XW X.K) (t : TS) (m : SM) : Prop := ∀ (ph : List Addr) (S : Store) (H : Hp) (sg : L2.St) (rho : Slots) (Dn : Ends), Good X.K ph H S → SlotsOk X.K ph H sg rho →
    holds (m rho S) (postS X.K ph H Dn) (W.rel ph H) → t Dn sg H
structure PSD (X : Cx) (W : XW X.K) (st : Stmt) (m : SM) : Prop where
  ex : ∃ t, PS X st t ∧ SndS X W t m
structure PSDs (X : Cx) (W : XW X.K) (st : List Stmt) (m : SM) : Prop where
  ex : ∃ t, PSs X st t ∧ SndS X W t m

def ExD (K : PySem.W.Frag) (F : Hp) (e : Exc) (cls : Value) (d : Option Addr) : Prop := cls = .ref (He.ga K e.cls) ∧ ((d = none ∧ e.fs = []) ∨ (e.fs ≠ [] ∧ ∃ a vs, d = some a ∧ F a = some (.xd vs) ∧ DenF K F vs e.fs))
theorem ExD.mono {K : PySem.W.Frag} {F F' : Hp} (h : Sub F F') {e : Exc} {cls : Value} {d : Option Addr} (x : ExD K F e cls d) : ExD K F' e cls d :=
  ⟨x.1, x.2.imp id fun ⟨n, a, vs, q1, q2, q3⟩ => ⟨n, a, vs, q1, h _ _ q2, DenF.mono h q3⟩⟩
def XW.of (K : PySem.W.Frag) (Wq : L2.WX) : XW K := ⟨fun ph H e r S => ∀ ph' H' sg cls d, Ext ph H ph' H' → Good K ph' H' S → SlotsOk K ph' H' sg r → ExD K (hide ph' H') e cls d → Wq cls d sg H', fun _ _ _ _ _ _ _ x q ph' H' sg cls d y => q ph' H' sg cls d (x.trans y)⟩
def postX (K : PySem.W.Frag) (ph : List Addr) (H : Hp) (E : XK) : Exc → Slots → Store → Prop := fun e _ S => ∀ ph' H' cls d, Ext ph H ph' H' → Good K ph' H' S → ExD K (hide ph' H') e cls d → E cls d H'
abbrev XW.fn (K : PySem.W.Frag) (E : XK) : XW K := XW.of K fun cls d _ H => E cls d H
def spD (K : PySem.W.Frag) (m : FnM) : Sp := fun vs H Q E => ∃ ph S as, Good K ph H S ∧ DenSs K ph H vs as ∧ holds (m as S) (postF K ph H Q) (postX K ph H E)
def XW.none (K : PySem.W.Frag) : XW K := ⟨fun _ _ _ _ _ => False, fun _ _ _ _ _ _ _ _ h => h⟩
structure FnD (P : Program) (w : World) (K : PySem.W.Frag) (mg : Str → Option Value) (base : Heap) (k : Nat) (f : Addr) (fd : FuncData) (ps : List Str) (m : FnM) : Prop where
  len : ∀ vs H Q E, spD K m vs H Q E → vs.length = ps.length
  run : ∀ (A : Around) (outer : List Env) (s : Shared) (H : Hp) (args : Args) (us : List Value) (vs : List V) (Q : VK) (E : XK), A.guards = some [] → Room k A → Env0 P w K mg base A outer s H →
    BindsTo s fd args (ps.zip us) → Vals vs us → spD K m vs H Q E → codeAny (model P w) A (.call (.ref f) args) (CR (L2.CX P w) outer P w H s Q E) s
section
variable {P : Program} {w : World} {K : PySem.W.Frag} {mg : Str → Option Value} {base : Heap}
theorem spD_len {np n : Nat} {b : SM} {vs : List V} {H : Hp} {Q : VK} {E : XK} (h : spD K (fnM np n b) vs H Q E) : vs.length = np := by
  obtain ⟨ph, S, as, g, d, h⟩ := h
  unfold fnM at h
  split at h
  · rw [d.length]; assumption
  · exact h.elim
theorem fnD_of {k : Nat} {f : Addr} {name qual : Str} {params : Arguments} {body : List Stmt} {scope : Scope} {dV kV doc pm cdv ct oc : Value} {an od : Option Addr} {osl : Array (Option Value)} {N ps : List Str} {b : SM}
    (lk : K.lookup f = some ⟨oc, od, .func (PySem.W.fnOf name qual params body scope dV kV doc pm an cdv ct), osl⟩) (hcd : PySem.W.codeIn K cdv qual = true) (Sc : FnScope N ps scope)
    (hb : ∀ (A : Around) (outer : List Env) (s : Shared) (H : Hp) (E : XK), (A.deeper (envOfC qual scope s.heap.objs.size f cdv)).guards = some [] → Room k (A.deeper (envOfC qual scope s.heap.objs.size f cdv)) →
      PSDs (cxOf (L2.CX P w) P w K mg base N qual scope f cdv A outer s H E) (XW.fn K E) body b) :
    FnD P w K mg base (k + 1) f (PySem.W.fnOf name qual params body scope dV kV doc pm an cdv ct) ps (fnM ps.length N.length b) := by
  refine ⟨fun vs H Q E h => spD_len h, ?_⟩
  intro A outer s H args us vs Q E hgd hroom e0 hbind rv hsp
  have len0 : vs.length = ps.length := spD_len hsp
  have KX : K.In s.heap := e0.mod.kin.keeps fun b o e => (e0.bs b o e).1
  have lim : s.heap.NoLimit := e0.mod.nolimit.keeps fun b o e => (e0.bs b o e).1
  have kinds : ∀ y ∈ ps.zip us, scope.names.lookup y.1 = some .local ∨ (scope.names.lookup y.1 = some .cell ∧ ((cellsFrom (s.heap.objs.size + 1) scope.names []).lookup y.1).isSome = true) := by
    rintro ⟨n, v⟩ hy
    cases Sc.par n (List.of_mem_zip hy).1 with
    | inl q => exact .inl q
    | inr q => exact .inr ⟨q, PySem.W.cellsFrom_some _ _ _ (.inl q)⟩
  refine codeAny_call_function hroom.depth (KX _ _ lk) rfl Sc.co Sc.gen rfl (PySem.W.codeRec_of KX hcd) (hbind _ _ _ _ ?_)
  refine wpAny_newFunctionEnv_cells Sc.kind kinds fun env he s1 x => ?_
  subst he
  refine ⟨lim.keeps x.toInCall.keep, codeAny_func ?_⟩
  obtain ⟨t, ht, snd⟩ := (hb A outer s H E hgd (hroom.deeper _)).ex
  have I : Inv (cxOf (L2.CX P w) P w K mg base N qual scope f cdv A outer s H E) [] (L2.start N vs) H s1 := inv_start Sc hroom.hd e0 len0 rv x
  have done : ∀ {sg' : L2.St} {H' : Hp} {v : V} {u : Value} {s' : Shared}, Inv (cxOf (L2.CX P w) P w K mg base N qual scope f cdv A outer s H E) [] sg' H' s' → RelV v u → Q v H' → CE outer P w H s Q u s' := by
    intro sg' H' v u s' J rv q
    exact ⟨v, H', J.os, J.bare, J.base, J.hok, rv, q⟩
  have rd : t { nx := fun _ H' => Q .non H', rt := Q } (L2.start N vs) H := by
    obtain ⟨ph, S, as, g, d, hh⟩ := hsp
    have la : as.length = ps.length := by rw [← d.length]; exact len0
    unfold fnM at hh
    rw [if_pos la] at hh
    refine snd ph S H (L2.start N vs) _ _ g ⟨by simp [L2.start, d.length], fun i x hi => ?_⟩ (holds_imp (holds_bind hh) (fun r hr => ?_) fun _ _ _ q ph' H' _ cls d x' g' _ z => q ph' H' cls d x' g' z)
    · have hi' : (as.map some ++ List.replicate (N.length - as.length) none)[i]? = some (some x) := hi
      by_cases hlt : i < as.length
      · rw [List.getElem?_append_left (by simpa using hlt), List.getElem?_map] at hi'
        cases q : as[i]? with
        | none => rw [q] at hi'; cases hi'
        | some y =>
          rw [q] at hi'
          have e := Option.some.inj (Option.some.inj hi')
          subst e
          obtain ⟨v, h1, h2⟩ := paired_get d q
          refine ⟨v, ?_, h2⟩
          unfold L2.start
          rw [List.getElem?_append_left (by rw [List.length_map, d.length]; exact hlt), List.getElem?_map, h1]
          rfl
      · rw [List.getElem?_append_right (by simpa using hlt)] at hi'
        have := List.getElem?_replicate (n := N.length - as.length) (a := (none : Option SV)) (i := i - (as.map some).length)
        rw [this] at hi'
        split at hi' <;> cases hi'
    · intro ph' sg' H' x' g' so'
      obtain ⟨fl, rho', S'⟩ := r
      cases fl with
      | nx => exact leave_ok g x' g' (v := .non) (sv := .fr .non) Den.non hr
      | rt sv => exact fun v dv => leave_ok g x' g' dv hr
      | bk => exact hr.elim
      | ct => exact hr.elim
  refine wpAny_mono (ht.run [] s1 (L2.start N vs) H _ I rd) (fun fl s' hs => ?_) fun e s' hs => hs
  cases fl with
  | ret u =>
    obtain ⟨v, sg', H', J, rv, q⟩ := hs
    exact done J rv q
  | next =>
    obtain ⟨sg', H', J, q⟩ := hs
    exact done (v := V.non) (u := Value.none) J rfl q
  | brk => exact hs.choose_spec.choose_spec.2.elim
  | cont => exact hs.choose_spec.choose_spec.2.elim
structure CalD (P : Program) (w : World) (K : PySem.W.Frag) (mg : Str → Option Value) (base : Heap) (k : Nat) (x : Str) (m : FnM) : Prop where
  ex : ∃ f fd ps, mg x = some (.ref f) ∧ PySem.W.keepIn K (.ref f) = true ∧ Binds K fd ps [] ∧ FnD P w K mg base k f fd ps m
theorem calD_of {k : Nat} {x : Str} {st : Stmt} {f : Addr} {fd : FuncData} {N ps : List Str} {b : SM} (F : Fun K x x st f fd) (hm : mg x = some (.ref f)) (hbd : Binds K fd ps []) (Sc : FnScope N ps (defScope st))
    (hb : ∀ (cdv : Value) (A : Around) (outer : List Env) (s : Shared) (H : Hp) (E : XK), (A.deeper (envOfC x (defScope st) s.heap.objs.size f cdv)).guards = some [] → Room k (A.deeper (envOfC x (defScope st) s.heap.objs.size f cdv)) →
      PSDs (cxOf (L2.CX P w) P w K mg base N x (defScope st) f cdv A outer s H E) (XW.fn K E) (defBody st) b) : CalD P w K mg base (k + 1) x (fnM ps.length N.length b) := by
  obtain ⟨oc, od, kV, doc, pm, an, cdv, ct, osl, rfl, lk, hcd⟩ := F.ex
  exact ⟨f, _, ps, hm, F.kp, hbd, fnD_of lk hcd Sc fun A outer s H E => hb cdv A outer s H E⟩
end
def noX (r : Res (RV × Store)) : Res (RV × Store) := match r with
  | .exc _ _ _ => .stuck
  | x => x
def allFrK : List (Key × SV) → Option (List (Key × D))
  | [] => some []
  | (k, .fr d) :: r => (allFrK r).map ((k, d) :: ·)
  | _ => none
theorem denK_of {K : PySem.W.Frag} {ph : List Addr} {H : Hp} : ∀ {vs : List (Key × V)} {kvs : List (Key × SV)} {ds : List (Key × D)}, DenSK K ph H vs kvs → allFrK kvs = some ds → DenK K (hide ph H) vs ds
  | _, [], ds, .nil, e => by
    simp only [allFrK, Option.some.injEq] at e
    subst e
    exact .nil
  | (k', v) :: vs, (k, .fr d) :: r, ds, .cons h t, e => by
    simp only [allFrK, Option.map_eq_some_iff] at e
    obtain ⟨es, h1, rfl⟩ := e
    obtain ⟨h2, h3⟩ := h
    dsimp only at h2
    subst h2
    exact .cons h3 (denK_of t h1)
  | _ :: _, (k, .cell _) :: r, ds, .cons h t, e => by simp [allFrK] at e
def freeze : Cell → Option D
  | .lst xs => (allFr xs).map D.lst
  | .dic kvs => (allFrK kvs).map D.dct
  | .ins _ _ => none
  | .tup _ => none
  | .dit _ => none
  | .dil _ => none
  | .dkl _ => none
  | .err _ => none
def back (c : Bool) (r : RV × Store) : Res (SV × Store) := match r.1 with
  | .val x => .ok (x, r.2)
  | .new cl => if c then .ok (.cell r.2.length, r.2 ++ [cl]) else match freeze cl with
    | some d => .ok (.fr d, r.2)
    | none => .stuck
def eCall (f : FnM) (c : Bool) (m : AM) : EM := fun rho S => (m rho S).bind fun x => (noX (f x.1 x.2)).bind (back c)
section
variable {X : Cx} {W : XW X.K} {e : Expr} {es : List Expr} {pos p : Pos} {m : AM}
theorem back_ok {ph ph1 : List Addr} {H H1 : Hp} {Q : VK} {c : Bool} {r : RV × Store} {E : Exc → Slots → Store → Prop} (x1 : Ext ph H ph1 H1) (h : holds (back c r) (post X.K ph H Q) E) : postF X.K ph1 H1 Q r := by
  intro v H2 x2 g2 d2
  obtain ⟨rv, S2⟩ := r
  cases rv with
  | val x => exact h ph1 v H2 (x1.trans x2) g2 d2
  | new cl =>
    obtain ⟨q, rfl, hn, g3⟩ := d2
    have x3 : Ext ph1 H1 (ph1 ++ [q]) H2 := ⟨⟨[q], rfl, fun a ha => by rw [List.mem_singleton.mp ha]; exact hn⟩, x2.keep, x2.trk, x2.frz⟩
    unfold back at h
    dsimp only at h g2 g3
    cases c with
    | true => exact h (ph1 ++ [q]) (.ref q) H2 (x1.trans x3) g3 ⟨q, by rw [← g2.len]; simp, rfl⟩
    | false =>
      simp only [Bool.false_eq_true, if_false] at h
      split at h
      · rename_i d hd
        refine h ph1 (.ref q) H2 (x1.trans x2) g2 ?_
        have cq : CellAt X.K (ph1 ++ [q]) H2 q cl := paired_at (k := S2.length) g3.cells (by rw [← g2.len]; simp) (by simp)
        cases cl with
        | lst xs =>
          obtain ⟨vs, h4, h5⟩ := cq
          simp only [freeze, Option.map_eq_some_iff] at hd
          obtain ⟨ds, h6, rfl⟩ := hd
          rw [allFr_eq h6] at h5
          have hq : q ∉ ph1 := fun mm => by
            have := g3.nd
            rw [List.nodup_append] at this
            exact this.2.2 q mm q (by simp) rfl
          exact .lst (hide_of hq h4) (Dens.mono (sub_hide fun a ha => List.mem_append_left _ ha) (dens_of h5))
        | ins C fs => simp [freeze] at hd
        | tup xs => simp [freeze] at hd
        | dit xs => simp [freeze] at hd
        | dil xs => simp [freeze] at hd
        | dkl xs => simp [freeze] at hd
        | err C => simp [freeze] at hd
        | dic kvs =>
          simp only [freeze, Option.map_eq_some_iff] at hd
          obtain ⟨ds, h6, rfl⟩ := hd
          obtain ⟨vs, h4, h5⟩ := cq
          have hq : q ∉ ph1 := fun mm => by
            have := g3.nd
            rw [List.nodup_append] at this
            exact this.2.2 q mm q (by simp) rfl
          exact .dct (hide_of hq h4) (DenK.mono (sub_hide fun a ha => List.mem_append_left _ ha) (denK_of h5 h6))
      · exact h.elim
theorem noX_ok {r : Res (RV × Store)} {Q : RV × Store → Prop} {E E' : Exc → Slots → Store → Prop} (h : holds (noX r) Q E) : holds r Q E' := by
  cases r with
  | ok a => exact h
  | exc _ _ _ => exact h.elim
  | stuck => exact h
theorem pe_callD {k j : Nat} {x : Str} {f : FnM} {t : TA} (c : CalD X.prog X.w X.K X.mg X.base k x f) (hr : Room j X.A) (hk : k ≤ j) (hgd : X.A.guards = some []) (hg : Gl X x) (ha : PA X (e :: es) t)
    (hdb : (x == ("__debug__" : Str)) = false) (he : starEach (e :: es) X.env = (false, eval e X.env) :: starEach es X.env) (hpl : (backTo pos (starEach es X.env)).any (·.1) = false) :
    PE X (.Call (.Name x p) (e :: es) [] pos) (fun sg H Q => t sg H fun vs H1 => spD X.K f vs H1 Q E0) := by
  obtain ⟨g, fd, ps, hm, hkp, hbd, F⟩ := c.ex
  refine ⟨fun pins s sg H Q I h => wpAny_Call_Name_kw (ld_glob I hg hm ?_ hdb)⟩
  refine PySem.W.callWith_K (h₀ := X.base) I.ok.mod.kin hkp (thn (ha.run pos pins s sg H _ I h) fun us s1 ⟨vs, H1, I1, r, q⟩ => ⟨I1.kIn, ?_⟩) he hpl
  have hl : (us ++ []).length = ps.length := by rw [List.append_nil, ← r.length]; exact F.len _ _ _ _ q
  have bt := hbd s1 us I1.kIn hl
  rw [List.append_nil] at bt
  refine wpAny_call (codeAny_mono (F.run X.A X.stack s1 H1 ⟨us, []⟩ us vs Q E0 hgd (hr.mono hk) I1.env0 bt r q) fun r s' hq => ?_)
  cases r with
  | error e => exact passL pins sg H1 s1 e s' I1 hq
  | ok fl =>
    cases fl with
    | ret u => exact I1.after hq
    | next => exact False.elim hq
    | brk => exact False.elim hq
    | cont => exact False.elim hq
theorem pd_call {k j : Nat} {x : Str} {f : FnM} (cc : Bool) (c : CalD X.prog X.w X.K X.mg X.base k x f) (hr : Room j X.A) (hk : k ≤ j) (hgd : X.A.guards = some []) (ha : PDA X W (e :: es) m) (hg : Gl X x := by rfl)
    (hdb : (x == ("__debug__" : Str)) = false := by decide) (he : starEach (e :: es) X.env = (false, eval e X.env) :: starEach es X.env := by rfl) (hpl : (backTo pos (starEach es X.env)).any (·.1) = false := by rfl) : PD X W (.Call (.Name x p) (e :: es) [] pos) (eCall f cc m) := by
  obtain ⟨t, pa, sa⟩ := ha.ex
  refine ⟨_, pe_callD c hr hk hgd hg pa hdb he hpl, fun ph S H sg rho Q gd so h => sa ph S H sg rho _ gd so (holds_imp (holds_bind h) (fun y hy => ?_) fun _ _ _ q => q)⟩
  intro ph1 vs H1 x1 g1 d1
  exact ⟨ph1, y.2, y.1, g1, d1, noX_ok (holds_imp (holds_bind hy) (fun r hr => back_ok x1 hr) fun _ _ _ q => q)⟩
end
end DL

namespace DL
open PySem PySem.Spec PyProof.Rows L2

section
variable {X : Cx} {W : XW X.K} {a b c : Expr} {ma mb mc : EM} {pos : Pos}
def sNx : SM := fun rho S => .ok (.nx, rho, S)
def sSeq (m n : SM) : SM := fun rho S => (m rho S).bind fun r => match r.1 with
  | .nx => n r.2.1 r.2.2
  | f => .ok (f, r.2.1, r.2.2)
theorem pss_n : PSDs X W [] sNx := ⟨_, pss_nil, fun ph S H sg rho Dn g so h => h ph sg H (Ext.refl _ _) g so⟩
theorem pss_c {st : Stmt} {rest : List Stmt} {m n : SM} (h1 : PSD X W st m) (h2 : PSDs X W rest n) : PSDs X W (st :: rest) (sSeq m n) := by
  obtain ⟨t, p, s⟩ := h1.ex
  obtain ⟨t2, p2, s2⟩ := h2.ex
  refine ⟨_, pss_cons p p2, fun ph S H sg rho Dn g so h => s ph S H sg rho _ g so (holds_imp (holds_bind h) (fun r hr => ?_) fun _ _ _ q => q)⟩
  intro ph1 sg1 H1 x1 g1 so1
  obtain ⟨fl, rho1, S1⟩ := r
  cases fl with
  | nx => exact s2 ph1 S1 H1 sg1 rho1 Dn g1 so1 (holds_imp hr (fun c => postS.mono x1 c) fun e r s q => W.mono _ _ _ _ e r s x1 q)
  | bk => exact hr ph1 sg1 H1 x1 g1 so1
  | ct => exact hr ph1 sg1 H1 x1 g1 so1
  | rt x => exact hr ph1 sg1 H1 x1 g1 so1
theorem pss_1 {st : Stmt} {m : SM} (h1 : PSD X W st m) : PSDs X W [st] m := by
  obtain ⟨t, p, s⟩ := h1.ex
  exact ⟨t, pss_one p, s⟩
def sBk : SM := fun rho S => .ok (.bk, rho, S)
def sCt : SM := fun rho S => .ok (.ct, rho, S)
def sRet (m : EM) : SM := fun rho S => (m rho S).bind fun x => .ok (.rt x.1, rho, x.2)
theorem psd_ret (ha : PD X W a ma) : PSD X W (.Return (some a) pos) (sRet ma) := by
  obtain ⟨ta, pa, sa⟩ := ha.ex
  refine ⟨_, ps_ret pa, fun ph S H sg rho Dn g so h => sa ph S H sg rho _ g so (holds_imp (holds_bind h) (fun x hx => ?_) fun _ _ _ q => q)⟩
  exact fun ph1 v1 H1 x1 g1 d1 => hx ph1 sg H1 x1 g1 (so.mono x1) v1 d1
def sRetN : SM := fun rho S => .ok (.rt (.fr .non), rho, S)
def sIf (t : TM) (m n : SM) : SM := fun rho S => (t rho S).bind fun x => if x.1 then m rho x.2 else n rho x.2
theorem psd_if {l1 l2 : List Stmt} {m : TM} {m1 m2 : SM} (ht : PDT X W c m) (h1 : PSDs X W l1 m1) (h2 : PSDs X W l2 m2) : PSD X W (.If c l1 l2 pos) (sIf m m1 m2) := by
  obtain ⟨t, p, s⟩ := ht.ex
  obtain ⟨t1, p1, s1⟩ := h1.ex
  obtain ⟨t2, p2, s2⟩ := h2.ex
  refine ⟨_, ps_if p p1 p2, fun ph S H sg rho Dn g so h => s ph S H sg rho _ g so (holds_imp (holds_bind h) (fun x hx => ?_) fun _ _ _ q => q)⟩
  intro ph1 H1 x1 g1
  obtain ⟨k, S1⟩ := x
  have up : ∀ {r : Res (Fl × Slots × Store)}, holds r (postS X.K ph H Dn) (W.rel ph H) → holds r (postS X.K ph1 H1 Dn) (W.rel ph1 H1) := fun q => holds_imp q (fun c => postS.mono x1 c) fun e r s q => W.mono _ _ _ _ e r s x1 q
  cases k with
  | true => exact s1 ph1 S1 H1 sg rho Dn g1 (so.mono x1) (up hx)
  | false => exact s2 ph1 S1 H1 sg rho Dn g1 (so.mono x1) (up hx)
def sEx (m : EM) : SM := fun rho S => (m rho S).bind fun x => .ok (.nx, rho, x.2)
theorem psd_expr (ha : PD X W a ma) (hs : swapsWith a none pos.line X.env = pure false := by rfl) : PSD X W (.Expr a pos) (sEx ma) := by
  obtain ⟨ta, pa, sa⟩ := ha.ex
  refine ⟨_, ps_expr pa hs, fun ph S H sg rho Dn g so h => sa ph S H sg rho _ g so (holds_imp (holds_bind h) (fun x hx => ?_) fun _ _ _ q => q)⟩
  exact fun ph1 v1 H1 x1 g1 d1 => hx ph1 sg H1 x1 g1 (so.mono x1)

abbrev GM := SV → Slots → Store → Res (Slots × Store)
abbrev GMs := List SV → Slots → Store → Res (Slots × Store)
def Out (is : List Nat) (sg sg' : L2.St) : Prop := sg'.length = sg.length ∧ ∀ i, i ∉ is → sg'[i]? = sg[i]?
def postG (K : PySem.W.Frag) (ph : List Addr) (H : Hp) (is : List Nat) (sg : L2.St) (Q : L2.St → Hp → Prop) : Slots × Store → Prop := fun r =>
  ∀ ph' sg' H', Ext ph H ph' H' → Good K ph' H' r.2 → SlotsOk K ph' H' sg' r.1 → Out is sg sg' → Q sg' H'
structure PGD (X : Cx) (W : XW X.K) (is : List Nat) (tg : Expr) (m : GM) : Prop where
  ex : ∃ t, PG X tg t ∧ ∀ (ph : List Addr) (S : Store) (H : Hp) (sg : L2.St) (rho : Slots) (v : V) (x : SV) (Q : L2.St → Hp → Prop), Good X.K ph H S → SlotsOk X.K ph H sg rho → DenS X.K ph H v x →
    holds (m x rho S) (postG X.K ph H is sg Q) (W.rel ph H) → t v sg H Q
structure PGDs (X : Cx) (W : XW X.K) (is : List Nat) (tg : List Expr) (m : GMs) : Prop where
  ex : ∃ t, PGs X tg t ∧ ∀ (ph : List Addr) (S : Store) (H : Hp) (sg : L2.St) (rho : Slots) (vs : List V) (xs : List SV) (Q : L2.St → Hp → Prop), Good X.K ph H S → SlotsOk X.K ph H sg rho → DenSs X.K ph H vs xs →
    holds (m xs rho S) (postG X.K ph H is sg Q) (W.rel ph H) → t vs sg H Q
def gNm (i : Nat) : GM := fun x rho S => .ok (rho.set i (some x), S)
theorem out_set (sg : L2.St) (i : Nat) (v : Option V) : Out [i] sg (sg.set i v) := ⟨by simp, fun j hj => List.getElem?_set_ne (fun e => hj (by simp [e]))⟩
theorem Out.trans {is js : List Nat} {s1 s2 s3 : L2.St} (a : Out is s1 s2) (b : Out js s2 s3) : Out (is ++ js) s1 s3 :=
  ⟨b.1.trans a.1, fun i hi => (b.2 i (fun h => hi (List.mem_append_right _ h))).trans (a.2 i (fun h => hi (List.mem_append_left _ h)))⟩
theorem pgd_name {i : Nat} {x : Str} (hN : X.N.Nodup) (hi : X.N[i]? = some x := by rfl) (hx : Loc X.env.scope x := by first | exact Or.inl rfl | exact Or.inr rfl) (hf : X.fn x = true ∨ X.env.scope.names.lookup x = some .local := by first | exact .inl rfl | exact .inr rfl) : PGD X W [i] (.Name x pos) (gNm i) := by
  refine ⟨_, pg_name hN hi hx hf, fun ph S H sg rho v x Q g so d h => ?_⟩
  exact h ph _ H (Ext.refl _ _) g (so.set i d) (out_set _ _ _)
def gNl : GMs := fun xs rho S => match xs with
  | [] => .ok (rho, S)
  | _ => .stuck
def gCs (m : GM) (n : GMs) : GMs := fun xs rho S => match xs with
  | x :: r => (m x rho S).bind fun q => n r q.1 q.2
  | [] => .stuck
theorem pgds_nil : PGDs X W [] [] gNl := by
  refine ⟨_, pgs_nil, fun ph S H sg rho vs xs Q g so d h => ?_⟩
  cases d with
  | nil => exact ⟨rfl, h ph sg H (Ext.refl _ _) g so ⟨rfl, fun _ _ => rfl⟩⟩
  | cons _ _ => exact h.elim
theorem pgds_cons {is js : List Nat} {e : Expr} {es : List Expr} {m : GM} {n : GMs} (h1 : PGD X W is e m) (h2 : PGDs X W js es n) (hs : (assignEach (e :: es) X.env).map (·.2) = assign e X.env :: (assignEach es X.env).map (·.2) := by rfl) : PGDs X W (is ++ js) (e :: es) (gCs m n) := by
  obtain ⟨t, p, s⟩ := h1.ex
  obtain ⟨t2, p2, s2⟩ := h2.ex
  refine ⟨_, pgs_cons p p2 hs, fun ph S H sg rho vs xs Q g so d h => ?_⟩
  cases d with
  | nil => exact h.elim
  | cons d1 d2 =>
    refine ⟨_, _, rfl, s ph S H sg rho _ _ _ g so d1 (holds_imp (holds_bind h) (fun r hr => ?_) fun _ _ _ q => q)⟩
    intro ph1 sg1 H1 x1 g1 so1 o1
    refine s2 ph1 r.2 H1 sg1 r.1 _ _ Q g1 so1 (DenSs.mono x1 d2) (holds_imp hr (fun c hc => ?_) fun e r s q => W.mono _ _ _ _ e r s x1 q)
    exact fun ph2 sg2 H2 x2 g2 so2 o2 => hc ph2 sg2 H2 (x1.trans x2) g2 so2 (o1.trans o2)
def gTu (n : Nat) (m : GMs) : GM := fun x rho S => match x with
  | .fr (.tup ds) => if ds.length = n then m (ds.map SV.fr) rho S else .stuck
  | _ => .stuck
theorem pgd_tup {is : List Nat} {es : List Expr} {k n : Nat} {m : GMs} (hc : X.calm = true) (h : PGDs X W is es m) (hn : (assignEach es X.env).length = n := by rfl) (hst : (assignEach es X.env).findIdx? (·.1) = none := by rfl) : PGD X W is (.Tuple es k pos) (gTu n m) := by
  obtain ⟨t, p, s⟩ := h.ex
  refine ⟨_, pg_tup hc p hn hst, fun ph S H sg rho v x Q g so d h => ?_⟩
  unfold gTu at h
  split at h
  · split at h
    · rename_i hl
      obtain ⟨q, vs, rfl, sq, r⟩ := d_tup d
      exact ⟨q, vs, rfl, hide_sub.sqT sq, by rw [r.len]; exact hl, s ph S H sg rho _ _ Q g so (of_dens r) h⟩
    · exact h.elim
  · exact h.elim
theorem paired_set2 {α β : Type} {P : α → β → Prop} {x : α} {y : β} : ∀ {l : List α} {m : List β} (n : Nat), Paired P l m → P x y → Paired P (l.set n x) (m.set n y)
  | _, _, _, .nil, _ => .nil
  | _, _, 0, .cons _ t, q => .cons q t
  | _, _, n + 1, .cons h t, q => .cons h (paired_set2 n t q)
def setL (o i v : SV) (S : Store) : Res Store := match o, i with
  | .cell k, .fr (.int j) => match S[k]? with
    | some (.lst xs) => match ixN xs.length j with
      | some n => .ok (S.set k (.lst (xs.set n v)))
      | none => .stuck
    | _ => .stuck
  | _, _ => .stuck
theorem setL_ok {ph : List Addr} {S : Store} {H : Hp} {o i v : V} {so si sv : SV} {Q : Hp → Prop} {E : Exc → Slots → Store → Prop} (g : Good X.K ph H S) (d1 : DenS X.K ph H o so) (d2 : DenS X.K ph H i si) (d3 : DenS X.K ph H v sv)
    (h : holds (setL so si sv S) (fun S' => ∀ ph' H', Ext ph H ph' H' → Good X.K ph' H' S' → Q H') E) : rSetL o i v H Q := by
  unfold setL at h
  split at h
  · rename_i k j
    split at h
    · rename_i xs hk
      split at h
      · rename_i n hn
        obtain ⟨p, h1, rfl⟩ := d1
        obtain ⟨q, h3, vs, h4, h5⟩ := g.at hk
        rw [h1] at h3; cases h3
        rw [d_int d2]
        refine ⟨p, vs, j, n, rfl, rfl, h4, by rw [h5.length]; exact hn, ?_⟩
        have hm : p ∈ ph := List.mem_of_getElem? h1
        have e : Ext ph H ph (upd H p (.lst (vs.set n v))) := Ext.write hm (nofrz h4 fun _ _ z => nomatch z)
        refine h ph _ e (g.write h1 ⟨_, upd_same, ?_⟩)
        exact paired_set2 n (DenSs.mono e h5) (d3.mono e)
      · exact h.elim
    · exact h.elim
  · exact h.elim
def gSb (mo mi : EM) : GM := fun x rho S => (mo rho S).bind fun o => (mi rho o.2).bind fun i => (setL o.1 i.1 x i.2).bind fun S' => .ok (rho, S')
theorem pgd_sub (ha : PD X W a ma) (hb : PD X W b mb) (hass : ∀ v, assign (.Subscript a b pos) X.env v = (do
      let ov ← holding [v] (eval a X.env)
      let iv ← holding [v, ov] (eval b X.env)
      standAt pos
      holding [v, ov, iv] (setItem ov iv v)
      release [v, ov, iv] []) := by intro _; rfl) : PGD X W [] (.Subscript a b pos) (gSb ma mb) := by
  obtain ⟨ta, pa, sa⟩ := ha.ex
  obtain ⟨tb, pb, sb⟩ := hb.ex
  refine ⟨_, pg_sub pa pb set_list hass, fun ph S H sg rho v x Q g so d h => sa ph S H sg rho _ g so (holds_imp (holds_bind h) (fun o ho => ?_) fun _ _ _ q => q)⟩
  intro ph1 v1 H1 x1 g1 d1
  refine sb ph1 o.2 H1 sg rho _ g1 (so.mono x1) (holds_imp (holds_bind ho) (fun i hi => ?_) fun e r s q => W.mono _ _ _ _ e r s x1 q)
  intro ph2 v2 H2 x2 g2 d2
  refine setL_ok g2 (d1.mono x2) d2 (d.mono (x1.trans x2)) (holds_imp (holds_bind hi) (fun S3 h3 => ?_) fun e r s q => q)
  intro ph3 H3 x3 g3
  have x13 := x1.trans (x2.trans x3)
  exact h3 ph3 sg H3 x13 g3 (so.mono x13) ⟨rfl, fun _ _ => rfl⟩
def sAs (m : EM) (g : GM) : SM := fun rho S => (m rho S).bind fun x => (g x.1 rho x.2).bind fun r => .ok (.nx, r.1, r.2)
theorem psd_asg {is : List Nat} {tg : Expr} {g : GM} (ha : PD X W a ma) (hg : PGD X W is tg g) (hs : swapsWithSole [tg] a pos.line X.env = pure false := by rfl) (hw : swappedStores [tg] a X.env = pure none := by rfl)
    (h1 : (assignEach [tg] X.env).map (·.2) = [assign tg X.env] := by rfl) : PSD X W (.Assign [tg] a pos) (sAs ma g) := by
  obtain ⟨ta, pa, sa⟩ := ha.ex
  obtain ⟨tt, pt, st⟩ := hg.ex
  refine ⟨_, ps_asg pa pt hs hw h1, fun ph S H sg rho Dn gd so h => sa ph S H sg rho _ gd so (holds_imp (holds_bind h) (fun x hx => ?_) fun _ _ _ q => q)⟩
  intro ph1 v1 H1 x1 g1 d1
  refine st ph1 x.2 H1 sg rho v1 x.1 _ g1 (so.mono x1) d1 (holds_imp (holds_bind hx) (fun r hr => ?_) fun e r s q => W.mono _ _ _ _ e r s x1 q)
  exact fun ph2 sg2 H2 x2 g2 so2 _ => hr ph2 sg2 H2 (x1.trans x2) g2 so2
def sSet (i : Nat) (m : EM) : SM := fun rho S => (m rho S).bind fun x => .ok (.nx, rho.set i (some x.1), x.2)
theorem psd_set {i : Nat} {x : Str} {pos' : Pos} (hN : X.N.Nodup) (ha : PD X W a ma) (hi : X.N[i]? = some x := by rfl) (hx : Loc X.env.scope x := by first | exact Or.inl rfl | exact Or.inr rfl)
    (hs : swapsWith a (some (.Name x pos')) pos.line X.env = pure false := by rfl) (hf : X.fn x = true ∨ X.env.scope.names.lookup x = some .local := by first | exact .inl rfl | exact .inr rfl) : PSD X W (.Assign [.Name x pos'] a pos) (sSet i ma) := by
  obtain ⟨ta, pa, sa⟩ := ha.ex
  refine ⟨_, ps_set hN hi hx pa hs hf, fun ph S H sg rho Dn g so h => sa ph S H sg rho _ g so (holds_imp (holds_bind h) (fun x hx => ?_) fun _ _ _ q => q)⟩
  exact fun ph1 v1 H1 x1 g1 d1 => hx ph1 _ H1 x1 g1 ((so.mono x1).set i d1)
def sPar (i j : Nat) (m : AM) : SM := fun rho S => (m rho S).bind fun x => match x.1 with
  | [u, v] => .ok (.nx, (rho.set i (some u)).set j (some v), x.2)
  | _ => .stuck
theorem psd_par {i j : Nat} {x y : Str} {m : AM} {px py pt : Pos} {kt k2 : Nat} {pt2 : Pos} (hc : X.calm = true) (hN : X.N.Nodup) (ha : PDA X W [a, b] m) (hi : X.N[i]? = some x := by rfl) (hj : X.N[j]? = some y := by rfl) (hij : i ≠ j := by decide)
    (hx : X.env.scope.names.lookup x = some .local := by rfl) (hy : X.env.scope.names.lookup y = some .local := by rfl) (hw : swappedStores [.Tuple [.Name x px, .Name y py] kt pt] (.Tuple [a, b] k2 pt2) X.env = pure (some [x, y]) := by rfl)
    (hs : swapsWithSole [.Tuple [.Name x px, .Name y py] kt pt] (.Tuple [a, b] k2 pt2) pos.line X.env = pure false := by rfl) : PSD X W (.Assign [.Tuple [.Name x px, .Name y py] kt pt] (.Tuple [a, b] k2 pt2) pos) (sPar i j m) := by
  obtain ⟨t, p, s⟩ := ha.ex
  refine ⟨_, ps_par hc hN hi hj hij hx hy p hw hs, fun ph S H sg rho Dn g so h => s ph S H sg rho _ g so (holds_imp (holds_bind h) (fun z hz => ?_) fun _ _ _ q => q)⟩
  intro ph1 vs H1 x1 g1 d1
  obtain ⟨xs, S1⟩ := z
  dsimp only at *
  split at hz
  · obtain ⟨v, u, rfl, dv, du⟩ := two_of d1
    exact ⟨v, u, rfl, hz ph1 _ H1 x1 g1 (((so.mono x1).set i dv).set j du)⟩
  · exact hz.elim
def addI (x y : SV) : Option SV := match x, y with
  | .fr (.int i), .fr (.int j) => some (.fr (.int (i + j)))
  | _, _ => none
def getL (o i : SV) (S : Store) : Option SV := match i with
  | .fr (.int j) => if 0 ≤ j then match rdS S o with
    | some xs => atI xs j
    | none => none else none
  | _ => none
def sAugS (mo mi me : EM) : SM := fun rho S => (mo rho S).bind fun o => (mi rho o.2).bind fun i => match getL o.1 i.1 i.2 with
  | some old => (me rho i.2).bind fun y => match addI old y.1 with
    | some z => (setL o.1 i.1 z y.2).bind fun S' => .ok (.nx, rho, S')
    | none => .stuck
  | none => .stuck
def rIx0 (K : PySem.W.Frag) : V → V → Hp → VK → Prop := fun x y H Q => ∃ p xs i v, x = .ref p ∧ y = .int i ∧ 0 ≤ i ∧ SqL K H p xs ∧ atI xs i = some v ∧ Q v H
theorem pget_list : PGet X (rIx0 X.K) := by
  intro pins s sg H o i ov iv Q I r1 r2 h
  obtain ⟨p, xs, k, v, rfl, rfl, h0, hq, hv, q⟩ := h
  cases r1
  obtain ⟨t, rfl⟩ := r2
  obtain ⟨its, rv, pl, hz⟩ := I.list hq
  obtain ⟨j, hj, hx, hlt, hlo, hhi⟩ := atI_get hv
  obtain ⟨u, hu, ru⟩ := rv.get hx
  have hs : sizeLine = 16777216 := sizeLine_eq
  have hjk : k.toNat = j := by
    rw [seqIndex_of h0 hhi] at hj
    exact Option.some.inj hj
  exact wpAny_getItem_list (k := k) pl.isList h0 (by omega) (by rw [hjk]; simpa using hu) ⟨v, H, I, ru, q⟩
theorem ip_add2 : PIp X .Add (ipI fun i j => i + j) := ip_add
theorem psd_augS {oe ie ve : Expr} {mo mi me : EM} {tpos : Pos} (ho : PD X W oe mo) (hi : PD X W ie mi) (he : PD X W ve me)
    (ha : ∀ ov iv new, augStore ie ov iv new = (do holding [new, ov, iv] (setItem ov iv new); release [new, ov, iv] []; pure .next) := by intros; rfl) : PSD X W (.AugAssign (.Subscript oe ie tpos) .Add ve pos) (sAugS mo mi me) := by
  obtain ⟨to, po, so'⟩ := ho.ex
  obtain ⟨ti, pi, si⟩ := hi.ex
  obtain ⟨te, pe, se⟩ := he.ex
  refine ⟨_, ps_augS po pi pget_list pe ip_add2 set_list ha, fun ph S H sg rho Dn g so h => so' ph S H sg rho _ g so (holds_imp (holds_bind h) (fun o hx => ?_) fun _ _ _ q => q)⟩
  intro ph1 v1 H1 x1 g1 d1
  refine si ph1 o.2 H1 sg rho _ g1 (so.mono x1) (holds_imp (holds_bind hx) (fun i hy => ?_) fun e r s q => W.mono _ _ _ _ e r s x1 q)
  intro ph2 v2 H2 x2 g2 d2
  have d12 := d1.mono x2
  obtain ⟨iv, S2⟩ := i
  dsimp only at hy g2 d2
  split at hy
  · rename_i old hold
    unfold getL at hold
    split at hold
    · rename_i j
      split at hold
      · rename_i hj0
        split at hold
        · rename_i xs hxs
          obtain ⟨p, vs, e1, s1, r1⟩ := rdS_ok g2 d12 hxs
          subst e1
          obtain ⟨w', hw', dw⟩ := atI_pair r1 hold
          refine ⟨p, vs, j, w', rfl, d_int d2, hj0, s1, hw', ?_⟩
          refine se ph2 S2 H2 sg rho _ g2 (so.mono (x1.trans x2)) (holds_imp (holds_bind hy) (fun y hz => ?_) fun e r s q => W.mono _ _ _ _ e r s (x1.trans x2) q)
          intro ph3 v3 H3 x3 g3 d3
          obtain ⟨yv, S3⟩ := y
          dsimp only at hz g3 d3
          split at hz
          · rename_i z hzz
            unfold addI at hzz
            split at hzz
            · rename_i n1 n2
              cases hzz
              refine ⟨n1, n2, d_int dw, d_int d3, ?_⟩
              refine setL_ok g3 (d12.mono x3) (d2.mono x3) (sv := .fr (.int (n1 + n2))) (Den.int (n1 + n2)) (holds_imp (holds_bind hz) (fun S4 h4 => ?_) fun e r s q => q)
              intro ph4 H4 x4 g4
              have x14 := x1.trans (x2.trans (x3.trans x4))
              exact h4 ph4 sg H4 x14 g4 (so.mono x14)
            · cases hzz
          · exact hz.elim
        · cases hold
      · cases hold
    · cases hold
  · exact hy.elim
end
end DL

namespace DL
open PySem PySem.Spec PyProof.Rows L2

structure Wk where
  xs : List SV
  lk : Store → Prop
abbrev IM := Slots → Store → Res (Wk × Store)
structure WalkOk (K : PySem.W.Frag) (ph : List Addr) (H : Hp) (J : It) (w : Wk) : Prop where
  go : ∀ (i : Nat) (x : SV) (ph' : List Addr) (H' : Hp) (S' : Store), w.xs[i]? = some x → Ext ph H ph' H' → Good K ph' H' S' → w.lk S' → J.go i H'
  yld : ∀ (i : Nat) (x : SV) (ph' : List Addr) (H' : Hp) (S' : Store) (v : V) (H2 : Hp), w.xs[i]? = some x → Ext ph H ph' H' → Good K ph' H' S' → w.lk S' → J.yld i H' v H2 → Ext ph' H' ph' H2 ∧ Good K ph' H2 S' ∧ DenS K ph' H2 v x
  stop : ∀ (i : Nat) (ph' : List Addr) (H' : Hp) (S' : Store), w.xs.length ≤ i → Ext ph H ph' H' → Good K ph' H' S' → w.lk S' → J.stop i H'
def postI (K : PySem.W.Frag) (ph : List Addr) (H : Hp) (R : It → Hp → Prop) : Wk × Store → Prop := fun r => ∀ ph' H' J, Ext ph H ph' H' → Good K ph' H' r.2 → WalkOk K ph' H' J r.1 → R J H'
structure PID (X : Cx) (W : XW X.K) (tg iter : Expr) (m : IM) : Prop where
  ex : ∃ t, PI X tg iter t ∧ ∀ (ph : List Addr) (S : Store) (H : Hp) (sg : L2.St) (rho : Slots) (R : It → Hp → Prop), Good X.K ph H S → SlotsOk X.K ph H sg rho →
    holds (m rho S) (postI X.K ph H R) (W.rel ph H) → t sg H R
theorem WalkOk.mono {K : PySem.W.Frag} {ph ph2 : List Addr} {H H2 : Hp} {J : It} {w : Wk} (e : Ext ph H ph2 H2) (h : WalkOk K ph H J w) : WalkOk K ph2 H2 J w :=
  ⟨fun i x p G S a b => h.go i x p G S a (e.trans b), fun i x p G S v G2 a b => h.yld i x p G S v G2 a (e.trans b), fun i p G S a b => h.stop i p G S a (e.trans b)⟩
def iSeq (m : EM) : IM := fun rho S => (m rho S).bind fun x => match x.1 with
  | .fr (.tup _) => .stuck
  | .fr _ => match rdS x.2 x.1 with
    | some xs => .ok (⟨xs, fun _ => True⟩, x.2)
    | none => .stuck
  | .cell k => match rdL x.2 (.cell k) with
    | some xs => .ok (⟨xs, fun S' => S'[k]? = some (.lst xs)⟩, x.2)
    | none => .stuck
def iTp (m : EM) : IM := fun rho S => (m rho S).bind fun x => match x.1 with
  | .fr (.tup ds) => .ok (⟨ds.map SV.fr, fun _ => True⟩, x.2)
  | _ => .stuck
section
variable {X : Cx} {W : XW X.K} {a b c tg : Expr} {ma mb mc : EM} {pos : Pos}
theorem walk_fix {K : PySem.W.Frag} {ph : List Addr} {H : Hp} {p : Addr} {vs : List V} {xs : List SV} {lk : Store → Prop} (s : SqL K (hide ph H) p vs) (r : DenSs K ph H vs xs) : WalkOk K ph H (Itl K p) ⟨xs, lk⟩ where
  go := fun i x ph' H' S' hx e g _ => by
    obtain ⟨v, hv, _⟩ := paired_get r hx
    exact ⟨vs, v, hide_sub.sqL (e.sub.sqL s), hv⟩
  yld := fun i x ph' H' S' v H2 hx e g _ y => by
    obtain ⟨rfl, y⟩ := y
    obtain ⟨v', hv, d⟩ := paired_get r hx
    have := y vs (hide_sub.sqL (e.sub.sqL s))
    rw [this] at hv
    cases hv
    exact ⟨Ext.refl _ _, g, d.mono e⟩
  stop := fun i ph' H' S' hi e g _ => ⟨vs, hide_sub.sqL (e.sub.sqL s), by rw [r.length]; exact hi⟩
theorem walk_tup {K : PySem.W.Frag} {ph : List Addr} {H : Hp} {p : Addr} {vs : List V} {xs : List SV} {lk : Store → Prop} (s : SqT K (hide ph H) p vs) (r : DenSs K ph H vs xs) : WalkOk K ph H (Itt K p) ⟨xs, lk⟩ where
  go := fun i x ph' H' S' hx e g _ => by
    obtain ⟨v, hv, _⟩ := paired_get r hx
    exact ⟨vs, v, hide_sub.sqT (e.sub.sqT s), hv⟩
  yld := fun i x ph' H' S' v H2 hx e g _ y => by
    obtain ⟨rfl, y⟩ := y
    obtain ⟨v', hv, d⟩ := paired_get r hx
    have := y vs (hide_sub.sqT (e.sub.sqT s))
    rw [this] at hv
    cases hv
    exact ⟨Ext.refl _ _, g, d.mono e⟩
  stop := fun i ph' H' S' hi e g _ => ⟨vs, hide_sub.sqT (e.sub.sqT s), by rw [r.length]; exact hi⟩
theorem walk_cell {K : PySem.W.Frag} {ph : List Addr} {H : Hp} {p : Addr} {k : Nat} {xs : List SV} (hp : ph[k]? = some p) : WalkOk K ph H (Itl K p) ⟨xs, fun S' => S'[k]? = some (.lst xs)⟩ where
  go := fun i x ph' H' S' hx e g hk => by
    obtain ⟨q, h1, vs, h2, h3⟩ := g.at hk
    obtain ⟨ps, rfl, _⟩ := e.pre
    rw [List.getElem?_append_left (List.getElem?_eq_some_iff.mp hp).1, hp] at h1
    cases h1
    obtain ⟨v, hv, _⟩ := paired_get h3 hx
    exact ⟨vs, v, .of h2, hv⟩
  yld := fun i x ph' H' S' v H2 hx e g hk y => by
    obtain ⟨rfl, y⟩ := y
    obtain ⟨q, h1, vs, h2, h3⟩ := g.at hk
    have hp' : ph'[k]? = some p := by
      obtain ⟨ps, rfl, _⟩ := e.pre
      rw [List.getElem?_append_left (List.getElem?_eq_some_iff.mp hp).1, hp]
    rw [hp'] at h1
    cases h1
    obtain ⟨v', hv, d⟩ := paired_get h3 hx
    have := y vs (.of h2)
    rw [this] at hv
    cases hv
    exact ⟨Ext.refl _ _, g, d⟩
  stop := fun i ph' H' S' hi e g hk => by
    obtain ⟨q, h1, vs, h2, h3⟩ := g.at hk
    obtain ⟨ps, rfl, _⟩ := e.pre
    rw [List.getElem?_append_left (List.getElem?_eq_some_iff.mp hp).1, hp] at h1
    cases h1
    exact ⟨vs, .of h2, by rw [h3.length]; exact hi⟩
theorem rdS_fr {K : PySem.W.Frag} {ph : List Addr} {H : Hp} {S : Store} {v : V} {d : D} {xs : List SV} (h : DenS K ph H v (.fr d)) (e : rdS S (.fr d) = some xs) : ∃ a vs, v = .ref a ∧ SqL K (hide ph H) a vs ∧ DenSs K ph H vs xs := by
  cases d with
  | lst ds => simp [rdS, rdL] at e; subst e; cases h with | lst s r => exact ⟨_, _, rfl, .of s, of_dens r⟩
  | scr ds => simp [rdS] at e; subst e; cases h with | scr s r => exact ⟨_, _, rfl, s, of_dens r⟩
  | _ => simp [rdS, rdL] at e
theorem pid_seq (ha : PD X W a ma) : PID X W tg a (iSeq ma) := by
  obtain ⟨ta, pa, sa⟩ := ha.ex
  refine ⟨_, pi_list pa, fun ph S H sg rho R g so h => sa ph S H sg rho _ g so (holds_imp (holds_bind h) (fun x hx => ?_) fun _ _ _ q => q)⟩
  intro ph1 v1 H1 x1 g1 d1
  obtain ⟨sv, S1⟩ := x
  dsimp only at *
  split at hx
  · exact hx.elim
  · split at hx
    · rename_i xs he
      obtain ⟨p, vs, rfl, s, r⟩ := rdS_fr d1 he
      exact ⟨p, rfl, ⟨vs, hide_sub.sqL s⟩, hx ph1 H1 _ x1 g1 (walk_fix s r)⟩
    · exact hx.elim
  · split at hx
    · rename_i k xs he
      obtain ⟨p, h1, rfl⟩ := id d1
      obtain ⟨q, vs, e1, h2, h3⟩ := rdL_at g1 d1 he
      cases e1
      exact ⟨p, rfl, ⟨vs, .of h2⟩, hx ph1 H1 _ x1 g1 (walk_cell h1)⟩
    · exact hx.elim
theorem pid_tup (ha : PD X W a ma) : PID X W tg a (iTp ma) := by
  obtain ⟨ta, pa, sa⟩ := ha.ex
  refine ⟨_, pi_tup pa, fun ph S H sg rho R g so h => sa ph S H sg rho _ g so (holds_imp (holds_bind h) (fun x hx => ?_) fun _ _ _ q => q)⟩
  intro ph1 v1 H1 x1 g1 d1
  obtain ⟨sv, S1⟩ := x
  dsimp only at *
  split at hx
  · obtain ⟨p, vs, rfl, s, r⟩ := d_tup d1
    exact ⟨p, rfl, ⟨vs, hide_sub.sqT s⟩, hx ph1 H1 _ x1 g1 (walk_tup s (of_dens r))⟩
  · exact hx.elim
def rngS (lo : Int) (n : Nat) : List SV := (List.range n).map fun i => .fr (.int (lo + (i : Nat)))
theorem walk_range {K : PySem.W.Frag} {ph : List Addr} {H : Hp} {lo : Int} {n : Nat} {lk : Store → Prop} : WalkOk K ph H (Itr lo n) ⟨rngS lo n, lk⟩ where
  go := fun i x ph' H' S' hx e g _ => by
    have := (List.getElem?_eq_some_iff.mp hx).1
    simpa [rngS, Itr] using this
  yld := fun i x ph' H' S' v H2 hx e g _ y => by
    obtain ⟨rfl, rfl⟩ := y
    have h1 := (List.getElem?_eq_some_iff.mp hx).1
    have hx' : (rngS lo n)[i]? = some x := hx
    have hi : i < n := by simpa [rngS] using h1
    rw [rngS, List.getElem?_map, List.getElem?_range hi] at hx'
    cases hx'
    exact ⟨Ext.refl _ _, g, Den.int _⟩
  stop := fun i ph' H' S' hi e g _ => by simpa [rngS, Itr] using hi
def iR1 (m : AM) : IM := fun rho S => (m rho S).bind fun x => match x.1 with
  | [.fr (.int j)] => if -(2 ^ 62) ≤ j ∧ j < 2 ^ 62 then .ok (⟨rngS 0 j.toNat, fun _ => True⟩, x.2) else .stuck
  | _ => .stuck
def iR2 (m : AM) : IM := fun rho S => (m rho S).bind fun x => match x.1 with
  | [.fr (.int i), .fr (.int j)] => if -(2 ^ 62) ≤ i ∧ i < 2 ^ 62 ∧ -(2 ^ 62) ≤ j ∧ j < 2 ^ 62 then .ok (⟨rngS i (j - i).toNat, fun _ => True⟩, x.2) else .stuck
  | _ => .stuck
theorem pid_range1 {m : AM} {p : Pos} (hm : X.mg "range" = none) (ha : PDA X W [a] m) (hg : Gl X "range" := by rfl) (hs : starEach [a] X.env = [(false, eval a X.env)] := by rfl) : PID X W tg (.Call (.Name "range" p) [a] [] pos) (iR1 m) := by
  obtain ⟨t, pt, st⟩ := ha.ex
  refine ⟨_, pi_range1 hg hm pt hs, fun ph S H sg rho R g so h => st ph S H sg rho _ g so (holds_imp (holds_bind h) (fun x hx => ?_) fun _ _ _ q => q)⟩
  intro ph1 vs H1 x1 g1 d1
  obtain ⟨xs, S1⟩ := x
  dsimp only at *
  split at hx
  · split at hx
    · rename_i j hj
      obtain ⟨v, rfl, dv⟩ := one_of d1
      rw [d_int dv]
      exact ⟨j, rfl, hj.1, hj.2, hx ph1 H1 _ x1 g1 walk_range⟩
    · exact hx.elim
  · exact hx.elim
open Classical in
noncomputable def loopM (lk : Store → Prop) (g : GM) (b : SM) : List SV → SM
  | [] => fun rho S => if lk S then .ok (.nx, rho, S) else .stuck
  | x :: xs => fun rho S => if lk S then (g x rho S).bind fun r => (b r.1 r.2).bind fun q => match q.1 with
    | .nx => loopM lk g b xs q.2.1 q.2.2
    | .ct => loopM lk g b xs q.2.1 q.2.2
    | .bk => .ok (.nx, q.2.1, q.2.2)
    | .rt v => .ok (.rt v, q.2.1, q.2.2) else .stuck
noncomputable def sFor (im : IM) (g : GM) (b : SM) : SM := fun rho S => (im rho S).bind fun w => loopM w.1.lk g b w.1.xs rho w.2
theorem psd_for {is : List Nat} {body : List Stmt} {im : IM} {g : GM} {mb : SM} (hc : X.calm = true) (hp : PassesOwn (model X.prog X.w) X.A X.env X.xe) (hi : PID X W tg a im) (hg : PGD X W is tg g) (hb : PSDs X W body mb)
    (hs : ∀ x, foldedSetIterable a X.env x = pure x := by intro _; rfl) : PSD X W (.For tg a body [] pos) (sFor im g mb) := by
  obtain ⟨ti, pi, si⟩ := hi.ex
  obtain ⟨tt, pt, st⟩ := hg.ex
  obtain ⟨tb, pb, sb⟩ := hb.ex
  refine ⟨_, ps_for hp hc pi pt pb hs, fun ph S H sg rho Dn gd so h => si ph S H sg rho _ gd so (holds_imp (holds_bind h) (fun w hw => ?_) fun _ _ _ q => q)⟩
  intro ph1 H1 J x1 g1 wk
  obtain ⟨⟨xs, lk⟩, S1⟩ := w
  dsimp only at hw g1
  refine ⟨fun i m sg' H' => m = xs.length - i ∧ i ≤ xs.length ∧ ∃ ph' S' rho', Ext ph1 H1 ph' H' ∧ Good X.K ph' H' S' ∧ SlotsOk X.K ph' H' sg' rho' ∧ holds (loopM lk g mb (xs.drop i) rho' S') (postS X.K ph' H' Dn) (W.rel ph' H'),
    ⟨_, rfl, Nat.zero_le _, ph1, S1, rho, Ext.refl _ _, g1, so.mono x1, holds_imp hw (fun c => postS.mono x1 c) fun e r s q => W.mono _ _ _ _ e r s x1 q⟩, ?_⟩
  rintro i m sg2 H2 ⟨rfl, hle, ph2, S2, rho2, x2, g2, so2, h2⟩
  by_cases hi : i < xs.length
  · right
    rw [List.drop_eq_getElem_cons hi] at h2
    unfold loopM at h2
    split at h2
    · rename_i hlk
      have hx : (⟨xs, lk⟩ : Wk).xs[i]? = some xs[i] := List.getElem?_eq_getElem hi
      refine ⟨wk.go i xs[i] ph2 H2 S2 hx x2 g2 hlk, fun sg' H' => ∃ ph' S' rho', Ext ph1 H1 ph' H' ∧ Good X.K ph' H' S' ∧ SlotsOk X.K ph' H' sg' rho' ∧ holds (loopM lk g mb (xs.drop (i + 1)) rho' S') (postS X.K ph' H' Dn) (W.rel ph' H'), fun sg' H' q => ⟨xs.length - (i + 1), by omega, rfl, hi, q⟩, fun v H3 y => ?_⟩
      obtain ⟨x3, g3, d3⟩ := wk.yld i xs[i] ph2 H2 S2 v H3 hx x2 g2 hlk y
      refine st ph2 S2 H3 sg2 rho2 v xs[i] _ g3 (so2.mono x3) d3 (holds_imp (holds_bind h2) (fun r hr => ?_) fun e r s q => W.mono _ _ _ _ e r s x3 q)
      intro ph4 sg4 H4 x4 g4 so4 _
      have x34 := x3.trans x4
      refine sb ph4 r.2 H4 sg4 r.1 _ g4 so4 (holds_imp (holds_bind hr) (fun q hq => ?_) fun e r s q => W.mono _ _ _ _ e r s x34 q)
      intro ph5 sg5 H5 x5 g5 so5
      have x35 := x34.trans x5
      obtain ⟨fl, rho5, S5⟩ := q
      dsimp only at *
      cases fl with
      | nx => exact ⟨ph5, S5, rho5, x2.trans x35, g5, so5, holds_imp hq (fun c => postS.mono x35 c) fun e r s q => W.mono _ _ _ _ e r s x35 q⟩
      | ct => exact ⟨ph5, S5, rho5, x2.trans x35, g5, so5, holds_imp hq (fun c => postS.mono x35 c) fun e r s q => W.mono _ _ _ _ e r s x35 q⟩
      | bk => exact hq ph5 sg5 H5 x35 g5 so5
      | rt x => exact fun v' dv' => hq ph5 sg5 H5 x35 g5 so5 v' dv'
    · exact h2.elim
  · left
    have e : i = xs.length := by omega
    subst e
    rw [List.drop_length] at h2
    unfold loopM at h2
    split at h2
    · rename_i hlk
      exact ⟨wk.stop xs.length ph2 H2 S2 (Nat.le_refl _) x2 g2 hlk, h2 ph2 sg2 H2 (Ext.refl _ _) g2 so2⟩
    · exact h2.elim

end
end DL

namespace DL
open PySem PySem.Spec PyProof.Rows L2

def tOf (K : PySem.W.Frag) (W : XW K) (m : EM) : TE := fun sg H Q => ∃ ph S rho, Good K ph H S ∧ SlotsOk K ph H sg rho ∧ holds (m rho S) (post K ph H Q) (W.rel ph H)
def tOfT (K : PySem.W.Frag) (W : XW K) (m : TM) : TT := fun sg H Q => ∃ ph S rho, Good K ph H S ∧ SlotsOk K ph H sg rho ∧ holds (m rho S) (postT K ph H Q) (W.rel ph H)
def tOfG (K : PySem.W.Frag) (W : XW K) (is : List Nat) (m : GM) : TG := fun v sg H Q => ∃ ph S rho x, Good K ph H S ∧ SlotsOk K ph H sg rho ∧ DenS K ph H v x ∧ holds (m x rho S) (postG K ph H is sg Q) (W.rel ph H)
section
variable {X : Cx} {W : XW X.K} {a b c tg : Expr} {ma mb mc : EM} {pos : Pos}
theorem PD.pe (h : PD X W a ma) : PE X a (tOf X.K W ma) := by
  obtain ⟨t, p, s⟩ := h.ex
  refine ⟨fun pins s' sg H Q I q => ?_⟩
  obtain ⟨ph, S, rho, g, so, hh⟩ := q
  exact p.run pins s' sg H Q I (s ph S H sg rho Q g so hh)
theorem PDT.pt (h : PDT X W a m) : PT X a (tOfT X.K W m) := by
  obtain ⟨t, p, s⟩ := h.ex
  refine ⟨fun pins s' sg H Q I q => ?_⟩
  obtain ⟨ph, S, rho, g, so, hh⟩ := q
  exact p.run pins s' sg H Q I (s ph S H sg rho Q g so hh)
theorem PGD.pg {is : List Nat} {m : GM} (h : PGD X W is a m) : PG X a (tOfG X.K W is m) := by
  obtain ⟨t, p, s⟩ := h.ex
  refine ⟨fun pins s' sg H v u Q I r q => ?_⟩
  obtain ⟨ph, S, rho, x, g, so, d, hh⟩ := q
  exact p.run pins s' sg H v u Q I r (s ph S H sg rho v x Q g so d hh)

def wipeR (rho : Slots) : List Nat → Slots
  | [] => rho
  | v :: vs => (wipeR rho vs).set v none
theorem wipeR_len (rho : Slots) : ∀ vs : List Nat, (wipeR rho vs).length = rho.length
  | [] => rfl
  | v :: vs => by unfold wipeR; rw [List.length_set, wipeR_len rho vs]
theorem wipeR_get {rho : Slots} {i : Nat} {x : SV} : ∀ {vs : List Nat}, (wipeR rho vs)[i]? = some (some x) → rho[i]? = some (some x) ∧ i ∉ vs
  | [], h => ⟨h, by simp⟩
  | v :: vs, h => by
    unfold wipeR at h
    by_cases hi : v = i
    · subst hi
      by_cases hv : v < (wipeR rho vs).length
      · rw [List.getElem?_set_self hv] at h; cases h
      · rw [List.getElem?_eq_none (by rw [List.length_set]; omega)] at h; cases h
    · rw [List.getElem?_set_ne hi] at h
      obtain ⟨h1, h2⟩ := wipeR_get h
      exact ⟨h1, fun m => by rcases List.mem_cons.mp m with e | m; exact hi e.symm; exact h2 m⟩
theorem wipe_in {sg : L2.St} {i : Nat} : ∀ {vs : List Nat}, i ∈ vs → (wipe sg vs)[i]? = if i < sg.length then some none else none
  | [], h => nomatch h
  | v :: vs, h => by
    unfold wipe
    by_cases hi : v = i
    · subst hi
      by_cases hv : v < sg.length
      · rw [if_pos hv, List.getElem?_set_self (by rw [wipe_length]; exact hv)]
      · rw [if_neg hv, List.getElem?_eq_none (by rw [List.length_set, wipe_length]; omega)]
    · rw [List.getElem?_set_ne hi]
      exact wipe_in (by rcases List.mem_cons.mp h with e | m; exact absurd e.symm hi; exact m)
theorem wipe_eq {sg sg2 : L2.St} {is vs : List Nat} (h : ∀ i ∈ is, i ∈ vs) (o : Out is (wipe sg vs) sg2) : wipe sg2 vs = wipe sg vs := by
  obtain ⟨o1, o2⟩ := o
  rw [wipe_length] at o1
  apply List.ext_getElem?
  intro i
  by_cases hi : i ∈ vs
  · rw [wipe_in hi, wipe_in hi, o1]
  · rw [wipe_out hi, o2 i fun m => hi (h i m)]
theorem SlotsOk.wiped {K : PySem.W.Frag} {ph : List Addr} {H : Hp} {sg : L2.St} {rho : Slots} (so : SlotsOk K ph H sg rho) (vs : List Nat) : SlotsOk K ph H (wipe sg vs) (wipeR rho vs) := by
  refine ⟨by rw [wipe_length, wipeR_len]; exact so.1, fun i x h => ?_⟩
  obtain ⟨h1, h2⟩ := wipeR_get h
  rw [wipe_out h2]
  exact so.2 i x h1

def unS (n : Nat) (S : Store) : Option (Store × List SV) := match S.drop n with
  | [.lst acc] => some (S.take n, acc)
  | _ => none
theorem unS_app {S : Store} {acc : List SV} {n : Nat} (h : S.length = n) : unS n (S ++ [.lst acc]) = some (S, acc) := by
  subst h
  unfold unS
  rw [List.drop_left', List.take_left'] <;> simp
theorem unS_some {n : Nat} {S S' : Store} {acc : List SV} (h : unS n S = some (S', acc)) (hn : n ≤ S.length) : S = S' ++ [.lst acc] ∧ S'.length = n := by
  unfold unS at h
  split at h
  · rename_i a e
    simp only [Option.some.injEq, Prod.mk.injEq] at h
    obtain ⟨rfl, rfl⟩ := h
    refine ⟨?_, by simp [hn]⟩
    rw [← e, List.take_append_drop]
  · cases h
open Classical in
noncomputable def lcM (lk : Store → Prop) (g : GM) (t : TM) (e : EM) (own : List Nat) (rho : Slots) : List SV → Store → List SV → Res (List SV × Store)
  | [], S, acc => if lk (S ++ [.lst acc]) then .ok (acc, S) else .stuck
  | x :: xs, S, acc => if lk (S ++ [.lst acc]) then (g x (wipeR rho own) (S ++ [.lst acc])).bind fun r => (t r.1 r.2).bind fun k => if k.1 then (e r.1 k.2).bind fun y => match unS S.length y.2 with
      | some q => if q.2.length < sizeLine then lcM lk g t e own rho xs q.1 (q.2 ++ [y.1]) else .stuck
      | none => .stuck
    else (match unS S.length k.2 with
      | some q => lcM lk g t e own rho xs q.1 q.2
      | none => .stuck) else .stuck
def lcEnd (c : Bool) (acc : List SV) (S : Store) : Res (SV × Store) := if c then .ok (.cell S.length, S ++ [.lst acc]) else if S.all (Cell.below S.length) then match allFr acc with
  | some ds => .ok (.fr (.lst ds), S)
  | none => .stuck else .stuck
def tTr : TM := fun _ S => .ok (true, S)
theorem lcEnd_ok {K : PySem.W.Frag} {ph : List Addr} {H H' : Hp} {D : Addr} {acc : List SV} {S0 S : Store} {c : Bool} {Q : VK} {E : Exc → Slots → Store → Prop} (g0 : Good K ph H S0) (hD : H D = none) (x : Ext ph H (ph ++ [D]) H') (g : Good K (ph ++ [D]) H' (S ++ [.lst acc]))
    (h : holds (lcEnd c acc S) (post K ph H Q) E) : Q (.ref D) H' := by
  have hl : ph.length = S.length := by have := g.len; simpa using this
  unfold lcEnd at h
  cases c with
  | true => exact h (ph ++ [D]) (.ref D) H' x g ⟨D, by rw [← hl]; simp, rfl⟩
  | false =>
    simp only [Bool.false_eq_true, if_false] at h
    split at h
    · rename_i hb
      split at h
      · rename_i ds hd
        have hm : ∀ a ∈ ph, a ∈ ph ++ [D] := fun a m => List.mem_append_left _ m
        have hk : ∀ k, k < S.length → ph[k]? = (ph ++ [D])[k]? := fun k hk => by rw [List.getElem?_append_left (by omega)]
        obtain ⟨vs, h4, h5⟩ : CellAt K (ph ++ [D]) H' D (.lst acc) := paired_at (k := S.length) g.cells (by rw [← hl]; simp) (by simp)
        have q := paired_take S.length g.cells
        rw [List.take_left' rfl, List.take_left' hl] at q
        refine h ph (.ref D) H' x.back ⟨g0.nd, paired_all (f := Cell.below S.length) (fun p c hc d => CellAt.shrink (n := S.length) hm hk hc d) q hb, g.tb⟩ ?_
        rw [allFr_eq hd] at h5
        exact .lst (hide_of (g0.new hD) h4) (Dens.mono (sub_hide hm) (dens_of h5))
      · exact h.elim
    · exact h.elim
def noE {α : Type} (r : Res α) : Res α := match r with
  | .exc _ _ _ => .stuck
  | x => x
abbrev Blk (X : Cx) (scope : Scope) (s : Shared) (H : Hp) (C : Addr) (cl : List (Str × Addr)) (fp : List Addr) : Cx := X.blk s H scope (compEnvC scope cl C X.env) fp
theorem lc_snd {wi : TI} {im : IM} {is own : List Nat} {g : GM} {t : TM} {e : EM} {cc : Bool} (hown : ∀ i ∈ is, i ∈ own)
    (si : ∀ (ph : List Addr) (S : Store) (H : Hp) (sg : L2.St) (rho : Slots) (R : It → Hp → Prop), Good X.K ph H S → SlotsOk X.K ph H sg rho → holds (im rho S) (postI X.K ph H R) (W.rel ph H) → wi sg H R) :
    SndE X W (tLc wi (tOfG X.K (XW.none X.K) is g) (tOfT X.K (XW.none X.K) t) (tOf X.K (XW.none X.K) e) own) (fun rho S => (im rho S).bind fun w => (noE (lcM w.1.lk g t e own rho w.1.xs w.2 [])).bind fun r => lcEnd cc r.1 r.2) := by
  intro ph S H sg rho Q gd so h
  refine si ph S H sg rho _ gd so (holds_imp (holds_bind h) (fun w hw => ?_) fun _ _ _ q => q)
  intro ph1 H1 J x1 g1 wk D hD
  obtain ⟨⟨xs, lk⟩, S1⟩ := w
  dsimp only at hw g1
  have so1 := so.mono x1
  have x0 : Ext ph1 H1 (ph1 ++ [D]) (upd H1 D (.lst [])) := Ext.cell hD
  have gD : Good X.K (ph1 ++ [D]) (upd H1 D (.lst [])) (S1 ++ [.lst []]) := g1.cell hD ⟨[], upd_same, .nil⟩
  have fin : ∀ (acc : List SV) (S' : Store) (H' : Hp), Ext (ph1 ++ [D]) (upd H1 D (.lst [])) (ph1 ++ [D]) H' → Good X.K (ph1 ++ [D]) H' (S' ++ [.lst acc]) → holds (lcEnd cc acc S') (post X.K ph H Q) (W.rel ph H) → Q (.ref D) H' := fun acc S' H' x' g' q =>
    lcEnd_ok g1 hD (x0.trans x') g' (holds_imp q (fun c => post.mono x1 c) fun _ _ _ z => z)
  have start0 : holds (lcM lk g t e own rho xs S1 []) (fun r => holds (lcEnd cc r.1 r.2) (post X.K ph H Q) (W.rel ph H)) (fun _ _ _ => False) := by
    revert hw
    cases lcM lk g t e own rho xs S1 [] with
    | ok r => exact fun q => q
    | exc _ _ _ => exact fun q => q.elim
    | stuck => exact fun q => q.elim
  refine ⟨fun i m H' => m = xs.length - i ∧ i ≤ xs.length ∧ ∃ S' acc, S'.length = S1.length ∧ Ext (ph1 ++ [D]) (upd H1 D (.lst [])) (ph1 ++ [D]) H' ∧ Good X.K (ph1 ++ [D]) H' (S' ++ [.lst acc]) ∧
      holds (lcM lk g t e own rho (xs.drop i) S' acc) (fun r => holds (lcEnd cc r.1 r.2) (post X.K ph H Q) (W.rel ph H)) (fun _ _ _ => False), ⟨_, rfl, Nat.zero_le _, S1, [], rfl, Ext.refl _ _, gD, start0⟩, ?_⟩
  rintro i m H2 ⟨rfl, hle, S2, acc, hl2, x2, g2, h2⟩
  by_cases hi : i < xs.length
  · right
    rw [List.drop_eq_getElem_cons hi] at h2
    unfold lcM at h2
    split at h2
    · rename_i hlk
      have hx : (⟨xs, lk⟩ : Wk).xs[i]? = some xs[i] := List.getElem?_eq_getElem hi
      refine ⟨wk.go i xs[i] _ H2 _ hx (x0.trans x2) g2 hlk, fun H' => ∃ S' acc, S'.length = S1.length ∧ Ext (ph1 ++ [D]) (upd H1 D (.lst [])) (ph1 ++ [D]) H' ∧ Good X.K (ph1 ++ [D]) H' (S' ++ [.lst acc]) ∧
        holds (lcM lk g t e own rho (xs.drop (i + 1)) S' acc) (fun r => holds (lcEnd cc r.1 r.2) (post X.K ph H Q) (W.rel ph H)) (fun _ _ _ => False), fun H' q => ⟨xs.length - (i + 1), by omega, rfl, hi, q⟩, fun v H3 y => ?_⟩
      obtain ⟨x3, g3, d3⟩ := wk.yld i xs[i] _ H2 _ v H3 hx (x0.trans x2) g2 hlk y
      have so3 := (so1.mono (x0.trans (x2.trans x3))).wiped own
      refine ⟨_, _, _, xs[i], g3, so3, d3, holds_imp (holds_bind h2) (fun r hr => ?_) fun _ _ _ z => z⟩
      intro ph4 sg4 H4 x4 g4 so4 o4
      refine ⟨wipe_eq hown o4, ph4, r.2, r.1, g4, so4, holds_imp (holds_bind hr) (fun k hk => ?_) fun _ _ _ z => z⟩
      intro ph5 H5 x5 g5
      obtain ⟨kb, S5⟩ := k
      dsimp only at hk g5
      have x35 := x3.trans (x4.trans x5)
      -- the cells are those ahead of the turn
      have same : ∀ {ph' : List Addr} {H' : Hp} {S' S6 : Store} {acc' : List SV}, Ext (ph1 ++ [D]) H2 ph' H' → Good X.K ph' H' S' → unS S2.length S' = some (S6, acc') → ph' = ph1 ++ [D] ∧ S' = S6 ++ [.lst acc'] ∧ S6.length = S1.length := by
        intro ph' H' S' S6 acc' x' g' hu
        have gl2 := g2.len
        obtain ⟨ps, rfl, _⟩ := x'.pre
        have gl := g'.len
        simp only [List.length_append, List.length_cons, List.length_nil] at gl gl2
        obtain ⟨e1, e2⟩ := unS_some hu (by omega)
        refine ⟨?_, e1, e2.trans hl2⟩
        subst e1
        simp only [List.length_append, List.length_cons, List.length_nil] at gl
        have : ps.length = 0 := by omega
        rw [List.length_eq_zero_iff.mp this, List.append_nil]
      cases kb with
      | false =>
        simp only [Bool.false_eq_true, if_false] at hk ⊢
        split at hk
        · rename_i q hq
          obtain ⟨S6, acc'⟩ := q
          obtain ⟨rfl, rfl, l6⟩ := same x35 g5 hq
          exact ⟨S6, acc', l6, x2.trans x35, g5, hk⟩
        · exact hk.elim
      | true =>
        simp only [if_true] at hk ⊢
        refine ⟨ph5, S5, r.1, g5, so4.mono x5, holds_imp (holds_bind hk) (fun y hy => ?_) fun _ _ _ z => z⟩
        intro ph6 v6 H6 x6 g6 d6
        have x36 := x35.trans x6
        obtain ⟨yv, S7⟩ := y
        dsimp only at hy g6 d6
        split at hy
        · rename_i q hq
          obtain ⟨S8, acc'⟩ := q
          obtain ⟨rfl, rfl, l8⟩ := same x36 g6 hq
          split at hy
          · rename_i hz
            have hp : (ph1 ++ [D])[S8.length]? = some D := by rw [l8, ← g1.len]; simp
            obtain ⟨vs, h4, h5⟩ : CellAt X.K (ph1 ++ [D]) H6 D (.lst acc') := paired_at (k := S8.length) g6.cells hp (by simp)
            have hm : D ∈ ph1 ++ [D] := by simp
            have xw : Ext (ph1 ++ [D]) H6 (ph1 ++ [D]) (upd H6 D (.lst (vs ++ [v6]))) := Ext.write hm (nofrz h4 fun _ _ z => nomatch z)
            refine ⟨vs, h4, by rw [h5.length]; exact hz, S8, acc' ++ [yv], l8, (x2.trans x36).trans xw, ?_, hy⟩
            have gw := g6.write (o := .lst (vs ++ [v6])) (c := .lst (acc' ++ [yv])) hp ⟨vs ++ [v6], upd_same, paired_snoc (DenSs.mono xw h5) (d6.mono xw)⟩
            rw [List.set_append_right _ _ (Nat.le_refl _)] at gw
            simpa using gw
          · exact hy.elim
        · exact hy.elim
    · exact h2.elim
  · left
    have e : i = xs.length := by omega
    subst e
    rw [List.drop_length] at h2
    unfold lcM at h2
    split at h2
    · rename_i hlk
      exact ⟨wk.stop xs.length _ H2 _ (Nat.le_refl _) (x0.trans x2) g2 hlk, fin acc S2 H2 x2 g2 h2⟩
    · exact h2.elim
end
end DL

namespace DL
open PySem PySem.Spec PyProof.Rows L2

theorem hu80 {k : Nat} {A : Around} (hr : Room k A) : A.units + 80 < cLine := by
  have := hr.un
  omega
section
variable {X : Cx} {W : XW X.K} {a b c tg : Expr} {ma mb mc : EM} {pos : Pos}
noncomputable def eLC (cc : Bool) (im : IM) (g : GM) (t : TM) (e : EM) (own : List Nat) : EM := fun rho S => (im rho S).bind fun w => (noE (lcM w.1.lk g t e own rho w.1.xs w.2 [])).bind fun r => lcEnd cc r.1 r.2
structure PDTs (X : Cx) (W : XW X.K) (ifs : List Expr) (m : TM) : Prop where
  ts : PTs X ifs (tOfT X.K W m)
theorem pts_n : PDTs X W [] tTr := ⟨⟨fun pins s sg H Q I h => by
  obtain ⟨ph, S, rho, g, so, q⟩ := h
  exact pts_nil.run pins s sg H Q I (q ph H (Ext.refl _ _) g)⟩⟩
theorem pd_lc (cc : Bool) {elt iter : Expr} {ifs : List Expr} {scope : Scope} {own : List (Str × Nat)} {is : List Nat} {im : IM} {g : GM} {t : TM} {e : EM} (hc : X.calm = true) (hN : X.N.Nodup) (hi : PID X W tg iter im) (ok : BlkOk X.N X.env.scope scope own)
    (hg : ∀ (s : Shared) (H : Hp) (C : Addr) (cl : List (Str × Addr)) (fp : List Addr), PGD (Blk X scope s H C cl fp) (XW.none X.K) is tg g) (ht : ∀ (s : Shared) (H : Hp) (C : Addr) (cl : List (Str × Addr)) (fp : List Addr), PDTs (Blk X scope s H C cl fp) (XW.none X.K) ifs t)
    (he : ∀ (s : Shared) (H : Hp) (C : Addr) (cl : List (Str × Addr)) (fp : List Addr), PD (Blk X scope s H C cl fp) (XW.none X.K) elt e) (hown : ∀ i ∈ is, i ∈ own.map (·.2) := by decide) (hs : ∀ x, foldedSetIterable iter X.env x = pure x := by intro _; rfl) :
    PD X W (.ListComp elt [⟨tg, iter, ifs, 0⟩] scope pos) (eLC cc im g t e (own.map (·.2))) := by
  obtain ⟨ti, pi, si⟩ := hi.ex
  exact ⟨_, pe_lc (g := tOfG X.K (XW.none X.K) is g) (tt := tOfT X.K (XW.none X.K) t) (te := tOf X.K (XW.none X.K) e) hc hN pi ok (fun s H C cl fp => (hg s H C cl fp).pg) (fun s H C cl fp => (ht s H C cl fp).ts) (fun s H C cl fp => (he s H C cl fp).pe) hs, lc_snd hown si⟩
def OpM (X : Cx) (W : XW X.K) (r : V → List V → Hp → VK → Prop) (g : SV → List SV → Store → Res (SV × Store)) : Prop := ∀ (ph : List Addr) (S : Store) (H : Hp) (x : V) (a : SV) (xs : List V) (as : List SV) (Q : VK), Good X.K ph H S → DenS X.K ph H x a → DenSs X.K ph H xs as →
  holds (g a as S) (post X.K ph H Q) (W.rel ph H) → r x xs H Q
def tyS (T : String) (S : Store) (a : SV) : Bool := match a with
  | .fr (.str _) => T == "str"
  | x => T == "list" && (rdL S x).isSome
theorem tyS_ok {K : PySem.W.Frag} {ph : List Addr} {S : Store} {H : Hp} {v : V} {a : SV} {T : String} (g : Good K ph H S) (d : DenS K ph H v a) (h : tyS T S a = true) : tyV K T v H := by
  unfold tyS at h
  split at h
  · rw [d_str d]; exact (show T = "str" by simpa using h)
  · simp only [Bool.and_eq_true, beq_iff_eq] at h
    obtain ⟨xs, hx⟩ := Option.isSome_iff_exists.mp h.2
    obtain ⟨p, vs, rfl, h1, _⟩ := rdL_at g d hx
    exact .inl ⟨h.1, vs, .of h1⟩
abbrev GMt := SV → List SV → Store → Res (SV × Store)
def eMt (T : String) (g : GMt) (o : EM) (m : AM) : EM := fun rho S => (o rho S).bind fun x => if tyS T x.2 x.1 then (m rho x.2).bind fun y => g x.1 y.1 y.2 else .stuck
def eMt0 (T : String) (g : GMt) (o : EM) : EM := fun rho S => (o rho S).bind fun x => if tyS T x.2 x.1 then g x.1 [] x.2 else .stuck
theorem pd_mt {T id : String} {name : Str} {apos cpos : Pos} {e : Expr} {es : List Expr} {m : AM} {r : V → List V → Hp → VK → Prop} {g : GMt} (pa : PlainAttrs T) (slot : Slot T name id) (hty : typeOf (.builtin id) = pure (.type "method_descriptor")) (hm : MtR X id r) (hr : OpM X W r g) (ho : PD X W a ma) (ha : PDA X W (e :: es) m)
    (hbase : attributeBase a name X.env (eval a X.env) = eval a X.env := by rfl)
    (hfew : ((backTo cpos (starEach (e :: es) X.env)).all (fun x => !x.1) && (backToKw cpos (keywordEach [] X.env)).all (fun x => x.1.isSome)
      && decide ((e :: es).length + ([] : List Keyword).length + (if ([] : List Keyword).isEmpty then 0 else 1) < 30)) = true := by rfl)
    (hline : (apos.endLine == cpos.line) = true := by rfl) (hs : starEach (e :: es) X.env = (false, eval e X.env) :: starEach es X.env := by rfl) (hplain : (backTo cpos (starEach es X.env)).any (·.1) = false := by rfl) :
    PD X W (.Call (.Attribute a name apos) (e :: es) [] cpos) (eMt T g ma m) := by
  obtain ⟨to, po, so'⟩ := ho.ex
  obtain ⟨t, pt, st⟩ := ha.ex
  refine ⟨_, pe_bm pa slot hty hm po pt hbase hfew hline hs hplain, fun ph S H sg rho Q gd so h => so' ph S H sg rho _ gd so (holds_imp (holds_bind h) (fun x hx => ?_) fun _ _ _ q => q)⟩
  intro ph1 v1 H1 x1 g1 d1
  split at hx
  · rename_i ht
    refine ⟨tyS_ok g1 d1 ht, st ph1 x.2 H1 sg rho _ g1 (so.mono x1) (holds_imp (holds_bind hx) (fun y hy => ?_) fun e r s q => W.mono _ _ _ _ e r s x1 q)⟩
    intro ph2 vs H2 x2 g2 d2
    exact hr ph2 y.2 H2 v1 x.1 vs y.1 Q g2 (d1.mono x2) d2 (holds_imp hy (fun c => post.mono (x1.trans x2) c) fun e r s q => W.mono _ _ _ _ e r s (x1.trans x2) q)
  · exact hx.elim
def non : SV := .fr .non
end
end DL

namespace DL
open PySem PySem.Spec PyProof.Rows L2

def Tells (n : Nat) (m : FnM) : Prop := ∀ ns : List Int, ns.length ≤ n → ∃ S' : Store, m [.fr (.scr (ns.map D.int))] [] = .ok (.val (.fr (.bl true)), S')
theorem sqL_nil {K : PySem.W.Frag} {H : Hp} {a : Addr} {vs : List V} (h : SqL K H a vs) : SqL K (hide [] H) a vs := by
  rcases h with (h | ⟨od, h⟩) | h
  · exact .inl (.inl (hide_of (by simp) h))
  · exact .inl (.inr ⟨od, hide_of (by simp) h⟩)
  · exact .inr h
theorem spD_law {K : PySem.W.Frag} {m : FnM} {n : Nat} (hm : Tells n m) {H : Hp} {a : Addr} {ns : List Int} (hl : ns.length ≤ n) (sq : SqL K H a (ns.map V.int)) (tb : TbOk K H) : spD K m [.ref a] H (fun v _ => v = .bl true) fun _ _ _ => False := by
  obtain ⟨S', e⟩ := hm ns hl
  refine ⟨[], [], [.fr (.scr (ns.map D.int))], ⟨List.nodup_nil, .nil, tb⟩, .cons ?_ .nil, ?_⟩
  · exact Den.scr (vs := ns.map V.int) (sqL_nil sq) (Dens.of_ints ns)
  · rw [e]
    intro v H' _ _ d
    exact d_bl (show DenS K [] H' v (.fr (.bl true)) from d)
def TBs (K : PySem.W.Frag) (mg : Str → Option Value) (base : Heap) : Prop := ∀ p ∈ lamDefs, knownT K p.1 = true → LamX.TabB base mg (He.cT K p.1).1 (He.cT K p.1).2
theorem tabL_mem {K : PySem.W.Frag} {p : He.Defn × Str} (h : p ∈ lamDefs) (hk : knownT K p.1 = true) : ((He.cT K p.1).2, p.2) ∈ tabL K := List.mem_map.mpr ⟨p, List.mem_filter.mpr ⟨h, hk⟩, rfl⟩
theorem tabL_of {K : PySem.W.Frag} {q : Addr × Str} (h : q ∈ tabL K) : ∃ p ∈ lamDefs, knownT K p.1 = true ∧ q = ((He.cT K p.1).2, p.2) := by
  obtain ⟨p, hp, e⟩ := List.mem_map.mp h
  obtain ⟨h1, h2⟩ := List.mem_filter.mp hp
  exact ⟨p, h1, h2, e.symm⟩
theorem told {P : Program} {w : World} {K : PySem.W.Frag} {mg mb : Str → Option Value} {k n : Nat} {x : Str} {m : FnM} {fl al : Addr} {sh : Shared} {us : List Value} {zs : List Int}
    (kin : K.In sh.heap) (gn : sh.heap.Ns mainGlobals mg) (bn : sh.heap.Ns builtinsNs mb) (bb : ∀ y : Str, y ≠ "__name__" → mb y = bootBuiltins y) (nl : sh.heap.NoLimit) (ng : sh.gens = #[]) (tE : TabsE K sh.heap)
    (hbm : ∃ (bm : Addr) (ob : Obj), mg "__builtins__" = some (.ref bm) ∧ bm ≠ builtinsNs ∧ sh.heap.get? bm = some ob ∧ ob.cls = .type "module" ∧ ob.dict = some builtinsNs ∧ ob.data = .plain)
    (at_ : sh.heap.get? al = some { cls := .type "list", data := .seq us.toArray }) (iv : IntsAre us zs) (lz : zs.length ≤ n) (hn : n ≤ sizeLine) (rm : Room k callerA) (hx : mg x = some (.ref fl))
    (F : ∀ base : Heap, K.In base → base.Ns mainGlobals mg → TBs K mg base → CalD P w K mg base k x m) (hm : Tells n m) :
    codeAny (model P w) callerA (.call (.ref fl) ⟨[.ref al], []⟩) (fun r s' => r = .ok (.ret (.bool true)) ∧ OldK sh.heap s'.heap ∧ s'.os = sh.os ∧ AllBare s'.gens) sh := by
  have rel := vals_ints iv
  have hlen := iv.length
  obtain ⟨tE, tI⟩ := tE
  let ts := (tabL K).map (·.1)
  have isT : ∀ b : Addr, b ∈ ts → sh.heap.get? b = some { cls := .none, data := .fields #[] } ∧ K.lookup b = none := fun b hb => by
    obtain ⟨p, hp, e⟩ := List.mem_map.mp hb
    rw [← e]
    exact tE p hp
  have aT : al ∉ ts := fun z => by
    have q := (isT al z).1
    rw [at_] at q
    cases (congrArg Obj.data (Option.some.inj q) : Data.seq us.toArray _ = Data.fields #[])
  have hC : ∀ p ∈ lamDefs, knownT K p.1 = true → (He.cT K p.1).2 ∈ ts ∧ PySem.W.CodeHd sh.heap (He.cT K p.1).1 (He.cT K p.1).2 := fun p hp hk => ⟨List.mem_map.mpr ⟨_, tabL_mem hp hk, rfl⟩, PySem.W.codeHd_of_K kin hk⟩
  obtain ⟨H, only, sql, hok, own, off, tabs⟩ : ∃ H : Hp, (∀ b, H b = none ∨ b ∈ ts ∨ ∃ o xs, H b = some (.frz o (.lst xs))) ∧ SqL K H al (zs.map V.int) ∧ HOk P w H sh.heap ∧ (∀ b, H b ≠ none → b = al ∨ b ∈ ts) ∧ (H al ≠ none → K.lookup al = none) ∧ (∀ b ∈ ts, H b = some (.tbl #[])) := by
    cases q : K.lookup al with
    | some o =>
      have e := kin al o q
      rw [at_] at e
      cases e
      refine ⟨fun b => if b ∈ ts then some (.tbl #[]) else none, fun b => ?_, .inr ⟨_, us.toArray, _, q, rfl, rfl, rfl, by rw [List.size_toArray, hlen]; omega, by simpa using rel⟩, fun b u z => ?_, fun b z => ?_, fun z => absurd (if_neg aT) z, fun b hb => if_pos hb⟩
      · by_cases hb : b ∈ ts
        · exact .inr (.inl hb)
        · exact .inl (if_neg hb)
      · by_cases hb : b ∈ ts
        · cases (if_pos hb).symm.trans z
          exact (isT b hb).1
        · cases (if_neg hb).symm.trans z
      · by_cases hb : b ∈ ts
        · exact .inr hb
        · exact absurd (if_neg hb) z
    | none =>
      refine ⟨fun b => if b = al then some (.frz { cls := .type "list", data := .seq us.toArray } (.lst (zs.map V.int))) else if b ∈ ts then some (.tbl #[]) else none, fun b => ?_, .inl (.inr ⟨{ cls := .type "list", data := .seq us.toArray }, if_pos rfl⟩), fun b u z => ?_, fun b z => ?_, fun _ => rfl, fun b hb => (if_neg (fun e : b = al => aT (e ▸ hb))).trans (if_pos hb)⟩
      · by_cases e : b = al
        · exact .inr (.inr ⟨_, _, if_pos e⟩)
        · by_cases hb : b ∈ ts
          · exact .inr (.inl hb)
          · exact .inl ((if_neg e).trans (if_neg hb))
      · by_cases e : b = al
        · have z2 := (if_pos e).symm.trans z
          cases z2
          subst e
          exact ⟨at_, by rw [List.length_map]; omega, us, _, rel, at_⟩
        · have z1 := (if_neg e).symm.trans z
          by_cases hb : b ∈ ts
          · cases (if_pos hb).symm.trans z1
            exact (isT b hb).1
          · cases (if_neg hb).symm.trans z1
      · by_cases e : b = al
        · exact .inl e
        · by_cases hb : b ∈ ts
          · exact .inr hb
          · exact absurd ((if_neg e).trans (if_neg hb)) z
  have noD : ∀ {b : Addr} {o : Obj}, sh.heap.get? b = some o → (∀ vs n, o.data ≠ .seq vs n) → o.data ≠ .fields #[] → H b = none := fun {b o} e h1 h2 => by
    cases q : H b with
    | none => rfl
    | some u =>
      rcases own b (by rw [q]; simp) with e' | e'
      · rw [e', at_] at e
        cases e
        exact (h1 _ _ rfl).elim
      · rw [(isT b e').1] at e
        cases e
        exact (h2 rfl).elim
  have plain_of : ∀ {b : Addr} {o : Obj} {es : Array DictEntry} {ep : Nat}, sh.heap.get? b = some o → o.data = .dict es ep → H b = none := fun {b o es ep} g dd => noD g (fun vs n z => by rw [dd] at z; cases z) (fun z => by rw [dd] at z; cases z)
  have hid_ns : ∀ {b : Addr} {f : Str → Option Value}, sh.heap.Ns b f → (hidT sh.heap H).Ns b f := fun {b f} ⟨o, es, ep, g, dd, rr⟩ => ⟨o, es, ep, hidT_get g (plain_of g dd), dd, rr⟩
  have kb : K.In (hidT sh.heap H) := fun b o g => hidT_get (kin b o g) (by
    cases q : H b with
    | none => rfl
    | some u =>
      rcases own b (by rw [q]; simp) with eb | eb
      · subst eb
        have := off (by rw [q]; simp)
        rw [this] at g; cases g
      · rw [(isT b eb).2] at g; cases g)
  have TB : TBs K mg (hidT sh.heap H) := fun p hp hk => by
    obtain ⟨hpt, hcd⟩ := hC p hp hk
    have hTp := (isT _ hpt).1
    refine ⟨PySem.W.codeHd_of_K kb hk, ?_, fun z => ?_⟩
    · obtain ⟨bm, ob, b1, b2, b3, b4, b5, b6⟩ := hbm
      have nG : bm ≠ mainGlobals := fun q => by
        obtain ⟨o, es, ep, e, hd, _⟩ := gn
        rw [q, e] at b3
        cases b3
        rw [hd] at b6
        cases b6
      have nP : bm ≠ (He.cT K p.1).2 := fun q => by
        rw [q, hTp] at b3
        cases b3
        cases b6
      refine ⟨bm, ob, b1, b2, nG, nP, hidT_get b3 (noD b3 (fun vs n z => ?_) fun z => ?_), b4, b5, b6⟩
      · rw [b6] at z
        cases z
      · rw [b6] at z
        cases z
    · obtain ⟨o, es, ep, e, hd, _⟩ := gn
      rw [z, hTp] at e
      cases e
      cases hd
  have md : Mod K mg (hidT sh.heap H) := ⟨kb, hid_ns gn, ⟨mb, hid_ns bn, bb⟩, by obtain ⟨c, h1, h2⟩ := nl; exact ⟨c, hid_ns h1, h2⟩⟩
  have ev : Env0 P w K mg (hidT sh.heap H) callerA [] sh H :=
    ⟨rfl, md, fun b o g => of_hidT g, Nat.le_of_eq (hidT_size _ _), trivial, fun b hb => (nomatch (show b ∈ ([] : List Addr) from hb)), hok, .of_eq ng⟩
  obtain ⟨f2, fd, ps, hx2, hkp, hbd, FF⟩ := (F _ kb (hid_ns gn) TB).ex
  rw [hx] at hx2; cases hx2
  have tb : TbOk K H := ⟨fun p hp => .nil (tabs _ (List.mem_map.mpr ⟨p, hp, rfl⟩)), tI⟩
  have sp := spD_law (K := K) hm lz sql tb
  have hp : ps.length = 1 := (FF.len _ _ _ _ sp).symm
  have hb := hbd sh [.ref al] kin (by rw [hp]; rfl)
  refine codeAny_mono (FF.run callerA [] sh H ⟨[.ref al], []⟩ [.ref al] [.ref al] _ _ rfl rm ev hb (.cons rfl .nil) sp) fun r s' hr => ?_
  cases r with
  | error e =>
    obtain ⟨_, _, _, _, _, _, _, _, _, _, _, _, z⟩ := hr
    exact z.elim
  | ok fo =>
    cases fo with
    | next => exact False.elim hr
    | brk => exact False.elim hr
    | cont => exact False.elim hr
    | ret u =>
      obtain ⟨v, H2, eo, br, un, hok2, rv, q⟩ := hr
      subst q
      obtain rfl : u = Value.bool true := rv
      have key : ∀ b o, b ∉ ts → sh.heap.get? b = some o → s'.heap.get? b = some o := fun b o nb g => by
        rcases only b with z | z | ⟨o2, xs, z⟩
        · exact un.keep b o g z (by intro y; cases y) (by simp)
        · exact absurd z nb
        · have g1 := (hok b _ z).1
          have g2 := (hok2 b _ (un.frzs b o2 _ z)).1
          rw [g] at g1; cases g1
          exact g2
      have grown : ∀ b ∈ ts, ∃ more : Array Value, s'.heap.get? b = some { cls := .none, data := .fields more } := fun b hb => by
        obtain ⟨more, z⟩ := un.tbls b #[] (tabs b hb)
        exact ⟨_, hok2 b _ z⟩
      refine ⟨rfl, ⟨fun b o e => ?_, fun b o e => ?_⟩, eo, br⟩
      · by_cases hb : b ∈ ts
        · obtain ⟨q, hq, eq⟩ := List.mem_map.mp hb
          obtain ⟨p, hp, hk, e2⟩ := tabL_of hq
          obtain ⟨more, hm⟩ := grown b hb
          have hTp := (isT b hb).1
          rw [hTp] at e
          cases e
          have eb : (He.cT K p.1).2 = b := by rw [← eq, e2]
          have hcd := (hC p hp hk).2
          rw [eb] at hcd
          exact .inr (.inl ⟨(hcd.tab hTp).isCodeTable, rfl, #[], more, rfl, by rw [Array.empty_append]; exact hm⟩)
        · exact .inl (key b o hb e)
      · by_cases hb : b ∈ ts
        · obtain ⟨more, hm⟩ := grown b hb
          exact ⟨_, hm⟩
        · exact ⟨o, key b o hb e⟩
theorem walkD {l : PySem.W.OpenLaw} {n k : Nat} {q : Program} {loose : List Str} {XP : (Str → Option Value) → Heap → Prop} {YP : World → Heap → Prop} {d : DefRec} {m : FnM}
    (h1 : l.most = some n) (h2 : n ≤ sizeLine) (h3 : d.params.defaults = []) (rm : Room k callerA)
    (F : ∀ (w : World) (mg : Str → Option Value) (h : Heap), YP w h → h.Ns mainGlobals mg → ∃ K : PySem.W.Frag, K.In h ∧ TabsE K h ∧ ∀ base : Heap, K.In base → base.Ns mainGlobals mg → TBs K mg base → CalD l.prog w K mg base k d.name m)
    (hm : Tells n m) : PySem.W.WalkO q loose XP YP l.row.toRowW d [] (fun f vs => PySem.call f vs) := by
  refine Att.attach_call h1 h3 fun w sa sh mg mb fl o pm cd doc al us zs G Y _ _ _ hx ho hz hlz hng => ?_
  obtain ⟨K, kin, tE, FF⟩ := F w mg sh.heap Y G.T.g
  exact told kin G.T.g G.T.b G.T.builtins G.T.nolimit hng tE G.T.bmain ho hz hlz h2 rm hx FF hm
end DL

namespace DL
open PySem PySem.Spec PyProof.Rows L2

section
variable {prog : Program} {w : World} {A : Around} {E : Value → Shared → Prop} {s : Shared} {K : PySem.W.Frag}
end
def keyI : SV → Option Int
  | .fr (.tup (.int i :: _)) => some i
  | _ => none
def keys : List SV → Option (List (SV × Int))
  | [] => some []
  | x :: xs => match keyI x, keys xs with
    | some i, some r => some ((x, i) :: r)
    | _, _ => none
def sortF (ps : List (SV × Int)) : List SV := (ps.mergeSort fun a b => decide (a.2 ≤ b.2)).map (·.1)
def sortG (c : Bool) (a : SV) (S : Store) : Res (SV × Store) := match rdS S a with
  | some xs => match keys xs with
    | some ps => newL0 c (sortF ps) S
    | none => .stuck
  | none => .stuck
section
variable {X : Cx} {W : XW X.K} {a : Expr} {ma : EM} {pos : Pos}
def eSortF (c : Bool) (m : EM) : EM := fun rho S => (m rho S).bind fun x => sortG c x.1 x.2
end
end DL

namespace DL
open PySem PySem.Spec PyProof.Rows L2

def insOf (S : Store) : SV → Option (Str × List (Str × SV))
  | .fr (.ins n fs) => some (n, fs.map fun p => (p.1, .fr p.2))
  | .cell k => match S[k]? with
    | some (.ins n fs) => some (n, fs)
    | _ => none
  | _ => none
section
variable {K : PySem.W.Frag} {ph : List Addr} {H : Hp} {S : Store}
theorem denSF_of : ∀ {vs : List (Str × V)} {fs : List (Str × D)}, DenF K (hide ph H) vs fs → DenSF K ph H vs (fs.map fun p => (p.1, SV.fr p.2))
  | _, _, .nil => .nil
  | _, _, .cons a r => .cons ⟨rfl, a⟩ (denSF_of r)
theorem insOf_ok {v : V} {x : SV} {n : Str} {fs : List (Str × SV)} (g : Good K ph H S) (d : DenS K ph H v x) (h : insOf S x = some (n, fs)) : ∃ a dx vs, v = .ref a ∧ H a = some (.ins (He.ga K n) dx vs) ∧ DenSF K ph H vs fs := by
  cases x with
  | fr d' =>
    cases d' with
    | ins m gs =>
      simp only [insOf, Option.some.injEq, Prod.mk.injEq] at h
      obtain ⟨rfl, rfl⟩ := h
      cases d with
      | ins s r => exact ⟨_, _, _, rfl, (hide_some s).2, denSF_of r⟩
    | _ => simp [insOf] at h
  | cell k =>
    obtain ⟨p, h1, rfl⟩ := d
    simp only [insOf] at h
    split at h
    · rename_i m gs hk
      simp only [Option.some.injEq, Prod.mk.injEq] at h
      obtain ⟨rfl, rfl⟩ := h
      obtain ⟨q, h3, dx, vs, h4, h5⟩ := g.at hk
      rw [h1] at h3; cases h3
      exact ⟨p, dx, vs, rfl, h4, h5⟩
    · cases h
def putS (f : Str) (v : SV) : List (Str × SV) → List (Str × SV)
  | [] => [(f, v)]
  | (g, x) :: r => if g = f then (g, v) :: r else (g, x) :: putS f v r
end
def fldG (ns : List Str) (f : Str) (x : SV) (S : Store) : Res (SV × Store) := match insOf S x with
  | some (n, fs) => if n ∈ ns then (match fs.lookup f with
    | some y => .ok (y, S)
    | none => .stuck) else .stuck
  | none => .stuck
def eFld (ns : List Str) (f : Str) (o : EM) : EM := fun rho S => (o rho S).bind fun x => fldG ns f x.1 x.2
section
variable {X : Cx} {W : XW X.K} {o e : Expr} {mo m : EM} {pos : Pos} {ns : List Str} {f : Str}
def sFldM (ns : List Str) (f : Str) (o m : EM) : SM := fun rho S => (m rho S).bind fun y => (o rho y.2).bind fun x => match x.1 with
  | .cell k => match x.2[k]? with
    | some (.ins n fs) => if n ∈ ns ∧ fs.length < 1000 then .ok (.nx, rho, x.2.set k (.ins n (putS f y.1 fs))) else .stuck
    | _ => .stuck
  | _ => .stuck
end

structure FunAt (P : Program) (w : World) (K : PySem.W.Frag) (mg : Str → Option Value) (base : Heap) (k : Nat) (f : Addr) (m : FnM) : Prop where
  ex : ∃ fd ps, PySem.W.keepIn K (.ref f) = true ∧ PySem.W.isFn K (.ref f) = true ∧ Binds K fd ps [] ∧ FnD P w K mg base k f fd ps m
section
variable {X : Cx} {pins : List (Addr × Obj)} {s : Shared} {σ : L2.St} {H : Hp} {A : Around} {k : Nat} {f : Addr} {m : FnM}
theorem runD {us : List Value} {vs : List V} {Q : VK} (F : FunAt X.prog X.w X.K X.mg X.base k f m) (e0 : Env0 X.prog X.w X.K X.mg X.base A X.stack s H) (hr : Room k A) (hg : A.guards = some []) (I : Inv X pins σ H s) (r : Vals vs us) (h : spD X.K m vs H Q E0) :
    wpAny (model X.prog X.w) A (call (.ref f) us) (EP X pins σ Q) X.xe s := by
  obtain ⟨fd, ps, _, _, hb, FF⟩ := F.ex
  have hl : (us ++ []).length = ps.length := by rw [List.append_nil, ← r.length]; exact FF.len _ _ _ _ h
  have bt := hb s us I.kIn hl
  rw [List.append_nil] at bt
  refine wpAny_call (codeAny_mono (FF.run A X.stack s H ⟨us, []⟩ us vs Q E0 hg hr e0 bt r h) fun r s' hq => ?_)
  cases r with
  | error e => exact passL pins σ H s e s' I hq
  | ok fl =>
    cases fl with
    | ret u => exact I.after hq
    | next => exact False.elim hq
    | brk => exact False.elim hq
    | cont => exact False.elim hq
end
end DL

namespace DL
open PySem PySem.Spec PyProof.Rows L2

abbrev Tbl := List (Str × FnM)
structure MetD (P : Program) (w : World) (K : PySem.W.Frag) (mg : Str → Option Value) (base : Heap) (k : Nat) (nm n : Str) (m : FnM) : Prop where
  ex : ∃ f, Cls K (He.ga K n) ∧ Meth K (He.ga K n) nm f ∧ FunAt P w K mg base k f m
section
variable {P : Program} {w : World} {K : PySem.W.Frag} {mg : Str → Option Value} {base : Heap} {j k : Nat} {nm n : Str} {m : FnM} {tbl : Tbl}
theorem FnD.mono {f : Addr} {fd : FuncData} {ps : List Str} (F : FnD P w K mg base j f fd ps m) (h : j ≤ k) : FnD P w K mg base k f fd ps m :=
  ⟨F.len, fun A outer s H args us vs Q E hg hr => F.run A outer s H args us vs Q E hg (hr.mono h)⟩
theorem FunAt.mono {f : Addr} (F : FunAt P w K mg base j f m) (h : j ≤ k) : FunAt P w K mg base k f m := by
  obtain ⟨fd, ps, a, b, c, d⟩ := F.ex
  exact ⟨fd, ps, a, b, c, d.mono h⟩
theorem MetD.mono (h : MetD P w K mg base j nm n m) (hk : j ≤ k) : MetD P w K mg base k nm n m := by
  obtain ⟨f, a, b, c⟩ := h.ex
  exact ⟨f, a, b, c.mono hk⟩
theorem tbl_mem {n : Str} {m : FnM} : ∀ {tbl : Tbl}, tbl.lookup n = some m → (n, m) ∈ tbl
  | [], h => by simp at h
  | (a, x) :: r, h => by
    rw [List.lookup_cons] at h
    cases q : n == a with
    | true =>
      rw [q] at h
      cases h
      have e : n = a := by simpa using q
      subst e
      exact List.mem_cons_self
    | false => rw [q] at h; exact List.mem_cons_of_mem _ (tbl_mem h)
end
def metOf (tbl : Tbl) (nm : Str) (S : Store) (x : SV) : Option FnM := match insOf S x with
  | some (n, fs) => if (fs.lookup nm).isNone then tbl.lookup n else none
  | none => none
def eMeth (cc : Bool) (tbl : Tbl) (nm : Str) (o : EM) (m : AM) : EM := fun rho S => (o rho S).bind fun x => match metOf tbl nm x.2 x.1 with
  | some f => (m rho x.2).bind fun y => (noX (f (x.1 :: y.1) y.2)).bind (back cc)
  | none => .stuck
section
variable {X : Cx} {W : XW X.K} {o e : Expr} {es : List Expr} {mo : EM} {m : AM} {pos apos : Pos} {nm : Str} {tbl : Tbl} {k : Nat}
def eMeth0 (cc : Bool) (tbl : Tbl) (nm : Str) (o : EM) : EM := fun rho S => (o rho S).bind fun x => match metOf tbl nm x.2 x.1 with
  | some f => (noX (f [x.1] x.2)).bind (back cc)
  | none => .stuck
end

def allFrF : List (Str × SV) → Option (List (Str × D))
  | [] => some []
  | (n, .fr d) :: r => (allFrF r).map ((n, d) :: ·)
  | (_, .cell _) :: _ => none
def mkEnd (c : Bool) (k : Nat) (r : RV × Store) : Res (SV × Store) := match r.1 with
  | .val (.fr .non) => match r.2[k]? with
    | some (.ins n fs) => if c then .ok (.cell k, r.2) else if (r.2.take k).all (Cell.below k) then match allFrF fs with
      | some ds => .ok (.fr (.ins n ds), r.2.take k)
      | none => .stuck else .stuck
    | _ => .stuck
  | _ => .stuck
def eMake (c : Bool) (n : Str) (f : FnM) (m : AM) : EM := fun rho S => (m rho S).bind fun y => (noX (f (.cell y.2.length :: y.1) (y.2 ++ [.ins n []]))).bind (mkEnd c y.2.length)
section
variable {X : Cx} {W : XW X.K} {e : Expr} {es : List Expr} {m : AM} {pos p : Pos} {n : Str} {k : Nat} {f : FnM}
end
end DL

namespace DL
open PySem PySem.Spec PyProof.Rows L2

section
variable {X : Cx} {W : XW X.K} {pos : Pos}
def tupleG : GA := fun as S => match as with
  | [a] => match rdS S a with
    | some xs => match allFr xs with
      | some ds => .ok (.fr (.tup ds), S)
      | none => .stuck
    | none => match a with
      | .fr (.tup ds) => .ok (.fr (.tup ds), S)
      | _ => .stuck
  | _ => .stuck
theorem tuple_ok : OpA X W (fun xs H Q => ∃ p ys, xs = [V.ref p] ∧ ((SqL X.K H p ys ∧ ∀ l, H l = none → Q (.ref l) (upd H l (.tup ys))) ∨ (SqT X.K H p ys ∧ Q (.ref p) H))) tupleG := by
  intro ph S H xs as Q g d h
  unfold tupleG at h
  split at h
  · rename_i a
    obtain ⟨v, rfl, dv⟩ := one_of d
    split at h
    · rename_i ys hy
      obtain ⟨p, vs, rfl, s, r⟩ := rdS_ok g dv hy
      split at h
      · rename_i ds hds
        refine ⟨p, vs, rfl, .inl ⟨s, fun l hl => ?_⟩⟩
        have e : DL.Ext ph H ph (upd H l (.tup vs)) := Ext.fresh hl
        refine h ph (.ref l) _ e (g.fresh hl) (.tup (hide_of (g.new hl) upd_same) ?_)
        rw [allFr_eq hds] at r
        exact (dens_of r).mono e.sub
      · exact h.elim
    · split at h
      · obtain ⟨p, vs, rfl, s, r⟩ := d_tupH dv
        exact ⟨p, vs, rfl, .inr ⟨hide_sub.sqT (.inl (.inl s)), fin_v g (.tup s r) h⟩⟩
      · exact h.elim
  · exact h.elim
def intsOf : List SV → Option (List Int)
  | [] => some []
  | .fr (.int i) :: r => (intsOf r).map (i :: ·)
  | _ => none
def blsOf : List SV → Option (List Bool)
  | [] => some []
  | .fr (.bl i) :: r => (blsOf r).map (i :: ·)
  | _ => none
theorem blsOf_ok {K : PySem.W.Frag} {ph : List Addr} {H : Hp} : ∀ {xs : List SV} {vs : List V} {ns : List Bool}, DenSs K ph H vs xs → blsOf xs = some ns → vs = ns.map V.bl
  | [], _, ns, .nil, e => by simp [blsOf] at e; subst e; rfl
  | .fr (.bl i) :: r, v :: vs, ns, .cons d t, e => by
    simp only [blsOf, Option.map_eq_some_iff] at e
    obtain ⟨ms, h1, rfl⟩ := e
    rw [d_bl d, blsOf_ok t h1]; rfl
def allG : GA := fun as S => match as with
  | [a] => match (rdS S a).bind blsOf with
    | some ns => okV (.bl (ns.all id)) S
    | none => .stuck
  | _ => .stuck
theorem all_ok : OpA X W (rAll X.K) allG := by
  intro ph S H xs as Q g d h
  unfold allG at h
  split at h
  · obtain ⟨v, rfl, dv⟩ := one_of d
    split at h
    · rename_i ns hn
      obtain ⟨ys, hy, hn⟩ := Option.bind_eq_some_iff.mp hn
      obtain ⟨p, vs, rfl, s, r⟩ := rdS_ok g dv hy
      rw [blsOf_ok r hn] at s
      exact ⟨p, ns, rfl, s, fin_v g (.bl _) h⟩
    · exact h.elim
  · exact h.elim

def tyN (S : Store) : SV → Option String
  | .fr .non => some "NoneType"
  | .fr (.bl _) => some "bool"
  | .fr (.int _) => some "int"
  | .fr (.str _) => some "str"
  | .fr (.tup _) => some "tuple"
  | .fr (.lst _) => some "list"
  | .fr (.scr _) => some "list"
  | .fr (.dct _) => some "dict"
  | .cell k => match S[k]? with
    | some (.lst _) => some "list"
    | some (.dic _) => some "dict"
    | some (.dit _) => some "dict"
    | _ => none
  | _ => none
def kin (a b : String) : Option Bool := if a ∈ ["NoneType", "bool", "int", "str", "tuple", "list", "dict"] ∧ b ∈ ["bool", "int", "str", "tuple", "list", "dict"] then some (a == b || (a == "bool" && b == "int")) else none
theorem kin_ok {a b : String} {r : Bool} (h : kin a b = some r) : kitB a b = some r := by
  unfold kin at h
  split at h
  · rename_i hm
    cases h
    obtain ⟨h1, h2⟩ := hm
    have key : ∀ x ∈ ["NoneType", "bool", "int", "str", "tuple", "list", "dict"], ∀ y ∈ ["bool", "int", "str", "tuple", "list", "dict"], kitB x y = some (x == y || (x == "bool" && y == "int")) := by decide +kernel
    exact key a h1 b h2
  · cases h
theorem sqL_ty {K : PySem.W.Frag} {H : Hp} {a : Addr} {xs : List V} (h : SqL K H a xs) : TyX K H (.ref a) (.type "list") := by
  rcases h with (h | ⟨o, h⟩) | ⟨o, its, n, hk, hc, _⟩
  · exact .base (.lst h)
  · exact .base (.frz h)
  · exact .kList hk hc
theorem sqT_ty {K : PySem.W.Frag} {H : Hp} {a : Addr} {xs : List V} (h : SqT K H a xs) : TyX K H (.ref a) (.type "tuple") := by
  rcases h with (h | ⟨o, h⟩) | ⟨o, its, n, hk, hc, _⟩
  · exact .base (.tup h)
  · exact .fTuple h
  · exact .kTuple hk hc
theorem tyN_ok {K : PySem.W.Frag} {ph : List Addr} {S : Store} {H : Hp} {v : V} {x : SV} {t : String} (g : Good K ph H S) (d : DenS K ph H v x) (h : tyN S x = some t) : TyX K H v (.type t) := by
  unfold tyN at h
  split at h
  · cases h; rw [d_non d]; exact .base .non
  · cases h; rw [d_bl d]; exact .base (.bl _)
  · cases h; rw [d_int d]; exact .base (.int _)
  · cases h; rw [d_str d]; exact .base (.str _)
  · cases h
    obtain ⟨p, vs, rfl, s, r⟩ := d_tup d
    exact sqT_ty (hide_sub.sqT s)
  · cases h
    obtain ⟨p, vs, rfl, s, r⟩ := rdS_ok g d rfl
    exact sqL_ty s
  · cases h
    obtain ⟨p, vs, rfl, s, r⟩ := rdS_ok g d rfl
    exact sqL_ty s
  · cases h
    cases (show Den K (hide ph H) v _ from d) with
    | dct e r => exact .base (.dK (hide_some e).2)
  · split at h
    · rename_i k xs hk
      cases h
      obtain ⟨p, vs, rfl, s, r⟩ := rdS_ok (xs := xs) g d (by simp [rdS, rdL, hk])
      exact sqL_ty s
    · rename_i k kvs hk
      cases h
      obtain ⟨p, hp, rfl⟩ := d
      obtain ⟨vs, h4, h5⟩ := paired_at g.cells hp hk
      exact .base (.dK h4)
    · rename_i k kvs hk
      cases h
      obtain ⟨p, hp, rfl⟩ := d
      obtain ⟨vs, h4, h5⟩ := paired_at g.cells hp hk
      exact .base (.dT h4)
    · cases h
  · cases h
def isiG : GA := fun as S => match as with
  | [x, .fr (.ty b)] => match (tyN S x).bind fun a => kin a b with
    | some r => okV (.bl r) S
    | none => .stuck
  | _ => .stuck
theorem isi_ok : OpA X W (rIsi X.K) isiG := by
  intro ph S H xs as Q g d h
  unfold isiG at h
  split at h
  · rename_i x b
    obtain ⟨v, u, rfl, dv, du⟩ := two_of d
    split at h
    · rename_i r hr
      obtain ⟨a, ha, hk⟩ := Option.bind_eq_some_iff.mp hr
      have e : u = .ty b := by cases (show Den X.K (hide ph H) u (.ty b) from du); rfl
      subst e
      exact ⟨v, .ty b, .type a, .type b, r, rfl, .ty b, tyN_ok g dv ha, kit_ty (kin_ok hk), fin_v g (.bl _) h⟩
    · exact h.elim
  · exact h.elim
theorem pd_ty {x : Str} {T : String} (hm : X.mg x = none) (hv : bootBuiltins x = some (.type T)) (hg : Gl X x := by rfl) (hn : x ≠ "__name__" := by decide) (hdb : (x == ("__debug__" : Str)) = false := by decide) : PD X W (.Name x pos) (eC (.ty T)) :=
  pd_const ⟨fun pins s σ H Q I h => ld_blt I hg hm hv ⟨.ty T, H, I, rfl, h⟩ hn hdb⟩ fun _ => .ty _
end
end DL

namespace DL
open PySem PySem.Spec PyProof.Rows L2

structure OpD (P : Program) (w : World) (K : PySem.W.Frag) (mg : Str → Option Value) (base : Heap) (k : Nat) (nm n : Str) (m : FnM) : Prop where
  ex : ∃ f, PySem.W.findIn K (.ref (He.ga K n)) nm = some (some (.ref f)) ∧ PySem.W.selfFirst K (He.ga K n) = true ∧ FunAt P w K mg base k f m
def OpsD (P : Program) (w : World) (K : PySem.W.Frag) (mg : Str → Option Value) (base : Heap) (k : Nat) (nm : Str) (tbl : Tbl) : Prop := ∀ p ∈ tbl, OpD P w K mg base k nm p.1 p.2
section
variable {P : Program} {w : World} {K : PySem.W.Frag} {mg : Str → Option Value} {base : Heap} {j k : Nat} {nm n : Str} {m : FnM} {tbl : Tbl}
theorem OpD.mono (h : OpD P w K mg base j nm n m) (hk : j ≤ k) : OpD P w K mg base k nm n m := by
  obtain ⟨f, a, b, c⟩ := h.ex
  exact ⟨f, a, b, c.mono hk⟩
theorem ops_nil : OpsD P w K mg base k nm [] := fun _ h => nomatch h
end
section
variable {X : Cx} {W : XW X.K} {pins : List (Addr × Obj)} {s : Shared} {σ : L2.St} {H : Hp} {k : Nat} {tbl : Tbl} {a b : Expr} {ma mb : EM} {pos : Pos}
def rOwnIn (K : PySem.W.Frag) (tbl : Tbl) (ng : Bool) : R2 := fun x y H Q => ∃ b n dx vs f, y = .ref b ∧ H b = some (.ins (He.ga K n) dx vs) ∧ tbl.lookup n = some f ∧ spD K f [.ref b, x] H (fun v H' => ∃ r, v = .bl r ∧ Q (.bl (if ng then !r else r)) H') E0
theorem truthy_bl {Q : VK} {v : Value} {s' : Shared} {E : Value → Shared → Prop} (ng : Bool) (h : EP X pins σ (fun v H' => ∃ r, v = .bl r ∧ Q (.bl (if ng then !r else r)) H') v s') :
    wpAny (model X.prog X.w) X.A (truthy v) (fun b => EP X pins σ Q (.bool (if ng then !b else b))) E s' := by
  obtain ⟨x, H', I, rx, r, rfl, q⟩ := h
  obtain rfl : v = Value.bool r := rx
  exact wpAny_truthy_bool ⟨.bl (if ng then !r else r), H', I, rfl, q⟩
theorem op_ownIn (T : OpsD X.prog X.w X.K X.mg X.base k "__contains__" tbl) (hr : Room k X.A) (hgd : X.A.guards = some []) : OpR X (compareOp .In) (rOwnIn X.K tbl false) := by
  intro pins s σ H x y v u Q I rx ry h
  obtain ⟨b, n, dx, vs, f, rfl, ha, hf, q⟩ := h
  obtain rfl : u = Value.ref b := ry
  obtain ⟨g, hfi, hsf, F⟩ := (T _ (tbl_mem hf)).ex
  obtain ⟨mA, J, _⟩ := ins_get I.hok ha
  obtain ⟨od, J, _⟩ := J.look
  obtain ⟨m, hF⟩ := I.fr
  obtain ⟨_, _, _, hfn, _⟩ := F.ex
  exact PySem.W.in_K hF I.ok.mod.kin J hfi hfn (wpAny_mono (runD (us := [.ref b, v]) (vs := [.ref b, x]) F I.env0 hr hgd I (.cons rfl (.cons rx .nil)) q) (fun v' s' hq => truthy_bl false hq) fun _ _ e => e)
def blEnd (ng : Bool) (r : RV × Store) : Res (SV × Store) := match r.1 with
  | .val (.fr (.bl b)) => okV (.bl (if ng then !b else b)) r.2
  | _ => .stuck
theorem blEnd_ok {ph : List Addr} {H : Hp} {Q : VK} {ng : Bool} {r : RV × Store} {E : Exc → Slots → Store → Prop} (h : holds (blEnd ng r) (post X.K ph H Q) E) : postF X.K ph H (fun v H' => ∃ r, v = .bl r ∧ Q (.bl (if ng then !r else r)) H') r := by
  intro v H2 x2 g2 d2
  obtain ⟨rv, S2⟩ := r
  unfold blEnd at h
  dsimp only at *
  split at h
  · rename_i b
    exact ⟨b, d_bl (show DenS X.K ph H2 v (.fr (.bl b)) from d2), h ph _ H2 x2 g2 (Den.bl _)⟩
  · exact h.elim
def ownInG (tbl : Tbl) (ng : Bool) : G2 := fun x b S => match insOf S b with
  | some (n, _) => (match tbl.lookup n with
    | some f => (noX (f [b, x] S)).bind (blEnd ng)
    | none => .stuck)
  | _ => .stuck
theorem ownIn_ok (ng : Bool) : Op2 X W (rOwnIn X.K tbl ng) (ownInG tbl ng) := by
  intro ph S H x y a b Q g da db h
  unfold ownInG at h
  split at h
  · rename_i n fs h1
    obtain ⟨p, dx, vs, rfl, e1, _⟩ := insOf_ok g db h1
    split at h
    · rename_i f hf
      exact ⟨p, n, dx, vs, f, rfl, e1, hf, ph, S, [b, a], g, .cons db (.cons da .nil), noX_ok (holds_imp (holds_bind h) (fun r hr => blEnd_ok hr) fun _ _ _ q => q)⟩
    · exact h.elim
  · exact h.elim
end
end DL

namespace DLB
open PySem
section
variable {prog : Program} {w : World} {A : Around} {E : Value → Shared → Prop} {s : Shared}
end
end DLB

namespace DL
open PySem PySem.Spec PyProof.Rows L2
section
variable {X : Cx} {W : XW X.K} {pins : List (Addr × Obj)} {s : Shared} {σ : L2.St} {H : Hp} {k : Nat} {tbl : Tbl} {a b : Expr} {ma mb : EM} {pos : Pos}
def inLG (ng : Bool) : G2 := fun x b S => match snap S x, snap S b with
  | some d, some (.lst ds) => if plain d && plain (.lst ds) then okV (.bl (if ng then !(ds.any fun z => deq z d) else ds.any fun z => deq z d)) S else .stuck
  | some d, some (.scr ds) => if plain d && plain (.lst ds) then okV (.bl (if ng then !(ds.any fun z => deq z d) else ds.any fun z => deq z d)) S else .stuck
  | _, _ => .stuck
theorem any_pys (d : PyData) : ∀ ds : List D, ((pys ds).any fun z => PyData.eqv z d) = ds.any fun z => PyData.eqv (py z) d
  | [] => rfl
  | z :: ds => by rw [pys, List.any_cons, List.any_cons, any_pys d ds]
def inG (tbl : Tbl) (ng : Bool) : G2 := fun x b S => match insOf S b with
  | some _ => ownInG tbl ng x b S
  | none => inLG ng x b S
theorem inL_ok {ph : List Addr} {S : Store} {H : Hp} {x y : V} {a b : SV} {ng : Bool} {Q : VK} {E : Exc → Slots → Store → Prop} (g : Good X.K ph H S) (da : DenS X.K ph H x a) (db : DenS X.K ph H y b) (h : holds (inLG ng a b S) (post X.K ph H Q) E) :
    ∃ d ds, Dp X.K H x d ∧ Dp X.K H y (.list ds) ∧ SeqAt.shaped d = true ∧ SeqAt.shaped (.list ds) = true ∧ Q (.bl (if ng then !(ds.any fun z => PyData.eqv z d) else ds.any fun z => PyData.eqv z d)) H := by
  unfold inLG at h
  split at h
  · rename_i d ds h1 h2
    split at h
    · rename_i hp
      simp only [Bool.and_eq_true, plain] at hp
      have q1 := dp_of hp.1.1 (snap_ok g da h1)
      have q2 := dp_of hp.2.1 (snap_ok g db h2)
      have hs := hp.2.2
      simp only [py] at q2 hs
      refine ⟨py d, pys ds, q1, q2, hp.1.2, hs, ?_⟩
      rw [any_pys]
      exact fin_v g (.bl _) h
    · exact h.elim
  · rename_i d ds h1 h2
    split at h
    · rename_i hp
      simp only [Bool.and_eq_true, plain] at hp
      have q1 := dp_of hp.1.1 (snap_ok g da h1)
      have e : isP (.scr ds) = true := by simpa only [isP] using hp.2.1
      have q2 := dp_of e (snap_ok g db h2)
      have hs := hp.2.2
      simp only [py] at q2 hs
      refine ⟨py d, pys ds, q1, q2, hp.1.2, hs, ?_⟩
      rw [any_pys]
      exact fin_v g (.bl _) h
    · exact h.elim
  · exact h.elim
theorem in_ok : Op2 X W (fun x y H Q => rInD X.K x y H Q ∨ rOwnIn X.K tbl false x y H Q) (inG tbl false) := by
  intro ph S H x y a b Q g da db h
  unfold inG at h
  split at h
  · exact .inr (ownIn_ok false ph S H x y a b Q g da db h)
  · exact .inl (inL_ok (ng := false) g da db h)
theorem pd_in (T : OpsD X.prog X.w X.K X.mg X.base k "__contains__" tbl) (hr : Room k X.A) (hgd : X.A.guards = some []) (hu : X.A.units + 65 < cLine) (ha : PD X W a ma) (hb : PD X W b mb) (hm : behindInMarks .In b = false := by first | exact nomark _ | rfl) : PD X W (.Compare a [.In] [b] pos) (e2 (inG tbl false) ma mb) :=
  pd_cmp ((op_inD hu).or (op_ownIn T hr hgd)) in_ok ha hb hm
theorem pt_in (T : OpsD X.prog X.w X.K X.mg X.base k "__contains__" tbl) (hr : Room k X.A) (hgd : X.A.guards = some []) (hu : X.A.units + 65 < cLine) (ha : PD X W a ma) (hb : PD X W b mb) (hm : behindInMarks .In b = false := by first | exact nomark _ | rfl) : PDT X W (.Compare a [.In] [b] pos) (tB (e2 (inG tbl false) ma mb)) :=
  pt_2 ((op_inD hu).or (op_ownIn T hr hgd)) in_ok ha hb hm
end
end DL

namespace DL
open PySem PySem.Spec PyProof.Rows L2

section
variable {X : Cx} {W : XW X.K} {e : Expr} {es : List Expr} {m : AM} {pos p apos : Pos} {nm n : Str} {k : Nat} {f : FnM}
theorem pd_cls (hm : X.mg n = some (.ref (He.ga X.K n))) (hg : Gl X n := by rfl) (hdb : (n == ("__debug__" : Str)) = false := by decide) : PD X W (.Name n pos) (eC (.cls n)) :=
  pd_const (pe_glob hg hm (v := .ref (He.ga X.K n)) rfl hdb) fun _ => .cls n
end
end DL

namespace DL
open PySem PySem.Spec PyProof.Rows L2

section
variable {P : Program} {w : World} {K : PySem.W.Frag} {mg : Str → Option Value} {base : Heap}
end
section
variable {fs : List Fc} {fn : List He5.DefA} {K : PySem.W.Frag}
theorem SaysF.fact (c : SaysF fs fn K) (i : Nat) {f : Fc} (h : fs[i]? = some f := by rfl) : f K = true := by
  have q : (obsF fs fn K).1 = true := by rw [show obsF fs fn K = He5.valA fn from c]; rfl
  exact List.all_eq_true.mp (Bool.and_eq_true_iff.mp q).1 f (List.mem_of_getElem? h)
theorem SaysF.def_ (c : SaysF fs fn K) (i : Nat) {d : He5.DefA} (h : fn[i]? = some d := by rfl) : ∃ fd, L2.FunD K d.name d.qual d.params d.body d.scope (d.dvs K) (d.kws K) (d.at_ K) fd := by
  have q : (obsF fs fn K).1 = true := by rw [show obsF fs fn K = He5.valA fn from c]; rfl
  have q2 : (obsF fs fn K).2 = (He5.valA fn).2 := by rw [show obsF fs fn K = He5.valA fn from c]
  have q3 : (fn.map fun d => He5.fnA K (d.at_ K))[i]? = (fn.map He5.DefA.val)[i]? := by rw [show fn.map (fun d => He5.fnA K (d.at_ K)) = fn.map He5.DefA.val from q2]
  rw [List.getElem?_map, List.getElem?_map, h] at q3
  exact He5.DefA.funD (Option.some.inj q3) (List.all_eq_true.mp (Bool.and_eq_true_iff.mp q).2 d (List.mem_of_getElem? h))
end
section
variable {P : Program} {w : World} {K : PySem.W.Frag} {mg : Str → Option Value} {base h : Heap} {k : Nat} {n m f x y : Str} {g : FnM}
end
theorem u65 {k : Nat} {A : Around} (hr : Room k A) : A.units + 65 < cLine := by
  have := hr.un
  omega
end DL

namespace DL
open PySem PySem.Spec PyProof.Rows L2

def srcM (S : Store) : SV → Option (List D × (Store → Prop))
  | .fr (.tup _) => none
  | .fr d => ((rdS S (.fr d)).bind allFr).map fun ds => (ds, fun _ => True)
  | .cell k => (rdL S (.cell k)).bind fun xs => (allFr xs).map fun ds => (ds, fun S' => S'[k]? = some (.lst xs))
def enF (n : Nat) : List D → List SV
  | [] => []
  | d :: ds => .fr (.tup [.int (n : Nat), d]) :: enF (n + 1) ds
theorem pair_den {K : PySem.W.Frag} {ph : List Addr} {H : Hp} {S : Store} {T : Addr} {u v : V} {d e : D} (g : Good K ph H S) (hT : H T = none) (hu : DenS K ph H u (.fr d)) (hv : DenS K ph H v (.fr e)) :
    Ext ph H ph (upd H T (.tup [u, v])) ∧ Good K ph (upd H T (.tup [u, v])) S ∧ DenS K ph (upd H T (.tup [u, v])) (.ref T) (.fr (.tup [d, e])) := by
  have x : Ext ph H ph (upd H T (.tup [u, v])) := Ext.fresh hT
  refine ⟨x, g.fresh hT, .tup (vs := [u, v]) (hide_of (g.new hT) upd_same) ?_⟩
  exact .cons (hu.mono x) (.cons (hv.mono x) .nil)
def iEn (m : AM) : IM := fun rho S => (m rho S).bind fun x => match x.1 with
  | [a] => match srcM x.2 a with
    | some (ds, lk) => .ok (⟨enF 0 ds, lk⟩, x.2)
    | none => .stuck
  | _ => .stuck
def ziF (ds es : List D) : List SV := List.zipWith (fun d e => SV.fr (.tup [d, e])) ds es
def iZi (m : AM) : IM := fun rho S => (m rho S).bind fun x => match x.1 with
  | [a, b] => match srcM x.2 a, srcM x.2 b with
    | some (ds, lk), some (es, lk') => .ok (⟨ziF ds es, fun S => lk S ∧ lk' S⟩, x.2)
    | _, _ => .stuck
  | _ => .stuck
section
variable {X : Cx} {W : XW X.K} {a b : Expr} {pos p tpos : Pos} {elts : List Expr} {kk : Nat} {m : AM}
end
end DL

namespace DL
open PySem PySem.Spec PyProof.Rows L2

section
variable {P : Program} {w : World} {A : Around} {E : Value → Shared → Prop} {s : Shared}
abbrev bare (w : World) : Obj := { cls := .type "set", dict := none, data := .set #[] 0 (.fresh 0 0 (!w.params.followText "set-order")) }
end
end DL

namespace DL
open PySem PySem.Spec PyProof.Rows L2

def insU (k : Int) : List Int → List Int
  | [] => [k]
  | x :: xs => if k < x then k :: x :: xs else if k = x then x :: xs else x :: insU k xs
def asc (ns : List Int) : List Int := ns.foldr insU []
theorem nodup_le : ∀ {xs ys : List Int}, xs.Nodup → (∀ x ∈ xs, x ∈ ys) → xs.length ≤ ys.length
  | [], _, _, _ => Nat.zero_le _
  | x :: xs, ys, h, k => by
    obtain ⟨h1, h2⟩ := List.nodup_cons.mp h
    have hx := k x List.mem_cons_self
    have l := List.length_erase_of_mem hx
    have q := nodup_le (ys := ys.erase x) h2 fun y hy => by
      have ne : y ≠ x := fun e => by subst e; exact h1 hy
      exact (List.mem_erase_of_ne ne).mpr (k y (List.mem_cons_of_mem _ hy))
    have p := List.length_pos_of_mem hx
    simp only [List.length_cons]
    omega
def rSetL (X : Cx) : List V → Hp → VK → Prop := fun xs H Q => ∃ (l : Addr) (ns : List Int), xs = [V.ref l] ∧ SqL X.K H l (ns.map V.int) ∧ ns.length < 4000 ∧
  ∀ (p : Addr) (n : Nat), n = (asc ns).length → H p = none → Q (.ref p) (upd H p (SetO X.w p (fun j => decide (j ∈ ns)) n))
section
variable {X : Cx} {W : XW X.K} {a : Expr} {m : EM} {p p2 q pos : Pos}
def sortSetG (c : Bool) (x : SV) (S : Store) : Res (SV × Store) := match (rdS S x).bind intsOf with
  | some ns => if ns.length < 4000 ∧ (asc ns).length < 64 then newL0 c ((asc ns).map fun i => SV.fr (.int i)) S else .stuck
  | none => .stuck
def eSortSet (c : Bool) (m : EM) : EM := fun rho S => (m rho S).bind fun x => sortSetG c x.1 x.2
end
theorem pd_cint {X : Cx} {W : XW X.K} {pos : Pos} {x : Str} {i : Int} (hm : ∃ t, X.mg x = some (.int i t)) (hg : Gl X x := by rfl) (hdb : (x == ("__debug__" : Str)) = false := by decide) : PD X W (.Name x pos) (eC (.int i)) := by
  obtain ⟨t, hm⟩ := hm
  exact pd_const (pe_glob hg hm (v := .int i) ⟨t, rfl⟩ hdb) fun _ => .int i
theorem pd_cstr {X : Cx} {W : XW X.K} {pos : Pos} {x z : Str} (hm : ∃ t, X.mg x = some (.str z t)) (hg : Gl X x := by rfl) (hdb : (x == ("__debug__" : Str)) = false := by decide) : PD X W (.Name x pos) (eC (.str z)) := by
  obtain ⟨t, hm⟩ := hm
  exact pd_const (pe_glob hg hm (v := .str z) ⟨t, rfl⟩ hdb) fun _ => .str z
theorem cint_of {K : PySem.W.Frag} {mg : Str → Option Value} {h : Heap} {x : Str} {i : Int} (X : K.In h) (G : h.Ns mainGlobals mg) (c : fcInt x i K = true) : ∃ t, mg x = some (.int i t) := He.int_ok X G c
theorem cstr_of {K : PySem.W.Frag} {mg : Str → Option Value} {h : Heap} {x z : Str} (X : K.In h) (G : h.Ns mainGlobals mg) (c : fcStr x z K = true) : ∃ t, mg x = some (.str z t) := He.str_ok X G c
end DL

namespace DL
open PySem PySem.Spec PyProof.Rows L2

section
variable {X : Cx} {W : XW X.K} {pos : Pos}
def gUl (n : Nat) (m : GMs) : GM := fun x rho S => match rdS S x with
  | some xs => if xs.length = n then m xs rho S else .stuck
  | none => .stuck
theorem pgd_unl {is : List Nat} {es : List Expr} {k n : Nat} {m : GMs} (hc : X.calm = true) (h : PGDs X W is es m) (hn : (assignEach es X.env).length = n := by rfl) (hst : (assignEach es X.env).findIdx? (·.1) = none := by rfl) : PGD X W is (.Tuple es k pos) (gUl n m) := by
  obtain ⟨t, p, s⟩ := h.ex
  refine ⟨_, pg_unl hc p hn hst, fun ph S H sg rho v x Q g so d h => ?_⟩
  unfold gUl at h
  split at h
  · rename_i xs hx
    split at h
    · rename_i hl
      obtain ⟨q, vs, rfl, sq, r⟩ := rdS_ok g d hx
      exact ⟨q, vs, rfl, sq, by rw [r.length]; exact hl, s ph S H sg rho _ _ Q g so r h⟩
    · exact h.elim
  · exact h.elim
theorem three_of {K : PySem.W.Frag} {ph : List Addr} {H : Hp} {vs : List V} {x y z : SV} (h : DenSs K ph H vs [x, y, z]) : ∃ v u w, vs = [v, u, w] ∧ DenS K ph H v x ∧ DenS K ph H u y ∧ DenS K ph H w z := by
  cases h with
  | cons h t =>
    obtain ⟨u, w, rfl, q, r⟩ := two_of t
    exact ⟨_, u, w, rfl, h, q, r⟩
def sPar3 (i j l : Nat) (m : AM) : SM := fun rho S => (m rho S).bind fun x => match x.1 with
  | [u, v, w] => .ok (.nx, ((rho.set i (some u)).set j (some v)).set l (some w), x.2)
  | _ => .stuck
theorem psd_par3 {i j k : Nat} {x y z : Str} {a b c : Expr} {m : AM} {px py pz pt : Pos} {kt k2 : Nat} {pt2 : Pos} (hc : X.calm = true) (hN : X.N.Nodup) (ha : PDA X W [a, b, c] m) (hi : X.N[i]? = some x := by rfl) (hj : X.N[j]? = some y := by rfl) (hk : X.N[k]? = some z := by rfl) (hij : i ≠ j := by decide) (hik : i ≠ k := by decide) (hjk : j ≠ k := by decide)
    (hx : X.env.scope.names.lookup x = some .local := by rfl) (hy : X.env.scope.names.lookup y = some .local := by rfl) (hz : X.env.scope.names.lookup z = some .local := by rfl) (hw : swappedStores [.Tuple [.Name x px, .Name y py, .Name z pz] kt pt] (.Tuple [a, b, c] k2 pt2) X.env = pure (some [x, y, z]) := by rfl)
    (hs : swapsWithSole [.Tuple [.Name x px, .Name y py, .Name z pz] kt pt] (.Tuple [a, b, c] k2 pt2) pos.line X.env = pure false := by rfl) : PSD X W (.Assign [.Tuple [.Name x px, .Name y py, .Name z pz] kt pt] (.Tuple [a, b, c] k2 pt2) pos) (sPar3 i j k m) := by
  obtain ⟨t, p, s⟩ := ha.ex
  refine ⟨_, ps_par3 hc hN hi hj hk hij hik hjk hx hy hz p hw hs, fun ph S H sg rho Dn g so h => s ph S H sg rho _ g so (holds_imp (holds_bind h) (fun z hz => ?_) fun _ _ _ q => q)⟩
  intro ph1 vs H1 x1 g1 d1
  obtain ⟨xs, S1⟩ := z
  dsimp only at *
  split at hz
  · obtain ⟨v, u, w, rfl, dv, du, dw⟩ := three_of d1
    exact ⟨v, u, w, rfl, hz ph1 _ H1 x1 g1 ((((so.mono x1).set i dv).set j du).set k dw)⟩
  · exact hz.elim
end
end DL

namespace DL
open PySem PySem.Spec PyProof.Rows L2

section
variable {X : Cx} {W : XW X.K} {e : Expr} {es : List Expr} {m : AM} {t : TA} {pos p apos : Pos} {nm n : Str} {k : Nat} {f : FnM}
def eCmA (cc : Bool) (n : Str) (f : FnM) (m : AM) : EM := fun rho S => (m rho S).bind fun y => (noX (f (.fr (.cls n) :: y.1) y.2)).bind (back cc)
end
section
variable {X : Cx} {W : XW X.K} {a : Expr} {m : EM} {k : Nat} {p1 p2 p3 pos : Pos}
def revG (c : Bool) (x : SV) (S : Store) : Res (SV × Store) := match rdS S x with
  | some xs => newL0 c xs.reverse S
  | none => .stuck
def eRev (c : Bool) (m : EM) : EM := fun rho S => (m rho S).bind fun x => revG c x.1 x.2
end
end DL

namespace DL
open PySem PySem.Spec PyProof.Rows L2
def isBG (n : Bool) : G2 := fun a b S => match a, b with
  | .fr (.bl x), .fr (.bl y) => okV (.bl (if n then !decide (x = y) else decide (x = y))) S
  | _, _ => .stuck
section
variable {X : Cx} {W : XW X.K}
variable {a b : Expr} {ma mb : EM} {pos : Pos}
end
theorem r_isB (n x y : Bool) (S : Store) : isBG n (.fr (.bl x)) (.fr (.bl y)) S = .ok (.fr (.bl (if n then !decide (x = y) else decide (x = y))), S) := id rfl
end DL

namespace DL
open PySem PySem.Spec PyProof.Rows L2
section
variable {P : Program} {w : World} {K : PySem.W.Frag} {mg : Str → Option Value} {base : Heap}
end
def fillN (f : FnM) : FnM := fun as S => f (as ++ [.fr .non]) S
def k_cw1 (n : Nat) (f : FnM) (cc : Bool) (xs : List SV) (y : List SV × Store) : Res (SV × Store) := if xs.length = n ∧ y.1.length = 1 then (noX (f (xs ++ y.1) y.2)).bind (back cc) else .stuck
def k_cw (n : Nat) (f : FnM) (cc : Bool) (mk : AM) (rho : Slots) (x : List SV × Store) : Res (SV × Store) := (mk rho x.2).bind (k_cw1 n f cc x.1)
def eCallW (n : Nat) (f : FnM) (cc : Bool) (m mk : AM) : EM := fun rho S => (m rho S).bind (k_cw n f cc mk rho)
theorem r_cw (n : Nat) (f : FnM) (cc : Bool) (m mk : AM) (rho : Slots) (S : Store) : eCallW n f cc m mk rho S = (m rho S).bind (k_cw n f cc mk rho) := id rfl
theorem s_cw (n : Nat) (f : FnM) (cc : Bool) (mk : AM) (rho : Slots) (xs : List SV) (S : Store) : k_cw n f cc mk rho (xs, S) = (mk rho S).bind (k_cw1 n f cc xs) := id rfl
theorem s_cw1 {n : Nat} {xs : List SV} (h : xs.length = n) (f : FnM) (cc : Bool) (y : SV) (S : Store) : k_cw1 n f cc xs ([y], S) = (noX (f (xs ++ [y]) S)).bind (back cc) := if_pos ⟨h, rfl⟩
theorem r_fill (f : FnM) (as : List SV) (S : Store) : fillN f as S = f (as ++ [.fr .non]) S := id rfl
section
variable {X : Cx} {W : XW X.K} {x : Str} {p pos : Pos} {e : Expr} {es : List Expr} {m : AM}
end
section
variable {K : PySem.W.Frag} {x qual key : Str} {params : Arguments} {body : List Stmt} {scope : Scope} {f : Addr} {fd : FuncData} {ps : List Str}
end
end DL

namespace DL
open PySem PySem.Spec PyProof.Rows L2
section
variable {X : Cx} {W : XW X.K}
end
end DL

namespace DLN
open PySem PySem.W PySem.Calls PyProof.Rows
section
variable {prog : Program} {w : World} {A : Around} {E : Value → Shared → Prop} {s : Shared} {K : Frag} {x C L f : Addr} {h₀ : Heap} {m : Str → Option Value} {ox : Obj} {od : Option Obj} {name : Str} {b tb : Value}
end
end DLN
namespace DL
open PySem PySem.Spec PyProof.Rows L2
section
variable {X : Cx} {W : XW X.K} {pins : List (Addr × Obj)} {s : Shared} {σ : L2.St} {H : Hp} {k : Nat} {tbl : Tbl} {ns : List Str} {a b : Expr} {ma mb : EM} {pos : Pos}
end
end DL

namespace DL
open PySem PySem.Spec PyProof.Rows L2
section
variable {K : PySem.W.Frag} {ph : List Addr} {H : Hp} {S : Store} {n : Nat}
end
section
variable {X : Cx} {W : XW X.K}
end
end DL

namespace DL
open PySem PySem.Spec PyProof.Rows L2
section
variable {X : Cx} {W : XW X.K} {a b : Expr} {ma mb : EM} {pos p p2 pos2 : Pos}
end
end DL

namespace DL
open PySem PySem.Spec PyProof.Rows L2

section
variable {κ : Type} [DecidableEq κ] {α : Type}
def lookK (kvs : List (κ × α)) (k : κ) : Option α := (kvs.find? fun kv => decide (kv.1 = k)).map (·.2)
def setK (kvs : List (κ × α)) (k : κ) (v : α) : List (κ × α) :=
  if (kvs.any fun kv => decide (kv.1 = k)) = true then kvs.map (fun kv => if kv.1 = k then (kv.1, v) else kv) else kvs ++ [(k, v)]
theorem lookK_cons (j : κ) (v : α) (r : List (κ × α)) (k : κ) : lookK ((j, v) :: r) k = if j = k then some v else lookK r k := by
  unfold lookK
  by_cases e : j = k <;> simp [List.find?_cons, e]
theorem lookK_ok {K : PySem.W.Frag} {ph : List Addr} {H : Hp} (k : κ) : ∀ {vs : List (κ × V)} {xs : List (κ × SV)}, DenSK K ph H vs xs →
    (∀ x, lookK xs k = some x → ∃ v, valV vs k = some v ∧ DenS K ph H v x) ∧ (lookK xs k = none → valV vs k = none)
  | _, _, .nil => ⟨fun x h => by simp [lookK] at h, fun _ => rfl⟩
  | _, _, .cons (a := p) (b := q) h t => by
    obtain ⟨i1, i2⟩ := lookK_ok k t
    obtain ⟨pk, pv⟩ := p
    obtain ⟨qk, qv⟩ := q
    obtain ⟨e, d⟩ := h
    dsimp only at e d
    subst e
    rw [lookK_cons]
    by_cases c : pk = k
    · rw [if_pos c, valV_pos (p := (pk, pv)) c]
      exact ⟨fun x hx => ⟨pv, rfl, by cases hx; exact d⟩, fun hx => by cases hx⟩
    · rw [if_neg c, valV_neg (p := (pk, pv)) c]
      exact ⟨i1, i2⟩
theorem anyK_ok {K : PySem.W.Frag} {ph : List Addr} {H : Hp} (k : κ) : ∀ {vs : List (κ × V)} {xs : List (κ × SV)}, DenSK K ph H vs xs → (vs.any fun kv => decide (kv.1 = k)) = (xs.any fun kv => decide (kv.1 = k))
  | _, _, .nil => rfl
  | _, _, .cons h t => by simp only [List.any_cons]; rw [h.1, anyK_ok k t]
theorem repl_ok {K : PySem.W.Frag} {ph : List Addr} {H : Hp} (k : κ) {v : V} {x : SV} (d : DenS K ph H v x) : ∀ {vs : List (κ × V)} {xs : List (κ × SV)}, DenSK K ph H vs xs →
    DenSK K ph H (vs.map fun kv => if kv.1 = k then (kv.1, v) else kv) (xs.map fun kv => if kv.1 = k then (kv.1, x) else kv)
  | _, _, .nil => .nil
  | _, _, .cons (a := p) (b := q) h t => by
    simp only [List.map_cons]
    refine .cons ?_ (repl_ok k d t)
    have e := h.1
    by_cases c : p.1 = k
    · rw [if_pos c, if_pos (e ▸ c)]
      exact ⟨e, d⟩
    · rw [if_neg c, if_neg (e ▸ c)]
      exact h
theorem setK_ok {K : PySem.W.Frag} {ph : List Addr} {H : Hp} (k : κ) {v : V} {x : SV} (d : DenS K ph H v x) {vs : List (κ × V)} {xs : List (κ × SV)} (h : DenSK K ph H vs xs) : DenSK K ph H (putK vs k v) (setK xs k x) := by
  unfold putK setK
  rw [anyK_ok k h]
  split
  · exact repl_ok k d h
  · exact Paired.snoc h ⟨rfl, d⟩
end
def keyOf : D → Option Key
  | .int i => some (.inl i)
  | .str x => some (.inr x)
  | _ => none
theorem keyOf_ok {K : PySem.W.Frag} {F : Hp} {v : V} {d : D} {k : Key} (h : Den K F v d) (e : keyOf d = some k) : v = kV k := by
  cases h <;> simp [keyOf] at e <;> subst e <;> rfl
def rdK (S : Store) : SV → Option (List (Key × SV))
  | .fr (.dct kvs) => some (kvs.map fun p => (p.1, .fr p.2))
  | .cell k => match S[k]? with
    | some (.dic kvs) => some kvs
    | _ => none
  | _ => none
theorem denSK_of {K : PySem.W.Frag} {ph : List Addr} {H : Hp} : ∀ {vs : List (Key × V)} {fs : List (Key × D)}, DenK K (hide ph H) vs fs → DenSK K ph H vs (fs.map fun p => (p.1, SV.fr p.2))
  | _, _, .nil => .nil
  | _, _, .cons a r => .cons ⟨rfl, a⟩ (denSK_of r)
theorem rdK_ok {K : PySem.W.Frag} {ph : List Addr} {H : Hp} {S : Store} (g : Good K ph H S) {v : V} {a : SV} {kvs : List (Key × SV)} (d : DenS K ph H v a) (h : rdK S a = some kvs) :
    ∃ p vs, v = .ref p ∧ H p = some (.dK vs) ∧ DenSK K ph H vs kvs := by
  unfold rdK at h
  split at h
  · cases h
    cases d with
    | dct e r => exact ⟨_, _, rfl, (hide_some e).2, denSK_of r⟩
  · rename_i k
    split at h
    · rename_i ks hk
      cases h
      obtain ⟨p, h1, rfl⟩ := d
      obtain ⟨q, h3, vs, h4, h5⟩ := g.at hk
      rw [h1] at h3; cases h3
      exact ⟨p, vs, rfl, h4, h5⟩
    · cases h
  · cases h

section
variable {X : Cx} {W : XW X.K} {a b c : Expr} {ma mb mc : EM} {pos : Pos}
def eDN (m : Bool) : EM := fun _ S => if m then .ok (.cell S.length, S ++ [.dic []]) else .ok (.fr (.dct []), S)
theorem pd_dn (m : Bool) : PD X W (.Dict [] [] pos) (eDN m) := by
  refine ⟨_, pe_dnewK, fun ph S H sg rho Q g so h p hp => ?_⟩
  unfold eDN at h
  cases m with
  | true =>
    have e : Ext ph H (ph ++ [p]) (upd H p (.dK [])) := Ext.cell hp
    exact h (ph ++ [p]) (.ref p) _ e (g.cell hp ⟨[], upd_same, .nil⟩) ⟨p, by rw [← g.len]; simp, rfl⟩
  | false =>
    have e : Ext ph H ph (upd H p (.dK [])) := Ext.fresh hp
    exact h ph (.ref p) _ e (g.fresh hp) (.dct (vs := []) (hide_of (g.new hp) upd_same) .nil)
end
end DL

namespace DL
open PySem PySem.Spec PyProof.Rows L2

def pyKy : Key → PyData
  | .inl i => .int i
  | .inr x => .str x
mutual
def pyX : D → PyData
  | .non => .none
  | .bl b => .bool b
  | .int i => .int i
  | .str x => .str x
  | .tup ds => .tuple (pyXs ds)
  | .lst ds => .list (pyXs ds)
  | .scr ds => .list (pyXs ds)
  | .ty _ => .none
  | .ref _ => .none
  | .ins _ _ => .none
  | .cls _ => .none
  | .exn _ _ _ _ => .none
  | .dct kvs => .dict (pyXk kvs)
def pyXs : List D → List PyData
  | [] => []
  | d :: ds => pyX d :: pyXs ds
def pyXk : List (Key × D) → List (PyData × PyData)
  | [] => []
  | (k, d) :: r => (pyKy k, pyX d) :: pyXk r
end
mutual
def isX : D → Bool
  | .non | .bl _ | .int _ | .str _ => true
  | .tup ds => isXs ds
  | .lst ds => isXs ds
  | .scr ds => isXs ds
  | .dct kvs => isXk kvs
  | .ty _ | .ref _ | .ins _ _ | .cls _ | .exn _ _ _ _ => false
def isXs : List D → Bool
  | [] => true
  | d :: ds => isX d && isXs ds
def isXk : List (Key × D) → Bool
  | [] => true
  | (_, d) :: r => isX d && isXk r
end
mutual
inductive RD (h : Heap) : Value → PyData → Prop
  | none : RD h .none .none
  | bool (b) : RD h (.bool b) (.bool b)
  | int (i t) : RD h (.int i t) (.int i)
  | str (x t) : RD h (.str x t) (.str x)
  | list {a o vs n xs} : h.get? a = some o → o.cls = .type "list" → o.data = .seq vs n → RDs h vs.toList xs → RD h (.ref a) (.list xs)
  | tuple {a o vs n xs} : h.get? a = some o → o.cls = .type "tuple" → o.data = .seq vs n → RDs h vs.toList xs → RD h (.ref a) (.tuple xs)
  | dict {a o es n kvs} : h.get? a = some o → o.cls = .type "dict" → o.data = .dict es n → (a == sysModules) = false → RDs h (es.toList.map (·.key)) (kvs.map (·.1)) → RDs h (es.toList.map (·.val)) (kvs.map (·.2)) → RD h (.ref a) (.dict kvs)
inductive RDs (h : Heap) : List Value → List PyData → Prop
  | nil : RDs h [] []
  | cons {v vs d ds} : RD h v d → RDs h vs ds → RDs h (v :: vs) (d :: ds)
end
section
variable {h : Heap}
mutual
theorem RD.reads : ∀ {v : Value} {d : PyData}, RD h v d → ∃ as, Reads h v d as
  | _, _, .none => ⟨_, .none⟩
  | _, _, .bool b => ⟨_, .bool b⟩
  | _, _, .int i t => ⟨_, .int i t⟩
  | _, _, .str x t => ⟨_, .str x t⟩
  | _, _, .list h1 h2 h3 h4 => let ⟨_, r⟩ := h4.reads; ⟨_, .list h1 h2 h3 r⟩
  | _, _, .tuple h1 h2 h3 h4 => let ⟨_, r⟩ := h4.reads; ⟨_, .tuple h1 h2 h3 r⟩
  | _, _, .dict h1 h2 h3 _ h5 h6 => let ⟨_, r1⟩ := h5.reads; let ⟨_, r2⟩ := h6.reads; ⟨_, .dict h1 h2 h3 r1 r2⟩
theorem RDs.reads : ∀ {v : List Value} {d : List PyData}, RDs h v d → ∃ as, ReadsAll h v d as
  | _, _, .nil => ⟨_, .nil⟩
  | _, _, .cons a r => let ⟨_, x⟩ := a.reads; let ⟨_, y⟩ := r.reads; ⟨_, .cons x y⟩
end
end
section
variable {X : Cx} {pins : List (Addr × Obj)} {σ : L2.St} {H : Hp} {s : Shared}
mutual
theorem rd_x (I : Inv X pins σ H s) : ∀ {d : D} {v : V} {u : Value}, isX d = true → Den X.K H v d → RelV v u → RD s.heap u (pyX d)
  | .non, _, _, _, .non, r => by cases r; simp only [pyX]; exact .none
  | .bl b, _, _, _, .bl _, r => by cases r; simp only [pyX]; exact .bool b
  | .int i, _, _, _, .int _, r => by obtain ⟨t, rfl⟩ := r; simp only [pyX]; exact .int i t
  | .str x, _, _, _, .str _, r => by obtain ⟨t, rfl⟩ := r; simp only [pyX]; exact .str x t
  | .tup ds, _, _, hx, .tup hs q, r => by
    cases r
    obtain ⟨its, rv, ⟨o, ho, hc, n, hd⟩, _⟩ := I.tuple (.inl (.inl hs))
    simp only [pyX]
    exact .tuple ho hc hd (rds_x I (by simpa only [isX] using hx) q rv)
  | .lst ds, _, _, hx, .lst hs q, r => by
    cases r
    obtain ⟨its, rv, ⟨o, n, ho, hc, _, hd⟩, _⟩ := I.list (SqL.of hs)
    simp only [pyX]
    exact .list ho hc hd (rds_x I (by simpa only [isX] using hx) q rv)
  | .scr ds, _, _, hx, .scr hs q, r => by
    cases r
    obtain ⟨its, rv, ⟨o, n, ho, hc, _, hd⟩, _⟩ := I.list hs
    simp only [pyX]
    exact .list ho hc hd (rds_x I (by simpa only [isX] using hx) q rv)
  | .dct kvs, _, _, hx, .dct e q, r => by
    cases r
    obtain ⟨_, hd, vs, r0, o, es, ep, h1, h2, h3, _, h5, _⟩ := dk_of I.hok e
    obtain ⟨p1, p2⟩ := rdk_x I (by simpa only [isX] using hx) q r0 h5
    simp only [pyX]
    exact .dict h1 h2.1 h3 hd p1 p2
  | .ty _, _, _, hx, _, _ => by simp [isX] at hx
  | .ref _, _, _, hx, _, _ => by simp [isX] at hx
  | .ins _ _, _, _, hx, _, _ => by simp [isX] at hx
  | .cls _, _, _, hx, _, _ => by simp [isX] at hx
  | .exn _ _ _ _, _, _, hx, _, _ => by simp [isX] at hx
theorem rds_x (I : Inv X pins σ H s) : ∀ {ds : List D} {vs : List V} {us : List Value}, isXs ds = true → Dens X.K H vs ds → Vals vs us → RDs s.heap us (pyXs ds)
  | [], _, _, _, .nil, r => by cases r; simp only [pyXs]; exact .nil
  | d :: ds, _, _, hx, .cons a q, r => by
    cases r with
    | cons r1 r2 =>
      simp only [isXs, Bool.and_eq_true] at hx
      simp only [pyXs]
      exact .cons (rd_x I hx.1 a r1) (rds_x I hx.2 q r2)
theorem rdk_x (I : Inv X pins σ H s) : ∀ {kvs : List (Key × D)} {vs : List (Key × V)} {us : List (Key × Value)} {es : List DictEntry}, isXk kvs = true → DenK X.K H vs kvs → KV vs us → Pairs (mixKind X.prog X.w) es us →
    RDs s.heap (es.map (·.key)) ((pyXk kvs).map (·.1)) ∧ RDs s.heap (es.map (·.val)) ((pyXk kvs).map (·.2))
  | [], _, _, _, _, .nil, r, p => by
    cases r
    cases p
    simp only [pyXk]
    exact ⟨.nil, .nil⟩
  | (k, d) :: kvs, _, _, _, hx, .cons a q, r, p => by
    cases r with
    | cons r1 r2 =>
      cases p with
      | cons p1 p2 p3 =>
        simp only [isXk, Bool.and_eq_true] at hx
        obtain ⟨t1, t2⟩ := rdk_x I hx.2 q r2 p3
        simp only [pyXk, List.map_cons]
        refine ⟨.cons ?_ t1, .cons (by rw [p2]; exact rd_x I hx.1 a r1.2) t2⟩
        have ek := r1.1
        simp only at ek
        rw [← ek] at p1
        rcases keyIs_shape p1 with ⟨i, t, e1, e2⟩ | ⟨x, t, e1, e2⟩
        · rw [e1, e2]; exact .int i t
        · rw [e1, e2]; exact .str x t
end
end
section
variable {prog : Program} {w : World} {h₀ : Heap}
mutual
theorem rk_x : ∀ {v : Value} {d : PyData}, RD h₀ v d → d.showable = true → d.shown.length ≤ sizeLine → ∃ bs, ReadAtMost h₀ d.depth bs ∧ ReprK prog w bs h₀ d.depth v d.shown
  | _, _, .none, _, _ => ⟨[], (fun _ h => nomatch h), by simp only [PyData.shown]; exact .of_is ReprIs.none _ _ _⟩
  | _, _, .bool b, _, _ => ⟨[], (fun _ h => nomatch h), by simp only [PyData.shown]; exact .of_is (ReprIs.bool b) _ _ _⟩
  | _, _, .int i t, hs, _ => ⟨[], (fun _ h => nomatch h), by simp only [PyData.shown]; exact .of_is (ReprIs.int t (by simpa [PyData.showable] using hs)) _ _ _⟩
  | _, _, .str x t, _, hz => ⟨[], (fun _ h => nomatch h), by simp only [PyData.shown]; exact .of_is (ReprIs.str x t (by simpa only [PyData.shown] using hz)) _ _ _⟩
  | _, _, .list (a := a) (vs := vs) (xs := xs) h1 h2 h3 h4, hs, hz => by
    have hz' : (listText (PyData.shownAll xs)).length ≤ sizeLine := by simpa only [PyData.shown] using hz
    obtain ⟨bs, hb, hk⟩ := rks_x h4 (by simpa [PyData.showable] using hs) fun t ht => Nat.le_trans (listText_mem_le ht) hz'
    obtain ⟨as, r⟩ := RD.reads (.list h1 h2 h3 h4)
    have hna : a ∉ bs := not_mem_of_deeper r (by simp only [PyData.depth]; omega) hb
    refine ⟨a :: bs, ReadAtMost.cons r (by simp only [PyData.depth]; omega) hb, ?_⟩
    simp only [PyData.depth, PyData.shown]
    obtain ⟨l⟩ := vs
    cases l with
    | nil =>
      cases (show RDs h₀ [] xs from h4)
      simp only [PyData.shownAll, listText_nil]
      exact ReprK.listEmpty h1 h2 h3
    | cons x l => exact ReprK.list h1 h2 h3 hna (by simpa using hk.length_eq) fun i y e => hk.item i y (by simpa using e)
  | _, _, .tuple (a := a) (xs := xs) h1 h2 h3 h4, hs, hz => by
    have hz' : (tupleText (PyData.shownAll xs)).length ≤ sizeLine := by simpa only [PyData.shown] using hz
    obtain ⟨bs, hb, hk⟩ := rks_x h4 (by simpa [PyData.showable] using hs) fun t ht => Nat.le_trans (tupleText_mem_le ht) hz'
    obtain ⟨as, r⟩ := RD.reads (.tuple h1 h2 h3 h4)
    have hna : a ∉ bs := not_mem_of_deeper r (by simp only [PyData.depth]; omega) hb
    refine ⟨a :: bs, ReadAtMost.cons r (by simp only [PyData.depth]; omega) hb, ?_⟩
    simp only [PyData.depth, PyData.shown]
    exact ReprK.tuple h1 h2 h3 hna hk
  | _, _, .dict (a := a) (es := es) (kvs := kvs) h1 h2 h3 h4 h5 h6, hs, hz => by
    have hz' : (dictText (PyData.shownKv kvs)).length ≤ sizeLine := by simpa only [PyData.shown] using hz
    obtain ⟨hs1, hs2⟩ := PyData.showableKv_split kvs (by simpa [PyData.showable] using hs)
    obtain ⟨b1, hb1, k1⟩ := rks_x h5 hs1 (fun t ht => let ⟨p, hp, hl⟩ := PyData.shownKv_key_le kvs t ht; Nat.le_trans hl (Nat.le_trans (dictText_mem_le hp) hz'))
    obtain ⟨b2, hb2, k2⟩ := rks_x h6 hs2 (fun t ht => let ⟨p, hp, hl⟩ := PyData.shownKv_val_le kvs t ht; Nat.le_trans hl (Nat.le_trans (dictText_mem_le hp) hz'))
    have hb : ReadAtMost h₀ (PyData.depthKv kvs) (b1 ++ b2) := (hb1.mono (PyData.depthAll_keys_le kvs)).append (hb2.mono (PyData.depthAll_vals_le kvs))
    obtain ⟨as, r⟩ := RD.reads (.dict h1 h2 h3 h4 h5 h6)
    have hna : a ∉ b1 ++ b2 := not_mem_of_deeper r (by simp only [PyData.depth]; omega) hb
    refine ⟨a :: (b1 ++ b2), ReadAtMost.cons r (by simp only [PyData.depth]; omega) hb, ?_⟩
    simp only [PyData.depth, PyData.shown, PyData.shownKv_eq]
    exact ReprK.dict h1 h2 h3 h4 hna (ReprEntriesK.of_two es.toList _ _ (k1.more_le (fun b hb => List.mem_append_left _ hb) (PyData.depthAll_keys_le kvs)) (k2.more_le (fun b hb => List.mem_append_right _ hb) (PyData.depthAll_vals_le kvs)))
theorem rks_x : ∀ {vs : List Value} {ds : List PyData}, RDs h₀ vs ds → PyData.showableAll ds = true → (∀ t ∈ PyData.shownAll ds, t.length ≤ sizeLine) →
    ∃ bs, ReadAtMost h₀ (PyData.depthAll ds) bs ∧ ReprAllK prog w bs h₀ (PyData.depthAll ds) vs (PyData.shownAll ds)
  | _, _, .nil, _, _ => ⟨[], (fun _ h => nomatch h), by simp only [PyData.shownAll]; exact .nil⟩
  | _, _, .cons (d := d) (ds := ds) r rs, hs, hz => by
    have hs' : d.showable = true ∧ PyData.showableAll ds = true := by simpa [PyData.showableAll] using hs
    obtain ⟨b1, hb1, k1⟩ := rk_x r hs'.1 (hz _ (by simp [PyData.shownAll]))
    obtain ⟨b2, hb2, k2⟩ := rks_x rs hs'.2 fun t ht => hz t (by simp only [PyData.shownAll]; exact List.mem_cons_of_mem _ ht)
    refine ⟨b1 ++ b2, ?_, ?_⟩
    · simp only [PyData.depthAll]
      exact (hb1.mono (Nat.le_max_left _ _)).append (hb2.mono (Nat.le_max_right _ _))
    · simp only [PyData.depthAll, PyData.shownAll]
      exact .cons ((k1.more fun b hb => List.mem_append_left _ hb).level_le (Nat.le_max_left _ _)) (k2.more_le (fun b hb => List.mem_append_right _ hb) (Nat.le_max_right _ _))
end
theorem repr_x {A : Around} {E : Value → Shared → Prop} {s : Shared} {Q : Value → Shared → Prop} {a : Addr} {d : PyData} (r : RD s.heap (.ref a) d) (hs : d.showable = true) (hg : A.guards = some []) (hu : A.units + (d.depth + 1) < cLine)
    (hQ : ∀ h' u tk, (∀ b o, s.heap.get? b = some o → h'.get? b = some o) → Q (.str d.shown u) { s with heap := h', toks := tk }) (hsz : d.shown.length ≤ sizeLine) :
    wpAny (model prog w) A (call (.builtin "repr") [.ref a]) Q E s := by
  cases r with
  | list h1 h2 h3 h4 =>
    rename_i o vs n xs
    have hz' : (listText (PyData.shownAll xs)).length ≤ sizeLine := by simpa only [PyData.shown] using hsz
    obtain ⟨bs, hb, hk⟩ := rks_x (prog := prog) (w := w) h4 (by simpa [PyData.showable] using hs) fun t ht => Nat.le_trans (listText_mem_le ht) hz'
    obtain ⟨as, r⟩ := RD.reads (.list h1 h2 h3 h4)
    have hna : a ∉ bs := not_mem_of_deeper r (by simp only [PyData.depth]; omega) hb
    simp only [PyData.depth] at hu
    simp only [PyData.shown] at hQ
    refine call_repr_slot (T := "list") (idr := "list.__repr__") (by omega) ⟨o, h1, h2⟩ F.slot_list_repr.toG ?_
    have hu' : A.in1.units + (PyData.depthAll xs + 1) < cLine := by show A.units + 1 + _ < _; omega
    obtain ⟨l⟩ := vs
    cases l with
    | nil =>
      cases (show RDs s.heap [] xs from h4)
      simp only [PyData.shownAll, listText_nil] at hQ
      exact call_list_repr_empty ⟨o, h1, h2⟩ h1 h3 ⟨_, _, rfl, hQ s.heap _ _ fun _ _ e => e⟩
    | cons x l =>
      exact call_list_reprK h1 h2 h3 hna (by simpa using hk.length_eq) (fun i y e => hk.item i y (by simpa using e)) hg (fun b _ => Clear.nil b) hu' (fun _ _ e => e) (fun h' u tk q => ⟨_, _, rfl, hQ h' u tk q⟩) hz'
  | tuple h1 h2 h3 h4 =>
    rename_i o vs n xs
    have hz' : (tupleText (PyData.shownAll xs)).length ≤ sizeLine := by simpa only [PyData.shown] using hsz
    obtain ⟨bs, hb, hk⟩ := rks_x (prog := prog) (w := w) h4 (by simpa [PyData.showable] using hs) fun t ht => Nat.le_trans (tupleText_mem_le ht) hz'
    obtain ⟨as, r⟩ := RD.reads (.tuple h1 h2 h3 h4)
    have hna : a ∉ bs := not_mem_of_deeper r (by simp only [PyData.depth]; omega) hb
    simp only [PyData.depth] at hu
    simp only [PyData.shown] at hQ
    refine call_repr_slot (T := "tuple") (idr := "tuple.__repr__") (by omega) ⟨o, h1, h2⟩ F.slot_tuple_repr ?_
    have hu' : A.in1.units + (PyData.depthAll xs + 1) < cLine := by show A.units + 1 + _ < _; omega
    exact call_tuple_reprK h1 h2 h3 hna hk hg (fun b _ => Clear.nil b) hu' (fun _ _ e => e) (fun h' u tk q => ⟨_, _, rfl, hQ h' u tk q⟩) hz'
  | dict h1 h2 h3 h4 h5 h6 =>
    rename_i o es n kvs
    have hz' : (dictText (PyData.shownKv kvs)).length ≤ sizeLine := by simpa only [PyData.shown] using hsz
    obtain ⟨hs1, hs2⟩ := PyData.showableKv_split kvs (by simpa [PyData.showable] using hs)
    obtain ⟨b1, hb1, k1⟩ := rks_x (prog := prog) (w := w) h5 hs1 (fun t ht => let ⟨p, hp, hl⟩ := PyData.shownKv_key_le kvs t ht; Nat.le_trans hl (Nat.le_trans (dictText_mem_le hp) hz'))
    obtain ⟨b2, hb2, k2⟩ := rks_x (prog := prog) (w := w) h6 hs2 (fun t ht => let ⟨p, hp, hl⟩ := PyData.shownKv_val_le kvs t ht; Nat.le_trans hl (Nat.le_trans (dictText_mem_le hp) hz'))
    have hb : ReadAtMost s.heap (PyData.depthKv kvs) (b1 ++ b2) := (hb1.mono (PyData.depthAll_keys_le kvs)).append (hb2.mono (PyData.depthAll_vals_le kvs))
    obtain ⟨as, r⟩ := RD.reads (.dict h1 h2 h3 h4 h5 h6)
    have hna : a ∉ b1 ++ b2 := not_mem_of_deeper r (by simp only [PyData.depth]; omega) hb
    simp only [PyData.depth] at hu
    simp only [PyData.shown, PyData.shownKv_eq] at hQ
    refine call_repr_slot (T := "dict") (idr := "dict.__repr__") (by omega) ⟨o, h1, h2⟩ F.slot_dict_repr ?_
    have hu' : A.in1.units + (PyData.depthKv kvs + 1) < cLine := by show A.units + 1 + _ < _; omega
    exact call_dict_reprK h1 h2 h3 h4 hna (ReprEntriesK.of_two es.toList _ _ (k1.more_le (fun b hb => List.mem_append_left _ hb) (PyData.depthAll_keys_le kvs)) (k2.more_le (fun b hb => List.mem_append_right _ hb) (PyData.depthAll_vals_le kvs))) hg (fun b _ => Clear.nil b) hu' (fun _ _ e => e) (fun h' u tk q => ⟨_, _, rfl, hQ h' u tk q⟩) (by rw [← PyData.shownKv_eq]; exact hz')
end
def rOkX (d : D) : Bool := isX d && (pyX d).showable && (pyX d).leavesShort 130 && decide ((pyX d).bulk ≤ 100000) && decide ((pyX d).depth ≤ 64)
def rTxtX (d : D) : Str := (pyX d).shown
def reprXG : GA := fun as S => match as with
  | [a] => match snap S a with
    | some d => if rOkX d then okV (.str (rTxtX d)) S else .stuck
    | none => .stuck
  | _ => .stuck
section
variable {X : Cx} {W : XW X.K}
def rReprX (K : PySem.W.Frag) : List V → Hp → VK → Prop := fun xs H Q => ∃ x d, xs = [x] ∧ Den K H x d ∧ rOkX d = true ∧ Q (.str (rTxtX d)) H
theorem call_reprX (hg : X.A.guards = some []) (hu : X.A.units + 80 < cLine) : CallR X (.builtin "repr") (rReprX X.K) := by
  intro pins s sg H xs us Q I r h
  obtain ⟨x, d, rfl, hd, ho, q⟩ := h
  obtain ⟨u, rfl, rx⟩ := vals1 r
  unfold rOkX at ho
  simp only [Bool.and_eq_true, decide_eq_true_eq] at ho
  obtain ⟨⟨⟨⟨hx, h1⟩, h2⟩, h3⟩, h4⟩ := ho
  have rd := rd_x I hx hd rx
  have hlen : (pyX d).shown.length ≤ sizeLine := by
    have q := PyData.shown_le_bulk 130 (by decide) (pyX d) h2
    have e : sizeLine = 16777216 := sizeLine_eq
    omega
  unfold rTxtX at q
  generalize pyX d = z at *
  have go : ∀ a, u = .ref a → wpAny (model X.prog X.w) X.A (call (.builtin "repr") [u]) (EP X pins sg Q) X.xe s := by
    rintro a rfl
    refine repr_x rd h1 hg (by omega) (fun h' u tk hk => ?_) hlen
    exact ⟨.str z.shown, H, I.kept hk, ⟨_, rfl⟩, q⟩
  cases rd with
  | none => exact PySem.P.repr_of_none ⟨.str _, H, I.tok _, ⟨_, rfl⟩, by simpa only [PyData.shown] using q⟩
  | bool b => exact PySem.P.repr_of_bool ⟨.str _, H, I.tok _, ⟨_, rfl⟩, by cases b <;> simpa [PyData.shown] using q⟩
  | int i t => exact PySem.P.repr_of_int (by simpa [PyData.showable] using h1) ⟨.str _, H, I.tok _, ⟨_, rfl⟩, by simpa only [PyData.shown] using q⟩
  | str z t => exact PySem.P.repr_of_str ⟨.str _, H, I.tok _, ⟨_, rfl⟩, by simpa only [PyData.shown] using q⟩ (by simpa only [PyData.shown] using hlen)
  | list _ _ _ _ => exact go _ rfl
  | tuple _ _ _ _ => exact go _ rfl
  | dict _ _ _ _ _ _ => exact go _ rfl
theorem reprX_ok : OpA X W (rReprX X.K) reprXG := by
  intro ph S H xs as Q g d h
  unfold reprXG at h
  split at h
  · obtain ⟨v, rfl, dv⟩ := one_of d
    split at h
    · rename_i e he
      split at h
      · rename_i hp
        exact ⟨v, e, rfl, snap_ok g dv he, hp, fin_v g (.str _) h⟩
      · exact h.elim
    · exact h.elim
  · exact h.elim
end
end DL

namespace DL
open PySem PySem.Spec PyProof.Rows L2
end DL

namespace DL
open PySem PySem.Spec PyProof.Rows L2
def cutX (n : Nat) (rho : Slots) (r : Res (RV × Store)) : Res (RV × Store) := match r with
  | .exc e _ S' => if (S'.take n).all (Cell.below n) = true then .exc e rho (S'.take n) else .stuck
  | x => x
def eCallX (f : FnM) (c : Bool) (m : AM) : EM := fun rho S => (m rho S).bind fun x => (cutX x.2.length rho (f x.1 x.2)).bind (back c)
section
variable {X : Cx} {Wq : WX} {e : Expr} {es : List Expr} {pos p : Pos} {m : AM}
theorem cutX_ok {ph ph1 : List Addr} {H H1 : Hp} {S1 : Store} {sg : L2.St} {rho : Slots} {Q : VK} {c : Bool} {r : Res (RV × Store)} (x1 : Ext ph H ph1 H1) (g1 : Good X.K ph1 H1 S1) (so : SlotsOk X.K ph1 H1 sg rho)
    (h : holds ((cutX S1.length rho r).bind (back c)) (post X.K ph H Q) ((XW.of X.K Wq).rel ph H)) : holds r (postF X.K ph1 H1 Q) (postX X.K ph1 H1 (WE Wq sg)) := by
  cases r with
  | ok a => exact back_ok x1 h
  | stuck => exact h
  | exc e r' S' =>
    unfold cutX at h
    dsimp only at h
    split at h
    · rename_i hb
      intro ph' H' cls d x' g' ed
      have hm : ∀ a ∈ ph1, a ∈ ph' := fun a ha => by
        obtain ⟨ps, rfl, _⟩ := x'.pre
        exact List.mem_append_left _ ha
      exact h ph1 H' sg cls d (x1.trans x'.back) (g1.cut x' g' hb) (so.mono x'.back) (ed.mono (sub_hide hm))
    · exact h.elim
theorem pe_callX {k j : Nat} {x : Str} {f : FnM} {t : TA} (tk : Takes X Wq) (c : CalD X.prog X.w X.K X.mg X.base k x f) (hr : Room j X.A) (hk : k ≤ j) (hgd : X.A.guards = some []) (hg : Gl X x) (ha : PA X (e :: es) t)
    (hdb : (x == ("__debug__" : Str)) = false) (he : starEach (e :: es) X.env = (false, eval e X.env) :: starEach es X.env) (hpl : (backTo pos (starEach es X.env)).any (·.1) = false) :
    PE X (.Call (.Name x p) (e :: es) [] pos) (fun sg H Q => t sg H fun vs H1 => spD X.K f vs H1 Q (WE Wq sg)) := by
  obtain ⟨g, fd, ps, hm, hkp, hbd, F⟩ := c.ex
  refine ⟨fun pins s sg H Q I h => wpAny_Call_Name_kw (ld_glob I hg hm ?_ hdb)⟩
  refine PySem.W.callWith_K (h₀ := X.base) I.ok.mod.kin hkp (thn (ha.run pos pins s sg H _ I h) fun us s1 ⟨vs, H1, I1, r, q⟩ => ⟨I1.kIn, ?_⟩) he hpl
  have hl : (us ++ []).length = ps.length := by rw [List.append_nil, ← r.length]; exact F.len _ _ _ _ q
  have bt := hbd s1 us I1.kIn hl
  rw [List.append_nil] at bt
  refine wpAny_call (codeAny_mono (F.run X.A X.stack s1 H1 ⟨us, []⟩ us vs Q (WE Wq sg) hgd (hr.mono hk) I1.env0 bt r q) fun r s' hq => ?_)
  cases r with
  | error e => exact passAt tk sg pins H1 s1 e s' I1 hq
  | ok fl =>
    cases fl with
    | ret u => exact I1.after hq
    | next => exact False.elim hq
    | brk => exact False.elim hq
    | cont => exact False.elim hq
theorem pd_callX {k j : Nat} {x : Str} {f : FnM} (cc : Bool) (tk : Takes X Wq) (c : CalD X.prog X.w X.K X.mg X.base k x f) (hr : Room j X.A) (hk : k ≤ j) (hgd : X.A.guards = some []) (ha : PDA X (XW.of X.K Wq) (e :: es) m) (hg : Gl X x := by rfl)
    (hdb : (x == ("__debug__" : Str)) = false := by decide) (he : starEach (e :: es) X.env = (false, eval e X.env) :: starEach es X.env := by rfl) (hpl : (backTo pos (starEach es X.env)).any (·.1) = false := by rfl) : PD X (XW.of X.K Wq) (.Call (.Name x p) (e :: es) [] pos) (eCallX f cc m) := by
  obtain ⟨t, pa, sa⟩ := ha.ex
  refine ⟨_, pe_callX tk c hr hk hgd hg pa hdb he hpl, fun ph S H sg rho Q gd so h => sa ph S H sg rho _ gd so (holds_imp (holds_bind h) (fun y hy => ?_) fun _ _ _ q => q)⟩
  intro ph1 vs H1 x1 g1 d1
  exact ⟨ph1, y.2, y.1, g1, d1, cutX_ok x1 g1 (so.mono x1) hy⟩
def sRs0 (C : Str) : SM := fun rho S => .exc ⟨C, []⟩ rho S
theorem psd_raise0 {C : Str} {ex : Expr} (hc : X.calm = true) (tk : Takes X Wq) (h : PMk X ex (fun _ H Q => Q (.ref (He.ga X.K C)) none H)) : PSD X (XW.of X.K Wq) (.Raise (some ex) none pos) (sRs0 C) :=
  ⟨_, L2.ps_raise hc tk h, fun ph S H sg rho Dn g so h => h ph H sg _ _ (Ext.refl _ _) g so ⟨rfl, .inl ⟨rfl, rfl⟩⟩⟩
end
def tOfS (K : PySem.W.Frag) (W : XW K) (m : SM) : TS := fun D sg H => ∃ ph S rho, Good K ph H S ∧ SlotsOk K ph H sg rho ∧ holds (m rho S) (postS K ph H D) (W.rel ph H)
theorem PSDs.pss {X : Cx} {W : XW X.K} {st : List Stmt} {m : SM} (h : PSDs X W st m) : PSs X st (tOfS X.K W m) := by
  obtain ⟨t, p, s⟩ := h.ex
  exact ⟨fun pins s' sg H D I ⟨ph, S, rho, g, so, q⟩ => p.run pins s' sg H D I (s ph S H sg rho D g so q)⟩
theorem lookup_mem {α β : Type} [BEq α] [LawfulBEq α] {k : α} {v : β} : ∀ {l : List (α × β)}, l.lookup k = some v → (k, v) ∈ l
  | [], h => by cases h
  | (a, b) :: l, h => by
    rw [List.lookup_cons] at h
    cases e : k == a with
    | true =>
      rw [e] at h
      cases h
      rw [eq_of_beq e]
      exact List.mem_cons_self
    | false =>
      rw [e] at h
      exact List.mem_cons_of_mem _ (lookup_mem h)
def wipe0 (r : Res (Fl × Slots × Store)) : Res (Fl × Slots × Store) := match r with
  | .ok x => .ok x
  | _ => .stuck
abbrev SX := Addr → Option Addr → Exc → SM
def sTryO (tb : IsT) (mb ms : SM) : SM := fun rho S => match mb rho S with
  | .exc e r S' => match tb.lookup e.cls with
    | some true => wipe0 (ms r S')
    | some false => .exc e r S'
    | none => .stuck
  | x => x
theorem SlotsOk.wipe {K : PySem.W.Frag} {ph : List Addr} {H : Hp} {sg : L2.St} {rho : Slots} (h : SlotsOk K ph H sg rho) (i : Nat) : SlotsOk K ph H (sg.set i none) (rho.set i none) := by
  refine ⟨by simpa using h.1, fun j x q => ?_⟩
  by_cases e : i = j
  · subst e
    rw [List.getElem?_set] at q
    split at q
    · split at q <;> cases q
    · exact absurd rfl ‹_›
  · rw [List.getElem?_set_ne e] at q ⊢
    exact h.2 j x q
theorem wipe0_ok {K : PySem.W.Frag} {ph ph' : List Addr} {H H' : Hp} {Dn : Ends} {r : Res (Fl × Slots × Store)} {E : Exc → Slots → Store → Prop} (x : Ext ph H ph' H') (h : holds (wipe0 r) (postS K ph H Dn) E) : holds r (postS K ph' H' Dn) ((XW.none K).rel ph' H') := by
  cases r with
  | exc e r s => exact h.elim
  | stuck => exact h
  | ok y => exact postS.mono x y h
section
variable {X : Cx} {Wq : WX} {pos pos' np : Pos} {x n : Str} {c : Value} {i : Nat} {body suite : List Stmt} {b0 : Stmt} {mb : SM} {ms : SX} {tb : IsT}
theorem psd_try_only {ms : SM} (hs : X.stack = X.env :: X.outer) (hf : X.env.frame = some X.env.locals) (hc : Names X x c) (tk : Takes X Wq)
    (ht : ∀ p ∈ tb, PySem.W.exmOne X.K (.ref (He.ga X.K p.1)) c = some p.2)
    (hb : ∀ (W' : WX) (pn : List (Addr × Obj)) (xe : Value → Shared → Prop), Takes (X.tr pn xe) W' → PSDs (X.tr pn xe) (XW.of X.K W') body mb)
    (hsu : ∀ (a : Addr) (oe : Obj) (pn : List (Addr × Obj)), PSDs (X.suite a ((a, oe) :: pn)) (XW.none X.K) (b0 :: suite) ms) :
    PSD X (XW.of X.K Wq) (.Try body [.ExceptHandler (some (.Name x np)) none (b0 :: suite) pos'] [] [] pos) (sTryO tb mb ms) := by
  refine ⟨_, L2.ps_try_only (tb := fun W' => tOfS X.K (XW.of X.K W') mb) (ts := fun a cls d => tOfS X.K (XW.none X.K) ms) (Wout := Wq) hs hf hc tk (fun W' pn xe tk' _ => (hb W' pn xe tk').pss) (fun a oe cls d pn _ _ => (hsu a oe pn).pss), fun ph S H sg rho Dn g so h => ?_⟩
  refine ⟨ph, S, rho, g, so, ?_⟩
  unfold sTryO at h
  cases hm : mb rho S with
  | ok r =>
    rw [hm] at h
    exact h
  | stuck =>
    rw [hm] at h
    exact h.elim
  | exc e r S' =>
    rw [hm] at h
    dsimp only at h
    intro ph' H' sg' cls d x' g' so' ed
    split at h
    · rename_i hl
      exact ⟨true, by rw [ed.1]; exact ht (e.cls, true) (lookup_mem hl), fun _ a na => ⟨ph', S', r, g', so', wipe0_ok x' h⟩, fun z => by cases z⟩
    · rename_i hl
      exact ⟨false, by rw [ed.1]; exact ht (e.cls, false) (lookup_mem hl), (fun z => by cases z), fun _ => h ph' H' sg' cls d x' g' so' ed⟩
    · exact h.elim
end
def ExmOk (K : PySem.W.Frag) (L : Str) (tb : IsT) : Prop := ∀ p ∈ tb, PySem.W.exmOne K (.ref (He.ga K p.1)) (.ref (He.ga K L)) = some p.2
theorem exm_nil {K : PySem.W.Frag} {L : Str} : ExmOk K L [] := fun _ h => nomatch h
theorem exm_cons {K : PySem.W.Frag} {L C : Str} {b : Bool} {tb : IsT} (h : ExmOk K L tb) (c : fcExm C L b K = true) : ExmOk K L ((C, b) :: tb) := fun p hp => (List.mem_cons.mp hp).elim (fun e => e ▸ of_decide_eq_true c) (h p)
end DL

namespace DL
open PySem PySem.Spec PyProof.Rows L2
structure BasI (K : PySem.W.Frag) (L : Addr) : Prop where
  rd : PySem.W.readsIn K L (.type "type") = true
  ga : PySem.W.specialIn K (.ref L) "__getattribute__" = some (some (.builtin "type.__getattribute__"))
  vi : PySem.W.findCls K (.ref L) (.type "type") "__init__" = some (.val (.builtin "ValueError.__init__"))
theorem isVI_ok {r : Option PySem.W.CFound} (h : isVI r = true) : r = some (.val (.builtin "ValueError.__init__")) := by
  unfold isVI at h
  split at h
  · rw [eq_of_beq h]
  · cases h
theorem bas_of {K : PySem.W.Frag} {n : Str} (c : fcBas n K = true) : BasI K (He.ga K n) := by
  unfold fcBas at c
  simp only [Bool.and_eq_true] at c
  exact ⟨c.1, He.eqO_ok c.2.1, isVI_ok c.2.2⟩
section
variable {X : Cx} {e : Expr} {es : List Expr} {ta : TA} {x : Str} {L : Addr} {p1 p2 pos : Pos}
theorem pe_oinit {pl : Sem Bool} (hg : Gl X x) (gL : X.mg x = some (.ref L)) (B : BasI X.K L) (ha : PA X (e :: es) ta) (hdb : (x == ("__debug__" : Str)) = false := by decide)
    (hc : eval (.Call (.Attribute (.Name x p1) "__init__" p2) (e :: es) [] pos) X.env = (do
      let ov ← eval (.Name x p1) X.env
      standAt p2.atName
      let (f, first) ← holding [ov] (getMethod ov "__init__" pl)
      callWith pos f first (backTo pos (starEach (e :: es) X.env)) (backToKw pos (keywordEach [] X.env))) := by rfl)
    (he : starEach (e :: es) X.env = (false, eval e X.env) :: starEach es X.env := by rfl) (hpl : (backTo pos (starEach es X.env)).any (·.1) = false := by rfl) :
    PE X (.Call (.Attribute (.Name x p1) "__init__" p2) (e :: es) [] pos) (tVeI X.K ta) := by
  refine ⟨fun pins s σ H Q I h => ?_⟩
  refine PySem.W.methodCall_KW (ld_glob I hg gL ?_ hdb) hc
  refine PySem.W.method_cls I.kIn B.ga (PySem.W.cls_value I.kIn B.rd B.vi (show PySem.W.handedIn (.builtin "ValueError.__init__") = true by decide +kernel) ?_)
  show wpAny _ _ (callWith pos (Value.builtin "ValueError.__init__") [] (backTo pos (starEach (e :: es) X.env)) []) _ _ _
  refine PyProof.Rows.callWith_method1 (thn (ha.run pos pins _ σ H _ (I.tok _) h) fun us s1 ⟨vs, H1, I1, r1, a, C, ws, ev, hl, T, ea, q⟩ => ?_) he hpl
  subst ev
  cases r1 with
  | @cons _ u0 _ ur ra rw' =>
    obtain rfl : u0 = Value.ref a := ra
    have hlen : ur.length ≤ sizeLine := by
      rw [← Paired.length rw', sizeLine_eq]
      omega
    exact oinit_ok T I1 ea hlen fun s' J => ⟨.non, H1, J, rfl, q⟩
end
theorem oexB_ok {K : PySem.W.Frag} {C : Addr} (c : oexB K C = true) : ∃ nm q N bs bm sn sub ab col dd k0 k1 k2 k3 k5, K.lookup C = some (excClassObj nm q C N bs bm true sn sub ab col dd k0 k1 k2 k3 k5 "ValueError.__new__") ∧ PySem.HandSPX.refsVE bm = true := by
  unfold oexB at c
  split at c
  · rename_i dd cd sl ho
    split at c
    · rename_i C' bm k0 k1 k2 k3 n k5 hm hs
      simp only [Bool.and_eq_true, beq_iff_eq, Bool.not_eq_true'] at c
      obtain ⟨rfl, rfl, hdel, hd, hv⟩ := c
      obtain ⟨nm, bs, mro, ns, qn, hdi, sn, sub, ab, col, del⟩ := cd
      dsimp only at hm hdel hd
      subst hm hdel hd
      have hsl : sl = #[k0, k1, k2, k3, some (.builtin "ValueError.__new__"), k5] := by
        obtain ⟨l⟩ := sl
        simp only at hs
        rw [hs]
      subst hsl
      exact ⟨nm, qn, ns, bs, bm, sn, sub, ab, col, dd, k0, k1, k2, k3, k5, ho, hv⟩
    · cases c
  · cases c
structure OxC (K : PySem.W.Frag) (C fI : Addr) : Prop where
  ox : OexC K C
  iC : PySem.W.findIn K (.ref C) "__init__" = some (some (.ref fI))
  tI : PySem.W.typeIn K (.ref fI) = some (.type "function")
theorem ox_of {K : PySem.W.Frag} {n : Str} (c : fcOx n K = true) : OxC K (He.ga K n) (He.ma K (He.ga K n) "__init__") := by
  unfold fcOx at c
  simp only [Bool.and_eq_true] at c
  obtain ⟨h1, h2, h3, h4, h5, h6, h7⟩ := c
  exact ⟨⟨oexB_ok h1, He.eqO_ok h2, of_decide_eq_true h3, of_decide_eq_true h4, h5⟩, He.eqO_ok h6, of_decide_eq_true h7⟩
def sp0 (K : PySem.W.Frag) : Sp := fun vs H Q _ => ∃ a C : Addr, vs = [.ref a] ∧ OexC K C ∧ H a = some (exo a C none) ∧ Q .non H
theorem sp0_len {K : PySem.W.Frag} (vs : List V) (H : Hp) (Q : VK) (E : XK) (h : sp0 K vs H Q E) : vs.length = ["self"].length := by
  obtain ⟨a, C, rfl, _⟩ := h
  rfl
theorem xread0 {K : PySem.W.Frag} {vs : List V} {H : Hp} {Q : VK} {E : XK} {z : Str} (h : sp0 K vs H Q E) : tSeq (tDrop (tVeI K (tCons (tVar 0) (tCons (tC (.str z)) tNil)))) tNext { nx := fun _ H' => Q .non H', rt := Q } (L2.start ["self"] vs) H := by
  obtain ⟨a, C, rfl, T, ea, q⟩ := h
  exact ⟨.ref a, rfl, a, C, [.str z], rfl, (by simp), T, ea, q⟩
section
variable {X : Cx} {pos : Pos}
theorem mk_end_n {pins : List (Addr × Obj)} {σ : L2.St} {H1 H2 : Hp} {Q : XK} {hp hp2 h2 : Heap} {g1 g2 : Array GenState} {d1 d2 : Drawn} {t1 t2 : Nat} {os1 os2 : OsState} {a C : Addr} (T : Raises X (.ref C)) (I1 : Inv X pins σ H1 ⟨hp, g1, d1, t1, os1⟩)
    (ha : hp.objs.size ≤ a) (k : ∀ b o, hp.get? b = some o → hp2.get? b = some o) (un : Un (frs X.stack) [] (upd H1 a (exo a C none)) H2 hp2 h2) (hok : HOk X.prog X.w H2 h2) (ho : os2 = os1) (hb : AllBare g2)
    (ea : H2 a = some (exo a C none)) (q : Q (.ref C) none (del H2 a)) : MkP X pins σ Q (.ref a) ⟨h2, g2, d2, t2, os2⟩ := by
  obtain ⟨t0, hoe⟩ := exo_at hok ea
  have hn : H1 a = none := I1.hok.fresh ha
  obtain ⟨G, g1', g2'⟩ := restrict h2 fun b => decide (b ≠ a)
  have gk : ∀ b, b ≠ a → G.get? b = h2.get? b := fun b hb => g1' b (decide_eq_true hb)
  have ge : G.get? a = none := g2' a (by simp)
  have nha : ∀ {b : Addr} {o : Obj}, hp.get? b = some o → b ≠ a := fun {b o} z => Nat.ne_of_lt (Nat.lt_of_lt_of_le (Heap.lt_size z) ha)
  have up : ∀ {b : Addr}, b ≠ a → H1 b = none → upd H1 a (exo a C none) b = none := fun {b} hb n => by rw [upd_ne hb]; exact n
  have U : Un (frs X.stack) [] H1 (del H2 a) hp G := {
    keep := fun b o z n hf hx => by
      rw [gk b (nha z)]
      exact un.keep b o (k b o z) (up (nha z) n) hf hx
    slot := fun b o z n hf hx => by
      rw [gk b (nha z)]
      exact un.slot b o (k b o z) (up (nha z) n) hf hx
    free := fun b o z n hx => by
      rw [del_ne (nha z)]
      exact un.free b o (k b o z) (up (nha z) n) hx
    there := fun b o z hx => by
      rw [gk b (nha z)]
      exact un.there b o (k b o z) hx
    tups := fun b xs z => by
      rw [del_ne (ne_of_none z hn)]
      exact un.tups b xs (by rw [upd_ne (ne_of_none z hn)]; exact z)
    frzs := fun b o v z => by
      rw [del_ne (ne_of_none z hn)]
      exact un.frzs b o v (by rw [upd_ne (ne_of_none z hn)]; exact z)
    tbls := fun b ps z => by
      rw [del_ne (ne_of_none z hn)]
      exact un.tbls b ps (by rw [upd_ne (ne_of_none z hn)]; exact z) }
  have hok3 : HOk X.prog X.w (del H2 a) G := fun b o z => by
    have hba : b ≠ a := fun e => by
      rw [e, del_same] at z
      cases z
    rw [del_ne hba] at z
    have noa : ∀ {c : Addr}, H2 c = some (.own b) → c ≠ a := fun {c} hc => at_ne ea hc exo_own
    exact (hok b o z).stay (fun c v hc y => by
        have hca : c ≠ a := by
          rcases hc with hc | hc
          · rw [hc]
            exact hba
          · exact noa hc
        rw [gk c hca]
        exact y)
      (fun c hc => by rw [del_ne (noa hc)]; exact hc) (fun c xs hc => by rw [del_ne (at_ne ea hc exo_tup)]; exact hc)
  have J : Inv X pins σ (del H2 a) ⟨G, g2, d2, t2, os2⟩ := I1.call' (ch := []) ho U hok3 hb (fun b z => absurd z (by simp))
  refine ⟨a, _, _, ⟨G, g2, d2, t2, os2⟩, _, .ref C, none, rfl, J, fun b o z => ?_, ge, hoe, ⟨rfl, rfl⟩, rfl, rfl, del_same, rfl, hb, T, q⟩
  by_cases hba : b = a
  · have z' : G.get? b = some o := z
    rw [hba, ge] at z'
    cases z'
  · exact (gk b hba).symm.trans z
theorem pmk_oex0 {x : Str} {p : Pos} {C fI : Addr} {k : Nat} {fd : FuncData} (T : OxC X.K C fI) (F1 : FnOk X.prog X.w X.K X.mg X.base CX0 k fI fd ["self"] (sp0 X.K)) (hr : Room (k + 1) X.A) (hb : Binds X.K fd ["self"] []) (hg : Gl X x) (hm : X.mg x = some (.ref C))
    (hdb : (x == ("__debug__" : Str)) = false := by decide) : PMk X (.Call (.Name x p) [] [] pos) (fun _ H Q => Q (.ref C) none H) := by
  intro pins s σ H Q I h
  obtain ⟨nm, q, N, bs, bm, sn, sub, ab, col, dd, k0, k1, k2, k3, k5, hC, hbm⟩ := T.ox.cls
  refine wpAny_Call_Name_kw (ld_glob I hg hm ?_ hdb)
  refine PySem.W.callWith_K0 I.kIn T.ox.kC ?_
  show wpAny _ _ (call (.ref C) []) _ _ _
  obtain ⟨hp, g, dr, tk, os⟩ := s
  have hsz : hp.objs.size ≤ hp.objs.size + 1 := Nat.le_succ _
  have hn : H (hp.objs.size + 1) = none := I.hok.fresh hsz
  have kk : ∀ b o, hp.get? b = some o → ((hp.push (PySem.W.kdv_tup [])).push (PySem.HandSPX.excO C hp.objs.size)).get? b = some o := fun b o e => Heap.get?_push_of_some _ (Heap.get?_push_of_some _ e)
  have hget : ((hp.push (PySem.W.kdv_tup [])).push (PySem.HandSPX.excO C hp.objs.size)).get? (hp.objs.size + 1) = some (PySem.HandSPX.excO C hp.objs.size) := by heap_get
  have I2 : Inv X pins σ (upd H (hp.objs.size + 1) (exo (hp.objs.size + 1) C none)) ⟨(hp.push (PySem.W.kdv_tup [])).push (PySem.HandSPX.excO C hp.objs.size), g, dr, tk, os⟩ :=
    I.laid (t' := tk) (a := hp.objs.size + 1) (o := exo (hp.objs.size + 1) C none) (h' := (hp.push (PySem.W.kdv_tup [])).push (PySem.HandSPX.excO C hp.objs.size)) kk hsz (exo_ok hget)
  have r2 : Vals [V.ref (hp.objs.size + 1)] [Value.ref (hp.objs.size + 1)] := .cons rfl .nil
  have hq : sp0 X.K [V.ref (hp.objs.size + 1)] (upd H (hp.objs.size + 1) (exo (hp.objs.size + 1) C none)) (fun v H2 => v = .non ∧ H2 = upd H (hp.objs.size + 1) (exo (hp.objs.size + 1) C none)) (fun _ _ _ => False) :=
    ⟨_, C, rfl, T.ox, upd_same, rfl, rfl⟩
  refine wpAny_call (PySem.HandSPX.call_own F.excBase_ValueError (fun Y => PySem.HandSPX.refsVE_contains Y bm hbm) (I.kIn _ _ hC) (PySem.W.looks_findIn I.kIn T.iC) (fun self => PySem.W.bind_fn I.kIn self T.tI) (show ([] : List Value).length ≤ sizeLine by rw [sizeLine_eq]; exact Nat.zero_le _)
    (codeAny_mono (F1.run _ X.stack _ _ ⟨[Value.ref (hp.objs.size + 1)], []⟩ [Value.ref (hp.objs.size + 1)] _ _ (fun _ _ _ => False) (hr.make C [] []) (I2.env0.make C [] []) (hb _ [Value.ref (hp.objs.size + 1)] I2.kIn rfl) r2 hq) fun r s' hq' => ?_))
  cases r with
  | error er => exact pass0 pins σ _ _ er s' I2 hq'
  | ok fl =>
    cases fl with
    | ret u =>
      obtain ⟨v, H2, os2, bare2, un2, hok2, rv, ev, eH⟩ := hq'
      subst ev
      obtain ⟨h2, g2, d2, t2, os'⟩ := s'
      refine ⟨rv, mk_end_n (raises_own T.ox.exC T.ox.tyC) I hsz kk un2 hok2 os2 bare2 (by rw [eH, upd_same]) ?_⟩
      have e : del H2 (hp.objs.size + 1) = H := by
        rw [eH]
        funext b
        by_cases z : b = hp.objs.size + 1
        · rw [z, del_same, hn]
        · rw [del_ne z, upd_ne z]
      rw [e]
      exact h
    | next => exact False.elim hq'
    | brk => exact False.elim hq'
    | cont => exact False.elim hq'
end
structure ExI (P : Program) (w : World) (K : PySem.W.Frag) (mg : Str → Option Value) (base : Heap) (k : Nat) (C : Str) : Prop where
  ex : ∃ fd, OxC K (He.ga K C) (He.ma K (He.ga K C) "__init__") ∧ FnOk P w K mg base CX0 k (He.ma K (He.ga K C) "__init__") fd ["self"] (sp0 K) ∧ Binds K fd ["self"] [] ∧ mg C = some (.ref (He.ga K C))
theorem exi_of {P : Program} {w : World} {K : PySem.W.Frag} {mg : Str → Option Value} {base : Heap} {k : Nat} {C : Str} {fd : FuncData} (g : mg C = some (.ref (He.ga K C))) (T : OxC K (He.ga K C) (He.ma K (He.ga K C) "__init__"))
    (F : FnOk P w K mg base CX0 k (He.ma K (He.ga K C) "__init__") fd ["self"] (sp0 K)) (hb : Binds K fd ["self"] []) : ExI P w K mg base k C := ⟨fd, T, F, hb, g⟩
theorem pmk_exi {X : Cx} {pos p : Pos} {C : Str} {k : Nat} (T : ExI X.prog X.w X.K X.mg X.base k C) (hr : Room (k + 1) X.A) (hg : Gl X C := by rfl) (hdb : (C == ("__debug__" : Str)) = false := by decide) : PMk X (.Call (.Name C p) [] [] pos) (fun _ H Q => Q (.ref (He.ga X.K C)) none H) := by
  obtain ⟨fd, T, F, hb, g⟩ := T.ex
  exact pmk_oex0 T F hr hb hg g hdb
end DL

namespace DL
open PySem PySem.Spec PyProof.Rows L2
abbrev KnM := List SV → Store → Res (SV × Store)
section
variable {P : Program} {w : World} {K : PySem.W.Frag} {mg : Str → Option Value} {base : Heap}
end
def eCallK (f : KnM) (m : AM) : EM := fun rho S => (m rho S).bind fun x => match f x.1 x.2 with
  | .exc _ _ _ => .stuck
  | r => r
section
variable {X : Cx} {W : XW X.K} {Wq : WX} {e : Expr} {es : List Expr} {pos p : Pos} {m : AM}
end
end DL

namespace DL
open PySem PySem.Spec PyProof.Rows L2
section
variable {X : Cx} {W : XW X.K} {a b c : Expr} {ma mb mc : EM} {pos : Pos}
end
end DL

namespace DL
open PySem PySem.Spec PyProof.Rows L2
section
variable {X : Cx} {W : XW X.K} {a b c : Expr} {ma mb mc : EM} {pos : Pos}
end
end DL

namespace DL
open PySem PySem.Spec PyProof.Rows L2
section
variable {X : Cx} {W : XW X.K} {a b c : Expr} {ma mb mc : EM} {pos : Pos}
theorem ctup_of {K : PySem.W.Frag} {x : Str} {ws : List Key} (c : fcTup x ws K = true) : ∀ H, SqT K H (He.ga K x) (ws.map kV) := fun H => by
  have := He.tupB_ok c H
  rw [List.map_map] at this
  have e : (He.Dv.v K ∘ kDv) = kV := by
    funext k
    cases k <;> rfl
  rwa [e] at this
theorem kV_flat (k : Key) : flatV (kV k) = true := by cases k <;> rfl
theorem kV_flats (ws : List Key) : (ws.map kV).all flatV = true := by
  rw [List.all_eq_true]
  intro v hv
  obtain ⟨k, _, rfl⟩ := List.mem_map.mp hv
  exact kV_flat k
theorem eqV_k (k j : Key) : eqV (kV j) (kV k) = decide (j = k) := by
  rcases k with i | s <;> rcases j with i' | s'
  · rw [Bool.eq_iff_iff]
    simp [kV, eqV]
  · rfl
  · rfl
  · rw [Bool.eq_iff_iff]
    simp [kV, eqV]
def anyK (k : Key) (ws : List Key) : Bool := ws.any fun j => decide (j = k)
theorem inV_k (k : Key) (ws : List Key) : inV (kV k) (ws.map kV) = anyK k ws := by
  unfold inV anyK
  rw [List.any_map]
  congr 1
  funext j
  exact eqV_k k j
def keyS : SV → Option Key
  | .fr (.int i) => some (.inl i)
  | .fr (.str s) => some (.inr s)
  | _ => none
def keysD : List D → Option (List Key)
  | [] => some []
  | .int i :: ds => (keysD ds).map fun ws => .inl i :: ws
  | .str s :: ds => (keysD ds).map fun ws => .inr s :: ws
  | _ => none
theorem keyS_ok {K : PySem.W.Frag} {ph : List Addr} {H : Hp} {v : V} {x : SV} {k : Key} (d : DenS K ph H v x) (e : keyS x = some k) : v = kV k := by
  unfold keyS at e
  split at e
  · cases e; exact d_int d
  · cases e; exact d_str d
  · cases e
theorem keysD_ok {K : PySem.W.Frag} {F : Hp} : ∀ {ds : List D} {vs : List V} {ws : List Key}, Dens K F vs ds → keysD ds = some ws → vs = ws.map kV
  | [], _, _, .nil, e => by cases e; rfl
  | .int i :: ds, _, _, .cons d r, e => by
    obtain ⟨ws, h1, rfl⟩ := Option.map_eq_some_iff.mp (show (keysD ds).map (fun ws => Sum.inl i :: ws) = some _ from e)
    rw [keysD_ok r h1, d_int d]
    rfl
  | .str s :: ds, _, _, .cons d r, e => by
    obtain ⟨ws, h1, rfl⟩ := Option.map_eq_some_iff.mp (show (keysD ds).map (fun ws => Sum.inr s :: ws) = some _ from e)
    rw [keysD_ok r h1, d_str d]
    rfl
  | .non :: _, _, _, _, e => by cases e
  | .bl _ :: _, _, _, _, e => by cases e
  | .tup _ :: _, _, _, _, e => by cases e
  | .lst _ :: _, _, _, _, e => by cases e
  | .scr _ :: _, _, _, _, e => by cases e
  | .ty _ :: _, _, _, _, e => by cases e
  | .ref _ :: _, _, _, _, e => by cases e
  | .ins _ _ :: _, _, _, _, e => by cases e
  | .cls _ :: _, _, _, _, e => by cases e
  | .dct _ :: _, _, _, _, e => by cases e
  | .exn _ _ _ _ :: _, _, _, _, e => by cases e
def memK (ng : Bool) (k : Key) (ws : List Key) : Bool := if ng then !anyK k ws else anyK k ws
def inKG (n : Str) (ws : List Key) (ng : Bool) : G2 := fun x b S => match keyS x, b with
  | some k, .fr (.cls m) => if m = n then okV (.bl (memK ng k ws)) S else .stuck
  | _, _ => .stuck
def inTpG (ng : Bool) : G2 := fun x b S => match keyS x, b with
  | some k, .fr (.tup ds) => match keysD ds with
    | some ws => okV (.bl (memK ng k ws)) S
    | none => .stuck
  | _, _ => .stuck
theorem inK_ok {n : Str} {ws : List Key} {ng : Bool} (hT : ∀ H, SqT X.K H (He.ga X.K n) (ws.map kV)) : Op2 X W (rIn X.K ng) (inKG n ws ng) := by
  intro ph S H x y a b Q g da db h
  unfold inKG at h
  split at h
  · rename_i k m hk
    split at h
    · rename_i hm
      subst hm
      cases db
      rw [keyS_ok da hk]
      refine ⟨_, _, rfl, .inr (hT H), kV_flat k, kV_flats ws, ?_⟩
      rw [inV_k]
      exact fin_v g (.bl _) h
    · exact h.elim
  · exact h.elim
theorem inTp_ok {ng : Bool} : Op2 X W (rIn X.K ng) (inTpG ng) := by
  intro ph S H x y a b Q g da db h
  unfold inTpG at h
  split at h
  · rename_i k ds hk
    split at h
    · rename_i ws hw
      obtain ⟨p, vs, rfl, s, r⟩ := d_tup db
      rw [keysD_ok r hw] at s
      rw [keyS_ok da hk]
      refine ⟨_, _, rfl, .inr (hide_sub.sqT s), kV_flat k, kV_flats ws, ?_⟩
      rw [inV_k]
      exact fin_v g (.bl _) h
    · exact h.elim
  · exact h.elim
theorem pd_inK {n : Str} {ws : List Key} (hT : ∀ H, SqT X.K H (He.ga X.K n) (ws.map kV)) (ha : PD X W a ma) (hb : PD X W b mb) (hm : behindInMarks .In b = false := by first | exact nomark _ | rfl) : PD X W (.Compare a [.In] [b] pos) (e2 (inKG n ws false) ma mb) := pd_cmp op_in_seq (inK_ok hT) ha hb hm
theorem pt_notInK {n : Str} {ws : List Key} (hT : ∀ H, SqT X.K H (He.ga X.K n) (ws.map kV)) (ha : PD X W a ma) (hb : PD X W b mb) (hm : behindInMarks .NotIn b = false := by first | exact nomark _ | rfl) : PDT X W (.Compare a [.NotIn] [b] pos) (tB (e2 (inKG n ws true) ma mb)) := pt_2 op_notIn_seq (inK_ok hT) ha hb hm
theorem pt_notInTp (ha : PD X W a ma) (hb : PD X W b mb) (hm : behindInMarks .NotIn b = false := by first | exact nomark _ | rfl) : PDT X W (.Compare a [.NotIn] [b] pos) (tB (e2 (inTpG true) ma mb)) := pt_2 op_notIn_seq inTp_ok ha hb hm
end
end DL

namespace HT
open PySem PySem.Spec PyProof.Rows
section
variable {prog : Program} {w : World} {A : Around} {E : Value → Shared → Prop} {s : Shared}
end
end HT
namespace DL
open PySem PySem.Spec PyProof.Rows L2
section
variable {X : Cx}
end
section
variable {X : Cx} {W : XW X.K} {a : Expr} {m : EM} {k : Nat} {p1 p2 p3 pos : Pos}
end
end DL

namespace DL
open PySem PySem.Spec PyProof.Rows L2
section
variable {X : Cx} {W : XW X.K} {a : Expr} {m : EM}
end
end DL

namespace DL
open PySem PySem.Spec PyProof.Rows L2
section
variable {X : Cx} {W : XW X.K} {a b c tg : Expr} {ma mb mc : EM} {pos : Pos}
def CPowW (i j : Int) : Prop := 0 ≤ j ∧ (Builtin.Int.intBits i : Int) * j ≤ 2 ^ 27
instance decCPowW (i j : Int) : Decidable (CPowW i j) := by unfold CPowW; infer_instance
theorem op_powW : OpR X (binaryOp .Pow) (rI CPowW fun i j => .int (i ^ j.toNat)) := opI fun _ _ _ _ _ _ _ hc q => pow_int hc.1 hc.2 q
def powWG : G2 := fun a b S => match a, b with
  | .fr (.int i), .fr (.int j) => if CPowW i j then okV (.int (i ^ j.toNat)) S else .stuck
  | _, _ => .stuck
theorem powW_ok : Op2 X W (rI CPowW fun i j => .int (i ^ j.toNat)) powWG := by
  intro ph S H x y a b Q g da db h
  unfold powWG at h
  split at h
  · split at h
    · exact int2_ok da db (by assumption) (fin_v g (.int _) h)
    · exact h.elim
  · exact h.elim
theorem pd_powW (ha : PD X W a ma) (hb : PD X W b mb) : PD X W (.BinOp a .Pow b pos) (e2 powWG ma mb) := pd_2 op_powW powW_ok ha hb
def strsOf : List SV → Option (List Str)
  | [] => some []
  | .fr (.str z) :: xs => (strsOf xs).map fun ys => z :: ys
  | _ => none
theorem strsOf_ok {K : PySem.W.Frag} {ph : List Addr} {H : Hp} : ∀ {xs : List SV} {vs : List V} {ys : List Str}, DenSs K ph H vs xs → strsOf xs = some ys → vs = ys.map V.str
  | [], _, _, .nil, e => by cases e; rfl
  | .fr (.str z) :: xs, _, _, .cons d r, e => by
    obtain ⟨ys, h1, rfl⟩ := Option.map_eq_some_iff.mp (show (strsOf xs).map (fun ys => z :: ys) = some _ from e)
    rw [strsOf_ok r h1, d_str d]
    rfl
  | .fr (.non) :: _, _, _, _, e => by cases e
  | .fr (.bl _) :: _, _, _, _, e => by cases e
  | .fr (.int _) :: _, _, _, _, e => by cases e
  | .fr (.tup _) :: _, _, _, _, e => by cases e
  | .fr (.lst _) :: _, _, _, _, e => by cases e
  | .fr (.scr _) :: _, _, _, _, e => by cases e
  | .fr (.ty _) :: _, _, _, _, e => by cases e
  | .fr (.ref _) :: _, _, _, _, e => by cases e
  | .fr (.ins _ _) :: _, _, _, _, e => by cases e
  | .fr (.cls _) :: _, _, _, _, e => by cases e
  | .fr (.dct _) :: _, _, _, _, e => by cases e
  | .fr (.exn _ _ _ _) :: _, _, _, _, e => by cases e
  | .cell _ :: _, _, _, _, e => by cases e
def joinG : GMt := fun x xs S => match x, xs with
  | .fr (.str z), [a] => match rdS S a with
    | some ys => match strsOf ys with
      | some zs => if (zs.map (·.length)).sum + zs.length * z.length ≤ 16777216 then okV (.str (Txt.join z zs)) S else .stuck
      | none => .stuck
    | none => .stuck
  | _, _ => .stuck
theorem join_ok : OpM X W (fun x xs H Q => ∃ a p, ∃ ys : List Str, x = .str a ∧ xs = [.ref p] ∧ (SqL X.K H p (ys.map V.str) ∨ SqT X.K H p (ys.map V.str)) ∧
    (ys.map (·.length)).sum + ys.length * a.length ≤ 16777216 ∧ Q (.str (Txt.join a ys)) H) joinG := by
  intro ph S H x a xs as Q g dx d h
  unfold joinG at h
  split at h
  · rename_i z y
    obtain ⟨v, rfl, dv⟩ := one_of d
    rw [d_str dx]
    split at h
    · rename_i ys hy
      split at h
      · rename_i zs hz
        split at h
        · rename_i hl
          obtain ⟨p, vs, rfl, s, r⟩ := rdS_ok g dv hy
          rw [strsOf_ok r hz] at s
          exact ⟨z, p, zs, rfl, rfl, .inl s, hl, fin_v g (.str _) h⟩
        · exact h.elim
      · exact h.elim
    · exact h.elim
  · exact h.elim
def sgnS (z : Str) : List SV := z.cps.toList.map fun c => .fr (.str ⟨#[c]⟩)
def iStS (m : EM) : IM := fun rho S => (m rho S).bind fun x => match x.1 with
  | .fr (.str z) => .ok (⟨sgnS z, fun _ => True⟩, x.2)
  | _ => .stuck
theorem walk_sgn {K : PySem.W.Frag} {ph : List Addr} {H : Hp} {z : Str} {lk : Store → Prop} : WalkOk K ph H (Its z) ⟨sgnS z, lk⟩ where
  go := fun i x ph' H' S' hx e g _ => by
    have hx : (sgnS z)[i]? = some x := hx
    unfold sgnS at hx
    rw [List.getElem?_map] at hx
    obtain ⟨c, hc, _⟩ := Option.map_eq_some_iff.mp hx
    have := (List.getElem?_eq_some_iff.mp hc).1
    show i < z.cps.size
    rwa [Array.length_toList] at this
  yld := fun i x ph' H' S' v H2 hx e g _ y => by
    obtain ⟨rfl, c, hc, rfl⟩ := y
    have hx : (sgnS z)[i]? = some x := hx
    unfold sgnS at hx
    rw [List.getElem?_map, Array.getElem?_toList, hc] at hx
    cases hx
    exact ⟨Ext.refl _ _, g, .str _⟩
  stop := fun i ph' H' S' hi e g _ => by
    have hi : (sgnS z).length ≤ i := hi
    show z.cps.size ≤ i
    unfold sgnS at hi
    rwa [List.length_map, Array.length_toList] at hi
theorem pid_sgn (ha : PD X W a ma) : PID X W tg a (iStS ma) := by
  obtain ⟨ta, pa, sa⟩ := ha.ex
  refine ⟨_, pi_str pa, fun ph S H sg rho R g so h => sa ph S H sg rho _ g so (holds_imp (holds_bind h) (fun x hx => ?_) fun _ _ _ q => q)⟩
  intro ph1 v1 H1 x1 g1 d1
  obtain ⟨sv, S1⟩ := x
  dsimp only at *
  split at hx
  · exact ⟨_, d_str d1, hx ph1 H1 _ x1 g1 walk_sgn⟩
  · exact hx.elim
def oneS : Str → Option Nat
  | ⟨⟨[c]⟩⟩ => some c
  | _ => none
theorem oneS_ok {z : Str} {c : Nat} (h : oneS z = some c) : z = ⟨#[c]⟩ := by
  unfold oneS at h
  split at h
  · cases h; rfl
  · cases h
def inSgG (ng : Bool) : G2 := fun a b S => match a, b with
  | .fr (.str x), .fr (.str z) => match oneS x with
    | some c => okV (.bl (if ng then !decide (c ∈ z.cps.toList) else decide (c ∈ z.cps.toList))) S
    | none => .stuck
  | _, _ => .stuck
theorem inSg_ok : Op2 X W rInS (inSgG false) := by
  intro ph S H x y a b Q g da db h
  unfold inSgG at h
  split at h
  · split at h
    · rename_i c hc
      rw [d_str da, d_str db]
      exact ⟨c, _, by rw [oneS_ok hc], rfl, fin_v g (.bl _) h⟩
    · exact h.elim
  · exact h.elim
theorem pd_inSg (ha : PD X W a ma) (hb : PD X W b mb) (hm : behindInMarks .In b = false := by first | exact nomark _ | rfl) : PD X W (.Compare a [.In] [b] pos) (e2 (inSgG false) ma mb) := pd_cmp op_inS inSg_ok ha hb hm
end
def eCall0 (f : FnM) (c : Bool) : EM := fun _ S => (noX (f [] S)).bind (back c)
section
variable {X : Cx} {W : XW X.K} {pos p : Pos}
theorem pe_callD0 {k j : Nat} {x : Str} {f : FnM} (c : CalD X.prog X.w X.K X.mg X.base k x f) (hr : Room j X.A) (hk : k ≤ j) (hgd : X.A.guards = some []) (hg : Gl X x)
    (hdb : (x == ("__debug__" : Str)) = false) : PE X (.Call (.Name x p) [] [] pos) (fun sg H Q => spD X.K f [] H Q E0) := by
  obtain ⟨g, fd, ps, hm, hkp, hbd, F⟩ := c.ex
  refine ⟨fun pins s sg H Q I h => wpAny_Call_Name_kw (ld_glob I hg hm ?_ hdb)⟩
  refine PySem.W.callWith_K0 I.kIn hkp ?_
  have hl : (([] : List Value) ++ []).length = ps.length := F.len _ _ _ _ h
  have bt := hbd s [] I.kIn hl
  rw [List.append_nil] at bt
  refine wpAny_call (codeAny_mono (F.run X.A X.stack s H ⟨[], []⟩ [] [] Q E0 hgd (hr.mono hk) I.env0 bt .nil h) fun r s' hq => ?_)
  cases r with
  | error e => exact passL pins sg H s e s' I hq
  | ok fl =>
    cases fl with
    | ret u => exact I.after hq
    | next => exact False.elim hq
    | brk => exact False.elim hq
    | cont => exact False.elim hq
theorem pd_call0 {k j : Nat} {x : Str} {f : FnM} (cc : Bool) (c : CalD X.prog X.w X.K X.mg X.base k x f) (hr : Room j X.A) (hk : k ≤ j) (hgd : X.A.guards = some []) (hg : Gl X x := by rfl)
    (hdb : (x == ("__debug__" : Str)) = false := by decide) : PD X W (.Call (.Name x p) [] [] pos) (eCall0 f cc) := by
  refine ⟨_, pe_callD0 c hr hk hgd hg hdb, fun ph S H sg rho Q gd so h => ?_⟩
  exact ⟨ph, S, [], gd, .nil, noX_ok (holds_imp (holds_bind h) (fun r hr => back_ok (Ext.refl _ _) hr) fun _ _ _ q => q)⟩
end
end DL

namespace DL
open PySem PySem.Spec PyProof.Rows L2

section
variable {X : Cx} {pins : List (Addr × Obj)} {σ : L2.St} {H : Hp} {s : Shared} {d : Addr} {o : Obj}
end
section
variable {P : Program} {w : World} {K : PySem.W.Frag} {d : Addr} {o : Obj} {es : Array DictEntry} {ep : Nat}
end
section
variable {X : Cx} {tg e : Expr} {td : TE} {apos cpos : Pos}
end

end DL

namespace DL
open PySem PySem.Spec PyProof.Rows L2

def keyD : Key → D
  | .inl i => .int i
  | .inr x => .str x
def keyL : List D → Option (List Key)
  | [] => some []
  | d :: ds => match keyOf d, keyL ds with
    | some k, some ks => some (k :: ks)
    | _, _ => none
def keyT : SV → Option (List Key)
  | .fr (.tup ds) => keyL ds
  | _ => none
def tupK (k : List Key) : D := .tup (k.map keyD)
def SV.isCell : SV → Bool
  | .cell _ => true
  | _ => false
def ktC : Cell → Bool
  | .tup xs => xs.any SV.isCell
  | _ => true
def ktOk (S : Store) : Bool := S.all ktC
def rdTD (S : Store) : SV → Option (List (List Key × SV))
  | .cell k => match S[k]? with
    | some (.dit kvs) => some kvs
    | some (.dil kvs) => some kvs
    | _ => none
  | _ => none
section
variable {X : Cx} {W : XW X.K} {a b c : Expr} {ma mb mc : EM} {pos : Pos}
def eDNT : EM := fun _ S => .ok (.cell S.length, S ++ [.dit []])
def putTD (o i x : SV) (S : Store) : Res Store := match o, keyT i with
  | .cell j, some k => match S[j]? with
    | some (.dit kvs) => if kvs.length < sizeLine then .ok (S.set j (.dit (setK kvs k x))) else .stuck
    | _ => .stuck
  | _, _ => .stuck
def gPtT (mo mi : EM) : GM := fun x rho S => (mo rho S).bind fun o => (mi rho o.2).bind fun i => (putTD o.1 i.1 x i.2).bind fun S' => .ok (rho, S')
def getTG (o k z : SV) (S : Store) : Res (SV × Store) := match rdTD S o, keyT k with
  | some kvs, some key => .ok ((lookK kvs key).getD z, S)
  | _, _ => .stuck
def eGetT (mo mk mx : EM) : EM := fun rho S => (mo rho S).bind fun o => if (rdTD o.2 o.1).isSome then (mk rho o.2).bind fun k => (mx rho k.2).bind fun z => getTG o.1 k.1 z.1 z.2 else .stuck
def eMtT (g : GMt) (o : EM) (m : AM) : EM := fun rho S => (o rho S).bind fun x => match x.1 with
  | .cell j => match x.2[j]? with
    | some (.dit _) => (m rho x.2).bind fun y => g x.1 y.1 y.2
    | _ => .stuck
  | _ => .stuck
def itemsT : List (List Key × SV) → Option (List SV)
  | [] => some []
  | (k, .fr d) :: r => (itemsT r).map (SV.fr (.tup [tupK k, d]) :: ·)
  | (_, .cell _) :: _ => none
def lkd (S : Store) : SV → Option (List (List Key × SV))
  | .cell k => match S[k]? with
    | some (.dil kvs) => some kvs
    | _ => none
  | _ => none
def ktP : Store → Prop := fun S => ktOk S = true
def iItT (m : EM) : IM := fun rho S => (m rho S).bind fun x => match lkd x.2 x.1 with
  | some kvs => match itemsT kvs with
    | some xs => .ok (⟨xs, ktP⟩, x.2)
    | none => .stuck
  | none => .stuck
def iKyT (m : EM) : IM := fun rho S => (m rho S).bind fun x => match lkd x.2 x.1 with
  | some kvs => .ok (⟨kvs.map fun p => .fr (tupK p.1), ktP⟩, x.2)
  | none => .stuck
inductive Pth where
  | v (i : Nat) | f (i : Nat) (n : Str)
def Pth.at : Pth → Slots → Store → Option Nat
  | .v i, rho, _ => match rho[i]? with
    | some (some (.cell k)) => some k
    | _ => none
  | .f i n, rho, S => match rho[i]? with
    | some (some x) => match insOf S x with
      | some (_, fs) => match fs.lookup n with
        | some (.cell k) => some k
        | _ => none
      | none => none
    | _ => none
theorem SlotsOk.writ {K : PySem.W.Frag} {ph : List Addr} {H : Hp} {sg : L2.St} {rho : Slots} {p : Addr} {o : HO} (hm : p ∈ ph) (h : SlotsOk K ph H sg rho) : SlotsOk K ph (upd H p o) sg rho :=
  ⟨h.1, fun i x q => let ⟨v, a, b⟩ := h.2 i x q; ⟨v, a, b.writ hm⟩⟩
def tOwn (tbl : Tbl) (m : EM) : TM := fun rho S => (m rho S).bind fun x => match insOf x.2 x.1 with
  | some (n, _) => match tbl.lookup n with
    | some f => (noX (f [x.1] x.2)).bind fun r => match r.1 with
      | .val (.fr (.bl b)) => .ok (b, r.2)
      | _ => .stuck
    | none => .stuck
  | none => .stuck
end

section
variable {P : Program} {w : World} {K : PySem.W.Frag} {mg : Str → Option Value} {base : Heap}
end
def noXK (r : Res (SV × Store)) : Res (SV × Store) := match r with
  | .exc _ _ _ => .stuck
  | x => x
def mkEndK (k : Nat) (r : SV × Store) : Res (SV × Store) := match r.1 with
  | .fr .non => .ok (.cell k, r.2)
  | _ => .stuck
def eMakeK0 (n : Str) (f : KnM) : EM := fun _ S => (noXK (f [.cell S.length] (S ++ [.ins n []]))).bind (mkEndK S.length)
section
variable {X : Cx} {W : XW X.K} {pos p : Pos} {n : Str} {k : Nat} {f : KnM}
end
end DL

namespace DL
open PySem PySem.Spec PyProof.Rows L2 PySem.W

section
variable {prog : Program} {w : World} {A : Around} {s : Shared}
end
end DL

namespace DL
open PySem PySem.Spec PyProof.Rows L2 LamX

section
variable {X : Cx} {pins : List (Addr × Obj)} {σ : L2.St} {H : Hp} {s : Shared}
end
section
variable {prog : Program} {w : World} {A : Around} {E : Value → Shared → Prop} {s : Shared}
def KeyN (hb : Heap) (ps : List PyData) (s₁ : Shared) (v : Value) (s₂ : Shared) : Prop := ∃ h' tk a o vs n, s₂ = { s₁ with heap := h', toks := tk } ∧ (∀ b o, s₁.heap.get? b = some o → h'.get? b = some o) ∧ v = .ref a ∧ s₁.heap.objs.size ≤ a ∧ h'.get? a = some o ∧ o.cls = .type "tuple" ∧ o.data = .seq vs n ∧ ReadsAll hb vs.toList ps []
theorem KeyN.pure {hb : Heap} {ps : List PyData} {s₁ s₂ : Shared} {v : Value} (k : KeyN hb ps s₁ v s₂) (h : ∀ b o, hb.get? b = some o → s₁.heap.get? b = some o) : PySem.W.KeyPure (.tuple ps) s₁ v s₂ := by
  obtain ⟨h', tk, a, o, vs, n, rfl, k1, rfl, k2, k3, k4, k5, k6⟩ := k
  exact ⟨h', tk, rfl, k1, .tuple k3 k4 k5 (ReadsAll.keeps (fun b o e => k1 b o (h b o e)) k6)⟩
end
def minP {α : Type} (kd : α → PyData) (x : α) (xs : List α) : α := xs.foldl (fun a y => if PySem.W.dataLt (kd y) (kd a) then y else a) x
end DL

namespace DL
open PySem PySem.Spec PyProof.Rows L2 LamX

section
variable {P : Program} {w : World} {K : PySem.W.Frag} {mg : Str → Option Value} {base : Heap}
end
abbrev KG := D → Option (List PyData)
def keysG (kG : KG) : List D → Option (List (D × List PyData))
  | [] => some []
  | d :: ds => match kG d, keysG kG ds with
    | some k, some r => some ((d, k) :: r)
    | _, _ => none
def kd {α : Type} (p : α × List PyData) : PyData := .tuple p.2
def ksOk (ps : List (D × List PyData)) : Bool := ps.all fun p => decide ((kd p).depth ≤ 20) && !p.2.isEmpty && ps.all fun q => PySem.W.alike (kd p) (kd q)
def sortK (ps : List (D × List PyData)) : List D := (ps.mergeSort (PySem.W.dataLe false kd)).map (·.1)
def sortLG (kG : KG) (c : Bool) (a : SV) (S : Store) : Res (SV × Store) := match rdS S a with
  | some xs => match allFr xs with
    | some ds => match keysG kG ds with
      | some ps => if ksOk ps = true then newL0 c ((sortK ps).map SV.fr) S else .stuck
      | none => .stuck
    | none => .stuck
  | none => .stuck
def minLG (kG : KG) (a : SV) (S : Store) : Res (SV × Store) := match rdS S a with
  | some xs => match allFr xs with
    | some ds => match keysG kG ds with
      | some (p :: ps) => if ksOk (p :: ps) = true then okV (minP kd p ps).1 S else .stuck
      | _ => .stuck
    | none => .stuck
  | none => .stuck
section
variable {X : Cx} {W : XW X.K} {a : Expr} {ma : EM} {pos : Pos}
def eSortL (kG : KG) (c : Bool) (m : EM) : EM := fun rho S => (m rho S).bind fun x => sortLG kG c x.1 x.2
def eMinL (kG : KG) (m : EM) : EM := fun rho S => (m rho S).bind fun x => minLG kG x.1 x.2
end
end DL

namespace DL
open PySem PySem.Spec PyProof.Rows L2

section
variable {P : Program} {w : World} {K : PySem.W.Frag} {d : Addr} {o : Obj} {es : Array DictEntry} {ep : Nat} {tg : Expr}
end
section
variable {X : Cx} {tg e : Expr} {td : TE} {apos cpos : Pos}
end
def iVlT (m : EM) : IM := fun rho S => (m rho S).bind fun x => match lkd x.2 x.1 with
  | some kvs => .ok (⟨kvs.map (·.2), ktP⟩, x.2)
  | none => .stuck
section
variable {X : Cx} {W : XW X.K} {a b c : Expr} {ma mb mc : EM} {pos : Pos}
end
def eProp (cc : Bool) (n : Str) (f : FnM) (o : EM) : EM := fun rho S => (o rho S).bind fun x => match insOf x.2 x.1 with
  | some (n', _) => if n' = n then (noX (f [x.1] x.2)).bind (back cc) else .stuck
  | none => .stuck
section
variable {X : Cx} {W : XW X.K} {a : Expr} {ma : EM} {pos : Pos}
end
def sRsF (C : Str) (fs : List Str) (m : AM) : SM := fun rho S => (m rho S).bind fun x => match allFr x.1 with
  | some ds => if ds.length = fs.length ∧ fs.length ≤ 900 ∧ fs ≠ [] then .exc ⟨C, (fs.zip ds).reverse⟩ rho x.2 else .stuck
  | none => .stuck
section
variable {X : Cx} {Wq : WX} {pos p : Pos} {e : Expr} {es : List Expr} {m : AM}
end
section
variable {X : Cx} {a : Addr} {oe : Obj} {d : Option Addr} {pn : List (Addr × Obj)} {ex : Expr} {m : EM} {pos : Pos} {f : Str} {e : Exc} {Cs : List Str}
end
def eMethX (cc : Bool) (tbl : Tbl) (nm : Str) (o : EM) (m : AM) : EM := fun rho S => (o rho S).bind fun x => match metOf tbl nm x.2 x.1 with
  | some f => (m rho x.2).bind fun y => (cutX y.2.length rho (f (x.1 :: y.1) y.2)).bind (back cc)
  | none => .stuck
section
variable {X : Cx} {Wq : WX} {o e : Expr} {es : List Expr} {mo : EM} {m : AM} {nm : Str} {tbl : Tbl} {apos pos : Pos} {k : Nat}
end
end DL

namespace DL
open PySem PySem.Spec PyProof.Rows L2 PySem.W PySem.SeqAt

section
variable {A : Around} {s : Shared}
end
end DL

namespace DL
open PySem PySem.Spec PyProof.Rows L2
section
variable {prog : Program} {w : World} {A : Around} {s : Shared} {R : Result → Shared → Prop}
end
end DL

namespace DL
open PySem PySem.Spec PyProof.Rows L2
section
variable {X : Cx} {Wq : WX} {e : Expr} {es : List Expr} {m : AM} {pos p : Pos} {n : Str} {k : Nat} {f : FnM}
end
section
variable {X : Cx} {W : XW X.K} {e : Expr} {es : List Expr} {ta : TA} {m : AM} {pos p : Pos}
end
end DL

namespace DL
open PySem PySem.Spec PyProof.Rows L2
end DL

namespace DL
open PySem PySem.Spec PyProof.Rows L2
def ItzS (K : PySem.W.Frag) (x : Str) (b : Addr) (n : Nat) : It :=
  ⟨fun i H => ∃ (c : Nat) (ys : List V) (y : V), x.cps[i]? = some c ∧ SqT K H b ys ∧ ys.length = n ∧ ys[i]? = some y,
    fun i H v H' => ∃ (T : Addr) (c : Nat) (y : V), v = .ref T ∧ H T = none ∧ H' = upd H T (.tup [.str ⟨#[c]⟩, y]) ∧ x.cps[i]? = some c ∧ ∀ ys, SqT K H b ys → ys[i]? = some y,
    fun i H => ∃ ys : List V, SqT K H b ys ∧ ys.length = n ∧ (x.cps.size ≤ i ∨ n ≤ i)⟩
theorem turn_zipS {P : Program} {w : World} {K : PySem.W.Frag} {elts : List Expr} {kk : Nat} {tpos : Pos} {x : Str} {t : Tok} {b z TI TO i1 i2 : Addr} {n : Nat} (hb : b ≠ i2) (D : ZipSep2 z TI TO i1 i2 [i1] [i2, b]) :
    Turn P w K (.Tuple elts kk tpos) (ItzS K x b n) [z, TI, TO, i1, i2] z (fun i h => IsZip h z TI TO .none ∧ IsTupOf2 h TI (.ref i1) (.ref i2) ∧ (∃ x y, IsTupOf2 h TO x y) ∧ h.IsStrIter i1 (strIterType x) x t i ∧ h.IsTupleIter i2 b i ∧ i ≤ x.cps.size ∧ i ≤ n) where
  mem := by simp
  obj := fun i h st c hc => by
    obtain ⟨hz, hTI, ⟨x, y, hTO⟩, ⟨o1, e1, _, d1⟩, ⟨o2, e2, _, d2⟩, _⟩ := st
    have e' : c = z ∨ c = TI ∨ c = TO ∨ c = i1 ∨ c = i2 := by simpa using hc
    rcases e' with q | q | q | q | q
    · rw [q]; exact ⟨_, hz, fun v q => nomatch q⟩
    · rw [q]; exact ⟨_, hTI, fun v q => nomatch q⟩
    · rw [q]; exact ⟨_, hTO, fun v q => nomatch q⟩
    · rw [q]; exact ⟨o1, e1, fun v q => by rw [d1] at q; cases q⟩
    · rw [q]; exact ⟨o2, e2, fun v q => by rw [d2] at q; cases q⟩
  keep := fun i h h' st k => by
    obtain ⟨hz, hTI, ⟨x, y, hTO⟩, ⟨o1, e1, r1⟩, h2, l1, l2⟩ := st
    exact ⟨k z (by simp) _ hz, k TI (by simp) _ hTI, ⟨x, y, k TO (by simp) _ hTO⟩, ⟨o1, k i1 (by simp) _ e1, r1⟩, h2.at fun o q => k i2 (by simp) o q, l1, l2⟩
  item := by
    intro X hP hw hK hc i pins s σ H E I hf st hg
    subst hP hw hK
    obtain ⟨hz, hTI, ⟨x0, y0, hTO⟩, h1, h2, l1, l2⟩ := st
    obtain ⟨c, ys, y, hx, hqy, hn, hy⟩ := hg
    obtain ⟨its2, rv2, p2, _⟩ := I.tuple hqy
    obtain ⟨u2, hu2, ru2⟩ := rv2.get hy
    have hzl : z < s.heap.objs.size := Heap.lt_size hz
    have hi1 : i < x.cps.size := by
      rcases Nat.lt_or_ge i x.cps.size with q | q
      · exact q
      · rw [Array.getElem?_eq_none q] at hx; cases hx
    have hi2 : i < its2.toArray.size := by
      have := (List.getElem?_eq_some_iff.mp hu2).1
      simpa using this
    have hi3 : i < n := by
      have := (List.getElem?_eq_some_iff.mp hy).1
      omega
    have dx := Draws.text (prog := X.prog) (w := X.w) (A := X.A.in1) (I.ok.hd hc) i1 x t
    have dy := Draws.tuple (prog := X.prog) (w := X.w) (A := X.A.in1) (I.ok.hd hc) i2 b hb its2.toArray
    refine wpAny_pyNext_zipD2_item D dx dy hz hTI hTO h1 ⟨h2, p2⟩ hi1 hi2 fun x1 x2 h' tk P1 P2 z' TO' st1 st2 hT hsz hk => ?_
    obtain ⟨c', u, hc', rfl⟩ := P1
    rw [hx] at hc'
    cases hc'
    have P2' : its2[i]? = some x2 := by simpa using P2
    rw [hu2] at P2'
    cases P2'
    refine ⟨_, rfl, wpAny_letOwnedTupleGo_zip (s := { s with heap := h', toks := tk }) z' fun h'' z'' sb => ?_⟩
    have hT2 : h''.get? s.heap.objs.size = some { cls := .type "tuple", data := .seq #[.str ⟨#[c]⟩ u, u2] } := (sb.2 _ (Nat.ne_of_gt hzl)).trans hT
    have new : ObjOk X.prog X.w (upd H s.heap.objs.size (.tup [.str ⟨#[c]⟩, y])) h'' s.heap.objs.size (.tup [.str ⟨#[c]⟩, y]) :=
      ⟨by show 2 ≤ sizeLine; decide, [.str ⟨#[c]⟩ u, u2], .cons ⟨u, rfl⟩ (.cons ru2 .nil), ⟨_, hT2, rfl, _, rfl⟩⟩
    have I1 : Inv X pins σ (upd H s.heap.objs.size (.tup [.str ⟨#[c]⟩, y])) { s with heap := h'', toks := tk } :=
      I.turnedNew (t' := tk) (ch := [z, TI, TO, i1, i2]) (fun c o hb q => (sb.2 c (fun q' => hb (by simp [q']))).trans (hk c o (fun q' => hb (by simp [q'])) (fun q' => hb (by simp [q'])) (fun q' => hb (by simp [q'])) (fun q' => hb (by simp [q'])) q)) hf (Nat.le_refl _) new
    refine ⟨.ref s.heap.objs.size, _, I1, rfl, ⟨_, c, y, rfl, I.hok.fresh (Nat.le_refl _), rfl, hx, fun l hl => by rw [I.tuple_inj hl hqy]; exact hy⟩, ⟨z'', ?_, ⟨.str ⟨#[c]⟩ u, u2, ?_⟩, ?_, ?_, hi1, hi3⟩, fun c hcm => ?_⟩
    · exact (sb.2 _ D.TIz).trans (hk _ _ D.TIz D.TITO D.TIi1 D.TIi2 hTI)
    · exact (sb.2 _ D.TOz).trans TO'
    · obtain ⟨o1, e1, r1⟩ := st1
      exact ⟨o1, (sb.2 _ D.zi1.symm).trans e1, r1⟩
    · exact st2.1.at fun o q => (sb.2 _ D.zi2.symm).trans q
    · have hlt : c < s.heap.objs.size := by
        have e' : c = z ∨ c = TI ∨ c = TO ∨ c = i1 ∨ c = i2 := by simpa using hcm
        rcases e' with q | q | q | q | q
        · rw [q]; exact hzl
        · rw [q]; exact Heap.lt_size hTI
        · rw [q]; exact Heap.lt_size hTO
        · rw [q]; obtain ⟨_, e1, _⟩ := h1; exact Heap.lt_size e1
        · rw [q]; obtain ⟨_, e2, _⟩ := h2; exact Heap.lt_size e2
      rw [upd_ne (Nat.ne_of_lt hlt)]
      exact (hf c hcm).1
  done := by
    intro X hP hw hK hc i pins s σ H E I hf st hg
    subst hP hw hK
    obtain ⟨hz, hTI, ⟨x0, y0, hTO⟩, h1, h2, l1, l2⟩ := st
    obtain ⟨ys, hqy, hn, hend⟩ := hg
    obtain ⟨its2, rv2, p2, _⟩ := I.tuple hqy
    have l3 : its2.toArray.size = n := by
      have := rv2.length
      simp
      omega
    have he : i = x.cps.size ∨ i = its2.toArray.size := by
      rcases hend with q | q
      · exact .inl (by omega)
      · exact .inr (by omega)
    have dx := Draws.text (prog := X.prog) (w := X.w) (A := X.A.in1) (I.ok.hd hc) i1 x t
    have dy := Draws.tuple (prog := X.prog) (w := X.w) (A := X.A.in1) (I.ok.hd hc) i2 b hb its2.toArray
    exact wpAny_pyNext_zipD2_end D dx dy hz hTI hTO h1 ⟨h2, p2⟩ l1 (by omega) he fun h' tk hk => ⟨rfl, I.turnedL (t' := tk) (ch := [z, TI, TO, i1, i2]) (fun c o hb q =>
      hk c o (fun q' => hb (by simp [q'])) (fun q' => hb (by simp [q'])) (fun q' => hb (by simp [q'])) (fun q' => hb (by simp [q'])) q) hf⟩
  self := fun A i s Q E st h => wpAny_pyIter_zip st.1 h
def iZipS (K : PySem.W.Frag) (ta : TA) : TI := fun σ H R => ta σ H fun vs H1 => ∃ x b ys, vs = [.str x, .ref b] ∧ SqT K H1 b ys ∧ R (ItzS K x b ys.length) H1
theorem pi_zipS {X : Cx} {e e2 : Expr} {ta : TA} {p pos tpos : Pos} {elts : List Expr} {kk : Nat} (hg : Gl X "zip") (hm : X.mg "zip" = none) (ha : PA X [e, e2] ta)
    (hs : starEach [e, e2] X.env = (false, eval e X.env) :: starEach [e2] X.env := by rfl) (hpl : (backTo pos (starEach [e2] X.env)).any (·.1) = false := by rfl) :
    PI X (.Tuple elts kk tpos) (.Call (.Name "zip" p) [e, e2] [] pos) (iZipS X.K ta) := by
  refine ⟨fun pins s σ H R I h => ?_⟩
  refine Call_ (ld_blt I hg hm PyProof.Rows.boot_zip (PyProof.Rows.callWith_type1 (thn (ha.run pos pins s σ H _ I h) fun us s1 ⟨vs, H1, I1, r1, q1⟩ => ?_) hs hpl))
  obtain ⟨x, b, ys, ex, hqy, q⟩ := q1
  subst ex
  cases r1 with
  | cons r rr =>
    cases rr with
    | cons r' rr =>
      cases rr
      obtain ⟨t, rfl⟩ := r
      cases r'
      have fresh5 : ∀ c, c ∈ [s1.heap.objs.size + 4, s1.heap.objs.size + 2, s1.heap.objs.size + 3, s1.heap.objs.size, s1.heap.objs.size + 1] → FpOk X pins H1 c := fun c hcm => by
        have e' : c = s1.heap.objs.size + 4 ∨ c = s1.heap.objs.size + 2 ∨ c = s1.heap.objs.size + 3 ∨ c = s1.heap.objs.size ∨ c = s1.heap.objs.size + 1 := by simpa using hcm
        have hle : s1.heap.objs.size ≤ c := by
          rcases e' with z | z | z | z | z
          · rw [z]; exact Nat.le_add_right _ _
          · rw [z]; exact Nat.le_add_right _ _
          · rw [z]; exact Nat.le_add_right _ _
          · rw [z]; exact Nat.le_refl _
          · rw [z]; exact Nat.le_add_right _ _
        exact I1.fpOk hle (I1.hok.fresh hle)
      obtain ⟨its2, rv2, p2, _⟩ := I1.tuple hqy
      obtain ⟨o2, ho2, _⟩ := id p2
      have hbl : b < s1.heap.objs.size := Heap.lt_size ho2
      refine zip_begins2 (begins_text x t) (begins_tuple b its2.toArray) trivial p2 fun h' hz hTI hTO h1 h2 hsz hk => wpAny_pyIter_zip hz ?_
      have I2 : Inv X pins σ H1 { s1 with heap := h' } := I1.kept (t' := s1.toks) hk
      exact ⟨s1.heap.objs.size + 4, [s1.heap.objs.size + 4, s1.heap.objs.size + 2, s1.heap.objs.size + 3, s1.heap.objs.size, s1.heap.objs.size + 1], _, _, H1, rfl, I2,
        turn_zipS (x := x) (t := t) (n := ys.length) (Nat.ne_of_lt (Nat.lt_succ_of_lt hbl)) (zip_sep2 (fp1 := []) (fp2 := [b]) (fun c hc => nomatch hc) (fun c hc => by rw [List.mem_singleton.mp hc]; exact hbl)),
        ⟨hz, hTI, ⟨_, _, hTO⟩, ⟨_, h1, rfl, rfl⟩, ⟨_, h2, rfl, rfl⟩, Nat.zero_le _, Nat.zero_le _⟩, fresh5, q⟩
def ziS (cs : List Nat) (ds : List D) : List SV := List.zipWith (fun c d => SV.fr (.tup [.str ⟨#[c]⟩, d])) cs ds
theorem walk_zs {K : PySem.W.Frag} {ph : List Addr} {H : Hp} {x : Str} {b : Addr} {ys : List V} {ds : List D} (s : SqT K (hide ph H) b ys) (r : DenSs K ph H ys (ds.map SV.fr)) :
    WalkOk K ph H (ItzS K x b ys.length) ⟨ziS x.cps.toList ds, fun _ => True⟩ where
  go := fun i z ph' H' S' hx e g _ => by
    have hx' : (ziS x.cps.toList ds)[i]? = some z := hx
    unfold ziS at hx'
    rw [List.getElem?_zipWith_eq_some] at hx'
    obtain ⟨c, d, hc, hd, _⟩ := hx'
    obtain ⟨v, hv, _⟩ := paired_get r (show (ds.map SV.fr)[i]? = some (SV.fr d) by rw [List.getElem?_map, hd]; rfl)
    exact ⟨c, ys, v, by rw [← Array.getElem?_toList]; exact hc, hide_sub.sqT (e.sub.sqT s), rfl, hv⟩
  yld := fun i z ph' H' S' v H2 hx e g _ y => by
    have hx' : (ziS x.cps.toList ds)[i]? = some z := hx
    unfold ziS at hx'
    rw [List.getElem?_zipWith_eq_some] at hx'
    obtain ⟨c, d, hc, hd, rfl⟩ := hx'
    obtain ⟨u, hu, du⟩ := paired_get r (show (ds.map SV.fr)[i]? = some (SV.fr d) by rw [List.getElem?_map, hd]; rfl)
    obtain ⟨T, c', w, rfl, hT, rfl, hc', hw⟩ := y
    rw [← Array.getElem?_toList, hc] at hc'
    cases hc'
    have q := hw ys (hide_sub.sqT (e.sub.sqT s))
    rw [hu] at q
    cases q
    exact pair_den g hT (Den.str _) (du.mono e)
  stop := fun i ph' H' S' hi e g _ => by
    have hi' : (ziS x.cps.toList ds).length ≤ i := hi
    unfold ziS at hi'
    rw [List.length_zipWith, Array.length_toList] at hi'
    refine ⟨ys, hide_sub.sqT (e.sub.sqT s), rfl, ?_⟩
    have := r.length
    rw [List.length_map] at this
    omega
def iZs (m : AM) : IM := fun rho S => (m rho S).bind fun x => match x.1 with
  | [.fr (.str t), .fr (.tup ds)] => .ok (⟨ziS t.cps.toList ds, fun _ => True⟩, x.2)
  | _ => .stuck
section
variable {X : Cx} {W : XW X.K} {a b : Expr} {pos p tpos : Pos} {elts : List Expr} {kk : Nat} {m : AM}
theorem pid_zipS (hm : X.mg "zip" = none) (ha : PDA X W [a, b] m) (hg : Gl X "zip" := by rfl) (hs : starEach [a, b] X.env = (false, eval a X.env) :: starEach [b] X.env := by rfl) (hpl : (backTo pos (starEach [b] X.env)).any (·.1) = false := by rfl) : PID X W (.Tuple elts kk tpos) (.Call (.Name "zip" p) [a, b] [] pos) (iZs m) := by
  obtain ⟨t, pt, st⟩ := ha.ex
  refine ⟨_, pi_zipS hg hm pt hs hpl, fun ph S H sg rho R g so h => st ph S H sg rho _ g so (holds_imp (holds_bind h) (fun x hx => ?_) fun _ _ _ q => q)⟩
  intro ph1 vs H1 x1 g1 d1
  obtain ⟨xs, S1⟩ := x
  dsimp only at *
  split at hx
  · rename_i t ds
    obtain ⟨v, u, rfl, dv, du⟩ := two_of d1
    obtain ⟨q, us, rfl, s, r⟩ := d_tup du
    have r' : DenSs X.K ph1 H1 us (ds.map SV.fr) := of_dens r
    rw [d_str dv]
    exact ⟨t, q, us, rfl, hide_sub.sqT s, hx ph1 H1 _ x1 g1 (walk_zs s r')⟩
  · exact hx.elim
end
def lookS : List (Str × Str) → Str → Option Str
  | [], _ => none
  | (k, v) :: r, z => if k = z then some v else lookS r z
structure DctOk (K : PySem.W.Frag) (w : World) (n : Str) (kvs : List (Str × Str)) : Prop where
  ex : ∃ es m, KDict K w (He.ga K n) es m ∧ ∀ z : Str, ∃ r : Option Value, PySem.W.nsIn K (He.ga K n) z = some r ∧ match lookS kvs z with
    | some v => ∃ u, r = some u ∧ RelV (.str v) u
    | none => r = none
theorem kv_find : ∀ {l : List DictEntry} {kvs : List (Str × Str)} (z : Str), l.map kvOf = kvs.map some → ∃ r : Option Value, (match l.find? (·.key.isStr z) with
    | some e => some (some e.val)
    | none => if l.any (·.refKey) then none else some none) = some r ∧ match lookS kvs z with
    | some v => ∃ u, r = some u ∧ RelV (.str v) u
    | none => r = none
  | [], [], z, _ => ⟨none, rfl, rfl⟩
  | [], _ :: _, z, h => by cases h
  | _ :: _, [], z, h => by cases h
  | e :: l, (k, v) :: kvs, z, h => by
    have h' : kvOf e :: l.map kvOf = some (k, v) :: kvs.map some := h
    injection h' with h1 h2
    obtain ⟨r, h3, h4⟩ := kv_find z h2
    unfold kvOf at h1
    split at h1
    · rename_i k' t v' t' ek ev
      cases h1
      have er : e.refKey = false := by unfold DictEntry.refKey; rw [ek]
      by_cases hk : k = z
      · subst hk
        refine ⟨some e.val, ?_, ?_⟩
        · rw [List.find?_cons_of_pos (by rw [ek]; simp [Value.isStr])]
        · show match (if k = k then some v else lookS kvs k) with | some v => _ | none => _
          rw [if_pos rfl]
          exact ⟨_, rfl, by rw [ev]; exact ⟨_, rfl⟩⟩
      · refine ⟨r, ?_, ?_⟩
        · rw [List.find?_cons_of_neg (by rw [ek]; simp [Value.isStr, hk]), List.any_cons, er, Bool.false_or]
          exact h3
        · show match (if k = z then some v else lookS kvs z) with | some v => _ | none => _
          rw [if_neg hk]
          exact h4
    · cases h1
theorem dw_at {K : PySem.W.Frag} {w : World} {ts : List He.Tab} (e : ts.map (fun t => He.dicW K (t.1 K)) = ts.map fun t => some (He.keysIn w.params t.2)) (i : Nat) {t : He.Tab} (h : ts[i]? = some t := by rfl) : He.dicW K (t.1 K) = some (He.keysIn w.params t.2) := by
  have e2 : (ts.map fun t => He.dicW K (t.1 K))[i]? = (ts.map fun t => some (He.keysIn w.params t.2))[i]? := by rw [e]
  rw [List.getElem?_map, List.getElem?_map, h] at e2
  exact Option.some.inj e2
theorem dct_of {K : PySem.W.Frag} {w : World} {n : Str} {kvs : List (Str × Str)} {ks : List Str} (c : fcDct n kvs K = true) (d : He.dicW K (He.ga K n) = some (He.keysIn w.params ks)) : DctOk K w n kvs := by
  obtain ⟨es, m, D⟩ := He.dicW_ok d
  refine ⟨es, m, D, fun z => ?_⟩
  unfold fcDct at c
  rw [D.at_] at c
  unfold PySem.W.nsIn
  rw [D.at_]
  exact kv_find z (of_decide_eq_true c)
def inCDG (n : Str) (kvs : List (Str × Str)) (ng : Bool) : G2 := fun x b S => match x, b with
  | .fr (.str z), .fr (.cls m) => if m = n then okV (.bl (if ng then !(lookS kvs z).isSome else (lookS kvs z).isSome)) S else .stuck
  | _, _ => .stuck
def ixCDG (n : Str) (kvs : List (Str × Str)) : G2 := fun b x S => match x, b with
  | .fr (.str z), .fr (.cls m) => if m = n then (match lookS kvs z with
    | some v => okV (.str v) S
    | none => .stuck) else .stuck
  | _, _ => .stuck
section
variable {X : Cx} {W : XW X.K} {a b c : Expr} {ma mb mc : EM} {pos : Pos} {n : Str} {kvs : List (Str × Str)}
theorem look_txt {r : Option Value} {o : Option Str} (h : match o with | some v => ∃ u, r = some u ∧ RelV (.str v) u | none => r = none) : r.isSome = o.isSome := by
  cases o with
  | none => have h' : r = none := h; rw [h']; rfl
  | some v => obtain ⟨u, h', _⟩ := (show ∃ u, r = some u ∧ RelV (.str v) u from h); rw [h']; rfl
theorem pt_notInCD (T : DctOk X.K X.w n kvs) (ha : PD X W a ma) (hb : PD X W b mb) (hm : behindInMarks .NotIn b = false := by first | exact nomark _ | rfl) : PDT X W (.Compare a [.NotIn] [b] pos) (tB (e2 (inCDG n kvs true) ma mb)) := by
  obtain ⟨es, m, D, hD⟩ := T.ex
  refine pt_2 (op_notIn_kd D) ?_ ha hb hm
  intro ph S H x y u v Q g da db h
  unfold inCDG at h
  split at h
  · rename_i z m
    split at h
    · rename_i e
      subst e
      cases db
      rw [d_str da]
      obtain ⟨r, h1, h2⟩ := hD z
      refine ⟨z, r, rfl, rfl, h1, ?_⟩
      rw [look_txt h2]
      exact fin_v g (.bl _) h
    · exact h.elim
  · exact h.elim
theorem pd_ixCD (T : DctOk X.K X.w n kvs) (ha : PD X W a ma) (hb : PD X W b mb) (hs : PlainIx b := by intro _ _; rfl) : PD X W (.Subscript a b pos) (e2 (ixCDG n kvs) ma mb) := by
  obtain ⟨es, m, D, hD⟩ := T.ex
  obtain ⟨ta, pa, sa⟩ := ha.ex
  obtain ⟨tb, pb, sb⟩ := hb.ex
  have hop : Op2 X W (rIxD X.K X.w) (ixCDG n kvs) := by
    intro ph S H x y u v Q g da db h
    unfold ixCDG at h
    split at h
    · rename_i z m'
      split at h
      · rename_i e
        subst e
        cases da
        rw [d_str db]
        obtain ⟨r, h1, h2⟩ := hD z
        cases hl : lookS kvs z with
        | some s =>
          rw [hl] at h h2
          obtain ⟨u, rfl, ru⟩ := h2
          exact ⟨_, z, .str s, rfl, rfl, ⟨es, _, u, D.at_, D.lit, h1, ru⟩, fin_v g (.str _) h⟩
        | none =>
          rw [hl] at h
          exact h.elim
      · exact h.elim
    · exact h.elim
  exact ⟨_, pe_ix ix_kdict pa pb hs, fun ph S H sg rho Q gd so h => snd2 sa sb hop ph S H sg rho Q gd so h⟩
end
def eqT0G : G2 := fun a b S => match a, b with
  | .fr (.tup xs), .fr (.tup []) => okV (.bl xs.isEmpty) S
  | _, _ => .stuck
section
variable {X : Cx} {W : XW X.K} {a b c : Expr} {ma mb mc : EM} {pos : Pos}
def rT0 (K : PySem.W.Frag) : R2 := fun x y H Q => ∃ p q xs, x = .ref p ∧ y = .ref q ∧ SqT K H p xs ∧ SqT K H q [] ∧ Q (.bl xs.isEmpty) H
theorem op_t0 (hu : X.A.units + 64 < cLine) : OpR X (compareOp .Eq) (rT0 X.K) := by
  intro pins s σ H x y v u Q I rx ry h
  obtain ⟨p, q, xs, rfl, rfl, hp, hq, k⟩ := h
  cases rx
  cases ry
  obtain ⟨us, r1, p1, _⟩ := I.tuple hp
  obtain ⟨ws, r2, p2, _⟩ := I.tuple hq
  have l2 : ws = [] := by cases r2; rfl
  subst l2
  refine SeqAt.RcAt.tuples (e := fun _ => true) p1 p2 (by omega) (fun j _ h2 => absurd h2 (by simp)) _ _ _ _ ?_
  have l1 := r1.length
  have e : ((List.range (min us.toArray.size ([] : List Value).toArray.size)).all (fun _ => true) && us.toArray.size == ([] : List Value).toArray.size) = xs.isEmpty := by
    cases xs with
    | nil => cases r1; rfl
    | cons x xs => cases r1; simp
  rw [e]
  exact ⟨.bl _, H, I, rfl, k⟩
theorem t0_ok : Op2 X W (rT0 X.K) eqT0G := by
  intro ph S H x y u v Q g da db h
  unfold eqT0G at h
  split at h
  · rename_i ds
    obtain ⟨p, vs, rfl, s1, r1⟩ := d_tup da
    obtain ⟨q, ws, rfl, s2, r2⟩ := d_tup db
    have e : ws = [] := by cases r2; rfl
    subst e
    refine ⟨p, q, vs, rfl, rfl, hide_sub.sqT s1, hide_sub.sqT s2, ?_⟩
    have e : vs.isEmpty = ds.isEmpty := by cases r1 <;> rfl
    rw [e]
    exact fin_v g (.bl _) h
  · exact h.elim
theorem pt_eqT0 (hu : X.A.units + 64 < cLine) (ha : PD X W a ma) (hb : PD X W b mb) : PDT X W (.Compare a [.Eq] [b] pos) (tB (e2 eqT0G ma mb)) := pt_2 (op_t0 hu) t0_ok ha hb
end
end DL

namespace DL
open PySem PySem.Spec PyProof.Rows L2
section
variable {X : Cx} {W : XW X.K} {e : Expr} {es : List Expr} {m : AM} {pos p : Pos} {n : Str} {k : Nat} {f : KnM}
end
end DL

namespace DL
open PySem PySem.Spec PyProof.Rows L2
section
variable {X : Cx} {W : XW X.K} {a b c : Expr} {ma mb mc : EM} {pos : Pos} {tg : Expr}
end
section
variable {X : Cx} {W : XW X.K} {a b c : Expr} {ma mb mc : EM} {pos : Pos} {tg : Expr}
end
section
variable {X : Cx} {W : XW X.K} {a b c : Expr} {ma mb mc : EM} {pos : Pos}
end
end DL

namespace DL
open PySem PySem.Spec PyProof.Rows L2
section
variable {P : Program} {w : World} {K : PySem.W.Frag} {mg : Str → Option Value} {base : Heap}
end
section
variable {X : Cx} {W : XW X.K} {pos : Pos}
end
end DL

namespace DL
open PySem PySem.Spec PyProof.Rows L2
section
variable {X : Cx} {Wq : WX} {e : Expr} {es : List Expr} {m : AM} {pos p : Pos} {n : Str} {k : Nat} {f : KnM}
end
end DL

namespace DL
open PySem PySem.Spec PyProof.Rows L2
section
variable {X : Cx} {W : XW X.K} {a tg : Expr} {ma : EM}
end
end DL

namespace DL
open PySem PySem.Spec PyProof.Rows L2
section
variable {X : Cx} {W : XW X.K} {a b c : Expr} {ma mb mc : EM} {pos : Pos}
end
end DL

namespace DL
open PySem PySem.Spec PyProof.Rows L2
section
variable {X : Cx}
end
section
variable {X : Cx} {W : XW X.K}
end
end DL

namespace DL
open PySem PySem.Spec PyProof.Rows L2
section
variable {X : Cx} {W : XW X.K} {a b c : Expr} {ma mb mc : EM} {pos p p2 pos2 q : Pos}
end
section
variable {X : Cx} {pins : List (Addr × Obj)} {σ : L2.St} {H : Hp} {s : Shared} {a : Addr} {r : Value} {d : V} {k : List Key} {b : Addr} {A : Around} {E : Value → Shared → Prop}
end
section
variable {X : Cx} {W : XW X.K} {a b c : Expr} {ma mb mc : EM}
end
end DL

namespace DL
open PySem PySem.Spec PyProof.Rows L2
section
variable {X : Cx} {W : XW X.K}
end
end DL

namespace DL
open PySem PySem.Spec PyProof.Rows L2
section
variable {X : Cx} {W : XW X.K} {a : Expr} {ma : EM} {pos : Pos}
end
end DL

namespace DL
open PySem PySem.Spec PyProof.Rows L2
section
variable {prog : Program} {w : World} {A : Around} {E : Value → Shared → Prop} {s : Shared}
end
section
variable {P : Program} {w : World} {A : Around} {E : Value → Shared → Prop} {s : Shared}
end
end DL

namespace DL
open PySem PySem.Spec PyProof.Rows L2
section
variable {P : Program} {w : World} {A : Around} {E : Value → Shared → Prop} {s : Shared}
end
section
variable {X : Cx}
end
section
variable {K : PySem.W.Frag} {ph : List Addr} {H : Hp}
end
section
variable {X : Cx} {W : XW X.K} {a : Expr} {m : EM} {p p2 q pos : Pos}
end
end DL

namespace DL
open PySem PySem.Spec PyProof.Rows L2
section
variable {prog : Program} {w : World} {A : Around} {E : Value → Shared → Prop} {s : Shared}
theorem walk_shift {I : Addr} {fp wr : List Addr} {G : Array GenState → Array GenState → Prop} {n : Nat} {P : Nat → Value → Prop} {St : Nat → Shared → Prop} (W : WalksS prog w A I fp wr G n P St) {k : Nat} (hk : k ≤ n) :
    WalksS prog w A I fp wr G (n - k) (fun i => P (i + k)) (fun i => St (i + k)) where
  sub := W.sub
  grefl := W.grefl
  gtrans := W.gtrans
  frame := fun i s h' tk st => W.frame (i + k) s h' tk st
  item := fun i s Q E hi st hQ => W.item (i + k) s Q E (by omega) st fun v s' hp hs => hQ v s' hp (by rw [show i + 1 + k = i + k + 1 by omega]; exact hs)
  done := fun s Q E st hQ => W.done s Q E (by rw [show n = n - k + k by omega]; exact st) hQ
  self := fun i s Q E st hQ => W.self (i + k) s Q E st hQ
theorem unpack_star {t : Addr} {items : Array Value} {Q : List Value → Shared → Prop} (hh : A.handled = none) (ht : s.heap.IsTuple t items) (h1 : 1 ≤ items.size) (hz : items.size ≤ sizeLine)
    (hQ : ∀ (h' : Heap) (tk : Nat) (acc : List Value), (∀ b o, s.heap.get? b = some o → h'.get? b = some o) → acc = items.toList.drop 1 → Q (items.toList.take 1 ++ [.ref h'.objs.size]) { s with heap := h'.push { cls := .type "list", data := .seq acc.toArray }, toks := tk }) :
    wpAny (model prog w) A (unpackItems (.ref t) 2 (some 1)) Q E s := by
  have hlt : t ≠ s.heap.objs.size := by obtain ⟨o, ho, _⟩ := ht; exact Nat.ne_of_lt (Heap.lt_size ho)
  unfold unpackItems
  refine wpAny_bind ?_
  unfold notIterableAtAll
  refine wpAny_bind (wpAny_specialOf ht.typeIs F.slot_tuple_iter.lookup ?_)
  refine wpAny_pure ?_
  simp only [Bool.false_eq_true, if_false]
  refine wpAny_bind (wpAny_holding (wpAny_pyIter_tuple ht ?_))
  refine wpAny_bind (wpAny_holding (wpAny_draw_tuple hlt 1 0 _ _ ⟨_, Heap.get?_push_size _ rfl, rfl, rfl⟩ (ht.push _) (by omega) fun h₁ hit₁ hs₁ => ?_))
  have l1 : (List.take 1 (List.drop 0 items.toList)).length = 1 := by
    rw [List.drop_zero, List.length_take, Array.length_toList]
    omega
  rw [if_neg (by rw [l1]; decide)]
  have ht₁ : h₁.IsTuple t items := (ht.push _).extBut hs₁.extBut hlt
  have W := walk_shift (Walks.tuple (prog := prog) (w := w) (A := A.in1) (by simpa using hh) s.heap.objs.size t hlt items).toS (k := 1) h1
  refine wpAny_bind (wpAny_holding (wpAny_collect_iter (T := "tuple_iterator") (.inr (.inr (.inr rfl))) W (fun i s' st => st.1.typeIs) ⟨hit₁, ht₁⟩ ?_ (by simp) (fun s' acc hm hacc => ?_) (by omega)))
  · intro b hb
    rcases List.mem_cons.mp hb with rfl | hb
    · obtain ⟨o, ho, _⟩ := hit₁
      exact Heap.lt_size ho
    · rw [List.mem_singleton] at hb
      subst hb
      obtain ⟨o, ho, _⟩ := ht₁
      exact Heap.lt_size ho
  · have hr : acc.toList = items.toList.drop 1 := by
      obtain ⟨h2, h3⟩ := hacc
      refine List.ext_getElem? fun j => ?_
      rw [List.getElem?_drop, Array.getElem?_toList, Array.getElem?_toList]
      cases q : acc[j]? with
      | some v => rw [show 1 + j = j + 1 by omega, h3 j v q]
      | none =>
        have : acc.size ≤ j := by simpa using q
        rw [eq_comm, Array.getElem?_eq_none (by omega)]
    rw [if_neg (Nat.not_lt_zero _)]
    refine wpAny_bind (wpAny_newList ?_ (by
      rw [List.length_take]
      have : acc.toList.length ≤ items.size := by rw [hr, List.length_drop, Array.length_toList]; omega
      omega))
    simp only [show 2 - 1 - 1 = 0 from rfl, Nat.sub_zero, List.drop_length, List.take_length, List.append_nil, List.drop_zero]
    have k : ∀ b o, s.heap.get? b = some o → s'.heap.get? b = some o := fun b o e => by
      have nb : b ≠ s.heap.objs.size := Nat.ne_of_lt (Heap.lt_size e)
      exact hm.heap b o (fun z => nb (List.mem_singleton.mp z)) (hs₁.extBut b o nb (Heap.get?_push_of_some _ e))
    obtain ⟨h', g2, d', tk', os'⟩ := s'
    have eg : g2 = s.gens := hm.gens
    have ed : d' = s.drawn := hm.drawn
    have eo : os' = s.os := hm.os
    subst eg ed eo
    exact wpAny_pure (hQ h' tk' acc.toList k hr)
end
section
variable {X : Cx}
def gStar (K : PySem.W.Frag) (t : TGs) : TG := fun v σ H Q => ∃ a x xs, v = .ref a ∧ SqT K H a (x :: xs) ∧ xs.length + 1 ≤ sizeLine ∧ ∀ p, H p = none → t [x, .ref p] σ (upd H p (.lst xs)) Q
theorem pg_star {e1 e2 : Expr} {k : Nat} {pos pos2 : Pos} {t : TGs} (hc : X.calm = true) (h : PGs X [e1, e2] t)
    (hs : assignEach [e1, .Starred e2 pos2] X.env = [(false, assign e1 X.env), (true, assign e2 X.env)] := by rfl) (hp : assignEach [e1, e2] X.env = [(false, assign e1 X.env), (false, assign e2 X.env)] := by rfl) : PG X (.Tuple [e1, .Starred e2 pos2] k pos) (gStar X.K t) := by
  refine ⟨fun pins s σ H v u Q I r hw => ?_⟩
  obtain ⟨a, x, xs, rfl, hq, hl, hw⟩ := hw
  cases r
  obtain ⟨its, rv, ht, hz⟩ := I.tuple hq
  cases rv with
  | cons r1 rv =>
    rename_i u1 us
    rw [assign_Tuple]
    refine wpAny_bind (wpAny_standAt ?_)
    unfold unpack
    rw [hs]
    have ln : us.length = xs.length := rv.length.symm
    refine wpAny_bind (wpAny_holding (unpack_star (I.ok.hd hc) (items := (u1 :: us).toArray) ht (by simp) (by simp; omega) fun h' tk acc k ea => ?_))
    have ea : acc = us := by simpa using ea
    subst ea
    have I1 : Inv X pins σ H { s with heap := h', toks := tk } := I.kept (t' := tk) k
    have hn : H h'.objs.size = none := I1.hok.fresh (Nat.le_refl _)
    have I2 := I1.laid (t' := tk) (h' := h'.push { cls := .type "list", data := .seq acc.toArray }) (a := h'.objs.size) (o := .lst xs) (fun b o e => Heap.get?_push_of_some _ e) (Nat.le_refl _) ⟨by omega, acc, _, rv, Heap.get?_push_size _ rfl⟩
    have := h.run pins _ σ (upd H h'.objs.size (.lst xs)) [x, .ref h'.objs.size] [u1, .ref h'.objs.size] Q I2 (.cons r1 (.cons rfl .nil)) (hw _ hn)
    rw [hp] at this
    exact this
end
section
variable {X : Cx} {W : XW X.K}
def gTuS (m : GMs) : GM := fun x rho S => match x with
  | .fr (.tup (d :: ds)) => if ds.length ≤ 1000 then m [.fr d, .fr (.lst ds)] rho S else .stuck
  | _ => .stuck
theorem pgd_star {is : List Nat} {e1 e2 : Expr} {k : Nat} {pos pos2 : Pos} {m : GMs} (hc : X.calm = true) (h : PGDs X W is [e1, e2] m)
    (hs : assignEach [e1, .Starred e2 pos2] X.env = [(false, assign e1 X.env), (true, assign e2 X.env)] := by rfl) (hp : assignEach [e1, e2] X.env = [(false, assign e1 X.env), (false, assign e2 X.env)] := by rfl) : PGD X W is (.Tuple [e1, .Starred e2 pos2] k pos) (gTuS m) := by
  obtain ⟨t, p, s⟩ := h.ex
  refine ⟨_, pg_star hc p hs hp, fun ph S H sg rho v x Q g so d h => ?_⟩
  unfold gTuS at h
  split at h
  · rename_i d0 ds
    split at h
    · rename_i hl
      obtain ⟨q, vs, rfl, sq, r⟩ := d_tup d
      cases r with
      | cons h1 r =>
        rename_i v1 vs
        refine ⟨q, _, _, rfl, hide_sub.sqT sq, by rw [r.len, sizeLine_eq]; omega, fun p1 hp1 => ?_⟩
        have e : Ext ph H ph (upd H p1 (.lst vs)) := Ext.fresh hp1
        have h1 : DenS X.K ph H v1 (.fr d0) := h1
        have r' := dens_of (DenSs.mono e (of_dens r))
        have h2 : DenS X.K ph (upd H p1 (.lst vs)) (.ref p1) (.fr (.lst ds)) := Den.lst (vs := vs) (hide_of (g.new hp1) upd_same) r'
        exact s ph S _ sg rho _ _ Q (g.fresh hp1) (so.mono e) (.cons (DenS.mono e h1) (.cons h2 .nil)) (holds_imp h (fun c hc => fun ph2 sg2 H2 x2 g2 so2 o2 => hc ph2 sg2 H2 (e.trans x2) g2 so2 o2) fun e' r' s' q' => W.mono _ _ _ _ e' r' s' e q')
    · exact h.elim
  · exact h.elim
end
end DL

namespace DL
open PySem PySem.Spec PyProof.Rows L2
def setdKD (o i z : SV) (S : Store) : Res (SV × Store) := match o, i with
  | .cell j, .fr d => match S[j]? with
    | some (.dic kvs) => match keyOf d with
      | some k => if kvs.length < sizeLine then (match lookK kvs k with
        | some y => .ok (y, S)
        | none => .ok (z, S.set j (.dic (setK kvs k z)))) else .stuck
      | none => .stuck
    | _ => .stuck
  | _, _ => .stuck
def eSetdK (mo mk mx : EM) : EM := fun rho S => (mo rho S).bind fun o => if (rdK o.2 o.1).isSome then (mk rho o.2).bind fun k => (mx rho k.2).bind fun z => setdKD o.1 k.1 z.1 z.2 else .stuck
section
variable {X : Cx} {W : XW X.K} {a b c : Expr} {ma mb mc : EM}
theorem pd_setdK {apos cpos : Pos} (ha : PD X W a ma) (hb : PD X W b mb) (hc : PD X W c mc) (m : M2 X a "setdefault" apos b c cpos := by exact ⟨rfl, rfl, rfl, rfl⟩) : PD X W (.Call (.Attribute a "setdefault" apos) [b, c] [] cpos) (eSetdK ma mb mc) := by
  obtain ⟨ta, pa, sa⟩ := ha.ex
  obtain ⟨tb, pb, sb⟩ := hb.ex
  obtain ⟨tc, pc, sc⟩ := hc.ex
  refine ⟨_, pe_dsetd pa pb pc m, fun ph S H sg rho Q g so h => sa ph S H sg rho _ g so (holds_imp (holds_bind h) (fun o ho => ?_) fun _ _ _ q => q)⟩
  intro ph1 v1 H1 x1 g1 d1
  split at ho
  · rename_i hs
    obtain ⟨kvs0, h0⟩ := Option.isSome_iff_exists.mp hs
    obtain ⟨p, vs0, rfl, hp0, _⟩ := rdK_ok g1 d1 h0
    refine ⟨p, rfl, .inl ⟨_, .inl hp0⟩, sb ph1 o.2 H1 sg rho _ g1 (so.mono x1) (holds_imp (holds_bind ho) (fun k hk => ?_) fun e r s q => W.mono _ _ _ _ e r s x1 q)⟩
    intro ph2 v2 H2 x2 g2 d2
    refine sc ph2 k.2 H2 sg rho _ g2 ((so.mono x1).mono x2) (holds_imp (holds_bind hk) (fun z hz => ?_) fun e r s q => W.mono _ _ _ _ e r s (x1.trans x2) q)
    intro ph3 v3 H3 x3 g3 d3
    have x13 := x1.trans (x2.trans x3)
    unfold setdKD at hz
    split at hz
    · rename_i j d hoj hkd
      split at hz
      · rename_i kvs hj
        split at hz
        · rename_i key hkey
          split at hz
          · rename_i hl
            have d1' := d1.mono (x2.trans x3)
            rw [hoj] at d1'
            obtain ⟨p', h1, e1⟩ := d1'
            cases e1
            obtain ⟨q, h3, vs, h4, h5⟩ := g3.at hj
            rw [h1] at h3; cases h3
            have d2' := d2.mono x3
            rw [hkd] at d2'
            have ek := keyOf_ok d2' hkey
            obtain ⟨i1, i2⟩ := lookK_ok key h5
            split at hz
            · rename_i y hy
              obtain ⟨v, hv, dv⟩ := i1 y hy
              exact ⟨vs, key, h4, ek, by rw [h5.length]; exact hl, (fun w hw => by rw [hv] at hw; cases hw; exact hz ph3 _ _ x13 g3 dv), fun q => by rw [hv] at q; cases q⟩
            · rename_i hy
              have hm : p ∈ ph3 := List.mem_of_getElem? h1
              have e : Ext ph3 H3 ph3 (upd H3 p (.dK (putK vs key v3))) := Ext.write hm (nofrz h4 fun _ _ z => nomatch z)
              refine ⟨vs, key, h4, ek, by rw [h5.length]; exact hl, fun v hv => ?_, fun _ => hz ph3 _ _ (x13.trans e) (g3.write h1 ⟨_, upd_same, setK_ok key (d3.mono e) (DenSK.mono e h5)⟩) (d3.mono e)⟩
              rw [i2 hy] at hv
              cases hv
          · exact hz.elim
        · exact hz.elim
      · exact hz.elim
    · exact hz.elim
  · exact ho.elim
end
end DL

namespace DL
open PySem PySem.Spec PyProof.Rows L2
def k_fmt (x : SV × Store) : Res (SV × Store) := match x.1 with
  | .fr (.str y) => if y.length ≤ sizeLine then .ok (.fr (.str y), x.2) else .stuck
  | .fr (.int i) => if i.natAbs.log2 < 1920 then .ok (.fr (.str (toString i)), x.2) else .stuck
  | _ => .stuck
def eFmt (m : EM) : EM := fun rho S => (m rho S).bind k_fmt
abbrev JM := Slots → Store → Str → Res (SV × Store)
def jN : JM := fun _ S acc => .ok (.fr (.str acc), S)
def k_j (n : JM) (rho : Slots) (acc : Str) (x : SV × Store) : Res (SV × Store) := match x.1 with
  | .fr (.str y) => if (acc ++ y).length ≤ sizeLine then n rho x.2 (acc ++ y) else .stuck
  | _ => .stuck
def jC (m : EM) (n : JM) : JM := fun rho S acc => (m rho S).bind (k_j n rho acc)
def eJs (n : JM) : EM := fun rho S => n rho S Str.empty
section
variable {X : Cx} {W : XW X.K}
theorem pd_fmt {e : Expr} {m : EM} {pos : Pos} (ha : PD X W e m) : PD X W (.FormattedValue e (-1) none pos) (eFmt m) := by
  obtain ⟨t, p, s⟩ := ha.ex
  refine ⟨_, pe_fmt p, fun ph S H sg rho Q g so h => s ph S H sg rho _ g so (holds_imp (holds_bind h) (fun x hx => ?_) fun _ _ _ q => q)⟩
  intro ph1 v H1 x1 g1 d1
  unfold k_fmt at hx
  split at hx
  · rename_i y hy
    rw [hy] at d1
    split at hx
    · rename_i hz
      have e : v = .str y := d_str d1
      exact .inl ⟨y, e, hz, hx ph1 _ H1 x1 g1 (Den.str y)⟩
    · exact hx.elim
  · rename_i i hi
    rw [hi] at d1
    split at hx
    · rename_i hz
      exact .inr ⟨i, d_int d1, hz, hx ph1 _ H1 x1 g1 (Den.str _)⟩
    · exact hx.elim
  · exact hx.elim
structure PJD (X : Cx) (W : XW X.K) (es : List Expr) (n : JM) : Prop where
  ex : ∃ ts, PJ X es ts ∧ ∀ (ph : List Addr) (S : Store) (H : Hp) (sg : L2.St) (rho : Slots) (acc : Str) (Q : VK), Good X.K ph H S → SlotsOk X.K ph H sg rho →
    holds (n rho S acc) (post X.K ph H Q) (W.rel ph H) → tJs ts acc sg H fun out H1 => Q (.str out) H1
theorem pjd_nil : PJD X W [] jN := ⟨[], .nil, fun ph S H sg rho acc Q g so h => h ph _ H (Ext.refl _ _) g (Den.str acc)⟩
theorem pjd_cons {e : Expr} {es : List Expr} {m : EM} {n : JM} (ha : PD X W e m) (hb : PJD X W es n) : PJD X W (e :: es) (jC m n) := by
  obtain ⟨t, p, s⟩ := ha.ex
  obtain ⟨ts, p2, s2⟩ := hb.ex
  refine ⟨t :: ts, .cons p p2, fun ph S H sg rho acc Q g so h => s ph S H sg rho _ g so (holds_imp (holds_bind h) (fun x hx => ?_) fun _ _ _ q => q)⟩
  intro ph1 v H1 x1 g1 d1
  unfold k_j at hx
  split at hx
  · rename_i y hy
    rw [hy] at d1
    split at hx
    · rename_i hz
      exact ⟨y, d_str d1, hz, s2 ph1 x.2 H1 sg rho _ Q g1 (so.mono x1) (holds_imp hx (fun c hc => post.mono x1 c hc) fun e r s q => W.mono _ _ _ _ e r s x1 q)⟩
    · exact hx.elim
  · exact hx.elim
theorem pd_joined {v1 v2 : Expr} {rest : List Expr} {n : JM} {pos : Pos} (h : PJD X W (v1 :: v2 :: rest) n) : PD X W (.JoinedStr (v1 :: v2 :: rest) pos) (eJs n) := by
  obtain ⟨ts, p, s⟩ := h.ex
  exact ⟨_, pe_joined p, fun ph S H sg rho Q g so h => s ph S H sg rho _ Q g so h⟩
end
end DL

namespace DL
open PySem PySem.Spec PyProof.Rows L2
section
variable {X : Cx} {W : XW X.K}
def intTG : GA := fun as S => match as with
  | [.fr (.str a)] => match PySem.intText? a with
    | some n => if a.length ≤ 640 then okV (.int n) S else .stuck
    | none => .stuck
  | _ => .stuck
theorem intT_ok : OpA X W (fun xs H Q => ∃ a n, xs = [.str a] ∧ PySem.intText? a = some n ∧ a.length ≤ 640 ∧ Q (.int n) H) intTG := by
  intro ph S H xs as Q g d h
  unfold intTG at h
  split at h
  · obtain ⟨v, rfl, dv⟩ := one_of d
    split at h
    · rename_i n hn
      split at h
      · rename_i hl
        rw [d_str dv]
        exact ⟨_, n, rfl, hn, hl, fin_v g (.int _) h⟩
      · exact h.elim
    · exact h.elim
  · exact h.elim
theorem strs_den {K : PySem.W.Frag} {ph : List Addr} {H : Hp} : ∀ ys : List Str, DenSs K ph H (ys.map V.str) (ys.map fun y => SV.fr (.str y))
  | [] => .nil
  | y :: ys => .cons (Den.str y) (strs_den ys)
def splitG (x : SV) (as : List SV) (S : Store) : Res (SV × Store) := match x, as with
  | .fr (.str a), [.fr (.str b)] => if (b.length == 0) = false ∧ a.length + 2 ≤ sizeLine then newL0 false ((Txt.split a b).map fun y => SV.fr (.str y)) S else .stuck
  | _, _ => .stuck
theorem split_ok : OpM X W (fun x xs H Q => ∃ a b, x = .str a ∧ xs = [.str b] ∧ (b.length == 0) = false ∧ a.length + 2 ≤ sizeLine ∧ rNewStrs (Txt.split a b) H Q) splitG := by
  intro ph S H x a xs as Q g dx d h
  unfold splitG at h
  split at h
  · rename_i z y
    obtain ⟨v, rfl, dv⟩ := one_of d
    split at h
    · rename_i hz
      rw [d_str dx, d_str dv]
      exact ⟨z, y, rfl, rfl, hz.1, hz.2, fun p hp => newL0_ok g (strs_den _) h p hp⟩
    · exact h.elim
  · exact h.elim
end
end DL

namespace DL
open PySem PySem.Spec PyProof.Rows L2
section
variable {X : Cx} {W : XW X.K} {a b : Expr} {ma mb : EM} {pos : Pos}
def kD : Key → D
  | .inl i => .int i
  | .inr s => .str s
theorem kD_den {K : PySem.W.Frag} {F : Hp} (k : Key) : Den K F (kV k) (kD k) := by
  cases k with
  | inl i => exact Den.int i
  | inr s => exact Den.str s
theorem kV_pair : ∀ ws : List Key, Paired (fun v k => v = kV k) (ws.map kV) ws
  | [] => .nil
  | _ :: ws => .cons rfl (kV_pair ws)
def ixKG (n : Str) (ws : List Key) : G2 := fun a b S => match a, b with
  | .fr (.cls m), .fr (.int i) => if m = n then (match atI ws i with
    | some k => .ok (.fr (kD k), S)
    | none => .stuck) else .stuck
  | _, _ => .stuck
theorem ixK_ok {n : Str} {ws : List Key} (hT : ∀ H, SqT X.K H (He.ga X.K n) (ws.map kV)) : Op2 X W (rIx X.K) (ixKG n ws) := by
  intro ph S H x y a b Q g da db h
  unfold ixKG at h
  split at h
  · rename_i m i
    rw [d_int (show Den X.K (hide ph H) y (.int i) from db)]
    split at h
    · rename_i hm
      subst hm
      split at h
      · rename_i k hk
        cases da
        obtain ⟨v, hv, e⟩ := atI_pair (kV_pair ws) hk
        subst e
        exact .inr (.inl ⟨_, ws.map kV, _, kV k, rfl, rfl, hT H, hv, h ph _ H (Ext.refl _ _) g (kD_den k)⟩)
      · exact h.elim
    · exact h.elim
  · exact h.elim
theorem pd_ixK {n : Str} {ws : List Key} (hT : ∀ H, SqT X.K H (He.ga X.K n) (ws.map kV)) (ha : PD X W a ma) (hb : PD X W b mb) (hs : PlainIx b := by intro _ _; rfl) : PD X W (.Subscript a b pos) (e2 (ixKG n ws) ma mb) := by
  obtain ⟨ta, pa, sa⟩ := ha.ex
  obtain ⟨tb, pb, sb⟩ := hb.ex
  exact ⟨_, pe_ix ix_seq pa pb hs, fun ph S H sg rho Q gd so h => snd2 sa sb (ixK_ok hT) ph S H sg rho Q gd so h⟩
def strAG : GA := fun as S => match as with
  | [.fr (.int i)] => if i.natAbs.log2 < 1920 then okV (.str (toString i)) S else .stuck
  | [.fr (.str a)] => okV (.str a) S
  | _ => .stuck
def rStrA : List V → Hp → VK → Prop := fun xs H Q => (∃ i, xs = [.int i] ∧ i.natAbs.log2 < 1920 ∧ Q (.str (toString i)) H) ∨ ∃ a, xs = [.str a] ∧ Q (.str a) H
theorem call_strA : CallR X (.type "str") rStrA := fun pins s σ H xs us Q I r h => h.elim (call_str_int pins s σ H xs us Q I r) (SkE.call_str_str pins s σ H xs us Q I r)
theorem strA_ok : OpA X W rStrA strAG := by
  intro ph S H xs as Q g d h
  unfold strAG at h
  split at h
  · obtain ⟨v, rfl, dv⟩ := one_of d
    split at h
    · rw [d_int dv]
      exact .inl ⟨_, rfl, by assumption, fin_v g (.str _) h⟩
    · exact h.elim
  · obtain ⟨v, rfl, dv⟩ := one_of d
    rw [d_str dv]
    exact .inr ⟨_, rfl, fin_v g (.str _) h⟩
  · exact h.elim
def txtK : List Key → Option (List Str)
  | [] => some []
  | .inr s :: ws => (txtK ws).map (s :: ·)
  | _ => none
theorem txtK_ok : ∀ {ws : List Key} {ys : List Str}, txtK ws = some ys → ws.map kV = ys.map V.str
  | [], _, e => by cases e; rfl
  | .inr s :: ws, _, e => by
    obtain ⟨ys, h1, rfl⟩ := Option.map_eq_some_iff.mp (show (txtK ws).map (s :: ·) = some _ from e)
    rw [List.map_cons, List.map_cons, txtK_ok h1]
    rfl
  | .inl _ :: _, _, e => by cases e
theorem tupd_of {K : PySem.W.Frag} {x : Str} (c : fcTupD x K = true) : ∃ o, K.lookup (He.ga K x) = some o ∧ o.cls = .type "tuple" ∧ o.dict = none := by
  unfold fcTupD at c
  cases q : K.lookup (He.ga K x) with
  | none => rw [q] at c; cases c
  | some o =>
    obtain ⟨oc, od, dt, osl⟩ := o
    rw [q] at c
    cases oc with
    | type n =>
      cases od with
      | none =>
        have : n = "tuple" := of_decide_eq_true c
        exact ⟨_, rfl, by rw [this], rfl⟩
      | some _ => cases c
    | _ => cases c
def tupIxKG (ws : List Key) (as : List SV) (S : Store) : Res (SV × Store) := match as with
  | [.fr (.str z)] => match txtK ws with
    | some ys => match ys.findIdx? (fun y => decide (y = z)) with
      | some j => okV (.int (j : Nat)) S
      | none => .stuck
    | none => .stuck
  | _ => .stuck
def eMtK (n : Str) (ws : List Key) (o : EM) (m : AM) : EM := fun rho S => (o rho S).bind fun x => match x.1 with
  | .fr (.cls k) => if k = n then (m rho x.2).bind fun y => tupIxKG ws y.1 y.2 else .stuck
  | _ => .stuck
theorem pd_tupIxK {n : Str} {ws : List Key} {apos cpos : Pos} {e : Expr} {es : List Expr} {m : AM} (hT : ∀ H, SqT X.K H (He.ga X.K n) (ws.map kV)) (hD : ∃ o, X.K.lookup (He.ga X.K n) = some o ∧ o.cls = .type "tuple" ∧ o.dict = none) (ho : PD X W a ma) (ha : PDA X W (e :: es) m)
    (hbase : attributeBase a "index" X.env (eval a X.env) = eval a X.env := by rfl)
    (hfew : ((backTo cpos (starEach (e :: es) X.env)).all (fun x => !x.1) && (backToKw cpos (keywordEach [] X.env)).all (fun x => x.1.isSome)
      && decide ((e :: es).length + ([] : List Keyword).length + (if ([] : List Keyword).isEmpty then 0 else 1) < 30)) = true := by rfl)
    (hline : (apos.endLine == cpos.line) = true := by rfl) (hs : starEach (e :: es) X.env = (false, eval e X.env) :: starEach es X.env := by rfl) (hplain : (backTo cpos (starEach es X.env)).any (·.1) = false := by rfl) :
    PD X W (.Call (.Attribute a "index" apos) (e :: es) [] cpos) (eMtK n ws ma m) := by
  obtain ⟨to, po, so'⟩ := ho.ex
  obtain ⟨t, pt, st⟩ := ha.ex
  refine ⟨_, pe_bm PySem.F.plainAttrs_tuple PySem.F.slot_tuple_index PySem.F.type_tuple_index mt_tup_index po pt hbase hfew hline hs hplain, fun ph S H sg rho Q gd so h => so' ph S H sg rho _ gd so (holds_imp (holds_bind h) (fun x hx => ?_) fun _ _ _ q => q)⟩
  intro ph1 v1 H1 x1 g1 d1
  split at hx
  · rename_i k hk
    rw [hk] at d1
    split at hx
    · rename_i hn
      subst hn
      cases d1
      refine ⟨.inr (.inl ⟨rfl, hD⟩), st ph1 x.2 H1 sg rho _ g1 (so.mono x1) (holds_imp (holds_bind hx) (fun y hy => ?_) fun e r s q => W.mono _ _ _ _ e r s x1 q)⟩
      intro ph2 vs H2 x2 g2 d2
      unfold tupIxKG at hy
      split at hy
      · rename_i z hz
        rw [hz] at d2
        obtain ⟨v, rfl, dv⟩ := one_of d2
        split at hy
        · rename_i ys hys
          split at hy
          · rename_i j hj
            obtain ⟨hl, h1, h2⟩ := List.findIdx?_eq_some_iff_getElem.mp hj
            rw [d_str dv]
            have sq := hT H2
            rw [txtK_ok hys] at sq
            refine ⟨_, ys, z, j, rfl, rfl, sq, by rw [List.getElem?_eq_getElem hl, of_decide_eq_true h1], fun m hm e => ?_, fin_v g2 (.int _) (holds_imp hy (fun c => post.mono (x1.trans x2) c) fun e r s q => W.mono _ _ _ _ e r s (x1.trans x2) q)⟩
            obtain ⟨l2, e⟩ := List.getElem?_eq_some_iff.mp e
            have := h2 m hm
            rw [e] at this
            exact this (decide_eq_true rfl)
          · exact hy.elim
        · exact hy.elim
      · exact hy.elim
    · exact hx.elim
  · exact hx.elim
end
end DL

namespace DL
open PySem L2

def WF (S : Store) : Prop := S.all (Cell.below S.length) = true
theorem SV.below_mono {n m : Nat} (h : n ≤ m) {x : SV} (b : x.below n = true) : x.below m = true := by
  cases x with
  | fr _ => rfl
  | cell k => simp only [SV.below, decide_eq_true_eq] at b ⊢; omega
theorem Cell.below_mono {n m : Nat} (h : n ≤ m) {c : Cell} (b : c.below n = true) : c.below m = true := by
  cases c with
  | lst xs =>
    simp only [Cell.below, List.all_eq_true] at b ⊢
    exact fun x hx => SV.below_mono h (b x hx)
  | ins C fs =>
    simp only [Cell.below, List.all_eq_true] at b ⊢
    exact fun x hx => SV.below_mono h (b x hx)
  | tup xs =>
    simp only [Cell.below, List.all_eq_true] at b ⊢
    exact fun x hx => SV.below_mono h (b x hx)
  | dic kvs =>
    simp only [Cell.below, List.all_eq_true] at b ⊢
    exact fun x hx => SV.below_mono h (b x hx)
  | dit kvs =>
    simp only [Cell.below, List.all_eq_true] at b ⊢
    exact fun x hx => SV.below_mono h (b x hx)
  | dil kvs =>
    simp only [Cell.below, List.all_eq_true] at b ⊢
    exact fun x hx => SV.below_mono h (b x hx)
  | dkl kvs =>
    simp only [Cell.below, List.all_eq_true] at b ⊢
    exact fun x hx => SV.below_mono h (b x hx)
  | err C => rfl
theorem wf_nil : WF [] := rfl
theorem WF.snoc {S : Store} {c : Cell} (h : WF S) (hc : c.below (S.length + 1) = true) : WF (S ++ [c]) := by
  unfold WF at h ⊢
  simp only [List.all_append, List.length_append, List.length_singleton, List.all_cons, List.all_nil, hc, Bool.and_true, Bool.and_eq_true, and_true]
  simp only [List.all_eq_true] at h ⊢
  exact fun x hx => Cell.below_mono (by omega) (h x hx)
theorem WF.set {S : Store} {c : Cell} (h : WF S) (k : Nat) (hc : c.below S.length = true) : WF (S.set k c) := by
  unfold WF at h ⊢
  simp only [List.all_eq_true, List.length_set] at h ⊢
  exact fun x hx => (List.mem_or_eq_of_mem_set hx).elim (h x) fun e => e ▸ hc
theorem leave_val {S : Store} (h : WF S) (d : D) : leave S.length (.fr d) S = .ok (.val (.fr d), S) := by
  unfold leave
  rw [List.take_length, if_pos (show S.all (Cell.below S.length) = true from h)]
theorem leave_new {S : Store} {c : Cell} (h : WF S) (hc : c.below S.length = true) : leave S.length (.cell S.length) (S ++ [c]) = .ok (.new c, S) := by
  unfold leave
  rw [List.take_left' rfl, if_pos (show S.all (Cell.below S.length) = true from h)]
  simp [hc]

theorem intText_len {i : Int} {k : Nat} (hk : 0 < k) (h : i.natAbs < 10 ^ k) : (PyData.shown (.int i)).length ≤ k + 1 := by
  rw [PyData.shown_int]
  have l : ∀ n : Nat, n < 10 ^ k → n.repr.length ≤ k := fun n hn => by
    have := (Nat.length_toDigits_le_iff (b := 10) (n := n) (by decide) hk).mpr hn
    rw [Nat.repr]
    simpa using this
  show (Str.ofString (Int.repr i)).length ≤ _
  rw [PySem.ofString_length]
  cases i with
  | ofNat n =>
    have := l n (by simpa using h)
    show n.repr.length ≤ _
    omega
  | negSucc n =>
    have := l (n + 1) (by simpa using h)
    show ("-" ++ (n + 1).repr).length ≤ _
    have e : "-".length = 1 := by decide
    rw [String.length_append, e]
    omega

mutual
def fit : Nat → D → Bool
  | _, .non => true
  | _, .bl _ => true
  | _, .int i => decide (i.natAbs < 10 ^ 129)
  | _, .str x => PyData.strOk x
  | n + 1, .tup ds => fits n ds
  | n + 1, .lst ds => fits n ds
  | n + 1, .scr ds => fits n ds
  | _, _ => false
def fits : Nat → List D → Bool
  | _, [] => true
  | n, d :: ds => fit n d && fits n ds
end
theorem log_lt {n k : Nat} (h : n < 2 ^ k) (hk : 0 < k) : n.log2 < k := by
  cases n with
  | zero => rw [Nat.log2_zero]; exact hk
  | succ m => exact (Nat.log2_lt (by omega)).mpr h
structure FitOk (n : Nat) (d : PyData) : Prop where
  lay : d.canLay0 = true
  dep : d.depth ≤ n
  show_ : d.showable = true
  nsh : d.intsShort 130 = true
structure FitsOk (n : Nat) (ds : List PyData) : Prop where
  lay : PyData.canLayAll0 ds = true
  dep : PyData.depthAll ds ≤ n
  show_ : PyData.showableAll ds = true
  nsh : PyData.intsShortAll 130 ds = true
theorem pow_129 : (10 : Nat) ^ 129 < 2 ^ 1920 := by decide +kernel
mutual
theorem fit_p : ∀ (n : Nat) (d : D), fit n d = true → isP d = true ∧ FitOk n (py d)
  | n, .non, _ => ⟨rfl, by simp only [py]; exact ⟨rfl, Nat.zero_le _, rfl, rfl⟩⟩
  | n, .bl b, _ => ⟨rfl, by simp only [py]; exact ⟨rfl, Nat.zero_le _, rfl, rfl⟩⟩
  | n, .int i, h => by
    have h' : i.natAbs < 10 ^ 129 := by simpa only [fit, decide_eq_true_eq] using h
    refine ⟨rfl, ?_⟩
    simp only [py]
    refine ⟨rfl, Nat.zero_le _, ?_, ?_⟩
    · simp only [PyData.showable, decide_eq_true_eq]
      exact log_lt (Nat.lt_trans h' pow_129) (by decide)
    · simp only [PyData.intsShort, decide_eq_true_eq]
      exact intText_len (by decide) h'
  | n, .str x, h => by
    refine ⟨rfl, ?_⟩
    simp only [py]
    exact ⟨by simpa only [fit, PyData.canLay0] using h, Nat.zero_le _, rfl, rfl⟩
  | n + 1, .tup ds, h => by
    obtain ⟨a, b⟩ := fits_p n ds (by simpa only [fit] using h)
    refine ⟨by simpa only [isP] using a, ?_⟩
    simp only [py]
    exact ⟨by simpa only [PyData.canLay0] using b.lay, by simp only [PyData.depth]; have := b.dep; omega, by simpa only [PyData.showable] using b.show_, by simpa only [PyData.intsShort] using b.nsh⟩
  | n + 1, .lst ds, h => by
    obtain ⟨a, b⟩ := fits_p n ds (by simpa only [fit] using h)
    refine ⟨by simpa only [isP] using a, ?_⟩
    simp only [py]
    exact ⟨by simpa only [PyData.canLay0] using b.lay, by simp only [PyData.depth]; have := b.dep; omega, by simpa only [PyData.showable] using b.show_, by simpa only [PyData.intsShort] using b.nsh⟩
  | n + 1, .scr ds, h => by
    obtain ⟨a, b⟩ := fits_p n ds (by simpa only [fit] using h)
    refine ⟨by simpa only [isP] using a, ?_⟩
    simp only [py]
    exact ⟨by simpa only [PyData.canLay0] using b.lay, by simp only [PyData.depth]; have := b.dep; omega, by simpa only [PyData.showable] using b.show_, by simpa only [PyData.intsShort] using b.nsh⟩
  | 0, .tup _, h => by simp [fit] at h
  | 0, .lst _, h => by simp [fit] at h
  | 0, .scr _, h => by simp [fit] at h
  | n, .ty _, h => by cases n <;> simp [fit] at h
  | n, .ref _, h => by cases n <;> simp [fit] at h
  | n, .ins _ _, h => by cases n <;> simp [fit] at h
  | n, .cls _, h => by cases n <;> simp [fit] at h
  | n, .exn _ _ _ _, h => by cases n <;> simp [fit] at h
  | n, .dct _, h => by cases n <;> simp [fit] at h
theorem fits_p : ∀ (n : Nat) (ds : List D), fits n ds = true → isPs ds = true ∧ FitsOk n (pys ds)
  | n, [], _ => ⟨rfl, by simp only [pys]; exact ⟨rfl, Nat.zero_le _, rfl, rfl⟩⟩
  | n, d :: ds, h => by
    have h' : fit n d = true ∧ fits n ds = true := by simpa only [fits, Bool.and_eq_true] using h
    obtain ⟨a, b⟩ := fit_p n d h'.1
    obtain ⟨a2, b2⟩ := fits_p n ds h'.2
    refine ⟨by simp only [isPs, a, a2, Bool.and_self], ?_⟩
    simp only [pys]
    exact ⟨by simp only [PyData.canLayAll0, b.lay, b2.lay, Bool.and_self], by simp only [PyData.depthAll]; have := b.dep; have := b2.dep; omega, by simp only [PyData.showableAll, b.show_, b2.show_, Bool.and_self], by simp only [PyData.intsShortAll, b.nsh, b2.nsh, Bool.and_self]⟩
end
theorem fit_plain {d : D} (h : fit 64 d = true) : plain d = true := by
  obtain ⟨a, b⟩ := fit_p 64 d h
  unfold plain SeqAt.shaped
  simp only [a, b.lay, b.dep, decide_true, Bool.and_self]
theorem fit_deq {d : D} (h : fit 64 d = true) : deq d d = true := SeqAt.eqv_refl _ (fit_p 64 d h).2.lay
theorem fits_all {n : Nat} : ∀ {ds : List D}, (∀ d ∈ ds, fit n d = true) → fits n ds = true
  | [], _ => by simp only [fits]
  | d :: ds, h => by
    simp only [fits, h d List.mem_cons_self, fits_all fun x hx => h x (List.mem_cons_of_mem _ hx), Bool.and_self]
theorem r_bind {α β : Type} (x : α) (f : α → Res β) : (Res.ok x).bind f = f x := id rfl
theorem r_okV (d : D) (S : Store) : okV d S = .ok (.fr d, S) := id rfl
theorem r_snap (S : Store) (d : D) : snap S (.fr d) = some d := id rfl
theorem r_add (c : Bool) (i j : Int) (S : Store) : addG c (.fr (.int i)) (.fr (.int j)) S = .ok (.fr (.int (i + j)), S) := id rfl
theorem r_sub (i j : Int) (S : Store) : subG (.fr (.int i)) (.fr (.int j)) S = .ok (.fr (.int (i - j)), S) := id rfl
theorem r_neg (i : Int) (S : Store) : negG (.fr (.int i)) S = .ok (.fr (.int (-i)), S) := id rfl
theorem r_mul (c : Bool) (i j : Int) (S : Store) : mulG c (.fr (.int i)) (.fr (.int j)) S = if CMul i j ∨ CMulW i j then .ok (.fr (.int (i * j)), S) else .stuck := id rfl
theorem r_fdiv (i j : Int) (S : Store) : fdivG (.fr (.int i)) (.fr (.int j)) S = if CDiv i j ∨ CDivW i j then .ok (.fr (.int (i / j)), S) else .stuck := id rfl
theorem r_mod (i j : Int) (S : Store) : modG (.fr (.int i)) (.fr (.int j)) S = if 0 < j then .ok (.fr (.int (i % j)), S) else .stuck := id rfl
theorem r_pow (i j : Int) (S : Store) : powG (.fr (.int i)) (.fr (.int j)) S = if CPow i j then .ok (.fr (.int (i ^ j.toNat)), S) else .stuck := id rfl
theorem r_cmp (p : Int → Int → Bool) (i j : Int) (S : Store) : cmpG p (.fr (.int i)) (.fr (.int j)) S = .ok (.fr (.bl (p i j)), S) := id rfl
theorem r_is (n : Bool) (a : SV) (S : Store) : isG n a (.fr .non) S = .ok (.fr (.bl (if n then !isNon a else isNon a)), S) := id rfl
theorem r_eq (n : Bool) {a b : SV} {d e : D} {r : Bool} {S : Store} (h1 : snap S a = some d) (h2 : snap S b = some e) (h3 : eqD d e = some r) : eqG n a b S = .ok (.fr (.bl (if n then !r else r)), S) := by
  unfold eqG
  simp only [h1, h2, h3, okV]
theorem plain_int (i : Int) : plain (.int i) = true := by simp [plain, isP, py, SeqAt.shaped, PyData.canLay0, PyData.depth]
theorem eqD_int (i j : Int) : eqD (.int i) (.int j) = some (decide (i = j)) := by
  simp only [eqD, plain_int, deq, py, PyData.eqv, Bool.and_self, if_true]
  rfl
theorem r_eqI (n : Bool) (i j : Int) (S : Store) : eqG n (.fr (.int i)) (.fr (.int j)) S = .ok (.fr (.bl (if n then !decide (i = j) else decide (i = j))), S) := r_eq n rfl rfl (eqD_int i j)
theorem r_abs (i : Int) (S : Store) : absG [.fr (.int i)] S = .ok (.fr (.int (if i < 0 then -i else i)), S) := id rfl
theorem r_int (i : Int) (S : Store) : intG [.fr (.int i)] S = .ok (.fr (.int i), S) := id rfl
theorem r_max (i j : Int) (S : Store) : max2G [.fr (.int i), .fr (.int j)] S = .ok (.fr (.int (max i j)), S) := by
  show okV (.int (if j > i then j else i)) S = _
  rw [r_okV]
  congr 4
  omega
theorem r_min (i j : Int) (S : Store) : min2G [.fr (.int i), .fr (.int j)] S = .ok (.fr (.int (min i j)), S) := by
  show okV (.int (if j < i then j else i)) S = _
  rw [r_okV]
  congr 4
  omega
theorem r_newL {xs : List SV} {ds : List D} {S : Store} (h : allFr xs = some ds) (hl : xs.length ≤ sizeLine) : newL false xs S = .ok (.fr (.lst ds), S) := by
  unfold newL
  rw [if_pos hl]
  simp only [Bool.false_eq_true, if_false, h]
theorem atI_nat {α : Type} (xs : List α) (n : Nat) : atI xs (n : Int) = xs[n]? := by
  unfold atI ixN
  by_cases h : n < xs.length
  · rw [if_pos (by omega), if_pos (by omega)]; simp
  · rw [if_pos (by omega), if_neg (by omega)]; simp [List.getElem?_eq_none (Nat.le_of_not_lt h)]
theorem r_lenL {a : SV} {xs : List SV} {S : Store} (h : rdS S a = some xs) : lenG [a] S = .ok (.fr (.int xs.length), S) := by
  unfold lenG lenS
  simp only [h, okV]
theorem r_lenF {ds : List D} {S : Store} : lenG [.fr (.lst ds)] S = .ok (.fr (.int ds.length), S) := by
  rw [r_lenL rfl, List.length_map]
theorem r_lenT {ds : List D} {S : Store} : lenG [.fr (.tup ds)] S = .ok (.fr (.int ds.length), S) := id rfl
noncomputable def bagM : FnM := fnM 1 3 (sRet (eA (newL true) (aC (eC (.int 0)) (aC (eC (.int 1234567891)) (aC (eC (.int 0)) (aC (eLC false (iSeq (eSl false (eV 0) pN (pS (eC (.int 63))))) (gNm 2) tTr (eA absG (aC (eV 2) aN)) [1, 2]) aN))))))
noncomputable def takeA : SM := (sIf (tB (e2 (eqG false) (e2 ixG (eV 0) (eC (.int 0))) (eC (.int 0)))) (sSeq (sSet 2 (eC (.int 0)))
    (sSeq (sIf (tB (e2 (ltG) (e2 ixG (eV 0) (eC (.int 2))) (eA lenG (aC (e2 ixG (eV 0) (eC (.int 3))) aN)))) (sSet 2 (e2 ixG (e2 ixG (eV 0) (eC (.int 3))) (e2 ixG (eV 0) (eC (.int 2))))) sNx)
    (sSeq (sAugS (eV 0) (eC (.int 2)) (eC (.int 1)))
    (sSeq (sIf (tB (e2 (geG) (eV 2) (eC (.int 1000000000000000000)))) (sAs (eV 2) (gSb (eV 0) (eC (.int 0)))) sNx)
    (sSeq (sSet 3 (e2 (addG false) (e2 (addG false) (e2 (mulG false) (e2 ixG (eV 0) (eC (.int 1))) (eC (.int 48271))) (e2 (modG) (eA intG (aC (eV 2) aN)) (eC (.int 2147483647)))) (e2 (mulG false) (eC (.int 7919)) (e2 ixG (eV 0) (eC (.int 2))))))
    (sAs (e2 (modG) (eA intG (aC (eV 3) aN)) (eC (.int 2147483647))) (gSb (eV 0) (eC (.int 1))))))))) sNx)
noncomputable def takeB : SM := (sSeq (sIf (tB (e2 (gtG) (e2 ixG (eV 0) (eC (.int 0))) (eC (.int 0)))) (sSeq (sSet 4 (e2 (modG) (eA intG (aC (e2 ixG (eV 0) (eC (.int 0))) aN)) (eV 1)))
    (sSeq (sAs (e2 (fdivG) (e2 ixG (eV 0) (eC (.int 0))) (eV 1)) (gSb (eV 0) (eC (.int 0))))
    (sRet (eV 4)))) sNx)
    (sSeq (sSet 5 (e2 (modG) (eA intG (aC (e2 (mulG false) (e2 (addG false) (e2 ixG (eV 0) (eC (.int 1))) (eC (.int 1))) (eC (.int 39373))) aN)) (eC (.int 1000000007))))
    (sSeq (sSet 6 (e2 (modG) (eA intG (aC (e2 (mulG false) (e2 (modG) (eA intG (aC (e2 (mulG false) (eV 5) (eV 5)) aN)) (eC (.int 998244353))) (eC (.int 30011))) aN)) (eC (.int 998244353))))
    (sSeq (sIf (tB (e2 (gtG) (eV 1) (eC (.int 1000000)))) (sRet (e2 (modG) (eA intG (aC (e2 (addG false) (e2 (mulG false) (eV 6) (eC (.int 1000000007))) (eV 5)) aN)) (eV 1))) sNx)
    (sRet (e2 (modG) (eA intG (aC (e2 (fdivG) (eV 6) (eC (.int 7))) aN)) (eV 1)))))))
noncomputable def takeM : FnM := fnM 2 7 (sSeq takeA takeB)
theorem eqD_refl {d : D} (h : fit 64 d = true) : eqD d d = some true := by
  have h1 := fit_plain h
  have h2 := fit_deq h
  unfold eqD
  split
  · simp
  · rw [h1, h2]; rfl
end DL

namespace DL
open PySem L2

def Ends {α : Type} (r : Res α) (Q : α → Prop) : Prop := ∃ a, r = .ok a ∧ Q a
theorem s_ends {α : Type} (a : α) (Q : α → Prop) : Ends (.ok a) Q = Q a := propext ⟨fun ⟨b, e, h⟩ => by cases e; exact h, fun h => ⟨a, rfl, h⟩⟩
section
variable {g g' : G2} {a b c : EM} {rho : Slots} {S : Store} {x y : SV} {m : AM} {t u : TM} {p q : SM}
def k_1 (g : G1) (r : SV × Store) : Res (SV × Store) := g r.1 r.2
theorem r_1 (g : G1) : e1 g a rho S = (a rho S).bind (k_1 g) := id rfl
theorem s_1 (g : G1) : k_1 g (x, S) = g x S := id rfl
def k_2b (g : G2) (x : SV) (r : SV × Store) : Res (SV × Store) := g x r.1 r.2
def k_2 (g : G2) (b : EM) (rho : Slots) (r : SV × Store) : Res (SV × Store) := (b rho r.2).bind (k_2b g r.1)
theorem r_2 : e2 g a b rho S = (a rho S).bind (k_2 g b rho) := id rfl
theorem s_2 : k_2 g b rho (x, S) = (b rho S).bind (k_2b g x) := id rfl
theorem s_2b : k_2b g x (y, S) = g x y S := id rfl
def k_v (S : Store) : Option (Option SV) → Res (SV × Store)
  | some (some x) => .ok (x, S)
  | _ => .stuck
theorem r_v (i : Nat) : eV i rho S = k_v S rho[i]? := by
  unfold eV k_v
  split <;> first | rfl | (split <;> simp_all)
theorem s_v : k_v S (some (some x)) = .ok (x, S) := id rfl
theorem r_c (d : D) : eC d rho S = .ok (.fr d, S) := id rfl
theorem r_n : aN rho S = .ok ([], S) := id rfl
def k_ab (x : SV) (r : List SV × Store) : Res (List SV × Store) := .ok (x :: r.1, r.2)
def k_a (m : AM) (rho : Slots) (r : SV × Store) : Res (List SV × Store) := (m rho r.2).bind (k_ab r.1)
theorem r_a : aC a m rho S = (a rho S).bind (k_a m rho) := id rfl
theorem s_a : k_a m rho (x, S) = (m rho S).bind (k_ab x) := id rfl
theorem s_ab (xs : List SV) : k_ab x (xs, S) = .ok (x :: xs, S) := id rfl
def k_g (g : GA) (r : List SV × Store) : Res (SV × Store) := g r.1 r.2
theorem r_g (g : GA) : eA g m rho S = (m rho S).bind (k_g g) := id rfl
theorem s_g (g : GA) (xs : List SV) : k_g g (xs, S) = g xs S := id rfl
def k_and (b : EM) (rho : Slots) (x : SV) (S : Store) : Option Bool → Res (SV × Store)
  | some true => b rho S
  | some false => .ok (x, S)
  | none => .stuck
def k_And (b : EM) (rho : Slots) (r : SV × Store) : Res (SV × Store) := k_and b rho r.1 r.2 (truth r.2 r.1)
theorem r_and : eAnd a b rho S = (a rho S).bind (k_And b rho) := by
  unfold eAnd eTr
  congr 1
theorem s_And : k_And b rho (x, S) = k_and b rho x S (truth S x) := id rfl
theorem s_and1 : k_and b rho x S (some true) = b rho S := id rfl
theorem s_and0 : k_and b rho x S (some false) = .ok (x, S) := id rfl
def k_or (b : EM) (rho : Slots) (x : SV) (S : Store) : Option Bool → Res (SV × Store)
  | some true => .ok (x, S)
  | some false => b rho S
  | none => .stuck
def k_Or (b : EM) (rho : Slots) (r : SV × Store) : Res (SV × Store) := k_or b rho r.1 r.2 (truth r.2 r.1)
theorem r_or : eOr a b rho S = (a rho S).bind (k_Or b rho) := by
  unfold eOr eTr
  congr 1
theorem s_Or : k_Or b rho (x, S) = k_or b rho x S (truth S x) := id rfl
theorem s_or1 : k_or b rho x S (some true) = .ok (x, S) := id rfl
theorem s_or0 : k_or b rho x S (some false) = b rho S := id rfl
def k_not (S : Store) : Option Bool → Res (SV × Store)
  | some v => .ok (.fr (.bl (!v)), S)
  | none => .stuck
def k_Not (r : SV × Store) : Res (SV × Store) := k_not r.2 (truth r.2 r.1)
theorem r_not : eNot a rho S = (a rho S).bind k_Not := by
  unfold eNot eTr
  congr 1
  funext z
  unfold k_Not k_not
  split <;> first | rfl | (split <;> simp_all [okV])
theorem s_Not : k_Not (x, S) = k_not S (truth S x) := id rfl
theorem s_not (v : Bool) : k_not S (some v) = .ok (.fr (.bl (!v)), S) := id rfl
def k_if (a b : EM) (rho : Slots) (r : Bool × Store) : Res (SV × Store) := if r.1 then a rho r.2 else b rho r.2
theorem r_if : eIf t a b rho S = (t rho S).bind (k_if a b rho) := id rfl
theorem s_if1 : k_if a b rho (true, S) = a rho S := id rfl
theorem s_if0 : k_if a b rho (false, S) = b rho S := id rfl
def k_chc (g' : G2) (y : SV) (r : SV × Store) : Res (SV × Store) := g' y r.1 r.2
def k_chb (g' : G2) (c : EM) (rho : Slots) (y : SV) (r : SV × Store) : Res (SV × Store) := match r.1 with
  | .fr (.bl true) => (c rho r.2).bind (k_chc g' y)
  | .fr (.bl false) => .ok (.fr (.bl false), r.2)
  | _ => .stuck
def k_cha (g g' : G2) (c : EM) (rho : Slots) (x : SV) (r : SV × Store) : Res (SV × Store) := (g x r.1 r.2).bind (k_chb g' c rho r.1)
def k_ch (g g' : G2) (b c : EM) (rho : Slots) (r : SV × Store) : Res (SV × Store) := (b rho r.2).bind (k_cha g g' c rho r.1)
theorem r_ch : eCh g g' a b c rho S = (a rho S).bind (k_ch g g' b c rho) := id rfl
theorem s_ch : k_ch g g' b c rho (x, S) = (b rho S).bind (k_cha g g' c rho x) := id rfl
theorem s_cha : k_cha g g' c rho x (y, S) = (g x y S).bind (k_chb g' c rho y) := id rfl
theorem s_chb1 : k_chb g' c rho y (.fr (.bl true), S) = (c rho S).bind (k_chc g' y) := id rfl
theorem s_chb0 : k_chb g' c rho y (.fr (.bl false), S) = .ok (.fr (.bl false), S) := id rfl
theorem s_chc : k_chc g' y (x, S) = g' y x S := id rfl
def k_tB (r : SV × Store) : Res (Bool × Store) := match r.1 with
  | .fr (.bl k) => .ok (k, r.2)
  | _ => .stuck
theorem r_tB : tB a rho S = (a rho S).bind k_tB := id rfl
theorem s_tB (k : Bool) : k_tB (.fr (.bl k), S) = .ok (k, S) := id rfl
def k_tv (S : Store) : Option Bool → Res (Bool × Store)
  | some v => .ok (v, S)
  | none => .stuck
def k_tV (r : SV × Store) : Res (Bool × Store) := k_tv r.2 (truth r.2 r.1)
theorem r_tV : tV a rho S = (a rho S).bind k_tV := by
  unfold tV
  congr 1
theorem s_tV : k_tV (x, S) = k_tv S (truth S x) := id rfl
theorem s_tv (v : Bool) : k_tv S (some v) = .ok (v, S) := id rfl
def k_tN (r : Bool × Store) : Res (Bool × Store) := .ok (!r.1, r.2)
theorem r_tN : tNt t rho S = (t rho S).bind k_tN := id rfl
theorem s_tN (v : Bool) : k_tN (v, S) = .ok (!v, S) := id rfl
def k_tA (u : TM) (rho : Slots) (r : Bool × Store) : Res (Bool × Store) := if r.1 then u rho r.2 else .ok (false, r.2)
theorem r_tA : tAn t u rho S = (t rho S).bind (k_tA u rho) := id rfl
theorem s_tA1 : k_tA u rho (true, S) = u rho S := id rfl
theorem s_tA0 : k_tA u rho (false, S) = .ok (false, S) := id rfl
def k_tO (u : TM) (rho : Slots) (r : Bool × Store) : Res (Bool × Store) := if r.1 then .ok (true, r.2) else u rho r.2
theorem r_tO : tOo t u rho S = (t rho S).bind (k_tO u rho) := id rfl
theorem s_tO1 : k_tO u rho (true, S) = .ok (true, S) := id rfl
theorem s_tO0 : k_tO u rho (false, S) = u rho S := id rfl
theorem r_tT : tTr rho S = .ok (true, S) := id rfl
theorem r_trB (v : Bool) : truth S (.fr (.bl v)) = some v := id rfl
theorem r_trI (i : Int) : truth S (.fr (.int i)) = some (i != 0) := id rfl
theorem r_trN : truth S (.fr .non) = some false := id rfl
def k_call (f : FnM) (cc : Bool) (r : List SV × Store) : Res (SV × Store) := (noX (f r.1 r.2)).bind (back cc)
theorem r_call (f : FnM) (cc : Bool) : eCall f cc m rho S = (m rho S).bind (k_call f cc) := id rfl
theorem s_call (f : FnM) (cc : Bool) (xs : List SV) : k_call f cc (xs, S) = (noX (f xs S)).bind (back cc) := id rfl
theorem s_noX (r : RV × Store) : noX (.ok r) = .ok r := id rfl
theorem s_backV (cc : Bool) : back cc (.val x, S) = .ok (x, S) := id rfl
theorem s_backC (l : Cell) : back true (.new l, S) = .ok (.cell S.length, S ++ [l]) := id rfl
def k_frz (S : Store) : Option D → Res (SV × Store)
  | some d => .ok (.fr d, S)
  | none => .stuck
theorem s_backF (l : Cell) : back false (.new l, S) = k_frz S (freeze l) := id rfl
theorem s_frz (d : D) : k_frz S (some d) = .ok (.fr d, S) := id rfl
theorem r_frz (xs : List SV) : freeze (.lst xs) = (allFr xs).map D.lst := id rfl
theorem r_all0 : allFr [] = some [] := id rfl
theorem r_all1 (d : D) (xs : List SV) : allFr (.fr d :: xs) = (allFr xs).map (d :: ·) := id rfl
theorem r_fn1 (n : Nat) (bd : SM) : fnM 1 n bd [x] S = (bd (some x :: List.replicate (n - 1) none) S).bind (leaveF S.length) := id rfl
theorem r_fn2 (n : Nat) (bd : SM) : fnM 2 n bd [x, y] S = (bd (some x :: some y :: List.replicate (n - 2) none) S).bind (leaveF S.length) := id rfl
theorem r_fn3 (n : Nat) (bd : SM) (z : SV) : fnM 3 n bd [x, y, z] S = (bd (some x :: some y :: some z :: List.replicate (n - 3) none) S).bind (leaveF S.length) := id rfl
theorem r_fn4 (n : Nat) (bd : SM) (z w : SV) : fnM 4 n bd [x, y, z, w] S = (bd (some x :: some y :: some z :: some w :: List.replicate (n - 4) none) S).bind (leaveF S.length) := id rfl
theorem r_fn5 (n : Nat) (bd : SM) (z w v : SV) : fnM 5 n bd [x, y, z, w, v] S = (bd (some x :: some y :: some z :: some w :: some v :: List.replicate (n - 5) none) S).bind (leaveF S.length) := id rfl
theorem s_lvR (n : Nat) : leaveF n (.rt x, rho, S) = leave n x S := id rfl
theorem s_lvN (n : Nat) : leaveF n (.nx, rho, S) = leave n (.fr .non) S := id rfl
theorem r_nx : sNx rho S = .ok (.nx, rho, S) := id rfl
theorem r_bk : sBk rho S = .ok (.bk, rho, S) := id rfl
theorem r_ct : sCt rho S = .ok (.ct, rho, S) := id rfl
def k_seq (q : SM) (r : Fl × Slots × Store) : Res (Fl × Slots × Store) := match r.1 with
  | .nx => q r.2.1 r.2.2
  | f => .ok (f, r.2.1, r.2.2)
theorem r_seq : sSeq p q rho S = (p rho S).bind (k_seq q) := id rfl
theorem s_seqN : k_seq q (.nx, rho, S) = q rho S := id rfl
theorem s_seqR : k_seq q (.rt x, rho, S) = .ok (.rt x, rho, S) := id rfl
theorem s_seqB : k_seq q (.bk, rho, S) = .ok (.bk, rho, S) := id rfl
theorem s_seqC : k_seq q (.ct, rho, S) = .ok (.ct, rho, S) := id rfl
def k_ret (rho : Slots) (r : SV × Store) : Res (Fl × Slots × Store) := .ok (.rt r.1, rho, r.2)
theorem r_ret : sRet a rho S = (a rho S).bind (k_ret rho) := id rfl
theorem s_ret : k_ret rho (x, S) = .ok (.rt x, rho, S) := id rfl
theorem r_retN : sRetN rho S = .ok (.rt (.fr .non), rho, S) := id rfl
def k_sif (p q : SM) (rho : Slots) (r : Bool × Store) : Res (Fl × Slots × Store) := if r.1 then p rho r.2 else q rho r.2
theorem r_sif : sIf t p q rho S = (t rho S).bind (k_sif p q rho) := id rfl
theorem s_sif1 : k_sif p q rho (true, S) = p rho S := id rfl
theorem s_sif0 : k_sif p q rho (false, S) = q rho S := id rfl
def k_ex (rho : Slots) (r : SV × Store) : Res (Fl × Slots × Store) := .ok (.nx, rho, r.2)
theorem r_ex : sEx a rho S = (a rho S).bind (k_ex rho) := id rfl
theorem s_ex : k_ex rho (x, S) = .ok (.nx, rho, S) := id rfl
def k_set (i : Nat) (rho : Slots) (r : SV × Store) : Res (Fl × Slots × Store) := .ok (.nx, rho.set i (some r.1), r.2)
theorem r_set (i : Nat) : sSet i a rho S = (a rho S).bind (k_set i rho) := id rfl
theorem s_set (i : Nat) : k_set i rho (x, S) = .ok (.nx, rho.set i (some x), S) := id rfl
def k_par (i j : Nat) (rho : Slots) (r : List SV × Store) : Res (Fl × Slots × Store) := match r.1 with
  | [u, v] => .ok (.nx, (rho.set i (some u)).set j (some v), r.2)
  | _ => .stuck
theorem r_par (i j : Nat) : sPar i j m rho S = (m rho S).bind (k_par i j rho) := id rfl
theorem s_par (i j : Nat) : k_par i j rho ([x, y], S) = .ok (.nx, (rho.set i (some x)).set j (some y), S) := id rfl
def k_gb (r : Slots × Store) : Res (Fl × Slots × Store) := .ok (.nx, r.1, r.2)
def k_as (gm : GM) (rho : Slots) (r : SV × Store) : Res (Fl × Slots × Store) := (gm r.1 rho r.2).bind k_gb
theorem r_as (gm : GM) : sAs a gm rho S = (a rho S).bind (k_as gm rho) := id rfl
theorem s_as (gm : GM) : k_as gm rho (x, S) = (gm x rho S).bind k_gb := id rfl
theorem s_gb : k_gb (rho, S) = .ok (.nx, rho, S) := id rfl
theorem r_gNm (i : Nat) : gNm i x rho S = .ok (rho.set i (some x), S) := id rfl
theorem r_gNl : gNl [] rho S = .ok (rho, S) := id rfl
def k_gCs (ms : GMs) (xs : List SV) (r : Slots × Store) : Res (Slots × Store) := ms xs r.1 r.2
theorem r_gCs (gm : GM) (ms : GMs) (xs : List SV) : gCs gm ms (x :: xs) rho S = (gm x rho S).bind (k_gCs ms xs) := id rfl
theorem s_gCs (ms : GMs) (xs : List SV) : k_gCs ms xs (rho, S) = ms xs rho S := id rfl
theorem r_gTu2 (ms : GMs) (d e : D) : gTu 2 ms (.fr (.tup [d, e])) rho S = ms [.fr d, .fr e] rho S := id rfl
theorem r_gTu3 (ms : GMs) (d e f : D) : gTu 3 ms (.fr (.tup [d, e, f])) rho S = ms [.fr d, .fr e, .fr f] rho S := id rfl
theorem r_gTu4 (ms : GMs) (d e f h : D) : gTu 4 ms (.fr (.tup [d, e, f, h])) rho S = ms [.fr d, .fr e, .fr f, .fr h] rho S := id rfl
def k_st (rho : Slots) (S' : Store) : Res (Slots × Store) := .ok (rho, S')
def k_sb2 (rho : Slots) (v o : SV) (r : SV × Store) : Res (Slots × Store) := (setL o r.1 v r.2).bind (k_st rho)
def k_sb (mi : EM) (rho : Slots) (v : SV) (r : SV × Store) : Res (Slots × Store) := (mi rho r.2).bind (k_sb2 rho v r.1)
theorem r_gSb : gSb a b x rho S = (a rho S).bind (k_sb b rho x) := id rfl
theorem s_sb : k_sb b rho y (x, S) = (b rho S).bind (k_sb2 rho y x) := id rfl
theorem s_sb2 (v : SV) : k_sb2 rho y x (v, S) = (setL x v y S).bind (k_st rho) := id rfl
theorem s_st : k_st rho S = .ok (rho, S) := id rfl
def k_nxS (rho : Slots) (S' : Store) : Res (Fl × Slots × Store) := .ok (.nx, rho, S')
theorem s_nxS : k_nxS rho S = .ok (.nx, rho, S) := id rfl
def k_au3 (rho : Slots) (o i : SV) (S : Store) : Option SV → Res (Fl × Slots × Store)
  | some z => (setL o i z S).bind (k_nxS rho)
  | none => .stuck
def k_au2 (rho : Slots) (o i old : SV) (r : SV × Store) : Res (Fl × Slots × Store) := k_au3 rho o i r.2 (addI old r.1)
def k_au1 (me : EM) (rho : Slots) (o i : SV) (S : Store) : Option SV → Res (Fl × Slots × Store)
  | some old => (me rho S).bind (k_au2 rho o i old)
  | none => .stuck
def k_au0 (me : EM) (rho : Slots) (o : SV) (r : SV × Store) : Res (Fl × Slots × Store) := k_au1 me rho o r.1 r.2 (getL o r.1 r.2)
def k_au (mi me : EM) (rho : Slots) (r : SV × Store) : Res (Fl × Slots × Store) := (mi rho r.2).bind (k_au0 me rho r.1)
theorem r_au : sAugS a b c rho S = (a rho S).bind (k_au b c rho) := by
  unfold sAugS
  congr 1
theorem s_au : k_au b c rho (x, S) = (b rho S).bind (k_au0 c rho x) := id rfl
theorem s_au0 : k_au0 c rho x (y, S) = k_au1 c rho x y S (getL x y S) := id rfl
theorem s_au1 (o i : SV) : k_au1 c rho o i S (some x) = (c rho S).bind (k_au2 rho o i x) := id rfl
theorem s_au2 (o i old : SV) : k_au2 rho o i old (x, S) = k_au3 rho o i S (addI old x) := id rfl
theorem s_au3 (o i : SV) : k_au3 rho o i S (some x) = (setL o i x S).bind (k_nxS rho) := id rfl
theorem r_addI (i j : Int) : addI (.fr (.int i)) (.fr (.int j)) = some (.fr (.int (i + j))) := id rfl
noncomputable def k_for (gm : GM) (bd : SM) (rho : Slots) (r : Wk × Store) : Res (Fl × Slots × Store) := loopM r.1.lk gm bd r.1.xs rho r.2
theorem r_for (im : IM) (gm : GM) (bd : SM) : sFor im gm bd rho S = (im rho S).bind (k_for gm bd rho) := id rfl
theorem s_for (gm : GM) (bd : SM) (w : Wk) : k_for gm bd rho (w, S) = loopM w.lk gm bd w.xs rho S := id rfl
noncomputable def k_turn (lk : Store → Prop) (gm : GM) (bd : SM) (xs : List SV) (q : Fl × Slots × Store) : Res (Fl × Slots × Store) := match q.1 with
  | .nx => loopM lk gm bd xs q.2.1 q.2.2
  | .ct => loopM lk gm bd xs q.2.1 q.2.2
  | .bk => .ok (.nx, q.2.1, q.2.2)
  | .rt v => .ok (.rt v, q.2.1, q.2.2)
def k_body (bd : SM) (r : Slots × Store) : Res (Fl × Slots × Store) := bd r.1 r.2
theorem s_body (bd : SM) : k_body bd (rho, S) = bd rho S := id rfl
theorem res_assoc {α β γ : Type} (r : Res α) (f : α → Res β) (h : β → Res γ) : (r.bind f).bind h = r.bind fun x => (f x).bind h := by cases r <;> rfl
theorem loop_nil {lk : Store → Prop} (gm : GM) (bd : SM) (h : lk S) : loopM lk gm bd [] rho S = .ok (.nx, rho, S) := by
  unfold loopM
  rw [if_pos h]
theorem loop_cons {lk : Store → Prop} (gm : GM) (bd : SM) (xs : List SV) (h : lk S) : loopM lk gm bd (x :: xs) rho S = ((gm x rho S).bind (k_body bd)).bind (k_turn lk gm bd xs) := by
  rw [res_assoc]
  conv => lhs; unfold loopM
  rw [if_pos h]
  rfl
theorem s_turnN (lk : Store → Prop) (gm : GM) (bd : SM) (xs : List SV) : k_turn lk gm bd xs (.nx, rho, S) = loopM lk gm bd xs rho S := id rfl
theorem s_turnC (lk : Store → Prop) (gm : GM) (bd : SM) (xs : List SV) : k_turn lk gm bd xs (.ct, rho, S) = loopM lk gm bd xs rho S := id rfl
theorem s_turnB (lk : Store → Prop) (gm : GM) (bd : SM) (xs : List SV) : k_turn lk gm bd xs (.bk, rho, S) = .ok (.nx, rho, S) := id rfl
theorem s_turnR (lk : Store → Prop) (gm : GM) (bd : SM) (xs : List SV) : k_turn lk gm bd xs (.rt x, rho, S) = .ok (.rt x, rho, S) := id rfl
theorem loop_inv {lk : Store → Prop} (gm : GM) (bd : SM) (J : List SV → Slots → Store → Prop) (hl : ∀ xs rho S, J xs rho S → lk S)
    (step : ∀ x xs rho S, J (x :: xs) rho S → ∃ rho' S', (gm x rho S).bind (k_body bd) = .ok (.nx, rho', S') ∧ J xs rho' S') :
    ∀ (xs : List SV) (rho : Slots) (S : Store), J xs rho S → ∃ rho' S', loopM lk gm bd xs rho S = .ok (.nx, rho', S') ∧ J [] rho' S'
  | [], rho, S, h => ⟨rho, S, loop_nil gm bd (hl _ _ _ h), h⟩
  | x :: xs, rho, S, h => by
    obtain ⟨rho1, S1, e, h1⟩ := step x xs rho S h
    obtain ⟨rho2, S2, e2, h2⟩ := loop_inv gm bd J hl step xs rho1 S1 h1
    refine ⟨rho2, S2, ?_, h2⟩
    rw [loop_cons gm bd xs (hl _ _ _ h), e, r_bind, s_turnN, e2]
def k_r1 (r : List SV × Store) : Res (Wk × Store) := match r.1 with
  | [.fr (.int j)] => if -(2 ^ 62) ≤ j ∧ j < 2 ^ 62 then .ok (⟨rngS 0 j.toNat, fun _ => True⟩, r.2) else .stuck
  | _ => .stuck
theorem r_r1 : iR1 m rho S = (m rho S).bind k_r1 := id rfl
theorem s_r1 {j : Int} (h : -(2 ^ 62) ≤ j ∧ j < 2 ^ 62) : k_r1 ([.fr (.int j)], S) = .ok (⟨rngS 0 j.toNat, fun _ => True⟩, S) := if_pos h
def k_r2 (r : List SV × Store) : Res (Wk × Store) := match r.1 with
  | [.fr (.int i), .fr (.int j)] => if -(2 ^ 62) ≤ i ∧ i < 2 ^ 62 ∧ -(2 ^ 62) ≤ j ∧ j < 2 ^ 62 then .ok (⟨rngS i (j - i).toNat, fun _ => True⟩, r.2) else .stuck
  | _ => .stuck
theorem r_r2 : iR2 m rho S = (m rho S).bind k_r2 := id rfl
theorem s_r2 {i j : Int} (h : -(2 ^ 62) ≤ i ∧ i < 2 ^ 62 ∧ -(2 ^ 62) ≤ j ∧ j < 2 ^ 62) : k_r2 ([.fr (.int i), .fr (.int j)], S) = .ok (⟨rngS i (j - i).toNat, fun _ => True⟩, S) := if_pos h
def k_sq (r : SV × Store) : Res (Wk × Store) := match r.1 with
  | .fr (.tup _) => .stuck
  | .fr _ => match rdS r.2 r.1 with
    | some xs => .ok (⟨xs, fun _ => True⟩, r.2)
    | none => .stuck
  | .cell k => match rdL r.2 (.cell k) with
    | some xs => .ok (⟨xs, fun S' => S'[k]? = some (.lst xs)⟩, r.2)
    | none => .stuck
theorem r_sq : iSeq a rho S = (a rho S).bind k_sq := id rfl
theorem s_sqL (ds : List D) : k_sq (.fr (.lst ds), S) = .ok (⟨ds.map SV.fr, fun _ => True⟩, S) := id rfl
theorem s_sqS (ds : List D) : k_sq (.fr (.scr ds), S) = .ok (⟨ds.map SV.fr, fun _ => True⟩, S) := id rfl
def k_tp (r : SV × Store) : Res (Wk × Store) := match r.1 with
  | .fr (.tup ds) => .ok (⟨ds.map SV.fr, fun _ => True⟩, r.2)
  | _ => .stuck
theorem r_tp : iTp a rho S = (a rho S).bind k_tp := id rfl
theorem s_tp (ds : List D) : k_tp (.fr (.tup ds), S) = .ok (⟨ds.map SV.fr, fun _ => True⟩, S) := id rfl
def k_x (S : Store) : Option SV → Res (SV × Store)
  | some x => .ok (x, S)
  | none => .stuck
def k_xd (S : Store) : Option D → Res (SV × Store)
  | some d => .ok (.fr d, S)
  | none => .stuck
theorem r_xT (ds : List D) (i : Int) : ixG (.fr (.tup ds)) (.fr (.int i)) S = k_xd S (atI ds i) := by
  unfold ixG
  simp only [rdS, rdL]
  cases atI ds i <;> rfl
theorem atI_map {α β : Type} (f : α → β) (xs : List α) (i : Int) : atI (xs.map f) i = (atI xs i).map f := by
  unfold atI
  rw [List.length_map]
  cases ixN xs.length i <;> simp
theorem r_xL (ds : List D) (i : Int) : ixG (.fr (.lst ds)) (.fr (.int i)) S = k_xd S (atI ds i) := by
  unfold ixG
  simp only [rdS, rdL, atI_map]
  cases atI ds i <;> rfl
theorem r_xC {k : Nat} {xs : List SV} (h : S[k]? = some (.lst xs)) (i : Int) : ixG (.cell k) (.fr (.int i)) S = k_x S (atI xs i) := by
  unfold ixG
  simp only [rdS, rdL, h]
  cases atI xs i <;> rfl
theorem s_x : k_x S (some x) = .ok (x, S) := id rfl
theorem s_xd (d : D) : k_xd S (some d) = .ok (.fr d, S) := id rfl
theorem at_0 {α : Type} (a : α) (l : List α) : atI (a :: l) 0 = some a := atI_nat (a :: l) 0
theorem at_1 {α : Type} (a b : α) (l : List α) : atI (a :: b :: l) 1 = some b := atI_nat (a :: b :: l) 1
theorem at_2 {α : Type} (a b c : α) (l : List α) : atI (a :: b :: c :: l) 2 = some c := atI_nat (a :: b :: c :: l) 2
theorem at_3 {α : Type} (a b c d : α) (l : List α) : atI (a :: b :: c :: d :: l) 3 = some d := atI_nat (a :: b :: c :: d :: l) 3
theorem at_4 {α : Type} (a b c d e : α) (l : List α) : atI (a :: b :: c :: d :: e :: l) 4 = some e := atI_nat (a :: b :: c :: d :: e :: l) 4
end
end DL

namespace DL
open PySem L2

structure Bag where
  z : Int
  mix : Int
  k : Int
  ns : List Int
structure Bag.Ok (b : Bag) : Prop where
  z0 : 0 ≤ b.z
  m0 : 0 ≤ b.mix
  k0 : 0 ≤ b.k
  n0 : ∀ n ∈ b.ns, 0 ≤ n
def Bag.c (b : Bag) : Cell := .lst [.fr (.int b.z), .fr (.int b.mix), .fr (.int b.k), .fr (.lst (b.ns.map D.int))]
section
variable {b : Bag} {R : Store}
theorem bag_x (b : Bag) (R : Store) (i : Int) : ixG (.cell 0) (.fr (.int i)) (b.c :: R) = k_x (b.c :: R) (atI [.fr (.int b.z), .fr (.int b.mix), .fr (.int b.k), .fr (.lst (b.ns.map D.int))] i) := r_xC rfl i
theorem bag_set0 (v : Int) : setL (.cell 0) (.fr (.int 0)) (.fr (.int v)) (b.c :: R) = .ok ({ b with z := v }.c :: R) := rfl
theorem bag_set1 (v : Int) : setL (.cell 0) (.fr (.int 1)) (.fr (.int v)) (b.c :: R) = .ok ({ b with mix := v }.c :: R) := rfl
theorem bag_set2 (v : Int) : setL (.cell 0) (.fr (.int 2)) (.fr (.int v)) (b.c :: R) = .ok ({ b with k := v }.c :: R) := rfl
theorem bag_get2 : getL (.cell 0) (.fr (.int 2)) (b.c :: R) = some (.fr (.int b.k)) := rfl
theorem WF.bag {b' : Bag} (h : WF (b.c :: R)) : WF (b'.c :: R) := by
  unfold WF at h ⊢
  simpa [Bag.c, Cell.below, SV.below] using h
theorem leave_bag {b' : Bag} (h : WF (b.c :: R)) (d : D) : leave (b.c :: R).length (.fr d) (b'.c :: R) = .ok (.val (.fr d), b'.c :: R) := leave_val (WF.bag (b' := b') h) d
theorem cdiv_of {i j : Int} (h : 0 < j) (h2 : j.natAbs.log2 < 9000) : (CDiv i j ∨ CDivW i j) = True := by simp [CDivW, h, h2]
theorem takeA_run (hb : b.Ok) (many : Int) : Ends (takeA [some (.cell 0), some (.fr (.int many)), none, none, none, none, none] (b.c :: R)) fun r => ∃ b1 x2 x3, Bag.Ok b1 ∧ r = (.nx, [some (.cell 0), some (.fr (.int many)), x2, x3, none, none, none], b1.c :: R) := by
  have c1 : ∀ i : Int, (CMul i 48271 ∨ CMulW i 48271) = True := fun i => by simp [CMul]
  have c2 : ∀ i : Int, (CMul 7919 i ∨ CMulW 7919 i) = True := fun i => by simp [CMul]
  have p1 : (0 : Int) < 2147483647 := by decide
  have e0 : (0 : Int) ≤ b.k + 1 := by have := hb.k0; omega
  have fin : ∀ m : Int, 0 ≤ m % 2147483647 := fun m => Int.emod_nonneg _ (by decide)
  by_cases hz : b.z = 0
  · by_cases hk : b.k < (b.ns.length : Int)
    · obtain ⟨k, hkk⟩ : ∃ k : Nat, b.k = k := ⟨b.k.toNat, by have := hb.k0; omega⟩
      have hlt : k < b.ns.length := by omega
      have hx : atI (b.ns.map D.int) b.k = some (.int b.ns[k]) := by
        rw [hkk, atI_nat, List.getElem?_map, List.getElem?_eq_getElem hlt]
        rfl
      have hn := hb.n0 _ (List.getElem_mem hlt)
      by_cases hc : (1000000000000000000 : Int) ≤ b.ns[k]
      · simp only [r_bind, r_1, s_1, r_2, s_2, s_2b, r_v, s_v, r_c, r_n, r_a, s_a, s_ab, r_g, s_g, r_and, s_And, s_and1, s_and0, r_or, s_Or, s_or1, s_or0, r_not, s_Not, s_not, r_if, s_if1, s_if0, r_ch, s_ch, s_cha, s_chb1, s_chb0, s_chc, r_tB, s_tB, r_tV, s_tV, s_tv, r_tN, s_tN, r_tA, s_tA1, s_tA0, r_tO, s_tO1, s_tO0, r_tT, r_trB, r_trI, r_trN, r_call, s_call, s_noX, s_backV, s_backC, s_backF, s_frz, r_frz, r_all0, r_all1, r_fn1, r_fn2, r_fn3, r_fn4, r_fn5, s_lvR, s_lvN, r_nx, r_bk, r_ct, r_seq, s_seqN, s_seqR, s_seqB, s_seqC, r_ret, s_ret, r_retN, r_sif, s_sif1, s_sif0, r_ex, s_ex, r_set, s_set, r_par, s_par, r_as, s_as, s_gb, r_gNm, r_gNl, r_gCs, s_gCs, r_gTu2, r_gTu3, r_gTu4, r_gSb, s_sb, s_sb2, s_st, s_nxS, r_au, s_au, s_au0, s_au1, s_au2, s_au3, r_addI, r_for, s_for, s_body, s_turnN, s_turnC, s_turnB, s_turnR, r_r1, s_r1, r_r2, s_r2, r_sq, s_sqL, s_sqS, r_tp, s_tp, r_xT, r_xL, s_x, s_xd, at_0, at_1, at_2, at_3, at_4, r_add, r_sub, r_neg, r_mul, r_fdiv, r_mod, r_pow, r_cmp, r_is, r_eqI, r_abs, r_int, r_max, r_min, r_okV, r_snap, r_lenF, r_lenT, DL.isNon, List.replicate_succ, List.replicate_zero, List.set_cons_zero, List.set_cons_succ, List.getElem?_cons_zero, List.getElem?_cons_succ, Option.map_some, Nat.reduceSub, and_self, and_true, true_and, decide_true, decide_false, if_true, if_false, Bool.false_eq_true, Bool.not_true, Bool.not_false, Nat.reduceSub, Nat.reduceAdd, Nat.reduceMul, Nat.reduceLeDiff, takeA, bag_x, bag_set0, bag_set1, bag_set2, bag_get2, hz, hk, hx, hc, c1, c2, p1, List.length_map, s_ends]
        exact ⟨⟨_, _, _, b.ns⟩, _, _, ⟨hn, fin _, e0, hb.n0⟩, rfl⟩
      · simp only [r_bind, r_1, s_1, r_2, s_2, s_2b, r_v, s_v, r_c, r_n, r_a, s_a, s_ab, r_g, s_g, r_and, s_And, s_and1, s_and0, r_or, s_Or, s_or1, s_or0, r_not, s_Not, s_not, r_if, s_if1, s_if0, r_ch, s_ch, s_cha, s_chb1, s_chb0, s_chc, r_tB, s_tB, r_tV, s_tV, s_tv, r_tN, s_tN, r_tA, s_tA1, s_tA0, r_tO, s_tO1, s_tO0, r_tT, r_trB, r_trI, r_trN, r_call, s_call, s_noX, s_backV, s_backC, s_backF, s_frz, r_frz, r_all0, r_all1, r_fn1, r_fn2, r_fn3, r_fn4, r_fn5, s_lvR, s_lvN, r_nx, r_bk, r_ct, r_seq, s_seqN, s_seqR, s_seqB, s_seqC, r_ret, s_ret, r_retN, r_sif, s_sif1, s_sif0, r_ex, s_ex, r_set, s_set, r_par, s_par, r_as, s_as, s_gb, r_gNm, r_gNl, r_gCs, s_gCs, r_gTu2, r_gTu3, r_gTu4, r_gSb, s_sb, s_sb2, s_st, s_nxS, r_au, s_au, s_au0, s_au1, s_au2, s_au3, r_addI, r_for, s_for, s_body, s_turnN, s_turnC, s_turnB, s_turnR, r_r1, s_r1, r_r2, s_r2, r_sq, s_sqL, s_sqS, r_tp, s_tp, r_xT, r_xL, s_x, s_xd, at_0, at_1, at_2, at_3, at_4, r_add, r_sub, r_neg, r_mul, r_fdiv, r_mod, r_pow, r_cmp, r_is, r_eqI, r_abs, r_int, r_max, r_min, r_okV, r_snap, r_lenF, r_lenT, DL.isNon, List.replicate_succ, List.replicate_zero, List.set_cons_zero, List.set_cons_succ, List.getElem?_cons_zero, List.getElem?_cons_succ, Option.map_some, Nat.reduceSub, and_self, and_true, true_and, decide_true, decide_false, if_true, if_false, Bool.false_eq_true, Bool.not_true, Bool.not_false, Nat.reduceSub, Nat.reduceAdd, Nat.reduceMul, Nat.reduceLeDiff, takeA, bag_x, bag_set0, bag_set1, bag_set2, bag_get2, hz, hk, hx, hc, c1, c2, p1, List.length_map, s_ends]
        exact ⟨⟨0, _, b.k + 1, b.ns⟩, _, _, ⟨Int.le_refl 0, fin _, e0, hb.n0⟩, rfl⟩
    · have hc : ¬ (1000000000000000000 : Int) ≤ 0 := by decide
      simp only [r_bind, r_1, s_1, r_2, s_2, s_2b, r_v, s_v, r_c, r_n, r_a, s_a, s_ab, r_g, s_g, r_and, s_And, s_and1, s_and0, r_or, s_Or, s_or1, s_or0, r_not, s_Not, s_not, r_if, s_if1, s_if0, r_ch, s_ch, s_cha, s_chb1, s_chb0, s_chc, r_tB, s_tB, r_tV, s_tV, s_tv, r_tN, s_tN, r_tA, s_tA1, s_tA0, r_tO, s_tO1, s_tO0, r_tT, r_trB, r_trI, r_trN, r_call, s_call, s_noX, s_backV, s_backC, s_backF, s_frz, r_frz, r_all0, r_all1, r_fn1, r_fn2, r_fn3, r_fn4, r_fn5, s_lvR, s_lvN, r_nx, r_bk, r_ct, r_seq, s_seqN, s_seqR, s_seqB, s_seqC, r_ret, s_ret, r_retN, r_sif, s_sif1, s_sif0, r_ex, s_ex, r_set, s_set, r_par, s_par, r_as, s_as, s_gb, r_gNm, r_gNl, r_gCs, s_gCs, r_gTu2, r_gTu3, r_gTu4, r_gSb, s_sb, s_sb2, s_st, s_nxS, r_au, s_au, s_au0, s_au1, s_au2, s_au3, r_addI, r_for, s_for, s_body, s_turnN, s_turnC, s_turnB, s_turnR, r_r1, s_r1, r_r2, s_r2, r_sq, s_sqL, s_sqS, r_tp, s_tp, r_xT, r_xL, s_x, s_xd, at_0, at_1, at_2, at_3, at_4, r_add, r_sub, r_neg, r_mul, r_fdiv, r_mod, r_pow, r_cmp, r_is, r_eqI, r_abs, r_int, r_max, r_min, r_okV, r_snap, r_lenF, r_lenT, DL.isNon, List.replicate_succ, List.replicate_zero, List.set_cons_zero, List.set_cons_succ, List.getElem?_cons_zero, List.getElem?_cons_succ, Option.map_some, Nat.reduceSub, and_self, and_true, true_and, decide_true, decide_false, if_true, if_false, Bool.false_eq_true, Bool.not_true, Bool.not_false, Nat.reduceSub, Nat.reduceAdd, Nat.reduceMul, Nat.reduceLeDiff, takeA, bag_x, bag_set0, bag_set1, bag_set2, bag_get2, hz, hk, hc, c1, c2, p1, List.length_map, s_ends]
      exact ⟨⟨0, _, b.k + 1, b.ns⟩, _, _, ⟨Int.le_refl 0, fin _, e0, hb.n0⟩, rfl⟩
  · simp only [r_bind, r_1, s_1, r_2, s_2, s_2b, r_v, s_v, r_c, r_n, r_a, s_a, s_ab, r_g, s_g, r_and, s_And, s_and1, s_and0, r_or, s_Or, s_or1, s_or0, r_not, s_Not, s_not, r_if, s_if1, s_if0, r_ch, s_ch, s_cha, s_chb1, s_chb0, s_chc, r_tB, s_tB, r_tV, s_tV, s_tv, r_tN, s_tN, r_tA, s_tA1, s_tA0, r_tO, s_tO1, s_tO0, r_tT, r_trB, r_trI, r_trN, r_call, s_call, s_noX, s_backV, s_backC, s_backF, s_frz, r_frz, r_all0, r_all1, r_fn1, r_fn2, r_fn3, r_fn4, r_fn5, s_lvR, s_lvN, r_nx, r_bk, r_ct, r_seq, s_seqN, s_seqR, s_seqB, s_seqC, r_ret, s_ret, r_retN, r_sif, s_sif1, s_sif0, r_ex, s_ex, r_set, s_set, r_par, s_par, r_as, s_as, s_gb, r_gNm, r_gNl, r_gCs, s_gCs, r_gTu2, r_gTu3, r_gTu4, r_gSb, s_sb, s_sb2, s_st, s_nxS, r_au, s_au, s_au0, s_au1, s_au2, s_au3, r_addI, r_for, s_for, s_body, s_turnN, s_turnC, s_turnB, s_turnR, r_r1, s_r1, r_r2, s_r2, r_sq, s_sqL, s_sqS, r_tp, s_tp, r_xT, r_xL, s_x, s_xd, at_0, at_1, at_2, at_3, at_4, r_add, r_sub, r_neg, r_mul, r_fdiv, r_mod, r_pow, r_cmp, r_is, r_eqI, r_abs, r_int, r_max, r_min, r_okV, r_snap, r_lenF, r_lenT, DL.isNon, List.replicate_succ, List.replicate_zero, List.set_cons_zero, List.set_cons_succ, List.getElem?_cons_zero, List.getElem?_cons_succ, Option.map_some, Nat.reduceSub, and_self, and_true, true_and, decide_true, decide_false, if_true, if_false, Bool.false_eq_true, Bool.not_true, Bool.not_false, Nat.reduceSub, Nat.reduceAdd, Nat.reduceMul, Nat.reduceLeDiff, takeA, bag_x, hz, s_ends]
    exact ⟨b, none, none, hb, rfl⟩
theorem takeB_run (hb : b.Ok) (many : Int) (h1 : 0 < many) (h2 : many.natAbs.log2 < 9000) (x2 x3 : Option SV) : Ends (takeB [some (.cell 0), some (.fr (.int many)), x2, x3, none, none, none] (b.c :: R)) fun r => ∃ v b1 rho, 0 ≤ v ∧ v < many ∧ Bag.Ok b1 ∧ r = (.rt (.fr (.int v)), rho, b1.c :: R) := by
  have c1 : ∀ i : Int, (CMul i 39373 ∨ CMulW i 39373) = True := fun i => by simp [CMul]
  have c2 : ∀ i : Int, (CMul i 30011 ∨ CMulW i 30011) = True := fun i => by simp [CMul]
  have c3 : ∀ i : Int, (CMul i 1000000007 ∨ CMulW i 1000000007) = True := fun i => by simp [CMul]
  have c4 : ∀ i : Int, (CMul (i % 1000000007) (i % 1000000007) ∨ CMulW (i % 1000000007) (i % 1000000007)) = True := fun i => by
    have q1 := Int.emod_nonneg i (b := 1000000007) (by decide)
    have q2 := Int.emod_lt_of_pos i (b := 1000000007) (by decide)
    have q3 : -(2 ^ 64) < i % 1000000007 := by omega
    have q4 : i % 1000000007 < 2 ^ 64 := by omega
    simp only [CMul, q3, q4, and_self, true_or]
  have c5 : ∀ i : Int, (CDiv i 7 ∨ CDivW i 7) = True := fun i => by simp [CDiv]
  have cm : ∀ i : Int, (CDiv i many ∨ CDivW i many) = True := fun i => cdiv_of h1 h2
  have p1 : (0 : Int) < 1000000007 := by decide
  have p2 : (0 : Int) < 998244353 := by decide
  have q1 : ∀ m : Int, 0 ≤ m % many := fun m => Int.emod_nonneg _ (by omega)
  have q2 : ∀ m : Int, m % many < many := fun m => Int.emod_lt_of_pos _ h1
  have q3 : 0 ≤ b.z / many := Int.ediv_nonneg hb.z0 (by omega)
  by_cases hz : 0 < b.z
  · simp only [r_bind, r_1, s_1, r_2, s_2, s_2b, r_v, s_v, r_c, r_n, r_a, s_a, s_ab, r_g, s_g, r_and, s_And, s_and1, s_and0, r_or, s_Or, s_or1, s_or0, r_not, s_Not, s_not, r_if, s_if1, s_if0, r_ch, s_ch, s_cha, s_chb1, s_chb0, s_chc, r_tB, s_tB, r_tV, s_tV, s_tv, r_tN, s_tN, r_tA, s_tA1, s_tA0, r_tO, s_tO1, s_tO0, r_tT, r_trB, r_trI, r_trN, r_call, s_call, s_noX, s_backV, s_backC, s_backF, s_frz, r_frz, r_all0, r_all1, r_fn1, r_fn2, r_fn3, r_fn4, r_fn5, s_lvR, s_lvN, r_nx, r_bk, r_ct, r_seq, s_seqN, s_seqR, s_seqB, s_seqC, r_ret, s_ret, r_retN, r_sif, s_sif1, s_sif0, r_ex, s_ex, r_set, s_set, r_par, s_par, r_as, s_as, s_gb, r_gNm, r_gNl, r_gCs, s_gCs, r_gTu2, r_gTu3, r_gTu4, r_gSb, s_sb, s_sb2, s_st, s_nxS, r_au, s_au, s_au0, s_au1, s_au2, s_au3, r_addI, r_for, s_for, s_body, s_turnN, s_turnC, s_turnB, s_turnR, r_r1, s_r1, r_r2, s_r2, r_sq, s_sqL, s_sqS, r_tp, s_tp, r_xT, r_xL, s_x, s_xd, at_0, at_1, at_2, at_3, at_4, r_add, r_sub, r_neg, r_mul, r_fdiv, r_mod, r_pow, r_cmp, r_is, r_eqI, r_abs, r_int, r_max, r_min, r_okV, r_snap, r_lenF, r_lenT, DL.isNon, List.replicate_succ, List.replicate_zero, List.set_cons_zero, List.set_cons_succ, List.getElem?_cons_zero, List.getElem?_cons_succ, Option.map_some, Nat.reduceSub, and_self, and_true, true_and, decide_true, decide_false, if_true, if_false, Bool.false_eq_true, Bool.not_true, Bool.not_false, Nat.reduceSub, Nat.reduceAdd, Nat.reduceMul, Nat.reduceLeDiff, takeB, bag_x, bag_set0, hz, h1, cm, s_ends]
    exact ⟨_, ⟨_, _, _, b.ns⟩, _, q1 _, q2 _, ⟨q3, hb.m0, hb.k0, hb.n0⟩, rfl⟩
  · by_cases hm : (1000000 : Int) < many
    · simp only [r_bind, r_1, s_1, r_2, s_2, s_2b, r_v, s_v, r_c, r_n, r_a, s_a, s_ab, r_g, s_g, r_and, s_And, s_and1, s_and0, r_or, s_Or, s_or1, s_or0, r_not, s_Not, s_not, r_if, s_if1, s_if0, r_ch, s_ch, s_cha, s_chb1, s_chb0, s_chc, r_tB, s_tB, r_tV, s_tV, s_tv, r_tN, s_tN, r_tA, s_tA1, s_tA0, r_tO, s_tO1, s_tO0, r_tT, r_trB, r_trI, r_trN, r_call, s_call, s_noX, s_backV, s_backC, s_backF, s_frz, r_frz, r_all0, r_all1, r_fn1, r_fn2, r_fn3, r_fn4, r_fn5, s_lvR, s_lvN, r_nx, r_bk, r_ct, r_seq, s_seqN, s_seqR, s_seqB, s_seqC, r_ret, s_ret, r_retN, r_sif, s_sif1, s_sif0, r_ex, s_ex, r_set, s_set, r_par, s_par, r_as, s_as, s_gb, r_gNm, r_gNl, r_gCs, s_gCs, r_gTu2, r_gTu3, r_gTu4, r_gSb, s_sb, s_sb2, s_st, s_nxS, r_au, s_au, s_au0, s_au1, s_au2, s_au3, r_addI, r_for, s_for, s_body, s_turnN, s_turnC, s_turnB, s_turnR, r_r1, s_r1, r_r2, s_r2, r_sq, s_sqL, s_sqS, r_tp, s_tp, r_xT, r_xL, s_x, s_xd, at_0, at_1, at_2, at_3, at_4, r_add, r_sub, r_neg, r_mul, r_fdiv, r_mod, r_pow, r_cmp, r_is, r_eqI, r_abs, r_int, r_max, r_min, r_okV, r_snap, r_lenF, r_lenT, DL.isNon, List.replicate_succ, List.replicate_zero, List.set_cons_zero, List.set_cons_succ, List.getElem?_cons_zero, List.getElem?_cons_succ, Option.map_some, Nat.reduceSub, and_self, and_true, true_and, decide_true, decide_false, if_true, if_false, Bool.false_eq_true, Bool.not_true, Bool.not_false, Nat.reduceSub, Nat.reduceAdd, Nat.reduceMul, Nat.reduceLeDiff, takeB, bag_x, bag_set0, hz, h1, hm, c1, c2, c3, c4, c5, p1, p2, s_ends]
      exact ⟨_, b, _, q1 _, q2 _, hb, rfl⟩
    · simp only [r_bind, r_1, s_1, r_2, s_2, s_2b, r_v, s_v, r_c, r_n, r_a, s_a, s_ab, r_g, s_g, r_and, s_And, s_and1, s_and0, r_or, s_Or, s_or1, s_or0, r_not, s_Not, s_not, r_if, s_if1, s_if0, r_ch, s_ch, s_cha, s_chb1, s_chb0, s_chc, r_tB, s_tB, r_tV, s_tV, s_tv, r_tN, s_tN, r_tA, s_tA1, s_tA0, r_tO, s_tO1, s_tO0, r_tT, r_trB, r_trI, r_trN, r_call, s_call, s_noX, s_backV, s_backC, s_backF, s_frz, r_frz, r_all0, r_all1, r_fn1, r_fn2, r_fn3, r_fn4, r_fn5, s_lvR, s_lvN, r_nx, r_bk, r_ct, r_seq, s_seqN, s_seqR, s_seqB, s_seqC, r_ret, s_ret, r_retN, r_sif, s_sif1, s_sif0, r_ex, s_ex, r_set, s_set, r_par, s_par, r_as, s_as, s_gb, r_gNm, r_gNl, r_gCs, s_gCs, r_gTu2, r_gTu3, r_gTu4, r_gSb, s_sb, s_sb2, s_st, s_nxS, r_au, s_au, s_au0, s_au1, s_au2, s_au3, r_addI, r_for, s_for, s_body, s_turnN, s_turnC, s_turnB, s_turnR, r_r1, s_r1, r_r2, s_r2, r_sq, s_sqL, s_sqS, r_tp, s_tp, r_xT, r_xL, s_x, s_xd, at_0, at_1, at_2, at_3, at_4, r_add, r_sub, r_neg, r_mul, r_fdiv, r_mod, r_pow, r_cmp, r_is, r_eqI, r_abs, r_int, r_max, r_min, r_okV, r_snap, r_lenF, r_lenT, DL.isNon, List.replicate_succ, List.replicate_zero, List.set_cons_zero, List.set_cons_succ, List.getElem?_cons_zero, List.getElem?_cons_succ, Option.map_some, Nat.reduceSub, and_self, and_true, true_and, decide_true, decide_false, if_true, if_false, Bool.false_eq_true, Bool.not_true, Bool.not_false, Nat.reduceSub, Nat.reduceAdd, Nat.reduceMul, Nat.reduceLeDiff, takeB, bag_x, bag_set0, hz, h1, hm, c1, c2, c3, c4, c5, p1, p2, s_ends]
      exact ⟨_, b, _, q1 _, q2 _, hb, rfl⟩
theorem take_run (b : Bag) (hb : b.Ok) (many : Int) (h1 : 0 < many) (h2 : many.natAbs.log2 < 9000) (R : Store) (wf : WF (b.c :: R)) :
    ∃ v b', 0 ≤ v ∧ v < many ∧ Bag.Ok b' ∧ WF (b'.c :: R) ∧ takeM [.cell 0, .fr (.int many)] (b.c :: R) = .ok (.val (.fr (.int v)), b'.c :: R) := by
  obtain ⟨_, e1, b1, x2, x3, hb1, rfl⟩ := takeA_run (R := R) hb many
  obtain ⟨_, e2, v, b2, rho, g1, g2, hb2, rfl⟩ := takeB_run (R := R) hb1 many h1 h2 x2 x3
  refine ⟨v, b2, g1, g2, hb2, wf.bag, ?_⟩
  simp only [r_bind, r_1, s_1, r_2, s_2, s_2b, r_v, s_v, r_c, r_n, r_a, s_a, s_ab, r_g, s_g, r_and, s_And, s_and1, s_and0, r_or, s_Or, s_or1, s_or0, r_not, s_Not, s_not, r_if, s_if1, s_if0, r_ch, s_ch, s_cha, s_chb1, s_chb0, s_chc, r_tB, s_tB, r_tV, s_tV, s_tv, r_tN, s_tN, r_tA, s_tA1, s_tA0, r_tO, s_tO1, s_tO0, r_tT, r_trB, r_trI, r_trN, r_call, s_call, s_noX, s_backV, s_backC, s_backF, s_frz, r_frz, r_all0, r_all1, r_fn1, r_fn2, r_fn3, r_fn4, r_fn5, s_lvR, s_lvN, r_nx, r_bk, r_ct, r_seq, s_seqN, s_seqR, s_seqB, s_seqC, r_ret, s_ret, r_retN, r_sif, s_sif1, s_sif0, r_ex, s_ex, r_set, s_set, r_par, s_par, r_as, s_as, s_gb, r_gNm, r_gNl, r_gCs, s_gCs, r_gTu2, r_gTu3, r_gTu4, r_gSb, s_sb, s_sb2, s_st, s_nxS, r_au, s_au, s_au0, s_au1, s_au2, s_au3, r_addI, r_for, s_for, s_body, s_turnN, s_turnC, s_turnB, s_turnR, r_r1, s_r1, r_r2, s_r2, r_sq, s_sqL, s_sqS, r_tp, s_tp, r_xT, r_xL, s_x, s_xd, at_0, at_1, at_2, at_3, at_4, r_add, r_sub, r_neg, r_mul, r_fdiv, r_mod, r_pow, r_cmp, r_is, r_eqI, r_abs, r_int, r_max, r_min, r_okV, r_snap, r_lenF, r_lenT, DL.isNon, List.replicate_succ, List.replicate_zero, List.set_cons_zero, List.set_cons_succ, List.getElem?_cons_zero, List.getElem?_cons_succ, Option.map_some, Nat.reduceSub, and_self, and_true, true_and, decide_true, decide_false, if_true, if_false, Bool.false_eq_true, Bool.not_true, Bool.not_false, Nat.reduceSub, Nat.reduceAdd, Nat.reduceMul, Nat.reduceLeDiff, takeM, e1, e2, leave_bag wf]
end
end DL

namespace DL
open PySem L2

theorem loop_ends {gm : GM} {bd : SM} (J : List SV → Slots → Store → Prop)
    (step : ∀ x xs rho S, J (x :: xs) rho S → Ends ((gm x rho S).bind (k_body bd)) fun r => r.1 = .nx ∧ J xs r.2.1 r.2.2) {xs : List SV} {rho : Slots} {S : Store} (h : J xs rho S) :
    Ends (loopM (fun _ => True) gm bd xs rho S) fun r => r.1 = .nx ∧ J [] r.2.1 r.2.2 := by
  obtain ⟨rho', S', e, j⟩ := loop_inv (lk := fun _ => True) gm bd J (fun _ _ _ _ => trivial) (fun x xs rho S h => by
    obtain ⟨⟨f, r1, S1⟩, e, q1, q2⟩ := step x xs rho S h
    cases q1
    exact ⟨r1, S1, e, q2⟩) xs rho S h
  exact ⟨_, e, rfl, j⟩
section
variable {a b : EM} {rho : Slots} {S T : Store} {x y : SV} {t : TM} {e : EM} {gm : GM}
def k_ps (r : SV × Store) : Res (Option Int × Store) := match r.1 with
  | .fr (.int i) => .ok (some i, r.2)
  | _ => .stuck
theorem r_ps : pS a rho S = (a rho S).bind k_ps := id rfl
theorem s_ps (i : Int) : k_ps (.fr (.int i), S) = .ok (some i, S) := id rfl
theorem r_pn : pN rho S = .ok (none, S) := id rfl
def k_sl2 (c : Bool) (x : SV) (lo : Option Int) (r : Option Int × Store) : Res (SV × Store) := slG c x lo r.1 r.2
def k_sl1 (c : Bool) (hi : PM) (rho : Slots) (x : SV) (r : Option Int × Store) : Res (SV × Store) := (hi rho r.2).bind (k_sl2 c x r.1)
def k_sl (c : Bool) (lo hi : PM) (rho : Slots) (r : SV × Store) : Res (SV × Store) := (lo rho r.2).bind (k_sl1 c hi rho r.1)
theorem r_sl (c : Bool) (lo hi : PM) : eSl c a lo hi rho S = (a rho S).bind (k_sl c lo hi rho) := id rfl
theorem s_sl (c : Bool) (lo hi : PM) : k_sl c lo hi rho (x, S) = (lo rho S).bind (k_sl1 c hi rho x) := id rfl
theorem s_sl1 (c : Bool) (hi : PM) (l : Option Int) : k_sl1 c hi rho x (l, S) = (hi rho S).bind (k_sl2 c x l) := id rfl
theorem s_sl2 (c : Bool) (l u : Option Int) : k_sl2 c x l (u, S) = slG c x l u S := id rfl
theorem cut_map {α β : Type} (f : α → β) (xs : List α) (l u : Option Int) : cutA (xs.map f) l u = (cutA xs l u).map f := by
  unfold cutA
  simp [List.map_drop, List.map_take]
theorem r_slL (ds : List D) (l u : Option Int) : slG false (.fr (.lst ds)) l u S = .ok (.fr (.lst (cutA ds l u)), S) := by
  unfold slG
  simp only [rdS, rdL, cut_map, newL0, allFr_map, Bool.false_eq_true, if_false]
theorem r_slS (ds : List D) (l u : Option Int) : slG false (.fr (.scr ds)) l u S = .ok (.fr (.lst (cutA ds l u)), S) := by
  unfold slG
  simp only [rdS, cut_map, newL0, allFr_map, Bool.false_eq_true, if_false]
theorem r_slT (c : Bool) (ds : List D) (l u : Option Int) : slG c (.fr (.tup ds)) l u S = .ok (.fr (.tup (cutA ds l u)), S) := id rfl
theorem cut_to {α : Type} (xs : List α) (n : Nat) : cutA xs none (some (n : Int)) = xs.take n := by
  unfold cutA
  rw [HT.sIx_none, HT.sIx_nat, List.drop_zero, Nat.sub_zero]
  by_cases h : n ≤ xs.length
  · rw [Nat.min_eq_left h]
  · rw [Nat.min_eq_right (by omega), List.take_length, List.take_of_length_le (by omega)]
def k_l3 (r : SV × Store) : Res (Option SV × Store) := .ok (some r.1, r.2)
def k_l2 (e : EM) (rho : Slots) (r : Bool × Store) : Res (Option SV × Store) := if r.1 then (e rho r.2).bind k_l3 else .ok (none, r.2)
def k_l1 (t : TM) (e : EM) (r : Slots × Store) : Res (Option SV × Store) := (t r.1 r.2).bind (k_l2 e r.1)
def lcT (gm : GM) (t : TM) (e : EM) (x : SV) (rho : Slots) (S : Store) : Res (Option SV × Store) := (gm x rho S).bind (k_l1 t e)
theorem r_lcT : lcT gm t e x rho S = (gm x rho S).bind (k_l1 t e) := id rfl
theorem s_l1 : k_l1 t e (rho, S) = (t rho S).bind (k_l2 e rho) := id rfl
theorem s_l2t : k_l2 e rho (true, S) = (e rho S).bind k_l3 := id rfl
theorem s_l2f : k_l2 e rho (false, S) = .ok (none, S) := id rfl
theorem s_l3 : k_l3 (x, S) = .ok (some x, S) := id rfl
theorem lc_nil {lk : Store → Prop} {own : List Nat} {acc : List SV} (h : lk (S ++ [.lst acc])) : lcM lk gm t e own rho [] S acc = .ok (acc, S) := by
  unfold lcM
  rw [if_pos h]
theorem lc_some {lk : Store → Prop} {own : List Nat} {acc : List SV} {xs : List SV} {S1 : Store} (h : lk (S ++ [.lst acc])) (hl : acc.length < sizeLine) (hs : S1.length = S.length) (hr : lcT gm t e x (wipeR rho own) (S ++ [.lst acc]) = .ok (some y, S1 ++ [.lst acc])) :
    lcM lk gm t e own rho (x :: xs) S acc = lcM lk gm t e own rho xs S1 (acc ++ [y]) := by
  conv => lhs; unfold lcM
  rw [if_pos h]
  unfold lcT k_l1 k_l2 k_l3 at hr
  cases hg : gm x (wipeR rho own) (S ++ [.lst acc]) with
  | ok r =>
    rw [hg, r_bind] at hr
    rw [r_bind]
    cases ht : t r.1 r.2 with
    | ok k =>
      rw [ht, r_bind] at hr
      rw [r_bind]
      by_cases hk : k.1 = true
      · rw [if_pos hk] at hr ⊢
        cases he : e r.1 k.2 with
        | ok z =>
          rw [he, r_bind] at hr
          rw [r_bind]
          simp only [Res.ok.injEq, Prod.mk.injEq, Option.some.injEq] at hr
          obtain ⟨rfl, h2⟩ := hr
          rw [h2, unS_app hs]
          dsimp only
          rw [if_pos hl]
        | _ => rw [he] at hr; cases hr
      · rw [if_neg hk] at hr
        simp at hr
    | _ => rw [ht] at hr; cases hr
  | _ => rw [hg] at hr; cases hr
theorem lc_none {lk : Store → Prop} {own : List Nat} {acc : List SV} {xs : List SV} {S1 : Store} (h : lk (S ++ [.lst acc])) (hs : S1.length = S.length) (hr : lcT gm t e x (wipeR rho own) (S ++ [.lst acc]) = .ok (none, S1 ++ [.lst acc])) :
    lcM lk gm t e own rho (x :: xs) S acc = lcM lk gm t e own rho xs S1 acc := by
  conv => lhs; unfold lcM
  rw [if_pos h]
  unfold lcT k_l1 k_l2 k_l3 at hr
  cases hg : gm x (wipeR rho own) (S ++ [.lst acc]) with
  | ok r =>
    rw [hg, r_bind] at hr
    rw [r_bind]
    cases ht : t r.1 r.2 with
    | ok k =>
      rw [ht, r_bind] at hr
      rw [r_bind]
      by_cases hk : k.1 = true
      · rw [if_pos hk] at hr
        cases he : e r.1 k.2 with
        | ok z => rw [he, r_bind] at hr; simp at hr
        | _ => rw [he] at hr; cases hr
      · rw [if_neg hk] at hr ⊢
        simp only [Res.ok.injEq, Prod.mk.injEq, true_and] at hr
        rw [hr, unS_app hs]
    | _ => rw [ht] at hr; cases hr
  | _ => rw [hg] at hr; cases hr
theorem lc_inv {lk : Store → Prop} {own : List Nat} (J : List SV → List SV → Store → Prop) (hl : ∀ xs acc S, J xs acc S → lk (S ++ [.lst acc]))
    (step : ∀ x xs acc S, J (x :: xs) acc S → ∃ o S1, S1.length = S.length ∧ lcT gm t e x (wipeR rho own) (S ++ [.lst acc]) = .ok (o, S1 ++ [.lst acc]) ∧ (match o with
      | some y => acc.length < sizeLine ∧ J xs (acc ++ [y]) S1
      | none => J xs acc S1)) :
    ∀ (xs acc : List SV) (S : Store), J xs acc S → ∃ acc' S', lcM lk gm t e own rho xs S acc = .ok (acc', S') ∧ J [] acc' S'
  | [], acc, S, h => ⟨acc, S, lc_nil (hl _ _ _ h), h⟩
  | x :: xs, acc, S, h => by
    obtain ⟨o, S1, h1, h2, h3⟩ := step x xs acc S h
    cases o with
    | some y =>
      obtain ⟨acc', S', q1, q2⟩ := lc_inv J hl step xs (acc ++ [y]) S1 h3.2
      exact ⟨acc', S', by rw [lc_some (hl _ _ _ h) h3.1 h1 h2, q1], q2⟩
    | none =>
      obtain ⟨acc', S', q1, q2⟩ := lc_inv J hl step xs acc S1 h3
      exact ⟨acc', S', by rw [lc_none (hl _ _ _ h) h1 h2, q1], q2⟩
theorem lc_map {lk : Store → Prop} {own : List Nat} (f : SV → SV) (hlk : ∀ acc, lk (S ++ [.lst acc])) : ∀ (xs acc : List SV), acc.length + xs.length ≤ sizeLine →
    (∀ x ∈ xs, ∀ acc, lcT gm t e x (wipeR rho own) (S ++ [.lst acc]) = .ok (some (f x), S ++ [.lst acc])) → lcM lk gm t e own rho xs S acc = .ok (acc ++ xs.map f, S)
  | [], acc, _, _ => by rw [lc_nil (hlk _)]; simp
  | x :: xs, acc, hz, h => by
    have hz' : acc.length + (xs.length + 1) ≤ sizeLine := hz
    rw [lc_some (hlk _) (by omega) rfl (h x List.mem_cons_self acc), lc_map f hlk xs (acc ++ [f x]) (by simp; omega) fun z hz => h z (List.mem_cons_of_mem _ hz)]
    simp
noncomputable def k_lce (cc : Bool) (r : List SV × Store) : Res (SV × Store) := lcEnd cc r.1 r.2
noncomputable def k_lc (cc : Bool) (gm : GM) (t : TM) (e : EM) (own : List Nat) (rho : Slots) (r : Wk × Store) : Res (SV × Store) := (noE (lcM r.1.lk gm t e own rho r.1.xs r.2 [])).bind (k_lce cc)
theorem r_lc (cc : Bool) (im : IM) (own : List Nat) : eLC cc im gm t e own rho S = (im rho S).bind (k_lc cc gm t e own rho) := id rfl
theorem s_lc (cc : Bool) (own : List Nat) (w : Wk) : k_lc cc gm t e own rho (w, S) = (noE (lcM w.lk gm t e own rho w.xs S [])).bind (k_lce cc) := id rfl
theorem s_noE {α : Type} (r : α) : noE (.ok r) = .ok r := id rfl
theorem s_lceC (acc : List SV) : k_lce true (acc, S) = .ok (.cell S.length, S ++ [.lst acc]) := id rfl
theorem s_lceF {ds : List D} (wf : WF S) : k_lce false (ds.map SV.fr, S) = .ok (.fr (.lst ds), S) := by
  unfold k_lce lcEnd
  simp only [Bool.false_eq_true, if_false, allFr_map]
  rw [if_pos (show S.all (Cell.below S.length) = true from wf)]
theorem s_wr0 : wipeR rho [] = rho := id rfl
theorem s_wr (v : Nat) (vs : List Nat) : wipeR rho (v :: vs) = (wipeR rho vs).set v none := id rfl
end
def szN {α : Type} : List α → Nat
  | [] => 0
  | _ :: xs => szN xs + 1
theorem szN_eq {α : Type} : ∀ xs : List α, szN xs = xs.length
  | [] => rfl
  | _ :: xs => by rw [szN, szN_eq xs]; rfl
theorem s_sz0 {α : Type} : szN ([] : List α) = 0 := id rfl
theorem s_sz1 {α : Type} (x : α) (xs : List α) : szN (x :: xs) = szN xs + 1 := id rfl
section
variable {S : Store}
def k_nT (n : Nat) (S : Store) (o : Option (List D)) : Res (SV × Store) := if n ≤ 16777216 then (match o with
  | some ds => .ok (.fr (.tup ds), S)
  | none => .stuck) else .stuck
theorem r_nT (xs : List SV) : newT xs S = k_nT (szN xs) S (allFr xs) := by
  unfold newT k_nT
  rw [szN_eq, sizeLine_eq]
  try rfl
theorem s_nT {n : Nat} (h : n ≤ 16777216) (ds : List D) : k_nT n S (some ds) = .ok (.fr (.tup ds), S) := if_pos h
def k_nF (n : Nat) (S : Store) (o : Option (List D)) : Res (SV × Store) := if n ≤ 16777216 then (match o with
  | some ds => .ok (.fr (.lst ds), S)
  | none => .stuck) else .stuck
theorem r_nF (xs : List SV) : newL false xs S = k_nF (szN xs) S (allFr xs) := by
  unfold newL k_nF
  rw [szN_eq, sizeLine_eq]
  try rfl
theorem s_nF {n : Nat} (h : n ≤ 16777216) (ds : List D) : k_nF n S (some ds) = .ok (.fr (.lst ds), S) := if_pos h
def k_nC (n : Nat) (xs : List SV) (S : Store) : Res (SV × Store) := if n ≤ 16777216 then .ok (.cell S.length, S ++ [.lst xs]) else .stuck
theorem r_nC (xs : List SV) : newL true xs S = k_nC (szN xs) xs S := by
  unfold newL k_nC
  rw [szN_eq, sizeLine_eq]
  try rfl
theorem s_nC {n : Nat} (h : n ≤ 16777216) (xs : List SV) : k_nC n xs S = .ok (.cell S.length, S ++ [.lst xs]) := if_pos h
end
def absI (i : Int) : Int := if i < 0 then -i else i
theorem bag_run (ns : List Int) (hn : ns.length ≤ sizeLine) : bagM [.fr (.scr (ns.map D.int))] [] = .ok (.new (Bag.c ⟨0, 1234567891, 0, (ns.take 63).map absI⟩), []) := by
  have e1 : cutA (ns.map D.int) none (some 63) = (ns.take 63).map D.int := by
    rw [show (63 : Int) = ((63 : Nat) : Int) from rfl, cut_to, List.map_take]
  have e2 : lcM (fun _ => True) (gNm 2) tTr (eA absG (aC (eV 2) aN)) [1, 2] [some (.fr (.scr (ns.map D.int))), none, none] (((ns.take 63).map D.int).map SV.fr) [] [] = .ok ((((ns.take 63).map absI).map D.int).map SV.fr, []) := by
    rw [lc_map (fun x => match x with
      | .fr (.int i) => .fr (.int (absI i))
      | z => z) (fun _ => trivial)]
    · simp [Function.comp_def]
    · simp
      omega
    · intro x hx acc
      obtain ⟨d, hd, rfl⟩ := List.mem_map.mp hx
      obtain ⟨i, _, rfl⟩ := List.mem_map.mp hd
      simp only [r_bind, r_1, s_1, r_2, s_2, s_2b, r_v, s_v, r_c, r_n, r_a, s_a, s_ab, r_g, s_g, r_and, s_And, s_and1, s_and0, r_or, s_Or, s_or1, s_or0, r_not, s_Not, s_not, r_if, s_if1, s_if0, r_ch, s_ch, s_cha, s_chb1, s_chb0, s_chc, r_tB, s_tB, r_tV, s_tV, s_tv, r_tN, s_tN, r_tA, s_tA1, s_tA0, r_tO, s_tO1, s_tO0, r_tT, r_trB, r_trI, r_trN, r_call, s_call, s_noX, s_backV, s_backC, s_backF, s_frz, r_frz, r_all0, r_all1, r_fn1, r_fn2, r_fn3, r_fn4, r_fn5, s_lvR, s_lvN, r_nx, r_bk, r_ct, r_seq, s_seqN, s_seqR, s_seqB, s_seqC, r_ret, s_ret, r_retN, r_sif, s_sif1, s_sif0, r_ex, s_ex, r_set, s_set, r_par, s_par, r_as, s_as, s_gb, r_gNm, r_gNl, r_gCs, s_gCs, r_gTu2, r_gTu3, r_gTu4, r_gSb, s_sb, s_sb2, s_st, s_nxS, r_au, s_au, s_au0, s_au1, s_au2, s_au3, r_addI, r_for, s_for, s_body, s_turnN, s_turnC, s_turnB, s_turnR, r_r1, s_r1, r_r2, s_r2, r_sq, s_sqL, s_sqS, r_tp, s_tp, r_xT, r_xL, s_x, s_xd, at_0, at_1, at_2, at_3, at_4, r_add, r_sub, r_neg, r_mul, r_fdiv, r_mod, r_pow, r_cmp, r_is, r_eqI, r_abs, r_int, r_max, r_min, r_okV, r_snap, r_lenF, r_lenT, DL.isNon, List.replicate_succ, List.replicate_zero, List.set_cons_zero, List.set_cons_succ, List.getElem?_cons_zero, List.getElem?_cons_succ, Option.map_some, Nat.reduceSub, and_self, and_true, true_and, decide_true, decide_false, if_true, if_false, Bool.false_eq_true, Bool.not_true, Bool.not_false, Nat.reduceSub, Nat.reduceAdd, Nat.reduceMul, Nat.reduceLeDiff, r_lcT, s_l1, s_l2t, s_l3, s_wr0, s_wr]
      rfl
  simp only [r_bind, r_1, s_1, r_2, s_2, s_2b, r_v, s_v, r_c, r_n, r_a, s_a, s_ab, r_g, s_g, r_and, s_And, s_and1, s_and0, r_or, s_Or, s_or1, s_or0, r_not, s_Not, s_not, r_if, s_if1, s_if0, r_ch, s_ch, s_cha, s_chb1, s_chb0, s_chc, r_tB, s_tB, r_tV, s_tV, s_tv, r_tN, s_tN, r_tA, s_tA1, s_tA0, r_tO, s_tO1, s_tO0, r_tT, r_trB, r_trI, r_trN, r_call, s_call, s_noX, s_backV, s_backC, s_backF, s_frz, r_frz, r_all0, r_all1, r_fn1, r_fn2, r_fn3, r_fn4, r_fn5, s_lvR, s_lvN, r_nx, r_bk, r_ct, r_seq, s_seqN, s_seqR, s_seqB, s_seqC, r_ret, s_ret, r_retN, r_sif, s_sif1, s_sif0, r_ex, s_ex, r_set, s_set, r_par, s_par, r_as, s_as, s_gb, r_gNm, r_gNl, r_gCs, s_gCs, r_gTu2, r_gTu3, r_gTu4, r_gSb, s_sb, s_sb2, s_st, s_nxS, r_au, s_au, s_au0, s_au1, s_au2, s_au3, r_addI, r_for, s_for, s_body, s_turnN, s_turnC, s_turnB, s_turnR, r_r1, s_r1, r_r2, s_r2, r_sq, s_sqL, s_sqS, r_tp, s_tp, r_xT, r_xL, s_x, s_xd, at_0, at_1, at_2, at_3, at_4, r_add, r_sub, r_neg, r_mul, r_fdiv, r_mod, r_pow, r_cmp, r_is, r_eqI, r_abs, r_int, r_max, r_min, r_okV, r_snap, r_lenF, r_lenT, DL.isNon, List.replicate_succ, List.replicate_zero, List.set_cons_zero, List.set_cons_succ, List.getElem?_cons_zero, List.getElem?_cons_succ, Option.map_some, Nat.reduceSub, and_self, and_true, true_and, decide_true, decide_false, if_true, if_false, Bool.false_eq_true, Bool.not_true, Bool.not_false, Nat.reduceSub, Nat.reduceAdd, Nat.reduceMul, Nat.reduceLeDiff, bagM, r_nC, s_nC, s_sz0, s_sz1, r_lc, r_sl, s_sl, s_sl1, s_sl2, r_ps, s_ps, r_pn, r_slS, e1, s_lc, e2, s_noE, s_lceF wf_nil, Option.map_none]
  rfl
end DL

namespace DL
open PySem L2

section
variable {S : Store} {c c' : Cell} {x y : SV} {xs : List SV} {m : AM} {rho : Slots} {o : EM}
theorem get_snoc : (S ++ [c])[S.length]? = some c := by simp
theorem set_snoc : (S ++ [c]).set S.length c' = S ++ [c'] := by simp
theorem last_x (i : Int) : ixG (.cell S.length) (.fr (.int i)) (S ++ [.lst xs]) = k_x (S ++ [.lst xs]) (atI xs i) := r_xC get_snoc i
theorem at_m1 {α : Type} (l : List α) (a : α) : atI (l ++ [a]) (-1) = some a := by
  unfold atI ixN
  rw [if_neg (by decide), List.length_append, List.length_singleton, if_pos (by omega), Option.bind_some]
  have : ((-1 : Int) + ((l.length + 1 : Nat) : Int)).toNat = l.length := by omega
  rw [this]
  simp
theorem last_set (v : SV) (l : List SV) (a : SV) : setL (.cell S.length) (.fr (.int (-1))) v (S ++ [.lst (l ++ [a])]) = .ok (S ++ [.lst (l ++ [v])]) := by
  unfold setL
  have e : ixN (l ++ [a]).length (-1) = some l.length := by
    unfold ixN
    rw [if_neg (by decide), List.length_append, List.length_singleton, if_pos (by omega)]
    congr 1
    omega
  simp only [get_snoc, e, set_snoc]
  congr 4
  simp
def k_mtb (g : GMt) (x : SV) (r : List SV × Store) : Res (SV × Store) := g x r.1 r.2
def k_mt (T : String) (g : GMt) (m : AM) (rho : Slots) (r : SV × Store) : Res (SV × Store) := if tyS T r.2 r.1 then (m rho r.2).bind (k_mtb g r.1) else .stuck
theorem r_mt (T : String) (g : GMt) : eMt T g o m rho S = (o rho S).bind (k_mt T g m rho) := id rfl
theorem s_mt {T : String} (g : GMt) (h : tyS T S x = true) : k_mt T g m rho (x, S) = (m rho S).bind (k_mtb g x) := if_pos h
theorem s_mtb (g : GMt) : k_mtb g x (xs, S) = g x xs S := id rfl
theorem ty_last : tyS "list" (S ++ [.lst xs]) (.cell S.length) = true := by
  unfold tyS
  simp [rdL, get_snoc]
def k_fld (ns : List Str) (f : Str) (r : SV × Store) : Res (SV × Store) := fldG ns f r.1 r.2
theorem r_fld' (ns : List Str) (f : Str) : eFld ns f o rho S = (o rho S).bind (k_fld ns f) := id rfl
theorem s_fld (ns : List Str) (f : Str) : k_fld ns f (x, S) = fldG ns f x S := id rfl
def k_meth0 (cc : Bool) (tbl : Tbl) (nm : Str) (r : SV × Store) : Res (SV × Store) := match metOf tbl nm r.2 r.1 with
  | some f => (noX (f [r.1] r.2)).bind (back cc)
  | none => .stuck
theorem r_meth0 (cc : Bool) (tbl : Tbl) (nm : Str) : eMeth0 cc tbl nm o rho S = (o rho S).bind (k_meth0 cc tbl nm) := id rfl
theorem s_meth0 {cc : Bool} {tbl : Tbl} {nm : Str} {f : FnM} (h : metOf tbl nm S x = some f) : k_meth0 cc tbl nm (x, S) = (noX (f [x] S)).bind (back cc) := by
  unfold k_meth0
  simp only [h]
def k_methb (cc : Bool) (f : FnM) (x : SV) (r : List SV × Store) : Res (SV × Store) := (noX (f (x :: r.1) r.2)).bind (back cc)
def k_meth (cc : Bool) (tbl : Tbl) (nm : Str) (m : AM) (rho : Slots) (r : SV × Store) : Res (SV × Store) := match metOf tbl nm r.2 r.1 with
  | some f => (m rho r.2).bind (k_methb cc f r.1)
  | none => .stuck
theorem r_meth (cc : Bool) (tbl : Tbl) (nm : Str) : eMeth cc tbl nm o m rho S = (o rho S).bind (k_meth cc tbl nm m rho) := id rfl
theorem s_meth {cc : Bool} {tbl : Tbl} {nm : Str} {f : FnM} (h : metOf tbl nm S x = some f) : k_meth cc tbl nm m rho (x, S) = (m rho S).bind (k_methb cc f x) := by
  unfold k_meth
  simp only [h]
theorem s_methb (cc : Bool) (f : FnM) : k_methb cc f x (xs, S) = (noX (f (x :: xs) S)).bind (back cc) := id rfl
def k_make (c : Bool) (n : Str) (f : FnM) (r : List SV × Store) : Res (SV × Store) := (noX (f (.cell r.2.length :: r.1) (r.2 ++ [.ins n []]))).bind (mkEnd c r.2.length)
theorem r_make (c : Bool) (n : Str) (f : FnM) : eMake c n f m rho S = (m rho S).bind (k_make c n f) := id rfl
theorem s_make (c : Bool) (n : Str) (f : FnM) : k_make c n f (xs, S) = (noX (f (.cell S.length :: xs) (S ++ [.ins n []]))).bind (mkEnd c S.length) := id rfl
def k_sfb (ns : List Str) (f : Str) (rho : Slots) (v : SV) (r : SV × Store) : Res (Fl × Slots × Store) := match r.1 with
  | .cell k => match r.2[k]? with
    | some (.ins n fs) => if n ∈ ns ∧ fs.length < 1000 then .ok (.nx, rho, r.2.set k (.ins n (putS f v fs))) else .stuck
    | _ => .stuck
  | _ => .stuck
def k_sf (ns : List Str) (f : Str) (o : EM) (rho : Slots) (r : SV × Store) : Res (Fl × Slots × Store) := (o rho r.2).bind (k_sfb ns f rho r.1)
theorem r_sf (ns : List Str) (f : Str) (p : EM) : sFldM ns f o p rho S = (p rho S).bind (k_sf ns f o rho) := id rfl
theorem s_sf (ns : List Str) (f : Str) : k_sf ns f o rho (x, S) = (o rho S).bind (k_sfb ns f rho x) := id rfl
theorem s_sfb {ns : List Str} {f n : Str} {fs : List (Str × SV)} (h : n ∈ ns ∧ fs.length < 1000) : k_sfb ns f rho x (.cell S.length, S ++ [.ins n fs]) = .ok (.nx, rho, S ++ [.ins n (putS f x fs)]) := by
  unfold k_sfb
  simp only [get_snoc, if_pos h, set_snoc]
def k_sort (c : Bool) (r : SV × Store) : Res (SV × Store) := sortG c r.1 r.2
theorem r_sort (c : Bool) : eSortF c o rho S = (o rho S).bind (k_sort c) := id rfl
theorem s_sort (c : Bool) : k_sort c (x, S) = sortG c x S := id rfl
theorem wf_acc (h : WF S) (ds : List D) : WF (S ++ [.lst (ds.map SV.fr)]) := h.snoc (by simp only [Cell.below]; exact below_map _ ds)
theorem blsOf_map : ∀ bs : List Bool, blsOf (bs.map fun b => SV.fr (.bl b)) = some bs
  | [] => rfl
  | b :: bs => by simp [blsOf, blsOf_map bs]
theorem all_bls (bs : List Bool) : allG [.fr (.lst (bs.map D.bl))] S = .ok (.fr (.bl (bs.all id)), S) := by
  unfold allG
  have e : (rdS S (.fr (.lst (bs.map D.bl)))).bind blsOf = some bs := by
    simp only [rdS, rdL, Option.bind_some, List.map_map]
    exact blsOf_map bs
  simp only [e, okV]
end
end DL

namespace DL
open PySem L2

section
variable {S : Store} {a : EM} {m : AM} {rho : Slots} {x y : SV}
def k_en (r : List SV × Store) : Res (Wk × Store) := match r.1 with
  | [a] => match srcM r.2 a with
    | some (ds, lk) => .ok (⟨enF 0 ds, lk⟩, r.2)
    | none => .stuck
  | _ => .stuck
theorem r_en : iEn m rho S = (m rho S).bind k_en := id rfl
theorem src_L (ds : List D) : srcM S (.fr (.lst ds)) = some (ds, fun _ => True) := by
  unfold srcM
  simp only [rdS, rdL, Option.bind_some, allFr_map, Option.map_some]
theorem s_enL (ds : List D) : k_en ([.fr (.lst ds)], S) = .ok (⟨enF 0 ds, fun _ => True⟩, S) := by
  unfold k_en
  simp only [src_L]
def k_zi (r : List SV × Store) : Res (Wk × Store) := match r.1 with
  | [a, b] => match srcM r.2 a, srcM r.2 b with
    | some (ds, lk), some (es, lk') => .ok (⟨ziF ds es, fun S => lk S ∧ lk' S⟩, r.2)
    | _, _ => .stuck
  | _ => .stuck
theorem r_zi : iZi m rho S = (m rho S).bind k_zi := id rfl
theorem s_ziL (ds es : List D) : k_zi ([.fr (.lst ds), .fr (.lst es)], S) = .ok (⟨ziF ds es, fun _ => True ∧ True⟩, S) := by
  unfold k_zi
  simp only [src_L]
def k_sst (c : Bool) (r : SV × Store) : Res (SV × Store) := sortSetG c r.1 r.2
theorem r_sst (c : Bool) : eSortSet c a rho S = (a rho S).bind (k_sst c) := id rfl
def k_cmA (cc : Bool) (n : Str) (f : FnM) (r : List SV × Store) : Res (SV × Store) := (noX (f (.fr (.cls n) :: r.1) r.2)).bind (back cc)
theorem r_cmA (cc : Bool) (n : Str) (f : FnM) : eCmA cc n f m rho S = (m rho S).bind (k_cmA cc n f) := id rfl
theorem s_cmA (cc : Bool) (n : Str) (f : FnM) (xs : List SV) : k_cmA cc n f (xs, S) = (noX (f (.fr (.cls n) :: xs) S)).bind (back cc) := id rfl
def k_rev (c : Bool) (r : SV × Store) : Res (SV × Store) := revG c r.1 r.2
theorem r_rev (c : Bool) : eRev c a rho S = (a rho S).bind (k_rev c) := id rfl
theorem s_revF (ds : List D) : k_rev false (.fr (.lst ds), S) = .ok (.fr (.lst ds.reverse), S) := by
  show revG false (.fr (.lst ds)) S = _
  unfold revG newL0
  simp only [rdS, rdL, ← List.map_reverse, allFr_map, Bool.false_eq_true, if_false]
def k_par3 (i j l : Nat) (rho : Slots) (r : List SV × Store) : Res (Fl × Slots × Store) := match r.1 with
  | [u, v, w] => .ok (.nx, ((rho.set i (some u)).set j (some v)).set l (some w), r.2)
  | _ => .stuck
theorem r_par3 (i j l : Nat) : sPar3 i j l m rho S = (m rho S).bind (k_par3 i j l rho) := id rfl
theorem s_par3 (i j l : Nat) (z : SV) : k_par3 i j l rho ([x, y, z], S) = .ok (.nx, ((rho.set i (some x)).set j (some y)).set l (some z), S) := id rfl
theorem r_gUl3 {ms : GMs} (d e f : D) : gUl 3 ms (.fr (.lst [d, e, f])) rho S = ms [.fr d, .fr e, .fr f] rho S := id rfl
def k_mt0 (T : String) (g : GMt) (r : SV × Store) : Res (SV × Store) := if tyS T r.2 r.1 then g r.1 [] r.2 else .stuck
theorem r_mt0' (T : String) (g : GMt) : eMt0 T g a rho S = (a rho S).bind (k_mt0 T g) := id rfl
end
section
variable {S : Store}
def k_nTC (n : Nat) (xs : List SV) (S : Store) : Res (SV × Store) := if n ≤ 16777216 then .ok (.cell S.length, S ++ [.tup xs]) else .stuck
theorem r_nTC (xs : List SV) : newTC xs S = k_nTC (szN xs) xs S := by
  unfold newTC k_nTC
  rw [szN_eq, sizeLine_eq]
  try rfl
theorem s_nTC {n : Nat} (h : n ≤ 16777216) (xs : List SV) : k_nTC n xs S = .ok (.cell S.length, S ++ [.tup xs]) := if_pos h
end
end DL

namespace DL
open PySem PySem.Spec PyProof.Rows L2
section
variable {a b c : EM} {m : AM} {rho : Slots} {S : Store} {x y z : SV} {xs : List SV} {k j : Nat} {kvs : List (List Key × SV)} {key : List Key}
def k_get3 (o k : SV) (r : SV × Store) : Res (SV × Store) := getTG o k r.1 r.2
def k_get2 (o : SV) (mx : EM) (rho : Slots) (r : SV × Store) : Res (SV × Store) := (mx rho r.2).bind (k_get3 o r.1)
def k_get1 (mk mx : EM) (rho : Slots) (r : SV × Store) : Res (SV × Store) := if (rdTD r.2 r.1).isSome then (mk rho r.2).bind (k_get2 r.1 mx rho) else .stuck
theorem r_getT : eGetT a b c rho S = (a rho S).bind (k_get1 b c rho) := id rfl
theorem s_get2 : k_get2 x c rho (y, S) = (c rho S).bind (k_get3 x y) := id rfl
theorem s_get3 : k_get3 x y (z, S) = getTG x y z S := id rfl
def k_ptT3 (rho : Slots) (S' : Store) : Res (Slots × Store) := .ok (rho, S')
def k_ptT2 (x : SV) (rho : Slots) (o : SV) (i : SV × Store) : Res (Slots × Store) := (putTD o i.1 x i.2).bind (k_ptT3 rho)
def k_ptT (mi : EM) (x : SV) (rho : Slots) (o : SV × Store) : Res (Slots × Store) := (mi rho o.2).bind (k_ptT2 x rho o.1)
theorem r_ptT : gPtT a b x rho S = (a rho S).bind (k_ptT b x rho) := id rfl
theorem s_ptT : k_ptT b x rho (y, S) = (b rho S).bind (k_ptT2 x rho y) := id rfl
theorem s_ptT2 : k_ptT2 x rho y (z, S) = (putTD y z x S).bind (k_ptT3 rho) := id rfl
theorem s_ptT3 : k_ptT3 rho S = .ok (rho, S) := id rfl
def k_mtT (g : GMt) (m : AM) (rho : Slots) (r : SV × Store) : Res (SV × Store) := match r.1 with
  | .cell j => match r.2[j]? with
    | some (.dit _) => (m rho r.2).bind (k_mtb g r.1)
    | _ => .stuck
  | _ => .stuck
theorem r_mtT (g : GMt) : eMtT g a m rho S = (a rho S).bind (k_mtT g m rho) := by
  unfold eMtT
  congr 1
def k_itT (r : SV × Store) : Res (Wk × Store) := match lkd r.2 r.1 with
  | some kvs => match itemsT kvs with
    | some xs => .ok (⟨xs, ktP⟩, r.2)
    | none => .stuck
  | none => .stuck
theorem r_itT : iItT a rho S = (a rho S).bind k_itT := id rfl
def k_kyT (r : SV × Store) : Res (Wk × Store) := match lkd r.2 r.1 with
  | some kvs => .ok (⟨kvs.map fun p => .fr (tupK p.1), ktP⟩, r.2)
  | none => .stuck
theorem r_kyT : iKyT a rho S = (a rho S).bind k_kyT := id rfl
theorem r_mkK0 (n : Str) (f : KnM) : eMakeK0 n f rho S = (noXK (f [.cell S.length] (S ++ [.ins n []]))).bind (mkEndK S.length) := id rfl
theorem s_noXK (r : SV × Store) : noXK (.ok r) = .ok r := id rfl
theorem s_mkEndK (T : Store) : mkEndK k (.fr .non, T) = .ok (.cell k, T) := id rfl
def k_tOwn2 (r : RV × Store) : Res (Bool × Store) := match r.1 with
  | .val (.fr (.bl b)) => .ok (b, r.2)
  | _ => .stuck
def k_tOwn (tbl : Tbl) (x : SV × Store) : Res (Bool × Store) := match insOf x.2 x.1 with
  | some (n, _) => match tbl.lookup n with
    | some f => (noX (f [x.1] x.2)).bind k_tOwn2
    | none => .stuck
  | none => .stuck
theorem r_tOwn (tbl : Tbl) : tOwn tbl a rho S = (a rho S).bind (k_tOwn tbl) := id rfl
theorem s_tOwn2 (r : Bool) : k_tOwn2 (.val (.fr (.bl r)), S) = .ok (r, S) := id rfl
def k_cK (f : KnM) (x : List SV × Store) : Res (SV × Store) := match f x.1 x.2 with
  | .exc _ _ _ => .stuck
  | r => r
theorem r_cK (f : KnM) : eCallK f m rho S = (m rho S).bind (k_cK f) := id rfl
theorem r_dnt : eDNT rho S = .ok (.cell S.length, S ++ [.dit []]) := id rfl
end
section
variable {κ : Type} [DecidableEq κ]
end
end DL

namespace DL
open PySem PySem.Spec PyProof.Rows L2
section
variable {a b c : EM} {m : AM} {rho r : Slots} {S : Store} {x y z : SV} {xs : List SV} {k j : Nat} {kvs : List (List Key × SV)} {key : List Key}
def k_callX (f : FnM) (cc : Bool) (rho : Slots) (x : List SV × Store) : Res (SV × Store) := (cutX x.2.length rho (f x.1 x.2)).bind (back cc)
theorem r_callX (f : FnM) (cc : Bool) : eCallX f cc m rho S = (m rho S).bind (k_callX f cc rho) := id rfl
theorem s_callX (f : FnM) (cc : Bool) : k_callX f cc rho (xs, S) = (cutX S.length rho (f xs S)).bind (back cc) := id rfl
theorem s_cutX (n : Nat) (x : RV × Store) : cutX n rho (.ok x) = .ok x := id rfl
theorem s_cutXe (wf : WF S) (e : Exc) : cutX S.length rho (.exc e r S) = .exc e rho S := by
  unfold cutX
  dsimp only
  rw [List.take_length, if_pos (show S.all (Cell.below S.length) = true from wf)]
def k_methX2 (cc : Bool) (f : FnM) (x : SV) (rho : Slots) (y : List SV × Store) : Res (SV × Store) := (cutX y.2.length rho (f (x :: y.1) y.2)).bind (back cc)
def k_methX (cc : Bool) (tbl : Tbl) (nm : Str) (m : AM) (rho : Slots) (x : SV × Store) : Res (SV × Store) := match metOf tbl nm x.2 x.1 with
  | some f => (m rho x.2).bind (k_methX2 cc f x.1 rho)
  | none => .stuck
theorem r_methX (cc : Bool) (tbl : Tbl) (nm : Str) : eMethX cc tbl nm a m rho S = (a rho S).bind (k_methX cc tbl nm m rho) := id rfl
theorem s_methX2 (cc : Bool) (f : FnM) : k_methX2 cc f x rho (xs, S) = (cutX S.length rho (f (x :: xs) S)).bind (back cc) := id rfl
def k_rsF (C : Str) (fs : List Str) (rho : Slots) (x : List SV × Store) : Res (Fl × Slots × Store) := match allFr x.1 with
  | some ds => if ds.length = fs.length ∧ fs.length ≤ 900 ∧ fs ≠ [] then .exc ⟨C, (fs.zip ds).reverse⟩ rho x.2 else .stuck
  | none => .stuck
theorem r_rsF (C : Str) (fs : List Str) : sRsF C fs m rho S = (m rho S).bind (k_rsF C fs rho) := id rfl
def k_prop (cc : Bool) (n : Str) (f : FnM) (x : SV × Store) : Res (SV × Store) := match insOf x.2 x.1 with
  | some (n', _) => if n' = n then (noX (f [x.1] x.2)).bind (back cc) else .stuck
  | none => .stuck
theorem r_prop (cc : Bool) (n : Str) (f : FnM) : eProp cc n f a rho S = (a rho S).bind (k_prop cc n f) := id rfl
def k_vlT (r : SV × Store) : Res (Wk × Store) := match lkd r.2 r.1 with
  | some kvs => .ok (⟨kvs.map (·.2), ktP⟩, r.2)
  | none => .stuck
theorem r_vlT : iVlT a rho S = (a rho S).bind k_vlT := id rfl
def k_sortL (kG : KG) (cc : Bool) (x : SV × Store) : Res (SV × Store) := sortLG kG cc x.1 x.2
theorem r_sortL (kG : KG) (cc : Bool) : eSortL kG cc a rho S = (a rho S).bind (k_sortL kG cc) := id rfl
theorem s_sortL (kG : KG) (cc : Bool) : k_sortL kG cc (x, S) = sortLG kG cc x S := id rfl
def k_minL (kG : KG) (x : SV × Store) : Res (SV × Store) := minLG kG x.1 x.2
theorem r_minL (kG : KG) : eMinL kG a rho S = (a rho S).bind (k_minL kG) := id rfl
theorem s_minL (kG : KG) : k_minL kG (x, S) = minLG kG x S := id rfl
end
end DL

namespace DL
open PySem PySem.Spec PyProof.Rows L2
def RR := (And.intro (And.intro (And.intro (And.intro (And.intro (And.intro (And.intro @r_bind (And.intro @r_1 @s_1)) (And.intro (And.intro @r_2 @s_2) (And.intro @s_2b @r_v))) (And.intro (And.intro (And.intro @s_v @r_c) (And.intro @r_n @r_a)) (And.intro (And.intro @s_a @s_ab) (And.intro @r_g @s_g)))) (And.intro (And.intro (And.intro (And.intro @r_and @s_And) (And.intro @s_and1 @s_and0)) (And.intro (And.intro @r_or @s_Or) (And.intro @s_or1 @s_or0))) (And.intro (And.intro (And.intro @r_not @s_Not) (And.intro @s_not @r_if)) (And.intro (And.intro @s_if1 @s_if0) (And.intro @r_ch @s_ch))))) (And.intro (And.intro (And.intro (And.intro (And.intro @s_cha @s_chb1) (And.intro @s_chb0 @s_chc)) (And.intro (And.intro @r_tB @s_tB) (And.intro @r_tV @s_tV))) (And.intro (And.intro (And.intro @s_tv @r_tN) (And.intro @s_tN @r_tA)) (And.intro (And.intro @s_tA1 @s_tA0) (And.intro @r_tO @s_tO1)))) (And.intro (And.intro (And.intro (And.intro @s_tO0 @r_tT) (And.intro @r_trB @r_trI)) (And.intro (And.intro @r_trN @r_call) (And.intro @s_call @s_noX))) (And.intro (And.intro (And.intro @s_backV @s_backC) (And.intro @s_backF @s_frz)) (And.intro (And.intro @r_frz @r_all0) (And.intro @r_all1 @r_fn1)))))) (And.intro (And.intro (And.intro (And.intro (And.intro @r_fn2 (And.intro @r_fn3 @r_fn4)) (And.intro (And.intro @r_fn5 @s_lvR) (And.intro @s_lvN @r_nx))) (And.intro (And.intro (And.intro @r_bk @r_ct) (And.intro @r_seq @s_seqN)) (And.intro (And.intro @s_seqR @s_seqB) (And.intro @s_seqC @r_ret)))) (And.intro (And.intro (And.intro (And.intro @s_ret @r_retN) (And.intro @r_sif @s_sif1)) (And.intro (And.intro @s_sif0 @r_ex) (And.intro @s_ex @r_set))) (And.intro (And.intro (And.intro @s_set @r_par) (And.intro @s_par @r_as)) (And.intro (And.intro @s_as @s_gb) (And.intro @r_gNm @r_gNl))))) (And.intro (And.intro (And.intro (And.intro (And.intro @r_gCs @s_gCs) (And.intro @r_gTu2 @r_gTu3)) (And.intro (And.intro @r_gTu4 @r_gSb) (And.intro @s_sb @s_sb2))) (And.intro (And.intro (And.intro @s_st @s_nxS) (And.intro @r_au @s_au)) (And.intro (And.intro @s_au0 @s_au1) (And.intro @s_au2 @s_au3)))) (And.intro (And.intro (And.intro (And.intro @r_addI @r_for) (And.intro @s_for @s_body)) (And.intro (And.intro @s_turnN @s_turnC) (And.intro @s_turnB @s_turnR))) (And.intro (And.intro (And.intro @r_r1 @s_r1) (And.intro @r_r2 @s_r2)) (And.intro (And.intro @r_sq @s_sqL) (And.intro @s_sqS @r_tp))))))) (And.intro (And.intro (And.intro (And.intro (And.intro (And.intro @s_tp (And.intro @r_xT @r_xL)) (And.intro (And.intro @s_x @s_xd) (And.intro @at_0 @at_1))) (And.intro (And.intro (And.intro @at_2 @at_3) (And.intro @at_4 @r_add)) (And.intro (And.intro @r_sub @r_neg) (And.intro @r_mul @r_fdiv)))) (And.intro (And.intro (And.intro (And.intro @r_mod @r_pow) (And.intro @r_cmp @r_is)) (And.intro (And.intro @r_eqI @r_abs) (And.intro @r_int @r_max))) (And.intro (And.intro (And.intro @r_min @r_okV) (And.intro @r_snap @r_lenF)) (And.intro (And.intro @r_lenT @r_ps) (And.intro @s_ps @r_pn))))) (And.intro (And.intro (And.intro (And.intro (And.intro @r_sl @s_sl) (And.intro @s_sl1 @s_sl2)) (And.intro (And.intro @r_slL @r_slS) (And.intro @r_slT @r_lcT))) (And.intro (And.intro (And.intro @s_l1 @s_l2t) (And.intro @s_l2f @s_l3)) (And.intro (And.intro @r_lc @s_lc) (And.intro @s_noE @s_lceC)))) (And.intro (And.intro (And.intro (And.intro @s_wr0 @s_wr) (And.intro @r_nT @s_nT)) (And.intro (And.intro @r_nF @s_nF) (And.intro @r_nC @s_nC))) (And.intro (And.intro (And.intro @s_sz0 @s_sz1) (And.intro @last_x @at_m1)) (And.intro (And.intro @last_set @r_mt) (And.intro @s_mt @s_mtb)))))) (And.intro (And.intro (And.intro (And.intro (And.intro (And.intro @ty_last @r_fld') (And.intro @s_fld @r_meth0)) (And.intro (And.intro @s_meth0 @r_meth) (And.intro @s_meth @s_methb))) (And.intro (And.intro (And.intro @r_make @s_make) (And.intro @r_sf @s_sf)) (And.intro (And.intro @s_sfb @r_sort) (And.intro @s_sort @r_en)))) (And.intro (And.intro (And.intro (And.intro @s_enL @r_zi) (And.intro @s_ziL @r_sst)) (And.intro (And.intro @r_mt0' @r_gUl3) (And.intro @r_par3 @s_par3))) (And.intro (And.intro (And.intro @r_cmA @s_cmA) (And.intro @r_rev @s_revF)) (And.intro (And.intro @r_cw @s_cw) (And.intro @s_cw1 @r_fill))))) (And.intro (And.intro (And.intro (And.intro (And.intro @r_isB @r_nTC) (And.intro @s_nTC @r_getT)) (And.intro (And.intro @s_get2 @s_get3) (And.intro @r_ptT @s_ptT))) (And.intro (And.intro (And.intro @s_ptT2 @s_ptT3) (And.intro @r_mtT @r_itT)) (And.intro (And.intro @r_kyT @r_mkK0) (And.intro @s_noXK @s_mkEndK)))) (And.intro (And.intro (And.intro (And.intro @r_tOwn @s_tOwn2) (And.intro @r_cK @r_dnt)) (And.intro (And.intro @r_callX @s_callX) (And.intro @s_cutX @r_methX))) (And.intro (And.intro (And.intro @s_methX2 @r_rsF) (And.intro @r_prop @r_vlT)) (And.intro (And.intro @r_sortL @s_sortL) (And.intro @r_minL @s_minL))))))))
end DL

namespace MA

abbrev Span := Int × Option Int
def below (x : Int) : Option Int → Bool
  | none => true
  | some l => decide (x ≤ l)
def cov (s : Span) (x : Int) : Bool := decide (s.1 ≤ x) && below x s.2
def mem (ss : List Span) (x : Int) : Bool := ss.any fun s => cov s x
structure Ok (s : Span) : Prop where
  f0 : 0 ≤ s.1
  l1 : ∀ l, s.2 = some l → s.1 ≤ l
def Nf : Int → List Span → Prop
  | _, [] => True
  | lo, (f, none) :: r => lo ≤ f ∧ r = []
  | lo, (f, some l) :: r => lo ≤ f ∧ f ≤ l ∧ Nf (l + 2) r
theorem Nf.mono {a b : Int} (h : b ≤ a) : ∀ {ss : List Span}, Nf a ss → Nf b ss
  | [], _ => True.intro
  | (f, none) :: r, q => ⟨Int.le_trans h q.1, q.2⟩
  | (f, some l) :: r, q => ⟨Int.le_trans h q.1, q.2⟩
theorem mem_nil (x : Int) : mem [] x = false := rfl
theorem mem_cons (s : Span) (ss : List Span) (x : Int) : mem (s :: ss) x = (cov s x || mem ss x) := rfl
theorem Nf.low {lo x : Int} : ∀ {ss : List Span}, Nf lo ss → x < lo → mem ss x = false
  | [], _, _ => rfl
  | (f, none) :: r, q, h => by
    obtain ⟨q1, rfl⟩ := q
    have : ¬ f ≤ x := by omega
    simp [mem_cons, mem_nil, cov, this]
  | (f, some l) :: r, q, h => by
    obtain ⟨q1, q2, q3⟩ := q
    have : ¬ f ≤ x := by omega
    rw [mem_cons, Nf.low q3 (by omega)]
    simp [cov, this]
theorem Nf.uniq : ∀ {xs ys : List Span} {a b : Int}, Nf a xs → Nf b ys → (∀ x, mem xs x = mem ys x) → xs = ys
  | [], [], _, _, _, _, _ => rfl
  | [], (f, l) :: r, _, _, _, q, h => by
    have z := h f
    have : cov (f, l) f = true := by
      cases l with
      | none => simp [cov, below]
      | some i => simp [cov, below, q.2.1]
    rw [mem_nil, mem_cons, this] at z
    cases z
  | (f, l) :: r, [], _, _, q, _, h => by
    have z := h f
    have : cov (f, l) f = true := by
      cases l with
      | none => simp [cov, below]
      | some i => simp [cov, below, q.2.1]
    rw [mem_nil, mem_cons, this] at z
    cases z
  | (f, l) :: r, (g, k) :: t, a, b, q, p, h => by
    have cf : cov (f, l) f = true := by
      cases l with
      | none => simp [cov, below]
      | some i => simp [cov, below, q.2.1]
    have cg : cov (g, k) g = true := by
      cases k with
      | none => simp [cov, below]
      | some i => simp [cov, below, p.2.1]
    have lowr : ∀ x, x ≤ f → mem r x = false := fun x hx => by
      cases l with
      | none => rw [q.2]; rfl
      | some i => exact q.2.2.low (by have := q.2.1; omega)
    have lowt : ∀ x, x ≤ g → mem t x = false := fun x hx => by
      cases k with
      | none => rw [p.2]; rfl
      | some i => exact p.2.2.low (by have := p.2.1; omega)
    have fg : f = g := by
      rcases Int.lt_trichotomy f g with c | c | c
      · have z := h f
        rw [mem_cons, mem_cons, cf, lowt f (by omega)] at z
        have : cov (g, k) f = false := by simp [cov]; intro; omega
        rw [this] at z
        cases z
      · exact c
      · have z := h g
        rw [mem_cons, mem_cons, cg, lowr g (by omega)] at z
        have : cov (f, l) g = false := by simp [cov]; intro; omega
        rw [this] at z
        cases z
    subst fg
    cases l with
    | none =>
      cases k with
      | none => rw [q.2, p.2]
      | some j =>
        have z := h (j + 1)
        have e1 : cov (f, none) (j + 1) = true := by
          have := p.2.1
          simp [cov, below]; omega
        have e2 : cov (f, some j) (j + 1) = false := by simp [cov, below]; intro; omega
        rw [mem_cons, mem_cons, e1, e2, p.2.2.low (by omega)] at z
        cases z
    | some i =>
      cases k with
      | none =>
        have z := h (i + 1)
        have e1 : cov (f, none) (i + 1) = true := by
          have := q.2.1
          simp [cov, below]; omega
        have e2 : cov (f, some i) (i + 1) = false := by simp [cov, below]; intro; omega
        rw [mem_cons, mem_cons, e1, e2, q.2.2.low (by omega)] at z
        cases z
      | some j =>
        have ij : i = j := by
          rcases Int.lt_trichotomy i j with c | c | c
          · have z := h (i + 1)
            have e1 : cov (f, some j) (i + 1) = true := by
              have := q.2.1
              simp [cov, below]; omega
            have e2 : cov (f, some i) (i + 1) = false := by simp [cov, below]; intro; omega
            rw [mem_cons, mem_cons, e1, e2, q.2.2.low (by omega)] at z
            cases z
          · exact c
          · have z := h (j + 1)
            have e1 : cov (f, some i) (j + 1) = true := by
              have := p.2.1
              simp [cov, below]; omega
            have e2 : cov (f, some j) (j + 1) = false := by simp [cov, below]; intro; omega
            rw [mem_cons, mem_cons, e1, e2, p.2.2.low (by omega)] at z
            cases z
        subst ij
        have rest : r = t := Nf.uniq q.2.2 p.2.2 fun x => by
          by_cases hx : x ≤ i
          · rw [q.2.2.low (by omega), p.2.2.low (by omega)]
          · have z := h x
            have e2 : cov (f, some i) x = false := by simp [cov, below]; intro; omega
            rw [mem_cons, mem_cons, e2] at z
            exact z
        rw [rest]
theorem Nf.ok {lo : Int} (h0 : 0 ≤ lo) : ∀ {ss : List Span}, Nf lo ss → ∀ s ∈ ss, Ok s
  | [], _, s, hs => by cases hs
  | (f, none) :: r, q, s, hs => by
    rw [q.2] at hs
    rcases List.mem_cons.mp hs with rfl | hs
    · exact ⟨by have := q.1; show 0 ≤ f; omega, fun l e => by cases e⟩
    · cases hs
  | (f, some l) :: r, q, s, hs => by
    rcases List.mem_cons.mp hs with rfl | hs
    · exact ⟨by have := q.1; show 0 ≤ f; omega, fun i e => by cases e; exact q.2.1⟩
    · exact Nf.ok (by have := q.1; have := q.2.1; omega) q.2.2 s hs

theorem below_mono {x y : Int} (h : y ≤ x) {l : Option Int} (b : below x l = true) : below y l = true := by
  cases l with
  | none => rfl
  | some i => simp only [below, decide_eq_true_eq] at *; omega
end MA

namespace MB

abbrev St := Int × MA.Span
def lev : List St → Int → Int
  | [], _ => 0
  | (l, s) :: r, x => if MA.cov s x = true then l else lev r x
def Wf : Int → List St → Prop
  | _, [] => True
  | p, (l, f, none) :: r => 1 ≤ l ∧ l ≤ 2 ∧ p ≤ f ∧ r = []
  | p, (l, f, some i) :: r => 1 ≤ l ∧ l ≤ 2 ∧ p ≤ f ∧ f ≤ i ∧ Wf (i + 1) r
def Nf : Int → Int → List St → Prop
  | _, _, [] => True
  | p, q, (l, f, none) :: r => 1 ≤ l ∧ l ≤ 2 ∧ p ≤ f ∧ (f = p → l ≠ q) ∧ r = []
  | p, q, (l, f, some i) :: r => 1 ≤ l ∧ l ≤ 2 ∧ p ≤ f ∧ (f = p → l ≠ q) ∧ f ≤ i ∧ Nf (i + 1) l r
theorem Nf.wf : ∀ {ss : List St} {p q : Int}, Nf p q ss → Wf p ss
  | [], _, _, _ => True.intro
  | (l, f, none) :: r, _, _, h => ⟨h.1, h.2.1, h.2.2.1, h.2.2.2.2⟩
  | (l, f, some i) :: r, _, _, h => ⟨h.1, h.2.1, h.2.2.1, h.2.2.2.2.1, h.2.2.2.2.2.wf⟩
theorem Wf.mono {a b : Int} (h : b ≤ a) : ∀ {ss : List St}, Wf a ss → Wf b ss
  | [], _ => True.intro
  | (l, f, none) :: r, q => ⟨q.1, q.2.1, Int.le_trans h q.2.2.1, q.2.2.2⟩
  | (l, f, some i) :: r, q => ⟨q.1, q.2.1, Int.le_trans h q.2.2.1, q.2.2.2⟩
theorem lev_cons (l : Int) (s : MA.Span) (r : List St) (x : Int) : lev ((l, s) :: r) x = if MA.cov s x = true then l else lev r x := rfl
theorem cov_n {f x : Int} : (MA.cov (f, none) x = true) ↔ f ≤ x := by simp [MA.cov, MA.below]
theorem cov_s {f i x : Int} : (MA.cov (f, some i) x = true) ↔ (f ≤ x ∧ x ≤ i) := by simp [MA.cov, MA.below]
theorem Wf.low {p x : Int} : ∀ {ss : List St}, Wf p ss → x < p → lev ss x = 0
  | [], _, _ => rfl
  | (l, f, none) :: r, q, h => by
    obtain ⟨_, _, q3, rfl⟩ := q
    rw [lev_cons, if_neg (by rw [cov_n]; omega)]
    rfl
  | (l, f, some i) :: r, q, h => by
    obtain ⟨_, _, q3, q4, q5⟩ := q
    rw [lev_cons, if_neg (by rw [cov_s]; omega)]
    exact q5.low (by omega)
theorem Nf.at_ {p q : Int} (hq : 1 ≤ q) : ∀ {ss : List St}, Nf p q ss → lev ss p ≠ q
  | [], _ => by show (0 : Int) ≠ q; omega
  | (l, f, none) :: r, h => by
    obtain ⟨h1, h2, h3, h4, rfl⟩ := h
    rw [lev_cons]
    split
    · rename_i c
      rw [cov_n] at c
      exact h4 (by omega)
    · show (0 : Int) ≠ q
      omega
  | (l, f, some i) :: r, h => by
    obtain ⟨h1, h2, h3, h4, h5, h6⟩ := h
    rw [lev_cons]
    split
    · rename_i c
      rw [cov_s] at c
      exact h4 (by omega)
    · rename_i c
      rw [cov_s] at c
      rw [h6.wf.low (by omega)]
      omega
theorem Nf.uniq : ∀ {xs ys : List St} {p q : Int}, Nf p q xs → Nf p q ys → (∀ x, p ≤ x → lev xs x = lev ys x) → xs = ys
  | [], [], _, _, _, _, _ => rfl
  | [], (l, f, e) :: r, p, q, _, k, h => by
    have hf : p ≤ f ∧ 1 ≤ l ∧ MA.cov (f, e) f = true := by
      cases e with
      | none => exact ⟨k.2.2.1, k.1, cov_n.mpr (Int.le_refl _)⟩
      | some i => exact ⟨k.2.2.1, k.1, cov_s.mpr ⟨Int.le_refl _, k.2.2.2.2.1⟩⟩
    have z := h f hf.1
    rw [lev_cons, if_pos hf.2.2] at z
    have : (0 : Int) = l := z
    omega
  | (l, f, e) :: r, [], p, q, k, _, h => by
    have hf : p ≤ f ∧ 1 ≤ l ∧ MA.cov (f, e) f = true := by
      cases e with
      | none => exact ⟨k.2.2.1, k.1, cov_n.mpr (Int.le_refl _)⟩
      | some i => exact ⟨k.2.2.1, k.1, cov_s.mpr ⟨Int.le_refl _, k.2.2.2.2.1⟩⟩
    have z := h f hf.1
    rw [lev_cons, if_pos hf.2.2] at z
    have : l = (0 : Int) := z
    omega
  | (l, f, e) :: r, (m, g, d) :: t, p, q, k, j, h => by
    have hf : p ≤ f ∧ 1 ≤ l ∧ MA.cov (f, e) f = true ∧ (∀ x, x < f → lev ((l, f, e) :: r) x = 0) := by
      cases e with
      | none => exact ⟨k.2.2.1, k.1, cov_n.mpr (Int.le_refl _), fun x hx => Wf.low (p := f) (ss := (l, f, none) :: r) ⟨k.1, k.2.1, Int.le_refl _, k.2.2.2.2⟩ hx⟩
      | some i => exact ⟨k.2.2.1, k.1, cov_s.mpr ⟨Int.le_refl _, k.2.2.2.2.1⟩, fun x hx => Wf.low (p := f) (ss := (l, f, some i) :: r) ⟨k.1, k.2.1, Int.le_refl _, k.2.2.2.2.1, k.2.2.2.2.2.wf⟩ hx⟩
    have hg : p ≤ g ∧ 1 ≤ m ∧ MA.cov (g, d) g = true ∧ (∀ x, x < g → lev ((m, g, d) :: t) x = 0) := by
      cases d with
      | none => exact ⟨j.2.2.1, j.1, cov_n.mpr (Int.le_refl _), fun x hx => Wf.low (p := g) (ss := (m, g, none) :: t) ⟨j.1, j.2.1, Int.le_refl _, j.2.2.2.2⟩ hx⟩
      | some i => exact ⟨j.2.2.1, j.1, cov_s.mpr ⟨Int.le_refl _, j.2.2.2.2.1⟩, fun x hx => Wf.low (p := g) (ss := (m, g, some i) :: t) ⟨j.1, j.2.1, Int.le_refl _, j.2.2.2.2.1, j.2.2.2.2.2.wf⟩ hx⟩
    have vf : lev ((l, f, e) :: r) f = l := by rw [lev_cons, if_pos hf.2.2.1]
    have vg : lev ((m, g, d) :: t) g = m := by rw [lev_cons, if_pos hg.2.2.1]
    have fg : f = g := by
      rcases Int.lt_trichotomy f g with c | c | c
      · have z := h f hf.1
        rw [vf, hg.2.2.2 f c] at z
        omega
      · exact c
      · have z := h g hg.1
        rw [vg, hf.2.2.2 g c] at z
        omega
    subst fg
    have lm : l = m := by
      have z := h f hf.1
      rw [vf, vg] at z
      exact z
    subst lm
    cases e with
    | none =>
      cases d with
      | none => rw [k.2.2.2.2, j.2.2.2.2]
      | some i =>
        have z := h (i + 1) (by have := j.2.2.2.2.1; omega)
        rw [lev_cons, if_pos (cov_n.mpr (by have := j.2.2.2.2.1; omega)), lev_cons, if_neg (by rw [cov_s]; omega)] at z
        exact absurd z.symm (Nf.at_ j.1 j.2.2.2.2.2)
    | some i =>
      cases d with
      | none =>
        have z := h (i + 1) (by have := k.2.2.2.2.1; omega)
        rw [lev_cons, if_neg (by rw [cov_s]; omega), lev_cons, if_pos (cov_n.mpr (by have := k.2.2.2.2.1; omega))] at z
        exact absurd z (Nf.at_ k.1 k.2.2.2.2.2)
      | some i' =>
        have ii : i = i' := by
          rcases Int.lt_trichotomy i i' with c | c | c
          · have z := h (i + 1) (by have := k.2.2.2.2.1; omega)
            rw [lev_cons, if_neg (by rw [cov_s]; omega), lev_cons, if_pos (cov_s.mpr (by have := k.2.2.2.2.1; omega))] at z
            exact absurd z (Nf.at_ k.1 k.2.2.2.2.2)
          · exact c
          · have z := h (i' + 1) (by have := j.2.2.2.2.1; omega)
            rw [lev_cons, if_pos (cov_s.mpr (by have := j.2.2.2.2.1; omega)), lev_cons, if_neg (by rw [cov_s]; omega)] at z
            exact absurd z.symm (Nf.at_ j.1 j.2.2.2.2.2)
        subst ii
        have rt : r = t := Nf.uniq k.2.2.2.2.2 j.2.2.2.2.2 fun x hx => by
          have z := h x (by have := k.2.2.2.2.1; omega)
          rw [lev_cons, if_neg (by rw [cov_s]; omega), lev_cons, if_neg (by rw [cov_s]; omega)] at z
          exact z
        rw [rt]

def ends : List St → List Int
  | [] => []
  | (_, f, none) :: r => f :: ends r
  | (_, f, some i) :: r => f :: (i + 1) :: ends r
def Cst (F : List Int) (g : Int → Int) : Prop := ∀ x y, x ≤ y → (∀ b ∈ F, ¬ (x < b ∧ b ≤ y)) → g x = g y
theorem Cst.mono {F G : List Int} {g : Int → Int} (h : Cst F g) (k : ∀ b ∈ F, b ∈ G) : Cst G g := fun x y q n => h x y q fun b hb => n b (k b hb)
theorem Nf.change : ∀ {ss : List St} {p q : Int}, Nf p q ss → ∀ b ∈ ends ss, (b = p ∧ lev ss p ≠ q) ∨ (p < b ∧ lev ss b ≠ lev ss (b - 1))
  | [], _, _, _, b, hb => by cases hb
  | (l, f, none) :: r, p, q, h, b, hb => by
    obtain ⟨h1, h2, h3, h4, rfl⟩ := h
    simp only [ends, List.mem_cons, List.not_mem_nil, or_false] at hb
    subst hb
    by_cases c : b = p
    · left
      refine ⟨c, ?_⟩
      rw [lev_cons, if_pos (cov_n.mpr (by omega))]
      exact h4 c
    · right
      refine ⟨by omega, ?_⟩
      rw [lev_cons, if_pos (cov_n.mpr (by omega)), lev_cons, if_neg (by rw [cov_n]; omega)]
      show l ≠ (0 : Int)
      omega
  | (l, f, some i) :: r, p, q, h, b, hb => by
    obtain ⟨h1, h2, h3, h4, h5, h6⟩ := h
    simp only [ends, List.mem_cons] at hb
    rcases hb with rfl | rfl | hb
    · by_cases c : b = p
      · left
        refine ⟨c, ?_⟩
        rw [lev_cons, if_pos (cov_s.mpr (by omega))]
        exact h4 c
      · right
        refine ⟨by omega, ?_⟩
        rw [lev_cons, if_pos (cov_s.mpr (by omega)), lev_cons, if_neg (by rw [cov_s]; omega), h6.wf.low (by omega)]
        omega
    · right
      refine ⟨by omega, ?_⟩
      rw [lev_cons, if_neg (by rw [cov_s]; omega), lev_cons, if_pos (cov_s.mpr (by omega))]
      exact Nf.at_ h1 h6
    · right
      rcases Nf.change h6 b hb with ⟨rfl, c⟩ | ⟨c1, c2⟩
      · refine ⟨by omega, ?_⟩
        rw [lev_cons, if_neg (by rw [cov_s]; omega), lev_cons, if_pos (cov_s.mpr (by omega))]
        exact c
      · refine ⟨by omega, ?_⟩
        rw [lev_cons, if_neg (by rw [cov_s]; omega), lev_cons, if_neg (by rw [cov_s]; omega)]
        exact c2
theorem Cst.mem {F : List Int} {g : Int → Int} (h : Cst F g) {b : Int} (n : g b ≠ g (b - 1)) : b ∈ F := by
  refine Decidable.byContradiction fun c => n (h (b - 1) b (by omega) fun d hd k => ?_).symm
  have : d = b := by omega
  exact c (this ▸ hd)
theorem Nf.ends_in {ss : List St} {F : List Int} (h : Nf 0 0 ss) (h0 : (0 : Int) ∈ F) {g : Int → Int} (hg : ∀ x, 0 ≤ x → lev ss x = g x) (k : Cst F g) : ∀ b ∈ ends ss, b ∈ F := fun b hb => by
  rcases h.change b hb with ⟨rfl, _⟩ | ⟨c1, c2⟩
  · exact h0
  · rw [hg b (by omega), hg (b - 1) (by omega)] at c2
    exact k.mem c2
theorem Wf.firsts : ∀ {ss : List St} {p : Int}, Wf p ss → (ss.map fun s => s.2.1).Pairwise (· < ·) ∧ ∀ b ∈ ss.map (fun s => s.2.1), p ≤ b
  | [], _, _ => ⟨List.Pairwise.nil, fun b hb => by cases hb⟩
  | (l, f, none) :: r, p, h => by
    obtain ⟨h1, h2, h3, rfl⟩ := h
    exact ⟨by simp, fun b hb => by simp only [List.map_cons, List.map_nil, List.mem_singleton] at hb; omega⟩
  | (l, f, some i) :: r, p, h => by
    obtain ⟨h1, h2, h3, h4, h5⟩ := h
    obtain ⟨q1, q2⟩ := h5.firsts
    refine ⟨List.pairwise_cons.mpr ⟨fun b hb => by have := q2 b hb; dsimp only; omega, q1⟩, fun b hb => ?_⟩
    simp only [List.map_cons, List.mem_cons] at hb
    rcases hb with rfl | hb
    · exact h3
    · have := q2 b hb; omega
theorem first_end : ∀ (ss : List St), ∀ b ∈ ss.map (fun s => s.2.1), b ∈ ends ss
  | [], b, hb => by cases hb
  | (l, f, none) :: r, b, hb => by
    simp only [List.map_cons, List.mem_cons, ends] at hb ⊢
    exact hb.imp id (first_end r b)
  | (l, f, some i) :: r, b, hb => by
    simp only [List.map_cons, List.mem_cons, ends] at hb ⊢
    exact hb.imp id fun h => .inr (first_end r b h)
theorem Wf.len_le {ss : List St} {F : List Int} {p : Int} (h : Wf p ss) (k : ∀ b ∈ ends ss, b ∈ F) : ss.length ≤ F.length := by
  have := DL.nodup_le (h.firsts.1.imp fun h => Int.ne_of_lt h) fun x hx => k x (first_end ss x hx)
  rwa [List.length_map] at this

def stp (d : Int) : List (Int × Int) → Int → Int
  | [], _ => d
  | (b, k) :: r, x => if b ≤ x then stp k r x else d
def Asc (ps : List (Int × Int)) : Prop := (ps.map Prod.fst).Pairwise (· < ·)
theorem Asc.tail {c : Int × Int} {r : List (Int × Int)} (h : Asc (c :: r)) : Asc r ∧ ∀ e ∈ r, c.1 < e.1 := by
  obtain ⟨h1, h2⟩ := List.pairwise_cons.mp (show ((c :: r).map Prod.fst).Pairwise (· < ·) from h)
  exact ⟨h2, fun e he => h1 e.1 (List.mem_map_of_mem he)⟩
theorem stp_low {d x : Int} : ∀ {r : List (Int × Int)}, (∀ e ∈ r, x < e.1) → stp d r x = d
  | [], _ => rfl
  | (b, k) :: r, h => by
    have := h (b, k) List.mem_cons_self
    dsimp only at this
    unfold stp
    rw [if_neg (by omega)]
theorem stp_cst : ∀ (r : List (Int × Int)) (d : Int), Cst (r.map Prod.fst) (stp d r)
  | [], d, x, y, _, _ => rfl
  | (b, k) :: r, d, x, y, q, n => by
    have h1 := n b List.mem_cons_self
    have h2 := stp_cst r k x y q fun c hc => n c (List.mem_cons_of_mem _ hc)
    unfold stp
    rw [h2]
    by_cases c : b ≤ x
    · rw [if_pos c, if_pos (by omega)]
    · rw [if_neg c, if_neg (by omega)]
structure Fs (F : List Int) : Prop where
  ex : ∃ r, F = 0 :: r
  asc : F.Pairwise (· < ·)
theorem Fs.zero {F : List Int} (h : Fs F) : (0 : Int) ∈ F := by
  obtain ⟨r, rfl⟩ := h.ex
  exact List.mem_cons_self
theorem Fs.pos {F : List Int} (h : Fs F) : ∀ b ∈ F, 0 ≤ b := by
  obtain ⟨⟨r, rfl⟩, h2⟩ := h
  intro b hb
  rcases List.mem_cons.mp hb with rfl | hb
  · exact Int.le_refl _
  · exact Int.le_of_lt ((List.pairwise_cons.mp h2).1 b hb)
def stGo : Option (Int × Int) → List (Int × Int) → List St
  | none, [] => []
  | some (l, f), [] => [(l, f, none)]
  | none, (b, k) :: r => if k = 0 then stGo none r else stGo (some (k, b)) r
  | some (l, f), (b, k) :: r => if k = l then stGo (some (l, f)) r else (l, f, some (b - 1)) :: (if k = 0 then stGo none r else stGo (some (k, b)) r)
def Lok (ps : List (Int × Int)) : Prop := ∀ e ∈ ps, 0 ≤ e.2 ∧ e.2 ≤ 2
theorem stGo_ok : ∀ (r : List (Int × Int)), Asc r → Lok r →
    (∀ p q : Int, (∀ e ∈ r, p < e.1) → Nf p q (stGo none r) ∧ ∀ x, lev (stGo none r) x = stp 0 r x) ∧
    (∀ l f p q : Int, p ≤ f → (f = p → l ≠ q) → 1 ≤ l → l ≤ 2 → (∀ e ∈ r, f < e.1) → Nf p q (stGo (some (l, f)) r) ∧ ∀ x, lev (stGo (some (l, f)) r) x = if f ≤ x then stp l r x else 0)
  | [], _, _ => by
    refine ⟨fun p q _ => ⟨True.intro, fun x => rfl⟩, fun l f p q h1 h2 h3 h4 _ => ⟨⟨h3, h4, h1, h2, rfl⟩, fun x => ?_⟩⟩
    show lev [(l, f, none)] x = if f ≤ x then l else 0
    rw [lev_cons]
    simp only [cov_n]
    rfl
  | (b, k) :: r, ha, hl => by
    obtain ⟨a1, a2⟩ := ha.tail
    obtain ⟨i1, i2⟩ := stGo_ok r a1 fun e he => hl e (List.mem_cons_of_mem _ he)
    obtain ⟨k0, k2⟩ := hl (b, k) List.mem_cons_self
    dsimp only at a2 k0 k2
    refine ⟨fun p q hp => ?_, fun l f p q h1 h2 h3 h4 hp => ?_⟩
    · have pb := hp (b, k) List.mem_cons_self
      dsimp only at pb
      unfold stGo
      by_cases c : k = 0
      · rw [if_pos c]
        obtain ⟨j1, j2⟩ := i1 p q fun e he => by have := a2 e he; omega
        refine ⟨j1, fun x => ?_⟩
        rw [j2 x]
        show stp 0 r x = if b ≤ x then stp k r x else 0
        rw [c]
        by_cases d : b ≤ x
        · rw [if_pos d]
        · rw [if_neg d]
          exact stp_low fun e he => by have := a2 e he; omega
      · rw [if_neg c]
        obtain ⟨j1, j2⟩ := i2 k b p q (by omega) (by omega) (by omega) k2 a2
        exact ⟨j1, j2⟩
    · have pb := hp (b, k) List.mem_cons_self
      dsimp only at pb
      unfold stGo
      by_cases c : k = l
      · rw [if_pos c]
        obtain ⟨j1, j2⟩ := i2 l f p q h1 h2 h3 h4 fun e he => by have := a2 e he; omega
        refine ⟨j1, fun x => ?_⟩
        rw [j2 x]
        by_cases d : f ≤ x
        · rw [if_pos d, if_pos d]
          show stp l r x = if b ≤ x then stp k r x else l
          by_cases d2 : b ≤ x
          · rw [if_pos d2, c]
          · rw [if_neg d2]
            exact stp_low fun e he => by have := a2 e he; omega
        · rw [if_neg d, if_neg d]
      · rw [if_neg c]
        have tl : ∃ T, T = (if k = 0 then stGo none r else stGo (some (k, b)) r) ∧ Nf (b - 1 + 1) l T ∧ ∀ x, lev T x = if b ≤ x then stp k r x else 0 := by
          refine ⟨_, rfl, ?_⟩
          by_cases c0 : k = 0
          · rw [if_pos c0]
            obtain ⟨j1, j2⟩ := i1 (b - 1 + 1) l fun e he => by have := a2 e he; omega
            refine ⟨j1, fun x => ?_⟩
            rw [j2 x, c0]
            by_cases d : b ≤ x
            · rw [if_pos d]
            · rw [if_neg d]
              exact stp_low fun e he => by have := a2 e he; omega
          · rw [if_neg c0]
            exact i2 k b (b - 1 + 1) l (by omega) (fun _ => c) (by omega) k2 a2
        obtain ⟨T, eT, t1, t2⟩ := tl
        rw [← eT]
        refine ⟨⟨h3, h4, h1, h2, by omega, t1⟩, fun x => ?_⟩
        rw [lev_cons, t2 x]
        simp only [cov_s]
        show (if f ≤ x ∧ x ≤ b - 1 then l else if b ≤ x then stp k r x else 0) = if f ≤ x then (if b ≤ x then stp k r x else l) else 0
        by_cases d : f ≤ x
        · by_cases d2 : b ≤ x
          · rw [if_neg (by omega), if_pos d2, if_pos d, if_pos d2]
          · rw [if_pos (by omega), if_pos d, if_neg d2]
        · rw [if_neg (by omega), if_neg (by omega), if_neg d]
theorem st0_ok {ps : List (Int × Int)} (h : Asc ps) (hl : Lok ps) (h0 : ∀ e ∈ ps, 0 ≤ e.1) : Nf 0 0 (stGo none ps) ∧ ∀ x, lev (stGo none ps) x = stp 0 ps x := by
  cases ps with
  | nil => exact ⟨True.intro, fun _ => rfl⟩
  | cons c r =>
    obtain ⟨b, k⟩ := c
    obtain ⟨a1, a2⟩ := h.tail
    obtain ⟨k0, k2⟩ := hl (b, k) List.mem_cons_self
    have b0 := h0 (b, k) List.mem_cons_self
    dsimp only at a2 k0 k2 b0
    obtain ⟨i1, i2⟩ := stGo_ok r a1 fun e he => hl e (List.mem_cons_of_mem _ he)
    by_cases c0 : k = 0
    · obtain ⟨j1, j2⟩ := i1 0 0 fun e he => by have := a2 e he; omega
      have e : stGo none ((b, k) :: r) = stGo none r := by
        conv => lhs; unfold stGo
        rw [if_pos c0]
      rw [e]
      refine ⟨j1, fun x => ?_⟩
      rw [j2 x]
      show stp 0 r x = if b ≤ x then stp k r x else 0
      rw [c0]
      by_cases d : b ≤ x
      · rw [if_pos d]
      · rw [if_neg d]
        exact stp_low fun e he => by have := a2 e he; omega
    · obtain ⟨j1, j2⟩ := i2 k b 0 0 b0 (by omega) (by omega) k2 a2
      have e : stGo none ((b, k) :: r) = stGo (some (k, b)) r := by
        conv => lhs; unfold stGo
        rw [if_neg c0]
      rw [e]
      exact ⟨j1, j2⟩

def mk (F : List Int) (g : Int → Int) : List St := stGo none (F.map fun b => (b, g b))
structure Hd (F : List Int) (ss : List St) : Prop where
  nf : Nf 0 0 ss
  inn : ∀ b ∈ ends ss, b ∈ F
theorem Hd.wf {F : List Int} {ss : List St} (h : Hd F ss) : Wf 0 ss := h.nf.wf
theorem Hd.len {F : List Int} {ss : List St} (h : Hd F ss) : ss.length ≤ F.length := h.wf.len_le h.inn
theorem Hd.ext {F G : List Int} {xs ys : List St} (h : Hd F xs) (k : Hd G ys) (e : ∀ x, 0 ≤ x → lev xs x = lev ys x) : xs = ys := Nf.uniq h.nf k.nf e
end MB

namespace K91
open PySem PySem.Spec PyProof.Rows L2 DL
structure Txt (K : PySem.W.Frag) (w : World) (mg : Str → Option Value) : Prop where
  n_abs : mg "abs" = none
  n_all : mg "all" = none
  n_bool : mg "bool" = none
  n_int : mg "int" = none
  n_isinstance : mg "isinstance" = none
  n_len : mg "len" = none
  n_range : mg "range" = none
  n_repr : mg "repr" = none
  n_str : mg "str" = none
  n_tuple : mg "tuple" = none
  n_zip : mg "zip" = none
  g_LEVELS : mg "LEVELS" = some (.ref (He.ga K "LEVELS"))
  g_LockError : mg "LockError" = some (.ref (He.ga K "LockError"))
  g_NoText : mg "NoText" = some (.ref (He.ga K "NoText"))
  g_OWNER_WORDS : mg "OWNER_WORDS" = some (.ref (He.ga K "OWNER_WORDS"))
  g_PARTS : mg "PARTS" = some (.ref (He.ga K "PARTS"))
  t_LEVELS : ∀ H, SqT K H (He.ga K "LEVELS") (([.inr "none", .inr "read", .inr "write"] : List Key).map kV)
  t_OWNER_WORDS : ∀ H, SqT K H (He.ga K "OWNER_WORDS") (([.inr "process", .inr "open"] : List Key).map kV)
  td_LEVELS : ∃ o, K.lookup (He.ga K "LEVELS") = some o ∧ o.cls = .type "tuple" ∧ o.dict = none
  d_PARTS : DctOk K w "PARTS" [("start", ""), ("fork", "p"), ("open", "pf"), ("dup", "pdt"), ("close", "pd"), ("end", "p"), ("lock", "pdlseow"), ("whole", "pdlw"), ("give up", "p")]
  k_DIGITS : ∃ t, mg "DIGITS" = some (.str "0123456789" t)
  k_END : ∃ t, mg "END" = some (.str "end" t)
  k_GIVE_UP : ∃ t, mg "GIVE_UP" = some (.str "give up" t)
  k_LETTERS : ∃ t, mg "LETTERS" = some (.str "abcdefghijklmnopqrstuvwxyz" t)
  k_MOST_DESCRIPTOR : ∃ t, mg "MOST_DESCRIPTOR" = some (.int (15) t)
  k_MOST_DIGITS : ∃ t, mg "MOST_DIGITS" = some (.int (40) t)
  k_MOST_LETTERS : ∃ t, mg "MOST_LETTERS" = some (.int (8) t)
  k_MOST_LEVEL : ∃ t, mg "MOST_LEVEL" = some (.int (2) t)
  k_OPEN : ∃ t, mg "OPEN" = some (.str "open" t)
  k_TO : ∃ t, mg "TO" = some (.str "to" t)
  k_WAIT : ∃ t, mg "WAIT" = some (.str "wait" t)
  bas_LockError : BasI K (He.ga K "LockError")
  exm_NoText : ExmOk K "NoText" [("NoText", true)]
section
variable {P : Program} {w : World} {K : PySem.W.Frag} {mg : Str → Option Value} {base : Heap}
theorem sc_NoText___init__ : FnScope ["self"] ["self"] (defScope s_NoText___init__) :=
  ⟨rfl, rfl, rfl, by decide +kernel, rfl, by decide +kernel, by decide +kernel⟩
theorem ok_NoText___init__ (T : Txt K w mg) {f : Addr} {fd : FuncData} (F : Fun K "__init__" "NoText.__init__" s_NoText___init__ f fd) : FnOk P w K mg base CX0 1 f fd ["self"] (sp0 K) :=
  F.ok sc_NoText___init__ sp0_len fun cdv A outer s H vs Q E hr hsp => ⟨_, L2.pss_cons (L2.ps_expr (pe_oinit rfl T.g_LockError T.bas_LockError (pa_cons (pv 0) (pa_cons pe_str pa_nil)))) L2.pss_nil, xread0 hsp⟩
theorem sc_is_integer : FnScope ["thing"] ["thing"] (defScope s_is_integer) :=
  ⟨rfl, rfl, rfl, by decide +kernel, rfl, by decide +kernel, by decide +kernel⟩
noncomputable def b_is_integer : SM :=
    (sRet (eAnd (eA isiG (aC (eV 0) (aC (eC (.ty "int")) aN))) (eNot (eA isiG (aC (eV 0) (aC (eC (.ty "bool")) aN))))))
noncomputable def m_is_integer : FnM := fnM 1 1 b_is_integer
theorem ok_is_integer (T : Txt K w mg) {f : Addr} {fd : FuncData} (F : Fun K "is_integer" "is_integer" s_is_integer f fd) (hm : mg "is_integer" = some (.ref f)) (hb : Binds K fd ["thing"] [])  :
    CalD P w K mg base 1 "is_integer" m_is_integer :=
  calD_of (k := 0) F hm hb sc_is_integer fun cdv A outer s H E hgd hr =>
    (pss_1 (psd_ret (pd_and (pd_callB call_isi isi_ok T.n_isinstance PyProof.Rows.boot_isinstance (pda_cons (pd_v 0) (pda_cons (pd_ty T.n_int PyProof.Rows.boot_int) pda_nil))) (pd_one (pd_not (pd_callB call_isi isi_ok T.n_isinstance PyProof.Rows.boot_isinstance (pda_cons (pd_v 0) (pda_cons (pd_ty T.n_bool PyProof.Rows.boot_bool) pda_nil))))))))
theorem sc_is_name : FnScope ["thing", ".0", "letter"] ["thing"] (defScope s_is_name) :=
  ⟨rfl, rfl, rfl, by decide +kernel, rfl, by decide +kernel, by decide +kernel⟩
noncomputable def b_is_name : SM :=
    (sSeq (sIf (tOo (tNt (tV (eA isiG (aC (eV 0) (aC (eC (.ty "str")) aN))))) (tNt (tB (eCh (leG) (leG) (eC (.int 1)) (eA lenG (aC (eV 0) aN)) (eC (.int 8)))))) (sRet (eC (.bl false))) sNx)
    (sRet (eA allG (aC (eLC false (iStS (eV 0)) (gNm 2) tTr (e2 (inSgG false) (eV 2) (eC (.str "abcdefghijklmnopqrstuvwxyz"))) [1, 2]) aN))))
noncomputable def m_is_name : FnM := fnM 1 3 b_is_name
theorem ok_is_name (T : Txt K w mg) {f : Addr} {fd : FuncData} (F : Fun K "is_name" "is_name" s_is_name f fd) (hm : mg "is_name" = some (.ref f)) (hb : Binds K fd ["thing"] [])  :
    CalD P w K mg base 1 "is_name" m_is_name :=
  calD_of (k := 0) F hm hb sc_is_name fun cdv A outer s H E hgd hr =>
    (pss_c (psd_if (pt_w (pw_o (pt_nt (pt_v (pd_callB call_isi isi_ok T.n_isinstance PyProof.Rows.boot_isinstance (pda_cons (pd_v 0) (pda_cons (pd_ty T.n_str PyProof.Rows.boot_str) pda_nil))))) (pw_o1 (pt_nt (pt_ch op_le op_le cmp_ok cmp_ok pd_int (pd_callB call_len len_ok T.n_len PySem.boot_len (pda_cons (pd_v 0) pda_nil)) (pd_cint T.k_MOST_LETTERS)))))) (pss_1 (psd_ret pd_bl)) pss_n)
    (pss_1 (psd_ret (pd_callB (cr_all rfl) all_ok T.n_all PyProof.Rows.boot_all (pda_cons (pd_lc false rfl sc_is_name.nd (pid_sgn (pd_v 0)) (blkOk_by (own := [(".0", 1), ("letter", 2)]) (by kernel_rfl)) (fun _ _ _ _ _ => (pgd_name (i := 2) sc_is_name.nd)) (fun _ _ _ _ _ => pts_n) (fun _ _ _ _ _ => (pd_inSg (pd_v 2) (pd_cstr T.k_LETTERS)))) pda_nil)))))
theorem sc_shown_span : FnScope ["level", "first", "last"] ["level", "first", "last"] (defScope s_shown_span) :=
  ⟨rfl, rfl, rfl, by decide +kernel, rfl, by decide +kernel, by decide +kernel⟩
noncomputable def b_shown_span : SM :=
    (sRet (eJs (jC (eFmt (e2 (ixKG "LEVELS" [.inr "none", .inr "read", .inr "write"]) (eC (.cls "LEVELS")) (eV 0))) (jC (eC (.str " ")) (jC (eFmt (eV 1)) (jC (eC (.str " ")) (jC (eFmt (eIf (tB (e2 (isG false) (eV 2) (eC .non))) (eC (.str "end")) (eV 2))) jN)))))))
noncomputable def m_shown_span : FnM := fnM 3 3 b_shown_span
theorem ok_shown_span (T : Txt K w mg) {f : Addr} {fd : FuncData} (F : Fun K "shown_span" "shown_span" s_shown_span f fd) (hm : mg "shown_span" = some (.ref f)) (hb : Binds K fd ["level", "first", "last"] [])  :
    CalD P w K mg base 1 "shown_span" m_shown_span :=
  calD_of (k := 0) F hm hb sc_shown_span fun cdv A outer s H E hgd hr =>
    (pss_1 (psd_ret (pd_joined (pjd_cons (pd_fmt (pd_ixK T.t_LEVELS (pd_cls T.g_LEVELS) (pd_v 0))) (pjd_cons pd_str (pjd_cons (pd_fmt (pd_v 1)) (pjd_cons pd_str (pjd_cons (pd_fmt (pd_if (pt_is (pd_v 2) pd_non) (pd_cstr T.k_END) (pd_v 2))) pjd_nil))))))))
theorem sc_law_bag : FnScope ["_law_script", ".0", "_law_cell"] ["_law_script"] (defScope s_law_bag) :=
  ⟨rfl, rfl, rfl, by decide +kernel, rfl, by decide +kernel, by decide +kernel⟩
noncomputable def b_law_bag : SM :=
    (sRet (eA (newL true) (aC (eC (.int 0)) (aC (eC (.int 1234567891)) (aC (eC (.int 0)) (aC (eLC false (iSeq (eSl false (eV 0) pN (pS (eC (.int 63))))) (gNm 2) tTr (eA absG (aC (eV 2) aN)) [1, 2]) aN))))))
noncomputable def m_law_bag : FnM := fnM 1 3 b_law_bag
theorem ok_law_bag (T : Txt K w mg) {f : Addr} {fd : FuncData} (F : Fun K "_law_bag" "_law_bag" s_law_bag f fd) (hm : mg "_law_bag" = some (.ref f)) (hb : Binds K fd ["_law_script"] [])  :
    CalD P w K mg base 1 "_law_bag" m_law_bag :=
  calD_of (k := 0) F hm hb sc_law_bag fun cdv A outer s H E hgd hr =>
    (pss_1 (psd_ret (pd_lst true (pda_cons pd_int (pda_cons pd_int (pda_cons pd_int (pda_cons (pd_lc false rfl sc_law_bag.nd (pid_seq (pd_sl false (pd_v 0) po_n (po_s pd_int))) (blkOk_by (own := [(".0", 1), ("_law_cell", 2)]) (by kernel_rfl)) (fun _ _ _ _ _ => (pgd_name (i := 2) sc_law_bag.nd)) (fun _ _ _ _ _ => pts_n) (fun _ _ _ _ _ => (pd_callB call_abs abs_ok T.n_abs PyProof.Rows.boot_abs (pda_cons (pd_v 2) pda_nil)))) pda_nil)))))))
theorem sc_law_take : FnScope ["_law_bag_here", "_law_many", "_law_cell", "_law_mixed", "_law_value", "_law_begin", "_law_second"] ["_law_bag_here", "_law_many"] (defScope s_law_take) :=
  ⟨rfl, rfl, rfl, by decide +kernel, rfl, by decide +kernel, by decide +kernel⟩
noncomputable def b_law_take : SM :=
    (sSeq (sIf (tB (e2 (eqG false) (e2 ixG (eV 0) (eC (.int 0))) (eC (.int 0)))) (sSeq (sSet 2 (eC (.int 0)))
    (sSeq (sIf (tB (e2 (ltG) (e2 ixG (eV 0) (eC (.int 2))) (eA lenG (aC (e2 ixG (eV 0) (eC (.int 3))) aN)))) (sSet 2 (e2 ixG (e2 ixG (eV 0) (eC (.int 3))) (e2 ixG (eV 0) (eC (.int 2))))) sNx)
    (sSeq (sAugS (eV 0) (eC (.int 2)) (eC (.int 1)))
    (sSeq (sIf (tB (e2 (geG) (eV 2) (eC (.int 1000000000000000000)))) (sAs (eV 2) (gSb (eV 0) (eC (.int 0)))) sNx)
    (sSeq (sSet 3 (e2 (addG false) (e2 (addG false) (e2 (mulG false) (e2 ixG (eV 0) (eC (.int 1))) (eC (.int 48271))) (e2 (modG) (eA intG (aC (eV 2) aN)) (eC (.int 2147483647)))) (e2 (mulG false) (eC (.int 7919)) (e2 ixG (eV 0) (eC (.int 2))))))
    (sAs (e2 (modG) (eA intG (aC (eV 3) aN)) (eC (.int 2147483647))) (gSb (eV 0) (eC (.int 1))))))))) sNx)
    (sSeq (sIf (tB (e2 (gtG) (e2 ixG (eV 0) (eC (.int 0))) (eC (.int 0)))) (sSeq (sSet 4 (e2 (modG) (eA intG (aC (e2 ixG (eV 0) (eC (.int 0))) aN)) (eV 1)))
    (sSeq (sAs (e2 (fdivG) (e2 ixG (eV 0) (eC (.int 0))) (eV 1)) (gSb (eV 0) (eC (.int 0))))
    (sRet (eV 4)))) sNx)
    (sSeq (sSet 5 (e2 (modG) (eA intG (aC (e2 (mulG false) (e2 (addG false) (e2 ixG (eV 0) (eC (.int 1))) (eC (.int 1))) (eC (.int 39373))) aN)) (eC (.int 1000000007))))
    (sSeq (sSet 6 (e2 (modG) (eA intG (aC (e2 (mulG false) (e2 (modG) (eA intG (aC (e2 (mulG false) (eV 5) (eV 5)) aN)) (eC (.int 998244353))) (eC (.int 30011))) aN)) (eC (.int 998244353))))
    (sSeq (sIf (tB (e2 (gtG) (eV 1) (eC (.int 1000000)))) (sRet (e2 (modG) (eA intG (aC (e2 (addG false) (e2 (mulG false) (eV 6) (eC (.int 1000000007))) (eV 5)) aN)) (eV 1))) sNx)
    (sRet (e2 (modG) (eA intG (aC (e2 (fdivG) (eV 6) (eC (.int 7))) aN)) (eV 1))))))))
noncomputable def m_law_take : FnM := fnM 2 7 b_law_take
theorem ok_law_take (T : Txt K w mg) {f : Addr} {fd : FuncData} (F : Fun K "_law_take" "_law_take" s_law_take f fd) (hm : mg "_law_take" = some (.ref f)) (hb : Binds K fd ["_law_bag_here", "_law_many"] [])  :
    CalD P w K mg base 1 "_law_take" m_law_take :=
  calD_of (k := 0) F hm hb sc_law_take fun cdv A outer s H E hgd hr =>
    (pss_c (psd_if (pt_eq hr.units (pd_ix (pd_v 0) pd_int) pd_int) (pss_c (psd_set (i := 2) sc_law_take.nd pd_int)
    (pss_c (psd_if (pt_lt (pd_ix (pd_v 0) pd_int) (pd_callB call_len len_ok T.n_len PySem.boot_len (pda_cons (pd_ix (pd_v 0) pd_int) pda_nil))) (pss_1 (psd_set (i := 2) sc_law_take.nd (pd_ix (pd_ix (pd_v 0) pd_int) (pd_ix (pd_v 0) pd_int)))) pss_n)
    (pss_c (psd_augS (pd_v 0) pd_int pd_int)
    (pss_c (psd_if (pt_ge (pd_v 2) pd_int) (pss_1 (psd_asg (pd_v 2) (pgd_sub (pd_v 0) pd_int))) pss_n)
    (pss_c (psd_set (i := 3) sc_law_take.nd (pd_add false (pd_add false (pd_mul false (pd_ix (pd_v 0) pd_int) pd_int) (pd_mod (pd_callTy call_int1 int_ok T.n_int PyProof.Rows.boot_int (pda_cons (pd_v 2) pda_nil)) pd_int)) (pd_mul false pd_int (pd_ix (pd_v 0) pd_int))))
    (pss_1 (psd_asg (pd_mod (pd_callTy call_int1 int_ok T.n_int PyProof.Rows.boot_int (pda_cons (pd_v 3) pda_nil)) pd_int) (pgd_sub (pd_v 0) pd_int)))))))) pss_n)
    (pss_c (psd_if (pt_gt (pd_ix (pd_v 0) pd_int) pd_int) (pss_c (psd_set (i := 4) sc_law_take.nd (pd_mod (pd_callTy call_int1 int_ok T.n_int PyProof.Rows.boot_int (pda_cons (pd_ix (pd_v 0) pd_int) pda_nil)) (pd_v 1)))
    (pss_c (psd_asg (pd_fdiv (pd_ix (pd_v 0) pd_int) (pd_v 1)) (pgd_sub (pd_v 0) pd_int))
    (pss_1 (psd_ret (pd_v 4))))) pss_n)
    (pss_c (psd_set (i := 5) sc_law_take.nd (pd_mod (pd_callTy call_int1 int_ok T.n_int PyProof.Rows.boot_int (pda_cons (pd_mul false (pd_add false (pd_ix (pd_v 0) pd_int) pd_int) pd_int) pda_nil)) pd_int))
    (pss_c (psd_set (i := 6) sc_law_take.nd (pd_mod (pd_callTy call_int1 int_ok T.n_int PyProof.Rows.boot_int (pda_cons (pd_mul false (pd_mod (pd_callTy call_int1 int_ok T.n_int PyProof.Rows.boot_int (pda_cons (pd_mul false (pd_v 5) (pd_v 5)) pda_nil)) pd_int) pd_int) pda_nil)) pd_int))
    (pss_c (psd_if (pt_gt (pd_v 1) pd_int) (pss_1 (psd_ret (pd_mod (pd_callTy call_int1 int_ok T.n_int PyProof.Rows.boot_int (pda_cons (pd_add false (pd_mul false (pd_v 6) pd_int) (pd_v 5)) pda_nil)) (pd_v 1)))) pss_n)
    (pss_1 (psd_ret (pd_mod (pd_callTy call_int1 int_ok T.n_int PyProof.Rows.boot_int (pda_cons (pd_fdiv (pd_v 6) pd_int) pda_nil)) (pd_v 1)))))))))
theorem sc_law_alike : FnScope ["_law_found", "_law_due"] ["_law_found", "_law_due"] (defScope s_law_alike) :=
  ⟨rfl, rfl, rfl, by decide +kernel, rfl, by decide +kernel, by decide +kernel⟩
noncomputable def b_law_alike : SM :=
    (sRet (eAnd (e2 (eqG false) (eV 0) (eV 1)) (e2 (eqG false) (eA reprXG (aC (eV 0) aN)) (eA reprXG (aC (eV 1) aN)))))
noncomputable def m_law_alike : FnM := fnM 2 2 b_law_alike
theorem ok_law_alike (T : Txt K w mg) {f : Addr} {fd : FuncData} (F : Fun K "_law_alike" "_law_alike" s_law_alike f fd) (hm : mg "_law_alike" = some (.ref f)) (hb : Binds K fd ["_law_found", "_law_due"] [])  :
    CalD P w K mg base 1 "_law_alike" m_law_alike :=
  calD_of (k := 0) F hm hb sc_law_alike fun cdv A outer s H E hgd hr =>
    (pss_1 (psd_ret (pd_and (pd_eq hr.units (pd_v 0) (pd_v 1)) (pd_one (pd_eq hr.units (pd_callB (call_reprX hgd (hu80 hr)) reprX_ok T.n_repr PyProof.Rows.boot_repr (pda_cons (pd_v 0) pda_nil)) (pd_callB (call_reprX hgd (hu80 hr)) reprX_ok T.n_repr PyProof.Rows.boot_repr (pda_cons (pd_v 1) pda_nil)))))))
theorem sc_law_text : FnScope ["_law_deed_here", "_law_words", "_law_end", "_law_found", ".0", "_law_part"] ["_law_deed_here"] (defScope s_law_text) :=
  ⟨rfl, rfl, rfl, by decide +kernel, rfl, by decide +kernel, by decide +kernel⟩
noncomputable def b_law_text : SM :=
    (sSeq (sSet 1 (eA (newL false) (aC (eC (.str "none")) (aC (eC (.str "read")) (aC (eC (.str "write")) aN)))))
    (sSeq (sIf (tB (e2 (eqG false) (e2 ixG (eV 0) (eC (.int 0))) (eC (.str "lock")))) (sSeq (sSet 2 (eIf (tB (e2 (isG false) (e2 ixG (eV 0) (eC (.int 5))) (eC .non))) (eC (.str "end")) (eA strAG (aC (e2 ixG (eV 0) (eC (.int 5))) aN))))
    (sSeq (sSet 3 (eA (newL false) (aC (eC (.str "lock")) (aC (eA strAG (aC (e2 ixG (eV 0) (eC (.int 1))) aN)) (aC (eA strAG (aC (e2 ixG (eV 0) (eC (.int 2))) aN)) (aC (e2 ixG (eV 1) (e2 ixG (eV 0) (eC (.int 3)))) (aC (eA strAG (aC (e2 ixG (eV 0) (eC (.int 4))) aN)) (aC (eV 2) aN))))))))
    (sRet (eMt "str" joinG (eC (.str " ")) (aC (e2 (addG false) (e2 (addG false) (eV 3) (e2 (mulG false) (eA (newL false) (aC (eC (.str "open")) aN)) (eA intG (aC (e2 (eqG false) (e2 ixG (eV 0) (eC (.int 6))) (eC (.str "open"))) aN)))) (e2 (mulG false) (eA (newL false) (aC (eC (.str "wait")) aN)) (eA intG (aC (e2 ixG (eV 0) (eC (.int 7))) aN)))) aN))))) sNx)
    (sSeq (sIf (tB (e2 (eqG false) (e2 ixG (eV 0) (eC (.int 0))) (eC (.str "whole")))) (sRet (eMt "str" joinG (eC (.str " ")) (aC (e2 (addG false) (eA (newL false) (aC (eC (.str "whole")) (aC (eA strAG (aC (e2 ixG (eV 0) (eC (.int 1))) aN)) (aC (eA strAG (aC (e2 ixG (eV 0) (eC (.int 2))) aN)) (aC (e2 ixG (eV 1) (e2 ixG (eV 0) (eC (.int 3)))) aN))))) (e2 (mulG false) (eA (newL false) (aC (eC (.str "wait")) aN)) (eA intG (aC (e2 ixG (eV 0) (eC (.int 4))) aN)))) aN))) sNx)
    (sSeq (sIf (tAn (tB (e2 (eqG false) (e2 ixG (eV 0) (eC (.int 0))) (eC (.str "dup")))) (tB (e2 (isG false) (e2 ixG (eV 0) (eC (.int 3))) (eC .non)))) (sRet (eMt "str" joinG (eC (.str " ")) (aC (eLC false (iTp (eSl false (eV 0) pN (pS (eC (.int 3))))) (gNm 5) tTr (eA strAG (aC (eV 5) aN)) [4, 5]) aN))) sNx)
    (sSeq (sIf (tB (e2 (eqG false) (e2 ixG (eV 0) (eC (.int 0))) (eC (.str "dup")))) (sRet (eMt "str" joinG (eC (.str " ")) (aC (eA (newL false) (aC (eC (.str "dup")) (aC (eA strAG (aC (e2 ixG (eV 0) (eC (.int 1))) aN)) (aC (eA strAG (aC (e2 ixG (eV 0) (eC (.int 2))) aN)) (aC (eC (.str "to")) (aC (eA strAG (aC (e2 ixG (eV 0) (eC (.int 3))) aN)) aN)))))) aN))) sNx)
    (sRet (eMt "str" joinG (eC (.str " ")) (aC (eLC false (iTp (eV 0)) (gNm 5) tTr (eA strAG (aC (eV 5) aN)) [4, 5]) aN))))))))
noncomputable def m_law_text : FnM := fnM 1 6 b_law_text
theorem ok_law_text (T : Txt K w mg) {f : Addr} {fd : FuncData} (F : Fun K "_law_text" "_law_text" s_law_text f fd) (hm : mg "_law_text" = some (.ref f)) (hb : Binds K fd ["_law_deed_here"] [])  :
    CalD P w K mg base 1 "_law_text" m_law_text :=
  calD_of (k := 0) F hm hb sc_law_text fun cdv A outer s H E hgd hr =>
    (pss_c (psd_set (i := 1) sc_law_text.nd (pd_lst false (pda_cons pd_str (pda_cons pd_str (pda_cons pd_str pda_nil)))))
    (pss_c (psd_if (pt_eq hr.units (pd_ix (pd_v 0) pd_int) pd_str) (pss_c (psd_set (i := 2) sc_law_text.nd (pd_if (pt_is (pd_ix (pd_v 0) pd_int) pd_non) pd_str (pd_callTy call_strA strA_ok T.n_str PyProof.Rows.boot_str (pda_cons (pd_ix (pd_v 0) pd_int) pda_nil))))
    (pss_c (psd_set (i := 3) sc_law_text.nd (pd_lst false (pda_cons pd_str (pda_cons (pd_callTy call_strA strA_ok T.n_str PyProof.Rows.boot_str (pda_cons (pd_ix (pd_v 0) pd_int) pda_nil)) (pda_cons (pd_callTy call_strA strA_ok T.n_str PyProof.Rows.boot_str (pda_cons (pd_ix (pd_v 0) pd_int) pda_nil)) (pda_cons (pd_ix (pd_v 1) (pd_ix (pd_v 0) pd_int)) (pda_cons (pd_callTy call_strA strA_ok T.n_str PyProof.Rows.boot_str (pda_cons (pd_ix (pd_v 0) pd_int) pda_nil)) (pda_cons (pd_v 2) pda_nil))))))))
    (pss_1 (psd_ret (pd_mt PySem.F.plainAttrs_str PySem.F.slot_str_join PySem.F.type_str_join mt_join join_ok pd_str (pda_cons (pd_add false (pd_add false (pd_v 3) (pd_mul false (pd_lst false (pda_cons pd_str pda_nil)) (pd_callTy call_int1 int_ok T.n_int PyProof.Rows.boot_int (pda_cons (pd_eq hr.units (pd_ix (pd_v 0) pd_int) pd_str) pda_nil)))) (pd_mul false (pd_lst false (pda_cons pd_str pda_nil)) (pd_callTy call_int1 int_ok T.n_int PyProof.Rows.boot_int (pda_cons (pd_ix (pd_v 0) pd_int) pda_nil)))) pda_nil)))))) pss_n)
    (pss_c (psd_if (pt_eq hr.units (pd_ix (pd_v 0) pd_int) pd_str) (pss_1 (psd_ret (pd_mt PySem.F.plainAttrs_str PySem.F.slot_str_join PySem.F.type_str_join mt_join join_ok pd_str (pda_cons (pd_add false (pd_lst false (pda_cons pd_str (pda_cons (pd_callTy call_strA strA_ok T.n_str PyProof.Rows.boot_str (pda_cons (pd_ix (pd_v 0) pd_int) pda_nil)) (pda_cons (pd_callTy call_strA strA_ok T.n_str PyProof.Rows.boot_str (pda_cons (pd_ix (pd_v 0) pd_int) pda_nil)) (pda_cons (pd_ix (pd_v 1) (pd_ix (pd_v 0) pd_int)) pda_nil))))) (pd_mul false (pd_lst false (pda_cons pd_str pda_nil)) (pd_callTy call_int1 int_ok T.n_int PyProof.Rows.boot_int (pda_cons (pd_ix (pd_v 0) pd_int) pda_nil)))) pda_nil)))) pss_n)
    (pss_c (psd_if (pt_w (pw_a (pt_eq hr.units (pd_ix (pd_v 0) pd_int) pd_str) (pw_a1 (pt_is (pd_ix (pd_v 0) pd_int) pd_non)))) (pss_1 (psd_ret (pd_mt PySem.F.plainAttrs_str PySem.F.slot_str_join PySem.F.type_str_join mt_join join_ok pd_str (pda_cons (pd_lc false rfl sc_law_text.nd (pid_tup (pd_sl false (pd_v 0) po_n (po_s pd_int))) (blkOk_by (own := [(".0", 4), ("_law_part", 5)]) (by kernel_rfl)) (fun _ _ _ _ _ => (pgd_name (i := 5) sc_law_text.nd)) (fun _ _ _ _ _ => pts_n) (fun _ _ _ _ _ => (pd_callTy call_strA strA_ok T.n_str PyProof.Rows.boot_str (pda_cons (pd_v 5) pda_nil)))) pda_nil)))) pss_n)
    (pss_c (psd_if (pt_eq hr.units (pd_ix (pd_v 0) pd_int) pd_str) (pss_1 (psd_ret (pd_mt PySem.F.plainAttrs_str PySem.F.slot_str_join PySem.F.type_str_join mt_join join_ok pd_str (pda_cons (pd_lst false (pda_cons pd_str (pda_cons (pd_callTy call_strA strA_ok T.n_str PyProof.Rows.boot_str (pda_cons (pd_ix (pd_v 0) pd_int) pda_nil)) (pda_cons (pd_callTy call_strA strA_ok T.n_str PyProof.Rows.boot_str (pda_cons (pd_ix (pd_v 0) pd_int) pda_nil)) (pda_cons pd_str (pda_cons (pd_callTy call_strA strA_ok T.n_str PyProof.Rows.boot_str (pda_cons (pd_ix (pd_v 0) pd_int) pda_nil)) pda_nil)))))) pda_nil)))) pss_n)
    (pss_1 (psd_ret (pd_mt PySem.F.plainAttrs_str PySem.F.slot_str_join PySem.F.type_str_join mt_join join_ok pd_str (pda_cons (pd_lc false rfl sc_law_text.nd (pid_tup (pd_v 0)) (blkOk_by (own := [(".0", 4), ("_law_part", 5)]) (by kernel_rfl)) (fun _ _ _ _ _ => (pgd_name (i := 5) sc_law_text.nd)) (fun _ _ _ _ _ => pts_n) (fun _ _ _ _ _ => (pd_callTy call_strA strA_ok T.n_str PyProof.Rows.boot_str (pda_cons (pd_v 5) pda_nil)))) pda_nil)))))))))
theorem sc_is_between : FnScope ["thing", "least", "greatest"] ["thing", "least", "greatest"] (defScope s_is_between) :=
  ⟨rfl, rfl, rfl, by decide +kernel, rfl, by decide +kernel, by decide +kernel⟩
noncomputable def b_is_between : SM :=
    (sRet (eAnd (eCall m_is_integer false (aC (eV 0) aN)) (eCh (leG) (leG) (eV 1) (eV 0) (eV 2))))
noncomputable def m_is_between : FnM := fnM 3 3 b_is_between
theorem ok_is_between (T : Txt K w mg) {f : Addr} {fd : FuncData} (F : Fun K "is_between" "is_between" s_is_between f fd) (hm : mg "is_between" = some (.ref f)) (hb : Binds K fd ["thing", "least", "greatest"] []) (c_is_integer : CalD P w K mg base 1 "is_integer" m_is_integer) :
    CalD P w K mg base 2 "is_between" m_is_between :=
  calD_of (k := 1) F hm hb sc_is_between fun cdv A outer s H E hgd hr =>
    (pss_1 (psd_ret (pd_and (pd_call false c_is_integer hr (by decide) hgd (pda_cons (pd_v 0) pda_nil)) (pd_one (pd_ch op_le op_le cmp_ok cmp_ok (pd_v 1) (pd_v 0) (pd_v 2))))))
theorem sc_is_byte : FnScope ["thing"] ["thing"] (defScope s_is_byte) :=
  ⟨rfl, rfl, rfl, by decide +kernel, rfl, by decide +kernel, by decide +kernel⟩
noncomputable def b_is_byte : SM :=
    (sRet (eAnd (eCall m_is_integer false (aC (eV 0) aN)) (e2 (geG) (eV 0) (eC (.int 0)))))
noncomputable def m_is_byte : FnM := fnM 1 1 b_is_byte
theorem ok_is_byte (T : Txt K w mg) {f : Addr} {fd : FuncData} (F : Fun K "is_byte" "is_byte" s_is_byte f fd) (hm : mg "is_byte" = some (.ref f)) (hb : Binds K fd ["thing"] []) (c_is_integer : CalD P w K mg base 1 "is_integer" m_is_integer) :
    CalD P w K mg base 2 "is_byte" m_is_byte :=
  calD_of (k := 1) F hm hb sc_is_byte fun cdv A outer s H E hgd hr =>
    (pss_1 (psd_ret (pd_and (pd_call false c_is_integer hr (by decide) hgd (pda_cons (pd_v 0) pda_nil)) (pd_one (pd_ge (pd_v 0) pd_int)))))
theorem sc_show_deed : FnScope ["deed", "word", "parts", "process", "descriptor", "level", "first", "last", "whose", "wait", "words", "target", "text", ".0", "part"] ["deed"] (defScope s_show_deed) :=
  ⟨rfl, rfl, rfl, by decide +kernel, rfl, by decide +kernel, by decide +kernel⟩
noncomputable def b_show_deed : SM :=
    (sSeq (sAs (eV 0) (gTuS (gCs (gNm 1) (gCs (gNm 2) gNl))))
    (sSeq (sIf (tB (e2 (eqG false) (eV 1) (eC (.str "lock")))) (sSeq (sAs (eV 2) (gUl 7 (gCs (gNm 3) (gCs (gNm 4) (gCs (gNm 5) (gCs (gNm 6) (gCs (gNm 7) (gCs (gNm 8) (gCs (gNm 9) gNl)))))))))
    (sSeq (sSet 10 (eA (newL false) (aC (eV 1) (aC (eA strAG (aC (eV 3) aN)) (aC (eA strAG (aC (eV 4) aN)) (aC (eCall m_shown_span false (aC (eV 5) (aC (eV 6) (aC (eV 7) aN)))) aN))))))
    (sRet (eMt "str" joinG (eC (.str " ")) (aC (e2 (addG false) (e2 (addG false) (eV 10) (e2 (mulG false) (eA (newL false) (aC (eC (.str "open")) aN)) (eA intG (aC (e2 (eqG false) (eV 8) (eC (.str "open"))) aN)))) (e2 (mulG false) (eA (newL false) (aC (eC (.str "wait")) aN)) (eA intG (aC (eV 9) aN)))) aN))))) sNx)
    (sSeq (sIf (tB (e2 (eqG false) (eV 1) (eC (.str "whole")))) (sSeq (sAs (eV 2) (gUl 4 (gCs (gNm 3) (gCs (gNm 4) (gCs (gNm 5) (gCs (gNm 9) gNl))))))
    (sRet (eMt "str" joinG (eC (.str " ")) (aC (e2 (addG false) (eA (newL false) (aC (eV 1) (aC (eA strAG (aC (eV 3) aN)) (aC (eA strAG (aC (eV 4) aN)) (aC (e2 (ixKG "LEVELS" [.inr "none", .inr "read", .inr "write"]) (eC (.cls "LEVELS")) (eV 5)) aN))))) (e2 (mulG false) (eA (newL false) (aC (eC (.str "wait")) aN)) (eA intG (aC (eV 9) aN)))) aN)))) sNx)
    (sSeq (sIf (tB (e2 (eqG false) (eV 1) (eC (.str "dup")))) (sSeq (sAs (eV 2) (gUl 3 (gCs (gNm 3) (gCs (gNm 4) (gCs (gNm 11) gNl)))))
    (sSeq (sSet 12 (eJs (jC (eFmt (eV 1)) (jC (eC (.str " ")) (jC (eFmt (eV 3)) (jC (eC (.str " ")) (jC (eFmt (eV 4)) jN)))))))
    (sRet (eIf (tB (e2 (isG false) (eV 11) (eC .non))) (eV 12) (eJs (jC (eFmt (eV 12)) (jC (eC (.str " ")) (jC (eFmt (eC (.str "to"))) (jC (eC (.str " ")) (jC (eFmt (eV 11)) jN)))))))))) sNx)
    (sRet (eMt "str" joinG (eC (.str " ")) (aC (e2 (addG false) (eA (newL false) (aC (eV 1) aN)) (eLC false (iSeq (eV 2)) (gNm 14) tTr (eA strAG (aC (eV 14) aN)) [13, 14])) aN)))))))
noncomputable def m_show_deed : FnM := fnM 1 15 b_show_deed
theorem ok_show_deed (T : Txt K w mg) {f : Addr} {fd : FuncData} (F : Fun K "show_deed" "show_deed" s_show_deed f fd) (hm : mg "show_deed" = some (.ref f)) (hb : Binds K fd ["deed"] []) (c_shown_span : CalD P w K mg base 1 "shown_span" m_shown_span) :
    CalD P w K mg base 2 "show_deed" m_show_deed :=
  calD_of (k := 1) F hm hb sc_show_deed fun cdv A outer s H E hgd hr =>
    (pss_c (psd_asg (pd_v 0) (pgd_star rfl (pgds_cons (pgd_name (i := 1) sc_show_deed.nd) (pgds_cons (pgd_name (i := 2) sc_show_deed.nd) pgds_nil))))
    (pss_c (psd_if (pt_eq hr.units (pd_v 1) pd_str) (pss_c (psd_asg (pd_v 2) (pgd_unl rfl (pgds_cons (pgd_name (i := 3) sc_show_deed.nd) (pgds_cons (pgd_name (i := 4) sc_show_deed.nd) (pgds_cons (pgd_name (i := 5) sc_show_deed.nd) (pgds_cons (pgd_name (i := 6) sc_show_deed.nd) (pgds_cons (pgd_name (i := 7) sc_show_deed.nd) (pgds_cons (pgd_name (i := 8) sc_show_deed.nd) (pgds_cons (pgd_name (i := 9) sc_show_deed.nd) pgds_nil)))))))))
    (pss_c (psd_set (i := 10) sc_show_deed.nd (pd_lst false (pda_cons (pd_v 1) (pda_cons (pd_callTy call_strA strA_ok T.n_str PyProof.Rows.boot_str (pda_cons (pd_v 3) pda_nil)) (pda_cons (pd_callTy call_strA strA_ok T.n_str PyProof.Rows.boot_str (pda_cons (pd_v 4) pda_nil)) (pda_cons (pd_call false c_shown_span hr (by decide) hgd (pda_cons (pd_v 5) (pda_cons (pd_v 6) (pda_cons (pd_v 7) pda_nil)))) pda_nil))))))
    (pss_1 (psd_ret (pd_mt PySem.F.plainAttrs_str PySem.F.slot_str_join PySem.F.type_str_join mt_join join_ok pd_str (pda_cons (pd_add false (pd_add false (pd_v 10) (pd_mul false (pd_lst false (pda_cons (pd_cstr T.k_OPEN) pda_nil)) (pd_callTy call_int1 int_ok T.n_int PyProof.Rows.boot_int (pda_cons (pd_eq hr.units (pd_v 8) (pd_cstr T.k_OPEN)) pda_nil)))) (pd_mul false (pd_lst false (pda_cons (pd_cstr T.k_WAIT) pda_nil)) (pd_callTy call_int1 int_ok T.n_int PyProof.Rows.boot_int (pda_cons (pd_v 9) pda_nil)))) pda_nil)))))) pss_n)
    (pss_c (psd_if (pt_eq hr.units (pd_v 1) pd_str) (pss_c (psd_asg (pd_v 2) (pgd_unl rfl (pgds_cons (pgd_name (i := 3) sc_show_deed.nd) (pgds_cons (pgd_name (i := 4) sc_show_deed.nd) (pgds_cons (pgd_name (i := 5) sc_show_deed.nd) (pgds_cons (pgd_name (i := 9) sc_show_deed.nd) pgds_nil))))))
    (pss_1 (psd_ret (pd_mt PySem.F.plainAttrs_str PySem.F.slot_str_join PySem.F.type_str_join mt_join join_ok pd_str (pda_cons (pd_add false (pd_lst false (pda_cons (pd_v 1) (pda_cons (pd_callTy call_strA strA_ok T.n_str PyProof.Rows.boot_str (pda_cons (pd_v 3) pda_nil)) (pda_cons (pd_callTy call_strA strA_ok T.n_str PyProof.Rows.boot_str (pda_cons (pd_v 4) pda_nil)) (pda_cons (pd_ixK T.t_LEVELS (pd_cls T.g_LEVELS) (pd_v 5)) pda_nil))))) (pd_mul false (pd_lst false (pda_cons (pd_cstr T.k_WAIT) pda_nil)) (pd_callTy call_int1 int_ok T.n_int PyProof.Rows.boot_int (pda_cons (pd_v 9) pda_nil)))) pda_nil))))) pss_n)
    (pss_c (psd_if (pt_eq hr.units (pd_v 1) pd_str) (pss_c (psd_asg (pd_v 2) (pgd_unl rfl (pgds_cons (pgd_name (i := 3) sc_show_deed.nd) (pgds_cons (pgd_name (i := 4) sc_show_deed.nd) (pgds_cons (pgd_name (i := 11) sc_show_deed.nd) pgds_nil)))))
    (pss_c (psd_set (i := 12) sc_show_deed.nd (pd_joined (pjd_cons (pd_fmt (pd_v 1)) (pjd_cons pd_str (pjd_cons (pd_fmt (pd_v 3)) (pjd_cons pd_str (pjd_cons (pd_fmt (pd_v 4)) pjd_nil)))))))
    (pss_1 (psd_ret (pd_if (pt_is (pd_v 11) pd_non) (pd_v 12) (pd_joined (pjd_cons (pd_fmt (pd_v 12)) (pjd_cons pd_str (pjd_cons (pd_fmt (pd_cstr T.k_TO)) (pjd_cons pd_str (pjd_cons (pd_fmt (pd_v 11)) pjd_nil))))))))))) pss_n)
    (pss_1 (psd_ret (pd_mt PySem.F.plainAttrs_str PySem.F.slot_str_join PySem.F.type_str_join mt_join join_ok pd_str (pda_cons (pd_add false (pd_lst false (pda_cons (pd_v 1) pda_nil)) (pd_lc false rfl sc_show_deed.nd (pid_seq (pd_v 2)) (blkOk_by (own := [(".0", 13), ("part", 14)]) (by kernel_rfl)) (fun _ _ _ _ _ => (pgd_name (i := 14) sc_show_deed.nd)) (fun _ _ _ _ _ => pts_n) (fun _ _ _ _ _ => (pd_callTy call_strA strA_ok T.n_str PyProof.Rows.boot_str (pda_cons (pd_v 14) pda_nil))))) pda_nil))))))))
theorem sc_law_names : FnScope ["_law_bag_here", "_law_many", "_law_letters", "_law_words", "_law_turn", "_law_wide", "_law_base", "_law_at", ".0", "_law_k"] ["_law_bag_here", "_law_many"] (defScope s_law_names) :=
  ⟨rfl, rfl, rfl, by decide +kernel, rfl, by decide +kernel, by decide +kernel⟩
noncomputable def b_law_names : SM :=
    (sSeq (sSet 2 (eC (.str "abcdefghijklmnopqrstuvwxyz")))
    (sSeq (sSet 3 (eA (newL false) (aC (eC (.str "end")) (aC (eC (.str "open")) (aC (eC (.str "lock")) (aC (eC (.str "wait")) (aC (eC (.str "process")) (aC (eC (.str "write")) (aC (eC (.str "none")) (aC (eC (.str "start")) aN))))))))))
    (sSeq (sAs (eA newT (aC (eCall m_law_take false (aC (eV 0) (aC (eC (.int 26)) aN))) (aC (e2 (addG false) (eC (.int 1)) (eCall m_law_take false (aC (eV 0) (aC (eC (.int 8)) aN)))) aN))) (gTu 2 (gCs (gNm 4) (gCs (gNm 5) gNl))))
    (sSeq (sIf (tB (e2 (eqG false) (eCall m_law_take false (aC (eV 0) (aC (eC (.int 4)) aN))) (eC (.int 0)))) (sRet (eSl true (e2 (addG false) (eSl false (eV 3) (pS (e2 (fdivG) (eV 4) (eC (.int 4)))) pN) (eSl false (eV 3) pN (pS (e2 (fdivG) (eV 4) (eC (.int 4)))))) pN (pS (eV 1)))) sNx)
    (sSeq (sSet 6 (eMt "str" joinG (eC (.str "")) (aC (eLC false (iR1 (aC (eV 5) aN)) (gNm 9) tTr (e2 ixG (eV 2) (eCall m_law_take false (aC (eV 0) (aC (eC (.int 26)) aN)))) [8, 9]) aN)))
    (sSeq (sSet 7 (eCall m_law_take false (aC (eV 0) (aC (eV 5) aN))))
    (sRet (eLC true (iR1 (aC (eV 1) aN)) (gNm 9) tTr (e2 (addG false) (e2 (addG false) (eSl false (eV 6) pN (pS (eV 7))) (e2 ixG (eV 2) (e2 (modG) (eA intG (aC (e2 (addG false) (eV 4) (e2 (mulG false) (eC (.int 5)) (eV 9))) aN)) (eC (.int 26))))) (eSl false (eV 6) (pS (e2 (addG false) (eV 7) (eC (.int 1)))) pN)) [8, 9]))))))))
noncomputable def m_law_names : FnM := fnM 2 10 b_law_names
theorem ok_law_names (T : Txt K w mg) {f : Addr} {fd : FuncData} (F : Fun K "_law_names" "_law_names" s_law_names f fd) (hm : mg "_law_names" = some (.ref f)) (hb : Binds K fd ["_law_bag_here", "_law_many"] []) (c_law_take : CalD P w K mg base 1 "_law_take" m_law_take) :
    CalD P w K mg base 2 "_law_names" m_law_names :=
  calD_of (k := 1) F hm hb sc_law_names fun cdv A outer s H E hgd hr =>
    (pss_c (psd_set (i := 2) sc_law_names.nd pd_str)
    (pss_c (psd_set (i := 3) sc_law_names.nd (pd_lst false (pda_cons pd_str (pda_cons pd_str (pda_cons pd_str (pda_cons pd_str (pda_cons pd_str (pda_cons pd_str (pda_cons pd_str (pda_cons pd_str pda_nil))))))))))
    (pss_c (psd_asg (pd_tup (pda_cons (pd_call false c_law_take hr (by decide) hgd (pda_cons (pd_v 0) (pda_cons pd_int pda_nil))) (pda_cons (pd_add false pd_int (pd_call false c_law_take hr (by decide) hgd (pda_cons (pd_v 0) (pda_cons pd_int pda_nil)))) pda_nil))) (pgd_tup rfl (pgds_cons (pgd_name (i := 4) sc_law_names.nd) (pgds_cons (pgd_name (i := 5) sc_law_names.nd) pgds_nil))))
    (pss_c (psd_if (pt_eq hr.units (pd_call false c_law_take hr (by decide) hgd (pda_cons (pd_v 0) (pda_cons pd_int pda_nil))) pd_int) (pss_1 (psd_ret (pd_sl true (pd_add false (pd_sl false (pd_v 3) (po_s (pd_fdiv (pd_v 4) pd_int)) po_n) (pd_sl false (pd_v 3) po_n (po_s (pd_fdiv (pd_v 4) pd_int)))) po_n (po_s (pd_v 1))))) pss_n)
    (pss_c (psd_set (i := 6) sc_law_names.nd (pd_mt PySem.F.plainAttrs_str PySem.F.slot_str_join PySem.F.type_str_join mt_join join_ok pd_str (pda_cons (pd_lc false rfl sc_law_names.nd (pid_range1 T.n_range (pda_cons (pd_v 5) pda_nil)) (blkOk_by (own := [(".0", 8), ("_law_k", 9)]) (by kernel_rfl)) (fun _ _ _ _ _ => (pgd_name (i := 9) sc_law_names.nd)) (fun _ _ _ _ _ => pts_n) (fun _ _ _ _ _ => (pd_ix (pd_v 2) (pd_call false c_law_take hr (by decide) hgd (pda_cons (pd_v 0) (pda_cons pd_int pda_nil)))))) pda_nil)))
    (pss_c (psd_set (i := 7) sc_law_names.nd (pd_call false c_law_take hr (by decide) hgd (pda_cons (pd_v 0) (pda_cons (pd_v 5) pda_nil))))
    (pss_1 (psd_ret (pd_lc true rfl sc_law_names.nd (pid_range1 T.n_range (pda_cons (pd_v 1) pda_nil)) (blkOk_by (own := [(".0", 8), ("_law_k", 9)]) (by kernel_rfl)) (fun _ _ _ _ _ => (pgd_name (i := 9) sc_law_names.nd)) (fun _ _ _ _ _ => pts_n) (fun _ _ _ _ _ => (pd_add false (pd_add false (pd_sl false (pd_v 6) po_n (po_s (pd_v 7))) (pd_ix (pd_v 2) (pd_mod (pd_callTy call_int1 int_ok T.n_int PyProof.Rows.boot_int (pda_cons (pd_add false (pd_v 4) (pd_mul false pd_int (pd_v 9))) pda_nil)) pd_int))) (pd_sl false (pd_v 6) (po_s (pd_add false (pd_v 7) pd_int)) po_n))))))))))))
theorem sc_law_deed : FnScope ["_law_bag_here", "_law_files", "_law_process", "_law_descriptor", "_law_file", "_law_way", "_law_level", "_law_first", "_law_some", "_law_is_waiting", "_law_last", "_law_whose"] ["_law_bag_here", "_law_files"] (defScope s_law_deed) :=
  ⟨rfl, rfl, rfl, by decide +kernel, rfl, by decide +kernel, by decide +kernel⟩
noncomputable def b_law_deed : SM :=
    (sSeq (sPar3 2 3 4 (aC (eCall m_law_take false (aC (eV 0) (aC (eC (.int 4)) aN))) (aC (eCall m_law_take false (aC (eV 0) (aC (eC (.int 3)) aN))) (aC (e2 ixG (eV 1) (eCall m_law_take false (aC (eV 0) (aC (eA lenG (aC (eV 1) aN)) aN)))) aN))))
    (sSeq (sPar3 5 6 7 (aC (eCall m_law_take false (aC (eV 0) (aC (eC (.int 14)) aN))) (aC (eCall m_law_take false (aC (eV 0) (aC (eC (.int 3)) aN))) (aC (e2 ixG (eA (newL false) (aC (eC (.int 0)) (aC (eC (.int 1)) (aC (eC (.int 3)) (aC (e2 powWG (eC (.int 10)) (eC (.int 12))) aN))))) (eCall m_law_take false (aC (eV 0) (aC (eC (.int 4)) aN)))) aN))))
    (sSeq (sIf (tB (e2 (ltG) (eV 5) (eC (.int 4)))) (sSeq (sSet 8 (eA (newL false) (aC (eA newT (aC (eC (.str "start")) aN)) (aC (eA newT (aC (eC (.str "fork")) (aC (eV 2) aN))) (aC (eA newT (aC (eC (.str "end")) (aC (eV 2) aN))) (aC (eA newT (aC (eC (.str "give up")) (aC (eV 2) aN))) aN))))))
    (sRet (e2 ixG (eV 8) (eV 5)))) sNx)
    (sSeq (sIf (tB (e2 (ltG) (eV 5) (eC (.int 6)))) (sRet (eA newT (aC (eC (.str "open")) (aC (eV 2) (aC (eV 4) aN))))) sNx)
    (sSeq (sIf (tB (e2 (eqG false) (eV 5) (eC (.int 6)))) (sRet (eA newT (aC (eC (.str "dup")) (aC (eV 2) (aC (eV 3) (aC (e2 ixG (eA (newL false) (aC (eC .non) (aC (eCall m_law_take false (aC (eV 0) (aC (eC (.int 3)) aN))) (aC (eC (.int 15)) aN)))) (eCall m_law_take false (aC (eV 0) (aC (eC (.int 3)) aN)))) aN)))))) sNx)
    (sSeq (sIf (tB (e2 (eqG false) (eV 5) (eC (.int 7)))) (sRet (eA newT (aC (eC (.str "close")) (aC (eV 2) (aC (eV 3) aN))))) sNx)
    (sSeq (sSet 9 (e2 (eqG false) (eCall m_law_take false (aC (eV 0) (aC (eC (.int 2)) aN))) (eC (.int 0))))
    (sSeq (sIf (tB (e2 (eqG false) (eV 5) (eC (.int 8)))) (sRet (eA newT (aC (eC (.str "whole")) (aC (eV 2) (aC (eV 3) (aC (eV 6) (aC (eV 9) aN))))))) sNx)
    (sSeq (sSet 10 (e2 ixG (eA (newL false) (aC (eV 7) (aC (e2 (addG false) (eV 7) (eCall m_law_take false (aC (eV 0) (aC (eC (.int 4)) aN)))) (aC (eC .non) aN)))) (eCall m_law_take false (aC (eV 0) (aC (eC (.int 3)) aN)))))
    (sSeq (sSet 11 (e2 ixG (eA (newL false) (aC (eC (.str "process")) (aC (eC (.str "open")) aN))) (eA intG (aC (e2 (eqG false) (eCall m_law_take false (aC (eV 0) (aC (eC (.int 3)) aN))) (eC (.int 0))) aN))))
    (sRet (eA newT (aC (eC (.str "lock")) (aC (eV 2) (aC (eV 3) (aC (eV 6) (aC (eV 7) (aC (eV 10) (aC (eV 11) (aC (eV 9) aN))))))))))))))))))))
noncomputable def m_law_deed : FnM := fnM 2 12 b_law_deed
theorem ok_law_deed (T : Txt K w mg) {f : Addr} {fd : FuncData} (F : Fun K "_law_deed" "_law_deed" s_law_deed f fd) (hm : mg "_law_deed" = some (.ref f)) (hb : Binds K fd ["_law_bag_here", "_law_files"] []) (c_law_take : CalD P w K mg base 1 "_law_take" m_law_take) :
    CalD P w K mg base 2 "_law_deed" m_law_deed :=
  calD_of (k := 1) F hm hb sc_law_deed fun cdv A outer s H E hgd hr =>
    (pss_c (psd_par3 (i := 2) (j := 3) (k := 4) rfl sc_law_deed.nd (pda_cons (pd_call false c_law_take hr (by decide) hgd (pda_cons (pd_v 0) (pda_cons pd_int pda_nil))) (pda_cons (pd_call false c_law_take hr (by decide) hgd (pda_cons (pd_v 0) (pda_cons pd_int pda_nil))) (pda_cons (pd_ix (pd_v 1) (pd_call false c_law_take hr (by decide) hgd (pda_cons (pd_v 0) (pda_cons (pd_callB call_len len_ok T.n_len PySem.boot_len (pda_cons (pd_v 1) pda_nil)) pda_nil)))) pda_nil))))
    (pss_c (psd_par3 (i := 5) (j := 6) (k := 7) rfl sc_law_deed.nd (pda_cons (pd_call false c_law_take hr (by decide) hgd (pda_cons (pd_v 0) (pda_cons pd_int pda_nil))) (pda_cons (pd_call false c_law_take hr (by decide) hgd (pda_cons (pd_v 0) (pda_cons pd_int pda_nil))) (pda_cons (pd_ix (pd_lst false (pda_cons pd_int (pda_cons pd_int (pda_cons pd_int (pda_cons (pd_powW pd_int pd_int) pda_nil))))) (pd_call false c_law_take hr (by decide) hgd (pda_cons (pd_v 0) (pda_cons pd_int pda_nil)))) pda_nil))))
    (pss_c (psd_if (pt_lt (pd_v 5) pd_int) (pss_c (psd_set (i := 8) sc_law_deed.nd (pd_lst false (pda_cons (pd_tup (pda_cons pd_str pda_nil)) (pda_cons (pd_tup (pda_cons pd_str (pda_cons (pd_v 2) pda_nil))) (pda_cons (pd_tup (pda_cons pd_str (pda_cons (pd_v 2) pda_nil))) (pda_cons (pd_tup (pda_cons pd_str (pda_cons (pd_v 2) pda_nil))) pda_nil))))))
    (pss_1 (psd_ret (pd_ix (pd_v 8) (pd_v 5))))) pss_n)
    (pss_c (psd_if (pt_lt (pd_v 5) pd_int) (pss_1 (psd_ret (pd_tup (pda_cons pd_str (pda_cons (pd_v 2) (pda_cons (pd_v 4) pda_nil)))))) pss_n)
    (pss_c (psd_if (pt_eq hr.units (pd_v 5) pd_int) (pss_1 (psd_ret (pd_tup (pda_cons pd_str (pda_cons (pd_v 2) (pda_cons (pd_v 3) (pda_cons (pd_ix (pd_lst false (pda_cons pd_non (pda_cons (pd_call false c_law_take hr (by decide) hgd (pda_cons (pd_v 0) (pda_cons pd_int pda_nil))) (pda_cons pd_int pda_nil)))) (pd_call false c_law_take hr (by decide) hgd (pda_cons (pd_v 0) (pda_cons pd_int pda_nil)))) pda_nil))))))) pss_n)
    (pss_c (psd_if (pt_eq hr.units (pd_v 5) pd_int) (pss_1 (psd_ret (pd_tup (pda_cons pd_str (pda_cons (pd_v 2) (pda_cons (pd_v 3) pda_nil)))))) pss_n)
    (pss_c (psd_set (i := 9) sc_law_deed.nd (pd_eq hr.units (pd_call false c_law_take hr (by decide) hgd (pda_cons (pd_v 0) (pda_cons pd_int pda_nil))) pd_int))
    (pss_c (psd_if (pt_eq hr.units (pd_v 5) pd_int) (pss_1 (psd_ret (pd_tup (pda_cons pd_str (pda_cons (pd_v 2) (pda_cons (pd_v 3) (pda_cons (pd_v 6) (pda_cons (pd_v 9) pda_nil)))))))) pss_n)
    (pss_c (psd_set (i := 10) sc_law_deed.nd (pd_ix (pd_lst false (pda_cons (pd_v 7) (pda_cons (pd_add false (pd_v 7) (pd_call false c_law_take hr (by decide) hgd (pda_cons (pd_v 0) (pda_cons pd_int pda_nil)))) (pda_cons pd_non pda_nil)))) (pd_call false c_law_take hr (by decide) hgd (pda_cons (pd_v 0) (pda_cons pd_int pda_nil)))))
    (pss_c (psd_set (i := 11) sc_law_deed.nd (pd_ix (pd_lst false (pda_cons pd_str (pda_cons pd_str pda_nil))) (pd_callTy call_int1 int_ok T.n_int PyProof.Rows.boot_int (pda_cons (pd_eq hr.units (pd_call false c_law_take hr (by decide) hgd (pda_cons (pd_v 0) (pda_cons pd_int pda_nil))) pd_int) pda_nil))))
    (pss_1 (psd_ret (pd_tup (pda_cons pd_str (pda_cons (pd_v 2) (pda_cons (pd_v 3) (pda_cons (pd_v 6) (pda_cons (pd_v 7) (pda_cons (pd_v 10) (pda_cons (pd_v 11) (pda_cons (pd_v 9) pda_nil)))))))))))))))))))))
theorem sc_law_far : FnScope ["_law_bag_here", "_law_deed_here", "_law_number", "_law_last"] ["_law_bag_here", "_law_deed_here"] (defScope s_law_far) :=
  ⟨rfl, rfl, rfl, by decide +kernel, rfl, by decide +kernel, by decide +kernel⟩
noncomputable def b_law_far : SM :=
    (sSeq (sSet 2 (e2 (addG false) (e2 ixG (eA (newL false) (aC (eC (.int 10)) (aC (eC (.int 100)) (aC (e2 powWG (eC (.int 10)) (eC (.int 9))) (aC (e2 powWG (eC (.int 10)) (eC (.int 20))) aN))))) (eCall m_law_take false (aC (eV 0) (aC (eC (.int 4)) aN)))) (eCall m_law_take false (aC (eV 0) (aC (e2 powWG (eC (.int 10)) (eC (.int 6))) aN)))))
    (sSeq (sIf (tAn (tB (e2 (eqG false) (e2 ixG (eV 1) (eC (.int 0))) (eC (.str "lock")))) (tB (e2 (eqG false) (eCall m_law_take false (aC (eV 0) (aC (eC (.int 2)) aN))) (eC (.int 0))))) (sSeq (sSet 3 (e2 ixG (eA (newL false) (aC (eC .non) (aC (e2 (addG false) (e2 powWG (eC (.int 10)) (eC (.int 39))) (eV 2)) aN))) (eCall m_law_take false (aC (eV 0) (aC (eC (.int 2)) aN)))))
    (sRet (e2 (addG true) (e2 (addG false) (eSl false (eV 1) pN (pS (eC (.int 4)))) (eA newT (aC (e2 ixG (eA (newL false) (aC (eC (.int 0)) (aC (eV 2) (aC (e2 powWG (eC (.int 10)) (eC (.int 38))) aN)))) (eCall m_law_take false (aC (eV 0) (aC (eC (.int 3)) aN)))) (aC (eV 3) aN)))) (eSl false (eV 1) (pS (eC (.int 6))) pN)))) sNx)
    (sSeq (sIf (tAn (tB (e2 (gtG) (eA lenG (aC (eV 1) aN)) (eC (.int 1)))) (tB (e2 (eqG false) (eCall m_law_take false (aC (eV 0) (aC (eC (.int 3)) aN))) (eC (.int 0))))) (sRet (e2 (addG true) (eA newT (aC (e2 ixG (eV 1) (eC (.int 0))) (aC (e2 ixG (eA (newL false) (aC (eV 2) (aC (e2 (subG) (e2 powWG (eC (.int 10)) (eC (.int 40))) (eC (.int 1))) aN))) (eCall m_law_take false (aC (eV 0) (aC (eC (.int 2)) aN)))) aN))) (eSl false (eV 1) (pS (eC (.int 2))) pN))) sNx)
    (sRet (eV 1)))))
noncomputable def m_law_far : FnM := fnM 2 4 b_law_far
theorem ok_law_far (T : Txt K w mg) {f : Addr} {fd : FuncData} (F : Fun K "_law_far" "_law_far" s_law_far f fd) (hm : mg "_law_far" = some (.ref f)) (hb : Binds K fd ["_law_bag_here", "_law_deed_here"] []) (c_law_take : CalD P w K mg base 1 "_law_take" m_law_take) :
    CalD P w K mg base 2 "_law_far" m_law_far :=
  calD_of (k := 1) F hm hb sc_law_far fun cdv A outer s H E hgd hr =>
    (pss_c (psd_set (i := 2) sc_law_far.nd (pd_add false (pd_ix (pd_lst false (pda_cons pd_int (pda_cons pd_int (pda_cons (pd_powW pd_int pd_int) (pda_cons (pd_powW pd_int pd_int) pda_nil))))) (pd_call false c_law_take hr (by decide) hgd (pda_cons (pd_v 0) (pda_cons pd_int pda_nil)))) (pd_call false c_law_take hr (by decide) hgd (pda_cons (pd_v 0) (pda_cons (pd_powW pd_int pd_int) pda_nil)))))
    (pss_c (psd_if (pt_w (pw_a (pt_eq hr.units (pd_ix (pd_v 1) pd_int) pd_str) (pw_a1 (pt_eq hr.units (pd_call false c_law_take hr (by decide) hgd (pda_cons (pd_v 0) (pda_cons pd_int pda_nil))) pd_int)))) (pss_c (psd_set (i := 3) sc_law_far.nd (pd_ix (pd_lst false (pda_cons pd_non (pda_cons (pd_add false (pd_powW pd_int pd_int) (pd_v 2)) pda_nil))) (pd_call false c_law_take hr (by decide) hgd (pda_cons (pd_v 0) (pda_cons pd_int pda_nil)))))
    (pss_1 (psd_ret (pd_add true (pd_add false (pd_sl false (pd_v 1) po_n (po_s pd_int)) (pd_tup (pda_cons (pd_ix (pd_lst false (pda_cons pd_int (pda_cons (pd_v 2) (pda_cons (pd_powW pd_int pd_int) pda_nil)))) (pd_call false c_law_take hr (by decide) hgd (pda_cons (pd_v 0) (pda_cons pd_int pda_nil)))) (pda_cons (pd_v 3) pda_nil)))) (pd_sl false (pd_v 1) (po_s pd_int) po_n))))) pss_n)
    (pss_c (psd_if (pt_w (pw_a (pt_gt (pd_callB call_len len_ok T.n_len PySem.boot_len (pda_cons (pd_v 1) pda_nil)) pd_int) (pw_a1 (pt_eq hr.units (pd_call false c_law_take hr (by decide) hgd (pda_cons (pd_v 0) (pda_cons pd_int pda_nil))) pd_int)))) (pss_1 (psd_ret (pd_add true (pd_tup (pda_cons (pd_ix (pd_v 1) pd_int) (pda_cons (pd_ix (pd_lst false (pda_cons (pd_v 2) (pda_cons (pd_sub (pd_powW pd_int pd_int) pd_int) pda_nil))) (pd_call false c_law_take hr (by decide) hgd (pda_cons (pd_v 0) (pda_cons pd_int pda_nil)))) pda_nil))) (pd_sl false (pd_v 1) (po_s pd_int) po_n)))) pss_n)
    (pss_1 (psd_ret (pd_v 1))))))
theorem sc_span_fault : FnScope ["first", "last"] ["first", "last"] (defScope s_span_fault) :=
  ⟨rfl, rfl, rfl, by decide +kernel, rfl, by decide +kernel, by decide +kernel⟩
noncomputable def b_span_fault : SM :=
    (sSeq (sIf (tNt (tV (eCall m_is_byte false (aC (eV 0) aN)))) (sRet (eC (.int 0))) sNx)
    (sSeq (sIf (tOo (tB (e2 (isG false) (eV 1) (eC .non))) (tAn (tV (eCall m_is_byte false (aC (eV 1) aN))) (tB (e2 (geG) (eV 1) (eV 0))))) (sRet (eC .non)) sNx)
    (sRet (eC (.int 1)))))
noncomputable def m_span_fault : FnM := fnM 2 2 b_span_fault
theorem ok_span_fault (T : Txt K w mg) {f : Addr} {fd : FuncData} (F : Fun K "span_fault" "span_fault" s_span_fault f fd) (hm : mg "span_fault" = some (.ref f)) (hb : Binds K fd ["first", "last"] []) (c_is_byte : CalD P w K mg base 2 "is_byte" m_is_byte) :
    CalD P w K mg base 3 "span_fault" m_span_fault :=
  calD_of (k := 2) F hm hb sc_span_fault fun cdv A outer s H E hgd hr =>
    (pss_c (psd_if (pt_nt (pt_v (pd_call false c_is_byte hr (by decide) hgd (pda_cons (pd_v 0) pda_nil)))) (pss_1 (psd_ret pd_int)) pss_n)
    (pss_c (psd_if (pt_w (pw_o (pt_is (pd_v 1) pd_non) (pw_o1 (pt_w (pw_a (pt_v (pd_call false c_is_byte hr (by decide) hgd (pda_cons (pd_v 1) pda_nil))) (pw_a1 (pt_ge (pd_v 1) (pd_v 0)))))))) (pss_1 (psd_ret pd_non)) pss_n)
    (pss_1 (psd_ret pd_int))))
theorem sc_is_level : FnScope ["thing"] ["thing"] (defScope s_is_level) :=
  ⟨rfl, rfl, rfl, by decide +kernel, rfl, by decide +kernel, by decide +kernel⟩
noncomputable def b_is_level : SM :=
    (sRet (eCall m_is_between true (aC (eV 0) (aC (eC (.int 0)) (aC (eC (.int 2)) aN)))))
noncomputable def m_is_level : FnM := fnM 1 1 b_is_level
theorem ok_is_level (T : Txt K w mg) {f : Addr} {fd : FuncData} (F : Fun K "is_level" "is_level" s_is_level f fd) (hm : mg "is_level" = some (.ref f)) (hb : Binds K fd ["thing"] []) (c_is_between : CalD P w K mg base 2 "is_between" m_is_between) :
    CalD P w K mg base 3 "is_level" m_is_level :=
  calD_of (k := 2) F hm hb sc_is_level fun cdv A outer s H E hgd hr =>
    (pss_1 (psd_ret (pd_call true c_is_between hr (by decide) hgd (pda_cons (pd_v 0) (pda_cons pd_int (pda_cons (pd_cint T.k_MOST_LEVEL) pda_nil))))))
theorem sc_is_descriptor : FnScope ["thing"] ["thing"] (defScope s_is_descriptor) :=
  ⟨rfl, rfl, rfl, by decide +kernel, rfl, by decide +kernel, by decide +kernel⟩
noncomputable def b_is_descriptor : SM :=
    (sRet (eCall m_is_between true (aC (eV 0) (aC (eC (.int 0)) (aC (eC (.int 15)) aN)))))
noncomputable def m_is_descriptor : FnM := fnM 1 1 b_is_descriptor
theorem ok_is_descriptor (T : Txt K w mg) {f : Addr} {fd : FuncData} (F : Fun K "is_descriptor" "is_descriptor" s_is_descriptor f fd) (hm : mg "is_descriptor" = some (.ref f)) (hb : Binds K fd ["thing"] []) (c_is_between : CalD P w K mg base 2 "is_between" m_is_between) :
    CalD P w K mg base 3 "is_descriptor" m_is_descriptor :=
  calD_of (k := 2) F hm hb sc_is_descriptor fun cdv A outer s H E hgd hr =>
    (pss_1 (psd_ret (pd_call true c_is_between hr (by decide) hgd (pda_cons (pd_v 0) (pda_cons pd_int (pda_cons (pd_cint T.k_MOST_DESCRIPTOR) pda_nil))))))
theorem sc_number_in : FnScope ["word", ".0", "sign"] ["word"] (defScope s_number_in) :=
  ⟨rfl, rfl, rfl, by decide +kernel, rfl, by decide +kernel, by decide +kernel⟩
noncomputable def b_number_in : SM :=
    (sSeq (sIf (tOo (tNt (tB (eCh (leG) (leG) (eC (.int 1)) (eA lenG (aC (eV 0) aN)) (eC (.int 40))))) (tNt (tV (eA allG (aC (eLC false (iStS (eV 0)) (gNm 2) tTr (e2 (inSgG false) (eV 2) (eC (.str "0123456789"))) [1, 2]) aN))))) (sRs0 "NoText") sNx)
    (sSeq (sIf (tAn (tB (e2 (eqG false) (e2 ixG (eV 0) (eC (.int 0))) (eC (.str "0")))) (tB (e2 (eqG true) (eV 0) (eC (.str "0"))))) (sRs0 "NoText") sNx)
    (sRet (eA intTG (aC (eV 0) aN)))))
noncomputable def m_number_in : FnM := fnM 1 3 b_number_in
theorem ok_number_in (T : Txt K w mg) {f : Addr} {fd : FuncData} (F : Fun K "number_in" "number_in" s_number_in f fd) (hm : mg "number_in" = some (.ref f)) (hb : Binds K fd ["word"] []) (XI_NoText : ExI P w K mg base 1 "NoText") :
    CalD P w K mg base 3 "number_in" m_number_in :=
  calD_of (k := 2) F hm hb sc_number_in fun cdv A outer s H E hgd hr =>
    (pss_c (psd_if (pt_w (pw_o (pt_nt (pt_ch op_le op_le cmp_ok cmp_ok pd_int (pd_callB call_len len_ok T.n_len PySem.boot_len (pda_cons (pd_v 0) pda_nil)) (pd_cint T.k_MOST_DIGITS))) (pw_o1 (pt_nt (pt_v (pd_callB (cr_all rfl) all_ok T.n_all PyProof.Rows.boot_all (pda_cons (pd_lc false rfl sc_number_in.nd (pid_sgn (pd_v 0)) (blkOk_by (own := [(".0", 1), ("sign", 2)]) (by kernel_rfl)) (fun _ _ _ _ _ => (pgd_name (i := 2) sc_number_in.nd)) (fun _ _ _ _ _ => pts_n) (fun _ _ _ _ _ => (pd_inSg (pd_v 2) (pd_cstr T.k_DIGITS)))) pda_nil))))))) (pss_1 (psd_raise0 rfl (takes_of rfl rfl rfl rfl) (pmk_exi XI_NoText (hr.mono (by decide))))) pss_n)
    (pss_c (psd_if (pt_w (pw_a (pt_eq hr.units (pd_ix (pd_v 0) pd_int) pd_str) (pw_a1 (pt_ne hr.units (pd_v 0) pd_str)))) (pss_1 (psd_raise0 rfl (takes_of rfl rfl rfl rfl) (pmk_exi XI_NoText (hr.mono (by decide))))) pss_n)
    (pss_1 (psd_ret (pd_callTy call_int_str intT_ok T.n_int PyProof.Rows.boot_int (pda_cons (pd_v 0) pda_nil))))))
theorem sc_level_of : FnScope ["word"] ["word"] (defScope s_level_of) :=
  ⟨rfl, rfl, rfl, by decide +kernel, rfl, by decide +kernel, by decide +kernel⟩
noncomputable def b_level_of : SM :=
    (sSeq (sIf (tB (e2 (inKG "LEVELS" [.inr "none", .inr "read", .inr "write"] true) (eV 0) (eC (.cls "LEVELS")))) (sRs0 "NoText") sNx)
    (sRet (eMtK "LEVELS" [.inr "none", .inr "read", .inr "write"] (eC (.cls "LEVELS")) (aC (eV 0) aN))))
noncomputable def m_level_of : FnM := fnM 1 1 b_level_of
theorem ok_level_of (T : Txt K w mg) {f : Addr} {fd : FuncData} (F : Fun K "level_of" "level_of" s_level_of f fd) (hm : mg "level_of" = some (.ref f)) (hb : Binds K fd ["word"] []) (XI_NoText : ExI P w K mg base 1 "NoText") :
    CalD P w K mg base 3 "level_of" m_level_of :=
  calD_of (k := 2) F hm hb sc_level_of fun cdv A outer s H E hgd hr =>
    (pss_c (psd_if (pt_notInK T.t_LEVELS (pd_v 0) (pd_cls T.g_LEVELS)) (pss_1 (psd_raise0 rfl (takes_of rfl rfl rfl rfl) (pmk_exi XI_NoText (hr.mono (by decide))))) pss_n)
    (pss_1 (psd_ret (pd_tupIxK T.t_LEVELS T.td_LEVELS (pd_cls T.g_LEVELS) (pda_cons (pd_v 0) pda_nil)))))
theorem sc_is_span : FnScope ["thing"] ["thing"] (defScope s_is_span) :=
  ⟨rfl, rfl, rfl, by decide +kernel, rfl, by decide +kernel, by decide +kernel⟩
noncomputable def b_is_span : SM :=
    (sRet (eAnd (eA isiG (aC (eV 0) (aC (eC (.ty "tuple")) aN))) (eAnd (e2 (eqG false) (eA lenG (aC (eV 0) aN)) (eC (.int 2))) (e2 (isG false) (eCall m_span_fault false (aC (e2 ixG (eV 0) (eC (.int 0))) (aC (e2 ixG (eV 0) (eC (.int 1))) aN))) (eC .non)))))
noncomputable def m_is_span : FnM := fnM 1 1 b_is_span
theorem ok_is_span (T : Txt K w mg) {f : Addr} {fd : FuncData} (F : Fun K "is_span" "is_span" s_is_span f fd) (hm : mg "is_span" = some (.ref f)) (hb : Binds K fd ["thing"] []) (c_span_fault : CalD P w K mg base 3 "span_fault" m_span_fault) :
    CalD P w K mg base 4 "is_span" m_is_span :=
  calD_of (k := 3) F hm hb sc_is_span fun cdv A outer s H E hgd hr =>
    (pss_1 (psd_ret (pd_and (pd_callB call_isi isi_ok T.n_isinstance PyProof.Rows.boot_isinstance (pda_cons (pd_v 0) (pda_cons (pd_ty T.n_tuple PyProof.Rows.boot_tuple) pda_nil))) (pd_and (pd_eq hr.units (pd_callB call_len len_ok T.n_len PySem.boot_len (pda_cons (pd_v 0) pda_nil)) pd_int) (pd_one (pd_is (pd_call false c_span_fault hr (by decide) hgd (pda_cons (pd_ix (pd_v 0) pd_int) (pda_cons (pd_ix (pd_v 0) pd_int) pda_nil))) pd_non))))))
theorem sc_is_part : FnScope ["kind", "thing"] ["kind", "thing"] (defScope s_is_part) :=
  ⟨rfl, rfl, rfl, by decide +kernel, rfl, by decide +kernel, by decide +kernel⟩
noncomputable def b_is_part : SM :=
    (sSeq (sIf (tB (e2 (eqG false) (eV 0) (eC (.str "p")))) (sRet (eCall m_is_byte true (aC (eV 1) aN))) sNx)
    (sSeq (sIf (tB (e2 (eqG false) (eV 0) (eC (.str "f")))) (sRet (eCall m_is_name true (aC (eV 1) aN))) sNx)
    (sSeq (sIf (tB (e2 (eqG false) (eV 0) (eC (.str "d")))) (sRet (eCall m_is_descriptor true (aC (eV 1) aN))) sNx)
    (sSeq (sIf (tB (e2 (eqG false) (eV 0) (eC (.str "t")))) (sRet (eOr (e2 (isG false) (eV 1) (eC .non)) (eCall m_is_descriptor false (aC (eV 1) aN)))) sNx)
    (sSeq (sIf (tB (e2 (eqG false) (eV 0) (eC (.str "l")))) (sRet (eCall m_is_level true (aC (eV 1) aN))) sNx)
    (sRet (eA isiG (aC (eV 1) (aC (eC (.ty "bool")) aN)))))))))
noncomputable def m_is_part : FnM := fnM 2 2 b_is_part
theorem ok_is_part (T : Txt K w mg) {f : Addr} {fd : FuncData} (F : Fun K "is_part" "is_part" s_is_part f fd) (hm : mg "is_part" = some (.ref f)) (hb : Binds K fd ["kind", "thing"] []) (c_is_level : CalD P w K mg base 3 "is_level" m_is_level) (c_is_descriptor : CalD P w K mg base 3 "is_descriptor" m_is_descriptor) (c_is_name : CalD P w K mg base 1 "is_name" m_is_name) (c_is_byte : CalD P w K mg base 2 "is_byte" m_is_byte) :
    CalD P w K mg base 4 "is_part" m_is_part :=
  calD_of (k := 3) F hm hb sc_is_part fun cdv A outer s H E hgd hr =>
    (pss_c (psd_if (pt_eq hr.units (pd_v 0) pd_str) (pss_1 (psd_ret (pd_call true c_is_byte hr (by decide) hgd (pda_cons (pd_v 1) pda_nil)))) pss_n)
    (pss_c (psd_if (pt_eq hr.units (pd_v 0) pd_str) (pss_1 (psd_ret (pd_call true c_is_name hr (by decide) hgd (pda_cons (pd_v 1) pda_nil)))) pss_n)
    (pss_c (psd_if (pt_eq hr.units (pd_v 0) pd_str) (pss_1 (psd_ret (pd_call true c_is_descriptor hr (by decide) hgd (pda_cons (pd_v 1) pda_nil)))) pss_n)
    (pss_c (psd_if (pt_eq hr.units (pd_v 0) pd_str) (pss_1 (psd_ret (pd_or (pd_is (pd_v 1) pd_non) (pd_one (pd_call false c_is_descriptor hr (by decide) hgd (pda_cons (pd_v 1) pda_nil)))))) pss_n)
    (pss_c (psd_if (pt_eq hr.units (pd_v 0) pd_str) (pss_1 (psd_ret (pd_call true c_is_level hr (by decide) hgd (pda_cons (pd_v 1) pda_nil)))) pss_n)
    (pss_1 (psd_ret (pd_callB call_isi isi_ok T.n_isinstance PyProof.Rows.boot_isinstance (pda_cons (pd_v 1) (pda_cons (pd_ty T.n_bool PyProof.Rows.boot_bool) pda_nil))))))))))
theorem sc_last_of : FnScope ["word"] ["word"] (defScope s_last_of) :=
  ⟨rfl, rfl, rfl, by decide +kernel, rfl, by decide +kernel, by decide +kernel⟩
noncomputable def b_last_of : SM :=
    (sRet (eIf (tB (e2 (eqG false) (eV 0) (eC (.str "end")))) (eC .non) (eCallX m_number_in true (aC (eV 0) aN))))
noncomputable def m_last_of : FnM := fnM 1 1 b_last_of
theorem ok_last_of (T : Txt K w mg) {f : Addr} {fd : FuncData} (F : Fun K "last_of" "last_of" s_last_of f fd) (hm : mg "last_of" = some (.ref f)) (hb : Binds K fd ["word"] []) (c_number_in : CalD P w K mg base 3 "number_in" m_number_in) :
    CalD P w K mg base 4 "last_of" m_last_of :=
  calD_of (k := 3) F hm hb sc_last_of fun cdv A outer s H E hgd hr =>
    (pss_1 (psd_ret (pd_if (pt_eq hr.units (pd_v 0) (pd_cstr T.k_END)) pd_non (pd_callX true (takes_of rfl rfl rfl rfl) c_number_in hr (by decide) hgd (pda_cons (pd_v 0) pda_nil)))))
theorem sc_whole_in : FnScope ["words"] ["words"] (defScope s_whole_in) :=
  ⟨rfl, rfl, rfl, by decide +kernel, rfl, by decide +kernel, by decide +kernel⟩
noncomputable def b_whole_in : SM :=
    (sSeq (sIf (tB (e2 (ltG) (eA lenG (aC (eV 0) aN)) (eC (.int 4)))) (sRs0 "NoText") sNx)
    (sRet (eA newT (aC (eC (.str "whole")) (aC (eCallX m_number_in false (aC (e2 ixG (eV 0) (eC (.int 1))) aN)) (aC (eCallX m_number_in false (aC (e2 ixG (eV 0) (eC (.int 2))) aN)) (aC (eCallX m_level_of false (aC (e2 ixG (eV 0) (eC (.int 3))) aN)) (aC (e2 (inG [] false) (eC (.str "wait")) (eSl false (eV 0) (pS (eC (.int 4))) pN)) aN))))))))
noncomputable def m_whole_in : FnM := fnM 1 1 b_whole_in
theorem ok_whole_in (T : Txt K w mg) {f : Addr} {fd : FuncData} (F : Fun K "whole_in" "whole_in" s_whole_in f fd) (hm : mg "whole_in" = some (.ref f)) (hb : Binds K fd ["words"] []) (c_level_of : CalD P w K mg base 3 "level_of" m_level_of) (c_number_in : CalD P w K mg base 3 "number_in" m_number_in) (XI_NoText : ExI P w K mg base 1 "NoText") :
    CalD P w K mg base 4 "whole_in" m_whole_in :=
  calD_of (k := 3) F hm hb sc_whole_in fun cdv A outer s H E hgd hr =>
    (pss_c (psd_if (pt_lt (pd_callB call_len len_ok T.n_len PySem.boot_len (pda_cons (pd_v 0) pda_nil)) pd_int) (pss_1 (psd_raise0 rfl (takes_of rfl rfl rfl rfl) (pmk_exi XI_NoText (hr.mono (by decide))))) pss_n)
    (pss_1 (psd_ret (pd_tup (pda_cons pd_str (pda_cons (pd_callX false (takes_of rfl rfl rfl rfl) c_number_in hr (by decide) hgd (pda_cons (pd_ix (pd_v 0) pd_int) pda_nil)) (pda_cons (pd_callX false (takes_of rfl rfl rfl rfl) c_number_in hr (by decide) hgd (pda_cons (pd_ix (pd_v 0) pd_int) pda_nil)) (pda_cons (pd_callX false (takes_of rfl rfl rfl rfl) c_level_of hr (by decide) hgd (pda_cons (pd_ix (pd_v 0) pd_int) pda_nil)) (pda_cons (pd_in (ops_nil (k := 0)) (hr.mono (by decide)) hgd (u65 hr) (pd_cstr T.k_WAIT) (pd_sl false (pd_v 0) (po_s pd_int) po_n)) pda_nil)))))))))
theorem sc_dup_in : FnScope ["words"] ["words"] (defScope s_dup_in) :=
  ⟨rfl, rfl, rfl, by decide +kernel, rfl, by decide +kernel, by decide +kernel⟩
noncomputable def b_dup_in : SM :=
    (sSeq (sIf (tB (e2 (inTpG true) (eA lenG (aC (eV 0) aN)) (eA newT (aC (eC (.int 3)) (aC (eC (.int 5)) aN))))) (sRs0 "NoText") sNx)
    (sRet (eA newT (aC (eC (.str "dup")) (aC (eCallX m_number_in false (aC (e2 ixG (eV 0) (eC (.int 1))) aN)) (aC (eCallX m_number_in false (aC (e2 ixG (eV 0) (eC (.int 2))) aN)) (aC (eIf (tB (e2 (eqG false) (eA lenG (aC (eV 0) aN)) (eC (.int 3)))) (eC .non) (eCallX m_number_in false (aC (e2 ixG (eV 0) (eC (.int 4))) aN))) aN)))))))
noncomputable def m_dup_in : FnM := fnM 1 1 b_dup_in
theorem ok_dup_in (T : Txt K w mg) {f : Addr} {fd : FuncData} (F : Fun K "dup_in" "dup_in" s_dup_in f fd) (hm : mg "dup_in" = some (.ref f)) (hb : Binds K fd ["words"] []) (c_number_in : CalD P w K mg base 3 "number_in" m_number_in) (XI_NoText : ExI P w K mg base 1 "NoText") :
    CalD P w K mg base 4 "dup_in" m_dup_in :=
  calD_of (k := 3) F hm hb sc_dup_in fun cdv A outer s H E hgd hr =>
    (pss_c (psd_if (pt_notInTp (pd_callB call_len len_ok T.n_len PySem.boot_len (pda_cons (pd_v 0) pda_nil)) (pd_tup (pda_cons pd_int (pda_cons pd_int pda_nil)))) (pss_1 (psd_raise0 rfl (takes_of rfl rfl rfl rfl) (pmk_exi XI_NoText (hr.mono (by decide))))) pss_n)
    (pss_1 (psd_ret (pd_tup (pda_cons pd_str (pda_cons (pd_callX false (takes_of rfl rfl rfl rfl) c_number_in hr (by decide) hgd (pda_cons (pd_ix (pd_v 0) pd_int) pda_nil)) (pda_cons (pd_callX false (takes_of rfl rfl rfl rfl) c_number_in hr (by decide) hgd (pda_cons (pd_ix (pd_v 0) pd_int) pda_nil)) (pda_cons (pd_if (pt_eq hr.units (pd_callB call_len len_ok T.n_len PySem.boot_len (pda_cons (pd_v 0) pda_nil)) pd_int) pd_non (pd_callX false (takes_of rfl rfl rfl rfl) c_number_in hr (by decide) hgd (pda_cons (pd_ix (pd_v 0) pd_int) pda_nil))) pda_nil))))))))
theorem sc_is_lock : FnScope ["thing"] ["thing"] (defScope s_is_lock) :=
  ⟨rfl, rfl, rfl, by decide +kernel, rfl, by decide +kernel, by decide +kernel⟩
noncomputable def b_is_lock : SM :=
    (sSeq (sIf (tOo (tNt (tV (eCall m_is_byte false (aC (e2 ixG (eV 0) (eC (.int 1))) aN)))) (tOo (tNt (tV (eCall m_is_descriptor false (aC (e2 ixG (eV 0) (eC (.int 2))) aN)))) (tOo (tNt (tV (eCall m_is_level false (aC (e2 ixG (eV 0) (eC (.int 3))) aN)))) (tNt (tV (eCall m_is_span false (aC (eSl false (eV 0) (pS (eC (.int 4))) (pS (eC (.int 6)))) aN))))))) (sRet (eC (.bl false))) sNx)
    (sRet (eAnd (eA isiG (aC (e2 ixG (eV 0) (eC (.int 6))) (aC (eC (.ty "str")) aN))) (eAnd (e2 (inKG "OWNER_WORDS" [.inr "process", .inr "open"] false) (e2 ixG (eV 0) (eC (.int 6))) (eC (.cls "OWNER_WORDS"))) (eA isiG (aC (e2 ixG (eV 0) (eC (.int 7))) (aC (eC (.ty "bool")) aN)))))))
noncomputable def m_is_lock : FnM := fnM 1 1 b_is_lock
theorem ok_is_lock (T : Txt K w mg) {f : Addr} {fd : FuncData} (F : Fun K "is_lock" "is_lock" s_is_lock f fd) (hm : mg "is_lock" = some (.ref f)) (hb : Binds K fd ["thing"] []) (c_is_span : CalD P w K mg base 4 "is_span" m_is_span) (c_is_level : CalD P w K mg base 3 "is_level" m_is_level) (c_is_descriptor : CalD P w K mg base 3 "is_descriptor" m_is_descriptor) (c_is_byte : CalD P w K mg base 2 "is_byte" m_is_byte) :
    CalD P w K mg base 5 "is_lock" m_is_lock :=
  calD_of (k := 4) F hm hb sc_is_lock fun cdv A outer s H E hgd hr =>
    (pss_c (psd_if (pt_w (pw_o (pt_nt (pt_v (pd_call false c_is_byte hr (by decide) hgd (pda_cons (pd_ix (pd_v 0) pd_int) pda_nil)))) (pw_o (pt_nt (pt_v (pd_call false c_is_descriptor hr (by decide) hgd (pda_cons (pd_ix (pd_v 0) pd_int) pda_nil)))) (pw_o (pt_nt (pt_v (pd_call false c_is_level hr (by decide) hgd (pda_cons (pd_ix (pd_v 0) pd_int) pda_nil)))) (pw_o1 (pt_nt (pt_v (pd_call false c_is_span hr (by decide) hgd (pda_cons (pd_sl false (pd_v 0) (po_s pd_int) (po_s pd_int)) pda_nil))))))))) (pss_1 (psd_ret pd_bl)) pss_n)
    (pss_1 (psd_ret (pd_and (pd_callB call_isi isi_ok T.n_isinstance PyProof.Rows.boot_isinstance (pda_cons (pd_ix (pd_v 0) pd_int) (pda_cons (pd_ty T.n_str PyProof.Rows.boot_str) pda_nil))) (pd_and (pd_inK T.t_OWNER_WORDS (pd_ix (pd_v 0) pd_int) (pd_cls T.g_OWNER_WORDS)) (pd_one (pd_callB call_isi isi_ok T.n_isinstance PyProof.Rows.boot_isinstance (pda_cons (pd_ix (pd_v 0) pd_int) (pda_cons (pd_ty T.n_bool PyProof.Rows.boot_bool) pda_nil)))))))))
theorem sc_lock_in : FnScope ["words", "numbers", "whose"] ["words"] (defScope s_lock_in) :=
  ⟨rfl, rfl, rfl, by decide +kernel, rfl, by decide +kernel, by decide +kernel⟩
noncomputable def b_lock_in : SM :=
    (sSeq (sIf (tB (e2 (ltG) (eA lenG (aC (eV 0) aN)) (eC (.int 6)))) (sRs0 "NoText") sNx)
    (sSeq (sSet 1 (eA newT (aC (eCallX m_number_in false (aC (e2 ixG (eV 0) (eC (.int 1))) aN)) (aC (eCallX m_number_in false (aC (e2 ixG (eV 0) (eC (.int 2))) aN)) (aC (eCallX m_level_of false (aC (e2 ixG (eV 0) (eC (.int 3))) aN)) (aC (eCallX m_number_in false (aC (e2 ixG (eV 0) (eC (.int 4))) aN)) (aC (eCallX m_last_of false (aC (e2 ixG (eV 0) (eC (.int 5))) aN)) aN)))))))
    (sSeq (sSet 2 (eIf (tB (e2 (inG [] false) (eC (.str "open")) (eSl false (eV 0) (pS (eC (.int 6))) pN))) (eC (.str "open")) (eC (.str "process"))))
    (sRet (e2 (addG true) (e2 (addG false) (eA newT (aC (eC (.str "lock")) aN)) (eV 1)) (eA newT (aC (eV 2) (aC (e2 (inG [] false) (eC (.str "wait")) (eSl false (eV 0) (pS (eC (.int 6))) pN)) aN))))))))
noncomputable def m_lock_in : FnM := fnM 1 3 b_lock_in
theorem ok_lock_in (T : Txt K w mg) {f : Addr} {fd : FuncData} (F : Fun K "lock_in" "lock_in" s_lock_in f fd) (hm : mg "lock_in" = some (.ref f)) (hb : Binds K fd ["words"] []) (c_last_of : CalD P w K mg base 4 "last_of" m_last_of) (c_number_in : CalD P w K mg base 3 "number_in" m_number_in) (c_level_of : CalD P w K mg base 3 "level_of" m_level_of) (XI_NoText : ExI P w K mg base 1 "NoText") :
    CalD P w K mg base 5 "lock_in" m_lock_in :=
  calD_of (k := 4) F hm hb sc_lock_in fun cdv A outer s H E hgd hr =>
    (pss_c (psd_if (pt_lt (pd_callB call_len len_ok T.n_len PySem.boot_len (pda_cons (pd_v 0) pda_nil)) pd_int) (pss_1 (psd_raise0 rfl (takes_of rfl rfl rfl rfl) (pmk_exi XI_NoText (hr.mono (by decide))))) pss_n)
    (pss_c (psd_set (i := 1) sc_lock_in.nd (pd_tup (pda_cons (pd_callX false (takes_of rfl rfl rfl rfl) c_number_in hr (by decide) hgd (pda_cons (pd_ix (pd_v 0) pd_int) pda_nil)) (pda_cons (pd_callX false (takes_of rfl rfl rfl rfl) c_number_in hr (by decide) hgd (pda_cons (pd_ix (pd_v 0) pd_int) pda_nil)) (pda_cons (pd_callX false (takes_of rfl rfl rfl rfl) c_level_of hr (by decide) hgd (pda_cons (pd_ix (pd_v 0) pd_int) pda_nil)) (pda_cons (pd_callX false (takes_of rfl rfl rfl rfl) c_number_in hr (by decide) hgd (pda_cons (pd_ix (pd_v 0) pd_int) pda_nil)) (pda_cons (pd_callX false (takes_of rfl rfl rfl rfl) c_last_of hr (by decide) hgd (pda_cons (pd_ix (pd_v 0) pd_int) pda_nil)) pda_nil)))))))
    (pss_c (psd_set (i := 2) sc_lock_in.nd (pd_if (pt_in (ops_nil (k := 0)) (hr.mono (by decide)) hgd (u65 hr) (pd_cstr T.k_OPEN) (pd_sl false (pd_v 0) (po_s pd_int) po_n)) (pd_cstr T.k_OPEN) pd_str))
    (pss_1 (psd_ret (pd_add true (pd_add false (pd_tup (pda_cons pd_str pda_nil)) (pd_v 1)) (pd_tup (pda_cons (pd_v 2) (pda_cons (pd_in (ops_nil (k := 0)) (hr.mono (by decide)) hgd (u65 hr) (pd_cstr T.k_WAIT) (pd_sl false (pd_v 0) (po_s pd_int) po_n)) pda_nil)))))))))
theorem sc_is_deed : FnScope ["thing", "kinds", ".0", "kind", "part"] ["thing"] (defScope s_is_deed) :=
  ⟨rfl, rfl, rfl, by decide +kernel, rfl, by decide +kernel, by decide +kernel⟩
noncomputable def b_is_deed : SM :=
    (sSeq (sIf (tOo (tNt (tV (eA isiG (aC (eV 0) (aC (eC (.ty "tuple")) aN))))) (tOo (tB (e2 eqT0G (eV 0) (eA newT aN))) (tOo (tNt (tV (eA isiG (aC (e2 ixG (eV 0) (eC (.int 0))) (aC (eC (.ty "str")) aN))))) (tB (e2 (inCDG "PARTS" [("start", ""), ("fork", "p"), ("open", "pf"), ("dup", "pdt"), ("close", "pd"), ("end", "p"), ("lock", "pdlseow"), ("whole", "pdlw"), ("give up", "p")] true) (e2 ixG (eV 0) (eC (.int 0))) (eC (.cls "PARTS"))))))) (sRet (eC (.bl false))) sNx)
    (sSeq (sSet 1 (e2 (ixCDG "PARTS" [("start", ""), ("fork", "p"), ("open", "pf"), ("dup", "pdt"), ("close", "pd"), ("end", "p"), ("lock", "pdlseow"), ("whole", "pdlw"), ("give up", "p")]) (eC (.cls "PARTS")) (e2 ixG (eV 0) (eC (.int 0)))))
    (sSeq (sIf (tB (e2 (eqG true) (eA lenG (aC (eV 0) aN)) (e2 (addG false) (eC (.int 1)) (eA lenG (aC (eV 1) aN))))) (sRet (eC (.bl false))) sNx)
    (sSeq (sIf (tB (e2 (eqG false) (e2 ixG (eV 0) (eC (.int 0))) (eC (.str "lock")))) (sRet (eCall m_is_lock true (aC (eV 0) aN))) sNx)
    (sRet (eA allG (aC (eLC false (iZs (aC (eV 1) (aC (eSl false (eV 0) (pS (eC (.int 1))) pN) aN))) (gTu 2 (gCs (gNm 3) (gCs (gNm 4) gNl))) tTr (eCall m_is_part false (aC (eV 3) (aC (eV 4) aN))) [2, 3, 4]) aN)))))))
noncomputable def m_is_deed : FnM := fnM 1 5 b_is_deed
theorem ok_is_deed (T : Txt K w mg) {f : Addr} {fd : FuncData} (F : Fun K "is_deed" "is_deed" s_is_deed f fd) (hm : mg "is_deed" = some (.ref f)) (hb : Binds K fd ["thing"] []) (c_is_part : CalD P w K mg base 4 "is_part" m_is_part) (c_is_lock : CalD P w K mg base 5 "is_lock" m_is_lock) :
    CalD P w K mg base 6 "is_deed" m_is_deed :=
  calD_of (k := 5) F hm hb sc_is_deed fun cdv A outer s H E hgd hr =>
    (pss_c (psd_if (pt_w (pw_o (pt_nt (pt_v (pd_callB call_isi isi_ok T.n_isinstance PyProof.Rows.boot_isinstance (pda_cons (pd_v 0) (pda_cons (pd_ty T.n_tuple PyProof.Rows.boot_tuple) pda_nil))))) (pw_o (pt_eqT0 hr.units (pd_v 0) (pd_tup pda_nil)) (pw_o (pt_nt (pt_v (pd_callB call_isi isi_ok T.n_isinstance PyProof.Rows.boot_isinstance (pda_cons (pd_ix (pd_v 0) pd_int) (pda_cons (pd_ty T.n_str PyProof.Rows.boot_str) pda_nil))))) (pw_o1 (pt_notInCD T.d_PARTS (pd_ix (pd_v 0) pd_int) (pd_cls T.g_PARTS))))))) (pss_1 (psd_ret pd_bl)) pss_n)
    (pss_c (psd_set (i := 1) sc_is_deed.nd (pd_ixCD T.d_PARTS (pd_cls T.g_PARTS) (pd_ix (pd_v 0) pd_int)))
    (pss_c (psd_if (pt_ne hr.units (pd_callB call_len len_ok T.n_len PySem.boot_len (pda_cons (pd_v 0) pda_nil)) (pd_add false pd_int (pd_callB call_len len_ok T.n_len PySem.boot_len (pda_cons (pd_v 1) pda_nil)))) (pss_1 (psd_ret pd_bl)) pss_n)
    (pss_c (psd_if (pt_eq hr.units (pd_ix (pd_v 0) pd_int) pd_str) (pss_1 (psd_ret (pd_call true c_is_lock hr (by decide) hgd (pda_cons (pd_v 0) pda_nil)))) pss_n)
    (pss_1 (psd_ret (pd_callB (cr_all rfl) all_ok T.n_all PyProof.Rows.boot_all (pda_cons (pd_lc false rfl sc_is_deed.nd (pid_zipS T.n_zip (pda_cons (pd_v 1) (pda_cons (pd_sl false (pd_v 0) (po_s pd_int) po_n) pda_nil))) (blkOk_by (own := [(".0", 2), ("kind", 3), ("part", 4)]) (by kernel_rfl)) (fun _ _ _ _ _ => (pgd_tup rfl (pgds_cons (pgd_name (i := 3) sc_is_deed.nd) (pgds_cons (pgd_name (i := 4) sc_is_deed.nd) pgds_nil)))) (fun _ _ _ _ _ => pts_n) (fun _ _ _ _ _ => (pd_call false c_is_part hr (by decide) hgd (pda_cons (pd_v 3) (pda_cons (pd_v 4) pda_nil))))) pda_nil))))))))
theorem sc_deed_in : FnScope ["words", ".0", "word"] ["words"] (defScope s_deed_in) :=
  ⟨rfl, rfl, rfl, by decide +kernel, rfl, by decide +kernel, by decide +kernel⟩
noncomputable def b_deed_in : SM :=
    (sSeq (sIf (tB (e2 (eqG false) (e2 ixG (eV 0) (eC (.int 0))) (eC (.str "lock")))) (sRet (eCallX m_lock_in true (aC (eV 0) aN))) sNx)
    (sSeq (sIf (tB (e2 (eqG false) (e2 ixG (eV 0) (eC (.int 0))) (eC (.str "whole")))) (sRet (eCallX m_whole_in true (aC (eV 0) aN))) sNx)
    (sSeq (sIf (tB (e2 (eqG false) (e2 ixG (eV 0) (eC (.int 0))) (eC (.str "dup")))) (sRet (eCallX m_dup_in true (aC (eV 0) aN))) sNx)
    (sSeq (sIf (tAn (tB (e2 (eqG false) (e2 ixG (eV 0) (eC (.int 0))) (eC (.str "open")))) (tB (e2 (eqG false) (eA lenG (aC (eV 0) aN)) (eC (.int 3))))) (sRet (eA newT (aC (eC (.str "open")) (aC (eCallX m_number_in false (aC (e2 ixG (eV 0) (eC (.int 1))) aN)) (aC (e2 ixG (eV 0) (eC (.int 2))) aN))))) sNx)
    (sSeq (sIf (tB (e2 (eqG false) (eSl false (eV 0) pN (pS (eC (.int 2)))) (eMt "str" splitG (eC (.str "give up")) (aC (eC (.str " ")) aN)))) (sRet (e2 (addG true) (eA newT (aC (eC (.str "give up")) aN)) (eA (tupleG) (aC (eLC false (iSeq (eSl false (eV 0) (pS (eC (.int 2))) pN)) (gNm 2) tTr (eCall m_number_in false (aC (eV 2) aN)) [1, 2]) aN)))) sNx)
    (sRet (e2 (addG true) (eA newT (aC (e2 ixG (eV 0) (eC (.int 0))) aN)) (eA (tupleG) (aC (eLC false (iSeq (eSl false (eV 0) (pS (eC (.int 1))) pN)) (gNm 2) tTr (eCall m_number_in false (aC (eV 2) aN)) [1, 2]) aN)))))))))
noncomputable def m_deed_in : FnM := fnM 1 3 b_deed_in
theorem ok_deed_in (T : Txt K w mg) {f : Addr} {fd : FuncData} (F : Fun K "deed_in" "deed_in" s_deed_in f fd) (hm : mg "deed_in" = some (.ref f)) (hb : Binds K fd ["words"] []) (c_number_in : CalD P w K mg base 3 "number_in" m_number_in) (c_dup_in : CalD P w K mg base 4 "dup_in" m_dup_in) (c_whole_in : CalD P w K mg base 4 "whole_in" m_whole_in) (c_lock_in : CalD P w K mg base 5 "lock_in" m_lock_in) :
    CalD P w K mg base 6 "deed_in" m_deed_in :=
  calD_of (k := 5) F hm hb sc_deed_in fun cdv A outer s H E hgd hr =>
    (pss_c (psd_if (pt_eq hr.units (pd_ix (pd_v 0) pd_int) pd_str) (pss_1 (psd_ret (pd_callX true (takes_of rfl rfl rfl rfl) c_lock_in hr (by decide) hgd (pda_cons (pd_v 0) pda_nil)))) pss_n)
    (pss_c (psd_if (pt_eq hr.units (pd_ix (pd_v 0) pd_int) pd_str) (pss_1 (psd_ret (pd_callX true (takes_of rfl rfl rfl rfl) c_whole_in hr (by decide) hgd (pda_cons (pd_v 0) pda_nil)))) pss_n)
    (pss_c (psd_if (pt_eq hr.units (pd_ix (pd_v 0) pd_int) pd_str) (pss_1 (psd_ret (pd_callX true (takes_of rfl rfl rfl rfl) c_dup_in hr (by decide) hgd (pda_cons (pd_v 0) pda_nil)))) pss_n)
    (pss_c (psd_if (pt_w (pw_a (pt_eq hr.units (pd_ix (pd_v 0) pd_int) pd_str) (pw_a1 (pt_eq hr.units (pd_callB call_len len_ok T.n_len PySem.boot_len (pda_cons (pd_v 0) pda_nil)) pd_int)))) (pss_1 (psd_ret (pd_tup (pda_cons pd_str (pda_cons (pd_callX false (takes_of rfl rfl rfl rfl) c_number_in hr (by decide) hgd (pda_cons (pd_ix (pd_v 0) pd_int) pda_nil)) (pda_cons (pd_ix (pd_v 0) pd_int) pda_nil)))))) pss_n)
    (pss_c (psd_if (pt_eq hr.units (pd_sl false (pd_v 0) po_n (po_s pd_int)) (pd_mt PySem.F.plainAttrs_str PySem.F.slot_str_split PySem.F.type_str_split mt_split split_ok (pd_cstr T.k_GIVE_UP) (pda_cons pd_str pda_nil))) (pss_1 (psd_ret (pd_add true (pd_tup (pda_cons (pd_cstr T.k_GIVE_UP) pda_nil)) (pd_callTy call_tuple_of (tuple_ok) T.n_tuple PyProof.Rows.boot_tuple (pda_cons (pd_lc false rfl sc_deed_in.nd (pid_seq (pd_sl false (pd_v 0) (po_s pd_int) po_n)) (blkOk_by (own := [(".0", 1), ("word", 2)]) (by kernel_rfl)) (fun _ _ _ _ _ => (pgd_name (i := 2) sc_deed_in.nd)) (fun _ _ _ _ _ => pts_n) (fun _ _ _ _ _ => (pd_call false c_number_in hr (by decide) hgd (pda_cons (pd_v 2) pda_nil)))) pda_nil))))) pss_n)
    (pss_1 (psd_ret (pd_add true (pd_tup (pda_cons (pd_ix (pd_v 0) pd_int) pda_nil)) (pd_callTy call_tuple_of (tuple_ok) T.n_tuple PyProof.Rows.boot_tuple (pda_cons (pd_lc false rfl sc_deed_in.nd (pid_seq (pd_sl false (pd_v 0) (po_s pd_int) po_n)) (blkOk_by (own := [(".0", 1), ("word", 2)]) (by kernel_rfl)) (fun _ _ _ _ _ => (pgd_name (i := 2) sc_deed_in.nd)) (fun _ _ _ _ _ => pts_n) (fun _ _ _ _ _ => (pd_call false c_number_in hr (by decide) hgd (pda_cons (pd_v 2) pda_nil)))) pda_nil))))))))))
theorem sc_read_deed : FnScope ["text", "deed"] ["text"] (defScope s_read_deed) :=
  ⟨rfl, rfl, rfl, by decide +kernel, rfl, by decide +kernel, by decide +kernel⟩
noncomputable def b_read_deed : SM :=
    (sSeq (sIf (tNt (tV (eA isiG (aC (eV 0) (aC (eC (.ty "str")) aN))))) (sRs0 "NoText") sNx)
    (sSeq (sSet 1 (eCallX m_deed_in false (aC (eMt "str" splitG (eV 0) (aC (eC (.str " ")) aN)) aN)))
    (sSeq (sIf (tOo (tNt (tV (eCall m_is_deed false (aC (eV 1) aN)))) (tB (e2 (eqG true) (eCall m_show_deed false (aC (eV 1) aN)) (eV 0)))) (sRs0 "NoText") sNx)
    (sRet (eV 1)))))
noncomputable def m_read_deed : FnM := fnM 1 2 b_read_deed
theorem ok_read_deed (T : Txt K w mg) {f : Addr} {fd : FuncData} (F : Fun K "read_deed" "read_deed" s_read_deed f fd) (hm : mg "read_deed" = some (.ref f)) (hb : Binds K fd ["text"] []) (c_show_deed : CalD P w K mg base 2 "show_deed" m_show_deed) (c_is_deed : CalD P w K mg base 6 "is_deed" m_is_deed) (XI_NoText : ExI P w K mg base 1 "NoText") (c_deed_in : CalD P w K mg base 6 "deed_in" m_deed_in) :
    CalD P w K mg base 7 "read_deed" m_read_deed :=
  calD_of (k := 6) F hm hb sc_read_deed fun cdv A outer s H E hgd hr =>
    (pss_c (psd_if (pt_nt (pt_v (pd_callB call_isi isi_ok T.n_isinstance PyProof.Rows.boot_isinstance (pda_cons (pd_v 0) (pda_cons (pd_ty T.n_str PyProof.Rows.boot_str) pda_nil))))) (pss_1 (psd_raise0 rfl (takes_of rfl rfl rfl rfl) (pmk_exi XI_NoText (hr.mono (by decide))))) pss_n)
    (pss_c (psd_set (i := 1) sc_read_deed.nd (pd_callX false (takes_of rfl rfl rfl rfl) c_deed_in hr (by decide) hgd (pda_cons (pd_mt PySem.F.plainAttrs_str PySem.F.slot_str_split PySem.F.type_str_split mt_split split_ok (pd_v 0) (pda_cons pd_str pda_nil)) pda_nil)))
    (pss_c (psd_if (pt_w (pw_o (pt_nt (pt_v (pd_call false c_is_deed hr (by decide) hgd (pda_cons (pd_v 1) pda_nil)))) (pw_o1 (pt_ne hr.units (pd_call false c_show_deed hr (by decide) hgd (pda_cons (pd_v 1) pda_nil)) (pd_v 0))))) (pss_1 (psd_raise0 rfl (takes_of rfl rfl rfl rfl) (pmk_exi XI_NoText (hr.mono (by decide))))) pss_n)
    (pss_1 (psd_ret (pd_v 1))))))
theorem sc_law_long_right : FnScope ["_law_deed_here"] [] (defScope s_law_long_right) :=
  ⟨rfl, rfl, rfl, by decide +kernel, rfl, by decide +kernel, by decide +kernel⟩
noncomputable def b_law_long_right : SM :=
    (sSeq (sSet 0 (eA newT (aC (eC (.str "lock")) (aC (eC (.int 0)) (aC (eC (.int 0)) (aC (eC (.int 1)) (aC (e2 powWG (eC (.int 10)) (eC (.int 40))) (aC (eC .non) (aC (eC (.str "process")) (aC (eC (.bl false)) aN))))))))))
    (sSeq (sIf (tNt (tV (eCall m_law_alike false (aC (eCall m_show_deed false (aC (eV 0) aN)) (aC (eCall m_law_text false (aC (eV 0) aN)) aN))))) (sRet (eC (.bl false))) sNx)
    (sSeq (sTryO [("NoText", true)] (sEx (eCallX m_read_deed false (aC (eCall m_law_text false (aC (eV 0) aN)) aN)))
    (sRet (eC (.bl true))))
    (sRet (eC (.bl false))))))
noncomputable def m_law_long_right : FnM := fnM 0 1 b_law_long_right
theorem ok_law_long_right (T : Txt K w mg) {f : Addr} {fd : FuncData} (F : Fun K "_law_long_right" "_law_long_right" s_law_long_right f fd) (hm : mg "_law_long_right" = some (.ref f)) (hb : Binds K fd [] []) (c_law_text : CalD P w K mg base 1 "_law_text" m_law_text) (c_read_deed : CalD P w K mg base 7 "read_deed" m_read_deed) (c_show_deed : CalD P w K mg base 2 "show_deed" m_show_deed) (c_law_alike : CalD P w K mg base 1 "_law_alike" m_law_alike) :
    CalD P w K mg base 8 "_law_long_right" m_law_long_right :=
  calD_of (k := 7) F hm hb sc_law_long_right fun cdv A outer s H E hgd hr =>
    (pss_c (psd_set (i := 0) sc_law_long_right.nd (pd_tup (pda_cons pd_str (pda_cons pd_int (pda_cons pd_int (pda_cons pd_int (pda_cons (pd_powW pd_int pd_int) (pda_cons pd_non (pda_cons pd_str (pda_cons pd_bl pda_nil))))))))))
    (pss_c (psd_if (pt_nt (pt_v (pd_call false c_law_alike hr (by decide) hgd (pda_cons (pd_call false c_show_deed hr (by decide) hgd (pda_cons (pd_v 0) pda_nil)) (pda_cons (pd_call false c_law_text hr (by decide) hgd (pda_cons (pd_v 0) pda_nil)) pda_nil))))) (pss_1 (psd_ret pd_bl)) pss_n)
    (pss_c (psd_try_only rfl rfl ⟨rfl, by decide, .inl T.g_NoText⟩ (takes_of rfl rfl rfl rfl) T.exm_NoText (fun W2 pn xe tk => (pss_1 (psd_expr (pd_callX false tk c_read_deed hr (by decide) hgd (pda_cons (pd_call false c_law_text hr (by decide) hgd (pda_cons (pd_v 0) pda_nil)) pda_nil)))))
    (fun a oe pn => (pss_1 (psd_ret pd_bl))))
    (pss_1 (psd_ret pd_bl)))))
theorem sc_law : FnScope ["_law_script", "_law_bag_here", "_law_files", "_law_seen", "_law_turn", "_law_deed_here", "_law_text_here", "_law_again"] ["_law_script"] (defScope s_law) :=
  ⟨rfl, rfl, rfl, by decide +kernel, rfl, by decide +kernel, by decide +kernel⟩
noncomputable def i_law_1 : SM :=
    (sIf (tB (e2 (eqG true) (eSetdK (eV 3) (eV 6) (eV 5)) (eV 5))) (sRet (eC (.bl false))) sNx)
noncomputable def i_law_2 : SM :=
    (sIf (tOo (tNt (tV (eCall m_law_alike false (aC (eCall m_show_deed false (aC (eV 5) aN)) (aC (eV 6) aN))))) (tNt (tV (eCall m_law_alike false (aC (eCallX m_read_deed false (aC (eV 6) aN)) (aC (eV 5) aN)))))) (sRet (eC (.bl false))) sNx)
noncomputable def f_law_1 : SM :=
    i_law_2
noncomputable def f_law_2 : SM :=
    (sSeq (sSet 5 (eCall m_law_far false (aC (eV 1) (aC (eCall m_law_deed false (aC (eV 1) (aC (eV 2) aN))) aN))))
    (sSeq (sSet 6 (eCall m_law_text false (aC (eV 5) aN)))
    (sSeq (sFor (iR1 (aC (eC (.int 2)) aN)) (gNm 7) f_law_1)
    i_law_1)))
noncomputable def b_law : SM :=
    (sSeq (sSet 1 (eCall m_law_bag true (aC (eV 0) aN)))
    (sSeq (sPar 2 3 (aC (eCall m_law_names false (aC (eV 1) (aC (eC (.int 3)) aN))) (aC (eDN true) aN)))
    (sSeq (sFor (iR1 (aC (eC (.int 20)) aN)) (gNm 4) f_law_2)
    (sRet (eCall0 m_law_long_right true)))))
noncomputable def m_law : FnM := fnM 1 8 b_law
theorem ok_law (T : Txt K w mg) {f : Addr} {fd : FuncData} (F : Fun K "law" "law" s_law f fd) (hm : mg "law" = some (.ref f)) (hb : Binds K fd ["_law_script"] []) (c_law_long_right : CalD P w K mg base 8 "_law_long_right" m_law_long_right) (c_read_deed : CalD P w K mg base 7 "read_deed" m_read_deed) (c_law_alike : CalD P w K mg base 1 "_law_alike" m_law_alike) (c_show_deed : CalD P w K mg base 2 "show_deed" m_show_deed) (c_law_text : CalD P w K mg base 1 "_law_text" m_law_text) (c_law_deed : CalD P w K mg base 2 "_law_deed" m_law_deed) (c_law_far : CalD P w K mg base 2 "_law_far" m_law_far) (c_law_names : CalD P w K mg base 2 "_law_names" m_law_names) (c_law_bag : CalD P w K mg base 1 "_law_bag" m_law_bag) :
    CalD P w K mg base 9 "law" m_law :=
  calD_of (k := 8) F hm hb sc_law fun cdv A outer s H E hgd hr =>
    (pss_c (psd_set (i := 1) sc_law.nd (pd_call true c_law_bag hr (by decide) hgd (pda_cons (pd_v 0) pda_nil)))
    (pss_c (psd_par (i := 2) (j := 3) rfl sc_law.nd (pda_cons (pd_call false c_law_names hr (by decide) hgd (pda_cons (pd_v 1) (pda_cons pd_int pda_nil))) (pda_cons (pd_dn true) pda_nil)))
    (pss_c (psd_for rfl (passes_of rfl) (pid_range1 T.n_range (pda_cons pd_int pda_nil)) (pgd_name (i := 4) sc_law.nd) (pss_c (psd_set (i := 5) sc_law.nd (pd_call false c_law_far hr (by decide) hgd (pda_cons (pd_v 1) (pda_cons (pd_call false c_law_deed hr (by decide) hgd (pda_cons (pd_v 1) (pda_cons (pd_v 2) pda_nil))) pda_nil))))
    (pss_c (psd_set (i := 6) sc_law.nd (pd_call false c_law_text hr (by decide) hgd (pda_cons (pd_v 5) pda_nil)))
    (pss_c (psd_for rfl (passes_of rfl) (pid_range1 T.n_range (pda_cons pd_int pda_nil)) (pgd_name (i := 7) sc_law.nd) (pss_1 (psd_if (pt_w (pw_o (pt_nt (pt_v (pd_call false c_law_alike hr (by decide) hgd (pda_cons (pd_call false c_show_deed hr (by decide) hgd (pda_cons (pd_v 5) pda_nil)) (pda_cons (pd_v 6) pda_nil))))) (pw_o1 (pt_nt (pt_v (pd_call false c_law_alike hr (by decide) hgd (pda_cons (pd_callX false (takes_of rfl rfl rfl rfl) c_read_deed hr (by decide) hgd (pda_cons (pd_v 6) pda_nil)) (pda_cons (pd_v 5) pda_nil)))))))) (pss_1 (psd_ret pd_bl)) pss_n)))
    (pss_1 (psd_if (pt_ne hr.units (pd_setdK (pd_v 3) (pd_v 6) (pd_v 5)) (pd_v 5)) (pss_1 (psd_ret pd_bl)) pss_n))))))
    (pss_1 (psd_ret (pd_call0 true c_law_long_right hr (by decide) hgd))))))
end
def oD : Option Int → D
  | none => .non
  | some i => .int i
abbrev spD (s : MA.Span) : D := .tup [.int s.1, oD s.2]
section
variable {S : Store} (wf : WF S)
include wf
end

theorem add_ff {S : Store} (c : Bool) {xs ys : List D} (h : xs.length + ys.length ≤ 16777216) : addG c (.fr (.lst xs)) (.fr (.lst ys)) S = (if c then .ok (.cell S.length, S ++ [.lst ((xs ++ ys).map SV.fr)]) else .ok (.fr (.lst (xs ++ ys)), S)) := by
  have hz := sizeLine_eq
  unfold addG
  simp only [rdL]
  unfold newL
  rw [if_pos (by simpa using (by omega : xs.length + ys.length ≤ sizeLine)), ← List.map_append, allFr_map]
theorem take_is : m_law_take = takeM := rfl
theorem bag_is : m_law_bag = bagM := rfl
theorem wfb (b : Bag) : WF [b.c] := by unfold WF; simp [Bag.c, Cell.below, SV.below]
theorem rng_len (a : Int) (n : Nat) : (rngS a n).length = n := by simp [rngS]
theorem fit_int {n : Nat} {i : Int} (h : i.natAbs < 10 ^ 129) : fit n (.int i) = true := by
  cases n <;> simp [fit, h]
section
variable {S : Store} (wf : WF S)
include wf
end

section
variable {S : Store} (wf : WF S)
include wf
end

section
variable {S : Store} (wf : WF S)
include wf
end

section
variable {S : Store} (wf : WF S)
include wf
end
structure Wk (F : List Int) (ss : List MB.St) : Prop where
  wf : MB.Wf 0 ss
  inn : ∀ b ∈ MB.ends ss, b ∈ F
structure Few (F : List Int) : Prop where
  z : (0 : Int) ∈ F
  le : F.length < 64
theorem Wk.len {F : List Int} {ss : List MB.St} (h : Wk F ss) : ss.length ≤ F.length := h.wf.len_le h.inn
section
variable {S : Store} (wf : WF S) {F : List Int} (hF : Few F)
include wf hF
end
section
variable {F : List Int} (hF : Few F) {a b : List MB.St} (ha : MB.Hd F a) (hb : MB.Hd F b)
include hF ha
include hb
end
section
variable {F : List Int} (hF : Few F) {a : List MB.St} (ha : MB.Hd F a) {l f : Int} {e : Option Int} (hl : 0 ≤ l ∧ l ≤ 2) (ho : MA.Ok (f, e)) (h1 : f ∈ F) (h2 : ∀ i, e = some i → i + 1 ∈ F)
include hF ha ho h1 h2
include hl
end
section
variable {S : Store} (wf : WF S) {F : List Int} (hF : Few F) {a b : List MB.St} (ha : MB.Hd F a) (hb : MB.Hd F b)
include wf hF ha
include hb
end

section
variable {S : Store} {a b : List MB.St}
end
section
variable {S : Store} (wf : WF S) {F : List Int} (hF : Few F) {a b : List MB.St} (ha : MB.Hd F a)
include wf
include hF ha
end

section
variable {c d c' d' e : Cell} {R : Store}
theorem wf1 {b : Bag} (h : WF (b.c :: R)) (hc : c.below 0 = true) : WF (b.c :: (R ++ [c])) := h.snoc (Cell.below_mono (Nat.zero_le _) hc)
end
def Lv2 (ls : List Int) : Prop := ∀ l ∈ ls, 0 ≤ l ∧ l ≤ 2
theorem zip_fst : ∀ {cs ls : List Int}, ls.length = cs.length → (cs.zip ls).map Prod.fst = cs
  | [], _, _ => by simp
  | c :: cs, [], h => by simp at h
  | c :: cs, l :: ls, h => by simp only [List.zip_cons_cons, List.map_cons, zip_fst (cs := cs) (ls := ls) (by simpa using h)]
section
variable {S : Store} (wf : WF S)
include wf
end

abbrev cellH (cs ls : List Int) : List MB.St := MB.stGo none (cs.zip ls)
section
variable {S : Store} (wf : WF S)
include wf
end
structure Cel (cs ls : List Int) : Prop where
  fs : MB.Fs cs
  le : cs.length < 60
  len : ls.length = cs.length
  lv : Lv2 ls
theorem Cel.hd {cs ls : List Int} (h : Cel cs ls) : MB.Hd cs (cellH cs ls) ∧ ∀ x, MB.lev (cellH cs ls) x = MB.stp 0 (cs.zip ls) x := by
  have a : MB.Asc (cs.zip ls) := by unfold MB.Asc; rw [zip_fst h.len]; exact h.fs.asc
  obtain ⟨q1, q2⟩ := MB.st0_ok a (fun e he => h.lv e.2 (List.of_mem_zip he).2) (fun e he => h.fs.pos e.1 (List.of_mem_zip he).1)
  refine ⟨⟨q1, MB.Nf.ends_in q1 h.fs.zero (fun x _ => q2 x) ?_⟩, q2⟩
  have := MB.stp_cst (cs.zip ls) 0
  rwa [zip_fst h.len] at this
structure InC (cs : List Int) (i : Nat) (x : Int) : Prop where
  ex : ∃ pre c post, cs = pre ++ c :: post ∧ pre.length = i ∧ c ≤ x ∧ ∀ d ∈ post, x < d
theorem InC.lt {cs : List Int} {i : Nat} {x : Int} (h : InC cs i x) : i < cs.length := by
  obtain ⟨pre, c, post, rfl, rfl, _, _⟩ := h.ex
  rw [List.length_append, List.length_cons]
  omega
theorem stp_zip {c x : Int} {post : List Int} (hc : c ≤ x) (hp : ∀ d ∈ post, x < d) : ∀ (pre ls : List Int) (d : Int), (pre ++ c :: post).Pairwise (· < ·) → ls.length = (pre ++ c :: post).length → MB.stp d ((pre ++ c :: post).zip ls) x = ls.getD pre.length 0
  | [], [], d, _, h => by simp at h
  | [], l :: ls, d, ha, h => by
    show (if c ≤ x then MB.stp l (post.zip ls) x else d) = l
    rw [if_pos hc]
    exact MB.stp_low fun e he => hp e.1 (List.of_mem_zip he).1
  | p :: pre, [], d, _, h => by simp at h
  | p :: pre, l :: ls, d, ha, h => by
    obtain ⟨a1, a2⟩ := List.pairwise_cons.mp (show (p :: (pre ++ c :: post)).Pairwise (· < ·) from ha)
    have := a1 c (by simp)
    show (if p ≤ x then MB.stp l ((pre ++ c :: post).zip ls) x else d) = ls.getD pre.length 0
    rw [if_pos (by omega)]
    exact stp_zip hc hp pre ls l a2 (by simpa using h)
theorem cell_val {cs ls : List Int} (h : Cel cs ls) {i : Nat} {x : Int} (k : InC cs i x) : MB.lev (cellH cs ls) x = ls.getD i 0 := by
  rw [h.hd.2]
  obtain ⟨pre, c, post, e, rfl, h1, h2⟩ := k.ex
  have a := h.fs.asc
  have l := h.len
  rw [e] at a l ⊢
  exact stp_zip h1 h2 pre ls 0 a l
theorem cell_ex {cs : List Int} (h : MB.Fs cs) {x : Int} (hx : 0 ≤ x) : ∃ i, InC cs i x := by
  obtain ⟨⟨r, rfl⟩, ha⟩ := h
  suffices ∀ (r : List Int) (b : Int), (b :: r).Pairwise (· < ·) → b ≤ x → ∃ pre c post, b :: r = pre ++ c :: post ∧ c ≤ x ∧ ∀ d ∈ post, x < d by
    obtain ⟨pre, c, post, h1, h2, h3⟩ := this r 0 ha hx
    exact ⟨pre.length, pre, c, post, h1, rfl, h2, h3⟩
  intro r
  induction r with
  | nil => exact fun b _ h => ⟨[], b, [], rfl, h, fun d hd => by cases hd⟩
  | cons d r ih =>
    intro b hp h
    obtain ⟨p1, p2⟩ := List.pairwise_cons.mp hp
    by_cases q : d ≤ x
    · obtain ⟨pre, c, post, h1, h2, h3⟩ := ih d p2 q
      exact ⟨b :: pre, c, post, by rw [h1]; rfl, h2, h3⟩
    · refine ⟨[], b, d :: r, rfl, h, fun e he => ?_⟩
      rcases List.mem_cons.mp he with rfl | he
      · omega
      · have := (List.pairwise_cons.mp p2).1 e he
        omega
structure Rp (cs ls : List Int) (a : List MB.St) : Prop where
  hd : MB.Hd cs a
  lv : ∀ i x, InC cs i x → MB.lev a x = ls.getD i 0
theorem Rp.eq {cs ls : List Int} {a : List MB.St} (h : Cel cs ls) (k : Rp cs ls a) : a = cellH cs ls := k.hd.ext h.hd.1 fun x hx => by
  obtain ⟨i, hi⟩ := cell_ex h.fs hx
  rw [k.lv i x hi, cell_val h hi]
theorem Lv2.getD {ls : List Int} (h : Lv2 ls) (i : Nat) : 0 ≤ ls.getD i 0 ∧ ls.getD i 0 ≤ 2 := by
  rw [List.getD_eq_getElem?_getD]
  cases q : ls[i]? with
  | none => simp
  | some x => exact h x (List.mem_of_getElem? q)
section
variable {F : List Int} (hF : Few F) {a b : List MB.St} (ha : MB.Hd F a) (hb : MB.Hd F b)
include hF ha hb
end

section
variable {S : Store}
theorem lc_genO {α : Type} {gm : GM} {t : TM} {e : EM} {rho : Slots} {own : List Nat} (enc : α → D) (out : α → Option D) : ∀ (l : List α) (ds : List D), ds.length + l.length ≤ 1000000 →
    (∀ a ∈ l, ∀ ds : List D, lcT gm t e (.fr (enc a)) (wipeR rho own) (S ++ [.lst (ds.map SV.fr)]) = .ok ((out a).map SV.fr, S ++ [.lst (ds.map SV.fr)])) →
    lcM (fun _ => True) gm t e own rho ((l.map enc).map SV.fr) S (ds.map SV.fr) = .ok ((ds ++ l.filterMap out).map SV.fr, S)
  | [], ds, _, _ => by rw [List.map_nil, List.map_nil, lc_nil trivial]; simp
  | a :: l, ds, hz, h => by
    simp only [List.map_cons, List.length_cons] at hz ⊢
    have hs := sizeLine_eq
    have h1 := h a List.mem_cons_self ds
    cases q : out a with
    | none =>
      rw [q] at h1
      rw [lc_none trivial rfl h1, lc_genO enc out l ds (by omega) fun z hz => h z (List.mem_cons_of_mem _ hz), List.filterMap_cons_none q]
    | some d =>
      rw [q] at h1
      have e2 : ds.map SV.fr ++ [SV.fr d] = (ds ++ [d]).map SV.fr := by simp
      rw [lc_some trivial (by rw [List.length_map, hs]; omega) rfl h1, e2, lc_genO enc out l (ds ++ [d]) (by simp; omega) fun z hz => h z (List.mem_cons_of_mem _ hz), List.filterMap_cons_some q]
      simp
theorem lc_gen {α : Type} {gm : GM} {t : TM} {e : EM} {rho : Slots} {own : List Nat} (enc out : α → D) (l : List α) (hz : l.length ≤ 1000000)
    (h : ∀ a ∈ l, ∀ ds : List D, lcT gm t e (.fr (enc a)) (wipeR rho own) (S ++ [.lst (ds.map SV.fr)]) = .ok (some (.fr (out a)), S ++ [.lst (ds.map SV.fr)])) :
    lcM (fun _ => True) gm t e own rho ((l.map enc).map SV.fr) S [] = .ok ((l.map out).map SV.fr, S) := by
  have := lc_genO (S := S) (gm := gm) (t := t) (e := e) (rho := rho) (own := own) enc (fun a => some (out a)) l [] (by simpa using hz) h
  rw [List.filterMap_eq_map', List.nil_append] at this
  exact this
theorem lc_genF {α : Type} {gm : GM} {t : TM} {e : EM} {rho : Slots} {own : List Nat} (enc : α → D) (out : α → Option D) (l : List α) (hz : l.length ≤ 1000000)
    (h : ∀ a ∈ l, ∀ ds : List D, lcT gm t e (.fr (enc a)) (wipeR rho own) (S ++ [.lst (ds.map SV.fr)]) = .ok ((out a).map SV.fr, S ++ [.lst (ds.map SV.fr)])) :
    lcM (fun _ => True) gm t e own rho ((l.map enc).map SV.fr) S [] = .ok ((l.filterMap out).map SV.fr, S) := by
  have := lc_genO (S := S) (gm := gm) (t := t) (e := e) (rho := rho) (own := own) enc out l [] (by simpa using hz) h
  rw [List.nil_append] at this
  exact this
end
theorem bag0 (ns : List Int) (hns : ns.length ≤ 63) : ∃ b0 : Bag, b0.Ok ∧ bagM [.fr (.scr (ns.map D.int))] [] = .ok (.new b0.c, []) := by
  have hz := sizeLine_eq
  refine ⟨_, ?_, bag_run ns (by omega)⟩
  refine ⟨Int.le_refl _, (show (0 : Int) ≤ 1234567891 by decide), Int.le_refl _, fun n hn => ?_⟩
  obtain ⟨m, _, rfl⟩ := List.mem_map.mp hn
  unfold absI
  split <;> omega
theorem tells_of (h : ∀ ns : List Int, ns.length ≤ 63 → Ends (m_law [.fr (.scr (ns.map D.int))] []) fun r => r.1 = .val (.fr (.bl true))) : DL.Tells 63 m_law := by
  intro ns hns
  obtain ⟨⟨v, S'⟩, e, q⟩ := h ns hns
  cases q
  exact ⟨S', e⟩
theorem lognat {n : Nat} (h : n ≤ 1000) : ((n : Int)).natAbs.log2 < 9000 := by
  have h1 : ((n : Int)).natAbs < 2 ^ 10 := by
    rw [Int.natAbs_natCast]
    exact Nat.lt_of_le_of_lt h (by decide)
  exact Nat.lt_of_lt_of_le (log_lt h1 (by decide)) (by decide)

def tInt : D → Bool
  | .int _ => true
  | .bl _ => true
  | _ => false
def tBl : D → Bool
  | .bl _ => true
  | _ => false
def tStr : D → Bool
  | .str _ => true
  | _ => false
def tTup : D → Bool
  | .tup _ => true
  | _ => false
def tLst : D → Bool
  | .lst _ => true
  | .scr _ => true
  | _ => false
theorem isi_x {d : D} (h : isX d = true) (S : Store) : isiG [.fr d, .fr (.ty "int")] S = .ok (.fr (.bl (tInt d)), S) ∧ isiG [.fr d, .fr (.ty "bool")] S = .ok (.fr (.bl (tBl d)), S) ∧
    isiG [.fr d, .fr (.ty "str")] S = .ok (.fr (.bl (tStr d)), S) ∧ isiG [.fr d, .fr (.ty "tuple")] S = .ok (.fr (.bl (tTup d)), S) ∧ isiG [.fr d, .fr (.ty "list")] S = .ok (.fr (.bl (tLst d)), S) := by
  cases d <;> first | exact ⟨rfl, rfl, rfl, rfl, rfl⟩ | (exfalso; revert h; simp [isX]; done)
theorem isn_x {d : D} (h : d ≠ .non) (S : Store) : isG false (.fr d) (.fr .non) S = .ok (.fr (.bl false), S) := by
  cases d <;> first | rfl | exact absurd rfl h
def isI : D → Bool
  | .int _ => true
  | _ => false
def byteB : D → Bool
  | .int i => decide (0 ≤ i)
  | _ => false
def levB : D → Bool
  | .int i => decide (0 ≤ i) && decide (i ≤ 2)
  | _ => false
def endB : D → D → Bool
  | .int _, .non => true
  | .int a, .int b => decide (0 ≤ b) && decide (a ≤ b)
  | _, _ => false
theorem byteB_int {d : D} (h : byteB d = true) : ∃ i, d = .int i ∧ 0 ≤ i := by
  cases d with
  | int i => exact ⟨i, rfl, by simpa [byteB] using h⟩
  | _ => simp [byteB] at h
theorem endB_no {a : Int} {z : D} (h : z ≠ .non) (hb : byteB z = false) : endB (.int a) z = false := by
  cases z with
  | non => exact absurd rfl h
  | int b =>
    simp only [byteB, endB] at hb ⊢
    rw [hb, Bool.false_and]
  | _ => rfl
theorem endB_yes {a b : Int} (h : 0 ≤ b) : endB (.int a) (.int b) = decide (a ≤ b) := by
  simp only [endB]
  rw [decide_eq_true h, Bool.true_and]
section
variable {S : Store} (wf : WF S)
include wf
theorem integer_x {d : D} (h : isX d = true) : m_is_integer [.fr d] S = .ok (.val (.fr (.bl (isI d))), S) := by
  obtain ⟨e1, e2, _⟩ := isi_x h S
  cases d <;> first
    | (exfalso; revert h; simp [isX]; done)
    | (simp only [tInt, tBl, isI] at e1 e2 ⊢; simp only [RR, DL.isNon, List.replicate_succ, List.replicate_zero, List.set_cons_zero, List.set_cons_succ, List.getElem?_cons_zero, List.getElem?_cons_succ, Option.map_some, Nat.reduceSub, and_self, and_true, true_and, decide_true, decide_false, if_true, if_false, Bool.false_eq_true, Bool.not_true, Bool.not_false, Nat.reduceAdd, Nat.reduceMul, Nat.reduceLeDiff, m_is_integer, b_is_integer, e1, e2, leave_val wf])
theorem byte_x {d : D} (h : isX d = true) : m_is_byte [.fr d] S = .ok (.val (.fr (.bl (byteB d))), S) := by
  have e := integer_x wf h
  cases d <;> first
    | (exfalso; revert h; simp [isX]; done)
    | (simp only [isI, byteB] at e ⊢; simp only [RR, DL.isNon, List.replicate_succ, List.replicate_zero, List.set_cons_zero, List.set_cons_succ, List.getElem?_cons_zero, List.getElem?_cons_succ, Option.map_some, Nat.reduceSub, and_self, and_true, true_and, decide_true, decide_false, if_true, if_false, Bool.false_eq_true, Bool.not_true, Bool.not_false, Nat.reduceAdd, Nat.reduceMul, Nat.reduceLeDiff, m_is_byte, b_is_byte, e, leave_val wf])
theorem level_x {d : D} (h : isX d = true) : m_is_level [.fr d] S = .ok (.val (.fr (.bl (levB d))), S) := by
  have e := integer_x wf h
  cases d with
  | int i =>
    simp only [isI, levB] at e ⊢
    by_cases q : 0 ≤ i
    · rw [decide_eq_true q, Bool.true_and]
      simp only [RR, DL.isNon, List.replicate_succ, List.replicate_zero, List.set_cons_zero, List.set_cons_succ, List.getElem?_cons_zero, List.getElem?_cons_succ, Option.map_some, Nat.reduceSub, and_self, and_true, true_and, decide_true, decide_false, if_true, if_false, Bool.false_eq_true, Bool.not_true, Bool.not_false, Nat.reduceAdd, Nat.reduceMul, Nat.reduceLeDiff, m_is_level, b_is_level, m_is_between, b_is_between, e, decide_eq_true q, leave_val wf]
    · rw [decide_eq_false q, Bool.false_and]
      simp only [RR, DL.isNon, List.replicate_succ, List.replicate_zero, List.set_cons_zero, List.set_cons_succ, List.getElem?_cons_zero, List.getElem?_cons_succ, Option.map_some, Nat.reduceSub, and_self, and_true, true_and, decide_true, decide_false, if_true, if_false, Bool.false_eq_true, Bool.not_true, Bool.not_false, Nat.reduceAdd, Nat.reduceMul, Nat.reduceLeDiff, m_is_level, b_is_level, m_is_between, b_is_between, e, decide_eq_false q, leave_val wf]
  | _ => first
    | (exfalso; revert h; simp [isX]; done)
    | (simp only [isI, levB] at e ⊢; simp only [RR, DL.isNon, List.replicate_succ, List.replicate_zero, List.set_cons_zero, List.set_cons_succ, List.getElem?_cons_zero, List.getElem?_cons_succ, Option.map_some, Nat.reduceSub, and_self, and_true, true_and, decide_true, decide_false, if_true, if_false, Bool.false_eq_true, Bool.not_true, Bool.not_false, Nat.reduceAdd, Nat.reduceMul, Nat.reduceLeDiff, m_is_level, b_is_level, m_is_between, b_is_between, e, leave_val wf])
theorem fault_x {f z : D} (hf : isX f = true) (hz : isX z = true) : m_span_fault [.fr f, .fr z] S = .ok (.val (.fr (if byteB f = true then (if endB f z = true then .non else .int 1) else .int 0)), S) := by
  have e1 := byte_x wf hf
  have e2 := byte_x wf hz
  cases hb : byteB f with
  | false =>
    rw [hb] at e1
    rw [if_neg (by decide)]
    simp only [RR, DL.isNon, List.replicate_succ, List.replicate_zero, List.set_cons_zero, List.set_cons_succ, List.getElem?_cons_zero, List.getElem?_cons_succ, Option.map_some, Nat.reduceSub, and_self, and_true, true_and, decide_true, decide_false, if_true, if_false, Bool.false_eq_true, Bool.not_true, Bool.not_false, Nat.reduceAdd, Nat.reduceMul, Nat.reduceLeDiff, m_span_fault, b_span_fault, e1, leave_val wf]
  | true =>
    rw [hb] at e1
    rw [if_pos rfl]
    cases f with
    | int a =>
      by_cases hn : z = .non
      · subst hn
        rw [if_pos (show endB (.int a) .non = true from rfl)]
        simp only [RR, DL.isNon, List.replicate_succ, List.replicate_zero, List.set_cons_zero, List.set_cons_succ, List.getElem?_cons_zero, List.getElem?_cons_succ, Option.map_some, Nat.reduceSub, and_self, and_true, true_and, decide_true, decide_false, if_true, if_false, Bool.false_eq_true, Bool.not_true, Bool.not_false, Nat.reduceAdd, Nat.reduceMul, Nat.reduceLeDiff, m_span_fault, b_span_fault, e1, leave_val wf]
      · have isn := isn_x hn S
        cases h2 : byteB z with
        | false =>
          rw [h2] at e2
          rw [endB_no hn h2, if_neg (by decide)]
          simp only [RR, DL.isNon, List.replicate_succ, List.replicate_zero, List.set_cons_zero, List.set_cons_succ, List.getElem?_cons_zero, List.getElem?_cons_succ, Option.map_some, Nat.reduceSub, and_self, and_true, true_and, decide_true, decide_false, if_true, if_false, Bool.false_eq_true, Bool.not_true, Bool.not_false, Nat.reduceAdd, Nat.reduceMul, Nat.reduceLeDiff, m_span_fault, b_span_fault, e1, e2, isn, leave_val wf]
        | true =>
          obtain ⟨b, rfl, q⟩ := byteB_int h2
          rw [h2] at e2
          rw [endB_yes q]
          by_cases r : a ≤ b
          · rw [decide_eq_true r, if_pos rfl]
            simp only [RR, DL.isNon, List.replicate_succ, List.replicate_zero, List.set_cons_zero, List.set_cons_succ, List.getElem?_cons_zero, List.getElem?_cons_succ, Option.map_some, Nat.reduceSub, and_self, and_true, true_and, decide_true, decide_false, if_true, if_false, Bool.false_eq_true, Bool.not_true, Bool.not_false, Nat.reduceAdd, Nat.reduceMul, Nat.reduceLeDiff, m_span_fault, b_span_fault, e1, e2, isn, decide_eq_true r, leave_val wf]
          · rw [decide_eq_false r, if_neg (by decide)]
            simp only [RR, DL.isNon, List.replicate_succ, List.replicate_zero, List.set_cons_zero, List.set_cons_succ, List.getElem?_cons_zero, List.getElem?_cons_succ, Option.map_some, Nat.reduceSub, and_self, and_true, true_and, decide_true, decide_false, if_true, if_false, Bool.false_eq_true, Bool.not_true, Bool.not_false, Nat.reduceAdd, Nat.reduceMul, Nat.reduceLeDiff, m_span_fault, b_span_fault, e1, e2, isn, decide_eq_false r, leave_val wf]
    | _ => simp [byteB] at hb
theorem span_x {f z : D} (hf : isX f = true) (hz : isX z = true) : m_is_span [.fr (.tup [f, z])] S = .ok (.val (.fr (.bl (byteB f && endB f z))), S) := by
  have e1 := fault_x wf hf hz
  have e2 : isiG [.fr (.tup [f, z]), .fr (.ty "tuple")] S = .ok (.fr (.bl true), S) := rfl
  have e3 : lenG [.fr (.tup [f, z])] S = .ok (.fr (.int 2), S) := rfl
  have is0 : isG false (.fr (.int 0)) (.fr .non) S = .ok (.fr (.bl false), S) := rfl
  have is1 : isG false (.fr (.int 1)) (.fr .non) S = .ok (.fr (.bl false), S) := rfl
  cases hb : byteB f with
  | false =>
    rw [hb, if_neg (by decide)] at e1
    simp only [RR, DL.isNon, List.replicate_succ, List.replicate_zero, List.set_cons_zero, List.set_cons_succ, List.getElem?_cons_zero, List.getElem?_cons_succ, Option.map_some, Nat.reduceSub, and_self, and_true, true_and, decide_true, decide_false, if_true, if_false, Bool.false_eq_true, Bool.not_true, Bool.not_false, Nat.reduceAdd, Nat.reduceMul, Nat.reduceLeDiff, m_is_span, b_is_span, e1, e2, e3, is0, Bool.false_and, leave_val wf]
  | true =>
    rw [hb, if_pos rfl] at e1
    cases he : endB f z with
    | false =>
      rw [he, if_neg (by decide)] at e1
      simp only [RR, DL.isNon, List.replicate_succ, List.replicate_zero, List.set_cons_zero, List.set_cons_succ, List.getElem?_cons_zero, List.getElem?_cons_succ, Option.map_some, Nat.reduceSub, and_self, and_true, true_and, decide_true, decide_false, if_true, if_false, Bool.false_eq_true, Bool.not_true, Bool.not_false, Nat.reduceAdd, Nat.reduceMul, Nat.reduceLeDiff, m_is_span, b_is_span, e1, e2, e3, is1, Bool.true_and, leave_val wf]
    | true =>
      rw [he, if_pos rfl] at e1
      simp only [RR, DL.isNon, List.replicate_succ, List.replicate_zero, List.set_cons_zero, List.set_cons_succ, List.getElem?_cons_zero, List.getElem?_cons_succ, Option.map_some, Nat.reduceSub, and_self, and_true, true_and, decide_true, decide_false, if_true, if_false, Bool.false_eq_true, Bool.not_true, Bool.not_false, Nat.reduceAdd, Nat.reduceMul, Nat.reduceLeDiff, m_is_span, b_is_span, e1, e2, e3, Bool.true_and, leave_val wf]
end
section
variable {S : Store} (wf : WF S)
include wf
end

abbrev ltrs : Str := "abcdefghijklmnopqrstuvwxyz"
def nameS (s : Str) : Bool := (decide ((1 : Int) ≤ s.length) && decide ((s.length : Int) ≤ 8)) && s.cps.toList.all fun c => decide (c ∈ ltrs.cps.toList)
def nameB : D → Bool
  | .str s => nameS s
  | _ => false
def ownW : D → Bool
  | .str s => decide (s = "process") || decide (s = "open")
  | _ => false
section
variable {rho : Slots} {S : Store} {m : EM}
def k_sg (r : SV × Store) : Res (DL.Wk × Store) := match r.1 with
  | .fr (.str z) => .ok (⟨sgnS z, fun _ => True⟩, r.2)
  | _ => .stuck
theorem r_sg : iStS m rho S = (m rho S).bind k_sg := id rfl
theorem s_sg (z : Str) : k_sg (.fr (.str z), S) = .ok (⟨sgnS z, fun _ => True⟩, S) := id rfl
theorem r_call0 (f : FnM) (c : Bool) : eCall0 f c rho S = (noX (f [] S)).bind (back c) := id rfl
end
theorem inSg (ng : Bool) (c : Nat) (z : Str) (S : Store) : inSgG ng (.fr (.str ⟨#[c]⟩)) (.fr (.str z)) S = .ok (.fr (.bl (if ng then !decide (c ∈ z.cps.toList) else decide (c ∈ z.cps.toList))), S) := rfl
theorem sgn_enc (z : Str) : sgnS z = (z.cps.toList.map fun c => D.str ⟨#[c]⟩).map SV.fr := by
  unfold sgnS
  rw [List.map_map]
  rfl
theorem lenStr (z : Str) (S : Store) (h : z.length ≤ 16777216) : lenG [.fr (.str z)] S = .ok (.fr (.int z.length), S) := by
  unfold lenG lenS
  simp only [rdS, rdL]
  rw [if_pos (by rw [sizeLine_eq]; exact h)]
  rfl
theorem anyK_o (s : Str) : DL.anyK (.inr s) [.inr "process", .inr "open"] = ownW (.str s) := by
  unfold DL.anyK ownW
  simp only [List.any_cons, List.any_nil, Bool.or_false]
  rw [Bool.eq_iff_iff]
  simp only [Bool.or_eq_true, decide_eq_true_eq, Sum.inr.injEq]
  constructor
  · rintro (h | h)
    · exact .inl h.symm
    · exact .inr h.symm
  · rintro (h | h)
    · exact .inl h.symm
    · exact .inr h.symm
theorem inK_o (s : Str) (S : Store) : inKG "OWNER_WORDS" [.inr "process", .inr "open"] false (.fr (.str s)) (.fr (.cls "OWNER_WORDS")) S = .ok (.fr (.bl (ownW (.str s))), S) := by
  rw [← anyK_o]
  unfold inKG
  simp only [keyS, if_true]
  rfl
section
variable {S : Store} (wf : WF S)
include wf
theorem name_all {d : D} (h : isX d = true) (hl : ∀ s, d = .str s → s.length ≤ 1000) : m_is_name [.fr d] S = .ok (.val (.fr (.bl (nameB d))), S) := by
  obtain ⟨_, _, e1, _⟩ := isi_x h S
  have lv := leave_val wf (d := .bl false)
  have no : tStr d = false → nameB d = false → m_is_name [.fr d] S = .ok (.val (.fr (.bl (nameB d))), S) := fun h1 h2 => by
    rw [h1] at e1
    rw [h2]
    simp only [RR, DL.isNon, List.replicate_succ, List.replicate_zero, List.set_cons_zero, List.set_cons_succ, List.getElem?_cons_zero, List.getElem?_cons_succ, Option.map_some, Nat.reduceSub, and_self, and_true, true_and, decide_true, decide_false, if_true, if_false, Bool.false_eq_true, Bool.not_true, Bool.not_false, Nat.reduceAdd, Nat.reduceMul, Nat.reduceLeDiff, m_is_name, b_is_name, e1, lv]
  cases d with
  | str s =>
    have l1 := hl s rfl
    simp only [tStr] at e1
    have ln := lenStr s S (by omega)
    simp only [nameB, nameS]
    have zl : s.cps.toList.length = s.length := Array.length_toList
    have cm : lcM (fun _ => True) (gNm 2) tTr (DL.e2 (inSgG false) (eV 2) (eC (.str "abcdefghijklmnopqrstuvwxyz"))) [1, 2] [some (.fr (.str s)), none, none] (sgnS s) S [] = .ok ((((s.cps.toList.map fun c => decide (c ∈ ltrs.cps.toList))).map D.bl).map SV.fr, S) := by
      rw [sgn_enc, lc_gen (fun c : Nat => D.str ⟨#[c]⟩) (fun c : Nat => D.bl (decide (c ∈ ltrs.cps.toList))) s.cps.toList (by omega) fun c _ ds => by
        have i := inSg false c ltrs (S ++ [.lst (ds.map SV.fr)])
        simp only [RR, DL.isNon, List.replicate_succ, List.replicate_zero, List.set_cons_zero, List.set_cons_succ, List.getElem?_cons_zero, List.getElem?_cons_succ, Option.map_some, Nat.reduceSub, and_self, and_true, true_and, decide_true, decide_false, if_true, if_false, Bool.false_eq_true, Bool.not_true, Bool.not_false, Nat.reduceAdd, Nat.reduceMul, Nat.reduceLeDiff, i]]
      simp only [List.map_map]
      rfl
    have al : ((s.cps.toList.map fun c => decide (c ∈ ltrs.cps.toList)).all id) = s.cps.toList.all fun c => decide (c ∈ ltrs.cps.toList) := by
      rw [List.all_map]
      rfl
    by_cases q1 : (1 : Int) ≤ s.length
    · by_cases q2 : (s.length : Int) ≤ 8
      · rw [decide_eq_true q1, decide_eq_true q2, Bool.and_self, Bool.true_and]
        simp only [RR, DL.isNon, List.replicate_succ, List.replicate_zero, List.set_cons_zero, List.set_cons_succ, List.getElem?_cons_zero, List.getElem?_cons_succ, Option.map_some, Nat.reduceSub, and_self, and_true, true_and, decide_true, decide_false, if_true, if_false, Bool.false_eq_true, Bool.not_true, Bool.not_false, Nat.reduceAdd, Nat.reduceMul, Nat.reduceLeDiff, m_is_name, b_is_name, e1, ln, decide_eq_true q1, decide_eq_true q2, r_sg, s_sg, cm, s_lceF wf, all_bls, al, leave_val wf]
      · rw [decide_eq_false q2, Bool.and_false, Bool.false_and]
        simp only [RR, DL.isNon, List.replicate_succ, List.replicate_zero, List.set_cons_zero, List.set_cons_succ, List.getElem?_cons_zero, List.getElem?_cons_succ, Option.map_some, Nat.reduceSub, and_self, and_true, true_and, decide_true, decide_false, if_true, if_false, Bool.false_eq_true, Bool.not_true, Bool.not_false, Nat.reduceAdd, Nat.reduceMul, Nat.reduceLeDiff, m_is_name, b_is_name, e1, ln, decide_eq_true q1, decide_eq_false q2, lv]
    · rw [decide_eq_false q1, Bool.false_and, Bool.false_and]
      simp only [RR, DL.isNon, List.replicate_succ, List.replicate_zero, List.set_cons_zero, List.set_cons_succ, List.getElem?_cons_zero, List.getElem?_cons_succ, Option.map_some, Nat.reduceSub, and_self, and_true, true_and, decide_true, decide_false, if_true, if_false, Bool.false_eq_true, Bool.not_true, Bool.not_false, Nat.reduceAdd, Nat.reduceMul, Nat.reduceLeDiff, m_is_name, b_is_name, e1, ln, decide_eq_false q1, lv]
  | _ => exact no rfl rfl
end

mutual
theorem x_of : ∀ {d : D}, isP d = true → isX d = true ∧ pyX d = py d
  | .non, _ => ⟨rfl, rfl⟩
  | .bl _, _ => ⟨rfl, rfl⟩
  | .int _, _ => ⟨rfl, rfl⟩
  | .str _, _ => ⟨rfl, rfl⟩
  | .tup ds, h => by
    obtain ⟨a, b⟩ := xs_of (ds := ds) (by simpa only [isP] using h)
    exact ⟨by simpa only [isX] using a, by simp only [pyX, py, b]⟩
  | .lst ds, h => by
    obtain ⟨a, b⟩ := xs_of (ds := ds) (by simpa only [isP] using h)
    exact ⟨by simpa only [isX] using a, by simp only [pyX, py, b]⟩
  | .scr ds, h => by
    obtain ⟨a, b⟩ := xs_of (ds := ds) (by simpa only [isP] using h)
    exact ⟨by simpa only [isX] using a, by simp only [pyX, py, b]⟩
  | .ty _, h => by simp [isP] at h
  | .ref _, h => by simp [isP] at h
  | .ins _ _, h => by simp [isP] at h
  | .cls _, h => by simp [isP] at h
  | .dct _, h => by simp [isP] at h
theorem xs_of : ∀ {ds : List D}, isPs ds = true → isXs ds = true ∧ pyXs ds = pys ds
  | [], _ => ⟨rfl, rfl⟩
  | d :: ds, h => by
    simp only [isPs, Bool.and_eq_true] at h
    obtain ⟨a, b⟩ := x_of h.1
    obtain ⟨c, e⟩ := xs_of h.2
    exact ⟨by simp only [isXs, a, c, Bool.and_self], by simp only [pyXs, pys, b, e]⟩
end
structure XOk (B : Nat) (d : D) : Prop where
  x : isX d = true
  show_ : (pyX d).showable = true
  lv : (pyX d).leavesShort 130 = true
  bk : (pyX d).bulk ≤ B
  dp : (pyX d).depth ≤ 63
theorem xok_fit {B : Nat} {d : D} (h : fit 63 d = true) (hb : (py d).bulk ≤ B) : XOk B d := by
  obtain ⟨a, b⟩ := fit_p 63 d h
  obtain ⟨c, e⟩ := x_of a
  exact ⟨c, by rw [e]; exact b.show_, by rw [e]; exact PyData.leavesShort_of_canLay0 130 _ b.lay b.nsh, by rw [e]; exact hb, by rw [e]; exact b.dep⟩
theorem reprX_of {S : Store} {d : D} (h : rOkX d = true) : reprXG [.fr d] S = .ok (.fr (.str (rTxtX d)), S) := by
  unfold reprXG
  simp only [snap, h, if_true]
  rfl

structure YOk (B n : Nat) (d : D) : Prop where
  x : isX d = true
  sh : (pyX d).showable = true
  lv : (pyX d).leavesShort 130 = true
  bk : (pyX d).bulk ≤ B
  dp : (pyX d).depth ≤ n
theorem YOk.mono {B C n m : Nat} {d : D} (h : YOk B n d) (h1 : B ≤ C) (h2 : n ≤ m) : YOk C m d := ⟨h.x, h.sh, h.lv, Nat.le_trans h.bk h1, Nat.le_trans h.dp h2⟩
theorem y_fit {B n : Nat} {d : D} (h : fit 63 d = true) (hb : (py d).bulk ≤ B) (hd : (py d).depth ≤ n) : YOk B n d := by
  have o := xok_fit h hb
  obtain ⟨_, e⟩ := x_of (fit_p 63 d h).1
  exact ⟨o.x, o.show_, o.lv, o.bk, by rw [e]; exact hd⟩
theorem y_seq {B n : Nat} : ∀ {ds : List D}, (∀ d ∈ ds, YOk B n d) → isXs ds = true ∧ PyData.showableAll (pyXs ds) = true ∧ PyData.leavesShortAll 130 (pyXs ds) = true ∧ PyData.bulkAll (pyXs ds) ≤ (B + 1) * ds.length ∧ PyData.depthAll (pyXs ds) ≤ n
  | [], _ => by simp [isXs, pyXs, PyData.showableAll, PyData.leavesShortAll, PyData.bulkAll, PyData.depthAll]
  | d :: ds, h => by
    obtain ⟨a, b, c, e, f⟩ := y_seq (ds := ds) fun x hx => h x (List.mem_cons_of_mem _ hx)
    have o := h d List.mem_cons_self
    have h1 := o.bk
    have h2 := o.dp
    simp only [isXs, pyXs, PyData.showableAll, PyData.leavesShortAll, PyData.bulkAll, PyData.depthAll, o.x, o.sh, o.lv, a, b, c, Bool.and_self, List.length_cons, true_and]
    refine ⟨?_, by omega⟩
    rw [Nat.mul_succ]
    omega
theorem y_tup {B n m : Nat} {ds : List D} (h : ∀ d ∈ ds, YOk B n d) (hl : ds.length ≤ m) : YOk ((B + 1) * m) (n + 1) (.tup ds) := by
  obtain ⟨a, b, c, e, f⟩ := y_seq h
  refine ⟨by simpa only [isX] using a, by simpa only [pyX, PyData.showable] using b, by simpa only [pyX, PyData.leavesShort] using c, ?_, ?_⟩
  · simp only [pyX, PyData.bulk]
    exact Nat.le_trans e (Nat.mul_le_mul_left _ hl)
  · simp only [pyX, PyData.depth]
    omega
theorem YOk.ro {B n : Nat} {d : D} (h : YOk B n d) (hB : B ≤ 100000) (hn : n ≤ 64) : rOkX d = true := by
  have h1 := h.bk
  have h2 := h.dp
  unfold rOkX
  simp only [h.x, h.sh, h.lv, Bool.true_and, Bool.and_eq_true, decide_eq_true_eq]
  omega
theorem slStr {z : Str} (h : z.length ≤ 16777216) (lo hi : Option Int) (S : Store) : slG false (.fr (.str z)) lo hi S = .ok (.fr (.str (cutS z lo hi)), S) := by
  unfold slG
  simp only [rdS, rdL]
  rw [if_pos (by rw [sizeLine_eq]; exact h)]
  rfl
theorem adStr {a b : Str} (h : a.length + b.length ≤ 16777216) (c : Bool) (S : Store) : addG c (.fr (.str a)) (.fr (.str b)) S = .ok (.fr (.str (a ++ b)), S) := by
  unfold addG
  simp only
  rw [if_pos (by rw [sizeLine_eq]; exact h)]
  rfl
theorem strOk_cut {z : Str} (h : PyData.strOk z = true) (lo hi : Option Int) : PyData.strOk (cutS z lo hi) = true := by
  unfold PyData.strOk at h ⊢
  rw [← Array.all_toList, List.all_eq_true] at h ⊢
  intro c hc
  unfold cutS at hc
  rw [List.toList_toArray] at hc
  exact h c (List.mem_of_mem_drop (List.mem_of_mem_take hc))
theorem strOk_app {a b : Str} (h : PyData.strOk a = true) (k : PyData.strOk b = true) : PyData.strOk (a ++ b) = true := by
  unfold PyData.strOk at h k ⊢
  show (a.cps ++ b.cps).all _ = true
  rw [Array.all_append, h, k]
  rfl
theorem len_app (a b : Str) : (a ++ b).length = a.length + b.length := by
  show (a.cps ++ b.cps).size = a.cps.size + b.cps.size
  rw [Array.size_append]
theorem len_to (z : Str) (a : Nat) (h : a ≤ z.length) : (cutS z none (some (a : Int))).length = a := by
  show (((z.cps.toList.drop (HT.sIx z.length 0 none)).take (HT.sIx z.length z.length (some (a : Int)) - HT.sIx z.length 0 none)).toArray).size = a
  rw [HT.sIx_none, HT.sIx_nat, List.size_toArray, List.length_take, List.length_drop, Array.length_toList]
  have : z.cps.size = z.length := rfl
  omega
theorem len_from (z : Str) (a : Nat) : (cutS z (some (a : Int)) none).length = z.length - a := by
  show (((z.cps.toList.drop (HT.sIx z.length 0 (some (a : Int)))).take (HT.sIx z.length z.length none - HT.sIx z.length 0 (some (a : Int)))).toArray).size = z.length - a
  rw [HT.sIx_none, HT.sIx_nat, List.size_toArray, List.length_take, List.length_drop, Array.length_toList]
  have : z.cps.size = z.length := rfl
  omega
structure Kd (B n : Nat) (d : D) : Prop where
  y : YOk B n d
  s : ∀ s, d = .str s → PyData.strOk s = true ∧ s.length ≤ 1000
  t : ∀ s z, d = .tup [.str s, z] → PyData.strOk s = true
theorem kd_of {B n : Nat} {d : D} (h : fit 63 d = true) (hb : (py d).bulk ≤ B) (hd : (py d).depth ≤ n) (hs : ∀ s, d = .str s → PyData.strOk s = true ∧ s.length ≤ 1000) (ht : ∀ s z, d = .tup [.str s, z] → PyData.strOk s = true) : Kd B n d := ⟨y_fit h hb hd, hs, ht⟩
theorem Kd.mono {B C n m : Nat} {d : D} (h : Kd B n d) (h1 : B ≤ C) (h2 : n ≤ m) : Kd C m d := ⟨h.y.mono h1 h2, h.s, h.t⟩
theorem kd_int {i : Int} (h : i.natAbs < 10 ^ 129) : Kd 60 3 (.int i) := kd_of (fit_int h) (by simp [py, PyData.bulk]) (by simp [py, PyData.depth]) (fun _ e => by cases e) (fun _ _ e => by cases e)
theorem kd_str {s : Str} (h : PyData.strOk s = true) (hl : s.length ≤ 60) : Kd 60 3 (.str s) := kd_of (by simpa only [fit] using h) (by
    simp only [py, PyData.bulk]
    have : s.cps.size = s.length := rfl
    omega) (by simp [py, PyData.depth]) (fun t e => by cases e; exact ⟨h, by omega⟩) (fun _ _ e => by cases e)
theorem ix_str {z : Str} (hz : z.length ≤ 16777216) {m : Nat} (h : m < z.cps.toList.length) (S : Store) : ixG (.fr (.str z)) (.fr (.int (m : Int))) S = .ok (.fr (.str ⟨#[z.cps.toList[m]]⟩), S) := by
  unfold ixG
  simp only [rdS, rdL]
  rw [if_pos (by rw [sizeLine_eq]; exact hz), DL.atI_nat, List.getElem?_eq_getElem h]
  rfl
theorem one_ok {z : Str} (hs : PyData.strOk z = true) {m : Nat} (h : m < z.cps.toList.length) : PyData.strOk (⟨#[z.cps.toList[m]]⟩ : Str) = true := by
  unfold PyData.strOk at hs ⊢
  rw [← Array.all_toList, List.all_eq_true] at hs
  have := hs _ (List.getElem_mem h)
  simpa using this
theorem glue_go : ∀ (r : List Str) (acc : Array Nat), (∀ z ∈ r, PyData.strOk z = true ∧ z.length = 1) → acc.all (· < 0x110000) = true → (r.foldl (fun (acc : Array Nat) (p : Str) => acc ++ ("" : Str).cps ++ p.cps) acc).all (· < 0x110000) = true ∧ (r.foldl (fun (acc : Array Nat) (p : Str) => acc ++ ("" : Str).cps ++ p.cps) acc).size = acc.size + r.length
  | [], acc, _, h => ⟨h, rfl⟩
  | z :: r, acc, h, ha => by
    have hz := h z List.mem_cons_self
    have h0 : (("" : Str).cps.all (· < 0x110000)) = true := by decide +kernel
    have h1 : ("" : Str).cps.size = 0 := by decide +kernel
    have hz1 : (z.cps.all (· < 0x110000)) = true := hz.1
    have hz2 : z.cps.size = 1 := hz.2
    obtain ⟨a, b⟩ := glue_go r (acc ++ ("" : Str).cps ++ z.cps) (fun x hx => h x (List.mem_cons_of_mem _ hx)) (by rw [Array.all_append, Array.all_append, ha, h0, hz1]; rfl)
    rw [List.foldl_cons]
    refine ⟨a, ?_⟩
    rw [b, Array.size_append, Array.size_append, h1, hz2, List.length_cons]
    omega
theorem join0 (zs : List Str) (h : ∀ z ∈ zs, PyData.strOk z = true ∧ z.length = 1) : PyData.strOk (Txt.join "" zs) = true ∧ (Txt.join "" zs).length = zs.length := by
  cases zs with
  | nil => exact ⟨by decide +kernel, by decide +kernel⟩
  | cons z r =>
    have hz := h z List.mem_cons_self
    obtain ⟨a, b⟩ := glue_go r z.cps (fun x hx => h x (List.mem_cons_of_mem _ hx)) hz.1
    refine ⟨a, ?_⟩
    show ((r.foldl (fun (acc : Array Nat) (p : Str) => acc ++ ("" : Str).cps ++ p.cps) z.cps)).size = r.length + 1
    have hz2 : z.cps.size = 1 := hz.2
    rw [b, hz2]
    omega
theorem strs_fr : ∀ zs : List Str, strsOf ((zs.map D.str).map SV.fr) = some zs
  | [] => rfl
  | z :: zs => by
    rw [List.map_cons, List.map_cons]
    unfold strsOf
    rw [strs_fr zs]
    rfl
theorem join_lst {zs : List Str} (h : ∀ z ∈ zs, PyData.strOk z = true ∧ z.length = 1) (hl : zs.length ≤ 1000) (S : Store) : joinG (.fr (.str "")) [.fr (.lst (zs.map D.str))] S = .ok (.fr (.str (Txt.join "" zs)), S) := by
  unfold joinG
  simp only [rdS, rdL, strs_fr]
  have e : (zs.map (·.length)).sum = zs.length := by
    clear hl
    induction zs with
    | nil => rfl
    | cons z zs ih =>
      rw [List.map_cons, List.sum_cons, ih fun x hx => h x (List.mem_cons_of_mem _ hx), (h z List.mem_cons_self).2, List.length_cons]
      omega
  rw [if_pos (by
    rw [e]
    have : ("" : Str).length = 0 := by decide +kernel
    rw [this]
    omega)]
  rfl

section
variable {S : Store}
theorem lc_genK {α : Type} {gm : GM} {t : TM} {e : EM} {rho : Slots} {own : List Nat} {lk : Store → Prop} (enc : α → SV) (out : α → Option D) (hlk : ∀ ds : List D, lk (S ++ [.lst (ds.map SV.fr)])) : ∀ (l : List α) (ds : List D), ds.length + l.length ≤ 1000000 →
    (∀ a ∈ l, ∀ ds : List D, lcT gm t e (enc a) (wipeR rho own) (S ++ [.lst (ds.map SV.fr)]) = .ok ((out a).map SV.fr, S ++ [.lst (ds.map SV.fr)])) →
    lcM lk gm t e own rho (l.map enc) S (ds.map SV.fr) = .ok ((ds ++ l.filterMap out).map SV.fr, S)
  | [], ds, _, _ => by
    rw [List.map_nil, List.filterMap_nil, List.append_nil]
    exact lc_nil (hlk ds)
  | a :: l, ds, hz, h => by
    have st := h a List.mem_cons_self ds
    rw [List.map_cons, List.filterMap_cons]
    simp only [List.length_cons] at hz
    cases ho : out a with
    | none =>
      rw [ho] at st
      rw [lc_none (hlk ds) rfl st]
      exact lc_genK enc out hlk l ds (by omega) fun x hx => h x (List.mem_cons_of_mem _ hx)
    | some y =>
      rw [ho] at st
      rw [lc_some (hlk ds) (by rw [List.length_map, sizeLine_eq]; omega) rfl st]
      have := lc_genK enc out hlk l (ds ++ [y]) (by simp only [List.length_append, List.length_cons, List.length_nil]; omega) fun x hx => h x (List.mem_cons_of_mem _ hx)
      rw [List.map_append] at this
      rw [List.append_assoc] at this
      exact this
end

section
variable {rho : Slots} {S : Store} {m : AM}
def k_zs (r : List SV × Store) : Res (DL.Wk × Store) := match r.1 with
  | [.fr (.str t), .fr (.tup ds)] => .ok (⟨ziS t.cps.toList ds, fun _ => True⟩, r.2)
  | _ => .stuck
theorem r_zs : iZs m rho S = (m rho S).bind k_zs := id rfl
theorem s_zs (t : Str) (ds : List D) : k_zs ([.fr (.str t), .fr (.tup ds)], S) = .ok (⟨ziS t.cps.toList ds, fun _ => True⟩, S) := id rfl
end
theorem zs_enc : ∀ (cs : List Nat) (ds : List D), ziS cs ds = (cs.zip ds).map fun q : Nat × D => SV.fr (.tup [.str ⟨#[q.1]⟩, q.2])
  | [], ds => by simp [ziS]
  | c :: cs, [] => by simp [ziS]
  | c :: cs, d :: ds => by
    have := zs_enc cs ds
    unfold ziS at this ⊢
    rw [List.zipWith_cons_cons, List.zip_cons_cons, List.map_cons, this]
def numB (m : Int) : D → Bool
  | .int i => decide (0 ≤ i) && decide (i ≤ m)
  | _ => false
theorem numB_lev (d : D) : levB d = numB 2 d := by cases d <;> rfl
def nonB : D → Bool
  | .non => true
  | _ => false
def kindB (k : Str) (d : D) : Bool := if k = "p" then byteB d else if k = "f" then nameB d else if k = "d" then numB 15 d else if k = "t" then (nonB d || numB 15 d) else if k = "l" then levB d else tBl d
theorem eq_str (n : Bool) (x y : Str) (S : Store) : eqG n (.fr (.str x)) (.fr (.str y)) S = .ok (.fr (.bl (if n then !decide (x = y) else decide (x = y))), S) := by
  have h : eqD (.str x) (.str y) = some (decide (x = y)) := by simp [eqD]
  exact r_eq n (S := S) (a := .fr (.str x)) (b := .fr (.str y)) rfl rfl h
theorem eqs_t {x y : Str} (h : x = y) (S : Store) : eqG false (.fr (.str x)) (.fr (.str y)) S = .ok (.fr (.bl true), S) := by
  rw [eq_str, decide_eq_true h]
  rfl
theorem eqs_f {x y : Str} (h : ¬ x = y) (S : Store) : eqG false (.fr (.str x)) (.fr (.str y)) S = .ok (.fr (.bl false), S) := by
  rw [eq_str, decide_eq_false h]
  rfl
section
variable {S : Store} (wf : WF S)
include wf
theorem desc_x {d : D} (h : isX d = true) : m_is_descriptor [.fr d] S = .ok (.val (.fr (.bl (numB 15 d))), S) := by
  have e := integer_x wf h
  cases d with
  | int i =>
    simp only [isI, numB] at e ⊢
    by_cases q : 0 ≤ i
    · rw [decide_eq_true q, Bool.true_and]
      simp only [RR, DL.isNon, List.replicate_succ, List.replicate_zero, List.set_cons_zero, List.set_cons_succ, List.getElem?_cons_zero, List.getElem?_cons_succ, Option.map_some, Nat.reduceSub, and_self, and_true, true_and, decide_true, decide_false, if_true, if_false, Bool.false_eq_true, Bool.not_true, Bool.not_false, Nat.reduceAdd, Nat.reduceMul, Nat.reduceLeDiff, m_is_descriptor, b_is_descriptor, m_is_between, b_is_between, e, decide_eq_true q, leave_val wf]
    · rw [decide_eq_false q, Bool.false_and]
      simp only [RR, DL.isNon, List.replicate_succ, List.replicate_zero, List.set_cons_zero, List.set_cons_succ, List.getElem?_cons_zero, List.getElem?_cons_succ, Option.map_some, Nat.reduceSub, and_self, and_true, true_and, decide_true, decide_false, if_true, if_false, Bool.false_eq_true, Bool.not_true, Bool.not_false, Nat.reduceAdd, Nat.reduceMul, Nat.reduceLeDiff, m_is_descriptor, b_is_descriptor, m_is_between, b_is_between, e, decide_eq_false q, leave_val wf]
  | _ => first
    | (exfalso; revert h; simp [isX]; done)
    | (simp only [isI, numB] at e ⊢; simp only [RR, DL.isNon, List.replicate_succ, List.replicate_zero, List.set_cons_zero, List.set_cons_succ, List.getElem?_cons_zero, List.getElem?_cons_succ, Option.map_some, Nat.reduceSub, and_self, and_true, true_and, decide_true, decide_false, if_true, if_false, Bool.false_eq_true, Bool.not_true, Bool.not_false, Nat.reduceAdd, Nat.reduceMul, Nat.reduceLeDiff, m_is_descriptor, b_is_descriptor, m_is_between, b_is_between, e, leave_val wf])
theorem part_x {d : D} (k : Str) (h : isX d = true) (hl : ∀ s, d = .str s → s.length ≤ 1000) : m_is_part [.fr (.str k), .fr d] S = .ok (.val (.fr (.bl (kindB k d))), S) := by
  have f1 := byte_x wf h
  have f2 := name_all wf h hl
  have f3 := desc_x wf h
  have f4 := level_x wf h
  obtain ⟨_, f5, _⟩ := isi_x h S
  have lv := fun b : Bool => leave_val wf (d := .bl b)
  unfold kindB
  by_cases q1 : k = "p"
  · rw [if_pos q1]
    simp only [RR, DL.isNon, List.replicate_succ, List.replicate_zero, List.set_cons_zero, List.set_cons_succ, List.getElem?_cons_zero, List.getElem?_cons_succ, Option.map_some, Nat.reduceSub, and_self, and_true, true_and, decide_true, decide_false, if_true, if_false, Bool.false_eq_true, Bool.not_true, Bool.not_false, Nat.reduceAdd, Nat.reduceMul, Nat.reduceLeDiff, m_is_part, b_is_part, eqs_t q1 S, f1, lv]
  rw [if_neg q1]
  by_cases q2 : k = "f"
  · rw [if_pos q2]
    simp only [RR, DL.isNon, List.replicate_succ, List.replicate_zero, List.set_cons_zero, List.set_cons_succ, List.getElem?_cons_zero, List.getElem?_cons_succ, Option.map_some, Nat.reduceSub, and_self, and_true, true_and, decide_true, decide_false, if_true, if_false, Bool.false_eq_true, Bool.not_true, Bool.not_false, Nat.reduceAdd, Nat.reduceMul, Nat.reduceLeDiff, m_is_part, b_is_part, eqs_f q1 S, eqs_t q2 S, f2, lv]
  rw [if_neg q2]
  by_cases q3 : k = "d"
  · rw [if_pos q3]
    simp only [RR, DL.isNon, List.replicate_succ, List.replicate_zero, List.set_cons_zero, List.set_cons_succ, List.getElem?_cons_zero, List.getElem?_cons_succ, Option.map_some, Nat.reduceSub, and_self, and_true, true_and, decide_true, decide_false, if_true, if_false, Bool.false_eq_true, Bool.not_true, Bool.not_false, Nat.reduceAdd, Nat.reduceMul, Nat.reduceLeDiff, m_is_part, b_is_part, eqs_f q1 S, eqs_f q2 S, eqs_t q3 S, f3, lv]
  rw [if_neg q3]
  by_cases q4 : k = "t"
  · rw [if_pos q4]
    by_cases hn : d = .non
    · subst hn
      have isn : isG false (.fr .non) (.fr .non) S = .ok (.fr (.bl true), S) := rfl
      have nb : (nonB .non || numB 15 .non) = true := rfl
      rw [nb]
      simp only [RR, DL.isNon, List.replicate_succ, List.replicate_zero, List.set_cons_zero, List.set_cons_succ, List.getElem?_cons_zero, List.getElem?_cons_succ, Option.map_some, Nat.reduceSub, and_self, and_true, true_and, decide_true, decide_false, if_true, if_false, Bool.false_eq_true, Bool.not_true, Bool.not_false, Nat.reduceAdd, Nat.reduceMul, Nat.reduceLeDiff, m_is_part, b_is_part, eqs_f q1 S, eqs_f q2 S, eqs_f q3 S, eqs_t q4 S, isn, lv]
    · have isn := isn_x hn S
      have nb : nonB d = false := by
        cases d <;> first | rfl | exact absurd rfl hn
      rw [nb, Bool.false_or]
      simp only [RR, DL.isNon, List.replicate_succ, List.replicate_zero, List.set_cons_zero, List.set_cons_succ, List.getElem?_cons_zero, List.getElem?_cons_succ, Option.map_some, Nat.reduceSub, and_self, and_true, true_and, decide_true, decide_false, if_true, if_false, Bool.false_eq_true, Bool.not_true, Bool.not_false, Nat.reduceAdd, Nat.reduceMul, Nat.reduceLeDiff, m_is_part, b_is_part, eqs_f q1 S, eqs_f q2 S, eqs_f q3 S, eqs_t q4 S, isn, f3, lv]
  rw [if_neg q4]
  by_cases q5 : k = "l"
  · rw [if_pos q5]
    simp only [RR, DL.isNon, List.replicate_succ, List.replicate_zero, List.set_cons_zero, List.set_cons_succ, List.getElem?_cons_zero, List.getElem?_cons_succ, Option.map_some, Nat.reduceSub, and_self, and_true, true_and, decide_true, decide_false, if_true, if_false, Bool.false_eq_true, Bool.not_true, Bool.not_false, Nat.reduceAdd, Nat.reduceMul, Nat.reduceLeDiff, m_is_part, b_is_part, eqs_f q1 S, eqs_f q2 S, eqs_f q3 S, eqs_f q4 S, eqs_t q5 S, f4, lv]
  rw [if_neg q5]
  simp only [RR, DL.isNon, List.replicate_succ, List.replicate_zero, List.set_cons_zero, List.set_cons_succ, List.getElem?_cons_zero, List.getElem?_cons_succ, Option.map_some, Nat.reduceSub, and_self, and_true, true_and, decide_true, decide_false, if_true, if_false, Bool.false_eq_true, Bool.not_true, Bool.not_false, Nat.reduceAdd, Nat.reduceMul, Nat.reduceLeDiff, m_is_part, b_is_part, eqs_f q1 S, eqs_f q2 S, eqs_f q3 S, eqs_f q4 S, eqs_f q5 S, f5, lv]
end

abbrev PT : List (Str × Str) := [("start", ""), ("fork", "p"), ("open", "pf"), ("dup", "pdt"), ("close", "pd"), ("end", "p"), ("lock", "pdlseow"), ("whole", "pdlw"), ("give up", "p")]
structure Pt (d : D) : Prop where
  y : YOk 60 3 d
  s : ∀ s, d = .str s → PyData.strOk s = true ∧ s.length ≤ 60
  i : ∀ i, d = .int i → i ≤ 100000000000000000000000000000000000000000000000000
theorem Pt.x {d : D} (h : Pt d) : isX d = true := h.y.x
def lockB : List D → Bool
  | [a, b, c, d, e, f, g] => byteB a && (numB 15 b && (levB c && ((byteB d && endB d e) && (ownW f && tBl g))))
  | _ => false
def zipB (k : Str) (ps : List D) : Bool := (k.cps.toList.zip ps).all fun q => kindB ⟨#[q.1]⟩ q.2
def deedB (w : Str) (ps : List D) : Bool := match lookS PT w with
  | none => false
  | some k => if (1 + ps.length : Int) = 1 + k.length then (if w = "lock" then lockB ps else zipB k ps) else false
theorem len_cons (w : D) (ps : List D) (S : Store) : lenG [.fr (.tup (w :: ps))] S = .ok (.fr (.int (1 + ps.length)), S) := by
  have e : lenG [.fr (.tup (w :: ps))] S = .ok (.fr (.int ((w :: ps).length : Nat)), S) := rfl
  rw [e, List.length_cons]
  rw [show ((ps.length + 1 : Nat) : Int) = 1 + ps.length by omega]
theorem ix_0 (a : D) (ps : List D) : atI (a :: ps) 0 = some a := by
  show atI (a :: ps) ((0 : Nat) : Int) = some a
  rw [DL.atI_nat]
  rfl
theorem cut_to (L : List D) (n : Nat) : cutA L none (some (n : Int)) = L.take n := by
  show (L.drop (HT.sIx L.length 0 none)).take (HT.sIx L.length L.length (some (n : Int)) - HT.sIx L.length 0 none) = L.take n
  rw [HT.sIx_none, HT.sIx_nat, List.drop_zero, Nat.sub_zero]
  rcases Nat.le_total n L.length with h | h
  · rw [Nat.min_eq_left h]
  · rw [Nat.min_eq_right h, List.take_length, List.take_of_length_le h]
theorem cut_fr (L : List D) (n : Nat) : cutA L (some (n : Int)) none = L.drop n := by
  show (L.drop (HT.sIx L.length 0 (some (n : Int)))).take (HT.sIx L.length L.length none - HT.sIx L.length 0 (some (n : Int))) = L.drop n
  rw [HT.sIx_none, HT.sIx_nat]
  rcases Nat.le_total n L.length with h | h
  · rw [Nat.min_eq_left h, List.take_of_length_le (by rw [List.length_drop]; omega)]
  · rw [Nat.min_eq_right h, List.drop_length, List.take_nil, List.drop_of_length_le h]
theorem sl_tup (ds : List D) (lo hi : Option Int) (S : Store) : slG false (.fr (.tup ds)) lo hi S = .ok (.fr (.tup (cutA ds lo hi)), S) := rfl
section
variable {S : Store} (wf : WF S)
include wf
theorem lock_x {w a b c d e f g : D} (ha : isX a = true) (hb : isX b = true) (hc : isX c = true) (hd : isX d = true) (he : isX e = true) (hf : isX f = true) (hg : isX g = true) :
    m_is_lock [.fr (.tup [w, a, b, c, d, e, f, g])] S = .ok (.val (.fr (.bl (lockB [a, b, c, d, e, f, g]))), S) := by
  have f1 := byte_x wf ha
  have f2 := desc_x wf hb
  have f3 := level_x wf hc
  have f4 := span_x wf hd he
  obtain ⟨_, _, f5, _⟩ := isi_x hf S
  obtain ⟨_, f6, _⟩ := isi_x hg S
  have lv := fun b : Bool => leave_val wf (d := .bl b)
  have sl := sl_tup [w, a, b, c, d, e, f, g] (some 4) (some 6) S
  have ct : cutA [w, a, b, c, d, e, f, g] (some 4) (some 6) = [d, e] := rfl
  rw [ct] at sl
  rw [show lockB [a, b, c, d, e, f, g] = (byteB a && (numB 15 b && (levB c && ((byteB d && endB d e) && (ownW f && tBl g))))) from rfl]
  have a1 : atI [w, a, b, c, d, e, f, g] 1 = some a := rfl
  have a2 : atI [w, a, b, c, d, e, f, g] 2 = some b := rfl
  have a3 : atI [w, a, b, c, d, e, f, g] 3 = some c := rfl
  have a6 : atI [w, a, b, c, d, e, f, g] 6 = some f := rfl
  have a7 : atI [w, a, b, c, d, e, f, g] 7 = some g := rfl
  generalize byteB a = b1 at *
  generalize numB 15 b = b2 at *
  generalize levB c = b3 at *
  generalize (byteB d && endB d e) = b4 at *
  cases b1 with
  | false => simp only [Bool.false_and]; simp only [RR, DL.isNon, List.replicate_succ, List.replicate_zero, List.set_cons_zero, List.set_cons_succ, List.getElem?_cons_zero, List.getElem?_cons_succ, Option.map_some, Nat.reduceSub, and_self, and_true, true_and, decide_true, decide_false, if_true, if_false, Bool.false_eq_true, Bool.not_true, Bool.not_false, Nat.reduceAdd, Nat.reduceMul, Nat.reduceLeDiff, m_is_lock, b_is_lock, a1, a2, a3, a6, a7, f1, lv]
  | true =>
  cases b2 with
  | false => simp only [Bool.false_and, Bool.and_false]; simp only [RR, DL.isNon, List.replicate_succ, List.replicate_zero, List.set_cons_zero, List.set_cons_succ, List.getElem?_cons_zero, List.getElem?_cons_succ, Option.map_some, Nat.reduceSub, and_self, and_true, true_and, decide_true, decide_false, if_true, if_false, Bool.false_eq_true, Bool.not_true, Bool.not_false, Nat.reduceAdd, Nat.reduceMul, Nat.reduceLeDiff, m_is_lock, b_is_lock, a1, a2, a3, a6, a7, f1, f2, lv]
  | true =>
  cases b3 with
  | false => simp only [Bool.false_and, Bool.and_false]; simp only [RR, DL.isNon, List.replicate_succ, List.replicate_zero, List.set_cons_zero, List.set_cons_succ, List.getElem?_cons_zero, List.getElem?_cons_succ, Option.map_some, Nat.reduceSub, and_self, and_true, true_and, decide_true, decide_false, if_true, if_false, Bool.false_eq_true, Bool.not_true, Bool.not_false, Nat.reduceAdd, Nat.reduceMul, Nat.reduceLeDiff, m_is_lock, b_is_lock, a1, a2, a3, a6, a7, f1, f2, f3, lv]
  | true =>
  cases b4 with
  | false => simp only [Bool.false_and, Bool.and_false]; simp only [RR, DL.isNon, List.replicate_succ, List.replicate_zero, List.set_cons_zero, List.set_cons_succ, List.getElem?_cons_zero, List.getElem?_cons_succ, Option.map_some, Nat.reduceSub, and_self, and_true, true_and, decide_true, decide_false, if_true, if_false, Bool.false_eq_true, Bool.not_true, Bool.not_false, Nat.reduceAdd, Nat.reduceMul, Nat.reduceLeDiff, m_is_lock, b_is_lock, a1, a2, a3, a6, a7, f1, f2, f3, sl, f4, lv]
  | true =>
  simp only [Bool.true_and]
  cases f with
  | str s =>
    simp only [tStr] at f5
    have i := inK_o s S
    cases hb : ownW (.str s) with
    | false =>
      rw [hb] at i
      simp only [RR, DL.isNon, List.replicate_succ, List.replicate_zero, List.set_cons_zero, List.set_cons_succ, List.getElem?_cons_zero, List.getElem?_cons_succ, Option.map_some, Nat.reduceSub, and_self, and_true, true_and, decide_true, decide_false, if_true, if_false, Bool.false_eq_true, Bool.not_true, Bool.not_false, Nat.reduceAdd, Nat.reduceMul, Nat.reduceLeDiff, m_is_lock, b_is_lock, a1, a2, a3, a6, a7, f1, f2, f3, sl, f4, f5, i, Bool.false_and, lv]
    | true =>
      rw [hb] at i
      simp only [RR, DL.isNon, List.replicate_succ, List.replicate_zero, List.set_cons_zero, List.set_cons_succ, List.getElem?_cons_zero, List.getElem?_cons_succ, Option.map_some, Nat.reduceSub, and_self, and_true, true_and, decide_true, decide_false, if_true, if_false, Bool.false_eq_true, Bool.not_true, Bool.not_false, Nat.reduceAdd, Nat.reduceMul, Nat.reduceLeDiff, m_is_lock, b_is_lock, a1, a2, a3, a6, a7, f1, f2, f3, sl, f4, f5, i, f6, Bool.true_and, lv]
  | _ => first
    | (exfalso; revert hf; simp [isX]; done)
    | (simp only [tStr] at f5; simp only [ownW, Bool.false_and]; simp only [RR, DL.isNon, List.replicate_succ, List.replicate_zero, List.set_cons_zero, List.set_cons_succ, List.getElem?_cons_zero, List.getElem?_cons_succ, Option.map_some, Nat.reduceSub, and_self, and_true, true_and, decide_true, decide_false, if_true, if_false, Bool.false_eq_true, Bool.not_true, Bool.not_false, Nat.reduceAdd, Nat.reduceMul, Nat.reduceLeDiff, m_is_lock, b_is_lock, a1, a2, a3, a6, a7, f1, f2, f3, sl, f4, f5, lv])
theorem deed_x {w : Str} {ps : List D} (hp : ∀ d ∈ ps, Pt d) : m_is_deed [.fr (.tup (.str w :: ps))] S = .ok (.val (.fr (.bl (deedB w ps))), S) := by
  have t1 : isiG [.fr (.tup (.str w :: ps)), .fr (.ty "tuple")] S = .ok (.fr (.bl true), S) := rfl
  have t2 : isiG [.fr (.str w), .fr (.ty "str")] S = .ok (.fr (.bl true), S) := rfl
  have t3 : eqT0G (.fr (.tup (.str w :: ps))) (.fr (.tup [])) S = .ok (.fr (.bl false), S) := rfl
  have i0 := ix_0 (.str w) ps
  have ln := len_cons (.str w) ps S
  have lv := fun b : Bool => leave_val wf (d := .bl b)
  have ic : inCDG "PARTS" PT true (.fr (.str w)) (.fr (.cls "PARTS")) S = .ok (.fr (.bl (!(lookS PT w).isSome)), S) := by
    unfold inCDG
    simp only [if_true]
    rfl
  unfold deedB
  cases hk : lookS PT w with
  | none =>
    rw [hk] at ic
    simp only [Option.isSome_none, Bool.not_false] at ic
    simp only [RR, DL.isNon, List.replicate_succ, List.replicate_zero, List.set_cons_zero, List.set_cons_succ, List.getElem?_cons_zero, List.getElem?_cons_succ, Option.map_some, Nat.reduceSub, and_self, and_true, true_and, decide_true, decide_false, if_true, if_false, Bool.false_eq_true, Bool.not_true, Bool.not_false, Nat.reduceAdd, Nat.reduceMul, Nat.reduceLeDiff, m_is_deed, b_is_deed, t1, t2, t3, i0, ic, lv]
  | some k =>
    rw [hk] at ic
    simp only [Option.isSome_some, Bool.not_true] at ic
    have xc : ixCDG "PARTS" PT (.fr (.cls "PARTS")) (.fr (.str w)) S = .ok (.fr (.str k), S) := by
      unfold ixCDG
      simp only [if_true, hk]
      rfl
    have kl : k.length ≤ 100 := by
      unfold PT at hk
      simp only [lookS] at hk
      repeat' (split at hk)
      all_goals first
        | (cases hk; decide +kernel)
        | cases hk
    have lk := lenStr k S (by omega)
    by_cases q : (1 + ps.length : Int) = 1 + k.length
    · have q' : ps.length = k.length := by omega
      simp only [if_pos q]
      by_cases hw : w = "lock"
      · simp only [if_pos hw]
        subst hw
        have ek : k = "pdlseow" := by
          have : lookS PT "lock" = some "pdlseow" := by decide +kernel
          rw [this] at hk
          cases hk
          rfl
        subst ek
        have l7 : ("pdlseow" : Str).length = 7 := by decide +kernel
        rw [l7] at q'
        match ps, q', hp with
        | [a, b, c, d, e, f, g], _, hp =>
          simp only [List.forall_mem_cons] at hp
          have lx := lock_x wf (w := .str "lock") hp.1.x hp.2.1.x hp.2.2.1.x hp.2.2.2.1.x hp.2.2.2.2.1.x hp.2.2.2.2.2.1.x hp.2.2.2.2.2.2.1.x
          have eqt := eqs_t (rfl : ("lock" : Str) = "lock") S
          simp only [RR, DL.isNon, List.replicate_succ, List.replicate_zero, List.set_cons_zero, List.set_cons_succ, List.getElem?_cons_zero, List.getElem?_cons_succ, Option.map_some, Nat.reduceSub, and_self, and_true, true_and, decide_true, decide_false, if_true, if_false, Bool.false_eq_true, Bool.not_true, Bool.not_false, Nat.reduceAdd, Nat.reduceMul, Nat.reduceLeDiff, m_is_deed, b_is_deed, t1, t2, t3, i0, ic, xc, ln, lk, decide_eq_true q, Bool.not_true, eqt, lx, lv]
      · simp only [if_neg hw]
        have sl := sl_tup (.str w :: ps) (some 1) none S
        have ct : cutA (.str w :: ps) (some 1) none = ps := by
          have := cut_fr (.str w :: ps) 1
          rw [List.drop_one, List.tail_cons] at this
          exact this
        rw [ct] at sl
        have zl : k.cps.toList.length = k.length := Array.length_toList
        have cm : lcM (fun _ => True) (gTu 2 (gCs (gNm 3) (gCs (gNm 4) gNl))) tTr (eCall m_is_part false (aC (eV 3) (aC (eV 4) aN))) [2, 3, 4] [some (.fr (.tup (.str w :: ps))), some (.fr (.str k)), none, none, none] (ziS k.cps.toList ps) S [] =
            .ok (((k.cps.toList.zip ps).map fun q => D.bl (kindB ⟨#[q.1]⟩ q.2)).map SV.fr, S) := by
          rw [zs_enc]
          have hlen : (k.cps.toList.zip ps).length ≤ 1000 := by rw [List.length_zip]; omega
          have := lc_genK (S := S) (rho := [some (.fr (.tup (.str w :: ps))), some (.fr (.str k)), none, none, none]) (own := [2, 3, 4]) (lk := fun _ => True) (gm := gTu 2 (gCs (gNm 3) (gCs (gNm 4) gNl))) (t := tTr) (e := eCall m_is_part false (aC (eV 3) (aC (eV 4) aN)))
            (fun q : Nat × D => SV.fr (.tup [.str ⟨#[q.1]⟩, q.2])) (fun q : Nat × D => some (D.bl (kindB ⟨#[q.1]⟩ q.2))) (fun _ => trivial) (k.cps.toList.zip ps) [] (by simp only [List.length_nil]; omega) fun q hq ds => by
              obtain ⟨c, p⟩ := q
              have hpp := hp p (List.of_mem_zip hq).2
              have px := part_x (S := S ++ [.lst (ds.map SV.fr)]) (wf_acc wf ds) (⟨#[c]⟩ : Str) hpp.x fun s e => Nat.le_trans (hpp.s s e).2 (by decide)
              generalize kindB (⟨#[c]⟩ : Str) p = kb at *
              simp only [RR, DL.isNon, List.replicate_succ, List.replicate_zero, List.set_cons_zero, List.set_cons_succ, List.getElem?_cons_zero, List.getElem?_cons_succ, Option.map_some, Nat.reduceSub, and_self, and_true, true_and, decide_true, decide_false, if_true, if_false, Bool.false_eq_true, Bool.not_true, Bool.not_false, Nat.reduceAdd, Nat.reduceMul, Nat.reduceLeDiff, px, Option.map_some]
          rw [List.map_nil, List.nil_append] at this
          rw [this]
          rw [show (fun q : Nat × D => some (D.bl (kindB ⟨#[q.1]⟩ q.2))) = some ∘ (fun q : Nat × D => D.bl (kindB ⟨#[q.1]⟩ q.2)) from rfl, List.filterMap_eq_map]
        have al : (((k.cps.toList.zip ps).map fun q => (kindB ⟨#[q.1]⟩ q.2)).all id) = zipB k ps := by
          unfold zipB
          rw [List.all_map]
          rfl
        have mm : ((k.cps.toList.zip ps).map fun q => D.bl (kindB ⟨#[q.1]⟩ q.2)) = ((k.cps.toList.zip ps).map fun q => (kindB ⟨#[q.1]⟩ q.2)).map D.bl := by
          rw [List.map_map]
          rfl
        rw [mm] at cm
        have eqf := eqs_f hw S
        simp only [RR, DL.isNon, List.replicate_succ, List.replicate_zero, List.set_cons_zero, List.set_cons_succ, List.getElem?_cons_zero, List.getElem?_cons_succ, Option.map_some, Nat.reduceSub, and_self, and_true, true_and, decide_true, decide_false, if_true, if_false, Bool.false_eq_true, Bool.not_true, Bool.not_false, Nat.reduceAdd, Nat.reduceMul, Nat.reduceLeDiff, m_is_deed, b_is_deed, t1, t2, t3, i0, ic, xc, ln, lk, decide_eq_true q, Bool.not_true, eqf, sl, r_zs, s_zs, cm, s_lceF wf, all_bls, al, lv]
    · simp only [if_neg q]
      simp only [RR, DL.isNon, List.replicate_succ, List.replicate_zero, List.set_cons_zero, List.set_cons_succ, List.getElem?_cons_zero, List.getElem?_cons_succ, Option.map_some, Nat.reduceSub, and_self, and_true, true_and, decide_true, decide_false, if_true, if_false, Bool.false_eq_true, Bool.not_true, Bool.not_false, Nat.reduceAdd, Nat.reduceMul, Nat.reduceLeDiff, m_is_deed, b_is_deed, t1, t2, t3, i0, ic, xc, ln, lk, decide_eq_false q, Bool.not_false, lv]
end

section
variable {rho r : Slots} {S S' : Store}
theorem r_rs0 (C : Str) : sRs0 C rho S = .exc ⟨C, []⟩ rho S := id rfl
theorem b_exc {α β : Type} (e : Exc) (f : α → Res β) : (Res.exc e r S : Res α).bind f = .exc e r S := id rfl
end

section
variable {rho : Slots} {S : Store} {m : EM} {n : JM} {ma : AM} {ms : GMs}
theorem r_fmt : eFmt m rho S = (m rho S).bind k_fmt := id rfl
theorem s_fmtS {y : Str} (h : y.length ≤ 16777216) : k_fmt (.fr (.str y), S) = .ok (.fr (.str y), S) := by
  unfold k_fmt
  simp only
  rw [if_pos (by rw [sizeLine_eq]; exact h)]
theorem s_fmtI {i : Int} (h : i.natAbs.log2 < 1920) : k_fmt (.fr (.int i), S) = .ok (.fr (.str (toString i)), S) := by
  unfold k_fmt
  simp only
  rw [if_pos h]
theorem r_js : eJs n rho S = n rho S Str.empty := id rfl
theorem r_jN (acc : Str) : jN rho S acc = .ok (.fr (.str acc), S) := id rfl
theorem r_jC (acc : Str) : jC m n rho S acc = (m rho S).bind (k_j n rho acc) := id rfl
theorem s_j {y acc : Str} (h : acc.length + y.length ≤ 16777216) : k_j n rho acc (.fr (.str y), S) = n rho S (acc ++ y) := by
  unfold k_j
  simp only
  rw [if_pos (by rw [len_app, sizeLine_eq]; exact h)]
theorem r_gTuS (d : D) (ds : List D) (h : ds.length ≤ 1000) : gTuS ms (.fr (.tup (d :: ds))) rho S = ms [.fr d, .fr (.lst ds)] rho S := by
  unfold gTuS
  simp only
  rw [if_pos h]
theorem r_gUl4 (d e f g : D) : gUl 4 ms (.fr (.lst [d, e, f, g])) rho S = ms [.fr d, .fr e, .fr f, .fr g] rho S := id rfl
theorem r_gUl7 (a b c d e f g : D) : gUl 7 ms (.fr (.lst [a, b, c, d, e, f, g])) rho S = ms [.fr a, .fr b, .fr c, .fr d, .fr e, .fr f, .fr g] rho S := id rfl
def k_mtK (n : Str) (ws : List Key) (m : AM) (rho : Slots) (x : SV × Store) : Res (SV × Store) := match x.1 with
  | .fr (.cls k) => if k = n then (m rho x.2).bind fun y => tupIxKG ws y.1 y.2 else .stuck
  | _ => .stuck
theorem r_mtK (n : Str) (ws : List Key) : eMtK n ws m ma rho S = (m rho S).bind (k_mtK n ws ma rho) := id rfl
def k_mtKb (ws : List Key) (y : List SV × Store) : Res (SV × Store) := tupIxKG ws y.1 y.2
theorem s_mtK (n : Str) (ws : List Key) : k_mtK n ws ma rho (.fr (.cls n), S) = (ma rho S).bind (k_mtKb ws) := if_pos rfl
theorem s_mtKb (ws : List Key) (xs : List SV) : k_mtKb ws (xs, S) = tupIxKG ws xs S := id rfl
theorem strA_s (a : Str) : strAG [.fr (.str a)] S = .ok (.fr (.str a), S) := id rfl
theorem strA_i {i : Int} (h : i.natAbs.log2 < 1920) : strAG [.fr (.int i)] S = .ok (.fr (.str (toString i)), S) := by
  unfold strAG
  simp only
  rw [if_pos h]
  rfl
end
theorem str_ext {a b : Str} (h : a.cps.toList = b.cps.toList) : a = b := by
  obtain ⟨a⟩ := a
  obtain ⟨b⟩ := b
  exact congrArg Str.mk (Array.toList_inj.mp h)
theorem tl_app (a b : Str) : (a ++ b).cps.toList = a.cps.toList ++ b.cps.toList := Array.toList_append
theorem emp_app (a : Str) : Str.empty ++ a = a := str_ext (by rw [tl_app]; rfl)
theorem len_tl (a : Str) : a.cps.toList.length = a.length := Array.length_toList
abbrev dgts : Str := "0123456789"
theorem dg_mem (c : Nat) : c ∈ dgts.cps.toList ↔ 48 ≤ c ∧ c ≤ 57 := by
  have e : dgts.cps.toList = [48, 49, 50, 51, 52, 53, 54, 55, 56, 57] := by decide +kernel
  rw [e]
  simp only [List.mem_cons, List.not_mem_nil, or_false]
  omega
def numW (w : Str) : Option Int := if (1 ≤ w.length ∧ w.length ≤ 40) ∧ (w.cps.toList.all fun c => decide (c ∈ dgts.cps.toList)) = true then (if w.cps.toList.head? = some 48 ∧ w ≠ "0" then none else some ((PySem.NumText.digitsVal w.cps.toList : Nat) : Int)) else none
theorem num_reads {w : Str} (h1 : 1 ≤ w.length) (h2 : w.length ≤ 40) (h3 : (w.cps.toList.all fun c => decide (c ∈ dgts.cps.toList)) = true) (S : Store) : intTG [.fr (.str w)] S = .ok (.fr (.int ((PySem.NumText.digitsVal w.cps.toList : Nat) : Int)), S) := by
  have hd : PySem.NumText.AllDigits w.cps.toList := fun c hc => (dg_mem c).mp (of_decide_eq_true (List.all_eq_true.mp h3 c hc))
  have hn : w.cps.toList ≠ [] := fun e => by
    have := len_tl w
    rw [e] at this
    simp at this
    omega
  have := PySem.intText_digits hd hn (by omega)
  unfold intTG
  simp only [this]
  rw [if_pos (by omega)]
  rfl
theorem head_ix {w : Str} (h1 : 1 ≤ w.length) (hz : w.length ≤ 16777216) (S : Store) : ∃ c, w.cps.toList.head? = some c ∧ ixG (.fr (.str w)) (.fr (.int 0)) S = .ok (.fr (.str ⟨#[c]⟩), S) := by
  have hl : 0 < w.cps.toList.length := by rw [len_tl]; omega
  have := ix_str hz hl S
  refine ⟨w.cps.toList[0], ?_, this⟩
  rw [List.head?_eq_getElem?, List.getElem?_eq_getElem hl]
theorem one_eq (c : Nat) : ((⟨#[c]⟩ : Str) = "0") ↔ c = 48 := by
  have e : ("0" : Str) = ⟨#[48]⟩ := by decide +kernel
  rw [e]
  constructor
  · intro h
    have := congrArg (fun z : Str => z.cps.toList) h
    simpa using this
  · rintro rfl; rfl
section
variable {S : Store} (wf : WF S)
include wf
theorem number_run (w : Str) (hz : w.length ≤ 1000000) : (∀ n, numW w = some n → m_number_in [.fr (.str w)] S = .ok (.val (.fr (.int n)), S)) ∧ (numW w = none → ∃ r, m_number_in [.fr (.str w)] S = .exc ⟨"NoText", []⟩ r S) := by
  have ln := lenStr w S (by omega)
  have lv := fun i : Int => leave_val wf (d := .int i)
  unfold numW
  by_cases q1 : (1 : Int) ≤ w.length
  · by_cases q2 : (w.length : Int) ≤ 40
    · have cm : lcM (fun _ => True) (gNm 2) tTr (DL.e2 (inSgG false) (eV 2) (eC (.str "0123456789"))) [1, 2] [some (.fr (.str w)), none, none] (sgnS w) S [] =
        .ok (((w.cps.toList.map fun c => decide (c ∈ dgts.cps.toList)).map D.bl).map SV.fr, S) := by
        rw [sgn_enc, lc_genF (fun c : Nat => D.str ⟨#[c]⟩) (fun c : Nat => some (D.bl (decide (c ∈ dgts.cps.toList)))) w.cps.toList (by rw [len_tl]; omega) fun c _ ds => by
          have i := inSg false c dgts (S ++ [.lst (ds.map SV.fr)])
          rw [if_neg (by decide)] at i
          simp only [RR, DL.isNon, List.replicate_succ, List.replicate_zero, List.set_cons_zero, List.set_cons_succ, List.getElem?_cons_zero, List.getElem?_cons_succ, Option.map_some, Nat.reduceSub, and_self, and_true, true_and, decide_true, decide_false, if_true, if_false, Bool.false_eq_true, Bool.not_true, Bool.not_false, Nat.reduceAdd, Nat.reduceMul, Nat.reduceLeDiff, i, Option.map_some]]
        rw [List.filterMap_eq_map']
        simp only [List.map_map]
        rfl
      have al : ((w.cps.toList.map fun c => decide (c ∈ dgts.cps.toList)).all id) = w.cps.toList.all fun c => decide (c ∈ dgts.cps.toList) := by
        rw [List.all_map]; rfl
      by_cases q3 : (w.cps.toList.all fun c => decide (c ∈ dgts.cps.toList)) = true
      · rw [if_pos ⟨⟨by omega, by omega⟩, q3⟩]
        rw [q3] at al
        obtain ⟨c, hc, ix⟩ := head_ix (w := w) (by omega) (by omega) S
        have it := num_reads (w := w) (by omega) (by omega) q3 S
        have es := eq_str false ⟨#[c]⟩ "0" S
        have en := eq_str true w "0" S
        rw [if_neg (by decide)] at es
        rw [if_pos rfl] at en
        by_cases q4 : w.cps.toList.head? = some 48
        · have c0 : c = 48 := by rw [hc] at q4; exact Option.some.inj q4
          rw [decide_eq_true ((one_eq c).mpr c0)] at es
          by_cases q5 : w = "0"
          · rw [if_neg (by rintro ⟨_, h⟩; exact h q5)]
            rw [decide_eq_true q5, Bool.not_true] at en
            refine ⟨fun n hn => ?_, fun h => by cases h⟩
            cases hn
            simp only [RR, DL.isNon, List.replicate_succ, List.replicate_zero, List.set_cons_zero, List.set_cons_succ, List.getElem?_cons_zero, List.getElem?_cons_succ, Option.map_some, Nat.reduceSub, and_self, and_true, true_and, decide_true, decide_false, if_true, if_false, Bool.false_eq_true, Bool.not_true, Bool.not_false, Nat.reduceAdd, Nat.reduceMul, Nat.reduceLeDiff, m_number_in, b_number_in, ln, decide_eq_true q1, decide_eq_true q2, r_sg, s_sg, cm, s_lceF wf, all_bls, al, ix, es, en, it, lv]
          · rw [if_pos ⟨q4, q5⟩]
            rw [decide_eq_false q5, Bool.not_false] at en
            refine ⟨(fun n hn => by cases hn), fun _ => ?_⟩
            simp only [RR, DL.isNon, List.replicate_succ, List.replicate_zero, List.set_cons_zero, List.set_cons_succ, List.getElem?_cons_zero, List.getElem?_cons_succ, Option.map_some, Nat.reduceSub, and_self, and_true, true_and, decide_true, decide_false, if_true, if_false, Bool.false_eq_true, Bool.not_true, Bool.not_false, Nat.reduceAdd, Nat.reduceMul, Nat.reduceLeDiff, m_number_in, b_number_in, ln, decide_eq_true q1, decide_eq_true q2, r_sg, s_sg, cm, s_lceF wf, all_bls, al, ix, es, en, r_rs0]
            exact ⟨_, rfl⟩
        · have c0 : ¬ c = 48 := fun h => q4 (by rw [hc, h])
          rw [decide_eq_false fun h => c0 ((one_eq c).mp h)] at es
          rw [if_neg (by rintro ⟨h, _⟩; exact q4 h)]
          refine ⟨fun n hn => ?_, fun h => by cases h⟩
          cases hn
          simp only [RR, DL.isNon, List.replicate_succ, List.replicate_zero, List.set_cons_zero, List.set_cons_succ, List.getElem?_cons_zero, List.getElem?_cons_succ, Option.map_some, Nat.reduceSub, and_self, and_true, true_and, decide_true, decide_false, if_true, if_false, Bool.false_eq_true, Bool.not_true, Bool.not_false, Nat.reduceAdd, Nat.reduceMul, Nat.reduceLeDiff, m_number_in, b_number_in, ln, decide_eq_true q1, decide_eq_true q2, r_sg, s_sg, cm, s_lceF wf, all_bls, al, ix, es, it, lv]
      · rw [if_neg (by rintro ⟨_, h⟩; exact q3 h)]
        have q3 : (w.cps.toList.all fun c => decide (c ∈ dgts.cps.toList)) = false := by simpa using q3
        rw [q3] at al
        refine ⟨(fun n hn => by cases hn), fun _ => ?_⟩
        simp only [RR, DL.isNon, List.replicate_succ, List.replicate_zero, List.set_cons_zero, List.set_cons_succ, List.getElem?_cons_zero, List.getElem?_cons_succ, Option.map_some, Nat.reduceSub, and_self, and_true, true_and, decide_true, decide_false, if_true, if_false, Bool.false_eq_true, Bool.not_true, Bool.not_false, Nat.reduceAdd, Nat.reduceMul, Nat.reduceLeDiff, m_number_in, b_number_in, ln, decide_eq_true q1, decide_eq_true q2, r_sg, s_sg, cm, s_lceF wf, all_bls, al, r_rs0]
        exact ⟨_, rfl⟩
    · rw [if_neg (by rintro ⟨⟨_, h⟩, _⟩; omega)]
      refine ⟨(fun n hn => by cases hn), fun _ => ?_⟩
      simp only [RR, DL.isNon, List.replicate_succ, List.replicate_zero, List.set_cons_zero, List.set_cons_succ, List.getElem?_cons_zero, List.getElem?_cons_succ, Option.map_some, Nat.reduceSub, and_self, and_true, true_and, decide_true, decide_false, if_true, if_false, Bool.false_eq_true, Bool.not_true, Bool.not_false, Nat.reduceAdd, Nat.reduceMul, Nat.reduceLeDiff, m_number_in, b_number_in, ln, decide_eq_true q1, decide_eq_false q2, r_rs0]
      exact ⟨_, rfl⟩
  · rw [if_neg (by rintro ⟨⟨h, _⟩, _⟩; omega)]
    refine ⟨(fun n hn => by cases hn), fun _ => ?_⟩
    simp only [RR, DL.isNon, List.replicate_succ, List.replicate_zero, List.set_cons_zero, List.set_cons_succ, List.getElem?_cons_zero, List.getElem?_cons_succ, Option.map_some, Nat.reduceSub, and_self, and_true, true_and, decide_true, decide_false, if_true, if_false, Bool.false_eq_true, Bool.not_true, Bool.not_false, Nat.reduceAdd, Nat.reduceMul, Nat.reduceLeDiff, m_number_in, b_number_in, ln, decide_eq_false q1, r_rs0]
    exact ⟨_, rfl⟩
end

abbrev M50 : Int := 100000000000000000000000000000000000000000000000000
abbrev nt (i : Int) : Str := ((toString i : String) : Str)
structure Num (i : Int) : Prop where
  lo : 0 ≤ i
  hi : i < M50
theorem nt_nat (m : Nat) : (nt (m : Int)).cps.toList = (Nat.toDigits 10 m).map Char.toNat := PySem.W.KIN.signs_num m
theorem Num.nat {i : Int} (h : Num i) : ∃ m : Nat, i = (m : Int) ∧ m < 10 ^ 50 := by
  have h1 := h.lo
  have h2 := h.hi
  exact ⟨i.toNat, by omega, by
    have : (10 : Nat) ^ 50 = 100000000000000000000000000000000000000000000000000 := by decide +kernel
    unfold M50 at h2
    omega⟩
theorem nt_digits (m : Nat) : ∀ c ∈ (nt (m : Int)).cps.toList, 48 ≤ c ∧ c ≤ 57 := fun c hc => by
  rw [nt_nat] at hc
  obtain ⟨ch, hch, rfl⟩ := List.mem_map.mp hc
  have := Nat.isDigit_of_mem_toDigits (by decide) (by decide) hch
  unfold Char.isDigit at this
  simp only [Bool.and_eq_true, decide_eq_true_eq] at this
  obtain ⟨a, b⟩ := this
  exact ⟨UInt32.le_iff_toNat_le.mp a, UInt32.le_iff_toNat_le.mp b⟩
theorem nt_lenN (m k : Nat) (hk : 1 ≤ k) (h : m < 10 ^ k) : (nt (m : Int)).length ≤ k ∧ 1 ≤ (nt (m : Int)).length := by
  rw [← len_tl, nt_nat, List.length_map]
  exact ⟨PyProof.Rows.digits10_le hk h, PyProof.Rows.tDigits_len_ge 10 m⟩
theorem Num.len {i : Int} (h : Num i) : (nt i).length ≤ 50 := by
  obtain ⟨m, rfl, hm⟩ := h.nat
  exact (nt_lenN m 50 (by decide) hm).1
theorem Num.ok {i : Int} (h : Num i) : PyData.strOk (nt i) = true := by
  obtain ⟨m, rfl, hm⟩ := h.nat
  unfold PyData.strOk
  rw [← Array.all_toList, List.all_eq_true]
  intro c hc
  have := nt_digits m c hc
  exact decide_eq_true (by omega)
theorem Num.log {i : Int} (h : Num i) : i.natAbs.log2 < 1920 := by
  obtain ⟨m, rfl, hm⟩ := h.nat
  rw [Int.natAbs_natCast]
  have h2 : m < 2 ^ 170 := Nat.lt_trans hm (by decide +kernel)
  exact Nat.lt_of_lt_of_le (log_lt h2 (by decide)) (by decide)
def lvS (l : Int) : Str := if l = 0 then "none" else if l = 1 then "read" else "write"
def enS : Option Int → Str
  | none => "end"
  | some i => nt i
def enD : Option Int → D
  | none => .non
  | some i => .int i
def wt (b : Bool) : List Str := if b then ["wait"] else []
def opn (o : Bool) : List Str := if o then ["open"] else []
def whS (o : Bool) : Str := if o then "open" else "process"
inductive Dt (M : Int) : Str → List D → List Str → Prop where
  | st : Dt M "start" [] ["start"]
  | one {w : Str} {p : Int} (hw : w = "fork" ∨ w = "end") (hp : 0 ≤ p ∧ p < M) : Dt M w [.int p] [w, nt p]
  | give {p : Int} (hp : 0 ≤ p ∧ p < M) : Dt M "give up" [.int p] ["give", "up", nt p]
  | op {p : Int} {f : Str} (hp : 0 ≤ p ∧ p < M) (hf : nameS f = true) : Dt M "open" [.int p, .str f] ["open", nt p, f]
  | close {p d : Int} (hp : 0 ≤ p ∧ p < M) (hd : 0 ≤ d ∧ d ≤ 15) : Dt M "close" [.int p, .int d] ["close", nt p, nt d]
  | dup0 {p d : Int} (hp : 0 ≤ p ∧ p < M) (hd : 0 ≤ d ∧ d ≤ 15) : Dt M "dup" [.int p, .int d, .non] ["dup", nt p, nt d]
  | dup1 {p d t : Int} (hp : 0 ≤ p ∧ p < M) (hd : 0 ≤ d ∧ d ≤ 15) (ht : 0 ≤ t ∧ t ≤ 15) : Dt M "dup" [.int p, .int d, .int t] ["dup", nt p, nt d, "to", nt t]
  | whole {p d l : Int} {b : Bool} (hp : 0 ≤ p ∧ p < M) (hd : 0 ≤ d ∧ d ≤ 15) (hl : 0 ≤ l ∧ l ≤ 2) : Dt M "whole" [.int p, .int d, .int l, .bl b] ((["whole", nt p, nt d, lvS l] : List Str) ++ wt b)
  | lock {p d l f : Int} {e : Option Int} {o b : Bool} (hp : 0 ≤ p ∧ p < M) (hd : 0 ≤ d ∧ d ≤ 15) (hl : 0 ≤ l ∧ l ≤ 2) (hf : 0 ≤ f ∧ f < M) (he : ∀ i, e = some i → f ≤ i ∧ i < M) :
      Dt M "lock" [.int p, .int d, .int l, .int f, enD e, .str (whS o), .bl b] ((["lock", nt p, nt d, lvS l, nt f, enS e] : List Str) ++ (opn o ++ wt b))
theorem joinW {z : Str} {zs : List Str} (hz : z.length ≤ 10) (hl : zs.length ≤ 1000) (h : ∀ x ∈ zs, x.length ≤ 10000) (S : Store) : joinG (.fr (.str z)) [.fr (.lst (zs.map D.str))] S = .ok (.fr (.str (Txt.join z zs)), S) := by
  unfold joinG
  simp only [rdS, rdL, strs_fr]
  have e : (zs.map (·.length)).sum ≤ zs.length * 10000 := by
    clear hl
    induction zs with
    | nil => simp
    | cons a r ih =>
      have h1 := ih fun x hx => h x (List.mem_cons_of_mem _ hx)
      have h2 := h a List.mem_cons_self
      simp only [List.map_cons, List.sum_cons, List.length_cons]
      omega
  have e2 : zs.length * z.length ≤ 1000 * 10 := Nat.mul_le_mul hl hz
  have e3 : zs.length * 10000 ≤ 1000 * 10000 := Nat.mul_le_mul_right _ hl
  rw [if_pos (by omega)]
  rfl
theorem tl_join (z : Str) (zs : List Str) : (Txt.join z zs).cps.toList = TL.joinL z.cps.toList (zs.map (·.cps.toList)) := by
  rw [TL.join_eq]
  exact TL.tl_join z zs
theorem joinL_snoc (y : List Nat) : ∀ (a : List (List Nat)) (b : List (List Nat)), a ≠ [] → b ≠ [] → TL.joinL y (a ++ b) = TL.joinL y a ++ y ++ TL.joinL y b
  | [], _, h, _ => absurd rfl h
  | [p], b, _, hb => by
    cases b with
    | nil => exact absurd rfl hb
    | cons q r =>
      show p ++ (y ++ TL.joinL y (q :: r)) = TL.joinL y [p] ++ y ++ TL.joinL y (q :: r)
      rw [show TL.joinL y [p] = p from rfl, List.append_assoc]
  | p :: q :: r, b, _, hb => by
    show p ++ (y ++ TL.joinL y ((q :: r) ++ b)) = (p ++ (y ++ TL.joinL y (q :: r))) ++ y ++ TL.joinL y b
    rw [joinL_snoc y (q :: r) b (by simp) hb]
    simp only [List.append_assoc]
theorem ne_map {α β : Type} {f : α → β} {l : List α} (h : l ≠ []) : l.map f ≠ [] := fun e => h (List.map_eq_nil_iff.mp e)
theorem join_r (y : Str) (a b : List Str) (ha : a ≠ []) (hb : b ≠ []) : Txt.join y (a ++ [Txt.join y b]) = Txt.join y (a ++ b) := by
  refine str_ext ?_
  rw [tl_join, tl_join, List.map_append, List.map_append, joinL_snoc _ _ _ (ne_map ha) (by simp), joinL_snoc _ _ _ (ne_map ha) (ne_map hb), List.map_cons, List.map_nil, tl_join]
  rfl
theorem join_m (y : Str) (a b c : List Str) (ha : a ≠ []) (hb : b ≠ []) : Txt.join y (a ++ [Txt.join y b] ++ c) = Txt.join y (a ++ b ++ c) := by
  cases c with
  | nil => rw [List.append_nil, List.append_nil, join_r y a b ha hb]
  | cons q r =>
    refine str_ext ?_
    have e := congrArg (fun z : Str => z.cps.toList) (join_r y a b ha hb)
    simp only [tl_join] at e ⊢
    rw [List.map_append, List.map_append (l₁ := a ++ b), joinL_snoc _ _ _ (ne_map (by simp)) (by simp), joinL_snoc _ _ _ (ne_map (by simp [ha])) (by simp), e]
theorem join3 (y a b c : Str) : Txt.join y [a, b, c] = a ++ y ++ b ++ y ++ c := rfl

theorem Dt.mono {M M' : Int} (h : M ≤ M') {w : Str} {ps : List D} {ws : List Str} (d : Dt M w ps ws) : Dt M' w ps ws := by
  cases d with
  | st => exact .st
  | one hw hp => exact .one hw (by omega)
  | give hp => exact .give (by omega)
  | op hp hf => exact .op (by omega) hf
  | close hp hd => exact .close (by omega) hd
  | dup0 hp hd => exact .dup0 (by omega) hd
  | dup1 hp hd ht => exact .dup1 (by omega) hd ht
  | whole hp hd hl => exact .whole (by omega) hd hl
  | lock hp hd hl hf he => exact .lock (by omega) hd hl (by omega) fun i e => by have := he i e; omega
theorem num15 {d : Int} (h : 0 ≤ d ∧ d ≤ 15) : Num d := ⟨h.1, by unfold M50; omega⟩
def partS : D → Str
  | .int i => nt i
  | .str s => s
  | _ => ""
def SpD (d : D) : Prop := (∃ i, d = .int i ∧ Num i) ∨ ∃ s, d = .str s
theorem strA_p {d : D} (h : SpD d) (S : Store) : strAG [.fr d] S = .ok (.fr (.str (partS d)), S) := by
  rcases h with ⟨i, rfl, hi⟩ | ⟨s, rfl⟩
  · exact strA_i hi.log
  · exact strA_s s
theorem lc_strs {gm : GM} {t : TM} {e : EM} {rho : Slots} {own : List Nat} {S : Store} (ds : List D) (hz : ds.length ≤ 1000)
    (h : ∀ d ∈ ds, ∀ S', lcT gm t e (.fr d) (wipeR rho own) S' = .ok (some (.fr (.str (partS d))), S')) : lcM (fun _ => True) gm t e own rho (ds.map SV.fr) S [] = .ok (((ds.map partS).map D.str).map SV.fr, S) := by
  have := lc_genF (S := S) (gm := gm) (t := t) (e := e) (rho := rho) (own := own) (fun d : D => d) (fun d => some (D.str (partS d))) ds (by omega) fun d hd as => by
    rw [h d hd]
    rfl
  rw [List.map_id'] at this
  rw [this, List.filterMap_eq_map']
  simp only [List.map_map]
  rfl
theorem ix_lv {l : Int} (h : 0 ≤ l ∧ l ≤ 2) : atI [D.str "none", .str "read", .str "write"] l = some (.str (lvS l)) := by
  rcases (by omega : l = 0 ∨ l = 1 ∨ l = 2) with rfl | rfl | rfl <;> rfl
theorem ixK_lv {l : Int} (h : 0 ≤ l ∧ l ≤ 2) (S : Store) : ixKG "LEVELS" [.inr "none", .inr "read", .inr "write"] (.fr (.cls "LEVELS")) (.fr (.int l)) S = .ok (.fr (.str (lvS l)), S) := by
  rcases (by omega : l = 0 ∨ l = 1 ∨ l = 2) with rfl | rfl | rfl <;> rfl
theorem lv_len (l : Int) : (lvS l).length ≤ 5 := by
  unfold lvS
  split
  · decide +kernel
  split
  · decide +kernel
  · decide +kernel
structure EnOk (e : Option Int) : Prop where
  n : ∀ i, e = some i → Num i
theorem EnOk.len {e : Option Int} (h : EnOk e) : (enS e).length ≤ 50 := by
  cases e with
  | none => exact (by decide +kernel : ("end" : Str).length ≤ 50)
  | some i => exact (h.n i rfl).len
theorem is_en (e : Option Int) (S : Store) : isG false (.fr (enD e)) (.fr .non) S = .ok (.fr (.bl e.isNone), S) := by
  cases e <;> rfl
theorem wt_len (b : Bool) : (wt b).length ≤ 1 := by cases b <;> decide
theorem opn_len (b : Bool) : (opn b).length ≤ 1 := by cases b <;> decide
theorem mul_b (x : Str) (o : Bool) (S : Store) : mulG false (.fr (.lst [.str x])) (.fr (.int (if o = true then 1 else 0))) S = .ok (.fr (.lst ((if o = true then [x] else []).map D.str)), S) := by
  have z : (List.replicate (1 : Int).toNat [SV.fr (D.str x)]).flatten = [SV.fr (D.str x)] := rfl
  have z0 : (List.replicate (0 : Int).toNat [SV.fr (D.str x)]).flatten = [] := rfl
  have sz : (1 : Nat) ≤ sizeLine := by rw [sizeLine_eq]; decide
  cases o
  · unfold mulG
    simp only [rdL, Bool.false_eq_true, if_false]
    have c : -(2 ^ 63) ≤ (0 : Int) ∧ (0 : Int) < 2 ^ 63 ∧ ([D.str x].map SV.fr).length * (0 : Int).toNat ≤ sizeLine := ⟨by decide, by decide, by simp⟩
    rw [if_pos c]
    rfl
  · unfold mulG
    simp only [rdL, if_true]
    have c : -(2 ^ 63) ≤ (1 : Int) ∧ (1 : Int) < 2 ^ 63 ∧ ([D.str x].map SV.fr).length * (1 : Int).toNat ≤ sizeLine := ⟨by decide, by decide, by simpa using sz⟩
    rw [if_pos c]
    exact r_newL (xs := [SV.fr (D.str x)]) rfl sz
theorem int_b (o : Bool) (S : Store) : intG [.fr (.bl o)] S = .ok (.fr (.int (if o = true then 1 else 0)), S) := rfl
theorem eq_wh (o : Bool) (S : Store) : eqG false (.fr (.str (whS o))) (.fr (.str "open")) S = .ok (.fr (.bl o), S) := by
  cases o
  · exact eqs_f (by decide +kernel) S
  · exact eqs_t rfl S
theorem add_w {a b : List Str} (h : a.length + b.length ≤ 1000) (S : Store) : addG false (.fr (.lst (a.map D.str))) (.fr (.lst (b.map D.str))) S = .ok (.fr (.lst ((a ++ b).map D.str)), S) := by
  rw [add_ff false (by simp only [List.length_map]; omega), if_neg (by decide), List.map_append]

section
variable {S : Store} (wf : WF S)
include wf
theorem shown_run {l f : Int} {e : Option Int} (hl : 0 ≤ l ∧ l ≤ 2) (hf : Num f) (he : EnOk e) : m_shown_span [.fr (.int l), .fr (.int f), .fr (enD e)] S = .ok (.val (.fr (.str (Txt.join " " [lvS l, nt f, enS e]))), S) := by
  have h1 := lv_len l
  have h2 := hf.len
  have h3 := he.len
  have ls : (" " : Str).length = 1 := by decide +kernel
  have l0 : Str.empty.length = 0 := rfl
  have lv := leave_val wf (d := .str (Txt.join " " [lvS l, nt f, enS e]))
  have e1 := ixK_lv hl S
  have e2 := is_en e S
  have f1 := s_fmtS (S := S) (y := lvS l) (by omega)
  have f2 := s_fmtI (S := S) hf.log
  have f3 : (if e.isNone = true then (.ok (.fr (.str "end"), S) : Res (SV × Store)) else .ok (.fr (enD e), S)).bind k_fmt = .ok (.fr (.str (enS e)), S) := by
    cases e with
    | none => exact s_fmtS (S := S) (y := "end") (by decide +kernel)
    | some i => exact s_fmtI (S := S) (he.n i rfl).log
  have j1 : ∀ n rho, k_j n rho Str.empty (.fr (.str (lvS l)), S) = n rho S (Str.empty ++ lvS l) := fun n rho => s_j (by omega)
  rw [emp_app] at j1
  have j2 : ∀ n rho, k_j n rho (lvS l) (.fr (.str " "), S) = n rho S (lvS l ++ " ") := fun n rho => s_j (by omega)
  have j3 : ∀ n rho, k_j n rho (lvS l ++ " ") (.fr (.str (nt f)), S) = n rho S (lvS l ++ " " ++ nt f) := fun n rho => s_j (by rw [len_app]; omega)
  have j4 : ∀ n rho, k_j n rho (lvS l ++ " " ++ nt f) (.fr (.str " "), S) = n rho S (lvS l ++ " " ++ nt f ++ " ") := fun n rho => s_j (by rw [len_app, len_app]; omega)
  have j5 : ∀ n rho, k_j n rho (lvS l ++ " " ++ nt f ++ " ") (.fr (.str (enS e)), S) = n rho S (lvS l ++ " " ++ nt f ++ " " ++ enS e) := fun n rho => s_j (by rw [len_app, len_app, len_app]; omega)
  rw [join3] at lv ⊢
  cases e with
  | none =>
    simp only [enD, enS, Option.isNone_none, Option.isNone_some] at e2 f3 j5 lv ⊢
    simp only [RR, DL.isNon, List.replicate_succ, List.replicate_zero, List.set_cons_zero, List.set_cons_succ, List.getElem?_cons_zero, List.getElem?_cons_succ, Option.map_some, Nat.reduceSub, and_self, and_true, true_and, decide_true, decide_false, if_true, if_false, Bool.false_eq_true, Bool.not_true, Bool.not_false, Nat.reduceAdd, Nat.reduceMul, Nat.reduceLeDiff, m_shown_span, b_shown_span, r_js, r_jC, r_jN, r_fmt, e1, e2, f1, f2, s_fmtS (S := S) (y := "end") (by decide +kernel), j1, j2, j3, j4, j5, lv]
  | some i =>
    simp only [enD, enS, Option.isNone_none, Option.isNone_some] at e2 f3 j5 lv ⊢
    simp only [RR, DL.isNon, List.replicate_succ, List.replicate_zero, List.set_cons_zero, List.set_cons_succ, List.getElem?_cons_zero, List.getElem?_cons_succ, Option.map_some, Nat.reduceSub, and_self, and_true, true_and, decide_true, decide_false, if_true, if_false, Bool.false_eq_true, Bool.not_true, Bool.not_false, Nat.reduceAdd, Nat.reduceMul, Nat.reduceLeDiff, m_shown_span, b_shown_span, r_js, r_jC, r_jN, r_fmt, e1, e2, f1, f2, s_fmtI (S := S) (he.n i rfl).log, j1, j2, j3, j4, j5, lv]
theorem show_other {w : Str} {ps : List D} (h1 : w ≠ "lock") (h2 : w ≠ "whole") (h3 : w ≠ "dup") (hw : w.length ≤ 1000) (hp : ∀ d ∈ ps, SpD d ∧ (partS d).length ≤ 1000) (hl : ps.length ≤ 20) :
    m_show_deed [.fr (.tup (.str w :: ps))] S = .ok (.val (.fr (.str (Txt.join " " (w :: ps.map partS)))), S) := by
  have lv := leave_val wf (d := .str (Txt.join " " (w :: ps.map partS)))
  have cm : lcM (fun _ => True) (gNm 14) tTr (eA strAG (aC (eV 14) aN)) [13, 14] [some (.fr (.tup (.str w :: ps))), some (.fr (.str w)), some (.fr (.lst ps)), none, none, none, none, none, none, none, none, none, none, none, none] (ps.map SV.fr) S [] = .ok (((ps.map partS).map D.str).map SV.fr, S) :=
    lc_strs ps (by omega) fun d hd S' => by
      have := strA_p (hp d hd).1 S'
      simp only [RR, DL.isNon, List.replicate_succ, List.replicate_zero, List.set_cons_zero, List.set_cons_succ, List.getElem?_cons_zero, List.getElem?_cons_succ, Option.map_some, Nat.reduceSub, and_self, and_true, true_and, decide_true, decide_false, if_true, if_false, Bool.false_eq_true, Bool.not_true, Bool.not_false, Nat.reduceAdd, Nat.reduceMul, Nat.reduceLeDiff, this]
  have ad := add_w (a := [w]) (b := ps.map partS) (by simp only [List.length_map, List.length_cons, List.length_nil]; omega) S
  have jn := joinW (z := " ") (zs := [w] ++ ps.map partS) (by decide +kernel) (by simp only [List.length_append, List.length_map, List.length_cons, List.length_nil]; omega) (fun x hx => by
    rcases List.mem_append.mp hx with hx | hx
    · rw [List.mem_singleton] at hx; subst hx; omega
    · obtain ⟨d, hd, rfl⟩ := List.mem_map.mp hx
      have := (hp d hd).2
      omega) S
  have ty : tyS "str" S (.fr (.str " ")) = true := rfl
  have st := r_gTuS (S := S) (ms := gCs (gNm 1) (gCs (gNm 2) gNl)) (rho := [some (.fr (.tup (.str w :: ps))), none, none, none, none, none, none, none, none, none, none, none, none, none, none]) (.str w) ps (by omega)
  simp only [List.map_cons, List.map_nil] at ad
  simp only [RR, DL.isNon, List.replicate_succ, List.replicate_zero, List.set_cons_zero, List.set_cons_succ, List.getElem?_cons_zero, List.getElem?_cons_succ, Option.map_some, Nat.reduceSub, and_self, and_true, true_and, decide_true, decide_false, if_true, if_false, Bool.false_eq_true, Bool.not_true, Bool.not_false, Nat.reduceAdd, Nat.reduceMul, Nat.reduceLeDiff, m_show_deed, b_show_deed, st, eqs_f h1 S, eqs_f h2 S, eqs_f h3 S, cm, s_lceF wf, ad, s_mt _ ty, jn]
  exact lv
end

section
variable {S : Store} (wf : WF S)
include wf
theorem show_whole {p d l : Int} {b : Bool} (hp : Num p) (hd : 0 ≤ d ∧ d ≤ 15) (hl : 0 ≤ l ∧ l ≤ 2) :
    m_show_deed [.fr (.tup [.str "whole", .int p, .int d, .int l, .bl b])] S = .ok (.val (.fr (.str (Txt.join " " (([("whole" : Str), nt p, nt d, lvS l] : List Str) ++ wt b)))), S) := by
  have lv := leave_val wf (d := .str (Txt.join " " (([("whole" : Str), nt p, nt d, lvS l] : List Str) ++ wt b)))
  have h1 := lv_len l
  have h2 := hp.len
  have h3 := (num15 hd).len
  have h4 := wt_len b
  have ad := add_w (a := ([("whole" : Str), nt p, nt d, lvS l] : List Str)) (b := wt b) (by simp only [List.length_cons, List.length_nil]; omega) S
  have jn := joinW (z := " ") (zs := (["whole", nt p, nt d, lvS l] : List Str) ++ wt b) (by decide +kernel) (by simp only [List.length_append, List.length_cons, List.length_nil]; omega) (fun x hx => by
    rcases List.mem_append.mp hx with hx | hx
    · simp only [List.mem_cons, List.not_mem_nil, or_false] at hx
      rcases hx with rfl | rfl | rfl | rfl
      · decide +kernel
      · omega
      · omega
      · omega
    · cases b
      · cases hx
      · rw [show wt true = [("wait" : Str)] from rfl, List.mem_singleton] at hx
        subst hx
        decide +kernel) S
  have ty : tyS "str" S (.fr (.str " ")) = true := rfl
  have st := r_gTuS (S := S) (ms := gCs (gNm 1) (gCs (gNm 2) gNl)) (rho := [some (.fr (.tup [.str "whole", .int p, .int d, .int l, .bl b])), none, none, none, none, none, none, none, none, none, none, none, none, none, none]) (.str "whole") [.int p, .int d, .int l, .bl b] (by simp)
  have a1 := strA_i (S := S) hp.log
  have a2 := strA_i (S := S) (num15 hd).log
  have a3 := ixK_lv hl S
  have m1 := mul_b "wait" b S
  have e1 := eqs_f (show ¬ ("whole" : Str) = "lock" by decide +kernel) S
  have e2 := eqs_t (rfl : ("whole" : Str) = "whole") S
  have wb : (if b = true then ([("wait" : Str)] : List Str) else []) = wt b := rfl
  rw [wb] at m1
  simp only [List.map_cons, List.map_nil] at ad
  simp only [RR, DL.isNon, List.replicate_succ, List.replicate_zero, List.set_cons_zero, List.set_cons_succ, List.getElem?_cons_zero, List.getElem?_cons_succ, Option.map_some, Nat.reduceSub, and_self, and_true, true_and, decide_true, decide_false, if_true, if_false, Bool.false_eq_true, Bool.not_true, Bool.not_false, Nat.reduceAdd, Nat.reduceMul, Nat.reduceLeDiff, m_show_deed, b_show_deed, st, e1, e2, r_gUl4, a1, a2, a3, int_b, m1, ad, s_mt _ ty, jn]
  exact lv
theorem show_dup0 {p d : Int} (hp : Num p) (hd : 0 ≤ d ∧ d ≤ 15) : m_show_deed [.fr (.tup [.str "dup", .int p, .int d, .non])] S = .ok (.val (.fr (.str (Txt.join " " ["dup", nt p, nt d]))), S) := by
  have lv := leave_val wf (d := .str (Txt.join " " ["dup", nt p, nt d]))
  have h2 := hp.len
  have h3 := (num15 hd).len
  have ls : (" " : Str).length = 1 := by decide +kernel
  have ld : ("dup" : Str).length = 3 := by decide +kernel
  have l0 : Str.empty.length = 0 := rfl
  have st := r_gTuS (S := S) (ms := gCs (gNm 1) (gCs (gNm 2) gNl)) (rho := [some (.fr (.tup [.str "dup", .int p, .int d, .non])), none, none, none, none, none, none, none, none, none, none, none, none, none, none]) (.str "dup") [.int p, .int d, .non] (by simp)
  have e1 := eqs_f (show ¬ ("dup" : Str) = "lock" by decide +kernel) S
  have e2 := eqs_f (show ¬ ("dup" : Str) = "whole" by decide +kernel) S
  have e3 := eqs_t (rfl : ("dup" : Str) = "dup") S
  have f1 := s_fmtS (S := S) (y := "dup") (by omega)
  have f2 := s_fmtI (S := S) hp.log
  have f3 := s_fmtI (S := S) (num15 hd).log
  have j1 : ∀ n rho, k_j n rho Str.empty (.fr (.str "dup"), S) = n rho S (Str.empty ++ "dup") := fun n rho => s_j (by omega)
  rw [emp_app] at j1
  have j2 : ∀ n rho, k_j n rho "dup" (.fr (.str " "), S) = n rho S ("dup" ++ " ") := fun n rho => s_j (by omega)
  have j3 : ∀ n rho, k_j n rho ("dup" ++ " ") (.fr (.str (nt p)), S) = n rho S ("dup" ++ " " ++ nt p) := fun n rho => s_j (by rw [len_app]; omega)
  have j4 : ∀ n rho, k_j n rho ("dup" ++ " " ++ nt p) (.fr (.str " "), S) = n rho S ("dup" ++ " " ++ nt p ++ " ") := fun n rho => s_j (by rw [len_app, len_app]; omega)
  have j5 : ∀ n rho, k_j n rho ("dup" ++ " " ++ nt p ++ " ") (.fr (.str (nt d)), S) = n rho S ("dup" ++ " " ++ nt p ++ " " ++ nt d) := fun n rho => s_j (by rw [len_app, len_app, len_app]; omega)
  have i1 : isG false (.fr .non) (.fr .non) S = .ok (.fr (.bl true), S) := rfl
  rw [join3] at lv ⊢
  simp only [RR, DL.isNon, List.replicate_succ, List.replicate_zero, List.set_cons_zero, List.set_cons_succ, List.getElem?_cons_zero, List.getElem?_cons_succ, Option.map_some, Nat.reduceSub, and_self, and_true, true_and, decide_true, decide_false, if_true, if_false, Bool.false_eq_true, Bool.not_true, Bool.not_false, Nat.reduceAdd, Nat.reduceMul, Nat.reduceLeDiff, m_show_deed, b_show_deed, st, e1, e2, e3, r_gUl3, r_js, r_jC, r_jN, r_fmt, f1, f2, f3, j1, j2, j3, j4, j5, i1]
  exact lv
theorem show_dup1 {p d t : Int} (hp : Num p) (hd : 0 ≤ d ∧ d ≤ 15) (ht : 0 ≤ t ∧ t ≤ 15) : m_show_deed [.fr (.tup [.str "dup", .int p, .int d, .int t])] S = .ok (.val (.fr (.str (Txt.join " " ["dup", nt p, nt d, "to", nt t]))), S) := by
  have h2 := hp.len
  have h3 := (num15 hd).len
  have h4 := (num15 ht).len
  have ls : (" " : Str).length = 1 := by decide +kernel
  have ld : ("dup" : Str).length = 3 := by decide +kernel
  have lt : ("to" : Str).length = 2 := by decide +kernel
  have l0 : Str.empty.length = 0 := rfl
  have st := r_gTuS (S := S) (ms := gCs (gNm 1) (gCs (gNm 2) gNl)) (rho := [some (.fr (.tup [.str "dup", .int p, .int d, .int t])), none, none, none, none, none, none, none, none, none, none, none, none, none, none]) (.str "dup") [.int p, .int d, .int t] (by simp)
  have e1 := eqs_f (show ¬ ("dup" : Str) = "lock" by decide +kernel) S
  have e2 := eqs_f (show ¬ ("dup" : Str) = "whole" by decide +kernel) S
  have e3 := eqs_t (rfl : ("dup" : Str) = "dup") S
  have f1 := s_fmtS (S := S) (y := "dup") (by omega)
  have f2 := s_fmtI (S := S) hp.log
  have f3 := s_fmtI (S := S) (num15 hd).log
  have f4 := s_fmtI (S := S) (num15 ht).log
  have f5 := s_fmtS (S := S) (y := "to") (by omega)
  have j1 : ∀ n rho, k_j n rho Str.empty (.fr (.str "dup"), S) = n rho S (Str.empty ++ "dup") := fun n rho => s_j (by omega)
  rw [emp_app] at j1
  have j2 : ∀ n rho, k_j n rho "dup" (.fr (.str " "), S) = n rho S ("dup" ++ " ") := fun n rho => s_j (by omega)
  have j3 : ∀ n rho, k_j n rho ("dup" ++ " ") (.fr (.str (nt p)), S) = n rho S ("dup" ++ " " ++ nt p) := fun n rho => s_j (by rw [len_app]; omega)
  have j4 : ∀ n rho, k_j n rho ("dup" ++ " " ++ nt p) (.fr (.str " "), S) = n rho S ("dup" ++ " " ++ nt p ++ " ") := fun n rho => s_j (by rw [len_app, len_app]; omega)
  have j5 : ∀ n rho, k_j n rho ("dup" ++ " " ++ nt p ++ " ") (.fr (.str (nt d)), S) = n rho S ("dup" ++ " " ++ nt p ++ " " ++ nt d) := fun n rho => s_j (by rw [len_app, len_app, len_app]; omega)
  have jt : Txt.join " " ["dup", nt p, nt d, "to", nt t] = "dup" ++ " " ++ nt p ++ " " ++ nt d ++ " " ++ "to" ++ " " ++ nt t := rfl
  rw [jt]
  have hX : ("dup" ++ " " ++ nt p ++ " " ++ nt d : Str).length ≤ 200 := by rw [len_app, len_app, len_app, len_app]; omega
  generalize ("dup" ++ " " ++ nt p ++ " " ++ nt d : Str) = X at *
  have fX := s_fmtS (S := S) (y := X) (by omega)
  have i1 : ∀ n rho, k_j n rho Str.empty (.fr (.str X), S) = n rho S (Str.empty ++ X) := fun n rho => s_j (by omega)
  rw [emp_app] at i1
  have i2 : ∀ n rho, k_j n rho X (.fr (.str " "), S) = n rho S (X ++ " ") := fun n rho => s_j (by omega)
  have i3 : ∀ n rho, k_j n rho (X ++ " ") (.fr (.str "to"), S) = n rho S (X ++ " " ++ "to") := fun n rho => s_j (by rw [len_app]; omega)
  have i4 : ∀ n rho, k_j n rho (X ++ " " ++ "to") (.fr (.str " "), S) = n rho S (X ++ " " ++ "to" ++ " ") := fun n rho => s_j (by rw [len_app, len_app]; omega)
  have i5 : ∀ n rho, k_j n rho (X ++ " " ++ "to" ++ " ") (.fr (.str (nt t)), S) = n rho S (X ++ " " ++ "to" ++ " " ++ nt t) := fun n rho => s_j (by rw [len_app, len_app, len_app]; omega)
  have isn : isG false (.fr (.int t)) (.fr .non) S = .ok (.fr (.bl false), S) := rfl
  have lv := leave_val wf (d := .str (X ++ " " ++ "to" ++ " " ++ nt t))
  simp only [RR, DL.isNon, List.replicate_succ, List.replicate_zero, List.set_cons_zero, List.set_cons_succ, List.getElem?_cons_zero, List.getElem?_cons_succ, Option.map_some, Nat.reduceSub, and_self, and_true, true_and, decide_true, decide_false, if_true, if_false, Bool.false_eq_true, Bool.not_true, Bool.not_false, Nat.reduceAdd, Nat.reduceMul, Nat.reduceLeDiff, m_show_deed, b_show_deed, st, e1, e2, e3, r_gUl3, r_js, r_jC, r_jN, r_fmt, f1, f2, f3, j1, j2, j3, j4, j5, isn, fX, f4, f5, i1, i2, i3, i4, i5]
  exact lv
theorem show_lock {p d l f : Int} {e : Option Int} {o b : Bool} (hp : Num p) (hd : 0 ≤ d ∧ d ≤ 15) (hl : 0 ≤ l ∧ l ≤ 2) (hf : Num f) (he : EnOk e) :
    m_show_deed [.fr (.tup [.str "lock", .int p, .int d, .int l, .int f, enD e, .str (whS o), .bl b])] S = .ok (.val (.fr (.str (Txt.join " " (([("lock" : Str), nt p, nt d, lvS l, nt f, enS e] : List Str) ++ (opn o ++ wt b))))), S) := by
  have h1 := lv_len l
  have h2 := hp.len
  have h3 := (num15 hd).len
  have h4 := wt_len b
  have h5 := opn_len o
  have h6 := hf.len
  have h7 := he.len
  have e4 : Txt.join " " (([("lock" : Str), nt p, nt d, lvS l, nt f, enS e] : List Str) ++ (opn o ++ wt b)) = Txt.join " " (([("lock" : Str), nt p, nt d, Txt.join " " [lvS l, nt f, enS e]] ++ opn o) ++ wt b) := by
    rw [List.append_assoc]
    exact (join_m " " ["lock", nt p, nt d] [lvS l, nt f, enS e] (opn o ++ wt b) (by simp) (by simp)).symm
  rw [e4]
  have sh := shown_run wf hl hf he
  have hX : (Txt.join " " [lvS l, nt f, enS e]).length ≤ 200 := by
    have ls : (" " : Str).length = 1 := by decide +kernel
    rw [join3, len_app, len_app, len_app, len_app]; omega
  generalize Txt.join " " [lvS l, nt f, enS e] = X at *
  have lv := leave_val wf (d := .str (Txt.join " " (([("lock" : Str), nt p, nt d, X] ++ opn o) ++ wt b)))
  have ad := add_w (a := ([("lock" : Str), nt p, nt d, X] : List Str)) (b := opn o) (by simp only [List.length_cons, List.length_nil]; omega) S
  have ad2 := add_w (a := (["lock", nt p, nt d, X] : List Str) ++ opn o) (b := wt b) (by simp only [List.length_append, List.length_cons, List.length_nil]; omega) S
  have jn := joinW (z := " ") (zs := (["lock", nt p, nt d, X] : List Str) ++ opn o ++ wt b) (by decide +kernel) (by simp only [List.length_append, List.length_cons, List.length_nil]; omega) (fun x hx => by
    rcases List.mem_append.mp hx with hx | hx
    · rcases List.mem_append.mp hx with hx | hx
      · simp only [List.mem_cons, List.not_mem_nil, or_false] at hx
        rcases hx with rfl | rfl | rfl | rfl
        · decide +kernel
        · omega
        · omega
        · omega
      · cases o
        · cases hx
        · rw [show opn true = [("open" : Str)] from rfl, List.mem_singleton] at hx
          subst hx
          decide +kernel
    · cases b
      · cases hx
      · rw [show wt true = [("wait" : Str)] from rfl, List.mem_singleton] at hx
        subst hx
        decide +kernel) S
  have ty : tyS "str" S (.fr (.str " ")) = true := rfl
  have st := r_gTuS (S := S) (ms := gCs (gNm 1) (gCs (gNm 2) gNl)) (rho := [some (.fr (.tup [.str "lock", .int p, .int d, .int l, .int f, enD e, .str (whS o), .bl b])), none, none, none, none, none, none, none, none, none, none, none, none, none, none]) (.str "lock") [.int p, .int d, .int l, .int f, enD e, .str (whS o), .bl b] (by simp)
  have a1 := strA_i (S := S) hp.log
  have a2 := strA_i (S := S) (num15 hd).log
  have m1 := mul_b "wait" b S
  have m2 := mul_b "open" o S
  have e1 := eqs_t (rfl : ("lock" : Str) = "lock") S
  have wb : (if b = true then ([("wait" : Str)] : List Str) else []) = wt b := rfl
  have ob : (if o = true then ([("open" : Str)] : List Str) else []) = opn o := rfl
  rw [wb] at m1
  rw [ob] at m2
  have ew := eq_wh o S
  generalize List.map D.str (opn o) = A at *
  generalize List.map D.str (wt b) = B at *
  generalize List.map D.str ((["lock", nt p, nt d, X] : List Str) ++ opn o) = C at *
  generalize List.map D.str ((["lock", nt p, nt d, X] : List Str) ++ opn o ++ wt b) = C2 at *
  generalize Txt.join " " (((["lock", nt p, nt d, X] : List Str) ++ opn o) ++ wt b) = Z at *
  generalize whS o = wo at *
  simp only [List.map_cons, List.map_nil] at ad
  simp only [RR, DL.isNon, List.replicate_succ, List.replicate_zero, List.set_cons_zero, List.set_cons_succ, List.getElem?_cons_zero, List.getElem?_cons_succ, Option.map_some, Nat.reduceSub, and_self, and_true, true_and, decide_true, decide_false, if_true, if_false, Bool.false_eq_true, Bool.not_true, Bool.not_false, Nat.reduceAdd, Nat.reduceMul, Nat.reduceLeDiff, m_show_deed, b_show_deed, st, e1, r_gUl7, a1, a2, sh, ew, int_b, m1, m2, ad, ad2, s_mt _ ty, jn]
  exact lv
end

theorem sl3 (a b c d : D) (S : Store) : slG false (.fr (.tup [a, b, c, d])) none (some 3) S = .ok (.fr (.tup [a, b, c]), S) := rfl
section
variable {S : Store} (wf : WF S)
include wf
theorem ltext_other {w : Str} {ps : List D} (h1 : w ≠ "lock") (h2 : w ≠ "whole") (h3 : w ≠ "dup") (hw : w.length ≤ 1000) (hp : ∀ d ∈ ps, SpD d ∧ (partS d).length ≤ 1000) (hl : ps.length ≤ 20) :
    m_law_text [.fr (.tup (.str w :: ps))] S = .ok (.val (.fr (.str (Txt.join " " (w :: ps.map partS)))), S) := by
  have lv := leave_val wf (d := .str (Txt.join " " (w :: ps.map partS)))
  have hp' : ∀ d ∈ D.str w :: ps, SpD d ∧ (partS d).length ≤ 1000 := fun d hd => by
    rcases List.mem_cons.mp hd with rfl | hd
    · exact ⟨.inr ⟨_, rfl⟩, hw⟩
    · exact hp d hd
  have cm : lcM (fun _ => True) (gNm 5) tTr (eA strAG (aC (eV 5) aN)) [4, 5] [some (.fr (.tup (.str w :: ps))), some (.fr (.lst [.str "none", .str "read", .str "write"])), none, none, none, none] ((D.str w :: ps).map SV.fr) S [] = .ok ((((D.str w :: ps).map partS).map D.str).map SV.fr, S) :=
    lc_strs (D.str w :: ps) (by simp only [List.length_cons]; omega) fun d hd S' => by
      have := strA_p (hp' d hd).1 S'
      simp only [RR, DL.isNon, List.replicate_succ, List.replicate_zero, List.set_cons_zero, List.set_cons_succ, List.getElem?_cons_zero, List.getElem?_cons_succ, Option.map_some, Nat.reduceSub, and_self, and_true, true_and, decide_true, decide_false, if_true, if_false, Bool.false_eq_true, Bool.not_true, Bool.not_false, Nat.reduceAdd, Nat.reduceMul, Nat.reduceLeDiff, this]
  have jn := joinW (z := " ") (zs := (D.str w :: ps).map partS) (by decide +kernel) (by simp only [List.length_map, List.length_cons]; omega) (fun x hx => by
    obtain ⟨d, hd, rfl⟩ := List.mem_map.mp hx
    have := (hp' d hd).2
    omega) S
  have ty : tyS "str" S (.fr (.str " ")) = true := rfl
  have i0 := ix_0 (.str w) ps
  have em : (D.str w :: ps).map partS = w :: ps.map partS := rfl
  rw [em] at cm jn
  simp only [RR, DL.isNon, List.replicate_succ, List.replicate_zero, List.set_cons_zero, List.set_cons_succ, List.getElem?_cons_zero, List.getElem?_cons_succ, Option.map_some, Nat.reduceSub, and_self, and_true, true_and, decide_true, decide_false, if_true, if_false, Bool.false_eq_true, Bool.not_true, Bool.not_false, Nat.reduceAdd, Nat.reduceMul, Nat.reduceLeDiff, m_law_text, b_law_text, i0, eqs_f h1 S, eqs_f h2 S, eqs_f h3 S, cm, s_lceF wf, s_mt _ ty, jn]
  exact lv
theorem ltext_dup0 {p d : Int} (hp : Num p) (hd : 0 ≤ d ∧ d ≤ 15) : m_law_text [.fr (.tup [.str "dup", .int p, .int d, .non])] S = .ok (.val (.fr (.str (Txt.join " " ["dup", nt p, nt d]))), S) := by
  have lv := leave_val wf (d := .str (Txt.join " " ["dup", nt p, nt d]))
  have h2 := hp.len
  have h3 := (num15 hd).len
  have hp' : ∀ x ∈ [D.str "dup", .int p, .int d], SpD x := fun x hx => by
    simp only [List.mem_cons, List.not_mem_nil, or_false] at hx
    rcases hx with rfl | rfl | rfl
    · exact .inr ⟨_, rfl⟩
    · exact .inl ⟨_, rfl, hp⟩
    · exact .inl ⟨_, rfl, num15 hd⟩
  have cm : lcM (fun _ => True) (gNm 5) tTr (eA strAG (aC (eV 5) aN)) [4, 5] [some (.fr (.tup [.str "dup", .int p, .int d, .non])), some (.fr (.lst [.str "none", .str "read", .str "write"])), none, none, none, none] ([D.str "dup", .int p, .int d].map SV.fr) S [] = .ok ((([D.str "dup", .int p, .int d].map partS).map D.str).map SV.fr, S) :=
    lc_strs _ (by simp) fun d hd S' => by
      have := strA_p (hp' d hd) S'
      simp only [RR, DL.isNon, List.replicate_succ, List.replicate_zero, List.set_cons_zero, List.set_cons_succ, List.getElem?_cons_zero, List.getElem?_cons_succ, Option.map_some, Nat.reduceSub, and_self, and_true, true_and, decide_true, decide_false, if_true, if_false, Bool.false_eq_true, Bool.not_true, Bool.not_false, Nat.reduceAdd, Nat.reduceMul, Nat.reduceLeDiff, this]
  have em : [D.str "dup", .int p, .int d].map partS = ([("dup" : Str), nt p, nt d] : List Str) := rfl
  rw [em] at cm
  have jn := joinW (z := " ") (zs := ["dup", nt p, nt d]) (by decide +kernel) (by simp) (fun x hx => by
    simp only [List.mem_cons, List.not_mem_nil, or_false] at hx
    rcases hx with rfl | rfl | rfl
    · decide +kernel
    · omega
    · omega) S
  have ty : tyS "str" S (.fr (.str " ")) = true := rfl
  have e1 := eqs_f (show ¬ ("dup" : Str) = "lock" by decide +kernel) S
  have e2 := eqs_f (show ¬ ("dup" : Str) = "whole" by decide +kernel) S
  have e3 := eqs_t (rfl : ("dup" : Str) = "dup") S
  have sl := sl3 (.str "dup") (.int p) (.int d) .non S
  have i1 : isG false (.fr .non) (.fr .non) S = .ok (.fr (.bl true), S) := rfl
  simp only [RR, DL.isNon, List.replicate_succ, List.replicate_zero, List.set_cons_zero, List.set_cons_succ, List.getElem?_cons_zero, List.getElem?_cons_succ, Option.map_some, Nat.reduceSub, and_self, and_true, true_and, decide_true, decide_false, if_true, if_false, Bool.false_eq_true, Bool.not_true, Bool.not_false, Nat.reduceAdd, Nat.reduceMul, Nat.reduceLeDiff, m_law_text, b_law_text, e1, e2, e3, i1, sl, cm, s_lceF wf, s_mt _ ty, jn]
  exact lv
theorem ltext_dup1 {p d t : Int} (hp : Num p) (hd : 0 ≤ d ∧ d ≤ 15) (ht : 0 ≤ t ∧ t ≤ 15) : m_law_text [.fr (.tup [.str "dup", .int p, .int d, .int t])] S = .ok (.val (.fr (.str (Txt.join " " ["dup", nt p, nt d, "to", nt t]))), S) := by
  have lv := leave_val wf (d := .str (Txt.join " " ["dup", nt p, nt d, "to", nt t]))
  have h2 := hp.len
  have h3 := (num15 hd).len
  have h4 := (num15 ht).len
  have jn := joinW (z := " ") (zs := ["dup", nt p, nt d, "to", nt t]) (by decide +kernel) (by simp) (fun x hx => by
    simp only [List.mem_cons, List.not_mem_nil, or_false] at hx
    rcases hx with rfl | rfl | rfl | rfl | rfl
    · decide +kernel
    · omega
    · omega
    · decide +kernel
    · omega) S
  have ty : tyS "str" S (.fr (.str " ")) = true := rfl
  have e1 := eqs_f (show ¬ ("dup" : Str) = "lock" by decide +kernel) S
  have e2 := eqs_f (show ¬ ("dup" : Str) = "whole" by decide +kernel) S
  have e3 := eqs_t (rfl : ("dup" : Str) = "dup") S
  have a1 := strA_i (S := S) hp.log
  have a2 := strA_i (S := S) (num15 hd).log
  have a3 := strA_i (S := S) (num15 ht).log
  have i1 : isG false (.fr (.int t)) (.fr .non) S = .ok (.fr (.bl false), S) := rfl
  simp only [List.map_cons, List.map_nil] at jn
  simp only [RR, DL.isNon, List.replicate_succ, List.replicate_zero, List.set_cons_zero, List.set_cons_succ, List.getElem?_cons_zero, List.getElem?_cons_succ, Option.map_some, Nat.reduceSub, and_self, and_true, true_and, decide_true, decide_false, if_true, if_false, Bool.false_eq_true, Bool.not_true, Bool.not_false, Nat.reduceAdd, Nat.reduceMul, Nat.reduceLeDiff, m_law_text, b_law_text, e1, e2, e3, i1, a1, a2, a3, s_mt _ ty, jn]
  exact lv
theorem ltext_whole {p d l : Int} {b : Bool} (hp : Num p) (hd : 0 ≤ d ∧ d ≤ 15) (hl : 0 ≤ l ∧ l ≤ 2) :
    m_law_text [.fr (.tup [.str "whole", .int p, .int d, .int l, .bl b])] S = .ok (.val (.fr (.str (Txt.join " " (([("whole" : Str), nt p, nt d, lvS l] : List Str) ++ wt b)))), S) := by
  have lv := leave_val wf (d := .str (Txt.join " " (([("whole" : Str), nt p, nt d, lvS l] : List Str) ++ wt b)))
  have h1 := lv_len l
  have h2 := hp.len
  have h3 := (num15 hd).len
  have h4 := wt_len b
  have ad := add_w (a := ([("whole" : Str), nt p, nt d, lvS l] : List Str)) (b := wt b) (by simp only [List.length_cons, List.length_nil]; omega) S
  have jn := joinW (z := " ") (zs := (["whole", nt p, nt d, lvS l] : List Str) ++ wt b) (by decide +kernel) (by simp only [List.length_append, List.length_cons, List.length_nil]; omega) (fun x hx => by
    rcases List.mem_append.mp hx with hx | hx
    · simp only [List.mem_cons, List.not_mem_nil, or_false] at hx
      rcases hx with rfl | rfl | rfl | rfl
      · decide +kernel
      · omega
      · omega
      · omega
    · cases b
      · cases hx
      · rw [show wt true = [("wait" : Str)] from rfl, List.mem_singleton] at hx
        subst hx
        decide +kernel) S
  have ty : tyS "str" S (.fr (.str " ")) = true := rfl
  have a1 := strA_i (S := S) hp.log
  have a2 := strA_i (S := S) (num15 hd).log
  have a3 := ix_lv hl
  have m1 := mul_b "wait" b S
  have e1 := eqs_f (show ¬ ("whole" : Str) = "lock" by decide +kernel) S
  have e2 := eqs_t (rfl : ("whole" : Str) = "whole") S
  have wb : (if b = true then ([("wait" : Str)] : List Str) else []) = wt b := rfl
  rw [wb] at m1
  simp only [List.map_cons, List.map_nil] at ad
  simp only [RR, DL.isNon, List.replicate_succ, List.replicate_zero, List.set_cons_zero, List.set_cons_succ, List.getElem?_cons_zero, List.getElem?_cons_succ, Option.map_some, Nat.reduceSub, and_self, and_true, true_and, decide_true, decide_false, if_true, if_false, Bool.false_eq_true, Bool.not_true, Bool.not_false, Nat.reduceAdd, Nat.reduceMul, Nat.reduceLeDiff, m_law_text, b_law_text, e1, e2, a1, a2, a3, int_b, m1, ad, s_mt _ ty, jn]
  exact lv
theorem ltext_lock {p d l f : Int} {e : Option Int} {o b : Bool} (hp : Num p) (hd : 0 ≤ d ∧ d ≤ 15) (hl : 0 ≤ l ∧ l ≤ 2) (hf : Num f) (he : EnOk e) :
    m_law_text [.fr (.tup [.str "lock", .int p, .int d, .int l, .int f, enD e, .str (whS o), .bl b])] S = .ok (.val (.fr (.str (Txt.join " " (([("lock" : Str), nt p, nt d, lvS l, nt f, enS e] : List Str) ++ (opn o ++ wt b))))), S) := by
  have h1 := lv_len l
  have h2 := hp.len
  have h3 := (num15 hd).len
  have h4 := wt_len b
  have h5 := opn_len o
  have h6 := hf.len
  have h7 := he.len
  rw [← List.append_assoc]
  have lv := leave_val wf (d := .str (Txt.join " " ((([("lock" : Str), nt p, nt d, lvS l, nt f, enS e] : List Str) ++ opn o) ++ wt b)))
  have ad := add_w (a := ([("lock" : Str), nt p, nt d, lvS l, nt f, enS e] : List Str)) (b := opn o) (by simp only [List.length_cons, List.length_nil]; omega) S
  have ad2 := add_w (a := (["lock", nt p, nt d, lvS l, nt f, enS e] : List Str) ++ opn o) (b := wt b) (by simp only [List.length_append, List.length_cons, List.length_nil]; omega) S
  have jn := joinW (z := " ") (zs := (["lock", nt p, nt d, lvS l, nt f, enS e] : List Str) ++ opn o ++ wt b) (by decide +kernel) (by simp only [List.length_append, List.length_cons, List.length_nil]; omega) (fun x hx => by
    rcases List.mem_append.mp hx with hx | hx
    · rcases List.mem_append.mp hx with hx | hx
      · simp only [List.mem_cons, List.not_mem_nil, or_false] at hx
        rcases hx with rfl | rfl | rfl | rfl | rfl | rfl
        · decide +kernel
        · omega
        · omega
        · omega
        · omega
        · omega
      · cases o
        · cases hx
        · rw [show opn true = [("open" : Str)] from rfl, List.mem_singleton] at hx
          subst hx
          decide +kernel
    · cases b
      · cases hx
      · rw [show wt true = [("wait" : Str)] from rfl, List.mem_singleton] at hx
        subst hx
        decide +kernel) S
  have ty : tyS "str" S (.fr (.str " ")) = true := rfl
  have a1 := strA_i (S := S) hp.log
  have a2 := strA_i (S := S) (num15 hd).log
  have a3 := ix_lv hl
  have a4 := strA_i (S := S) hf.log
  have m1 := mul_b "wait" b S
  have m2 := mul_b "open" o S
  have e1 := eqs_t (rfl : ("lock" : Str) = "lock") S
  have wb : (if b = true then ([("wait" : Str)] : List Str) else []) = wt b := rfl
  have ob : (if o = true then ([("open" : Str)] : List Str) else []) = opn o := rfl
  rw [wb] at m1
  rw [ob] at m2
  have ew := eq_wh o S
  have e2 := is_en e S
  generalize List.map D.str (opn o) = A at *
  generalize List.map D.str (wt b) = B at *
  generalize List.map D.str ((["lock", nt p, nt d, lvS l, nt f, enS e] : List Str) ++ opn o) = C at *
  generalize List.map D.str ((["lock", nt p, nt d, lvS l, nt f, enS e] : List Str) ++ opn o ++ wt b) = C2 at *
  generalize Txt.join " " (((["lock", nt p, nt d, lvS l, nt f, enS e] : List Str) ++ opn o) ++ wt b) = Z at *
  generalize whS o = wo at *
  simp only [List.map_cons, List.map_nil] at ad
  have a5 : atI [D.str "lock", .int p, .int d, .int l, .int f, enD e, .str wo, .bl b] 5 = some (enD e) := rfl
  have a6 : atI [D.str "lock", .int p, .int d, .int l, .int f, enD e, .str wo, .bl b] 6 = some (.str wo) := rfl
  have a7 : atI [D.str "lock", .int p, .int d, .int l, .int f, enD e, .str wo, .bl b] 7 = some (.bl b) := rfl
  cases e with
  | none =>
    simp only [enD, enS, Option.isNone_none, Option.isNone_some] at e2 ad a5 a6 a7 ⊢
    simp only [RR, DL.isNon, List.replicate_succ, List.replicate_zero, List.set_cons_zero, List.set_cons_succ, List.getElem?_cons_zero, List.getElem?_cons_succ, Option.map_some, Nat.reduceSub, and_self, and_true, true_and, decide_true, decide_false, if_true, if_false, Bool.false_eq_true, Bool.not_true, Bool.not_false, Nat.reduceAdd, Nat.reduceMul, Nat.reduceLeDiff, m_law_text, b_law_text, e1, a1, a2, a3, a4, a5, a6, a7, e2, ew, int_b, m1, m2, ad, ad2, s_mt _ ty, jn]
    exact lv
  | some i =>
    simp only [enD, enS, Option.isNone_none, Option.isNone_some] at e2 ad a5 a6 a7 ⊢
    have a8 := strA_i (S := S) (he.n i rfl).log
    simp only [RR, DL.isNon, List.replicate_succ, List.replicate_zero, List.set_cons_zero, List.set_cons_succ, List.getElem?_cons_zero, List.getElem?_cons_succ, Option.map_some, Nat.reduceSub, and_self, and_true, true_and, decide_true, decide_false, if_true, if_false, Bool.false_eq_true, Bool.not_true, Bool.not_false, Nat.reduceAdd, Nat.reduceMul, Nat.reduceLeDiff, m_law_text, b_law_text, e1, a1, a2, a3, a4, a5, a6, a7, a8, e2, ew, int_b, m1, m2, ad, ad2, s_mt _ ty, jn]
    exact lv
theorem both_text {w : Str} {qs : List D} {ws : List Str} (h : Dt M50 w qs ws) : m_show_deed [.fr (.tup (.str w :: qs))] S = .ok (.val (.fr (.str (Txt.join " " ws))), S) ∧ m_law_text [.fr (.tup (.str w :: qs))] S = .ok (.val (.fr (.str (Txt.join " " ws))), S) := by
  have nm : ∀ {i : Int}, 0 ≤ i ∧ i < M50 → Num i := fun h => ⟨h.1, h.2⟩
  have sp : ∀ {i : Int}, Num i → SpD (.int i) ∧ (partS (.int i)).length ≤ 1000 := fun {i} h => ⟨.inl ⟨_, rfl, h⟩, Nat.le_trans h.len (by decide)⟩
  have go : ∀ {w : Str} {qs : List D}, w ≠ "lock" → w ≠ "whole" → w ≠ "dup" → w.length ≤ 1000 → (∀ d ∈ qs, SpD d ∧ (partS d).length ≤ 1000) → qs.length ≤ 20 → m_show_deed [.fr (.tup (.str w :: qs))] S = .ok (.val (.fr (.str (Txt.join " " (w :: qs.map partS)))), S) ∧ m_law_text [.fr (.tup (.str w :: qs))] S = .ok (.val (.fr (.str (Txt.join " " (w :: qs.map partS)))), S) :=
    fun h1 h2 h3 h4 h5 h6 => ⟨show_other wf h1 h2 h3 h4 h5 h6, ltext_other wf h1 h2 h3 h4 h5 h6⟩
  cases h with
  | st => exact go (by decide +kernel) (by decide +kernel) (by decide +kernel) (by decide +kernel) (by simp) (by simp)
  | @one w p hw hp =>
    have all : ∀ d ∈ [D.int p], SpD d ∧ (partS d).length ≤ 1000 := fun d hd => by
      rw [List.mem_singleton] at hd; subst hd; exact sp (nm hp)
    rcases hw with rfl | rfl
    · exact go (by decide +kernel) (by decide +kernel) (by decide +kernel) (by decide +kernel) all (by simp)
    · exact go (by decide +kernel) (by decide +kernel) (by decide +kernel) (by decide +kernel) all (by simp)
  | @give p hp =>
    have all : ∀ d ∈ [D.int p], SpD d ∧ (partS d).length ≤ 1000 := fun d hd => by
      rw [List.mem_singleton] at hd; subst hd; exact sp (nm hp)
    have e : Txt.join " " ["give", "up", nt p] = Txt.join " " ["give up", nt p] := by
      have : ("give up" : Str) = "give" ++ " " ++ "up" := by decide +kernel
      rw [this]
      rfl
    rw [e]
    exact go (w := "give up") (by decide +kernel) (by decide +kernel) (by decide +kernel) (by decide +kernel) all (by simp)
  | @op p f hp hf =>
    refine go (w := "open") (qs := [.int p, .str f]) (by decide +kernel) (by decide +kernel) (by decide +kernel) (by decide +kernel) (fun d hd => ?_) (by simp)
    simp only [List.mem_cons, List.not_mem_nil, or_false] at hd
    rcases hd with rfl | rfl
    · exact sp (nm hp)
    · refine ⟨.inr ⟨_, rfl⟩, ?_⟩
      unfold nameS at hf
      simp only [Bool.and_eq_true, decide_eq_true_eq] at hf
      show f.length ≤ 1000
      omega
  | @close p d hp hd =>
    refine go (w := "close") (qs := [.int p, .int d]) (by decide +kernel) (by decide +kernel) (by decide +kernel) (by decide +kernel) (fun x hx => ?_) (by simp)
    simp only [List.mem_cons, List.not_mem_nil, or_false] at hx
    rcases hx with rfl | rfl
    · exact sp (nm hp)
    · exact sp (num15 hd)
  | dup0 hp hd => exact ⟨show_dup0 wf (nm hp) hd, ltext_dup0 wf (nm hp) hd⟩
  | dup1 hp hd ht => exact ⟨show_dup1 wf (nm hp) hd ht, ltext_dup1 wf (nm hp) hd ht⟩
  | whole hp hd hl => exact ⟨show_whole wf (nm hp) hd hl, ltext_whole wf (nm hp) hd hl⟩
  | lock hp hd hl hf he =>
    have en : EnOk _ := ⟨fun i e => nm (by have := he i e; exact ⟨by omega, this.2⟩)⟩
    exact ⟨show_lock wf (nm hp) hd hl (nm hf) en, ltext_lock wf (nm hp) hd hl (nm hf) en⟩
end

theorem deq_txts : ∀ xs ys : List Str, PyData.eqvAll (pys (xs.map D.str)) (pys (ys.map D.str)) = decide (xs = ys)
  | [], [] => by simp [pys, PyData.eqvAll]
  | [], _ :: _ => by simp [pys, PyData.eqvAll]
  | _ :: _, [] => by simp [pys, PyData.eqvAll]
  | x :: xs, y :: ys => by
    simp only [List.map_cons, pys, py, PyData.eqvAll, PyData.eqv, deq_txts xs ys]
    rw [Bool.eq_iff_iff]
    simp
theorem plain_txts {xs : List Str} (h : ∀ x ∈ xs, PyData.strOk x = true) : DL.plain (.lst (xs.map D.str)) = true := fit_plain (by
  simp only [fit]
  refine fits_all fun d hd => ?_
  obtain ⟨x, hx, rfl⟩ := List.mem_map.mp hd
  simpa only [fit] using h x hx)
theorem eq_txts (n : Bool) {xs ys : List Str} (hx : ∀ x ∈ xs, PyData.strOk x = true) (hy : ∀ x ∈ ys, PyData.strOk x = true) (S : Store) : eqG n (.fr (.lst (xs.map D.str))) (.fr (.lst (ys.map D.str))) S = .ok (.fr (.bl (if n then !decide (xs = ys) else decide (xs = ys))), S) := by
  refine r_eq n rfl rfl ?_
  unfold eqD
  split
  · rename_i e
    cases e
  · rw [plain_txts hx, plain_txts hy]
    simp only [deq, py, PyData.eqv, deq_txts, Bool.and_self, if_true]
theorem in_txts (s : Str) {xs : List Str} (hs : PyData.strOk s = true) (hx : ∀ x ∈ xs, PyData.strOk x = true) (S : Store) : inG [] false (.fr (.str s)) (.fr (.lst (xs.map D.str))) S = .ok (.fr (.bl (decide (s ∈ xs))), S) := by
  have p1 : DL.plain (.str s) = true := fit_plain (by simpa only [fit] using hs)
  have p2 := plain_txts hx
  unfold inG
  show inLG false _ _ S = _
  unfold inLG
  simp only [snap, p1, p2, Bool.and_self, if_true, okV, Bool.false_eq_true, if_false]
  congr 4
  rw [Bool.eq_iff_iff, List.any_eq_true, decide_eq_true_eq]
  have e : ∀ a b : Str, deq (.str a) (.str b) = decide (b = a) := fun a b => by
    simp only [deq, py, PyData.eqv]
    rw [Bool.eq_iff_iff]
    simp only [beq_iff_eq, decide_eq_true_eq]
    exact eq_comm
  constructor
  · rintro ⟨d, hd, h⟩
    obtain ⟨x, hx, rfl⟩ := List.mem_map.mp hd
    rw [e, decide_eq_true_eq] at h
    rw [h]; exact hx
  · intro h
    exact ⟨_, List.mem_map.mpr ⟨s, h, rfl⟩, by rw [e]; exact decide_eq_true rfl⟩
abbrev M40 : Int := 10000000000000000000000000000000000000000
theorem numW_nt {i : Int} (h0 : 0 ≤ i) (h1 : i < M40) : numW (nt i) = some i := by
  obtain ⟨m, rfl⟩ : ∃ m : Nat, i = (m : Int) := ⟨i.toNat, by omega⟩
  have hm : m < 10 ^ 40 := by
    have : (10 : Nat) ^ 40 = 10000000000000000000000000000000000000000 := by decide +kernel
    unfold M40 at h1
    omega
  obtain ⟨l1, l2⟩ := nt_lenN m 40 (by decide) hm
  have hd : PySem.NumText.AllDigits (nt (m : Int)).cps.toList := nt_digits m
  have e3 : ((nt (m : Int)).cps.toList.all fun c => decide (c ∈ dgts.cps.toList)) = true := List.all_eq_true.mpr fun c hc => decide_eq_true ((dg_mem c).mpr (hd c hc))
  have vb : PySem.NumText.digitsVal (nt (m : Int)).cps.toList = m := by rw [nt_nat]; exact PySem.W.KIN.val_back m
  unfold numW
  rw [if_pos ⟨⟨l2, l1⟩, e3⟩, vb, if_neg]
  rintro ⟨hh, hne⟩
  -- no leading zero but in "0"
  have ta := PySem.NumText.toDigits_all _ hd
  rw [vb] at ta
  have ln : (nt (m : Int)).cps.toList.length = (Nat.toDigits 10 m).length := by rw [nt_nat, List.length_map]
  cases hcs : (nt (m : Int)).cps.toList with
  | nil => rw [hcs] at hh; cases hh
  | cons c r =>
    rw [hcs] at hh ta ln
    have hc : c = 48 := Option.some.inj hh
    subst hc
    rw [List.dropWhile_cons, if_pos (by decide)] at ta
    have le := List.dropWhile_suffix (· == 48) (l := r)
    have le := le.length_le
    cases hr : r.dropWhile (· == 48) with
    | nil =>
      rw [hr] at ta
      dsimp only at ta
      rw [ta] at ln
      have hr0 : r = [] := List.length_eq_zero_iff.mp (by simpa using ln)
      exact hne (str_ext (by rw [hcs, hr0]; decide +kernel))
    | cons x y =>
      rw [hr] at ta le
      dsimp only at ta
      rw [ta, List.length_map] at ln
      simp only [List.length_cons] at ln le
      omega
section
variable {S : Store} (wf : WF S)
include wf
theorem number_ok {w : Str} {n : Int} (h : numW w = some n) : m_number_in [.fr (.str w)] S = .ok (.val (.fr (.int n)), S) := by
  refine (number_run wf w ?_).1 n h
  unfold numW at h
  split at h
  · rename_i q
    omega
  · cases h
theorem num_nt {i : Int} (h : 0 ≤ i ∧ i < M40) : m_number_in [.fr (.str (nt i))] S = .ok (.val (.fr (.int i)), S) := number_ok wf (numW_nt h.1 h.2)
theorem level_ok {l : Int} (h : 0 ≤ l ∧ l ≤ 2) : m_level_of [.fr (.str (lvS l))] S = .ok (.val (.fr (.int l)), S) := by
  have i1 : inKG "LEVELS" [.inr "none", .inr "read", .inr "write"] true (.fr (.str (lvS l))) (.fr (.cls "LEVELS")) S = .ok (.fr (.bl false), S) := by
    rcases (by omega : l = 0 ∨ l = 1 ∨ l = 2) with rfl | rfl | rfl <;> (unfold inKG; simp only [keyS, if_true]; congr 4)
  have i2 : tupIxKG [.inr "none", .inr "read", .inr "write"] [.fr (.str (lvS l))] S = .ok (.fr (.int l), S) := by
    rcases (by omega : l = 0 ∨ l = 1 ∨ l = 2) with rfl | rfl | rfl <;> rfl
  have lv := leave_val wf (d := .int l)
  simp only [RR, DL.isNon, List.replicate_succ, List.replicate_zero, List.set_cons_zero, List.set_cons_succ, List.getElem?_cons_zero, List.getElem?_cons_succ, Option.map_some, Nat.reduceSub, and_self, and_true, true_and, decide_true, decide_false, if_true, if_false, Bool.false_eq_true, Bool.not_true, Bool.not_false, Nat.reduceAdd, Nat.reduceMul, Nat.reduceLeDiff, m_level_of, b_level_of, i1, r_mtK, s_mtK, s_mtKb, i2, lv]
theorem last_ok {e : Option Int} (h : ∀ i, e = some i → 0 ≤ i ∧ i < M40) : m_last_of [.fr (.str (enS e))] S = .ok (.val (.fr (enD e)), S) := by
  cases e with
  | none =>
    have lv := leave_val wf (d := .non)
    simp only [RR, DL.isNon, List.replicate_succ, List.replicate_zero, List.set_cons_zero, List.set_cons_succ, List.getElem?_cons_zero, List.getElem?_cons_succ, Option.map_some, Nat.reduceSub, and_self, and_true, true_and, decide_true, decide_false, if_true, if_false, Bool.false_eq_true, Bool.not_true, Bool.not_false, Nat.reduceAdd, Nat.reduceMul, Nat.reduceLeDiff, m_last_of, b_last_of, enS, enD, eqs_t (rfl : ("end" : Str) = "end") S, lv]
  | some i =>
    have hi := h i rfl
    have lv := leave_val wf (d := .int i)
    have nn := num_nt wf hi
    have ne : ¬ nt i = "end" := fun e => by
      obtain ⟨m, rfl⟩ : ∃ m : Nat, i = (m : Int) := ⟨i.toNat, by omega⟩
      have := nt_digits m 101 (by rw [e]; decide +kernel)
      omega
    simp only [RR, DL.isNon, List.replicate_succ, List.replicate_zero, List.set_cons_zero, List.set_cons_succ, List.getElem?_cons_zero, List.getElem?_cons_succ, Option.map_some, Nat.reduceSub, and_self, and_true, true_and, decide_true, decide_false, if_true, if_false, Bool.false_eq_true, Bool.not_true, Bool.not_false, Nat.reduceAdd, Nat.reduceMul, Nat.reduceLeDiff, m_last_of, b_last_of, enS, enD, eqs_f ne S, r_callX, s_callX, nn, s_cutX, lv]
end

theorem ad_tt {xs ys : List D} (h : xs.length + ys.length ≤ 1000) (c : Bool) (S : Store) : addG c (.fr (.tup xs)) (.fr (.tup ys)) S = .ok (.fr (.tup (xs ++ ys)), S) := by
  unfold addG
  simp only
  rw [if_pos (by rw [sizeLine_eq]; omega)]
  rfl
theorem at_k (L : List D) (n : Nat) {d : D} (h : L[n]? = some d) : atI L (n : Int) = some d := by rw [DL.atI_nat]; exact h
theorem in35 (k : Int) (S : Store) : inTpG true (.fr (.int k)) (.fr (.tup [.int 3, .int 5])) S = .ok (.fr (.bl (memK true (.inl k) [.inl 3, .inl 5])), S) := rfl
theorem tail_ok (o b : Bool) : ∀ x ∈ opn o ++ wt b, PyData.strOk x = true := by
  cases o <;> cases b <;> decide +kernel
theorem tail_o (o b : Bool) : decide (("open" : Str) ∈ opn o ++ wt b) = o := by
  cases o <;> cases b <;> decide +kernel
theorem tail_w (o b : Bool) : decide (("wait" : Str) ∈ opn o ++ wt b) = b := by
  cases o <;> cases b <;> decide +kernel
theorem tail_len (o b : Bool) : (opn o ++ wt b).length ≤ 2 := by
  cases o <;> cases b <;> decide
theorem wt_ok (b : Bool) : ∀ x ∈ wt b, PyData.strOk x = true := by cases b <;> decide +kernel
theorem wt_in (b : Bool) : decide (("wait" : Str) ∈ wt b) = b := by cases b <;> decide +kernel
section
variable {S : Store} (wf : WF S)
include wf
theorem lockin_run {p d l f : Int} {e : Option Int} {o b : Bool} (hp : 0 ≤ p ∧ p < M40) (hd : 0 ≤ d ∧ d ≤ 15) (hl : 0 ≤ l ∧ l ≤ 2) (hf : 0 ≤ f ∧ f < M40) (he : ∀ i, e = some i → 0 ≤ i ∧ i < M40) :
    m_lock_in [.fr (.lst ((([("lock" : Str), nt p, nt d, lvS l, nt f, enS e] : List Str) ++ (opn o ++ wt b)).map D.str))] S = .ok (.val (.fr (.tup [.str "lock", .int p, .int d, .int l, .int f, enD e, .str (whS o), .bl b])), S) := by
  have ln : lenG [.fr (.lst ((([("lock" : Str), nt p, nt d, lvS l, nt f, enS e] : List Str) ++ (opn o ++ wt b)).map D.str))] S = .ok (.fr (.int ((6 + (opn o ++ wt b).length : Nat) : Int)), S) := by
    rw [r_lenF, List.length_map, List.length_append]
    rfl
  have hle := tail_len o b
  have l6 : decide (((6 + (opn o ++ wt b).length : Nat) : Int) < 6) = false := decide_eq_false (by omega)
  have dr := cut_fr ((([("lock" : Str), nt p, nt d, lvS l, nt f, enS e] : List Str) ++ (opn o ++ wt b)).map D.str) 6
  have dq : List.drop 6 ((([("lock" : Str), nt p, nt d, lvS l, nt f, enS e] : List Str) ++ (opn o ++ wt b)).map D.str) = (opn o ++ wt b).map D.str := rfl
  rw [dq] at dr
  rw [show ((6 : Nat) : Int) = 6 from rfl] at dr
  have i1 := in_txts "open" (by decide +kernel) (tail_ok o b) S
  have i2 := in_txts "wait" (by decide +kernel) (tail_ok o b) S
  rw [tail_o] at i1
  rw [tail_w] at i2
  have a1 : atI ((([("lock" : Str), nt p, nt d, lvS l, nt f, enS e] : List Str) ++ (opn o ++ wt b)).map D.str) 1 = some (.str (nt p)) := at_k _ 1 rfl
  have a2 : atI ((([("lock" : Str), nt p, nt d, lvS l, nt f, enS e] : List Str) ++ (opn o ++ wt b)).map D.str) 2 = some (.str (nt d)) := at_k _ 2 rfl
  have a3 : atI ((([("lock" : Str), nt p, nt d, lvS l, nt f, enS e] : List Str) ++ (opn o ++ wt b)).map D.str) 3 = some (.str (lvS l)) := at_k _ 3 rfl
  have a4 : atI ((([("lock" : Str), nt p, nt d, lvS l, nt f, enS e] : List Str) ++ (opn o ++ wt b)).map D.str) 4 = some (.str (nt f)) := at_k _ 4 rfl
  have a5 : atI ((([("lock" : Str), nt p, nt d, lvS l, nt f, enS e] : List Str) ++ (opn o ++ wt b)).map D.str) 5 = some (.str (enS e)) := at_k _ 5 rfl
  have n1 := num_nt wf hp
  have n2 := num_nt wf (i := d) ⟨hd.1, by unfold M40; omega⟩
  have n3 := level_ok wf hl
  have n4 := num_nt wf hf
  have n5 := last_ok wf he
  have t1 := fun c : Bool => ad_tt (xs := [.str "lock"]) (ys := [.int p, .int d, .int l, .int f, enD e]) (by simp) c S
  have t2 := fun (c : Bool) (w : D) => ad_tt (xs := [.str "lock", .int p, .int d, .int l, .int f, enD e]) (ys := [w, .bl b]) (by simp) c S
  simp only [List.cons_append, List.nil_append] at t1 t2
  have lv := leave_val wf (d := .tup [.str "lock", .int p, .int d, .int l, .int f, enD e, .str (whS o), .bl b])
  generalize (([("lock" : Str), nt p, nt d, lvS l, nt f, enS e] : List Str) ++ (opn o ++ wt b)).map D.str = WS at *
  generalize List.map D.str (opn o ++ wt b) = TS at *
  generalize (opn o ++ wt b).length = k at *
  cases o with
  | true =>
    simp only [whS, if_true] at lv ⊢
    simp only [RR, DL.isNon, List.replicate_succ, List.replicate_zero, List.set_cons_zero, List.set_cons_succ, List.getElem?_cons_zero, List.getElem?_cons_succ, Option.map_some, Nat.reduceSub, and_self, and_true, true_and, decide_true, decide_false, if_true, if_false, Bool.false_eq_true, Bool.not_true, Bool.not_false, Nat.reduceAdd, Nat.reduceMul, Nat.reduceLeDiff, m_lock_in, b_lock_in, ln, l6, r_callX, s_callX, s_cutX, a1, a2, a3, a4, a5, n1, n2, n3, n4, n5, dr, i1, i2, t1, t2, lv]
  | false =>
    simp only [whS, Bool.false_eq_true, if_false] at lv ⊢
    simp only [RR, DL.isNon, List.replicate_succ, List.replicate_zero, List.set_cons_zero, List.set_cons_succ, List.getElem?_cons_zero, List.getElem?_cons_succ, Option.map_some, Nat.reduceSub, and_self, and_true, true_and, decide_true, decide_false, if_true, if_false, Bool.false_eq_true, Bool.not_true, Bool.not_false, Nat.reduceAdd, Nat.reduceMul, Nat.reduceLeDiff, m_lock_in, b_lock_in, ln, l6, r_callX, s_callX, s_cutX, a1, a2, a3, a4, a5, n1, n2, n3, n4, n5, dr, i1, i2, t1, t2, lv]
theorem wholein_run {p d l : Int} {b : Bool} (hp : 0 ≤ p ∧ p < M40) (hd : 0 ≤ d ∧ d ≤ 15) (hl : 0 ≤ l ∧ l ≤ 2) :
    m_whole_in [.fr (.lst ((([("whole" : Str), nt p, nt d, lvS l] : List Str) ++ wt b).map D.str))] S = .ok (.val (.fr (.tup [.str "whole", .int p, .int d, .int l, .bl b])), S) := by
  have ln : lenG [.fr (.lst ((([("whole" : Str), nt p, nt d, lvS l] : List Str) ++ wt b).map D.str))] S = .ok (.fr (.int ((4 + (wt b).length : Nat) : Int)), S) := by
    rw [r_lenF, List.length_map, List.length_append]
    rfl
  have l6 : decide (((4 + (wt b).length : Nat) : Int) < 4) = false := decide_eq_false (by omega)
  have dr := cut_fr ((([("whole" : Str), nt p, nt d, lvS l] : List Str) ++ wt b).map D.str) 4
  have dq : List.drop 4 ((([("whole" : Str), nt p, nt d, lvS l] : List Str) ++ wt b).map D.str) = (wt b).map D.str := rfl
  rw [dq] at dr
  rw [show ((4 : Nat) : Int) = 4 from rfl] at dr
  have i2 := in_txts "wait" (by decide +kernel) (wt_ok b) S
  rw [wt_in] at i2
  have a1 : atI ((([("whole" : Str), nt p, nt d, lvS l] : List Str) ++ wt b).map D.str) 1 = some (.str (nt p)) := at_k _ 1 rfl
  have a2 : atI ((([("whole" : Str), nt p, nt d, lvS l] : List Str) ++ wt b).map D.str) 2 = some (.str (nt d)) := at_k _ 2 rfl
  have a3 : atI ((([("whole" : Str), nt p, nt d, lvS l] : List Str) ++ wt b).map D.str) 3 = some (.str (lvS l)) := at_k _ 3 rfl
  have n1 := num_nt wf hp
  have n2 := num_nt wf (i := d) ⟨hd.1, by unfold M40; omega⟩
  have n3 := level_ok wf hl
  have lv := leave_val wf (d := .tup [.str "whole", .int p, .int d, .int l, .bl b])
  generalize (([("whole" : Str), nt p, nt d, lvS l] : List Str) ++ wt b).map D.str = WS at *
  generalize List.map D.str (wt b) = TS at *
  generalize (wt b).length = k at *
  simp only [RR, DL.isNon, List.replicate_succ, List.replicate_zero, List.set_cons_zero, List.set_cons_succ, List.getElem?_cons_zero, List.getElem?_cons_succ, Option.map_some, Nat.reduceSub, and_self, and_true, true_and, decide_true, decide_false, if_true, if_false, Bool.false_eq_true, Bool.not_true, Bool.not_false, Nat.reduceAdd, Nat.reduceMul, Nat.reduceLeDiff, m_whole_in, b_whole_in, ln, l6, r_callX, s_callX, s_cutX, a1, a2, a3, n1, n2, n3, dr, i2, lv]
theorem dupin0_run {p d : Int} (hp : 0 ≤ p ∧ p < M40) (hd : 0 ≤ d ∧ d ≤ 15) : m_dup_in [.fr (.lst (([("dup" : Str), nt p, nt d] : List Str).map D.str))] S = .ok (.val (.fr (.tup [.str "dup", .int p, .int d, .non])), S) := by
  have ln : lenG [.fr (.lst (([("dup" : Str), nt p, nt d] : List Str).map D.str))] S = .ok (.fr (.int 3), S) := rfl
  have i1 := in35 3 S
  rw [show memK true (.inl 3) [.inl 3, .inl 5] = false by decide +kernel] at i1
  have a1 : atI (([("dup" : Str), nt p, nt d] : List Str).map D.str) 1 = some (.str (nt p)) := at_k _ 1 rfl
  have a2 : atI (([("dup" : Str), nt p, nt d] : List Str).map D.str) 2 = some (.str (nt d)) := at_k _ 2 rfl
  have n1 := num_nt wf hp
  have n2 := num_nt wf (i := d) ⟨hd.1, by unfold M40; omega⟩
  have lv := leave_val wf (d := .tup [.str "dup", .int p, .int d, .non])
  generalize ([("dup" : Str), nt p, nt d] : List Str).map D.str = WS at *
  simp only [RR, DL.isNon, List.replicate_succ, List.replicate_zero, List.set_cons_zero, List.set_cons_succ, List.getElem?_cons_zero, List.getElem?_cons_succ, Option.map_some, Nat.reduceSub, and_self, and_true, true_and, decide_true, decide_false, if_true, if_false, Bool.false_eq_true, Bool.not_true, Bool.not_false, Nat.reduceAdd, Nat.reduceMul, Nat.reduceLeDiff, m_dup_in, b_dup_in, ln, i1, r_callX, s_callX, s_cutX, a1, a2, n1, n2, lv]
theorem dupin1_run {p d t : Int} (hp : 0 ≤ p ∧ p < M40) (hd : 0 ≤ d ∧ d ≤ 15) (ht : 0 ≤ t ∧ t ≤ 15) : m_dup_in [.fr (.lst (([("dup" : Str), nt p, nt d, "to", nt t] : List Str).map D.str))] S = .ok (.val (.fr (.tup [.str "dup", .int p, .int d, .int t])), S) := by
  have ln : lenG [.fr (.lst (([("dup" : Str), nt p, nt d, "to", nt t] : List Str).map D.str))] S = .ok (.fr (.int 5), S) := rfl
  have i1 := in35 5 S
  rw [show memK true (.inl 5) [.inl 3, .inl 5] = false by decide +kernel] at i1
  have a1 : atI (([("dup" : Str), nt p, nt d, "to", nt t] : List Str).map D.str) 1 = some (.str (nt p)) := at_k _ 1 rfl
  have a2 : atI (([("dup" : Str), nt p, nt d, "to", nt t] : List Str).map D.str) 2 = some (.str (nt d)) := at_k _ 2 rfl
  have a4 : atI (([("dup" : Str), nt p, nt d, "to", nt t] : List Str).map D.str) 4 = some (.str (nt t)) := at_k _ 4 rfl
  have d1 : decide ((5 : Int) = 3) = false := by decide
  have n1 := num_nt wf hp
  have n2 := num_nt wf (i := d) ⟨hd.1, by unfold M40; omega⟩
  have n3 := num_nt wf (i := t) ⟨ht.1, by unfold M40; omega⟩
  have lv := leave_val wf (d := .tup [.str "dup", .int p, .int d, .int t])
  generalize ([("dup" : Str), nt p, nt d, "to", nt t] : List Str).map D.str = WS at *
  simp only [RR, DL.isNon, List.replicate_succ, List.replicate_zero, List.set_cons_zero, List.set_cons_succ, List.getElem?_cons_zero, List.getElem?_cons_succ, Option.map_some, Nat.reduceSub, and_self, and_true, true_and, decide_true, decide_false, if_true, if_false, Bool.false_eq_true, Bool.not_true, Bool.not_false, Nat.reduceAdd, Nat.reduceMul, Nat.reduceLeDiff, m_dup_in, b_dup_in, ln, i1, r_callX, s_callX, s_cutX, a1, a2, a4, d1, n1, n2, n3, lv]
end

theorem gu_split (S : Store) : splitG (.fr (.str "give up")) [.fr (.str " ")] S = .ok (.fr (.lst (([("give" : Str), "up"] : List Str).map D.str)), S) := by
  have e : Txt.split "give up" " " = ([("give" : Str), "up"] : List Str) := by decide +kernel
  unfold splitG
  simp only
  rw [if_pos ⟨by decide +kernel, by rw [sizeLine_eq]; decide +kernel⟩, e]
  rfl
theorem gu_ok : ∀ x ∈ ([("give" : Str), "up"] : List Str), PyData.strOk x = true := by decide +kernel
theorem nt_ok {i : Int} (h : 0 ≤ i ∧ i < M40) : PyData.strOk (nt i) = true := Num.ok ⟨h.1, by unfold M40 at h; unfold M50; omega⟩
section
variable {S : Store} (wf : WF S)
include wf
theorem lc_nums {rho : Slots} {own : List Nat} (ns : List Int) (hn : ∀ i ∈ ns, 0 ≤ i ∧ i < M40) (hl : ns.length ≤ 100)
    (h : ∀ (x : SV) (S' : Store), lcT (gNm 2) tTr (eCall m_number_in false (aC (eV 2) aN)) x (wipeR rho own) S' = (((noX (m_number_in [x] S')).bind (back false))).bind k_l3) :
    lcM (fun _ => True) (gNm 2) tTr (eCall m_number_in false (aC (eV 2) aN)) own rho (((ns.map nt).map D.str).map SV.fr) S [] = .ok ((ns.map D.int).map SV.fr, S) := by
  have e0 : (ns.map nt).map D.str = ns.map fun i : Int => D.str (nt i) := by rw [List.map_map]; rfl
  rw [e0]
  have := lc_genF (S := S) (gm := gNm 2) (t := tTr) (e := eCall m_number_in false (aC (eV 2) aN)) (rho := rho) (own := own) (fun i : Int => D.str (nt i)) (fun i => some (D.int i)) ns (by omega) fun i hi ds => by
    have nn := num_nt (wf_acc wf ds) (hn i hi)
    rw [h]
    simp only [RR, DL.isNon, List.replicate_succ, List.replicate_zero, List.set_cons_zero, List.set_cons_succ, List.getElem?_cons_zero, List.getElem?_cons_succ, Option.map_some, Nat.reduceSub, and_self, and_true, true_and, decide_true, decide_false, if_true, if_false, Bool.false_eq_true, Bool.not_true, Bool.not_false, Nat.reduceAdd, Nat.reduceMul, Nat.reduceLeDiff, nn, Option.map_some]
  rw [this, List.filterMap_eq_map']
theorem deedin_nums {w : Str} {ns : List Int} (h1 : w ≠ "lock") (h2 : w ≠ "whole") (h3 : w ≠ "dup") (h4 : w ≠ "open") (h5 : w ≠ "give") (hw : PyData.strOk w = true) (hn : ∀ i ∈ ns, 0 ≤ i ∧ i < M40) (hl : ns.length ≤ 100) :
    m_deed_in [.fr (.lst ((w :: ns.map nt).map D.str))] S = .ok (.val (.fr (.tup (.str w :: ns.map D.int))), S) := by
  have a0 : atI ((w :: ns.map nt).map D.str) 0 = some (.str w) := at_k _ 0 rfl
  have c2 := cut_to ((w :: ns.map nt).map D.str) 2
  rw [← List.map_take] at c2
  have oks : ∀ x ∈ w :: ns.map nt, PyData.strOk x = true := fun x hx => by
    rcases List.mem_cons.mp hx with rfl | hx
    · exact hw
    · obtain ⟨i, hi, rfl⟩ := List.mem_map.mp hx
      exact nt_ok (hn i hi)
  have eg := eq_txts false (xs := (w :: ns.map nt).take 2) (fun x hx => oks x (List.mem_of_mem_take hx)) gu_ok S
  rw [if_neg (by decide), decide_eq_false (show ¬ (w :: ns.map nt).take 2 = ([("give" : Str), "up"] : List Str) from fun e => by
    rw [show (w :: ns.map nt).take 2 = w :: (ns.map nt).take 1 from rfl] at e
    exact h5 (List.cons.inj e).1)] at eg
  have c1 := cut_fr ((w :: ns.map nt).map D.str) 1
  rw [show List.drop 1 ((w :: ns.map nt).map D.str) = (ns.map nt).map D.str from rfl] at c1
  rw [show ((2 : Nat) : Int) = 2 from rfl] at c2
  rw [show ((1 : Nat) : Int) = 1 from rfl] at c1
  have cm := lc_nums wf (rho := [some (.fr (.lst ((w :: ns.map nt).map D.str))), none, none]) (own := [1, 2]) ns hn hl (fun x S' => by simp only [RR, DL.isNon, List.replicate_succ, List.replicate_zero, List.set_cons_zero, List.set_cons_succ, List.getElem?_cons_zero, List.getElem?_cons_succ, Option.map_some, Nat.reduceSub, and_self, and_true, true_and, decide_true, decide_false, if_true, if_false, Bool.false_eq_true, Bool.not_true, Bool.not_false, Nat.reduceAdd, Nat.reduceMul, Nat.reduceLeDiff])
  have tp : tupleG [.fr (.lst (ns.map D.int))] S = .ok (.fr (.tup (ns.map D.int)), S) := by
    unfold tupleG
    simp only [rdS, rdL, allFr_map]
  have t1 := fun c : Bool => ad_tt (xs := [.str w]) (ys := ns.map D.int) (by simp only [List.length_map, List.length_cons, List.length_nil]; omega) c S
  simp only [List.cons_append, List.nil_append] at t1
  have lv := leave_val wf (d := .tup (.str w :: ns.map D.int))
  have ty : tyS "str" S (.fr (.str "give up")) = true := rfl
  have gs := gu_split S
  generalize (w :: ns.map nt).map D.str = WS at *
  generalize List.map D.str (List.take 2 (w :: ns.map nt)) = W2 at *
  generalize (([("give" : Str), "up"] : List Str).map D.str) = GU at *
  simp only [RR, DL.isNon, List.replicate_succ, List.replicate_zero, List.set_cons_zero, List.set_cons_succ, List.getElem?_cons_zero, List.getElem?_cons_succ, Option.map_some, Nat.reduceSub, and_self, and_true, true_and, decide_true, decide_false, if_true, if_false, Bool.false_eq_true, Bool.not_true, Bool.not_false, Nat.reduceAdd, Nat.reduceMul, Nat.reduceLeDiff, m_deed_in, b_deed_in, a0, eqs_f h1 S, eqs_f h2 S, eqs_f h3 S, eqs_f h4 S, c2, s_mt _ ty, gs, eg, c1, cm, s_lceF wf, tp, t1, lv]
theorem deedin_run {w : Str} {qs : List D} {ws : List Str} (h : Dt M40 w qs ws) : m_deed_in [.fr (.lst (ws.map D.str))] S = .ok (.val (.fr (.tup (.str w :: qs))), S) := by
  cases h with
  | st => exact deedin_nums wf (w := "start") (ns := []) (by decide +kernel) (by decide +kernel) (by decide +kernel) (by decide +kernel) (by decide +kernel) (by decide +kernel) (fun _ h => by cases h) (by simp)
  | @one w p hw hp =>
    have hn : ∀ i ∈ [p], 0 ≤ i ∧ i < M40 := fun i hi => by rw [List.mem_singleton] at hi; subst hi; exact hp
    rcases hw with rfl | rfl
    · exact deedin_nums wf (w := "fork") (ns := [p]) (by decide +kernel) (by decide +kernel) (by decide +kernel) (by decide +kernel) (by decide +kernel) (by decide +kernel) hn (by simp)
    · exact deedin_nums wf (w := "end") (ns := [p]) (by decide +kernel) (by decide +kernel) (by decide +kernel) (by decide +kernel) (by decide +kernel) (by decide +kernel) hn (by simp)
  | @give p hp =>
    have a0 : atI (([("give" : Str), "up", nt p] : List Str).map D.str) 0 = some (.str "give") := rfl
    have ln : lenG [.fr (.lst (([("give" : Str), "up", nt p] : List Str).map D.str))] S = .ok (.fr (.int 3), S) := rfl
    have c2 : cutA (([("give" : Str), "up", nt p] : List Str).map D.str) none (some 2) = (([("give" : Str), "up"] : List Str).map D.str) := rfl
    have c1 : cutA (([("give" : Str), "up", nt p] : List Str).map D.str) (some 2) none = (([p].map nt).map D.str) := rfl
    have eg := eq_txts false gu_ok gu_ok S
    rw [if_neg (by decide), decide_eq_true rfl] at eg
    have cm := lc_nums wf (rho := [some (.fr (.lst (([("give" : Str), "up", nt p] : List Str).map D.str))), none, none]) (own := [1, 2]) [p] (fun i hi => by rw [List.mem_singleton] at hi; subst hi; exact hp) (by simp) (fun x S' => by simp only [RR, DL.isNon, List.replicate_succ, List.replicate_zero, List.set_cons_zero, List.set_cons_succ, List.getElem?_cons_zero, List.getElem?_cons_succ, Option.map_some, Nat.reduceSub, and_self, and_true, true_and, decide_true, decide_false, if_true, if_false, Bool.false_eq_true, Bool.not_true, Bool.not_false, Nat.reduceAdd, Nat.reduceMul, Nat.reduceLeDiff])
    have tp : tupleG [.fr (.lst ([p].map D.int))] S = .ok (.fr (.tup ([p].map D.int)), S) := rfl
    have t1 := fun c : Bool => ad_tt (xs := [.str "give up"]) (ys := [p].map D.int) (by simp) c S
    simp only [List.cons_append, List.nil_append] at t1
    have lv := leave_val wf (d := .tup (.str "give up" :: [p].map D.int))
    have ty : tyS "str" S (.fr (.str "give up")) = true := rfl
    have gs := gu_split S
    have e1 := eqs_f (show ¬ ("give" : Str) = "lock" by decide +kernel) S
    have e2 := eqs_f (show ¬ ("give" : Str) = "whole" by decide +kernel) S
    have e3 := eqs_f (show ¬ ("give" : Str) = "dup" by decide +kernel) S
    have e4 := eqs_f (show ¬ ("give" : Str) = "open" by decide +kernel) S
    rw [show ([.int p] : List D) = [p].map D.int from rfl]
    generalize ([("give" : Str), "up", nt p] : List Str).map D.str = WS at *
    generalize (([("give" : Str), "up"] : List Str).map D.str) = GU at *
    generalize (([p].map nt).map D.str) = PS at *
    generalize [p].map D.int = QS at *
    simp only [RR, DL.isNon, List.replicate_succ, List.replicate_zero, List.set_cons_zero, List.set_cons_succ, List.getElem?_cons_zero, List.getElem?_cons_succ, Option.map_some, Nat.reduceSub, and_self, and_true, true_and, decide_true, decide_false, if_true, if_false, Bool.false_eq_true, Bool.not_true, Bool.not_false, Nat.reduceAdd, Nat.reduceMul, Nat.reduceLeDiff, m_deed_in, b_deed_in, a0, e1, e2, e3, e4, ln, c2, s_mt _ ty, gs, eg, c1, cm, s_lceF wf, tp, t1, lv]
  | @op p f hp hf =>
    have a0 : atI (([("open" : Str), nt p, f] : List Str).map D.str) 0 = some (.str "open") := rfl
    have a1 : atI (([("open" : Str), nt p, f] : List Str).map D.str) 1 = some (.str (nt p)) := rfl
    have a2 : atI (([("open" : Str), nt p, f] : List Str).map D.str) 2 = some (.str f) := rfl
    have ln : lenG [.fr (.lst (([("open" : Str), nt p, f] : List Str).map D.str))] S = .ok (.fr (.int 3), S) := rfl
    have e1 := eqs_f (show ¬ ("open" : Str) = "lock" by decide +kernel) S
    have e2 := eqs_f (show ¬ ("open" : Str) = "whole" by decide +kernel) S
    have e3 := eqs_f (show ¬ ("open" : Str) = "dup" by decide +kernel) S
    have e4 := eqs_t (rfl : ("open" : Str) = "open") S
    have nn := num_nt wf hp
    have lv := leave_val wf (d := .tup [.str "open", .int p, .str f])
    generalize ([("open" : Str), nt p, f] : List Str).map D.str = WS at *
    simp only [RR, DL.isNon, List.replicate_succ, List.replicate_zero, List.set_cons_zero, List.set_cons_succ, List.getElem?_cons_zero, List.getElem?_cons_succ, Option.map_some, Nat.reduceSub, and_self, and_true, true_and, decide_true, decide_false, if_true, if_false, Bool.false_eq_true, Bool.not_true, Bool.not_false, Nat.reduceAdd, Nat.reduceMul, Nat.reduceLeDiff, m_deed_in, b_deed_in, a0, a1, a2, e1, e2, e3, e4, ln, r_callX, s_callX, s_cutX, nn, lv]
  | @close p d hp hd =>
    exact deedin_nums wf (w := "close") (ns := [p, d]) (by decide +kernel) (by decide +kernel) (by decide +kernel) (by decide +kernel) (by decide +kernel) (by decide +kernel) (fun i hi => by
      simp only [List.mem_cons, List.not_mem_nil, or_false] at hi
      rcases hi with rfl | rfl
      · exact hp
      · exact ⟨hd.1, by unfold M40; omega⟩) (by simp)
  | @dup0 p d hp hd =>
    have a0 : atI (([("dup" : Str), nt p, nt d] : List Str).map D.str) 0 = some (.str "dup") := rfl
    have e1 := eqs_f (show ¬ ("dup" : Str) = "lock" by decide +kernel) S
    have e2 := eqs_f (show ¬ ("dup" : Str) = "whole" by decide +kernel) S
    have e3 := eqs_t (rfl : ("dup" : Str) = "dup") S
    have r := dupin0_run wf hp hd
    have lv := leave_val wf (d := .tup [.str "dup", .int p, .int d, .non])
    generalize ([("dup" : Str), nt p, nt d] : List Str).map D.str = WS at *
    simp only [RR, DL.isNon, List.replicate_succ, List.replicate_zero, List.set_cons_zero, List.set_cons_succ, List.getElem?_cons_zero, List.getElem?_cons_succ, Option.map_some, Nat.reduceSub, and_self, and_true, true_and, decide_true, decide_false, if_true, if_false, Bool.false_eq_true, Bool.not_true, Bool.not_false, Nat.reduceAdd, Nat.reduceMul, Nat.reduceLeDiff, m_deed_in, b_deed_in, a0, e1, e2, e3, r_callX, s_callX, s_cutX, r, lv]
  | @dup1 p d t hp hd ht =>
    have a0 : atI (([("dup" : Str), nt p, nt d, "to", nt t] : List Str).map D.str) 0 = some (.str "dup") := rfl
    have e1 := eqs_f (show ¬ ("dup" : Str) = "lock" by decide +kernel) S
    have e2 := eqs_f (show ¬ ("dup" : Str) = "whole" by decide +kernel) S
    have e3 := eqs_t (rfl : ("dup" : Str) = "dup") S
    have r := dupin1_run wf hp hd ht
    have lv := leave_val wf (d := .tup [.str "dup", .int p, .int d, .int t])
    generalize ([("dup" : Str), nt p, nt d, "to", nt t] : List Str).map D.str = WS at *
    simp only [RR, DL.isNon, List.replicate_succ, List.replicate_zero, List.set_cons_zero, List.set_cons_succ, List.getElem?_cons_zero, List.getElem?_cons_succ, Option.map_some, Nat.reduceSub, and_self, and_true, true_and, decide_true, decide_false, if_true, if_false, Bool.false_eq_true, Bool.not_true, Bool.not_false, Nat.reduceAdd, Nat.reduceMul, Nat.reduceLeDiff, m_deed_in, b_deed_in, a0, e1, e2, e3, r_callX, s_callX, s_cutX, r, lv]
  | @whole p d l b hp hd hl =>
    have a0 : atI ((([("whole" : Str), nt p, nt d, lvS l] : List Str) ++ wt b).map D.str) 0 = some (.str "whole") := at_k _ 0 rfl
    have e1 := eqs_f (show ¬ ("whole" : Str) = "lock" by decide +kernel) S
    have e2 := eqs_t (rfl : ("whole" : Str) = "whole") S
    have r := wholein_run wf (b := b) hp hd hl
    have lv := leave_val wf (d := .tup [.str "whole", .int p, .int d, .int l, .bl b])
    generalize (([("whole" : Str), nt p, nt d, lvS l] : List Str) ++ wt b).map D.str = WS at *
    simp only [RR, DL.isNon, List.replicate_succ, List.replicate_zero, List.set_cons_zero, List.set_cons_succ, List.getElem?_cons_zero, List.getElem?_cons_succ, Option.map_some, Nat.reduceSub, and_self, and_true, true_and, decide_true, decide_false, if_true, if_false, Bool.false_eq_true, Bool.not_true, Bool.not_false, Nat.reduceAdd, Nat.reduceMul, Nat.reduceLeDiff, m_deed_in, b_deed_in, a0, e1, e2, r_callX, s_callX, s_cutX, r, lv]
  | @lock p d l f e o b hp hd hl hf he =>
    have a0 : atI ((([("lock" : Str), nt p, nt d, lvS l, nt f, enS e] : List Str) ++ (opn o ++ wt b)).map D.str) 0 = some (.str "lock") := at_k _ 0 rfl
    have e1 := eqs_t (rfl : ("lock" : Str) = "lock") S
    have r := lockin_run wf (o := o) (b := b) hp hd hl hf fun i h => by have := he i h; omega
    have lv := leave_val wf (d := .tup [.str "lock", .int p, .int d, .int l, .int f, enD e, .str (whS o), .bl b])
    generalize (([("lock" : Str), nt p, nt d, lvS l, nt f, enS e] : List Str) ++ (opn o ++ wt b)).map D.str = WS at *
    simp only [RR, DL.isNon, List.replicate_succ, List.replicate_zero, List.set_cons_zero, List.set_cons_succ, List.getElem?_cons_zero, List.getElem?_cons_succ, Option.map_some, Nat.reduceSub, and_self, and_true, true_and, decide_true, decide_false, if_true, if_false, Bool.false_eq_true, Bool.not_true, Bool.not_false, Nat.reduceAdd, Nat.reduceMul, Nat.reduceLeDiff, m_deed_in, b_deed_in, a0, e1, r_callX, s_callX, s_cutX, r, lv]
end

theorem sl_new {S : Store} (ds : List D) (l u : Option Int) : slG true (.fr (.lst ds)) l u S = .ok (.cell S.length, S ++ [.lst ((cutA ds l u).map SV.fr)]) := by
  unfold slG
  simp only [rdS, rdL, cut_map, newL0, if_true]
structure Nm (z : Str) : Prop where
  ok : PyData.strOk z = true
  n : nameS z = true
def Ltr (z : Str) : Prop := ∀ c ∈ z.cps.toList, c ∈ ltrs.cps.toList
theorem nm_of {z : Str} (h : PyData.strOk z = true) (h1 : 1 ≤ z.length) (h2 : z.length ≤ 8) (h3 : Ltr z) : Nm z := ⟨h, by
  unfold nameS
  simp only [Bool.and_eq_true, decide_eq_true_eq, List.all_eq_true]
  exact ⟨⟨by omega, by omega⟩, h3⟩⟩
theorem Nm.le {z : Str} (h : Nm z) : z.length ≤ 8 := by
  have := h.n
  unfold nameS at this
  simp only [Bool.and_eq_true, decide_eq_true_eq] at this
  omega
theorem ltr_app {a b : Str} (ha : Ltr a) (hb : Ltr b) : Ltr (a ++ b) := fun c hc => by
  rw [tl_app] at hc
  exact (List.mem_append.mp hc).elim (ha c) (hb c)
theorem ltr_cut {z : Str} (h : Ltr z) (lo hi : Option Int) : Ltr (cutS z lo hi) := fun c hc => by
  unfold cutS at hc
  rw [List.toList_toArray] at hc
  exact h c (List.mem_of_mem_drop (List.mem_of_mem_take hc))
theorem ltr_join {zs : List Str} (h : ∀ z ∈ zs, Ltr z) : Ltr (Txt.join "" zs) := fun c hc => by
  rw [tl_join] at hc
  have e : ("" : Str).cps.toList = [] := by decide +kernel
  rw [e] at hc
  have key : ∀ l : List (List Nat), c ∈ TL.joinL [] l → ∃ x ∈ l, c ∈ x := by
    intro l
    induction l with
    | nil => intro h; cases h
    | cons p r ih =>
      intro h
      cases r with
      | nil => exact ⟨p, List.mem_cons_self, h⟩
      | cons q r =>
        have h : c ∈ p ++ ([] ++ TL.joinL [] (q :: r)) := h
        rcases List.mem_append.mp h with h | h
        · exact ⟨p, List.mem_cons_self, h⟩
        · rw [List.nil_append] at h
          obtain ⟨x, hx, hc⟩ := ih h
          exact ⟨x, List.mem_cons_of_mem _ hx, hc⟩
  obtain ⟨x, hx, hcx⟩ := key _ hc
  obtain ⟨z, hz, rfl⟩ := List.mem_map.mp hx
  exact h z hz c hcx
theorem pt_str {s : Str} (h : PyData.strOk s = true) (hl : s.length ≤ 60) : Pt (.str s) := ⟨(kd_str h hl).y, (fun _ e => by cases e; exact ⟨h, hl⟩), (fun _ e => by cases e)⟩
theorem pt_int {i : Int} (h : i.natAbs < 10 ^ 45) : Pt (.int i) := ⟨(kd_int (by omega)).y, (fun _ e => by cases e), (fun _ e => by cases e; omega)⟩
theorem pt_of {d : D} (h : YOk 60 3 d) (h1 : tStr d = false) (h2 : ∀ i, d ≠ .int i) : Pt d := ⟨h, (fun s e => by subst e; cases h1), (fun i e => absurd e (h2 i))⟩
theorem pt_non : Pt .non := pt_of (y_fit (by simp [fit]) (by simp [py, PyData.bulk]) (by simp [py, PyData.depth])) rfl (fun _ e => by cases e)
theorem pt_bl (b : Bool) : Pt (.bl b) := pt_of (y_fit (by simp [fit]) (by simp [py, PyData.bulk]) (by simp [py, PyData.depth])) rfl (fun _ e => by cases e)
theorem pt_s {s : Str} (h : (PyData.strOk s && decide (s.length ≤ 60)) = true) : Pt (.str s) := by
  rw [Bool.and_eq_true, decide_eq_true_eq] at h
  exact pt_str h.1 h.2
theorem pow12 (S : Store) : powWG (.fr (.int 10)) (.fr (.int 12)) S = .ok (.fr (.int 1000000000000), S) := by
  have h : CPowW 10 12 := by decide +kernel
  have e : (10 : Int) ^ (12 : Int).toNat = 1000000000000 := by decide +kernel
  unfold powWG
  simp only [if_pos h, e]
  rfl
abbrev WL : List Str := ["end", "open", "lock", "wait", "process", "write", "none", "start"]
theorem wl_ok : ∀ z ∈ WL, Nm z := by
  have h : (WL.all fun z => PyData.strOk z && nameS z) = true := by decide +kernel
  intro z hz
  have := List.all_eq_true.mp h z hz
  rw [Bool.and_eq_true] at this
  exact ⟨this.1, this.2⟩
theorem names_run (b : Bag) (hb : b.Ok) (R : Store) (w : WF (b.c :: R)) : ∃ (zs : List Str) (b' : Bag), Bag.Ok b' ∧ WF (b'.c :: R) ∧ (∀ z ∈ zs, Nm z) ∧ zs.length = 3 ∧ m_law_names [.cell 0, .fr (.int 3)] (b.c :: R) = .ok (.new (.lst ((zs.map D.str).map SV.fr)), b'.c :: R) := by
  obtain ⟨v1, b1, l1, u1, k1, w1, e1⟩ := take_run b hb 26 (by decide) (by decide) R w
  obtain ⟨v2, b2, l2, u2, k2, w2, e2⟩ := take_run b1 k1 8 (by decide) (by decide) R w1
  obtain ⟨v3, b3, l3, u3, k3, w3, e3⟩ := take_run b2 k2 4 (by decide) (by decide) R w2
  have cd : (CDiv v1 4 ∨ CDivW v1 4) = True := cdiv_of (by decide) (by decide)
  have lv : ∀ (b : Bag) (w : WF (b.c :: R)) (zs : List Str), leave (b.c :: R).length (.cell (b.c :: R).length) ((b.c :: R) ++ [.lst ((zs.map D.str).map SV.fr)]) = .ok (.new (.lst ((zs.map D.str).map SV.fr)), b.c :: R) := fun b w zs => leave_new w (by simp only [Cell.below]; exact below_map _ _)
  by_cases z3 : v3 = 0
  · obtain ⟨k, hk⟩ : ∃ k : Nat, v1 / 4 = (k : Int) := ⟨(v1 / 4).toNat, by omega⟩
    have hk6 : k ≤ 6 := by omega
    have c1 : cutA (WL.map D.str) (some (v1 / 4)) none = (WL.drop k).map D.str := by rw [hk, cut_fr, List.map_drop]
    have c2 : cutA (WL.map D.str) none (some (v1 / 4)) = (WL.take k).map D.str := by rw [hk, cut_to, List.map_take]
    have ad : addG false (.fr (.lst ((WL.drop k).map D.str))) (.fr (.lst ((WL.take k).map D.str))) (b3.c :: R) = .ok (.fr (.lst ((WL.drop k ++ WL.take k).map D.str)), b3.c :: R) := by
      rw [add_ff false (by simp only [List.length_map, List.length_drop, List.length_take]; have : WL.length = 8 := rfl; omega), if_neg (by decide), List.map_append]
    have sl : slG true (.fr (.lst ((WL.drop k ++ WL.take k).map D.str))) none (some 3) (b3.c :: R) = .ok (.cell (b3.c :: R).length, (b3.c :: R) ++ [.lst ((((WL.drop k ++ WL.take k).take 3).map D.str).map SV.fr)]) := by
      rw [sl_new, show (3 : Int) = ((3 : Nat) : Int) from rfl, cut_to, ← List.map_take]
    refine ⟨(WL.drop k ++ WL.take k).take 3, b3, k3, w3, fun z hz => ?_, ?_, ?_⟩
    · rcases List.mem_append.mp (List.mem_of_mem_take hz) with h | h
      · exact wl_ok z (List.mem_of_mem_drop h)
      · exact wl_ok z (List.mem_of_mem_take h)
    · rw [List.length_take, List.length_append, List.length_drop, List.length_take]
      have : WL.length = 8 := rfl
      omega
    · have lw := lv b3 w3 ((WL.drop k ++ WL.take k).take 3)
      generalize (WL.drop k ++ WL.take k).take 3 = zs at *
      generalize WL.drop k ++ WL.take k = ys at *
      generalize WL.drop k = y1 at *
      generalize WL.take k = y2 at *
      simp only [WL, List.map_cons, List.map_nil] at c1 c2
      simp only [RR, DL.isNon, List.replicate_succ, List.replicate_zero, List.set_cons_zero, List.set_cons_succ, List.getElem?_cons_zero, List.getElem?_cons_succ, Option.map_some, Nat.reduceSub, and_self, and_true, true_and, decide_true, decide_false, if_true, if_false, Bool.false_eq_true, Bool.not_true, Bool.not_false, Nat.reduceAdd, Nat.reduceMul, Nat.reduceLeDiff, m_law_names, b_law_names, take_is, e1, e2, e3, decide_eq_true z3, cd, c1, c2, ad, sl]
      exact lw
  have cm : ∃ acc' S', lcM (fun _ => True) (gNm 9) tTr (DL.e2 ixG (eV 2) (eCall m_law_take false (aC (eV 0) (aC (eC (.int 26)) aN)))) [8, 9] [some (.cell 0), some (.fr (.int 3)), some (.fr (.str "abcdefghijklmnopqrstuvwxyz")), some (.fr (.lst (WL.map D.str))), some (.fr (.int v1)), some (.fr (.int (1 + v2))), none, none, none, none] (rngS 0 (1 + v2).toNat) (b3.c :: R) [] = .ok (acc', S') ∧
      ∃ (b : Bag) (zs : List Str), Bag.Ok b ∧ WF (b.c :: R) ∧ S' = b.c :: R ∧ acc' = (zs.map D.str).map SV.fr ∧ ((∀ z ∈ zs, PyData.strOk z = true ∧ z.length = 1) ∧ ∀ z ∈ zs, Ltr z) ∧ zs.length + ([] : List SV).length = (1 + v2).toNat := by
    refine lc_inv (fun xs acc S => ∃ (b : Bag) (zs : List Str), Bag.Ok b ∧ WF (b.c :: R) ∧ S = b.c :: R ∧ acc = (zs.map D.str).map SV.fr ∧ ((∀ z ∈ zs, PyData.strOk z = true ∧ z.length = 1) ∧ ∀ z ∈ zs, Ltr z) ∧ zs.length + xs.length = (1 + v2).toNat) (fun _ _ _ _ => trivial) (fun x xs acc S h => ?_) _ _ _ ⟨b3, [], k3, w3, rfl, rfl, ⟨(fun _ h => by cases h), (fun _ h => by cases h)⟩, by rw [rng_len, List.length_nil, Nat.zero_add]⟩
    obtain ⟨b, zs, hb, w, rfl, rfl, hz, hl⟩ := h
    obtain ⟨v, b2, q1, q2, k2, w2, et⟩ := take_run b hb 26 (by decide) (by decide) (R ++ [.lst ((zs.map D.str).map SV.fr)]) (wf1 w (by simp only [Cell.below]; exact below_map _ _))
    obtain ⟨m, rfl⟩ : ∃ m : Nat, v = (m : Int) := ⟨v.toNat, by omega⟩
    have ll : ltrs.cps.toList.length = 26 := by decide +kernel
    have hm : m < ltrs.cps.toList.length := by rw [ll]; omega
    have ix := ix_str (z := ltrs) (by decide +kernel) hm (b2.c :: (R ++ [.lst ((zs.map D.str).map SV.fr)]))
    have ok := one_ok (z := ltrs) (by decide +kernel) hm
    have lt := List.getElem_mem hm
    generalize ltrs.cps.toList[m] = c at *
    refine ⟨some (.fr (.str ⟨#[c]⟩)), b2.c :: R, rfl, ?_, ?_⟩
    · show lcT _ _ _ _ _ (b.c :: (R ++ [.lst ((zs.map D.str).map SV.fr)])) = .ok (_, b2.c :: (R ++ [.lst ((zs.map D.str).map SV.fr)]))
      simp only [RR, DL.isNon, List.replicate_succ, List.replicate_zero, List.set_cons_zero, List.set_cons_succ, List.getElem?_cons_zero, List.getElem?_cons_succ, Option.map_some, Nat.reduceSub, and_self, and_true, true_and, decide_true, decide_false, if_true, if_false, Bool.false_eq_true, Bool.not_true, Bool.not_false, Nat.reduceAdd, Nat.reduceMul, Nat.reduceLeDiff, take_is, et, ix]
    · simp only [List.length_cons] at hl
      refine ⟨?_, b2, zs ++ [⟨#[c]⟩], k2, WF.bag w, rfl, by simp, ⟨fun z hz' => ?_, fun z hz' => ?_⟩, by rw [List.length_append, List.length_singleton]; omega⟩
      · have hs := sizeLine_eq
        simp only [List.length_map]
        omega
      · rcases List.mem_append.mp hz' with h | h
        · exact hz.1 z h
        · rw [List.mem_singleton] at h
          subst h
          exact ⟨ok, rfl⟩
      · rcases List.mem_append.mp hz' with h | h
        · exact hz.2 z h
        · rw [List.mem_singleton] at h
          subst h
          intro d hd
          have hd : d ∈ [c] := hd
          rw [List.mem_singleton] at hd
          rw [hd]; exact lt
  obtain ⟨acc', S', ec, b4, zs, k4, w4, rfl, rfl, hz, hl⟩ := cm
  simp only [List.length_nil, Nat.add_zero] at hl
  simp only [take_is] at ec
  obtain ⟨hz, hzl⟩ := hz
  obtain ⟨j1, j2⟩ := join0 zs hz
  have j3 := ltr_join hzl
  have jl := join_lst hz (by omega) (b4.c :: R)
  generalize Txt.join "" zs = t0 at *
  obtain ⟨v5, b5, l5, u5, k5, w5, e5⟩ := take_run b4 k4 (1 + v2) (by omega) (by
    obtain ⟨n, rfl⟩ : ∃ n : Nat, v2 = (n : Int) := ⟨v2.toNat, by omega⟩
    rw [show (1 : Int) + (n : Int) = ((1 + n : Nat) : Int) by omega]
    exact lognat (by omega)) R w4
  obtain ⟨a, rfl⟩ : ∃ a : Nat, v5 = (a : Int) := ⟨v5.toNat, by omega⟩
  have elem : ∀ x : Int, 0 ≤ x → x < 3 → ∃ z : Str, Nm z ∧ ∀ S : Store, lcT (gNm 9) tTr (DL.e2 (addG false) (DL.e2 (addG false) (eSl false (eV 6) pN (pS (eV 7))) (DL.e2 ixG (eV 2) (DL.e2 modG (eA intG (aC (DL.e2 (addG false) (eV 4) (DL.e2 (mulG false) (eC (.int 5)) (eV 9))) aN)) (eC (.int 26))))) (eSl false (eV 6) (pS (DL.e2 (addG false) (eV 7) (eC (.int 1)))) pN)) (.fr (.int x))
      (wipeR [some (.cell 0), some (.fr (.int 3)), some (.fr (.str "abcdefghijklmnopqrstuvwxyz")), some (.fr (.lst (WL.map D.str))), some (.fr (.int v1)), some (.fr (.int (1 + v2))), some (.fr (.str t0)), some (.fr (.int (a : Int))), none, none] [8, 9]) S = .ok (some (.fr (.str z)), S) := fun x x0 x1 => by
    obtain ⟨m, hm⟩ : ∃ m : Nat, (v1 + 5 * x) % 26 = (m : Int) := ⟨((v1 + 5 * x) % 26).toNat, by omega⟩
    have ll : ltrs.cps.toList.length = 26 := by decide +kernel
    have hml : m < ltrs.cps.toList.length := by rw [ll]; omega
    have ok := one_ok (z := ltrs) (by decide +kernel) hml
    have lc : Ltr ⟨#[ltrs.cps.toList[m]]⟩ := fun d hd => by
      have hd : d ∈ [ltrs.cps.toList[m]] := hd
      rw [List.mem_singleton] at hd
      rw [hd]; exact List.getElem_mem hml
    have ix := fun S => ix_str (z := ltrs) (by decide +kernel) hml S
    generalize ltrs.cps.toList[m] = c at *
    have s1 := fun S => slStr (z := t0) (by omega) none (some (a : Int)) S
    have s2 := fun S => slStr (z := t0) (by omega) (some ((a : Int) + 1)) none S
    have lt : (cutS t0 none (some (a : Int))).length = a := len_to t0 a (by omega)
    have lf : (cutS t0 (some ((a : Int) + 1)) none).length = t0.length - (a + 1) := by
      rw [show (a : Int) + 1 = ((a + 1 : Nat) : Int) by omega, len_from t0 (a + 1)]
    have q1 := ltr_cut j3 none (some (a : Int))
    have q2 := ltr_cut j3 (some ((a : Int) + 1)) none
    have o1 := strOk_cut j1 none (some (a : Int))
    have o2 := strOk_cut j1 (some ((a : Int) + 1)) none
    generalize cutS t0 none (some (a : Int)) = p1 at *
    generalize cutS t0 (some ((a : Int) + 1)) none = p2 at *
    have l1 : (⟨#[c]⟩ : Str).length = 1 := rfl
    have ad1 := fun S => adStr (a := p1) (b := ⟨#[c]⟩) (by omega) false S
    have ad2 := fun S => adStr (a := p1 ++ ⟨#[c]⟩) (b := p2) (by rw [len_app]; omega) false S
    refine ⟨p1 ++ ⟨#[c]⟩ ++ p2, nm_of (strOk_app (strOk_app o1 ok) o2) (by rw [len_app, len_app]; omega) (by rw [len_app, len_app]; omega) (ltr_app (ltr_app q1 lc) q2), fun S => ?_⟩
    have cmu : (CMul 5 x ∨ CMulW 5 x) = True := by simp [CMul]
    simp only [RR, DL.isNon, List.replicate_succ, List.replicate_zero, List.set_cons_zero, List.set_cons_succ, List.getElem?_cons_zero, List.getElem?_cons_succ, Option.map_some, Nat.reduceSub, and_self, and_true, true_and, decide_true, decide_false, if_true, if_false, Bool.false_eq_true, Bool.not_true, Bool.not_false, Nat.reduceAdd, Nat.reduceMul, Nat.reduceLeDiff, s1, s2, cmu, hm, if_pos (show (0 : Int) < 26 by decide), ix, ad1, ad2]
  obtain ⟨y0, n0, h0⟩ := elem 0 (by decide) (by decide)
  obtain ⟨y1, n1, h1⟩ := elem 1 (by decide) (by decide)
  obtain ⟨y2, n2, h2⟩ := elem 2 (by decide) (by decide)
  have cm2 : lcM (fun _ => True) (gNm 9) tTr (DL.e2 (addG false) (DL.e2 (addG false) (eSl false (eV 6) pN (pS (eV 7))) (DL.e2 ixG (eV 2) (DL.e2 modG (eA intG (aC (DL.e2 (addG false) (eV 4) (DL.e2 (mulG false) (eC (.int 5)) (eV 9))) aN)) (eC (.int 26))))) (eSl false (eV 6) (pS (DL.e2 (addG false) (eV 7) (eC (.int 1)))) pN)) [8, 9]
      [some (.cell 0), some (.fr (.int 3)), some (.fr (.str "abcdefghijklmnopqrstuvwxyz")), some (.fr (.lst (WL.map D.str))), some (.fr (.int v1)), some (.fr (.int (1 + v2))), some (.fr (.str t0)), some (.fr (.int (a : Int))), none, none] (rngS 0 3) (b5.c :: R) [] = .ok ((([y0, y1, y2] : List Str).map D.str).map SV.fr, b5.c :: R) := by
    have sz := sizeLine_eq
    show lcM _ _ _ _ _ _ [.fr (.int 0), .fr (.int 1), .fr (.int 2)] (b5.c :: R) [] = _
    rw [lc_some (acc := []) (S1 := b5.c :: R) trivial (by simp only [List.length_nil]; omega) rfl (h0 _), List.nil_append,
      lc_some (acc := [.fr (.str y0)]) (S1 := b5.c :: R) trivial (by simp only [List.length_cons, List.length_nil]; omega) rfl (h1 _), List.singleton_append,
      lc_some (acc := [.fr (.str y0), .fr (.str y1)]) (S1 := b5.c :: R) trivial (by simp only [List.length_cons, List.length_nil]; omega) rfl (h2 _), lc_nil trivial]
    rfl
  refine ⟨[y0, y1, y2], b5, k5, w5, ?_, rfl, ?_⟩
  · simp only [List.forall_mem_cons]
    exact ⟨n0, n1, n2, fun _ h => (by cases h)⟩
  · have lw := lv b5 w5 [y0, y1, y2]
    generalize ([y0, y1, y2] : List Str) = ys at *
    have ty : ∀ S : Store, tyS "str" S (.fr (.str "")) = true := fun _ => rfl
    simp only [WL, List.map_cons, List.map_nil] at ec cm2
    simp only [RR, DL.isNon, List.replicate_succ, List.replicate_zero, List.set_cons_zero, List.set_cons_succ, List.getElem?_cons_zero, List.getElem?_cons_succ, Option.map_some, Nat.reduceSub, and_self, and_true, true_and, decide_true, decide_false, if_true, if_false, Bool.false_eq_true, Bool.not_true, Bool.not_false, Nat.reduceAdd, Nat.reduceMul, Nat.reduceLeDiff, m_law_names, b_law_names, take_is, e1, e2, e3, decide_eq_false z3, s_r1 (show -(2 ^ 62) ≤ 1 + v2 ∧ 1 + v2 < 2 ^ 62 by omega), ec, s_lceF w4, s_mt _ (ty _), jl, e5, s_r1 (j := 3) (by decide), show (3 : Int).toNat = 3 from rfl, cm2, s_lceC]
    exact lw

structure Wd (x : Str) : Prop where
  sp : 32 ∉ x.cps.toList
  ok : PyData.strOk x = true
  le : x.length ≤ 60
theorem wd_c {x : Str} (h : (!(x.cps.toList.contains 32) && (PyData.strOk x && decide (x.length ≤ 60))) = true) : Wd x := by
  simp only [Bool.and_eq_true, decide_eq_true_eq, Bool.not_eq_true'] at h
  exact ⟨by simpa using h.1, h.2.1, h.2.2⟩
theorem wd_nt {i : Int} (h : 0 ≤ i ∧ i < M50) : Wd (nt i) := by
  have n : Num i := ⟨h.1, h.2⟩
  obtain ⟨m, rfl, hm⟩ := n.nat
  exact ⟨fun hc => by have := nt_digits m 32 hc; omega, n.ok, Nat.le_trans n.len (by decide)⟩
theorem wd_lv (l : Int) : Wd (lvS l) := by
  unfold lvS
  split
  · exact wd_c (by decide +kernel)
  split
  · exact wd_c (by decide +kernel)
  · exact wd_c (by decide +kernel)
theorem ltr_range {c : Nat} (h : c ∈ ltrs.cps.toList) : 97 ≤ c ∧ c ≤ 122 := by
  have e : ltrs.cps.toList = [97, 98, 99, 100, 101, 102, 103, 104, 105, 106, 107, 108, 109, 110, 111, 112, 113, 114, 115, 116, 117, 118, 119, 120, 121, 122] := by decide +kernel
  rw [e] at h
  simp only [List.mem_cons, List.not_mem_nil, or_false] at h
  omega
theorem wd_name {f : Str} (h : nameS f = true) : Wd f := by
  unfold nameS at h
  simp only [Bool.and_eq_true, decide_eq_true_eq, List.all_eq_true] at h
  refine ⟨fun hc => by have := ltr_range (h.2 _ hc); omega, ?_, by omega⟩
  unfold PyData.strOk
  rw [← Array.all_toList, List.all_eq_true]
  intro c hc
  have := ltr_range (h.2 c hc)
  exact decide_eq_true (by omega)
theorem wd_en {e : Option Int} (h : ∀ i, e = some i → 0 ≤ i ∧ i < M50) : Wd (enS e) := by
  cases e with
  | none => exact wd_c (by decide +kernel)
  | some i => exact wd_nt (h i rfl)
theorem d15 {d : Int} (h : 0 ≤ d ∧ d ≤ 15) : 0 ≤ d ∧ d < M50 := ⟨h.1, by unfold M50; omega⟩
theorem Dt.words {w : Str} {qs : List D} {ws : List Str} (h : Dt M50 w qs ws) : (∀ x ∈ ws, Wd x) ∧ ws ≠ [] ∧ ws.length ≤ 8 := by
  have tl : ∀ o b : Bool, ∀ x ∈ opn o ++ wt b, Wd x := fun o b x hx => by
    rcases List.mem_append.mp hx with hx | hx
    · cases o
      · cases hx
      · rw [show opn true = [("open" : Str)] from rfl, List.mem_singleton] at hx
        subst hx
        exact wd_c (by decide +kernel)
    · cases b
      · cases hx
      · rw [show wt true = [("wait" : Str)] from rfl, List.mem_singleton] at hx
        subst hx
        exact wd_c (by decide +kernel)
  have nil : ∀ x ∈ ([] : List Str), Wd x := fun _ h => by cases h
  have cn : ∀ {a : Str} {l : List Str}, Wd a → (∀ x ∈ l, Wd x) → ∀ x ∈ a :: l, Wd x := fun ha hl x hx => (List.mem_cons.mp hx).elim (fun e => e ▸ ha) (hl x)
  cases h with
  | st => exact ⟨cn (wd_c (by decide +kernel)) nil, by simp, by simp⟩
  | one hw hp =>
    refine ⟨cn ?_ (cn (wd_nt hp) nil), by simp, by simp⟩
    rcases hw with rfl | rfl
    · exact wd_c (by decide +kernel)
    · exact wd_c (by decide +kernel)
  | give hp => exact ⟨cn (wd_c (by decide +kernel)) (cn (wd_c (by decide +kernel)) (cn (wd_nt hp) nil)), by simp, by simp⟩
  | op hp hf => exact ⟨cn (wd_c (by decide +kernel)) (cn (wd_nt hp) (cn (wd_name hf) nil)), by simp, by simp⟩
  | close hp hd => exact ⟨cn (wd_c (by decide +kernel)) (cn (wd_nt hp) (cn (wd_nt (d15 hd)) nil)), by simp, by simp⟩
  | dup0 hp hd => exact ⟨cn (wd_c (by decide +kernel)) (cn (wd_nt hp) (cn (wd_nt (d15 hd)) nil)), by simp, by simp⟩
  | dup1 hp hd ht => exact ⟨cn (wd_c (by decide +kernel)) (cn (wd_nt hp) (cn (wd_nt (d15 hd)) (cn (wd_c (by decide +kernel)) (cn (wd_nt (d15 ht)) nil)))), by simp, by simp⟩
  | @whole p d l b hp hd hl =>
    refine ⟨cn (wd_c (by decide +kernel)) (cn (wd_nt hp) (cn (wd_nt (d15 hd)) (cn (wd_lv l) (fun x hx => tl false b x hx)))), by simp, ?_⟩
    have := wt_len b
    simp only [List.length_append, List.length_cons, List.length_nil]
    omega
  | @lock p d l f e o b hp hd hl hf he =>
    refine ⟨cn (wd_c (by decide +kernel)) (cn (wd_nt hp) (cn (wd_nt (d15 hd)) (cn (wd_lv l) (cn (wd_nt hf) (cn (wd_en fun i h => by have := he i h; omega) (tl o b)))))), by simp, ?_⟩
    have := tail_len o b
    simp only [List.length_append, List.length_cons, List.length_nil] at this ⊢
    omega
theorem joinL_all {P : Nat → Prop} {y : List Nat} (hy : ∀ c ∈ y, P c) : ∀ l : List (List Nat), (∀ x ∈ l, ∀ c ∈ x, P c) → ∀ c ∈ TL.joinL y l, P c
  | [], _, c, h => by cases h
  | [p], hl, c, h => hl p List.mem_cons_self c h
  | p :: q :: r, hl, c, h => by
    have h : c ∈ p ++ (y ++ TL.joinL y (q :: r)) := h
    rcases List.mem_append.mp h with h | h
    · exact hl p List.mem_cons_self c h
    · rcases List.mem_append.mp h with h | h
      · exact hy c h
      · exact joinL_all hy (q :: r) (fun x hx => hl x (List.mem_cons_of_mem _ hx)) c h
theorem joinL_len (y : List Nat) : ∀ (l : List (List Nat)) (k : Nat), (∀ x ∈ l, x.length ≤ k) → (TL.joinL y l).length ≤ (k + y.length) * l.length
  | [], _, _ => Nat.zero_le _
  | [p], k, hl => by
    have := hl p List.mem_cons_self
    show p.length ≤ (k + y.length) * 1
    omega
  | p :: q :: r, k, hl => by
    have h1 := hl p List.mem_cons_self
    have h2 := joinL_len y (q :: r) k fun x hx => hl x (List.mem_cons_of_mem _ hx)
    show (p ++ (y ++ TL.joinL y (q :: r))).length ≤ (k + y.length) * ((q :: r).length + 1)
    rw [List.length_append, List.length_append, Nat.mul_add, Nat.mul_one]
    omega
theorem sp_tl : (" " : Str).cps.toList = [32] := by decide +kernel
theorem text_len {ws : List Str} (h : ∀ x ∈ ws, Wd x) (hl : ws.length ≤ 8) : (Txt.join " " ws).length ≤ 488 := by
  rw [← len_tl, tl_join]
  have := joinL_len (" " : Str).cps.toList (ws.map (·.cps.toList)) 60 fun x hx => by
    obtain ⟨z, hz, rfl⟩ := List.mem_map.mp hx
    rw [len_tl]
    exact (h z hz).le
  rw [sp_tl] at this ⊢
  rw [List.length_map] at this
  have h2 : (60 + 1) * ws.length ≤ 61 * 8 := Nat.mul_le_mul_left _ hl
  exact Nat.le_trans this h2
theorem text_ok {ws : List Str} (h : ∀ x ∈ ws, Wd x) : PyData.strOk (Txt.join " " ws) = true := by
  unfold PyData.strOk
  rw [← Array.all_toList, List.all_eq_true]
  intro c hc
  rw [tl_join] at hc
  refine joinL_all (P := fun c => decide (c < 1114112) = true) (by decide +kernel) _ (fun x hx c hc => ?_) c hc
  obtain ⟨z, hz, rfl⟩ := List.mem_map.mp hx
  have := (h z hz).ok
  unfold PyData.strOk at this
  rw [← Array.all_toList, List.all_eq_true] at this
  exact this c hc
theorem text_split {ws : List Str} (h : ∀ x ∈ ws, Wd x) (hn : ws ≠ []) (hl : ws.length ≤ 8) (S : Store) : splitG (.fr (.str (Txt.join " " ws))) [.fr (.str " ")] S = .ok (.fr (.lst (ws.map D.str)), S) := by
  have e : Txt.split (Txt.join " " ws) " " = ws := TL.split_join (s := 32) (S := []) sp_tl (by decide +kernel) hn fun p hp => (h p hp).sp
  have := text_len h hl
  unfold splitG
  simp only
  rw [if_pos ⟨by decide +kernel, by rw [sizeLine_eq]; omega⟩, e]
  have e2 : (ws.map fun y => SV.fr (.str y)) = (ws.map D.str).map SV.fr := by rw [List.map_map]; rfl
  rw [e2]
  unfold newL0
  rw [if_neg (by decide), allFr_map]
theorem Dt.good {w : Str} {qs : List D} {ws : List Str} (h : Dt M40 w qs ws) : deedB w qs = true ∧ ∀ d ∈ qs, Pt d := by
  have n5 : ∀ {i : Int}, 0 ≤ i ∧ i < M40 → Pt (.int i) := fun {i} h => pt_int (by unfold M40 at h; omega)
  have n15 : ∀ {i : Int}, 0 ≤ i ∧ i ≤ 15 → Pt (.int i) := fun {i} h => pt_int (by omega)
  have b1 : ∀ {i : Int}, 0 ≤ i ∧ i < M40 → byteB (.int i) = true := fun {i} h => decide_eq_true h.1
  have b2 : ∀ {i : Int}, 0 ≤ i ∧ i ≤ 15 → numB 15 (.int i) = true := fun {i} h => by
    show (decide (0 ≤ i) && decide (i ≤ 15)) = true
    rw [decide_eq_true h.1, decide_eq_true h.2]; rfl
  have b3 : ∀ {i : Int}, 0 ≤ i ∧ i ≤ 2 → levB (.int i) = true := fun {i} h => by
    rw [numB_lev]
    show (decide (0 ≤ i) && decide (i ≤ 2)) = true
    rw [decide_eq_true h.1, decide_eq_true h.2]; rfl
  have al0 : ∀ d ∈ ([] : List D), Pt d := fun _ h => by cases h
  have cn : ∀ {a : D} {l : List D}, Pt a → (∀ x ∈ l, Pt x) → ∀ x ∈ a :: l, Pt x := fun ha hl x hx => (List.mem_cons.mp hx).elim (fun e => e ▸ ha) (hl x)
  have kp : ∀ d, kindB ⟨#[112]⟩ d = byteB d := fun d => if_pos (by decide +kernel)
  have kf : ∀ d, kindB ⟨#[102]⟩ d = nameB d := fun d => by unfold kindB; rw [if_neg (by decide +kernel), if_pos (by decide +kernel)]
  have kd : ∀ d, kindB ⟨#[100]⟩ d = numB 15 d := fun d => by unfold kindB; rw [if_neg (by decide +kernel), if_neg (by decide +kernel), if_pos (by decide +kernel)]
  have kt : ∀ d, kindB ⟨#[116]⟩ d = (nonB d || numB 15 d) := fun d => by unfold kindB; rw [if_neg (by decide +kernel), if_neg (by decide +kernel), if_neg (by decide +kernel), if_pos (by decide +kernel)]
  have kl : ∀ d, kindB ⟨#[108]⟩ d = levB d := fun d => by unfold kindB; rw [if_neg (by decide +kernel), if_neg (by decide +kernel), if_neg (by decide +kernel), if_neg (by decide +kernel), if_pos (by decide +kernel)]
  have kw : ∀ d, kindB ⟨#[119]⟩ d = tBl d := fun d => by unfold kindB; rw [if_neg (by decide +kernel), if_neg (by decide +kernel), if_neg (by decide +kernel), if_neg (by decide +kernel), if_neg (by decide +kernel)]
  have key : ∀ {w : Str} {qs : List D} (k : Str) (cs : List Nat), lookS PT w = some k → k.cps.toList = cs → qs.length = cs.length → w ≠ "lock" → ((cs.zip qs).all fun q => kindB ⟨#[q.1]⟩ q.2) = true → deedB w qs = true := fun {w qs} k cs h1 h2 h3 h4 h5 => by
    unfold deedB
    rw [h1]
    dsimp only
    rw [if_pos (by rw [h3, ← h2, len_tl]), if_neg h4]
    unfold zipB
    rw [h2]
    exact h5
  cases h with
  | st => exact ⟨by decide +kernel, al0⟩
  | one hw hp =>
    refine ⟨?_, cn (n5 hp) al0⟩
    rcases hw with rfl | rfl
    · exact key "p" [112] (by decide +kernel) (by decide +kernel) rfl (by decide +kernel) (by simp only [List.zip_cons_cons, List.zip_nil_left, List.all_cons, List.all_nil, kp, b1 hp, Bool.and_true])
    · exact key "p" [112] (by decide +kernel) (by decide +kernel) rfl (by decide +kernel) (by simp only [List.zip_cons_cons, List.zip_nil_left, List.all_cons, List.all_nil, kp, b1 hp, Bool.and_true])
  | give hp => exact ⟨key "p" [112] (by decide +kernel) (by decide +kernel) rfl (by decide +kernel) (by simp only [List.zip_cons_cons, List.zip_nil_left, List.all_cons, List.all_nil, kp, b1 hp, Bool.and_true]), cn (n5 hp) al0⟩
  | @op p f hp hf => exact ⟨key "pf" [112, 102] (by decide +kernel) (by decide +kernel) rfl (by decide +kernel) (by simp only [List.zip_cons_cons, List.zip_nil_left, List.all_cons, List.all_nil, kp, kf, b1 hp, nameB, hf, Bool.and_true]), cn (n5 hp) (cn (pt_str (wd_name hf).ok (wd_name hf).le) al0)⟩
  | close hp hd => exact ⟨key "pd" [112, 100] (by decide +kernel) (by decide +kernel) rfl (by decide +kernel) (by simp only [List.zip_cons_cons, List.zip_nil_left, List.all_cons, List.all_nil, kp, kd, b1 hp, b2 hd, Bool.and_true]), cn (n5 hp) (cn (n15 hd) al0)⟩
  | dup0 hp hd => exact ⟨key "pdt" [112, 100, 116] (by decide +kernel) (by decide +kernel) rfl (by decide +kernel) (by simp only [List.zip_cons_cons, List.zip_nil_left, List.all_cons, List.all_nil, kp, kd, kt, b1 hp, b2 hd, nonB, Bool.true_or, Bool.and_true]), cn (n5 hp) (cn (n15 hd) (cn pt_non al0))⟩
  | dup1 hp hd ht => exact ⟨key "pdt" [112, 100, 116] (by decide +kernel) (by decide +kernel) rfl (by decide +kernel) (by simp only [List.zip_cons_cons, List.zip_nil_left, List.all_cons, List.all_nil, kp, kd, kt, b1 hp, b2 hd, b2 ht, Bool.or_true, Bool.and_true]), cn (n5 hp) (cn (n15 hd) (cn (n15 ht) al0))⟩
  | @whole p d l b hp hd hl => exact ⟨key "pdlw" [112, 100, 108, 119] (by decide +kernel) (by decide +kernel) rfl (by decide +kernel) (by simp only [List.zip_cons_cons, List.zip_nil_left, List.all_cons, List.all_nil, kp, kd, kl, kw, b1 hp, b2 hd, b3 hl, tBl, Bool.and_true]), cn (n5 hp) (cn (n15 hd) (cn (n15 (by omega)) (cn (pt_bl b) al0)))⟩
  | @lock p d l f e o b hp hd hl hf he =>
    constructor
    · have h1 : lookS PT "lock" = some ("pdlseow" : Str) := by decide +kernel
      have e2 : endB (.int f) (enD e) = true := by
        cases e with
        | none => rfl
        | some i =>
          have := he i rfl
          show endB (.int f) (.int i) = true
          rw [endB_yes (by omega)]
          exact decide_eq_true this.1
      have e3 : ownW (.str (whS o)) = true := by cases o <;> decide +kernel
      unfold deedB
      rw [h1]
      try dsimp only
      have l7 : (1 + ([D.int p, .int d, .int l, .int f, enD e, .str (whS o), .bl b].length : Nat) : Int) = 1 + (("pdlseow" : Str).length : Nat) := by
        have e7 : ("pdlseow" : Str).length = 7 := by decide +kernel
        rw [e7]
        rfl
      rw [if_pos l7, if_pos rfl]
      show (byteB (.int p) && (numB 15 (.int d) && (levB (.int l) && ((byteB (.int f) && endB (.int f) (enD e)) && (ownW (.str (whS o)) && tBl (.bl b)))))) = true
      rw [b1 hp, b2 hd, b3 hl, b1 hf, e2, e3]
      rfl
    · refine cn (n5 hp) (cn (n15 hd) (cn (n15 (by omega)) (cn (n5 hf) (cn ?_ (cn ?_ (cn (pt_bl b) al0))))))
      · cases e with
        | none => exact pt_non
        | some i =>
          have := he i rfl
          exact n5 (by omega)
      · cases o
        · exact pt_s (by decide +kernel)
        · exact pt_s (by decide +kernel)
section
variable {S : Store} (wf : WF S)
include wf
theorem read_run {w : Str} {qs : List D} {ws : List Str} (h : Dt M40 w qs ws) : m_read_deed [.fr (.str (Txt.join " " ws))] S = .ok (.val (.fr (.tup (.str w :: qs))), S) := by
  have hm := h.mono (M' := M50) (by decide)
  obtain ⟨h1, h2, h3⟩ := hm.words
  obtain ⟨g1, g2⟩ := h.good
  have is1 : isiG [.fr (.str (Txt.join " " ws)), .fr (.ty "str")] S = .ok (.fr (.bl true), S) := rfl
  have sp := text_split h1 h2 h3 S
  have di := deedin_run wf h
  have dx := deed_x wf (w := w) g2
  rw [g1] at dx
  have sh := (both_text wf hm).1
  have ty : tyS "str" S (.fr (.str (Txt.join " " ws))) = true := rfl
  have en := eq_str true (Txt.join " " ws) (Txt.join " " ws) S
  rw [if_pos rfl, decide_eq_true rfl, Bool.not_true] at en
  have lv := leave_val wf (d := .tup (.str w :: qs))
  generalize Txt.join " " ws = Z at *
  generalize ws.map D.str = WS at *
  simp only [RR, DL.isNon, List.replicate_succ, List.replicate_zero, List.set_cons_zero, List.set_cons_succ, List.getElem?_cons_zero, List.getElem?_cons_succ, Option.map_some, Nat.reduceSub, and_self, and_true, true_and, decide_true, decide_false, if_true, if_false, Bool.false_eq_true, Bool.not_true, Bool.not_false, Nat.reduceAdd, Nat.reduceMul, Nat.reduceLeDiff, m_read_deed, b_read_deed, is1, s_mt _ ty, sp, r_callX, s_callX, s_cutX, di, dx, sh, en, lv]
end

theorem pick {P : D → Prop} {L : List D} (h : ∀ d ∈ L, P d) {v : Int} (h0 : 0 ≤ v) (h1 : v < L.length) : ∃ d, P d ∧ atI L v = some d := by
  obtain ⟨m, rfl⟩ : ∃ m : Nat, v = (m : Int) := ⟨v.toNat, by omega⟩
  have lt : m < L.length := by omega
  exact ⟨L[m], h _ (List.getElem_mem lt), by rw [DL.atI_nat, List.getElem?_eq_getElem lt]⟩
theorem pickI {P : Int → Prop} {L : List Int} (h : ∀ i ∈ L, P i) {v : Int} (h0 : 0 ≤ v) (h1 : v < L.length) : ∃ i : Int, P i ∧ atI (L.map D.int) v = some (.int i) := by
  obtain ⟨m, rfl⟩ : ∃ m : Nat, v = (m : Int) := ⟨v.toNat, by omega⟩
  have lt : m < L.length := by omega
  exact ⟨L[m], h _ (List.getElem_mem lt), by rw [DL.atI_nat, List.getElem?_map, List.getElem?_eq_getElem lt]; rfl⟩
abbrev M13 : Int := 10000000000000
def IsDt (M : Int) (d : D) : Prop := ∃ w qs ws, d = .tup (.str w :: qs) ∧ Dt M w qs ws
theorem mdeed_run (b : Bag) (hb : b.Ok) (R : Store) (w : WF (b.c :: R)) {zs : List Str} (hf : ∀ z ∈ zs, Nm z) (hl : zs.length = 3) : ∃ (d : D) (b' : Bag), Bag.Ok b' ∧ WF (b'.c :: R) ∧ IsDt M13 d ∧
    m_law_deed [.cell 0, .fr (.lst (zs.map D.str))] (b.c :: R) = .ok (.val (.fr d), b'.c :: R) := by
  obtain ⟨v1, b1, l1, u1, k1, w1, e1⟩ := take_run b hb 4 (by decide) (by decide) R w
  obtain ⟨v2, b2, l2, u2, k2, w2, e2⟩ := take_run b1 k1 3 (by decide) (by decide) R w1
  obtain ⟨v3, b3, l3, u3, k3, w3, e3⟩ := take_run b2 k2 3 (by decide) (by decide) R w2
  obtain ⟨v4, b4, l4, u4, k4, w4, e4⟩ := take_run b3 k3 14 (by decide) (by decide) R w3
  obtain ⟨v5, b5, l5, u5, k5, w5, e5⟩ := take_run b4 k4 3 (by decide) (by decide) R w4
  obtain ⟨v6, b6, l6, u6, k6, w6, e6⟩ := take_run b5 k5 4 (by decide) (by decide) R w5
  have hl2 : (zs.map D.str).length = 3 := by rw [List.length_map, hl]
  have ln : ∀ S : Store, lenG [.fr (.lst (zs.map D.str))] S = .ok (.fr (.int 3), S) := fun S => by
    rw [r_lenF, hl2]
    rfl
  have hl' : ((zs.map D.str).length : Int) = 3 := by omega
  obtain ⟨fd, ⟨f, rfl, hfp⟩, af⟩ := pick (P := fun d => ∃ f, d = .str f ∧ nameS f = true) (L := zs.map D.str) (fun d hd => by
    obtain ⟨z, hz, rfl⟩ := List.mem_map.mp hd
    exact ⟨z, rfl, (hf z hz).n⟩) (v := v3) l3 (by omega)
  obtain ⟨F, ⟨hF0, hF1⟩, aF⟩ := pickI (P := fun i => 0 ≤ i ∧ i ≤ 1000000000000) (L := [0, 1, 3, 1000000000000]) (by decide) (v := v6) l6 (by have : ([0, 1, 3, 1000000000000] : List Int).length = 4 := rfl; omega)
  simp only [List.map_cons, List.map_nil] at aF
  have p1 : 0 ≤ v1 ∧ v1 < M13 := ⟨l1, by unfold M13; omega⟩
  have p2 : 0 ≤ v2 ∧ v2 ≤ 15 := ⟨l2, by omega⟩
  have p5 : 0 ≤ v5 ∧ v5 ≤ 2 := ⟨l5, by omega⟩
  have pF : 0 ≤ F ∧ F < M13 := ⟨hF0, by unfold M13; omega⟩
  generalize zs.map D.str = fs at *
  by_cases z4 : v4 < 4
  · obtain ⟨x, hx, ax⟩ := pick (P := IsDt M13) (L := [.tup [.str "start"], .tup [.str "fork", .int v1], .tup [.str "end", .int v1], .tup [.str "give up", .int v1]]) (by
      intro d hd
      simp only [List.mem_cons, List.not_mem_nil, or_false] at hd
      rcases hd with rfl | rfl | rfl | rfl
      · exact ⟨_, _, _, rfl, .st⟩
      · exact ⟨_, _, _, rfl, .one (.inl rfl) p1⟩
      · exact ⟨_, _, _, rfl, .one (.inr rfl) p1⟩
      · exact ⟨_, _, _, rfl, .give p1⟩) (v := v4) l4 (by simp only [List.length_cons, List.length_nil]; omega)
    have lv := leave_val w6 (d := x)
    refine ⟨x, b6, k6, w6, hx, ?_⟩
    simp only [RR, DL.isNon, List.replicate_succ, List.replicate_zero, List.set_cons_zero, List.set_cons_succ, List.getElem?_cons_zero, List.getElem?_cons_succ, Option.map_some, Nat.reduceSub, and_self, and_true, true_and, decide_true, decide_false, if_true, if_false, Bool.false_eq_true, Bool.not_true, Bool.not_false, Nat.reduceAdd, Nat.reduceMul, Nat.reduceLeDiff, m_law_deed, b_law_deed, take_is, e1, e2, ln, hl', e3, af, e4, e5, pow12, e6, aF, decide_eq_true z4, ax]
    exact lv
  by_cases z6 : v4 < 6
  · have lv := leave_val w6 (d := .tup [.str "open", .int v1, .str f])
    refine ⟨_, b6, k6, w6, ⟨_, _, _, rfl, .op p1 hfp⟩, ?_⟩
    simp only [RR, DL.isNon, List.replicate_succ, List.replicate_zero, List.set_cons_zero, List.set_cons_succ, List.getElem?_cons_zero, List.getElem?_cons_succ, Option.map_some, Nat.reduceSub, and_self, and_true, true_and, decide_true, decide_false, if_true, if_false, Bool.false_eq_true, Bool.not_true, Bool.not_false, Nat.reduceAdd, Nat.reduceMul, Nat.reduceLeDiff, m_law_deed, b_law_deed, take_is, e1, e2, ln, hl', e3, af, e4, e5, pow12, e6, aF, decide_eq_false z4, decide_eq_true z6]
    exact lv
  by_cases z7 : v4 = 6
  · obtain ⟨v7, b7, l7, u7, k7, w7, e7⟩ := take_run b6 k6 3 (by decide) (by decide) R w6
    obtain ⟨v8, b8, l8, u8, k8, w8, e8⟩ := take_run b7 k7 3 (by decide) (by decide) R w7
    obtain ⟨x, hx, ax⟩ := pick (P := fun x => IsDt M13 (.tup [.str "dup", .int v1, .int v2, x])) (L := [.non, .int v7, .int 15]) (by
      intro d hd
      simp only [List.mem_cons, List.not_mem_nil, or_false] at hd
      rcases hd with rfl | rfl | rfl
      · exact ⟨_, _, _, rfl, .dup0 p1 p2⟩
      · exact ⟨_, _, _, rfl, .dup1 p1 p2 ⟨l7, by omega⟩⟩
      · exact ⟨_, _, _, rfl, .dup1 p1 p2 (by decide)⟩) (v := v8) l8 (by simp only [List.length_cons, List.length_nil]; omega)
    have lv := leave_val w8 (d := .tup [.str "dup", .int v1, .int v2, x])
    refine ⟨_, b8, k8, w8, hx, ?_⟩
    simp only [RR, DL.isNon, List.replicate_succ, List.replicate_zero, List.set_cons_zero, List.set_cons_succ, List.getElem?_cons_zero, List.getElem?_cons_succ, Option.map_some, Nat.reduceSub, and_self, and_true, true_and, decide_true, decide_false, if_true, if_false, Bool.false_eq_true, Bool.not_true, Bool.not_false, Nat.reduceAdd, Nat.reduceMul, Nat.reduceLeDiff, m_law_deed, b_law_deed, take_is, e1, e2, ln, hl', e3, af, e4, e5, pow12, e6, aF, decide_eq_false z4, decide_eq_false z6, decide_eq_true z7, e7, e8, ax]
    exact lv
  by_cases z8 : v4 = 7
  · have lv := leave_val w6 (d := .tup [.str "close", .int v1, .int v2])
    refine ⟨_, b6, k6, w6, ⟨_, _, _, rfl, .close p1 p2⟩, ?_⟩
    simp only [RR, DL.isNon, List.replicate_succ, List.replicate_zero, List.set_cons_zero, List.set_cons_succ, List.getElem?_cons_zero, List.getElem?_cons_succ, Option.map_some, Nat.reduceSub, and_self, and_true, true_and, decide_true, decide_false, if_true, if_false, Bool.false_eq_true, Bool.not_true, Bool.not_false, Nat.reduceAdd, Nat.reduceMul, Nat.reduceLeDiff, m_law_deed, b_law_deed, take_is, e1, e2, ln, hl', e3, af, e4, e5, pow12, e6, aF, decide_eq_false z4, decide_eq_false z6, decide_eq_false z7, decide_eq_true z8]
    exact lv
  obtain ⟨v7, b7, l7, u7, k7, w7, e7⟩ := take_run b6 k6 2 (by decide) (by decide) R w6
  generalize hbw : decide (v7 = 0) = bw
  by_cases z9 : v4 = 8
  · have lv := leave_val w7 (d := .tup [.str "whole", .int v1, .int v2, .int v5, .bl bw])
    refine ⟨_, b7, k7, w7, ⟨_, _, _, rfl, .whole (b := bw) p1 p2 p5⟩, ?_⟩
    simp only [RR, DL.isNon, List.replicate_succ, List.replicate_zero, List.set_cons_zero, List.set_cons_succ, List.getElem?_cons_zero, List.getElem?_cons_succ, Option.map_some, Nat.reduceSub, and_self, and_true, true_and, decide_true, decide_false, if_true, if_false, Bool.false_eq_true, Bool.not_true, Bool.not_false, Nat.reduceAdd, Nat.reduceMul, Nat.reduceLeDiff, m_law_deed, b_law_deed, take_is, e1, e2, ln, hl', e3, af, e4, e5, pow12, e6, aF, decide_eq_false z4, decide_eq_false z6, decide_eq_false z7, decide_eq_false z8, e7, hbw, decide_eq_true z9]
    exact lv
  obtain ⟨v8, b8, l8, u8, k8, w8, e8⟩ := take_run b7 k7 4 (by decide) (by decide) R w7
  obtain ⟨v9, b9, l9, u9, k9, w9, e9⟩ := take_run b8 k8 3 (by decide) (by decide) R w8
  obtain ⟨vA, bA, lA, uA, kA, wA, eA⟩ := take_run b9 k9 3 (by decide) (by decide) R w9
  obtain ⟨x, ⟨e, rfl, he⟩, ax⟩ := pick (P := fun x => ∃ e, x = enD e ∧ ∀ i, e = some i → F ≤ i ∧ i < M13) (L := [.int F, .int (F + v8), .non]) (by
    intro d hd
    simp only [List.mem_cons, List.not_mem_nil, or_false] at hd
    rcases hd with rfl | rfl | rfl
    · exact ⟨some F, rfl, fun i h => by cases h; exact ⟨Int.le_refl _, pF.2⟩⟩
    · exact ⟨some (F + v8), rfl, fun i h => by cases h; exact ⟨by omega, by unfold M13; omega⟩⟩
    · exact ⟨none, rfl, fun i h => by cases h⟩) (v := v9) l9 (by simp only [List.length_cons, List.length_nil]; omega)
  have ay : atI [D.str "process", .str "open"] (if decide (vA = 0) = true then 1 else 0) = some (.str (whS (decide (vA = 0)))) := by
    by_cases q : vA = 0
    · rw [decide_eq_true q, if_pos rfl]
      rfl
    · rw [decide_eq_false q, if_neg (by decide)]
      rfl
  generalize hbA : decide (vA = 0) = bA' at *
  have lv := leave_val wA (d := .tup [.str "lock", .int v1, .int v2, .int v5, .int F, enD e, .str (whS bA'), .bl bw])
  refine ⟨_, bA, kA, wA, ⟨_, _, _, rfl, .lock (e := e) (o := bA') (b := bw) p1 p2 p5 pF he⟩, ?_⟩
  have it : ∀ S : Store, intG [.fr (.bl bA')] S = .ok (.fr (.int (if bA' = true then 1 else 0)), S) := fun _ => rfl
  generalize enD e = E at *
  generalize whS bA' = WB at *
  simp only [RR, DL.isNon, List.replicate_succ, List.replicate_zero, List.set_cons_zero, List.set_cons_succ, List.getElem?_cons_zero, List.getElem?_cons_succ, Option.map_some, Nat.reduceSub, and_self, and_true, true_and, decide_true, decide_false, if_true, if_false, Bool.false_eq_true, Bool.not_true, Bool.not_false, Nat.reduceAdd, Nat.reduceMul, Nat.reduceLeDiff, m_law_deed, b_law_deed, take_is, e1, e2, ln, hl', e3, af, e4, e5, pow12, e6, aF, decide_eq_false z4, decide_eq_false z6, decide_eq_false z7, decide_eq_false z8, e7, hbw, decide_eq_false z9, e8, e9, ax, eA, hbA, it, ay]
  exact lv

theorem powW {k : Int} {r : Int} (h : CPowW 10 k) (e : (10 : Int) ^ k.toNat = r) (S : Store) : powWG (.fr (.int 10)) (.fr (.int k)) S = .ok (.fr (.int r), S) := by
  unfold powWG
  simp only [if_pos h, e]
  rfl
abbrev E9 : Int := 1000000000
abbrev E20 : Int := 100000000000000000000
abbrev E38 : Int := 100000000000000000000000000000000000000
abbrev E39 : Int := 1000000000000000000000000000000000000000
theorem Dt.setp {M : Int} {w : Str} {p : D} {qs : List D} {ws : List Str} (h : Dt M w (p :: qs) ws) (hM : M ≤ M40) {q : Int} (hq : 0 ≤ q ∧ q < M40) : ∃ ws', Dt M40 w (.int q :: qs) ws' := by
  have h := h.mono hM
  cases h with
  | one hw hp => exact ⟨_, .one hw hq⟩
  | give hp => exact ⟨_, .give hq⟩
  | op hp hf => exact ⟨_, .op hq hf⟩
  | close hp hd => exact ⟨_, .close hq hd⟩
  | dup0 hp hd => exact ⟨_, .dup0 hq hd⟩
  | dup1 hp hd ht => exact ⟨_, .dup1 hq hd ht⟩
  | whole hp hd hl => exact ⟨_, .whole hq hd hl⟩
  | lock hp hd hl hf he => exact ⟨_, .lock hq hd hl hf he⟩
theorem len_tup (ds : List D) (S : Store) : lenG [.fr (.tup ds)] S = .ok (.fr (.int ds.length), S) := rfl
theorem far_run (b : Bag) (hb : b.Ok) (R : Store) (w : WF (b.c :: R)) {d : D} (hd : IsDt M13 d) : ∃ (d' : D) (b' : Bag), Bag.Ok b' ∧ WF (b'.c :: R) ∧ IsDt M40 d' ∧
    m_law_far [.cell 0, .fr d] (b.c :: R) = .ok (.val (.fr d'), b'.c :: R) := by
  obtain ⟨w0, qs, ws, rfl, hdt⟩ := hd
  obtain ⟨v1, b1, l1, u1, k1, w1, e1⟩ := take_run b hb 4 (by decide) (by decide) R w
  obtain ⟨v2, b2, l2, u2, k2, w2, e2⟩ := take_run b1 k1 1000000 (by decide) (by decide) R w1
  obtain ⟨N0, ⟨hN0, hN1⟩, aNn⟩ := pickI (P := fun i => 0 ≤ i ∧ i ≤ E20) (L := [10, 100, E9, E20]) (by decide) (v := v1) l1 (by have : ([10, 100, E9, E20] : List Int).length = 4 := rfl; omega)
  simp only [List.map_cons, List.map_nil] at aNn
  have p9 := fun S => powW (k := 9) (r := E9) (by decide +kernel) (by decide +kernel) S
  have p20 := fun S => powW (k := 20) (r := E20) (by decide +kernel) (by decide +kernel) S
  have p6 := fun S => powW (k := 6) (r := 1000000) (by decide +kernel) (by decide +kernel) S
  have p38 := fun S => powW (k := 38) (r := E38) (by decide +kernel) (by decide +kernel) S
  have p39 := fun S => powW (k := 39) (r := E39) (by decide +kernel) (by decide +kernel) S
  have p40 := fun S => powW (k := 40) (r := M40) (by decide +kernel) (by decide +kernel) S
  have i0 := ix_0 (.str w0) qs
  have hdt' := hdt.mono (M' := M40) (by decide)
  have hlen : qs.length ≤ 7 := by cases hdt <;> simp
  have cM : (CMul 1 1 ∨ True) := .inr trivial
  -- the second way
  have two : ∀ (bb : Bag) (kk : bb.Ok) (wb : WF (bb.c :: R)), ∃ (d' : D) (b' : Bag), Bag.Ok b' ∧ WF (b'.c :: R) ∧ IsDt M40 d' ∧
      (((sSeq (sIf (tAn (tB (DL.e2 (gtG) (eA lenG (aC (eV 1) aN)) (eC (.int 1)))) (tB (DL.e2 (eqG false) (eCall m_law_take false (aC (eV 0) (aC (eC (.int 3)) aN))) (eC (.int 0))))) (sRet (DL.e2 (addG true) (eA newT (aC (DL.e2 ixG (eV 1) (eC (.int 0))) (aC (DL.e2 ixG (eA (newL false) (aC (eV 2) (aC (DL.e2 (subG) (DL.e2 (powWG) (eC (.int 10)) (eC (.int 40))) (eC (.int 1))) aN))) (eCall m_law_take false (aC (eV 0) (aC (eC (.int 2)) aN)))) aN))) (eSl false (eV 1) (pS (eC (.int 2))) pN))) sNx)
        (sRet (eV 1))) [some (.cell 0), some (.fr (.tup (.str w0 :: qs))), some (.fr (.int (N0 + v2))), none] (bb.c :: R)).bind (leaveF (b.c :: R).length)) = .ok (.val (.fr d'), b'.c :: R) := fun bb kk wb => by
    have same : ∀ (b5 : Bag) (w5 : WF (b5.c :: R)), leave (b.c :: R).length (.fr (.tup (.str w0 :: qs))) (b5.c :: R) = .ok (.val (.fr (.tup (.str w0 :: qs))), b5.c :: R) := fun b5 w5 => leave_val w5 (d := .tup (.str w0 :: qs))
    cases qs with
    | nil =>
      have ln := len_tup [.str w0] (bb.c :: R)
      have d1 : decide ((([D.str w0] : List D).length : Int) > 1) = false := rfl
      refine ⟨_, bb, kk, wb, ⟨_, _, _, rfl, hdt'⟩, ?_⟩
      have lv := same bb wb
      simp only [RR, DL.isNon, List.replicate_succ, List.replicate_zero, List.set_cons_zero, List.set_cons_succ, List.getElem?_cons_zero, List.getElem?_cons_succ, Option.map_some, Nat.reduceSub, and_self, and_true, true_and, decide_true, decide_false, if_true, if_false, Bool.false_eq_true, Bool.not_true, Bool.not_false, Nat.reduceAdd, Nat.reduceMul, Nat.reduceLeDiff, ln, d1, List.length_cons, List.length_nil]
      exact lv
    | cons p r =>
      obtain ⟨v3, b3, l3, u3, k3, w3, e3⟩ := take_run bb kk 3 (by decide) (by decide) R wb
      have ln := len_tup (.str w0 :: p :: r) (bb.c :: R)
      have d1 : decide ((((.str w0 :: p :: r) : List D).length : Int) > 1) = true := decide_eq_true (by simp only [List.length_cons]; omega)
      by_cases z3 : v3 = 0
      · obtain ⟨v4, b4, l4, u4, k4, w4, e4⟩ := take_run b3 k3 2 (by decide) (by decide) R w3
        obtain ⟨q, hq, aq⟩ := pickI (P := fun i => 0 ≤ i ∧ i < M40) (L := [N0 + v2, M40 - 1]) (by
          intro i hi
          simp only [List.mem_cons, List.not_mem_nil, or_false] at hi
          rcases hi with rfl | rfl
          · exact ⟨by omega, by unfold M40; unfold E20 at hN1; omega⟩
          · exact ⟨by decide, by decide⟩) (v := v4) l4 (by simp only [List.length_cons, List.length_nil]; omega)
        simp only [List.map_cons, List.map_nil] at aq
        obtain ⟨ws', hd'⟩ := hdt.setp (by decide) hq
        have sl := fun S => sl_tup (.str w0 :: p :: r) (some 2) none S
        have c2 : cutA (.str w0 :: p :: r) (some 2) none = r := cut_fr (.str w0 :: p :: r) 2
        simp only [c2] at sl
        have ad := fun c S => ad_tt (xs := [.str w0, .int q]) (ys := r) (by simp only [List.length_cons, List.length_nil] at hlen ⊢; omega) c S
        simp only [List.cons_append, List.nil_append] at ad
        have lv := leave_val w4 (d := .tup (.str w0 :: .int q :: r))
        refine ⟨_, b4, k4, w4, ⟨_, _, _, rfl, hd'⟩, ?_⟩
        have aN1 : (M40 - 1 : Int) = 9999999999999999999999999999999999999999 := by decide
        simp only [RR, DL.isNon, List.replicate_succ, List.replicate_zero, List.set_cons_zero, List.set_cons_succ, List.getElem?_cons_zero, List.getElem?_cons_succ, Option.map_some, Nat.reduceSub, and_self, and_true, true_and, decide_true, decide_false, if_true, if_false, Bool.false_eq_true, Bool.not_true, Bool.not_false, Nat.reduceAdd, Nat.reduceMul, Nat.reduceLeDiff, ln, d1, take_is, e3, decide_eq_true z3, i0, p40, e4, aq, sl, ad]
        exact lv
      · have lv := same b3 w3
        refine ⟨_, b3, k3, w3, ⟨_, _, _, rfl, hdt'⟩, ?_⟩
        simp only [RR, DL.isNon, List.replicate_succ, List.replicate_zero, List.set_cons_zero, List.set_cons_succ, List.getElem?_cons_zero, List.getElem?_cons_succ, Option.map_some, Nat.reduceSub, and_self, and_true, true_and, decide_true, decide_false, if_true, if_false, Bool.false_eq_true, Bool.not_true, Bool.not_false, Nat.reduceAdd, Nat.reduceMul, Nat.reduceLeDiff, ln, d1, take_is, e3, decide_eq_false z3]
        exact lv
  by_cases hw : w0 = "lock"
  · subst hw
    obtain ⟨v3, b3, l3, u3, k3, w3, e3⟩ := take_run b2 k2 2 (by decide) (by decide) R w2
    have e0 := fun S => eqs_t (rfl : ("lock" : Str) = "lock") S
    by_cases z3 : v3 = 0
    · obtain ⟨v4, b4, l4, u4, k4, w4, e4⟩ := take_run b3 k3 2 (by decide) (by decide) R w3
      obtain ⟨v5, b5, l5, u5, k5, w5, e5⟩ := take_run b4 k4 3 (by decide) (by decide) R w4
      obtain ⟨x, ⟨e, rfl, he⟩, ax⟩ := pick (P := fun x => ∃ e, x = enD e ∧ ∀ i, e = some i → E39 ≤ i ∧ i < M40) (L := [.non, .int (E39 + (N0 + v2))]) (by
        intro d hd
        simp only [List.mem_cons, List.not_mem_nil, or_false] at hd
        rcases hd with rfl | rfl
        · exact ⟨none, rfl, fun i h => by cases h⟩
        · exact ⟨some (E39 + (N0 + v2)), rfl, fun i h => by cases h; unfold E39 M40; unfold E20 at hN1; omega⟩) (v := v4) l4 (by simp only [List.length_cons, List.length_nil]; omega)
      obtain ⟨F, ⟨hF0, hF1⟩, aF⟩ := pickI (P := fun i => 0 ≤ i ∧ i ≤ E38) (L := [0, N0 + v2, E38]) (by
        intro i hi
        simp only [List.mem_cons, List.not_mem_nil, or_false] at hi
        rcases hi with rfl | rfl | rfl
        · decide
        · exact ⟨by omega, by unfold E38; unfold E20 at hN1; omega⟩
        · decide) (v := v5) l5 (by simp only [List.length_cons, List.length_nil]; omega)
      simp only [List.map_cons, List.map_nil] at aF
      generalize hen : (ws : List Str) = ws0 at *
      cases hdt' with
      | one hw hp => exact absurd hw (by decide +kernel)
      | @lock p d l f e' o bb hp hd hl hf he' =>
        have sl1 := fun S => sl_tup [.str "lock", .int p, .int d, .int l, .int f, enD e', .str (whS o), .bl bb] none (some 4) S
        have sl2 := fun S => sl_tup [.str "lock", .int p, .int d, .int l, .int f, enD e', .str (whS o), .bl bb] (some 6) none S
        have c1 : cutA [D.str "lock", .int p, .int d, .int l, .int f, enD e', .str (whS o), .bl bb] none (some 4) = [D.str "lock", .int p, .int d, .int l] := rfl
        have c2 : cutA [D.str "lock", .int p, .int d, .int l, .int f, enD e', .str (whS o), .bl bb] (some 6) none = [D.str (whS o), .bl bb] := rfl
        simp only [c1] at sl1
        simp only [c2] at sl2
        have ad1 := fun c S => ad_tt (xs := [D.str "lock", .int p, .int d, .int l]) (ys := [.int F, enD e]) (by simp) c S
        have ad2 := fun c S => ad_tt (xs := [D.str "lock", .int p, .int d, .int l, .int F, enD e]) (ys := [.str (whS o), .bl bb]) (by simp) c S
        simp only [List.cons_append, List.nil_append] at ad1 ad2
        have nd : Dt M40 "lock" [.int p, .int d, .int l, .int F, enD e, .str (whS o), .bl bb] _ := .lock (e := e) (o := o) (b := bb) hp hd hl ⟨hF0, by unfold M40; unfold E38 at hF1; omega⟩ fun i h => by
          have := he i h
          unfold E39 at this
          unfold E38 at hF1
          exact ⟨by omega, this.2⟩
        have lv := leave_val w5 (d := .tup [.str "lock", .int p, .int d, .int l, .int F, enD e, .str (whS o), .bl bb])
        refine ⟨_, b5, k5, w5, ⟨_, _, _, rfl, nd⟩, ?_⟩
        generalize enD e = E at *
        generalize whS o = WB at *
        simp only [RR, DL.isNon, List.replicate_succ, List.replicate_zero, List.set_cons_zero, List.set_cons_succ, List.getElem?_cons_zero, List.getElem?_cons_succ, Option.map_some, Nat.reduceSub, and_self, and_true, true_and, decide_true, decide_false, if_true, if_false, Bool.false_eq_true, Bool.not_true, Bool.not_false, Nat.reduceAdd, Nat.reduceMul, Nat.reduceLeDiff, m_law_far, b_law_far, p9, p20, take_is, e1, aNn, p6, e2, e0, e3, decide_eq_true z3, p39, e4, ax, sl1, p38, e5, aF, sl2, ad1, ad2]
        exact lv
    · obtain ⟨d', b', h1, h2, h3, h4⟩ := two b3 k3 w3
      refine ⟨d', b', h1, h2, h3, ?_⟩
      have l0 : atI (D.str "lock" :: qs) 0 = some (.str "lock") := i0
      simp only [take_is] at h4
      simp only [RR, DL.isNon, List.replicate_succ, List.replicate_zero, List.set_cons_zero, List.set_cons_succ, List.getElem?_cons_zero, List.getElem?_cons_succ, Option.map_some, Nat.reduceSub, and_self, and_true, true_and, decide_true, decide_false, if_true, if_false, Bool.false_eq_true, Bool.not_true, Bool.not_false, Nat.reduceAdd, Nat.reduceMul, Nat.reduceLeDiff, m_law_far, b_law_far, p9, p20, take_is, e1, aNn, p6, e2, l0, e0, e3, decide_eq_false z3]
      simp only [RR, DL.isNon, List.replicate_succ, List.replicate_zero, List.set_cons_zero, List.set_cons_succ, List.getElem?_cons_zero, List.getElem?_cons_succ, Option.map_some, Nat.reduceSub, and_self, and_true, true_and, decide_true, decide_false, if_true, if_false, Bool.false_eq_true, Bool.not_true, Bool.not_false, Nat.reduceAdd, Nat.reduceMul, Nat.reduceLeDiff] at h4
      exact h4
  · obtain ⟨d', b', h1, h2, h3, h4⟩ := two b2 k2 w2
    refine ⟨d', b', h1, h2, h3, ?_⟩
    have e0 := fun S => eqs_f hw S
    simp only [take_is] at h4
    simp only [RR, DL.isNon, List.replicate_succ, List.replicate_zero, List.set_cons_zero, List.set_cons_succ, List.getElem?_cons_zero, List.getElem?_cons_succ, Option.map_some, Nat.reduceSub, and_self, and_true, true_and, decide_true, decide_false, if_true, if_false, Bool.false_eq_true, Bool.not_true, Bool.not_false, Nat.reduceAdd, Nat.reduceMul, Nat.reduceLeDiff, m_law_far, b_law_far, p9, p20, take_is, e1, aNn, p6, e2, i0, e0]
    simp only [RR, DL.isNon, List.replicate_succ, List.replicate_zero, List.set_cons_zero, List.set_cons_succ, List.getElem?_cons_zero, List.getElem?_cons_succ, Option.map_some, Nat.reduceSub, and_self, and_true, true_and, decide_true, decide_false, if_true, if_false, Bool.false_eq_true, Bool.not_true, Bool.not_false, Nat.reduceAdd, Nat.reduceMul, Nat.reduceLeDiff] at h4
    exact h4

section
variable {rho r : Slots} {S : Store}
def k_tryO (tb : IsT) (ms : SM) (x : Res (Fl × Slots × Store)) : Res (Fl × Slots × Store) := match x with
  | .exc e r S' => match tb.lookup e.cls with
    | some true => wipe0 (ms r S')
    | some false => .exc e r S'
    | none => .stuck
  | x => x
theorem r_tryO (tb : IsT) (mb ms : SM) : sTryO tb mb ms rho S = k_tryO tb ms (mb rho S) := id rfl
theorem s_tryOE {tb : IsT} (ms : SM) {e : Exc} (h : tb.lookup e.cls = some true) : k_tryO tb ms (.exc e r S) = wipe0 (ms r S) := by
  unfold k_tryO
  simp only [h]
theorem r_fn0 (n : Nat) (b : SM) : fnM 0 n b [] S = (b (List.replicate n none) S).bind (leaveF S.length) := id rfl
theorem s_wipe0 (x : Fl × Slots × Store) : wipe0 (.ok x) = .ok x := id rfl
end
theorem alike_x {S : Store} (wf : WF S) {d : D} (hf : fit 64 d = true) (hr : rOkX d = true) : m_law_alike [.fr d, .fr d] S = .ok (.val (.fr (.bl true)), S) := by
  have rp := reprX_of (S := S) hr
  have e1 : eqG false (.fr d) (.fr d) S = .ok (.fr (.bl true), S) := r_eq false rfl rfl (eqD_refl hf)
  have es := eqs_t (rfl : rTxtX d = rTxtX d) S
  have lv := leave_val wf (d := .bl true)
  simp only [RR, DL.isNon, List.replicate_succ, List.replicate_zero, List.set_cons_zero, List.set_cons_succ, List.getElem?_cons_zero, List.getElem?_cons_succ, Option.map_some, Nat.reduceSub, and_self, and_true, true_and, decide_true, decide_false, if_true, if_false, Bool.false_eq_true, Bool.not_true, Bool.not_false, Nat.reduceAdd, Nat.reduceMul, Nat.reduceLeDiff, m_law_alike, b_law_alike, e1, rp, es, lv]
theorem alike_t {S : Store} (wf : WF S) {z : Str} (h : PyData.strOk z = true) (hl : z.length ≤ 1000) : m_law_alike [.fr (.str z), .fr (.str z)] S = .ok (.val (.fr (.bl true)), S) := by
  have hf : ∀ n, fit n (.str z) = true := fun n => by cases n <;> simpa only [fit] using h
  exact alike_x wf (hf 64) ((y_fit (B := 1000) (n := 3) (hf 63) (by
    simp only [py, PyData.bulk]
    have : z.cps.size = z.length := rfl
    omega) (by simp [py, PyData.depth])).ro (by decide) (by decide))
theorem Dt.deedW {M : Int} {w : Str} {qs : List D} {ws : List Str} (h : Dt M w qs ws) : PyData.strOk w = true ∧ w.length ≤ 60 := by
  have key : ∀ z : Str, (PyData.strOk z && decide (z.length ≤ 60)) = true → PyData.strOk z = true ∧ z.length ≤ 60 := fun z h => by
    rw [Bool.and_eq_true, decide_eq_true_eq] at h
    exact h
  cases h with
  | one hw hp => rcases hw with rfl | rfl <;> exact key _ (by decide +kernel)
  | _ => exact key _ (by decide +kernel)
theorem Dt.fit {w : Str} {qs : List D} {ws : List Str} (h : Dt M40 w qs ws) : fit 64 (.tup (.str w :: qs)) = true := by
  have hw := h.deedW.1
  have ni : ∀ {i : Int} {n : Nat}, 0 ≤ i ∧ i < M40 → DL.fit n (.int i) = true := fun {i n} h => fit_int (by unfold M40 at h; omega)
  have n5 : ∀ {i : Int} {n : Nat}, 0 ≤ i ∧ i ≤ 15 → DL.fit n (.int i) = true := fun {i n} h => fit_int (by omega)
  have ns : ∀ {s : Str} {n : Nat}, PyData.strOk s = true → DL.fit n (.str s) = true := fun {s n} h => by cases n <;> simpa only [DL.fit] using h
  have nb : ∀ {b : Bool} {n : Nat}, DL.fit n (.bl b) = true := fun {b n} => by cases n <;> rfl
  have nn : ∀ {n : Nat}, DL.fit n .non = true := fun {n} => by cases n <;> rfl
  have al0 : ∀ d ∈ ([] : List D), DL.fit 63 d = true := fun _ h => by cases h
  have cn : ∀ {a : D} {l : List D}, DL.fit 63 a = true → (∀ x ∈ l, DL.fit 63 x = true) → ∀ x ∈ a :: l, DL.fit 63 x = true := fun ha hl x hx => (List.mem_cons.mp hx).elim (fun e => e ▸ ha) (hl x)
  simp only [DL.fit]
  refine fits_all ?_
  cases h with
  | st => exact cn (ns hw) al0
  | one hw' hp => exact cn (ns hw) (cn (ni hp) al0)
  | give hp => exact cn (ns hw) (cn (ni hp) al0)
  | op hp hf => exact cn (ns hw) (cn (ni hp) (cn (ns (wd_name hf).ok) al0))
  | close hp hd => exact cn (ns hw) (cn (ni hp) (cn (n5 hd) al0))
  | dup0 hp hd => exact cn (ns hw) (cn (ni hp) (cn (n5 hd) (cn nn al0)))
  | dup1 hp hd ht => exact cn (ns hw) (cn (ni hp) (cn (n5 hd) (cn (n5 ht) al0)))
  | whole hp hd hl => exact cn (ns hw) (cn (ni hp) (cn (n5 hd) (cn (n5 (by omega)) (cn nb al0))))
  | @lock p d l f e o b hp hd hl hf he =>
    refine cn (ns hw) (cn (ni hp) (cn (n5 hd) (cn (n5 (by omega)) (cn (ni hf) (cn ?_ (cn (ns ?_) (cn nb al0)))))))
    · cases e with
      | none => exact nn
      | some i => exact ni (by have := he i rfl; omega)
    · cases o <;> decide +kernel
theorem Dt.ro {w : Str} {qs : List D} {ws : List Str} (h : Dt M40 w qs ws) : rOkX (.tup (.str w :: qs)) = true := by
  have hp := h.good.2
  have hw := h.deedW
  have hl : (D.str w :: qs).length ≤ 10 := by cases h <;> simp
  refine (y_tup (B := 60) (n := 3) (m := 10) (fun d hd => ?_) hl).ro (by decide) (by decide)
  rcases List.mem_cons.mp hd with rfl | hd
  · exact (kd_str hw.1 hw.2).y
  · exact (hp d hd).y
section
variable {S : Store} (wf : WF S)
include wf
theorem nt41 : numW (nt M40) = none := by
  have l : 41 ≤ (nt M40).length := by
    rw [← len_tl]
    have : nt M40 = nt ((10 ^ 40 : Nat) : Int) := by
      have : ((10 ^ 40 : Nat) : Int) = M40 := by decide +kernel
      rw [this]
    rw [this, nt_nat, List.length_map]
    exact PyProof.Rows.digits10_ge (k := 40) (Nat.le_refl _)
  unfold numW
  rw [if_neg]
  rintro ⟨⟨_, h⟩, _⟩
  omega
theorem long_run : m_law_long_right [] S = .ok (.val (.fr (.bl true)), S) := by
  have p40 := powW (k := 40) (r := M40) (by decide +kernel) (by decide +kernel) S
  have dt : Dt M50 "lock" [.int 0, .int 0, .int 1, .int M40, .non, .str "process", .bl false] (([("lock" : Str), nt 0, nt 0, lvS 1, nt M40, enS none] : List Str) ++ (opn false ++ wt false)) := .lock (e := none) (o := false) (b := false) (by decide) (by decide) (by decide) (by decide) (fun i h => by cases h)
  obtain ⟨h1, h2, h3⟩ := dt.words
  obtain ⟨s1, s2⟩ := both_text wf dt
  have al := alike_t wf (text_ok h1) (Nat.le_trans (text_len h1 h3) (by decide))
  have sp := text_split h1 h2 h3 S
  have is1 : isiG [.fr (.str (Txt.join " " (([("lock" : Str), nt 0, nt 0, lvS 1, nt M40, enS none] : List Str) ++ (opn false ++ wt false)))), .fr (.ty "str")] S = .ok (.fr (.bl true), S) := rfl
  have ty : tyS "str" S (.fr (.str (Txt.join " " (([("lock" : Str), nt 0, nt 0, lvS 1, nt M40, enS none] : List Str) ++ (opn false ++ wt false))))) = true := rfl
  -- lock_in raises
  have li : ∃ r, m_lock_in [.fr (.lst ((([("lock" : Str), nt 0, nt 0, lvS 1, nt M40, enS none] : List Str) ++ (opn false ++ wt false)).map D.str))] S = .exc ⟨"NoText", []⟩ r S := by
    have ln : lenG [.fr (.lst ((([("lock" : Str), nt 0, nt 0, lvS 1, nt M40, enS none] : List Str) ++ (opn false ++ wt false)).map D.str))] S = .ok (.fr (.int 6), S) := rfl
    have a1 : atI ((([("lock" : Str), nt 0, nt 0, lvS 1, nt M40, enS none] : List Str) ++ (opn false ++ wt false)).map D.str) 1 = some (.str (nt 0)) := at_k _ 1 rfl
    have a2 : atI ((([("lock" : Str), nt 0, nt 0, lvS 1, nt M40, enS none] : List Str) ++ (opn false ++ wt false)).map D.str) 2 = some (.str (nt 0)) := at_k _ 2 rfl
    have a3 : atI ((([("lock" : Str), nt 0, nt 0, lvS 1, nt M40, enS none] : List Str) ++ (opn false ++ wt false)).map D.str) 3 = some (.str (lvS 1)) := at_k _ 3 rfl
    have a4 : atI ((([("lock" : Str), nt 0, nt 0, lvS 1, nt M40, enS none] : List Str) ++ (opn false ++ wt false)).map D.str) 4 = some (.str (nt M40)) := at_k _ 4 rfl
    have n1 := num_nt wf (i := 0) (by decide)
    have n3 := level_ok wf (l := 1) (by decide)
    obtain ⟨r, n4⟩ := (number_run wf (nt M40) (Nat.le_trans (Num.len ⟨by decide, by decide⟩) (by decide))).2 (nt41 wf)
    have d6 : decide ((6 : Int) < 6) = false := rfl
    generalize (([("lock" : Str), nt 0, nt 0, lvS 1, nt M40, enS none] : List Str) ++ (opn false ++ wt false)).map D.str = WS at *
    generalize nt M40 = NM at *
    generalize nt 0 = N0 at *
    generalize lvS 1 = L1 at *
    have cx := fun rho => s_cutXe (rho := rho) (r := r) wf ⟨"NoText", []⟩
    refine ⟨[some (.fr (.lst WS)), none, none], ?_⟩
    simp only [RR, DL.isNon, List.replicate_succ, List.replicate_zero, List.set_cons_zero, List.set_cons_succ, List.getElem?_cons_zero, List.getElem?_cons_succ, Option.map_some, Nat.reduceSub, and_self, and_true, true_and, decide_true, decide_false, if_true, if_false, Bool.false_eq_true, Bool.not_true, Bool.not_false, Nat.reduceAdd, Nat.reduceMul, Nat.reduceLeDiff, m_lock_in, b_lock_in, ln, d6, r_callX, s_callX, s_cutX, a1, a2, a3, a4, n1, n3, n4, cx, b_exc]
  obtain ⟨r1, li⟩ := li
  have a0 : atI ((([("lock" : Str), nt 0, nt 0, lvS 1, nt M40, enS none] : List Str) ++ (opn false ++ wt false)).map D.str) 0 = some (.str "lock") := at_k _ 0 rfl
  have e1 := eqs_t (rfl : ("lock" : Str) = "lock") S
  have lv := leave_val wf (d := .bl true)
  generalize (([("lock" : Str), nt 0, nt 0, lvS 1, nt M40, enS none] : List Str) ++ (opn false ++ wt false)).map D.str = WS at *
  generalize Txt.join " " (([("lock" : Str), nt 0, nt 0, lvS 1, nt M40, enS none] : List Str) ++ (opn false ++ wt false)) = Z at *
  have cx1 := fun rho => s_cutXe (rho := rho) (r := r1) wf ⟨"NoText", []⟩
  have di : ∃ r, m_deed_in [.fr (.lst WS)] S = .exc ⟨"NoText", []⟩ r S := by
    refine ⟨[some (.fr (.lst WS)), none, none], ?_⟩
    simp only [RR, DL.isNon, List.replicate_succ, List.replicate_zero, List.set_cons_zero, List.set_cons_succ, List.getElem?_cons_zero, List.getElem?_cons_succ, Option.map_some, Nat.reduceSub, and_self, and_true, true_and, decide_true, decide_false, if_true, if_false, Bool.false_eq_true, Bool.not_true, Bool.not_false, Nat.reduceAdd, Nat.reduceMul, Nat.reduceLeDiff, m_deed_in, b_deed_in, a0, e1, r_callX, s_callX, li, cx1, b_exc]
  obtain ⟨r2, di⟩ := di
  have cx2 := fun rho => s_cutXe (rho := rho) (r := r2) wf ⟨"NoText", []⟩
  have rd : ∃ r, m_read_deed [.fr (.str Z)] S = .exc ⟨"NoText", []⟩ r S := by
    refine ⟨[some (.fr (.str Z)), none], ?_⟩
    simp only [RR, DL.isNon, List.replicate_succ, List.replicate_zero, List.set_cons_zero, List.set_cons_succ, List.getElem?_cons_zero, List.getElem?_cons_succ, Option.map_some, Nat.reduceSub, and_self, and_true, true_and, decide_true, decide_false, if_true, if_false, Bool.false_eq_true, Bool.not_true, Bool.not_false, Nat.reduceAdd, Nat.reduceMul, Nat.reduceLeDiff, m_read_deed, b_read_deed, is1, s_mt _ ty, sp, r_callX, s_callX, di, cx2, b_exc]
  obtain ⟨r3, rd⟩ := rd
  have cx3 := fun rho => s_cutXe (rho := rho) (r := r3) wf ⟨"NoText", []⟩
  have lk : ([("NoText", true)] : IsT).lookup (⟨"NoText", []⟩ : Exc).cls = some true := by decide +kernel
  simp only [RR, DL.isNon, List.replicate_succ, List.replicate_zero, List.set_cons_zero, List.set_cons_succ, List.getElem?_cons_zero, List.getElem?_cons_succ, Option.map_some, Nat.reduceSub, and_self, and_true, true_and, decide_true, decide_false, if_true, if_false, Bool.false_eq_true, Bool.not_true, Bool.not_false, Nat.reduceAdd, Nat.reduceMul, Nat.reduceLeDiff, m_law_long_right, b_law_long_right, r_fn0, p40, s1, s2, al, r_tryO, r_callX, s_callX, rd, cx3, b_exc, s_tryOE _ lk, s_wipe0, lv]
end

theorem lookK_mem {kvs : List (Key × SV)} {k : Key} {y : SV} (h : lookK kvs k = some y) : (k, y) ∈ kvs := by
  unfold lookK at h
  obtain ⟨p, hp, rfl⟩ := Option.map_eq_some_iff.mp h
  have h1 := List.mem_of_find?_eq_some hp
  have h2 := List.find?_some hp
  rw [decide_eq_true_eq] at h2
  rw [← h2]
  exact h1
theorem setK_mem {kvs : List (Key × SV)} {k : Key} {v : SV} : ∀ p ∈ setK kvs k v, p ∈ kvs ∨ p = (k, v) := fun p hp => by
  unfold setK at hp
  split at hp
  · obtain ⟨q, hq, rfl⟩ := List.mem_map.mp hp
    split
    · rename_i e
      exact .inr (by rw [e])
    · exact .inl hq
  · rcases List.mem_append.mp hp with hp | hp
    · exact .inl hp
    · exact .inr (List.mem_singleton.mp hp)
theorem setK_len {kvs : List (Key × SV)} {k : Key} {v : SV} : (setK kvs k v).length ≤ kvs.length + 1 := by
  unfold setK
  split
  · rw [List.length_map]; omega
  · rw [List.length_append]; simp
theorem setd_run {c : Cell} {kvs : List (Key × SV)} (hl : kvs.length ≤ 100) {Z : Str} {d : D} {x0 N x4 x7 : Option SV} :
    eSetdK (eV 3) (eV 6) (eV 5) [x0, some (.cell 0), N, some (.cell 1), x4, some (.fr d), some (.fr (.str Z)), x7] [c, .dic kvs] =
      (match lookK kvs (.inr Z) with
        | some y => .ok (y, [c, .dic kvs])
        | none => .ok (.fr d, [c, .dic (setK kvs (.inr Z) (.fr d))])) := by
  have sz := sizeLine_eq
  have h0 : setdKD (.cell 1) (.fr (.str Z)) (.fr d) [c, .dic kvs] = (match lookK kvs (.inr Z) with
        | some y => .ok (y, [c, .dic kvs])
        | none => .ok (.fr d, [c, .dic (setK kvs (.inr Z) (.fr d))])) := by
    unfold setdKD
    simp only [List.getElem?_cons_succ, List.getElem?_cons_zero, DL.keyOf]
    rw [if_pos (by omega)]
    cases lookK kvs (.inr Z) <;> rfl
  rw [← h0]
  rfl
theorem same_text {w w' : Str} {qs qs' : List D} {ws ws' : List Str} (h : Dt M40 w qs ws) (h' : Dt M40 w' qs' ws') (e : Txt.join " " ws = Txt.join " " ws') : D.tup (.str w :: qs) = .tup (.str w' :: qs') := by
  have wf : WF [] := rfl
  have r1 := read_run wf h
  have r2 := read_run wf h'
  rw [e, r2] at r1
  cases r1
  rfl
def Ent (p : Key × SV) : Prop := ∃ w qs ws, Dt M40 w qs ws ∧ p = (.inr (Txt.join " " ws), .fr (.tup (.str w :: qs)))
theorem wf_dic {b : Bag} {kvs : List (Key × SV)} (h : ∀ p ∈ kvs, Ent p) : WF (b.c :: [.dic kvs]) := by
  unfold WF
  simp only [List.all_cons, List.all_nil, Bool.and_true, Bool.and_eq_true]
  refine ⟨by simp [Bag.c, Cell.below, SV.below], ?_⟩
  show (kvs.all fun p => p.2.below 2) = true
  rw [List.all_eq_true]
  intro p hp
  obtain ⟨w, qs, ws, _, rfl⟩ := h p hp
  rfl
def JA (b : Bag) (kvs : List (Key × SV)) (x0 N x4 : Option SV) (d : D) (Z : Str) (_ : List SV) (rho : Slots) (S' : Store) : Prop :=
  ∃ x7 : Option SV, S' = [b.c, .dic kvs] ∧ rho = [x0, some (.cell 0), N, some (.cell 1), x4, some (.fr d), some (.fr (.str Z)), x7]
theorem ja_step {b : Bag} {kvs : List (Key × SV)} {x0 N x4 : Option SV} {w : Str} {qs : List D} {ws : List Str} (hk : ∀ p ∈ kvs, Ent p) (h : Dt M40 w qs ws) (y : SV) (xs : List SV) (rho : Slots) (S' : Store)
    (j : JA b kvs x0 N x4 (.tup (.str w :: qs)) (Txt.join " " ws) (y :: xs) rho S') :
    DL.Ends ((gNm 7 y rho S').bind (k_body f_law_1)) fun r => r.1 = .nx ∧ JA b kvs x0 N x4 (.tup (.str w :: qs)) (Txt.join " " ws) xs r.2.1 r.2.2 := by
  obtain ⟨x7, rfl, rfl⟩ := j
  have wf := wf_dic (b := b) hk
  have hm := h.mono (M' := M50) (by decide)
  obtain ⟨h1, h2, h3⟩ := hm.words
  have s1 := (both_text wf hm).1
  have rd := read_run wf h
  have a1 := alike_t wf (text_ok h1) (Nat.le_trans (text_len h1 h3) (by decide))
  have a2 := alike_x wf h.fit h.ro
  generalize Txt.join " " ws = Z at *
  generalize D.tup (.str w :: qs) = dd at *
  simp only [RR, DL.isNon, List.replicate_succ, List.replicate_zero, List.set_cons_zero, List.set_cons_succ, List.getElem?_cons_zero, List.getElem?_cons_succ, Option.map_some, Nat.reduceSub, and_self, and_true, true_and, decide_true, decide_false, if_true, if_false, Bool.false_eq_true, Bool.not_true, Bool.not_false, Nat.reduceAdd, Nat.reduceMul, Nat.reduceLeDiff, f_law_1, i_law_2, s1, a1, r_callX, s_callX, s_cutX, rd, a2, s_ends]
  exact ⟨_, rfl, rfl⟩
def JL (x0 : Option SV) (zs : List Str) (xs : List SV) (rho : Slots) (S' : Store) : Prop :=
  ∃ (b : Bag) (kvs : List (Key × SV)) (x4 x5 x6 x7 : Option SV), b.Ok ∧ (∀ p ∈ kvs, Ent p) ∧ kvs.length + xs.length ≤ 20 ∧ S' = [b.c, .dic kvs] ∧ rho = [x0, some (.cell 0), some (.fr (.lst (zs.map D.str))), some (.cell 1), x4, x5, x6, x7]
theorem jl_step {x0 : Option SV} {zs : List Str} (hz : ∀ z ∈ zs, Nm z) (hl : zs.length = 3) (y : SV) (xs : List SV) (rho : Slots) (S' : Store) (j : JL x0 zs (y :: xs) rho S') :
    DL.Ends ((gNm 4 y rho S').bind (k_body f_law_2)) fun r => r.1 = .nx ∧ JL x0 zs xs r.2.1 r.2.2 := by
  obtain ⟨b, kvs, x4, x5, x6, x7, hb, hk, hlen, rfl, rfl⟩ := j
  simp only [List.length_cons] at hlen
  have wf := wf_dic (b := b) hk
  obtain ⟨d1, b1, k1, w1, hd1, e1⟩ := mdeed_run b hb [.dic kvs] wf hz hl
  obtain ⟨d2, b2, k2, w2, ⟨w, qs, ws, rfl, hd⟩, e2⟩ := far_run b1 k1 [.dic kvs] w1 hd1
  have hm := hd.mono (M' := M50) (by decide)
  have tx := (both_text w2 hm).2
  obtain ⟨⟨fl, rho, S'⟩, g2, h2, x7', q5, q6⟩ := loop_ends (JA b2 kvs x0 (some (.fr (.lst (zs.map D.str)))) (some y) (.tup (.str w :: qs)) (Txt.join " " ws)) (ja_step hk hd) (xs := rngS 0 (2 : Int).toNat) (rho := [x0, some (.cell 0), some (.fr (.lst (zs.map D.str))), some (.cell 1), some y, some (.fr (.tup (.str w :: qs))), some (.fr (.str (Txt.join " " ws))), x7]) (S := [b2.c, .dic kvs]) ⟨x7, rfl, rfl⟩
  dsimp only at h2 q5 q6
  subst h2 q5 q6
  have sd := setd_run (c := b2.c) (kvs := kvs) (by omega) (Z := Txt.join " " ws) (d := .tup (.str w :: qs)) (x0 := x0) (N := some (.fr (.lst (zs.map D.str)))) (x4 := some y) (x7 := x7')
  have en : ∀ S : Store, eqG true (.fr (.tup (.str w :: qs))) (.fr (.tup (.str w :: qs))) S = .ok (.fr (.bl false), S) := fun S => r_eq true rfl rfl (eqD_refl hd.fit)
  cases lk : lookK kvs (.inr (Txt.join " " ws)) with
  | some v =>
    rw [lk] at sd
    dsimp only at sd
    obtain ⟨w', qs', ws', hd', ee⟩ := hk _ (lookK_mem lk)
    injection ee with e3 e4
    injection e3 with e3
    have ev : v = .fr (.tup (.str w :: qs)) := by rw [e4, same_text hd hd' e3]
    subst ev
    have nk : ∀ p ∈ kvs, Ent p := hk
    generalize hZ : Txt.join " " ws = Z at *
    generalize hdd : D.tup (.str w :: qs) = dd at *
    simp only [RR, DL.isNon, List.replicate_succ, List.replicate_zero, List.set_cons_zero, List.set_cons_succ, List.getElem?_cons_zero, List.getElem?_cons_succ, Option.map_some, Nat.reduceSub, and_self, and_true, true_and, decide_true, decide_false, if_true, if_false, Bool.false_eq_true, Bool.not_true, Bool.not_false, Nat.reduceAdd, Nat.reduceMul, Nat.reduceLeDiff, f_law_2, i_law_1, e1, e2, tx, s_r1 (j := 2) (by decide), g2, sd, en, s_ends]
    exact ⟨b2, kvs, _, _, _, _, k2, nk, by omega, rfl, rfl⟩
  | none =>
    rw [lk] at sd
    dsimp only at sd
    have nk : ∀ p ∈ setK kvs (.inr (Txt.join " " ws)) (.fr (.tup (.str w :: qs))), Ent p := fun p hp => (setK_mem p hp).elim (hk p) fun e => ⟨w, qs, ws, hd, e⟩
    have nl := setK_len (kvs := kvs) (k := .inr (Txt.join " " ws)) (v := .fr (.tup (.str w :: qs)))
    generalize hZ : Txt.join " " ws = Z at *
    generalize hdd : D.tup (.str w :: qs) = dd at *
    simp only [RR, DL.isNon, List.replicate_succ, List.replicate_zero, List.set_cons_zero, List.set_cons_succ, List.getElem?_cons_zero, List.getElem?_cons_succ, Option.map_some, Nat.reduceSub, and_self, and_true, true_and, decide_true, decide_false, if_true, if_false, Bool.false_eq_true, Bool.not_true, Bool.not_false, Nat.reduceAdd, Nat.reduceMul, Nat.reduceLeDiff, f_law_2, i_law_1, e1, e2, tx, s_r1 (j := 2) (by decide), g2, sd, en, s_ends]
    exact ⟨b2, _, _, _, _, _, k2, nk, by omega, rfl, rfl⟩
theorem tells : DL.Tells 63 m_law := tells_of fun ns hns => by
  obtain ⟨b0, ok0, eb⟩ := bag0 ns hns
  obtain ⟨zs, b1, k1, w1, hz, hl, e1⟩ := names_run b0 ok0 [] (wfb b0)
  obtain ⟨⟨fl, rho, S'⟩, g2, h2, b2, kvs, z4, z5, z6, z7, q1, qk, ql, q5, q6⟩ := loop_ends (JL (some (.fr (.scr (ns.map D.int)))) zs) (jl_step hz hl) (xs := rngS 0 (20 : Int).toNat) (rho := [some (.fr (.scr (ns.map D.int))), some (.cell 0), some (.fr (.lst (zs.map D.str))), some (.cell 1), none, none, none, none]) (S := [b1.c, .dic []]) ⟨b1, [], _, _, _, _, k1, (fun _ h => by cases h), by rw [rng_len, List.length_nil]; decide, rfl, rfl⟩
  dsimp only at h2 q5 q6
  subst h2 q5 q6
  have dn : ∀ (rho : Slots) (S' : Store), eDN true rho S' = .ok (.cell S'.length, S' ++ [.dic []]) := fun _ _ => rfl
  have lg := long_run (wf_dic (b := b2) qk)
  have lv : leave 0 (.fr (.bl true)) [b2.c, .dic kvs] = .ok (.val (.fr (.bl true)), []) := rfl
  simp only [RR, DL.isNon, List.replicate_succ, List.replicate_zero, List.set_cons_zero, List.set_cons_succ, List.getElem?_cons_zero, List.getElem?_cons_succ, Option.map_some, Nat.reduceSub, and_self, and_true, true_and, decide_true, decide_false, if_true, if_false, Bool.false_eq_true, Bool.not_true, Bool.not_false, Nat.reduceAdd, Nat.reduceMul, Nat.reduceLeDiff, m_law, b_law, bag_is, eb, List.length_nil, List.nil_append, e1, allFr_map, dn, List.length_cons, List.cons_append, s_r1 (j := 20) (by decide), g2, r_call0, lg, lv, s_ends]

theorem allD {P : Program} {w : World} {K : PySem.W.Frag} {mg : Str → Option Value} {h base : Heap} (X : K.In h) (G : h.Ns mainGlobals mg) (c : SaysF fcl fnl K) (TB : TBs K mg base) (dw : dtl.map (fun t => He.dicW K (t.1 K)) = dtl.map fun t => some (He.keysIn w.params t.2)) : CalD P w K mg base 9 "law" m_law := by
  have T : Txt K w mg := ⟨He.free_ok X G (c.fact 0 (f := fcFree "abs") rfl), He.free_ok X G (c.fact 1 (f := fcFree "all") rfl), He.free_ok X G (c.fact 2 (f := fcFree "bool") rfl), He.free_ok X G (c.fact 3 (f := fcFree "int") rfl), He.free_ok X G (c.fact 4 (f := fcFree "isinstance") rfl), He.free_ok X G (c.fact 5 (f := fcFree "len") rfl), He.free_ok X G (c.fact 6 (f := fcFree "range") rfl), He.free_ok X G (c.fact 7 (f := fcFree "repr") rfl), He.free_ok X G (c.fact 8 (f := fcFree "str") rfl), He.free_ok X G (c.fact 9 (f := fcFree "tuple") rfl), He.free_ok X G (c.fact 10 (f := fcFree "zip") rfl), He.glo_ok X G (c.fact 11 (f := fcGlo "LEVELS") rfl), He.glo_ok X G (c.fact 12 (f := fcGlo "LockError") rfl), He.glo_ok X G (c.fact 13 (f := fcGlo "NoText") rfl), He.glo_ok X G (c.fact 14 (f := fcGlo "OWNER_WORDS") rfl), He.glo_ok X G (c.fact 15 (f := fcGlo "PARTS") rfl), ctup_of (c.fact 16 (f := fcTup "LEVELS" [.inr "none", .inr "read", .inr "write"]) rfl), ctup_of (c.fact 17 (f := fcTup "OWNER_WORDS" [.inr "process", .inr "open"]) rfl), tupd_of (c.fact 18 (f := fcTupD "LEVELS") rfl), dct_of (c.fact 19 (f := fcDct "PARTS" [("start", ""), ("fork", "p"), ("open", "pf"), ("dup", "pdt"), ("close", "pd"), ("end", "p"), ("lock", "pdlseow"), ("whole", "pdlw"), ("give up", "p")]) rfl) (dw_at dw 0), cstr_of X G (c.fact 20 (f := fcStr "DIGITS" "0123456789") rfl), cstr_of X G (c.fact 21 (f := fcStr "END" "end") rfl), cstr_of X G (c.fact 22 (f := fcStr "GIVE_UP" "give up") rfl), cstr_of X G (c.fact 23 (f := fcStr "LETTERS" "abcdefghijklmnopqrstuvwxyz") rfl), cint_of X G (c.fact 24 (f := fcInt "MOST_DESCRIPTOR" (15)) rfl), cint_of X G (c.fact 25 (f := fcInt "MOST_DIGITS" (40)) rfl), cint_of X G (c.fact 26 (f := fcInt "MOST_LETTERS" (8)) rfl), cint_of X G (c.fact 27 (f := fcInt "MOST_LEVEL" (2)) rfl), cstr_of X G (c.fact 28 (f := fcStr "OPEN" "open") rfl), cstr_of X G (c.fact 29 (f := fcStr "TO" "to") rfl), cstr_of X G (c.fact 30 (f := fcStr "WAIT" "wait") rfl), bas_of (c.fact 31 (f := fcBas "LockError") rfl), (exm_cons exm_nil (c.fact 32 (f := fcExm "NoText" "NoText" true) rfl))⟩
  obtain ⟨_, F_NoText___init__⟩ := c.def_ 0 (d := dd_NoText___init__) rfl
  have B_NoText___init__ := F_NoText___init__.bindsN (ps := ["self"]) fun _ _ _ _ _ _ us hl => match us, hl with | [_], _ => rfl
  have x_NoText___init__ := ok_NoText___init__ (P := P) (w := w) (base := base) T (He5.fun_of F_NoText___init__)
  obtain ⟨_, F_is_integer⟩ := c.def_ 1 (d := dd_is_integer) rfl
  have B_is_integer := F_is_integer.bindsN (ps := ["thing"]) fun _ _ _ _ _ _ us hl => match us, hl with | [_], _ => rfl
  have c_is_integer := ok_is_integer (P := P) (w := w) (base := base) T (He5.fun_of F_is_integer) (He.glo_ok X G (c.fact 33 (f := fcGlo "is_integer") rfl)) B_is_integer 
  obtain ⟨_, F_is_name⟩ := c.def_ 2 (d := dd_is_name) rfl
  have B_is_name := F_is_name.bindsN (ps := ["thing"]) fun _ _ _ _ _ _ us hl => match us, hl with | [_], _ => rfl
  have c_is_name := ok_is_name (P := P) (w := w) (base := base) T (He5.fun_of F_is_name) (He.glo_ok X G (c.fact 34 (f := fcGlo "is_name") rfl)) B_is_name 
  obtain ⟨_, F_shown_span⟩ := c.def_ 3 (d := dd_shown_span) rfl
  have B_shown_span := F_shown_span.bindsN (ps := ["level", "first", "last"]) fun _ _ _ _ _ _ us hl => match us, hl with | [_, _, _], _ => rfl
  have c_shown_span := ok_shown_span (P := P) (w := w) (base := base) T (He5.fun_of F_shown_span) (He.glo_ok X G (c.fact 35 (f := fcGlo "shown_span") rfl)) B_shown_span 
  obtain ⟨_, F_law_bag⟩ := c.def_ 4 (d := dd_law_bag) rfl
  have B_law_bag := F_law_bag.bindsN (ps := ["_law_script"]) fun _ _ _ _ _ _ us hl => match us, hl with | [_], _ => rfl
  have c_law_bag := ok_law_bag (P := P) (w := w) (base := base) T (He5.fun_of F_law_bag) (He.glo_ok X G (c.fact 36 (f := fcGlo "_law_bag") rfl)) B_law_bag 
  obtain ⟨_, F_law_take⟩ := c.def_ 5 (d := dd_law_take) rfl
  have B_law_take := F_law_take.bindsN (ps := ["_law_bag_here", "_law_many"]) fun _ _ _ _ _ _ us hl => match us, hl with | [_, _], _ => rfl
  have c_law_take := ok_law_take (P := P) (w := w) (base := base) T (He5.fun_of F_law_take) (He.glo_ok X G (c.fact 37 (f := fcGlo "_law_take") rfl)) B_law_take 
  obtain ⟨_, F_law_alike⟩ := c.def_ 6 (d := dd_law_alike) rfl
  have B_law_alike := F_law_alike.bindsN (ps := ["_law_found", "_law_due"]) fun _ _ _ _ _ _ us hl => match us, hl with | [_, _], _ => rfl
  have c_law_alike := ok_law_alike (P := P) (w := w) (base := base) T (He5.fun_of F_law_alike) (He.glo_ok X G (c.fact 38 (f := fcGlo "_law_alike") rfl)) B_law_alike 
  obtain ⟨_, F_law_text⟩ := c.def_ 7 (d := dd_law_text) rfl
  have B_law_text := F_law_text.bindsN (ps := ["_law_deed_here"]) fun _ _ _ _ _ _ us hl => match us, hl with | [_], _ => rfl
  have c_law_text := ok_law_text (P := P) (w := w) (base := base) T (He5.fun_of F_law_text) (He.glo_ok X G (c.fact 39 (f := fcGlo "_law_text") rfl)) B_law_text 
  obtain ⟨_, F_is_between⟩ := c.def_ 8 (d := dd_is_between) rfl
  have B_is_between := F_is_between.bindsN (ps := ["thing", "least", "greatest"]) fun _ _ _ _ _ _ us hl => match us, hl with | [_, _, _], _ => rfl
  have c_is_between := ok_is_between (P := P) (w := w) (base := base) T (He5.fun_of F_is_between) (He.glo_ok X G (c.fact 40 (f := fcGlo "is_between") rfl)) B_is_between c_is_integer
  obtain ⟨_, F_is_byte⟩ := c.def_ 9 (d := dd_is_byte) rfl
  have B_is_byte := F_is_byte.bindsN (ps := ["thing"]) fun _ _ _ _ _ _ us hl => match us, hl with | [_], _ => rfl
  have c_is_byte := ok_is_byte (P := P) (w := w) (base := base) T (He5.fun_of F_is_byte) (He.glo_ok X G (c.fact 41 (f := fcGlo "is_byte") rfl)) B_is_byte c_is_integer
  obtain ⟨_, F_show_deed⟩ := c.def_ 10 (d := dd_show_deed) rfl
  have B_show_deed := F_show_deed.bindsN (ps := ["deed"]) fun _ _ _ _ _ _ us hl => match us, hl with | [_], _ => rfl
  have c_show_deed := ok_show_deed (P := P) (w := w) (base := base) T (He5.fun_of F_show_deed) (He.glo_ok X G (c.fact 42 (f := fcGlo "show_deed") rfl)) B_show_deed c_shown_span
  obtain ⟨_, F_law_names⟩ := c.def_ 11 (d := dd_law_names) rfl
  have B_law_names := F_law_names.bindsN (ps := ["_law_bag_here", "_law_many"]) fun _ _ _ _ _ _ us hl => match us, hl with | [_, _], _ => rfl
  have c_law_names := ok_law_names (P := P) (w := w) (base := base) T (He5.fun_of F_law_names) (He.glo_ok X G (c.fact 43 (f := fcGlo "_law_names") rfl)) B_law_names c_law_take
  obtain ⟨_, F_law_deed⟩ := c.def_ 12 (d := dd_law_deed) rfl
  have B_law_deed := F_law_deed.bindsN (ps := ["_law_bag_here", "_law_files"]) fun _ _ _ _ _ _ us hl => match us, hl with | [_, _], _ => rfl
  have c_law_deed := ok_law_deed (P := P) (w := w) (base := base) T (He5.fun_of F_law_deed) (He.glo_ok X G (c.fact 44 (f := fcGlo "_law_deed") rfl)) B_law_deed c_law_take
  obtain ⟨_, F_law_far⟩ := c.def_ 13 (d := dd_law_far) rfl
  have B_law_far := F_law_far.bindsN (ps := ["_law_bag_here", "_law_deed_here"]) fun _ _ _ _ _ _ us hl => match us, hl with | [_, _], _ => rfl
  have c_law_far := ok_law_far (P := P) (w := w) (base := base) T (He5.fun_of F_law_far) (He.glo_ok X G (c.fact 45 (f := fcGlo "_law_far") rfl)) B_law_far c_law_take
  obtain ⟨_, F_span_fault⟩ := c.def_ 14 (d := dd_span_fault) rfl
  have B_span_fault := F_span_fault.bindsN (ps := ["first", "last"]) fun _ _ _ _ _ _ us hl => match us, hl with | [_, _], _ => rfl
  have c_span_fault := ok_span_fault (P := P) (w := w) (base := base) T (He5.fun_of F_span_fault) (He.glo_ok X G (c.fact 46 (f := fcGlo "span_fault") rfl)) B_span_fault c_is_byte
  obtain ⟨_, F_is_level⟩ := c.def_ 15 (d := dd_is_level) rfl
  have B_is_level := F_is_level.bindsN (ps := ["thing"]) fun _ _ _ _ _ _ us hl => match us, hl with | [_], _ => rfl
  have c_is_level := ok_is_level (P := P) (w := w) (base := base) T (He5.fun_of F_is_level) (He.glo_ok X G (c.fact 47 (f := fcGlo "is_level") rfl)) B_is_level c_is_between
  obtain ⟨_, F_is_descriptor⟩ := c.def_ 16 (d := dd_is_descriptor) rfl
  have B_is_descriptor := F_is_descriptor.bindsN (ps := ["thing"]) fun _ _ _ _ _ _ us hl => match us, hl with | [_], _ => rfl
  have c_is_descriptor := ok_is_descriptor (P := P) (w := w) (base := base) T (He5.fun_of F_is_descriptor) (He.glo_ok X G (c.fact 48 (f := fcGlo "is_descriptor") rfl)) B_is_descriptor c_is_between
  have XI_NoText : ExI P w K mg base 1 "NoText" := exi_of (He.glo_ok X G (c.fact 13 (f := fcGlo "NoText") rfl)) (ox_of (c.fact 49 (f := fcOx "NoText") rfl)) x_NoText___init__ B_NoText___init__
  obtain ⟨_, F_number_in⟩ := c.def_ 17 (d := dd_number_in) rfl
  have B_number_in := F_number_in.bindsN (ps := ["word"]) fun _ _ _ _ _ _ us hl => match us, hl with | [_], _ => rfl
  have c_number_in := ok_number_in (P := P) (w := w) (base := base) T (He5.fun_of F_number_in) (He.glo_ok X G (c.fact 50 (f := fcGlo "number_in") rfl)) B_number_in XI_NoText
  obtain ⟨_, F_level_of⟩ := c.def_ 18 (d := dd_level_of) rfl
  have B_level_of := F_level_of.bindsN (ps := ["word"]) fun _ _ _ _ _ _ us hl => match us, hl with | [_], _ => rfl
  have c_level_of := ok_level_of (P := P) (w := w) (base := base) T (He5.fun_of F_level_of) (He.glo_ok X G (c.fact 51 (f := fcGlo "level_of") rfl)) B_level_of XI_NoText
  obtain ⟨_, F_is_span⟩ := c.def_ 19 (d := dd_is_span) rfl
  have B_is_span := F_is_span.bindsN (ps := ["thing"]) fun _ _ _ _ _ _ us hl => match us, hl with | [_], _ => rfl
  have c_is_span := ok_is_span (P := P) (w := w) (base := base) T (He5.fun_of F_is_span) (He.glo_ok X G (c.fact 52 (f := fcGlo "is_span") rfl)) B_is_span c_span_fault
  obtain ⟨_, F_is_part⟩ := c.def_ 20 (d := dd_is_part) rfl
  have B_is_part := F_is_part.bindsN (ps := ["kind", "thing"]) fun _ _ _ _ _ _ us hl => match us, hl with | [_, _], _ => rfl
  have c_is_part := ok_is_part (P := P) (w := w) (base := base) T (He5.fun_of F_is_part) (He.glo_ok X G (c.fact 53 (f := fcGlo "is_part") rfl)) B_is_part c_is_level c_is_descriptor c_is_name c_is_byte
  obtain ⟨_, F_last_of⟩ := c.def_ 21 (d := dd_last_of) rfl
  have B_last_of := F_last_of.bindsN (ps := ["word"]) fun _ _ _ _ _ _ us hl => match us, hl with | [_], _ => rfl
  have c_last_of := ok_last_of (P := P) (w := w) (base := base) T (He5.fun_of F_last_of) (He.glo_ok X G (c.fact 54 (f := fcGlo "last_of") rfl)) B_last_of c_number_in
  obtain ⟨_, F_whole_in⟩ := c.def_ 22 (d := dd_whole_in) rfl
  have B_whole_in := F_whole_in.bindsN (ps := ["words"]) fun _ _ _ _ _ _ us hl => match us, hl with | [_], _ => rfl
  have c_whole_in := ok_whole_in (P := P) (w := w) (base := base) T (He5.fun_of F_whole_in) (He.glo_ok X G (c.fact 55 (f := fcGlo "whole_in") rfl)) B_whole_in c_level_of c_number_in XI_NoText
  obtain ⟨_, F_dup_in⟩ := c.def_ 23 (d := dd_dup_in) rfl
  have B_dup_in := F_dup_in.bindsN (ps := ["words"]) fun _ _ _ _ _ _ us hl => match us, hl with | [_], _ => rfl
  have c_dup_in := ok_dup_in (P := P) (w := w) (base := base) T (He5.fun_of F_dup_in) (He.glo_ok X G (c.fact 56 (f := fcGlo "dup_in") rfl)) B_dup_in c_number_in XI_NoText
  obtain ⟨_, F_is_lock⟩ := c.def_ 24 (d := dd_is_lock) rfl
  have B_is_lock := F_is_lock.bindsN (ps := ["thing"]) fun _ _ _ _ _ _ us hl => match us, hl with | [_], _ => rfl
  have c_is_lock := ok_is_lock (P := P) (w := w) (base := base) T (He5.fun_of F_is_lock) (He.glo_ok X G (c.fact 57 (f := fcGlo "is_lock") rfl)) B_is_lock c_is_span c_is_level c_is_descriptor c_is_byte
  obtain ⟨_, F_lock_in⟩ := c.def_ 25 (d := dd_lock_in) rfl
  have B_lock_in := F_lock_in.bindsN (ps := ["words"]) fun _ _ _ _ _ _ us hl => match us, hl with | [_], _ => rfl
  have c_lock_in := ok_lock_in (P := P) (w := w) (base := base) T (He5.fun_of F_lock_in) (He.glo_ok X G (c.fact 58 (f := fcGlo "lock_in") rfl)) B_lock_in c_last_of c_number_in c_level_of XI_NoText
  obtain ⟨_, F_is_deed⟩ := c.def_ 26 (d := dd_is_deed) rfl
  have B_is_deed := F_is_deed.bindsN (ps := ["thing"]) fun _ _ _ _ _ _ us hl => match us, hl with | [_], _ => rfl
  have c_is_deed := ok_is_deed (P := P) (w := w) (base := base) T (He5.fun_of F_is_deed) (He.glo_ok X G (c.fact 59 (f := fcGlo "is_deed") rfl)) B_is_deed c_is_part c_is_lock
  obtain ⟨_, F_deed_in⟩ := c.def_ 27 (d := dd_deed_in) rfl
  have B_deed_in := F_deed_in.bindsN (ps := ["words"]) fun _ _ _ _ _ _ us hl => match us, hl with | [_], _ => rfl
  have c_deed_in := ok_deed_in (P := P) (w := w) (base := base) T (He5.fun_of F_deed_in) (He.glo_ok X G (c.fact 60 (f := fcGlo "deed_in") rfl)) B_deed_in c_number_in c_dup_in c_whole_in c_lock_in
  obtain ⟨_, F_read_deed⟩ := c.def_ 28 (d := dd_read_deed) rfl
  have B_read_deed := F_read_deed.bindsN (ps := ["text"]) fun _ _ _ _ _ _ us hl => match us, hl with | [_], _ => rfl
  have c_read_deed := ok_read_deed (P := P) (w := w) (base := base) T (He5.fun_of F_read_deed) (He.glo_ok X G (c.fact 61 (f := fcGlo "read_deed") rfl)) B_read_deed c_show_deed c_is_deed XI_NoText c_deed_in
  obtain ⟨_, F_law_long_right⟩ := c.def_ 29 (d := dd_law_long_right) rfl
  have B_law_long_right := F_law_long_right.bindsN (ps := []) fun _ _ _ _ _ _ us hl => match us, hl with | [], _ => rfl
  have c_law_long_right := ok_law_long_right (P := P) (w := w) (base := base) T (He5.fun_of F_law_long_right) (He.glo_ok X G (c.fact 62 (f := fcGlo "_law_long_right") rfl)) B_law_long_right c_law_text c_read_deed c_show_deed c_law_alike
  obtain ⟨_, F_law⟩ := c.def_ 30 (d := dd_law) rfl
  have B_law := F_law.bindsN (ps := ["_law_script"]) fun _ _ _ _ _ _ us hl => match us, hl with | [_], _ => rfl
  have c_law := ok_law (P := P) (w := w) (base := base) T (He5.fun_of F_law) (He.glo_ok X G (c.fact 63 (f := fcGlo "law") rfl)) B_law c_law_long_right c_read_deed c_law_alike c_show_deed c_law_text c_law_deed c_law_far c_law_names c_law_bag
  exact c_law
end K91
open PySem PySem.W PySem.Calls PyProof.Rows
theorem PySem.Challenge.cw_byteholds_k91_deeds_written_holds : PySem.Challenge.rw_byteholds_k91_deeds_written.Holds := by
  w_on; o_law
  refine HandSHeadRun.head_any (r := OpenLaw.row PySem.Challenge.rw_byteholds_k91_deeds_written) (q := view (OpenLaw.row PySem.Challenge.rw_byteholds_k91_deeds_written).prog [50]) (H := K91.hkD) (ob := K91.obD) (M := 6000) (loose := ("LockError" :: "NoText" :: "LETTERS" :: "MOST_LETTERS" :: "MOST_LEVEL" :: "OWNER_WORDS" :: "is_integer" :: "is_between" :: "is_byte" :: "span_fault" :: "is_span" :: "is_level" :: "is_name" :: "MOST_DESCRIPTOR" :: "PARTS" :: "is_descriptor" :: "is_part" :: "is_lock" :: "is_deed" :: "DIGITS" :: "MOST_DIGITS" :: "LEVELS" :: "END" :: "OPEN" :: "TO" :: "WAIT" :: "GIVE_UP" :: "shown_span" :: "show_deed" :: "number_in" :: "level_of" :: "last_of" :: "lock_in" :: "whole_in" :: "dup_in" :: "deed_in" :: "read_deed" :: "_law_bag" :: "_law_take" :: "_law_alike" :: "_law_names" :: "_law_deed" :: "_law_text" :: "_law_far" :: "_law_long_right" :: [])) (d := HandSHeadRun.topDef (OpenLaw.row PySem.Challenge.rw_byteholds_k91_deeds_written).prog 50) (kwd := []) K91.obD_eq
    (by kernel_rfl) (fun s => by kernel_rfl) K91.ranD (by kernel_rfl) (by kernel_rfl) (by kernel_rfl) (by rfl) (by first | assumption | decide +kernel) (by decide +kernel) ⟨rfl, rfl, rfl, rfl, rfl, by decide +kernel⟩ ?hw ?hc
  case hw => w_witness2
  case hc =>
    refine DL.walkD (l := PySem.Challenge.rw_byteholds_k91_deeds_written) (n := 63) (k := 9) rfl (by decide) (by kernel_rfl) ⟨rfl, by decide, by decide⟩ (fun w mg h Y G => ?_) K91.tells
    obtain ⟨K, X, c, t, dw⟩ := Y
    have e : (HandSHeadRun.topDef (OpenLaw.row PySem.Challenge.rw_byteholds_k91_deeds_written).prog 50).name = ("law" : PySem.Str) := by kernel_rfl
    refine ⟨K, X, t, fun base _ _ TB => ?_⟩
    rw [e]
    exact K91.allD X G c TB dw

