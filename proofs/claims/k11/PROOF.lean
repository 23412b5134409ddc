import PyProof.Rows.All
import Wide.All
import OpenK.AllK
import Wide.FinOn
import KE.KStateDown
import HandS.ForMost
import HandS.NoneIn
import HandS.SetFor
import HandS.ForExc
import HandS.TupAny
import HandS.Wide
import HandS.Flow
import HandS.More
import HandS.Ends
import HandS.Defaults
import HandS.MakeKwOnly
import HandS.Head0
import HandS.Head1
import HandS.Head2
import HandS.HeadEnd
import HandS.HeadHook1
import HandS.HeadHook2
import HandS.HeadNt
import HandS.Words
import HandS.WordsExc
import HandS.Style
import HandS.SortKw
import HandS.IsInst
import HandS.Small
import HandS.Deep
import HandS.ClsMeth
import HandS.CallLocal
import KE.SortKeyHeap
import KE.KOpsOwn
import OpenK.KMeth
import OpenK.KOps
import PyProof.ReprBulk
import PyProof.ReprRoads
import HandS.TupSets
import PyProof.Conv_bool
import HandS.Set
import HandS.Strs
import KE.KFmtOwn
import PyProof.InstEq
import HandS.Conv
import HandS.ForDict
import HandS.WordsDict
import HandS.ExcInit
import HandS.ExcIs
import KE.KExcIs
import HandS.TryOnly
import HandS.RaiseMore
import HandS.Text
import HandS.Steps
import HandS.Walk
import PyProof.P3Eq
import PySem.Challenge.RW_byteholds_k11_kinds_known
set_option Elab.async false
set_option linter.all false
set_option maxRecDepth 100000
set_option maxHeartbeats 4000000
namespace DL
open PySem L2

/-- plain data: what a value is, without addresses -/
inductive D where
  | non | bl (b : Bool) | int (i : Int) | str (x : Str) | ty (n : String) | ref (a : Addr)
  | tup (ds : List D) | lst (ds : List D) | scr (ds : List D) | ins (C : Str) (fs : List (Str × D)) | cls (n : Str) | dct (kvs : List (Key × D))
  | exn (a : Addr) (od : Option Addr) (C : Str) (fs : List (Str × D))
/-- a value in the mirror: plain data, or one of the cells of the store -/
inductive SV where
  | fr (d : D) | cell (k : Nat)
/-- what a cell holds -/
inductive Cell where
  | lst (xs : List SV) | ins (C : Str) (fs : List (Str × SV)) | tup (xs : List SV) | dic (kvs : List (Key × SV)) | dit (kvs : List (List Key × SV))
abbrev Store := List Cell
abbrev Slots := List (Option SV)
/-- an error of the program: its class, its fields -/
structure Exc where
  cls : Str
  fs : List (Str × D)
inductive Res (α : Type) where
  | ok (a : α) | exc (e : Exc) (r : Slots) (s : Store) | stuck
def Res.bind {α β : Type} : Res α → (α → Res β) → Res β
  | .ok a, f => f a
  | .exc e r s, _ => .exc e r s
  | .stuck, _ => .stuck
def holds {α : Type} (r : Res α) (Q : α → Prop) (E : Exc → Slots → Store → Prop) : Prop := match r with
  | .ok a => Q a
  | .exc e r s => E e r s
  | .stuck => False
theorem holds_bind {α β : Type} {r : Res α} {f : α → Res β} {Q : β → Prop} {E : Exc → Slots → Store → Prop} (h : holds (r.bind f) Q E) : holds r (fun a => holds (f a) Q E) E := by
  cases r <;> exact h
theorem holds_imp {α : Type} {r : Res α} {Q Q' : α → Prop} {E E' : Exc → Slots → Store → Prop} (h : holds r Q E) (hq : ∀ a, Q a → Q' a) (he : ∀ e r s, E e r s → E' e r s) : holds r Q' E' := by
  cases r with
  | ok a => exact hq a h
  | exc e r s => exact he e r s h
  | stuck => exact h

/-- the heap without the cells -/
def hide (ph : List Addr) (H : Hp) : Hp := fun a => if a ∈ ph then none else H a
theorem hide_some {ph : List Addr} {H : Hp} {a : Addr} {o : HO} (h : hide ph H a = some o) : a ∉ ph ∧ H a = some o := by
  unfold hide at h
  split at h
  · cases h
  · exact ⟨by assumption, h⟩
theorem hide_of {ph : List Addr} {H : Hp} {a : Addr} {o : HO} (h1 : a ∉ ph) (h : H a = some o) : hide ph H a = some o := by
  unfold hide
  rw [if_neg h1]; exact h

mutual
inductive Den (K : PySem.W.Frag) (F : Hp) : V → D → Prop
  | non : Den K F .non .non
  | bl (b : Bool) : Den K F (.bl b) (.bl b)
  | int (i : Int) : Den K F (.int i) (.int i)
  | str (x : Str) : Den K F (.str x) (.str x)
  | ty (n : String) : Den K F (.ty n) (.ty n)
  | ref (a : Addr) : Den K F (.ref a) (.ref a)
  | cls (n : Str) : Den K F (.ref (He.ga K n)) (.cls n)
  | tup {a : Addr} {vs : List V} {ds : List D} : SqT K F a vs → Dens K F vs ds → Den K F (.ref a) (.tup ds)
  | lst {a : Addr} {vs : List V} {ds : List D} : F a = some (.lst vs) → Dens K F vs ds → Den K F (.ref a) (.lst ds)
  | scr {a : Addr} {vs : List V} {ds : List D} : SqL K F a vs → Dens K F vs ds → Den K F (.ref a) (.scr ds)
  | ins {a dx : Addr} {C : Str} {vs : List (Str × V)} {fs : List (Str × D)} : F a = some (.ins (He.ga K C) dx vs) → DenF K F vs fs → Den K F (.ref a) (.ins C fs)
  | dct {a : Addr} {vs : List (Key × V)} {ds : List (Key × D)} : F a = some (.dK vs) → DenK K F vs ds → Den K F (.ref a) (.dct ds)
  | exn0 (a : Addr) (C : Str) : Den K F (.ref a) (.exn a none C [])
  | exn {a d : Addr} {C : Str} {vs : List (Str × V)} {fs : List (Str × D)} : F d = some (.xd vs) → DenF K F vs fs → Den K F (.ref a) (.exn a (some d) C fs)
inductive Dens (K : PySem.W.Frag) (F : Hp) : List V → List D → Prop
  | nil : Dens K F [] []
  | cons {v : V} {vs : List V} {d : D} {ds : List D} : Den K F v d → Dens K F vs ds → Dens K F (v :: vs) (d :: ds)
inductive DenF (K : PySem.W.Frag) (F : Hp) : List (Str × V) → List (Str × D) → Prop
  | nil : DenF K F [] []
  | cons {x : Str} {v : V} {vs : List (Str × V)} {d : D} {ds : List (Str × D)} : Den K F v d → DenF K F vs ds → DenF K F ((x, v) :: vs) ((x, d) :: ds)
inductive DenK (K : PySem.W.Frag) (F : Hp) : List (Key × V) → List (Key × D) → Prop
  | nil : DenK K F [] []
  | cons {x : Key} {v : V} {vs : List (Key × V)} {d : D} {ds : List (Key × D)} : Den K F v d → DenK K F vs ds → DenK K F ((x, v) :: vs) ((x, d) :: ds)
end
/-- a heap within another one -/
def Sub (F F' : Hp) : Prop := ∀ a o, F a = some o → F' a = some o
section
variable {K : PySem.W.Frag} {F F' : Hp}
theorem Sub.rd (h : Sub F F') {a : Addr} {u : HO} (r : Rd F a u) : Rd F' a u := by
  rcases r with r | ⟨o, r⟩
  · exact .inl (h _ _ r)
  · exact .inr ⟨o, h _ _ r⟩
theorem Sub.sqL (h : Sub F F') {a : Addr} {xs : List V} (r : SqL K F a xs) : SqL K F' a xs := r.imp h.rd id
theorem Sub.sqT (h : Sub F F') {a : Addr} {xs : List V} (r : SqT K F a xs) : SqT K F' a xs := r.imp h.rd id
mutual
theorem Den.mono (h : Sub F F') : ∀ {v : V} {d : D}, Den K F v d → Den K F' v d
  | _, _, .non => .non
  | _, _, .bl b => .bl b
  | _, _, .int b => .int b
  | _, _, .str b => .str b
  | _, _, .ty b => .ty b
  | _, _, .ref b => .ref b
  | _, _, .cls b => .cls b
  | _, _, .tup s r => .tup (h.sqT s) (Dens.mono h r)
  | _, _, .lst s r => .lst (h _ _ s) (Dens.mono h r)
  | _, _, .scr s r => .scr (h.sqL s) (Dens.mono h r)
  | _, _, .ins s r => .ins (h _ _ s) (DenF.mono h r)
  | _, _, .dct s r => .dct (h _ _ s) (DenK.mono h r)
  | _, _, .exn0 a C => .exn0 a C
  | _, _, .exn s r => .exn (h _ _ s) (DenF.mono h r)
theorem Dens.mono (h : Sub F F') : ∀ {vs : List V} {ds : List D}, Dens K F vs ds → Dens K F' vs ds
  | _, _, .nil => .nil
  | _, _, .cons a r => .cons (Den.mono h a) (Dens.mono h r)
theorem DenF.mono (h : Sub F F') : ∀ {vs : List (Str × V)} {ds : List (Str × D)}, DenF K F vs ds → DenF K F' vs ds
  | _, _, .nil => .nil
  | _, _, .cons a r => .cons (Den.mono h a) (DenF.mono h r)
theorem DenK.mono (h : Sub F F') : ∀ {vs : List (Key × V)} {ds : List (Key × D)}, DenK K F vs ds → DenK K F' vs ds
  | _, _, .nil => .nil
  | _, _, .cons a r => .cons (Den.mono h a) (DenK.mono h r)
end
theorem Dens.len : ∀ {vs : List V} {ds : List D}, Dens K F vs ds → vs.length = ds.length
  | _, _, .nil => rfl
  | _, _, .cons _ r => by simp [Dens.len r]
theorem Dens.get : ∀ {vs : List V} {ds : List D} {i : Nat} {d : D}, Dens K F vs ds → ds[i]? = some d → ∃ v, vs[i]? = some v ∧ Den K F v d
  | _, _, _, _, .nil, e => by simp at e
  | _, _, 0, _, .cons a r, e => by simp at e; subst e; exact ⟨_, rfl, a⟩
  | _, _, i + 1, _, .cons a r, e => by
    obtain ⟨v, h1, h2⟩ := Dens.get (i := i) r (by simpa using e)
    exact ⟨v, by simpa using h1, h2⟩
theorem Dens.app : ∀ {vs ws : List V} {ds es : List D}, Dens K F vs ds → Dens K F ws es → Dens K F (vs ++ ws) (ds ++ es)
  | _, _, _, _, .nil, s => s
  | _, _, _, _, .cons a r, s => .cons a (Dens.app r s)
theorem Dens.take : ∀ {vs : List V} {ds : List D} (n : Nat), Dens K F vs ds → Dens K F (vs.take n) (ds.take n)
  | _, _, 0, _ => .nil
  | _, _, _ + 1, .nil => .nil
  | _, _, n + 1, .cons a r => .cons a (Dens.take n r)
theorem Dens.drop : ∀ {vs : List V} {ds : List D} (n : Nat), Dens K F vs ds → Dens K F (vs.drop n) (ds.drop n)
  | _, _, 0, r => r
  | _, _, _ + 1, .nil => .nil
  | _, _, n + 1, .cons _ r => Dens.drop n r
theorem Dens.ints : ∀ {vs : List V} {ns : List Int}, Dens K F vs (ns.map D.int) → vs = ns.map V.int
  | _, [], .nil => rfl
  | _, n :: ns, .cons (.int _) r => by rw [Dens.ints (ns := ns) r]; rfl
theorem Dens.of_ints : ∀ (ns : List Int), Dens K F (ns.map V.int) (ns.map D.int)
  | [] => .nil
  | n :: ns => .cons (.int n) (Dens.of_ints ns)
theorem DenF.look {f : Str} : ∀ {vs : List (Str × V)} {ds : List (Str × D)} {d : D}, DenF K F vs ds → ds.lookup f = some d → ∃ v, vs.lookup f = some v ∧ Den K F v d
  | _, _, _, .nil, e => by simp at e
  | _, _, _, .cons (x := x) a r, e => by
    rw [List.lookup_cons] at e ⊢
    cases q : f == x with
    | true => rw [q] at e; simp at e; subst e; exact ⟨_, rfl, a⟩
    | false => rw [q] at e; exact DenF.look r e
end

/-- a value of the mirror -/
def DenS (K : PySem.W.Frag) (ph : List Addr) (H : Hp) (v : V) : SV → Prop
  | .fr d => Den K (hide ph H) v d
  | .cell k => ∃ p, ph[k]? = some p ∧ v = .ref p
abbrev DenSs (K : PySem.W.Frag) (ph : List Addr) (H : Hp) : List V → List SV → Prop := Paired (DenS K ph H)
abbrev DenSF (K : PySem.W.Frag) (ph : List Addr) (H : Hp) : List (Str × V) → List (Str × SV) → Prop := Paired fun p q => p.1 = q.1 ∧ DenS K ph H p.2 q.2
abbrev DenSK {κ : Type} (K : PySem.W.Frag) (ph : List Addr) (H : Hp) : List (κ × V) → List (κ × SV) → Prop := Paired fun p q => p.1 = q.1 ∧ DenS K ph H p.2 q.2
def CellAt (K : PySem.W.Frag) (ph : List Addr) (H : Hp) (p : Addr) : Cell → Prop
  | .lst xs => ∃ vs, H p = some (.lst vs) ∧ DenSs K ph H vs xs
  | .ins C fs => ∃ dx vs, H p = some (.ins (He.ga K C) dx vs) ∧ DenSF K ph H vs fs
  | .tup xs => ∃ vs, H p = some (.tup vs) ∧ DenSs K ph H vs xs
  | .dic kvs => ∃ vs, H p = some (.dK vs) ∧ DenSK K ph H vs kvs
  | .dit kvs => ∃ vs, H p = some (.dT vs) ∧ DenSK K ph H vs kvs
/-- the store lies in the heap -/
structure Good (K : PySem.W.Frag) (ph : List Addr) (H : Hp) (S : Store) : Prop where
  nd : ph.Nodup
  cells : Paired (CellAt K ph H) ph S
/-- the heap went on: no object but the cells was changed, the new cells are new objects -/
structure Ext (ph : List Addr) (H : Hp) (ph' : List Addr) (H' : Hp) : Prop where
  pre : ∃ ps, ph' = ph ++ ps ∧ ∀ p ∈ ps, H p = none
  keep : ∀ a o, H a = some o → a ∉ ph → H' a = some o
  trk : ∀ a, H' a = none → H a = none
theorem Ext.refl (ph : List Addr) (H : Hp) : Ext ph H ph H := ⟨⟨[], by simp, by simp⟩, fun _ _ h _ => h, fun _ h => h⟩
theorem Ext.trans {p1 p2 p3 : List Addr} {H1 H2 H3 : Hp} (a : Ext p1 H1 p2 H2) (b : Ext p2 H2 p3 H3) : Ext p1 H1 p3 H3 := by
  obtain ⟨x, rfl, hx⟩ := a.pre
  obtain ⟨y, rfl, hy⟩ := b.pre
  refine ⟨⟨x ++ y, by simp, fun p hp => ?_⟩, fun c o h n => b.keep c o (a.keep c o h n) ?_, fun c h => a.trk c (b.trk c h)⟩
  · rcases List.mem_append.mp hp with h | h
    · exact hx p h
    · exact a.trk p (hy p h)
  · intro hc
    rcases List.mem_append.mp hc with h' | h'
    · exact n h'
    · have := hx c h'; rw [h] at this; cases this
theorem Ext.sub {ph ph' : List Addr} {H H' : Hp} (e : Ext ph H ph' H') : Sub (hide ph H) (hide ph' H') := fun a o h => by
  obtain ⟨h1, h2⟩ := hide_some h
  obtain ⟨ps, rfl, hps⟩ := e.pre
  refine hide_of (fun hm => ?_) (e.keep a o h2 h1)
  rcases List.mem_append.mp hm with q | q
  · exact h1 q
  · have := hps a q; rw [h2] at this; cases this
section
variable {K : PySem.W.Frag} {ph ph' : List Addr} {H H' : Hp} {S : Store}
theorem DenS.mono (e : Ext ph H ph' H') {v : V} {x : SV} (h : DenS K ph H v x) : DenS K ph' H' v x := by
  cases x with
  | fr d => exact Den.mono e.sub h
  | cell k =>
    obtain ⟨p, h1, h2⟩ := h
    obtain ⟨ps, rfl, _⟩ := e.pre
    refine ⟨p, ?_, h2⟩
    rw [List.getElem?_append_left (List.getElem?_eq_some_iff.mp h1).1]; exact h1
theorem DenSs.mono (e : Ext ph H ph' H') {vs : List V} {xs : List SV} (h : DenSs K ph H vs xs) : DenSs K ph' H' vs xs := Paired.mapP h fun _ _ => DenS.mono e
theorem DenSF.mono (e : Ext ph H ph' H') {vs : List (Str × V)} {xs : List (Str × SV)} (h : DenSF K ph H vs xs) : DenSF K ph' H' vs xs := Paired.mapP h fun _ _ q => ⟨q.1, q.2.mono e⟩
theorem DenSK.mono {κ : Type} (e : Ext ph H ph' H') {vs : List (κ × V)} {xs : List (κ × SV)} (h : DenSK K ph H vs xs) : DenSK K ph' H' vs xs := Paired.mapP h fun _ _ q => ⟨q.1, q.2.mono e⟩
theorem paired_imp {α β : Type} {P Q : α → β → Prop} : ∀ {l : List α} {m : List β}, Paired P l m → (∀ a b, a ∈ l → P a b → Q a b) → Paired Q l m
  | _, _, .nil, _ => .nil
  | _, _, .cons h t, f => .cons (f _ _ List.mem_cons_self h) (paired_imp t fun a b m => f a b (List.mem_cons_of_mem _ m))
theorem paired_get {α β : Type} {P : α → β → Prop} : ∀ {l : List α} {m : List β} {k : Nat} {b : β}, Paired P l m → m[k]? = some b → ∃ a, l[k]? = some a ∧ P a b
  | _, _, _, _, .nil, e => by simp at e
  | _, _, 0, _, .cons h t, e => by simp at e; subst e; exact ⟨_, rfl, h⟩
  | _, _, k + 1, _, .cons h t, e => by
    obtain ⟨v, h1, h2⟩ := paired_get (k := k) t (by simpa using e)
    exact ⟨v, by simpa using h1, h2⟩
theorem paired_set {α β : Type} {P Q : α → β → Prop} {y : β} : ∀ {l : List α} {m : List β} {k : Nat} {x : α}, Paired P l m → l[k]? = some x → (∀ j a b, j ≠ k → l[j]? = some a → P a b → Q a b) → Q x y → Paired Q l (m.set k y)
  | _, _, _, _, .nil, e, _, _ => by simp at e
  | _, _, 0, _, .cons h t, e, f, q => by
    simp at e; subst e
    refine .cons q (paired_imp t fun a b m hp => ?_)
    obtain ⟨j, hj, ej⟩ := List.getElem_of_mem m
    exact f (j + 1) a b (by omega) (by simp [List.getElem?_eq_getElem hj, ej]) hp
  | _, _, k + 1, x, .cons h t, e, f, q => .cons (f 0 _ _ (by omega) (by simp) h) (paired_set (k := k) (x := x) t (by simpa using e) (fun j a b hj ha hp => f (j + 1) a b (by omega) (by simpa using ha) hp) q)
theorem CellAt.mono (e : Ext ph H ph' H') {p : Addr} {c : Cell} (hp : ∀ o, H p = some o → H' p = some o) (h : CellAt K ph H p c) : CellAt K ph' H' p c := by
  cases c with
  | lst xs => obtain ⟨vs, h1, h2⟩ := h; exact ⟨vs, hp _ h1, h2.mono e⟩
  | ins C fs => obtain ⟨dx, vs, h1, h2⟩ := h; exact ⟨dx, vs, hp _ h1, h2.mono e⟩
  | tup xs => obtain ⟨vs, h1, h2⟩ := h; exact ⟨vs, hp _ h1, h2.mono e⟩
  | dic kvs => obtain ⟨vs, h1, h2⟩ := h; exact ⟨vs, hp _ h1, DenSK.mono e h2⟩
  | dit kvs => obtain ⟨vs, h1, h2⟩ := h; exact ⟨vs, hp _ h1, DenSK.mono e h2⟩
theorem CellAt.there {p : Addr} {c : Cell} (h : CellAt K ph H p c) : ∃ o, H p = some o := by
  cases c with
  | lst xs => obtain ⟨vs, h1, _⟩ := h; exact ⟨_, h1⟩
  | ins C fs => obtain ⟨dx, vs, h1, _⟩ := h; exact ⟨_, h1⟩
  | tup xs => obtain ⟨vs, h1, _⟩ := h; exact ⟨_, h1⟩
  | dic kvs => obtain ⟨vs, h1, _⟩ := h; exact ⟨_, h1⟩
  | dit kvs => obtain ⟨vs, h1, _⟩ := h; exact ⟨_, h1⟩
theorem Good.len (g : Good K ph H S) : ph.length = S.length := g.cells.length
theorem Good.at (g : Good K ph H S) {k : Nat} {c : Cell} (h : S[k]? = some c) : ∃ p, ph[k]? = some p ∧ CellAt K ph H p c := paired_get g.cells h
theorem Good.there (g : Good K ph H S) {p : Addr} (h : p ∈ ph) : ∃ o, H p = some o := by
  obtain ⟨k, hk, e⟩ := List.getElem_of_mem h
  have hk' : k < S.length := by rw [← g.len]; exact hk
  obtain ⟨q, h1, h2⟩ := g.at (List.getElem?_eq_getElem hk')
  rw [List.getElem?_eq_getElem hk] at h1
  cases h1
  rw [e] at h2
  exact h2.there
theorem Good.new (g : Good K ph H S) {p : Addr} (h : H p = none) : p ∉ ph := fun m => by
  obtain ⟨o, e⟩ := g.there m
  rw [h] at e; cases e
/-- a new object, not a cell -/
theorem Ext.fresh {p : Addr} {o : HO} (h : H p = none) : Ext ph H ph (upd H p o) :=
  ⟨⟨[], by simp, by simp⟩, fun a u e _ => by rw [upd_ne (ne_of_none e h)]; exact e, fun a e => by
    by_cases q : a = p
    · rw [q]; exact h
    · rw [upd_ne q] at e; exact e⟩
theorem Good.fresh (g : Good K ph H S) {p : Addr} {o : HO} (h : H p = none) : Good K ph (upd H p o) S :=
  ⟨g.nd, paired_imp g.cells fun a c _ hc => hc.mono (Ext.fresh h) fun u e => by rw [upd_ne (ne_of_none e h)]; exact e⟩
/-- a new object as a cell -/
theorem Ext.cell {p : Addr} {o : HO} (h : H p = none) : Ext ph H (ph ++ [p]) (upd H p o) :=
  ⟨⟨[p], rfl, fun q hq => by rw [List.mem_singleton.mp hq]; exact h⟩, (Ext.fresh (ph := ph) h).keep, (Ext.fresh (ph := ph) h).trk⟩
theorem paired_snoc {α β : Type} {P : α → β → Prop} {a : α} {b : β} {l : List α} {m : List β} (h : Paired P l m) (q : P a b) : Paired P (l ++ [a]) (m ++ [b]) := Paired.snoc h q
theorem Good.cell (g : Good K ph H S) {p : Addr} {o : HO} {c : Cell} (h : H p = none) (hc : CellAt K (ph ++ [p]) (upd H p o) p c) : Good K (ph ++ [p]) (upd H p o) (S ++ [c]) := by
  refine ⟨List.nodup_append.mpr ⟨g.nd, by simp, fun a ha b hb e => ?_⟩, paired_snoc (paired_imp g.cells fun a u _ hu => hu.mono (Ext.cell h) fun w e => by rw [upd_ne (ne_of_none e h)]; exact e) hc⟩
  have := List.mem_singleton.mp hb
  subst this; subst e
  exact g.new h ha
/-- a cell written -/
theorem hide_upd {p : Addr} {o : HO} (h : p ∈ ph) : hide ph (upd H p o) = hide ph H := by
  funext a
  unfold hide
  by_cases q : a ∈ ph
  · rw [if_pos q, if_pos q]
  · rw [if_neg q, if_neg q, upd_ne (fun e : a = p => q (e ▸ h))]
theorem Ext.write {p : Addr} {o : HO} (h : p ∈ ph) : Ext ph H ph (upd H p o) :=
  ⟨⟨[], by simp, by simp⟩, fun a u e n => by rw [upd_ne (fun q : a = p => n (q ▸ h))]; exact e, fun a e => by
    by_cases q : a = p
    · rw [q, upd_same] at e; cases e
    · rw [upd_ne q] at e; exact e⟩
theorem nodup_at {l : List Addr} (n : l.Nodup) {i j : Nat} {a : Addr} (h1 : l[i]? = some a) (h2 : l[j]? = some a) : i = j := by
  obtain ⟨k1, e1⟩ := List.getElem?_eq_some_iff.mp h1
  obtain ⟨k2, e2⟩ := List.getElem?_eq_some_iff.mp h2
  exact (List.getElem_inj n).mp (e1.trans e2.symm)
theorem Good.write (g : Good K ph H S) {k : Nat} {p : Addr} {o : HO} {c : Cell} (hp : ph[k]? = some p) (hc : CellAt K ph (upd H p o) p c) : Good K ph (upd H p o) (S.set k c) := by
  have hm : p ∈ ph := List.mem_of_getElem? hp
  refine ⟨g.nd, paired_set g.cells hp (fun j a b hj ha hb => hb.mono (Ext.write hm) fun u e => ?_) hc⟩
  rw [upd_ne (fun q : a = p => hj (nodup_at g.nd (q ▸ ha) hp))]
  exact e
end
end DL

namespace DL
open PySem L2

/-! ### judgements -/
/-- what is wanted where an error leaves: by the state ahead, the error, the slots and the store at the raise -/
structure XW (K : PySem.W.Frag) where
  rel : List Addr → Hp → Exc → Slots → Store → Prop
  mono : ∀ ph H ph' H' e r S, Ext ph H ph' H' → rel ph H e r S → rel ph' H' e r S
abbrev EM := Slots → Store → Res (SV × Store)
abbrev TM := Slots → Store → Res (Bool × Store)
abbrev AM := Slots → Store → Res (List SV × Store)
def SlotsOk (K : PySem.W.Frag) (ph : List Addr) (H : Hp) (sg : L2.St) (rho : Slots) : Prop :=
  rho.length ≤ sg.length ∧ ∀ (i : Nat) (x : SV), rho[i]? = some (some x) → ∃ v, sg[i]? = some (some v) ∧ DenS K ph H v x
theorem SlotsOk.mono {K : PySem.W.Frag} {ph ph' : List Addr} {H H' : Hp} {sg : L2.St} {rho : Slots} (e : Ext ph H ph' H') (h : SlotsOk K ph H sg rho) : SlotsOk K ph' H' sg rho :=
  ⟨h.1, fun i x q => let ⟨v, a, b⟩ := h.2 i x q; ⟨v, a, b.mono e⟩⟩
theorem SlotsOk.set {K : PySem.W.Frag} {ph : List Addr} {H : Hp} {sg : L2.St} {rho : Slots} (h : SlotsOk K ph H sg rho) (i : Nat) {v : V} {x : SV} (hv : DenS K ph H v x) : SlotsOk K ph H (sg.set i (some v)) (rho.set i (some x)) := by
  refine ⟨by simpa using h.1, fun j y q => ?_⟩
  by_cases e : i = j
  · subst e
    by_cases hi : i < rho.length
    · rw [List.getElem?_set_self hi] at q
      have := Option.some.inj (Option.some.inj q)
      subst this
      exact ⟨v, List.getElem?_set_self (Nat.lt_of_lt_of_le hi h.1), hv⟩
    · rw [List.getElem?_eq_none (by simpa using hi)] at q; cases q
  · rw [List.getElem?_set_ne e] at q
    rw [List.getElem?_set_ne e]
    exact h.2 j y q
def post (K : PySem.W.Frag) (ph : List Addr) (H : Hp) (Q : VK) : SV × Store → Prop := fun r =>
  ∀ ph' v H', Ext ph H ph' H' → Good K ph' H' r.2 → DenS K ph' H' v r.1 → Q v H'
def postT (K : PySem.W.Frag) (ph : List Addr) (H : Hp) (Q : Bool → Hp → Prop) : Bool × Store → Prop := fun r =>
  ∀ ph' H', Ext ph H ph' H' → Good K ph' H' r.2 → Q r.1 H'
def postA (K : PySem.W.Frag) (ph : List Addr) (H : Hp) (Q : List V → Hp → Prop) : List SV × Store → Prop := fun r =>
  ∀ ph' vs H', Ext ph H ph' H' → Good K ph' H' r.2 → DenSs K ph' H' vs r.1 → Q vs H'
theorem post.mono {K : PySem.W.Frag} {ph ph' : List Addr} {H H' : Hp} {Q : VK} (e : Ext ph H ph' H') (r : SV × Store) (h : post K ph H Q r) : post K ph' H' Q r := fun p v G a g d => h p v G (e.trans a) g d
theorem postT.mono {K : PySem.W.Frag} {ph ph' : List Addr} {H H' : Hp} {Q : Bool → Hp → Prop} (e : Ext ph H ph' H') (r : Bool × Store) (h : postT K ph H Q r) : postT K ph' H' Q r := fun p G a g => h p G (e.trans a) g
theorem postA.mono {K : PySem.W.Frag} {ph ph' : List Addr} {H H' : Hp} {Q : List V → Hp → Prop} (e : Ext ph H ph' H') (r : List SV × Store) (h : postA K ph H Q r) : postA K ph' H' Q r := fun p v G a g d => h p v G (e.trans a) g d
section
variable {X : Cx} {W : XW X.K}
/-- an expression's reading follows from the mirror's run -/
structure PD (X : Cx) (W : XW X.K) (e : Expr) (m : EM) : Prop where
  ex : ∃ t, PE X e t ∧ ∀ (ph : List Addr) (S : Store) (H : Hp) (sg : L2.St) (rho : Slots) (Q : VK), Good X.K ph H S → SlotsOk X.K ph H sg rho →
    holds (m rho S) (post X.K ph H Q) (W.rel ph H) → t sg H Q
structure PDT (X : Cx) (W : XW X.K) (e : Expr) (m : TM) : Prop where
  ex : ∃ t, PT X e t ∧ ∀ (ph : List Addr) (S : Store) (H : Hp) (sg : L2.St) (rho : Slots) (Q : Bool → Hp → Prop), Good X.K ph H S → SlotsOk X.K ph H sg rho →
    holds (m rho S) (postT X.K ph H Q) (W.rel ph H) → t sg H Q
structure PDA (X : Cx) (W : XW X.K) (es : List Expr) (m : AM) : Prop where
  ex : ∃ t, PA X es t ∧ ∀ (ph : List Addr) (S : Store) (H : Hp) (sg : L2.St) (rho : Slots) (Q : List V → Hp → Prop), Good X.K ph H S → SlotsOk X.K ph H sg rho →
    holds (m rho S) (postA X.K ph H Q) (W.rel ph H) → t sg H Q

/-! ### names and constants -/
def eV (i : Nat) : EM := fun rho S => match rho[i]? with
  | some (some x) => .ok (x, S)
  | _ => .stuck
def eC (d : D) : EM := fun _ S => .ok (.fr d, S)
theorem pd_v (i : Nat) {x : Str} {pos : Pos} (hN : X.N[i]? = some x := by rfl) (hv : Vis X.env.scope x := by first | exact Or.inl rfl | exact Or.inr (Or.inl rfl) | exact Or.inr (Or.inr rfl)) (hd : (x == ("__debug__" : Str)) = false := by decide)
    (hcd : (x == ("__classdict__" : Str)) = false := by decide) : PD X W (.Name x pos) (eV i) := by
  refine ⟨_, pe_var hN hv hd hcd, fun ph S H sg rho Q g so h => ?_⟩
  unfold eV at h
  split at h
  · rename_i y hy
    obtain ⟨v, h1, h2⟩ := so.2 i y hy
    exact ⟨v, h1, h ph v H (Ext.refl _ _) g h2⟩
  · exact h.elim
theorem pd_const {e : Expr} {v : V} {d : D} (h : PE X e (tC v)) (hd : ∀ F, Den X.K F v d) : PD X W e (eC d) :=
  ⟨_, h, fun ph S H sg rho Q g so hq => hq ph v H (Ext.refl _ _) g (hd _)⟩
theorem pd_int {i : Int} {j pos} : PD X W (.Constant (.int i) j pos) (eC (.int i)) := pd_const pe_int fun _ => .int _
theorem pd_bl {b : Bool} {j pos} : PD X W (.Constant (.bool b) j pos) (eC (.bl b)) := pd_const pe_bl fun _ => .bl _
theorem pd_non {j pos} : PD X W (.Constant .none j pos) (eC .non) := pd_const pe_non fun _ => .non
theorem pd_str {x : Str} {j pos} : PD X W (.Constant (.str x) j pos) (eC (.str x)) := pd_const pe_str fun _ => .str _

/-! ### operators by values -/
abbrev G1 := SV → Store → Res (SV × Store)
abbrev G2 := SV → SV → Store → Res (SV × Store)
abbrev GA := List SV → Store → Res (SV × Store)
/-- the reading r of two values follows from g -/
def Op2 (X : Cx) (W : XW X.K) (r : R2) (g : G2) : Prop := ∀ (ph : List Addr) (S : Store) (H : Hp) (x y : V) (a b : SV) (Q : VK), Good X.K ph H S → DenS X.K ph H x a → DenS X.K ph H y b →
  holds (g a b S) (post X.K ph H Q) (W.rel ph H) → r x y H Q
def Op1 (X : Cx) (W : XW X.K) (r : V → Hp → VK → Prop) (g : G1) : Prop := ∀ (ph : List Addr) (S : Store) (H : Hp) (x : V) (a : SV) (Q : VK), Good X.K ph H S → DenS X.K ph H x a →
  holds (g a S) (post X.K ph H Q) (W.rel ph H) → r x H Q
def OpA (X : Cx) (W : XW X.K) (r : List V → Hp → VK → Prop) (g : GA) : Prop := ∀ (ph : List Addr) (S : Store) (H : Hp) (xs : List V) (as : List SV) (Q : VK), Good X.K ph H S → DenSs X.K ph H xs as →
  holds (g as S) (post X.K ph H Q) (W.rel ph H) → r xs H Q
def e2 (g : G2) (a b : EM) : EM := fun rho S => (a rho S).bind fun x => (b rho x.2).bind fun y => g x.1 y.1 y.2
def e1 (g : G1) (a : EM) : EM := fun rho S => (a rho S).bind fun x => g x.1 x.2
variable {a b : Expr} {ma mb : EM} {pos : Pos}
theorem snd2 {ta tb : TE} {r : R2} {g : G2}
    (ha : ∀ (ph : List Addr) (S : Store) (H : Hp) (sg : L2.St) (rho : Slots) (Q : VK), Good X.K ph H S → SlotsOk X.K ph H sg rho → holds (ma rho S) (post X.K ph H Q) (W.rel ph H) → ta sg H Q)
    (hb : ∀ (ph : List Addr) (S : Store) (H : Hp) (sg : L2.St) (rho : Slots) (Q : VK), Good X.K ph H S → SlotsOk X.K ph H sg rho → holds (mb rho S) (post X.K ph H Q) (W.rel ph H) → tb sg H Q)
    (hr : Op2 X W r g) (ph : List Addr) (S : Store) (H : Hp) (sg : L2.St) (rho : Slots) (Q : VK) (gd : Good X.K ph H S) (so : SlotsOk X.K ph H sg rho)
    (h : holds (e2 g ma mb rho S) (post X.K ph H Q) (W.rel ph H)) : ta sg H fun x H1 => tb sg H1 fun y H2 => r x y H2 Q := by
  refine ha ph S H sg rho _ gd so (holds_imp (holds_bind h) (fun x hx => ?_) fun _ _ _ q => q)
  intro ph1 v1 H1 x1 g1 d1
  refine hb ph1 x.2 H1 sg rho _ g1 (so.mono x1) (holds_imp (holds_bind hx) (fun y hy => ?_) fun e r s q => W.mono _ _ _ _ e r s x1 q)
  intro ph2 v2 H2 x2 g2 d2
  exact hr ph2 y.2 H2 v1 v2 x.1 y.1 Q g2 (d1.mono x2) d2 (holds_imp hy (fun c => post.mono (x1.trans x2) c) fun e r s q => W.mono _ _ _ _ e r s (x1.trans x2) q)
theorem pd_2 {op : Operator} {r : R2} {g : G2} (ho : OpR X (binaryOp op) r) (hr : Op2 X W r g) (ha : PD X W a ma) (hb : PD X W b mb) : PD X W (.BinOp a op b pos) (e2 g ma mb) := by
  obtain ⟨ta, pa, sa⟩ := ha.ex
  obtain ⟨tb, pb, sb⟩ := hb.ex
  exact ⟨_, pe_op ho pa pb, fun ph S H sg rho Q gd so h => snd2 sa sb hr ph S H sg rho Q gd so h⟩
theorem pd_cmp {op : CmpOp} {r : R2} {g : G2} (ho : OpR X (compareOp op) r) (hr : Op2 X W r g) (ha : PD X W a ma) (hb : PD X W b mb) (hm : behindInMarks op b = false := by first | exact nomark _ | rfl) : PD X W (.Compare a [op] [b] pos) (e2 g ma mb) := by
  obtain ⟨ta, pa, sa⟩ := ha.ex
  obtain ⟨tb, pb, sb⟩ := hb.ex
  exact ⟨_, pe_cmpR ho pa pb hm, fun ph S H sg rho Q gd so h => snd2 sa sb hr ph S H sg rho Q gd so h⟩
theorem pd_1 {op : UnaryOp} {r : V → Hp → VK → Prop} {g : G1} (ho : UnR X (unaryOp op) r) (hr : Op1 X W r g) (ha : PD X W a ma) : PD X W (.UnaryOp op a pos) (e1 g ma) := by
  obtain ⟨ta, pa, sa⟩ := ha.ex
  refine ⟨_, pe_un ho pa, fun ph S H sg rho Q gd so h => sa ph S H sg rho _ gd so (holds_imp (holds_bind h) (fun x hx => ?_) fun _ _ _ q => q)⟩
  intro ph1 v1 H1 x1 g1 d1
  exact hr ph1 x.2 H1 v1 x.1 Q g1 d1 (holds_imp hx (fun c => post.mono x1 c) fun e r s q => W.mono _ _ _ _ e r s x1 q)

/-! ### arguments -/
def aN : AM := fun _ S => .ok ([], S)
def aC (a : EM) (r : AM) : AM := fun rho S => (a rho S).bind fun x => (r rho x.2).bind fun y => .ok (x.1 :: y.1, y.2)
theorem pda_nil : PDA X W [] aN := ⟨_, pa_nil, fun ph S H sg rho Q g so h => h ph [] H (Ext.refl _ _) g .nil⟩
theorem pda_cons {es : List Expr} {mr : AM} (ha : PD X W a ma) (hr : PDA X W es mr) (hs : starEach (a :: es) X.env = (false, eval a X.env) :: starEach es X.env := by rfl) : PDA X W (a :: es) (aC ma mr) := by
  obtain ⟨ta, pa, sa⟩ := ha.ex
  obtain ⟨tr, pr, sr⟩ := hr.ex
  refine ⟨_, pa_cons pa pr hs, fun ph S H sg rho Q gd so h => sa ph S H sg rho _ gd so (holds_imp (holds_bind h) (fun x hx => ?_) fun _ _ _ q => q)⟩
  intro ph1 v1 H1 x1 g1 d1
  refine sr ph1 x.2 H1 sg rho _ g1 (so.mono x1) (holds_imp (holds_bind hx) (fun y hy => ?_) fun e r s q => W.mono _ _ _ _ e r s x1 q)
  intro ph2 vs H2 x2 g2 d2
  exact hy ph2 (v1 :: vs) H2 (x1.trans x2) g2 (.cons (d1.mono x2) d2)
/-- a reading of argument values behind the arguments -/
def eA (g : GA) (m : AM) : EM := fun rho S => (m rho S).bind fun x => g x.1 x.2
theorem sndA {t : TA} {m : AM} {r : List V → Hp → VK → Prop} {g : GA}
    (ha : ∀ (ph : List Addr) (S : Store) (H : Hp) (sg : L2.St) (rho : Slots) (Q : List V → Hp → Prop), Good X.K ph H S → SlotsOk X.K ph H sg rho → holds (m rho S) (postA X.K ph H Q) (W.rel ph H) → t sg H Q)
    (hr : OpA X W r g) (ph : List Addr) (S : Store) (H : Hp) (sg : L2.St) (rho : Slots) (Q : VK) (gd : Good X.K ph H S) (so : SlotsOk X.K ph H sg rho)
    (h : holds (eA g m rho S) (post X.K ph H Q) (W.rel ph H)) : t sg H fun xs H1 => r xs H1 Q := by
  refine ha ph S H sg rho _ gd so (holds_imp (holds_bind h) (fun x hx => ?_) fun _ _ _ q => q)
  intro ph1 vs H1 x1 g1 d1
  exact hr ph1 x.2 H1 vs x.1 Q g1 d1 (holds_imp hx (fun c => post.mono x1 c) fun e r s q => W.mono _ _ _ _ e r s x1 q)

/-! ### new lists and tuples -/
def allFr : List SV → Option (List D)
  | [] => some []
  | .fr d :: r => (allFr r).map (d :: ·)
  | .cell _ :: _ => none
theorem allFr_map : ∀ ds : List D, allFr (ds.map SV.fr) = some ds
  | [] => rfl
  | d :: ds => by simp [allFr, allFr_map ds]
theorem allFr_eq : ∀ {xs : List SV} {ds : List D}, allFr xs = some ds → xs = ds.map SV.fr
  | [], ds, h => by simp [allFr] at h; subst h; rfl
  | .fr d :: r, ds, h => by
    simp only [allFr, Option.map_eq_some_iff] at h
    obtain ⟨es, h1, rfl⟩ := h
    rw [allFr_eq h1]; rfl
  | .cell _ :: _, _, h => by simp [allFr] at h
theorem dens_of {K : PySem.W.Frag} {ph : List Addr} {H : Hp} : ∀ {ds : List D} {vs : List V}, DenSs K ph H vs (ds.map SV.fr) → Dens K (hide ph H) vs ds
  | [], _, .nil => .nil
  | d :: ds, _, .cons h t => .cons h (dens_of t)
theorem of_dens {K : PySem.W.Frag} {ph : List Addr} {H : Hp} : ∀ {ds : List D} {vs : List V}, Dens K (hide ph H) vs ds → DenSs K ph H vs (ds.map SV.fr)
  | _, _, .nil => .nil
  | _, _, .cons h t => .cons h (of_dens t)
/-- a new list: a cell, or plain data -/
def newL (m : Bool) (xs : List SV) (S : Store) : Res (SV × Store) := if xs.length ≤ sizeLine then (if m then .ok (.cell S.length, S ++ [.lst xs]) else match allFr xs with
  | some ds => .ok (.fr (.lst ds), S)
  | none => .stuck) else .stuck
def newT (xs : List SV) (S : Store) : Res (SV × Store) := if xs.length ≤ sizeLine then (match allFr xs with
  | some ds => .ok (.fr (.tup ds), S)
  | none => .stuck) else .stuck
theorem newL_ok {K : PySem.W.Frag} {ph : List Addr} {H : Hp} {S : Store} {vs : List V} {xs : List SV} {m : Bool} {Q : VK} {E : Exc → Slots → Store → Prop} (g : Good K ph H S) (d : DenSs K ph H vs xs) (h : holds (newL m xs S) (post K ph H Q) E) :
    vs.length ≤ sizeLine ∧ ∀ p, H p = none → Q (.ref p) (upd H p (.lst vs)) := by
  unfold newL at h
  split at h
  · rename_i hz
    refine ⟨by rw [d.length]; exact hz, fun p hp => ?_⟩
    cases m with
    | true =>
      have e : Ext ph H (ph ++ [p]) (upd H p (.lst vs)) := Ext.cell hp
      exact h (ph ++ [p]) (.ref p) _ e (g.cell hp ⟨vs, upd_same, d.mono e⟩) ⟨p, by rw [← g.len]; simp, rfl⟩
    | false =>
      simp only [Bool.false_eq_true, if_false] at h
      split at h
      · rename_i ds hd
        have e : Ext ph H ph (upd H p (.lst vs)) := Ext.fresh hp
        refine h ph (.ref p) _ e (g.fresh hp) (.lst (vs := vs) (hide_of (g.new hp) upd_same) ?_)
        have d' := d.mono e
        rw [allFr_eq hd] at d'
        exact dens_of d'
      · exact h.elim
  · exact h.elim
theorem newT_ok {K : PySem.W.Frag} {ph : List Addr} {H : Hp} {S : Store} {vs : List V} {xs : List SV} {Q : VK} {E : Exc → Slots → Store → Prop} (g : Good K ph H S) (d : DenSs K ph H vs xs) (h : holds (newT xs S) (post K ph H Q) E) :
    vs.length ≤ sizeLine ∧ ∀ p, H p = none → Q (.ref p) (upd H p (.tup vs)) := by
  unfold newT at h
  split at h
  · rename_i hz
    refine ⟨by rw [d.length]; exact hz, fun p hp => ?_⟩
    split at h
    · rename_i ds hd
      have e : Ext ph H ph (upd H p (.tup vs)) := Ext.fresh hp
      refine h ph (.ref p) _ e (g.fresh hp) (.tup (vs := vs) (.inl (.inl (hide_of (g.new hp) upd_same))) ?_)
      have d' := d.mono e
      rw [allFr_eq hd] at d'
      exact dens_of d'
    · exact h.elim
  · exact h.elim
/-- a tuple with lists of its own: a cell, never changed -/
def newTC (xs : List SV) (S : Store) : Res (SV × Store) := if xs.length ≤ sizeLine then .ok (.cell S.length, S ++ [.tup xs]) else .stuck
theorem newTC_ok {K : PySem.W.Frag} {ph : List Addr} {H : Hp} {S : Store} {vs : List V} {xs : List SV} {Q : VK} {E : Exc → Slots → Store → Prop} (g : Good K ph H S) (d : DenSs K ph H vs xs) (h : holds (newTC xs S) (post K ph H Q) E) :
    vs.length ≤ sizeLine ∧ ∀ p, H p = none → Q (.ref p) (upd H p (.tup vs)) := by
  unfold newTC at h
  split at h
  · rename_i hz
    refine ⟨by rw [d.length]; exact hz, fun p hp => ?_⟩
    have e : Ext ph H (ph ++ [p]) (upd H p (.tup vs)) := Ext.cell hp
    exact h (ph ++ [p]) (.ref p) _ e (g.cell hp ⟨vs, upd_same, d.mono e⟩) ⟨p, by rw [← g.len]; simp, rfl⟩
  · exact h.elim
theorem pd_tupC {es : List Expr} {m : AM} {k : Nat} (h : PDA X W es m) : PD X W (.Tuple es k pos) (eA newTC m) := by
  obtain ⟨t, p, s⟩ := h.ex
  exact ⟨_, pe_tup p, fun ph S H sg rho Q gd so h => sndA (r := fun xs H1 Q => xs.length ≤ sizeLine ∧ ∀ p, H1 p = none → Q (.ref p) (upd H1 p (.tup xs))) s (fun _ _ _ _ _ _ g d hq => newTC_ok g d hq) ph S H sg rho Q gd so h⟩
theorem pd_lst {es : List Expr} {m : AM} (c : Bool) (h : PDA X W es m) : PD X W (.List es pos) (eA (newL c) m) := by
  obtain ⟨t, p, s⟩ := h.ex
  exact ⟨_, pe_lst p, fun ph S H sg rho Q gd so h => sndA (r := fun xs H1 Q => xs.length ≤ sizeLine ∧ ∀ p, H1 p = none → Q (.ref p) (upd H1 p (.lst xs))) s (fun _ _ _ _ _ _ g d hq => newL_ok g d hq) ph S H sg rho Q gd so h⟩
theorem pd_tup {es : List Expr} {m : AM} {k : Nat} (h : PDA X W es m) : PD X W (.Tuple es k pos) (eA newT m) := by
  obtain ⟨t, p, s⟩ := h.ex
  exact ⟨_, pe_tup p, fun ph S H sg rho Q gd so h => sndA (r := fun xs H1 Q => xs.length ≤ sizeLine ∧ ∀ p, H1 p = none → Q (.ref p) (upd H1 p (.tup xs))) s (fun _ _ _ _ _ _ g d hq => newT_ok g d hq) ph S H sg rho Q gd so h⟩
end

/-! ### reading values -/
/-- a value's plain data as it is now, a list of plain items at most -/
def snap0 (S : Store) : SV → Option D
  | .fr d => some d
  | .cell k => match S[k]? with
    | some (.lst xs) => (allFr xs).map D.lst
    | _ => none
def allSn (f : SV → Option D) : List SV → Option (List D)
  | [] => some []
  | x :: xs => match f x, allSn f xs with
    | some d, some ds => some (d :: ds)
    | _, _ => none
/-- the whole of a value as plain data, as it is now -/
def snap (S : Store) : SV → Option D
  | .fr d => some d
  | .cell k => match S[k]? with
    | some (.lst xs) => (allSn (snap0 S) xs).map D.lst
    | some (.tup xs) => (allSn (snap0 S) xs).map D.tup
    | _ => none
theorem allSn_map {f : SV → Option D} (h : ∀ d, f (.fr d) = some d) : ∀ ds : List D, allSn f (ds.map SV.fr) = some ds
  | [] => rfl
  | d :: ds => by simp only [List.map_cons, allSn, h, allSn_map h ds]
theorem snap0_fr (S : Store) (d : D) : snap0 S (.fr d) = some d := rfl
theorem hide_sub {ph : List Addr} {H : Hp} : Sub (hide ph H) H := fun _ _ h => (hide_some h).2
theorem snap0_ok {K : PySem.W.Frag} {ph : List Addr} {H : Hp} {S : Store} {v : V} {x : SV} {d : D} (g : Good K ph H S) (h : DenS K ph H v x) (e : snap0 S x = some d) : Den K H v d := by
  cases x with
  | fr d' => simp [snap0] at e; subst e; exact Den.mono hide_sub h
  | cell k =>
    obtain ⟨p, h1, rfl⟩ := h
    unfold snap0 at e
    dsimp only at e
    split at e
    · rename_i xs hk
      simp only [Option.map_eq_some_iff] at e
      obtain ⟨ds, h2, rfl⟩ := e
      obtain ⟨q, h3, vs, h4, h5⟩ := g.at hk
      rw [h1] at h3; cases h3
      rw [allFr_eq h2] at h5
      exact .lst h4 (Dens.mono hide_sub (dens_of h5))
    · cases e
theorem snaps_ok {K : PySem.W.Frag} {ph : List Addr} {H : Hp} {S : Store} (g : Good K ph H S) : ∀ {vs : List V} {xs : List SV} {ds : List D}, DenSs K ph H vs xs → allSn (snap0 S) xs = some ds → Dens K H vs ds
  | _, _, ds, .nil, e => by simp [allSn] at e; subst e; exact .nil
  | _, _, ds, .cons h t, e => by
    unfold allSn at e
    split at e
    · rename_i d r h1 h2
      cases e
      exact .cons (snap0_ok g h h1) (snaps_ok g t h2)
    · cases e
theorem snap_ok {K : PySem.W.Frag} {ph : List Addr} {H : Hp} {S : Store} {v : V} {x : SV} {d : D} (g : Good K ph H S) (h : DenS K ph H v x) (e : snap S x = some d) : Den K H v d := by
  cases x with
  | fr d' => simp [snap] at e; subst e; exact Den.mono hide_sub h
  | cell k =>
    obtain ⟨p, h1, rfl⟩ := h
    unfold snap at e
    dsimp only at e
    split at e
    · rename_i xs hk
      simp only [Option.map_eq_some_iff] at e
      obtain ⟨ds, h2, rfl⟩ := e
      obtain ⟨q, h3, vs, h4, h5⟩ := g.at hk
      rw [h1] at h3; cases h3
      exact .lst h4 (snaps_ok g h5 h2)
    · rename_i xs hk
      simp only [Option.map_eq_some_iff] at e
      obtain ⟨ds, h2, rfl⟩ := e
      obtain ⟨q, h3, vs, h4, h5⟩ := g.at hk
      rw [h1] at h3; cases h3
      exact .tup (.inl (.inl h4)) (snaps_ok g h5 h2)
    · cases e
/-- a list's items -/
def rdL (S : Store) : SV → Option (List SV)
  | .fr (.lst ds) => some (ds.map SV.fr)
  | .cell k => match S[k]? with
    | some (.lst xs) => some xs
    | _ => none
  | _ => none
theorem rdL_at {K : PySem.W.Frag} {ph : List Addr} {H : Hp} {S : Store} {v : V} {x : SV} {xs : List SV} (g : Good K ph H S) (h : DenS K ph H v x) (e : rdL S x = some xs) : ∃ a vs, v = .ref a ∧ H a = some (.lst vs) ∧ DenSs K ph H vs xs := by
  cases x with
  | fr d =>
    cases d with
    | lst ds =>
      simp [rdL] at e; subst e
      cases h with
      | lst s r => exact ⟨_, _, rfl, hide_sub _ _ s, of_dens r⟩
    | _ => simp [rdL] at e
  | cell k =>
    obtain ⟨p, h1, rfl⟩ := h
    unfold rdL at e
    dsimp only at e
    split at e
    · rename_i ys hk
      cases e
      obtain ⟨q, h3, vs, h4, h5⟩ := g.at hk
      rw [h1] at h3; cases h3
      exact ⟨p, vs, rfl, h4, h5⟩
    · cases e
/-- .. or the script's -/
def rdS (S : Store) : SV → Option (List SV)
  | .fr (.scr ds) => some (ds.map SV.fr)
  | x => rdL S x
theorem rdS_ok {K : PySem.W.Frag} {ph : List Addr} {H : Hp} {S : Store} {v : V} {x : SV} {xs : List SV} (g : Good K ph H S) (h : DenS K ph H v x) (e : rdS S x = some xs) : ∃ a vs, v = .ref a ∧ SqL K H a vs ∧ DenSs K ph H vs xs := by
  unfold rdS at e
  split at e
  · cases e
    cases h with
    | scr s r => exact ⟨_, _, rfl, hide_sub.sqL s, of_dens r⟩
  · obtain ⟨a, vs, h1, h2, h3⟩ := rdL_at g h e
    exact ⟨a, vs, h1, .of h2, h3⟩
def rdT : SV → Option (List SV)
  | .fr (.tup ds) => some (ds.map SV.fr)
  | _ => none
theorem rdT_ok {K : PySem.W.Frag} {ph : List Addr} {H : Hp} {v : V} {x : SV} {xs : List SV} (h : DenS K ph H v x) (e : rdT x = some xs) : ∃ a vs, v = .ref a ∧ SqT K H a vs ∧ DenSs K ph H vs xs := by
  cases x with
  | fr d =>
    cases d with
    | tup ds =>
      simp [rdT] at e; subst e
      cases h with
      | tup s r => exact ⟨_, _, rfl, hide_sub.sqT s, of_dens r⟩
    | _ => simp [rdT] at e
  | cell k => simp [rdT] at e
end DL

namespace DL
open PySem L2

/-! ### plain data as the library's -/
mutual
def py : D → PyData
  | .non => .none
  | .bl b => .bool b
  | .int i => .int i
  | .str x => .str x
  | .tup ds => .tuple (pys ds)
  | .lst ds => .list (pys ds)
  | .scr ds => .list (pys ds)
  | .ty _ => .none
  | .ref _ => .none
  | .ins _ _ => .none
  | .cls _ => .none
  | .exn _ _ _ _ => .none
  | .dct _ => .none
def pys : List D → List PyData
  | [] => []
  | d :: ds => py d :: pys ds
end
mutual
def isP : D → Bool
  | .non | .bl _ | .int _ | .str _ => true
  | .tup ds => isPs ds
  | .lst ds => isPs ds
  | .scr ds => isPs ds
  | .ty _ | .ref _ | .ins _ _ | .cls _ | .dct _ | .exn _ _ _ _ => false
def isPs : List D → Bool
  | [] => true
  | d :: ds => isP d && isPs ds
end
section
variable {K : PySem.W.Frag} {H : Hp}
mutual
theorem dp_of : ∀ {d : D} {v : V}, isP d = true → Den K H v d → Dp K H v (py d)
  | .non, _, _, .non => by simp only [py]; exact .non
  | .bl _, _, _, .bl _ => by simp only [py]; exact .bl _
  | .int _, _, _, .int _ => by simp only [py]; exact .int _
  | .str _, _, _, .str _ => by simp only [py]; exact .str _
  | .tup ds, _, h, .tup s r => by simp only [py]; exact .tup s (dps_of (by simpa only [isP] using h) r)
  | .lst ds, _, h, .lst s r => by simp only [py]; exact .lst (.of s) (dps_of (by simpa only [isP] using h) r)
  | .scr ds, _, h, .scr s r => by simp only [py]; exact .lst s (dps_of (by simpa only [isP] using h) r)
  | .ty _, _, h, _ => by simp [isP] at h
  | .ref _, _, h, _ => by simp [isP] at h
  | .ins _ _, _, h, _ => by simp [isP] at h
  | .cls _, _, h, _ => by simp [isP] at h
  | .exn _ _ _ _, _, h, _ => by simp [isP] at h
  | .dct _, _, h, _ => by simp [isP] at h
theorem dps_of : ∀ {ds : List D} {vs : List V}, isPs ds = true → Dens K H vs ds → DpAll K H vs (pys ds)
  | [], _, _, .nil => by simp only [pys]; exact .nil
  | d :: ds, _, h, .cons a r => by
    simp only [isPs, Bool.and_eq_true] at h
    simp only [pys]; exact .cons (dp_of h.1 a) (dps_of h.2 r)
end
mutual
theorem py_nodict : ∀ d : D, (py d).hasDict = false
  | .non | .bl _ | .int _ | .str _ | .ty _ | .ref _ | .ins _ _ | .cls _ | .dct _ | .exn _ _ _ _ => by simp only [py, PyData.hasDict]
  | .tup ds => by simp only [py, PyData.hasDict]; exact pys_nodict ds
  | .lst ds => by simp only [py, PyData.hasDict]; exact pys_nodict ds
  | .scr ds => by simp only [py, PyData.hasDict]; exact pys_nodict ds
theorem pys_nodict : ∀ ds : List D, PyData.hasDictAll (pys ds) = false
  | [] => by simp only [pys, PyData.hasDictAll]
  | d :: ds => by simp only [pys, PyData.hasDictAll, py_nodict d, pys_nodict ds, Bool.or_self]
end
end
/-- == is served for it -/
def plain (d : D) : Bool := isP d && SeqAt.shaped (py d)
def deq (a b : D) : Bool := PyData.eqv (py a) (py b)
/-- repr is served for it -/
def rOk (d : D) : Bool := isP d && (py d).showable && (py d).leavesShort 130 && decide ((py d).bulk ≤ 100000)
def rTxt (d : D) : Str := (py d).shown
theorem rOk_len {d : D} (h : rOk d = true) : (py d).shown.length ≤ sizeLine := by
  unfold rOk at h
  simp only [Bool.and_eq_true, decide_eq_true_eq] at h
  have q := PyData.shown_le_bulk 130 (by decide) (py d) h.1.2
  have e : sizeLine = 16777216 := sizeLine_eq
  omega

/-! ### the operators -/
instance decCMul (i j : Int) : Decidable (CMul i j) := by unfold CMul; infer_instance
instance decCMulW (i j : Int) : Decidable (CMulW i j) := by unfold CMulW; infer_instance
instance decCDiv (i j : Int) : Decidable (CDiv i j) := by unfold CDiv; infer_instance
instance decCDivW (i j : Int) : Decidable (CDivW i j) := by unfold CDivW; infer_instance
instance decCPow (i j : Int) : Decidable (CPow i j) := by unfold CPow; infer_instance
def okV (d : D) (S : Store) : Res (SV × Store) := .ok (.fr d, S)
def addG (c : Bool) : G2 := fun a b S => match a, b with
  | .fr (.int i), .fr (.int j) => okV (.int (i + j)) S
  | .fr (.str i), .fr (.str j) => if i.length + j.length ≤ sizeLine then okV (.str (i ++ j)) S else .stuck
  | .fr (.tup xs), .fr (.tup ys) => if xs.length + ys.length ≤ sizeLine then okV (.tup (xs ++ ys)) S else .stuck
  | _, _ => match rdL S a, rdL S b with
    | some xs, some ys => newL c (xs ++ ys) S
    | _, _ => .stuck
def subG : G2 := fun a b S => match a, b with
  | .fr (.int i), .fr (.int j) => okV (.int (i - j)) S
  | _, _ => .stuck
def mulG (c : Bool) : G2 := fun a b S => match a, b with
  | .fr (.int i), .fr (.int j) => if CMul i j ∨ CMulW i j then okV (.int (i * j)) S else .stuck
  | _, .fr (.int k) => match rdL S a with
    | some xs => if -(2 ^ 63) ≤ k ∧ k < 2 ^ 63 ∧ xs.length * k.toNat ≤ sizeLine then newL c (List.replicate k.toNat xs).flatten S else .stuck
    | none => .stuck
  | _, _ => .stuck
def fdivG : G2 := fun a b S => match a, b with
  | .fr (.int i), .fr (.int j) => if CDiv i j ∨ CDivW i j then okV (.int (i / j)) S else .stuck
  | _, _ => .stuck
def modG : G2 := fun a b S => match a, b with
  | .fr (.int i), .fr (.int j) => if 0 < j then okV (.int (i % j)) S else .stuck
  | _, _ => .stuck
def powG : G2 := fun a b S => match a, b with
  | .fr (.int i), .fr (.int j) => if CPow i j then okV (.int (i ^ j.toNat)) S else .stuck
  | _, _ => .stuck
def shlG : G2 := fun a b S => match a, b with
  | .fr (.int i), .fr (.int j) => if CPow i j then okV (.int (i * 2 ^ j.toNat)) S else .stuck
  | _, _ => .stuck
def negG : G1 := fun a S => match a with
  | .fr (.int i) => okV (.int (-i)) S
  | _ => .stuck
def cmpG (p : Int → Int → Bool) : G2 := fun a b S => match a, b with
  | .fr (.int i), .fr (.int j) => okV (.bl (p i j)) S
  | _, _ => .stuck
abbrev ltG : G2 := cmpG fun i j => decide (i < j)
abbrev leG : G2 := cmpG fun i j => decide (i ≤ j)
abbrev gtG : G2 := cmpG fun i j => decide (j < i)
abbrev geG : G2 := cmpG fun i j => decide (j ≤ i)
def eqD (d e : D) : Option Bool := match d, e with
  | .str x, .str y => some (decide (x = y))
  | _, _ => if plain d && plain e then some (deq d e) else none
def eqG (n : Bool) : G2 := fun a b S => match snap S a, snap S b with
  | some d, some e => match eqD d e with
    | some r => okV (.bl (if n then !r else r)) S
    | none => .stuck
  | _, _ => .stuck
def isNon : SV → Bool
  | .fr .non => true
  | _ => false
def isG (n : Bool) : G2 := fun a b S => match b with
  | .fr .non => okV (.bl (if n then !isNon a else isNon a)) S
  | _ => .stuck
section
variable {X : Cx} {W : XW X.K}
theorem fin_v {ph : List Addr} {S : Store} {H : Hp} {v : V} {d : D} {Q : VK} {E : Exc → Slots → Store → Prop} (g : Good X.K ph H S) (hd : Den X.K (hide ph H) v d) (h : holds (okV d S) (post X.K ph H Q) E) : Q v H :=
  h ph v H (Ext.refl _ _) g hd
theorem d_int {K : PySem.W.Frag} {F : Hp} {v : V} {i : Int} (h : Den K F v (.int i)) : v = .int i := by cases h; rfl
theorem d_bl {K : PySem.W.Frag} {F : Hp} {v : V} {i : Bool} (h : Den K F v (.bl i)) : v = .bl i := by cases h; rfl
theorem d_str {K : PySem.W.Frag} {F : Hp} {v : V} {i : Str} (h : Den K F v (.str i)) : v = .str i := by cases h; rfl
theorem d_non {K : PySem.W.Frag} {F : Hp} {v : V} (h : Den K F v .non) : v = .non := by cases h; rfl
theorem d_tup {K : PySem.W.Frag} {F : Hp} {v : V} {ds : List D} (h : Den K F v (.tup ds)) : ∃ a vs, v = .ref a ∧ SqT K F a vs ∧ Dens K F vs ds := by cases h; exact ⟨_, _, rfl, by assumption, by assumption⟩
abbrev rAddAll (K : PySem.W.Frag) : R2 := fun x y H Q => rI0 (fun i j => .int (i + j)) x y H Q ∨ (∃ i j, x = .str i ∧ y = .str j ∧ i.length + j.length ≤ sizeLine ∧ Q (.str (i ++ j)) H) ∨ rCatA K x y H Q ∨ rCat x y H Q
theorem op_addAll : OpR X (binaryOp .Add) (rAddAll X.K) := op_add.or (op_add_str.or (op_catA.or op_cat))
theorem add_ok (c : Bool) : Op2 X W (rAddAll X.K) (addG c) := by
  intro ph S H x y a b Q g da db h
  unfold addG at h
  split at h
  · rw [d_int da, d_int db]
    exact .inl ⟨_, _, rfl, rfl, fin_v g (.int _) h⟩
  · split at h
    · rw [d_str da, d_str db]
      exact .inr (.inl ⟨_, _, rfl, rfl, by assumption, fin_v g (.str _) h⟩)
    · exact h.elim
  · split at h
    · rename_i xs ys hz
      obtain ⟨p, vs, rfl, s1, r1⟩ := d_tup da
      obtain ⟨q, ws, rfl, s2, r2⟩ := d_tup db
      have l1 := r1.len
      have l2 := r2.len
      refine .inr (.inr (.inl ⟨p, q, vs, ws, rfl, rfl, hide_sub.sqT s1, hide_sub.sqT s2, by omega, fun e => ?_, fun _ e => ?_, fun _ _ t ht => ?_⟩))
      · subst e
        have : xs = [] := List.length_eq_zero_iff.mp (by simpa using l1.symm)
        subst this
        exact fin_v g (.tup s2 r2) h
      · subst e
        have : ys = [] := List.length_eq_zero_iff.mp (by simpa using l2.symm)
        subst this
        rw [List.append_nil] at h
        exact fin_v g (.tup s1 r1) h
      · have e : Ext ph H ph (upd H t (.tup (vs ++ ws))) := Ext.fresh ht
        exact h ph (.ref t) _ e (g.fresh ht) (.tup (.inl (.inl (hide_of (g.new ht) upd_same))) ((r1.mono e.sub).app (r2.mono e.sub)))
    · exact h.elim
  · split at h
    · rename_i xs ys h1 h2
      obtain ⟨p, vs, rfl, s1, r1⟩ := rdL_at g da h1
      obtain ⟨q, ws, rfl, s2, r2⟩ := rdL_at g db h2
      have z := newL_ok g (vs := vs ++ ws) (by
        clear h h1 h2 s1 s2
        induction r1 with
        | nil => exact r2
        | cons a t ih => exact .cons a ih) h
      exact .inr (.inr (.inr ⟨p, q, vs, ws, rfl, rfl, s1, s2, by simpa using z.1, z.2⟩))
    · exact h.elim
theorem int2_ok {C : Int → Int → Prop} {f : Int → Int → V} {x y : V} {i j : Int} {ph : List Addr} {H : Hp} {K : PySem.W.Frag} {Q : VK} (da : Den K (hide ph H) x (.int i)) (db : Den K (hide ph H) y (.int j)) (hc : C i j) (hq : Q (f i j) H) : rI C f x y H Q := by
  rw [d_int da, d_int db]
  exact ⟨_, _, rfl, rfl, hc, hq⟩
theorem sub_ok : Op2 X W (rI0 fun i j => .int (i - j)) subG := by
  intro ph S H x y a b Q g da db h
  unfold subG at h
  split at h
  · rw [d_int da, d_int db]; exact ⟨_, _, rfl, rfl, fin_v g (.int _) h⟩
  · exact h.elim
theorem paired_append {α β : Type} {P : α → β → Prop} : ∀ {l l' : List α} {m m' : List β}, Paired P l m → Paired P l' m' → Paired P (l ++ l') (m ++ m')
  | _, _, _, _, .nil, s => s
  | _, _, _, _, .cons a t, s => .cons a (paired_append t s)
theorem paired_rep {α β : Type} {P : α → β → Prop} {l : List α} {m : List β} (h : Paired P l m) : ∀ k : Nat, Paired P (List.replicate k l).flatten (List.replicate k m).flatten
  | 0 => .nil
  | k + 1 => by rw [List.replicate_succ, List.replicate_succ, List.flatten_cons, List.flatten_cons]; exact paired_append h (paired_rep h k)
abbrev rMulAll : R2 := fun x y H Q => rI CMul (fun i j => .int (i * j)) x y H Q ∨ rI CMulW (fun i j => .int (i * j)) x y H Q ∨ rRep x y H Q
theorem op_mulAll : OpR X (binaryOp .Mult) rMulAll := op_mul.or (op_mulW.or op_rep)
theorem mul_ok (c : Bool) : Op2 X W rMulAll (mulG c) := by
  intro ph S H x y a b Q g da db h
  unfold mulG at h
  split at h
  · split at h
    · rename_i hc
      rcases hc with hc | hc
      · exact .inl (int2_ok da db hc (fin_v g (.int _) h))
      · exact .inr (.inl (int2_ok da db hc (fin_v g (.int _) h)))
    · exact h.elim
  · split at h
    · rename_i xs hx
      split at h
      · rename_i hk
        obtain ⟨p, vs, rfl, s1, r1⟩ := rdL_at g da hx
        rw [d_int db]
        have z := newL_ok g (paired_rep r1 _) h
        exact .inr (.inr ⟨p, _, vs, rfl, rfl, s1, hk.1, hk.2.1, by rw [r1.length]; exact hk.2.2, z.2⟩)
      · exact h.elim
    · exact h.elim
  · exact h.elim
abbrev rDivAll : R2 := fun x y H Q => rI CDiv (fun i j => .int (i / j)) x y H Q ∨ rI CDivW (fun i j => .int (i / j)) x y H Q
theorem op_divAll : OpR X (binaryOp .FloorDiv) rDivAll := op_fdiv.or op_fdivW
theorem fdiv_ok : Op2 X W rDivAll fdivG := by
  intro ph S H x y a b Q g da db h
  unfold fdivG at h
  split at h
  · split at h
    · rename_i hc
      rcases hc with hc | hc
      · exact .inl (int2_ok da db hc (fin_v g (.int _) h))
      · exact .inr (int2_ok da db hc (fin_v g (.int _) h))
    · exact h.elim
  · exact h.elim
theorem mod_ok : Op2 X W (rI (fun _ j => 0 < j) fun i j => .int (i % j)) modG := by
  intro ph S H x y a b Q g da db h
  unfold modG at h
  split at h
  · split at h
    · exact int2_ok (C := fun _ j => 0 < j) da db (by assumption) (fin_v g (.int _) h)
    · exact h.elim
  · exact h.elim
theorem pow_ok : Op2 X W (rI CPow fun i j => .int (i ^ j.toNat)) powG := by
  intro ph S H x y a b Q g da db h
  unfold powG at h
  split at h
  · split at h
    · exact int2_ok da db (by assumption) (fin_v g (.int _) h)
    · exact h.elim
  · exact h.elim
theorem shl_ok : Op2 X W (rI CPow fun i j => .int (i * 2 ^ j.toNat)) shlG := by
  intro ph S H x y a b Q g da db h
  unfold shlG at h
  split at h
  · split at h
    · exact int2_ok da db (by assumption) (fin_v g (.int _) h)
    · exact h.elim
  · exact h.elim
theorem neg_ok : Op1 X W (rU fun i => .int (-i)) negG := by
  intro ph S H x a Q g da h
  unfold negG at h
  split at h
  · rw [d_int da]; exact ⟨_, rfl, fin_v g (.int _) h⟩
  · exact h.elim
theorem cmp_ok {p : Int → Int → Bool} : Op2 X W (rI0 fun i j => .bl (p i j)) (cmpG p) := by
  intro ph S H x y a b Q g da db h
  unfold cmpG at h
  split at h
  · rw [d_int da, d_int db]; exact ⟨_, _, rfl, rfl, fin_v g (.bl _) h⟩
  · exact h.elim
theorem d_strH {K : PySem.W.Frag} {H : Hp} {v : V} {x : Str} (h : Den K H v (.str x)) : v = .str x := by cases h; rfl
abbrev rEqAll (K : PySem.W.Frag) : R2 := fun x y H Q => rEqD K x y H Q ∨ rEq x y H Q
abbrev rNeAll (K : PySem.W.Frag) : R2 := fun x y H Q => rNeD K x y H Q ∨ rNe x y H Q
theorem eq_ok : Op2 X W (rEqAll X.K) (eqG false) := by
  intro ph S H x y a b Q g da db h
  unfold eqG at h
  split at h
  · rename_i d e h1 h2
    have n1 := snap_ok g da h1
    have n2 := snap_ok g db h2
    unfold eqD at h
    split at h
    · rename_i r hr
      split at hr
      · rename_i s1 s2
        cases hr
        rw [d_strH n1, d_strH n2]
        refine .inr ⟨rfl, fin_v (E := W.rel ph H) g (Den.bl _) ?_⟩
        have e : decide (V.str s1 = V.str s2) = decide (s1 = s2) := by simp
        rw [e]
        simpa using h
      · split at hr
        · rename_i hp
          cases hr
          simp only [Bool.and_eq_true, plain] at hp
          exact .inl ⟨py d, py e, dp_of hp.1.1 n1, dp_of hp.2.1 n2, hp.1.2, hp.2.2, fin_v g (.bl _) h⟩
        · cases hr
    · exact h.elim
  · exact h.elim
theorem ne_ok : Op2 X W (rNeAll X.K) (eqG true) := by
  intro ph S H x y a b Q g da db h
  unfold eqG at h
  split at h
  · rename_i d e h1 h2
    have n1 := snap_ok g da h1
    have n2 := snap_ok g db h2
    unfold eqD at h
    split at h
    · rename_i r hr
      split at hr
      · rename_i s1 s2
        cases hr
        rw [d_strH n1, d_strH n2]
        refine .inr ⟨rfl, fin_v (E := W.rel ph H) g (Den.bl _) ?_⟩
        have e : decide (V.str s1 = V.str s2) = decide (s1 = s2) := by simp
        rw [e]
        simpa using h
      · split at hr
        · rename_i hp
          cases hr
          simp only [Bool.and_eq_true, plain] at hp
          exact .inl ⟨py d, py e, dp_of hp.1.1 n1, dp_of hp.2.1 n2, hp.1.2, hp.2.2, fin_v g (.bl _) h⟩
        · cases hr
    · exact h.elim
  · exact h.elim
theorem isNon_eq {K : PySem.W.Frag} {ph : List Addr} {H : Hp} {v : V} {x : SV} (h : DenS K ph H v x) : decide (v = .non) = isNon x := by
  cases x with
  | fr d => cases d <;> cases h <;> first | rfl | simp [isNon]
  | cell k => obtain ⟨p, _, rfl⟩ := h; simp [isNon]
theorem is_ok : Op2 X W (fun x y H Q => y = .non ∧ Q (.bl (decide (x = .non))) H) (isG false) := by
  intro ph S H x y a b Q g da db h
  unfold isG at h
  split at h
  · rw [d_non db, isNon_eq da]; exact ⟨rfl, fin_v g (.bl _) h⟩
  · exact h.elim
theorem isNot_ok : Op2 X W (fun x y H Q => y = .non ∧ Q (.bl (!decide (x = .non))) H) (isG true) := by
  intro ph S H x y a b Q g da db h
  unfold isG at h
  split at h
  · rw [d_non db, isNon_eq da]; exact ⟨rfl, fin_v g (.bl _) h⟩
  · exact h.elim
/-! ### by their nodes -/
variable {a b : Expr} {ma mb : EM} {pos : Pos}
theorem pd_add (c : Bool) (ha : PD X W a ma) (hb : PD X W b mb) : PD X W (.BinOp a .Add b pos) (e2 (addG c) ma mb) := pd_2 op_addAll (add_ok c) ha hb
theorem pd_sub (ha : PD X W a ma) (hb : PD X W b mb) : PD X W (.BinOp a .Sub b pos) (e2 subG ma mb) := pd_2 op_sub sub_ok ha hb
theorem pd_mul (c : Bool) (ha : PD X W a ma) (hb : PD X W b mb) : PD X W (.BinOp a .Mult b pos) (e2 (mulG c) ma mb) := pd_2 op_mulAll (mul_ok c) ha hb
theorem pd_fdiv (ha : PD X W a ma) (hb : PD X W b mb) : PD X W (.BinOp a .FloorDiv b pos) (e2 fdivG ma mb) := pd_2 op_divAll fdiv_ok ha hb
theorem pd_mod (ha : PD X W a ma) (hb : PD X W b mb) : PD X W (.BinOp a .Mod b pos) (e2 modG ma mb) := pd_2 op_mod mod_ok ha hb
theorem pd_pow (ha : PD X W a ma) (hb : PD X W b mb) : PD X W (.BinOp a .Pow b pos) (e2 powG ma mb) := pd_2 op_pow pow_ok ha hb
theorem pd_shl (ha : PD X W a ma) (hb : PD X W b mb) : PD X W (.BinOp a .LShift b pos) (e2 shlG ma mb) := pd_2 op_shl shl_ok ha hb
theorem pd_neg (ha : PD X W a ma) : PD X W (.UnaryOp .USub a pos) (e1 negG ma) := pd_1 un_neg neg_ok ha
theorem pd_lt (ha : PD X W a ma) (hb : PD X W b mb) : PD X W (.Compare a [.Lt] [b] pos) (e2 ltG ma mb) := pd_cmp op_lt cmp_ok ha hb
theorem pd_le (ha : PD X W a ma) (hb : PD X W b mb) : PD X W (.Compare a [.LtE] [b] pos) (e2 leG ma mb) := pd_cmp op_le cmp_ok ha hb
theorem pd_gt (ha : PD X W a ma) (hb : PD X W b mb) : PD X W (.Compare a [.Gt] [b] pos) (e2 gtG ma mb) := pd_cmp op_gt cmp_ok ha hb
theorem pd_ge (ha : PD X W a ma) (hb : PD X W b mb) : PD X W (.Compare a [.GtE] [b] pos) (e2 geG ma mb) := pd_cmp op_ge cmp_ok ha hb
theorem pd_eq (hu : X.A.units + 64 < cLine) (ha : PD X W a ma) (hb : PD X W b mb) : PD X W (.Compare a [.Eq] [b] pos) (e2 (eqG false) ma mb) := pd_cmp ((op_eqD hu).or op_eq) eq_ok ha hb
theorem pd_ne (hu : X.A.units + 64 < cLine) (ha : PD X W a ma) (hb : PD X W b mb) : PD X W (.Compare a [.NotEq] [b] pos) (e2 (eqG true) ma mb) := pd_cmp ((op_neD hu).or op_ne) ne_ok ha hb
theorem pd_is (ha : PD X W a ma) (hb : PD X W b mb) : PD X W (.Compare a [.Is] [b] pos) (e2 (isG false) ma mb) := pd_cmp op_isN is_ok ha hb
theorem pd_isnot (ha : PD X W a ma) (hb : PD X W b mb) : PD X W (.Compare a [.IsNot] [b] pos) (e2 (isG true) ma mb) := pd_cmp op_notN isNot_ok ha hb
end
end DL

namespace DL
open PySem L2

/-! ### truth -/
def truthD : D → Option Bool
  | .non => some false
  | .bl b => some b
  | .int i => some (i != 0)
  | .str x => if x.length ≤ sizeLine then some ((x.length : Int) != 0) else none
  | .tup ds => some (!ds.isEmpty)
  | .lst ds => some (!ds.isEmpty)
  | _ => none
def truth (S : Store) : SV → Option Bool
  | .fr d => truthD d
  | .cell k => match S[k]? with
    | some (.lst xs) => some (!xs.isEmpty)
    | _ => none
theorem paired_empty {α β : Type} {P : α → β → Prop} {l : List α} {m : List β} (h : Paired P l m) : l.isEmpty = m.isEmpty := by
  cases h <;> rfl
theorem dens_empty {K : PySem.W.Frag} {F : Hp} {vs : List V} {ds : List D} (h : Dens K F vs ds) : vs.isEmpty = ds.isEmpty := by
  cases h <;> rfl
theorem truth_ok {K : PySem.W.Frag} {ph : List Addr} {S : Store} {H : Hp} {v : V} {x : SV} {k : Bool} (g : Good K ph H S) (h : DenS K ph H v x) (e : truth S x = some k) : TruV K v H k := by
  cases x with
  | fr d =>
    have e : truthD d = some k := e
    cases d with
    | non => rw [d_non h]; simp [truthD] at e; exact e
    | bl b => rw [d_bl h]; simp [truthD] at e; exact e.symm
    | int i => rw [d_int h]; simp only [truthD, Option.some.injEq] at e; exact e.symm
    | str z =>
      rw [d_str h]
      simp only [truthD] at e
      split at e
      · exact ⟨by assumption, (Option.some.inj e).symm⟩
      · cases e
    | tup ds =>
      obtain ⟨a, vs, rfl, s, r⟩ := d_tup h
      simp only [truthD, Option.some.injEq] at e
      exact .inr (.inl ⟨vs, hide_sub.sqT s, by rw [← e, dens_empty r]⟩)
    | lst ds =>
      cases h with
      | lst s r =>
        simp only [truthD, Option.some.injEq] at e
        exact .inl ⟨_, .of (hide_sub _ _ s), by rw [← e, dens_empty r]⟩
    | _ => simp [truthD] at e
  | cell n =>
    obtain ⟨p, h1, rfl⟩ := h
    simp only [truth] at e
    split at e
    · rename_i xs hk
      obtain ⟨q, h3, vs, h4, h5⟩ := g.at hk
      rw [h1] at h3; cases h3
      simp only [Option.some.injEq] at e
      exact .inl ⟨_, .of h4, by rw [← e, paired_empty h5]⟩
    · cases e

section
variable {X : Cx} {W : XW X.K} {a b c : Expr} {ma mb mc : EM} {pos : Pos}
/-! ### and, or, not, if-else as values -/
def eTr (m : EM) (t f : SV × Store → Res (SV × Store)) : EM := fun rho S => (m rho S).bind fun x => match truth x.2 x.1 with
  | some true => t x
  | some false => f x
  | none => .stuck
def eAnd (a b : EM) : EM := fun rho S => eTr a (fun x => b rho x.2) (fun x => .ok x) rho S
def eOr (a b : EM) : EM := fun rho S => eTr a (fun x => .ok x) (fun x => b rho x.2) rho S
def eNot (a : EM) : EM := fun rho S => eTr a (fun x => okV (.bl false) x.2) (fun x => okV (.bl true) x.2) rho S
abbrev SndE (X : Cx) (W : XW X.K) (t : TE) (m : EM) : Prop := ∀ (ph : List Addr) (S : Store) (H : Hp) (sg : L2.St) (rho : Slots) (Q : VK), Good X.K ph H S → SlotsOk X.K ph H sg rho →
    holds (m rho S) (post X.K ph H Q) (W.rel ph H) → t sg H Q
abbrev SndT (X : Cx) (W : XW X.K) (t : TT) (m : TM) : Prop := ∀ (ph : List Addr) (S : Store) (H : Hp) (sg : L2.St) (rho : Slots) (Q : Bool → Hp → Prop), Good X.K ph H S → SlotsOk X.K ph H sg rho →
    holds (m rho S) (postT X.K ph H Q) (W.rel ph H) → t sg H Q
theorem pd_one {op : BoolOp} (h : PD X W a ma) : PD X W (.BoolOp op [a] pos) ma := by
  obtain ⟨t, p, s⟩ := h.ex
  exact ⟨t, pe_one p, s⟩
theorem pd_and {rest : List Expr} (ha : PD X W a ma) (hb : PD X W (.BoolOp .And (b :: rest) pos) mb) : PD X W (.BoolOp .And (a :: b :: rest) pos) (eAnd ma mb) := by
  obtain ⟨ta, pa, sa⟩ := ha.ex
  obtain ⟨tb, pb, sb⟩ := hb.ex
  refine ⟨_, pe_andT pa pb, fun ph S H sg rho Q g so h => sa ph S H sg rho _ g so (holds_imp (holds_bind h) (fun x hx => ?_) fun _ _ _ q => q)⟩
  intro ph1 v1 H1 x1 g1 d1
  revert hx
  cases e : truth x.2 x.1 with
  | none => exact fun hx => hx.elim
  | some k =>
    intro hx
    refine ⟨k, truth_ok g1 d1 e, ?_⟩
    cases k with
    | true =>
      rw [if_pos rfl]
      exact sb ph1 x.2 H1 sg rho Q g1 (so.mono x1) (holds_imp hx (fun c => post.mono x1 c) fun e r s q => W.mono _ _ _ _ e r s x1 q)
    | false =>
      rw [if_neg Bool.false_ne_true]
      exact hx ph1 v1 H1 x1 g1 d1
theorem pd_or {rest : List Expr} (ha : PD X W a ma) (hb : PD X W (.BoolOp .Or (b :: rest) pos) mb) : PD X W (.BoolOp .Or (a :: b :: rest) pos) (eOr ma mb) := by
  obtain ⟨ta, pa, sa⟩ := ha.ex
  obtain ⟨tb, pb, sb⟩ := hb.ex
  refine ⟨_, pe_orT pa pb, fun ph S H sg rho Q g so h => sa ph S H sg rho _ g so (holds_imp (holds_bind h) (fun x hx => ?_) fun _ _ _ q => q)⟩
  intro ph1 v1 H1 x1 g1 d1
  revert hx
  cases e : truth x.2 x.1 with
  | none => exact fun hx => hx.elim
  | some k =>
    intro hx
    refine ⟨k, truth_ok g1 d1 e, ?_⟩
    cases k with
    | true =>
      rw [if_pos rfl]
      exact hx ph1 v1 H1 x1 g1 d1
    | false =>
      rw [if_neg Bool.false_ne_true]
      exact sb ph1 x.2 H1 sg rho Q g1 (so.mono x1) (holds_imp hx (fun c => post.mono x1 c) fun e r s q => W.mono _ _ _ _ e r s x1 q)
theorem pd_not (ha : PD X W a ma) : PD X W (.UnaryOp .Not a pos) (eNot ma) := by
  obtain ⟨ta, pa, sa⟩ := ha.ex
  refine ⟨_, pe_notT pa, fun ph S H sg rho Q g so h => sa ph S H sg rho _ g so (holds_imp (holds_bind h) (fun x hx => ?_) fun _ _ _ q => q)⟩
  intro ph1 v1 H1 x1 g1 d1
  revert hx
  cases e : truth x.2 x.1 with
  | none => exact fun hx => hx.elim
  | some k =>
    intro hx
    refine ⟨k, truth_ok g1 d1 e, ?_⟩
    cases k with
    | true => exact hx ph1 (.bl false) H1 x1 g1 (.bl _)
    | false => exact hx ph1 (.bl true) H1 x1 g1 (.bl _)

/-! ### tests -/
/-- a value's truth -/
def tV (m : EM) : TM := fun rho S => (m rho S).bind fun x => match truth x.2 x.1 with
  | some k => .ok (k, x.2)
  | none => .stuck
/-- a comparison's answer -/
def tB (m : EM) : TM := fun rho S => (m rho S).bind fun x => match x.1 with
  | .fr (.bl k) => .ok (k, x.2)
  | _ => .stuck
theorem pt_v (ha : PD X W a ma) (he : ∀ whole, isTrue a X.env whole = (do let v ← whole; standAt a.pos; holding [v] (truthy v)) := by intro _; rfl) : PDT X W a (tV ma) := by
  obtain ⟨ta, pa, sa⟩ := ha.ex
  refine ⟨_, pt_truth pa he, fun ph S H sg rho Q g so h => sa ph S H sg rho _ g so (holds_imp (holds_bind h) (fun x hx => ?_) fun _ _ _ q => q)⟩
  intro ph1 v1 H1 x1 g1 d1
  revert hx
  cases e : truth x.2 x.1 with
  | none => exact fun hx => hx.elim
  | some k => exact fun hx => ⟨k, truth_ok g1 d1 e, hx ph1 H1 x1 g1⟩
theorem tB_post {K : PySem.W.Frag} {ph : List Addr} {H : Hp} {Q : Bool → Hp → Prop} {E : Exc → Slots → Store → Prop} {x : SV × Store} (hx : holds (match x.1 with | .fr (.bl k) => Res.ok (k, x.2) | _ => .stuck) (postT K ph H Q) E) : post K ph H (fun y H' => ∃ k, y = .bl k ∧ Q k H') x := by
  intro ph1 v1 H1 x1 g1 d1
  obtain ⟨sv, S'⟩ := x
  dsimp only at *
  split at hx
  · exact ⟨_, d_bl d1, hx ph1 H1 x1 g1⟩
  · exact hx.elim
theorem pt_of {r : TE} {m : EM} (hp : PT X a (tTest r)) (hs : SndE X W r m) : PDT X W a (tB m) :=
  ⟨_, hp, fun ph S H sg rho Q g so h => hs ph S H sg rho _ g so (holds_imp (holds_bind h) (fun x hx => tB_post hx) fun _ _ _ q => q)⟩
theorem pt_2 {op : CmpOp} {r : R2} {g : G2} (ho : OpR X (compareOp op) r) (hr : Op2 X W r g) (ha : PD X W a ma) (hb : PD X W b mb) (hm : behindInMarks op b = false := by first | exact nomark _ | rfl) : PDT X W (.Compare a [op] [b] pos) (tB (e2 g ma mb)) := by
  obtain ⟨ta, pa, sa⟩ := ha.ex
  obtain ⟨tb, pb, sb⟩ := hb.ex
  exact pt_of (pt_cmpR ho pa pb hm) fun ph S H sg rho Q gd so h => snd2 sa sb hr ph S H sg rho Q gd so h
theorem pt_lt (ha : PD X W a ma) (hb : PD X W b mb) : PDT X W (.Compare a [.Lt] [b] pos) (tB (e2 ltG ma mb)) := pt_2 op_lt cmp_ok ha hb
theorem pt_le (ha : PD X W a ma) (hb : PD X W b mb) : PDT X W (.Compare a [.LtE] [b] pos) (tB (e2 leG ma mb)) := pt_2 op_le cmp_ok ha hb
theorem pt_gt (ha : PD X W a ma) (hb : PD X W b mb) : PDT X W (.Compare a [.Gt] [b] pos) (tB (e2 gtG ma mb)) := pt_2 op_gt cmp_ok ha hb
theorem pt_ge (ha : PD X W a ma) (hb : PD X W b mb) : PDT X W (.Compare a [.GtE] [b] pos) (tB (e2 geG ma mb)) := pt_2 op_ge cmp_ok ha hb
theorem pt_eq (hu : X.A.units + 64 < cLine) (ha : PD X W a ma) (hb : PD X W b mb) : PDT X W (.Compare a [.Eq] [b] pos) (tB (e2 (eqG false) ma mb)) := pt_2 ((op_eqD hu).or op_eq) eq_ok ha hb
theorem pt_ne (hu : X.A.units + 64 < cLine) (ha : PD X W a ma) (hb : PD X W b mb) : PDT X W (.Compare a [.NotEq] [b] pos) (tB (e2 (eqG true) ma mb)) := pt_2 ((op_neD hu).or op_ne) ne_ok ha hb
theorem pt_is (ha : PD X W a ma) (hb : PD X W b mb) : PDT X W (.Compare a [.Is] [b] pos) (tB (e2 (isG false) ma mb)) := pt_2 op_isN is_ok ha hb
theorem pt_isnot (ha : PD X W a ma) (hb : PD X W b mb) : PDT X W (.Compare a [.IsNot] [b] pos) (tB (e2 (isG true) ma mb)) := pt_2 op_notN isNot_ok ha hb
/-! ### chains -/
def eCh (g g' : G2) (a b c : EM) : EM := fun rho S => (a rho S).bind fun x => (b rho x.2).bind fun y => (g x.1 y.1 y.2).bind fun z => match z.1 with
  | .fr (.bl true) => (c rho z.2).bind fun w => g' y.1 w.1 w.2
  | .fr (.bl false) => okV (.bl false) z.2
  | _ => .stuck
theorem ch_snd {ta tb tc : TE} {r r' : R2} {g g' : G2} (sa : SndE X W ta ma) (sb : SndE X W tb mb) (sc : SndE X W tc mc) (hr : Op2 X W r g) (hr' : Op2 X W r' g') : SndE X W (tChain r r' ta tb tc) (eCh g g' ma mb mc) := by
  intro ph S H sg rho Q gd so h
  refine sa ph S H sg rho _ gd so (holds_imp (holds_bind h) (fun x hx => ?_) fun _ _ _ q => q)
  intro ph1 v1 H1 x1 g1 d1
  refine sb ph1 x.2 H1 sg rho _ g1 (so.mono x1) (holds_imp (holds_bind hx) (fun y hy => ?_) fun e r s q => W.mono _ _ _ _ e r s x1 q)
  intro ph2 v2 H2 x2 g2 d2
  refine hr ph2 y.2 H2 v1 v2 x.1 y.1 _ g2 (d1.mono x2) d2 (holds_imp (holds_bind hy) (fun z hz => ?_) fun e r s q => W.mono _ _ _ _ e r s (x1.trans x2) q)
  intro ph3 v3 H3 x3 g3 d3
  have x13 := x1.trans (x2.trans x3)
  obtain ⟨zv, zs⟩ := z
  dsimp only at *
  split at hz
  · refine ⟨true, d_bl d3, ?_⟩
    rw [if_pos rfl]
    refine sc ph3 zs H3 sg rho _ g3 (so.mono x13) (holds_imp (holds_bind hz) (fun w hw => ?_) fun e r s q => W.mono _ _ _ _ e r s x13 q)
    intro ph4 v4 H4 x4 g4 d4
    exact hr' ph4 w.2 H4 v2 v4 y.1 w.1 Q g4 (d2.mono (x3.trans x4)) d4 (holds_imp hw (fun c => post.mono (x13.trans x4) c) fun e r s q => W.mono _ _ _ _ e r s (x13.trans x4) q)
  · refine ⟨false, d_bl d3, ?_⟩
    rw [if_neg Bool.false_ne_true]
    exact hz ph3 (.bl false) H3 x13 g3 (.bl _)
  · exact hz.elim
theorem pd_ch {op op' : CmpOp} {r r' : R2} {g g' : G2} (ho : OpR X (compareOp op) r) (ho' : OpR X (compareOp op') r') (hr : Op2 X W r g) (hr' : Op2 X W r' g') (ha : PD X W a ma) (hb : PD X W b mb) (hc : PD X W c mc)
    (hm : lastMarks [op, op'] [b, c] = false := by with_unfolding_all rfl) : PD X W (.Compare a [op, op'] [b, c] pos) (eCh g g' ma mb mc) := by
  obtain ⟨ta, pa, sa⟩ := ha.ex
  obtain ⟨tb, pb, sb⟩ := hb.ex
  obtain ⟨tc, pc, sc⟩ := hc.ex
  exact ⟨_, pe_chain ho ho' pa pb pc hm, ch_snd sa sb sc hr hr'⟩
theorem pt_ch {op op' : CmpOp} {r r' : R2} {g g' : G2} (ho : OpR X (compareOp op) r) (ho' : OpR X (compareOp op') r') (hr : Op2 X W r g) (hr' : Op2 X W r' g') (ha : PD X W a ma) (hb : PD X W b mb) (hc : PD X W c mc)
    (hm : lastMarks [op, op'] [b, c] = false := by with_unfolding_all rfl) : PDT X W (.Compare a [op, op'] [b, c] pos) (tB (eCh g g' ma mb mc)) := by
  obtain ⟨ta, pa, sa⟩ := ha.ex
  obtain ⟨tb, pb, sb⟩ := hb.ex
  obtain ⟨tc, pc, sc⟩ := hc.ex
  exact pt_of (pt_chain ho ho' pa pb pc hm) (ch_snd sa sb sc hr hr')
/-! ### and, or, not of tests -/
structure PDW (X : Cx) (W : XW X.K) (e : Expr) (m : TM) : Prop where
  ex : ∃ t, PW X e t ∧ SndT X W t m
def tNt (m : TM) : TM := fun rho S => (m rho S).bind fun x => .ok (!x.1, x.2)
def tAn (m n : TM) : TM := fun rho S => (m rho S).bind fun x => if x.1 then n rho x.2 else .ok (false, x.2)
def tOo (m n : TM) : TM := fun rho S => (m rho S).bind fun x => if x.1 then .ok (true, x.2) else n rho x.2
theorem pt_w {m : TM} (h : PDW X W a m) : PDT X W a m := by
  obtain ⟨t, p, s⟩ := h.ex
  exact ⟨t, p.pt, s⟩
theorem pt_nt {m : TM} (h : PDT X W a m) : PDT X W (.UnaryOp .Not a pos) (tNt m) := by
  obtain ⟨t, p, s⟩ := h.ex
  refine ⟨_, pt_not p, fun ph S H sg rho Q g so h => s ph S H sg rho _ g so (holds_imp (holds_bind h) (fun x hx => ?_) fun _ _ _ q => q)⟩
  exact fun ph1 H1 x1 g1 => hx ph1 H1 x1 g1
theorem pw_a1 {m : TM} (h : PDT X W a m) : PDW X W (.BoolOp .And [a] pos) m := by
  obtain ⟨t, p, s⟩ := h.ex
  exact ⟨t, pw_and1 p, s⟩
theorem pw_o1 {m : TM} (h : PDT X W a m) : PDW X W (.BoolOp .Or [a] pos) m := by
  obtain ⟨t, p, s⟩ := h.ex
  exact ⟨t, pw_or1 p, s⟩
theorem pw_a {m n : TM} {rest : List Expr} (h : PDT X W a m) (h2 : PDW X W (.BoolOp .And (b :: rest) pos) n) : PDW X W (.BoolOp .And (a :: b :: rest) pos) (tAn m n) := by
  obtain ⟨t, p, s⟩ := h.ex
  obtain ⟨t2, p2, s2⟩ := h2.ex
  refine ⟨_, pw_and p p2, fun ph S H sg rho Q g so h => s ph S H sg rho _ g so (holds_imp (holds_bind h) (fun x hx => ?_) fun _ _ _ q => q)⟩
  intro ph1 H1 x1 g1
  obtain ⟨k, S1⟩ := x
  cases k with
  | true => exact s2 ph1 S1 H1 sg rho Q g1 (so.mono x1) (holds_imp hx (fun c => postT.mono x1 c) fun e r s q => W.mono _ _ _ _ e r s x1 q)
  | false => exact hx ph1 H1 x1 g1
theorem pw_o {m n : TM} {rest : List Expr} (h : PDT X W a m) (h2 : PDW X W (.BoolOp .Or (b :: rest) pos) n) : PDW X W (.BoolOp .Or (a :: b :: rest) pos) (tOo m n) := by
  obtain ⟨t, p, s⟩ := h.ex
  obtain ⟨t2, p2, s2⟩ := h2.ex
  refine ⟨_, pw_or p p2, fun ph S H sg rho Q g so h => s ph S H sg rho _ g so (holds_imp (holds_bind h) (fun x hx => ?_) fun _ _ _ q => q)⟩
  intro ph1 H1 x1 g1
  obtain ⟨k, S1⟩ := x
  cases k with
  | false => exact s2 ph1 S1 H1 sg rho Q g1 (so.mono x1) (holds_imp hx (fun c => postT.mono x1 c) fun e r s q => W.mono _ _ _ _ e r s x1 q)
  | true => exact hx ph1 H1 x1 g1
def eIf (t : TM) (a b : EM) : EM := fun rho S => (t rho S).bind fun x => if x.1 then a rho x.2 else b rho x.2
theorem pd_if {m : TM} (ht : PDT X W c m) (ha : PD X W a ma) (hb : PD X W b mb) : PD X W (.IfExp c a b pos) (eIf m ma mb) := by
  obtain ⟨t, p, s⟩ := ht.ex
  obtain ⟨ta, pa, sa⟩ := ha.ex
  obtain ⟨tb, pb, sb⟩ := hb.ex
  refine ⟨_, pe_ifExp p pa pb, fun ph S H sg rho Q g so h => s ph S H sg rho _ g so (holds_imp (holds_bind h) (fun x hx => ?_) fun _ _ _ q => q)⟩
  intro ph1 H1 x1 g1
  obtain ⟨k, S1⟩ := x
  have up : ∀ {r : Res (SV × Store)}, holds r (post X.K ph H Q) (W.rel ph H) → holds r (post X.K ph1 H1 Q) (W.rel ph1 H1) := fun q => holds_imp q (fun c => post.mono x1 c) fun e r s q => W.mono _ _ _ _ e r s x1 q
  cases k with
  | true => exact sa ph1 S1 H1 sg rho Q g1 (so.mono x1) (up hx)
  | false => exact sb ph1 S1 H1 sg rho Q g1 (so.mono x1) (up hx)
end
end DL

namespace DL
open PySem L2

theorem atI_pair {α β : Type} {P : α → β → Prop} {l : List α} {m : List β} {i : Int} {b : β} (h : Paired P l m) (e : atI m i = some b) : ∃ a, atI l i = some a ∧ P a b := by
  unfold atI at e ⊢
  rw [h.length]
  cases q : ixN m.length i with
  | none => rw [q] at e; simp at e
  | some j =>
    rw [q] at e
    exact paired_get h (by simpa using e)
def cutA {α : Type} (xs : List α) (lo hi : Option Int) : List α := (xs.drop (HT.sIx xs.length 0 lo)).take (HT.sIx xs.length xs.length hi - HT.sIx xs.length 0 lo)
theorem paired_drop {α β : Type} {P : α → β → Prop} : ∀ {l : List α} {m : List β} (n : Nat), Paired P l m → Paired P (l.drop n) (m.drop n)
  | _, _, 0, r => r
  | _, _, _ + 1, .nil => .nil
  | _, _, n + 1, .cons _ r => paired_drop n r
theorem paired_take {α β : Type} {P : α → β → Prop} : ∀ {l : List α} {m : List β} (n : Nat), Paired P l m → Paired P (l.take n) (m.take n)
  | _, _, 0, _ => .nil
  | _, _, _ + 1, .nil => .nil
  | _, _, n + 1, .cons a r => .cons a (paired_take n r)
theorem paired_cut {α β : Type} {P : α → β → Prop} {l : List α} {m : List β} (h : Paired P l m) (lo hi : Option Int) : Paired P (cutA l lo hi) (cutA m lo hi) := by
  unfold cutA
  rw [h.length]
  exact paired_take _ (paired_drop _ h)
theorem cutA_len {α : Type} (xs : List α) (lo hi : Option Int) : (cutA xs lo hi).length ≤ xs.length := by
  unfold cutA
  rw [List.length_take, List.length_drop]
  omega
/-- a new list no longer than one that stands -/
def newL0 (m : Bool) (xs : List SV) (S : Store) : Res (SV × Store) := if m then .ok (.cell S.length, S ++ [.lst xs]) else match allFr xs with
  | some ds => .ok (.fr (.lst ds), S)
  | none => .stuck
theorem newL0_ok {K : PySem.W.Frag} {ph : List Addr} {H : Hp} {S : Store} {vs : List V} {xs : List SV} {m : Bool} {Q : VK} {E : Exc → Slots → Store → Prop} (g : Good K ph H S) (d : DenSs K ph H vs xs) (h : holds (newL0 m xs S) (post K ph H Q) E) :
    ∀ p, H p = none → Q (.ref p) (upd H p (.lst vs)) := fun p hp => by
  unfold newL0 at h
  cases m with
  | true =>
    have e : Ext ph H (ph ++ [p]) (upd H p (.lst vs)) := Ext.cell hp
    exact h (ph ++ [p]) (.ref p) _ e (g.cell hp ⟨vs, upd_same, d.mono e⟩) ⟨p, by rw [← g.len]; simp, rfl⟩
  | false =>
    simp only [Bool.false_eq_true, if_false] at h
    split at h
    · rename_i ds hd
      have e : Ext ph H ph (upd H p (.lst vs)) := Ext.fresh hp
      refine h ph (.ref p) _ e (g.fresh hp) (.lst (vs := vs) (hide_of (g.new hp) upd_same) ?_)
      have d' := d.mono e
      rw [allFr_eq hd] at d'
      exact dens_of d'
    · exact h.elim
section
variable {X : Cx} {W : XW X.K} {a b c : Expr} {ma mb mc : EM} {pos : Pos}

/-! ### items -/
def ixG : G2 := fun a b S => match b with
  | .fr (.int i) => match rdS S a with
    | some xs => match atI xs i with
      | some x => .ok (x, S)
      | none => .stuck
    | none => match a with
      | .fr (.tup ds) => match atI ds i with
        | some d => okV d S
        | none => .stuck
      | .fr (.str z) => if z.length ≤ sizeLine then match atI z.cps.toList i with
        | some c => okV (.str ⟨#[c]⟩) S
        | none => .stuck else .stuck
      | _ => .stuck
  | _ => .stuck
theorem atI_dens {K : PySem.W.Frag} {F : Hp} {vs : List V} {ds : List D} {i : Int} {d : D} (h : Dens K F vs ds) (e : atI ds i = some d) : ∃ v, atI vs i = some v ∧ Den K F v d := by
  unfold atI at e ⊢
  rw [h.len]
  cases q : ixN ds.length i with
  | none => rw [q] at e; simp at e
  | some j =>
    rw [q] at e
    exact h.get (by simpa using e)
theorem ix_ok : Op2 X W (rIx X.K) ixG := by
  intro ph S H x y a b Q g da db h
  unfold ixG at h
  split at h
  · rw [d_int db]
    split at h
    · rename_i xs hx
      obtain ⟨p, vs, rfl, s, r⟩ := rdS_ok g da hx
      split at h
      · rename_i z hz
        obtain ⟨v, hv, dv⟩ := atI_pair r hz
        exact .inl ⟨p, vs, _, v, rfl, rfl, s, hv, h ph v H (Ext.refl _ _) g dv⟩
      · exact h.elim
    · split at h
      · obtain ⟨p, vs, rfl, s, r⟩ := d_tup da
        split at h
        · rename_i d hd
          obtain ⟨v, hv, dv⟩ := atI_dens r hd
          exact .inr (.inl ⟨p, vs, _, v, rfl, rfl, hide_sub.sqT s, hv, h ph v H (Ext.refl _ _) g dv⟩)
        · exact h.elim
      · rw [d_str da]
        split at h
        · split at h
          · rename_i hz _ c hc
            exact .inr (.inr ⟨_, _, c, rfl, rfl, hz, hc, fin_v g (.str _) h⟩)
          · exact h.elim
        · exact h.elim
      · exact h.elim
  · exact h.elim
theorem pd_ix (ha : PD X W a ma) (hb : PD X W b mb) (hs : PlainIx b := by intro _ _; rfl) : PD X W (.Subscript a b pos) (e2 ixG ma mb) := by
  obtain ⟨ta, pa, sa⟩ := ha.ex
  obtain ⟨tb, pb, sb⟩ := hb.ex
  exact ⟨_, pe_ix ix_seq pa pb hs, fun ph S H sg rho Q gd so h => snd2 sa sb ix_ok ph S H sg rho Q gd so h⟩

/-! ### slices -/
abbrev PM := Slots → Store → Res (Option Int × Store)
def postP (K : PySem.W.Frag) (ph : List Addr) (H : Hp) (Q : Option Int → Hp → Prop) : Option Int × Store → Prop := fun r => ∀ ph' H', Ext ph H ph' H' → Good K ph' H' r.2 → Q r.1 H'
structure PDO (X : Cx) (W : XW X.K) (e : Option Expr) (m : PM) : Prop where
  ex : ∃ t, PO X e t ∧ ∀ (ph : List Addr) (S : Store) (H : Hp) (sg : L2.St) (rho : Slots) (Q : Option Int → Hp → Prop), Good X.K ph H S → SlotsOk X.K ph H sg rho →
    holds (m rho S) (postP X.K ph H Q) (W.rel ph H) → t sg H Q
def pN : PM := fun _ S => .ok (none, S)
def pS (m : EM) : PM := fun rho S => (m rho S).bind fun x => match x.1 with
  | .fr (.int i) => .ok (some i, x.2)
  | _ => .stuck
theorem po_n : PDO X W none pN := ⟨_, po_none, fun ph S H sg rho Q g so h => h ph H (Ext.refl _ _) g⟩
theorem po_s (ha : PD X W a ma) : PDO X W (some a) (pS ma) := by
  obtain ⟨ta, pa, sa⟩ := ha.ex
  refine ⟨_, po_some pa, fun ph S H sg rho Q g so h => sa ph S H sg rho _ g so (holds_imp (holds_bind h) (fun x hx => ?_) fun _ _ _ q => q)⟩
  intro ph1 v1 H1 x1 g1 d1
  obtain ⟨sv, S1⟩ := x
  dsimp only at *
  split at hx
  · exact ⟨_, d_int d1, hx ph1 H1 x1 g1⟩
  · exact hx.elim
def slG (c : Bool) (a : SV) (lo hi : Option Int) (S : Store) : Res (SV × Store) := match rdS S a with
  | some xs => newL0 c (cutA xs lo hi) S
  | none => match a with
    | .fr (.tup ds) => okV (.tup (cutA ds lo hi)) S
    | .fr (.str z) => if z.length ≤ sizeLine then okV (.str (cutS z lo hi)) S else .stuck
    | _ => .stuck
abbrev rSlAll (K : PySem.W.Frag) : V → Option Int → Option Int → Hp → VK → Prop := fun x lo hi H Q => rSlL K x lo hi H Q ∨ rSlA K x lo hi H Q ∨ rSlS x lo hi H Q
theorem sl_all : SlR X (rSlAll X.K) := sl_list.or (sl_tupA.or sl_str)
theorem dens_cut {K : PySem.W.Frag} {F : Hp} {vs : List V} {ds : List D} (h : Dens K F vs ds) (lo hi : Option Int) : Dens K F (cutA vs lo hi) (cutA ds lo hi) := by
  unfold cutA
  rw [h.len]
  exact (h.drop _).take _
theorem sl_ok {c : Bool} {ph : List Addr} {S : Store} {H : Hp} {x : V} {a : SV} {lo hi : Option Int} {Q : VK} (g : Good X.K ph H S) (da : DenS X.K ph H x a) (h : holds (slG c a lo hi S) (post X.K ph H Q) (W.rel ph H)) : rSlAll X.K x lo hi H Q := by
  unfold slG at h
  split at h
  · rename_i xs hx
    obtain ⟨p, vs, rfl, s, r⟩ := rdS_ok g da hx
    exact .inl ⟨p, vs, rfl, s, newL0_ok g (paired_cut r lo hi) h⟩
  · split at h
    · rename_i ds _
      obtain ⟨p, vs, rfl, s, r⟩ := d_tup da
      refine .inr (.inl ⟨p, vs, rfl, hide_sub.sqT s, fun hw => ?_, fun hw t ht => ?_⟩)
      · have e : cutA ds lo hi = ds := by
          unfold cutA
          rw [← r.len, hw.1, hw.2, r.len]
          simp
        rw [e] at h
        exact fin_v g (.tup s r) h
      · have e : Ext ph H ph (upd H t (.tup (cutV vs lo hi))) := Ext.fresh ht
        exact h ph (.ref t) _ e (g.fresh ht) (.tup (.inl (.inl (hide_of (g.new ht) upd_same))) (dens_cut (r.mono e.sub) lo hi))
    · rw [d_str da]
      split at h
      · exact .inr (.inr ⟨_, rfl, by assumption, fin_v g (.str _) h⟩)
      · exact h.elim
    · exact h.elim
def eSl (c : Bool) (a : EM) (lo hi : PM) : EM := fun rho S => (a rho S).bind fun x => (lo rho x.2).bind fun l => (hi rho l.2).bind fun u => slG c x.1 l.1 u.1 u.2
theorem pd_sl (c : Bool) {lo hi : Option Expr} {ml mh : PM} {p2 : Pos} (ha : PD X W a ma) (hl : PDO X W lo ml) (hh : PDO X W hi mh) : PD X W (.Subscript a (.Slice lo hi none p2) pos) (eSl c ma ml mh) := by
  obtain ⟨ta, pa, sa⟩ := ha.ex
  obtain ⟨tl, pl, sl⟩ := hl.ex
  obtain ⟨tu, pu, su⟩ := hh.ex
  refine ⟨_, pe_slice sl_all pa pl pu, fun ph S H sg rho Q g so h => sa ph S H sg rho _ g so (holds_imp (holds_bind h) (fun x hx => ?_) fun _ _ _ q => q)⟩
  intro ph1 v1 H1 x1 g1 d1
  refine sl ph1 x.2 H1 sg rho _ g1 (so.mono x1) (holds_imp (holds_bind hx) (fun y hy => ?_) fun e r s q => W.mono _ _ _ _ e r s x1 q)
  intro ph2 H2 x2 g2
  refine su ph2 y.2 H2 sg rho _ g2 (so.mono (x1.trans x2)) (holds_imp (holds_bind hy) (fun z hz => ?_) fun e r s q => W.mono _ _ _ _ e r s (x1.trans x2) q)
  intro ph3 H3 x3 g3
  have x13 := x1.trans (x2.trans x3)
  exact sl_ok (W := W) g3 (d1.mono (x2.trans x3)) (holds_imp hz (fun c => post.mono x13 c) fun e r s q => W.mono _ _ _ _ e r s x13 q)

/-! ### built-in functions -/
theorem pd_callB {x : Str} {p : Pos} {id : String} {es : List Expr} {m : AM} {r : List V → Hp → VK → Prop} {g : GA} (hc : CallR X (.builtin id) r) (hr : OpA X W r g) (hm : X.mg x = none) (hv : bootBuiltins x = some (.builtin id)) (ha : PDA X W (a :: es) m) (hg : Gl X x := by rfl)
    (hn : x ≠ "__name__" := by decide) (hdb : (x == ("__debug__" : Str)) = false := by decide)
    (he : starEach (a :: es) X.env = (false, eval a X.env) :: starEach es X.env := by rfl) (hpl : (backTo pos (starEach es X.env)).any (·.1) = false := by rfl) : PD X W (.Call (.Name x p) (a :: es) [] pos) (eA g m) := by
  obtain ⟨t, pa, sa⟩ := ha.ex
  exact ⟨_, pe_callB hc hg hm hv pa hn hdb he hpl, fun ph S H sg rho Q gd so h => sndA (r := r) sa hr ph S H sg rho Q gd so h⟩
theorem pd_callTy {x : Str} {p : Pos} {T : String} {es : List Expr} {m : AM} {r : List V → Hp → VK → Prop} {g : GA} (hc : CallR X (.type T) r) (hr : OpA X W r g) (hm : X.mg x = none) (hv : bootBuiltins x = some (.type T)) (ha : PDA X W (a :: es) m) (hg : Gl X x := by rfl)
    (hn : x ≠ "__name__" := by decide) (hdb : (x == ("__debug__" : Str)) = false := by decide)
    (he : starEach (a :: es) X.env = (false, eval a X.env) :: starEach es X.env := by rfl) (hpl : (backTo pos (starEach es X.env)).any (·.1) = false := by rfl) : PD X W (.Call (.Name x p) (a :: es) [] pos) (eA g m) := by
  obtain ⟨t, pa, sa⟩ := ha.ex
  exact ⟨_, pe_callTy hc hg hm hv pa hn hdb he hpl, fun ph S H sg rho Q gd so h => sndA (r := r) sa hr ph S H sg rho Q gd so h⟩
theorem one_of {K : PySem.W.Frag} {ph : List Addr} {H : Hp} {vs : List V} {x : SV} (h : DenSs K ph H vs [x]) : ∃ v, vs = [v] ∧ DenS K ph H v x := by
  cases h with
  | cons h t => cases t; exact ⟨_, rfl, h⟩
theorem two_of {K : PySem.W.Frag} {ph : List Addr} {H : Hp} {vs : List V} {x y : SV} (h : DenSs K ph H vs [x, y]) : ∃ v u, vs = [v, u] ∧ DenS K ph H v x ∧ DenS K ph H u y := by
  cases h with
  | cons h t =>
    obtain ⟨u, rfl, q⟩ := one_of t
    exact ⟨_, u, rfl, h, q⟩
def lenS (S : Store) (a : SV) : Option Nat := match rdS S a with
  | some xs => some xs.length
  | none => match a with
    | .fr (.tup ds) => some ds.length
    | .fr (.str z) => if z.length ≤ sizeLine then some z.length else none
    | _ => none
theorem lenS_ok {K : PySem.W.Frag} {ph : List Addr} {S : Store} {H : Hp} {v : V} {x : SV} {n : Nat} (g : Good K ph H S) (h : DenS K ph H v x) (e : lenS S x = some n) : LenV K v H n := by
  unfold lenS at e
  split at e
  · rename_i xs hx
    obtain ⟨p, vs, rfl, s, r⟩ := rdS_ok g h hx
    cases e
    exact .inl ⟨vs, s, r.length.symm⟩
  · split at e
    · obtain ⟨p, vs, rfl, s, r⟩ := d_tup h
      cases e
      exact .inr ⟨vs, hide_sub.sqT s, r.len.symm⟩
    · rw [d_str h]
      split at e
      · cases e; exact ⟨by assumption, rfl⟩
      · cases e
    · cases e
def lenG : GA := fun as S => match as with
  | [a] => match lenS S a with
    | some n => okV (.int n) S
    | none => .stuck
  | _ => .stuck
theorem len_ok : OpA X W (fun xs H Q => ∃ x n, xs = [x] ∧ LenV X.K x H n ∧ Q (.int n) H) lenG := by
  intro ph S H xs as Q g d h
  unfold lenG at h
  split at h
  · obtain ⟨v, rfl, dv⟩ := one_of d
    split at h
    · rename_i n hn
      exact ⟨v, n, rfl, lenS_ok g dv hn, fin_v g (.int _) h⟩
    · exact h.elim
  · exact h.elim
def absG : GA := fun as S => match as with
  | [.fr (.int i)] => okV (.int (if i < 0 then -i else i)) S
  | _ => .stuck
theorem abs_ok : OpA X W (fun xs H Q => ∃ i, xs = [.int i] ∧ Q (.int (if i < 0 then -i else i)) H) absG := by
  intro ph S H xs as Q g d h
  unfold absG at h
  split at h
  · obtain ⟨v, rfl, dv⟩ := one_of d
    rw [d_int dv]
    exact ⟨_, rfl, fin_v g (.int _) h⟩
  · exact h.elim
def intG : GA := fun as S => match as with
  | [.fr (.int i)] => okV (.int i) S
  | [.fr (.bl k)] => okV (.int (if k then 1 else 0)) S
  | _ => .stuck
theorem int_ok : OpA X W (fun xs H Q => (∃ i, xs = [.int i] ∧ Q (.int i) H) ∨ ∃ k, xs = [.bl k] ∧ Q (.int (if k then 1 else 0)) H) intG := by
  intro ph S H xs as Q g d h
  unfold intG at h
  split at h
  · obtain ⟨v, rfl, dv⟩ := one_of d
    rw [d_int dv]
    exact .inl ⟨_, rfl, fin_v g (.int _) h⟩
  · obtain ⟨v, rfl, dv⟩ := one_of d
    rw [d_bl dv]
    exact .inr ⟨_, rfl, fin_v g (.int _) h⟩
  · exact h.elim
def max2G : GA := fun as S => match as with
  | [.fr (.int i), .fr (.int j)] => okV (.int (if j > i then j else i)) S
  | _ => .stuck
def min2G : GA := fun as S => match as with
  | [.fr (.int i), .fr (.int j)] => okV (.int (if j < i then j else i)) S
  | _ => .stuck
theorem max2_ok : OpA X W (fun xs H Q => ∃ i j, xs = [.int i, .int j] ∧ Q (.int (if j > i then j else i)) H) max2G := by
  intro ph S H xs as Q g d h
  unfold max2G at h
  split at h
  · obtain ⟨v, u, rfl, dv, du⟩ := two_of d
    rw [d_int dv, d_int du]
    exact ⟨_, _, rfl, fin_v g (.int _) h⟩
  · exact h.elim
theorem min2_ok : OpA X W (fun xs H Q => ∃ i j, xs = [.int i, .int j] ∧ Q (.int (if j < i then j else i)) H) min2G := by
  intro ph S H xs as Q g d h
  unfold min2G at h
  split at h
  · obtain ⟨v, u, rfl, dv, du⟩ := two_of d
    rw [d_int dv, d_int du]
    exact ⟨_, _, rfl, fin_v g (.int _) h⟩
  · exact h.elim
abbrev rRepr (K : PySem.W.Frag) : List V → Hp → VK → Prop := fun xs H Q => ∃ x d, xs = [x] ∧ Dp K H x d ∧ d.showable = true ∧ d.hasDict = false ∧ SeqAt.shaped d = true ∧ d.shown.length ≤ sizeLine ∧ Q (.str d.shown) H
theorem call_reprD (hg : X.A.guards = some []) (hu : X.A.units + 80 < cLine) : CallR X (.builtin "repr") (rRepr X.K) := by
  intro pins s sg H xs us Q I r h
  obtain ⟨x, d, rfl, hd, h1, h2, h4, h3, q⟩ := h
  have hdep := SeqAt.depth_of_shaped h4
  obtain ⟨u, rfl, rx⟩ := vals1 r
  obtain ⟨as, rd⟩ := Dp.reads I d x u hd rx
  have go : ∀ a, u = .ref a → wpAny (model X.prog X.w) X.A (call (.builtin "repr") [u]) (EP X pins sg Q) X.xe s := by
    rintro a rfl
    refine repr_of_reads' rd h1 (PyData.noDict_hsm h2) hg (by omega) (fun _ _ e => e) (fun h' u tk hk => ?_) h3
    exact ⟨.str d.shown, H, I.kept hk, ⟨_, rfl⟩, q⟩
  cases hd with
  | non => cases rx; exact PySem.P.repr_of_none ⟨.str _, H, I.tok _, ⟨_, rfl⟩, by simpa only [PyData.shown] using q⟩
  | bl b => cases rx; exact PySem.P.repr_of_bool ⟨.str _, H, I.tok _, ⟨_, rfl⟩, by cases b <;> simpa [PyData.shown] using q⟩
  | int i =>
    obtain ⟨t, rfl⟩ := rx
    exact PySem.P.repr_of_int (by simpa [PyData.showable] using h1) ⟨.str _, H, I.tok _, ⟨_, rfl⟩, by simpa only [PyData.shown] using q⟩
  | str z =>
    obtain ⟨t, rfl⟩ := rx
    exact PySem.P.repr_of_str ⟨.str _, H, I.tok _, ⟨_, rfl⟩, by simpa only [PyData.shown] using q⟩ (by simpa only [PyData.shown] using h3)
  | lst _ _ => cases rx; exact go _ rfl
  | tup _ _ => cases rx; exact go _ rfl
def reprG : GA := fun as S => match as with
  | [a] => match snap S a with
    | some d => if plain d && rOk d then okV (.str (rTxt d)) S else .stuck
    | none => .stuck
  | _ => .stuck
theorem repr_ok : OpA X W (rRepr X.K) reprG := by
  intro ph S H xs as Q g d h
  unfold reprG at h
  split at h
  · obtain ⟨v, rfl, dv⟩ := one_of d
    split at h
    · rename_i e he
      split at h
      · rename_i hp
        simp only [Bool.and_eq_true] at hp
        obtain ⟨h1, h2⟩ := hp
        have h3 := rOk_len h2
        unfold rOk at h2
        simp only [Bool.and_eq_true, decide_eq_true_eq] at h2
        unfold plain at h1
        simp only [Bool.and_eq_true] at h1
        exact ⟨v, py e, rfl, dp_of h1.1 (snap_ok g dv he), h2.1.1.2, py_nodict e, h1.2, h3, fin_v g (.str _) h⟩
      · exact h.elim
    · exact h.elim
  · exact h.elim
end
end DL

namespace DL
open PySem PySem.Spec PyProof.Rows L2

/-! ### what a function hands back -/
inductive RV where
  | val (x : SV) | new (c : Cell)
abbrev FnM := List SV → Store → Res (RV × Store)
inductive Fl where
  | nx | bk | ct | rt (x : SV)
abbrev SM := Slots → Store → Res (Fl × Slots × Store)
def SV.below (n : Nat) : SV → Bool
  | .fr _ => true
  | .cell k => decide (k < n)
def Cell.below (n : Nat) : Cell → Bool
  | .lst xs => xs.all (SV.below n)
  | .ins _ fs => fs.all fun p => p.2.below n
  | .tup xs => xs.all (SV.below n)
  | .dic kvs => kvs.all fun p => p.2.below n
  | .dit kvs => kvs.all fun p => p.2.below n
theorem below_map (n : Nat) (ds : List D) : (ds.map SV.fr).all (SV.below n) = true := by
  simp [SV.below]
/-- a list that is the callee's own, as plain data -/
def frzC (S : Store) (n : Nat) : SV → Option D
  | .fr d => some d
  | .cell j => if n ≤ j then (match S[j]? with
    | some (.lst ys) => (allFr ys).map D.lst
    | _ => none) else none
def frzA (S : Store) (n : Nat) : List SV → Option (List D)
  | [] => some []
  | x :: xs => match frzC S n x, frzA S n xs with
    | some d, some ds => some (d :: ds)
    | _, _ => none
/-- a tuple of what is the callee's own -/
def leaveT (S : Store) (n : Nat) : Cell → Res (RV × Store)
  | .tup xs => match frzA S n xs with
    | some ds => .ok (.val (.fr (.tup ds)), S.take n)
    | none => .stuck
  | _ => .stuck
def leave (n : Nat) (x : SV) (S : Store) : Res (RV × Store) := if (S.take n).all (Cell.below n) then (match x with
  | .fr d => .ok (.val (.fr d), S.take n)
  | .cell k => if k < n then .ok (.val (.cell k), S.take n) else match S[k]? with
    | some c => if c.below n then .ok (.new c, S.take n) else leaveT S n c
    | none => .stuck) else .stuck
def leaveF (n : Nat) (r : Fl × Slots × Store) : Res (RV × Store) := match r.1 with
  | .nx => leave n (.fr .non) r.2.2
  | .rt x => leave n x r.2.2
  | _ => .stuck
/-- a def: np parameters, n slots, its body -/
def fnM (np n : Nat) (b : SM) : FnM := fun as S => if as.length = np then (b (as.map some ++ List.replicate (n - as.length) none) S).bind (leaveF S.length) else .stuck
section
variable {K : PySem.W.Frag} {ph ph' ph2 : List Addr} {H H' : Hp} {S : Store}
theorem sub_hide (h : ∀ a ∈ ph2, a ∈ ph') : Sub (hide ph' H) (hide ph2 H) := fun a o e => by
  obtain ⟨h1, h2⟩ := hide_some e
  exact hide_of (fun m => h1 (h a m)) h2
theorem DenS.shrink {n : Nat} (h : ∀ a ∈ ph2, a ∈ ph') (hk : ∀ k, k < n → ph2[k]? = ph'[k]?) {v : V} {x : SV} (hb : x.below n = true) (d : DenS K ph' H v x) : DenS K ph2 H v x := by
  cases x with
  | fr d' => exact Den.mono (sub_hide h) d
  | cell k =>
    obtain ⟨p, h1, h2⟩ := d
    exact ⟨p, by rw [hk k (by simpa [SV.below] using hb)]; exact h1, h2⟩
theorem paired_all {α β : Type} {P Q : α → β → Prop} {f : β → Bool} (hi : ∀ a b, f b = true → P a b → Q a b) : ∀ {l : List α} {m : List β}, Paired P l m → m.all f = true → Paired Q l m
  | _, _, .nil, _ => .nil
  | _, _, .cons h t, e => by
    simp only [List.all_cons, Bool.and_eq_true] at e
    exact .cons (hi _ _ e.1 h) (paired_all hi t e.2)
theorem CellAt.shrink {n : Nat} (h : ∀ a ∈ ph2, a ∈ ph') (hk : ∀ k, k < n → ph2[k]? = ph'[k]?) {p : Addr} {c : Cell} (hb : c.below n = true) (d : CellAt K ph' H p c) : CellAt K ph2 H p c := by
  cases c with
  | lst xs =>
    obtain ⟨vs, h1, h2⟩ := d
    exact ⟨vs, h1, paired_all (f := SV.below n) (fun a b hb q => DenS.shrink h hk hb q) h2 (show xs.all (SV.below n) = true from hb)⟩
  | ins C fs =>
    obtain ⟨dx, vs, h1, h2⟩ := d
    exact ⟨dx, vs, h1, paired_all (f := fun p : Str × SV => p.2.below n) (fun a b hb q => ⟨q.1, DenS.shrink h hk hb q.2⟩) h2 (show (fs.all fun p => p.2.below n) = true from hb)⟩
  | tup xs =>
    obtain ⟨vs, h1, h2⟩ := d
    exact ⟨vs, h1, paired_all (f := SV.below n) (fun a b hb q => DenS.shrink h hk hb q) h2 (show xs.all (SV.below n) = true from hb)⟩
  | dic kvs =>
    obtain ⟨vs, h1, h2⟩ := d
    exact ⟨vs, h1, paired_all (f := fun p : Key × SV => p.2.below n) (fun a b hb q => ⟨q.1, DenS.shrink h hk hb q.2⟩) h2 (show (kvs.all fun p => p.2.below n) = true from hb)⟩
  | dit kvs =>
    obtain ⟨vs, h1, h2⟩ := d
    exact ⟨vs, h1, paired_all (f := fun p : List Key × SV => p.2.below n) (fun a b hb q => ⟨q.1, DenS.shrink h hk hb q.2⟩) h2 (show (kvs.all fun p => p.2.below n) = true from hb)⟩
theorem paired_at {α β : Type} {P : α → β → Prop} : ∀ {l : List α} {m : List β} {k : Nat} {a : α} {b : β}, Paired P l m → l[k]? = some a → m[k]? = some b → P a b
  | _, _, _, _, _, .nil, e, _ => by simp at e
  | _, _, 0, _, _, .cons h t, e, e' => by simp at e e'; subst e; subst e'; exact h
  | _, _, k + 1, _, _, .cons h t, e, e' => paired_at (k := k) t (by simpa using e) (by simpa using e')
theorem Good.cut (g0 : Good K ph H S) (x : Ext ph H ph' H') {S' : Store} (g : Good K ph' H' S') (hb : (S'.take S.length).all (Cell.below S.length) = true) : Good K ph H' (S'.take S.length) := by
  obtain ⟨ps, rfl, hps⟩ := x.pre
  have hl := g0.len
  refine ⟨g0.nd, ?_⟩
  have q := paired_take S.length g.cells
  rw [← hl] at q hb
  rw [List.take_left'  (by rw [hl])] at q
  rw [← hl]
  refine paired_all (f := Cell.below ph.length) (fun p c hc d => CellAt.shrink (n := ph.length) (fun a m => List.mem_append_left _ m) (fun k hk => ?_) hc d) q hb
  rw [List.getElem?_append_left hk]
theorem Ext.back (x : Ext ph H ph' H') : Ext ph H ph H' := ⟨⟨[], by simp, by simp⟩, x.keep, x.trk⟩
/-- what is handed back, by value -/
def DenR (K : PySem.W.Frag) (ph : List Addr) (H0 H : Hp) (v : V) (S : Store) : RV → Prop
  | .val x => DenS K ph H v x
  | .new c => ∃ p, v = .ref p ∧ H0 p = none ∧ Good K (ph ++ [p]) H (S ++ [c])
def postF (K : PySem.W.Frag) (ph : List Addr) (H : Hp) (Q : VK) : RV × Store → Prop := fun r => ∀ v H', Ext ph H ph H' → Good K ph H' r.2 → DenR K ph H H' v r.2 r.1 → Q v H'
theorem frz_den {ps : List Addr} {S' : Store} (hn : ∀ p ∈ ps, p ∉ ph) (g : Good K (ph ++ ps) H' S') : ∀ {vs : List V} {xs : List SV} {ds : List D}, DenSs K (ph ++ ps) H' vs xs → frzA S' ph.length xs = some ds → Dens K (hide ph H') vs ds
  | _, _, ds, .nil, e => by
    simp only [frzA, Option.some.injEq] at e
    subst e
    exact .nil
  | v :: vs, x :: xs, ds, .cons h t, e => by
    unfold frzA at e
    split at e
    · rename_i d es h1 h2
      cases e
      refine .cons ?_ (frz_den hn g t h2)
      cases x with
      | fr d' =>
        simp only [frzC, Option.some.injEq] at h1
        subst h1
        exact Den.mono (sub_hide fun a m => List.mem_append_left _ m) h
      | cell j =>
        obtain ⟨p, hp, rfl⟩ := h
        have h1 : (if ph.length ≤ j then (match S'[j]? with | some (.lst ys) => (allFr ys).map D.lst | _ => none) else none) = some d := h1
        split at h1
        · rename_i hj
          split at h1
          · rename_i ys hys
            simp only [Option.map_eq_some_iff] at h1
            obtain ⟨zs, hz, rfl⟩ := h1
            have hm : p ∈ ps := by
              rw [List.getElem?_append_right hj] at hp
              exact List.mem_of_getElem? hp
            obtain ⟨ws, h4, h5⟩ := paired_at g.cells hp hys
            rw [allFr_eq hz] at h5
            exact .lst (hide_of (hn p hm) h4) (Dens.mono (sub_hide fun a m => List.mem_append_left _ m) (dens_of h5))
          · cases h1
        · cases h1
    · cases e
theorem leave_ok {Q : VK} {E : Exc → Slots → Store → Prop} (g0 : Good K ph H S) (x : Ext ph H ph' H') {S' : Store} (g : Good K ph' H' S') {v : V} {sv : SV} (d : DenS K ph' H' v sv) (h : holds (leave S.length sv S') (postF K ph H Q) E) : Q v H' := by
  unfold leave at h
  split at h
  · rename_i hb
    have gc := g0.cut x g hb
    obtain ⟨ps, rfl, hps⟩ := x.pre
    have hl := g0.len
    split at h
    · exact h v H' x.back gc (DenS.shrink (n := 0) (ph2 := ph) (fun a m => List.mem_append_left _ m) (fun k hk => by omega) rfl d)
    · obtain ⟨p, h1, rfl⟩ := d
      rename_i k
      split at h
      · rename_i hk
        refine h _ H' x.back gc ⟨p, ?_, rfl⟩
        rw [List.getElem?_append_left (by omega)] at h1
        exact h1
      · rename_i hk
        split at h
        · rename_i c hc
          split at h
          · rename_i hcb
            have hp : p ∈ ps := by
              rw [List.getElem?_append_right (by omega)] at h1
              exact List.mem_of_getElem? h1
            have hm : ∀ a ∈ ph ++ [p], a ∈ ph ++ ps := fun a m => by
              rcases List.mem_append.mp m with m | m
              · exact List.mem_append_left _ m
              · rw [List.mem_singleton.mp m]; exact List.mem_append_right _ hp
            have hn : p ∉ ph := fun m => by
              obtain ⟨o, e⟩ := g0.there m
              rw [hps p hp] at e; cases e
            have hix : ∀ j, j < S.length → (ph ++ [p])[j]? = (ph ++ ps)[j]? := fun j hj => by
              rw [List.getElem?_append_left (by omega), List.getElem?_append_left (by omega)]
            refine h _ H' x.back gc ⟨p, rfl, hps p hp, ⟨?_, ?_⟩⟩
            · exact List.nodup_append.mpr ⟨g0.nd, by simp, fun a ha b hb' e => hn (by rw [← List.mem_singleton.mp hb', ← e]; exact ha)⟩
            · have q := paired_take S.length g.cells
              rw [List.take_left' hl] at q
              exact paired_snoc (paired_all (f := Cell.below S.length) (fun p' c' hc' d' => CellAt.shrink (n := S.length) hm hix hc' d') q hb) (CellAt.shrink (n := S.length) hm hix hcb (paired_at g.cells h1 hc))
          · unfold leaveT at h
            split at h
            · rename_i xs hxs
              split at h
              · rename_i ds hds
                have hp : ∀ q ∈ ps, q ∉ ph := fun q hq m => by
                  obtain ⟨o, e⟩ := g0.there m
                  rw [hps q hq] at e; cases e
                have hpm : p ∈ ps := by
                  rw [List.getElem?_append_right (by omega)] at h1
                  exact List.mem_of_getElem? h1
                obtain ⟨ws, h4, h5⟩ := paired_at g.cells h1 hc
                rw [← hl] at hds
                exact h _ H' x.back gc (Den.tup (vs := ws) (.inl (.inl (hide_of (hp p hpm) h4))) (frz_den hp g h5 hds))
              · exact h.elim
            · exact h.elim
        · exact h.elim
  · exact h.elim
end

/-! ### statements -/
def postS (K : PySem.W.Frag) (ph : List Addr) (H : Hp) (Dn : Ends) : Fl × Slots × Store → Prop := fun r => ∀ ph' sg H', Ext ph H ph' H' → Good K ph' H' r.2.2 → SlotsOk K ph' H' sg r.2.1 → match r.1 with
  | .nx => Dn.nx sg H'
  | .bk => Dn.bk sg H'
  | .ct => Dn.ct sg H'
  | .rt x => ∀ v, DenS K ph' H' v x → Dn.rt v H'
theorem postS.mono {K : PySem.W.Frag} {ph ph' : List Addr} {H H' : Hp} {Dn : Ends} (e : Ext ph H ph' H') (r : Fl × Slots × Store) (h : postS K ph H Dn r) : postS K ph' H' Dn r := fun p s G a g d => h p s G (e.trans a) g d
abbrev SndS (X : Cx) (W : XW X.K) (t : TS) (m : SM) : Prop := ∀ (ph : List Addr) (S : Store) (H : Hp) (sg : L2.St) (rho : Slots) (Dn : Ends), Good X.K ph H S → SlotsOk X.K ph H sg rho →
    holds (m rho S) (postS X.K ph H Dn) (W.rel ph H) → t Dn sg H
structure PSD (X : Cx) (W : XW X.K) (st : Stmt) (m : SM) : Prop where
  ex : ∃ t, PS X st t ∧ SndS X W t m
structure PSDs (X : Cx) (W : XW X.K) (st : List Stmt) (m : SM) : Prop where
  ex : ∃ t, PSs X st t ∧ SndS X W t m

/-! ### functions -/
/-- the error e, of the class cls, with its dict at d -/
def ExD (K : PySem.W.Frag) (F : Hp) (e : Exc) (cls : Value) (d : Option Addr) : Prop := cls = .ref (He.ga K e.cls) ∧ ((d = none ∧ e.fs = []) ∨ (e.fs ≠ [] ∧ ∃ a vs, d = some a ∧ F a = some (.xd vs) ∧ DenF K F vs e.fs))
theorem ExD.mono {K : PySem.W.Frag} {F F' : Hp} (h : Sub F F') {e : Exc} {cls : Value} {d : Option Addr} (x : ExD K F e cls d) : ExD K F' e cls d :=
  ⟨x.1, x.2.imp id fun ⟨n, a, vs, q1, q2, q3⟩ => ⟨n, a, vs, q1, h _ _ q2, DenF.mono h q3⟩⟩
/-- where an error may leave, as the library's wish says -/
def XW.of (K : PySem.W.Frag) (Wq : L2.WX) : XW K := ⟨fun ph H e r S => ∀ ph' H' sg cls d, Ext ph H ph' H' → Good K ph' H' S → SlotsOk K ph' H' sg r → ExD K (hide ph' H') e cls d → Wq cls d sg H', fun _ _ _ _ _ _ _ x q ph' H' sg cls d y => q ph' H' sg cls d (x.trans y)⟩
def postX (K : PySem.W.Frag) (ph : List Addr) (H : Hp) (E : XK) : Exc → Slots → Store → Prop := fun e _ S => ∀ ph' H' cls d, Ext ph H ph' H' → Good K ph' H' S → ExD K (hide ph' H') e cls d → E cls d H'
abbrev XW.fn (K : PySem.W.Frag) (E : XK) : XW K := XW.of K fun cls d _ H => E cls d H
def spD (K : PySem.W.Frag) (m : FnM) : Sp := fun vs H Q E => ∃ ph S as, Good K ph H S ∧ DenSs K ph H vs as ∧ holds (m as S) (postF K ph H Q) (postX K ph H E)
def XW.none (K : PySem.W.Frag) : XW K := ⟨fun _ _ _ _ _ => False, fun _ _ _ _ _ _ _ _ h => h⟩
structure FnD (P : Program) (w : World) (K : PySem.W.Frag) (mg : Str → Option Value) (base : Heap) (k : Nat) (f : Addr) (fd : FuncData) (ps : List Str) (m : FnM) : Prop where
  len : ∀ vs H Q E, spD K m vs H Q E → vs.length = ps.length
  run : ∀ (A : Around) (outer : List Env) (s : Shared) (H : Hp) (args : Args) (us : List Value) (vs : List V) (Q : VK) (E : XK), A.guards = some [] → Room k A → Env0 P w K mg base A outer s H →
    BindsTo s fd args (ps.zip us) → Vals vs us → spD K m vs H Q E → codeAny (model P w) A (.call (.ref f) args) (CR (L2.CX P w) outer P w H s Q E) s
section
variable {P : Program} {w : World} {K : PySem.W.Frag} {mg : Str → Option Value} {base : Heap}
theorem spD_len {np n : Nat} {b : SM} {vs : List V} {H : Hp} {Q : VK} {E : XK} (h : spD K (fnM np n b) vs H Q E) : vs.length = np := by
  obtain ⟨ph, S, as, g, d, h⟩ := h
  unfold fnM at h
  split at h
  · rw [d.length]; assumption
  · exact h.elim
theorem fnD_of {k : Nat} {f : Addr} {name qual : Str} {params : Arguments} {body : List Stmt} {scope : Scope} {dV kV doc pm cdv ct oc : Value} {an od : Option Addr} {osl : Array (Option Value)} {N ps : List Str} {b : SM}
    (lk : K.lookup f = some ⟨oc, od, .func (PySem.W.fnOf name qual params body scope dV kV doc pm an cdv ct), osl⟩) (hcd : PySem.W.codeIn K cdv qual = true) (Sc : FnScope N ps scope)
    (hb : ∀ (A : Around) (outer : List Env) (s : Shared) (H : Hp) (E : XK), (A.deeper (envOfC qual scope s.heap.objs.size f cdv)).guards = some [] → Room k (A.deeper (envOfC qual scope s.heap.objs.size f cdv)) →
      PSDs (cxOf (L2.CX P w) P w K mg base N qual scope f cdv A outer s H E) (XW.fn K E) body b) :
    FnD P w K mg base (k + 1) f (PySem.W.fnOf name qual params body scope dV kV doc pm an cdv ct) ps (fnM ps.length N.length b) := by
  refine ⟨fun vs H Q E h => spD_len h, ?_⟩
  intro A outer s H args us vs Q E hgd hroom e0 hbind rv hsp
  have len0 : vs.length = ps.length := spD_len hsp
  have KX : K.In s.heap := e0.mod.kin.keeps fun b o e => (e0.bs b o e).1
  have lim : s.heap.NoLimit := e0.mod.nolimit.keeps fun b o e => (e0.bs b o e).1
  have kinds : ∀ y ∈ ps.zip us, scope.names.lookup y.1 = some .local ∨ (scope.names.lookup y.1 = some .cell ∧ ((cellsFrom (s.heap.objs.size + 1) scope.names []).lookup y.1).isSome = true) := by
    rintro ⟨n, v⟩ hy
    cases Sc.par n (List.of_mem_zip hy).1 with
    | inl q => exact .inl q
    | inr q => exact .inr ⟨q, PySem.W.cellsFrom_some _ _ _ (.inl q)⟩
  refine codeAny_call_function hroom.depth (KX _ _ lk) rfl Sc.co Sc.gen rfl (PySem.W.codeRec_of KX hcd) (hbind _ _ _ _ ?_)
  refine wpAny_newFunctionEnv_cells Sc.kind kinds fun env he s1 x => ?_
  subst he
  refine ⟨lim.keeps x.toInCall.keep, codeAny_func ?_⟩
  obtain ⟨t, ht, snd⟩ := (hb A outer s H E hgd (hroom.deeper _)).ex
  have I : Inv (cxOf (L2.CX P w) P w K mg base N qual scope f cdv A outer s H E) [] (L2.start N vs) H s1 := inv_start Sc hroom.hd e0 len0 rv x
  have done : ∀ {sg' : L2.St} {H' : Hp} {v : V} {u : Value} {s' : Shared}, Inv (cxOf (L2.CX P w) P w K mg base N qual scope f cdv A outer s H E) [] sg' H' s' → RelV v u → Q v H' → CE outer P w H s Q u s' := by
    intro sg' H' v u s' J rv q
    exact ⟨v, H', J.os, J.bare, J.base, J.hok, rv, q⟩
  have rd : t { nx := fun _ H' => Q .non H', rt := Q } (L2.start N vs) H := by
    obtain ⟨ph, S, as, g, d, hh⟩ := hsp
    have la : as.length = ps.length := by rw [← d.length]; exact len0
    unfold fnM at hh
    rw [if_pos la] at hh
    refine snd ph S H (L2.start N vs) _ _ g ⟨by simp [L2.start, d.length], fun i x hi => ?_⟩ (holds_imp (holds_bind hh) (fun r hr => ?_) fun _ _ _ q ph' H' _ cls d x' g' _ z => q ph' H' cls d x' g' z)
    · have hi' : (as.map some ++ List.replicate (N.length - as.length) none)[i]? = some (some x) := hi
      by_cases hlt : i < as.length
      · rw [List.getElem?_append_left (by simpa using hlt), List.getElem?_map] at hi'
        cases q : as[i]? with
        | none => rw [q] at hi'; cases hi'
        | some y =>
          rw [q] at hi'
          have e := Option.some.inj (Option.some.inj hi')
          subst e
          obtain ⟨v, h1, h2⟩ := paired_get d q
          refine ⟨v, ?_, h2⟩
          unfold L2.start
          rw [List.getElem?_append_left (by rw [List.length_map, d.length]; exact hlt), List.getElem?_map, h1]
          rfl
      · rw [List.getElem?_append_right (by simpa using hlt)] at hi'
        have := List.getElem?_replicate (n := N.length - as.length) (a := (none : Option SV)) (i := i - (as.map some).length)
        rw [this] at hi'
        split at hi' <;> cases hi'
    · intro ph' sg' H' x' g' so'
      obtain ⟨fl, rho', S'⟩ := r
      cases fl with
      | nx => exact leave_ok g x' g' (v := .non) (sv := .fr .non) Den.non hr
      | rt sv => exact fun v dv => leave_ok g x' g' dv hr
      | bk => exact hr.elim
      | ct => exact hr.elim
  refine wpAny_mono (ht.run [] s1 (L2.start N vs) H _ I rd) (fun fl s' hs => ?_) fun e s' hs => hs
  cases fl with
  | ret u =>
    obtain ⟨v, sg', H', J, rv, q⟩ := hs
    exact done J rv q
  | next =>
    obtain ⟨sg', H', J, q⟩ := hs
    exact done (v := V.non) (u := Value.none) J rfl q
  | brk => exact hs.choose_spec.choose_spec.2.elim
  | cont => exact hs.choose_spec.choose_spec.2.elim
/-- a def of the module that may be called by its name -/
structure CalD (P : Program) (w : World) (K : PySem.W.Frag) (mg : Str → Option Value) (base : Heap) (k : Nat) (x : Str) (m : FnM) : Prop where
  ex : ∃ f fd ps, mg x = some (.ref f) ∧ PySem.W.keepIn K (.ref f) = true ∧ Binds K fd ps [] ∧ FnD P w K mg base k f fd ps m
theorem calD_of {k : Nat} {x : Str} {st : Stmt} {f : Addr} {fd : FuncData} {N ps : List Str} {b : SM} (F : Fun K x x st f fd) (hm : mg x = some (.ref f)) (hbd : Binds K fd ps []) (Sc : FnScope N ps (defScope st))
    (hb : ∀ (cdv : Value) (A : Around) (outer : List Env) (s : Shared) (H : Hp) (E : XK), (A.deeper (envOfC x (defScope st) s.heap.objs.size f cdv)).guards = some [] → Room k (A.deeper (envOfC x (defScope st) s.heap.objs.size f cdv)) →
      PSDs (cxOf (L2.CX P w) P w K mg base N x (defScope st) f cdv A outer s H E) (XW.fn K E) (defBody st) b) : CalD P w K mg base (k + 1) x (fnM ps.length N.length b) := by
  obtain ⟨oc, od, kV, doc, pm, an, cdv, ct, osl, rfl, lk, hcd⟩ := F.ex
  exact ⟨f, _, ps, hm, F.kp, hbd, fnD_of lk hcd Sc fun A outer s H E => hb cdv A outer s H E⟩
end
/-- an error of a callee is not served here -/
def noX (r : Res (RV × Store)) : Res (RV × Store) := match r with
  | .exc _ _ _ => .stuck
  | x => x
def allFrK : List (Key × SV) → Option (List (Key × D))
  | [] => some []
  | (k, .fr d) :: r => (allFrK r).map ((k, d) :: ·)
  | _ => none
theorem denK_of {K : PySem.W.Frag} {ph : List Addr} {H : Hp} : ∀ {vs : List (Key × V)} {kvs : List (Key × SV)} {ds : List (Key × D)}, DenSK K ph H vs kvs → allFrK kvs = some ds → DenK K (hide ph H) vs ds
  | _, [], ds, .nil, e => by
    simp only [allFrK, Option.some.injEq] at e
    subst e
    exact .nil
  | (k', v) :: vs, (k, .fr d) :: r, ds, .cons h t, e => by
    simp only [allFrK, Option.map_eq_some_iff] at e
    obtain ⟨es, h1, rfl⟩ := e
    obtain ⟨h2, h3⟩ := h
    dsimp only at h2
    subst h2
    exact .cons h3 (denK_of t h1)
  | _ :: _, (k, .cell _) :: r, ds, .cons h t, e => by simp [allFrK] at e
def freeze : Cell → Option D
  | .lst xs => (allFr xs).map D.lst
  | .dic kvs => (allFrK kvs).map D.dct
  | .ins _ _ => none
  | .tup _ => none
  | .dit _ => none
def back (c : Bool) (r : RV × Store) : Res (SV × Store) := match r.1 with
  | .val x => .ok (x, r.2)
  | .new cl => if c then .ok (.cell r.2.length, r.2 ++ [cl]) else match freeze cl with
    | some d => .ok (.fr d, r.2)
    | none => .stuck
def eCall (f : FnM) (c : Bool) (m : AM) : EM := fun rho S => (m rho S).bind fun x => (noX (f x.1 x.2)).bind (back c)
section
variable {X : Cx} {W : XW X.K} {e : Expr} {es : List Expr} {pos p : Pos} {m : AM}
theorem back_ok {ph ph1 : List Addr} {H H1 : Hp} {Q : VK} {c : Bool} {r : RV × Store} {E : Exc → Slots → Store → Prop} (x1 : Ext ph H ph1 H1) (h : holds (back c r) (post X.K ph H Q) E) : postF X.K ph1 H1 Q r := by
  intro v H2 x2 g2 d2
  obtain ⟨rv, S2⟩ := r
  cases rv with
  | val x => exact h ph1 v H2 (x1.trans x2) g2 d2
  | new cl =>
    obtain ⟨q, rfl, hn, g3⟩ := d2
    have x3 : Ext ph1 H1 (ph1 ++ [q]) H2 := ⟨⟨[q], rfl, fun a ha => by rw [List.mem_singleton.mp ha]; exact hn⟩, x2.keep, x2.trk⟩
    unfold back at h
    dsimp only at h g2 g3
    cases c with
    | true => exact h (ph1 ++ [q]) (.ref q) H2 (x1.trans x3) g3 ⟨q, by rw [← g2.len]; simp, rfl⟩
    | false =>
      simp only [Bool.false_eq_true, if_false] at h
      split at h
      · rename_i d hd
        refine h ph1 (.ref q) H2 (x1.trans x2) g2 ?_
        have cq : CellAt X.K (ph1 ++ [q]) H2 q cl := paired_at (k := S2.length) g3.cells (by rw [← g2.len]; simp) (by simp)
        cases cl with
        | lst xs =>
          obtain ⟨vs, h4, h5⟩ := cq
          simp only [freeze, Option.map_eq_some_iff] at hd
          obtain ⟨ds, h6, rfl⟩ := hd
          rw [allFr_eq h6] at h5
          have hq : q ∉ ph1 := fun mm => by
            have := g3.nd
            rw [List.nodup_append] at this
            exact this.2.2 q mm q (by simp) rfl
          exact .lst (hide_of hq h4) (Dens.mono (sub_hide fun a ha => List.mem_append_left _ ha) (dens_of h5))
        | ins C fs => simp [freeze] at hd
        | tup xs => simp [freeze] at hd
        | dit xs => simp [freeze] at hd
        | dic kvs =>
          simp only [freeze, Option.map_eq_some_iff] at hd
          obtain ⟨ds, h6, rfl⟩ := hd
          obtain ⟨vs, h4, h5⟩ := cq
          have hq : q ∉ ph1 := fun mm => by
            have := g3.nd
            rw [List.nodup_append] at this
            exact this.2.2 q mm q (by simp) rfl
          exact .dct (hide_of hq h4) (DenK.mono (sub_hide fun a ha => List.mem_append_left _ ha) (denK_of h5 h6))
      · exact h.elim
theorem noX_ok {r : Res (RV × Store)} {Q : RV × Store → Prop} {E E' : Exc → Slots → Store → Prop} (h : holds (noX r) Q E) : holds r Q E' := by
  cases r with
  | ok a => exact h
  | exc _ _ _ => exact h.elim
  | stuck => exact h
theorem pe_callD {k j : Nat} {x : Str} {f : FnM} {t : TA} (c : CalD X.prog X.w X.K X.mg X.base k x f) (hr : Room j X.A) (hk : k ≤ j) (hgd : X.A.guards = some []) (hg : Gl X x) (ha : PA X (e :: es) t)
    (hdb : (x == ("__debug__" : Str)) = false) (he : starEach (e :: es) X.env = (false, eval e X.env) :: starEach es X.env) (hpl : (backTo pos (starEach es X.env)).any (·.1) = false) :
    PE X (.Call (.Name x p) (e :: es) [] pos) (fun sg H Q => t sg H fun vs H1 => spD X.K f vs H1 Q E0) := by
  obtain ⟨g, fd, ps, hm, hkp, hbd, F⟩ := c.ex
  refine ⟨fun pins s sg H Q I h => wpAny_Call_Name_kw (ld_glob I hg hm ?_ hdb)⟩
  refine PySem.W.callWith_K (h₀ := X.base) I.ok.mod.kin hkp (thn (ha.run pos pins s sg H _ I h) fun us s1 ⟨vs, H1, I1, r, q⟩ => ⟨I1.kIn, ?_⟩) he hpl
  have hl : (us ++ []).length = ps.length := by rw [List.append_nil, ← r.length]; exact F.len _ _ _ _ q
  have bt := hbd s1 us I1.kIn hl
  rw [List.append_nil] at bt
  refine wpAny_call (codeAny_mono (F.run X.A X.stack s1 H1 ⟨us, []⟩ us vs Q E0 hgd (hr.mono hk) I1.env0 bt r q) fun r s' hq => ?_)
  cases r with
  | error e => exact passL pins sg H1 s1 e s' I1 hq
  | ok fl =>
    cases fl with
    | ret u => exact I1.after hq
    | next => exact False.elim hq
    | brk => exact False.elim hq
    | cont => exact False.elim hq
theorem pd_call {k j : Nat} {x : Str} {f : FnM} (cc : Bool) (c : CalD X.prog X.w X.K X.mg X.base k x f) (hr : Room j X.A) (hk : k ≤ j) (hgd : X.A.guards = some []) (ha : PDA X W (e :: es) m) (hg : Gl X x := by rfl)
    (hdb : (x == ("__debug__" : Str)) = false := by decide) (he : starEach (e :: es) X.env = (false, eval e X.env) :: starEach es X.env := by rfl) (hpl : (backTo pos (starEach es X.env)).any (·.1) = false := by rfl) : PD X W (.Call (.Name x p) (e :: es) [] pos) (eCall f cc m) := by
  obtain ⟨t, pa, sa⟩ := ha.ex
  refine ⟨_, pe_callD c hr hk hgd hg pa hdb he hpl, fun ph S H sg rho Q gd so h => sa ph S H sg rho _ gd so (holds_imp (holds_bind h) (fun y hy => ?_) fun _ _ _ q => q)⟩
  intro ph1 vs H1 x1 g1 d1
  exact ⟨ph1, y.2, y.1, g1, d1, noX_ok (holds_imp (holds_bind hy) (fun r hr => back_ok x1 hr) fun _ _ _ q => q)⟩
end
end DL

namespace DL
open PySem PySem.Spec PyProof.Rows L2

section
variable {X : Cx} {W : XW X.K} {a b c : Expr} {ma mb mc : EM} {pos : Pos}
/-! ### small statements -/
def sNx : SM := fun rho S => .ok (.nx, rho, S)
def sSeq (m n : SM) : SM := fun rho S => (m rho S).bind fun r => match r.1 with
  | .nx => n r.2.1 r.2.2
  | f => .ok (f, r.2.1, r.2.2)
theorem pss_n : PSDs X W [] sNx := ⟨_, pss_nil, fun ph S H sg rho Dn g so h => h ph sg H (Ext.refl _ _) g so⟩
theorem pss_c {st : Stmt} {rest : List Stmt} {m n : SM} (h1 : PSD X W st m) (h2 : PSDs X W rest n) : PSDs X W (st :: rest) (sSeq m n) := by
  obtain ⟨t, p, s⟩ := h1.ex
  obtain ⟨t2, p2, s2⟩ := h2.ex
  refine ⟨_, pss_cons p p2, fun ph S H sg rho Dn g so h => s ph S H sg rho _ g so (holds_imp (holds_bind h) (fun r hr => ?_) fun _ _ _ q => q)⟩
  intro ph1 sg1 H1 x1 g1 so1
  obtain ⟨fl, rho1, S1⟩ := r
  cases fl with
  | nx => exact s2 ph1 S1 H1 sg1 rho1 Dn g1 so1 (holds_imp hr (fun c => postS.mono x1 c) fun e r s q => W.mono _ _ _ _ e r s x1 q)
  | bk => exact hr ph1 sg1 H1 x1 g1 so1
  | ct => exact hr ph1 sg1 H1 x1 g1 so1
  | rt x => exact hr ph1 sg1 H1 x1 g1 so1
theorem pss_1 {st : Stmt} {m : SM} (h1 : PSD X W st m) : PSDs X W [st] m := by
  obtain ⟨t, p, s⟩ := h1.ex
  exact ⟨t, pss_one p, s⟩
theorem psd_pass : PSD X W (.Pass pos) sNx := ⟨_, ps_pass, fun ph S H sg rho Dn g so h => h ph sg H (Ext.refl _ _) g so⟩
def sBk : SM := fun rho S => .ok (.bk, rho, S)
def sCt : SM := fun rho S => .ok (.ct, rho, S)
theorem psd_break : PSD X W (.Break pos) sBk := ⟨_, ps_break, fun ph S H sg rho Dn g so h => h ph sg H (Ext.refl _ _) g so⟩
theorem psd_continue : PSD X W (.Continue pos) sCt := ⟨_, ps_continue, fun ph S H sg rho Dn g so h => h ph sg H (Ext.refl _ _) g so⟩
/-- code that the mirror never comes to -/
def sNo : SM := fun _ _ => .stuck
theorem psd_never {st : Stmt} : PSD X W st sNo := ⟨_, ps_never, fun _ _ _ _ _ _ _ _ h => h.elim⟩
def sRet (m : EM) : SM := fun rho S => (m rho S).bind fun x => .ok (.rt x.1, rho, x.2)
theorem psd_ret (ha : PD X W a ma) : PSD X W (.Return (some a) pos) (sRet ma) := by
  obtain ⟨ta, pa, sa⟩ := ha.ex
  refine ⟨_, ps_ret pa, fun ph S H sg rho Dn g so h => sa ph S H sg rho _ g so (holds_imp (holds_bind h) (fun x hx => ?_) fun _ _ _ q => q)⟩
  exact fun ph1 v1 H1 x1 g1 d1 => hx ph1 sg H1 x1 g1 (so.mono x1) v1 d1
def sRetN : SM := fun rho S => .ok (.rt (.fr .non), rho, S)
theorem psd_retN : PSD X W (.Return none pos) sRetN := ⟨_, ps_retN, fun ph S H sg rho Dn g so h => h ph sg H (Ext.refl _ _) g so .non Den.non⟩
def sIf (t : TM) (m n : SM) : SM := fun rho S => (t rho S).bind fun x => if x.1 then m rho x.2 else n rho x.2
theorem psd_if {l1 l2 : List Stmt} {m : TM} {m1 m2 : SM} (ht : PDT X W c m) (h1 : PSDs X W l1 m1) (h2 : PSDs X W l2 m2) : PSD X W (.If c l1 l2 pos) (sIf m m1 m2) := by
  obtain ⟨t, p, s⟩ := ht.ex
  obtain ⟨t1, p1, s1⟩ := h1.ex
  obtain ⟨t2, p2, s2⟩ := h2.ex
  refine ⟨_, ps_if p p1 p2, fun ph S H sg rho Dn g so h => s ph S H sg rho _ g so (holds_imp (holds_bind h) (fun x hx => ?_) fun _ _ _ q => q)⟩
  intro ph1 H1 x1 g1
  obtain ⟨k, S1⟩ := x
  have up : ∀ {r : Res (Fl × Slots × Store)}, holds r (postS X.K ph H Dn) (W.rel ph H) → holds r (postS X.K ph1 H1 Dn) (W.rel ph1 H1) := fun q => holds_imp q (fun c => postS.mono x1 c) fun e r s q => W.mono _ _ _ _ e r s x1 q
  cases k with
  | true => exact s1 ph1 S1 H1 sg rho Dn g1 (so.mono x1) (up hx)
  | false => exact s2 ph1 S1 H1 sg rho Dn g1 (so.mono x1) (up hx)
def sEx (m : EM) : SM := fun rho S => (m rho S).bind fun x => .ok (.nx, rho, x.2)
theorem psd_expr (ha : PD X W a ma) (hs : swapsWith a none pos.line X.env = pure false := by rfl) : PSD X W (.Expr a pos) (sEx ma) := by
  obtain ⟨ta, pa, sa⟩ := ha.ex
  refine ⟨_, ps_expr pa hs, fun ph S H sg rho Dn g so h => sa ph S H sg rho _ g so (holds_imp (holds_bind h) (fun x hx => ?_) fun _ _ _ q => q)⟩
  exact fun ph1 v1 H1 x1 g1 d1 => hx ph1 sg H1 x1 g1 (so.mono x1)

/-! ### targets -/
abbrev GM := SV → Slots → Store → Res (Slots × Store)
abbrev GMs := List SV → Slots → Store → Res (Slots × Store)
/-- the slots but those of is are as they were -/
def Out (is : List Nat) (sg sg' : L2.St) : Prop := sg'.length = sg.length ∧ ∀ i, i ∉ is → sg'[i]? = sg[i]?
def postG (K : PySem.W.Frag) (ph : List Addr) (H : Hp) (is : List Nat) (sg : L2.St) (Q : L2.St → Hp → Prop) : Slots × Store → Prop := fun r =>
  ∀ ph' sg' H', Ext ph H ph' H' → Good K ph' H' r.2 → SlotsOk K ph' H' sg' r.1 → Out is sg sg' → Q sg' H'
structure PGD (X : Cx) (W : XW X.K) (is : List Nat) (tg : Expr) (m : GM) : Prop where
  ex : ∃ t, PG X tg t ∧ ∀ (ph : List Addr) (S : Store) (H : Hp) (sg : L2.St) (rho : Slots) (v : V) (x : SV) (Q : L2.St → Hp → Prop), Good X.K ph H S → SlotsOk X.K ph H sg rho → DenS X.K ph H v x →
    holds (m x rho S) (postG X.K ph H is sg Q) (W.rel ph H) → t v sg H Q
structure PGDs (X : Cx) (W : XW X.K) (is : List Nat) (tg : List Expr) (m : GMs) : Prop where
  ex : ∃ t, PGs X tg t ∧ ∀ (ph : List Addr) (S : Store) (H : Hp) (sg : L2.St) (rho : Slots) (vs : List V) (xs : List SV) (Q : L2.St → Hp → Prop), Good X.K ph H S → SlotsOk X.K ph H sg rho → DenSs X.K ph H vs xs →
    holds (m xs rho S) (postG X.K ph H is sg Q) (W.rel ph H) → t vs sg H Q
def gNm (i : Nat) : GM := fun x rho S => .ok (rho.set i (some x), S)
theorem out_set (sg : L2.St) (i : Nat) (v : Option V) : Out [i] sg (sg.set i v) := ⟨by simp, fun j hj => List.getElem?_set_ne (fun e => hj (by simp [e]))⟩
theorem Out.trans {is js : List Nat} {s1 s2 s3 : L2.St} (a : Out is s1 s2) (b : Out js s2 s3) : Out (is ++ js) s1 s3 :=
  ⟨b.1.trans a.1, fun i hi => (b.2 i (fun h => hi (List.mem_append_right _ h))).trans (a.2 i (fun h => hi (List.mem_append_left _ h)))⟩
theorem pgd_name {i : Nat} {x : Str} (hN : X.N.Nodup) (hi : X.N[i]? = some x := by rfl) (hx : Loc X.env.scope x := by first | exact Or.inl rfl | exact Or.inr rfl) (hf : X.fn x = true ∨ X.env.scope.names.lookup x = some .local := by first | exact .inl rfl | exact .inr rfl) : PGD X W [i] (.Name x pos) (gNm i) := by
  refine ⟨_, pg_name hN hi hx hf, fun ph S H sg rho v x Q g so d h => ?_⟩
  exact h ph _ H (Ext.refl _ _) g (so.set i d) (out_set _ _ _)
def gNl : GMs := fun xs rho S => match xs with
  | [] => .ok (rho, S)
  | _ => .stuck
def gCs (m : GM) (n : GMs) : GMs := fun xs rho S => match xs with
  | x :: r => (m x rho S).bind fun q => n r q.1 q.2
  | [] => .stuck
theorem pgds_nil : PGDs X W [] [] gNl := by
  refine ⟨_, pgs_nil, fun ph S H sg rho vs xs Q g so d h => ?_⟩
  cases d with
  | nil => exact ⟨rfl, h ph sg H (Ext.refl _ _) g so ⟨rfl, fun _ _ => rfl⟩⟩
  | cons _ _ => exact h.elim
theorem pgds_cons {is js : List Nat} {e : Expr} {es : List Expr} {m : GM} {n : GMs} (h1 : PGD X W is e m) (h2 : PGDs X W js es n) (hs : (assignEach (e :: es) X.env).map (·.2) = assign e X.env :: (assignEach es X.env).map (·.2) := by rfl) : PGDs X W (is ++ js) (e :: es) (gCs m n) := by
  obtain ⟨t, p, s⟩ := h1.ex
  obtain ⟨t2, p2, s2⟩ := h2.ex
  refine ⟨_, pgs_cons p p2 hs, fun ph S H sg rho vs xs Q g so d h => ?_⟩
  cases d with
  | nil => exact h.elim
  | cons d1 d2 =>
    refine ⟨_, _, rfl, s ph S H sg rho _ _ _ g so d1 (holds_imp (holds_bind h) (fun r hr => ?_) fun _ _ _ q => q)⟩
    intro ph1 sg1 H1 x1 g1 so1 o1
    refine s2 ph1 r.2 H1 sg1 r.1 _ _ Q g1 so1 (DenSs.mono x1 d2) (holds_imp hr (fun c hc => ?_) fun e r s q => W.mono _ _ _ _ e r s x1 q)
    exact fun ph2 sg2 H2 x2 g2 so2 o2 => hc ph2 sg2 H2 (x1.trans x2) g2 so2 (o1.trans o2)
def gTu (n : Nat) (m : GMs) : GM := fun x rho S => match x with
  | .fr (.tup ds) => if ds.length = n then m (ds.map SV.fr) rho S else .stuck
  | _ => .stuck
theorem pgd_tup {is : List Nat} {es : List Expr} {k n : Nat} {m : GMs} (hc : X.calm = true) (h : PGDs X W is es m) (hn : (assignEach es X.env).length = n := by rfl) (hst : (assignEach es X.env).findIdx? (·.1) = none := by rfl) : PGD X W is (.Tuple es k pos) (gTu n m) := by
  obtain ⟨t, p, s⟩ := h.ex
  refine ⟨_, pg_tup hc p hn hst, fun ph S H sg rho v x Q g so d h => ?_⟩
  unfold gTu at h
  split at h
  · split at h
    · rename_i hl
      obtain ⟨q, vs, rfl, sq, r⟩ := d_tup d
      exact ⟨q, vs, rfl, hide_sub.sqT sq, by rw [r.len]; exact hl, s ph S H sg rho _ _ Q g so (of_dens r) h⟩
    · exact h.elim
  · exact h.elim
theorem paired_set2 {α β : Type} {P : α → β → Prop} {x : α} {y : β} : ∀ {l : List α} {m : List β} (n : Nat), Paired P l m → P x y → Paired P (l.set n x) (m.set n y)
  | _, _, _, .nil, _ => .nil
  | _, _, 0, .cons _ t, q => .cons q t
  | _, _, n + 1, .cons h t, q => .cons h (paired_set2 n t q)
/-- o[i] = v -/
def setL (o i v : SV) (S : Store) : Res Store := match o, i with
  | .cell k, .fr (.int j) => match S[k]? with
    | some (.lst xs) => match ixN xs.length j with
      | some n => .ok (S.set k (.lst (xs.set n v)))
      | none => .stuck
    | _ => .stuck
  | _, _ => .stuck
theorem setL_ok {ph : List Addr} {S : Store} {H : Hp} {o i v : V} {so si sv : SV} {Q : Hp → Prop} {E : Exc → Slots → Store → Prop} (g : Good X.K ph H S) (d1 : DenS X.K ph H o so) (d2 : DenS X.K ph H i si) (d3 : DenS X.K ph H v sv)
    (h : holds (setL so si sv S) (fun S' => ∀ ph' H', Ext ph H ph' H' → Good X.K ph' H' S' → Q H') E) : rSetL o i v H Q := by
  unfold setL at h
  split at h
  · rename_i k j
    split at h
    · rename_i xs hk
      split at h
      · rename_i n hn
        obtain ⟨p, h1, rfl⟩ := d1
        obtain ⟨q, h3, vs, h4, h5⟩ := g.at hk
        rw [h1] at h3; cases h3
        rw [d_int d2]
        refine ⟨p, vs, j, n, rfl, rfl, h4, by rw [h5.length]; exact hn, ?_⟩
        have hm : p ∈ ph := List.mem_of_getElem? h1
        have e : Ext ph H ph (upd H p (.lst (vs.set n v))) := Ext.write hm
        refine h ph _ e (g.write h1 ⟨_, upd_same, ?_⟩)
        exact paired_set2 n (DenSs.mono e h5) (d3.mono e)
      · exact h.elim
    · exact h.elim
  · exact h.elim
def gSb (mo mi : EM) : GM := fun x rho S => (mo rho S).bind fun o => (mi rho o.2).bind fun i => (setL o.1 i.1 x i.2).bind fun S' => .ok (rho, S')
theorem pgd_sub (ha : PD X W a ma) (hb : PD X W b mb) (hass : ∀ v, assign (.Subscript a b pos) X.env v = (do
      let ov ← holding [v] (eval a X.env)
      let iv ← holding [v, ov] (eval b X.env)
      standAt pos
      holding [v, ov, iv] (setItem ov iv v)
      release [v, ov, iv] []) := by intro _; rfl) : PGD X W [] (.Subscript a b pos) (gSb ma mb) := by
  obtain ⟨ta, pa, sa⟩ := ha.ex
  obtain ⟨tb, pb, sb⟩ := hb.ex
  refine ⟨_, pg_sub pa pb set_list hass, fun ph S H sg rho v x Q g so d h => sa ph S H sg rho _ g so (holds_imp (holds_bind h) (fun o ho => ?_) fun _ _ _ q => q)⟩
  intro ph1 v1 H1 x1 g1 d1
  refine sb ph1 o.2 H1 sg rho _ g1 (so.mono x1) (holds_imp (holds_bind ho) (fun i hi => ?_) fun e r s q => W.mono _ _ _ _ e r s x1 q)
  intro ph2 v2 H2 x2 g2 d2
  refine setL_ok g2 (d1.mono x2) d2 (d.mono (x1.trans x2)) (holds_imp (holds_bind hi) (fun S3 h3 => ?_) fun e r s q => q)
  intro ph3 H3 x3 g3
  have x13 := x1.trans (x2.trans x3)
  exact h3 ph3 sg H3 x13 g3 (so.mono x13) ⟨rfl, fun _ _ => rfl⟩
/-- target = value -/
def sAs (m : EM) (g : GM) : SM := fun rho S => (m rho S).bind fun x => (g x.1 rho x.2).bind fun r => .ok (.nx, r.1, r.2)
theorem psd_asg {is : List Nat} {tg : Expr} {g : GM} (ha : PD X W a ma) (hg : PGD X W is tg g) (hs : swapsWithSole [tg] a pos.line X.env = pure false := by rfl) (hw : swappedStores [tg] a X.env = pure none := by rfl)
    (h1 : (assignEach [tg] X.env).map (·.2) = [assign tg X.env] := by rfl) : PSD X W (.Assign [tg] a pos) (sAs ma g) := by
  obtain ⟨ta, pa, sa⟩ := ha.ex
  obtain ⟨tt, pt, st⟩ := hg.ex
  refine ⟨_, ps_asg pa pt hs hw h1, fun ph S H sg rho Dn gd so h => sa ph S H sg rho _ gd so (holds_imp (holds_bind h) (fun x hx => ?_) fun _ _ _ q => q)⟩
  intro ph1 v1 H1 x1 g1 d1
  refine st ph1 x.2 H1 sg rho v1 x.1 _ g1 (so.mono x1) d1 (holds_imp (holds_bind hx) (fun r hr => ?_) fun e r s q => W.mono _ _ _ _ e r s x1 q)
  exact fun ph2 sg2 H2 x2 g2 so2 _ => hr ph2 sg2 H2 (x1.trans x2) g2 so2
/-- name = value -/
def sSet (i : Nat) (m : EM) : SM := fun rho S => (m rho S).bind fun x => .ok (.nx, rho.set i (some x.1), x.2)
theorem psd_set {i : Nat} {x : Str} {pos' : Pos} (hN : X.N.Nodup) (ha : PD X W a ma) (hi : X.N[i]? = some x := by rfl) (hx : Loc X.env.scope x := by first | exact Or.inl rfl | exact Or.inr rfl)
    (hs : swapsWith a (some (.Name x pos')) pos.line X.env = pure false := by rfl) (hf : X.fn x = true ∨ X.env.scope.names.lookup x = some .local := by first | exact .inl rfl | exact .inr rfl) : PSD X W (.Assign [.Name x pos'] a pos) (sSet i ma) := by
  obtain ⟨ta, pa, sa⟩ := ha.ex
  refine ⟨_, ps_set hN hi hx pa hs hf, fun ph S H sg rho Dn g so h => sa ph S H sg rho _ g so (holds_imp (holds_bind h) (fun x hx => ?_) fun _ _ _ q => q)⟩
  exact fun ph1 v1 H1 x1 g1 d1 => hx ph1 _ H1 x1 g1 ((so.mono x1).set i d1)
/-- a, b = x, y with plain local names -/
def sPar (i j : Nat) (m : AM) : SM := fun rho S => (m rho S).bind fun x => match x.1 with
  | [u, v] => .ok (.nx, (rho.set i (some u)).set j (some v), x.2)
  | _ => .stuck
theorem psd_par {i j : Nat} {x y : Str} {m : AM} {px py pt : Pos} {kt k2 : Nat} {pt2 : Pos} (hc : X.calm = true) (hN : X.N.Nodup) (ha : PDA X W [a, b] m) (hi : X.N[i]? = some x := by rfl) (hj : X.N[j]? = some y := by rfl) (hij : i ≠ j := by decide)
    (hx : X.env.scope.names.lookup x = some .local := by rfl) (hy : X.env.scope.names.lookup y = some .local := by rfl) (hw : swappedStores [.Tuple [.Name x px, .Name y py] kt pt] (.Tuple [a, b] k2 pt2) X.env = pure (some [x, y]) := by rfl)
    (hs : swapsWithSole [.Tuple [.Name x px, .Name y py] kt pt] (.Tuple [a, b] k2 pt2) pos.line X.env = pure false := by rfl) : PSD X W (.Assign [.Tuple [.Name x px, .Name y py] kt pt] (.Tuple [a, b] k2 pt2) pos) (sPar i j m) := by
  obtain ⟨t, p, s⟩ := ha.ex
  refine ⟨_, ps_par hc hN hi hj hij hx hy p hw hs, fun ph S H sg rho Dn g so h => s ph S H sg rho _ g so (holds_imp (holds_bind h) (fun z hz => ?_) fun _ _ _ q => q)⟩
  intro ph1 vs H1 x1 g1 d1
  obtain ⟨xs, S1⟩ := z
  dsimp only at *
  split at hz
  · obtain ⟨v, u, rfl, dv, du⟩ := two_of d1
    exact ⟨v, u, rfl, hz ph1 _ H1 x1 g1 (((so.mono x1).set i dv).set j du)⟩
  · exact hz.elim
/-- o[i] += e, ints -/
def addI (x y : SV) : Option SV := match x, y with
  | .fr (.int i), .fr (.int j) => some (.fr (.int (i + j)))
  | _, _ => none
def getL (o i : SV) (S : Store) : Option SV := match i with
  | .fr (.int j) => if 0 ≤ j then match rdS S o with
    | some xs => atI xs j
    | none => none else none
  | _ => none
def sAugS (mo mi me : EM) : SM := fun rho S => (mo rho S).bind fun o => (mi rho o.2).bind fun i => match getL o.1 i.1 i.2 with
  | some old => (me rho i.2).bind fun y => match addI old y.1 with
    | some z => (setL o.1 i.1 z y.2).bind fun S' => .ok (.nx, rho, S')
    | none => .stuck
  | none => .stuck
def rIx0 (K : PySem.W.Frag) : V → V → Hp → VK → Prop := fun x y H Q => ∃ p xs i v, x = .ref p ∧ y = .int i ∧ 0 ≤ i ∧ SqL K H p xs ∧ atI xs i = some v ∧ Q v H
theorem pget_list : PGet X (rIx0 X.K) := by
  intro pins s sg H o i ov iv Q I r1 r2 h
  obtain ⟨p, xs, k, v, rfl, rfl, h0, hq, hv, q⟩ := h
  cases r1
  obtain ⟨t, rfl⟩ := r2
  obtain ⟨its, rv, pl, hz⟩ := I.list hq
  obtain ⟨j, hj, hx, hlt, hlo, hhi⟩ := atI_get hv
  obtain ⟨u, hu, ru⟩ := rv.get hx
  have hs : sizeLine = 16777216 := sizeLine_eq
  have hjk : k.toNat = j := by
    rw [seqIndex_of h0 hhi] at hj
    exact Option.some.inj hj
  exact wpAny_getItem_list (k := k) pl.isList h0 (by omega) (by rw [hjk]; simpa using hu) ⟨v, H, I, ru, q⟩
theorem ip_add2 : PIp X .Add (ipI fun i j => i + j) := ip_add
theorem psd_augS {oe ie ve : Expr} {mo mi me : EM} {tpos : Pos} (ho : PD X W oe mo) (hi : PD X W ie mi) (he : PD X W ve me)
    (ha : ∀ ov iv new, augStore ie ov iv new = (do holding [new, ov, iv] (setItem ov iv new); release [new, ov, iv] []; pure .next) := by intros; rfl) : PSD X W (.AugAssign (.Subscript oe ie tpos) .Add ve pos) (sAugS mo mi me) := by
  obtain ⟨to, po, so'⟩ := ho.ex
  obtain ⟨ti, pi, si⟩ := hi.ex
  obtain ⟨te, pe, se⟩ := he.ex
  refine ⟨_, ps_augS po pi pget_list pe ip_add2 set_list ha, fun ph S H sg rho Dn g so h => so' ph S H sg rho _ g so (holds_imp (holds_bind h) (fun o hx => ?_) fun _ _ _ q => q)⟩
  intro ph1 v1 H1 x1 g1 d1
  refine si ph1 o.2 H1 sg rho _ g1 (so.mono x1) (holds_imp (holds_bind hx) (fun i hy => ?_) fun e r s q => W.mono _ _ _ _ e r s x1 q)
  intro ph2 v2 H2 x2 g2 d2
  have d12 := d1.mono x2
  obtain ⟨iv, S2⟩ := i
  dsimp only at hy g2 d2
  split at hy
  · rename_i old hold
    unfold getL at hold
    split at hold
    · rename_i j
      split at hold
      · rename_i hj0
        split at hold
        · rename_i xs hxs
          obtain ⟨p, vs, e1, s1, r1⟩ := rdS_ok g2 d12 hxs
          subst e1
          obtain ⟨w', hw', dw⟩ := atI_pair r1 hold
          refine ⟨p, vs, j, w', rfl, d_int d2, hj0, s1, hw', ?_⟩
          refine se ph2 S2 H2 sg rho _ g2 (so.mono (x1.trans x2)) (holds_imp (holds_bind hy) (fun y hz => ?_) fun e r s q => W.mono _ _ _ _ e r s (x1.trans x2) q)
          intro ph3 v3 H3 x3 g3 d3
          obtain ⟨yv, S3⟩ := y
          dsimp only at hz g3 d3
          split at hz
          · rename_i z hzz
            unfold addI at hzz
            split at hzz
            · rename_i n1 n2
              cases hzz
              refine ⟨n1, n2, d_int dw, d_int d3, ?_⟩
              refine setL_ok g3 (d12.mono x3) (d2.mono x3) (sv := .fr (.int (n1 + n2))) (Den.int (n1 + n2)) (holds_imp (holds_bind hz) (fun S4 h4 => ?_) fun e r s q => q)
              intro ph4 H4 x4 g4
              have x14 := x1.trans (x2.trans (x3.trans x4))
              exact h4 ph4 sg H4 x14 g4 (so.mono x14)
            · cases hzz
          · exact hz.elim
        · cases hold
      · cases hold
    · cases hold
  · exact hy.elim
end
end DL

namespace DL
open PySem PySem.Spec PyProof.Rows L2

/-! ### what is walked -/
/-- the items, and what must stand as it is at each turn -/
structure Wk where
  xs : List SV
  lk : Store → Prop
abbrev IM := Slots → Store → Res (Wk × Store)
structure WalkOk (K : PySem.W.Frag) (ph : List Addr) (H : Hp) (J : It) (w : Wk) : Prop where
  go : ∀ (i : Nat) (x : SV) (ph' : List Addr) (H' : Hp) (S' : Store), w.xs[i]? = some x → Ext ph H ph' H' → Good K ph' H' S' → w.lk S' → J.go i H'
  yld : ∀ (i : Nat) (x : SV) (ph' : List Addr) (H' : Hp) (S' : Store) (v : V) (H2 : Hp), w.xs[i]? = some x → Ext ph H ph' H' → Good K ph' H' S' → w.lk S' → J.yld i H' v H2 → Ext ph' H' ph' H2 ∧ Good K ph' H2 S' ∧ DenS K ph' H2 v x
  stop : ∀ (i : Nat) (ph' : List Addr) (H' : Hp) (S' : Store), w.xs.length ≤ i → Ext ph H ph' H' → Good K ph' H' S' → w.lk S' → J.stop i H'
def postI (K : PySem.W.Frag) (ph : List Addr) (H : Hp) (R : It → Hp → Prop) : Wk × Store → Prop := fun r => ∀ ph' H' J, Ext ph H ph' H' → Good K ph' H' r.2 → WalkOk K ph' H' J r.1 → R J H'
structure PID (X : Cx) (W : XW X.K) (tg iter : Expr) (m : IM) : Prop where
  ex : ∃ t, PI X tg iter t ∧ ∀ (ph : List Addr) (S : Store) (H : Hp) (sg : L2.St) (rho : Slots) (R : It → Hp → Prop), Good X.K ph H S → SlotsOk X.K ph H sg rho →
    holds (m rho S) (postI X.K ph H R) (W.rel ph H) → t sg H R
theorem WalkOk.mono {K : PySem.W.Frag} {ph ph2 : List Addr} {H H2 : Hp} {J : It} {w : Wk} (e : Ext ph H ph2 H2) (h : WalkOk K ph H J w) : WalkOk K ph2 H2 J w :=
  ⟨fun i x p G S a b => h.go i x p G S a (e.trans b), fun i x p G S v G2 a b => h.yld i x p G S v G2 a (e.trans b), fun i p G S a b => h.stop i p G S a (e.trans b)⟩
/-- over a list or a tuple -/
def iSeq (m : EM) : IM := fun rho S => (m rho S).bind fun x => match x.1 with
  | .fr (.tup _) => .stuck
  | .fr _ => match rdS x.2 x.1 with
    | some xs => .ok (⟨xs, fun _ => True⟩, x.2)
    | none => .stuck
  | .cell k => match rdL x.2 (.cell k) with
    | some xs => .ok (⟨xs, fun S' => S'[k]? = some (.lst xs)⟩, x.2)
    | none => .stuck
def iTp (m : EM) : IM := fun rho S => (m rho S).bind fun x => match x.1 with
  | .fr (.tup ds) => .ok (⟨ds.map SV.fr, fun _ => True⟩, x.2)
  | _ => .stuck
theorem sqL_inj {K : PySem.W.Frag} {H : Hp} {a : Addr} {xs ys : List V} (h : H a = some (.lst xs)) (hn : K.lookup a = none ∨ True) (h2 : Rd H a (.lst ys)) : xs = ys := by
  rcases h2 with h2 | ⟨o, h2⟩
  · rw [h] at h2; cases h2; rfl
  · rw [h] at h2; cases h2
section
variable {X : Cx} {W : XW X.K} {a b c tg : Expr} {ma mb mc : EM} {pos : Pos}
theorem walk_fix {K : PySem.W.Frag} {ph : List Addr} {H : Hp} {p : Addr} {vs : List V} {xs : List SV} {lk : Store → Prop} (s : SqL K (hide ph H) p vs) (r : DenSs K ph H vs xs) : WalkOk K ph H (Itl K p) ⟨xs, lk⟩ where
  go := fun i x ph' H' S' hx e g _ => by
    obtain ⟨v, hv, _⟩ := paired_get r hx
    exact ⟨vs, v, hide_sub.sqL (e.sub.sqL s), hv⟩
  yld := fun i x ph' H' S' v H2 hx e g _ y => by
    obtain ⟨rfl, y⟩ := y
    obtain ⟨v', hv, d⟩ := paired_get r hx
    have := y vs (hide_sub.sqL (e.sub.sqL s))
    rw [this] at hv
    cases hv
    exact ⟨Ext.refl _ _, g, d.mono e⟩
  stop := fun i ph' H' S' hi e g _ => ⟨vs, hide_sub.sqL (e.sub.sqL s), by rw [r.length]; exact hi⟩
theorem walk_tup {K : PySem.W.Frag} {ph : List Addr} {H : Hp} {p : Addr} {vs : List V} {xs : List SV} {lk : Store → Prop} (s : SqT K (hide ph H) p vs) (r : DenSs K ph H vs xs) : WalkOk K ph H (Itt K p) ⟨xs, lk⟩ where
  go := fun i x ph' H' S' hx e g _ => by
    obtain ⟨v, hv, _⟩ := paired_get r hx
    exact ⟨vs, v, hide_sub.sqT (e.sub.sqT s), hv⟩
  yld := fun i x ph' H' S' v H2 hx e g _ y => by
    obtain ⟨rfl, y⟩ := y
    obtain ⟨v', hv, d⟩ := paired_get r hx
    have := y vs (hide_sub.sqT (e.sub.sqT s))
    rw [this] at hv
    cases hv
    exact ⟨Ext.refl _ _, g, d.mono e⟩
  stop := fun i ph' H' S' hi e g _ => ⟨vs, hide_sub.sqT (e.sub.sqT s), by rw [r.length]; exact hi⟩
theorem walk_cell {K : PySem.W.Frag} {ph : List Addr} {H : Hp} {p : Addr} {k : Nat} {xs : List SV} (hp : ph[k]? = some p) : WalkOk K ph H (Itl K p) ⟨xs, fun S' => S'[k]? = some (.lst xs)⟩ where
  go := fun i x ph' H' S' hx e g hk => by
    obtain ⟨q, h1, vs, h2, h3⟩ := g.at hk
    obtain ⟨ps, rfl, _⟩ := e.pre
    rw [List.getElem?_append_left (List.getElem?_eq_some_iff.mp hp).1, hp] at h1
    cases h1
    obtain ⟨v, hv, _⟩ := paired_get h3 hx
    exact ⟨vs, v, .of h2, hv⟩
  yld := fun i x ph' H' S' v H2 hx e g hk y => by
    obtain ⟨rfl, y⟩ := y
    obtain ⟨q, h1, vs, h2, h3⟩ := g.at hk
    have hp' : ph'[k]? = some p := by
      obtain ⟨ps, rfl, _⟩ := e.pre
      rw [List.getElem?_append_left (List.getElem?_eq_some_iff.mp hp).1, hp]
    rw [hp'] at h1
    cases h1
    obtain ⟨v', hv, d⟩ := paired_get h3 hx
    have := y vs (.of h2)
    rw [this] at hv
    cases hv
    exact ⟨Ext.refl _ _, g, d⟩
  stop := fun i ph' H' S' hi e g hk => by
    obtain ⟨q, h1, vs, h2, h3⟩ := g.at hk
    obtain ⟨ps, rfl, _⟩ := e.pre
    rw [List.getElem?_append_left (List.getElem?_eq_some_iff.mp hp).1, hp] at h1
    cases h1
    exact ⟨vs, .of h2, by rw [h3.length]; exact hi⟩
theorem rdS_fr {K : PySem.W.Frag} {ph : List Addr} {H : Hp} {S : Store} {v : V} {d : D} {xs : List SV} (h : DenS K ph H v (.fr d)) (e : rdS S (.fr d) = some xs) : ∃ a vs, v = .ref a ∧ SqL K (hide ph H) a vs ∧ DenSs K ph H vs xs := by
  cases d with
  | lst ds => simp [rdS, rdL] at e; subst e; cases h with | lst s r => exact ⟨_, _, rfl, .of s, of_dens r⟩
  | scr ds => simp [rdS] at e; subst e; cases h with | scr s r => exact ⟨_, _, rfl, s, of_dens r⟩
  | _ => simp [rdS, rdL] at e
theorem pid_seq (ha : PD X W a ma) : PID X W tg a (iSeq ma) := by
  obtain ⟨ta, pa, sa⟩ := ha.ex
  refine ⟨_, pi_list pa, fun ph S H sg rho R g so h => sa ph S H sg rho _ g so (holds_imp (holds_bind h) (fun x hx => ?_) fun _ _ _ q => q)⟩
  intro ph1 v1 H1 x1 g1 d1
  obtain ⟨sv, S1⟩ := x
  dsimp only at *
  split at hx
  · exact hx.elim
  · split at hx
    · rename_i xs he
      obtain ⟨p, vs, rfl, s, r⟩ := rdS_fr d1 he
      exact ⟨p, rfl, ⟨vs, hide_sub.sqL s⟩, hx ph1 H1 _ x1 g1 (walk_fix s r)⟩
    · exact hx.elim
  · split at hx
    · rename_i k xs he
      obtain ⟨p, h1, rfl⟩ := id d1
      obtain ⟨q, vs, e1, h2, h3⟩ := rdL_at g1 d1 he
      cases e1
      exact ⟨p, rfl, ⟨vs, .of h2⟩, hx ph1 H1 _ x1 g1 (walk_cell h1)⟩
    · exact hx.elim
theorem pid_tup (ha : PD X W a ma) : PID X W tg a (iTp ma) := by
  obtain ⟨ta, pa, sa⟩ := ha.ex
  refine ⟨_, pi_tup pa, fun ph S H sg rho R g so h => sa ph S H sg rho _ g so (holds_imp (holds_bind h) (fun x hx => ?_) fun _ _ _ q => q)⟩
  intro ph1 v1 H1 x1 g1 d1
  obtain ⟨sv, S1⟩ := x
  dsimp only at *
  split at hx
  · obtain ⟨p, vs, rfl, s, r⟩ := d_tup d1
    exact ⟨p, rfl, ⟨vs, hide_sub.sqT s⟩, hx ph1 H1 _ x1 g1 (walk_tup s (of_dens r))⟩
  · exact hx.elim
def rngS (lo : Int) (n : Nat) : List SV := (List.range n).map fun i => .fr (.int (lo + (i : Nat)))
theorem walk_range {K : PySem.W.Frag} {ph : List Addr} {H : Hp} {lo : Int} {n : Nat} {lk : Store → Prop} : WalkOk K ph H (Itr lo n) ⟨rngS lo n, lk⟩ where
  go := fun i x ph' H' S' hx e g _ => by
    have := (List.getElem?_eq_some_iff.mp hx).1
    simpa [rngS, Itr] using this
  yld := fun i x ph' H' S' v H2 hx e g _ y => by
    obtain ⟨rfl, rfl⟩ := y
    have h1 := (List.getElem?_eq_some_iff.mp hx).1
    have hx' : (rngS lo n)[i]? = some x := hx
    have hi : i < n := by simpa [rngS] using h1
    rw [rngS, List.getElem?_map, List.getElem?_range hi] at hx'
    cases hx'
    exact ⟨Ext.refl _ _, g, Den.int _⟩
  stop := fun i ph' H' S' hi e g _ => by simpa [rngS, Itr] using hi
def iR1 (m : AM) : IM := fun rho S => (m rho S).bind fun x => match x.1 with
  | [.fr (.int j)] => if -(2 ^ 62) ≤ j ∧ j < 2 ^ 62 then .ok (⟨rngS 0 j.toNat, fun _ => True⟩, x.2) else .stuck
  | _ => .stuck
def iR2 (m : AM) : IM := fun rho S => (m rho S).bind fun x => match x.1 with
  | [.fr (.int i), .fr (.int j)] => if -(2 ^ 62) ≤ i ∧ i < 2 ^ 62 ∧ -(2 ^ 62) ≤ j ∧ j < 2 ^ 62 then .ok (⟨rngS i (j - i).toNat, fun _ => True⟩, x.2) else .stuck
  | _ => .stuck
theorem pid_range1 {m : AM} {p : Pos} (hm : X.mg "range" = none) (ha : PDA X W [a] m) (hg : Gl X "range" := by rfl) (hs : starEach [a] X.env = [(false, eval a X.env)] := by rfl) : PID X W tg (.Call (.Name "range" p) [a] [] pos) (iR1 m) := by
  obtain ⟨t, pt, st⟩ := ha.ex
  refine ⟨_, pi_range1 hg hm pt hs, fun ph S H sg rho R g so h => st ph S H sg rho _ g so (holds_imp (holds_bind h) (fun x hx => ?_) fun _ _ _ q => q)⟩
  intro ph1 vs H1 x1 g1 d1
  obtain ⟨xs, S1⟩ := x
  dsimp only at *
  split at hx
  · split at hx
    · rename_i j hj
      obtain ⟨v, rfl, dv⟩ := one_of d1
      rw [d_int dv]
      exact ⟨j, rfl, hj.1, hj.2, hx ph1 H1 _ x1 g1 walk_range⟩
    · exact hx.elim
  · exact hx.elim
theorem pid_range2 {m : AM} {p : Pos} (hm : X.mg "range" = none) (ha : PDA X W [a, b] m) (hg : Gl X "range" := by rfl) (hs : starEach [a, b] X.env = [(false, eval a X.env), (false, eval b X.env)] := by rfl) (hs2 : starEach [b] X.env = [(false, eval b X.env)] := by rfl) : PID X W tg (.Call (.Name "range" p) [a, b] [] pos) (iR2 m) := by
  obtain ⟨t, pt, st⟩ := ha.ex
  refine ⟨_, pi_range2 hg hm pt hs hs2, fun ph S H sg rho R g so h => st ph S H sg rho _ g so (holds_imp (holds_bind h) (fun x hx => ?_) fun _ _ _ q => q)⟩
  intro ph1 vs H1 x1 g1 d1
  obtain ⟨xs, S1⟩ := x
  dsimp only at *
  split at hx
  · split at hx
    · rename_i i j hj
      obtain ⟨v, u, rfl, dv, du⟩ := two_of d1
      rw [d_int dv, d_int du]
      exact ⟨i, j, rfl, hj, hx ph1 H1 _ x1 g1 walk_range⟩
    · exact hx.elim
  · exact hx.elim

/-! ### for -/
open Classical in
/-- the turns -/
noncomputable def loopM (lk : Store → Prop) (g : GM) (b : SM) : List SV → SM
  | [] => fun rho S => if lk S then .ok (.nx, rho, S) else .stuck
  | x :: xs => fun rho S => if lk S then (g x rho S).bind fun r => (b r.1 r.2).bind fun q => match q.1 with
    | .nx => loopM lk g b xs q.2.1 q.2.2
    | .ct => loopM lk g b xs q.2.1 q.2.2
    | .bk => .ok (.nx, q.2.1, q.2.2)
    | .rt v => .ok (.rt v, q.2.1, q.2.2) else .stuck
noncomputable def sFor (im : IM) (g : GM) (b : SM) : SM := fun rho S => (im rho S).bind fun w => loopM w.1.lk g b w.1.xs rho w.2
theorem psd_for {is : List Nat} {body : List Stmt} {im : IM} {g : GM} {mb : SM} (hc : X.calm = true) (hp : PassesOwn (model X.prog X.w) X.A X.env X.xe) (hi : PID X W tg a im) (hg : PGD X W is tg g) (hb : PSDs X W body mb)
    (hs : ∀ x, foldedSetIterable a X.env x = pure x := by intro _; rfl) : PSD X W (.For tg a body [] pos) (sFor im g mb) := by
  obtain ⟨ti, pi, si⟩ := hi.ex
  obtain ⟨tt, pt, st⟩ := hg.ex
  obtain ⟨tb, pb, sb⟩ := hb.ex
  refine ⟨_, ps_for hp hc pi pt pb hs, fun ph S H sg rho Dn gd so h => si ph S H sg rho _ gd so (holds_imp (holds_bind h) (fun w hw => ?_) fun _ _ _ q => q)⟩
  intro ph1 H1 J x1 g1 wk
  obtain ⟨⟨xs, lk⟩, S1⟩ := w
  dsimp only at hw g1
  refine ⟨fun i m sg' H' => m = xs.length - i ∧ i ≤ xs.length ∧ ∃ ph' S' rho', Ext ph1 H1 ph' H' ∧ Good X.K ph' H' S' ∧ SlotsOk X.K ph' H' sg' rho' ∧ holds (loopM lk g mb (xs.drop i) rho' S') (postS X.K ph' H' Dn) (W.rel ph' H'),
    ⟨_, rfl, Nat.zero_le _, ph1, S1, rho, Ext.refl _ _, g1, so.mono x1, holds_imp hw (fun c => postS.mono x1 c) fun e r s q => W.mono _ _ _ _ e r s x1 q⟩, ?_⟩
  rintro i m sg2 H2 ⟨rfl, hle, ph2, S2, rho2, x2, g2, so2, h2⟩
  by_cases hi : i < xs.length
  · right
    rw [List.drop_eq_getElem_cons hi] at h2
    unfold loopM at h2
    split at h2
    · rename_i hlk
      have hx : (⟨xs, lk⟩ : Wk).xs[i]? = some xs[i] := List.getElem?_eq_getElem hi
      refine ⟨wk.go i xs[i] ph2 H2 S2 hx x2 g2 hlk, fun sg' H' => ∃ ph' S' rho', Ext ph1 H1 ph' H' ∧ Good X.K ph' H' S' ∧ SlotsOk X.K ph' H' sg' rho' ∧ holds (loopM lk g mb (xs.drop (i + 1)) rho' S') (postS X.K ph' H' Dn) (W.rel ph' H'), fun sg' H' q => ⟨xs.length - (i + 1), by omega, rfl, hi, q⟩, fun v H3 y => ?_⟩
      obtain ⟨x3, g3, d3⟩ := wk.yld i xs[i] ph2 H2 S2 v H3 hx x2 g2 hlk y
      refine st ph2 S2 H3 sg2 rho2 v xs[i] _ g3 (so2.mono x3) d3 (holds_imp (holds_bind h2) (fun r hr => ?_) fun e r s q => W.mono _ _ _ _ e r s x3 q)
      intro ph4 sg4 H4 x4 g4 so4 _
      have x34 := x3.trans x4
      refine sb ph4 r.2 H4 sg4 r.1 _ g4 so4 (holds_imp (holds_bind hr) (fun q hq => ?_) fun e r s q => W.mono _ _ _ _ e r s x34 q)
      intro ph5 sg5 H5 x5 g5 so5
      have x35 := x34.trans x5
      obtain ⟨fl, rho5, S5⟩ := q
      dsimp only at *
      cases fl with
      | nx => exact ⟨ph5, S5, rho5, x2.trans x35, g5, so5, holds_imp hq (fun c => postS.mono x35 c) fun e r s q => W.mono _ _ _ _ e r s x35 q⟩
      | ct => exact ⟨ph5, S5, rho5, x2.trans x35, g5, so5, holds_imp hq (fun c => postS.mono x35 c) fun e r s q => W.mono _ _ _ _ e r s x35 q⟩
      | bk => exact hq ph5 sg5 H5 x35 g5 so5
      | rt x => exact fun v' dv' => hq ph5 sg5 H5 x35 g5 so5 v' dv'
    · exact h2.elim
  · left
    have e : i = xs.length := by omega
    subst e
    rw [List.drop_length] at h2
    unfold loopM at h2
    split at h2
    · rename_i hlk
      exact ⟨wk.stop xs.length ph2 H2 S2 (Nat.le_refl _) x2 g2 hlk, h2 ph2 sg2 H2 (Ext.refl _ _) g2 so2⟩
    · exact h2.elim

/-! ### while -/
def whileM (t : TM) (b : SM) : Nat → SM
  | 0 => fun _ _ => .stuck
  | n + 1 => fun rho S => (t rho S).bind fun k => if k.1 then (b rho k.2).bind fun q => match q.1 with
    | .nx => whileM t b n q.2.1 q.2.2
    | .ct => whileM t b n q.2.1 q.2.2
    | .bk => .ok (.nx, q.2.1, q.2.2)
    | .rt v => .ok (.rt v, q.2.1, q.2.2) else .ok (.nx, rho, k.2)
theorem psd_while (n : Nat) {body : List Stmt} {t : TM} {mb : SM} (hp : PassesOwn (model X.prog X.w) X.A X.env X.xe) (ht : PDT X W a t) (hb : PSDs X W body mb) : PSD X W (.While a body [] pos) (whileM t mb n) := by
  obtain ⟨tt, pt, st⟩ := ht.ex
  obtain ⟨tb, pb, sb⟩ := hb.ex
  refine ⟨_, ps_while hp pt pb, fun ph S H sg rho Dn g so h => ?_⟩
  refine ⟨fun m sg' H' => ∃ ph' S' rho', Ext ph H ph' H' ∧ Good X.K ph' H' S' ∧ SlotsOk X.K ph' H' sg' rho' ∧ holds (whileM t mb m rho' S') (postS X.K ph' H' Dn) (W.rel ph' H'), ⟨n, ph, S, rho, Ext.refl _ _, g, so, h⟩, ?_⟩
  rintro m sg1 H1 ⟨ph1, S1, rho1, x1, g1, so1, h1⟩
  cases m with
  | zero => exact h1.elim
  | succ m =>
    unfold whileM at h1
    refine st ph1 S1 H1 sg1 rho1 _ g1 so1 (holds_imp (holds_bind h1) (fun k hk => ?_) fun _ _ _ q => q)
    intro ph2 H2 x2 g2
    obtain ⟨b, S2⟩ := k
    cases b with
    | false => exact hk ph2 sg1 H2 x2 g2 (so1.mono x2)
    | true =>
      refine ⟨fun sg' H' => ∃ ph' S' rho', Ext ph H ph' H' ∧ Good X.K ph' H' S' ∧ SlotsOk X.K ph' H' sg' rho' ∧ holds (whileM t mb m rho' S') (postS X.K ph' H' Dn) (W.rel ph' H'), fun sg' H' q => ⟨m, Nat.lt_succ_self _, q⟩, ?_⟩
      refine sb ph2 S2 H2 sg1 rho1 _ g2 (so1.mono x2) (holds_imp (holds_bind hk) (fun q hq => ?_) fun e r s q => W.mono _ _ _ _ e r s x2 q)
      intro ph5 sg5 H5 x5 g5 so5
      have x25 := x2.trans x5
      obtain ⟨fl, rho5, S5⟩ := q
      dsimp only at *
      cases fl with
      | nx => exact ⟨ph5, S5, rho5, x1.trans x25, g5, so5, holds_imp hq (fun c => postS.mono x25 c) fun e r s q => W.mono _ _ _ _ e r s x25 q⟩
      | ct => exact ⟨ph5, S5, rho5, x1.trans x25, g5, so5, holds_imp hq (fun c => postS.mono x25 c) fun e r s q => W.mono _ _ _ _ e r s x25 q⟩
      | bk => exact hq ph5 sg5 H5 x25 g5 so5
      | rt x => exact fun v' dv' => hq ph5 sg5 H5 x25 g5 so5 v' dv'
end
end DL

namespace DL
open PySem PySem.Spec PyProof.Rows L2

/-! ### the readings that the mirrors have by themselves -/
def tOf (K : PySem.W.Frag) (W : XW K) (m : EM) : TE := fun sg H Q => ∃ ph S rho, Good K ph H S ∧ SlotsOk K ph H sg rho ∧ holds (m rho S) (post K ph H Q) (W.rel ph H)
def tOfT (K : PySem.W.Frag) (W : XW K) (m : TM) : TT := fun sg H Q => ∃ ph S rho, Good K ph H S ∧ SlotsOk K ph H sg rho ∧ holds (m rho S) (postT K ph H Q) (W.rel ph H)
def tOfG (K : PySem.W.Frag) (W : XW K) (is : List Nat) (m : GM) : TG := fun v sg H Q => ∃ ph S rho x, Good K ph H S ∧ SlotsOk K ph H sg rho ∧ DenS K ph H v x ∧ holds (m x rho S) (postG K ph H is sg Q) (W.rel ph H)
section
variable {X : Cx} {W : XW X.K} {a b c tg : Expr} {ma mb mc : EM} {pos : Pos}
theorem PD.pe (h : PD X W a ma) : PE X a (tOf X.K W ma) := by
  obtain ⟨t, p, s⟩ := h.ex
  refine ⟨fun pins s' sg H Q I q => ?_⟩
  obtain ⟨ph, S, rho, g, so, hh⟩ := q
  exact p.run pins s' sg H Q I (s ph S H sg rho Q g so hh)
theorem PDT.pt (h : PDT X W a m) : PT X a (tOfT X.K W m) := by
  obtain ⟨t, p, s⟩ := h.ex
  refine ⟨fun pins s' sg H Q I q => ?_⟩
  obtain ⟨ph, S, rho, g, so, hh⟩ := q
  exact p.run pins s' sg H Q I (s ph S H sg rho Q g so hh)
theorem PGD.pg {is : List Nat} {m : GM} (h : PGD X W is a m) : PG X a (tOfG X.K W is m) := by
  obtain ⟨t, p, s⟩ := h.ex
  refine ⟨fun pins s' sg H v u Q I r q => ?_⟩
  obtain ⟨ph, S, rho, x, g, so, d, hh⟩ := q
  exact p.run pins s' sg H v u Q I r (s ph S H sg rho v x Q g so d hh)

/-! ### slots wiped -/
def wipeR (rho : Slots) : List Nat → Slots
  | [] => rho
  | v :: vs => (wipeR rho vs).set v none
theorem wipeR_len (rho : Slots) : ∀ vs : List Nat, (wipeR rho vs).length = rho.length
  | [] => rfl
  | v :: vs => by unfold wipeR; rw [List.length_set, wipeR_len rho vs]
theorem wipeR_get {rho : Slots} {i : Nat} {x : SV} : ∀ {vs : List Nat}, (wipeR rho vs)[i]? = some (some x) → rho[i]? = some (some x) ∧ i ∉ vs
  | [], h => ⟨h, by simp⟩
  | v :: vs, h => by
    unfold wipeR at h
    by_cases hi : v = i
    · subst hi
      by_cases hv : v < (wipeR rho vs).length
      · rw [List.getElem?_set_self hv] at h; cases h
      · rw [List.getElem?_eq_none (by rw [List.length_set]; omega)] at h; cases h
    · rw [List.getElem?_set_ne hi] at h
      obtain ⟨h1, h2⟩ := wipeR_get h
      exact ⟨h1, fun m => by rcases List.mem_cons.mp m with e | m; exact hi e.symm; exact h2 m⟩
theorem wipe_in {sg : L2.St} {i : Nat} : ∀ {vs : List Nat}, i ∈ vs → (wipe sg vs)[i]? = if i < sg.length then some none else none
  | [], h => nomatch h
  | v :: vs, h => by
    unfold wipe
    by_cases hi : v = i
    · subst hi
      by_cases hv : v < sg.length
      · rw [if_pos hv, List.getElem?_set_self (by rw [wipe_length]; exact hv)]
      · rw [if_neg hv, List.getElem?_eq_none (by rw [List.length_set, wipe_length]; omega)]
    · rw [List.getElem?_set_ne hi]
      exact wipe_in (by rcases List.mem_cons.mp h with e | m; exact absurd e.symm hi; exact m)
theorem wipe_eq {sg sg2 : L2.St} {is vs : List Nat} (h : ∀ i ∈ is, i ∈ vs) (o : Out is (wipe sg vs) sg2) : wipe sg2 vs = wipe sg vs := by
  obtain ⟨o1, o2⟩ := o
  rw [wipe_length] at o1
  apply List.ext_getElem?
  intro i
  by_cases hi : i ∈ vs
  · rw [wipe_in hi, wipe_in hi, o1]
  · rw [wipe_out hi, o2 i fun m => hi (h i m)]
theorem SlotsOk.wiped {K : PySem.W.Frag} {ph : List Addr} {H : Hp} {sg : L2.St} {rho : Slots} (so : SlotsOk K ph H sg rho) (vs : List Nat) : SlotsOk K ph H (wipe sg vs) (wipeR rho vs) := by
  refine ⟨by rw [wipe_length, wipeR_len]; exact so.1, fun i x h => ?_⟩
  obtain ⟨h1, h2⟩ := wipeR_get h
  rw [wipe_out h2]
  exact so.2 i x h1

/-! ### list comprehensions -/
/-- the list under way stands as the last cell -/
def unS (n : Nat) (S : Store) : Option (Store × List SV) := match S.drop n with
  | [.lst acc] => some (S.take n, acc)
  | _ => none
theorem unS_app {S : Store} {acc : List SV} {n : Nat} (h : S.length = n) : unS n (S ++ [.lst acc]) = some (S, acc) := by
  subst h
  unfold unS
  rw [List.drop_left', List.take_left'] <;> simp
theorem unS_some {n : Nat} {S S' : Store} {acc : List SV} (h : unS n S = some (S', acc)) (hn : n ≤ S.length) : S = S' ++ [.lst acc] ∧ S'.length = n := by
  unfold unS at h
  split at h
  · rename_i a e
    simp only [Option.some.injEq, Prod.mk.injEq] at h
    obtain ⟨rfl, rfl⟩ := h
    refine ⟨?_, by simp [hn]⟩
    rw [← e, List.take_append_drop]
  · cases h
open Classical in
noncomputable def lcM (lk : Store → Prop) (g : GM) (t : TM) (e : EM) (own : List Nat) (rho : Slots) : List SV → Store → List SV → Res (List SV × Store)
  | [], S, acc => if lk (S ++ [.lst acc]) then .ok (acc, S) else .stuck
  | x :: xs, S, acc => if lk (S ++ [.lst acc]) then (g x (wipeR rho own) (S ++ [.lst acc])).bind fun r => (t r.1 r.2).bind fun k => if k.1 then (e r.1 k.2).bind fun y => match unS S.length y.2 with
      | some q => if q.2.length < sizeLine then lcM lk g t e own rho xs q.1 (q.2 ++ [y.1]) else .stuck
      | none => .stuck
    else (match unS S.length k.2 with
      | some q => lcM lk g t e own rho xs q.1 q.2
      | none => .stuck) else .stuck
def lcEnd (c : Bool) (acc : List SV) (S : Store) : Res (SV × Store) := if c then .ok (.cell S.length, S ++ [.lst acc]) else if S.all (Cell.below S.length) then match allFr acc with
  | some ds => .ok (.fr (.lst ds), S)
  | none => .stuck else .stuck
noncomputable def eLc (c : Bool) (im : IM) (g : GM) (t : TM) (e : EM) (own : List Nat) : EM := fun rho S => (im rho S).bind fun w => (lcM w.1.lk g t e own rho w.1.xs w.2 []).bind fun r => lcEnd c r.1 r.2
/-- no test -/
def tTr : TM := fun _ S => .ok (true, S)
theorem lcEnd_ok {K : PySem.W.Frag} {ph : List Addr} {H H' : Hp} {D : Addr} {acc : List SV} {S0 S : Store} {c : Bool} {Q : VK} {E : Exc → Slots → Store → Prop} (g0 : Good K ph H S0) (hD : H D = none) (x : Ext ph H (ph ++ [D]) H') (g : Good K (ph ++ [D]) H' (S ++ [.lst acc]))
    (h : holds (lcEnd c acc S) (post K ph H Q) E) : Q (.ref D) H' := by
  have hl : ph.length = S.length := by have := g.len; simpa using this
  unfold lcEnd at h
  cases c with
  | true => exact h (ph ++ [D]) (.ref D) H' x g ⟨D, by rw [← hl]; simp, rfl⟩
  | false =>
    simp only [Bool.false_eq_true, if_false] at h
    split at h
    · rename_i hb
      split at h
      · rename_i ds hd
        have hm : ∀ a ∈ ph, a ∈ ph ++ [D] := fun a m => List.mem_append_left _ m
        have hk : ∀ k, k < S.length → ph[k]? = (ph ++ [D])[k]? := fun k hk => by rw [List.getElem?_append_left (by omega)]
        obtain ⟨vs, h4, h5⟩ : CellAt K (ph ++ [D]) H' D (.lst acc) := paired_at (k := S.length) g.cells (by rw [← hl]; simp) (by simp)
        have q := paired_take S.length g.cells
        rw [List.take_left' rfl, List.take_left' hl] at q
        refine h ph (.ref D) H' x.back ⟨g0.nd, paired_all (f := Cell.below S.length) (fun p c hc d => CellAt.shrink (n := S.length) hm hk hc d) q hb⟩ ?_
        rw [allFr_eq hd] at h5
        exact .lst (hide_of (g0.new hD) h4) (Dens.mono (sub_hide hm) (dens_of h5))
      · exact h.elim
    · exact h.elim
def noE {α : Type} (r : Res α) : Res α := match r with
  | .exc _ _ _ => .stuck
  | x => x
abbrev Blk (X : Cx) (scope : Scope) (s : Shared) (H : Hp) (C : Addr) (cl : List (Str × Addr)) (fp : List Addr) : Cx := X.blk s H scope (compEnvC scope cl C X.env) fp
theorem lc_snd {wi : TI} {im : IM} {is own : List Nat} {g : GM} {t : TM} {e : EM} {cc : Bool} (hown : ∀ i ∈ is, i ∈ own)
    (si : ∀ (ph : List Addr) (S : Store) (H : Hp) (sg : L2.St) (rho : Slots) (R : It → Hp → Prop), Good X.K ph H S → SlotsOk X.K ph H sg rho → holds (im rho S) (postI X.K ph H R) (W.rel ph H) → wi sg H R) :
    SndE X W (tLc wi (tOfG X.K (XW.none X.K) is g) (tOfT X.K (XW.none X.K) t) (tOf X.K (XW.none X.K) e) own) (fun rho S => (im rho S).bind fun w => (noE (lcM w.1.lk g t e own rho w.1.xs w.2 [])).bind fun r => lcEnd cc r.1 r.2) := by
  intro ph S H sg rho Q gd so h
  refine si ph S H sg rho _ gd so (holds_imp (holds_bind h) (fun w hw => ?_) fun _ _ _ q => q)
  intro ph1 H1 J x1 g1 wk D hD
  obtain ⟨⟨xs, lk⟩, S1⟩ := w
  dsimp only at hw g1
  have so1 := so.mono x1
  have x0 : Ext ph1 H1 (ph1 ++ [D]) (upd H1 D (.lst [])) := Ext.cell hD
  have gD : Good X.K (ph1 ++ [D]) (upd H1 D (.lst [])) (S1 ++ [.lst []]) := g1.cell hD ⟨[], upd_same, .nil⟩
  have fin : ∀ (acc : List SV) (S' : Store) (H' : Hp), Ext (ph1 ++ [D]) (upd H1 D (.lst [])) (ph1 ++ [D]) H' → Good X.K (ph1 ++ [D]) H' (S' ++ [.lst acc]) → holds (lcEnd cc acc S') (post X.K ph H Q) (W.rel ph H) → Q (.ref D) H' := fun acc S' H' x' g' q =>
    lcEnd_ok g1 hD (x0.trans x') g' (holds_imp q (fun c => post.mono x1 c) fun _ _ _ z => z)
  have start0 : holds (lcM lk g t e own rho xs S1 []) (fun r => holds (lcEnd cc r.1 r.2) (post X.K ph H Q) (W.rel ph H)) (fun _ _ _ => False) := by
    revert hw
    cases lcM lk g t e own rho xs S1 [] with
    | ok r => exact fun q => q
    | exc _ _ _ => exact fun q => q.elim
    | stuck => exact fun q => q.elim
  refine ⟨fun i m H' => m = xs.length - i ∧ i ≤ xs.length ∧ ∃ S' acc, S'.length = S1.length ∧ Ext (ph1 ++ [D]) (upd H1 D (.lst [])) (ph1 ++ [D]) H' ∧ Good X.K (ph1 ++ [D]) H' (S' ++ [.lst acc]) ∧
      holds (lcM lk g t e own rho (xs.drop i) S' acc) (fun r => holds (lcEnd cc r.1 r.2) (post X.K ph H Q) (W.rel ph H)) (fun _ _ _ => False), ⟨_, rfl, Nat.zero_le _, S1, [], rfl, Ext.refl _ _, gD, start0⟩, ?_⟩
  rintro i m H2 ⟨rfl, hle, S2, acc, hl2, x2, g2, h2⟩
  by_cases hi : i < xs.length
  · right
    rw [List.drop_eq_getElem_cons hi] at h2
    unfold lcM at h2
    split at h2
    · rename_i hlk
      have hx : (⟨xs, lk⟩ : Wk).xs[i]? = some xs[i] := List.getElem?_eq_getElem hi
      refine ⟨wk.go i xs[i] _ H2 _ hx (x0.trans x2) g2 hlk, fun H' => ∃ S' acc, S'.length = S1.length ∧ Ext (ph1 ++ [D]) (upd H1 D (.lst [])) (ph1 ++ [D]) H' ∧ Good X.K (ph1 ++ [D]) H' (S' ++ [.lst acc]) ∧
        holds (lcM lk g t e own rho (xs.drop (i + 1)) S' acc) (fun r => holds (lcEnd cc r.1 r.2) (post X.K ph H Q) (W.rel ph H)) (fun _ _ _ => False), fun H' q => ⟨xs.length - (i + 1), by omega, rfl, hi, q⟩, fun v H3 y => ?_⟩
      obtain ⟨x3, g3, d3⟩ := wk.yld i xs[i] _ H2 _ v H3 hx (x0.trans x2) g2 hlk y
      have so3 := (so1.mono (x0.trans (x2.trans x3))).wiped own
      refine ⟨_, _, _, xs[i], g3, so3, d3, holds_imp (holds_bind h2) (fun r hr => ?_) fun _ _ _ z => z⟩
      intro ph4 sg4 H4 x4 g4 so4 o4
      refine ⟨wipe_eq hown o4, ph4, r.2, r.1, g4, so4, holds_imp (holds_bind hr) (fun k hk => ?_) fun _ _ _ z => z⟩
      intro ph5 H5 x5 g5
      obtain ⟨kb, S5⟩ := k
      dsimp only at hk g5
      have x35 := x3.trans (x4.trans x5)
      -- the cells are those ahead of the turn
      have same : ∀ {ph' : List Addr} {H' : Hp} {S' S6 : Store} {acc' : List SV}, Ext (ph1 ++ [D]) H2 ph' H' → Good X.K ph' H' S' → unS S2.length S' = some (S6, acc') → ph' = ph1 ++ [D] ∧ S' = S6 ++ [.lst acc'] ∧ S6.length = S1.length := by
        intro ph' H' S' S6 acc' x' g' hu
        have gl2 := g2.len
        obtain ⟨ps, rfl, _⟩ := x'.pre
        have gl := g'.len
        simp only [List.length_append, List.length_cons, List.length_nil] at gl gl2
        obtain ⟨e1, e2⟩ := unS_some hu (by omega)
        refine ⟨?_, e1, e2.trans hl2⟩
        subst e1
        simp only [List.length_append, List.length_cons, List.length_nil] at gl
        have : ps.length = 0 := by omega
        rw [List.length_eq_zero_iff.mp this, List.append_nil]
      cases kb with
      | false =>
        simp only [Bool.false_eq_true, if_false] at hk ⊢
        split at hk
        · rename_i q hq
          obtain ⟨S6, acc'⟩ := q
          obtain ⟨rfl, rfl, l6⟩ := same x35 g5 hq
          exact ⟨S6, acc', l6, x2.trans x35, g5, hk⟩
        · exact hk.elim
      | true =>
        simp only [if_true] at hk ⊢
        refine ⟨ph5, S5, r.1, g5, so4.mono x5, holds_imp (holds_bind hk) (fun y hy => ?_) fun _ _ _ z => z⟩
        intro ph6 v6 H6 x6 g6 d6
        have x36 := x35.trans x6
        obtain ⟨yv, S7⟩ := y
        dsimp only at hy g6 d6
        split at hy
        · rename_i q hq
          obtain ⟨S8, acc'⟩ := q
          obtain ⟨rfl, rfl, l8⟩ := same x36 g6 hq
          split at hy
          · rename_i hz
            have hp : (ph1 ++ [D])[S8.length]? = some D := by rw [l8, ← g1.len]; simp
            obtain ⟨vs, h4, h5⟩ : CellAt X.K (ph1 ++ [D]) H6 D (.lst acc') := paired_at (k := S8.length) g6.cells hp (by simp)
            have hm : D ∈ ph1 ++ [D] := by simp
            have xw : Ext (ph1 ++ [D]) H6 (ph1 ++ [D]) (upd H6 D (.lst (vs ++ [v6]))) := Ext.write hm
            refine ⟨vs, h4, by rw [h5.length]; exact hz, S8, acc' ++ [yv], l8, (x2.trans x36).trans xw, ?_, hy⟩
            have gw := g6.write (o := .lst (vs ++ [v6])) (c := .lst (acc' ++ [yv])) hp ⟨vs ++ [v6], upd_same, paired_snoc (DenSs.mono xw h5) (d6.mono xw)⟩
            rw [List.set_append_right _ _ (Nat.le_refl _)] at gw
            simpa using gw
          · exact hy.elim
        · exact hy.elim
    · exact h2.elim
  · left
    have e : i = xs.length := by omega
    subst e
    rw [List.drop_length] at h2
    unfold lcM at h2
    split at h2
    · rename_i hlk
      exact ⟨wk.stop xs.length _ H2 _ (Nat.le_refl _) (x0.trans x2) g2 hlk, fin acc S2 H2 x2 g2 h2⟩
    · exact h2.elim
end
end DL

namespace DL
open PySem PySem.Spec PyProof.Rows L2

theorem hu80 {k : Nat} {A : Around} (hr : Room k A) : A.units + 80 < cLine := by
  have := hr.un
  omega
/-- turns that a while may take -/
def fuel : Nat := 1000000000
section
variable {X : Cx} {W : XW X.K} {a b c tg : Expr} {ma mb mc : EM} {pos : Pos}
/-- [elt for target in iter if test] -/
noncomputable def eLC (cc : Bool) (im : IM) (g : GM) (t : TM) (e : EM) (own : List Nat) : EM := fun rho S => (im rho S).bind fun w => (noE (lcM w.1.lk g t e own rho w.1.xs w.2 [])).bind fun r => lcEnd cc r.1 r.2
structure PDTs (X : Cx) (W : XW X.K) (ifs : List Expr) (m : TM) : Prop where
  ts : PTs X ifs (tOfT X.K W m)
theorem pts_n : PDTs X W [] tTr := ⟨⟨fun pins s sg H Q I h => by
  obtain ⟨ph, S, rho, g, so, q⟩ := h
  exact pts_nil.run pins s sg H Q I (q ph H (Ext.refl _ _) g)⟩⟩
theorem pts_1 {m : TM} (h : PDT X W c m) : PDTs X W [c] m := ⟨pts_one h.pt⟩
theorem pd_lc (cc : Bool) {elt iter : Expr} {ifs : List Expr} {scope : Scope} {own : List (Str × Nat)} {is : List Nat} {im : IM} {g : GM} {t : TM} {e : EM} (hc : X.calm = true) (hN : X.N.Nodup) (hi : PID X W tg iter im) (ok : BlkOk X.N X.env.scope scope own)
    (hg : ∀ (s : Shared) (H : Hp) (C : Addr) (cl : List (Str × Addr)) (fp : List Addr), PGD (Blk X scope s H C cl fp) (XW.none X.K) is tg g) (ht : ∀ (s : Shared) (H : Hp) (C : Addr) (cl : List (Str × Addr)) (fp : List Addr), PDTs (Blk X scope s H C cl fp) (XW.none X.K) ifs t)
    (he : ∀ (s : Shared) (H : Hp) (C : Addr) (cl : List (Str × Addr)) (fp : List Addr), PD (Blk X scope s H C cl fp) (XW.none X.K) elt e) (hown : ∀ i ∈ is, i ∈ own.map (·.2) := by decide) (hs : ∀ x, foldedSetIterable iter X.env x = pure x := by intro _; rfl) :
    PD X W (.ListComp elt [⟨tg, iter, ifs, 0⟩] scope pos) (eLC cc im g t e (own.map (·.2))) := by
  obtain ⟨ti, pi, si⟩ := hi.ex
  exact ⟨_, pe_lc (g := tOfG X.K (XW.none X.K) is g) (tt := tOfT X.K (XW.none X.K) t) (te := tOf X.K (XW.none X.K) e) hc hN pi ok (fun s H C cl fp => (hg s H C cl fp).pg) (fun s H C cl fp => (ht s H C cl fp).ts) (fun s H C cl fp => (he s H C cl fp).pe) hs, lc_snd hown si⟩
/-- name = [..] on one line, the name a plain local -/
theorem psd_setLc (cc : Bool) {i : Nat} {y : Str} {py spos : Pos} {elt iter : Expr} {ifs : List Expr} {scope : Scope} {own : List (Str × Nat)} {is : List Nat} {im : IM} {g : GM} {t : TM} {e : EM} (hc : X.calm = true) (hN : X.N.Nodup) (hi : PID X W tg iter im) (ok : BlkOk X.N X.env.scope scope own)
    (hg : ∀ (s : Shared) (H : Hp) (C : Addr) (cl : List (Str × Addr)) (fp : List Addr), PGD (Blk X scope s H C cl fp) (XW.none X.K) is tg g) (ht : ∀ (s : Shared) (H : Hp) (C : Addr) (cl : List (Str × Addr)) (fp : List Addr), PDTs (Blk X scope s H C cl fp) (XW.none X.K) ifs t)
    (he : ∀ (s : Shared) (H : Hp) (C : Addr) (cl : List (Str × Addr)) (fp : List Addr), PD (Blk X scope s H C cl fp) (XW.none X.K) elt e)
    (hsw : swapsWith (.ListComp elt [⟨tg, iter, ifs, 0⟩] scope pos) (some (.Name y py)) spos.line X.env = pure true := by exact sw_true rfl rfl rfl (by decide +kernel))
    (hy : X.N[i]? = some y := by rfl) (hyl : X.env.scope.names.lookup y = some .local := by rfl)
    (hown : ∀ i ∈ is, i ∈ own.map (·.2) := by decide) (hs : ∀ x, foldedSetIterable iter X.env x = pure x := by intro _; rfl) :
    PSD X W (.Assign [.Name y py] (.ListComp elt [⟨tg, iter, ifs, 0⟩] scope pos) spos) (sSet i (eLC cc im g t e (own.map (·.2)))) := by
  obtain ⟨ti, pi, si⟩ := hi.ex
  refine ⟨_, ps_setLc (g := tOfG X.K (XW.none X.K) is g) (tt := tOfT X.K (XW.none X.K) t) (te := tOf X.K (XW.none X.K) e) hc hN hy hyl hsw pi ok (fun s H C cl fp => (hg s H C cl fp).pg) (fun s H C cl fp => (ht s H C cl fp).ts) (fun s H C cl fp => (he s H C cl fp).pe) hs, fun ph S H sg rho Dn gd so h => ?_⟩
  refine lc_snd (W := W) (cc := cc) hown si ph S H sg rho _ gd so (holds_imp (holds_bind h) (fun x hx => ?_) fun _ _ _ q => q)
  exact fun ph1 v1 H1 x1 g1 d1 => hx ph1 _ H1 x1 g1 ((so.mono x1).set i d1)

/-! ### methods of built-in types -/
def OpM (X : Cx) (W : XW X.K) (r : V → List V → Hp → VK → Prop) (g : SV → List SV → Store → Res (SV × Store)) : Prop := ∀ (ph : List Addr) (S : Store) (H : Hp) (x : V) (a : SV) (xs : List V) (as : List SV) (Q : VK), Good X.K ph H S → DenS X.K ph H x a → DenSs X.K ph H xs as →
  holds (g a as S) (post X.K ph H Q) (W.rel ph H) → r x xs H Q
def tyS (T : String) (S : Store) (a : SV) : Bool := match a with
  | .fr (.str _) => T == "str"
  | x => T == "list" && (rdL S x).isSome
theorem tyS_ok {K : PySem.W.Frag} {ph : List Addr} {S : Store} {H : Hp} {v : V} {a : SV} {T : String} (g : Good K ph H S) (d : DenS K ph H v a) (h : tyS T S a = true) : tyV K T v H := by
  unfold tyS at h
  split at h
  · rw [d_str d]; exact (show T = "str" by simpa using h)
  · simp only [Bool.and_eq_true, beq_iff_eq] at h
    obtain ⟨xs, hx⟩ := Option.isSome_iff_exists.mp h.2
    obtain ⟨p, vs, rfl, h1, _⟩ := rdL_at g d hx
    exact .inl ⟨h.1, vs, .of h1⟩
abbrev GMt := SV → List SV → Store → Res (SV × Store)
def eMt (T : String) (g : GMt) (o : EM) (m : AM) : EM := fun rho S => (o rho S).bind fun x => if tyS T x.2 x.1 then (m rho x.2).bind fun y => g x.1 y.1 y.2 else .stuck
def eMt0 (T : String) (g : GMt) (o : EM) : EM := fun rho S => (o rho S).bind fun x => if tyS T x.2 x.1 then g x.1 [] x.2 else .stuck
theorem pd_mt0 {T id : String} {name : Str} {apos cpos : Pos} {r : V → List V → Hp → VK → Prop} {g : GMt} (pa : PlainAttrs T) (slot : Slot T name id) (hty : typeOf (.builtin id) = pure (.type "method_descriptor")) (hm : MtR X id r) (hr : OpM X W r g) (ho : PD X W a ma)
    (hbase : attributeBase a name X.env (eval a X.env) = eval a X.env := by rfl) (hline : (apos.endLine == cpos.line) = true := by rfl) : PD X W (.Call (.Attribute a name apos) [] [] cpos) (eMt0 T g ma) := by
  obtain ⟨to, po, so'⟩ := ho.ex
  refine ⟨_, pe_bm0 pa slot hty hm po hbase hline, fun ph S H sg rho Q gd so h => so' ph S H sg rho _ gd so (holds_imp (holds_bind h) (fun x hx => ?_) fun _ _ _ q => q)⟩
  intro ph1 v1 H1 x1 g1 d1
  split at hx
  · rename_i ht
    exact ⟨tyS_ok g1 d1 ht, hr ph1 x.2 H1 v1 x.1 [] [] Q g1 d1 .nil (holds_imp hx (fun c => post.mono x1 c) fun e r s q => W.mono _ _ _ _ e r s x1 q)⟩
  · exact hx.elim
theorem pd_mt {T id : String} {name : Str} {apos cpos : Pos} {e : Expr} {es : List Expr} {m : AM} {r : V → List V → Hp → VK → Prop} {g : GMt} (pa : PlainAttrs T) (slot : Slot T name id) (hty : typeOf (.builtin id) = pure (.type "method_descriptor")) (hm : MtR X id r) (hr : OpM X W r g) (ho : PD X W a ma) (ha : PDA X W (e :: es) m)
    (hbase : attributeBase a name X.env (eval a X.env) = eval a X.env := by rfl)
    (hfew : ((backTo cpos (starEach (e :: es) X.env)).all (fun x => !x.1) && (backToKw cpos (keywordEach [] X.env)).all (fun x => x.1.isSome)
      && decide ((e :: es).length + ([] : List Keyword).length + (if ([] : List Keyword).isEmpty then 0 else 1) < 30)) = true := by rfl)
    (hline : (apos.endLine == cpos.line) = true := by rfl) (hs : starEach (e :: es) X.env = (false, eval e X.env) :: starEach es X.env := by rfl) (hplain : (backTo cpos (starEach es X.env)).any (·.1) = false := by rfl) :
    PD X W (.Call (.Attribute a name apos) (e :: es) [] cpos) (eMt T g ma m) := by
  obtain ⟨to, po, so'⟩ := ho.ex
  obtain ⟨t, pt, st⟩ := ha.ex
  refine ⟨_, pe_bm pa slot hty hm po pt hbase hfew hline hs hplain, fun ph S H sg rho Q gd so h => so' ph S H sg rho _ gd so (holds_imp (holds_bind h) (fun x hx => ?_) fun _ _ _ q => q)⟩
  intro ph1 v1 H1 x1 g1 d1
  split at hx
  · rename_i ht
    refine ⟨tyS_ok g1 d1 ht, st ph1 x.2 H1 sg rho _ g1 (so.mono x1) (holds_imp (holds_bind hx) (fun y hy => ?_) fun e r s q => W.mono _ _ _ _ e r s x1 q)⟩
    intro ph2 vs H2 x2 g2 d2
    exact hr ph2 y.2 H2 v1 x.1 vs y.1 Q g2 (d1.mono x2) d2 (holds_imp hy (fun c => post.mono (x1.trans x2) c) fun e r s q => W.mono _ _ _ _ e r s (x1.trans x2) q)
  · exact hx.elim
/-- a list cell's new items -/
def cellOf (S : Store) : SV → Option (Nat × List SV)
  | .cell k => match S[k]? with
    | some (.lst xs) => some (k, xs)
    | _ => none
  | _ => none
theorem cellOf_ok {K : PySem.W.Frag} {ph : List Addr} {S : Store} {H : Hp} {v : V} {a : SV} {k : Nat} {xs : List SV} (g : Good K ph H S) (d : DenS K ph H v a) (h : cellOf S a = some (k, xs)) : ∃ p vs, v = .ref p ∧ ph[k]? = some p ∧ H p = some (.lst vs) ∧ DenSs K ph H vs xs := by
  cases a with
  | fr _ => cases h
  | cell j =>
    obtain ⟨p, h1, rfl⟩ := d
    simp only [cellOf] at h
    split at h
    · rename_i ys hy
      simp only [Option.some.injEq, Prod.mk.injEq] at h
      obtain ⟨rfl, rfl⟩ := h
      obtain ⟨q, h3, vs, h4, h5⟩ := g.at hy
      rw [h1] at h3; cases h3
      exact ⟨p, vs, rfl, h1, h4, h5⟩
    · cases h
theorem put_ok {ph : List Addr} {S : Store} {H : Hp} {p : Addr} {k : Nat} {vs : List V} {xs : List SV} {v : V} {sv : SV} {Q : VK} {E : Exc → Slots → Store → Prop} (g : Good X.K ph H S) (hp : ph[k]? = some p) (d : DenSs X.K ph H vs xs) (dv : DenS X.K ph H v sv)
    (h : holds (Res.ok (sv, S.set k (.lst xs))) (post X.K ph H Q) E) : Q v (upd H p (.lst vs)) := by
  have e : Ext ph H ph (upd H p (.lst vs)) := Ext.write (List.mem_of_getElem? hp)
  exact h ph v _ e (g.write hp ⟨vs, upd_same, DenSs.mono e d⟩) (dv.mono e)
def non : SV := .fr .non
theorem den_non {K : PySem.W.Frag} {ph : List Addr} {H : Hp} : DenS K ph H .non non := Den.non
def appendG : GMt := fun a as S => match cellOf S a, as with
  | some (k, xs), [y] => if xs.length < sizeLine then .ok (non, S.set k (.lst (xs ++ [y]))) else .stuck
  | _, _ => .stuck
theorem append_ok : OpM X W rAppend appendG := by
  intro ph S H x a xs as Q g d ds h
  unfold appendG at h
  split at h
  · rename_i k ys y hk
    obtain ⟨p, vs, rfl, h1, h2, h3⟩ := cellOf_ok g d hk
    obtain ⟨v, rfl, dv⟩ := one_of ds
    split at h
    · rename_i hz
      exact ⟨p, vs, v, rfl, rfl, h2, by rw [h3.length]; exact hz, put_ok g h1 (paired_snoc h3 dv) den_non h⟩
    · exact h.elim
  · exact h.elim
def extendG : GMt := fun a as S => match cellOf S a, as with
  | some (k, xs), [y] => match rdL S y with
    | some ys => if xs.length + ys.length ≤ sizeLine then .ok (non, S.set k (.lst (xs ++ ys))) else .stuck
    | none => .stuck
  | _, _ => .stuck
theorem extend_ok : OpM X W rExtend extendG := by
  intro ph S H x a xs as Q g d ds h
  unfold extendG at h
  split at h
  · rename_i k ys y hk
    obtain ⟨p, vs, rfl, h1, h2, h3⟩ := cellOf_ok g d hk
    obtain ⟨v, rfl, dv⟩ := one_of ds
    split at h
    · rename_i zs hzs
      obtain ⟨q, ws, rfl, h5, h6⟩ := rdL_at g dv hzs
      split at h
      · rename_i hz
        exact ⟨p, q, vs, ws, rfl, rfl, h2, h5, by rw [h3.length, h6.length]; exact hz, put_ok g h1 (paired_append h3 h6) den_non h⟩
      · exact h.elim
    · exact h.elim
  · exact h.elim
theorem paired_dropLast {α β : Type} {P : α → β → Prop} : ∀ {l : List α} {m : List β}, Paired P l m → Paired P l.dropLast m.dropLast
  | _, _, .nil => .nil
  | _, _, .cons _ .nil => .nil
  | _, _, .cons h (.cons h2 t) => .cons h (paired_dropLast (.cons h2 t))
theorem paired_rev {α β : Type} {P : α → β → Prop} : ∀ {l : List α} {m : List β}, Paired P l m → Paired P l.reverse m.reverse
  | _, _, .nil => .nil
  | _, _, .cons h t => by rw [List.reverse_cons, List.reverse_cons]; exact paired_snoc (paired_rev t) h
theorem paired_erase {α β : Type} {P : α → β → Prop} : ∀ {l : List α} {m : List β} (k : Nat), Paired P l m → Paired P (l.eraseIdx k) (m.eraseIdx k)
  | _, _, _, .nil => .nil
  | _, _, 0, .cons _ t => t
  | _, _, k + 1, .cons h t => .cons h (paired_erase k t)
def popG : GMt := fun a as S => match cellOf S a, as with
  | some (k, xs), [] => match xs[xs.length - 1]? with
    | some y => .ok (y, S.set k (.lst xs.dropLast))
    | none => .stuck
  | _, _ => .stuck
theorem pop_ok : OpM X W rPop popG := by
  intro ph S H x a xs as Q g d ds h
  unfold popG at h
  split at h
  · rename_i k ys hk
    obtain ⟨p, vs, rfl, h1, h2, h3⟩ := cellOf_ok g d hk
    cases ds
    split at h
    · rename_i y hy
      obtain ⟨v, hv, dv⟩ := paired_get h3 hy
      exact ⟨p, vs, v, rfl, rfl, h2, by rw [h3.length]; exact hv, put_ok g h1 (paired_dropLast h3) dv h⟩
    · exact h.elim
  · exact h.elim
def popAtG : GMt := fun a as S => match cellOf S a, as with
  | some (k, xs), [.fr (.int i)] => if -(2 ^ 63) ≤ i ∧ i < 2 ^ 63 then match seqIndex? i xs.length with
    | some j => match xs[j]? with
      | some y => .ok (y, S.set k (.lst (xs.eraseIdx j)))
      | none => .stuck
    | none => .stuck else .stuck
  | _, _ => .stuck
theorem popAt_ok : OpM X W rPopAt popAtG := by
  intro ph S H x a xs as Q g d ds h
  unfold popAtG at h
  split at h
  · rename_i k ys i hk
    obtain ⟨p, vs, rfl, h1, h2, h3⟩ := cellOf_ok g d hk
    obtain ⟨v, rfl, dv⟩ := one_of ds
    rw [d_int dv]
    split at h
    · rename_i hi
      split at h
      · rename_i j hj
        split at h
        · rename_i y hy
          obtain ⟨w', hw, dw⟩ := paired_get h3 hy
          exact ⟨p, vs, i, j, w', rfl, rfl, h2, hi.1, hi.2, by rw [h3.length]; exact hj, hw, put_ok g h1 (paired_erase j h3) dw h⟩
        · exact h.elim
      · exact h.elim
    · exact h.elim
  · exact h.elim
def reverseG : GMt := fun a as S => match cellOf S a, as with
  | some (k, xs), [] => .ok (non, S.set k (.lst xs.reverse))
  | _, _ => .stuck
theorem reverse_ok : OpM X W rReverse reverseG := by
  intro ph S H x a xs as Q g d ds h
  unfold reverseG at h
  split at h
  · rename_i k ys hk
    obtain ⟨p, vs, rfl, h1, h2, h3⟩ := cellOf_ok g d hk
    cases ds
    exact ⟨p, vs, rfl, rfl, h2, put_ok g h1 (paired_rev h3) den_non h⟩
  · exact h.elim
def clearG : GMt := fun a as S => match cellOf S a, as with
  | some (k, _), [] => .ok (non, S.set k (.lst []))
  | _, _ => .stuck
theorem clear_ok : OpM X W rClear clearG := by
  intro ph S H x a xs as Q g d ds h
  unfold clearG at h
  split at h
  · rename_i k ys hk
    obtain ⟨p, vs, rfl, h1, h2, h3⟩ := cellOf_ok g d hk
    cases ds
    exact ⟨p, vs, rfl, rfl, h2, put_ok g h1 .nil den_non h⟩
  · exact h.elim
def insertG : GMt := fun a as S => match cellOf S a, as with
  | some (k, xs), [.fr (.int i), y] => if xs.length < sizeLine ∧ 0 ≤ i ∧ i < 2 ^ 63 then .ok (non, S.set k (.lst (xs.take i.toNat ++ [y] ++ xs.drop i.toNat))) else .stuck
  | _, _ => .stuck
theorem insert_ok : OpM X W (fun x vs H Q => ∃ (l : Addr) (xs : List V) (i : Int) (y : V), x = .ref l ∧ vs = [.int i, y] ∧ H l = some (.lst xs) ∧ xs.length < sizeLine ∧ 0 ≤ i ∧ i < 2 ^ 63 ∧
    Q .non (upd H l (.lst (xs.take i.toNat ++ [y] ++ xs.drop i.toNat)))) insertG := by
  intro ph S H x a xs as Q g d ds h
  unfold insertG at h
  split at h
  · rename_i k ys i y hk
    obtain ⟨p, vs, rfl, h1, h2, h3⟩ := cellOf_ok g d hk
    obtain ⟨v, u, rfl, dv, du⟩ := two_of ds
    rw [d_int dv]
    split at h
    · rename_i hi
      exact ⟨p, vs, i, u, rfl, rfl, h2, by rw [h3.length]; exact hi.1, hi.2.1, hi.2.2, put_ok g h1 (paired_append (paired_append (paired_take _ h3) (.cons du .nil)) (paired_drop _ h3)) den_non h⟩
    · exact h.elim
  · exact h.elim
end
end DL

namespace DL
open PySem PySem.Spec PyProof.Rows L2

/-! ### the end of a law -/
/-- what the mirror of a law must show -/
def Tells (n : Nat) (m : FnM) : Prop := ∀ ns : List Int, ns.length ≤ n → ∃ S' : Store, m [.fr (.scr (ns.map D.int))] [] = .ok (.val (.fr (.bl true)), S')
theorem hide_nil (H : Hp) : hide [] H = H := by
  funext a
  simp [hide]
theorem spD_law {K : PySem.W.Frag} {m : FnM} {n : Nat} (hm : Tells n m) {H : Hp} {a : Addr} {ns : List Int} (hl : ns.length ≤ n) (sq : SqL K H a (ns.map V.int)) : spD K m [.ref a] H (fun v _ => v = .bl true) fun _ _ _ => False := by
  obtain ⟨S', e⟩ := hm ns hl
  refine ⟨[], [], [.fr (.scr (ns.map D.int))], ⟨List.nodup_nil, .nil⟩, .cons ?_ .nil, ?_⟩
  · refine Den.scr (vs := ns.map V.int) ?_ (Dens.of_ints ns)
    rw [hide_nil]; exact sq
  · rw [e]
    intro v H' _ _ d
    exact d_bl (show DenS K [] H' v (.fr (.bl true)) from d)
/-- a law called behind its top -/
theorem told {P : Program} {w : World} {K : PySem.W.Frag} {mg mb : Str → Option Value} {k n : Nat} {x : Str} {m : FnM} {fl al : Addr} {sh : Shared} {us : List Value} {zs : List Int}
    (kin : K.In sh.heap) (gn : sh.heap.Ns mainGlobals mg) (bn : sh.heap.Ns builtinsNs mb) (bb : ∀ y : Str, y ≠ "__name__" → mb y = bootBuiltins y) (nl : sh.heap.NoLimit) (ng : sh.gens = #[])
    (at_ : sh.heap.get? al = some { cls := .type "list", data := .seq us.toArray }) (iv : IntsAre us zs) (lz : zs.length ≤ n) (hn : n ≤ sizeLine) (rm : Room k callerA) (hx : mg x = some (.ref fl))
    (F : ∀ base : Heap, K.In base → base.Ns mainGlobals mg → CalD P w K mg base k x m) (hm : Tells n m) :
    codeAny (model P w) callerA (.call (.ref fl) ⟨[.ref al], []⟩) (fun r s' => r = .ok (.ret (.bool true)) ∧ OldK sh.heap s'.heap ∧ s'.os = sh.os ∧ AllBare s'.gens) sh := by
  have rel := vals_ints iv
  have hlen := iv.length
  obtain ⟨H, only, sql, hok, own, off⟩ : ∃ H : Hp, (∀ b, H b = none ∨ ∃ o xs, H b = some (.frz o (.lst xs))) ∧ SqL K H al (zs.map V.int) ∧ HOk P w H sh.heap ∧ (∀ b, H b ≠ none → b = al) ∧ (H al ≠ none → K.lookup al = none) := by
    cases q : K.lookup al with
    | some o =>
      have e := kin al o q
      rw [at_] at e
      cases e
      exact ⟨fun _ => none, fun _ => .inl rfl, .inr ⟨_, us.toArray, _, q, rfl, rfl, rfl, by rw [List.size_toArray, hlen]; omega, by simpa using rel⟩, fun b u z => (nomatch (show (none : Option HO) = some u from z)), fun b z => absurd rfl z, fun z => absurd rfl z⟩
    | none =>
      refine ⟨fun b => if b = al then some (.frz { cls := .type "list", data := .seq us.toArray } (.lst (zs.map V.int))) else none, fun b => ?_, .inl (.inr ⟨{ cls := .type "list", data := .seq us.toArray }, if_pos rfl⟩), fun b u z => ?_, fun b z => ?_, fun _ => rfl⟩
      · by_cases e : b = al
        · exact .inr ⟨_, _, if_pos e⟩
        · exact .inl (if_neg e)
      · by_cases e : b = al
        · have z2 := (if_pos e).symm.trans z
          cases z2
          subst e
          exact ⟨at_, by rw [List.length_map]; omega, us, _, rel, at_⟩
        · cases (if_neg e).symm.trans z
      · by_cases e : b = al
        · exact e
        · exact absurd (if_neg e) z
  have plain_of : ∀ {b : Addr} {o : Obj} {es : Array DictEntry} {ep : Nat}, sh.heap.get? b = some o → o.data = .dict es ep → H b = none := fun {b o es ep} g dd => by
    cases q : H b with
    | none => rfl
    | some u =>
      have eb := own b (by rw [q]; simp)
      subst eb
      rw [at_] at g; cases g
      cases (show Data.seq us.toArray _ = Data.dict es ep from dd)
  have hid_ns : ∀ {b : Addr} {f : Str → Option Value}, sh.heap.Ns b f → (hidT sh.heap H).Ns b f := fun {b f} ⟨o, es, ep, g, dd, rr⟩ => ⟨o, es, ep, hidT_get g (plain_of g dd), dd, rr⟩
  have kb : K.In (hidT sh.heap H) := fun b o g => hidT_get (kin b o g) (by
    cases q : H b with
    | none => rfl
    | some u =>
      have eb := own b (by rw [q]; simp)
      subst eb
      have := off (by rw [q]; simp)
      rw [this] at g; cases g)
  have md : Mod K mg (hidT sh.heap H) := ⟨kb, hid_ns gn, ⟨mb, hid_ns bn, bb⟩, by obtain ⟨c, h1, h2⟩ := nl; exact ⟨c, hid_ns h1, h2⟩⟩
  have ev : Env0 P w K mg (hidT sh.heap H) callerA [] sh H :=
    ⟨rfl, md, fun b o g => of_hidT g, Nat.le_of_eq (hidT_size _ _), trivial, fun b hb => (nomatch (show b ∈ ([] : List Addr) from hb)), hok, .of_eq ng⟩
  obtain ⟨f2, fd, ps, hx2, hkp, hbd, FF⟩ := (F _ kb (hid_ns gn)).ex
  rw [hx] at hx2; cases hx2
  have sp := spD_law (K := K) hm lz sql
  have hp : ps.length = 1 := (FF.len _ _ _ _ sp).symm
  have hb := hbd sh [.ref al] kin (by rw [hp]; rfl)
  refine codeAny_mono (FF.run callerA [] sh H ⟨[.ref al], []⟩ [.ref al] [.ref al] _ _ rfl rm ev hb (.cons rfl .nil) sp) fun r s' hr => ?_
  cases r with
  | error e =>
    obtain ⟨_, _, _, _, _, _, _, _, _, _, _, _, z⟩ := hr
    exact z.elim
  | ok fo =>
    cases fo with
    | next => exact False.elim hr
    | brk => exact False.elim hr
    | cont => exact False.elim hr
    | ret u =>
      obtain ⟨v, H2, eo, br, un, hok2, rv, q⟩ := hr
      subst q
      obtain rfl : u = Value.bool true := rv
      refine ⟨rfl, OldK.of_keep fun b o g => ?_, eo, br⟩
      rcases only b with z | ⟨o2, xs, z⟩
      · exact un.keep b o g z (by intro y; cases y) (by simp)
      · have g1 := (hok b _ z).1
        have g2 := (hok2 b _ (un.frzs b o2 _ z)).1
        rw [g] at g1; cases g1
        exact g2
/-- a law over a head by facts -/
theorem walkD {l : PySem.W.OpenLaw} {n k : Nat} {q : Program} {loose : List Str} {XP : (Str → Option Value) → Heap → Prop} {YP : World → Heap → Prop} {d : DefRec} {m : FnM}
    (h1 : l.most = some n) (h2 : n ≤ sizeLine) (h3 : d.params.defaults = []) (rm : Room k callerA)
    (F : ∀ (w : World) (mg : Str → Option Value) (h : Heap), YP w h → h.Ns mainGlobals mg → ∃ K : PySem.W.Frag, K.In h ∧ ∀ base : Heap, K.In base → base.Ns mainGlobals mg → CalD l.prog w K mg base k d.name m)
    (hm : Tells n m) : PySem.W.WalkO q loose XP YP l.row.toRowW d [] (fun f vs => PySem.call f vs) := by
  refine Att.attach_call h1 h3 fun w sa sh mg mb fl o pm cd doc al us zs G Y _ _ _ hx ho hz hlz hng => ?_
  obtain ⟨K, kin, FF⟩ := F w mg sh.heap Y G.T.g
  exact told kin G.T.g G.T.b G.T.builtins G.T.nolimit hng ho hz hlz h2 rm hx FF hm
theorem walkD_F {P : Program} {w : World} {K : PySem.W.Frag} {mg : Str → Option Value} {base : Heap} {x : Str} {ps : List Str} {st : Stmt} {f : Addr} {fd : FuncData} (F : L2.FunD K x x (defArgs st) (defBody st) (defScope st) [] [] f fd)
    (h : ∀ (kV doc pm : Value) (an : Option Addr) (cdv ct : Value) (us : List Value), us.length = ps.length → bindArgs (PySem.W.fnOf x x (defArgs st) (defBody st) (defScope st) .none kV doc pm an cdv ct) ⟨us, []⟩ = pure (ps.zip us)) : Binds K fd ps [] := F.bindsN h
end DL

namespace DL
open PySem PySem.Spec PyProof.Rows L2

/-! ### sorted(xs, key=f), f a def that hands back its argument's first item -/
/-- the def at f is: return x[0] -/
structure FirstOf (K : PySem.W.Frag) (f : Addr) : Prop where
  ex : ∃ (x p : Str) (st : Stmt) (fd : FuncData) (k j : Nat) (p1 p2 p3 p4 : Pos), Fun K x x st f fd ∧ Binds K fd [p] [] ∧ FnScope [p] [p] (defScope st) ∧ (defScope st).names.lookup p = some .local ∧
    (p == ("__debug__" : Str)) = false ∧ defBody st = [.Return (some (.Subscript (.Name p p1) (.Constant (.int 0) k p2) p3)) p4]
section
variable {prog : Program} {w : World} {A : Around} {E : Value → Shared → Prop} {s : Shared} {K : PySem.W.Frag}
theorem first_call {f t : Addr} {its : Array Value} {x : Value} (F : FirstOf K f) (X : K.In s.heap) (lim : s.heap.NoLimit) (hr : A.depth < recursionLimit) (ht : IsTup s.heap t its) (hx : its[0]? = some x) :
    wpAny (model prog w) A (call (.ref f) [.ref t]) (fun v s' => v = x ∧ ∃ h' tk, s' = { s with heap := h', toks := tk } ∧ ∀ b o, s.heap.get? b = some o → h'.get? b = some o) E s := by
  obtain ⟨y, p, st, fd, k, j, p1, p2, p3, p4, Fn, hb, Sc, hloc, hd, body⟩ := F.ex
  obtain ⟨oc, od, kV, doc, pm, an, cdv, ct, osl, rfl, lk, hcd⟩ := Fn.ex
  have bd := hb s [.ref t] X rfl
  have hkind : (([p].zip ([.ref t] : List Value)).all fun z => (defScope st).names.lookup z.1 == some .local || (defScope st).names.lookup z.1 == some .cell) = true := by
    simp [hloc]
  refine wpAny_call (Att.call_fn X lim lk hcd hr bd hkind (fun s1 x1 => ?_) Sc.co Sc.gen Sc.kind)
  rw [body]
  have ico := x1.toInCall
  have kind : (envOfC y (defScope st) s.heap.objs.size f cdv).kindOf p = some .local := hloc
  have ht1 : IsTup s1.heap t its := ht.keeps ico.keep
  refine wpAny_execs_cons (wpAny_Return_some (Subscript_Constant (wpAny_Name (wpAny_loadName_local (v := .ref t) Sc.kind kind ico.ns ?_ ?_) hd)))
  · show bindL _ [(p, Value.ref t)] (fun _ => none) p = _
    simp [bindL, kind]
  · refine wpAny_Constant_int ⟨"tuple", _, slot_tuple_getitem.lookup, ht1.typeIs, ?_⟩
    refine getItem_tuple (j := 0) ht1 (by decide) (by decide) ?_ hx ?_
    · have : 0 < its.size := by
        cases q : its.size with
        | zero => rw [Array.getElem?_eq_none (by omega)] at hx; cases hx
        | succ n => omega
      exact seqIndex_of (by decide) (by omega)
    · obtain ⟨h', tk, e⟩ := ico.same
      subst e
      exact ⟨rfl, h', _, rfl, ico.keep⟩
end
theorem each_vals : ∀ {ps : List (V × Int)} {vs : List Value}, Vals (ps.map (·.1)) vs → PySem.W.EachIs (fun v (p : V × Int) => RelV p.1 v) vs ps
  | [], _, .nil => .nil
  | _ :: _, _, .cons h t => .cons h (each_vals t)
theorem vals_each : ∀ {ps : List (V × Int)} {vs : List Value}, PySem.W.EachIs (fun v (p : V × Int) => RelV p.1 v) vs ps → Vals (ps.map (·.1)) vs
  | _, _, .nil => .nil
  | _, _, .cons h t => .cons h (vals_each t)
def byKey (ps : List (V × Int)) : List V := (ps.mergeSort fun a b => decide (a.2 ≤ b.2)).map (·.1)
def rSortF (K : PySem.W.Frag) (f : Addr) : List V → List V → Hp → VK → Prop := fun vs zs H Q => ∃ (a : Addr) (ps : List (V × Int)), vs = [V.ref a] ∧ zs = [V.ref f] ∧ SqL K H a (ps.map (·.1)) ∧
  (∀ p ∈ ps, ∃ t ys, p.1 = V.ref t ∧ SqT K H t (.int p.2 :: ys)) ∧ ∀ l : Addr, H l = none → Q (.ref l) (upd H l (.lst (byKey ps)))
theorem cr_sortF {X : Cx} {f : Addr} (F : FirstOf X.K f) (hd : X.A.depth < recursionLimit) (hu : X.A.units + 80 < cLine) : CallRK X (.builtin "sorted") [Str.ofString "key"] (rSortF X.K f) := by
  intro pins s sg H vs zs us ws Q I r rz h
  obtain ⟨a, ps, rfl, rfl, hs, hk, q⟩ := h
  obtain rfl := Vals.ref1 r
  obtain rfl := Vals.ref1 rz
  obtain ⟨its, rv, hl, hz⟩ := I.list hs
  have len := rv.length
  rw [List.length_map] at hz
  refine PySem.W.sorted_key_data (β := V × Int) (b := false) (fun p => PyData.int p.2) hl.isList (each_vals rv) (PySem.W.AllAlike.of fun _ _ => by simp [PySem.W.alike]) (PySem.W.Sortable.others fun _ => ⟨by simp, by simp⟩) hz (fun x _ => ?_) (ksk_s1 _ _) (fun _ => ksk_l1 _ _) (fun _ => ksk_t1 _ _) ?_ ?_
  · simp only [PyData.depth]; omega
  · intro v x hv hx h tk kp
    obtain ⟨t, ys, e1, st⟩ := hk x hx
    obtain ⟨ts, rt, it, _⟩ := I.tuple st
    rw [e1] at hv
    obtain rfl : v = Value.ref t := hv
    cases rt with
    | cons r0 rr =>
      obtain ⟨tk0, rfl⟩ := r0
      exact wpAny_mono (first_call (s := { s with heap := h, toks := tk }) F (I.kIn.keeps kp) ((I.env0.mod.nolimit.keeps fun b o e => (I.env0.bs b o e).1).keeps kp) hd (it.keeps kp) (x := .int x.2 tk0) (by simp)) (fun v' s' ⟨e1, h', tk', e2, kp'⟩ => ⟨h', tk', e2, kp', by rw [e1]; exact .int _ _⟩) fun _ _ e => e
  · intro out c h' tk kp _ hD hlen eo
    rw [PySem.W.dataLe_int] at eo
    have vo := vals_each eo
    refine ⟨.ref _, upd H (s.heap.objs.size + 1) (.lst (byKey ps)), I.laid (t' := tk) kp (Nat.le_succ _) ⟨?_, out, c, vo, hD⟩, rfl, q _ (I.hok.fresh (Nat.le_succ _))⟩
    rw [byKey, List.length_map, List.length_mergeSort]; exact hz
/-- the mirror -/
def keyI : SV → Option Int
  | .fr (.tup (.int i :: _)) => some i
  | _ => none
def keys : List SV → Option (List (SV × Int))
  | [] => some []
  | x :: xs => match keyI x, keys xs with
    | some i, some r => some ((x, i) :: r)
    | _, _ => none
def sortF (ps : List (SV × Int)) : List SV := (ps.mergeSort fun a b => decide (a.2 ≤ b.2)).map (·.1)
def sortG (c : Bool) (a : SV) (S : Store) : Res (SV × Store) := match rdS S a with
  | some xs => match keys xs with
    | some ps => newL0 c (sortF ps) S
    | none => .stuck
  | none => .stuck
theorem keys_of {K : PySem.W.Frag} {ph : List Addr} {H : Hp} : ∀ {xs : List SV} {vs : List V} {ps : List (SV × Int)}, DenSs K ph H vs xs → keys xs = some ps →
    ∃ qs : List (V × SV × Int), qs.map (·.1) = vs ∧ qs.map (·.2) = ps ∧ ∀ q ∈ qs, DenS K ph H q.1 q.2.1 ∧ ∃ t ys, q.1 = V.ref t ∧ SqT K H t (.int q.2.2 :: ys)
  | _, _, ps, .nil, h => by
    cases h
    exact ⟨[], rfl, rfl, fun q hq => by cases hq⟩
  | x :: xs, v :: vs, ps, .cons d ds, h => by
    unfold keys at h
    split at h
    · rename_i i r h1 h2
      cases h
      obtain ⟨qs, e1, e2, hq⟩ := keys_of ds h2
      refine ⟨(v, x, i) :: qs, by simp [e1], by simp [e2], fun q hm => ?_⟩
      rcases List.mem_cons.mp hm with rfl | hm
      · refine ⟨d, ?_⟩
        unfold keyI at h1
        split at h1
        · rename_i j rest
          cases h1
          obtain ⟨t, ws, rfl, st, r2⟩ := d_tup d
          cases r2 with
          | cons a b =>
            cases a
            exact ⟨t, _, rfl, hide_sub.sqT st⟩
        · cases h1
      · exact hq q hm
    · cases h
theorem byKey_of {K : PySem.W.Frag} {ph : List Addr} {H : Hp} (qs : List (V × SV × Int)) (h : ∀ q ∈ qs, DenS K ph H q.1 q.2.1) : DenSs K ph H (byKey (qs.map fun q => (q.1, q.2.2))) (sortF (qs.map (·.2))) := by
  have e1 : byKey (qs.map fun q => (q.1, q.2.2)) = (qs.mergeSort fun a b => decide (a.2.2 ≤ b.2.2)).map (·.1) := by
    unfold byKey
    rw [← List.map_mergeSort (r := fun a b => decide (a.2.2 ≤ b.2.2)) (fun a _ b _ => rfl), List.map_map]
    rfl
  have e2 : sortF (qs.map (·.2)) = (qs.mergeSort fun a b => decide (a.2.2 ≤ b.2.2)).map (·.2.1) := by
    unfold sortF
    rw [← List.map_mergeSort (r := fun a b => decide (a.2.2 ≤ b.2.2)) (fun a _ b _ => rfl), List.map_map]
    rfl
  rw [e1, e2]
  have hm : ∀ q ∈ qs.mergeSort fun a b => decide (a.2.2 ≤ b.2.2), DenS K ph H q.1 q.2.1 := fun q hq => h q (List.mem_mergeSort.mp hq)
  generalize (qs.mergeSort fun a b => decide (a.2.2 ≤ b.2.2)) = l at hm
  induction l with
  | nil => exact .nil
  | cons q l ih => exact .cons (hm q List.mem_cons_self) (ih fun z hz => hm z (List.mem_cons_of_mem _ hz))
section
variable {X : Cx} {W : XW X.K} {a : Expr} {ma : EM} {pos : Pos}
def eSortF (c : Bool) (m : EM) : EM := fun rho S => (m rho S).bind fun x => sortG c x.1 x.2
theorem pd_sortF (c : Bool) {f : Addr} {g : Str} {p p2 kp : Pos} (hd : X.A.depth < recursionLimit) (hu : X.A.units + 80 < cLine) (F : FirstOf X.K f) (hm : X.mg "sorted" = none) (hf : X.mg g = some (.ref f)) (ha : PD X W a ma)
    (hg : Gl X "sorted" := by rfl) (hgg : Gl X g := by rfl) (hdb : (g == ("__debug__" : Str)) = false := by decide)
    (he : backTo pos (starEach [a] X.env) = (false, eval a X.env) :: backTo pos (starEach [] X.env) := by rfl) (hpl : (backTo pos (starEach [a] X.env)).any (·.1) = false := by rfl) (hst : starEach [a] X.env = (false, eval a X.env) :: starEach [] X.env := by rfl)
    (hall : (backToKw pos (keywordEach [⟨some "key", .Name g p2, kp⟩] X.env)).all (·.1.isSome) = true := by rfl) (hnone : (backToKw pos (keywordEach [⟨some "key", .Name g p2, kp⟩] X.env)).any (·.1.isNone) = false := by rfl)
    (hks : (backToKw pos (keywordEach [⟨some "key", .Name g p2, kp⟩] X.env)).filterMap (·.1) = [Str.ofString "key"] := by rfl) :
    PD X W (.Call (.Name "sorted" p) [a] [⟨some "key", .Name g p2, kp⟩] pos) (eSortF c ma) := by
  obtain ⟨ta, pa, sa⟩ := ha.ex
  refine ⟨_, pe_callBK (cr_sortF F hd hu) hg hm PyProof.Rows.boot_sorted (pa_cons pa pa_nil hst) (pk_cons (pe_glob hgg hf (v := .ref f) rfl hdb) pk_nil) (by decide) (by decide) he hpl hall hnone hks, fun ph S H sg rho Q g so h => ?_⟩
  refine sa ph S H sg rho _ g so (holds_imp (holds_bind h) (fun x hx => ?_) fun _ _ _ q => q)
  intro ph1 v1 H1 x1 g1 d1
  unfold sortG at hx
  split at hx
  · rename_i xs hxs
    obtain ⟨l, vs, rfl, hsq, r⟩ := rdS_ok g1 d1 hxs
    split at hx
    · rename_i ps hps
      obtain ⟨qs, e1, e2, hq⟩ := keys_of r hps
      refine ⟨l, qs.map fun q => (q.1, q.2.2), rfl, rfl, ?_, ?_, ?_⟩
      · rw [List.map_map, show ((fun p : V × Int => p.1) ∘ fun q : V × SV × Int => (q.1, q.2.2)) = (·.1) from rfl, e1]
        exact hsq
      · intro p hp
        obtain ⟨q, hqm, rfl⟩ := List.mem_map.mp hp
        exact (hq q hqm).2
      · have dd := byKey_of qs fun q hm => (hq q hm).1
        rw [e2] at dd
        exact newL0_ok g1 dd (holds_imp hx (fun c => post.mono x1 c) fun _ _ _ q => q)
    · exact hx.elim
  · exact hx.elim
end
end DL

namespace DL
open PySem PySem.Spec PyProof.Rows L2

/-! ### instances of own classes -/
/-- the class's name, the attributes -/
def insOf (S : Store) : SV → Option (Str × List (Str × SV))
  | .fr (.ins n fs) => some (n, fs.map fun p => (p.1, .fr p.2))
  | .cell k => match S[k]? with
    | some (.ins n fs) => some (n, fs)
    | _ => none
  | _ => none
section
variable {K : PySem.W.Frag} {ph : List Addr} {H : Hp} {S : Store}
theorem denSF_of : ∀ {vs : List (Str × V)} {fs : List (Str × D)}, DenF K (hide ph H) vs fs → DenSF K ph H vs (fs.map fun p => (p.1, SV.fr p.2))
  | _, _, .nil => .nil
  | _, _, .cons a r => .cons ⟨rfl, a⟩ (denSF_of r)
theorem insOf_ok {v : V} {x : SV} {n : Str} {fs : List (Str × SV)} (g : Good K ph H S) (d : DenS K ph H v x) (h : insOf S x = some (n, fs)) : ∃ a dx vs, v = .ref a ∧ H a = some (.ins (He.ga K n) dx vs) ∧ DenSF K ph H vs fs := by
  cases x with
  | fr d' =>
    cases d' with
    | ins m gs =>
      simp only [insOf, Option.some.injEq, Prod.mk.injEq] at h
      obtain ⟨rfl, rfl⟩ := h
      cases d with
      | ins s r => exact ⟨_, _, _, rfl, (hide_some s).2, denSF_of r⟩
    | _ => simp [insOf] at h
  | cell k =>
    obtain ⟨p, h1, rfl⟩ := d
    simp only [insOf] at h
    split at h
    · rename_i m gs hk
      simp only [Option.some.injEq, Prod.mk.injEq] at h
      obtain ⟨rfl, rfl⟩ := h
      obtain ⟨q, h3, dx, vs, h4, h5⟩ := g.at hk
      rw [h1] at h3; cases h3
      exact ⟨p, dx, vs, rfl, h4, h5⟩
    · cases h
theorem denSF_some {f : Str} {x : SV} : ∀ {vs : List (Str × V)} {fs : List (Str × SV)}, DenSF K ph H vs fs → fs.lookup f = some x → ∃ v, vs.lookup f = some v ∧ DenS K ph H v x
  | _, _, .nil, e => by simp at e
  | (a, v) :: vs, (b, y) :: fs, .cons h t, e => by
    obtain ⟨e1, d⟩ := h
    dsimp only at e1 d
    subst e1
    rw [List.lookup_cons] at e ⊢
    cases q : f == a with
    | true => rw [q] at e; cases e; exact ⟨v, rfl, d⟩
    | false => rw [q] at e; exact denSF_some t e
theorem denSF_none {f : Str} : ∀ {vs : List (Str × V)} {fs : List (Str × SV)}, DenSF K ph H vs fs → fs.lookup f = none → vs.lookup f = none
  | _, _, .nil, e => by simp
  | (a, v) :: vs, (b, y) :: fs, .cons h t, e => by
    obtain ⟨e1, d⟩ := h
    dsimp only at e1 d
    subst e1
    rw [List.lookup_cons] at e ⊢
    cases q : f == a with
    | true => rw [q] at e; cases e
    | false => rw [q] at e; exact denSF_none t e
/-- an attribute set -/
def putS (f : Str) (v : SV) : List (Str × SV) → List (Str × SV)
  | [] => [(f, v)]
  | (g, x) :: r => if g = f then (g, v) :: r else (g, x) :: putS f v r
theorem denSF_put {f : Str} {v : V} {x : SV} (d : DenS K ph H v x) : ∀ {vs : List (Str × V)} {fs : List (Str × SV)}, DenSF K ph H vs fs → DenSF K ph H (putF f v vs) (putS f x fs)
  | _, _, .nil => .cons ⟨rfl, d⟩ .nil
  | (a, u) :: vs, (b, y) :: fs, .cons h t => by
    obtain ⟨e1, d2⟩ := h
    dsimp only at e1 d2
    subst e1
    unfold putF putS
    by_cases q : a = f
    · rw [if_pos q, if_pos q]; exact .cons ⟨rfl, d⟩ t
    · rw [if_neg q, if_neg q]; exact .cons ⟨rfl, d2⟩ (denSF_put d t)
end
/-- what must be known of a class whose instances have the attribute f -/
structure FldOk (K : PySem.W.Frag) (n f : Str) : Prop where
  cls : Cls K (He.ga K n)
  no : NoAttr K (He.ga K n) f
def FldsOk (K : PySem.W.Frag) (f : Str) (ns : List Str) : Prop := ∀ n ∈ ns, FldOk K n f
theorem flds_nil {K : PySem.W.Frag} {f : Str} : FldsOk K f [] := fun _ h => nomatch h
theorem flds_cons {K : PySem.W.Frag} {f n : Str} {ns : List Str} (h : FldOk K n f) (t : FldsOk K f ns) : FldsOk K f (n :: ns) := fun m hm => (List.mem_cons.mp hm).elim (fun e => e ▸ h) (t m)
def fldG (ns : List Str) (f : Str) (x : SV) (S : Store) : Res (SV × Store) := match insOf S x with
  | some (n, fs) => if n ∈ ns then (match fs.lookup f with
    | some y => .ok (y, S)
    | none => .stuck) else .stuck
  | none => .stuck
def eFld (ns : List Str) (f : Str) (o : EM) : EM := fun rho S => (o rho S).bind fun x => fldG ns f x.1 x.2
section
variable {X : Cx} {W : XW X.K} {o e : Expr} {mo m : EM} {pos : Pos} {ns : List Str} {f : Str}
theorem pd_fld (T : FldsOk X.K f ns) (ho : PD X W o mo) (hb : attributeBase o f X.env (eval o X.env) = eval o X.env := by rfl) : PD X W (.Attribute o f pos) (eFld ns f mo) := by
  obtain ⟨t, p, s⟩ := ho.ex
  refine ⟨_, pe_fld p hb, fun ph S H sg rho Q g so h => s ph S H sg rho _ g so (holds_imp (holds_bind h) (fun x hx => ?_) fun _ _ _ q => q)⟩
  intro ph1 v1 H1 x1 g1 d1
  unfold fldG at hx
  split at hx
  · rename_i n fs hi
    obtain ⟨a, dx, vs, rfl, h1, h2⟩ := insOf_ok g1 d1 hi
    split at hx
    · rename_i hn
      split at hx
      · rename_i y hy
        obtain ⟨v, hv, dv⟩ := denSF_some h2 hy
        exact ⟨a, _, dx, vs, v, rfl, h1, (T n hn).cls, (T n hn).no, hv, hx ph1 v H1 x1 g1 dv⟩
      · exact hx.elim
    · exact hx.elim
  · exact hx.elim
/-- o.f = e, o an instance under way -/
def sFldM (ns : List Str) (f : Str) (o m : EM) : SM := fun rho S => (m rho S).bind fun y => (o rho y.2).bind fun x => match x.1 with
  | .cell k => match x.2[k]? with
    | some (.ins n fs) => if n ∈ ns ∧ fs.length < 1000 then .ok (.nx, rho, x.2.set k (.ins n (putS f y.1 fs))) else .stuck
    | _ => .stuck
  | _ => .stuck
theorem psd_fld {pos' : Pos} (T : FldsOk X.K f ns) (ho : PD X W o mo) (hm : PD X W e m) (hs : swapsWith e (some (.Attribute o f pos')) pos.line X.env = pure false := by rfl) : PSD X W (.Assign [.Attribute o f pos'] e pos) (sFldM ns f mo m) := by
  obtain ⟨t, p, s⟩ := hm.ex
  obtain ⟨to, po, so'⟩ := ho.ex
  refine ⟨_, ps_fld po p hs, fun ph S H sg rho Dn g so h => s ph S H sg rho _ g so (holds_imp (holds_bind h) (fun y hy => ?_) fun _ _ _ q => q)⟩
  intro ph1 v1 H1 x1 g1 d1
  refine so' ph1 y.2 H1 sg rho _ g1 (so.mono x1) (holds_imp (holds_bind hy) (fun x hx => ?_) fun e r s q => W.mono _ _ _ _ e r s x1 q)
  intro ph2 v2 H2 x2 g2 d2
  obtain ⟨x, S2⟩ := x
  dsimp only at *
  split at hx
  · rename_i k
    split at hx
    · rename_i n fs hk
      split at hx
      · rename_i hc
        obtain ⟨a, h3, rfl⟩ := d2
        obtain ⟨q, h4, dx, vs, h5, h6⟩ := g2.at hk
        rw [h3] at h4; cases h4
        have hl : vs.length < 1000 := by rw [h6.length]; exact hc.2
        refine ⟨a, _, dx, vs, rfl, h5, (T n hc.1).cls, (T n hc.1).no, hl, ?_⟩
        have e2 : DL.Ext ph2 H2 ph2 (upd H2 a (.ins (He.ga X.K n) dx (putF f v1 vs))) := Ext.write (List.mem_of_getElem? h3)
        exact hx ph2 sg _ (x1.trans (x2.trans e2)) (g2.write h3 ⟨dx, _, upd_same, denSF_put ((d1.mono x2).mono e2) (DenSF.mono e2 h6)⟩) (so.mono (x1.trans (x2.trans e2)))
      · exact hx.elim
    · exact hx.elim
  · exact hx.elim
end

/-! ### functions anywhere -/
structure FunAt (P : Program) (w : World) (K : PySem.W.Frag) (mg : Str → Option Value) (base : Heap) (k : Nat) (f : Addr) (m : FnM) : Prop where
  ex : ∃ fd ps, PySem.W.keepIn K (.ref f) = true ∧ PySem.W.isFn K (.ref f) = true ∧ Binds K fd ps [] ∧ FnD P w K mg base k f fd ps m
section
variable {X : Cx} {pins : List (Addr × Obj)} {s : Shared} {σ : L2.St} {H : Hp} {A : Around} {k : Nat} {f : Addr} {m : FnM}
theorem runD {us : List Value} {vs : List V} {Q : VK} (F : FunAt X.prog X.w X.K X.mg X.base k f m) (e0 : Env0 X.prog X.w X.K X.mg X.base A X.stack s H) (hr : Room k A) (hg : A.guards = some []) (I : Inv X pins σ H s) (r : Vals vs us) (h : spD X.K m vs H Q E0) :
    wpAny (model X.prog X.w) A (call (.ref f) us) (EP X pins σ Q) X.xe s := by
  obtain ⟨fd, ps, _, _, hb, FF⟩ := F.ex
  have hl : (us ++ []).length = ps.length := by rw [List.append_nil, ← r.length]; exact FF.len _ _ _ _ h
  have bt := hb s us I.kIn hl
  rw [List.append_nil] at bt
  refine wpAny_call (codeAny_mono (FF.run A X.stack s H ⟨us, []⟩ us vs Q E0 hg hr e0 bt r h) fun r s' hq => ?_)
  cases r with
  | error e => exact passL pins σ H s e s' I hq
  | ok fl =>
    cases fl with
    | ret u => exact I.after hq
    | next => exact False.elim hq
    | brk => exact False.elim hq
    | cont => exact False.elim hq
end
end DL

namespace DL
open PySem PySem.Spec PyProof.Rows L2

/-! ### methods -/
abbrev Tbl := List (Str × FnM)
structure MetD (P : Program) (w : World) (K : PySem.W.Frag) (mg : Str → Option Value) (base : Heap) (k : Nat) (nm n : Str) (m : FnM) : Prop where
  ex : ∃ f, Cls K (He.ga K n) ∧ Meth K (He.ga K n) nm f ∧ FunAt P w K mg base k f m
def MetsD (P : Program) (w : World) (K : PySem.W.Frag) (mg : Str → Option Value) (base : Heap) (k : Nat) (nm : Str) (tbl : Tbl) : Prop := ∀ p ∈ tbl, MetD P w K mg base k nm p.1 p.2
section
variable {P : Program} {w : World} {K : PySem.W.Frag} {mg : Str → Option Value} {base : Heap} {j k : Nat} {nm n : Str} {m : FnM} {tbl : Tbl}
theorem FnD.mono {f : Addr} {fd : FuncData} {ps : List Str} (F : FnD P w K mg base j f fd ps m) (h : j ≤ k) : FnD P w K mg base k f fd ps m :=
  ⟨F.len, fun A outer s H args us vs Q E hg hr => F.run A outer s H args us vs Q E hg (hr.mono h)⟩
theorem FunAt.mono {f : Addr} (F : FunAt P w K mg base j f m) (h : j ≤ k) : FunAt P w K mg base k f m := by
  obtain ⟨fd, ps, a, b, c, d⟩ := F.ex
  exact ⟨fd, ps, a, b, c, d.mono h⟩
theorem MetD.mono (h : MetD P w K mg base j nm n m) (hk : j ≤ k) : MetD P w K mg base k nm n m := by
  obtain ⟨f, a, b, c⟩ := h.ex
  exact ⟨f, a, b, c.mono hk⟩
theorem mets_nil : MetsD P w K mg base k nm [] := fun _ h => nomatch h
theorem mets_cons (h : MetD P w K mg base k nm n m) (t : MetsD P w K mg base k nm tbl) : MetsD P w K mg base k nm ((n, m) :: tbl) := fun p hp => (List.mem_cons.mp hp).elim (fun e => e ▸ h) (t p)
theorem tbl_mem {n : Str} {m : FnM} : ∀ {tbl : Tbl}, tbl.lookup n = some m → (n, m) ∈ tbl
  | [], h => by simp at h
  | (a, x) :: r, h => by
    rw [List.lookup_cons] at h
    cases q : n == a with
    | true =>
      rw [q] at h
      cases h
      have e : n = a := by simpa using q
      subst e
      exact List.mem_cons_self
    | false => rw [q] at h; exact List.mem_cons_of_mem _ (tbl_mem h)
end
def metOf (tbl : Tbl) (nm : Str) (S : Store) (x : SV) : Option FnM := match insOf S x with
  | some (n, fs) => if (fs.lookup nm).isNone then tbl.lookup n else none
  | none => none
def eMeth (cc : Bool) (tbl : Tbl) (nm : Str) (o : EM) (m : AM) : EM := fun rho S => (o rho S).bind fun x => match metOf tbl nm x.2 x.1 with
  | some f => (m rho x.2).bind fun y => (noX (f (x.1 :: y.1) y.2)).bind (back cc)
  | none => .stuck
section
variable {X : Cx} {W : XW X.K} {o e : Expr} {es : List Expr} {mo : EM} {m : AM} {pos apos : Pos} {nm : Str} {tbl : Tbl} {k : Nat}
abbrev tMethD (K : PySem.W.Frag) (tbl : Tbl) (nm : Str) (ta : TE) (t : TA) : TE := fun sg H Q => ta sg H fun x H1 => ∃ a dx fs n f, x = .ref a ∧ H1 a = some (.ins (He.ga K n) dx fs) ∧ fs.lookup nm = none ∧ tbl.lookup n = some f ∧ t sg H1 fun vs H2 => spD K f (.ref a :: vs) H2 Q E0
theorem pe_methD {pl : Sem Bool} {ta : TE} {t : TA} (T : MetsD X.prog X.w X.K X.mg X.base k nm tbl) (hr : Room k X.A) (hgd : X.A.guards = some []) (he : PE X o ta) (ha : PA X (e :: es) t)
    (hst : starEach (e :: es) X.env = (false, eval e X.env) :: starEach es X.env) (hpl : (backTo pos (starEach es X.env)).any (·.1) = false)
    (ht : eval (.Call (.Attribute o nm apos) (e :: es) [] pos) X.env = (do
      let recv ← eval o X.env
      standAt apos.atName
      let (g, first) ← holding [recv] (getMethod recv nm pl)
      callWith pos g first (backTo pos (starEach (e :: es) X.env)) (backToKw pos (keywordEach [] X.env)))) :
    PE X (.Call (.Attribute o nm apos) (e :: es) [] pos) (tMethD X.K tbl nm ta t) := by
  refine ⟨fun pins s σ H Q I h => ?_⟩
  refine PySem.W.methodCall_KW (pl := pl) (thn (he.run pins s σ H _ I h) fun u s1 ⟨x, H1, I1, rx, a, dx, fs, n, f, ex, ea, l, hf, q⟩ => ?_) ht
  subst ex
  obtain rfl : u = Value.ref a := rx
  obtain ⟨g, c, hm, F⟩ := (T _ (tbl_mem hf)).ex
  refine getmeth_ok I1 ea c hm l ?_
  refine PySem.W.callWith_K (first := [Value.ref a]) (h₀ := X.base) I.ok.mod.kin hm.kp (thn (ha.run pos pins s1 σ H1 _ I1 q) fun us s2 ⟨vs, H2, I2, r, q2⟩ => ⟨I2.kIn, ?_⟩) hst hpl
  exact runD (us := .ref a :: us) (vs := .ref a :: vs) F I2.env0 hr hgd I2 (.cons rfl r) q2
theorem pe_methD0 {pl : Sem Bool} {ta : TE} (T : MetsD X.prog X.w X.K X.mg X.base k nm tbl) (hr : Room k X.A) (hgd : X.A.guards = some []) (he : PE X o ta)
    (ht : eval (.Call (.Attribute o nm apos) [] [] pos) X.env = (do
      let recv ← eval o X.env
      standAt apos.atName
      let (g, first) ← holding [recv] (getMethod recv nm pl)
      callWith pos g first (backTo pos (starEach [] X.env)) (backToKw pos (keywordEach [] X.env)))) :
    PE X (.Call (.Attribute o nm apos) [] [] pos) (tMethD X.K tbl nm ta tNil) := by
  refine ⟨fun pins s σ H Q I h => ?_⟩
  refine PySem.W.methodCall_KW (pl := pl) (thn (he.run pins s σ H _ I h) fun u s1 ⟨x, H1, I1, rx, a, dx, fs, n, f, ex, ea, l, hf, q⟩ => ?_) ht
  subst ex
  obtain rfl : u = Value.ref a := rx
  obtain ⟨g, c, hm, F⟩ := (T _ (tbl_mem hf)).ex
  refine getmeth_ok I1 ea c hm l ?_
  exact PySem.W.callWith_K0 (first := [Value.ref a]) I1.kIn hm.kp (runD (us := [.ref a]) (vs := [.ref a]) F I1.env0 hr hgd I1 (.cons rfl .nil) q)
theorem metOf_ok {K : PySem.W.Frag} {ph : List Addr} {H : Hp} {S : Store} {v : V} {x : SV} {f : FnM} (g : Good K ph H S) (d : DenS K ph H v x) (h : metOf tbl nm S x = some f) :
    ∃ a dx fs n, v = .ref a ∧ H a = some (.ins (He.ga K n) dx fs) ∧ fs.lookup nm = none ∧ tbl.lookup n = some f := by
  unfold metOf at h
  split at h
  · rename_i n fs hi
    obtain ⟨a, dx, vs, rfl, h1, h2⟩ := insOf_ok g d hi
    split at h
    · rename_i hn
      exact ⟨a, dx, vs, n, rfl, h1, denSF_none h2 (by simpa using hn), h⟩
    · cases h
  · cases h
theorem pd_meth {pl : Sem Bool} (cc : Bool) (T : MetsD X.prog X.w X.K X.mg X.base k nm tbl) (hr : Room k X.A) (hgd : X.A.guards = some []) (ho : PD X W o mo) (ha : PDA X W (e :: es) m)
    (hst : starEach (e :: es) X.env = (false, eval e X.env) :: starEach es X.env := by rfl) (hpl : (backTo pos (starEach es X.env)).any (·.1) = false := by rfl)
    (ht : eval (.Call (.Attribute o nm apos) (e :: es) [] pos) X.env = (do
      let recv ← eval o X.env
      standAt apos.atName
      let (g, first) ← holding [recv] (getMethod recv nm pl)
      callWith pos g first (backTo pos (starEach (e :: es) X.env)) (backToKw pos (keywordEach [] X.env))) := by rfl) :
    PD X W (.Call (.Attribute o nm apos) (e :: es) [] pos) (eMeth cc tbl nm mo m) := by
  obtain ⟨to, po, so'⟩ := ho.ex
  obtain ⟨t, pt, st⟩ := ha.ex
  refine ⟨_, pe_methD T hr hgd po pt hst hpl ht, fun ph S H sg rho Q gd so h => so' ph S H sg rho _ gd so (holds_imp (holds_bind h) (fun x hx => ?_) fun _ _ _ q => q)⟩
  intro ph1 v1 H1 x1 g1 d1
  split at hx
  · rename_i f hf
    obtain ⟨a, dx, fs, n, rfl, h1, h2, h3⟩ := metOf_ok g1 d1 hf
    refine ⟨a, dx, fs, n, f, rfl, h1, h2, h3, st ph1 x.2 H1 sg rho _ g1 (so.mono x1) (holds_imp (holds_bind hx) (fun y hy => ?_) fun e r s q => W.mono _ _ _ _ e r s x1 q)⟩
    intro ph2 vs H2 x2 g2 d2
    exact ⟨ph2, y.2, x.1 :: y.1, g2, .cons (d1.mono x2) d2, noX_ok (holds_imp (holds_bind hy) (fun r hr => back_ok (x1.trans x2) hr) fun _ _ _ q => q)⟩
  · exact hx.elim
def eMeth0 (cc : Bool) (tbl : Tbl) (nm : Str) (o : EM) : EM := fun rho S => (o rho S).bind fun x => match metOf tbl nm x.2 x.1 with
  | some f => (noX (f [x.1] x.2)).bind (back cc)
  | none => .stuck
theorem pd_meth0 {pl : Sem Bool} (cc : Bool) (T : MetsD X.prog X.w X.K X.mg X.base k nm tbl) (hr : Room k X.A) (hgd : X.A.guards = some []) (ho : PD X W o mo)
    (ht : eval (.Call (.Attribute o nm apos) [] [] pos) X.env = (do
      let recv ← eval o X.env
      standAt apos.atName
      let (g, first) ← holding [recv] (getMethod recv nm pl)
      callWith pos g first (backTo pos (starEach [] X.env)) (backToKw pos (keywordEach [] X.env))) := by rfl) :
    PD X W (.Call (.Attribute o nm apos) [] [] pos) (eMeth0 cc tbl nm mo) := by
  obtain ⟨to, po, so'⟩ := ho.ex
  refine ⟨_, pe_methD0 T hr hgd po ht, fun ph S H sg rho Q gd so h => so' ph S H sg rho _ gd so (holds_imp (holds_bind h) (fun x hx => ?_) fun _ _ _ q => q)⟩
  intro ph1 v1 H1 x1 g1 d1
  split at hx
  · rename_i f hf
    obtain ⟨a, dx, fs, n, rfl, h1, h2, h3⟩ := metOf_ok g1 d1 hf
    exact ⟨a, dx, fs, n, f, rfl, h1, h2, h3, ph1, x.2, [x.1], g1, .cons d1 .nil, noX_ok (holds_imp (holds_bind hx) (fun r hr => back_ok x1 hr) fun _ _ _ q => q)⟩
  · exact hx.elim
end

/-! ### making -/
def allFrF : List (Str × SV) → Option (List (Str × D))
  | [] => some []
  | (n, .fr d) :: r => (allFrF r).map ((n, d) :: ·)
  | (_, .cell _) :: _ => none
theorem denF_of {K : PySem.W.Frag} {ph : List Addr} {H : Hp} : ∀ {fs : List (Str × SV)} {vs : List (Str × V)} {ds : List (Str × D)}, DenSF K ph H vs fs → allFrF fs = some ds → DenF K (hide ph H) vs ds
  | [], _, ds, .nil, e => by simp [allFrF] at e; subst e; exact .nil
  | (n, .fr d) :: r, (a, v) :: vs, ds, .cons h t, e => by
    obtain ⟨e1, h2⟩ := h
    dsimp only at e1 h2
    subst e1
    simp only [allFrF, Option.map_eq_some_iff] at e
    obtain ⟨es, h3, rfl⟩ := e
    exact .cons h2 (denF_of t h3)
  | (_, .cell _) :: _, _, _, _, e => by simp [allFrF] at e
/-- behind __init__: the instance is the last cell -/
def mkEnd (c : Bool) (k : Nat) (r : RV × Store) : Res (SV × Store) := match r.1 with
  | .val (.fr .non) => match r.2[k]? with
    | some (.ins n fs) => if c then .ok (.cell k, r.2) else if (r.2.take k).all (Cell.below k) then match allFrF fs with
      | some ds => .ok (.fr (.ins n ds), r.2.take k)
      | none => .stuck else .stuck
    | _ => .stuck
  | _ => .stuck
def eMake (c : Bool) (n : Str) (f : FnM) (m : AM) : EM := fun rho S => (m rho S).bind fun y => (noX (f (.cell y.2.length :: y.1) (y.2 ++ [.ins n []]))).bind (mkEnd c y.2.length)
structure MakD (P : Program) (w : World) (K : PySem.W.Frag) (mg : Str → Option Value) (base : Heap) (k : Nat) (n : Str) (m : FnM) : Prop where
  ex : ∃ f, mg n = some (.ref (He.ga K n)) ∧ Mk K (He.ga K n) f ∧ FunAt P w K mg base k f m
section
variable {X : Cx} {W : XW X.K} {e : Expr} {es : List Expr} {m : AM} {pos p : Pos} {n : Str} {k : Nat} {f : FnM}
theorem guards_make {A : Around} (h : A.guards = some []) (C : Addr) (us : List Value) : (A.under (.builtin "type.__call__" ⟨.ref C :: us, []⟩)).guards = some [] := by
  unfold Around.under
  dsimp only
  rw [h]
  have e : ∀ a : Args, Code.guards (.builtin "type.__call__" a) = [] := fun a => by
    unfold Code.guards
    rw [if_neg (by simp [Code.isGuard, guardIds])]
  rw [e]
  rfl
theorem pe_makeD {t : TA} (M : MakD X.prog X.w X.K X.mg X.base k n f) (hr : Room (k + 1) X.A) (hgd : X.A.guards = some []) (hg : Gl X n) (ha : PA X (e :: es) t)
    (hdb : (n == ("__debug__" : Str)) = false) (he : starEach (e :: es) X.env = (false, eval e X.env) :: starEach es X.env) (hpl : (backTo pos (starEach es X.env)).any (·.1) = false) :
    PE X (.Call (.Name n p) (e :: es) [] pos) (fun sg H Q => t sg H fun vs H1 => ∀ x dx, H1 x = none → H1 dx = none → dx ≠ x →
      spD X.K f (.ref x :: vs) (upd (upd H1 dx (.own x)) x (.ins (He.ga X.K n) dx [])) (fun v H2 => v = .non ∧ Q (.ref x) H2) E0) := by
  obtain ⟨g, hm, Mk, F⟩ := M.ex
  refine ⟨fun pins s σ H Q I h => wpAny_Call_Name_kw (ld_glob I hg hm ?_ hdb)⟩
  refine PySem.W.callWith_K (h₀ := X.base) I.ok.mod.kin Mk.kp (thn (ha.run pos pins s σ H _ I h) fun us s1 ⟨vs, H1, I1, r, q⟩ => ⟨I1.kIn, ?_⟩) he hpl
  have hq := q (s1.heap.objs.size + 1) s1.heap.objs.size (I1.hok.fresh (Nat.le_succ _)) (I1.hok.fresh (Nat.le_refl _)) (Nat.ne_of_lt (Nat.lt_succ_self _))
  have I2 := Inv.made (C := He.ga X.K n) I1
  obtain ⟨fd, ps, _, _, hb, FF⟩ := F.ex
  have r2 : Vals (V.ref (s1.heap.objs.size + 1) :: vs) (Value.ref (s1.heap.objs.size + 1) :: us) := .cons rfl r
  have hl : (Value.ref (s1.heap.objs.size + 1) :: us ++ []).length = ps.length := by
    rw [List.append_nil, ← r2.length]
    exact FF.len _ _ _ _ hq
  have bt := hb _ (Value.ref (s1.heap.objs.size + 1) :: us) I2.kIn hl
  rw [List.append_nil] at bt
  refine wpAny_call (make_map (f := g) I1.kIn Mk.makes Mk.init (beq_iff_eq.mp Mk.fn) (codeAny_mono (FF.run _ X.stack _ _ ⟨Value.ref (s1.heap.objs.size + 1) :: us, []⟩ (Value.ref (s1.heap.objs.size + 1) :: us) _ _ E0 (guards_make hgd _ us) (hr.make _ us [])
    (I2.env0.make _ us []) bt r2 hq) fun r s' hq' => ?_))
  cases r with
  | error e => exact passL pins σ _ _ e s' I2 hq'
  | ok fl =>
    cases fl with
    | ret u =>
      obtain ⟨v, H', I3, rv, ev, q3⟩ := I2.after hq'
      subst ev
      exact ⟨rv, ⟨V.ref (s1.heap.objs.size + 1), H', I3, rfl, q3⟩⟩
    | next => exact False.elim hq'
    | brk => exact False.elim hq'
    | cont => exact False.elim hq'
theorem pd_make (c : Bool) (M : MakD X.prog X.w X.K X.mg X.base k n f) (hr : Room (k + 1) X.A) (hgd : X.A.guards = some []) (ha : PDA X W (e :: es) m) (hg : Gl X n := by rfl)
    (hdb : (n == ("__debug__" : Str)) = false := by decide) (he : starEach (e :: es) X.env = (false, eval e X.env) :: starEach es X.env := by rfl) (hpl : (backTo pos (starEach es X.env)).any (·.1) = false := by rfl) :
    PD X W (.Call (.Name n p) (e :: es) [] pos) (eMake c n f m) := by
  obtain ⟨t, pt, st⟩ := ha.ex
  refine ⟨_, pe_makeD M hr hgd hg pt hdb he hpl, fun ph S H sg rho Q gd so h => st ph S H sg rho _ gd so (holds_imp (holds_bind h) (fun y hy => ?_) fun _ _ _ q => q)⟩
  intro ph1 vs H1 x1 g1 d1 x dx hx hdx hne
  obtain ⟨xs, S1⟩ := y
  dsimp only at *
  have xa : DL.Ext ph1 H1 ph1 (upd H1 dx (.own x)) := Ext.fresh hdx
  have ga := g1.fresh (o := .own x) hdx
  have hx2 : upd H1 dx (.own x) x = none := by rw [upd_ne (fun e => hne e.symm)]; exact hx
  have xb : DL.Ext ph1 (upd H1 dx (.own x)) (ph1 ++ [x]) (upd (upd H1 dx (.own x)) x (.ins (He.ga X.K n) dx [])) := Ext.cell hx2
  have gb : Good X.K (ph1 ++ [x]) (upd (upd H1 dx (.own x)) x (.ins (He.ga X.K n) dx [])) (S1 ++ [.ins n []]) := ga.cell hx2 ⟨dx, [], upd_same, .nil⟩
  refine ⟨ph1 ++ [x], S1 ++ [.ins n []], .cell S1.length :: xs, gb, .cons ⟨x, by rw [← g1.len]; simp, rfl⟩ (DenSs.mono xb (DenSs.mono xa d1)), noX_ok (holds_imp (holds_bind hy) (fun r hr2 => ?_) fun _ _ _ q => q)⟩
  intro v H3 x3 g3 d3
  have x13 : DL.Ext ph1 H1 (ph1 ++ [x]) H3 := xa.trans (xb.trans x3)
  obtain ⟨rv, S3⟩ := r
  unfold mkEnd at hr2
  dsimp only at hr2 g3 d3
  split at hr2
  · refine ⟨d_non (show DenS X.K (ph1 ++ [x]) H3 v (.fr .non) from d3), ?_⟩
    split at hr2
    · rename_i m' fs hk
      have hxk : (ph1 ++ [x])[S1.length]? = some x := by rw [← g1.len]; simp
      obtain ⟨q, hq1, dx', vs', h4, h5⟩ := g3.at hk
      rw [hxk] at hq1; cases hq1
      cases c with
      | true => exact hr2 (ph1 ++ [x]) (.ref x) H3 (x1.trans x13) g3 ⟨x, hxk, rfl⟩
      | false =>
        simp only [Bool.false_eq_true, if_false] at hr2
        split at hr2
        · rename_i hb
          split at hr2
          · rename_i ds hds
            refine hr2 ph1 (.ref x) H3 (x1.trans x13.back) (g1.cut x13 g3 hb) (.ins (hide_of (g1.new hx) h4) ?_)
            have dd := denF_of h5 hds
            exact DenF.mono (sub_hide fun a m => List.mem_append_left _ m) dd
          · exact hr2.elim
        · exact hr2.elim
    · exact hr2.elim
  · exact hr2.elim
end
end DL

namespace DL
open PySem PySem.Spec PyProof.Rows L2

/-! ### list(), tuple(), sum, any, all, bool -/
section
variable {X : Cx} {W : XW X.K} {pos : Pos}
def listG (c : Bool) : GA := fun as S => match as with
  | [a] => match rdS S a with
    | some xs => newL0 c xs S
    | none => match a with
      | .fr (.tup ds) => newL0 c (ds.map SV.fr) S
      | _ => .stuck
  | _ => .stuck
theorem list_ok (c : Bool) : OpA X W (fun xs H Q => ∃ p ys, xs = [V.ref p] ∧ (SqL X.K H p ys ∨ SqT X.K H p ys) ∧ ∀ l, H l = none → Q (.ref l) (upd H l (.lst ys))) (listG c) := by
  intro ph S H xs as Q g d h
  unfold listG at h
  split at h
  · rename_i a
    obtain ⟨v, rfl, dv⟩ := one_of d
    split at h
    · rename_i ys hy
      obtain ⟨p, vs, rfl, s, r⟩ := rdS_ok g dv hy
      exact ⟨p, vs, rfl, .inl s, newL0_ok g r h⟩
    · split at h
      · obtain ⟨p, vs, rfl, s, r⟩ := d_tup dv
        exact ⟨p, vs, rfl, .inr (hide_sub.sqT s), newL0_ok g (of_dens r) h⟩
      · exact h.elim
  · exact h.elim
def tupleG : GA := fun as S => match as with
  | [a] => match rdS S a with
    | some xs => match allFr xs with
      | some ds => .ok (.fr (.tup ds), S)
      | none => .stuck
    | none => match a with
      | .fr (.tup ds) => .ok (.fr (.tup ds), S)
      | _ => .stuck
  | _ => .stuck
theorem tuple_ok : OpA X W (fun xs H Q => ∃ p ys, xs = [V.ref p] ∧ ((SqL X.K H p ys ∧ ∀ l, H l = none → Q (.ref l) (upd H l (.tup ys))) ∨ (SqT X.K H p ys ∧ Q (.ref p) H))) tupleG := by
  intro ph S H xs as Q g d h
  unfold tupleG at h
  split at h
  · rename_i a
    obtain ⟨v, rfl, dv⟩ := one_of d
    split at h
    · rename_i ys hy
      obtain ⟨p, vs, rfl, s, r⟩ := rdS_ok g dv hy
      split at h
      · rename_i ds hds
        refine ⟨p, vs, rfl, .inl ⟨s, fun l hl => ?_⟩⟩
        have e : DL.Ext ph H ph (upd H l (.tup vs)) := Ext.fresh hl
        refine h ph (.ref l) _ e (g.fresh hl) (.tup (.inl (.inl (hide_of (g.new hl) upd_same))) ?_)
        rw [allFr_eq hds] at r
        exact (dens_of r).mono e.sub
      · exact h.elim
    · split at h
      · obtain ⟨p, vs, rfl, s, r⟩ := d_tup dv
        exact ⟨p, vs, rfl, .inr ⟨hide_sub.sqT s, fin_v g (.tup s r) h⟩⟩
      · exact h.elim
  · exact h.elim
def intsOf : List SV → Option (List Int)
  | [] => some []
  | .fr (.int i) :: r => (intsOf r).map (i :: ·)
  | _ => none
def blsOf : List SV → Option (List Bool)
  | [] => some []
  | .fr (.bl i) :: r => (blsOf r).map (i :: ·)
  | _ => none
theorem intsOf_ok {K : PySem.W.Frag} {ph : List Addr} {H : Hp} : ∀ {xs : List SV} {vs : List V} {ns : List Int}, DenSs K ph H vs xs → intsOf xs = some ns → vs = ns.map V.int
  | [], _, ns, .nil, e => by simp [intsOf] at e; subst e; rfl
  | .fr (.int i) :: r, v :: vs, ns, .cons d t, e => by
    simp only [intsOf, Option.map_eq_some_iff] at e
    obtain ⟨ms, h1, rfl⟩ := e
    rw [d_int d, intsOf_ok t h1]; rfl
theorem blsOf_ok {K : PySem.W.Frag} {ph : List Addr} {H : Hp} : ∀ {xs : List SV} {vs : List V} {ns : List Bool}, DenSs K ph H vs xs → blsOf xs = some ns → vs = ns.map V.bl
  | [], _, ns, .nil, e => by simp [blsOf] at e; subst e; rfl
  | .fr (.bl i) :: r, v :: vs, ns, .cons d t, e => by
    simp only [blsOf, Option.map_eq_some_iff] at e
    obtain ⟨ms, h1, rfl⟩ := e
    rw [d_bl d, blsOf_ok t h1]; rfl
def sumG : GA := fun as S => match as with
  | [a] => match (rdS S a).bind intsOf with
    | some ns => okV (.int ns.sum) S
    | none => .stuck
  | _ => .stuck
theorem sum_ok : OpA X W (rSum X.K) sumG := by
  intro ph S H xs as Q g d h
  unfold sumG at h
  split at h
  · obtain ⟨v, rfl, dv⟩ := one_of d
    split at h
    · rename_i ns hn
      obtain ⟨ys, hy, hn⟩ := Option.bind_eq_some_iff.mp hn
      obtain ⟨p, vs, rfl, s, r⟩ := rdS_ok g dv hy
      rw [intsOf_ok r hn] at s
      exact ⟨p, ns, rfl, s, fin_v g (.int _) h⟩
    · exact h.elim
  · exact h.elim
def anyG : GA := fun as S => match as with
  | [a] => match (rdS S a).bind blsOf with
    | some ns => okV (.bl (ns.any id)) S
    | none => .stuck
  | _ => .stuck
theorem any_ok : OpA X W (rAny X.K) anyG := by
  intro ph S H xs as Q g d h
  unfold anyG at h
  split at h
  · obtain ⟨v, rfl, dv⟩ := one_of d
    split at h
    · rename_i ns hn
      obtain ⟨ys, hy, hn⟩ := Option.bind_eq_some_iff.mp hn
      obtain ⟨p, vs, rfl, s, r⟩ := rdS_ok g dv hy
      rw [blsOf_ok r hn] at s
      exact ⟨p, ns, rfl, s, fin_v g (.bl _) h⟩
    · exact h.elim
  · exact h.elim
def allG : GA := fun as S => match as with
  | [a] => match (rdS S a).bind blsOf with
    | some ns => okV (.bl (ns.all id)) S
    | none => .stuck
  | _ => .stuck
theorem all_ok : OpA X W (rAll X.K) allG := by
  intro ph S H xs as Q g d h
  unfold allG at h
  split at h
  · obtain ⟨v, rfl, dv⟩ := one_of d
    split at h
    · rename_i ns hn
      obtain ⟨ys, hy, hn⟩ := Option.bind_eq_some_iff.mp hn
      obtain ⟨p, vs, rfl, s, r⟩ := rdS_ok g dv hy
      rw [blsOf_ok r hn] at s
      exact ⟨p, ns, rfl, s, fin_v g (.bl _) h⟩
    · exact h.elim
  · exact h.elim

/-! ### isinstance of built-in kinds -/
def tyN (S : Store) : SV → Option String
  | .fr .non => some "NoneType"
  | .fr (.bl _) => some "bool"
  | .fr (.int _) => some "int"
  | .fr (.str _) => some "str"
  | .fr (.tup _) => some "tuple"
  | .fr (.lst _) => some "list"
  | .fr (.scr _) => some "list"
  | .fr (.dct _) => some "dict"
  | .cell k => match S[k]? with
    | some (.lst _) => some "list"
    | some (.dic _) => some "dict"
    | some (.dit _) => some "dict"
    | _ => none
  | _ => none
/-- is the one the other's kind -/
def kin (a b : String) : Option Bool := if a ∈ ["NoneType", "bool", "int", "str", "tuple", "list", "dict"] ∧ b ∈ ["bool", "int", "str", "tuple", "list", "dict"] then some (a == b || (a == "bool" && b == "int")) else none
theorem kin_ok {a b : String} {r : Bool} (h : kin a b = some r) : kitB a b = some r := by
  unfold kin at h
  split at h
  · rename_i hm
    cases h
    obtain ⟨h1, h2⟩ := hm
    have key : ∀ x ∈ ["NoneType", "bool", "int", "str", "tuple", "list", "dict"], ∀ y ∈ ["bool", "int", "str", "tuple", "list", "dict"], kitB x y = some (x == y || (x == "bool" && y == "int")) := by decide +kernel
    exact key a h1 b h2
  · cases h
theorem sqL_ty {K : PySem.W.Frag} {H : Hp} {a : Addr} {xs : List V} (h : SqL K H a xs) : TyX K H (.ref a) (.type "list") := by
  rcases h with (h | ⟨o, h⟩) | ⟨o, its, n, hk, hc, _⟩
  · exact .base (.lst h)
  · exact .base (.frz h)
  · exact .kList hk hc
theorem sqT_ty {K : PySem.W.Frag} {H : Hp} {a : Addr} {xs : List V} (h : SqT K H a xs) : TyX K H (.ref a) (.type "tuple") := by
  rcases h with (h | ⟨o, h⟩) | ⟨o, its, n, hk, hc, _⟩
  · exact .base (.tup h)
  · exact .fTuple h
  · exact .kTuple hk hc
theorem tyN_ok {K : PySem.W.Frag} {ph : List Addr} {S : Store} {H : Hp} {v : V} {x : SV} {t : String} (g : Good K ph H S) (d : DenS K ph H v x) (h : tyN S x = some t) : TyX K H v (.type t) := by
  unfold tyN at h
  split at h
  · cases h; rw [d_non d]; exact .base .non
  · cases h; rw [d_bl d]; exact .base (.bl _)
  · cases h; rw [d_int d]; exact .base (.int _)
  · cases h; rw [d_str d]; exact .base (.str _)
  · cases h
    obtain ⟨p, vs, rfl, s, r⟩ := d_tup d
    exact sqT_ty (hide_sub.sqT s)
  · cases h
    obtain ⟨p, vs, rfl, s, r⟩ := rdS_ok g d rfl
    exact sqL_ty s
  · cases h
    obtain ⟨p, vs, rfl, s, r⟩ := rdS_ok g d rfl
    exact sqL_ty s
  · cases h
    cases (show Den K (hide ph H) v _ from d) with
    | dct e r => exact .base (.dK (hide_some e).2)
  · split at h
    · rename_i k xs hk
      cases h
      obtain ⟨p, vs, rfl, s, r⟩ := rdS_ok (xs := xs) g d (by simp [rdS, rdL, hk])
      exact sqL_ty s
    · rename_i k kvs hk
      cases h
      obtain ⟨p, hp, rfl⟩ := d
      obtain ⟨vs, h4, h5⟩ := paired_at g.cells hp hk
      exact .base (.dK h4)
    · rename_i k kvs hk
      cases h
      obtain ⟨p, hp, rfl⟩ := d
      obtain ⟨vs, h4, h5⟩ := paired_at g.cells hp hk
      exact .base (.dT h4)
    · cases h
  · cases h
def isiG : GA := fun as S => match as with
  | [x, .fr (.ty b)] => match (tyN S x).bind fun a => kin a b with
    | some r => okV (.bl r) S
    | none => .stuck
  | _ => .stuck
theorem isi_ok : OpA X W (rIsi X.K) isiG := by
  intro ph S H xs as Q g d h
  unfold isiG at h
  split at h
  · rename_i x b
    obtain ⟨v, u, rfl, dv, du⟩ := two_of d
    split at h
    · rename_i r hr
      obtain ⟨a, ha, hk⟩ := Option.bind_eq_some_iff.mp hr
      have e : u = .ty b := by cases (show Den X.K (hide ph H) u (.ty b) from du); rfl
      subst e
      exact ⟨v, .ty b, .type a, .type b, r, rfl, .ty b, tyN_ok g dv ha, kit_ty (kin_ok hk), fin_v g (.bl _) h⟩
    · exact h.elim
  · exact h.elim
/-- the name of a built-in type -/
theorem pd_ty {x : Str} {T : String} (hm : X.mg x = none) (hv : bootBuiltins x = some (.type T)) (hg : Gl X x := by rfl) (hn : x ≠ "__name__" := by decide) (hdb : (x == ("__debug__" : Str)) = false := by decide) : PD X W (.Name x pos) (eC (.ty T)) :=
  pd_const ⟨fun pins s σ H Q I h => ld_blt I hg hm hv ⟨.ty T, H, I, rfl, h⟩ hn hdb⟩ fun _ => .ty _
end
end DL

namespace DL
open PySem PySem.Spec PyProof.Rows L2

/-! ### operators of own classes -/
structure OpD (P : Program) (w : World) (K : PySem.W.Frag) (mg : Str → Option Value) (base : Heap) (k : Nat) (nm n : Str) (m : FnM) : Prop where
  ex : ∃ f, PySem.W.findIn K (.ref (He.ga K n)) nm = some (some (.ref f)) ∧ PySem.W.selfFirst K (He.ga K n) = true ∧ FunAt P w K mg base k f m
def OpsD (P : Program) (w : World) (K : PySem.W.Frag) (mg : Str → Option Value) (base : Heap) (k : Nat) (nm : Str) (tbl : Tbl) : Prop := ∀ p ∈ tbl, OpD P w K mg base k nm p.1 p.2
section
variable {P : Program} {w : World} {K : PySem.W.Frag} {mg : Str → Option Value} {base : Heap} {j k : Nat} {nm n : Str} {m : FnM} {tbl : Tbl}
theorem OpD.mono (h : OpD P w K mg base j nm n m) (hk : j ≤ k) : OpD P w K mg base k nm n m := by
  obtain ⟨f, a, b, c⟩ := h.ex
  exact ⟨f, a, b, c.mono hk⟩
theorem ops_nil : OpsD P w K mg base k nm [] := fun _ h => nomatch h
theorem ops_cons (h : OpD P w K mg base k nm n m) (t : OpsD P w K mg base k nm tbl) : OpsD P w K mg base k nm ((n, m) :: tbl) := fun p hp => (List.mem_cons.mp hp).elim (fun e => e ▸ h) (t p)
end
section
variable {X : Cx} {W : XW X.K} {pins : List (Addr × Obj)} {s : Shared} {σ : L2.St} {H : Hp} {k : Nat} {tbl : Tbl} {a b : Expr} {ma mb : EM} {pos : Pos}
theorem ep_cmp {Q : VK} {v : Value} {s' : Shared} (h : EP X pins σ Q v s') : PySem.W.CmpBack (EP X pins σ Q) v s' := by
  obtain ⟨x, H', I, r, q⟩ := h
  cases v with
  | notImplemented =>
    cases x with
    | int i => obtain ⟨t, e⟩ := (show ∃ t, Value.notImplemented = Value.int i t from r); cases e
    | str i => obtain ⟨t, e⟩ := (show ∃ t, Value.notImplemented = Value.str i t from r); cases e
    | byt i => obtain ⟨t, e⟩ := (show ∃ t, Value.notImplemented = Value.bytes i t from r); cases e
    | flt i => obtain ⟨t, e⟩ := (show ∃ t, Value.notImplemented = Value.float i t from r); cases e
    | _ => cases r
  | _ => exact ⟨x, H', I, r, q⟩
/-- two instances of one class -/
def rOwn2 (K : PySem.W.Frag) (tbl : Tbl) : R2 := fun x y H Q => ∃ a b n dx vs dy us f, x = .ref a ∧ y = .ref b ∧ H a = some (.ins (He.ga K n) dx vs) ∧ H b = some (.ins (He.ga K n) dy us) ∧ tbl.lookup n = some f ∧ spD K f [.ref a, .ref b] H Q E0
theorem op_own {op : Operator} (T : OpsD X.prog X.w X.K X.mg X.base k (PySem.dunder op.info.2) tbl) (hr : Room k X.A) (hgd : X.A.guards = some []) : OpR X (binaryOp op) (rOwn2 X.K tbl) := by
  intro pins s σ H x y v u Q I rx ry h
  obtain ⟨a, b, n, dx, vs, dy, us, f, rfl, rfl, ha, hb, hf, q⟩ := h
  obtain rfl : v = Value.ref a := rx
  obtain rfl : u = Value.ref b := ry
  obtain ⟨g, hfi, hsf, F⟩ := (T _ (tbl_mem hf)).ex
  obtain ⟨mA, J, _⟩ := ins_get I.hok ha
  obtain ⟨mB, J', _⟩ := ins_get I.hok hb
  obtain ⟨od, J, _⟩ := J.look
  obtain ⟨od', J', _⟩ := J'.look
  obtain ⟨m, hF⟩ := I.fr
  obtain ⟨_, _, _, hfn, _⟩ := F.ex
  refine PySem.W.binop_K hF I.ok.mod.kin J J'.type hsf hfi hfn (wpAny_mono (runD (us := [.ref a, .ref b]) (vs := [.ref a, .ref b]) F I.env0 hr hgd I (.cons rfl (.cons rfl .nil)) q) (fun v' s' hq => ep_cmp hq) fun _ _ e => e)
def ownG (cc : Bool) (tbl : Tbl) : G2 := fun a b S => match insOf S a, insOf S b with
  | some (n, _), some (n', _) => if n = n' then (match tbl.lookup n with
    | some f => (noX (f [a, b] S)).bind (back cc)
    | none => .stuck) else .stuck
  | _, _ => .stuck
theorem own_ok (cc : Bool) : Op2 X W (rOwn2 X.K tbl) (ownG cc tbl) := by
  intro ph S H x y a b Q g da db h
  unfold ownG at h
  split at h
  · rename_i n fs n' fs' h1 h2
    obtain ⟨p, dx, vs, rfl, e1, _⟩ := insOf_ok g da h1
    obtain ⟨q, dy, us, rfl, e2, _⟩ := insOf_ok g db h2
    split at h
    · rename_i hn
      subst hn
      split at h
      · rename_i f hf
        exact ⟨p, q, n, dx, vs, dy, us, f, rfl, rfl, e1, e2, hf, ph, S, [a, b], g, .cons da (.cons db .nil), noX_ok (holds_imp (holds_bind h) (fun r hr => back_ok (Ext.refl _ _) hr) fun _ _ _ q => q)⟩
      · exact h.elim
    · exact h.elim
  · exact h.elim
/-- a way or the other, by what the first one says -/
def orG (g g' : G2) : G2 := fun a b S => match insOf S a with
  | some _ => g' a b S
  | none => g a b S
theorem or_ok {r r' : R2} {g g' : G2} (h : Op2 X W r g) (h' : Op2 X W r' g') : Op2 X W (fun x y H Q => r x y H Q ∨ r' x y H Q) (orG g g') := by
  intro ph S H x y a b Q gd da db hh
  unfold orG at hh
  split at hh
  · exact .inr (h' ph S H x y a b Q gd da db hh)
  · exact .inl (h ph S H x y a b Q gd da db hh)
theorem pd_own (cc : Bool) {op : Operator} (T : OpsD X.prog X.w X.K X.mg X.base k (PySem.dunder op.info.2) tbl) (hr : Room k X.A) (hgd : X.A.guards = some []) (ha : PD X W a ma) (hb : PD X W b mb) : PD X W (.BinOp a op b pos) (e2 (ownG cc tbl) ma mb) :=
  pd_2 (op_own T hr hgd) (own_ok cc) ha hb
/-! == -/
theorem op_ownEq (T : OpsD X.prog X.w X.K X.mg X.base k "__eq__" tbl) (hr : Room k X.A) (hgd : X.A.guards = some []) : OpR X (compareOp .Eq) (rOwn2 X.K tbl) := by
  intro pins s σ H x y v u Q I rx ry h
  obtain ⟨a, b, n, dx, vs, dy, us, f, rfl, rfl, ha, hb, hf, q⟩ := h
  obtain rfl : v = Value.ref a := rx
  obtain rfl : u = Value.ref b := ry
  obtain ⟨g, hfi, hsf, F⟩ := (T _ (tbl_mem hf)).ex
  obtain ⟨mA, J, _⟩ := ins_get I.hok ha
  obtain ⟨mB, J', _⟩ := ins_get I.hok hb
  obtain ⟨od, J, _⟩ := J.look
  obtain ⟨od', J', _⟩ := J'.look
  obtain ⟨m, hF⟩ := I.fr
  obtain ⟨_, _, _, hfn, _⟩ := F.ex
  show wpAny (model X.prog X.w) X.A (richCompare .Eq (.ref a) (.ref b)) (EP X pins σ Q) X.xe s
  refine PySem.W.cmp_K (op := .Eq) (tb := .ref (He.ga X.K n)) (by have := hr.un; omega) hF I.ok.mod.kin J J'.type (by simp [PySem.W.notFirst]) hfi hfn
    (wpAny_mono (runD (us := [.ref a, .ref b]) (vs := [.ref a, .ref b]) F I.env0 hr hgd I (.cons rfl (.cons rfl .nil)) q) (fun v' s' hq => ep_cmp hq) fun _ _ e => e)
theorem pd_ownEq (T : OpsD X.prog X.w X.K X.mg X.base k "__eq__" tbl) (hr : Room k X.A) (hgd : X.A.guards = some []) (hu : X.A.units + 64 < cLine) (ha : PD X W a ma) (hb : PD X W b mb) : PD X W (.Compare a [.Eq] [b] pos) (e2 (orG (eqG false) (ownG false tbl)) ma mb) :=
  pd_cmp (((op_eqD hu).or op_eq).or (op_ownEq T hr hgd)) (or_ok eq_ok (own_ok false)) ha hb
theorem pt_ownEq (T : OpsD X.prog X.w X.K X.mg X.base k "__eq__" tbl) (hr : Room k X.A) (hgd : X.A.guards = some []) (hu : X.A.units + 64 < cLine) (ha : PD X W a ma) (hb : PD X W b mb) : PDT X W (.Compare a [.Eq] [b] pos) (tB (e2 (orG (eqG false) (ownG false tbl)) ma mb)) :=
  pt_2 (((op_eqD hu).or op_eq).or (op_ownEq T hr hgd)) (or_ok eq_ok (own_ok false)) ha hb
/-! unary ~ -/
def rOwn1 (K : PySem.W.Frag) (tbl : Tbl) : V → Hp → VK → Prop := fun x H Q => ∃ a n dx vs f, x = .ref a ∧ H a = some (.ins (He.ga K n) dx vs) ∧ tbl.lookup n = some f ∧ spD K f [.ref a] H Q E0
theorem un_own (T : OpsD X.prog X.w X.K X.mg X.base k "__invert__" tbl) (hr : Room k X.A) (hgd : X.A.guards = some []) : UnR X (unaryOp .Invert) (rOwn1 X.K tbl) := by
  intro pins s σ H x v Q I rx h
  obtain ⟨a, n, dx, vs, f, rfl, ha, hf, q⟩ := h
  obtain rfl : v = Value.ref a := rx
  obtain ⟨g, hfi, hsf, F⟩ := (T _ (tbl_mem hf)).ex
  obtain ⟨mA, J, _⟩ := ins_get I.hok ha
  obtain ⟨od, J, _⟩ := J.look
  obtain ⟨m, hF⟩ := I.fr
  obtain ⟨_, _, _, hfn, _⟩ := F.ex
  exact PySem.W.ksp_inv hF I.ok.mod.kin J hfi hfn (runD (us := [.ref a]) (vs := [.ref a]) F I.env0 hr hgd I (.cons rfl .nil) q)
def own1G (cc : Bool) (tbl : Tbl) : G1 := fun a S => match insOf S a with
  | some (n, _) => (match tbl.lookup n with
    | some f => (noX (f [a] S)).bind (back cc)
    | none => .stuck)
  | _ => .stuck
theorem own1_ok (cc : Bool) : Op1 X W (rOwn1 X.K tbl) (own1G cc tbl) := by
  intro ph S H x a Q g da h
  unfold own1G at h
  split at h
  · rename_i n fs h1
    obtain ⟨p, dx, vs, rfl, e1, _⟩ := insOf_ok g da h1
    split at h
    · rename_i f hf
      exact ⟨p, n, dx, vs, f, rfl, e1, hf, ph, S, [a], g, .cons da .nil, noX_ok (holds_imp (holds_bind h) (fun r hr => back_ok (Ext.refl _ _) hr) fun _ _ _ q => q)⟩
    · exact h.elim
  · exact h.elim
theorem pd_inv (cc : Bool) (T : OpsD X.prog X.w X.K X.mg X.base k "__invert__" tbl) (hr : Room k X.A) (hgd : X.A.guards = some []) (ha : PD X W a ma) : PD X W (.UnaryOp .Invert a pos) (e1 (own1G cc tbl) ma) :=
  pd_1 (un_own T hr hgd) (own1_ok cc) ha
/-! in, not in -/
/-- what __contains__ gives is a truth value -/
def rOwnIn (K : PySem.W.Frag) (tbl : Tbl) (ng : Bool) : R2 := fun x y H Q => ∃ b n dx vs f, y = .ref b ∧ H b = some (.ins (He.ga K n) dx vs) ∧ tbl.lookup n = some f ∧ spD K f [.ref b, x] H (fun v H' => ∃ r, v = .bl r ∧ Q (.bl (if ng then !r else r)) H') E0
theorem truthy_bl {Q : VK} {v : Value} {s' : Shared} {E : Value → Shared → Prop} (ng : Bool) (h : EP X pins σ (fun v H' => ∃ r, v = .bl r ∧ Q (.bl (if ng then !r else r)) H') v s') :
    wpAny (model X.prog X.w) X.A (truthy v) (fun b => EP X pins σ Q (.bool (if ng then !b else b))) E s' := by
  obtain ⟨x, H', I, rx, r, rfl, q⟩ := h
  obtain rfl : v = Value.bool r := rx
  exact wpAny_truthy_bool ⟨.bl (if ng then !r else r), H', I, rfl, q⟩
theorem op_ownIn (T : OpsD X.prog X.w X.K X.mg X.base k "__contains__" tbl) (hr : Room k X.A) (hgd : X.A.guards = some []) : OpR X (compareOp .In) (rOwnIn X.K tbl false) := by
  intro pins s σ H x y v u Q I rx ry h
  obtain ⟨b, n, dx, vs, f, rfl, ha, hf, q⟩ := h
  obtain rfl : u = Value.ref b := ry
  obtain ⟨g, hfi, hsf, F⟩ := (T _ (tbl_mem hf)).ex
  obtain ⟨mA, J, _⟩ := ins_get I.hok ha
  obtain ⟨od, J, _⟩ := J.look
  obtain ⟨m, hF⟩ := I.fr
  obtain ⟨_, _, _, hfn, _⟩ := F.ex
  exact PySem.W.in_K hF I.ok.mod.kin J hfi hfn (wpAny_mono (runD (us := [.ref b, v]) (vs := [.ref b, x]) F I.env0 hr hgd I (.cons rfl (.cons rx .nil)) q) (fun v' s' hq => truthy_bl false hq) fun _ _ e => e)
theorem op_ownNotIn (T : OpsD X.prog X.w X.K X.mg X.base k "__contains__" tbl) (hr : Room k X.A) (hgd : X.A.guards = some []) : OpR X (compareOp .NotIn) (rOwnIn X.K tbl true) := by
  intro pins s σ H x y v u Q I rx ry h
  obtain ⟨b, n, dx, vs, f, rfl, ha, hf, q⟩ := h
  obtain rfl : u = Value.ref b := ry
  obtain ⟨g, hfi, hsf, F⟩ := (T _ (tbl_mem hf)).ex
  obtain ⟨mA, J, _⟩ := ins_get I.hok ha
  obtain ⟨od, J, _⟩ := J.look
  obtain ⟨m, hF⟩ := I.fr
  obtain ⟨_, _, _, hfn, _⟩ := F.ex
  exact PySem.W.notIn_K hF I.ok.mod.kin J hfi hfn (wpAny_mono (runD (us := [.ref b, v]) (vs := [.ref b, x]) F I.env0 hr hgd I (.cons rfl (.cons rx .nil)) q) (fun v' s' hq => truthy_bl true hq) fun _ _ e => e)
/-- a call's answer, a truth value -/
def blEnd (ng : Bool) (r : RV × Store) : Res (SV × Store) := match r.1 with
  | .val (.fr (.bl b)) => okV (.bl (if ng then !b else b)) r.2
  | _ => .stuck
theorem blEnd_ok {ph : List Addr} {H : Hp} {Q : VK} {ng : Bool} {r : RV × Store} {E : Exc → Slots → Store → Prop} (h : holds (blEnd ng r) (post X.K ph H Q) E) : postF X.K ph H (fun v H' => ∃ r, v = .bl r ∧ Q (.bl (if ng then !r else r)) H') r := by
  intro v H2 x2 g2 d2
  obtain ⟨rv, S2⟩ := r
  unfold blEnd at h
  dsimp only at *
  split at h
  · rename_i b
    exact ⟨b, d_bl (show DenS X.K ph H2 v (.fr (.bl b)) from d2), h ph _ H2 x2 g2 (Den.bl _)⟩
  · exact h.elim
def ownInG (tbl : Tbl) (ng : Bool) : G2 := fun x b S => match insOf S b with
  | some (n, _) => (match tbl.lookup n with
    | some f => (noX (f [b, x] S)).bind (blEnd ng)
    | none => .stuck)
  | _ => .stuck
theorem ownIn_ok (ng : Bool) : Op2 X W (rOwnIn X.K tbl ng) (ownInG tbl ng) := by
  intro ph S H x y a b Q g da db h
  unfold ownInG at h
  split at h
  · rename_i n fs h1
    obtain ⟨p, dx, vs, rfl, e1, _⟩ := insOf_ok g db h1
    split at h
    · rename_i f hf
      exact ⟨p, n, dx, vs, f, rfl, e1, hf, ph, S, [b, a], g, .cons db (.cons da .nil), noX_ok (holds_imp (holds_bind h) (fun r hr => blEnd_ok hr) fun _ _ _ q => q)⟩
    · exact h.elim
  · exact h.elim
end
end DL

namespace DLB
open PySem
section
variable {prog : Program} {w : World} {A : Around} {E : Value → Shared → Prop} {s : Shared}
theorem boolNew {x : Value} {R : Result → Shared → Prop} (h : wpAny (model prog w) A.in1 (truthy x) (fun b s' => R (.ok (.ret (.bool b))) s') (fun e s' => R (.error e) s') s) :
    wpAny (model prog w) A.in1 (Builtin.«bool.__new__» ⟨[.type "bool", x], []⟩) (fun fin s' => match fin with | .done f => R (.ok f) s' | .again c' => c'.quiet = true ∧ codeAny (model prog w) A c' R s') (fun e s' => R (.error e) s') s := by
  have f1 := F.conv_sub_bool
  obtain ⟨hp, g, d, tk, os⟩ := s
  repeat (any_goals (first | assumption | (with_reducible refine wpAny_bind (wpAny_mono h (fun b s' hb => ?_) fun _ _ e => e)) | wp_step))
/-- bool(x), whatever truth is asked of x -/
theorem callBool {x : Value} {Q : Value → Shared → Prop} (h : wpAny (model prog w) A.in1.in1 (truthy x) (fun b s' => Q (.bool b) s') E s) : wpAny (model prog w) A (call (.type "bool") [x]) Q E s := by
  have tc := F.called_bool
  obtain ⟨m0, ms, em⟩ := tc.mro
  have mk := tc.made
  have sb := tc.sub
  have nt := tc.notType
  have cn := tc.canCreate
  have ct := F.typeCall_bool_1 x
  refine wpAny_call (codeAny_of_tree (show wpAny _ _ (callAny (.type "bool") _) _ _ _ from ?_))
  refine wpAny_pure ⟨Code.quiet_builtin _ (by decide +kernel), codeAny_builtin F.entry_type_call ?_⟩
  rw [Around.under_plain (weight_type_call_type "bool" [x] []) (units_type_call_type "bool" [x] [])]
  repeat (any_goals (first | assumption | wp_step))
  refine codeAny_mono (codeAny_call_builtin tc.plain F.entry_bool_new (wpAny_of_eq (F.newCall_bool_1 x) (boolNew (R := wants (fun v s' => (∃ b, v = .bool b) ∧ Q v s') E) (wpAny_mono h (fun b s' q => ⟨⟨b, rfl⟩, q⟩) fun _ _ e => e)))) fun r s1 hr => ?_
  cases r with
  | error e => exact hr
  | ok f0 =>
    cases f0 with
    | ret v =>
      obtain ⟨⟨b, rfl⟩, q⟩ := hr
      have il := tc.init.lookup
      have ib := tc.init.bind (.bool b)
      have ty : s1.TypeIs (.bool b) "bool" := rfl
      repeat (any_goals (first | assumption | wp_step))
      refine codeAny_mono (codeAny_call_builtin tc.init.plain F.entry_object_init (tc.init.check _ _ _ _ _ _ _ _ ty (F.args_object_init_2 (.bool b) x) (object_init_meets il mk F.newNe_bool prog w A.in1 (wants (fun r s2 => r = .none ∧ Q (.bool b) s2) E) s1 ⟨ty, rfl, q⟩))) fun r2 s2 hr2 => ?_
      cases r2 with
      | error e => exact hr2
      | ok f2 =>
        cases f2 with
        | ret r =>
          obtain ⟨rfl, q2⟩ := hr2
          repeat (any_goals (first | assumption | wp_step))
        | _ => exact hr2.elim
    | _ => exact hr.elim
end
end DLB

namespace DL
open PySem PySem.Spec PyProof.Rows L2
theorem room_in2 {k : Nat} {A : Around} (r : Room (k + 1) A) : Room k A.in1.in1 :=
  ⟨r.hd, by have := r.dp; show A.depth + 3 * k + 5 < _; omega, by have := r.un; show A.units + 1 + 1 + 16 * k + 200 < _; omega⟩
theorem callR_or {X : Cx} {f : Value} {r r' : List V → Hp → VK → Prop} (h : CallR X f r) (h' : CallR X f r') : CallR X f (fun xs H Q => r xs H Q ∨ r' xs H Q) := by
  intro pins s σ H xs us Q I rv q
  rcases q with q | q
  · exact h pins s σ H xs us Q I rv q
  · exact h' pins s σ H xs us Q I rv q
section
variable {X : Cx} {W : XW X.K} {pins : List (Addr × Obj)} {s : Shared} {σ : L2.St} {H : Hp} {k : Nat} {tbl : Tbl} {a b : Expr} {ma mb : EM} {pos : Pos}
/-! bool(x), len(x) of an instance -/
def rOwnB (K : PySem.W.Frag) (tbl : Tbl) : List V → Hp → VK → Prop := fun xs H Q => ∃ a n dx vs f, xs = [V.ref a] ∧ H a = some (.ins (He.ga K n) dx vs) ∧ tbl.lookup n = some f ∧ spD K f [.ref a] H (fun v H' => ∃ r, v = .bl r ∧ Q (.bl r) H') E0
theorem call_ownBool (T : OpsD X.prog X.w X.K X.mg X.base k "__bool__" tbl) (hr : Room (k + 1) X.A) (hgd : X.A.guards = some []) : CallR X (.type "bool") (rOwnB X.K tbl) := by
  intro pins s σ H xs us Q I rv h
  obtain ⟨a, n, dx, vs, f, rfl, ha, hf, q⟩ := h
  obtain rfl := Vals.ref1 rv
  obtain ⟨g, hfi, hsf, F⟩ := (T _ (tbl_mem hf)).ex
  obtain ⟨mA, J, _⟩ := ins_get I.hok ha
  obtain ⟨od, J, _⟩ := J.look
  obtain ⟨m, hF⟩ := I.fr
  obtain ⟨_, _, _, hfn, _⟩ := F.ex
  refine DLB.callBool (PySem.W.truthy_K hF I.ok.mod.kin J hfi hfn (wpAny_mono (runD (us := [.ref a]) (vs := [.ref a]) F I.env0.in1.in1 (room_in2 hr) hgd I (.cons rfl .nil) q) (fun v' s' hq => ?_) fun _ _ e => e))
  obtain ⟨x, H', I', rx, r, rfl, q'⟩ := hq
  obtain rfl : v' = Value.bool r := rx
  exact ⟨.bl r, H', I', rfl, q'⟩
def rOwnL (K : PySem.W.Frag) (tbl : Tbl) : List V → Hp → VK → Prop := fun xs H Q => ∃ a n dx vs f, xs = [V.ref a] ∧ H a = some (.ins (He.ga K n) dx vs) ∧ tbl.lookup n = some f ∧ spD K f [.ref a] H (fun v H' => ∃ r, v = .int r ∧ (0 ≤ r ∧ r < 2 ^ 63) ∧ Q (.int r) H') E0
theorem call_ownLen (T : OpsD X.prog X.w X.K X.mg X.base k "__len__" tbl) (hr : Room (k + 1) X.A) (hgd : X.A.guards = some []) : CallR X (.builtin "len") (rOwnL X.K tbl) := by
  intro pins s σ H xs us Q I rv h
  obtain ⟨a, n, dx, vs, f, rfl, ha, hf, q⟩ := h
  obtain rfl := Vals.ref1 rv
  obtain ⟨g, hfi, hsf, F⟩ := (T _ (tbl_mem hf)).ex
  obtain ⟨mA, J, _⟩ := ins_get I.hok ha
  obtain ⟨od, J, _⟩ := J.look
  obtain ⟨m, hF⟩ := I.fr
  obtain ⟨_, _, _, hfn, _⟩ := F.ex
  refine PySem.W.len_K hF I.ok.mod.kin J hfi hfn (wpAny_mono (runD (us := [.ref a]) (vs := [.ref a]) F I.env0.in1 hr.in1 hgd I (.cons rfl .nil) q) (fun v' s' hq => ?_) fun _ _ e => e)
  obtain ⟨x, H', I', rx, r, rfl, hb, q'⟩ := hq
  obtain ⟨t, rfl⟩ := (show ∃ t, v' = Value.int r t from rx)
  exact ⟨hb, .int r, H', I'.tok _, ⟨_, rfl⟩, q'⟩
def boolG (tbl : Tbl) : GA := fun as S => match as with
  | [.fr (.int i)] => okV (.bl (i != 0)) S
  | [.fr (.bl b)] => okV (.bl b) S
  | [a] => match insOf S a with
    | some (n, _) => (match tbl.lookup n with
      | some f => (noX (f [a] S)).bind (blEnd false)
      | none => .stuck)
    | none => match rdS S a with
      | some xs => okV (.bl (!xs.isEmpty)) S
      | none => .stuck
  | _ => .stuck
abbrev rBoolAll (X : Cx) (tbl : Tbl) : List V → Hp → VK → Prop := fun xs H Q => (((∃ i, xs = [.int i] ∧ Q (.bl (i != 0)) H) ∨ ∃ k, xs = [.bl k] ∧ Q (.bl k) H) ∨ (∃ (a : Addr) (zs : List V), xs = [.ref a] ∧ SqL X.K H a zs ∧ Q (.bl (!zs.isEmpty)) H)) ∨ rOwnB X.K tbl xs H Q
theorem bool_ok : OpA X W (rBoolAll X tbl) (boolG tbl) := by
  intro ph S H xs as Q g d h
  unfold boolG at h
  split at h
  · obtain ⟨v, rfl, dv⟩ := one_of d
    rw [d_int dv]
    exact .inl (.inl (.inl ⟨_, rfl, fin_v g (.bl _) h⟩))
  · obtain ⟨v, rfl, dv⟩ := one_of d
    rw [d_bl dv]
    exact .inl (.inl (.inr ⟨_, rfl, fin_v g (.bl _) h⟩))
  · obtain ⟨v, rfl, dv⟩ := one_of d
    split at h
    · rename_i n fs h1
      obtain ⟨p, dx, vs, rfl, e1, _⟩ := insOf_ok g dv h1
      split at h
      · rename_i f hf
        exact .inr ⟨p, n, dx, vs, f, rfl, e1, hf, ph, S, _, g, .cons dv .nil, noX_ok (holds_imp (holds_bind h) (fun r hr => blEnd_ok (ng := false) hr) fun _ _ _ q => q)⟩
      · exact h.elim
    · split at h
      · rename_i ys hy
        obtain ⟨p, vs, rfl, s, r⟩ := rdS_ok g dv hy
        have e : (!vs.isEmpty) = !ys.isEmpty := by rw [paired_empty r]
        exact .inl (.inr ⟨p, vs, rfl, s, by rw [e]; exact fin_v g (.bl _) h⟩)
      · exact h.elim
  · exact h.elim
theorem pd_bool {p : Pos} {m : AM} (T : OpsD X.prog X.w X.K X.mg X.base k "__bool__" tbl) (hr : Room (k + 1) X.A) (hgd : X.A.guards = some []) (hm : X.mg "bool" = none) (ha : PDA X W [a] m) (hg : Gl X "bool" := by rfl)
    (he : starEach [a] X.env = (false, eval a X.env) :: starEach [] X.env := by rfl) (hpl : (backTo pos (starEach [] X.env)).any (·.1) = false := by rfl) : PD X W (.Call (.Name "bool" p) [a] [] pos) (eA (boolG tbl) m) :=
  pd_callTy (callR_or (callR_or call_bool1 call_boolL) (call_ownBool T hr hgd)) bool_ok hm PyProof.Rows.boot_bool ha hg (by decide) (by decide) he hpl
/-- a length told by an own __len__ -/
def inEnd (r : RV × Store) : Res (SV × Store) := match r.1 with
  | .val (.fr (.int n)) => if 0 ≤ n ∧ n < 2 ^ 63 then okV (.int n) r.2 else .stuck
  | _ => .stuck
theorem inEnd_ok {ph : List Addr} {H : Hp} {Q : VK} {r : RV × Store} {E : Exc → Slots → Store → Prop} (h : holds (inEnd r) (post X.K ph H Q) E) : postF X.K ph H (fun v H' => ∃ r, v = .int r ∧ (0 ≤ r ∧ r < 2 ^ 63) ∧ Q (.int r) H') r := by
  intro v H2 x2 g2 d2
  obtain ⟨rv, S2⟩ := r
  unfold inEnd at h
  dsimp only at *
  split at h
  · rename_i n
    split at h
    · exact ⟨n, d_int (show DenS X.K ph H2 v (.fr (.int n)) from d2), by assumption, h ph _ H2 x2 g2 (Den.int _)⟩
    · exact h.elim
  · exact h.elim
def lenOG (tbl : Tbl) : GA := fun as S => match as with
  | [a] => match insOf S a with
    | some (n, _) => (match tbl.lookup n with
      | some f => (noX (f [a] S)).bind inEnd
      | none => .stuck)
    | none => lenG [a] S
  | _ => .stuck
theorem lenO_ok : OpA X W (fun xs H Q => (∃ x n, xs = [x] ∧ LenV X.K x H n ∧ Q (.int n) H) ∨ rOwnL X.K tbl xs H Q) (lenOG tbl) := by
  intro ph S H xs as Q g d h
  unfold lenOG at h
  split at h
  · split at h
    · rename_i a n fs h1
      obtain ⟨v, rfl, dv⟩ := one_of d
      obtain ⟨p, dx, vs, rfl, e1, _⟩ := insOf_ok g dv h1
      split at h
      · rename_i f hf
        exact .inr ⟨p, n, dx, vs, f, rfl, e1, hf, ph, S, _, g, .cons dv .nil, noX_ok (holds_imp (holds_bind h) (fun r hr => inEnd_ok hr) fun _ _ _ q => q)⟩
      · exact h.elim
    · exact .inl (len_ok ph S H xs _ Q g d h)
  · exact h.elim
theorem pd_len {p : Pos} {m : AM} (T : OpsD X.prog X.w X.K X.mg X.base k "__len__" tbl) (hr : Room (k + 1) X.A) (hgd : X.A.guards = some []) (hm : X.mg "len" = none) (ha : PDA X W [a] m) (hg : Gl X "len" := by rfl)
    (he : starEach [a] X.env = (false, eval a X.env) :: starEach [] X.env := by rfl) (hpl : (backTo pos (starEach [] X.env)).any (·.1) = false := by rfl) : PD X W (.Call (.Name "len" p) [a] [] pos) (eA (lenOG tbl) m) :=
  pd_callB (callR_or call_len (call_ownLen T hr hgd)) lenO_ok hm PySem.boot_len ha hg (by decide) (by decide) he hpl
/-! in, over lists and instances -/
def inLG (ng : Bool) : G2 := fun x b S => match snap S x, snap S b with
  | some d, some (.lst ds) => if plain d && plain (.lst ds) then okV (.bl (if ng then !(ds.any fun z => deq z d) else ds.any fun z => deq z d)) S else .stuck
  | some d, some (.scr ds) => if plain d && plain (.lst ds) then okV (.bl (if ng then !(ds.any fun z => deq z d) else ds.any fun z => deq z d)) S else .stuck
  | _, _ => .stuck
theorem any_pys (d : PyData) : ∀ ds : List D, ((pys ds).any fun z => PyData.eqv z d) = ds.any fun z => PyData.eqv (py z) d
  | [] => rfl
  | z :: ds => by rw [pys, List.any_cons, List.any_cons, any_pys d ds]
def inG (tbl : Tbl) (ng : Bool) : G2 := fun x b S => match insOf S b with
  | some _ => ownInG tbl ng x b S
  | none => inLG ng x b S
theorem inL_ok {ph : List Addr} {S : Store} {H : Hp} {x y : V} {a b : SV} {ng : Bool} {Q : VK} {E : Exc → Slots → Store → Prop} (g : Good X.K ph H S) (da : DenS X.K ph H x a) (db : DenS X.K ph H y b) (h : holds (inLG ng a b S) (post X.K ph H Q) E) :
    ∃ d ds, Dp X.K H x d ∧ Dp X.K H y (.list ds) ∧ SeqAt.shaped d = true ∧ SeqAt.shaped (.list ds) = true ∧ Q (.bl (if ng then !(ds.any fun z => PyData.eqv z d) else ds.any fun z => PyData.eqv z d)) H := by
  unfold inLG at h
  split at h
  · rename_i d ds h1 h2
    split at h
    · rename_i hp
      simp only [Bool.and_eq_true, plain] at hp
      have q1 := dp_of hp.1.1 (snap_ok g da h1)
      have q2 := dp_of hp.2.1 (snap_ok g db h2)
      have hs := hp.2.2
      simp only [py] at q2 hs
      refine ⟨py d, pys ds, q1, q2, hp.1.2, hs, ?_⟩
      rw [any_pys]
      exact fin_v g (.bl _) h
    · exact h.elim
  · rename_i d ds h1 h2
    split at h
    · rename_i hp
      simp only [Bool.and_eq_true, plain] at hp
      have q1 := dp_of hp.1.1 (snap_ok g da h1)
      have e : isP (.scr ds) = true := by simpa only [isP] using hp.2.1
      have q2 := dp_of e (snap_ok g db h2)
      have hs := hp.2.2
      simp only [py] at q2 hs
      refine ⟨py d, pys ds, q1, q2, hp.1.2, hs, ?_⟩
      rw [any_pys]
      exact fin_v g (.bl _) h
    · exact h.elim
  · exact h.elim
theorem in_ok : Op2 X W (fun x y H Q => rInD X.K x y H Q ∨ rOwnIn X.K tbl false x y H Q) (inG tbl false) := by
  intro ph S H x y a b Q g da db h
  unfold inG at h
  split at h
  · exact .inr (ownIn_ok false ph S H x y a b Q g da db h)
  · exact .inl (inL_ok (ng := false) g da db h)
theorem notIn_ok : Op2 X W (fun x y H Q => rNotInD X.K x y H Q ∨ rOwnIn X.K tbl true x y H Q) (inG tbl true) := by
  intro ph S H x y a b Q g da db h
  unfold inG at h
  split at h
  · exact .inr (ownIn_ok true ph S H x y a b Q g da db h)
  · exact .inl (inL_ok (ng := true) g da db h)
theorem pd_in (T : OpsD X.prog X.w X.K X.mg X.base k "__contains__" tbl) (hr : Room k X.A) (hgd : X.A.guards = some []) (hu : X.A.units + 65 < cLine) (ha : PD X W a ma) (hb : PD X W b mb) (hm : behindInMarks .In b = false := by first | exact nomark _ | rfl) : PD X W (.Compare a [.In] [b] pos) (e2 (inG tbl false) ma mb) :=
  pd_cmp ((op_inD hu).or (op_ownIn T hr hgd)) in_ok ha hb hm
theorem pd_notIn (T : OpsD X.prog X.w X.K X.mg X.base k "__contains__" tbl) (hr : Room k X.A) (hgd : X.A.guards = some []) (hu : X.A.units + 65 < cLine) (ha : PD X W a ma) (hb : PD X W b mb) (hm : behindInMarks .NotIn b = false := by first | exact nomark _ | rfl) : PD X W (.Compare a [.NotIn] [b] pos) (e2 (inG tbl true) ma mb) :=
  pd_cmp ((op_notInD hu).or (op_ownNotIn T hr hgd)) notIn_ok ha hb hm
theorem pt_in (T : OpsD X.prog X.w X.K X.mg X.base k "__contains__" tbl) (hr : Room k X.A) (hgd : X.A.guards = some []) (hu : X.A.units + 65 < cLine) (ha : PD X W a ma) (hb : PD X W b mb) (hm : behindInMarks .In b = false := by first | exact nomark _ | rfl) : PDT X W (.Compare a [.In] [b] pos) (tB (e2 (inG tbl false) ma mb)) :=
  pt_2 ((op_inD hu).or (op_ownIn T hr hgd)) in_ok ha hb hm
theorem pt_notIn (T : OpsD X.prog X.w X.K X.mg X.base k "__contains__" tbl) (hr : Room k X.A) (hgd : X.A.guards = some []) (hu : X.A.units + 65 < cLine) (ha : PD X W a ma) (hb : PD X W b mb) (hm : behindInMarks .NotIn b = false := by first | exact nomark _ | rfl) : PDT X W (.Compare a [.NotIn] [b] pos) (tB (e2 (inG tbl true) ma mb)) :=
  pt_2 ((op_notInD hu).or (op_ownNotIn T hr hgd)) notIn_ok ha hb hm
end
end DL

namespace DL
open PySem PySem.Spec PyProof.Rows L2

/-! ### classmethods called on the class, cls(..) -/
structure CmD (P : Program) (w : World) (K : PySem.W.Frag) (mg : Str → Option Value) (base : Heap) (k : Nat) (nm n : Str) (m : FnM) : Prop where
  ex : ∃ p g mc, mg n = some (.ref (He.ga K n)) ∧ ClX.CRead K (He.ga K n) mc ∧ ClX.CMet K (He.ga K n) mc nm p g ∧ FunAt P w K mg base k g m
section
variable {X : Cx} {W : XW X.K} {e : Expr} {es : List Expr} {m : AM} {pos p apos : Pos} {nm n : Str} {k : Nat} {f : FnM}
theorem pd_cls (hm : X.mg n = some (.ref (He.ga X.K n))) (hg : Gl X n := by rfl) (hdb : (n == ("__debug__" : Str)) = false := by decide) : PD X W (.Name n pos) (eC (.cls n)) :=
  pd_const (pe_glob hg hm (v := .ref (He.ga X.K n)) rfl hdb) fun _ => .cls n
theorem runDc {pins : List (Addr × Obj)} {s : Shared} {σ : L2.St} {H : Hp} {g : Addr} {us : List Value} {vs : List V} {Q : VK} (F : FunAt X.prog X.w X.K X.mg X.base k g f) (hr : Room k X.A) (hg : X.A.guards = some []) (I : Inv X pins σ H s) (r : Vals vs us) (h : spD X.K f vs H Q E0) :
    codeAny (model X.prog X.w) X.A (.call (.ref g) ⟨us, []⟩) (wants (EP X pins σ Q) X.xe) s := by
  obtain ⟨fd, ps, _, _, hb, FF⟩ := F.ex
  have hl : (us ++ []).length = ps.length := by rw [List.append_nil, ← r.length]; exact FF.len _ _ _ _ h
  have bt := hb s us I.kIn hl
  rw [List.append_nil] at bt
  refine codeAny_mono (FF.run X.A X.stack s H ⟨us, []⟩ us vs Q E0 hg hr I.env0 bt r h) fun r s' hq => ?_
  cases r with
  | error e => exact passL pins σ H s e s' I hq
  | ok fl =>
    cases fl with
    | ret u => exact I.after hq
    | next => exact False.elim hq
    | brk => exact False.elim hq
    | cont => exact False.elim hq
/-- C.m() -/
theorem pe_cm0 {pl : Sem Bool} (C : CmD X.prog X.w X.K X.mg X.base k nm n f) (hr : Room k X.A) (hgd : X.A.guards = some []) (hg : Gl X n) (hdb : (n == ("__debug__" : Str)) = false)
    (ht : eval (.Call (.Attribute (.Name n p) nm apos) [] [] pos) X.env = (do
      let recv ← eval (.Name n p) X.env
      standAt apos.atName
      let (g, first) ← holding [recv] (getMethod recv nm pl)
      callWith pos g first (backTo pos (starEach [] X.env)) (backToKw pos (keywordEach [] X.env)))) :
    PE X (.Call (.Attribute (.Name n p) nm apos) [] [] pos) (fun sg H Q => spD X.K f [.ref (He.ga X.K n)] H Q E0) := by
  obtain ⟨q, g, mc, hm, rd, cm, F⟩ := C.ex
  refine ⟨fun pins s σ H Q I h => ?_⟩
  refine PySem.W.methodCall_KW (pl := pl) (thn ((pe_glob (pos := p) hg hm (v := .ref (He.ga X.K n)) rfl hdb).run pins s σ H (fun v H1 => v = .ref (He.ga X.K n) ∧ H1 = H) I ⟨rfl, rfl⟩) fun u s1 ⟨x, H1, I1, rx, ex, eh⟩ => ?_) ht
  subst ex eh
  obtain rfl : u = Value.ref (He.ga X.K n) := rx
  refine ClX.getmethcm_ok I1 rd cm fun s2 I2 => ?_
  refine PySem.W.callWith_M0 (first := []) (K := X.K) ⟨ClX.pin_at I2, I2.kIn⟩ cm.fi ?_
  have z : wpAny (model X.prog X.w) X.A (call (.ref s1.heap.objs.size) []) (EP X ((s1.heap.objs.size, PySem.W.methodObj (.ref g) (.ref (He.ga X.K n))) :: pins) σ Q) X.xe s2 :=
    wpAny_call (PySem.W.method_call (ClX.pin_at I2) (runDc (us := [.ref (He.ga X.K n)]) (vs := [.ref (He.ga X.K n)]) F hr hgd I2 (.cons rfl .nil) h))
  exact thn z fun _ _ y => ClX.unpinE y
def eCm0 (cc : Bool) (n : Str) (f : FnM) : EM := fun _ S => (noX (f [.fr (.cls n)] S)).bind (back cc)
theorem pd_cm0 {pl : Sem Bool} (cc : Bool) (C : CmD X.prog X.w X.K X.mg X.base k nm n f) (hr : Room k X.A) (hgd : X.A.guards = some []) (hg : Gl X n := by rfl) (hdb : (n == ("__debug__" : Str)) = false := by decide)
    (ht : eval (.Call (.Attribute (.Name n p) nm apos) [] [] pos) X.env = (do
      let recv ← eval (.Name n p) X.env
      standAt apos.atName
      let (g, first) ← holding [recv] (getMethod recv nm pl)
      callWith pos g first (backTo pos (starEach [] X.env)) (backToKw pos (keywordEach [] X.env))) := by rfl) :
    PD X W (.Call (.Attribute (.Name n p) nm apos) [] [] pos) (eCm0 cc n f) :=
  ⟨_, pe_cm0 C hr hgd hg hdb ht, fun ph S H sg rho Q g so h => ⟨ph, S, [.fr (.cls n)], g, .cons (Den.cls n) .nil, noX_ok (holds_imp (holds_bind h) (fun r hr => back_ok (Ext.refl _ _) hr) fun _ _ _ q => q)⟩⟩
/-- an instance made by a call of its class -/
theorem makeRun {pins : List (Addr × Obj)} {s1 : Shared} {σ : L2.St} {H1 : Hp} {us : List Value} {vs : List V} {Q : VK} (M : MakD X.prog X.w X.K X.mg X.base k n f) (hr : Room (k + 1) X.A) (hgd : X.A.guards = some []) (I1 : Inv X pins σ H1 s1) (r : Vals vs us)
    (q : ∀ x dx, H1 x = none → H1 dx = none → dx ≠ x → spD X.K f (.ref x :: vs) (upd (upd H1 dx (.own x)) x (.ins (He.ga X.K n) dx [])) (fun v H2 => v = .non ∧ Q (.ref x) H2) E0) :
    wpAny (model X.prog X.w) X.A (call (.ref (He.ga X.K n)) us) (EP X pins σ Q) X.xe s1 := by
  obtain ⟨g, hm, Mk, F⟩ := M.ex
  have hq := q (s1.heap.objs.size + 1) s1.heap.objs.size (I1.hok.fresh (Nat.le_succ _)) (I1.hok.fresh (Nat.le_refl _)) (Nat.ne_of_lt (Nat.lt_succ_self _))
  have I2 := Inv.made (C := He.ga X.K n) I1
  obtain ⟨fd, ps, _, _, hb, FF⟩ := F.ex
  have r2 : Vals (V.ref (s1.heap.objs.size + 1) :: vs) (Value.ref (s1.heap.objs.size + 1) :: us) := .cons rfl r
  have hl : (Value.ref (s1.heap.objs.size + 1) :: us ++ []).length = ps.length := by
    rw [List.append_nil, ← r2.length]
    exact FF.len _ _ _ _ hq
  have bt := hb _ (Value.ref (s1.heap.objs.size + 1) :: us) I2.kIn hl
  rw [List.append_nil] at bt
  refine wpAny_call (make_map (f := g) I1.kIn Mk.makes Mk.init (beq_iff_eq.mp Mk.fn) (codeAny_mono (FF.run _ X.stack _ _ ⟨Value.ref (s1.heap.objs.size + 1) :: us, []⟩ (Value.ref (s1.heap.objs.size + 1) :: us) _ _ E0 (guards_make hgd _ us) (hr.make _ us [])
    (I2.env0.make _ us []) bt r2 hq) fun r s' hq' => ?_))
  cases r with
  | error e => exact passL pins σ _ _ e s' I2 hq'
  | ok fl =>
    cases fl with
    | ret u =>
      obtain ⟨v, H', I3, rv, ev, q3⟩ := I2.after hq'
      subst ev
      exact ⟨rv, ⟨V.ref (s1.heap.objs.size + 1), H', I3, rfl, q3⟩⟩
    | next => exact False.elim hq'
    | brk => exact False.elim hq'
    | cont => exact False.elim hq'
def MaksD (P : Program) (w : World) (K : PySem.W.Frag) (mg : Str → Option Value) (base : Heap) (k : Nat) (tbl : Tbl) : Prop := ∀ p ∈ tbl, MakD P w K mg base k p.1 p.2
theorem maks_nil {P : Program} {w : World} {K : PySem.W.Frag} {mg : Str → Option Value} {base : Heap} : MaksD P w K mg base k [] := fun _ h => nomatch h
theorem maks_cons {P : Program} {w : World} {K : PySem.W.Frag} {mg : Str → Option Value} {base : Heap} {tbl : Tbl} (h : MakD P w K mg base k n f) (t : MaksD P w K mg base k tbl) : MaksD P w K mg base k ((n, f) :: tbl) := fun p hp => (List.mem_cons.mp hp).elim (fun e => e ▸ h) (t p)
theorem pe_makeL {x : Str} {i : Nat} {tbl : Tbl} {t : TA} (M : MaksD X.prog X.w X.K X.mg X.base k tbl) (hr : Room (k + 1) X.A) (hgd : X.A.guards = some []) (hN : X.N[i]? = some x) (hv : Vis X.env.scope x) (ha : PA X (e :: es) t) (hdb : (x == ("__debug__" : Str)) = false)
    (hcd : (x == ("__classdict__" : Str)) = false) (he : starEach (e :: es) X.env = (false, eval e X.env) :: starEach es X.env) (hpl : (backTo pos (starEach es X.env)).any (·.1) = false) :
    PE X (.Call (.Name x p) (e :: es) [] pos) (fun sg H Q => ∃ n f, sg[i]? = some (some (V.ref (He.ga X.K n))) ∧ tbl.lookup n = some f ∧ t sg H fun vs H1 => ∀ x dx, H1 x = none → H1 dx = none → dx ≠ x →
      spD X.K f (.ref x :: vs) (upd (upd H1 dx (.own x)) x (.ins (He.ga X.K n) dx [])) (fun v H2 => v = .non ∧ Q (.ref x) H2) E0) := by
  refine ⟨fun pins s σ H Q I h => ?_⟩
  obtain ⟨n, f, hs, hf, ht⟩ := h
  have MD := M _ (tbl_mem hf)
  obtain ⟨g, hm, Mk, F⟩ := MD.ex
  refine wpAny_Call_Name_kw (thn ((pe_var (pos := p) hN hv hdb hcd).run pins s σ H (fun v H1 => v = .ref (He.ga X.K n) ∧ H1 = H) I ⟨.ref _, hs, rfl, rfl⟩) fun u s1 ⟨v, H1, I1, r1, q1, q2⟩ => ?_)
  subst q1 q2
  cases r1
  exact PySem.W.callWith_K (h₀ := X.base) I.ok.mod.kin Mk.kp (thn (ha.run pos pins s1 σ _ _ I1 ht) fun us s2 ⟨vs, H2, I2, r, q⟩ => ⟨I2.kIn, makeRun MD hr hgd I2 r q⟩) he hpl
def eMakeV (c : Bool) (i : Nat) (tbl : Tbl) (m : AM) : EM := fun rho S => match rho[i]? with
  | some (some (.fr (.cls n))) => match tbl.lookup n with
    | some f => eMake c n f m rho S
    | none => .stuck
  | _ => .stuck
/-- the sound reading of a make, behind the arguments -/
theorem make_snd {c : Bool} {ph ph1 : List Addr} {H H1 : Hp} {Q : VK} {vs : List V} {xs : List SV} {S1 : Store} (g1 : Good X.K ph1 H1 S1) (x1 : DL.Ext ph H ph1 H1) (d1 : DenSs X.K ph1 H1 vs xs)
    (hy : holds ((noX (f (.cell S1.length :: xs) (S1 ++ [.ins n []]))).bind (mkEnd c S1.length)) (post X.K ph H Q) (W.rel ph H)) : ∀ x dx, H1 x = none → H1 dx = none → dx ≠ x →
      spD X.K f (.ref x :: vs) (upd (upd H1 dx (.own x)) x (.ins (He.ga X.K n) dx [])) (fun v H2 => v = .non ∧ Q (.ref x) H2) E0 := by
  intro x dx hx hdx hne
  have xa : DL.Ext ph1 H1 ph1 (upd H1 dx (.own x)) := Ext.fresh hdx
  have ga := g1.fresh (o := .own x) hdx
  have hx2 : upd H1 dx (.own x) x = none := by rw [upd_ne (fun e => hne e.symm)]; exact hx
  have xb : DL.Ext ph1 (upd H1 dx (.own x)) (ph1 ++ [x]) (upd (upd H1 dx (.own x)) x (.ins (He.ga X.K n) dx [])) := Ext.cell hx2
  have gb : Good X.K (ph1 ++ [x]) (upd (upd H1 dx (.own x)) x (.ins (He.ga X.K n) dx [])) (S1 ++ [.ins n []]) := ga.cell hx2 ⟨dx, [], upd_same, .nil⟩
  refine ⟨ph1 ++ [x], S1 ++ [.ins n []], .cell S1.length :: xs, gb, .cons ⟨x, by rw [← g1.len]; simp, rfl⟩ (DenSs.mono xb (DenSs.mono xa d1)), noX_ok (holds_imp (holds_bind hy) (fun r hr2 => ?_) fun _ _ _ q => q)⟩
  intro v H3 x3 g3 d3
  have x13 : DL.Ext ph1 H1 (ph1 ++ [x]) H3 := xa.trans (xb.trans x3)
  obtain ⟨rv, S3⟩ := r
  unfold mkEnd at hr2
  dsimp only at hr2 g3 d3
  split at hr2
  · refine ⟨d_non (show DenS X.K (ph1 ++ [x]) H3 v (.fr .non) from d3), ?_⟩
    split at hr2
    · rename_i m' fs hk
      have hxk : (ph1 ++ [x])[S1.length]? = some x := by rw [← g1.len]; simp
      obtain ⟨q, hq1, dx', vs', h4, h5⟩ := g3.at hk
      rw [hxk] at hq1; cases hq1
      cases c with
      | true => exact hr2 (ph1 ++ [x]) (.ref x) H3 (x1.trans x13) g3 ⟨x, hxk, rfl⟩
      | false =>
        simp only [Bool.false_eq_true, if_false] at hr2
        split at hr2
        · rename_i hb
          split at hr2
          · rename_i ds hds
            refine hr2 ph1 (.ref x) H3 (x1.trans x13.back) (g1.cut x13 g3 hb) (.ins (hide_of (g1.new hx) h4) ?_)
            have dd := denF_of h5 hds
            exact DenF.mono (sub_hide fun a m => List.mem_append_left _ m) dd
          · exact hr2.elim
        · exact hr2.elim
    · exact hr2.elim
  · exact hr2.elim
theorem d_cls {K : PySem.W.Frag} {F : Hp} {v : V} {n : Str} (h : Den K F v (.cls n)) : v = .ref (He.ga K n) := by cases h; rfl
theorem pd_makeV {x : Str} (i : Nat) {tbl : Tbl} (c : Bool) (M : MaksD X.prog X.w X.K X.mg X.base k tbl) (hr : Room (k + 1) X.A) (hgd : X.A.guards = some []) (ha : PDA X W (e :: es) m) (hN : X.N[i]? = some x := by rfl)
    (hv : Vis X.env.scope x := by first | exact Or.inl rfl | exact Or.inr (Or.inl rfl) | exact Or.inr (Or.inr rfl)) (hdb : (x == ("__debug__" : Str)) = false := by decide)
    (hcd : (x == ("__classdict__" : Str)) = false := by decide) (he : starEach (e :: es) X.env = (false, eval e X.env) :: starEach es X.env := by rfl) (hpl : (backTo pos (starEach es X.env)).any (·.1) = false := by rfl) :
    PD X W (.Call (.Name x p) (e :: es) [] pos) (eMakeV c i tbl m) := by
  obtain ⟨t, pt, st⟩ := ha.ex
  refine ⟨_, pe_makeL M hr hgd hN hv pt hdb hcd he hpl, fun ph S H sg rho Q gd so h => ?_⟩
  unfold eMakeV at h
  split at h
  · rename_i n hi
    split at h
    · rename_i f hf
      obtain ⟨v, hv1, hv2⟩ := so.2 i _ hi
      obtain rfl := d_cls (show Den X.K (hide ph H) v (.cls n) from hv2)
      refine ⟨n, f, hv1, hf, st ph S H sg rho _ gd so (holds_imp (holds_bind h) (fun y hy => ?_) fun _ _ _ q => q)⟩
      exact fun ph1 vs H1 x1 g1 d1 => make_snd (W := W) g1 x1 d1 hy
    · exact h.elim
  · exact h.elim
end
end DL

namespace DL
open PySem PySem.Spec PyProof.Rows L2

/-! ### texts of classes, the head's facts -/
/-- the j-th statement of a class -/
def subSt (st : Stmt) (j : Nat) : Stmt := match st with
  | .ClassDef _ _ _ b _ _ _ _ _ _ _ => b.getD j (.Pass ⟨0, 0, 0, 0⟩)
  | _ => .Pass ⟨0, 0, 0, 0⟩
section
variable {P : Program} {w : World} {K : PySem.W.Frag} {mg : Str → Option Value} {base : Heap}
theorem funAt_of {k : Nat} {x qual : Str} {st : Stmt} {f : Addr} {fd : FuncData} {N ps : List Str} {b : SM} (F : Fun K x qual st f fd) (hfn : PySem.W.isFn K (.ref f) = true) (hbd : Binds K fd ps []) (Sc : FnScope N ps (defScope st))
    (hb : ∀ (cdv : Value) (A : Around) (outer : List Env) (s : Shared) (H : Hp) (E : XK), (A.deeper (envOfC qual (defScope st) s.heap.objs.size f cdv)).guards = some [] → Room k (A.deeper (envOfC qual (defScope st) s.heap.objs.size f cdv)) →
      PSDs (cxOf (L2.CX P w) P w K mg base N qual (defScope st) f cdv A outer s H E) (XW.fn K E) (defBody st) b) : FunAt P w K mg base (k + 1) f (fnM ps.length N.length b) := by
  obtain ⟨oc, od, kV, doc, pm, an, cdv, ct, osl, rfl, lk, hcd⟩ := F.ex
  exact ⟨_, ps, F.kp, hfn, hbd, fnD_of lk hcd Sc fun A outer s H E => hb cdv A outer s H E⟩
theorem calD_same {k : Nat} {x y : Str} {m : FnM} (h : CalD P w K mg base k x m) (e : mg y = mg x) : CalD P w K mg base k y m := by
  obtain ⟨f, fd, ps, a, b⟩ := h.ex
  exact ⟨f, fd, ps, e.trans a, b⟩
end
/-- facts of any kind -/
abbrev Fc := PySem.W.Frag → Bool
def obsF (fs : List Fc) (fn : List He5.DefA) (K : PySem.W.Frag) : He.AlD := ((fs.all fun f => f K) && fn.all fun d => d.ok K, fn.map fun d => He5.fnA K (d.at_ K))
def SaysF (fs : List Fc) (fn : List He5.DefA) (K : PySem.W.Frag) : Prop := obsF fs fn K = He5.valA fn
def obsFG (n : Nat) (fs : List Fc) (fn : List He5.DefA) (g : Addr → Option Obj) : He.AlD := obsF fs fn (He.frG g (He5.asA g n))
def hookF (n : Nat) (fs : List Fc) (fn : List He5.DefA) : PySem.W.Hook where
  α := He.AlD
  obs := fun z => obsFG n fs fn z.heap.get?
  val := fun _ => He5.valA fn
  says := fun _ hp => ∃ K : PySem.W.Frag, K.In hp ∧ SaysF fs fn K
  of := fun _ _ q => ⟨_, He.frG_in, q⟩
  keeps := fun _ _ _ ⟨K, hK, c⟩ q => ⟨K, PySem.W.Frag.In.keeps hK q, c⟩
theorem obsFG_eq {n : Nat} {fs : List Fc} {fn : List He5.DefA} {g : Addr → Option Obj} {z : Shared} (h : ∀ a, g a = z.heap.get? a) : obsFG n fs fn g = (hookF n fs fn).obs z := by
  have q : g = z.heap.get? := funext h
  rw [q] <;> rfl
section
variable {fs : List Fc} {fn : List He5.DefA} {K : PySem.W.Frag}
theorem SaysF.fact (c : SaysF fs fn K) (i : Nat) {f : Fc} (h : fs[i]? = some f := by rfl) : f K = true := by
  have q : (obsF fs fn K).1 = true := by rw [show obsF fs fn K = He5.valA fn from c]; rfl
  exact List.all_eq_true.mp (Bool.and_eq_true_iff.mp q).1 f (List.mem_of_getElem? h)
theorem SaysF.def_ (c : SaysF fs fn K) (i : Nat) {d : He5.DefA} (h : fn[i]? = some d := by rfl) : ∃ fd, L2.FunD K d.name d.qual d.params d.body d.scope (d.dvs K) (d.kws K) (d.at_ K) fd := by
  have q : (obsF fs fn K).1 = true := by rw [show obsF fs fn K = He5.valA fn from c]; rfl
  have q2 : (obsF fs fn K).2 = (He5.valA fn).2 := by rw [show obsF fs fn K = He5.valA fn from c]
  have q3 : (fn.map fun d => He5.fnA K (d.at_ K))[i]? = (fn.map He5.DefA.val)[i]? := by rw [show fn.map (fun d => He5.fnA K (d.at_ K)) = fn.map He5.DefA.val from q2]
  rw [List.getElem?_map, List.getElem?_map, h] at q3
  exact He5.DefA.funD (Option.some.inj q3) (List.all_eq_true.mp (Bool.and_eq_true_iff.mp q).2 d (List.mem_of_getElem? h))
end
/-- a class whose instances are read -/
def fcCls (n : Str) : Fc := fun K => (He.Fa.cls n).ok K
def fcNo (n f : Str) : Fc := fun K => (He.Fa.noat n f).ok K
def fcGlo (x : Str) : Fc := fun K => (He.Fa.glo x).ok K
def fcFree (x : Str) : Fc := fun K => (He.Fa.free x).ok K
def fcMeth (n m : Str) : Fc := fun K => (He.Fa.meth n m).ok K
def fcMk (n : Str) : Fc := fun K => (He.Fa.mkr n).ok K
def fcSelf (n : Str) : Fc := fun K => PySem.W.selfFirst K (He.ga K n)
def fcCm (n m : Str) : Fc := fun K => He5.wrapB K (He.ga K n) "classmethod" "classmethod.__get__" m && (PySem.W.fnIn K (He5.wf K (He.ga K n) "classmethod" m) && (PySem.W.readsIn K (He.ga K n) (.type "type") && (He.eqO (PySem.W.specialIn K (.ref (He.ga K n)) "__getattribute__") (some (some (.builtin "type.__getattribute__"))) && PySem.W.isFn K (.ref (He5.wf K (He.ga K n) "classmethod" m)))))
def fcSame (x y : Str) : Fc := fun K => decide (He.ga K x = He.ga K y)
section
variable {P : Program} {w : World} {K : PySem.W.Frag} {mg : Str → Option Value} {base h : Heap} {k : Nat} {n m f x y : Str} {g : FnM}
theorem fld_of (c1 : fcCls n K = true) (c2 : fcNo n f K = true) : FldOk K n f := ⟨He.cls_ok c1, He.noat_ok c2⟩
theorem met_of (c1 : fcCls n K = true) (c2 : fcMeth n m K = true) (F : FunAt P w K mg base k (He.ma K (He.ga K n) m) g) : MetD P w K mg base k m n g := ⟨_, He.cls_ok c1, He.meth_ok c2, F⟩
theorem op_of (c1 : fcSelf n K = true) (c2 : fcMeth n m K = true) (F : FunAt P w K mg base k (He.ma K (He.ga K n) m) g) : OpD P w K mg base k m n g := ⟨_, (He.meth_ok c2).at_, c1, F⟩
theorem mak_of (X : K.In h) (G : h.Ns mainGlobals mg) (c1 : fcGlo n K = true) (c2 : fcMk n K = true) (F : FunAt P w K mg base k (He.ma K (He.ga K n) "__init__") g) : MakD P w K mg base k n g := ⟨_, He.glo_ok X G c1, He.mkr_ok c2, F⟩
theorem cm_isFn (c : fcCm n m K = true) : PySem.W.isFn K (.ref (He5.wf K (He.ga K n) "classmethod" m)) = true := by
  unfold fcCm at c
  simp only [Bool.and_eq_true] at c
  exact c.2.2.2.2
theorem cm_of (X : K.In h) (G : h.Ns mainGlobals mg) (c1 : fcGlo n K = true) (c : fcCm n m K = true) (F : FunAt P w K mg base k (He5.wf K (He.ga K n) "classmethod" m) g) : CmD P w K mg base k m n g := by
  unfold fcCm at c
  simp only [Bool.and_eq_true] at c
  exact ⟨_, _, .type "type", He.glo_ok X G c1, ⟨c.2.2.1, He.eqO_ok c.2.2.2.1⟩, He5.cmet_of c.1 c.2.1, F⟩
theorem same_of (X : K.In h) (G : h.Ns mainGlobals mg) (c1 : fcGlo x K = true) (c2 : fcGlo y K = true) (c : fcSame x y K = true) : mg x = mg y := by
  rw [He.glo_ok X G c1, He.glo_ok X G c2, of_decide_eq_true (show decide (He.ga K x = He.ga K y) = true from c)]
theorem first_of_ok {s : Stmt} {p : Str} {fd : FuncData} {a : Addr} (F : Fun K x x s a fd) (hb : Binds K fd [p] []) (sc : FnScope [p] [p] (defScope s)) (hl : (defScope s).names.lookup p = some .local) (hd : (p == ("__debug__" : Str)) = false) {i : Nat} {p1 p2 p3 p4 : Pos}
    (hbody : defBody s = [.Return (some (.Subscript (.Name p p1) (.Constant (.int 0) i p2) p3)) p4]) : FirstOf K a := ⟨x, p, s, fd, i, 0, p1, p2, p3, p4, F, hb, sc, hl, hd, hbody⟩
end
theorem u65 {k : Nat} {A : Around} (hr : Room k A) : A.units + 65 < cLine := by
  have := hr.un
  omega
/-! ### isinstance(x, C), C an own class -/
structure IsiOk (K : PySem.W.Frag) (n : Str) : Prop where
  cls : Cls K (He.ga K n)
  ha : PySem.W.findIn K (.ref (He.ga K n)) "__class__" = some (some (.builtin "object.__class__"))
  hn : PySem.W.specialIn K (.builtin "object.__class__") "__get__" = some (some (.builtin "getset_descriptor.__get__"))
  htk : PySem.W.takesIn K (.builtin "object.__class__") = some true
  hm : PySem.W.mroIn K (He.ga K n) (.type "object") = some true
  same : PySem.W.kitOne K (.ref (He.ga K n)) (.ref (He.ga K n)) = some true
  oth : ∀ t ∈ ["NoneType", "bool", "int", "str", "tuple", "list"], PySem.W.kitOne K (.type t) (.ref (He.ga K n)) = some false
def fcIsi (n : Str) : Fc := fun K => He.eqO (PySem.W.findIn K (.ref (He.ga K n)) "__class__") (some (some (.builtin "object.__class__"))) && (He.eqO (PySem.W.specialIn K (.builtin "object.__class__") "__get__") (some (some (.builtin "getset_descriptor.__get__"))) &&
  (decide (PySem.W.takesIn K (.builtin "object.__class__") = some true) && (decide (PySem.W.mroIn K (He.ga K n) (.type "object") = some true) && (decide (PySem.W.kitOne K (.ref (He.ga K n)) (.ref (He.ga K n)) = some true) &&
  (["NoneType", "bool", "int", "str", "tuple", "list"].all fun t => decide (PySem.W.kitOne K (.type t) (.ref (He.ga K n)) = some false))))))
theorem isiO_of {K : PySem.W.Frag} {mg : Str → Option Value} {h : Heap} {n : Str} (X : K.In h) (G : h.Ns mainGlobals mg) (c1 : fcCls n K = true) (c : fcIsi n K = true) : IsiOk K n := by
  unfold fcIsi at c
  simp only [Bool.and_eq_true] at c
  obtain ⟨h1, h2, h3, h4, h5, h6⟩ := c
  exact ⟨He.cls_ok c1, He.eqO_ok h1, He.eqO_ok h2, of_decide_eq_true h3, of_decide_eq_true h4, of_decide_eq_true h5, fun t ht => of_decide_eq_true (List.all_eq_true.mp h6 t ht)⟩
def isiOG (n : Str) : GA := fun as S => match as with
  | [x, .fr (.cls c)] => if c = n then (match insOf S x with
    | some (m, _) => if m = n then okV (.bl true) S else .stuck
    | none => match tyN S x with
      | some t => if t ∈ ["NoneType", "bool", "int", "str", "tuple", "list"] then okV (.bl false) S else .stuck
      | none => .stuck) else .stuck
  | _ => .stuck
theorem isiO_ok {X : Cx} {W : XW X.K} {n : Str} (T : IsiOk X.K n) : OpA X W (rIsi X.K) (isiOG n) := by
  intro ph S H xs as Q g d h
  unfold isiOG at h
  split at h
  · rename_i x c
    obtain ⟨v, u, rfl, dv, du⟩ := two_of d
    split at h
    · rename_i hc
      subst hc
      obtain rfl := d_cls (show Den X.K (hide ph H) u (.cls c) from du)
      split at h
      · rename_i m fs hi
        obtain ⟨a, dx, vs, rfl, e1, _⟩ := insOf_ok g dv hi
        split at h
        · rename_i hm
          subst hm
          exact ⟨.ref a, .ref _, .ref _, .ref _, true, rfl, .own _, .base (.ins e1 T.cls T.ha T.hn T.htk T.hm), T.same, fin_v g (.bl _) h⟩
        · exact h.elim
      · split at h
        · rename_i t ht
          split at h
          · rename_i hm
            exact ⟨v, .ref _, .type t, .ref _, false, rfl, .own _, tyN_ok g dv ht, T.oth t hm, fin_v g (.bl _) h⟩
          · exact h.elim
        · exact h.elim
    · exact h.elim
  · exact h.elim
theorem call_ownBool0 {X : Cx} : CallR X (.type "bool") (rOwnB X.K []) := by
  intro pins s σ H xs us Q I rv h
  obtain ⟨a, n, dx, vs, f, rfl, ha, hf, q⟩ := h
  cases hf
theorem pd_bool0 {X : Cx} {W : XW X.K} {a : Expr} {pos p : Pos} {m : AM} (hm : X.mg "bool" = none) (ha : PDA X W [a] m) (hg : Gl X "bool" := by rfl)
    (he : starEach [a] X.env = (false, eval a X.env) :: starEach [] X.env := by rfl) (hpl : (backTo pos (starEach [] X.env)).any (·.1) = false := by rfl) : PD X W (.Call (.Name "bool" p) [a] [] pos) (eA (boolG []) m) :=
  pd_callTy (callR_or (callR_or call_bool1 call_boolL) call_ownBool0) bool_ok hm PyProof.Rows.boot_bool ha hg (by decide) (by decide) he hpl
end DL

namespace DL
open PySem PySem.Spec PyProof.Rows L2

/-! ### enumerate, zip -/
/-- a list of plain data that stays as it is -/
def Held (K : PySem.W.Frag) (ph : List Addr) (H : Hp) (lk : Store → Prop) (a : Addr) (ds : List D) : Prop :=
  ∀ (ph' : List Addr) (H' : Hp) (S' : Store), Ext ph H ph' H' → Good K ph' H' S' → lk S' → ∃ vs, SqL K H' a vs ∧ DenSs K ph' H' vs (ds.map SV.fr)
def srcM (S : Store) : SV → Option (List D × (Store → Prop))
  | .fr (.tup _) => none
  | .fr d => ((rdS S (.fr d)).bind allFr).map fun ds => (ds, fun _ => True)
  | .cell k => (rdL S (.cell k)).bind fun xs => (allFr xs).map fun ds => (ds, fun S' => S'[k]? = some (.lst xs))
theorem src_ok {K : PySem.W.Frag} {ph : List Addr} {H : Hp} {S : Store} {v : V} {x : SV} {ds : List D} {lk : Store → Prop} (g : Good K ph H S) (d : DenS K ph H v x) (h : srcM S x = some (ds, lk)) : ∃ a vs, v = .ref a ∧ SqL K H a vs ∧ Held K ph H lk a ds := by
  unfold srcM at h
  split at h
  · cases h
  · simp only [Option.map_eq_some_iff, Option.bind_eq_some_iff] at h
    obtain ⟨es, ⟨xs, h1, h2⟩, h3⟩ := h
    cases h3
    obtain ⟨p, vs, rfl, s, r⟩ := rdS_fr d h1
    refine ⟨p, vs, rfl, hide_sub.sqL s, fun ph' H' S' e _ _ => ⟨vs, hide_sub.sqL (e.sub.sqL s), ?_⟩⟩
    rw [← allFr_eq h2]
    exact r.mono e
  · rename_i k
    simp only [Option.map_eq_some_iff, Option.bind_eq_some_iff] at h
    obtain ⟨xs, h1, es, h2, h3⟩ := h
    cases h3
    obtain ⟨p, hp, rfl⟩ := id d
    obtain ⟨q, vs, e1, h4, h5⟩ := rdL_at g d h1
    cases e1
    refine ⟨p, vs, rfl, .of h4, fun ph' H' S' e g' hk => ?_⟩
    obtain ⟨q, h6, ws, h7, h8⟩ := g'.at hk
    obtain ⟨ps, rfl, _⟩ := e.pre
    rw [List.getElem?_append_left (List.getElem?_eq_some_iff.mp hp).1, hp] at h6
    cases h6
    exact ⟨ws, .of h7, by rw [← allFr_eq h2]; exact h8⟩
def enF (n : Nat) : List D → List SV
  | [] => []
  | d :: ds => .fr (.tup [.int (n : Nat), d]) :: enF (n + 1) ds
theorem enF_get : ∀ (ds : List D) (n i : Nat), (enF n ds)[i]? = ds[i]?.map fun d => SV.fr (.tup [.int ((n + i : Nat) : Int), d])
  | [], n, i => by simp [enF]
  | d :: ds, n, 0 => by simp [enF]
  | d :: ds, n, i + 1 => by
    have := enF_get ds (n + 1) i
    simp only [enF, List.getElem?_cons_succ, this, show n + 1 + i = n + (i + 1) by omega]
theorem enF_len : ∀ (ds : List D) (n : Nat), (enF n ds).length = ds.length
  | [], _ => rfl
  | d :: ds, n => by simp [enF, enF_len ds (n + 1)]
theorem pair_den {K : PySem.W.Frag} {ph : List Addr} {H : Hp} {S : Store} {T : Addr} {u v : V} {d e : D} (g : Good K ph H S) (hT : H T = none) (hu : DenS K ph H u (.fr d)) (hv : DenS K ph H v (.fr e)) :
    Ext ph H ph (upd H T (.tup [u, v])) ∧ Good K ph (upd H T (.tup [u, v])) S ∧ DenS K ph (upd H T (.tup [u, v])) (.ref T) (.fr (.tup [d, e])) := by
  have x : Ext ph H ph (upd H T (.tup [u, v])) := Ext.fresh hT
  refine ⟨x, g.fresh hT, .tup (vs := [u, v]) (.inl (.inl (hide_of (g.new hT) upd_same))) ?_⟩
  exact .cons (hu.mono x) (.cons (hv.mono x) .nil)
theorem walk_en {K : PySem.W.Frag} {ph : List Addr} {H : Hp} {lk : Store → Prop} {a : Addr} {ds : List D} (h : Held K ph H lk a ds) : WalkOk K ph H (Ite K a) ⟨enF 0 ds, lk⟩ where
  go := fun i x ph' H' S' hx e g hk => by
    obtain ⟨vs, s, r⟩ := h ph' H' S' e g hk
    have hx' : (enF 0 ds)[i]? = some x := hx
    rw [enF_get, Option.map_eq_some_iff] at hx'
    obtain ⟨d, hd, _⟩ := hx'
    obtain ⟨v, hv, _⟩ := paired_get r (show (ds.map SV.fr)[i]? = some (SV.fr d) by rw [List.getElem?_map, hd]; rfl)
    exact ⟨vs, v, s, hv⟩
  yld := fun i x ph' H' S' v H2 hx e g hk y => by
    obtain ⟨vs, s, r⟩ := h ph' H' S' e g hk
    have hx' : (enF 0 ds)[i]? = some x := hx
    rw [enF_get, Option.map_eq_some_iff] at hx'
    obtain ⟨d, hd, rfl⟩ := hx'
    obtain ⟨u, hu, du⟩ := paired_get r (show (ds.map SV.fr)[i]? = some (SV.fr d) by rw [List.getElem?_map, hd]; rfl)
    obtain ⟨T, w, rfl, hT, rfl, hw⟩ := y
    have := hw vs s
    rw [hu] at this
    cases this
    rw [Nat.zero_add]
    exact pair_den g hT (Den.int _) du
  stop := fun i ph' H' S' hi e g hk => by
    obtain ⟨vs, s, r⟩ := h ph' H' S' e g hk
    have hi' : (enF 0 ds).length ≤ i := hi
    rw [enF_len] at hi'
    exact ⟨vs, s, by rw [r.length, List.length_map]; exact hi'⟩
def iEn (m : AM) : IM := fun rho S => (m rho S).bind fun x => match x.1 with
  | [a] => match srcM x.2 a with
    | some (ds, lk) => .ok (⟨enF 0 ds, lk⟩, x.2)
    | none => .stuck
  | _ => .stuck
def ziF (ds es : List D) : List SV := List.zipWith (fun d e => SV.fr (.tup [d, e])) ds es
theorem walk_zi {K : PySem.W.Frag} {ph : List Addr} {H : Hp} {lk lk' : Store → Prop} {a b : Addr} {ds es : List D} (h : Held K ph H lk a ds) (h' : Held K ph H lk' b es) : WalkOk K ph H (Itz K a b) ⟨ziF ds es, fun S => lk S ∧ lk' S⟩ where
  go := fun i x ph' H' S' hx e g hk => by
    obtain ⟨vs, s, r⟩ := h ph' H' S' e g hk.1
    obtain ⟨ws, s', r'⟩ := h' ph' H' S' e g hk.2
    have hx' : (ziF ds es)[i]? = some x := hx
    unfold ziF at hx'
    rw [List.getElem?_zipWith_eq_some] at hx'
    obtain ⟨d, d', hd, hd', _⟩ := hx'
    obtain ⟨v, hv, _⟩ := paired_get r (show (ds.map SV.fr)[i]? = some (SV.fr d) by rw [List.getElem?_map, hd]; rfl)
    obtain ⟨v', hv', _⟩ := paired_get r' (show (es.map SV.fr)[i]? = some (SV.fr d') by rw [List.getElem?_map, hd']; rfl)
    exact ⟨vs, ws, v, v', s, s', hv, hv'⟩
  yld := fun i x ph' H' S' v H2 hx e g hk y => by
    obtain ⟨vs, s, r⟩ := h ph' H' S' e g hk.1
    obtain ⟨ws, s', r'⟩ := h' ph' H' S' e g hk.2
    have hx' : (ziF ds es)[i]? = some x := hx
    unfold ziF at hx'
    rw [List.getElem?_zipWith_eq_some] at hx'
    obtain ⟨d, d', hd, hd', rfl⟩ := hx'
    obtain ⟨u, hu, du⟩ := paired_get r (show (ds.map SV.fr)[i]? = some (SV.fr d) by rw [List.getElem?_map, hd]; rfl)
    obtain ⟨u', hu', du'⟩ := paired_get r' (show (es.map SV.fr)[i]? = some (SV.fr d') by rw [List.getElem?_map, hd']; rfl)
    obtain ⟨T, w, w', rfl, hT, rfl, hw, hw'⟩ := y
    have q := hw vs s
    have q' := hw' ws s'
    rw [hu] at q
    rw [hu'] at q'
    cases q
    cases q'
    exact pair_den g hT du du'
  stop := fun i ph' H' S' hi e g hk => by
    obtain ⟨vs, s, r⟩ := h ph' H' S' e g hk.1
    obtain ⟨ws, s', r'⟩ := h' ph' H' S' e g hk.2
    have hi' : (ziF ds es).length ≤ i := hi
    unfold ziF at hi'
    rw [List.length_zipWith] at hi'
    refine ⟨vs, ws, s, s', ?_⟩
    rw [r.length, r'.length, List.length_map, List.length_map]
    omega
def iZi (m : AM) : IM := fun rho S => (m rho S).bind fun x => match x.1 with
  | [a, b] => match srcM x.2 a, srcM x.2 b with
    | some (ds, lk), some (es, lk') => .ok (⟨ziF ds es, fun S => lk S ∧ lk' S⟩, x.2)
    | _, _ => .stuck
  | _ => .stuck
section
variable {X : Cx} {W : XW X.K} {a b : Expr} {pos p tpos : Pos} {elts : List Expr} {kk : Nat} {m : AM}
theorem pid_enum (hm : X.mg "enumerate" = none) (ha : PDA X W [a] m) (hg : Gl X "enumerate" := by rfl) (hs : starEach [a] X.env = [(false, eval a X.env)] := by rfl) : PID X W (.Tuple elts kk tpos) (.Call (.Name "enumerate" p) [a] [] pos) (iEn m) := by
  obtain ⟨t, pt, st⟩ := ha.ex
  refine ⟨_, pi_enum hg hm pt hs, fun ph S H sg rho R g so h => st ph S H sg rho _ g so (holds_imp (holds_bind h) (fun x hx => ?_) fun _ _ _ q => q)⟩
  intro ph1 vs H1 x1 g1 d1
  obtain ⟨xs, S1⟩ := x
  dsimp only at *
  split at hx
  · split at hx
    · rename_i ds lk hsrc
      obtain ⟨v, rfl, dv⟩ := one_of d1
      obtain ⟨q, us, rfl, s, hh⟩ := src_ok g1 dv hsrc
      exact ⟨q, us, rfl, s, hx ph1 H1 _ x1 g1 (walk_en hh)⟩
    · exact hx.elim
  · exact hx.elim
theorem pid_zip (hm : X.mg "zip" = none) (ha : PDA X W [a, b] m) (hg : Gl X "zip" := by rfl) (hs : starEach [a, b] X.env = (false, eval a X.env) :: starEach [b] X.env := by rfl) (hpl : (backTo pos (starEach [b] X.env)).any (·.1) = false := by rfl) : PID X W (.Tuple elts kk tpos) (.Call (.Name "zip" p) [a, b] [] pos) (iZi m) := by
  obtain ⟨t, pt, st⟩ := ha.ex
  refine ⟨_, pi_zip hg hm pt hs hpl, fun ph S H sg rho R g so h => st ph S H sg rho _ g so (holds_imp (holds_bind h) (fun x hx => ?_) fun _ _ _ q => q)⟩
  intro ph1 vs H1 x1 g1 d1
  obtain ⟨xs, S1⟩ := x
  dsimp only at *
  split at hx
  · split at hx
    · rename_i ds lk es lk' hsrc hsrc'
      obtain ⟨v, u, rfl, dv, du⟩ := two_of d1
      obtain ⟨q, us, rfl, s, hh⟩ := src_ok g1 dv hsrc
      obtain ⟨q', us', rfl, s', hh'⟩ := src_ok g1 du hsrc'
      exact ⟨q, q', us, us', rfl, s, s', hx ph1 H1 _ x1 g1 (walk_zi hh hh')⟩
    · exact hx.elim
  · exact hx.elim
end
end DL

namespace DL
open PySem PySem.Spec PyProof.Rows L2

/-! ### sorted(set(xs)), xs a list of ints -/
section
variable {P : Program} {w : World} {A : Around} {E : Value → Shared → Prop} {s : Shared}
/-- a set just made -/
abbrev bare (w : World) : Obj := { cls := .type "set", dict := none, data := .set #[] 0 (.fresh 0 0 (!w.params.followText "set-order")) }
set_option maxRecDepth 100000 in
set_option maxHeartbeats 3200000 in
theorem call_setL {l : Addr} {us : Array Value} (ns : List Int) {Q : Value → Shared → Prop} (hh : A.handled = none) (hl : s.heap.IsList l us) (hu : IntsAre us.toList ns) (hb : ns.length + 1 < scanBound)
    (h : ∀ (h' : Heap) (tk c : Nat), SetR w h' s.heap.objs.size (fun j => decide (j ∈ ns)) c → c ≤ ns.length → (∀ b o, s.heap.get? b = some o → h'.get? b = some o) → Q (.ref s.heap.objs.size) { s with heap := h', toks := tk }) :
    wpAny (model P w) A (call (.type "set") [.ref l]) Q E s := by
  have sz : us.size = ns.length := by
    have q := IntsAre.length hu
    rwa [Array.length_toList] at q
  have hlt : l < s.heap.objs.size := by
    obtain ⟨o, ho, _⟩ := hl
    exact Heap.lt_size ho
  obtain ⟨c, tl, hmro⟩ := F.called_set.mro
  have hmade := F.called_set.made
  have hsub := F.called_set.sub
  have h1 := F.called_set.notType
  have h2 := F.called_set.canCreate
  have hct := F.typeCall_set_1 (.ref l)
  have hli := F.called_set.init.lookup
  have hbi := F.called_set.init.bind (.ref s.heap.objs.size)
  have hS : (s.heap.push (bare w)).get? s.heap.objs.size = some (bare w) := Heap.get?_push_size _ rfl
  have hT : Shared.TypeIs { s with heap := s.heap.push (bare w) } (.ref s.heap.objs.size) "set" := ⟨_, hS, rfl⟩
  have hl1 : (s.heap.push (bare w)).IsList l us := hl.push _
  have z1 : (s.heap.push (bare w)).objs.size = s.heap.objs.size + 1 := Heap.size_push ..
  have ne1 : l ≠ (s.heap.push (bare w)).objs.size := by rw [z1]; exact Nat.ne_of_lt (Nat.lt_succ_of_lt hlt)
  have hi : A.in1.in1.in1.handled = none := by simp [hh]
  have nf : s.heap.objs.size ∉ [(s.heap.push (bare w)).objs.size, l] := by
    rw [z1]
    simp only [List.mem_cons, List.not_mem_nil, or_false, not_or]
    exact ⟨Nat.ne_of_lt (Nat.lt_succ_self _), Nat.ne_of_gt hlt⟩
  have vals : ∀ (i : Nat) (v : Value), us[i]? = some v → ∃ k t, ns[i]? = some k ∧ v = .int k t := fun i v hv => by
    have hi : i < ns.length := by rw [← sz]; exact (Array.getElem?_eq_some_iff.mp hv).1
    obtain ⟨t, e⟩ := IntsAre.int_at hu i v (by rw [Array.getElem?_toList]; exact hv)
    refine ⟨ns[i], t, List.getElem?_eq_getElem hi, ?_⟩
    rw [e, List.getD_eq_getElem?_getD, List.getElem?_eq_getElem hi] <;> rfl
  refine wpAny_call (codeAny_of_tree ?_)
  show wpAny _ _ (callAny (.type "set") _) _ _ _
  refine wpAny_pure ⟨Code.quiet_builtin _ (by decide +kernel), codeAny_builtin F.entry_type_call ?_⟩
  rw [Around.under_plain (weight_type_call_type "set" [.ref l] []) rfl]
  repeat (any_goals (first | assumption | wp_step))
  refine codeAny_mono (code_set_led1 (.ref l) (E := E) (Q₁ := fun obj s₁ => obj = .ref s.heap.objs.size ∧ s₁ = { s with heap := s.heap.push (bare w) }) ⟨rfl, rfl⟩) fun r s₁ hr => ?_
  rcases r with e | fl
  · exact hr
  cases fl with
  | ret obj =>
    obtain ⟨rfl, rfl⟩ := hr
    repeat (any_goals (first | assumption | wp_step))
    refine codeAny_mono (codeAny_call_builtin (R := wants (fun r s₂ => r = .none ∧ ∃ h' tk c, s₂ = { s with heap := h', toks := tk } ∧ SetR w h' s.heap.objs.size (fun j => decide (j ∈ ns)) c ∧ c ≤ ns.length ∧
      (∀ b o, s.heap.get? b = some o → h'.get? b = some o)) E) F.called_set.init.plain F.entry_set_init (check_set_init_1 hT ?_)) fun r₂ s₂ hr₂ => ?_
    · obtain ⟨⟨oc, od, oda, os⟩, hol, hcl, nl, hdl⟩ := hl1
      simp only at hcl hdl
      subst hcl hdl
      have q1 := F.sub_list_set
      have q2 := F.sub_list_frozenset
      have q3 : (Value.type "list" == Value.type "dict") = false := by decide
      have hl2 : (s.heap.push (bare w)).IsList l us := hl.push _
      unfold Builtin.«set.__init__» noKeywords Builtin.Frozenset.updateFrom
      generalize hPI : pyIter = PI
      wp_walk
      subst hPI
      refine wpAny_pyIter_list hl2 ?_
      refine wpAny_bind (wpAny_runValue ?_)
      refine set_update_ints ((Walks.list hi _ l ne1 us).toS) s.heap.objs.size nf ns sz hb vals (us.size - 0) 0 _ (by omega) (Nat.zero_le _) ⟨⟨_, Heap.get?_push_size _ rfl, rfl, rfl⟩, (hl2.push _)⟩ ⟨0, Nat.le_refl 0, setR_new_at (Heap.get?_push_of_some _ hS)⟩ ?_
      intro s' c' hm hc' hS'
      obtain ⟨h', g2, d', tk', os'⟩ := s'
      have eg : g2 = s.gens := hm.gens
      have ed : d' = s.drawn := hm.drawn
      have eo : os' = s.os := hm.os
      subst eg ed eo
      show wpAny _ _ _ _ _ _
      refine wpAny_pure ?_
      show wpAny _ _ (ret Value.none) _ _ _
      rw [sz] at hc'
      refine wpAny_pure ⟨rfl, h', tk', c', rfl, hS', hc', fun b o e => ?_⟩
      have hb0 : b < s.heap.objs.size := Heap.lt_size e
      refine hm.heap b o ?_ (Heap.get?_push_of_some _ (Heap.get?_push_of_some _ e))
      rw [z1]
      simp only [List.mem_cons, List.not_mem_nil, or_false, not_or]
      exact ⟨Nat.ne_of_lt hb0, Nat.ne_of_lt (Nat.lt_succ_of_lt hb0)⟩
    · rcases r₂ with e | fl₂
      · exact hr₂
      cases fl₂ with
      | ret r =>
        obtain ⟨rfl, h', tk, c', rfl, hS', hc', hk'⟩ := hr₂
        repeat (any_goals (first | assumption | wp_step))
        exact h _ _ _ hS' hc' hk'
      | _ => exact hr₂.elim
  | _ => exact hr.elim
end
end DL

namespace DL
open PySem PySem.Spec PyProof.Rows L2

/-! ### sorted(set(xs)), xs a list of ints: the rule -/
/-- k put where it belongs, if it is not there -/
def insU (k : Int) : List Int → List Int
  | [] => [k]
  | x :: xs => if k < x then k :: x :: xs else if k = x then x :: xs else x :: insU k xs
/-- the members, ascending -/
def asc (ns : List Int) : List Int := ns.foldr insU []
theorem insU_mem {k j : Int} : ∀ {xs : List Int}, j ∈ insU k xs ↔ j = k ∨ j ∈ xs
  | [] => by simp [insU]
  | x :: xs => by
    unfold insU
    split
    · simp
    · split
      · rename_i h
        subst h
        simp
      · rw [List.mem_cons, insU_mem, List.mem_cons]
        constructor
        · rintro (h | h | h)
          · exact .inr (.inl h)
          · exact .inl h
          · exact .inr (.inr h)
        · rintro (h | h | h)
          · exact .inr (.inl h)
          · exact .inl h
          · exact .inr (.inr h)
theorem insU_asc {k : Int} : ∀ {xs : List Int}, xs.Pairwise (· < ·) → (insU k xs).Pairwise (· < ·)
  | [], _ => by simp [insU]
  | x :: xs, h => by
    obtain ⟨h1, h2⟩ := List.pairwise_cons.mp h
    unfold insU
    split
    · rename_i c
      refine List.pairwise_cons.mpr ⟨fun y hy => ?_, h⟩
      rcases List.mem_cons.mp hy with rfl | hy
      · exact c
      · exact Int.lt_trans c (h1 y hy)
    · split
      · exact h
      · rename_i c d
        refine List.pairwise_cons.mpr ⟨fun y hy => ?_, insU_asc h2⟩
        rcases insU_mem.mp hy with rfl | hy
        · omega
        · exact h1 y hy
theorem asc_mem {j : Int} : ∀ {ns : List Int}, j ∈ asc ns ↔ j ∈ ns
  | [] => by simp [asc]
  | n :: ns => by
    show j ∈ insU n (asc ns) ↔ _
    rw [insU_mem, asc_mem, List.mem_cons]
theorem asc_asc : ∀ ns : List Int, (asc ns).Pairwise (· < ·)
  | [] => List.Pairwise.nil
  | n :: ns => insU_asc (asc_asc ns)
theorem asc_uniq : ∀ {xs ys : List Int}, xs.Pairwise (· < ·) → ys.Pairwise (· < ·) → (∀ k, k ∈ xs ↔ k ∈ ys) → xs = ys
  | [], [], _, _, _ => rfl
  | [], y :: ys, _, _, h => absurd ((h y).mpr List.mem_cons_self) (by simp)
  | x :: xs, [], _, _, h => absurd ((h x).mp List.mem_cons_self) (by simp)
  | x :: xs, y :: ys, hx, hy, h => by
    obtain ⟨a1, a2⟩ := List.pairwise_cons.mp hx
    obtain ⟨b1, b2⟩ := List.pairwise_cons.mp hy
    have e : x = y := by
      rcases List.mem_cons.mp ((h x).mp List.mem_cons_self) with e | m
      · exact e
      · rcases List.mem_cons.mp ((h y).mpr List.mem_cons_self) with e | m2
        · exact e.symm
        · have := b1 x m
          have := a1 y m2
          omega
    subst e
    refine congrArg _ (asc_uniq a2 b2 fun k => ⟨fun hk => ?_, fun hk => ?_⟩)
    · rcases List.mem_cons.mp ((h k).mp (List.mem_cons_of_mem _ hk)) with e | m
      · have := a1 k hk; omega
      · exact m
    · rcases List.mem_cons.mp ((h k).mpr (List.mem_cons_of_mem _ hk)) with e | m
      · have := b1 k hk; omega
      · exact m
theorem asc_nodup (ns : List Int) : (asc ns).Nodup := (asc_asc ns).imp fun h => Int.ne_of_lt h
theorem nodup_le : ∀ {xs ys : List Int}, xs.Nodup → (∀ x ∈ xs, x ∈ ys) → xs.length ≤ ys.length
  | [], _, _, _ => Nat.zero_le _
  | x :: xs, ys, h, k => by
    obtain ⟨h1, h2⟩ := List.nodup_cons.mp h
    have hx := k x List.mem_cons_self
    have l := List.length_erase_of_mem hx
    have q := nodup_le (ys := ys.erase x) h2 fun y hy => by
      have ne : y ≠ x := fun e => by subst e; exact h1 hy
      exact (List.mem_erase_of_ne ne).mpr (k y (List.mem_cons_of_mem _ hy))
    have p := List.length_pos_of_mem hx
    simp only [List.length_cons]
    omega
theorem asc_le {ns ys : List Int} (h : ∀ x ∈ ns, x ∈ ys) : (asc ns).length ≤ ys.length := nodup_le (asc_nodup ns) fun x hx => h x (asc_mem.mp hx)
theorem setR_card {w : World} {h : Heap} {a : Addr} {ns : List Int} {c : Nat} (R : SetR w h a (fun j => decide (j ∈ ns)) c) : c = (asc ns).length := by
  obtain ⟨o, es, ep, t, _, _, _, _, hn, hm, _, _, hc, _⟩ := R
  have l : (es.toList.map keyOf).length = c := by rw [List.length_map, Array.length_toList]; exact hc
  have k1 : (es.toList.map keyOf).length ≤ (asc ns).length := nodup_le hn fun x hx => asc_mem.mpr (by simpa using (hm x).mpr hx)
  have k2 : (asc ns).length ≤ (es.toList.map keyOf).length := nodup_le (asc_nodup ns) fun x hx => (hm x).mp (by simpa using asc_mem.mp hx)
  omega
def rSetL (X : Cx) : List V → Hp → VK → Prop := fun xs H Q => ∃ (l : Addr) (ns : List Int), xs = [V.ref l] ∧ SqL X.K H l (ns.map V.int) ∧ ns.length < 4000 ∧
  ∀ (p : Addr) (n : Nat), n = (asc ns).length → H p = none → Q (.ref p) (upd H p (SetO X.w p (fun j => decide (j ∈ ns)) n))
theorem ints_of_vals : ∀ {ns : List Int} {us : List Value}, Vals (ns.map V.int) us → IntsAre us ns
  | [], _, .nil => .nil
  | n :: ns, _, .cons r t => by
    obtain ⟨k, rfl⟩ := r
    exact .cons n k (ints_of_vals t)
theorem cr_setL {X : Cx} (hc : X.calm = true) : CallR X (.type "set") (rSetL X) := by
  intro pins s σ H xs us Q I r h
  obtain ⟨l, ns, rfl, hq, hz, q⟩ := h
  rw [Vals.ref1 r]
  obtain ⟨its, rv, pl, _⟩ := I.list hq
  refine call_setL ns (I.ok.hd hc) pl.isList (by simpa using ints_of_vals rv) (by unfold scanBound; omega) fun h' tk c R hcn hk => ?_
  exact ⟨.ref _, upd H s.heap.objs.size (SetO X.w s.heap.objs.size (fun j => decide (j ∈ ns)) c), I.laid (t' := tk) (fun b u e => hk b u e) (Nat.le_refl _) (setO_new R), rfl, q _ c (setR_card R) (I.hok.fresh (Nat.le_refl _))⟩
section
variable {X : Cx} {W : XW X.K} {a : Expr} {m : EM} {p p2 q pos : Pos}
def sortSetG (c : Bool) (x : SV) (S : Store) : Res (SV × Store) := match (rdS S x).bind intsOf with
  | some ns => if ns.length < 4000 ∧ (asc ns).length < 64 then newL0 c ((asc ns).map fun i => SV.fr (.int i)) S else .stuck
  | none => .stuck
def eSortSet (c : Bool) (m : EM) : EM := fun rho S => (m rho S).bind fun x => sortSetG c x.1 x.2
theorem ints_den {K : PySem.W.Frag} {ph : List Addr} {H : Hp} : ∀ ns : List Int, DenSs K ph H (ns.map V.int) (ns.map fun i => SV.fr (.int i))
  | [] => .nil
  | i :: ns => .cons (Den.int i) (ints_den ns)
theorem pd_sortSet (c : Bool) (hm : X.mg "sorted" = none) (hm2 : X.mg "set" = none) (ha : PD X W a m) (hc : X.calm = true := by rfl) (hg : Gl X "sorted" := by rfl) (hg2 : Gl X "set" := by rfl)
    (he : starEach [a] X.env = (false, eval a X.env) :: starEach [] X.env := by rfl) (hpl : (backTo q (starEach [] X.env)).any (·.1) = false := by rfl)
    (he2 : starEach [Expr.Call (.Name "set" p2) [a] [] q] X.env = (false, eval (Expr.Call (.Name "set" p2) [a] [] q) X.env) :: starEach [] X.env := by rfl) (hpl2 : (backTo pos (starEach [] X.env)).any (·.1) = false := by rfl) :
    PD X W (.Call (.Name "sorted" p) [.Call (.Name "set" p2) [a] [] q] [] pos) (eSortSet c m) := by
  obtain ⟨ta, pa, sa⟩ := ha.ex
  refine ⟨_, pe_callB (cr_sortedSet hc) hg hm PyProof.Rows.boot_sorted (pa_cons (pe_callTy (cr_setL hc) hg2 hm2 PyProof.Rows.boot_set (pa_cons pa pa_nil he) (by decide) (by decide) he hpl) pa_nil he2) (by decide) (by decide) he2 hpl2, fun ph S H sg rho Q g so h => ?_⟩
  refine sa ph S H sg rho _ g so (holds_imp (holds_bind h) (fun x hx => ?_) fun _ _ _ q => q)
  intro ph1 v1 H1 x1 g1 d1
  unfold sortSetG at hx
  split at hx
  · rename_i ns hns
    split at hx
    · rename_i hz
      obtain ⟨ys, hy, hn⟩ := Option.bind_eq_some_iff.mp hns
      obtain ⟨l, vs, rfl, s, r⟩ := rdS_ok g1 d1 hy
      rw [intsOf_ok r hn] at s
      refine ⟨l, ns, rfl, s, hz.1, fun p1 n hnn hp => ?_⟩
      have g2 : Good X.K ph1 (upd H1 p1 (SetO X.w p1 (fun j => decide (j ∈ ns)) n)) _ := g1.fresh hp
      refine ⟨p1, _, n, rfl, upd_same, by have := hz.2; omega, fun out p3 h1 h2 h3 h4 => ?_⟩
      have e : out = asc ns := asc_uniq h1 (asc_asc ns) fun k => by rw [h2 k, asc_mem, decide_eq_true_iff]
      subst e
      exact newL0_ok g2 (ints_den (asc ns)) (holds_imp hx (fun c => post.mono (x1.trans (Ext.fresh hp)) c) fun _ _ _ q => q) p3 h4
    · exact hx.elim
  · exact hx.elim
end
/-! ### names of the module that hold a number or a text -/
theorem pd_cint {X : Cx} {W : XW X.K} {pos : Pos} {x : Str} {i : Int} (hm : ∃ t, X.mg x = some (.int i t)) (hg : Gl X x := by rfl) (hdb : (x == ("__debug__" : Str)) = false := by decide) : PD X W (.Name x pos) (eC (.int i)) := by
  obtain ⟨t, hm⟩ := hm
  exact pd_const (pe_glob hg hm (v := .int i) ⟨t, rfl⟩ hdb) fun _ => .int i
theorem pd_cstr {X : Cx} {W : XW X.K} {pos : Pos} {x z : Str} (hm : ∃ t, X.mg x = some (.str z t)) (hg : Gl X x := by rfl) (hdb : (x == ("__debug__" : Str)) = false := by decide) : PD X W (.Name x pos) (eC (.str z)) := by
  obtain ⟨t, hm⟩ := hm
  exact pd_const (pe_glob hg hm (v := .str z) ⟨t, rfl⟩ hdb) fun _ => .str z
def fcInt (x : Str) (i : Int) : Fc := fun K => (He.Fa.int x i).ok K
def fcStr (x z : Str) : Fc := fun K => (He.Fa.str x z).ok K
theorem cint_of {K : PySem.W.Frag} {mg : Str → Option Value} {h : Heap} {x : Str} {i : Int} (X : K.In h) (G : h.Ns mainGlobals mg) (c : fcInt x i K = true) : ∃ t, mg x = some (.int i t) := He.int_ok X G c
theorem cstr_of {K : PySem.W.Frag} {mg : Str → Option Value} {h : Heap} {x z : Str} (X : K.In h) (G : h.Ns mainGlobals mg) (c : fcStr x z K = true) : ∃ t, mg x = some (.str z t) := He.str_ok X G c
end DL

namespace DL
open PySem PySem.Spec PyProof.Rows L2

/-! ### a, b, .. = a list -/
section
variable {X : Cx} {W : XW X.K} {pos : Pos}
def gUl (n : Nat) (m : GMs) : GM := fun x rho S => match rdS S x with
  | some xs => if xs.length = n then m xs rho S else .stuck
  | none => .stuck
theorem pgd_unl {is : List Nat} {es : List Expr} {k n : Nat} {m : GMs} (hc : X.calm = true) (h : PGDs X W is es m) (hn : (assignEach es X.env).length = n := by rfl) (hst : (assignEach es X.env).findIdx? (·.1) = none := by rfl) : PGD X W is (.Tuple es k pos) (gUl n m) := by
  obtain ⟨t, p, s⟩ := h.ex
  refine ⟨_, pg_unl hc p hn hst, fun ph S H sg rho v x Q g so d h => ?_⟩
  unfold gUl at h
  split at h
  · rename_i xs hx
    split at h
    · rename_i hl
      obtain ⟨q, vs, rfl, sq, r⟩ := rdS_ok g d hx
      exact ⟨q, vs, rfl, sq, by rw [r.length]; exact hl, s ph S H sg rho _ _ Q g so r h⟩
    · exact h.elim
  · exact h.elim
theorem three_of {K : PySem.W.Frag} {ph : List Addr} {H : Hp} {vs : List V} {x y z : SV} (h : DenSs K ph H vs [x, y, z]) : ∃ v u w, vs = [v, u, w] ∧ DenS K ph H v x ∧ DenS K ph H u y ∧ DenS K ph H w z := by
  cases h with
  | cons h t =>
    obtain ⟨u, w, rfl, q, r⟩ := two_of t
    exact ⟨_, u, w, rfl, h, q, r⟩
def sPar3 (i j l : Nat) (m : AM) : SM := fun rho S => (m rho S).bind fun x => match x.1 with
  | [u, v, w] => .ok (.nx, ((rho.set i (some u)).set j (some v)).set l (some w), x.2)
  | _ => .stuck
theorem psd_par3 {i j k : Nat} {x y z : Str} {a b c : Expr} {m : AM} {px py pz pt : Pos} {kt k2 : Nat} {pt2 : Pos} (hc : X.calm = true) (hN : X.N.Nodup) (ha : PDA X W [a, b, c] m) (hi : X.N[i]? = some x := by rfl) (hj : X.N[j]? = some y := by rfl) (hk : X.N[k]? = some z := by rfl) (hij : i ≠ j := by decide) (hik : i ≠ k := by decide) (hjk : j ≠ k := by decide)
    (hx : X.env.scope.names.lookup x = some .local := by rfl) (hy : X.env.scope.names.lookup y = some .local := by rfl) (hz : X.env.scope.names.lookup z = some .local := by rfl) (hw : swappedStores [.Tuple [.Name x px, .Name y py, .Name z pz] kt pt] (.Tuple [a, b, c] k2 pt2) X.env = pure (some [x, y, z]) := by rfl)
    (hs : swapsWithSole [.Tuple [.Name x px, .Name y py, .Name z pz] kt pt] (.Tuple [a, b, c] k2 pt2) pos.line X.env = pure false := by rfl) : PSD X W (.Assign [.Tuple [.Name x px, .Name y py, .Name z pz] kt pt] (.Tuple [a, b, c] k2 pt2) pos) (sPar3 i j k m) := by
  obtain ⟨t, p, s⟩ := ha.ex
  refine ⟨_, ps_par3 hc hN hi hj hk hij hik hjk hx hy hz p hw hs, fun ph S H sg rho Dn g so h => s ph S H sg rho _ g so (holds_imp (holds_bind h) (fun z hz => ?_) fun _ _ _ q => q)⟩
  intro ph1 vs H1 x1 g1 d1
  obtain ⟨xs, S1⟩ := z
  dsimp only at *
  split at hz
  · obtain ⟨v, u, w, rfl, dv, du, dw⟩ := three_of d1
    exact ⟨v, u, w, rfl, hz ph1 _ H1 x1 g1 ((((so.mono x1).set i dv).set j du).set k dw)⟩
  · exact hz.elim
end
end DL

namespace DL
open PySem PySem.Spec PyProof.Rows L2

/-! ### C.m(..), xs[::-1] -/
section
variable {X : Cx} {W : XW X.K} {e : Expr} {es : List Expr} {m : AM} {t : TA} {pos p apos : Pos} {nm n : Str} {k : Nat} {f : FnM}
theorem pe_cmA {pl : Sem Bool} (C : CmD X.prog X.w X.K X.mg X.base k nm n f) (hr : Room k X.A) (hgd : X.A.guards = some []) (hg : Gl X n) (hdb : (n == ("__debug__" : Str)) = false) (ha : PA X (e :: es) t)
    (hst : starEach (e :: es) X.env = (false, eval e X.env) :: starEach es X.env) (hpl : (backTo pos (starEach es X.env)).any (·.1) = false)
    (ht : eval (.Call (.Attribute (.Name n p) nm apos) (e :: es) [] pos) X.env = (do
      let recv ← eval (.Name n p) X.env
      standAt apos.atName
      let (g, first) ← holding [recv] (getMethod recv nm pl)
      callWith pos g first (backTo pos (starEach (e :: es) X.env)) (backToKw pos (keywordEach [] X.env)))) :
    PE X (.Call (.Attribute (.Name n p) nm apos) (e :: es) [] pos) (fun sg H Q => t sg H fun vs H2 => spD X.K f (.ref (He.ga X.K n) :: vs) H2 Q E0) := by
  obtain ⟨q, g, mc, hm, rd, cm, F⟩ := C.ex
  refine ⟨fun pins s σ H Q I h => ?_⟩
  refine PySem.W.methodCall_KW (pl := pl) (thn ((pe_glob (pos := p) hg hm (v := .ref (He.ga X.K n)) rfl hdb).run pins s σ H (fun v H1 => v = .ref (He.ga X.K n) ∧ H1 = H) I ⟨rfl, rfl⟩) fun u s1 ⟨x, H1, I1, rx, ex, eh⟩ => ?_) ht
  subst ex eh
  obtain rfl : u = Value.ref (He.ga X.K n) := rx
  refine ClX.getmethcm_ok I1 rd cm fun s2 I2 => ?_
  refine ClX.callwith_cm I2 (ClX.base_none I1 (Nat.le_refl _)) cm.fi (thn (ha.run pos _ s2 σ H1 _ I2 h) fun us s3 ⟨vs, H2, I3, rv, q2⟩ => ⟨⟨ClX.pin_at I3, I3.kIn⟩, ?_⟩) hst hpl
  have z : wpAny (model X.prog X.w) X.A (call (.ref s1.heap.objs.size) us) (EP X ((s1.heap.objs.size, PySem.W.methodObj (.ref g) (.ref (He.ga X.K n))) :: pins) σ Q) X.xe s3 :=
    wpAny_call (PySem.W.method_call (ClX.pin_at I3) (runDc (us := .ref (He.ga X.K n) :: us) (vs := .ref (He.ga X.K n) :: vs) F hr hgd I3 (.cons rfl rv) q2))
  exact thn z fun _ _ y => ClX.unpinE y
def eCmA (cc : Bool) (n : Str) (f : FnM) (m : AM) : EM := fun rho S => (m rho S).bind fun y => (noX (f (.fr (.cls n) :: y.1) y.2)).bind (back cc)
theorem pd_cmA {pl : Sem Bool} (cc : Bool) (C : CmD X.prog X.w X.K X.mg X.base k nm n f) (hr : Room k X.A) (hgd : X.A.guards = some []) (ha : PDA X W (e :: es) m) (hg : Gl X n := by rfl) (hdb : (n == ("__debug__" : Str)) = false := by decide)
    (hst : starEach (e :: es) X.env = (false, eval e X.env) :: starEach es X.env := by rfl) (hpl : (backTo pos (starEach es X.env)).any (·.1) = false := by rfl)
    (ht : eval (.Call (.Attribute (.Name n p) nm apos) (e :: es) [] pos) X.env = (do
      let recv ← eval (.Name n p) X.env
      standAt apos.atName
      let (g, first) ← holding [recv] (getMethod recv nm pl)
      callWith pos g first (backTo pos (starEach (e :: es) X.env)) (backToKw pos (keywordEach [] X.env))) := by rfl) :
    PD X W (.Call (.Attribute (.Name n p) nm apos) (e :: es) [] pos) (eCmA cc n f m) := by
  obtain ⟨t, pa, sa⟩ := ha.ex
  refine ⟨_, pe_cmA C hr hgd hg hdb pa hst hpl ht, fun ph S H sg rho Q gd so h => sa ph S H sg rho _ gd so (holds_imp (holds_bind h) (fun y hy => ?_) fun _ _ _ q => q)⟩
  intro ph1 vs H1 x1 g1 d1
  exact ⟨ph1, y.2, .fr (.cls n) :: y.1, g1, .cons (Den.cls n) d1, noX_ok (holds_imp (holds_bind hy) (fun r hr => back_ok x1 hr) fun _ _ _ q => q)⟩
end
section
variable {X : Cx} {W : XW X.K} {a : Expr} {m : EM} {k : Nat} {p1 p2 p3 pos : Pos}
def revG (c : Bool) (x : SV) (S : Store) : Res (SV × Store) := match rdS S x with
  | some xs => newL0 c xs.reverse S
  | none => .stuck
def eRev (c : Bool) (m : EM) : EM := fun rho S => (m rho S).bind fun x => revG c x.1 x.2
theorem paired_app {α β : Type} {P : α → β → Prop} : ∀ {a c : List α} {b d : List β}, Paired P a b → Paired P c d → Paired P (a ++ c) (b ++ d)
  | _, _, _, _, .nil, h => h
  | _, _, _, _, .cons x t, h => .cons x (paired_app t h)
theorem densS_rev {K : PySem.W.Frag} {ph : List Addr} {H : Hp} {vs : List V} {xs : List SV} (h : DenSs K ph H vs xs) : DenSs K ph H vs.reverse xs.reverse := by
  induction h with
  | nil => exact .nil
  | cons h t ih =>
    rw [List.reverse_cons, List.reverse_cons]
    exact paired_app ih (.cons h .nil)
theorem pd_rev (c : Bool) (ha : PD X W a m) : PD X W (.Subscript a (.Slice none none (some (.UnaryOp .USub (.Constant (.int 1) k p1) p2)) p3) pos) (eRev c m) := by
  obtain ⟨ta, pa, sa⟩ := ha.ex
  refine ⟨_, pe_revL pa, fun ph S H sg rho Q g so h => ?_⟩
  refine sa ph S H sg rho _ g so (holds_imp (holds_bind h) (fun x hx => ?_) fun _ _ _ q => q)
  intro ph1 v1 H1 x1 g1 d1
  unfold revG at hx
  split at hx
  · rename_i ys hy
    obtain ⟨l, vs, rfl, s, r⟩ := rdS_ok g1 d1 hy
    refine ⟨l, vs, rfl, s, fun p3 h4 => ?_⟩
    exact newL0_ok g1 (densS_rev r) (holds_imp hx (fun c => post.mono x1 c) fun _ _ _ q => q) p3 h4
  · exact hx.elim
end
end DL

namespace DL
open PySem PySem.Spec PyProof.Rows L2
def isBG (n : Bool) : G2 := fun a b S => match a, b with
  | .fr (.bl x), .fr (.bl y) => okV (.bl (if n then !decide (x = y) else decide (x = y))) S
  | _, _ => .stuck
section
variable {X : Cx} {W : XW X.K}
theorem isB_ok : Op2 X W rIsB (isBG false) := by
  intro ph S H x y a b Q g da db h
  unfold isBG at h
  split at h
  · exact ⟨_, _, d_bl da, d_bl db, fin_v g (.bl _) h⟩
  · exact h.elim
theorem isNotB_ok : Op2 X W rNotB (isBG true) := by
  intro ph S H x y a b Q g da db h
  unfold isBG at h
  split at h
  · exact ⟨_, _, d_bl da, d_bl db, fin_v g (.bl _) h⟩
  · exact h.elim
variable {a b : Expr} {ma mb : EM} {pos : Pos}
theorem pd_isB (ha : PD X W a ma) (hb : PD X W b mb) : PD X W (.Compare a [.Is] [b] pos) (e2 (isBG false) ma mb) := pd_cmp op_isBl isB_ok ha hb
theorem pd_isnotB (ha : PD X W a ma) (hb : PD X W b mb) : PD X W (.Compare a [.IsNot] [b] pos) (e2 (isBG true) ma mb) := pd_cmp op_notBl isNotB_ok ha hb
theorem pt_isB (ha : PD X W a ma) (hb : PD X W b mb) : PDT X W (.Compare a [.Is] [b] pos) (tB (e2 (isBG false) ma mb)) := pt_2 op_isBl isB_ok ha hb
theorem pt_isnotB (ha : PD X W a ma) (hb : PD X W b mb) : PDT X W (.Compare a [.IsNot] [b] pos) (tB (e2 (isBG true) ma mb)) := pt_2 op_notBl isNotB_ok ha hb
end
theorem r_isB (n x y : Bool) (S : Store) : isBG n (.fr (.bl x)) (.fr (.bl y)) S = .ok (.fr (.bl (if n then !decide (x = y) else decide (x = y))), S) := id rfl
end DL

namespace DL
open PySem PySem.Spec PyProof.Rows L2
/-- a def of the module with n positional parameters and one keyword-only one, None by default -/
structure CalW (P : Program) (w : World) (K : PySem.W.Frag) (mg : Str → Option Value) (base : Heap) (k : Nat) (x : Str) (n : Nat) (key : Str) (m : FnM) : Prop where
  ex : ∃ f fd ps, mg x = some (.ref f) ∧ PySem.W.keepIn K (.ref f) = true ∧ (∃ ds, Vals [V.non] ds ∧ Binds K fd ps ds) ∧ (∃ g, KBn K fd ps n [key] g fun vs zs => vs ++ zs) ∧ FnD P w K mg base k f fd ps m
section
variable {P : Program} {w : World} {K : PySem.W.Frag} {mg : Str → Option Value} {base : Heap}
theorem calW_of {k n : Nat} {x key : Str} {st : Stmt} {f : Addr} {fd : FuncData} {N ps : List Str} {b : SM} (F : FunD K x x (defArgs st) (defBody st) (defScope st) [] [(key, V.non)] f fd) (hm : mg x = some (.ref f))
    (hd : ∃ ds, Vals [V.non] ds ∧ Binds K fd ps ds) (hk : ∃ g, KBn K fd ps n [key] g fun vs zs => vs ++ zs) (Sc : FnScope N ps (defScope st))
    (hb : ∀ (cdv : Value) (A : Around) (outer : List Env) (s : Shared) (H : Hp) (E : XK), (A.deeper (envOfC x (defScope st) s.heap.objs.size f cdv)).guards = some [] → Room k (A.deeper (envOfC x (defScope st) s.heap.objs.size f cdv)) →
      PSDs (cxOf (L2.CX P w) P w K mg base N x (defScope st) f cdv A outer s H E) (XW.fn K E) (defBody st) b) : CalW P w K mg base (k + 1) x n key (fnM ps.length N.length b) := by
  have kp := F.kp
  obtain ⟨oc, od, dV, kV, doc, pm, an, cdv, ct, osl, rfl, lk, hcd, _, _⟩ := F.ex
  exact ⟨f, _, ps, hm, kp, hd, hk, fnD_of lk hcd Sc fun A outer s H E => hb cdv A outer s H E⟩
end
/-- the def called without the keyword -/
def fillN (f : FnM) : FnM := fun as S => f (as ++ [.fr .non]) S
/-- positional values, then the keyword's -/
def k_cw1 (n : Nat) (f : FnM) (cc : Bool) (xs : List SV) (y : List SV × Store) : Res (SV × Store) := if xs.length = n ∧ y.1.length = 1 then (noX (f (xs ++ y.1) y.2)).bind (back cc) else .stuck
def k_cw (n : Nat) (f : FnM) (cc : Bool) (mk : AM) (rho : Slots) (x : List SV × Store) : Res (SV × Store) := (mk rho x.2).bind (k_cw1 n f cc x.1)
def eCallW (n : Nat) (f : FnM) (cc : Bool) (m mk : AM) : EM := fun rho S => (m rho S).bind (k_cw n f cc mk rho)
theorem r_cw (n : Nat) (f : FnM) (cc : Bool) (m mk : AM) (rho : Slots) (S : Store) : eCallW n f cc m mk rho S = (m rho S).bind (k_cw n f cc mk rho) := id rfl
theorem s_cw (n : Nat) (f : FnM) (cc : Bool) (mk : AM) (rho : Slots) (xs : List SV) (S : Store) : k_cw n f cc mk rho (xs, S) = (mk rho S).bind (k_cw1 n f cc xs) := id rfl
theorem s_cw1 {n : Nat} {xs : List SV} (h : xs.length = n) (f : FnM) (cc : Bool) (y : SV) (S : Store) : k_cw1 n f cc xs ([y], S) = (noX (f (xs ++ [y]) S)).bind (back cc) := if_pos ⟨h, rfl⟩
theorem r_fill (f : FnM) (as : List SV) (S : Store) : fillN f as S = f (as ++ [.fr .non]) S := id rfl
section
variable {X : Cx} {W : XW X.K} {x : Str} {p pos : Pos} {e : Expr} {es : List Expr} {m : AM}
theorem spD_fill {K : PySem.W.Frag} {f : FnM} {vs : List V} {H : Hp} {Q : VK} {E : XK} (h : spD K (fillN f) vs H Q E) : spD K f (vs ++ [.non]) H Q E := by
  obtain ⟨ph, S, as, g, d, h⟩ := h
  have q : DenS K ph H V.non (SV.fr D.non) := Den.non
  have p : DenSs K ph H (vs ++ [V.non]) (as ++ [SV.fr D.non]) := paired_append d (.cons q .nil)
  have h2 : holds (f (as ++ [SV.fr D.non]) S) (postF K ph H Q) (postX K ph H E) := h
  exact ⟨ph, S, as ++ [SV.fr D.non], g, p, h2⟩
theorem pe_callW0 {k j n : Nat} {x key : Str} {f : FnM} {t : TA} (c : CalW X.prog X.w X.K X.mg X.base k x n key f) (hr : Room j X.A) (hk : k ≤ j) (hgd : X.A.guards = some []) (hg : Gl X x) (ha : PA X (e :: es) t)
    (hdb : (x == ("__debug__" : Str)) = false) (he : starEach (e :: es) X.env = (false, eval e X.env) :: starEach es X.env) (hpl : (backTo pos (starEach es X.env)).any (·.1) = false) :
    PE X (.Call (.Name x p) (e :: es) [] pos) (fun sg H Q => t sg H fun vs H1 => spD X.K f (vs ++ [.non]) H1 Q E0) := by
  obtain ⟨g, fd, ps, hm, hkp, ⟨ds, rds, hbd⟩, _, F⟩ := c.ex
  refine ⟨fun pins s sg H Q I h => wpAny_Call_Name_kw (ld_glob I hg hm ?_ hdb)⟩
  refine PySem.W.callWith_K (h₀ := X.base) I.ok.mod.kin hkp (thn (ha.run pos pins s sg H _ I h) fun us s1 ⟨vs, H1, I1, r, q⟩ => ⟨I1.kIn, ?_⟩) he hpl
  have r2 : Vals (vs ++ [V.non]) (us ++ ds) := r.append rds
  have hl : (us ++ ds).length = ps.length := by rw [← r2.length]; exact F.len _ _ _ _ q
  have bt := hbd s1 us I1.kIn hl
  refine wpAny_call (codeAny_mono (F.run X.A X.stack s1 H1 ⟨us, []⟩ (us ++ ds) (vs ++ [V.non]) Q E0 hgd (hr.mono hk) I1.env0 bt r2 q) fun r s' hq => ?_)
  cases r with
  | error e => exact passL pins sg H1 s1 e s' I1 hq
  | ok fl =>
    cases fl with
    | ret u => exact I1.after hq
    | next => exact False.elim hq
    | brk => exact False.elim hq
    | cont => exact False.elim hq
theorem pd_callW0 {k j n : Nat} {x key : Str} {f : FnM} (cc : Bool) (c : CalW X.prog X.w X.K X.mg X.base k x n key f) (hr : Room j X.A) (hk : k ≤ j) (hgd : X.A.guards = some []) (ha : PDA X W (e :: es) m) (hg : Gl X x := by rfl)
    (hdb : (x == ("__debug__" : Str)) = false := by decide) (he : starEach (e :: es) X.env = (false, eval e X.env) :: starEach es X.env := by rfl) (hpl : (backTo pos (starEach es X.env)).any (·.1) = false := by rfl) : PD X W (.Call (.Name x p) (e :: es) [] pos) (eCall (fillN f) cc m) := by
  obtain ⟨t, pa, sa⟩ := ha.ex
  refine ⟨_, pe_callW0 c hr hk hgd hg pa hdb he hpl, fun ph S H sg rho Q gd so h => sa ph S H sg rho _ gd so (holds_imp (holds_bind h) (fun y hy => ?_) fun _ _ _ q => q)⟩
  intro ph1 vs H1 x1 g1 d1
  exact spD_fill ⟨ph1, y.2, y.1, g1, d1, noX_ok (holds_imp (holds_bind hy) (fun r hr => back_ok x1 hr) fun _ _ _ q => q)⟩
/-- keywords -/
structure PKD (X : Cx) (W : XW X.K) (kws : List Keyword) (m : AM) : Prop where
  ex : ∃ t, PK X kws t ∧ ∀ (ph : List Addr) (S : Store) (H : Hp) (sg : L2.St) (rho : Slots) (Q : List V → Hp → Prop), Good X.K ph H S → SlotsOk X.K ph H sg rho →
    holds (m rho S) (postA X.K ph H Q) (W.rel ph H) → t sg H Q
theorem pkd_one {nm : Option Str} {a : Expr} {ma : EM} {kpos : Pos} (ha : PD X W a ma) : PKD X W [⟨nm, a, kpos⟩] (aC ma aN) := by
  obtain ⟨ta, pa, sa⟩ := ha.ex
  obtain ⟨tn, _, sn⟩ := (pda_nil (X := X) (W := W)).ex
  refine ⟨_, pk_cons pa pk_nil, fun ph S H sg rho Q gd so h => sa ph S H sg rho _ gd so (holds_imp (holds_bind h) (fun x hx => ?_) fun _ _ _ q => q)⟩
  intro ph1 v1 H1 x1 g1 d1
  exact (show holds (Res.ok ([x.1], x.2)) (postA X.K ph H Q) (W.rel ph H) from hx) ph1 [v1] H1 x1 g1 (.cons d1 .nil)
/-- the call with the keyword -/
theorem pe_callW1 {k j n : Nat} {x key : Str} {f : FnM} {kws : List Keyword} {t tk : TA} (c : CalW X.prog X.w X.K X.mg X.base k x n key f) (hr : Room j X.A) (hk : k ≤ j) (hgd : X.A.guards = some []) (hg : Gl X x) (ha : PA X (e :: es) t) (hw : PK X kws tk)
    (hall : (backToKw pos (keywordEach kws X.env)).all (·.1.isSome) = true) (hks : (backToKw pos (keywordEach kws X.env)).filterMap (·.1) = [key])
    (hdb : (x == ("__debug__" : Str)) = false) (he : starEach (e :: es) X.env = (false, eval e X.env) :: starEach es X.env)
    (hpl : ((backTo pos (starEach (e :: es) X.env)).any (·.1) || (backToKw pos (keywordEach kws X.env)).any (·.1.isNone)) = false) :
    PE X (.Call (.Name x p) (e :: es) kws pos) (fun sg H Q => t sg H fun vs H1 => tk sg H1 fun zs H2 => vs.length = n ∧ zs.length = 1 ∧ spD X.K f (vs ++ zs) H2 Q E0) := by
  obtain ⟨g0, fd, ps, hm, hkp, _, ⟨g, hb⟩, F⟩ := c.ex
  refine ⟨fun pins s sg H Q I h => ?_⟩
  refine wpAny_Call_Name_kw (ld_glob I hg hm ?_ hdb)
  refine PySem.W.callWith_KW (h₀ := X.base) I.ok.mod.kin hkp hall (thn (ha.run pos pins s sg H _ I h) fun us s1 ⟨vs, H1, I1, r, q⟩ => ?_) hpl he
  refine thn (hw.run pos pins s1 sg H1 _ I1 q) fun ws s2 ⟨zs, H2, I2, rz, l1, l2, q2⟩ => ⟨I2.kIn, ?_⟩
  rw [hks]
  have r2 := hb.rel r rz
  have bt := hb.to s2 us ws I2.kIn (r.length.symm.trans l1) (rz.length.symm.trans l2)
  refine wpAny_call (codeAny_mono (F.run X.A X.stack s2 H2 ⟨us, [key].zip ws⟩ (g us ws) (vs ++ zs) Q E0 hgd (hr.mono hk) I2.env0 bt r2 q2) fun r s' hq => ?_)
  cases r with
  | error e => exact passL pins sg H2 s2 e s' I2 hq
  | ok fl =>
    cases fl with
    | ret u => exact I2.after hq
    | next => exact False.elim hq
    | brk => exact False.elim hq
    | cont => exact False.elim hq
theorem pd_callW1 {k j n : Nat} {x key : Str} {f : FnM} {kws : List Keyword} {mk : AM} (cc : Bool) (c : CalW X.prog X.w X.K X.mg X.base k x n key f) (hr : Room j X.A) (hk : k ≤ j) (hgd : X.A.guards = some []) (ha : PDA X W (e :: es) m) (hw : PKD X W kws mk)
    (hg : Gl X x := by rfl) (hall : (backToKw pos (keywordEach kws X.env)).all (·.1.isSome) = true := by rfl) (hks : (backToKw pos (keywordEach kws X.env)).filterMap (·.1) = [key] := by rfl)
    (hdb : (x == ("__debug__" : Str)) = false := by decide) (he : starEach (e :: es) X.env = (false, eval e X.env) :: starEach es X.env := by rfl)
    (hpl : ((backTo pos (starEach (e :: es) X.env)).any (·.1) || (backToKw pos (keywordEach kws X.env)).any (·.1.isNone)) = false := by rfl) : PD X W (.Call (.Name x p) (e :: es) kws pos) (eCallW n f cc m mk) := by
  obtain ⟨t, pa, sa⟩ := ha.ex
  obtain ⟨tk, pk, sk⟩ := hw.ex
  refine ⟨_, pe_callW1 c hr hk hgd hg pa pk hall hks hdb he hpl, fun ph S H sg rho Q gd so h => sa ph S H sg rho _ gd so (holds_imp (holds_bind h) (fun y hy => ?_) fun _ _ _ q => q)⟩
  intro ph1 vs H1 x1 g1 d1
  refine sk ph1 y.2 H1 sg rho _ g1 (so.mono x1) (holds_imp (holds_bind hy) (fun z hz => ?_) fun e r s q => W.mono _ _ _ _ e r s x1 q)
  intro ph2 zs H2 x2 g2 d2
  unfold k_cw1 at hz
  split at hz
  · rename_i hl
    exact ⟨d1.length.trans hl.1, d2.length.trans hl.2, ph2, z.2, y.1 ++ z.1, g2, paired_append (DenSs.mono x2 d1) d2, noX_ok (holds_imp (holds_bind hz) (fun r hr => back_ok (x1.trans x2) hr) fun _ _ _ q => q)⟩
  · exact hz.elim
end
section
variable {K : PySem.W.Frag} {x qual key : Str} {params : Arguments} {body : List Stmt} {scope : Scope} {f : Addr} {fd : FuncData} {ps : List Str}
theorem kw_d (F : FunD K x qual params body scope [] [(key, V.non)] f fd) (n : Nat) (hn : n + 1 = ps.length)
    (h : ∀ (D : Addr) (doc pm : Value) (an : Option Addr) (cdv ct : Value) (us ks : List Value), us.length = n → ks.length = 1 → KwChain D (([(key, V.non)].map (·.1)).zip ks) (bindArgs (PySem.W.fnOf x qual params body scope .none (.ref D) doc pm an cdv ct) ⟨us, []⟩) (ps.zip (us ++ ks))) :
    ∃ ds, Vals [V.non] ds ∧ Binds K fd ps ds := F.binds0 n (List.cons_ne_nil _ _) hn h
theorem kw_k (F : FunD K x qual params body scope [] [(key, V.non)] f fd) (n : Nat)
    (h : ∀ (D : Addr) (doc pm : Value) (an : Option Addr) (cdv ct : Value) (us ws : List Value), us.length = n → ws.length = 1 → bindArgs (PySem.W.fnOf x qual params body scope .none (.ref D) doc pm an cdv ct) ⟨us, [key].zip ws⟩ = pure (ps.zip (us ++ ws))) :
    ∃ g, KBn K fd ps n [key] g fun vs zs => vs ++ zs := by
  obtain ⟨mv, hb⟩ := F.kbinds0 (ps := ps) n [key] [] (fun us _ ws => us ++ ws) (List.cons_ne_nil _ _) (fun q hq => by cases hq) (fun a _ b => a.append b) fun D doc pm an cdv ct us mv ws l1 l2 l3 => h D doc pm an cdv ct us ws l1 l3
  exact ⟨_, hb⟩
end
end DL

namespace DL
open PySem PySem.Spec PyProof.Rows L2
section
variable {X : Cx} {W : XW X.K}
def maxI : List Int → Int
  | [] => 0
  | [a] => a
  | a :: b :: r => max a (maxI (b :: r))
def minI : List Int → Int
  | [] => 0
  | [a] => a
  | a :: b :: r => min a (minI (b :: r))
theorem maxI_ge : ∀ {ns : List Int} {y : Int}, y ∈ ns → y ≤ maxI ns
  | [a], y, h => by
    rw [List.mem_singleton] at h
    subst h
    exact Int.le_refl _
  | a :: b :: r, y, h => by
    unfold maxI
    rcases List.mem_cons.mp h with rfl | h
    · omega
    · have := maxI_ge h
      omega
theorem minI_le : ∀ {ns : List Int} {y : Int}, y ∈ ns → minI ns ≤ y
  | [a], y, h => by
    rw [List.mem_singleton] at h
    subst h
    exact Int.le_refl _
  | a :: b :: r, y, h => by
    unfold minI
    rcases List.mem_cons.mp h with rfl | h
    · omega
    · have := minI_le h
      omega
theorem maxI_mem : ∀ {ns : List Int}, ns ≠ [] → maxI ns ∈ ns
  | [], h => absurd rfl h
  | [a], _ => List.mem_cons_self
  | a :: b :: r, _ => by
    have ih := maxI_mem (ns := b :: r) (by simp)
    unfold maxI
    by_cases h : a ≤ maxI (b :: r)
    · rw [show max a (maxI (b :: r)) = maxI (b :: r) by omega]
      exact List.mem_cons_of_mem _ ih
    · rw [show max a (maxI (b :: r)) = a by omega]
      exact List.mem_cons_self
theorem minI_mem : ∀ {ns : List Int}, ns ≠ [] → minI ns ∈ ns
  | [], h => absurd rfl h
  | [a], _ => List.mem_cons_self
  | a :: b :: r, _ => by
    have ih := minI_mem (ns := b :: r) (by simp)
    unfold minI
    by_cases h : minI (b :: r) ≤ a
    · rw [show min a (minI (b :: r)) = minI (b :: r) by omega]
      exact List.mem_cons_of_mem _ ih
    · rw [show min a (minI (b :: r)) = a by omega]
      exact List.mem_cons_self
def max1G : GA := fun as S => match as with
  | [a] => match (rdS S a).bind intsOf with
    | some (n :: ns) => okV (.int (maxI (n :: ns))) S
    | _ => .stuck
  | _ => .stuck
theorem max1_ok : OpA X W (rMax X.K) max1G := by
  intro ph S H xs as Q g d h
  unfold max1G at h
  split at h
  · obtain ⟨v, rfl, dv⟩ := one_of d
    split at h
    · rename_i n ns hn
      obtain ⟨ys, hy, hn⟩ := Option.bind_eq_some_iff.mp hn
      obtain ⟨p, vs, rfl, s, r⟩ := rdS_ok g dv hy
      rw [intsOf_ok r hn] at s
      refine ⟨p, n :: ns, rfl, s, by simp, fun m hm hle => ?_⟩
      have e : m = maxI (n :: ns) := by
        have h1 := maxI_ge hm
        have h2 := hle _ (maxI_mem (ns := n :: ns) (by simp))
        omega
      subst e
      exact fin_v g (.int _) h
    · exact h.elim
  · exact h.elim
def min1G : GA := fun as S => match as with
  | [a] => match (rdS S a).bind intsOf with
    | some (n :: ns) => okV (.int (minI (n :: ns))) S
    | _ => .stuck
  | _ => .stuck
theorem min1_ok : OpA X W (rMin X.K) min1G := by
  intro ph S H xs as Q g d h
  unfold min1G at h
  split at h
  · obtain ⟨v, rfl, dv⟩ := one_of d
    split at h
    · rename_i n ns hn
      obtain ⟨ys, hy, hn⟩ := Option.bind_eq_some_iff.mp hn
      obtain ⟨p, vs, rfl, s, r⟩ := rdS_ok g dv hy
      rw [intsOf_ok r hn] at s
      refine ⟨p, n :: ns, rfl, s, by simp, fun m hm hle => ?_⟩
      have e : m = minI (n :: ns) := by
        have h1 := minI_le hm
        have h2 := hle _ (minI_mem (ns := n :: ns) (by simp))
        omega
      subst e
      exact fin_v g (.int _) h
    · exact h.elim
  · exact h.elim
end
theorem max1F {n : Int} {ns : List Int} {S : Store} : max1G [.fr (.lst ((n :: ns).map D.int))] S = .ok (.fr (.int (maxI (n :: ns))), S) := by
  unfold max1G
  have e : ∀ ns : List Int, intsOf ((ns.map D.int).map SV.fr) = some ns := by
    intro ns
    induction ns with
    | nil => rfl
    | cons a ns ih => simp only [List.map_cons, intsOf, ih, Option.map_some]
  simp only [rdS, rdL, Option.bind_some, e]
  rfl
theorem min1F {n : Int} {ns : List Int} {S : Store} : min1G [.fr (.lst ((n :: ns).map D.int))] S = .ok (.fr (.int (minI (n :: ns))), S) := by
  unfold min1G
  have e : ∀ ns : List Int, intsOf ((ns.map D.int).map SV.fr) = some ns := by
    intro ns
    induction ns with
    | nil => rfl
    | cons a ns ih => simp only [List.map_cons, intsOf, ih, Option.map_some]
  simp only [rdS, rdL, Option.bind_some, e]
  rfl
end DL

namespace DLN
open PySem PySem.W PySem.Calls PyProof.Rows
section
variable {prog : Program} {w : World} {A : Around} {E : Value → Shared → Prop} {s : Shared} {K : Frag} {x C L f : Addr} {h₀ : Heap} {m : Str → Option Value} {ox : Obj} {od : Option Obj} {name : Str} {b tb : Value}
theorem ifBound_B {M : Model} {id : String} {args : List Value} {Q : Option Value → Shared → Prop} (X : K.In s.heap) (I : InstAt s.heap x ox C od) (hs : findIn K (.ref C) name = some (some (.builtin id)))
    (hb : ∀ self, bindSpecial (.builtin id) self = pure (.builtin id, [self])) (h : wpAny M A (call (.builtin id) (.ref x :: args)) (fun v => Q (some v)) E s) : wpAny M A (callSpecialIfBound? (.ref x) name args) Q E s := by
  simp only [callSpecialIfBound?, bindSpecialIfBound?]
  refine wpAny_holding (wpAny_bind (wpAny_bind (wpAny_bind (I.type.here ((looks_findIn X hs).here ?_)))))
  refine wpAny_bind (wpAny_askSetting (wpAny_ite ?_))
  have fin : wpAny M A (call (.builtin id) ([.ref x] ++ args) >>= fun v => pure (some v)) Q E s := wpAny_bind (wpAny_mono h (fun v s' h' => wpAny_pure h') fun _ _ h' => h')
  split
  · exact wpAny_bind ((Looks.of_pure (hb _)).here (wpAny_pure (by exact fin)))
  · exact wpAny_tryCatch (wpAny_bind ((Looks.of_pure (hb _)).here (wpAny_pure (by exact fin))))
open Builtin in
theorem ne_obj {Q : Value → Shared → Prop} (hu : A.in1.units < cLine) (X : K.In s.heap) (I : InstAt s.heap x ox C od) (hm : mroIn K C (.type "object") = some true) (hr : findIn K (.ref C) "__eq__" = some (some (.ref f))) (hf : isFn K (.ref f) = true)
    (h : wpAny (model prog w) A.in1 (call (.ref f) [.ref x, b]) (fun v s' => ∃ r, v = .bool r ∧ Q (.bool (!r)) s') E s) : wpAny (model prog w) A (call (.builtin "object.__ne__") [.ref x, b]) Q E s := by
  refine wpAny_call (codeAny_call_builtin PySem.F.cmp_object.ne.plain PySem.F.cmpEntry_ne (check_slot (i := "object.__ne__") (owner := "object") (n := "__ne__") (by decide +kernel) (by decide +kernel) (I.type.andThen (looks_mroIn X hm)) (PySem.F.cmpArgs_ne _ _) ?_))
  unfold Builtin.«object.__ne__»
  refine wpAny_bind (m := slotArgs "__ne__" 1 _) (wpAny_pure ?_)
  refine wpAny_bind (m := cRoomFor _ _) (wpAny_cRoomFor hu ?_)
  refine wpAny_bind (m := callSpecialIfBound? (.ref x) (Str.ofString "__eq__") _) (ifBound_K X I hr hf (wpAny_mono h (fun r s' hq => ?_) fun _ _ y => y))
  obtain ⟨r, rfl, q⟩ := hq
  exact wpAny_bind (wpAny_pure (wpAny_pure q))
theorem ne_K {Q : Value → Shared → Prop} (hu : A.units < cLine) (hu1 : A.in1.units < cLine) (F : Fr h₀ L s.heap m) (X₀ : K.In h₀) (I : InstAt s.heap x ox C od) (hb : Looks (model prog w) s.heap (typeOf b) tb) (hn : notFirst K C tb = true)
    (hne : findIn K (.ref C) "__ne__" = some (some (.builtin "object.__ne__"))) (hm : mroIn K C (.type "object") = some true) (hs : findIn K (.ref C) "__eq__" = some (some (.ref f))) (hf : isFn K (.ref f) = true)
    (h : wpAny (model prog w) A.in1 (call (.ref f) [.ref x, b]) (fun v s' => ∃ r, v = .bool r ∧ Q (.bool (!r)) s') E s) : wpAny (model prog w) A (richCompare .NotEq (.ref x) b) Q E s := by
  have X := X₀.keeps F.keep
  have one : wpAny (model prog w) A (tryCompare (.ref x) "__ne__" b) (fun r s' => ∃ v, r = some v ∧ Q v s') E s := by
    unfold tryCompare
    refine wpAny_bind (ifBound_B X I hne PySem.F.cmp_object.ne.bind (ne_obj hu1 X I hm hs hf (wpAny_mono h (fun v s' hv => ?_) fun _ _ e => e)))
    obtain ⟨r, rfl, q⟩ := hv
    exact ⟨r, rfl, wpAny_pure ⟨_, rfl, q⟩⟩
  unfold richCompare
  simp only [oneThing_ref]
  refine wpAny_holding (wpAny_bind (wpAny_cRoomFor hu ?_))
  refine wpAny_bind (I.type.here (wpAny_bind (hb.here ?_)))
  split
  · rename_i q
    have e : subIn K tb (.ref C) = some false := by
      rcases Bool.or_eq_true_iff.mp hn with e | e
      · rw [beq_iff_eq.mp e] at q; simp at q
      · exact beq_iff_eq.mp e
    refine wpAny_bind ((looks_subIn X e).here ?_)
    simp only [Bool.false_eq_true, if_false]
    refine wpAny_bind (wpAny_mono one (fun r s' z => ?_) fun _ _ e => e)
    obtain ⟨v, rfl, hq⟩ := z
    exact wpAny_pure hq
  · refine wpAny_bind (wpAny_pure ?_)
    simp only [Bool.false_eq_true, if_false]
    refine wpAny_bind (wpAny_mono one (fun r s' z => ?_) fun _ _ e => e)
    obtain ⟨v, rfl, hq⟩ := z
    exact wpAny_pure hq
end
end DLN
namespace DL
open PySem PySem.Spec PyProof.Rows L2
def six : List String := ["NoneType", "bool", "int", "str", "tuple", "list"]
/-- what == and != ask of the classes with an own __eq__ -/
structure EqsOk (K : PySem.W.Frag) (ns : List Str) : Prop where
  ne : ∀ n ∈ ns, PySem.W.findIn K (.ref (He.ga K n)) "__ne__" = some (some (.builtin "object.__ne__"))
  ob : ∀ n ∈ ns, PySem.W.mroIn K (He.ga K n) (.type "object") = some true
  ty : ∀ n ∈ ns, ∀ t ∈ six, PySem.W.notFirst K (He.ga K n) (.type t) = true
  ow : ∀ n ∈ ns, ∀ m ∈ ns, PySem.W.notFirst K (He.ga K n) (.ref (He.ga K m)) = true
  isi : ∀ n ∈ ns, IsiOk K n
def fcEqs (ns : List Str) : Fc := fun K => (ns.all fun n => He.eqO (PySem.W.findIn K (.ref (He.ga K n)) "__ne__") (some (some (.builtin "object.__ne__")))) && ((ns.all fun n => decide (PySem.W.mroIn K (He.ga K n) (.type "object") = some true)) &&
  ((ns.all fun n => six.all fun t => PySem.W.notFirst K (He.ga K n) (.type t)) && (ns.all fun n => ns.all fun m => PySem.W.notFirst K (He.ga K n) (.ref (He.ga K m)))))
theorem isis_nil {K : PySem.W.Frag} : ∀ n ∈ ([] : List Str), IsiOk K n := fun _ h => nomatch h
theorem isis_cons {K : PySem.W.Frag} {n : Str} {ns : List Str} (h : IsiOk K n) (t : ∀ m ∈ ns, IsiOk K m) : ∀ m ∈ n :: ns, IsiOk K m := fun m hm => (List.mem_cons.mp hm).elim (fun e => e ▸ h) (t m)
theorem eqs_of {K : PySem.W.Frag} {ns : List Str} (c : fcEqs ns K = true) (h : ∀ n ∈ ns, IsiOk K n) : EqsOk K ns := by
  unfold fcEqs at c
  simp only [Bool.and_eq_true] at c
  obtain ⟨h1, h2, h3, h4⟩ := c
  exact ⟨fun n hn => He.eqO_ok (List.all_eq_true.mp h1 n hn), fun n hn => of_decide_eq_true (List.all_eq_true.mp h2 n hn), fun n hn t ht => List.all_eq_true.mp (List.all_eq_true.mp h3 n hn) t ht, fun n hn m hm => List.all_eq_true.mp (List.all_eq_true.mp h4 n hn) m hm, h⟩
section
variable {X : Cx} {W : XW X.K} {pins : List (Addr × Obj)} {s : Shared} {σ : L2.St} {H : Hp} {k : Nat} {tbl : Tbl} {ns : List Str} {a b : Expr} {ma mb : EM} {pos : Pos}
def rOwnA (K : PySem.W.Frag) (tbl : Tbl) (ns : List Str) (neg : Bool) : R2 := fun x y H Q => ∃ a n dx vs f T, x = .ref a ∧ n ∈ ns ∧ H a = some (.ins (He.ga K n) dx vs) ∧ tbl.lookup n = some f ∧ TyX K H y T ∧ PySem.W.notFirst K (He.ga K n) T = true ∧ spD K f [.ref a, y] H (fun v H' => ∃ r, v = .bl r ∧ Q (.bl (if neg then !r else r)) H') E0
theorem op_eqA (T : OpsD X.prog X.w X.K X.mg X.base k "__eq__" tbl) (hr : Room k X.A) (hgd : X.A.guards = some []) : OpR X (compareOp .Eq) (rOwnA X.K tbl ns false) := by
  intro pins s σ H x y v u Q I rx ry h
  obtain ⟨a, n, dx, vs, f, tb, rfl, hn, ha, hf, ty, nf, q⟩ := h
  obtain rfl : v = Value.ref a := rx
  obtain ⟨g, hfi, hsf, F⟩ := (T _ (tbl_mem hf)).ex
  obtain ⟨mA, J, _⟩ := ins_get I.hok ha
  obtain ⟨od, J, _⟩ := J.look
  obtain ⟨m, hF⟩ := I.fr
  obtain ⟨_, _, _, hfn, _⟩ := F.ex
  obtain ⟨P, Z, hP, _⟩ := kit_of I ry ty
  show wpAny (model X.prog X.w) X.A (richCompare .Eq (.ref a) u) (EP X pins σ Q) X.xe s
  refine PySem.W.cmp_K (op := .Eq) (tb := tb) (by have := hr.un; omega) hF I.ok.mod.kin J (Z.ty _ _ I.kIn hP) nf hfi hfn
    (wpAny_mono (runD (us := [.ref a, u]) (vs := [.ref a, y]) F I.env0 hr hgd I (.cons rfl (.cons ry .nil)) q) (fun v' s' hq => ?_) fun _ _ e => e)
  obtain ⟨x', H', I', rx', r, rfl, q'⟩ := hq
  obtain rfl : v' = Value.bool r := rx'
  exact ⟨.bl r, H', I', rfl, q'⟩
theorem op_neA (Z0 : EqsOk X.K ns) (T : OpsD X.prog X.w X.K X.mg X.base k "__eq__" tbl) (hr : Room (k + 1) X.A) (hgd : X.A.guards = some []) : OpR X (compareOp .NotEq) (rOwnA X.K tbl ns true) := by
  intro pins s σ H x y v u Q I rx ry h
  obtain ⟨a, n, dx, vs, f, tb, rfl, hn, ha, hf, ty, nf, q⟩ := h
  obtain rfl : v = Value.ref a := rx
  obtain ⟨g, hfi, hsf, F⟩ := (T _ (tbl_mem hf)).ex
  obtain ⟨mA, J, _⟩ := ins_get I.hok ha
  obtain ⟨od, J, _⟩ := J.look
  obtain ⟨m, hF⟩ := I.fr
  obtain ⟨_, _, _, hfn, _⟩ := F.ex
  obtain ⟨P, Z, hP, _⟩ := kit_of I ry ty
  show wpAny (model X.prog X.w) X.A (richCompare .NotEq (.ref a) u) (EP X pins σ Q) X.xe s
  refine DLN.ne_K (tb := tb) (by have := hr.un; omega) (by have := hr.un; show X.A.units + 1 < _; omega) hF I.ok.mod.kin J (Z.ty _ _ I.kIn hP) nf (Z0.ne n hn) (Z0.ob n hn) hfi hfn
    (wpAny_mono (runD (us := [.ref a, u]) (vs := [.ref a, y]) F I.env0.in1 hr.in1 hgd I (.cons rfl (.cons ry .nil)) q) (fun v' s' hq => ?_) fun _ _ e => e)
  obtain ⟨x', H', I', rx', r, rfl, q'⟩ := hq
  obtain rfl : v' = Value.bool r := rx'
  exact ⟨r, rfl, .bl (!r), H', I', rfl, q'⟩
def ownAG (tbl : Tbl) (ns : List Str) (neg : Bool) : G2 := fun a b S => match insOf S a with
  | some (n, _) => if n ∈ ns then (match tbl.lookup n with
    | some f => (match insOf S b with
      | some (m, _) => if m ∈ ns then (noX (f [a, b] S)).bind (blEnd neg) else .stuck
      | none => match tyN S b with
        | some t => if t ∈ six then (noX (f [a, b] S)).bind (blEnd neg) else .stuck
        | none => .stuck)
    | none => .stuck) else .stuck
  | none => .stuck
theorem ownA_ok (Z0 : EqsOk X.K ns) (neg : Bool) : Op2 X W (rOwnA X.K tbl ns neg) (ownAG tbl ns neg) := by
  intro ph S H x y a b Q g da db h
  unfold ownAG at h
  split at h
  · rename_i n fs h1
    obtain ⟨p, dx, vs, rfl, e1, _⟩ := insOf_ok g da h1
    split at h
    · rename_i hn
      split at h
      · rename_i f hf
        have fin : ∀ {T : Value}, TyX X.K H y T → PySem.W.notFirst X.K (He.ga X.K n) T = true → holds ((noX (f [a, b] S)).bind (blEnd neg)) (post X.K ph H Q) (W.rel ph H) → rOwnA X.K tbl ns neg (.ref p) y H Q := fun {T} ty nf h =>
          ⟨p, n, dx, vs, f, T, rfl, hn, e1, hf, ty, nf, ph, S, [a, b], g, .cons da (.cons db .nil), noX_ok (holds_imp (holds_bind h) (fun r hr => blEnd_ok hr) fun _ _ _ q => q)⟩
        split at h
        · rename_i m fs' h2
          obtain ⟨q, dy, us, rfl, e2, _⟩ := insOf_ok g db h2
          split at h
          · rename_i hm
            have z := Z0.isi m hm
            exact fin (.base (.ins e2 z.cls z.ha z.hn z.htk z.hm)) (Z0.ow n hn m hm) h
          · exact h.elim
        · split at h
          · rename_i t ht
            split at h
            · rename_i hm
              exact fin (tyN_ok g db ht) (Z0.ty n hn t hm) h
            · exact h.elim
          · exact h.elim
      · exact h.elim
    · exact h.elim
  · exact h.elim
theorem pd_eqA (Z : EqsOk X.K ns) (T : OpsD X.prog X.w X.K X.mg X.base k "__eq__" tbl) (hr : Room k X.A) (hgd : X.A.guards = some []) (hu : X.A.units + 64 < cLine) (ha : PD X W a ma) (hb : PD X W b mb) : PD X W (.Compare a [.Eq] [b] pos) (e2 (orG (eqG false) (ownAG tbl ns false)) ma mb) :=
  pd_cmp (((op_eqD hu).or op_eq).or (op_eqA T hr hgd)) (or_ok eq_ok (ownA_ok Z false)) ha hb
theorem pt_eqA (Z : EqsOk X.K ns) (T : OpsD X.prog X.w X.K X.mg X.base k "__eq__" tbl) (hr : Room k X.A) (hgd : X.A.guards = some []) (hu : X.A.units + 64 < cLine) (ha : PD X W a ma) (hb : PD X W b mb) : PDT X W (.Compare a [.Eq] [b] pos) (tB (e2 (orG (eqG false) (ownAG tbl ns false)) ma mb)) :=
  pt_2 (((op_eqD hu).or op_eq).or (op_eqA T hr hgd)) (or_ok eq_ok (ownA_ok Z false)) ha hb
theorem pd_neA (Z : EqsOk X.K ns) (T : OpsD X.prog X.w X.K X.mg X.base k "__eq__" tbl) (hr : Room (k + 1) X.A) (hgd : X.A.guards = some []) (hu : X.A.units + 64 < cLine) (ha : PD X W a ma) (hb : PD X W b mb) : PD X W (.Compare a [.NotEq] [b] pos) (e2 (orG (eqG true) (ownAG tbl ns true)) ma mb) :=
  pd_cmp (((op_neD hu).or op_ne).or (op_neA Z T hr hgd)) (or_ok ne_ok (ownA_ok Z true)) ha hb
theorem pt_neA (Z : EqsOk X.K ns) (T : OpsD X.prog X.w X.K X.mg X.base k "__eq__" tbl) (hr : Room (k + 1) X.A) (hgd : X.A.guards = some []) (hu : X.A.units + 64 < cLine) (ha : PD X W a ma) (hb : PD X W b mb) : PDT X W (.Compare a [.NotEq] [b] pos) (tB (e2 (orG (eqG true) (ownAG tbl ns true)) ma mb)) :=
  pt_2 (((op_neD hu).or op_ne).or (op_neA Z T hr hgd)) (or_ok ne_ok (ownA_ok Z true)) ha hb
end
/-! isinstance(x, C) of an instance of another own class -/
def fcIsiX (n m : Str) : Fc := fun K => decide (PySem.W.kitOne K (.ref (He.ga K m)) (.ref (He.ga K n)) = some false)
/-- n's isinstance, with the other classes ms -/
structure IsxOk (K : PySem.W.Frag) (n : Str) (ms : List Str) : Prop where
  is : IsiOk K n
  xs : ∀ m ∈ ms, IsiOk K m ∧ PySem.W.kitOne K (.ref (He.ga K m)) (.ref (He.ga K n)) = some false
theorem isx_nil {K : PySem.W.Frag} {n : Str} (h : IsiOk K n) : IsxOk K n [] := ⟨h, fun _ h => nomatch h⟩
theorem isx_cons {K : PySem.W.Frag} {n m : Str} {ms : List Str} (h : IsxOk K n ms) (k : IsiOk K m) (c : fcIsiX n m K = true) : IsxOk K n (m :: ms) := ⟨h.is, fun x hx => (List.mem_cons.mp hx).elim (fun e => e ▸ ⟨k, of_decide_eq_true (show decide (PySem.W.kitOne K (.ref (He.ga K m)) (.ref (He.ga K n)) = some false) = true from c)⟩) (h.xs x)⟩
def isiXG (n : Str) (ms : List Str) : GA := fun as S => match as with
  | [x, .fr (.cls c)] => if c = n then (match insOf S x with
    | some (m, _) => if m = n then okV (.bl true) S else if m ∈ ms then okV (.bl false) S else .stuck
    | none => match tyN S x with
      | some t => if t ∈ six then okV (.bl false) S else .stuck
      | none => .stuck) else .stuck
  | _ => .stuck
theorem isiX_ok {X : Cx} {W : XW X.K} {n : Str} {ms : List Str} (T : IsxOk X.K n ms) : OpA X W (rIsi X.K) (isiXG n ms) := by
  intro ph S H xs as Q g d h
  unfold isiXG at h
  split at h
  · rename_i x c
    obtain ⟨v, u, rfl, dv, du⟩ := two_of d
    split at h
    · rename_i hc
      subst hc
      obtain rfl := d_cls (show Den X.K (hide ph H) u (.cls c) from du)
      split at h
      · rename_i m fs hi
        obtain ⟨a, dx, vs, rfl, e1, _⟩ := insOf_ok g dv hi
        split at h
        · rename_i hm
          subst hm
          exact ⟨.ref a, .ref _, .ref _, .ref _, true, rfl, .own _, .base (.ins e1 T.is.cls T.is.ha T.is.hn T.is.htk T.is.hm), T.is.same, fin_v g (.bl _) h⟩
        · split at h
          · rename_i hm
            obtain ⟨z, q⟩ := T.xs m hm
            exact ⟨.ref a, .ref _, .ref _, .ref _, false, rfl, .own _, .base (.ins e1 z.cls z.ha z.hn z.htk z.hm), q, fin_v g (.bl _) h⟩
          · exact h.elim
      · split at h
        · rename_i t ht
          split at h
          · rename_i hm
            exact ⟨v, .ref _, .type t, .ref _, false, rfl, .own _, tyN_ok g dv ht, T.is.oth t hm, fin_v g (.bl _) h⟩
          · exact h.elim
        · exact h.elim
    · exact h.elim
  · exact h.elim
end DL

namespace DL
open PySem PySem.Spec PyProof.Rows L2
def frzD (S : Store) (n : Nat) : Nat → SV → Option D
  | _, .fr d => some d
  | 0, .cell _ => none
  | f + 1, .cell j => if n ≤ j then (match S[j]? with
    | some (.lst ys) => (allSn (frzD S n f) ys).map D.lst
    | some (.tup ys) => (allSn (frzD S n f) ys).map D.tup
    | _ => none) else none
section
variable {K : PySem.W.Frag} {ph : List Addr} {H : Hp} {S : Store} {n : Nat}
theorem take_not {l : List Addr} (hn : l.Nodup) {j : Nat} {a : Addr} (h : l[j]? = some a) (hj : n ≤ j) : a ∉ l.take n := fun m => by
  obtain ⟨i, hi⟩ := List.getElem?_of_mem m
  rw [List.getElem?_take] at hi
  split at hi
  · have := nodup_at hn h hi
    omega
  · cases hi
theorem frzD_ok (g : Good K ph H S) : ∀ (f : Nat) {v : V} {x : SV} {d : D}, DenS K ph H v x → frzD S n f x = some d → Den K (hide (ph.take n) H) v d := by
  intro f
  induction f with
  | zero =>
    intro v x d h e
    cases x with
    | fr d' =>
      simp only [frzD, Option.some.injEq] at e
      subst e
      exact Den.mono (sub_hide fun a m => List.mem_of_mem_take m) h
    | cell j => simp [frzD] at e
  | succ f ih =>
    intro v x d h e
    have all : ∀ {ys : List SV} {vs : List V} {ds : List D}, DenSs K ph H vs ys → allSn (frzD S n f) ys = some ds → Dens K (hide (ph.take n) H) vs ds := by
      intro ys
      induction ys with
      | nil =>
        intro vs ds h e
        cases h
        simp only [allSn, Option.some.injEq] at e
        subst e
        exact .nil
      | cons y ys ihy =>
        intro vs ds h e
        cases h with
        | cons h1 h2 =>
          unfold allSn at e
          split at e
          · rename_i d es h3 h4
            cases e
            exact .cons (ih h1 h3) (ihy h2 h4)
          · cases e
    cases x with
    | fr d' =>
      simp only [frzD, Option.some.injEq] at e
      subst e
      exact Den.mono (sub_hide fun a m => List.mem_of_mem_take m) h
    | cell j =>
      obtain ⟨p, hp, rfl⟩ := h
      unfold frzD at e
      split at e
      · rename_i hj
        have hm := take_not g.nd hp hj
        split at e
        · rename_i ys hys
          simp only [Option.map_eq_some_iff] at e
          obtain ⟨ds, hd, rfl⟩ := e
          obtain ⟨vs, h4, h5⟩ := paired_at g.cells hp hys
          exact .lst (hide_of hm h4) (all h5 hd)
        · rename_i ys hys
          simp only [Option.map_eq_some_iff] at e
          obtain ⟨ds, hd, rfl⟩ := e
          obtain ⟨vs, h4, h5⟩ := paired_at g.cells hp hys
          exact Den.tup (vs := vs) (.inl (.inl (hide_of hm h4))) (all h5 hd)
        · cases e
      · cases e
/-- a slot behind the freezing -/
def frzSl (S : Store) (n : Nat) : Option SV → Option SV
  | some (.fr d) => some (.fr d)
  | some (.cell j) => if j < n then some (.cell j) else (frzD S n 4 (.cell j)).map SV.fr
  | none => none
end
/-- what was made from the N-th cell on is plain data from here on -/
def frzM (N : Nat) (n : SM) : SM := fun rho S => if (S.take N).all (Cell.below N) then n (rho.map (frzSl S N)) (S.take N) else .stuck
def sFz (m : Nat → SM) : SM := fun rho S => m S.length rho S
theorem r_fz (m : Nat → SM) (rho : Slots) (S : Store) : sFz m rho S = m S.length rho S := id rfl
theorem s_frzM {n : SM} {S S' : Store} (h : S.all (Cell.below S.length) = true) (hs : S'.take S.length = S) (rho : Slots) : frzM S.length n rho S' = n (rho.map (frzSl S' S.length)) S := by
  unfold frzM
  rw [hs, if_pos h]
section
variable {X : Cx} {W : XW X.K}
structure PSDz (X : Cx) (W : XW X.K) (st : List Stmt) (m : Nat → SM) : Prop where
  ex : ∃ t, PSs X st t ∧ ∀ (ph0 : List Addr) (S0 : Store) (H0 : Hp) (ph : List Addr) (S : Store) (H : Hp) (sg : L2.St) (rho : Slots) (Dn : L2.Ends), Good X.K ph0 H0 S0 → Ext ph0 H0 ph H → Good X.K ph H S → SlotsOk X.K ph H sg rho →
    holds (m S0.length rho S) (postS X.K ph0 H0 Dn) (W.rel ph0 H0) → t Dn sg H
theorem psz_c {st : Stmt} {rest : List Stmt} {m : SM} {n : Nat → SM} (h1 : PSD X W st m) (h2 : PSDz X W rest n) : PSDz X W (st :: rest) (fun N => sSeq m (n N)) := by
  obtain ⟨t, p, s⟩ := h1.ex
  obtain ⟨t2, p2, s2⟩ := h2.ex
  refine ⟨_, pss_cons p p2, fun ph0 S0 H0 ph S H sg rho Dn g0 x0 g so h => s ph S H sg rho _ g so (holds_imp (holds_bind h) (fun r hr => ?_) fun e r s q => W.mono _ _ _ _ e r s x0 q)⟩
  intro ph1 sg1 H1 x1 g1 so1
  obtain ⟨fl, rho1, S1⟩ := r
  cases fl with
  | nx => exact s2 ph0 S0 H0 ph1 S1 H1 sg1 rho1 Dn g0 (x0.trans x1) g1 so1 hr
  | bk => exact hr ph1 sg1 H1 (x0.trans x1) g1 so1
  | ct => exact hr ph1 sg1 H1 (x0.trans x1) g1 so1
  | rt x => exact hr ph1 sg1 H1 (x0.trans x1) g1 so1
theorem psz_f {rest : List Stmt} {n : SM} (h : PSDs X W rest n) : PSDz X W rest (fun N => frzM N n) := by
  obtain ⟨t, p, s⟩ := h.ex
  refine ⟨t, p, fun ph0 S0 H0 ph S H sg rho Dn g0 x0 g so h => ?_⟩
  unfold frzM at h
  split at h
  · rename_i hb
    have g2 := g0.cut x0 g hb
    obtain ⟨ps, e, hps⟩ := x0.pre
    have hl := g0.len
    have ht : ph.take S0.length = ph0 := by rw [e, List.take_left' hl]
    refine s ph0 (S.take S0.length) H sg _ Dn g2 ⟨by rw [List.length_map]; exact so.1, fun i x q => ?_⟩ (holds_imp h (fun c => postS.mono x0.back c) fun e r s q => W.mono _ _ _ _ e r s x0.back q)
    rw [List.getElem?_map] at q
    cases hr : rho[i]? with
    | none => rw [hr] at q; cases q
    | some o =>
      rw [hr] at q
      have q : frzSl S S0.length o = some x := by simpa using q
      cases o with
      | none => cases q
      | some y =>
        obtain ⟨v, h1, h2⟩ := so.2 i y hr
        refine ⟨v, h1, ?_⟩
        cases y with
        | fr d =>
          cases q
          show Den X.K (hide ph0 H) v d
          rw [← ht]
          exact Den.mono (sub_hide fun a m => List.mem_of_mem_take m) h2
        | cell j =>
          have q : (if j < S0.length then some (SV.cell j) else (frzD S S0.length 4 (.cell j)).map SV.fr) = some x := q
          by_cases hj : j < S0.length
          · rw [if_pos hj] at q
            cases q
            obtain ⟨a, ha, hv⟩ := h2
            refine ⟨a, ?_, hv⟩
            rw [e, List.getElem?_append_left (by rw [hl]; exact hj)] at ha
            exact ha
          · rw [if_neg hj] at q
            obtain ⟨d, hd, rfl⟩ := Option.map_eq_some_iff.mp q
            have := frzD_ok (n := S0.length) g 4 h2 hd
            rw [ht] at this
            exact this
  · exact h.elim
theorem pss_z {st : List Stmt} {m : Nat → SM} (h : PSDz X W st m) : PSDs X W st (sFz m) := by
  obtain ⟨t, p, s⟩ := h.ex
  exact ⟨t, p, fun ph S H sg rho Dn g so h => s ph S H ph S H sg rho Dn g (Ext.refl _ _) g so h⟩
end
end DL

namespace DL
open PySem PySem.Spec PyProof.Rows L2
section
variable {X : Cx} {W : XW X.K} {a b : Expr} {ma mb : EM} {pos p p2 pos2 : Pos}
theorem rg_den {K : PySem.W.Frag} {ph : List Addr} {H : Hp} (i j : Int) : DenSs K ph H (rgV i j) (rngS i (j - i).toNat) := by
  unfold rgV rngS
  have : ∀ l : List Nat, DenSs K ph H (l.map fun k => V.int (i + (k : Nat))) (l.map fun k => SV.fr (.int (i + (k : Nat)))) := by
    intro l
    induction l with
    | nil => exact .nil
    | cons k l ih => exact .cons (Den.int _) ih
  exact this _
def k_lsR (c : Bool) (r : SV × Store) : Res (SV × Store) := match r.1 with
  | .fr (.int n) => if 0 ≤ n ∧ n ≤ 16777216 then newL0 c (rngS 0 n.toNat) r.2 else .stuck
  | _ => .stuck
def eLsR (c : Bool) (ma : EM) : EM := fun rho S => (ma rho S).bind (k_lsR c)
theorem r_lsR (c : Bool) (ma : EM) (rho : Slots) (S : Store) : eLsR c ma rho S = (ma rho S).bind (k_lsR c) := id rfl
theorem s_lsRF {n : Nat} (h : n ≤ 16777216) (S : Store) : k_lsR false (.fr (.int (n : Int)), S) = .ok (.fr (.lst ((List.range n).map fun k : Nat => D.int (k : Int))), S) := by
  have q : k_lsR false (.fr (.int (n : Int)), S) = if 0 ≤ (n : Int) ∧ (n : Int) ≤ 16777216 then newL0 false (rngS 0 (n : Int).toNat) S else .stuck := rfl
  rw [q, if_pos (by omega), Int.toNat_natCast]
  have e : rngS 0 n = ((List.range n).map fun k : Nat => D.int (k : Int)).map SV.fr := by
    unfold rngS
    rw [List.map_map]
    refine List.map_congr_left fun i _ => ?_
    simp
  unfold newL0
  rw [e, allFr_map]
  rfl
theorem pd_lsR (c : Bool) (hc : X.calm = true) (hm : X.mg "list" = none) (hm2 : X.mg "range" = none) (ha : PD X W a ma) (hg : Gl X "list" := by rfl) (hg2 : Gl X "range" := by rfl)
    (na2 : starEach [a] X.env = (false, eval a X.env) :: starEach [] X.env := by rfl) (na : starEach [Expr.Call (.Name "range" p2) [a] [] pos2] X.env = (false, eval (Expr.Call (.Name "range" p2) [a] [] pos2) X.env) :: starEach [] X.env := by rfl) :
    PD X W (.Call (.Name "list" p) [.Call (.Name "range" p2) [a] [] pos2] [] pos) (eLsR c ma) := by
  obtain ⟨ta, pa, sa⟩ := ha.ex
  refine ⟨_, pe_listRg hc hg hm (prg_1 hg2 hm2 pa na2) na, fun ph S H sg rho Q gd so h => sa ph S H sg rho _ gd so (holds_imp (holds_bind h) (fun x hx => ?_) fun _ _ _ q => q)⟩
  intro ph1 v H1 x1 g1 d1
  unfold k_lsR at hx
  split at hx
  · rename_i n hn
    rw [hn] at d1
    split at hx
    · rename_i hb
      refine ⟨n, d_int d1, RgOk.of_le (Int.le_refl _) hb.2 (by decide) hb.1, ?_⟩
      have r := rg_den (K := X.K) (ph := ph1) (H := H1) 0 n
      rw [Int.sub_zero] at r
      exact newL0_ok g1 r (holds_imp hx (fun y hy => post.mono x1 y hy) fun e r s q => W.mono _ _ _ _ e r s x1 q)
    · exact hx.elim
  · exact hx.elim
end
end DL

namespace DL
open PySem PySem.Spec PyProof.Rows L2

section
variable {κ : Type} [DecidableEq κ] {α : Type}
def lookK (kvs : List (κ × α)) (k : κ) : Option α := (kvs.find? fun kv => decide (kv.1 = k)).map (·.2)
def setK (kvs : List (κ × α)) (k : κ) (v : α) : List (κ × α) :=
  if (kvs.any fun kv => decide (kv.1 = k)) = true then kvs.map (fun kv => if kv.1 = k then (kv.1, v) else kv) else kvs ++ [(k, v)]
theorem lookK_nil {k : κ} : lookK ([] : List (κ × α)) k = none := rfl
theorem lookK_cons (j : κ) (v : α) (r : List (κ × α)) (k : κ) : lookK ((j, v) :: r) k = if j = k then some v else lookK r k := by
  unfold lookK
  by_cases e : j = k <;> simp [List.find?_cons, e]
theorem lookK_ok {K : PySem.W.Frag} {ph : List Addr} {H : Hp} (k : κ) : ∀ {vs : List (κ × V)} {xs : List (κ × SV)}, DenSK K ph H vs xs →
    (∀ x, lookK xs k = some x → ∃ v, valV vs k = some v ∧ DenS K ph H v x) ∧ (lookK xs k = none → valV vs k = none)
  | _, _, .nil => ⟨fun x h => by simp [lookK] at h, fun _ => rfl⟩
  | _, _, .cons (a := p) (b := q) h t => by
    obtain ⟨i1, i2⟩ := lookK_ok k t
    obtain ⟨pk, pv⟩ := p
    obtain ⟨qk, qv⟩ := q
    obtain ⟨e, d⟩ := h
    dsimp only at e d
    subst e
    rw [lookK_cons]
    by_cases c : pk = k
    · rw [if_pos c, valV_pos (p := (pk, pv)) c]
      exact ⟨fun x hx => ⟨pv, rfl, by cases hx; exact d⟩, fun hx => by cases hx⟩
    · rw [if_neg c, valV_neg (p := (pk, pv)) c]
      exact ⟨i1, i2⟩
theorem anyK_ok {K : PySem.W.Frag} {ph : List Addr} {H : Hp} (k : κ) : ∀ {vs : List (κ × V)} {xs : List (κ × SV)}, DenSK K ph H vs xs → (vs.any fun kv => decide (kv.1 = k)) = (xs.any fun kv => decide (kv.1 = k))
  | _, _, .nil => rfl
  | _, _, .cons h t => by simp only [List.any_cons]; rw [h.1, anyK_ok k t]
theorem repl_ok {K : PySem.W.Frag} {ph : List Addr} {H : Hp} (k : κ) {v : V} {x : SV} (d : DenS K ph H v x) : ∀ {vs : List (κ × V)} {xs : List (κ × SV)}, DenSK K ph H vs xs →
    DenSK K ph H (vs.map fun kv => if kv.1 = k then (kv.1, v) else kv) (xs.map fun kv => if kv.1 = k then (kv.1, x) else kv)
  | _, _, .nil => .nil
  | _, _, .cons (a := p) (b := q) h t => by
    simp only [List.map_cons]
    refine .cons ?_ (repl_ok k d t)
    have e := h.1
    by_cases c : p.1 = k
    · rw [if_pos c, if_pos (e ▸ c)]
      exact ⟨e, d⟩
    · rw [if_neg c, if_neg (e ▸ c)]
      exact h
theorem setK_ok {K : PySem.W.Frag} {ph : List Addr} {H : Hp} (k : κ) {v : V} {x : SV} (d : DenS K ph H v x) {vs : List (κ × V)} {xs : List (κ × SV)} (h : DenSK K ph H vs xs) : DenSK K ph H (putK vs k v) (setK xs k x) := by
  unfold putK setK
  rw [anyK_ok k h]
  split
  · exact repl_ok k d h
  · exact Paired.snoc h ⟨rfl, d⟩
theorem length_setK (kvs : List (κ × α)) (k : κ) (v : α) : (setK kvs k v).length ≤ kvs.length + 1 := by
  unfold setK
  split <;> simp
end
/-- a key -/
def keyOf : D → Option Key
  | .int i => some (.inl i)
  | .str x => some (.inr x)
  | _ => none
theorem keyOf_ok {K : PySem.W.Frag} {F : Hp} {v : V} {d : D} {k : Key} (h : Den K F v d) (e : keyOf d = some k) : v = kV k := by
  cases h <;> simp [keyOf] at e <;> subst e <;> rfl
/-- a dict's pairs, as a cell or as plain data -/
def rdK (S : Store) : SV → Option (List (Key × SV))
  | .fr (.dct kvs) => some (kvs.map fun p => (p.1, .fr p.2))
  | .cell k => match S[k]? with
    | some (.dic kvs) => some kvs
    | _ => none
  | _ => none
theorem denSK_of {K : PySem.W.Frag} {ph : List Addr} {H : Hp} : ∀ {vs : List (Key × V)} {fs : List (Key × D)}, DenK K (hide ph H) vs fs → DenSK K ph H vs (fs.map fun p => (p.1, SV.fr p.2))
  | _, _, .nil => .nil
  | _, _, .cons a r => .cons ⟨rfl, a⟩ (denSK_of r)
theorem rdK_ok {K : PySem.W.Frag} {ph : List Addr} {H : Hp} {S : Store} (g : Good K ph H S) {v : V} {a : SV} {kvs : List (Key × SV)} (d : DenS K ph H v a) (h : rdK S a = some kvs) :
    ∃ p vs, v = .ref p ∧ H p = some (.dK vs) ∧ DenSK K ph H vs kvs := by
  unfold rdK at h
  split at h
  · cases h
    cases d with
    | dct e r => exact ⟨_, _, rfl, (hide_some e).2, denSK_of r⟩
  · rename_i k
    split at h
    · rename_i ks hk
      cases h
      obtain ⟨p, h1, rfl⟩ := d
      obtain ⟨q, h3, vs, h4, h5⟩ := g.at hk
      rw [h1] at h3; cases h3
      exact ⟨p, vs, rfl, h4, h5⟩
    · cases h
  · cases h

section
variable {X : Cx} {W : XW X.K} {a b c : Expr} {ma mb mc : EM} {pos : Pos}
/-! ### {} -/
def eDN (m : Bool) : EM := fun _ S => if m then .ok (.cell S.length, S ++ [.dic []]) else .ok (.fr (.dct []), S)
theorem pd_dn (m : Bool) : PD X W (.Dict [] [] pos) (eDN m) := by
  refine ⟨_, pe_dnewK, fun ph S H sg rho Q g so h p hp => ?_⟩
  unfold eDN at h
  cases m with
  | true =>
    have e : Ext ph H (ph ++ [p]) (upd H p (.dK [])) := Ext.cell hp
    exact h (ph ++ [p]) (.ref p) _ e (g.cell hp ⟨[], upd_same, .nil⟩) ⟨p, by rw [← g.len]; simp, rfl⟩
  | false =>
    have e : Ext ph H ph (upd H p (.dK [])) := Ext.fresh hp
    exact h ph (.ref p) _ e (g.fresh hp) (.dct (vs := []) (hide_of (g.new hp) upd_same) .nil)
/-! ### d[k] -/
def dgG : G2 := fun a b S => match rdK S a, b with
  | some kvs, .fr d => match keyOf d with
    | some k => match lookK kvs k with
      | some x => .ok (x, S)
      | none => .stuck
    | none => .stuck
  | _, _ => .stuck
def rDG : R2 := fun x y H Q => ∃ a v, x = .ref a ∧ DGet H a y (some v) ∧ Q v H
theorem dg_ok : Op2 X W rDG dgG := by
  intro ph S H x y a b Q g da db h
  unfold dgG at h
  split at h
  · rename_i kvs d hr
    obtain ⟨p, vs, rfl, hp, r⟩ := rdK_ok g da hr
    split at h
    · rename_i k hk
      have ey := keyOf_ok db hk
      split at h
      · rename_i z hz
        obtain ⟨v, hv, dv⟩ := (lookK_ok k r).1 z hz
        refine ⟨p, v, rfl, ?_, h ph v H (Ext.refl _ _) g dv⟩
        rw [ey, ← hv]
        exact DGet.k hp
      · exact h.elim
    · exact h.elim
  · exact h.elim
theorem pd_dg (hu : X.A.units + 80 < cLine) (ha : PD X W a ma) (hb : PD X W b mb) (hs : NoSl b := by intro _ _; rfl) : PD X W (.Subscript a b pos) (e2 dgG ma mb) := by
  obtain ⟨ta, pa, sa⟩ := ha.ex
  obtain ⟨tb, pb, sb⟩ := hb.ex
  exact ⟨_, pe_dget (by omega) pa pb hs, fun ph S H sg rho Q gd so h => snd2 sa sb dg_ok ph S H sg rho Q gd so h⟩
/-! ### k in d -/
def inDG (ng : Bool) : G2 := fun a b S => match rdK S b, a with
  | some kvs, .fr d => match keyOf d with
    | some k => okV (.bl ((lookK kvs k).isSome != ng)) S
    | none => .stuck
  | _, _ => .stuck
def rDIn (ng : Bool) : R2 := fun x y H Q => ∃ a o, y = .ref a ∧ DGet H a x o ∧ Q (.bl (o.isSome != ng)) H
theorem inD_ok (ng : Bool) : Op2 X W (rDIn ng) (inDG ng) := by
  intro ph S H x y a b Q g da db h
  unfold inDG at h
  split at h
  · rename_i kvs d hr
    obtain ⟨p, vs, rfl, hp, r⟩ := rdK_ok g db hr
    split at h
    · rename_i k hk
      have ey := keyOf_ok da hk
      refine ⟨p, valV vs k, rfl, by rw [ey]; exact DGet.k hp, ?_⟩
      have e : (valV vs k).isSome = (lookK kvs k).isSome := by
        obtain ⟨i1, i2⟩ := lookK_ok k r
        cases q : lookK kvs k with
        | none => rw [i2 q]; rfl
        | some z => obtain ⟨v, hv, _⟩ := i1 z q; rw [hv]; rfl
      rw [e]
      exact fin_v g (.bl _) h
    · exact h.elim
  · exact h.elim
theorem op_dIn (hu : X.A.units + 80 < cLine) : OpR X (compareOp .In) (rDIn false) := by
  intro pins s σ H x y v u Q I rx ry ⟨p, o, e, g, q⟩
  subst e
  cases (show u = Value.ref p from ry)
  refine d_in (by omega) I g rx fun s' I' => ⟨.bl o.isSome, H, I', rfl, ?_⟩
  rw [Bool.bne_false] at q
  exact q
theorem op_dNotIn (hu : X.A.units + 80 < cLine) : OpR X (compareOp .NotIn) (rDIn true) := by
  intro pins s σ H x y v u Q I rx ry ⟨p, o, e, g, q⟩
  subst e
  cases (show u = Value.ref p from ry)
  refine d_notIn (by omega) I g rx fun s' I' => ⟨.bl (!o.isSome), H, I', rfl, ?_⟩
  rw [Bool.bne_true] at q
  exact q
theorem pd_dIn (hu : X.A.units + 80 < cLine) (ha : PD X W a ma) (hb : PD X W b mb) (hm : behindInMarks .In b = false := by first | exact nomark _ | rfl) : PD X W (.Compare a [.In] [b] pos) (e2 (inDG false) ma mb) :=
  pd_cmp (op_dIn hu) (inD_ok false) ha hb hm
theorem pd_dNotIn (hu : X.A.units + 80 < cLine) (ha : PD X W a ma) (hb : PD X W b mb) (hm : behindInMarks .NotIn b = false := by first | exact nomark _ | rfl) : PD X W (.Compare a [.NotIn] [b] pos) (e2 (inDG true) ma mb) :=
  pd_cmp (op_dNotIn hu) (inD_ok true) ha hb hm
theorem pt_dIn (hu : X.A.units + 80 < cLine) (ha : PD X W a ma) (hb : PD X W b mb) (hm : behindInMarks .In b = false := by first | exact nomark _ | rfl) : PDT X W (.Compare a [.In] [b] pos) (tB (e2 (inDG false) ma mb)) :=
  pt_2 (op_dIn hu) (inD_ok false) ha hb hm
theorem pt_dNotIn (hu : X.A.units + 80 < cLine) (ha : PD X W a ma) (hb : PD X W b mb) (hm : behindInMarks .NotIn b = false := by first | exact nomark _ | rfl) : PDT X W (.Compare a [.NotIn] [b] pos) (tB (e2 (inDG true) ma mb)) :=
  pt_2 (op_dNotIn hu) (inD_ok true) ha hb hm
/-! ### d[k] = v -/
def putD (o i x : SV) (S : Store) : Res Store := match o, i with
  | .cell j, .fr d => match S[j]? with
    | some (.dic kvs) => match keyOf d with
      | some k => if kvs.length < sizeLine then .ok (S.set j (.dic (setK kvs k x))) else .stuck
      | none => .stuck
    | _ => .stuck
  | _, _ => .stuck
def rPutD : V → V → V → Hp → (Hp → Prop) → Prop := fun o i v H Q => ∃ a H', o = .ref a ∧ DPut H a i v H' ∧ Q H'
theorem set_dict (hu : X.A.units + 80 < cLine) : PSet X rPutD := by
  intro pins s σ H o i v ov iv u Q I ro ri rv ⟨a, H', e, g, q⟩
  subst e
  cases (show ov = Value.ref a from ro)
  exact d_setItem (by omega) I g ri rv fun s' I' => ⟨H', I', q⟩
theorem putD_ok {ph : List Addr} {S : Store} {H : Hp} {o i v : V} {so si sv : SV} {Q : Hp → Prop} {E : Exc → Slots → Store → Prop} (g : Good X.K ph H S) (d1 : DenS X.K ph H o so) (d2 : DenS X.K ph H i si) (d3 : DenS X.K ph H v sv)
    (h : holds (putD so si sv S) (fun S' => ∀ ph' H', Ext ph H ph' H' → Good X.K ph' H' S' → Q H') E) : rPutD o i v H Q := by
  unfold putD at h
  split at h
  · rename_i j d
    split at h
    · rename_i kvs hj
      split at h
      · rename_i k hk
        split at h
        · rename_i hl
          obtain ⟨p, h1, rfl⟩ := d1
          obtain ⟨q, h3, vs, h4, h5⟩ := g.at hj
          rw [h1] at h3; cases h3
          have ei := keyOf_ok d2 hk
          have hm : p ∈ ph := List.mem_of_getElem? h1
          have e : Ext ph H ph (upd H p (.dK (putK vs k v))) := Ext.write hm
          refine ⟨p, _, rfl, by rw [ei]; exact DPut.k h4 (by rw [h5.length]; exact hl), h ph _ e (g.write h1 ⟨_, upd_same, ?_⟩)⟩
          exact setK_ok k (d3.mono e) (DenSK.mono e h5)
        · exact h.elim
      · exact h.elim
    · exact h.elim
  · exact h.elim
def gPt (mo mi : EM) : GM := fun x rho S => (mo rho S).bind fun o => (mi rho o.2).bind fun i => (putD o.1 i.1 x i.2).bind fun S' => .ok (rho, S')
theorem pgd_put (hu : X.A.units + 80 < cLine) (ha : PD X W a ma) (hb : PD X W b mb) (hass : ∀ v, assign (.Subscript a b pos) X.env v = (do
      let ov ← holding [v] (eval a X.env)
      let iv ← holding [v, ov] (eval b X.env)
      standAt pos
      holding [v, ov, iv] (setItem ov iv v)
      release [v, ov, iv] []) := by intro _; rfl) : PGD X W [] (.Subscript a b pos) (gPt ma mb) := by
  obtain ⟨ta, pa, sa⟩ := ha.ex
  obtain ⟨tb, pb, sb⟩ := hb.ex
  refine ⟨_, pg_sub pa pb (set_dict hu) hass, fun ph S H sg rho v x Q g so d h => sa ph S H sg rho _ g so (holds_imp (holds_bind h) (fun o ho => ?_) fun _ _ _ q => q)⟩
  intro ph1 v1 H1 x1 g1 d1
  refine sb ph1 o.2 H1 sg rho _ g1 (so.mono x1) (holds_imp (holds_bind ho) (fun i hi => ?_) fun e r s q => W.mono _ _ _ _ e r s x1 q)
  intro ph2 v2 H2 x2 g2 d2
  refine putD_ok g2 (d1.mono x2) d2 (d.mono (x1.trans x2)) (holds_imp (holds_bind hi) (fun S3 h3 => ?_) fun e r s q => q)
  intro ph3 H3 x3 g3
  have x13 := x1.trans (x2.trans x3)
  exact h3 ph3 sg H3 x13 g3 (so.mono x13) ⟨rfl, fun _ _ => rfl⟩
/-! ### len(d) -/
def lenDG : GA := fun as S => match as with
  | [a] => match rdK S a with
    | some kvs => okV (.int kvs.length) S
    | none => .stuck
  | _ => .stuck
theorem lenD_ok : OpA X W (fun xs H Q => ∃ a kvs, xs = [V.ref a] ∧ H a = some (.dK kvs) ∧ Q (.int kvs.length) H) lenDG := by
  intro ph S H xs as Q g d h
  unfold lenDG at h
  split at h
  · split at h
    · rename_i kvs hk
      cases d with
      | cons d1 r =>
        cases r
        obtain ⟨p, vs, rfl, hp, e⟩ := rdK_ok g d1 hk
        refine ⟨p, vs, rfl, hp, ?_⟩
        have el : vs.length = kvs.length := e.length
        rw [el]
        exact fin_v g (.int _) h
    · exact h.elim
  · exact h.elim
/-! ### dict(d) -/
def copyDG : GA := fun as S => match as with
  | [a] => match rdK S a with
    | some kvs => .ok (.cell S.length, S ++ [.dic kvs])
    | none => .stuck
  | _ => .stuck
def rCopyD : List V → Hp → VK → Prop := fun xs H Q => ∃ a kvs, xs = [V.ref a] ∧ H a = some (.dK kvs) ∧ ∀ p, H p = none → Q (.ref p) (upd H p (.dK kvs))
theorem call_copyD : CallR X (.type "dict") rCopyD := by
  intro pins s σ H xs us Q I r h
  obtain ⟨a, kvs, rfl, ha, q⟩ := h
  obtain ⟨u, rfl, ru⟩ := vals1 r
  cases ru
  exact d_copyOf I (.inl ha) fun p s' hp I' => ⟨.ref p, _, I', rfl, q p hp⟩
theorem copyD_ok : OpA X W rCopyD copyDG := by
  intro ph S H xs as Q g d h
  unfold copyDG at h
  split at h
  · split at h
    · rename_i kvs hk
      cases d with
      | cons d1 r =>
        cases r
        obtain ⟨p, vs, rfl, hp, e⟩ := rdK_ok g d1 hk
        refine ⟨p, vs, rfl, hp, fun q hq => ?_⟩
        have x : Ext ph H (ph ++ [q]) (upd H q (.dK vs)) := Ext.cell hq
        exact h (ph ++ [q]) (.ref q) _ x (g.cell hq ⟨vs, upd_same, DenSK.mono x e⟩) ⟨q, by rw [← g.len]; simp, rfl⟩
    · exact h.elim
  · exact h.elim
/-! ### {k: v, ..} -/
abbrev DM := Slots → Store → Res (List (Key × SV) × Store)
def postD (K : PySem.W.Frag) (ph : List Addr) (H : Hp) (Q : List (V × V) → Hp → Prop) : List (Key × SV) × Store → Prop := fun r =>
  ∀ ph' vs H', Ext ph H ph' H' → Good K ph' H' r.2 → DenSK K ph' H' vs r.1 → Q (vs.map fun kv => (kV kv.1, kv.2)) H'
structure PDP (X : Cx) (W : XW X.K) (pos : Pos) (ks : List (Option Expr)) (es : List Expr) (m : DM) : Prop where
  ex : ∃ t, PPs X pos ks es t ∧ ∀ (ph : List Addr) (S : Store) (H : Hp) (sg : L2.St) (rho : Slots) (Q : List (V × V) → Hp → Prop), Good X.K ph H S → SlotsOk X.K ph H sg rho →
    holds (m rho S) (postD X.K ph H Q) (W.rel ph H) → tPairs t sg H Q
def dN : DM := fun _ S => .ok ([], S)
def dC (mk mv : EM) (r : DM) : DM := fun rho S => (mk rho S).bind fun x => (mv rho x.2).bind fun y => (r rho y.2).bind fun z => match x.1 with
  | .fr d => match keyOf d with
    | some k => .ok ((k, y.1) :: z.1, z.2)
    | none => .stuck
  | _ => .stuck
theorem pdp_n : PDP X W pos [] [] dN := ⟨[], pps_nil, fun ph S H sg rho Q g so h => h ph [] H (Ext.refl _ _) g .nil⟩
theorem pdp_c {ks : List (Option Expr)} {es : List Expr} {mr : DM} (ha : PD X W a ma) (hb : PD X W b mb) (hr : PDP X W pos ks es mr) : PDP X W pos (some a :: ks) (b :: es) (dC ma mb mr) := by
  obtain ⟨ta, pa, sa⟩ := ha.ex
  obtain ⟨tb, pb, sb⟩ := hb.ex
  obtain ⟨tr, pr, sr⟩ := hr.ex
  refine ⟨_, pps_cons pa pb pr, fun ph S H sg rho Q gd so h => ?_⟩
  show ta sg H fun x H1 => tb sg H1 fun y H2 => tPairs tr sg H2 fun ps H3 => Q ((x, y) :: ps) H3
  refine sa ph S H sg rho _ gd so (holds_imp (holds_bind h) (fun x hx => ?_) fun _ _ _ q => q)
  intro ph1 v1 H1 x1 g1 d1
  refine sb ph1 x.2 H1 sg rho _ g1 (so.mono x1) (holds_imp (holds_bind hx) (fun y hy => ?_) fun e r s q => W.mono _ _ _ _ e r s x1 q)
  intro ph2 v2 H2 x2 g2 d2
  refine sr ph2 y.2 H2 sg rho _ g2 ((so.mono x1).mono x2) (holds_imp (holds_bind hy) (fun z hz => ?_) fun e r s q => W.mono _ _ _ _ e r s (x1.trans x2) q)
  intro ph3 vs H3 x3 g3 d3
  obtain ⟨xv, S1⟩ := x
  dsimp only at *
  split at hz
  · split at hz
    · rename_i k hk
      have e : v1 = kV k := keyOf_ok d1 hk
      subst e
      exact hz ph3 ((k, v2) :: vs) H3 (x1.trans (x2.trans x3)) g3 (.cons ⟨rfl, d2.mono x3⟩ d3)
    · exact hz.elim
  · exact hz.elim
def mergeS (kvs more : List (Key × SV)) : List (Key × SV) := more.foldl (fun acc kv => setK acc kv.1 kv.2) kvs
theorem mergeS_ok {K : PySem.W.Frag} {ph : List Addr} {H : Hp} : ∀ {more : List (Key × V)} {xs : List (Key × SV)} {vs : List (Key × V)} {kvs : List (Key × SV)}, DenSK K ph H more xs → DenSK K ph H vs kvs → DenSK K ph H (mergeK vs more) (mergeS kvs xs)
  | _, _, _, _, .nil, r => r
  | _, _, vs, kvs, .cons (a := p) (b := q) h t, r => by
    show DenSK K ph H (mergeK (putK vs p.1 p.2) _) (mergeS (setK kvs q.1 q.2) _)
    rw [h.1]
    exact mergeS_ok t (setK_ok q.1 h.2 r)
def eDs (m : DM) : EM := fun rho S => (m rho (S ++ [.dic []])).bind fun r => if r.1.length ≤ 15 then (match r.2[S.length]? with
  | some (.dic []) => .ok (.cell S.length, r.2.set S.length (.dic (mergeS [] r.1)))
  | _ => .stuck) else .stuck
theorem pd_ds {ks : List (Option Expr)} {es : List Expr} {m : DM} (h : PDP X W pos ks es m) (hall : ks.all (·.isSome) = true := by rfl) (hl : ks.length = es.length := by rfl) (h0 : ks ≠ [] := by exact List.cons_ne_nil _ _)
    (h15 : ks.length ≤ 15 := by decide) : PD X W (.Dict ks es pos) (eDs m) := by
  obtain ⟨t, p, s⟩ := h.ex
  refine ⟨_, pe_disp p hall hl h0 h15, fun ph S H sg rho Q g so hh q hq => ?_⟩
  have e0 : Ext ph H (ph ++ [q]) (upd H q (.dK [])) := Ext.cell hq
  have g0 : Good X.K (ph ++ [q]) (upd H q (.dK [])) (S ++ [.dic []]) := g.cell hq ⟨[], upd_same, .nil⟩
  refine s (ph ++ [q]) _ _ sg rho _ g0 (so.mono e0) (holds_imp (holds_bind hh) (fun r hr => ?_) fun e r s w => W.mono _ _ _ _ e r s e0 w)
  intro ph1 vs H1 x1 g1 d1
  obtain ⟨kvs, S1⟩ := r
  dsimp only at *
  split at hr
  · rename_i h15'
    split at hr
    · rename_i hk
      have hq1 : ph1[S.length]? = some q := by
        obtain ⟨ps, rfl, _⟩ := x1.pre
        rw [← g.len]; simp
      obtain ⟨q', h3, us, h4, h5⟩ := g1.at hk
      rw [hq1] at h3; cases h3
      cases h5
      have hm : q ∈ ph1 := List.mem_of_getElem? hq1
      have ew : Ext ph1 H1 ph1 (upd H1 q (.dK (mergeK [] vs))) := Ext.write hm
      refine ⟨h4, vs, rfl, by rw [d1.length]; exact h15', ?_⟩
      refine hr ph1 (.ref q) _ (e0.trans (x1.trans ew)) (g1.write hq1 ⟨_, upd_same, ?_⟩) ⟨q, hq1, rfl⟩
      exact mergeS_ok (DenSK.mono ew d1) .nil
    · exact hr.elim
  · exact hr.elim
end
end DL

namespace DL
open PySem PySem.Spec PyProof.Rows L2

def pyKy : Key → PyData
  | .inl i => .int i
  | .inr x => .str x
mutual
def pyX : D → PyData
  | .non => .none
  | .bl b => .bool b
  | .int i => .int i
  | .str x => .str x
  | .tup ds => .tuple (pyXs ds)
  | .lst ds => .list (pyXs ds)
  | .scr ds => .list (pyXs ds)
  | .ty _ => .none
  | .ref _ => .none
  | .ins _ _ => .none
  | .cls _ => .none
  | .exn _ _ _ _ => .none
  | .dct kvs => .dict (pyXk kvs)
def pyXs : List D → List PyData
  | [] => []
  | d :: ds => pyX d :: pyXs ds
def pyXk : List (Key × D) → List (PyData × PyData)
  | [] => []
  | (k, d) :: r => (pyKy k, pyX d) :: pyXk r
end
mutual
def isX : D → Bool
  | .non | .bl _ | .int _ | .str _ => true
  | .tup ds => isXs ds
  | .lst ds => isXs ds
  | .scr ds => isXs ds
  | .dct kvs => isXk kvs
  | .ty _ | .ref _ | .ins _ _ | .cls _ | .exn _ _ _ _ => false
def isXs : List D → Bool
  | [] => true
  | d :: ds => isX d && isXs ds
def isXk : List (Key × D) → Bool
  | [] => true
  | (_, d) :: r => isX d && isXk r
end
mutual
/-- a value of the machine's heap is such data -/
inductive RD (h : Heap) : Value → PyData → Prop
  | none : RD h .none .none
  | bool (b) : RD h (.bool b) (.bool b)
  | int (i t) : RD h (.int i t) (.int i)
  | str (x t) : RD h (.str x t) (.str x)
  | list {a o vs n xs} : h.get? a = some o → o.cls = .type "list" → o.data = .seq vs n → RDs h vs.toList xs → RD h (.ref a) (.list xs)
  | tuple {a o vs n xs} : h.get? a = some o → o.cls = .type "tuple" → o.data = .seq vs n → RDs h vs.toList xs → RD h (.ref a) (.tuple xs)
  | dict {a o es n kvs} : h.get? a = some o → o.cls = .type "dict" → o.data = .dict es n → (a == sysModules) = false → RDs h (es.toList.map (·.key)) (kvs.map (·.1)) → RDs h (es.toList.map (·.val)) (kvs.map (·.2)) → RD h (.ref a) (.dict kvs)
inductive RDs (h : Heap) : List Value → List PyData → Prop
  | nil : RDs h [] []
  | cons {v vs d ds} : RD h v d → RDs h vs ds → RDs h (v :: vs) (d :: ds)
end
section
variable {h : Heap}
mutual
theorem RD.reads : ∀ {v : Value} {d : PyData}, RD h v d → ∃ as, Reads h v d as
  | _, _, .none => ⟨_, .none⟩
  | _, _, .bool b => ⟨_, .bool b⟩
  | _, _, .int i t => ⟨_, .int i t⟩
  | _, _, .str x t => ⟨_, .str x t⟩
  | _, _, .list h1 h2 h3 h4 => let ⟨_, r⟩ := h4.reads; ⟨_, .list h1 h2 h3 r⟩
  | _, _, .tuple h1 h2 h3 h4 => let ⟨_, r⟩ := h4.reads; ⟨_, .tuple h1 h2 h3 r⟩
  | _, _, .dict h1 h2 h3 _ h5 h6 => let ⟨_, r1⟩ := h5.reads; let ⟨_, r2⟩ := h6.reads; ⟨_, .dict h1 h2 h3 r1 r2⟩
theorem RDs.reads : ∀ {v : List Value} {d : List PyData}, RDs h v d → ∃ as, ReadsAll h v d as
  | _, _, .nil => ⟨_, .nil⟩
  | _, _, .cons a r => let ⟨_, x⟩ := a.reads; let ⟨_, y⟩ := r.reads; ⟨_, .cons x y⟩
end
end
section
variable {X : Cx} {pins : List (Addr × Obj)} {σ : L2.St} {H : Hp} {s : Shared}
mutual
theorem rd_x (I : Inv X pins σ H s) : ∀ {d : D} {v : V} {u : Value}, isX d = true → Den X.K H v d → RelV v u → RD s.heap u (pyX d)
  | .non, _, _, _, .non, r => by cases r; simp only [pyX]; exact .none
  | .bl b, _, _, _, .bl _, r => by cases r; simp only [pyX]; exact .bool b
  | .int i, _, _, _, .int _, r => by obtain ⟨t, rfl⟩ := r; simp only [pyX]; exact .int i t
  | .str x, _, _, _, .str _, r => by obtain ⟨t, rfl⟩ := r; simp only [pyX]; exact .str x t
  | .tup ds, _, _, hx, .tup hs q, r => by
    cases r
    obtain ⟨its, rv, ⟨o, ho, hc, n, hd⟩, _⟩ := I.tuple hs
    simp only [pyX]
    exact .tuple ho hc hd (rds_x I (by simpa only [isX] using hx) q rv)
  | .lst ds, _, _, hx, .lst hs q, r => by
    cases r
    obtain ⟨its, rv, ⟨o, n, ho, hc, _, hd⟩, _⟩ := I.list (SqL.of hs)
    simp only [pyX]
    exact .list ho hc hd (rds_x I (by simpa only [isX] using hx) q rv)
  | .scr ds, _, _, hx, .scr hs q, r => by
    cases r
    obtain ⟨its, rv, ⟨o, n, ho, hc, _, hd⟩, _⟩ := I.list hs
    simp only [pyX]
    exact .list ho hc hd (rds_x I (by simpa only [isX] using hx) q rv)
  | .dct kvs, _, _, hx, .dct e q, r => by
    cases r
    obtain ⟨_, hd, vs, r0, o, es, ep, h1, h2, h3, _, h5, _⟩ := dk_of I.hok e
    obtain ⟨p1, p2⟩ := rdk_x I (by simpa only [isX] using hx) q r0 h5
    simp only [pyX]
    exact .dict h1 h2.1 h3 hd p1 p2
  | .ty _, _, _, hx, _, _ => by simp [isX] at hx
  | .ref _, _, _, hx, _, _ => by simp [isX] at hx
  | .ins _ _, _, _, hx, _, _ => by simp [isX] at hx
  | .cls _, _, _, hx, _, _ => by simp [isX] at hx
  | .exn _ _ _ _, _, _, hx, _, _ => by simp [isX] at hx
theorem rds_x (I : Inv X pins σ H s) : ∀ {ds : List D} {vs : List V} {us : List Value}, isXs ds = true → Dens X.K H vs ds → Vals vs us → RDs s.heap us (pyXs ds)
  | [], _, _, _, .nil, r => by cases r; simp only [pyXs]; exact .nil
  | d :: ds, _, _, hx, .cons a q, r => by
    cases r with
    | cons r1 r2 =>
      simp only [isXs, Bool.and_eq_true] at hx
      simp only [pyXs]
      exact .cons (rd_x I hx.1 a r1) (rds_x I hx.2 q r2)
theorem rdk_x (I : Inv X pins σ H s) : ∀ {kvs : List (Key × D)} {vs : List (Key × V)} {us : List (Key × Value)} {es : List DictEntry}, isXk kvs = true → DenK X.K H vs kvs → KV vs us → Pairs (mixKind X.prog X.w) es us →
    RDs s.heap (es.map (·.key)) ((pyXk kvs).map (·.1)) ∧ RDs s.heap (es.map (·.val)) ((pyXk kvs).map (·.2))
  | [], _, _, _, _, .nil, r, p => by
    cases r
    cases p
    simp only [pyXk]
    exact ⟨.nil, .nil⟩
  | (k, d) :: kvs, _, _, _, hx, .cons a q, r, p => by
    cases r with
    | cons r1 r2 =>
      cases p with
      | cons p1 p2 p3 =>
        simp only [isXk, Bool.and_eq_true] at hx
        obtain ⟨t1, t2⟩ := rdk_x I hx.2 q r2 p3
        simp only [pyXk, List.map_cons]
        refine ⟨.cons ?_ t1, .cons (by rw [p2]; exact rd_x I hx.1 a r1.2) t2⟩
        have ek := r1.1
        simp only at ek
        rw [← ek] at p1
        rcases keyIs_shape p1 with ⟨i, t, e1, e2⟩ | ⟨x, t, e1, e2⟩
        · rw [e1, e2]; exact .int i t
        · rw [e1, e2]; exact .str x t
end
end
section
variable {prog : Program} {w : World} {h₀ : Heap}
mutual
theorem rk_x : ∀ {v : Value} {d : PyData}, RD h₀ v d → d.showable = true → d.shown.length ≤ sizeLine → ∃ bs, ReadAtMost h₀ d.depth bs ∧ ReprK prog w bs h₀ d.depth v d.shown
  | _, _, .none, _, _ => ⟨[], (fun _ h => nomatch h), by simp only [PyData.shown]; exact .of_is ReprIs.none _ _ _⟩
  | _, _, .bool b, _, _ => ⟨[], (fun _ h => nomatch h), by simp only [PyData.shown]; exact .of_is (ReprIs.bool b) _ _ _⟩
  | _, _, .int i t, hs, _ => ⟨[], (fun _ h => nomatch h), by simp only [PyData.shown]; exact .of_is (ReprIs.int t (by simpa [PyData.showable] using hs)) _ _ _⟩
  | _, _, .str x t, _, hz => ⟨[], (fun _ h => nomatch h), by simp only [PyData.shown]; exact .of_is (ReprIs.str x t (by simpa only [PyData.shown] using hz)) _ _ _⟩
  | _, _, .list (a := a) (vs := vs) (xs := xs) h1 h2 h3 h4, hs, hz => by
    have hz' : (listText (PyData.shownAll xs)).length ≤ sizeLine := by simpa only [PyData.shown] using hz
    obtain ⟨bs, hb, hk⟩ := rks_x h4 (by simpa [PyData.showable] using hs) fun t ht => Nat.le_trans (listText_mem_le ht) hz'
    obtain ⟨as, r⟩ := RD.reads (.list h1 h2 h3 h4)
    have hna : a ∉ bs := not_mem_of_deeper r (by simp only [PyData.depth]; omega) hb
    refine ⟨a :: bs, ReadAtMost.cons r (by simp only [PyData.depth]; omega) hb, ?_⟩
    simp only [PyData.depth, PyData.shown]
    obtain ⟨l⟩ := vs
    cases l with
    | nil =>
      cases (show RDs h₀ [] xs from h4)
      simp only [PyData.shownAll, listText_nil]
      exact ReprK.listEmpty h1 h2 h3
    | cons x l => exact ReprK.list h1 h2 h3 hna (by simpa using hk.length_eq) fun i y e => hk.item i y (by simpa using e)
  | _, _, .tuple (a := a) (xs := xs) h1 h2 h3 h4, hs, hz => by
    have hz' : (tupleText (PyData.shownAll xs)).length ≤ sizeLine := by simpa only [PyData.shown] using hz
    obtain ⟨bs, hb, hk⟩ := rks_x h4 (by simpa [PyData.showable] using hs) fun t ht => Nat.le_trans (tupleText_mem_le ht) hz'
    obtain ⟨as, r⟩ := RD.reads (.tuple h1 h2 h3 h4)
    have hna : a ∉ bs := not_mem_of_deeper r (by simp only [PyData.depth]; omega) hb
    refine ⟨a :: bs, ReadAtMost.cons r (by simp only [PyData.depth]; omega) hb, ?_⟩
    simp only [PyData.depth, PyData.shown]
    exact ReprK.tuple h1 h2 h3 hna hk
  | _, _, .dict (a := a) (es := es) (kvs := kvs) h1 h2 h3 h4 h5 h6, hs, hz => by
    have hz' : (dictText (PyData.shownKv kvs)).length ≤ sizeLine := by simpa only [PyData.shown] using hz
    obtain ⟨hs1, hs2⟩ := PyData.showableKv_split kvs (by simpa [PyData.showable] using hs)
    obtain ⟨b1, hb1, k1⟩ := rks_x h5 hs1 (fun t ht => let ⟨p, hp, hl⟩ := PyData.shownKv_key_le kvs t ht; Nat.le_trans hl (Nat.le_trans (dictText_mem_le hp) hz'))
    obtain ⟨b2, hb2, k2⟩ := rks_x h6 hs2 (fun t ht => let ⟨p, hp, hl⟩ := PyData.shownKv_val_le kvs t ht; Nat.le_trans hl (Nat.le_trans (dictText_mem_le hp) hz'))
    have hb : ReadAtMost h₀ (PyData.depthKv kvs) (b1 ++ b2) := (hb1.mono (PyData.depthAll_keys_le kvs)).append (hb2.mono (PyData.depthAll_vals_le kvs))
    obtain ⟨as, r⟩ := RD.reads (.dict h1 h2 h3 h4 h5 h6)
    have hna : a ∉ b1 ++ b2 := not_mem_of_deeper r (by simp only [PyData.depth]; omega) hb
    refine ⟨a :: (b1 ++ b2), ReadAtMost.cons r (by simp only [PyData.depth]; omega) hb, ?_⟩
    simp only [PyData.depth, PyData.shown, PyData.shownKv_eq]
    exact ReprK.dict h1 h2 h3 h4 hna (ReprEntriesK.of_two es.toList _ _ (k1.more_le (fun b hb => List.mem_append_left _ hb) (PyData.depthAll_keys_le kvs)) (k2.more_le (fun b hb => List.mem_append_right _ hb) (PyData.depthAll_vals_le kvs)))
theorem rks_x : ∀ {vs : List Value} {ds : List PyData}, RDs h₀ vs ds → PyData.showableAll ds = true → (∀ t ∈ PyData.shownAll ds, t.length ≤ sizeLine) →
    ∃ bs, ReadAtMost h₀ (PyData.depthAll ds) bs ∧ ReprAllK prog w bs h₀ (PyData.depthAll ds) vs (PyData.shownAll ds)
  | _, _, .nil, _, _ => ⟨[], (fun _ h => nomatch h), by simp only [PyData.shownAll]; exact .nil⟩
  | _, _, .cons (d := d) (ds := ds) r rs, hs, hz => by
    have hs' : d.showable = true ∧ PyData.showableAll ds = true := by simpa [PyData.showableAll] using hs
    obtain ⟨b1, hb1, k1⟩ := rk_x r hs'.1 (hz _ (by simp [PyData.shownAll]))
    obtain ⟨b2, hb2, k2⟩ := rks_x rs hs'.2 fun t ht => hz t (by simp only [PyData.shownAll]; exact List.mem_cons_of_mem _ ht)
    refine ⟨b1 ++ b2, ?_, ?_⟩
    · simp only [PyData.depthAll]
      exact (hb1.mono (Nat.le_max_left _ _)).append (hb2.mono (Nat.le_max_right _ _))
    · simp only [PyData.depthAll, PyData.shownAll]
      exact .cons ((k1.more fun b hb => List.mem_append_left _ hb).level_le (Nat.le_max_left _ _)) (k2.more_le (fun b hb => List.mem_append_right _ hb) (Nat.le_max_right _ _))
end
theorem repr_x {A : Around} {E : Value → Shared → Prop} {s : Shared} {Q : Value → Shared → Prop} {a : Addr} {d : PyData} (r : RD s.heap (.ref a) d) (hs : d.showable = true) (hg : A.guards = some []) (hu : A.units + (d.depth + 1) < cLine)
    (hQ : ∀ h' u tk, (∀ b o, s.heap.get? b = some o → h'.get? b = some o) → Q (.str d.shown u) { s with heap := h', toks := tk }) (hsz : d.shown.length ≤ sizeLine) :
    wpAny (model prog w) A (call (.builtin "repr") [.ref a]) Q E s := by
  cases r with
  | list h1 h2 h3 h4 =>
    rename_i o vs n xs
    have hz' : (listText (PyData.shownAll xs)).length ≤ sizeLine := by simpa only [PyData.shown] using hsz
    obtain ⟨bs, hb, hk⟩ := rks_x (prog := prog) (w := w) h4 (by simpa [PyData.showable] using hs) fun t ht => Nat.le_trans (listText_mem_le ht) hz'
    obtain ⟨as, r⟩ := RD.reads (.list h1 h2 h3 h4)
    have hna : a ∉ bs := not_mem_of_deeper r (by simp only [PyData.depth]; omega) hb
    simp only [PyData.depth] at hu
    simp only [PyData.shown] at hQ
    refine call_repr_slot (T := "list") (idr := "list.__repr__") (by omega) ⟨o, h1, h2⟩ F.slot_list_repr.toG ?_
    have hu' : A.in1.units + (PyData.depthAll xs + 1) < cLine := by show A.units + 1 + _ < _; omega
    obtain ⟨l⟩ := vs
    cases l with
    | nil =>
      cases (show RDs s.heap [] xs from h4)
      simp only [PyData.shownAll, listText_nil] at hQ
      exact call_list_repr_empty ⟨o, h1, h2⟩ h1 h3 ⟨_, _, rfl, hQ s.heap _ _ fun _ _ e => e⟩
    | cons x l =>
      exact call_list_reprK h1 h2 h3 hna (by simpa using hk.length_eq) (fun i y e => hk.item i y (by simpa using e)) hg (fun b _ => Clear.nil b) hu' (fun _ _ e => e) (fun h' u tk q => ⟨_, _, rfl, hQ h' u tk q⟩) hz'
  | tuple h1 h2 h3 h4 =>
    rename_i o vs n xs
    have hz' : (tupleText (PyData.shownAll xs)).length ≤ sizeLine := by simpa only [PyData.shown] using hsz
    obtain ⟨bs, hb, hk⟩ := rks_x (prog := prog) (w := w) h4 (by simpa [PyData.showable] using hs) fun t ht => Nat.le_trans (tupleText_mem_le ht) hz'
    obtain ⟨as, r⟩ := RD.reads (.tuple h1 h2 h3 h4)
    have hna : a ∉ bs := not_mem_of_deeper r (by simp only [PyData.depth]; omega) hb
    simp only [PyData.depth] at hu
    simp only [PyData.shown] at hQ
    refine call_repr_slot (T := "tuple") (idr := "tuple.__repr__") (by omega) ⟨o, h1, h2⟩ F.slot_tuple_repr ?_
    have hu' : A.in1.units + (PyData.depthAll xs + 1) < cLine := by show A.units + 1 + _ < _; omega
    exact call_tuple_reprK h1 h2 h3 hna hk hg (fun b _ => Clear.nil b) hu' (fun _ _ e => e) (fun h' u tk q => ⟨_, _, rfl, hQ h' u tk q⟩) hz'
  | dict h1 h2 h3 h4 h5 h6 =>
    rename_i o es n kvs
    have hz' : (dictText (PyData.shownKv kvs)).length ≤ sizeLine := by simpa only [PyData.shown] using hsz
    obtain ⟨hs1, hs2⟩ := PyData.showableKv_split kvs (by simpa [PyData.showable] using hs)
    obtain ⟨b1, hb1, k1⟩ := rks_x (prog := prog) (w := w) h5 hs1 (fun t ht => let ⟨p, hp, hl⟩ := PyData.shownKv_key_le kvs t ht; Nat.le_trans hl (Nat.le_trans (dictText_mem_le hp) hz'))
    obtain ⟨b2, hb2, k2⟩ := rks_x (prog := prog) (w := w) h6 hs2 (fun t ht => let ⟨p, hp, hl⟩ := PyData.shownKv_val_le kvs t ht; Nat.le_trans hl (Nat.le_trans (dictText_mem_le hp) hz'))
    have hb : ReadAtMost s.heap (PyData.depthKv kvs) (b1 ++ b2) := (hb1.mono (PyData.depthAll_keys_le kvs)).append (hb2.mono (PyData.depthAll_vals_le kvs))
    obtain ⟨as, r⟩ := RD.reads (.dict h1 h2 h3 h4 h5 h6)
    have hna : a ∉ b1 ++ b2 := not_mem_of_deeper r (by simp only [PyData.depth]; omega) hb
    simp only [PyData.depth] at hu
    simp only [PyData.shown, PyData.shownKv_eq] at hQ
    refine call_repr_slot (T := "dict") (idr := "dict.__repr__") (by omega) ⟨o, h1, h2⟩ F.slot_dict_repr ?_
    have hu' : A.in1.units + (PyData.depthKv kvs + 1) < cLine := by show A.units + 1 + _ < _; omega
    exact call_dict_reprK h1 h2 h3 h4 hna (ReprEntriesK.of_two es.toList _ _ (k1.more_le (fun b hb => List.mem_append_left _ hb) (PyData.depthAll_keys_le kvs)) (k2.more_le (fun b hb => List.mem_append_right _ hb) (PyData.depthAll_vals_le kvs))) hg (fun b _ => Clear.nil b) hu' (fun _ _ e => e) (fun h' u tk q => ⟨_, _, rfl, hQ h' u tk q⟩) (by rw [← PyData.shownKv_eq]; exact hz')
end
/-- repr is served for it -/
def rOkX (d : D) : Bool := isX d && (pyX d).showable && (pyX d).leavesShort 130 && decide ((pyX d).bulk ≤ 100000) && decide ((pyX d).depth ≤ 64)
def rTxtX (d : D) : Str := (pyX d).shown
def reprXG : GA := fun as S => match as with
  | [a] => match snap S a with
    | some d => if rOkX d then okV (.str (rTxtX d)) S else .stuck
    | none => .stuck
  | _ => .stuck
section
variable {X : Cx} {W : XW X.K}
def rReprX (K : PySem.W.Frag) : List V → Hp → VK → Prop := fun xs H Q => ∃ x d, xs = [x] ∧ Den K H x d ∧ rOkX d = true ∧ Q (.str (rTxtX d)) H
theorem call_reprX (hg : X.A.guards = some []) (hu : X.A.units + 80 < cLine) : CallR X (.builtin "repr") (rReprX X.K) := by
  intro pins s sg H xs us Q I r h
  obtain ⟨x, d, rfl, hd, ho, q⟩ := h
  obtain ⟨u, rfl, rx⟩ := vals1 r
  unfold rOkX at ho
  simp only [Bool.and_eq_true, decide_eq_true_eq] at ho
  obtain ⟨⟨⟨⟨hx, h1⟩, h2⟩, h3⟩, h4⟩ := ho
  have rd := rd_x I hx hd rx
  have hlen : (pyX d).shown.length ≤ sizeLine := by
    have q := PyData.shown_le_bulk 130 (by decide) (pyX d) h2
    have e : sizeLine = 16777216 := sizeLine_eq
    omega
  unfold rTxtX at q
  generalize pyX d = z at *
  have go : ∀ a, u = .ref a → wpAny (model X.prog X.w) X.A (call (.builtin "repr") [u]) (EP X pins sg Q) X.xe s := by
    rintro a rfl
    refine repr_x rd h1 hg (by omega) (fun h' u tk hk => ?_) hlen
    exact ⟨.str z.shown, H, I.kept hk, ⟨_, rfl⟩, q⟩
  cases rd with
  | none => exact PySem.P.repr_of_none ⟨.str _, H, I.tok _, ⟨_, rfl⟩, by simpa only [PyData.shown] using q⟩
  | bool b => exact PySem.P.repr_of_bool ⟨.str _, H, I.tok _, ⟨_, rfl⟩, by cases b <;> simpa [PyData.shown] using q⟩
  | int i t => exact PySem.P.repr_of_int (by simpa [PyData.showable] using h1) ⟨.str _, H, I.tok _, ⟨_, rfl⟩, by simpa only [PyData.shown] using q⟩
  | str z t => exact PySem.P.repr_of_str ⟨.str _, H, I.tok _, ⟨_, rfl⟩, by simpa only [PyData.shown] using q⟩ (by simpa only [PyData.shown] using hlen)
  | list _ _ _ _ => exact go _ rfl
  | tuple _ _ _ _ => exact go _ rfl
  | dict _ _ _ _ _ _ => exact go _ rfl
theorem reprX_ok : OpA X W (rReprX X.K) reprXG := by
  intro ph S H xs as Q g d h
  unfold reprXG at h
  split at h
  · obtain ⟨v, rfl, dv⟩ := one_of d
    split at h
    · rename_i e he
      split at h
      · rename_i hp
        exact ⟨v, e, rfl, snap_ok g dv he, hp, fin_v g (.str _) h⟩
      · exact h.elim
    · exact h.elim
  · exact h.elim
end
end DL

namespace DL
open PySem PySem.Spec PyProof.Rows L2
abbrev five : List String := ["bool", "int", "str", "tuple", "list"]
def fcIsb (m : Str) : Fc := fun K => five.all fun t => decide (PySem.W.kitOne K (.ref (He.ga K m)) (.type t) = some false)
/-- no built-in kind is the class of these -/
structure IsbOk (K : PySem.W.Frag) (ms : List Str) : Prop where
  xs : ∀ m ∈ ms, IsiOk K m ∧ ∀ t ∈ five, PySem.W.kitOne K (.ref (He.ga K m)) (.type t) = some false
theorem isb_nil {K : PySem.W.Frag} : IsbOk K [] := ⟨fun _ h => nomatch h⟩
theorem isb_cons {K : PySem.W.Frag} {m : Str} {ms : List Str} (h : IsbOk K ms) (k : IsiOk K m) (c : fcIsb m K = true) : IsbOk K (m :: ms) := ⟨fun x hx => (List.mem_cons.mp hx).elim (fun e => e ▸ ⟨k, fun t ht => of_decide_eq_true (List.all_eq_true.mp c t ht)⟩) (h.xs x)⟩
def isbO (ms : List Str) : GA := fun as S => match as with
  | [x, .fr (.ty b)] => match insOf S x with
    | some (m, _) => if m ∈ ms ∧ b ∈ five then okV (.bl false) S else .stuck
    | none => .stuck
  | _ => .stuck
def isbG (ms : List Str) : GA := fun as S => match isiG as S with
  | .stuck => isbO ms as S
  | r => r
theorem isbO_ok {X : Cx} {W : XW X.K} {ms : List Str} (T : IsbOk X.K ms) : OpA X W (rIsi X.K) (isbO ms) := by
  intro ph S H xs as Q g d h
  unfold isbO at h
  split at h
  · rename_i x b
    obtain ⟨v, u, rfl, dv, du⟩ := two_of d
    have e : u = .ty b := by cases (show Den X.K (hide ph H) u (.ty b) from du); rfl
    subst e
    split at h
    · rename_i m fs hi
      obtain ⟨a, dx, vs, rfl, e1, _⟩ := insOf_ok g dv hi
      split at h
      · rename_i hm
        obtain ⟨z, q⟩ := T.xs m hm.1
        exact ⟨.ref a, .ty b, .ref _, .type b, false, rfl, .ty b, .base (.ins e1 z.cls z.ha z.hn z.htk z.hm), q b hm.2, fin_v g (.bl _) h⟩
      · exact h.elim
    · exact h.elim
  · exact h.elim
theorem isbG_ok {X : Cx} {W : XW X.K} {ms : List Str} (T : IsbOk X.K ms) : OpA X W (rIsi X.K) (isbG ms) := by
  intro ph S H xs as Q g d h
  unfold isbG at h
  split at h
  · exact isbO_ok T ph S H xs as Q g d h
  · exact isi_ok ph S H xs as Q g d h
/-- a, b = x, y of which a part is a list that is written later -/
def gTuC (n : Nat) (m : GMs) : GM := fun x rho S => match x with
  | .cell k => match S[k]? with
    | some (.tup xs) => if xs.length = n then m xs rho S else .stuck
    | _ => .stuck
  | _ => .stuck
theorem dSs_len {K : PySem.W.Frag} {ph : List Addr} {H : Hp} {vs : List V} {xs : List SV} (h : DenSs K ph H vs xs) : vs.length = xs.length := by
  induction h with
  | nil => rfl
  | cons _ _ ih => simp [ih]
theorem pgd_tupC {X : Cx} {W : XW X.K} {is : List Nat} {es : List Expr} {k n : Nat} {m : GMs} {pos : Pos} (hc : X.calm = true) (h : PGDs X W is es m) (hn : (assignEach es X.env).length = n := by rfl) (hst : (assignEach es X.env).findIdx? (·.1) = none := by rfl) : PGD X W is (.Tuple es k pos) (gTuC n m) := by
  obtain ⟨t, p, s⟩ := h.ex
  refine ⟨_, pg_tup hc p hn hst, fun ph S H sg rho v x Q g so d h => ?_⟩
  unfold gTuC at h
  split at h
  · rename_i k
    split at h
    · rename_i xs hk
      split at h
      · rename_i hl
        obtain ⟨q, hq, rfl⟩ := d
        obtain ⟨vs, h4, h5⟩ := paired_at g.cells hq hk
        exact ⟨q, vs, rfl, .inl (.inl h4), by rw [dSs_len h5]; exact hl, s ph S H sg rho _ _ Q g so h5 h⟩
      · exact h.elim
    · exact h.elim
  · exact h.elim
end DL

namespace DL
open PySem PySem.Spec PyProof.Rows L2
/-! ### a call that may raise -/
def cutX (n : Nat) (rho : Slots) (r : Res (RV × Store)) : Res (RV × Store) := match r with
  | .exc e _ S' => if (S'.take n).all (Cell.below n) = true then .exc e rho (S'.take n) else .stuck
  | x => x
def eCallX (f : FnM) (c : Bool) (m : AM) : EM := fun rho S => (m rho S).bind fun x => (cutX x.2.length rho (f x.1 x.2)).bind (back c)
section
variable {X : Cx} {Wq : WX} {e : Expr} {es : List Expr} {pos p : Pos} {m : AM}
theorem cutX_ok {ph ph1 : List Addr} {H H1 : Hp} {S1 : Store} {sg : L2.St} {rho : Slots} {Q : VK} {c : Bool} {r : Res (RV × Store)} (x1 : Ext ph H ph1 H1) (g1 : Good X.K ph1 H1 S1) (so : SlotsOk X.K ph1 H1 sg rho)
    (h : holds ((cutX S1.length rho r).bind (back c)) (post X.K ph H Q) ((XW.of X.K Wq).rel ph H)) : holds r (postF X.K ph1 H1 Q) (postX X.K ph1 H1 (WE Wq sg)) := by
  cases r with
  | ok a => exact back_ok x1 h
  | stuck => exact h
  | exc e r' S' =>
    unfold cutX at h
    dsimp only at h
    split at h
    · rename_i hb
      intro ph' H' cls d x' g' ed
      have hm : ∀ a ∈ ph1, a ∈ ph' := fun a ha => by
        obtain ⟨ps, rfl, _⟩ := x'.pre
        exact List.mem_append_left _ ha
      exact h ph1 H' sg cls d (x1.trans x'.back) (g1.cut x' g' hb) (so.mono x'.back) (ed.mono (sub_hide hm))
    · exact h.elim
theorem pe_callX {k j : Nat} {x : Str} {f : FnM} {t : TA} (tk : Takes X Wq) (c : CalD X.prog X.w X.K X.mg X.base k x f) (hr : Room j X.A) (hk : k ≤ j) (hgd : X.A.guards = some []) (hg : Gl X x) (ha : PA X (e :: es) t)
    (hdb : (x == ("__debug__" : Str)) = false) (he : starEach (e :: es) X.env = (false, eval e X.env) :: starEach es X.env) (hpl : (backTo pos (starEach es X.env)).any (·.1) = false) :
    PE X (.Call (.Name x p) (e :: es) [] pos) (fun sg H Q => t sg H fun vs H1 => spD X.K f vs H1 Q (WE Wq sg)) := by
  obtain ⟨g, fd, ps, hm, hkp, hbd, F⟩ := c.ex
  refine ⟨fun pins s sg H Q I h => wpAny_Call_Name_kw (ld_glob I hg hm ?_ hdb)⟩
  refine PySem.W.callWith_K (h₀ := X.base) I.ok.mod.kin hkp (thn (ha.run pos pins s sg H _ I h) fun us s1 ⟨vs, H1, I1, r, q⟩ => ⟨I1.kIn, ?_⟩) he hpl
  have hl : (us ++ []).length = ps.length := by rw [List.append_nil, ← r.length]; exact F.len _ _ _ _ q
  have bt := hbd s1 us I1.kIn hl
  rw [List.append_nil] at bt
  refine wpAny_call (codeAny_mono (F.run X.A X.stack s1 H1 ⟨us, []⟩ us vs Q (WE Wq sg) hgd (hr.mono hk) I1.env0 bt r q) fun r s' hq => ?_)
  cases r with
  | error e => exact passAt tk sg pins H1 s1 e s' I1 hq
  | ok fl =>
    cases fl with
    | ret u => exact I1.after hq
    | next => exact False.elim hq
    | brk => exact False.elim hq
    | cont => exact False.elim hq
theorem pd_callX {k j : Nat} {x : Str} {f : FnM} (cc : Bool) (tk : Takes X Wq) (c : CalD X.prog X.w X.K X.mg X.base k x f) (hr : Room j X.A) (hk : k ≤ j) (hgd : X.A.guards = some []) (ha : PDA X (XW.of X.K Wq) (e :: es) m) (hg : Gl X x := by rfl)
    (hdb : (x == ("__debug__" : Str)) = false := by decide) (he : starEach (e :: es) X.env = (false, eval e X.env) :: starEach es X.env := by rfl) (hpl : (backTo pos (starEach es X.env)).any (·.1) = false := by rfl) : PD X (XW.of X.K Wq) (.Call (.Name x p) (e :: es) [] pos) (eCallX f cc m) := by
  obtain ⟨t, pa, sa⟩ := ha.ex
  refine ⟨_, pe_callX tk c hr hk hgd hg pa hdb he hpl, fun ph S H sg rho Q gd so h => sa ph S H sg rho _ gd so (holds_imp (holds_bind h) (fun y hy => ?_) fun _ _ _ q => q)⟩
  intro ph1 vs H1 x1 g1 d1
  exact ⟨ph1, y.2, y.1, g1, d1, cutX_ok x1 g1 (so.mono x1) hy⟩
/-! ### raise -/
def sRs0 (C : Str) : SM := fun rho S => .exc ⟨C, []⟩ rho S
theorem psd_raise0 {C : Str} {ex : Expr} (hc : X.calm = true) (tk : Takes X Wq) (h : PMk X ex (fun _ H Q => Q (.ref (He.ga X.K C)) none H)) : PSD X (XW.of X.K Wq) (.Raise (some ex) none pos) (sRs0 C) :=
  ⟨_, L2.ps_raise hc tk h, fun ph S H sg rho Dn g so h => h ph H sg _ _ (Ext.refl _ _) g so ⟨rfl, .inl ⟨rfl, rfl⟩⟩⟩
end
/-! ### the strongest reading of a mirror -/
def tOfS (K : PySem.W.Frag) (W : XW K) (m : SM) : TS := fun D sg H => ∃ ph S rho, Good K ph H S ∧ SlotsOk K ph H sg rho ∧ holds (m rho S) (postS K ph H D) (W.rel ph H)
theorem PSDs.pss {X : Cx} {W : XW X.K} {st : List Stmt} {m : SM} (h : PSDs X W st m) : PSs X st (tOfS X.K W m) := by
  obtain ⟨t, p, s⟩ := h.ex
  exact ⟨fun pins s' sg H D I ⟨ph, S, rho, g, so, q⟩ => p.run pins s' sg H D I (s ph S H sg rho D g so q)⟩
/-! ### try -/
/-- which classes are caught: of a known list -/
abbrev IsT := List (Str × Bool)
theorem lookup_mem {α β : Type} [BEq α] [LawfulBEq α] {k : α} {v : β} : ∀ {l : List (α × β)}, l.lookup k = some v → (k, v) ∈ l
  | [], h => by cases h
  | (a, b) :: l, h => by
    rw [List.lookup_cons] at h
    cases e : k == a with
    | true =>
      rw [e] at h
      cases h
      rw [eq_of_beq e]
      exact List.mem_cons_self
    | false =>
      rw [e] at h
      exact List.mem_cons_of_mem _ (lookup_mem h)
/-- what the suite leaves, without the error's slot -/
def wipe1 (i : Nat) (r : Res (Fl × Slots × Store)) : Res (Fl × Slots × Store) := match r with
  | .ok x => .ok (x.1, x.2.1.set i none, x.2.2)
  | _ => .stuck
/-- no error leaves -/
def wipe0 (r : Res (Fl × Slots × Store)) : Res (Fl × Slots × Store) := match r with
  | .ok x => .ok x
  | _ => .stuck
abbrev SX := Addr → Option Addr → Exc → SM
open Classical in
/-- the suite is run at every place where the error and its dict may lie -/
noncomputable def suiteRes (i : Nat) (ms : SX) (e : Exc) (r : Slots) (S : Store) : Res (Fl × Slots × Store) :=
  if h : ∃ res, ∀ (a : Addr) (od : Option Addr), (e.fs = [] → od = none) → (od = none → e.fs = []) → wipe1 i (ms a od e (r.set i (some (.fr (.exn a od e.cls e.fs)))) S) = res then Classical.choose h else .stuck
noncomputable def sTryA (i : Nat) (tb : IsT) (mb : SM) (ms : SX) : SM := fun rho S => match mb rho S with
  | .exc e r S' => match tb.lookup e.cls with
    | some true => suiteRes i ms e r S'
    | some false => .exc e r S'
    | none => .stuck
  | x => x
def sTryO (tb : IsT) (mb ms : SM) : SM := fun rho S => match mb rho S with
  | .exc e r S' => match tb.lookup e.cls with
    | some true => wipe0 (ms r S')
    | some false => .exc e r S'
    | none => .stuck
  | x => x
theorem suite_is {i : Nat} {ms : SX} {e : Exc} {r : Slots} {S : Store} {res : Res (Fl × Slots × Store)}
    (h : ∀ (a : Addr) (od : Option Addr), (e.fs = [] → od = none) → (od = none → e.fs = []) → wipe1 i (ms a od e (r.set i (some (.fr (.exn a od e.cls e.fs)))) S) = res) : suiteRes i ms e r S = res := by
  have hx : ∃ res, ∀ (a : Addr) (od : Option Addr), (e.fs = [] → od = none) → (od = none → e.fs = []) → wipe1 i (ms a od e (r.set i (some (.fr (.exn a od e.cls e.fs)))) S) = res := ⟨res, h⟩
  unfold suiteRes
  rw [dif_pos hx]
  have q := Classical.choose_spec hx
  obtain ⟨od, o1, o2⟩ : ∃ od : Option Addr, (e.fs = [] → od = none) ∧ (od = none → e.fs = []) := by
    by_cases z : e.fs = []
    · exact ⟨none, fun _ => rfl, fun _ => z⟩
    · exact ⟨some 0, fun y => absurd y z, fun y => by cases y⟩
  rw [← q 0 od o1 o2, h 0 od o1 o2]
theorem suite_at {i : Nat} {ms : SX} {e : Exc} {r : Slots} {S : Store} {P : Fl × Slots × Store → Prop} {E : Exc → Slots → Store → Prop} (h : holds (suiteRes i ms e r S) P E) {a : Addr} {od : Option Addr} (o1 : e.fs = [] → od = none) (o2 : od = none → e.fs = []) :
    holds (wipe1 i (ms a od e (r.set i (some (.fr (.exn a od e.cls e.fs)))) S)) P E := by
  unfold suiteRes at h
  split at h
  · rename_i hx
    have q := Classical.choose_spec hx
    rw [q a od o1 o2]
    exact h
  · exact h.elim
theorem SlotsOk.wipe {K : PySem.W.Frag} {ph : List Addr} {H : Hp} {sg : L2.St} {rho : Slots} (h : SlotsOk K ph H sg rho) (i : Nat) : SlotsOk K ph H (sg.set i none) (rho.set i none) := by
  refine ⟨by simpa using h.1, fun j x q => ?_⟩
  by_cases e : i = j
  · subst e
    rw [List.getElem?_set] at q
    split at q
    · split at q <;> cases q
    · exact absurd rfl ‹_›
  · rw [List.getElem?_set_ne e] at q ⊢
    exact h.2 j x q
theorem wipe1_ok {K : PySem.W.Frag} {ph ph' : List Addr} {H H' : Hp} {Dn : Ends} {i : Nat} {r : Res (Fl × Slots × Store)} {E : Exc → Slots → Store → Prop} (x : Ext ph H ph' H') (h : holds (wipe1 i r) (postS K ph H Dn) E) :
    holds r (postS K ph' H' { nx := fun sg H => Dn.nx (sg.set i none) H, rt := Dn.rt, bk := fun sg H => Dn.bk (sg.set i none) H, ct := fun sg H => Dn.ct (sg.set i none) H }) ((XW.none K).rel ph' H') := by
  cases r with
  | exc e r s => exact h.elim
  | stuck => exact h
  | ok y =>
    obtain ⟨fl, rho', S''⟩ := y
    intro ph2 sg2 H2 x2 g2 so2
    have q := h ph2 (sg2.set i none) H2 (x.trans x2) g2 (SlotsOk.wipe so2 i)
    cases fl <;> exact q
theorem wipe0_ok {K : PySem.W.Frag} {ph ph' : List Addr} {H H' : Hp} {Dn : Ends} {r : Res (Fl × Slots × Store)} {E : Exc → Slots → Store → Prop} (x : Ext ph H ph' H') (h : holds (wipe0 r) (postS K ph H Dn) E) : holds r (postS K ph' H' Dn) ((XW.none K).rel ph' H') := by
  cases r with
  | exc e r s => exact h.elim
  | stuck => exact h
  | ok y => exact postS.mono x y h
section
variable {X : Cx} {Wq : WX} {pos pos' np : Pos} {x n : Str} {c : Value} {i : Nat} {body suite : List Stmt} {b0 : Stmt} {mb : SM} {ms : SX} {tb : IsT}
theorem psd_try_as (i : Nat) (hs : X.stack = X.env :: X.outer) (hf : X.env.frame = some X.env.locals) (hN : X.N.Nodup) (hi : X.N[i]? = some n) (hln : X.env.kindOf n = some .local) (hc : Names X x c) (tk : Takes X Wq)
    (ht : ∀ p ∈ tb, PySem.W.exmOne X.K (.ref (He.ga X.K p.1)) c = some p.2)
    (hb : ∀ (W' : WX) (pn : List (Addr × Obj)) (xe : Value → Shared → Prop), Takes (X.tr pn xe) W' → PSDs (X.tr pn xe) (XW.of X.K W') body mb)
    (hsu : ∀ (a : Addr) (oe : Obj) (e : Exc) (d : Option Addr) (pn : List (Addr × Obj)), Zc (.ref (He.ga X.K e.cls)) d oe → (∃ vs, oe.data = .fields vs) → PSDs (X.suite a ((a, oe) :: pn)) (XW.none X.K) (b0 :: suite) (ms a d e)) :
    PSD X (XW.of X.K Wq) (.Try body [.ExceptHandler (some (.Name x np)) (some n) (b0 :: suite) pos'] [] [] pos) (sTryA i tb mb ms) := by
  refine ⟨_, L2.ps_try_as (i := i) (tb := fun W' => tOfS X.K (XW.of X.K W') mb) (ts := fun a cls d D sg H => ∃ e : Exc, cls = .ref (He.ga X.K e.cls) ∧ tOfS X.K (XW.none X.K) (ms a d e) D sg H) (Wout := Wq) hs hf hN hi hln hc tk (fun W' pn xe tk' _ => (hb W' pn xe tk').pss) (fun a oe cls d pn hz hfl => ?_), fun ph S H sg rho Dn g so h => ?_⟩
  · refine ⟨fun pins s sg H D I ⟨e, ec, q⟩ => ?_⟩
    subst ec
    exact (hsu a oe e d pn hz hfl).pss.run pins s sg H D I q
  · refine ⟨ph, S, rho, g, so, ?_⟩
    unfold sTryA at h
    cases hm : mb rho S with
    | ok r =>
      rw [hm] at h
      exact h
    | stuck =>
      rw [hm] at h
      exact h.elim
    | exc e r S' =>
      rw [hm] at h
      dsimp only at h
      intro ph' H' sg' cls d x' g' so' ed
      split at h
      · rename_i hl
        have hmem := ht (e.cls, true) (lookup_mem hl)
        refine ⟨true, by rw [ed.1]; exact hmem, fun _ a na => ⟨e, ed.1, ?_⟩, fun z => by cases z⟩
        have den : Den X.K (hide ph' H') (.ref a) (.exn a d e.cls e.fs) := by
          rcases ed.2 with ⟨e1, e2⟩ | ⟨_, a', vs, e1, e2, e3⟩
          · rw [e1, e2]
            exact .exn0 a _
          · rw [e1]
            exact .exn e2 e3
        have o1 : e.fs = [] → d = none := fun z => by
          rcases ed.2 with ⟨e1, _⟩ | ⟨n, _⟩
          · exact e1
          · exact absurd z n
        have o2 : d = none → e.fs = [] := fun z => by
          rcases ed.2 with ⟨_, e2⟩ | ⟨_, a', vs, e1, _⟩
          · exact e2
          · rw [z] at e1; cases e1
        exact ⟨ph', S', r.set i (some (.fr (.exn a d e.cls e.fs))), g', so'.set i (x := .fr (.exn a d e.cls e.fs)) den, wipe1_ok x' (suite_at h o1 o2)⟩
      · rename_i hl
        refine ⟨false, by rw [ed.1]; exact ht (e.cls, false) (lookup_mem hl), (fun z => by cases z), fun _ => h ph' H' sg' cls d x' g' so' ed⟩
      · exact h.elim
theorem psd_try_only {ms : SM} (hs : X.stack = X.env :: X.outer) (hf : X.env.frame = some X.env.locals) (hc : Names X x c) (tk : Takes X Wq)
    (ht : ∀ p ∈ tb, PySem.W.exmOne X.K (.ref (He.ga X.K p.1)) c = some p.2)
    (hb : ∀ (W' : WX) (pn : List (Addr × Obj)) (xe : Value → Shared → Prop), Takes (X.tr pn xe) W' → PSDs (X.tr pn xe) (XW.of X.K W') body mb)
    (hsu : ∀ (a : Addr) (oe : Obj) (pn : List (Addr × Obj)), PSDs (X.suite a ((a, oe) :: pn)) (XW.none X.K) (b0 :: suite) ms) :
    PSD X (XW.of X.K Wq) (.Try body [.ExceptHandler (some (.Name x np)) none (b0 :: suite) pos'] [] [] pos) (sTryO tb mb ms) := by
  refine ⟨_, L2.ps_try_only (tb := fun W' => tOfS X.K (XW.of X.K W') mb) (ts := fun a cls d => tOfS X.K (XW.none X.K) ms) (Wout := Wq) hs hf hc tk (fun W' pn xe tk' _ => (hb W' pn xe tk').pss) (fun a oe cls d pn _ _ => (hsu a oe pn).pss), fun ph S H sg rho Dn g so h => ?_⟩
  refine ⟨ph, S, rho, g, so, ?_⟩
  unfold sTryO at h
  cases hm : mb rho S with
  | ok r =>
    rw [hm] at h
    exact h
  | stuck =>
    rw [hm] at h
    exact h.elim
  | exc e r S' =>
    rw [hm] at h
    dsimp only at h
    intro ph' H' sg' cls d x' g' so' ed
    split at h
    · rename_i hl
      exact ⟨true, by rw [ed.1]; exact ht (e.cls, true) (lookup_mem hl), fun _ a na => ⟨ph', S', r, g', so', wipe0_ok x' h⟩, fun z => by cases z⟩
    · rename_i hl
      exact ⟨false, by rw [ed.1]; exact ht (e.cls, false) (lookup_mem hl), (fun z => by cases z), fun _ => h ph' H' sg' cls d x' g' so' ed⟩
    · exact h.elim
end
/-! ### isinstance of the error that the suite holds -/
structure ExcOk (K : PySem.W.Frag) (C : Addr) : Prop where
  cl : (PySem.W.clsIn K C).isSome = true
  ga : PySem.W.findIn K (.ref C) "__getattribute__" = some (some (.builtin "BaseException.__getattribute__"))
  gg : PySem.W.findIn K (.ref C) "__getattr__" = some none
  sub : PySem.W.subIn K (.ref C) (.type "BaseException") = some true
  ha : PySem.W.findIn K (.ref C) "__class__" = some (some (.builtin "object.__class__"))
  hn : PySem.W.specialIn K (.builtin "object.__class__") "__get__" = some (some (.builtin "getset_descriptor.__get__"))
  ht : PySem.W.takesIn K (.builtin "object.__class__") = some true
  hm : PySem.W.mroIn K C (.type "object") = some true
def fcExc (n : Str) : Fc := fun K => decide ((PySem.W.clsIn K (He.ga K n)).isSome = true) && (He.eqO (PySem.W.findIn K (.ref (He.ga K n)) "__getattribute__") (some (some (.builtin "BaseException.__getattribute__"))) && (He.eqO (PySem.W.findIn K (.ref (He.ga K n)) "__getattr__") (some none) &&
  (decide (PySem.W.subIn K (.ref (He.ga K n)) (.type "BaseException") = some true) && (He.eqO (PySem.W.findIn K (.ref (He.ga K n)) "__class__") (some (some (.builtin "object.__class__"))) && (He.eqO (PySem.W.specialIn K (.builtin "object.__class__") "__get__") (some (some (.builtin "getset_descriptor.__get__"))) &&
  (decide (PySem.W.takesIn K (.builtin "object.__class__") = some true) && decide (PySem.W.mroIn K (He.ga K n) (.type "object") = some true)))))))
theorem excOk_of {K : PySem.W.Frag} {n : Str} (c : fcExc n K = true) : ExcOk K (He.ga K n) := by
  unfold fcExc at c
  simp only [Bool.and_eq_true] at c
  obtain ⟨h1, h2, h3, h4, h5, h6, h7, h8⟩ := c
  exact ⟨of_decide_eq_true h1, He.eqO_ok h2, He.eqO_ok h3, of_decide_eq_true h4, He.eqO_ok h5, He.eqO_ok h6, of_decide_eq_true h7, of_decide_eq_true h8⟩
abbrev TyT := List (String × Bool)
/-- the answers of isinstance for an error of the class C -/
structure IseOk (K : PySem.W.Frag) (C : Str) (tb : IsT) (tt : TyT) : Prop where
  ex : ExcOk K (He.ga K C)
  own : ∀ p ∈ tb, PySem.W.kitOne K (.ref (He.ga K C)) (.ref (He.ga K p.1)) = some p.2
  ty : ∀ p ∈ tt, PySem.W.kitOne K (.ref (He.ga K C)) (.type p.1) = some p.2
def fcIse (C : Str) (tb : IsT) (tt : TyT) : Fc := fun K => fcExc C K && ((tb.all fun p => decide (PySem.W.kitOne K (.ref (He.ga K C)) (.ref (He.ga K p.1)) = some p.2)) && tt.all fun p => decide (PySem.W.kitOne K (.ref (He.ga K C)) (.type p.1) = some p.2))
theorem ise_of {K : PySem.W.Frag} {C : Str} {tb : IsT} {tt : TyT} (c : fcIse C tb tt K = true) : IseOk K C tb tt := by
  unfold fcIse at c
  simp only [Bool.and_eq_true] at c
  obtain ⟨h1, h2, h3⟩ := c
  exact ⟨excOk_of h1, fun p hp => of_decide_eq_true (List.all_eq_true.mp h2 p hp), fun p hp => of_decide_eq_true (List.all_eq_true.mp h3 p hp)⟩
/-- the classes of the errors that may be caught, with the answers -/
abbrev IseT := List (Str × IsT × TyT)
def IsesOk (K : PySem.W.Frag) (t : IseT) : Prop := ∀ p ∈ t, IseOk K p.1 p.2.1 p.2.2
theorem ises_nil {K : PySem.W.Frag} : IsesOk K [] := fun _ h => nomatch h
theorem ises_cons {K : PySem.W.Frag} {C : Str} {tb : IsT} {tt : TyT} {t : IseT} (h : IsesOk K t) (c : fcIse C tb tt K = true) : IsesOk K ((C, tb, tt) :: t) := fun p hp => (List.mem_cons.mp hp).elim (fun e => e ▸ ise_of c) (h p)
def fcExm (C L : Str) (b : Bool) : Fc := fun K => decide (PySem.W.exmOne K (.ref (He.ga K C)) (.ref (He.ga K L)) = some b)
def ExmOk (K : PySem.W.Frag) (L : Str) (tb : IsT) : Prop := ∀ p ∈ tb, PySem.W.exmOne K (.ref (He.ga K p.1)) (.ref (He.ga K L)) = some p.2
theorem exm_nil {K : PySem.W.Frag} {L : Str} : ExmOk K L [] := fun _ h => nomatch h
theorem exm_cons {K : PySem.W.Frag} {L C : Str} {b : Bool} {tb : IsT} (h : ExmOk K L tb) (c : fcExm C L b K = true) : ExmOk K L ((C, b) :: tb) := fun p hp => (List.mem_cons.mp hp).elim (fun e => e ▸ of_decide_eq_true c) (h p)
def clsB (tb : IsT) (tt : TyT) : D → Option Bool
  | .cls c => tb.lookup c
  | .ty t => tt.lookup t
  | _ => none
def anyB (tb : IsT) (tt : TyT) : List D → Option Bool
  | [] => some false
  | d :: ds => match clsB tb tt d, anyB tb tt ds with
    | some b, some r => some (b || r)
    | _, _ => none
def isE1 (tb : IsT) (tt : TyT) (y : SV) : Option Bool := match y with
  | .fr (.tup ds) => anyB tb tt ds
  | .fr d => clsB tb tt d
  | _ => none
def isEG (t : IseT) (a : Addr) (d : Option Addr) (C : Str) : GA := fun as S => match as with
  | [.fr (.exn a' od _ _), y] => if a' = a ∧ od = d then match t.lookup C with
    | some (tb, tt) => match isE1 tb tt y with
      | some b => okV (.bl b) S
      | none => .stuck
    | none => .stuck else .stuck
  | _ => .stuck
def rIsX (K : PySem.W.Frag) (D a : Addr) (d : Option Addr) : List V → Hp → VK → Prop := fun xs H Q => ∃ (c : V) (b : Bool), xs = [.ref a, c] ∧ ExcOk K D ∧ (∀ dd, d = some dd → ∃ fs, H dd = some (.xd fs)) ∧
  ((∃ u, ClsV c u ∧ PySem.W.kitOne K (.ref D) u = some b) ∨ ∃ (tp : Addr) (cs : List V) (us : List Value), c = .ref tp ∧ SqT K H tp cs ∧ Paired ClsV cs us ∧ PySem.W.kitAny K (.ref D) us = some b) ∧ Q (.bl b) H
theorem call_isX {X : Cx} {a D : Addr} {d : Option Addr} {oe : Obj} {pn : List (Addr × Obj)} (hz : Zc (.ref D) d oe) (hf : ∃ vs, oe.data = .fields vs) : CallR (X.suite a ((a, oe) :: pn)) (.builtin "isinstance") (rIsX X.K D a d) := by
  intro pins s σ H xs us Q I r h
  obtain ⟨c, b, rfl, C, hd, hc, q⟩ := h
  obtain ⟨u1, u2, rfl, r1, r2⟩ := vals2 r
  cases (show u1 = Value.ref a from r1)
  obtain ⟨hget, _⟩ := I.pin (a, oe) (List.mem_append.mpr (.inl List.mem_cons_self))
  obtain ⟨vs, hv⟩ := hf
  obtain ⟨od, J⟩ : ∃ od, PySem.W.InstAt s.heap a oe D od := by
    have nc : PySem.W.notCls oe = true := by unfold PySem.W.notCls; rw [hv] <;> rfl
    cases d with
    | none => exact ⟨none, hget, hz.1, nc, by rw [hz.2]; exact True.intro⟩
    | some dd =>
      obtain ⟨fs, e⟩ := hd dd rfl
      obtain ⟨mA, hns, _⟩ := (show ObjOk X.prog X.w H s.heap dd (.xd fs) from I.hok dd _ e)
      obtain ⟨od, ho, _⟩ := lookIn_ns hns
      exact ⟨some od, hget, hz.1, nc, by rw [hz.2]; exact ho⟩
  have Z := PySem.W.kitx_exc (ox := oe) (od := od) (x := a) C.cl C.ga C.gg C.sub C.ha C.hn C.ht C.hm
  rcases hc with ⟨u, k, e⟩ | ⟨tp, cs, ws, rfl, hT, k, e⟩
  · have e2 := k.eq r2
    subst e2
    exact PySem.W.kia_one Z I.kIn J e (fun z => nomatch z) fun tk => ⟨.bl b, H, I.tok tk, rfl, q⟩
  · cases (show u2 = Value.ref tp from r2)
    have raw : ∃ (its : List Value) (dd : Option Addr) (n : Nat) (sl : Array (Option Value)), s.heap.get? tp = some ⟨.type "tuple", dd, .seq its.toArray n, sl⟩ ∧ Vals cs its := by
      rcases hT with hT | ⟨o, its, n, hk, hc, hdd, _, rv⟩
      · obtain ⟨_, its, rv, o, h1, h2, n, h3⟩ := (show ObjOk X.prog X.w H s.heap tp (.tup cs) from hT.ok I.hok)
        obtain ⟨oc, od, dt, sl⟩ := o
        simp only at h2 h3
        subst h2 h3
        exact ⟨its, _, _, _, h1, rv⟩
      · have h1 := I.kIn _ _ hk
        obtain ⟨oc, od, dt, sl⟩ := o
        simp only at hc hdd
        subst hc hdd
        exact ⟨its.toList, od, n, sl, by rw [h1], rv⟩
    obtain ⟨its, dd, n, sl, h1, rv⟩ := raw
    have e3 := ClsV.all k rv
    subst e3
    exact PySem.W.kia_tup Z I.kIn J h1 e (fun z => nomatch z) fun tk => ⟨.bl b, H, I.tok tk, rfl, q⟩
theorem clsB_ok {K : PySem.W.Frag} {F : Hp} {C : Str} {tb : IsT} {tt : TyT} (T : IseOk K C tb tt) {v : V} {d : D} {b : Bool} (k : Den K F v d) (h : clsB tb tt d = some b) : ∃ u, ClsV v u ∧ PySem.W.kitOne K (.ref (He.ga K C)) u = some b := by
  unfold clsB at h
  split at h
  · rename_i c
    obtain rfl := d_cls k
    exact ⟨_, .own _, T.own _ (lookup_mem h)⟩
  · rename_i t
    cases k
    exact ⟨_, .ty t, T.ty _ (lookup_mem h)⟩
  · cases h
theorem anyB_ok {K : PySem.W.Frag} {F : Hp} {C : Str} {tb : IsT} {tt : TyT} (T : IseOk K C tb tt) : ∀ {vs : List V} {ds : List D} {b : Bool}, Dens K F vs ds → anyB tb tt ds = some b → ∃ us, Paired ClsV vs us ∧ PySem.W.kitAny K (.ref (He.ga K C)) us = some b
  | _, [], b, .nil, h => by
    cases h
    exact ⟨[], .nil, rfl⟩
  | _, d :: ds, b, .cons k r, h => by
    unfold anyB at h
    split at h
    · rename_i b1 r1 h1 h2
      cases h
      obtain ⟨u, c, e⟩ := clsB_ok T k h1
      obtain ⟨us, cs, es⟩ := anyB_ok T r h2
      exact ⟨u :: us, .cons c cs, kitAny_cons e (fun z => by rw [z]; exact es) fun z => by rw [z]; rfl⟩
    · cases h
theorem isE_ok {X : Cx} {W : XW (X.suite a ((a, oe) :: pn)).K} {t : IseT} {a : Addr} {d : Option Addr} {e : Exc} (T : IsesOk X.K t) : OpA (X.suite a ((a, oe) :: pn)) W (rIsX X.K (He.ga X.K e.cls) a d) (isEG t a d e.cls) := by
  intro ph S H xs as Q g dn h
  unfold isEG at h
  split at h
  · rename_i a' od C' fs y
    obtain ⟨v, u, rfl, dv, du⟩ := two_of dn
    split at h
    · rename_i hc
      obtain ⟨rfl, rfl⟩ := hc
      split at h
      · rename_i tb tt hl
        have T1 := T _ (lookup_mem hl)
        split at h
        · rename_i b hb
          have dv : Den X.K (hide ph H) v (.exn a' od C' fs) := dv
          have hx : v = .ref a' ∧ ∀ dd, od = some dd → ∃ fs, H dd = some (.xd fs) := by
            cases dv with
            | exn0 => exact ⟨rfl, fun dd z => by cases z⟩
            | exn e1 e2 => exact ⟨rfl, fun dd z => by cases z; exact ⟨_, (hide_some e1).2⟩⟩
          obtain ⟨rfl, hd⟩ := hx
          refine ⟨u, b, rfl, T1.ex, hd, ?_, fin_v g (.bl _) h⟩
          unfold isE1 at hb
          split at hb
          · rename_i ds
            obtain ⟨tp, vs, rfl, s, r⟩ := d_tup (show Den X.K (hide ph H) u (.tup ds) from du)
            obtain ⟨us, k, e⟩ := anyB_ok T1 r hb
            exact .inr ⟨tp, vs, us, rfl, hide_sub.sqT s, k, e⟩
          · rename_i dd _
            exact .inl (clsB_ok T1 (show Den X.K (hide ph H) u dd from du) hb)
          · cases hb
        · exact h.elim
      · exact h.elim
    · exact h.elim
  · exact h.elim
end DL

namespace DL
open PySem PySem.Spec PyProof.Rows L2
/-- the base class of the errors, at L: it has the __init__ of ValueError -/
structure BasI (K : PySem.W.Frag) (L : Addr) : Prop where
  rd : PySem.W.readsIn K L (.type "type") = true
  ga : PySem.W.specialIn K (.ref L) "__getattribute__" = some (some (.builtin "type.__getattribute__"))
  vi : PySem.W.findCls K (.ref L) (.type "type") "__init__" = some (.val (.builtin "ValueError.__init__"))
def isVI (r : Option PySem.W.CFound) : Bool := match r with
  | some (.val (.builtin i)) => i == "ValueError.__init__"
  | _ => false
theorem isVI_ok {r : Option PySem.W.CFound} (h : isVI r = true) : r = some (.val (.builtin "ValueError.__init__")) := by
  unfold isVI at h
  split at h
  · rw [eq_of_beq h]
  · cases h
def fcBas (n : Str) : Fc := fun K => PySem.W.readsIn K (He.ga K n) (.type "type") && (He.eqO (PySem.W.specialIn K (.ref (He.ga K n)) "__getattribute__") (some (some (.builtin "type.__getattribute__"))) &&
  isVI (PySem.W.findCls K (.ref (He.ga K n)) (.type "type") "__init__"))
theorem bas_of {K : PySem.W.Frag} {n : Str} (c : fcBas n K = true) : BasI K (He.ga K n) := by
  unfold fcBas at c
  simp only [Bool.and_eq_true] at c
  exact ⟨c.1, He.eqO_ok c.2.1, isVI_ok c.2.2⟩
section
variable {X : Cx} {e : Expr} {es : List Expr} {ta : TA} {x : Str} {L : Addr} {p1 p2 pos : Pos}
theorem pe_oinit {pl : Sem Bool} (hg : Gl X x) (gL : X.mg x = some (.ref L)) (B : BasI X.K L) (ha : PA X (e :: es) ta) (hdb : (x == ("__debug__" : Str)) = false := by decide)
    (hc : eval (.Call (.Attribute (.Name x p1) "__init__" p2) (e :: es) [] pos) X.env = (do
      let ov ← eval (.Name x p1) X.env
      standAt p2.atName
      let (f, first) ← holding [ov] (getMethod ov "__init__" pl)
      callWith pos f first (backTo pos (starEach (e :: es) X.env)) (backToKw pos (keywordEach [] X.env))) := by rfl)
    (he : starEach (e :: es) X.env = (false, eval e X.env) :: starEach es X.env := by rfl) (hpl : (backTo pos (starEach es X.env)).any (·.1) = false := by rfl) :
    PE X (.Call (.Attribute (.Name x p1) "__init__" p2) (e :: es) [] pos) (tVeI X.K ta) := by
  refine ⟨fun pins s σ H Q I h => ?_⟩
  refine PySem.W.methodCall_KW (ld_glob I hg gL ?_ hdb) hc
  refine PySem.W.method_cls I.kIn B.ga (PySem.W.cls_value I.kIn B.rd B.vi (show PySem.W.handedIn (.builtin "ValueError.__init__") = true by decide +kernel) ?_)
  show wpAny _ _ (callWith pos (Value.builtin "ValueError.__init__") [] (backTo pos (starEach (e :: es) X.env)) []) _ _ _
  refine PyProof.Rows.callWith_method1 (thn (ha.run pos pins _ σ H _ (I.tok _) h) fun us s1 ⟨vs, H1, I1, r1, a, C, ws, ev, hl, T, ea, q⟩ => ?_) he hpl
  subst ev
  cases r1 with
  | @cons _ u0 _ ur ra rw' =>
    obtain rfl : u0 = Value.ref a := ra
    have hlen : ur.length ≤ sizeLine := by
      rw [← Paired.length rw', sizeLine_eq]
      omega
    exact oinit_ok T I1 ea hlen fun s' J => ⟨.non, H1, J, rfl, q⟩
end
/-- the class of an error -/
def oexB (K : PySem.W.Frag) (C : Addr) : Bool := match K.lookup C with
  | some ⟨.type "type", _, .cls cd, sl⟩ => (match cd.mro, sl.toList with
    | .ref C' :: bm, [_, _, _, _, some (.builtin n), _] => C' == C && (n == "ValueError.__new__" && (!cd.hasDel && (cd.hasDict && PySem.HandSPX.refsVE bm)))
    | _, _ => false)
  | _ => false
theorem oexB_ok {K : PySem.W.Frag} {C : Addr} (c : oexB K C = true) : ∃ nm q N bs bm sn sub ab col dd k0 k1 k2 k3 k5, K.lookup C = some (excClassObj nm q C N bs bm true sn sub ab col dd k0 k1 k2 k3 k5 "ValueError.__new__") ∧ PySem.HandSPX.refsVE bm = true := by
  unfold oexB at c
  split at c
  · rename_i dd cd sl ho
    split at c
    · rename_i C' bm k0 k1 k2 k3 n k5 hm hs
      simp only [Bool.and_eq_true, beq_iff_eq, Bool.not_eq_true'] at c
      obtain ⟨rfl, rfl, hdel, hd, hv⟩ := c
      obtain ⟨nm, bs, mro, ns, qn, hdi, sn, sub, ab, col, del⟩ := cd
      dsimp only at hm hdel hd
      subst hm hdel hd
      have hsl : sl = #[k0, k1, k2, k3, some (.builtin "ValueError.__new__"), k5] := by
        obtain ⟨l⟩ := sl
        simp only at hs
        rw [hs]
      subst hsl
      exact ⟨nm, qn, ns, bs, bm, sn, sub, ab, col, dd, k0, k1, k2, k3, k5, ho, hv⟩
    · cases c
  · cases c
/-- what is known of an error's class: its __init__ at fI -/
structure OxC (K : PySem.W.Frag) (C fI : Addr) : Prop where
  ox : OexC K C
  iC : PySem.W.findIn K (.ref C) "__init__" = some (some (.ref fI))
  tI : PySem.W.typeIn K (.ref fI) = some (.type "function")
def fcOx (n : Str) : Fc := fun K => oexB K (He.ga K n) && (He.eqO (PySem.W.findIn K (.ref (He.ga K n)) "__setattr__") (some (some (.builtin "object.__setattr__"))) && (decide (PySem.W.subIn K (.ref (He.ga K n)) (.type "BaseException") = some true) &&
  (decide (PySem.W.typeIn K (.ref (He.ga K n)) = some (.type "type")) && (PySem.W.keepIn K (.ref (He.ga K n)) && (He.eqO (PySem.W.findIn K (.ref (He.ga K n)) "__init__") (some (some (.ref (He.ma K (He.ga K n) "__init__")))) &&
  decide (PySem.W.typeIn K (.ref (He.ma K (He.ga K n) "__init__")) = some (.type "function")))))))
theorem ox_of {K : PySem.W.Frag} {n : Str} (c : fcOx n K = true) : OxC K (He.ga K n) (He.ma K (He.ga K n) "__init__") := by
  unfold fcOx at c
  simp only [Bool.and_eq_true] at c
  obtain ⟨h1, h2, h3, h4, h5, h6, h7⟩ := c
  exact ⟨⟨oexB_ok h1, He.eqO_ok h2, of_decide_eq_true h3, of_decide_eq_true h4, h5⟩, He.eqO_ok h6, of_decide_eq_true h7⟩
/-! an __init__ that keeps nothing -/
def sp0 (K : PySem.W.Frag) : Sp := fun vs H Q _ => ∃ a C : Addr, vs = [.ref a] ∧ OexC K C ∧ H a = some (exo a C none) ∧ Q .non H
theorem sp0_len {K : PySem.W.Frag} (vs : List V) (H : Hp) (Q : VK) (E : XK) (h : sp0 K vs H Q E) : vs.length = ["self"].length := by
  obtain ⟨a, C, rfl, _⟩ := h
  rfl
theorem xread0 {K : PySem.W.Frag} {vs : List V} {H : Hp} {Q : VK} {E : XK} {z : Str} (h : sp0 K vs H Q E) : tSeq (tDrop (tVeI K (tCons (tVar 0) (tCons (tC (.str z)) tNil)))) tNext { nx := fun _ H' => Q .non H', rt := Q } (L2.start ["self"] vs) H := by
  obtain ⟨a, C, rfl, T, ea, q⟩ := h
  exact ⟨.ref a, rfl, a, C, [.str z], rfl, (by simp), T, ea, q⟩
section
variable {X : Cx} {pos : Pos}
theorem mk_end_n {pins : List (Addr × Obj)} {σ : L2.St} {H1 H2 : Hp} {Q : XK} {hp hp2 h2 : Heap} {g1 g2 : Array GenState} {d1 d2 : Drawn} {t1 t2 : Nat} {os1 os2 : OsState} {a C : Addr} (T : Raises X (.ref C)) (I1 : Inv X pins σ H1 ⟨hp, g1, d1, t1, os1⟩)
    (ha : hp.objs.size ≤ a) (k : ∀ b o, hp.get? b = some o → hp2.get? b = some o) (un : Un (frs X.stack) [] (upd H1 a (exo a C none)) H2 hp2 h2) (hok : HOk X.prog X.w H2 h2) (ho : os2 = os1) (hb : AllBare g2)
    (ea : H2 a = some (exo a C none)) (q : Q (.ref C) none (del H2 a)) : MkP X pins σ Q (.ref a) ⟨h2, g2, d2, t2, os2⟩ := by
  obtain ⟨t0, hoe⟩ := exo_at hok ea
  have hn : H1 a = none := I1.hok.fresh ha
  obtain ⟨G, g1', g2'⟩ := restrict h2 fun b => decide (b ≠ a)
  have gk : ∀ b, b ≠ a → G.get? b = h2.get? b := fun b hb => g1' b (decide_eq_true hb)
  have ge : G.get? a = none := g2' a (by simp)
  have nha : ∀ {b : Addr} {o : Obj}, hp.get? b = some o → b ≠ a := fun {b o} z => Nat.ne_of_lt (Nat.lt_of_lt_of_le (Heap.lt_size z) ha)
  have up : ∀ {b : Addr}, b ≠ a → H1 b = none → upd H1 a (exo a C none) b = none := fun {b} hb n => by rw [upd_ne hb]; exact n
  have U : Un (frs X.stack) [] H1 (del H2 a) hp G := {
    keep := fun b o z n hf hx => by
      rw [gk b (nha z)]
      exact un.keep b o (k b o z) (up (nha z) n) hf hx
    slot := fun b o z n hf hx => by
      rw [gk b (nha z)]
      exact un.slot b o (k b o z) (up (nha z) n) hf hx
    free := fun b o z n hx => by
      rw [del_ne (nha z)]
      exact un.free b o (k b o z) (up (nha z) n) hx
    there := fun b o z hx => by
      rw [gk b (nha z)]
      exact un.there b o (k b o z) hx
    tups := fun b xs z => by
      rw [del_ne (ne_of_none z hn)]
      exact un.tups b xs (by rw [upd_ne (ne_of_none z hn)]; exact z)
    frzs := fun b o v z => by
      rw [del_ne (ne_of_none z hn)]
      exact un.frzs b o v (by rw [upd_ne (ne_of_none z hn)]; exact z)
    tbls := fun b ps z => by
      rw [del_ne (ne_of_none z hn)]
      exact un.tbls b ps (by rw [upd_ne (ne_of_none z hn)]; exact z) }
  have hok3 : HOk X.prog X.w (del H2 a) G := fun b o z => by
    have hba : b ≠ a := fun e => by
      rw [e, del_same] at z
      cases z
    rw [del_ne hba] at z
    have noa : ∀ {c : Addr}, H2 c = some (.own b) → c ≠ a := fun {c} hc => at_ne ea hc exo_own
    exact (hok b o z).stay (fun c v hc y => by
        have hca : c ≠ a := by
          rcases hc with hc | hc
          · rw [hc]
            exact hba
          · exact noa hc
        rw [gk c hca]
        exact y)
      (fun c hc => by rw [del_ne (noa hc)]; exact hc) (fun c xs hc => by rw [del_ne (at_ne ea hc exo_tup)]; exact hc)
  have J : Inv X pins σ (del H2 a) ⟨G, g2, d2, t2, os2⟩ := I1.call' (ch := []) ho U hok3 hb (fun b z => absurd z (by simp))
  refine ⟨a, _, _, ⟨G, g2, d2, t2, os2⟩, _, .ref C, none, rfl, J, fun b o z => ?_, ge, hoe, ⟨rfl, rfl⟩, rfl, rfl, del_same, rfl, hb, T, q⟩
  by_cases hba : b = a
  · have z' : G.get? b = some o := z
    rw [hba, ge] at z'
    cases z'
  · exact (gk b hba).symm.trans z
/-- C(), no argument, nothing kept -/
theorem pmk_oex0 {x : Str} {p : Pos} {C fI : Addr} {k : Nat} {fd : FuncData} (T : OxC X.K C fI) (F1 : FnOk X.prog X.w X.K X.mg X.base CX0 k fI fd ["self"] (sp0 X.K)) (hr : Room (k + 1) X.A) (hb : Binds X.K fd ["self"] []) (hg : Gl X x) (hm : X.mg x = some (.ref C))
    (hdb : (x == ("__debug__" : Str)) = false := by decide) : PMk X (.Call (.Name x p) [] [] pos) (fun _ H Q => Q (.ref C) none H) := by
  intro pins s σ H Q I h
  obtain ⟨nm, q, N, bs, bm, sn, sub, ab, col, dd, k0, k1, k2, k3, k5, hC, hbm⟩ := T.ox.cls
  refine wpAny_Call_Name_kw (ld_glob I hg hm ?_ hdb)
  refine PySem.W.callWith_K0 I.kIn T.ox.kC ?_
  show wpAny _ _ (call (.ref C) []) _ _ _
  obtain ⟨hp, g, dr, tk, os⟩ := s
  have hsz : hp.objs.size ≤ hp.objs.size + 1 := Nat.le_succ _
  have hn : H (hp.objs.size + 1) = none := I.hok.fresh hsz
  have kk : ∀ b o, hp.get? b = some o → ((hp.push (PySem.W.kdv_tup [])).push (PySem.HandSPX.excO C hp.objs.size)).get? b = some o := fun b o e => Heap.get?_push_of_some _ (Heap.get?_push_of_some _ e)
  have hget : ((hp.push (PySem.W.kdv_tup [])).push (PySem.HandSPX.excO C hp.objs.size)).get? (hp.objs.size + 1) = some (PySem.HandSPX.excO C hp.objs.size) := by heap_get
  have I2 : Inv X pins σ (upd H (hp.objs.size + 1) (exo (hp.objs.size + 1) C none)) ⟨(hp.push (PySem.W.kdv_tup [])).push (PySem.HandSPX.excO C hp.objs.size), g, dr, tk, os⟩ :=
    I.laid (t' := tk) (a := hp.objs.size + 1) (o := exo (hp.objs.size + 1) C none) (h' := (hp.push (PySem.W.kdv_tup [])).push (PySem.HandSPX.excO C hp.objs.size)) kk hsz (exo_ok hget)
  have r2 : Vals [V.ref (hp.objs.size + 1)] [Value.ref (hp.objs.size + 1)] := .cons rfl .nil
  have hq : sp0 X.K [V.ref (hp.objs.size + 1)] (upd H (hp.objs.size + 1) (exo (hp.objs.size + 1) C none)) (fun v H2 => v = .non ∧ H2 = upd H (hp.objs.size + 1) (exo (hp.objs.size + 1) C none)) (fun _ _ _ => False) :=
    ⟨_, C, rfl, T.ox, upd_same, rfl, rfl⟩
  refine wpAny_call (PySem.HandSPX.call_own F.excBase_ValueError (fun Y => PySem.HandSPX.refsVE_contains Y bm hbm) (I.kIn _ _ hC) (PySem.W.looks_findIn I.kIn T.iC) (fun self => PySem.W.bind_fn I.kIn self T.tI) (show ([] : List Value).length ≤ sizeLine by rw [sizeLine_eq]; exact Nat.zero_le _)
    (codeAny_mono (F1.run _ X.stack _ _ ⟨[Value.ref (hp.objs.size + 1)], []⟩ [Value.ref (hp.objs.size + 1)] _ _ (fun _ _ _ => False) (hr.make C [] []) (I2.env0.make C [] []) (hb _ [Value.ref (hp.objs.size + 1)] I2.kIn rfl) r2 hq) fun r s' hq' => ?_))
  cases r with
  | error er => exact pass0 pins σ _ _ er s' I2 hq'
  | ok fl =>
    cases fl with
    | ret u =>
      obtain ⟨v, H2, os2, bare2, un2, hok2, rv, ev, eH⟩ := hq'
      subst ev
      obtain ⟨h2, g2, d2, t2, os'⟩ := s'
      refine ⟨rv, mk_end_n (raises_own T.ox.exC T.ox.tyC) I hsz kk un2 hok2 os2 bare2 (by rw [eH, upd_same]) ?_⟩
      have e : del H2 (hp.objs.size + 1) = H := by
        rw [eH]
        funext b
        by_cases z : b = hp.objs.size + 1
        · rw [z, del_same, hn]
        · rw [del_ne z, upd_ne z]
      rw [e]
      exact h
    | next => exact False.elim hq'
    | brk => exact False.elim hq'
    | cont => exact False.elim hq'
end
/-- an error's class that keeps nothing -/
structure ExI (P : Program) (w : World) (K : PySem.W.Frag) (mg : Str → Option Value) (base : Heap) (k : Nat) (C : Str) : Prop where
  ex : ∃ fd, OxC K (He.ga K C) (He.ma K (He.ga K C) "__init__") ∧ FnOk P w K mg base CX0 k (He.ma K (He.ga K C) "__init__") fd ["self"] (sp0 K) ∧ Binds K fd ["self"] [] ∧ mg C = some (.ref (He.ga K C))
theorem exi_of {P : Program} {w : World} {K : PySem.W.Frag} {mg : Str → Option Value} {base : Heap} {k : Nat} {C : Str} {fd : FuncData} (g : mg C = some (.ref (He.ga K C))) (T : OxC K (He.ga K C) (He.ma K (He.ga K C) "__init__"))
    (F : FnOk P w K mg base CX0 k (He.ma K (He.ga K C) "__init__") fd ["self"] (sp0 K)) (hb : Binds K fd ["self"] []) : ExI P w K mg base k C := ⟨fd, T, F, hb, g⟩
theorem pmk_exi {X : Cx} {pos p : Pos} {C : Str} {k : Nat} (T : ExI X.prog X.w X.K X.mg X.base k C) (hr : Room (k + 1) X.A) (hg : Gl X C := by rfl) (hdb : (C == ("__debug__" : Str)) = false := by decide) : PMk X (.Call (.Name C p) [] [] pos) (fun _ H Q => Q (.ref (He.ga X.K C)) none H) := by
  obtain ⟨fd, T, F, hb, g⟩ := T.ex
  exact pmk_oex0 T F hr hb hg g hdb
end DL

namespace DL
open PySem PySem.Spec PyProof.Rows L2
abbrev KnM := List SV → Store → Res (SV × Store)
def leaveK (r : Fl × Slots × Store) : Res (SV × Store) := match r.1 with
  | .nx => .ok (.fr .non, r.2.2)
  | .rt x => .ok (x, r.2.2)
  | _ => .stuck
def fnK (np n : Nat) (b : SM) : KnM := fun as S => if as.length = np then (b (as.map some ++ List.replicate (n - as.length) none) S).bind leaveK else .stuck
def spK (K : PySem.W.Frag) (m : KnM) : Sp := fun vs H Q E => ∃ ph S as, Good K ph H S ∧ DenSs K ph H vs as ∧ holds (m as S) (post K ph H Q) (postX K ph H E)
structure FnDK (P : Program) (w : World) (K : PySem.W.Frag) (mg : Str → Option Value) (base : Heap) (k : Nat) (f : Addr) (fd : FuncData) (ps : List Str) (m : KnM) : Prop where
  len : ∀ vs H Q E, spK K m vs H Q E → vs.length = ps.length
  run : ∀ (A : Around) (outer : List Env) (s : Shared) (H : Hp) (args : Args) (us : List Value) (vs : List V) (Q : VK) (E : XK), A.guards = some [] → Room k A → Env0 P w K mg base A outer s H →
    BindsTo s fd args (ps.zip us) → Vals vs us → spK K m vs H Q E → codeAny (model P w) A (.call (.ref f) args) (CR (L2.CX P w) outer P w H s Q E) s
section
variable {P : Program} {w : World} {K : PySem.W.Frag} {mg : Str → Option Value} {base : Heap}
theorem spK_len {np n : Nat} {b : SM} {vs : List V} {H : Hp} {Q : VK} {E : XK} (h : spK K (fnK np n b) vs H Q E) : vs.length = np := by
  obtain ⟨ph, S, as, g, d, h⟩ := h
  unfold fnK at h
  split at h
  · rw [d.length]; assumption
  · exact h.elim
theorem fnDK_of {k : Nat} {f : Addr} {name qual : Str} {params : Arguments} {body : List Stmt} {scope : Scope} {dV kV doc pm cdv ct oc : Value} {an od : Option Addr} {osl : Array (Option Value)} {N ps : List Str} {b : SM}
    (lk : K.lookup f = some ⟨oc, od, .func (PySem.W.fnOf name qual params body scope dV kV doc pm an cdv ct), osl⟩) (hcd : PySem.W.codeIn K cdv qual = true) (Sc : FnScope N ps scope)
    (hb : ∀ (A : Around) (outer : List Env) (s : Shared) (H : Hp) (E : XK), (A.deeper (envOfC qual scope s.heap.objs.size f cdv)).guards = some [] → Room k (A.deeper (envOfC qual scope s.heap.objs.size f cdv)) →
      PSDs (cxOf (L2.CX P w) P w K mg base N qual scope f cdv A outer s H E) (XW.fn K E) body b) :
    FnDK P w K mg base (k + 1) f (PySem.W.fnOf name qual params body scope dV kV doc pm an cdv ct) ps (fnK ps.length N.length b) := by
  refine ⟨fun vs H Q E h => spK_len h, ?_⟩
  intro A outer s H args us vs Q E hgd hroom e0 hbind rv hsp
  have len0 : vs.length = ps.length := spK_len hsp
  have KX : K.In s.heap := e0.mod.kin.keeps fun b o e => (e0.bs b o e).1
  have lim : s.heap.NoLimit := e0.mod.nolimit.keeps fun b o e => (e0.bs b o e).1
  have kinds : ∀ y ∈ ps.zip us, scope.names.lookup y.1 = some .local ∨ (scope.names.lookup y.1 = some .cell ∧ ((cellsFrom (s.heap.objs.size + 1) scope.names []).lookup y.1).isSome = true) := by
    rintro ⟨n, v⟩ hy
    cases Sc.par n (List.of_mem_zip hy).1 with
    | inl q => exact .inl q
    | inr q => exact .inr ⟨q, PySem.W.cellsFrom_some _ _ _ (.inl q)⟩
  refine codeAny_call_function hroom.depth (KX _ _ lk) rfl Sc.co Sc.gen rfl (PySem.W.codeRec_of KX hcd) (hbind _ _ _ _ ?_)
  refine wpAny_newFunctionEnv_cells Sc.kind kinds fun env he s1 x => ?_
  subst he
  refine ⟨lim.keeps x.toInCall.keep, codeAny_func ?_⟩
  obtain ⟨t, ht, snd⟩ := (hb A outer s H E hgd (hroom.deeper _)).ex
  have I : Inv (cxOf (L2.CX P w) P w K mg base N qual scope f cdv A outer s H E) [] (L2.start N vs) H s1 := inv_start Sc hroom.hd e0 len0 rv x
  have done : ∀ {sg' : L2.St} {H' : Hp} {v : V} {u : Value} {s' : Shared}, Inv (cxOf (L2.CX P w) P w K mg base N qual scope f cdv A outer s H E) [] sg' H' s' → RelV v u → Q v H' → CE outer P w H s Q u s' := by
    intro sg' H' v u s' J rv q
    exact ⟨v, H', J.os, J.bare, J.base, J.hok, rv, q⟩
  have rd : t { nx := fun _ H' => Q .non H', rt := Q } (L2.start N vs) H := by
    obtain ⟨ph, S, as, g, d, hh⟩ := hsp
    have la : as.length = ps.length := by rw [← d.length]; exact len0
    unfold fnK at hh
    rw [if_pos la] at hh
    refine snd ph S H (L2.start N vs) _ _ g ⟨by simp [L2.start, d.length], fun i x hi => ?_⟩ (holds_imp (holds_bind hh) (fun r hr => ?_) fun _ _ _ q ph' H' _ cls d x' g' _ z => q ph' H' cls d x' g' z)
    · have hi' : (as.map some ++ List.replicate (N.length - as.length) none)[i]? = some (some x) := hi
      by_cases hlt : i < as.length
      · rw [List.getElem?_append_left (by simpa using hlt), List.getElem?_map] at hi'
        cases q : as[i]? with
        | none => rw [q] at hi'; cases hi'
        | some y =>
          rw [q] at hi'
          have e := Option.some.inj (Option.some.inj hi')
          subst e
          obtain ⟨v, h1, h2⟩ := paired_get d q
          refine ⟨v, ?_, h2⟩
          unfold L2.start
          rw [List.getElem?_append_left (by rw [List.length_map, d.length]; exact hlt), List.getElem?_map, h1]
          rfl
      · rw [List.getElem?_append_right (by simpa using hlt)] at hi'
        have := List.getElem?_replicate (n := N.length - as.length) (a := (none : Option SV)) (i := i - (as.map some).length)
        rw [this] at hi'
        split at hi' <;> cases hi'
    · intro ph' sg' H' x' g' so'
      obtain ⟨fl, rho', S'⟩ := r
      cases fl with
      | nx => exact hr ph' .non H' x' g' den_non
      | rt sv => exact fun v dv => hr ph' v H' x' g' dv
      | bk => exact hr.elim
      | ct => exact hr.elim
  refine wpAny_mono (ht.run [] s1 (L2.start N vs) H _ I rd) (fun fl s' hs => ?_) fun e s' hs => hs
  cases fl with
  | ret u =>
    obtain ⟨v, sg', H', J, rv, q⟩ := hs
    exact done J rv q
  | next =>
    obtain ⟨sg', H', J, q⟩ := hs
    exact done (v := V.non) (u := Value.none) J rfl q
  | brk => exact hs.choose_spec.choose_spec.2.elim
  | cont => exact hs.choose_spec.choose_spec.2.elim
structure CalK (P : Program) (w : World) (K : PySem.W.Frag) (mg : Str → Option Value) (base : Heap) (k : Nat) (x : Str) (m : KnM) : Prop where
  ex : ∃ f fd ps, mg x = some (.ref f) ∧ PySem.W.keepIn K (.ref f) = true ∧ Binds K fd ps [] ∧ FnDK P w K mg base k f fd ps m
theorem calK_of {k : Nat} {x : Str} {st : Stmt} {f : Addr} {fd : FuncData} {N ps : List Str} {b : SM} (F : Fun K x x st f fd) (hm : mg x = some (.ref f)) (hbd : Binds K fd ps []) (Sc : FnScope N ps (defScope st))
    (hb : ∀ (cdv : Value) (A : Around) (outer : List Env) (s : Shared) (H : Hp) (E : XK), (A.deeper (envOfC x (defScope st) s.heap.objs.size f cdv)).guards = some [] → Room k (A.deeper (envOfC x (defScope st) s.heap.objs.size f cdv)) →
      PSDs (cxOf (L2.CX P w) P w K mg base N x (defScope st) f cdv A outer s H E) (XW.fn K E) (defBody st) b) : CalK P w K mg base (k + 1) x (fnK ps.length N.length b) := by
  obtain ⟨oc, od, kV, doc, pm, an, cdv, ct, osl, rfl, lk, hcd⟩ := F.ex
  exact ⟨f, _, ps, hm, F.kp, hbd, fnDK_of lk hcd Sc fun A outer s H E => hb cdv A outer s H E⟩
end
def eCallK (f : KnM) (m : AM) : EM := fun rho S => (m rho S).bind fun x => match f x.1 x.2 with
  | .exc _ _ _ => .stuck
  | r => r
def cutK (n : Nat) (rho : Slots) (r : Res (SV × Store)) : Res (SV × Store) := match r with
  | .exc e _ S' => if (S'.take n).all (Cell.below n) = true then .exc e rho (S'.take n) else .stuck
  | x => x
def eCallKX (f : KnM) (m : AM) : EM := fun rho S => (m rho S).bind fun x => cutK x.2.length rho (f x.1 x.2)
section
variable {X : Cx} {W : XW X.K} {Wq : WX} {e : Expr} {es : List Expr} {pos p : Pos} {m : AM}
theorem pe_callKE {k j : Nat} {x : Str} {f : KnM} {t : TA} {Ef : L2.St → XK} (hx : ∀ sg, PassesAt (L2.CX X.prog X.w) X sg (Ef sg)) (c : CalK X.prog X.w X.K X.mg X.base k x f) (hr : Room j X.A) (hk : k ≤ j) (hgd : X.A.guards = some []) (hg : Gl X x) (ha : PA X (e :: es) t)
    (hdb : (x == ("__debug__" : Str)) = false) (he : starEach (e :: es) X.env = (false, eval e X.env) :: starEach es X.env) (hpl : (backTo pos (starEach es X.env)).any (·.1) = false) :
    PE X (.Call (.Name x p) (e :: es) [] pos) (fun sg H Q => t sg H fun vs H1 => spK X.K f vs H1 Q (Ef sg)) := by
  obtain ⟨g, fd, ps, hm, hkp, hbd, F⟩ := c.ex
  refine ⟨fun pins s sg H Q I h => wpAny_Call_Name_kw (ld_glob I hg hm ?_ hdb)⟩
  refine PySem.W.callWith_K (h₀ := X.base) I.ok.mod.kin hkp (thn (ha.run pos pins s sg H _ I h) fun us s1 ⟨vs, H1, I1, r, q⟩ => ⟨I1.kIn, ?_⟩) he hpl
  have hl : (us ++ []).length = ps.length := by rw [List.append_nil, ← r.length]; exact F.len _ _ _ _ q
  have bt := hbd s1 us I1.kIn hl
  rw [List.append_nil] at bt
  refine wpAny_call (codeAny_mono (F.run X.A X.stack s1 H1 ⟨us, []⟩ us vs Q (Ef sg) hgd (hr.mono hk) I1.env0 bt r q) fun r s' hq => ?_)
  cases r with
  | error e => exact hx sg pins H1 s1 e s' I1 hq
  | ok fl =>
    cases fl with
    | ret u => exact I1.after hq
    | next => exact False.elim hq
    | brk => exact False.elim hq
    | cont => exact False.elim hq
theorem pd_callK {k j : Nat} {x : Str} {f : KnM} (c : CalK X.prog X.w X.K X.mg X.base k x f) (hr : Room j X.A) (hk : k ≤ j) (hgd : X.A.guards = some []) (ha : PDA X W (e :: es) m) (hg : Gl X x := by rfl)
    (hdb : (x == ("__debug__" : Str)) = false := by decide) (he : starEach (e :: es) X.env = (false, eval e X.env) :: starEach es X.env := by rfl) (hpl : (backTo pos (starEach es X.env)).any (·.1) = false := by rfl) : PD X W (.Call (.Name x p) (e :: es) [] pos) (eCallK f m) := by
  obtain ⟨t, pa, sa⟩ := ha.ex
  refine ⟨_, pe_callKE (Ef := fun _ => E0) (fun sg pins H s e s' I h => passL pins sg H s e s' I h) c hr hk hgd hg pa hdb he hpl, fun ph S H sg rho Q gd so h => sa ph S H sg rho _ gd so (holds_imp (holds_bind h) (fun y hy => ?_) fun _ _ _ q => q)⟩
  intro ph1 vs H1 x1 g1 d1
  refine ⟨ph1, y.2, y.1, g1, d1, ?_⟩
  cases q : f y.1 y.2 with
  | ok r =>
    rw [q] at hy
    exact post.mono x1 r hy
  | exc e r s => rw [q] at hy; exact hy.elim
  | stuck => rw [q] at hy; exact hy
theorem pd_callKX {k j : Nat} {x : Str} {f : KnM} (tk : Takes X Wq) (c : CalK X.prog X.w X.K X.mg X.base k x f) (hr : Room j X.A) (hk : k ≤ j) (hgd : X.A.guards = some []) (ha : PDA X (XW.of X.K Wq) (e :: es) m) (hg : Gl X x := by rfl)
    (hdb : (x == ("__debug__" : Str)) = false := by decide) (he : starEach (e :: es) X.env = (false, eval e X.env) :: starEach es X.env := by rfl) (hpl : (backTo pos (starEach es X.env)).any (·.1) = false := by rfl) : PD X (XW.of X.K Wq) (.Call (.Name x p) (e :: es) [] pos) (eCallKX f m) := by
  obtain ⟨t, pa, sa⟩ := ha.ex
  refine ⟨_, pe_callKE (Ef := fun sg => WE Wq sg) (fun sg => passAt tk sg) c hr hk hgd hg pa hdb he hpl, fun ph S H sg rho Q gd so h => sa ph S H sg rho _ gd so (holds_imp (holds_bind h) (fun y hy => ?_) fun _ _ _ q => q)⟩
  intro ph1 vs H1 x1 g1 d1
  refine ⟨ph1, y.2, y.1, g1, d1, ?_⟩
  cases q : f y.1 y.2 with
  | ok r =>
    rw [q] at hy
    exact post.mono x1 r hy
  | stuck => rw [q] at hy; exact hy
  | exc e r' S' =>
    rw [q] at hy
    unfold cutK at hy
    dsimp only at hy
    split at hy
    · rename_i hb
      intro ph' H' cls d x' g' ed
      have hm : ∀ a ∈ ph1, a ∈ ph' := fun a ha => by
        obtain ⟨ps, rfl, _⟩ := x'.pre
        exact List.mem_append_left _ ha
      exact hy ph1 H' sg cls d (x1.trans x'.back) (g1.cut x' g' hb) ((so.mono x1).mono x'.back) (ed.mono (sub_hide hm))
    · exact hy.elim
/-! tuples that are cells -/
def lenTG : GA := fun as S => match as with
  | [.cell k] => match S[k]? with
    | some (.tup xs) => okV (.int xs.length) S
    | _ => .stuck
  | _ => .stuck
theorem paired_len {α β : Type} {P : α → β → Prop} {l : List α} {m : List β} (h : Paired P l m) : l.length = m.length := by
  induction h with
  | nil => rfl
  | cons _ _ ih => simp [ih]
theorem lenT_ok : OpA X W (fun xs H Q => ∃ x n, xs = [x] ∧ LenV X.K x H n ∧ Q (.int n) H) lenTG := by
  intro ph S H xs as Q g d h
  unfold lenTG at h
  split at h
  · rename_i k
    obtain ⟨v, rfl, dv⟩ := one_of d
    split at h
    · rename_i xs hk
      obtain ⟨p, hp, rfl⟩ := dv
      obtain ⟨vs, h4, h5⟩ := paired_at g.cells hp hk
      exact ⟨_, xs.length, rfl, .inr ⟨vs, .inl (.inl h4), (paired_len h5).symm⟩, fin_v g (.int _) h⟩
    · exact h.elim
  · exact h.elim
def isiTG : GA := fun as S => match as with
  | [.cell k, .fr (.ty b)] => match S[k]? with
    | some (.tup _) => match kin "tuple" b with
      | some r => okV (.bl r) S
      | none => .stuck
    | _ => .stuck
  | _ => .stuck
theorem isiT_ok : OpA X W (rIsi X.K) isiTG := by
  intro ph S H xs as Q g d h
  unfold isiTG at h
  split at h
  · rename_i k b
    obtain ⟨v, u, rfl, dv, du⟩ := two_of d
    split at h
    · rename_i ys hk
      split at h
      · rename_i r hr
        have e : u = .ty b := by cases (show Den X.K (hide ph H) u (.ty b) from du); rfl
        subst e
        obtain ⟨p, hp, rfl⟩ := dv
        obtain ⟨vs, h4, h5⟩ := paired_at g.cells hp hk
        exact ⟨.ref p, .ty b, .type "tuple", .type b, r, rfl, .ty b, .base (.tup h4), kit_ty (kin_ok hr), fin_v g (.bl _) h⟩
      · exact h.elim
    · exact h.elim
  · exact h.elim
end
end DL

namespace DL
open PySem PySem.Spec PyProof.Rows L2
section
variable {X : Cx} {W : XW X.K} {a b c : Expr} {ma mb mc : EM} {pos : Pos}
def ixTG : G2 := fun a b S => match a, b with
  | .cell k, .fr (.int i) => match S[k]? with
    | some (.tup xs) => match atI xs i with
      | some x => .ok (x, S)
      | none => .stuck
    | _ => .stuck
  | _, _ => .stuck
theorem ixT_ok : Op2 X W (rIx X.K) ixTG := by
  intro ph S H x y a b Q g da db h
  unfold ixTG at h
  split at h
  · rename_i k i
    rw [d_int (show Den X.K (hide ph H) y (.int i) from db)]
    split at h
    · rename_i xs hk
      split at h
      · rename_i z hz
        obtain ⟨p, hp, rfl⟩ := da
        obtain ⟨vs, h4, h5⟩ := paired_at g.cells hp hk
        obtain ⟨v, hv, dv⟩ := atI_pair h5 hz
        exact .inr (.inl ⟨p, vs, _, v, rfl, rfl, .inl (.inl h4), hv, h ph v H (Ext.refl _ _) g dv⟩)
      · exact h.elim
    · exact h.elim
  · exact h.elim
theorem pd_ixT (ha : PD X W a ma) (hb : PD X W b mb) (hs : PlainIx b := by intro _ _; rfl) : PD X W (.Subscript a b pos) (e2 ixTG ma mb) := by
  obtain ⟨ta, pa, sa⟩ := ha.ex
  obtain ⟨tb, pb, sb⟩ := hb.ex
  exact ⟨_, pe_ix ix_seq pa pb hs, fun ph S H sg rho Q gd so h => snd2 sa sb ixT_ok ph S H sg rho Q gd so h⟩
/-! str(int) -/
def strG : GA := fun as S => match as with
  | [.fr (.int i)] => if i.natAbs.log2 < 1920 then okV (.str (toString i)) S else .stuck
  | _ => .stuck
theorem strI_ok : OpA X W (fun xs H Q => ∃ i, xs = [.int i] ∧ i.natAbs.log2 < 1920 ∧ Q (.str (toString i)) H) strG := by
  intro ph S H xs as Q g d h
  unfold strG at h
  split at h
  · obtain ⟨v, rfl, dv⟩ := one_of d
    split at h
    · rw [d_int dv]
      exact ⟨_, rfl, by assumption, fin_v g (.str _) h⟩
    · exact h.elim
  · exact h.elim
end
end DL

namespace DL
open PySem PySem.Spec PyProof.Rows L2
section
variable {X : Cx} {W : XW X.K} {a b c : Expr} {ma mb mc : EM} {pos : Pos}
def unl (S : Store) (a b : SV) : Bool := match rdL S a, rdL S b with
  | some xs, some ys => !decide (xs.length = ys.length)
  | _, _ => false
def eqNG (n : Bool) : G2 := fun a b S => match unl S a b with
  | true => okV (.bl n) S
  | false => eqG n a b S
def rUn (n : Bool) : R2 := fun x y H Q => ∃ p q xs ys, x = .ref p ∧ y = .ref q ∧ H p = some (.lst xs) ∧ H q = some (.lst ys) ∧ xs.length ≠ ys.length ∧ Q (.bl n) H
theorem op_unE (hu : X.A.units + 64 < cLine) : OpR X (compareOp .Eq) (rUn false) := by
  intro pins s σ H x y v u Q I rx ry h
  obtain ⟨p, q, xs, ys, rfl, rfl, hp, hq, hl, k⟩ := h
  cases rx
  cases ry
  obtain ⟨us, r1, p1, _⟩ := I.list (.inl (.inl hp))
  obtain ⟨ws, r2, p2, _⟩ := I.list (.inl (.inl hq))
  refine SeqAt.RcAt.lists_lengths p1.isList p2.isList ?_ (by omega) _ _ _ _ ?_
  · rw [List.size_toArray, List.size_toArray, ← r1.length, ← r2.length]
    simpa using hl
  · exact ⟨.bl _, H, I, rfl, k⟩
theorem op_unN (hu : X.A.units + 64 < cLine) : OpR X (compareOp .NotEq) (rUn true) := by
  intro pins s σ H x y v u Q I rx ry h
  obtain ⟨p, q, xs, ys, rfl, rfl, hp, hq, hl, k⟩ := h
  cases rx
  cases ry
  obtain ⟨us, r1, p1, _⟩ := I.list (.inl (.inl hp))
  obtain ⟨ws, r2, p2, _⟩ := I.list (.inl (.inl hq))
  refine SeqAt.RcNeAt.lists_lengths p1.isList p2.isList ?_ (by omega) _ _ _ _ ?_
  · rw [List.size_toArray, List.size_toArray, ← r1.length, ← r2.length]
    simpa using hl
  · exact ⟨.bl _, H, I, rfl, k⟩
theorem Sden_len {K : PySem.W.Frag} {ph : List Addr} {H : Hp} {vs : List V} {xs : List SV} (h : DenSs K ph H vs xs) : vs.length = xs.length := h.length
theorem un_ok {r : R2} {n : Bool} (h : Op2 X W r (eqG n)) : Op2 X W (fun x y H Q => rUn n x y H Q ∨ r x y H Q) (eqNG n) := by
  intro ph S H x y a b Q g da db hh
  unfold eqNG at hh
  cases hu : unl S a b with
  | false =>
    rw [hu] at hh
    exact .inr (h _ _ _ _ _ _ _ _ g da db hh)
  | true =>
    rw [hu] at hh
    unfold unl at hu
    split at hu
    · rename_i xs ys h1 h2
      obtain ⟨p, vs, rfl, s1, r1⟩ := rdL_at g da h1
      obtain ⟨q, ws, rfl, s2, r2⟩ := rdL_at g db h2
      refine .inl ⟨p, q, vs, ws, rfl, rfl, s1, s2, ?_, fin_v g (.bl _) hh⟩
      rw [Sden_len r1, Sden_len r2]
      simpa using hu
    · cases hu
theorem pd_eqN (hu : X.A.units + 64 < cLine) (ha : PD X W a ma) (hb : PD X W b mb) : PD X W (.Compare a [.Eq] [b] pos) (e2 (eqNG false) ma mb) := pd_cmp ((op_unE hu).or ((op_eqD hu).or op_eq)) (un_ok eq_ok) ha hb
theorem pd_neN (hu : X.A.units + 64 < cLine) (ha : PD X W a ma) (hb : PD X W b mb) : PD X W (.Compare a [.NotEq] [b] pos) (e2 (eqNG true) ma mb) := pd_cmp ((op_unN hu).or ((op_neD hu).or op_ne)) (un_ok ne_ok) ha hb
theorem pt_eqN (hu : X.A.units + 64 < cLine) (ha : PD X W a ma) (hb : PD X W b mb) : PDT X W (.Compare a [.Eq] [b] pos) (tB (e2 (eqNG false) ma mb)) := pt_2 ((op_unE hu).or ((op_eqD hu).or op_eq)) (un_ok eq_ok) ha hb
theorem pt_neN (hu : X.A.units + 64 < cLine) (ha : PD X W a ma) (hb : PD X W b mb) : PDT X W (.Compare a [.NotEq] [b] pos) (tB (e2 (eqNG true) ma mb)) := pt_2 ((op_unN hu).or ((op_neD hu).or op_ne)) (un_ok ne_ok) ha hb
end
end DL

namespace DL
open PySem PySem.Spec PyProof.Rows L2
section
variable {X : Cx} {W : XW X.K} {a b c : Expr} {ma mb mc : EM} {pos : Pos}
def kDv : Key → He.Dv
  | .inl i => .int i
  | .inr s => .str s
def fcTup (x : Str) (ws : List Key) : Fc := fun K => He.tupB K x (ws.map kDv)
theorem ctup_of {K : PySem.W.Frag} {x : Str} {ws : List Key} (c : fcTup x ws K = true) : ∀ H, SqT K H (He.ga K x) (ws.map kV) := fun H => by
  have := He.tupB_ok c H
  rw [List.map_map] at this
  have e : (He.Dv.v K ∘ kDv) = kV := by
    funext k
    cases k <;> rfl
  rwa [e] at this
theorem kV_flat (k : Key) : flatV (kV k) = true := by cases k <;> rfl
theorem kV_flats (ws : List Key) : (ws.map kV).all flatV = true := by
  rw [List.all_eq_true]
  intro v hv
  obtain ⟨k, _, rfl⟩ := List.mem_map.mp hv
  exact kV_flat k
theorem eqV_k (k j : Key) : eqV (kV j) (kV k) = decide (j = k) := by
  rcases k with i | s <;> rcases j with i' | s'
  · rw [Bool.eq_iff_iff]
    simp [kV, eqV]
  · rfl
  · rfl
  · rw [Bool.eq_iff_iff]
    simp [kV, eqV]
def anyK (k : Key) (ws : List Key) : Bool := ws.any fun j => decide (j = k)
theorem inV_k (k : Key) (ws : List Key) : inV (kV k) (ws.map kV) = anyK k ws := by
  unfold inV anyK
  rw [List.any_map]
  congr 1
  funext j
  exact eqV_k k j
def keyS : SV → Option Key
  | .fr (.int i) => some (.inl i)
  | .fr (.str s) => some (.inr s)
  | _ => none
def keysD : List D → Option (List Key)
  | [] => some []
  | .int i :: ds => (keysD ds).map fun ws => .inl i :: ws
  | .str s :: ds => (keysD ds).map fun ws => .inr s :: ws
  | _ => none
theorem keyS_ok {K : PySem.W.Frag} {ph : List Addr} {H : Hp} {v : V} {x : SV} {k : Key} (d : DenS K ph H v x) (e : keyS x = some k) : v = kV k := by
  unfold keyS at e
  split at e
  · cases e; exact d_int d
  · cases e; exact d_str d
  · cases e
theorem keysD_ok {K : PySem.W.Frag} {F : Hp} : ∀ {ds : List D} {vs : List V} {ws : List Key}, Dens K F vs ds → keysD ds = some ws → vs = ws.map kV
  | [], _, _, .nil, e => by cases e; rfl
  | .int i :: ds, _, _, .cons d r, e => by
    obtain ⟨ws, h1, rfl⟩ := Option.map_eq_some_iff.mp (show (keysD ds).map (fun ws => Sum.inl i :: ws) = some _ from e)
    rw [keysD_ok r h1, d_int d]
    rfl
  | .str s :: ds, _, _, .cons d r, e => by
    obtain ⟨ws, h1, rfl⟩ := Option.map_eq_some_iff.mp (show (keysD ds).map (fun ws => Sum.inr s :: ws) = some _ from e)
    rw [keysD_ok r h1, d_str d]
    rfl
  | .non :: _, _, _, _, e => by cases e
  | .bl _ :: _, _, _, _, e => by cases e
  | .tup _ :: _, _, _, _, e => by cases e
  | .lst _ :: _, _, _, _, e => by cases e
  | .scr _ :: _, _, _, _, e => by cases e
  | .ty _ :: _, _, _, _, e => by cases e
  | .ref _ :: _, _, _, _, e => by cases e
  | .ins _ _ :: _, _, _, _, e => by cases e
  | .cls _ :: _, _, _, _, e => by cases e
  | .dct _ :: _, _, _, _, e => by cases e
  | .exn _ _ _ _ :: _, _, _, _, e => by cases e
def memK (ng : Bool) (k : Key) (ws : List Key) : Bool := if ng then !anyK k ws else anyK k ws
/-- in a constant tuple of the module -/
def inKG (n : Str) (ws : List Key) (ng : Bool) : G2 := fun x b S => match keyS x, b with
  | some k, .fr (.cls m) => if m = n then okV (.bl (memK ng k ws)) S else .stuck
  | _, _ => .stuck
/-- in a tuple -/
def inTpG (ng : Bool) : G2 := fun x b S => match keyS x, b with
  | some k, .fr (.tup ds) => match keysD ds with
    | some ws => okV (.bl (memK ng k ws)) S
    | none => .stuck
  | _, _ => .stuck
theorem inK_ok {n : Str} {ws : List Key} {ng : Bool} (hT : ∀ H, SqT X.K H (He.ga X.K n) (ws.map kV)) : Op2 X W (rIn X.K ng) (inKG n ws ng) := by
  intro ph S H x y a b Q g da db h
  unfold inKG at h
  split at h
  · rename_i k m hk
    split at h
    · rename_i hm
      subst hm
      cases db
      rw [keyS_ok da hk]
      refine ⟨_, _, rfl, .inr (hT H), kV_flat k, kV_flats ws, ?_⟩
      rw [inV_k]
      exact fin_v g (.bl _) h
    · exact h.elim
  · exact h.elim
theorem inTp_ok {ng : Bool} : Op2 X W (rIn X.K ng) (inTpG ng) := by
  intro ph S H x y a b Q g da db h
  unfold inTpG at h
  split at h
  · rename_i k ds hk
    split at h
    · rename_i ws hw
      obtain ⟨p, vs, rfl, s, r⟩ := d_tup db
      rw [keysD_ok r hw] at s
      rw [keyS_ok da hk]
      refine ⟨_, _, rfl, .inr (hide_sub.sqT s), kV_flat k, kV_flats ws, ?_⟩
      rw [inV_k]
      exact fin_v g (.bl _) h
    · exact h.elim
  · exact h.elim
theorem pd_inK {n : Str} {ws : List Key} (hT : ∀ H, SqT X.K H (He.ga X.K n) (ws.map kV)) (ha : PD X W a ma) (hb : PD X W b mb) (hm : behindInMarks .In b = false := by first | exact nomark _ | rfl) : PD X W (.Compare a [.In] [b] pos) (e2 (inKG n ws false) ma mb) := pd_cmp op_in_seq (inK_ok hT) ha hb hm
theorem pd_notInK {n : Str} {ws : List Key} (hT : ∀ H, SqT X.K H (He.ga X.K n) (ws.map kV)) (ha : PD X W a ma) (hb : PD X W b mb) (hm : behindInMarks .NotIn b = false := by first | exact nomark _ | rfl) : PD X W (.Compare a [.NotIn] [b] pos) (e2 (inKG n ws true) ma mb) := pd_cmp op_notIn_seq (inK_ok hT) ha hb hm
theorem pt_inK {n : Str} {ws : List Key} (hT : ∀ H, SqT X.K H (He.ga X.K n) (ws.map kV)) (ha : PD X W a ma) (hb : PD X W b mb) (hm : behindInMarks .In b = false := by first | exact nomark _ | rfl) : PDT X W (.Compare a [.In] [b] pos) (tB (e2 (inKG n ws false) ma mb)) := pt_2 op_in_seq (inK_ok hT) ha hb hm
theorem pt_notInK {n : Str} {ws : List Key} (hT : ∀ H, SqT X.K H (He.ga X.K n) (ws.map kV)) (ha : PD X W a ma) (hb : PD X W b mb) (hm : behindInMarks .NotIn b = false := by first | exact nomark _ | rfl) : PDT X W (.Compare a [.NotIn] [b] pos) (tB (e2 (inKG n ws true) ma mb)) := pt_2 op_notIn_seq (inK_ok hT) ha hb hm
theorem pd_inTp (ha : PD X W a ma) (hb : PD X W b mb) (hm : behindInMarks .In b = false := by first | exact nomark _ | rfl) : PD X W (.Compare a [.In] [b] pos) (e2 (inTpG false) ma mb) := pd_cmp op_in_seq inTp_ok ha hb hm
theorem pd_notInTp (ha : PD X W a ma) (hb : PD X W b mb) (hm : behindInMarks .NotIn b = false := by first | exact nomark _ | rfl) : PD X W (.Compare a [.NotIn] [b] pos) (e2 (inTpG true) ma mb) := pd_cmp op_notIn_seq inTp_ok ha hb hm
theorem pt_inTp (ha : PD X W a ma) (hb : PD X W b mb) (hm : behindInMarks .In b = false := by first | exact nomark _ | rfl) : PDT X W (.Compare a [.In] [b] pos) (tB (e2 (inTpG false) ma mb)) := pt_2 op_in_seq inTp_ok ha hb hm
theorem pt_notInTp (ha : PD X W a ma) (hb : PD X W b mb) (hm : behindInMarks .NotIn b = false := by first | exact nomark _ | rfl) : PDT X W (.Compare a [.NotIn] [b] pos) (tB (e2 (inTpG true) ma mb)) := pt_2 op_notIn_seq inTp_ok ha hb hm
end
end DL

namespace HT
open PySem PySem.Spec PyProof.Rows
section
variable {prog : Program} {w : World} {A : Around} {E : Value → Shared → Prop} {s : Shared}
theorem sliceApplied_rev {sl : Addr} {vl vu vs : Value} {n : Nat} {Q : Int × Int × Nat → Shared → Prop} (hs : s.heap.IsSliceOf sl vl vu vs) (pl : IsPart vl none) (pu : IsPart vu none) (ps : IsPart vs (some (-1)))
    (h : Q ((n : Int) - 1, -1, n) s) : wpAny (model prog w) A (Builtin.Slice.sliceApplied (.ref sl) (pure (n : Int))) Q E s := by
  obtain ⟨os, hos, hcs, hds⟩ := id hs
  unfold Builtin.Slice.sliceApplied Builtin.Slice.sliceFields
  refine wpAny_bind (wpAny_bind (wpAny_field hos hds (x := vl) rfl (wpAny_bind (wpAny_field hos hds (x := vu) rfl (wpAny_bind (wpAny_field hos hds (x := vs) rfl (wpAny_pure ?_)))))))
  refine wpAny_bind (slicePart_ ps ?_)
  show wpAny _ _ (if ((-1 : Int) == 0) = true then _ else _) _ _ s
  rw [if_neg (by decide)]
  refine wpAny_bind (slicePart_ pl (wpAny_bind (slicePart_ pu (wpAny_bind (wpAny_pure ?_)))))
  show wpAny _ _ (pure ((n : Int) - 1, (-1 : Int), Builtin.Slice.slicePlaces ((n : Int) - 1) (-1) (-1))) _ _ s
  have e : Builtin.Slice.slicePlaces ((n : Int) - 1) (-1) (-1) = n := by
    unfold Builtin.Slice.slicePlaces
    rw [if_neg (by decide)]
    by_cases q : (n : Int) - 1 > -1
    · rw [if_pos q]
      have : ((n : Int) - 1 - -1 - 1) / (- -1) = (n : Int) - 1 := by
        rw [show (- -1 : Int) = 1 by decide, Int.ediv_one]
        omega
      rw [this]
      omega
    · rw [if_neg q]
      omega
  rw [e]
  exact wpAny_pure h
theorem pick_rev (xs : Array Value) : ((List.range xs.size).filterMap fun (m : Nat) => xs[(((xs.size : Int) - 1) + (m : Int) * (-1)).toNat]?).toArray = xs.toList.reverse.toArray := by
  congr 1
  obtain ⟨l⟩ := xs
  simp only [List.size_toArray]
  have key : ∀ (l : List Value), ((List.range l.length).filterMap fun (m : Nat) => l[l.length - 1 - m]?) = l.reverse := by
    intro l
    have h1 : ((List.range l.length).filterMap fun (m : Nat) => l[l.length - 1 - m]?) = (List.range l.length).filterMap fun (m : Nat) => l.reverse[m]? := by
      have gen : ∀ (L : List Nat), (∀ m ∈ L, m < l.length) → (L.filterMap fun (m : Nat) => l[l.length - 1 - m]?) = L.filterMap fun (m : Nat) => l.reverse[m]? := by
        intro L
        induction L with
        | nil => intro _; rfl
        | cons m L ih =>
          intro hm
          have h1 := hm m List.mem_cons_self
          have h2 := ih fun x hx => hm x (List.mem_cons_of_mem _ hx)
          have e : l.reverse[m]? = l[l.length - 1 - m]? := List.getElem?_reverse h1
          rw [List.filterMap_cons, List.filterMap_cons, h2, e]
      exact gen _ fun m hm => List.mem_range.mp hm
    rw [h1]
    have h2 := pick_run l.reverse.toArray 0 l.length
    rw [List.filterMap_map] at h2
    have h3 : ((fun x => l.reverse.toArray[x]?) ∘ fun x => 0 + x) = fun m => l.reverse[m]? := by
      funext m
      simp
    rw [h3] at h2
    rw [h2, List.drop_zero, List.toList_toArray, List.take_of_length_le (by rw [List.length_reverse]; exact Nat.le_refl _)]
  rw [← key l]
  have gen : ∀ (L : List Nat), (∀ m ∈ L, m < l.length) → (L.filterMap fun (m : Nat) => l.toArray[(((l.length : Int) - 1) + (m : Int) * (-1)).toNat]?) = L.filterMap fun (m : Nat) => l[l.length - 1 - m]? := by
    intro L
    induction L with
    | nil => intro _; rfl
    | cons m L ih =>
      intro hm
      have h1 := hm m List.mem_cons_self
      have h2 := ih fun x hx => hm x (List.mem_cons_of_mem _ hx)
      have e : (((l.length : Int) - 1) + (m : Int) * (-1)).toNat = l.length - 1 - m := by omega
      rw [List.filterMap_cons, List.filterMap_cons, h2, e]
      simp
  exact gen _ fun m hm => List.mem_range.mp hm
theorem getItem_tuple_rev {t sl : Addr} {items : Array Value} {vl vu vs : Value} {Q : Value → Shared → Prop} (ht : IsTup s.heap t items) (hs : s.heap.IsSliceOf sl vl vu vs) (pl : IsPart vl none) (pu : IsPart vu none) (ps : IsPart vs (some (-1)))
    (h : Q (.ref s.heap.objs.size) { s with heap := s.heap.push { cls := .type "tuple", data := .seq items.toList.reverse.toArray } })
    (hsz : items.size ≤ sizeLine) : wpAny (model prog w) A (getItem (.ref t) (.ref sl)) Q E s := by
  have htake : sizeOk (.seq items.toList.reverse.toArray) := by
    show items.toList.reverse.toArray.size ≤ sizeLine
    rw [List.size_toArray, List.length_reverse, Array.length_toList]
    exact hsz
  obtain ⟨os, hos, hcs, hds⟩ := id hs
  have hTs : s.TypeIs (.ref sl) "slice" := ⟨os, hos, hcs⟩
  unfold getItem
  try with_reducible refine wpAny_holding ?_
  first | refine wpAny_bind (wpAny_pure ?_) | skip
  refine wpAny_bind (wpAny_sequenceKey ht.typeIs (by decide) ?_)
  refine wpAny_bind (wpAny_callSpecial?_slot (name := Str.ofString "__getitem__") ht.typeIs PyProof.Rows.slot_tuple_getitem
    (wpAny_call_entry PyProof.Rows.slot_tuple_getitem ht.typeIs entry_tuple_getitem ?_ (args_tuple_getitem _ _)))
  show wpAny _ _ (Builtin.Tuple.tupleItemsOf (.ref t) >>= _) _ _ s
  refine wpAny_bind (tupleItemsOf_ ht ?_)
  refine wpAny_bind (wpAny_typeOf hTs ?_)
  rw [if_pos (by decide)]
  refine wpAny_bind (sliceApplied_rev hs pl pu ps ?_)
  have hno : ¬ ((((items.size : Int) - 1) == 0 && (-1 : Int) == 1 && items.size == items.size) = true) := by
    intro q
    rw [Bool.and_eq_true, Bool.and_eq_true] at q
    exact absurd q.1.2 (by decide)
  show wpAny _ _ (if (((items.size : Int) - 1) == 0 && (-1 : Int) == 1 && items.size == items.size) = true then _ else _) _ _ s
  rw [if_neg hno, pick_rev]
  first
    | exact wpAny_bind (m := Builtin.Tuple.tupleExact _) (wpAny_newObj_type (wpAny_pure ⟨_, rfl, wpAny_pure h⟩) htake)
    | exact wpAny_bind (m := Builtin.Tuple.tupleExact _) (wpAny_newObj_type (wpAny_bind (wpAny_pure (wpAny_pure ⟨_, rfl, wpAny_pure h⟩))) htake)
    | exact wpAny_bind (wpAny_bind (m := Builtin.Tuple.tupleExact _) (wpAny_newObj_type (wpAny_pure (wpAny_pure ⟨_, rfl, wpAny_pure h⟩)) htake))
    | exact wpAny_bind (wpAny_bind (m := Builtin.Tuple.tupleExact _) (wpAny_newObj_type (wpAny_pure ⟨_, rfl, wpAny_pure h⟩) htake))
end
end HT
namespace DL
open PySem PySem.Spec PyProof.Rows L2
section
variable {X : Cx}
def tRevT (K : PySem.W.Frag) (te : TE) : TE := fun σ H Q => te σ H fun x H1 => ∃ a xs, x = .ref a ∧ SqT K H1 a xs ∧ ∀ p, H1 p = none → Q (.ref p) (upd H1 p (.tup xs.reverse))
theorem pe_revT {e : Expr} {te : TE} {k : Nat} {p1 p2 p3 pos : Pos} (he : PE X e te) : PE X (.Subscript e (.Slice none none (some (.UnaryOp .USub (.Constant (.int 1) k p1) p2)) p3) pos) (tRevT X.K te) := by
  refine ⟨fun pins s σ H Q I h => ?_⟩
  refine Subscript_ (thn (he.run pins s σ H _ I h) fun v s1 ⟨x, H1, I1, r1, q1⟩ => ?_)
  obtain ⟨a, xs, ex, hx, q⟩ := q1
  subst ex
  cases r1
  have hst : PO X (some (.UnaryOp .USub (.Constant (.int 1) k p1) p2)) (tPart (tUn (rU fun i => .int (-i)) (tC (.int 1)))) := po_some (pe_un un_neg pe_int)
  refine wpAny_Slice (thn (po_none.run pins s1 σ H1 (fun o H2 => o = none ∧ H2 = H1) I1 ⟨rfl, rfl⟩) fun vl s2 ⟨l, H2, I2, pl, el, e2⟩ => ?_)
  subst el e2
  refine thn (po_none.run pins s2 σ H2 (fun o H3 => o = none ∧ H3 = H2) I2 ⟨rfl, rfl⟩) fun vu s3 ⟨u, H3, I3, pu, eu, e3⟩ => ?_
  subst eu e3
  refine thn (hst.run pins s3 σ H3 (fun o H4 => o = some (-1) ∧ H4 = H3) I3 ⟨1, rfl, -1, rfl, rfl, rfl⟩) fun vs s4 ⟨o, H4, I4, ps, eo, e4⟩ => ?_
  subst eo e4
  have I5 : Inv X pins σ H4 { s4 with heap := s4.heap.push { cls := .type "slice", data := .fields #[vl, vu, vs] } } := I4.kept (t' := s4.toks) fun b ob q => Heap.get?_push_of_some _ q
  obtain ⟨its, r, ht, hz⟩ := I5.tuple hx
  have hlen := r.length
  show wpAny (model X.prog X.w) X.A (subscriptTail e (.Slice none none (some (.UnaryOp .USub (.Constant (.int 1) k p1) p2)) p3) (.ref a) (.ref s4.heap.objs.size)) (EP X pins σ Q) X.xe { s4 with heap := s4.heap.push { cls := .type "slice", data := .fields #[vl, vu, vs] } }
  refine tail_any (ops := [.ref a, .ref s4.heap.objs.size]) ht.typeIs (PyProof.Rows.slot_tuple_getitem.lookup) ?_ (by with_unfolding_all rfl)
  refine HT.getItem_tuple_rev ht (Heap.IsSliceOf.new _ vl vu vs) pl pu ps ?_ (by rw [List.size_toArray]; omega)
  rw [List.toList_toArray]
  refine ⟨.ref _, _, I5.laid (t' := s4.toks) (o := .tup xs.reverse) (fun b ob q => Heap.get?_push_of_some _ q) (Nat.le_refl _) ?_, rfl, q _ (I5.hok.fresh (Nat.le_refl _))⟩
  exact ⟨by rw [List.length_reverse]; exact hz, _, r.reverse, _, Heap.get?_push_size _ rfl, rfl, 0, rfl⟩
end
section
variable {X : Cx} {W : XW X.K} {a : Expr} {m : EM} {k : Nat} {p1 p2 p3 pos : Pos}
def revTG (x : SV) (S : Store) : Res (SV × Store) := match x with
  | .fr (.tup ds) => okV (.tup ds.reverse) S
  | _ => .stuck
def eRevT (m : EM) : EM := fun rho S => (m rho S).bind fun x => revTG x.1 x.2
theorem dens_app' {K : PySem.W.Frag} {F : Hp} : ∀ {vs ws : List V} {ds es : List D}, Dens K F vs ds → Dens K F ws es → Dens K F (vs ++ ws) (ds ++ es)
  | _, _, _, _, .nil, s => s
  | _, _, _, _, .cons a r, s => .cons a (dens_app' r s)
theorem dens_rev {K : PySem.W.Frag} {F : Hp} : ∀ {vs : List V} {ds : List D}, Dens K F vs ds → Dens K F vs.reverse ds.reverse
  | _, _, .nil => .nil
  | _, _, .cons a r => by
    rw [List.reverse_cons, List.reverse_cons]
    exact dens_app' (dens_rev r) (.cons a .nil)
theorem pd_revT (ha : PD X W a m) : PD X W (.Subscript a (.Slice none none (some (.UnaryOp .USub (.Constant (.int 1) k p1) p2)) p3) pos) (eRevT m) := by
  obtain ⟨ta, pa, sa⟩ := ha.ex
  refine ⟨_, pe_revT pa, fun ph S H sg rho Q g so h => ?_⟩
  refine sa ph S H sg rho _ g so (holds_imp (holds_bind h) (fun x hx => ?_) fun _ _ _ q => q)
  intro ph1 v1 H1 x1 g1 d1
  unfold revTG at hx
  split at hx
  · rename_i ds e
    rw [e] at d1
    obtain ⟨p, vs, rfl, s, r⟩ := d_tup d1
    refine ⟨p, vs, rfl, hide_sub.sqT s, fun t ht => ?_⟩
    have e2 : Ext ph1 H1 ph1 (upd H1 t (.tup vs.reverse)) := Ext.fresh ht
    exact hx ph1 (.ref t) _ (x1.trans e2) (g1.fresh ht) (.tup (.inl (.inl (hide_of (g1.new ht) upd_same))) (dens_rev (r.mono e2.sub)))
  · exact hx.elim
end
end DL

namespace DL
open PySem PySem.Spec PyProof.Rows L2
section
variable {X : Cx} {W : XW X.K} {a : Expr} {m : EM}
def eFz (m : EM) : EM := fun rho S => (m rho S).bind fun r => (leave S.length r.1 r.2).bind (back false)
theorem pd_fz (h : PD X W a m) : PD X W a (eFz m) := by
  obtain ⟨t, p, s⟩ := h.ex
  refine ⟨t, p, fun ph S H sg rho Q g so hh => s ph S H sg rho Q g so (holds_imp (holds_bind hh) (fun r hr => ?_) fun _ _ _ q => q)⟩
  intro ph1 v1 H1 x1 g1 d1
  exact leave_ok (E := W.rel ph H) g x1 g1 d1 (holds_imp (holds_bind hr) (fun y hy => back_ok (Ext.refl _ _) hy) fun _ _ _ q => q)
end
end DL

namespace DL
open PySem PySem.Spec PyProof.Rows L2
section
variable {X : Cx} {W : XW X.K} {a b c tg : Expr} {ma mb mc : EM} {pos : Pos}
/-! ### powers -/
def CPowW (i j : Int) : Prop := 0 ≤ j ∧ (Builtin.Int.intBits i : Int) * j ≤ 2 ^ 27
instance decCPowW (i j : Int) : Decidable (CPowW i j) := by unfold CPowW; infer_instance
theorem op_powW : OpR X (binaryOp .Pow) (rI CPowW fun i j => .int (i ^ j.toNat)) := opI fun _ _ _ _ _ _ _ hc q => pow_int hc.1 hc.2 q
def powWG : G2 := fun a b S => match a, b with
  | .fr (.int i), .fr (.int j) => if CPowW i j then okV (.int (i ^ j.toNat)) S else .stuck
  | _, _ => .stuck
theorem powW_ok : Op2 X W (rI CPowW fun i j => .int (i ^ j.toNat)) powWG := by
  intro ph S H x y a b Q g da db h
  unfold powWG at h
  split at h
  · split at h
    · exact int2_ok da db (by assumption) (fin_v g (.int _) h)
    · exact h.elim
  · exact h.elim
theorem pd_powW (ha : PD X W a ma) (hb : PD X W b mb) : PD X W (.BinOp a .Pow b pos) (e2 powWG ma mb) := pd_2 op_powW powW_ok ha hb
/-! ### a text, no time or once -/
def rMulS : R2 := fun x y H Q => ∃ z n, x = .str z ∧ y = .int n ∧ ((n = 0 ∧ Q (.str Str.empty) H) ∨ (n = 1 ∧ Q (.str z) H))
theorem op_mulS : OpR X (binaryOp .Mult) rMulS := by
  intro pins s σ H x y v u Q I rx ry h
  obtain ⟨z, n, rfl, rfl, h⟩ := h
  obtain ⟨t, rfl⟩ := rx
  obtain ⟨k, rfl⟩ := ry
  rcases h with ⟨rfl, q⟩ | ⟨rfl, q⟩
  · exact P.mul_str_none (by decide) (by decide) ⟨.str Str.empty, H, I.tok _, ⟨_, rfl⟩, q⟩
  · refine P.mul_str (by decide) (fun _ h1 => by simp at h1) (fun _ h1 => by simp at h1) ?_
    rw [if_neg (by decide), if_pos (by simp)]
    exact ⟨.str z, H, I, ⟨t, rfl⟩, q⟩
def mulSG : G2 := fun a b S => match a, b with
  | .fr (.str z), .fr (.int n) => if n = 0 then okV (.str Str.empty) S else if n = 1 then okV (.str z) S else .stuck
  | _, _ => .stuck
theorem mulS_ok : Op2 X W rMulS mulSG := by
  intro ph S H x y a b Q g da db h
  unfold mulSG at h
  split at h
  · rw [d_str da, d_int db]
    split at h
    · exact ⟨_, _, rfl, rfl, .inl ⟨by assumption, fin_v g (.str _) h⟩⟩
    · split at h
      · exact ⟨_, _, rfl, rfl, .inr ⟨by assumption, fin_v g (.str _) h⟩⟩
      · exact h.elim
  · exact h.elim
theorem pd_mulS (ha : PD X W a ma) (hb : PD X W b mb) : PD X W (.BinOp a .Mult b pos) (e2 mulSG ma mb) := pd_2 op_mulS mulS_ok ha hb
/-! ### joined -/
def strsOf : List SV → Option (List Str)
  | [] => some []
  | .fr (.str z) :: xs => (strsOf xs).map fun ys => z :: ys
  | _ => none
theorem strsOf_ok {K : PySem.W.Frag} {ph : List Addr} {H : Hp} : ∀ {xs : List SV} {vs : List V} {ys : List Str}, DenSs K ph H vs xs → strsOf xs = some ys → vs = ys.map V.str
  | [], _, _, .nil, e => by cases e; rfl
  | .fr (.str z) :: xs, _, _, .cons d r, e => by
    obtain ⟨ys, h1, rfl⟩ := Option.map_eq_some_iff.mp (show (strsOf xs).map (fun ys => z :: ys) = some _ from e)
    rw [strsOf_ok r h1, d_str d]
    rfl
  | .fr (.non) :: _, _, _, _, e => by cases e
  | .fr (.bl _) :: _, _, _, _, e => by cases e
  | .fr (.int _) :: _, _, _, _, e => by cases e
  | .fr (.tup _) :: _, _, _, _, e => by cases e
  | .fr (.lst _) :: _, _, _, _, e => by cases e
  | .fr (.scr _) :: _, _, _, _, e => by cases e
  | .fr (.ty _) :: _, _, _, _, e => by cases e
  | .fr (.ref _) :: _, _, _, _, e => by cases e
  | .fr (.ins _ _) :: _, _, _, _, e => by cases e
  | .fr (.cls _) :: _, _, _, _, e => by cases e
  | .fr (.dct _) :: _, _, _, _, e => by cases e
  | .fr (.exn _ _ _ _) :: _, _, _, _, e => by cases e
  | .cell _ :: _, _, _, _, e => by cases e
def joinG : GMt := fun x xs S => match x, xs with
  | .fr (.str z), [a] => match rdS S a with
    | some ys => match strsOf ys with
      | some zs => if (zs.map (·.length)).sum + zs.length * z.length ≤ 16777216 then okV (.str (Txt.join z zs)) S else .stuck
      | none => .stuck
    | none => .stuck
  | _, _ => .stuck
theorem join_ok : OpM X W (fun x xs H Q => ∃ a p, ∃ ys : List Str, x = .str a ∧ xs = [.ref p] ∧ (SqL X.K H p (ys.map V.str) ∨ SqT X.K H p (ys.map V.str)) ∧
    (ys.map (·.length)).sum + ys.length * a.length ≤ 16777216 ∧ Q (.str (Txt.join a ys)) H) joinG := by
  intro ph S H x a xs as Q g dx d h
  unfold joinG at h
  split at h
  · rename_i z y
    obtain ⟨v, rfl, dv⟩ := one_of d
    rw [d_str dx]
    split at h
    · rename_i ys hy
      split at h
      · rename_i zs hz
        split at h
        · rename_i hl
          obtain ⟨p, vs, rfl, s, r⟩ := rdS_ok g dv hy
          rw [strsOf_ok r hz] at s
          exact ⟨z, p, zs, rfl, rfl, .inl s, hl, fin_v g (.str _) h⟩
        · exact h.elim
      · exact h.elim
    · exact h.elim
  · exact h.elim
/-! ### sign by sign -/
def sgnS (z : Str) : List SV := z.cps.toList.map fun c => .fr (.str ⟨#[c]⟩)
def iStS (m : EM) : IM := fun rho S => (m rho S).bind fun x => match x.1 with
  | .fr (.str z) => .ok (⟨sgnS z, fun _ => True⟩, x.2)
  | _ => .stuck
theorem walk_sgn {K : PySem.W.Frag} {ph : List Addr} {H : Hp} {z : Str} {lk : Store → Prop} : WalkOk K ph H (Its z) ⟨sgnS z, lk⟩ where
  go := fun i x ph' H' S' hx e g _ => by
    have hx : (sgnS z)[i]? = some x := hx
    unfold sgnS at hx
    rw [List.getElem?_map] at hx
    obtain ⟨c, hc, _⟩ := Option.map_eq_some_iff.mp hx
    have := (List.getElem?_eq_some_iff.mp hc).1
    show i < z.cps.size
    rwa [Array.length_toList] at this
  yld := fun i x ph' H' S' v H2 hx e g _ y => by
    obtain ⟨rfl, c, hc, rfl⟩ := y
    have hx : (sgnS z)[i]? = some x := hx
    unfold sgnS at hx
    rw [List.getElem?_map, Array.getElem?_toList, hc] at hx
    cases hx
    exact ⟨Ext.refl _ _, g, .str _⟩
  stop := fun i ph' H' S' hi e g _ => by
    have hi : (sgnS z).length ≤ i := hi
    show z.cps.size ≤ i
    unfold sgnS at hi
    rwa [List.length_map, Array.length_toList] at hi
theorem pid_sgn (ha : PD X W a ma) : PID X W tg a (iStS ma) := by
  obtain ⟨ta, pa, sa⟩ := ha.ex
  refine ⟨_, pi_str pa, fun ph S H sg rho R g so h => sa ph S H sg rho _ g so (holds_imp (holds_bind h) (fun x hx => ?_) fun _ _ _ q => q)⟩
  intro ph1 v1 H1 x1 g1 d1
  obtain ⟨sv, S1⟩ := x
  dsimp only at *
  split at hx
  · exact ⟨_, d_str d1, hx ph1 H1 _ x1 g1 walk_sgn⟩
  · exact hx.elim
/-! ### a sign in a text -/
def oneS : Str → Option Nat
  | ⟨⟨[c]⟩⟩ => some c
  | _ => none
theorem oneS_ok {z : Str} {c : Nat} (h : oneS z = some c) : z = ⟨#[c]⟩ := by
  unfold oneS at h
  split at h
  · cases h; rfl
  · cases h
def inSgG (ng : Bool) : G2 := fun a b S => match a, b with
  | .fr (.str x), .fr (.str z) => match oneS x with
    | some c => okV (.bl (if ng then !decide (c ∈ z.cps.toList) else decide (c ∈ z.cps.toList))) S
    | none => .stuck
  | _, _ => .stuck
theorem inSg_ok : Op2 X W rInS (inSgG false) := by
  intro ph S H x y a b Q g da db h
  unfold inSgG at h
  split at h
  · split at h
    · rename_i c hc
      rw [d_str da, d_str db]
      exact ⟨c, _, by rw [oneS_ok hc], rfl, fin_v g (.bl _) h⟩
    · exact h.elim
  · exact h.elim
theorem notInSg_ok : Op2 X W rNotInS (inSgG true) := by
  intro ph S H x y a b Q g da db h
  unfold inSgG at h
  split at h
  · split at h
    · rename_i c hc
      rw [d_str da, d_str db]
      exact ⟨c, _, by rw [oneS_ok hc], rfl, fin_v g (.bl _) h⟩
    · exact h.elim
  · exact h.elim
theorem pd_inSg (ha : PD X W a ma) (hb : PD X W b mb) (hm : behindInMarks .In b = false := by first | exact nomark _ | rfl) : PD X W (.Compare a [.In] [b] pos) (e2 (inSgG false) ma mb) := pd_cmp op_inS inSg_ok ha hb hm
theorem pd_notInSg (ha : PD X W a ma) (hb : PD X W b mb) (hm : behindInMarks .NotIn b = false := by first | exact nomark _ | rfl) : PD X W (.Compare a [.NotIn] [b] pos) (e2 (inSgG true) ma mb) := pd_cmp op_notInS notInSg_ok ha hb hm
theorem pt_inSg (ha : PD X W a ma) (hb : PD X W b mb) (hm : behindInMarks .In b = false := by first | exact nomark _ | rfl) : PDT X W (.Compare a [.In] [b] pos) (tB (e2 (inSgG false) ma mb)) := pt_2 op_inS inSg_ok ha hb hm
theorem pt_notInSg (ha : PD X W a ma) (hb : PD X W b mb) (hm : behindInMarks .NotIn b = false := by first | exact nomark _ | rfl) : PDT X W (.Compare a [.NotIn] [b] pos) (tB (e2 (inSgG true) ma mb)) := pt_2 op_notInS notInSg_ok ha hb hm
end
/-! ### calls without arguments -/
def eCall0 (f : FnM) (c : Bool) : EM := fun _ S => (noX (f [] S)).bind (back c)
section
variable {X : Cx} {W : XW X.K} {pos p : Pos}
theorem pe_callD0 {k j : Nat} {x : Str} {f : FnM} (c : CalD X.prog X.w X.K X.mg X.base k x f) (hr : Room j X.A) (hk : k ≤ j) (hgd : X.A.guards = some []) (hg : Gl X x)
    (hdb : (x == ("__debug__" : Str)) = false) : PE X (.Call (.Name x p) [] [] pos) (fun sg H Q => spD X.K f [] H Q E0) := by
  obtain ⟨g, fd, ps, hm, hkp, hbd, F⟩ := c.ex
  refine ⟨fun pins s sg H Q I h => wpAny_Call_Name_kw (ld_glob I hg hm ?_ hdb)⟩
  refine PySem.W.callWith_K0 I.kIn hkp ?_
  have hl : (([] : List Value) ++ []).length = ps.length := F.len _ _ _ _ h
  have bt := hbd s [] I.kIn hl
  rw [List.append_nil] at bt
  refine wpAny_call (codeAny_mono (F.run X.A X.stack s H ⟨[], []⟩ [] [] Q E0 hgd (hr.mono hk) I.env0 bt .nil h) fun r s' hq => ?_)
  cases r with
  | error e => exact passL pins sg H s e s' I hq
  | ok fl =>
    cases fl with
    | ret u => exact I.after hq
    | next => exact False.elim hq
    | brk => exact False.elim hq
    | cont => exact False.elim hq
theorem pd_call0 {k j : Nat} {x : Str} {f : FnM} (cc : Bool) (c : CalD X.prog X.w X.K X.mg X.base k x f) (hr : Room j X.A) (hk : k ≤ j) (hgd : X.A.guards = some []) (hg : Gl X x := by rfl)
    (hdb : (x == ("__debug__" : Str)) = false := by decide) : PD X W (.Call (.Name x p) [] [] pos) (eCall0 f cc) := by
  refine ⟨_, pe_callD0 c hr hk hgd hg hdb, fun ph S H sg rho Q gd so h => ?_⟩
  exact ⟨ph, S, [], gd, .nil, noX_ok (holds_imp (holds_bind h) (fun r hr => back_ok (Ext.refl _ _) hr) fun _ _ _ q => q)⟩
end
end DL

namespace DL
open PySem L2

/-! ### stores without loose ends -/
def WF (S : Store) : Prop := S.all (Cell.below S.length) = true
theorem SV.below_mono {n m : Nat} (h : n ≤ m) {x : SV} (b : x.below n = true) : x.below m = true := by
  cases x with
  | fr _ => rfl
  | cell k => simp only [SV.below, decide_eq_true_eq] at b ⊢; omega
theorem Cell.below_mono {n m : Nat} (h : n ≤ m) {c : Cell} (b : c.below n = true) : c.below m = true := by
  cases c with
  | lst xs =>
    simp only [Cell.below, List.all_eq_true] at b ⊢
    exact fun x hx => SV.below_mono h (b x hx)
  | ins C fs =>
    simp only [Cell.below, List.all_eq_true] at b ⊢
    exact fun x hx => SV.below_mono h (b x hx)
  | tup xs =>
    simp only [Cell.below, List.all_eq_true] at b ⊢
    exact fun x hx => SV.below_mono h (b x hx)
  | dic kvs =>
    simp only [Cell.below, List.all_eq_true] at b ⊢
    exact fun x hx => SV.below_mono h (b x hx)
  | dit kvs =>
    simp only [Cell.below, List.all_eq_true] at b ⊢
    exact fun x hx => SV.below_mono h (b x hx)
theorem wf_nil : WF [] := rfl
theorem WF.snoc {S : Store} {c : Cell} (h : WF S) (hc : c.below (S.length + 1) = true) : WF (S ++ [c]) := by
  unfold WF at h ⊢
  simp only [List.all_append, List.length_append, List.length_singleton, List.all_cons, List.all_nil, hc, Bool.and_true, Bool.and_eq_true, and_true]
  simp only [List.all_eq_true] at h ⊢
  exact fun x hx => Cell.below_mono (by omega) (h x hx)
theorem WF.set {S : Store} {c : Cell} (h : WF S) (k : Nat) (hc : c.below S.length = true) : WF (S.set k c) := by
  unfold WF at h ⊢
  simp only [List.all_eq_true, List.length_set] at h ⊢
  exact fun x hx => (List.mem_or_eq_of_mem_set hx).elim (h x) fun e => e ▸ hc
theorem leave_val {S : Store} (h : WF S) (d : D) : leave S.length (.fr d) S = .ok (.val (.fr d), S) := by
  unfold leave
  rw [List.take_length, if_pos (show S.all (Cell.below S.length) = true from h)]
theorem leave_cell {S : Store} (h : WF S) {k : Nat} (hk : k < S.length) : leave S.length (.cell k) S = .ok (.val (.cell k), S) := by
  unfold leave
  rw [List.take_length, if_pos (show S.all (Cell.below S.length) = true from h)]
  simp only [hk, if_true]
/-- a store that grew: the old part is handed back -/
theorem leave_more {S T : Store} (h : WF S) (d : D) : leave S.length (.fr d) (S ++ T) = .ok (.val (.fr d), S) := by
  unfold leave
  rw [List.take_left' rfl, if_pos (show S.all (Cell.below S.length) = true from h)]
theorem leave_new {S : Store} {c : Cell} (h : WF S) (hc : c.below S.length = true) : leave S.length (.cell S.length) (S ++ [c]) = .ok (.new c, S) := by
  unfold leave
  rw [List.take_left' rfl, if_pos (show S.all (Cell.below S.length) = true from h)]
  simp [hc]

/-! ### ints small enough to be shown -/
theorem intText_len {i : Int} {k : Nat} (hk : 0 < k) (h : i.natAbs < 10 ^ k) : (PyData.shown (.int i)).length ≤ k + 1 := by
  rw [PyData.shown_int]
  have l : ∀ n : Nat, n < 10 ^ k → n.repr.length ≤ k := fun n hn => by
    have := (Nat.length_toDigits_le_iff (b := 10) (n := n) (by decide) hk).mpr hn
    rw [Nat.repr]
    simpa using this
  show (Str.ofString (Int.repr i)).length ≤ _
  rw [PySem.ofString_length]
  cases i with
  | ofNat n =>
    have := l n (by simpa using h)
    show n.repr.length ≤ _
    omega
  | negSucc n =>
    have := l (n + 1) (by simpa using h)
    show ("-" ++ (n + 1).repr).length ≤ _
    have e : "-".length = 1 := by decide
    rw [String.length_append, e]
    omega

/-! ### data that == and repr are served for -/
mutual
def fit : Nat → D → Bool
  | _, .non => true
  | _, .bl _ => true
  | _, .int i => decide (i.natAbs < 10 ^ 129)
  | _, .str x => PyData.strOk x
  | n + 1, .tup ds => fits n ds
  | n + 1, .lst ds => fits n ds
  | n + 1, .scr ds => fits n ds
  | _, _ => false
def fits : Nat → List D → Bool
  | _, [] => true
  | n, d :: ds => fit n d && fits n ds
end
theorem log_lt {n k : Nat} (h : n < 2 ^ k) (hk : 0 < k) : n.log2 < k := by
  cases n with
  | zero => rw [Nat.log2_zero]; exact hk
  | succ m => exact (Nat.log2_lt (by omega)).mpr h
structure FitOk (n : Nat) (d : PyData) : Prop where
  lay : d.canLay0 = true
  dep : d.depth ≤ n
  show_ : d.showable = true
  nsh : d.intsShort 130 = true
structure FitsOk (n : Nat) (ds : List PyData) : Prop where
  lay : PyData.canLayAll0 ds = true
  dep : PyData.depthAll ds ≤ n
  show_ : PyData.showableAll ds = true
  nsh : PyData.intsShortAll 130 ds = true
theorem pow_129 : (10 : Nat) ^ 129 < 2 ^ 1920 := by decide +kernel
mutual
theorem fit_p : ∀ (n : Nat) (d : D), fit n d = true → isP d = true ∧ FitOk n (py d)
  | n, .non, _ => ⟨rfl, by simp only [py]; exact ⟨rfl, Nat.zero_le _, rfl, rfl⟩⟩
  | n, .bl b, _ => ⟨rfl, by simp only [py]; exact ⟨rfl, Nat.zero_le _, rfl, rfl⟩⟩
  | n, .int i, h => by
    have h' : i.natAbs < 10 ^ 129 := by simpa only [fit, decide_eq_true_eq] using h
    refine ⟨rfl, ?_⟩
    simp only [py]
    refine ⟨rfl, Nat.zero_le _, ?_, ?_⟩
    · simp only [PyData.showable, decide_eq_true_eq]
      exact log_lt (Nat.lt_trans h' pow_129) (by decide)
    · simp only [PyData.intsShort, decide_eq_true_eq]
      exact intText_len (by decide) h'
  | n, .str x, h => by
    refine ⟨rfl, ?_⟩
    simp only [py]
    exact ⟨by simpa only [fit, PyData.canLay0] using h, Nat.zero_le _, rfl, rfl⟩
  | n + 1, .tup ds, h => by
    obtain ⟨a, b⟩ := fits_p n ds (by simpa only [fit] using h)
    refine ⟨by simpa only [isP] using a, ?_⟩
    simp only [py]
    exact ⟨by simpa only [PyData.canLay0] using b.lay, by simp only [PyData.depth]; have := b.dep; omega, by simpa only [PyData.showable] using b.show_, by simpa only [PyData.intsShort] using b.nsh⟩
  | n + 1, .lst ds, h => by
    obtain ⟨a, b⟩ := fits_p n ds (by simpa only [fit] using h)
    refine ⟨by simpa only [isP] using a, ?_⟩
    simp only [py]
    exact ⟨by simpa only [PyData.canLay0] using b.lay, by simp only [PyData.depth]; have := b.dep; omega, by simpa only [PyData.showable] using b.show_, by simpa only [PyData.intsShort] using b.nsh⟩
  | n + 1, .scr ds, h => by
    obtain ⟨a, b⟩ := fits_p n ds (by simpa only [fit] using h)
    refine ⟨by simpa only [isP] using a, ?_⟩
    simp only [py]
    exact ⟨by simpa only [PyData.canLay0] using b.lay, by simp only [PyData.depth]; have := b.dep; omega, by simpa only [PyData.showable] using b.show_, by simpa only [PyData.intsShort] using b.nsh⟩
  | 0, .tup _, h => by simp [fit] at h
  | 0, .lst _, h => by simp [fit] at h
  | 0, .scr _, h => by simp [fit] at h
  | n, .ty _, h => by cases n <;> simp [fit] at h
  | n, .ref _, h => by cases n <;> simp [fit] at h
  | n, .ins _ _, h => by cases n <;> simp [fit] at h
  | n, .cls _, h => by cases n <;> simp [fit] at h
  | n, .exn _ _ _ _, h => by cases n <;> simp [fit] at h
  | n, .dct _, h => by cases n <;> simp [fit] at h
theorem fits_p : ∀ (n : Nat) (ds : List D), fits n ds = true → isPs ds = true ∧ FitsOk n (pys ds)
  | n, [], _ => ⟨rfl, by simp only [pys]; exact ⟨rfl, Nat.zero_le _, rfl, rfl⟩⟩
  | n, d :: ds, h => by
    have h' : fit n d = true ∧ fits n ds = true := by simpa only [fits, Bool.and_eq_true] using h
    obtain ⟨a, b⟩ := fit_p n d h'.1
    obtain ⟨a2, b2⟩ := fits_p n ds h'.2
    refine ⟨by simp only [isPs, a, a2, Bool.and_self], ?_⟩
    simp only [pys]
    exact ⟨by simp only [PyData.canLayAll0, b.lay, b2.lay, Bool.and_self], by simp only [PyData.depthAll]; have := b.dep; have := b2.dep; omega, by simp only [PyData.showableAll, b.show_, b2.show_, Bool.and_self], by simp only [PyData.intsShortAll, b.nsh, b2.nsh, Bool.and_self]⟩
end
theorem fit_plain {d : D} (h : fit 64 d = true) : plain d = true := by
  obtain ⟨a, b⟩ := fit_p 64 d h
  unfold plain SeqAt.shaped
  simp only [a, b.lay, b.dep, decide_true, Bool.and_self]
theorem fit_deq {d : D} (h : fit 64 d = true) : deq d d = true := SeqAt.eqv_refl _ (fit_p 64 d h).2.lay
theorem fit_rOk {d : D} (h : fit 64 d = true) (hb : (py d).bulk ≤ 100000) : rOk d = true := by
  obtain ⟨a, b⟩ := fit_p 64 d h
  unfold rOk
  simp only [a, b.show_, PyData.leavesShort_of_canLay0 130 _ b.lay b.nsh, hb, decide_true, Bool.and_self]
theorem fits_all {n : Nat} : ∀ {ds : List D}, (∀ d ∈ ds, fit n d = true) → fits n ds = true
  | [], _ => by simp only [fits]
  | d :: ds, h => by
    simp only [fits, h d List.mem_cons_self, fits_all fun x hx => h x (List.mem_cons_of_mem _ hx), Bool.and_self]
theorem bulk_all {c : Nat} : ∀ {ds : List D}, (∀ d ∈ ds, (py d).bulk ≤ c) → PyData.bulkAll (pys ds) ≤ (c + 1) * ds.length
  | [], _ => by simp only [pys, PyData.bulkAll, List.length_nil, Nat.mul_zero, Nat.le_refl]
  | d :: ds, h => by
    have h1 := h d List.mem_cons_self
    have h2 := bulk_all (ds := ds) fun x hx => h x (List.mem_cons_of_mem _ hx)
    simp only [pys, PyData.bulkAll, List.length_cons, Nat.mul_succ]
    omega

/-! ### the mirrors' steps as equations -/
theorem r_bind {α β : Type} (x : α) (f : α → Res β) : (Res.ok x).bind f = f x := id rfl
theorem r_okV (d : D) (S : Store) : okV d S = .ok (.fr d, S) := id rfl
theorem r_snap (S : Store) (d : D) : snap S (.fr d) = some d := id rfl
theorem r_add (c : Bool) (i j : Int) (S : Store) : addG c (.fr (.int i)) (.fr (.int j)) S = .ok (.fr (.int (i + j)), S) := id rfl
theorem r_sub (i j : Int) (S : Store) : subG (.fr (.int i)) (.fr (.int j)) S = .ok (.fr (.int (i - j)), S) := id rfl
theorem r_neg (i : Int) (S : Store) : negG (.fr (.int i)) S = .ok (.fr (.int (-i)), S) := id rfl
theorem r_mul (c : Bool) (i j : Int) (S : Store) : mulG c (.fr (.int i)) (.fr (.int j)) S = if CMul i j ∨ CMulW i j then .ok (.fr (.int (i * j)), S) else .stuck := id rfl
theorem r_mulL (c : Bool) {i j : Int} {S : Store} (h : CMul i j) : mulG c (.fr (.int i)) (.fr (.int j)) S = .ok (.fr (.int (i * j)), S) := by rw [r_mul, if_pos (.inl h)]
theorem r_mulW (c : Bool) {i j : Int} {S : Store} (h : CMulW i j) : mulG c (.fr (.int i)) (.fr (.int j)) S = .ok (.fr (.int (i * j)), S) := by rw [r_mul, if_pos (.inr h)]
theorem r_fdiv (i j : Int) (S : Store) : fdivG (.fr (.int i)) (.fr (.int j)) S = if CDiv i j ∨ CDivW i j then .ok (.fr (.int (i / j)), S) else .stuck := id rfl
theorem r_mod (i j : Int) (S : Store) : modG (.fr (.int i)) (.fr (.int j)) S = if 0 < j then .ok (.fr (.int (i % j)), S) else .stuck := id rfl
theorem r_pow (i j : Int) (S : Store) : powG (.fr (.int i)) (.fr (.int j)) S = if CPow i j then .ok (.fr (.int (i ^ j.toNat)), S) else .stuck := id rfl
theorem r_cmp (p : Int → Int → Bool) (i j : Int) (S : Store) : cmpG p (.fr (.int i)) (.fr (.int j)) S = .ok (.fr (.bl (p i j)), S) := id rfl
theorem r_is (n : Bool) (a : SV) (S : Store) : isG n a (.fr .non) S = .ok (.fr (.bl (if n then !isNon a else isNon a)), S) := id rfl
theorem r_eq (n : Bool) {a b : SV} {d e : D} {r : Bool} {S : Store} (h1 : snap S a = some d) (h2 : snap S b = some e) (h3 : eqD d e = some r) : eqG n a b S = .ok (.fr (.bl (if n then !r else r)), S) := by
  unfold eqG
  simp only [h1, h2, h3, okV]
theorem plain_int (i : Int) : plain (.int i) = true := by simp [plain, isP, py, SeqAt.shaped, PyData.canLay0, PyData.depth]
theorem plain_non : plain .non = true := by simp [plain, isP, py, SeqAt.shaped, PyData.canLay0, PyData.depth]
theorem plain_bl (b : Bool) : plain (.bl b) = true := by simp [plain, isP, py, SeqAt.shaped, PyData.canLay0, PyData.depth]
theorem eqD_int (i j : Int) : eqD (.int i) (.int j) = some (decide (i = j)) := by
  simp only [eqD, plain_int, deq, py, PyData.eqv, Bool.and_self, if_true]
  rfl
theorem r_eqI (n : Bool) (i j : Int) (S : Store) : eqG n (.fr (.int i)) (.fr (.int j)) S = .ok (.fr (.bl (if n then !decide (i = j) else decide (i = j))), S) := r_eq n rfl rfl (eqD_int i j)
theorem r_abs (i : Int) (S : Store) : absG [.fr (.int i)] S = .ok (.fr (.int (if i < 0 then -i else i)), S) := id rfl
theorem r_int (i : Int) (S : Store) : intG [.fr (.int i)] S = .ok (.fr (.int i), S) := id rfl
theorem r_max (i j : Int) (S : Store) : max2G [.fr (.int i), .fr (.int j)] S = .ok (.fr (.int (max i j)), S) := by
  show okV (.int (if j > i then j else i)) S = _
  rw [r_okV]
  congr 4
  omega
theorem r_min (i j : Int) (S : Store) : min2G [.fr (.int i), .fr (.int j)] S = .ok (.fr (.int (min i j)), S) := by
  show okV (.int (if j < i then j else i)) S = _
  rw [r_okV]
  congr 4
  omega
theorem r_newT {xs : List SV} {ds : List D} {S : Store} (h : allFr xs = some ds) (hl : xs.length ≤ sizeLine) : newT xs S = .ok (.fr (.tup ds), S) := by
  unfold newT
  rw [if_pos hl, h]
theorem r_newL {xs : List SV} {ds : List D} {S : Store} (h : allFr xs = some ds) (hl : xs.length ≤ sizeLine) : newL false xs S = .ok (.fr (.lst ds), S) := by
  unfold newL
  rw [if_pos hl]
  simp only [Bool.false_eq_true, if_false, h]
theorem r_newC {xs : List SV} {S : Store} (hl : xs.length ≤ sizeLine) : newL true xs S = .ok (.cell S.length, S ++ [.lst xs]) := by
  unfold newL
  rw [if_pos hl]
  rfl
theorem atI_nat {α : Type} (xs : List α) (n : Nat) : atI xs (n : Int) = xs[n]? := by
  unfold atI ixN
  by_cases h : n < xs.length
  · rw [if_pos (by omega), if_pos (by omega)]; simp
  · rw [if_pos (by omega), if_neg (by omega)]; simp [List.getElem?_eq_none (Nat.le_of_not_lt h)]
theorem r_ixL {a : SV} {xs : List SV} {x : SV} {i : Int} {S : Store} (h : rdS S a = some xs) (hx : atI xs i = some x) : ixG a (.fr (.int i)) S = .ok (x, S) := by
  unfold ixG
  simp only [h, hx]
theorem r_ixT {ds : List D} {d : D} {i : Int} {S : Store} (hx : atI ds i = some d) : ixG (.fr (.tup ds)) (.fr (.int i)) S = .ok (.fr d, S) := by
  unfold ixG
  simp only [rdS, rdL, hx, okV]
theorem r_ixF {ds : List D} {d : D} {i : Int} {S : Store} (hx : atI ds i = some d) : ixG (.fr (.lst ds)) (.fr (.int i)) S = .ok (.fr d, S) := by
  refine r_ixL rfl ?_
  unfold atI at hx ⊢
  rw [List.length_map]
  cases q : ixN ds.length i with
  | none => rw [q] at hx; simp at hx
  | some j => rw [q] at hx; simpa using hx
theorem r_lenL {a : SV} {xs : List SV} {S : Store} (h : rdS S a = some xs) : lenG [a] S = .ok (.fr (.int xs.length), S) := by
  unfold lenG lenS
  simp only [h, okV]
theorem r_lenF {ds : List D} {S : Store} : lenG [.fr (.lst ds)] S = .ok (.fr (.int ds.length), S) := by
  rw [r_lenL rfl, List.length_map]
theorem r_lenT {ds : List D} {S : Store} : lenG [.fr (.tup ds)] S = .ok (.fr (.int ds.length), S) := id rfl
theorem r_callV {f : FnM} {c : Bool} {m : AM} {rho : Slots} {S S1 S2 : Store} {xs : List SV} {x : SV} (h1 : m rho S = .ok (xs, S1)) (h2 : f xs S1 = .ok (.val x, S2)) : eCall f c m rho S = .ok (x, S2) := by
  unfold eCall
  rw [h1, r_bind, h2]
  rfl
theorem r_back {c : Bool} {f : Res (RV × Store)} {x : SV} {S : Store} (h : f = .ok (.val x, S)) : (noX f).bind (back c) = .ok (x, S) := by rw [h]; rfl
theorem r_backC {f : Res (RV × Store)} {x : Cell} {S : Store} (h : f = .ok (.new x, S)) : (noX f).bind (back true) = .ok (.cell S.length, S ++ [x]) := by rw [h]; rfl
theorem r_backF {f : Res (RV × Store)} {xs : List SV} {ds : List D} {S : Store} (h : f = .ok (.new (.lst xs), S)) (hx : allFr xs = some ds) : (noX f).bind (back false) = .ok (.fr (.lst ds), S) := by
  rw [h]
  simp [noX, r_bind, back, freeze, hx]

/-! ### what all laws share -/
noncomputable def alikeM : FnM := fnM 2 2 (sRet (eAnd (e2 (eqG false) (eV 0) (eV 1)) (e2 (eqG false) (eA reprG (aC (eV 0) aN)) (eA reprG (aC (eV 1) aN)))))
noncomputable def bagM : FnM := fnM 1 3 (sRet (eA (newL true) (aC (eC (.int 0)) (aC (eC (.int 1234567891)) (aC (eC (.int 0)) (aC (eLC false (iSeq (eSl false (eV 0) pN (pS (eC (.int 63))))) (gNm 2) tTr (eA absG (aC (eV 2) aN)) [1, 2]) aN))))))
noncomputable def takeA : SM := (sIf (tB (e2 (eqG false) (e2 ixG (eV 0) (eC (.int 0))) (eC (.int 0)))) (sSeq (sSet 2 (eC (.int 0)))
    (sSeq (sIf (tB (e2 (ltG) (e2 ixG (eV 0) (eC (.int 2))) (eA lenG (aC (e2 ixG (eV 0) (eC (.int 3))) aN)))) (sSet 2 (e2 ixG (e2 ixG (eV 0) (eC (.int 3))) (e2 ixG (eV 0) (eC (.int 2))))) sNx)
    (sSeq (sAugS (eV 0) (eC (.int 2)) (eC (.int 1)))
    (sSeq (sIf (tB (e2 (geG) (eV 2) (eC (.int 1000000000000000000)))) (sAs (eV 2) (gSb (eV 0) (eC (.int 0)))) sNx)
    (sSeq (sSet 3 (e2 (addG false) (e2 (addG false) (e2 (mulG false) (e2 ixG (eV 0) (eC (.int 1))) (eC (.int 48271))) (e2 (modG) (eA intG (aC (eV 2) aN)) (eC (.int 2147483647)))) (e2 (mulG false) (eC (.int 7919)) (e2 ixG (eV 0) (eC (.int 2))))))
    (sAs (e2 (modG) (eA intG (aC (eV 3) aN)) (eC (.int 2147483647))) (gSb (eV 0) (eC (.int 1))))))))) sNx)
noncomputable def takeB : SM := (sSeq (sIf (tB (e2 (gtG) (e2 ixG (eV 0) (eC (.int 0))) (eC (.int 0)))) (sSeq (sSet 4 (e2 (modG) (eA intG (aC (e2 ixG (eV 0) (eC (.int 0))) aN)) (eV 1)))
    (sSeq (sAs (e2 (fdivG) (e2 ixG (eV 0) (eC (.int 0))) (eV 1)) (gSb (eV 0) (eC (.int 0))))
    (sRet (eV 4)))) sNx)
    (sSeq (sSet 5 (e2 (modG) (eA intG (aC (e2 (mulG false) (e2 (addG false) (e2 ixG (eV 0) (eC (.int 1))) (eC (.int 1))) (eC (.int 39373))) aN)) (eC (.int 1000000007))))
    (sSeq (sSet 6 (e2 (modG) (eA intG (aC (e2 (mulG false) (e2 (modG) (eA intG (aC (e2 (mulG false) (eV 5) (eV 5)) aN)) (eC (.int 998244353))) (eC (.int 30011))) aN)) (eC (.int 998244353))))
    (sSeq (sIf (tB (e2 (gtG) (eV 1) (eC (.int 1000000)))) (sRet (e2 (modG) (eA intG (aC (e2 (addG false) (e2 (mulG false) (eV 6) (eC (.int 1000000007))) (eV 5)) aN)) (eV 1))) sNx)
    (sRet (e2 (modG) (eA intG (aC (e2 (fdivG) (eV 6) (eC (.int 7))) aN)) (eV 1)))))))
noncomputable def takeM : FnM := fnM 2 7 (sSeq takeA takeB)
theorem eqD_refl {d : D} (h : fit 64 d = true) : eqD d d = some true := by
  have h1 := fit_plain h
  have h2 := fit_deq h
  unfold eqD
  split
  · simp
  · rw [h1, h2]; rfl
theorem eqD_str (x : Str) : eqD (.str x) (.str x) = some true := by simp [eqD]
theorem alike_run {S : Store} {a b : SV} {d : D} (wf : WF S) (ha : snap S a = some d) (hb : snap S b = some d) (hf : fit 64 d = true) (hk : (py d).bulk ≤ 100000) : alikeM [a, b] S = .ok (.val (.fr (.bl true)), S) := by
  have hp := fit_plain hf
  have hr := fit_rOk hf hk
  have hd := eqD_refl hf
  simp [alikeM, fnM, sRet, eAnd, eTr, e2, eV, eA, aC, aN, eqG, reprG, r_bind, ha, hb, hp, hr, hd, okV, truth, truthD, r_snap, eqD_str, leaveF, leave_val wf]
end DL

namespace DL
open PySem L2

/-! ### a machine for the mirrors: each step an equation, what comes next is a constant of its own -/
/-- it comes to an end of which Q holds -/
def Ends {α : Type} (r : Res α) (Q : α → Prop) : Prop := ∃ a, r = .ok a ∧ Q a
theorem s_ends {α : Type} (a : α) (Q : α → Prop) : Ends (.ok a) Q = Q a := propext ⟨fun ⟨b, e, h⟩ => by cases e; exact h, fun h => ⟨a, rfl, h⟩⟩
section
variable {g g' : G2} {a b c : EM} {rho : Slots} {S : Store} {x y : SV} {m : AM} {t u : TM} {p q : SM}
def k_1 (g : G1) (r : SV × Store) : Res (SV × Store) := g r.1 r.2
theorem r_1 (g : G1) : e1 g a rho S = (a rho S).bind (k_1 g) := id rfl
theorem s_1 (g : G1) : k_1 g (x, S) = g x S := id rfl
def k_2b (g : G2) (x : SV) (r : SV × Store) : Res (SV × Store) := g x r.1 r.2
def k_2 (g : G2) (b : EM) (rho : Slots) (r : SV × Store) : Res (SV × Store) := (b rho r.2).bind (k_2b g r.1)
theorem r_2 : e2 g a b rho S = (a rho S).bind (k_2 g b rho) := id rfl
theorem s_2 : k_2 g b rho (x, S) = (b rho S).bind (k_2b g x) := id rfl
theorem s_2b : k_2b g x (y, S) = g x y S := id rfl
def k_v (S : Store) : Option (Option SV) → Res (SV × Store)
  | some (some x) => .ok (x, S)
  | _ => .stuck
theorem r_v (i : Nat) : eV i rho S = k_v S rho[i]? := by
  unfold eV k_v
  split <;> first | rfl | (split <;> simp_all)
theorem s_v : k_v S (some (some x)) = .ok (x, S) := id rfl
theorem r_c (d : D) : eC d rho S = .ok (.fr d, S) := id rfl
theorem r_n : aN rho S = .ok ([], S) := id rfl
def k_ab (x : SV) (r : List SV × Store) : Res (List SV × Store) := .ok (x :: r.1, r.2)
def k_a (m : AM) (rho : Slots) (r : SV × Store) : Res (List SV × Store) := (m rho r.2).bind (k_ab r.1)
theorem r_a : aC a m rho S = (a rho S).bind (k_a m rho) := id rfl
theorem s_a : k_a m rho (x, S) = (m rho S).bind (k_ab x) := id rfl
theorem s_ab (xs : List SV) : k_ab x (xs, S) = .ok (x :: xs, S) := id rfl
def k_g (g : GA) (r : List SV × Store) : Res (SV × Store) := g r.1 r.2
theorem r_g (g : GA) : eA g m rho S = (m rho S).bind (k_g g) := id rfl
theorem s_g (g : GA) (xs : List SV) : k_g g (xs, S) = g xs S := id rfl
/-! and, or, not, if-else -/
def k_and (b : EM) (rho : Slots) (x : SV) (S : Store) : Option Bool → Res (SV × Store)
  | some true => b rho S
  | some false => .ok (x, S)
  | none => .stuck
def k_And (b : EM) (rho : Slots) (r : SV × Store) : Res (SV × Store) := k_and b rho r.1 r.2 (truth r.2 r.1)
theorem r_and : eAnd a b rho S = (a rho S).bind (k_And b rho) := by
  unfold eAnd eTr
  congr 1
theorem s_And : k_And b rho (x, S) = k_and b rho x S (truth S x) := id rfl
theorem s_and1 : k_and b rho x S (some true) = b rho S := id rfl
theorem s_and0 : k_and b rho x S (some false) = .ok (x, S) := id rfl
def k_or (b : EM) (rho : Slots) (x : SV) (S : Store) : Option Bool → Res (SV × Store)
  | some true => .ok (x, S)
  | some false => b rho S
  | none => .stuck
def k_Or (b : EM) (rho : Slots) (r : SV × Store) : Res (SV × Store) := k_or b rho r.1 r.2 (truth r.2 r.1)
theorem r_or : eOr a b rho S = (a rho S).bind (k_Or b rho) := by
  unfold eOr eTr
  congr 1
theorem s_Or : k_Or b rho (x, S) = k_or b rho x S (truth S x) := id rfl
theorem s_or1 : k_or b rho x S (some true) = .ok (x, S) := id rfl
theorem s_or0 : k_or b rho x S (some false) = b rho S := id rfl
def k_not (S : Store) : Option Bool → Res (SV × Store)
  | some v => .ok (.fr (.bl (!v)), S)
  | none => .stuck
def k_Not (r : SV × Store) : Res (SV × Store) := k_not r.2 (truth r.2 r.1)
theorem r_not : eNot a rho S = (a rho S).bind k_Not := by
  unfold eNot eTr
  congr 1
  funext z
  unfold k_Not k_not
  split <;> first | rfl | (split <;> simp_all [okV])
theorem s_Not : k_Not (x, S) = k_not S (truth S x) := id rfl
theorem s_not (v : Bool) : k_not S (some v) = .ok (.fr (.bl (!v)), S) := id rfl
def k_if (a b : EM) (rho : Slots) (r : Bool × Store) : Res (SV × Store) := if r.1 then a rho r.2 else b rho r.2
theorem r_if : eIf t a b rho S = (t rho S).bind (k_if a b rho) := id rfl
theorem s_if1 : k_if a b rho (true, S) = a rho S := id rfl
theorem s_if0 : k_if a b rho (false, S) = b rho S := id rfl
/-! chains -/
def k_chc (g' : G2) (y : SV) (r : SV × Store) : Res (SV × Store) := g' y r.1 r.2
def k_chb (g' : G2) (c : EM) (rho : Slots) (y : SV) (r : SV × Store) : Res (SV × Store) := match r.1 with
  | .fr (.bl true) => (c rho r.2).bind (k_chc g' y)
  | .fr (.bl false) => .ok (.fr (.bl false), r.2)
  | _ => .stuck
def k_cha (g g' : G2) (c : EM) (rho : Slots) (x : SV) (r : SV × Store) : Res (SV × Store) := (g x r.1 r.2).bind (k_chb g' c rho r.1)
def k_ch (g g' : G2) (b c : EM) (rho : Slots) (r : SV × Store) : Res (SV × Store) := (b rho r.2).bind (k_cha g g' c rho r.1)
theorem r_ch : eCh g g' a b c rho S = (a rho S).bind (k_ch g g' b c rho) := id rfl
theorem s_ch : k_ch g g' b c rho (x, S) = (b rho S).bind (k_cha g g' c rho x) := id rfl
theorem s_cha : k_cha g g' c rho x (y, S) = (g x y S).bind (k_chb g' c rho y) := id rfl
theorem s_chb1 : k_chb g' c rho y (.fr (.bl true), S) = (c rho S).bind (k_chc g' y) := id rfl
theorem s_chb0 : k_chb g' c rho y (.fr (.bl false), S) = .ok (.fr (.bl false), S) := id rfl
theorem s_chc : k_chc g' y (x, S) = g' y x S := id rfl
/-! tests -/
def k_tB (r : SV × Store) : Res (Bool × Store) := match r.1 with
  | .fr (.bl k) => .ok (k, r.2)
  | _ => .stuck
theorem r_tB : tB a rho S = (a rho S).bind k_tB := id rfl
theorem s_tB (k : Bool) : k_tB (.fr (.bl k), S) = .ok (k, S) := id rfl
def k_tv (S : Store) : Option Bool → Res (Bool × Store)
  | some v => .ok (v, S)
  | none => .stuck
def k_tV (r : SV × Store) : Res (Bool × Store) := k_tv r.2 (truth r.2 r.1)
theorem r_tV : tV a rho S = (a rho S).bind k_tV := by
  unfold tV
  congr 1
theorem s_tV : k_tV (x, S) = k_tv S (truth S x) := id rfl
theorem s_tv (v : Bool) : k_tv S (some v) = .ok (v, S) := id rfl
def k_tN (r : Bool × Store) : Res (Bool × Store) := .ok (!r.1, r.2)
theorem r_tN : tNt t rho S = (t rho S).bind k_tN := id rfl
theorem s_tN (v : Bool) : k_tN (v, S) = .ok (!v, S) := id rfl
def k_tA (u : TM) (rho : Slots) (r : Bool × Store) : Res (Bool × Store) := if r.1 then u rho r.2 else .ok (false, r.2)
theorem r_tA : tAn t u rho S = (t rho S).bind (k_tA u rho) := id rfl
theorem s_tA1 : k_tA u rho (true, S) = u rho S := id rfl
theorem s_tA0 : k_tA u rho (false, S) = .ok (false, S) := id rfl
def k_tO (u : TM) (rho : Slots) (r : Bool × Store) : Res (Bool × Store) := if r.1 then .ok (true, r.2) else u rho r.2
theorem r_tO : tOo t u rho S = (t rho S).bind (k_tO u rho) := id rfl
theorem s_tO1 : k_tO u rho (true, S) = .ok (true, S) := id rfl
theorem s_tO0 : k_tO u rho (false, S) = u rho S := id rfl
theorem r_tT : tTr rho S = .ok (true, S) := id rfl
theorem r_trB (v : Bool) : truth S (.fr (.bl v)) = some v := id rfl
theorem r_trI (i : Int) : truth S (.fr (.int i)) = some (i != 0) := id rfl
theorem r_trN : truth S (.fr .non) = some false := id rfl
/-! calls -/
def k_call (f : FnM) (cc : Bool) (r : List SV × Store) : Res (SV × Store) := (noX (f r.1 r.2)).bind (back cc)
theorem r_call (f : FnM) (cc : Bool) : eCall f cc m rho S = (m rho S).bind (k_call f cc) := id rfl
theorem s_call (f : FnM) (cc : Bool) (xs : List SV) : k_call f cc (xs, S) = (noX (f xs S)).bind (back cc) := id rfl
theorem s_noX (r : RV × Store) : noX (.ok r) = .ok r := id rfl
theorem s_backV (cc : Bool) : back cc (.val x, S) = .ok (x, S) := id rfl
theorem s_backC (l : Cell) : back true (.new l, S) = .ok (.cell S.length, S ++ [l]) := id rfl
def k_frz (S : Store) : Option D → Res (SV × Store)
  | some d => .ok (.fr d, S)
  | none => .stuck
theorem s_backF (l : Cell) : back false (.new l, S) = k_frz S (freeze l) := id rfl
theorem s_frz (d : D) : k_frz S (some d) = .ok (.fr d, S) := id rfl
theorem r_frz (xs : List SV) : freeze (.lst xs) = (allFr xs).map D.lst := id rfl
theorem r_all0 : allFr [] = some [] := id rfl
theorem r_all1 (d : D) (xs : List SV) : allFr (.fr d :: xs) = (allFr xs).map (d :: ·) := id rfl
theorem r_fn1 (n : Nat) (bd : SM) : fnM 1 n bd [x] S = (bd (some x :: List.replicate (n - 1) none) S).bind (leaveF S.length) := id rfl
theorem r_fn2 (n : Nat) (bd : SM) : fnM 2 n bd [x, y] S = (bd (some x :: some y :: List.replicate (n - 2) none) S).bind (leaveF S.length) := id rfl
theorem r_fn3 (n : Nat) (bd : SM) (z : SV) : fnM 3 n bd [x, y, z] S = (bd (some x :: some y :: some z :: List.replicate (n - 3) none) S).bind (leaveF S.length) := id rfl
theorem r_fn4 (n : Nat) (bd : SM) (z w : SV) : fnM 4 n bd [x, y, z, w] S = (bd (some x :: some y :: some z :: some w :: List.replicate (n - 4) none) S).bind (leaveF S.length) := id rfl
theorem r_fn5 (n : Nat) (bd : SM) (z w v : SV) : fnM 5 n bd [x, y, z, w, v] S = (bd (some x :: some y :: some z :: some w :: some v :: List.replicate (n - 5) none) S).bind (leaveF S.length) := id rfl
theorem s_lvR (n : Nat) : leaveF n (.rt x, rho, S) = leave n x S := id rfl
theorem s_lvN (n : Nat) : leaveF n (.nx, rho, S) = leave n (.fr .non) S := id rfl
/-! statements -/
theorem r_nx : sNx rho S = .ok (.nx, rho, S) := id rfl
theorem r_bk : sBk rho S = .ok (.bk, rho, S) := id rfl
theorem r_ct : sCt rho S = .ok (.ct, rho, S) := id rfl
def k_seq (q : SM) (r : Fl × Slots × Store) : Res (Fl × Slots × Store) := match r.1 with
  | .nx => q r.2.1 r.2.2
  | f => .ok (f, r.2.1, r.2.2)
theorem r_seq : sSeq p q rho S = (p rho S).bind (k_seq q) := id rfl
theorem s_seqN : k_seq q (.nx, rho, S) = q rho S := id rfl
theorem s_seqR : k_seq q (.rt x, rho, S) = .ok (.rt x, rho, S) := id rfl
theorem s_seqB : k_seq q (.bk, rho, S) = .ok (.bk, rho, S) := id rfl
theorem s_seqC : k_seq q (.ct, rho, S) = .ok (.ct, rho, S) := id rfl
def k_ret (rho : Slots) (r : SV × Store) : Res (Fl × Slots × Store) := .ok (.rt r.1, rho, r.2)
theorem r_ret : sRet a rho S = (a rho S).bind (k_ret rho) := id rfl
theorem s_ret : k_ret rho (x, S) = .ok (.rt x, rho, S) := id rfl
theorem r_retN : sRetN rho S = .ok (.rt (.fr .non), rho, S) := id rfl
def k_sif (p q : SM) (rho : Slots) (r : Bool × Store) : Res (Fl × Slots × Store) := if r.1 then p rho r.2 else q rho r.2
theorem r_sif : sIf t p q rho S = (t rho S).bind (k_sif p q rho) := id rfl
theorem s_sif1 : k_sif p q rho (true, S) = p rho S := id rfl
theorem s_sif0 : k_sif p q rho (false, S) = q rho S := id rfl
def k_ex (rho : Slots) (r : SV × Store) : Res (Fl × Slots × Store) := .ok (.nx, rho, r.2)
theorem r_ex : sEx a rho S = (a rho S).bind (k_ex rho) := id rfl
theorem s_ex : k_ex rho (x, S) = .ok (.nx, rho, S) := id rfl
def k_set (i : Nat) (rho : Slots) (r : SV × Store) : Res (Fl × Slots × Store) := .ok (.nx, rho.set i (some r.1), r.2)
theorem r_set (i : Nat) : sSet i a rho S = (a rho S).bind (k_set i rho) := id rfl
theorem s_set (i : Nat) : k_set i rho (x, S) = .ok (.nx, rho.set i (some x), S) := id rfl
def k_par (i j : Nat) (rho : Slots) (r : List SV × Store) : Res (Fl × Slots × Store) := match r.1 with
  | [u, v] => .ok (.nx, (rho.set i (some u)).set j (some v), r.2)
  | _ => .stuck
theorem r_par (i j : Nat) : sPar i j m rho S = (m rho S).bind (k_par i j rho) := id rfl
theorem s_par (i j : Nat) : k_par i j rho ([x, y], S) = .ok (.nx, (rho.set i (some x)).set j (some y), S) := id rfl
def k_gb (r : Slots × Store) : Res (Fl × Slots × Store) := .ok (.nx, r.1, r.2)
def k_as (gm : GM) (rho : Slots) (r : SV × Store) : Res (Fl × Slots × Store) := (gm r.1 rho r.2).bind k_gb
theorem r_as (gm : GM) : sAs a gm rho S = (a rho S).bind (k_as gm rho) := id rfl
theorem s_as (gm : GM) : k_as gm rho (x, S) = (gm x rho S).bind k_gb := id rfl
theorem s_gb : k_gb (rho, S) = .ok (.nx, rho, S) := id rfl
theorem r_gNm (i : Nat) : gNm i x rho S = .ok (rho.set i (some x), S) := id rfl
theorem r_gNl : gNl [] rho S = .ok (rho, S) := id rfl
def k_gCs (ms : GMs) (xs : List SV) (r : Slots × Store) : Res (Slots × Store) := ms xs r.1 r.2
theorem r_gCs (gm : GM) (ms : GMs) (xs : List SV) : gCs gm ms (x :: xs) rho S = (gm x rho S).bind (k_gCs ms xs) := id rfl
theorem s_gCs (ms : GMs) (xs : List SV) : k_gCs ms xs (rho, S) = ms xs rho S := id rfl
theorem r_gTu2 (ms : GMs) (d e : D) : gTu 2 ms (.fr (.tup [d, e])) rho S = ms [.fr d, .fr e] rho S := id rfl
theorem r_gTu3 (ms : GMs) (d e f : D) : gTu 3 ms (.fr (.tup [d, e, f])) rho S = ms [.fr d, .fr e, .fr f] rho S := id rfl
theorem r_gTu4 (ms : GMs) (d e f h : D) : gTu 4 ms (.fr (.tup [d, e, f, h])) rho S = ms [.fr d, .fr e, .fr f, .fr h] rho S := id rfl
def k_st (rho : Slots) (S' : Store) : Res (Slots × Store) := .ok (rho, S')
def k_sb2 (rho : Slots) (v o : SV) (r : SV × Store) : Res (Slots × Store) := (setL o r.1 v r.2).bind (k_st rho)
def k_sb (mi : EM) (rho : Slots) (v : SV) (r : SV × Store) : Res (Slots × Store) := (mi rho r.2).bind (k_sb2 rho v r.1)
theorem r_gSb : gSb a b x rho S = (a rho S).bind (k_sb b rho x) := id rfl
theorem s_sb : k_sb b rho y (x, S) = (b rho S).bind (k_sb2 rho y x) := id rfl
theorem s_sb2 (v : SV) : k_sb2 rho y x (v, S) = (setL x v y S).bind (k_st rho) := id rfl
theorem s_st : k_st rho S = .ok (rho, S) := id rfl
def k_nxS (rho : Slots) (S' : Store) : Res (Fl × Slots × Store) := .ok (.nx, rho, S')
theorem s_nxS : k_nxS rho S = .ok (.nx, rho, S) := id rfl
def k_au3 (rho : Slots) (o i : SV) (S : Store) : Option SV → Res (Fl × Slots × Store)
  | some z => (setL o i z S).bind (k_nxS rho)
  | none => .stuck
def k_au2 (rho : Slots) (o i old : SV) (r : SV × Store) : Res (Fl × Slots × Store) := k_au3 rho o i r.2 (addI old r.1)
def k_au1 (me : EM) (rho : Slots) (o i : SV) (S : Store) : Option SV → Res (Fl × Slots × Store)
  | some old => (me rho S).bind (k_au2 rho o i old)
  | none => .stuck
def k_au0 (me : EM) (rho : Slots) (o : SV) (r : SV × Store) : Res (Fl × Slots × Store) := k_au1 me rho o r.1 r.2 (getL o r.1 r.2)
def k_au (mi me : EM) (rho : Slots) (r : SV × Store) : Res (Fl × Slots × Store) := (mi rho r.2).bind (k_au0 me rho r.1)
theorem r_au : sAugS a b c rho S = (a rho S).bind (k_au b c rho) := by
  unfold sAugS
  congr 1
theorem s_au : k_au b c rho (x, S) = (b rho S).bind (k_au0 c rho x) := id rfl
theorem s_au0 : k_au0 c rho x (y, S) = k_au1 c rho x y S (getL x y S) := id rfl
theorem s_au1 (o i : SV) : k_au1 c rho o i S (some x) = (c rho S).bind (k_au2 rho o i x) := id rfl
theorem s_au2 (o i old : SV) : k_au2 rho o i old (x, S) = k_au3 rho o i S (addI old x) := id rfl
theorem s_au3 (o i : SV) : k_au3 rho o i S (some x) = (setL o i x S).bind (k_nxS rho) := id rfl
theorem r_addI (i j : Int) : addI (.fr (.int i)) (.fr (.int j)) = some (.fr (.int (i + j))) := id rfl
/-! loops -/
def k_for0 (lk : Store → Prop) (gm : GM) (bd : SM) (xs : List SV) (q : Fl × Slots × Store) : Prop := True
noncomputable def k_for (gm : GM) (bd : SM) (rho : Slots) (r : Wk × Store) : Res (Fl × Slots × Store) := loopM r.1.lk gm bd r.1.xs rho r.2
theorem r_for (im : IM) (gm : GM) (bd : SM) : sFor im gm bd rho S = (im rho S).bind (k_for gm bd rho) := id rfl
theorem s_for (gm : GM) (bd : SM) (w : Wk) : k_for gm bd rho (w, S) = loopM w.lk gm bd w.xs rho S := id rfl
noncomputable def k_turn (lk : Store → Prop) (gm : GM) (bd : SM) (xs : List SV) (q : Fl × Slots × Store) : Res (Fl × Slots × Store) := match q.1 with
  | .nx => loopM lk gm bd xs q.2.1 q.2.2
  | .ct => loopM lk gm bd xs q.2.1 q.2.2
  | .bk => .ok (.nx, q.2.1, q.2.2)
  | .rt v => .ok (.rt v, q.2.1, q.2.2)
def k_body (bd : SM) (r : Slots × Store) : Res (Fl × Slots × Store) := bd r.1 r.2
theorem s_body (bd : SM) : k_body bd (rho, S) = bd rho S := id rfl
theorem res_assoc {α β γ : Type} (r : Res α) (f : α → Res β) (h : β → Res γ) : (r.bind f).bind h = r.bind fun x => (f x).bind h := by cases r <;> rfl
theorem loop_nil {lk : Store → Prop} (gm : GM) (bd : SM) (h : lk S) : loopM lk gm bd [] rho S = .ok (.nx, rho, S) := by
  unfold loopM
  rw [if_pos h]
theorem loop_cons {lk : Store → Prop} (gm : GM) (bd : SM) (xs : List SV) (h : lk S) : loopM lk gm bd (x :: xs) rho S = ((gm x rho S).bind (k_body bd)).bind (k_turn lk gm bd xs) := by
  rw [res_assoc]
  conv => lhs; unfold loopM
  rw [if_pos h]
  rfl
theorem s_turnN (lk : Store → Prop) (gm : GM) (bd : SM) (xs : List SV) : k_turn lk gm bd xs (.nx, rho, S) = loopM lk gm bd xs rho S := id rfl
theorem s_turnC (lk : Store → Prop) (gm : GM) (bd : SM) (xs : List SV) : k_turn lk gm bd xs (.ct, rho, S) = loopM lk gm bd xs rho S := id rfl
theorem s_turnB (lk : Store → Prop) (gm : GM) (bd : SM) (xs : List SV) : k_turn lk gm bd xs (.bk, rho, S) = .ok (.nx, rho, S) := id rfl
theorem s_turnR (lk : Store → Prop) (gm : GM) (bd : SM) (xs : List SV) : k_turn lk gm bd xs (.rt x, rho, S) = .ok (.rt x, rho, S) := id rfl
/-- a loop that comes to its end, by an invariant over what is left -/
theorem loop_inv {lk : Store → Prop} (gm : GM) (bd : SM) (J : List SV → Slots → Store → Prop) (hl : ∀ xs rho S, J xs rho S → lk S)
    (step : ∀ x xs rho S, J (x :: xs) rho S → ∃ rho' S', (gm x rho S).bind (k_body bd) = .ok (.nx, rho', S') ∧ J xs rho' S') :
    ∀ (xs : List SV) (rho : Slots) (S : Store), J xs rho S → ∃ rho' S', loopM lk gm bd xs rho S = .ok (.nx, rho', S') ∧ J [] rho' S'
  | [], rho, S, h => ⟨rho, S, loop_nil gm bd (hl _ _ _ h), h⟩
  | x :: xs, rho, S, h => by
    obtain ⟨rho1, S1, e, h1⟩ := step x xs rho S h
    obtain ⟨rho2, S2, e2, h2⟩ := loop_inv gm bd J hl step xs rho1 S1 h1
    refine ⟨rho2, S2, ?_, h2⟩
    rw [loop_cons gm bd xs (hl _ _ _ h), e, r_bind, s_turnN, e2]
/-! what is walked -/
def k_r1 (r : List SV × Store) : Res (Wk × Store) := match r.1 with
  | [.fr (.int j)] => if -(2 ^ 62) ≤ j ∧ j < 2 ^ 62 then .ok (⟨rngS 0 j.toNat, fun _ => True⟩, r.2) else .stuck
  | _ => .stuck
theorem r_r1 : iR1 m rho S = (m rho S).bind k_r1 := id rfl
theorem s_r1 {j : Int} (h : -(2 ^ 62) ≤ j ∧ j < 2 ^ 62) : k_r1 ([.fr (.int j)], S) = .ok (⟨rngS 0 j.toNat, fun _ => True⟩, S) := if_pos h
def k_r2 (r : List SV × Store) : Res (Wk × Store) := match r.1 with
  | [.fr (.int i), .fr (.int j)] => if -(2 ^ 62) ≤ i ∧ i < 2 ^ 62 ∧ -(2 ^ 62) ≤ j ∧ j < 2 ^ 62 then .ok (⟨rngS i (j - i).toNat, fun _ => True⟩, r.2) else .stuck
  | _ => .stuck
theorem r_r2 : iR2 m rho S = (m rho S).bind k_r2 := id rfl
theorem s_r2 {i j : Int} (h : -(2 ^ 62) ≤ i ∧ i < 2 ^ 62 ∧ -(2 ^ 62) ≤ j ∧ j < 2 ^ 62) : k_r2 ([.fr (.int i), .fr (.int j)], S) = .ok (⟨rngS i (j - i).toNat, fun _ => True⟩, S) := if_pos h
def k_sq (r : SV × Store) : Res (Wk × Store) := match r.1 with
  | .fr (.tup _) => .stuck
  | .fr _ => match rdS r.2 r.1 with
    | some xs => .ok (⟨xs, fun _ => True⟩, r.2)
    | none => .stuck
  | .cell k => match rdL r.2 (.cell k) with
    | some xs => .ok (⟨xs, fun S' => S'[k]? = some (.lst xs)⟩, r.2)
    | none => .stuck
theorem r_sq : iSeq a rho S = (a rho S).bind k_sq := id rfl
theorem s_sqL (ds : List D) : k_sq (.fr (.lst ds), S) = .ok (⟨ds.map SV.fr, fun _ => True⟩, S) := id rfl
theorem s_sqS (ds : List D) : k_sq (.fr (.scr ds), S) = .ok (⟨ds.map SV.fr, fun _ => True⟩, S) := id rfl
theorem s_sqC {k : Nat} {xs : List SV} (h : S[k]? = some (.lst xs)) : k_sq (.cell k, S) = .ok (⟨xs, fun S' => S'[k]? = some (.lst xs)⟩, S) := by
  unfold k_sq rdL
  simp only [h]
def k_tp (r : SV × Store) : Res (Wk × Store) := match r.1 with
  | .fr (.tup ds) => .ok (⟨ds.map SV.fr, fun _ => True⟩, r.2)
  | _ => .stuck
theorem r_tp : iTp a rho S = (a rho S).bind k_tp := id rfl
theorem s_tp (ds : List D) : k_tp (.fr (.tup ds), S) = .ok (⟨ds.map SV.fr, fun _ => True⟩, S) := id rfl
/-! items -/
def k_x (S : Store) : Option SV → Res (SV × Store)
  | some x => .ok (x, S)
  | none => .stuck
def k_xd (S : Store) : Option D → Res (SV × Store)
  | some d => .ok (.fr d, S)
  | none => .stuck
theorem r_xT (ds : List D) (i : Int) : ixG (.fr (.tup ds)) (.fr (.int i)) S = k_xd S (atI ds i) := by
  unfold ixG
  simp only [rdS, rdL]
  cases atI ds i <;> rfl
theorem atI_map {α β : Type} (f : α → β) (xs : List α) (i : Int) : atI (xs.map f) i = (atI xs i).map f := by
  unfold atI
  rw [List.length_map]
  cases ixN xs.length i <;> simp
theorem r_xL (ds : List D) (i : Int) : ixG (.fr (.lst ds)) (.fr (.int i)) S = k_xd S (atI ds i) := by
  unfold ixG
  simp only [rdS, rdL, atI_map]
  cases atI ds i <;> rfl
theorem r_xC {k : Nat} {xs : List SV} (h : S[k]? = some (.lst xs)) (i : Int) : ixG (.cell k) (.fr (.int i)) S = k_x S (atI xs i) := by
  unfold ixG
  simp only [rdS, rdL, h]
  cases atI xs i <;> rfl
theorem s_x : k_x S (some x) = .ok (x, S) := id rfl
theorem s_xd (d : D) : k_xd S (some d) = .ok (.fr d, S) := id rfl
theorem at_0 {α : Type} (a : α) (l : List α) : atI (a :: l) 0 = some a := atI_nat (a :: l) 0
theorem at_1 {α : Type} (a b : α) (l : List α) : atI (a :: b :: l) 1 = some b := atI_nat (a :: b :: l) 1
theorem at_2 {α : Type} (a b c : α) (l : List α) : atI (a :: b :: c :: l) 2 = some c := atI_nat (a :: b :: c :: l) 2
theorem at_3 {α : Type} (a b c d : α) (l : List α) : atI (a :: b :: c :: d :: l) 3 = some d := atI_nat (a :: b :: c :: d :: l) 3
theorem at_4 {α : Type} (a b c d e : α) (l : List α) : atI (a :: b :: c :: d :: e :: l) 4 = some e := atI_nat (a :: b :: c :: d :: e :: l) 4
end
end DL

namespace DL
open PySem L2

/-! ### the bag that all draws come from -/
structure Bag where
  z : Int
  mix : Int
  k : Int
  ns : List Int
structure Bag.Ok (b : Bag) : Prop where
  z0 : 0 ≤ b.z
  m0 : 0 ≤ b.mix
  k0 : 0 ≤ b.k
  n0 : ∀ n ∈ b.ns, 0 ≤ n
def Bag.c (b : Bag) : Cell := .lst [.fr (.int b.z), .fr (.int b.mix), .fr (.int b.k), .fr (.lst (b.ns.map D.int))]
section
variable {b : Bag} {R : Store}
theorem bag_x (b : Bag) (R : Store) (i : Int) : ixG (.cell 0) (.fr (.int i)) (b.c :: R) = k_x (b.c :: R) (atI [.fr (.int b.z), .fr (.int b.mix), .fr (.int b.k), .fr (.lst (b.ns.map D.int))] i) := r_xC rfl i
theorem bag_set0 (v : Int) : setL (.cell 0) (.fr (.int 0)) (.fr (.int v)) (b.c :: R) = .ok ({ b with z := v }.c :: R) := rfl
theorem bag_set1 (v : Int) : setL (.cell 0) (.fr (.int 1)) (.fr (.int v)) (b.c :: R) = .ok ({ b with mix := v }.c :: R) := rfl
theorem bag_set2 (v : Int) : setL (.cell 0) (.fr (.int 2)) (.fr (.int v)) (b.c :: R) = .ok ({ b with k := v }.c :: R) := rfl
theorem bag_get2 : getL (.cell 0) (.fr (.int 2)) (b.c :: R) = some (.fr (.int b.k)) := rfl
theorem WF.bag {b' : Bag} (h : WF (b.c :: R)) : WF (b'.c :: R) := by
  unfold WF at h ⊢
  simpa [Bag.c, Cell.below, SV.below] using h
theorem leave_bag {b' : Bag} (h : WF (b.c :: R)) (d : D) : leave (b.c :: R).length (.fr d) (b'.c :: R) = .ok (.val (.fr d), b'.c :: R) := leave_val (WF.bag (b' := b') h) d
theorem cdiv_of {i j : Int} (h : 0 < j) (h2 : j.natAbs.log2 < 9000) : (CDiv i j ∨ CDivW i j) = True := by simp [CDivW, h, h2]
theorem takeA_run (hb : b.Ok) (many : Int) : Ends (takeA [some (.cell 0), some (.fr (.int many)), none, none, none, none, none] (b.c :: R)) fun r => ∃ b1 x2 x3, Bag.Ok b1 ∧ r = (.nx, [some (.cell 0), some (.fr (.int many)), x2, x3, none, none, none], b1.c :: R) := by
  have c1 : ∀ i : Int, (CMul i 48271 ∨ CMulW i 48271) = True := fun i => by simp [CMul]
  have c2 : ∀ i : Int, (CMul 7919 i ∨ CMulW 7919 i) = True := fun i => by simp [CMul]
  have p1 : (0 : Int) < 2147483647 := by decide
  have e0 : (0 : Int) ≤ b.k + 1 := by have := hb.k0; omega
  have fin : ∀ m : Int, 0 ≤ m % 2147483647 := fun m => Int.emod_nonneg _ (by decide)
  by_cases hz : b.z = 0
  · by_cases hk : b.k < (b.ns.length : Int)
    · obtain ⟨k, hkk⟩ : ∃ k : Nat, b.k = k := ⟨b.k.toNat, by have := hb.k0; omega⟩
      have hlt : k < b.ns.length := by omega
      have hx : atI (b.ns.map D.int) b.k = some (.int b.ns[k]) := by
        rw [hkk, atI_nat, List.getElem?_map, List.getElem?_eq_getElem hlt]
        rfl
      have hn := hb.n0 _ (List.getElem_mem hlt)
      by_cases hc : (1000000000000000000 : Int) ≤ b.ns[k]
      · simp only [r_bind, r_1, s_1, r_2, s_2, s_2b, r_v, s_v, r_c, r_n, r_a, s_a, s_ab, r_g, s_g, r_and, s_And, s_and1, s_and0, r_or, s_Or, s_or1, s_or0, r_not, s_Not, s_not, r_if, s_if1, s_if0, r_ch, s_ch, s_cha, s_chb1, s_chb0, s_chc, r_tB, s_tB, r_tV, s_tV, s_tv, r_tN, s_tN, r_tA, s_tA1, s_tA0, r_tO, s_tO1, s_tO0, r_tT, r_trB, r_trI, r_trN, r_call, s_call, s_noX, s_backV, s_backC, s_backF, s_frz, r_frz, r_all0, r_all1, r_fn1, r_fn2, r_fn3, r_fn4, r_fn5, s_lvR, s_lvN, r_nx, r_bk, r_ct, r_seq, s_seqN, s_seqR, s_seqB, s_seqC, r_ret, s_ret, r_retN, r_sif, s_sif1, s_sif0, r_ex, s_ex, r_set, s_set, r_par, s_par, r_as, s_as, s_gb, r_gNm, r_gNl, r_gCs, s_gCs, r_gTu2, r_gTu3, r_gTu4, r_gSb, s_sb, s_sb2, s_st, s_nxS, r_au, s_au, s_au0, s_au1, s_au2, s_au3, r_addI, r_for, s_for, s_body, s_turnN, s_turnC, s_turnB, s_turnR, r_r1, s_r1, r_r2, s_r2, r_sq, s_sqL, s_sqS, r_tp, s_tp, r_xT, r_xL, s_x, s_xd, at_0, at_1, at_2, at_3, at_4, r_add, r_sub, r_neg, r_mul, r_fdiv, r_mod, r_pow, r_cmp, r_is, r_eqI, r_abs, r_int, r_max, r_min, r_okV, r_snap, r_lenF, r_lenT, DL.isNon, List.replicate_succ, List.replicate_zero, List.set_cons_zero, List.set_cons_succ, List.getElem?_cons_zero, List.getElem?_cons_succ, Option.map_some, Nat.reduceSub, and_self, and_true, true_and, decide_true, decide_false, if_true, if_false, Bool.false_eq_true, Bool.not_true, Bool.not_false, Nat.reduceSub, Nat.reduceAdd, Nat.reduceMul, Nat.reduceLeDiff, takeA, bag_x, bag_set0, bag_set1, bag_set2, bag_get2, hz, hk, hx, hc, c1, c2, p1, List.length_map, s_ends]
        exact ⟨⟨_, _, _, b.ns⟩, _, _, ⟨hn, fin _, e0, hb.n0⟩, rfl⟩
      · simp only [r_bind, r_1, s_1, r_2, s_2, s_2b, r_v, s_v, r_c, r_n, r_a, s_a, s_ab, r_g, s_g, r_and, s_And, s_and1, s_and0, r_or, s_Or, s_or1, s_or0, r_not, s_Not, s_not, r_if, s_if1, s_if0, r_ch, s_ch, s_cha, s_chb1, s_chb0, s_chc, r_tB, s_tB, r_tV, s_tV, s_tv, r_tN, s_tN, r_tA, s_tA1, s_tA0, r_tO, s_tO1, s_tO0, r_tT, r_trB, r_trI, r_trN, r_call, s_call, s_noX, s_backV, s_backC, s_backF, s_frz, r_frz, r_all0, r_all1, r_fn1, r_fn2, r_fn3, r_fn4, r_fn5, s_lvR, s_lvN, r_nx, r_bk, r_ct, r_seq, s_seqN, s_seqR, s_seqB, s_seqC, r_ret, s_ret, r_retN, r_sif, s_sif1, s_sif0, r_ex, s_ex, r_set, s_set, r_par, s_par, r_as, s_as, s_gb, r_gNm, r_gNl, r_gCs, s_gCs, r_gTu2, r_gTu3, r_gTu4, r_gSb, s_sb, s_sb2, s_st, s_nxS, r_au, s_au, s_au0, s_au1, s_au2, s_au3, r_addI, r_for, s_for, s_body, s_turnN, s_turnC, s_turnB, s_turnR, r_r1, s_r1, r_r2, s_r2, r_sq, s_sqL, s_sqS, r_tp, s_tp, r_xT, r_xL, s_x, s_xd, at_0, at_1, at_2, at_3, at_4, r_add, r_sub, r_neg, r_mul, r_fdiv, r_mod, r_pow, r_cmp, r_is, r_eqI, r_abs, r_int, r_max, r_min, r_okV, r_snap, r_lenF, r_lenT, DL.isNon, List.replicate_succ, List.replicate_zero, List.set_cons_zero, List.set_cons_succ, List.getElem?_cons_zero, List.getElem?_cons_succ, Option.map_some, Nat.reduceSub, and_self, and_true, true_and, decide_true, decide_false, if_true, if_false, Bool.false_eq_true, Bool.not_true, Bool.not_false, Nat.reduceSub, Nat.reduceAdd, Nat.reduceMul, Nat.reduceLeDiff, takeA, bag_x, bag_set0, bag_set1, bag_set2, bag_get2, hz, hk, hx, hc, c1, c2, p1, List.length_map, s_ends]
        exact ⟨⟨0, _, b.k + 1, b.ns⟩, _, _, ⟨Int.le_refl 0, fin _, e0, hb.n0⟩, rfl⟩
    · have hc : ¬ (1000000000000000000 : Int) ≤ 0 := by decide
      simp only [r_bind, r_1, s_1, r_2, s_2, s_2b, r_v, s_v, r_c, r_n, r_a, s_a, s_ab, r_g, s_g, r_and, s_And, s_and1, s_and0, r_or, s_Or, s_or1, s_or0, r_not, s_Not, s_not, r_if, s_if1, s_if0, r_ch, s_ch, s_cha, s_chb1, s_chb0, s_chc, r_tB, s_tB, r_tV, s_tV, s_tv, r_tN, s_tN, r_tA, s_tA1, s_tA0, r_tO, s_tO1, s_tO0, r_tT, r_trB, r_trI, r_trN, r_call, s_call, s_noX, s_backV, s_backC, s_backF, s_frz, r_frz, r_all0, r_all1, r_fn1, r_fn2, r_fn3, r_fn4, r_fn5, s_lvR, s_lvN, r_nx, r_bk, r_ct, r_seq, s_seqN, s_seqR, s_seqB, s_seqC, r_ret, s_ret, r_retN, r_sif, s_sif1, s_sif0, r_ex, s_ex, r_set, s_set, r_par, s_par, r_as, s_as, s_gb, r_gNm, r_gNl, r_gCs, s_gCs, r_gTu2, r_gTu3, r_gTu4, r_gSb, s_sb, s_sb2, s_st, s_nxS, r_au, s_au, s_au0, s_au1, s_au2, s_au3, r_addI, r_for, s_for, s_body, s_turnN, s_turnC, s_turnB, s_turnR, r_r1, s_r1, r_r2, s_r2, r_sq, s_sqL, s_sqS, r_tp, s_tp, r_xT, r_xL, s_x, s_xd, at_0, at_1, at_2, at_3, at_4, r_add, r_sub, r_neg, r_mul, r_fdiv, r_mod, r_pow, r_cmp, r_is, r_eqI, r_abs, r_int, r_max, r_min, r_okV, r_snap, r_lenF, r_lenT, DL.isNon, List.replicate_succ, List.replicate_zero, List.set_cons_zero, List.set_cons_succ, List.getElem?_cons_zero, List.getElem?_cons_succ, Option.map_some, Nat.reduceSub, and_self, and_true, true_and, decide_true, decide_false, if_true, if_false, Bool.false_eq_true, Bool.not_true, Bool.not_false, Nat.reduceSub, Nat.reduceAdd, Nat.reduceMul, Nat.reduceLeDiff, takeA, bag_x, bag_set0, bag_set1, bag_set2, bag_get2, hz, hk, hc, c1, c2, p1, List.length_map, s_ends]
      exact ⟨⟨0, _, b.k + 1, b.ns⟩, _, _, ⟨Int.le_refl 0, fin _, e0, hb.n0⟩, rfl⟩
  · simp only [r_bind, r_1, s_1, r_2, s_2, s_2b, r_v, s_v, r_c, r_n, r_a, s_a, s_ab, r_g, s_g, r_and, s_And, s_and1, s_and0, r_or, s_Or, s_or1, s_or0, r_not, s_Not, s_not, r_if, s_if1, s_if0, r_ch, s_ch, s_cha, s_chb1, s_chb0, s_chc, r_tB, s_tB, r_tV, s_tV, s_tv, r_tN, s_tN, r_tA, s_tA1, s_tA0, r_tO, s_tO1, s_tO0, r_tT, r_trB, r_trI, r_trN, r_call, s_call, s_noX, s_backV, s_backC, s_backF, s_frz, r_frz, r_all0, r_all1, r_fn1, r_fn2, r_fn3, r_fn4, r_fn5, s_lvR, s_lvN, r_nx, r_bk, r_ct, r_seq, s_seqN, s_seqR, s_seqB, s_seqC, r_ret, s_ret, r_retN, r_sif, s_sif1, s_sif0, r_ex, s_ex, r_set, s_set, r_par, s_par, r_as, s_as, s_gb, r_gNm, r_gNl, r_gCs, s_gCs, r_gTu2, r_gTu3, r_gTu4, r_gSb, s_sb, s_sb2, s_st, s_nxS, r_au, s_au, s_au0, s_au1, s_au2, s_au3, r_addI, r_for, s_for, s_body, s_turnN, s_turnC, s_turnB, s_turnR, r_r1, s_r1, r_r2, s_r2, r_sq, s_sqL, s_sqS, r_tp, s_tp, r_xT, r_xL, s_x, s_xd, at_0, at_1, at_2, at_3, at_4, r_add, r_sub, r_neg, r_mul, r_fdiv, r_mod, r_pow, r_cmp, r_is, r_eqI, r_abs, r_int, r_max, r_min, r_okV, r_snap, r_lenF, r_lenT, DL.isNon, List.replicate_succ, List.replicate_zero, List.set_cons_zero, List.set_cons_succ, List.getElem?_cons_zero, List.getElem?_cons_succ, Option.map_some, Nat.reduceSub, and_self, and_true, true_and, decide_true, decide_false, if_true, if_false, Bool.false_eq_true, Bool.not_true, Bool.not_false, Nat.reduceSub, Nat.reduceAdd, Nat.reduceMul, Nat.reduceLeDiff, takeA, bag_x, hz, s_ends]
    exact ⟨b, none, none, hb, rfl⟩
theorem takeB_run (hb : b.Ok) (many : Int) (h1 : 0 < many) (h2 : many.natAbs.log2 < 9000) (x2 x3 : Option SV) : Ends (takeB [some (.cell 0), some (.fr (.int many)), x2, x3, none, none, none] (b.c :: R)) fun r => ∃ v b1 rho, 0 ≤ v ∧ v < many ∧ Bag.Ok b1 ∧ r = (.rt (.fr (.int v)), rho, b1.c :: R) := by
  have c1 : ∀ i : Int, (CMul i 39373 ∨ CMulW i 39373) = True := fun i => by simp [CMul]
  have c2 : ∀ i : Int, (CMul i 30011 ∨ CMulW i 30011) = True := fun i => by simp [CMul]
  have c3 : ∀ i : Int, (CMul i 1000000007 ∨ CMulW i 1000000007) = True := fun i => by simp [CMul]
  have c4 : ∀ i : Int, (CMul (i % 1000000007) (i % 1000000007) ∨ CMulW (i % 1000000007) (i % 1000000007)) = True := fun i => by
    have q1 := Int.emod_nonneg i (b := 1000000007) (by decide)
    have q2 := Int.emod_lt_of_pos i (b := 1000000007) (by decide)
    have q3 : -(2 ^ 64) < i % 1000000007 := by omega
    have q4 : i % 1000000007 < 2 ^ 64 := by omega
    simp only [CMul, q3, q4, and_self, true_or]
  have c5 : ∀ i : Int, (CDiv i 7 ∨ CDivW i 7) = True := fun i => by simp [CDiv]
  have cm : ∀ i : Int, (CDiv i many ∨ CDivW i many) = True := fun i => cdiv_of h1 h2
  have p1 : (0 : Int) < 1000000007 := by decide
  have p2 : (0 : Int) < 998244353 := by decide
  have q1 : ∀ m : Int, 0 ≤ m % many := fun m => Int.emod_nonneg _ (by omega)
  have q2 : ∀ m : Int, m % many < many := fun m => Int.emod_lt_of_pos _ h1
  have q3 : 0 ≤ b.z / many := Int.ediv_nonneg hb.z0 (by omega)
  by_cases hz : 0 < b.z
  · simp only [r_bind, r_1, s_1, r_2, s_2, s_2b, r_v, s_v, r_c, r_n, r_a, s_a, s_ab, r_g, s_g, r_and, s_And, s_and1, s_and0, r_or, s_Or, s_or1, s_or0, r_not, s_Not, s_not, r_if, s_if1, s_if0, r_ch, s_ch, s_cha, s_chb1, s_chb0, s_chc, r_tB, s_tB, r_tV, s_tV, s_tv, r_tN, s_tN, r_tA, s_tA1, s_tA0, r_tO, s_tO1, s_tO0, r_tT, r_trB, r_trI, r_trN, r_call, s_call, s_noX, s_backV, s_backC, s_backF, s_frz, r_frz, r_all0, r_all1, r_fn1, r_fn2, r_fn3, r_fn4, r_fn5, s_lvR, s_lvN, r_nx, r_bk, r_ct, r_seq, s_seqN, s_seqR, s_seqB, s_seqC, r_ret, s_ret, r_retN, r_sif, s_sif1, s_sif0, r_ex, s_ex, r_set, s_set, r_par, s_par, r_as, s_as, s_gb, r_gNm, r_gNl, r_gCs, s_gCs, r_gTu2, r_gTu3, r_gTu4, r_gSb, s_sb, s_sb2, s_st, s_nxS, r_au, s_au, s_au0, s_au1, s_au2, s_au3, r_addI, r_for, s_for, s_body, s_turnN, s_turnC, s_turnB, s_turnR, r_r1, s_r1, r_r2, s_r2, r_sq, s_sqL, s_sqS, r_tp, s_tp, r_xT, r_xL, s_x, s_xd, at_0, at_1, at_2, at_3, at_4, r_add, r_sub, r_neg, r_mul, r_fdiv, r_mod, r_pow, r_cmp, r_is, r_eqI, r_abs, r_int, r_max, r_min, r_okV, r_snap, r_lenF, r_lenT, DL.isNon, List.replicate_succ, List.replicate_zero, List.set_cons_zero, List.set_cons_succ, List.getElem?_cons_zero, List.getElem?_cons_succ, Option.map_some, Nat.reduceSub, and_self, and_true, true_and, decide_true, decide_false, if_true, if_false, Bool.false_eq_true, Bool.not_true, Bool.not_false, Nat.reduceSub, Nat.reduceAdd, Nat.reduceMul, Nat.reduceLeDiff, takeB, bag_x, bag_set0, hz, h1, cm, s_ends]
    exact ⟨_, ⟨_, _, _, b.ns⟩, _, q1 _, q2 _, ⟨q3, hb.m0, hb.k0, hb.n0⟩, rfl⟩
  · by_cases hm : (1000000 : Int) < many
    · simp only [r_bind, r_1, s_1, r_2, s_2, s_2b, r_v, s_v, r_c, r_n, r_a, s_a, s_ab, r_g, s_g, r_and, s_And, s_and1, s_and0, r_or, s_Or, s_or1, s_or0, r_not, s_Not, s_not, r_if, s_if1, s_if0, r_ch, s_ch, s_cha, s_chb1, s_chb0, s_chc, r_tB, s_tB, r_tV, s_tV, s_tv, r_tN, s_tN, r_tA, s_tA1, s_tA0, r_tO, s_tO1, s_tO0, r_tT, r_trB, r_trI, r_trN, r_call, s_call, s_noX, s_backV, s_backC, s_backF, s_frz, r_frz, r_all0, r_all1, r_fn1, r_fn2, r_fn3, r_fn4, r_fn5, s_lvR, s_lvN, r_nx, r_bk, r_ct, r_seq, s_seqN, s_seqR, s_seqB, s_seqC, r_ret, s_ret, r_retN, r_sif, s_sif1, s_sif0, r_ex, s_ex, r_set, s_set, r_par, s_par, r_as, s_as, s_gb, r_gNm, r_gNl, r_gCs, s_gCs, r_gTu2, r_gTu3, r_gTu4, r_gSb, s_sb, s_sb2, s_st, s_nxS, r_au, s_au, s_au0, s_au1, s_au2, s_au3, r_addI, r_for, s_for, s_body, s_turnN, s_turnC, s_turnB, s_turnR, r_r1, s_r1, r_r2, s_r2, r_sq, s_sqL, s_sqS, r_tp, s_tp, r_xT, r_xL, s_x, s_xd, at_0, at_1, at_2, at_3, at_4, r_add, r_sub, r_neg, r_mul, r_fdiv, r_mod, r_pow, r_cmp, r_is, r_eqI, r_abs, r_int, r_max, r_min, r_okV, r_snap, r_lenF, r_lenT, DL.isNon, List.replicate_succ, List.replicate_zero, List.set_cons_zero, List.set_cons_succ, List.getElem?_cons_zero, List.getElem?_cons_succ, Option.map_some, Nat.reduceSub, and_self, and_true, true_and, decide_true, decide_false, if_true, if_false, Bool.false_eq_true, Bool.not_true, Bool.not_false, Nat.reduceSub, Nat.reduceAdd, Nat.reduceMul, Nat.reduceLeDiff, takeB, bag_x, bag_set0, hz, h1, hm, c1, c2, c3, c4, c5, p1, p2, s_ends]
      exact ⟨_, b, _, q1 _, q2 _, hb, rfl⟩
    · simp only [r_bind, r_1, s_1, r_2, s_2, s_2b, r_v, s_v, r_c, r_n, r_a, s_a, s_ab, r_g, s_g, r_and, s_And, s_and1, s_and0, r_or, s_Or, s_or1, s_or0, r_not, s_Not, s_not, r_if, s_if1, s_if0, r_ch, s_ch, s_cha, s_chb1, s_chb0, s_chc, r_tB, s_tB, r_tV, s_tV, s_tv, r_tN, s_tN, r_tA, s_tA1, s_tA0, r_tO, s_tO1, s_tO0, r_tT, r_trB, r_trI, r_trN, r_call, s_call, s_noX, s_backV, s_backC, s_backF, s_frz, r_frz, r_all0, r_all1, r_fn1, r_fn2, r_fn3, r_fn4, r_fn5, s_lvR, s_lvN, r_nx, r_bk, r_ct, r_seq, s_seqN, s_seqR, s_seqB, s_seqC, r_ret, s_ret, r_retN, r_sif, s_sif1, s_sif0, r_ex, s_ex, r_set, s_set, r_par, s_par, r_as, s_as, s_gb, r_gNm, r_gNl, r_gCs, s_gCs, r_gTu2, r_gTu3, r_gTu4, r_gSb, s_sb, s_sb2, s_st, s_nxS, r_au, s_au, s_au0, s_au1, s_au2, s_au3, r_addI, r_for, s_for, s_body, s_turnN, s_turnC, s_turnB, s_turnR, r_r1, s_r1, r_r2, s_r2, r_sq, s_sqL, s_sqS, r_tp, s_tp, r_xT, r_xL, s_x, s_xd, at_0, at_1, at_2, at_3, at_4, r_add, r_sub, r_neg, r_mul, r_fdiv, r_mod, r_pow, r_cmp, r_is, r_eqI, r_abs, r_int, r_max, r_min, r_okV, r_snap, r_lenF, r_lenT, DL.isNon, List.replicate_succ, List.replicate_zero, List.set_cons_zero, List.set_cons_succ, List.getElem?_cons_zero, List.getElem?_cons_succ, Option.map_some, Nat.reduceSub, and_self, and_true, true_and, decide_true, decide_false, if_true, if_false, Bool.false_eq_true, Bool.not_true, Bool.not_false, Nat.reduceSub, Nat.reduceAdd, Nat.reduceMul, Nat.reduceLeDiff, takeB, bag_x, bag_set0, hz, h1, hm, c1, c2, c3, c4, c5, p1, p2, s_ends]
      exact ⟨_, b, _, q1 _, q2 _, hb, rfl⟩
/-- a draw: something from 0 to many - 1 -/
theorem take_run (b : Bag) (hb : b.Ok) (many : Int) (h1 : 0 < many) (h2 : many.natAbs.log2 < 9000) (R : Store) (wf : WF (b.c :: R)) :
    ∃ v b', 0 ≤ v ∧ v < many ∧ Bag.Ok b' ∧ WF (b'.c :: R) ∧ takeM [.cell 0, .fr (.int many)] (b.c :: R) = .ok (.val (.fr (.int v)), b'.c :: R) := by
  obtain ⟨_, e1, b1, x2, x3, hb1, rfl⟩ := takeA_run (R := R) hb many
  obtain ⟨_, e2, v, b2, rho, g1, g2, hb2, rfl⟩ := takeB_run (R := R) hb1 many h1 h2 x2 x3
  refine ⟨v, b2, g1, g2, hb2, wf.bag, ?_⟩
  simp only [r_bind, r_1, s_1, r_2, s_2, s_2b, r_v, s_v, r_c, r_n, r_a, s_a, s_ab, r_g, s_g, r_and, s_And, s_and1, s_and0, r_or, s_Or, s_or1, s_or0, r_not, s_Not, s_not, r_if, s_if1, s_if0, r_ch, s_ch, s_cha, s_chb1, s_chb0, s_chc, r_tB, s_tB, r_tV, s_tV, s_tv, r_tN, s_tN, r_tA, s_tA1, s_tA0, r_tO, s_tO1, s_tO0, r_tT, r_trB, r_trI, r_trN, r_call, s_call, s_noX, s_backV, s_backC, s_backF, s_frz, r_frz, r_all0, r_all1, r_fn1, r_fn2, r_fn3, r_fn4, r_fn5, s_lvR, s_lvN, r_nx, r_bk, r_ct, r_seq, s_seqN, s_seqR, s_seqB, s_seqC, r_ret, s_ret, r_retN, r_sif, s_sif1, s_sif0, r_ex, s_ex, r_set, s_set, r_par, s_par, r_as, s_as, s_gb, r_gNm, r_gNl, r_gCs, s_gCs, r_gTu2, r_gTu3, r_gTu4, r_gSb, s_sb, s_sb2, s_st, s_nxS, r_au, s_au, s_au0, s_au1, s_au2, s_au3, r_addI, r_for, s_for, s_body, s_turnN, s_turnC, s_turnB, s_turnR, r_r1, s_r1, r_r2, s_r2, r_sq, s_sqL, s_sqS, r_tp, s_tp, r_xT, r_xL, s_x, s_xd, at_0, at_1, at_2, at_3, at_4, r_add, r_sub, r_neg, r_mul, r_fdiv, r_mod, r_pow, r_cmp, r_is, r_eqI, r_abs, r_int, r_max, r_min, r_okV, r_snap, r_lenF, r_lenT, DL.isNon, List.replicate_succ, List.replicate_zero, List.set_cons_zero, List.set_cons_succ, List.getElem?_cons_zero, List.getElem?_cons_succ, Option.map_some, Nat.reduceSub, and_self, and_true, true_and, decide_true, decide_false, if_true, if_false, Bool.false_eq_true, Bool.not_true, Bool.not_false, Nat.reduceSub, Nat.reduceAdd, Nat.reduceMul, Nat.reduceLeDiff, takeM, e1, e2, leave_bag wf]
end
end DL

namespace DL
open PySem L2

theorem ends_bind {α β : Type} {r : Res α} {f : α → Res β} {Q : α → Prop} {P : β → Prop} (h : Ends r Q) (k : ∀ a, Q a → Ends (f a) P) : Ends (r.bind f) P := by
  obtain ⟨a, rfl, q⟩ := h
  exact k a q
theorem ends_imp {α : Type} {r : Res α} {Q P : α → Prop} (h : Ends r Q) (k : ∀ a, Q a → P a) : Ends r P := by
  obtain ⟨a, e, q⟩ := h
  exact ⟨a, e, k a q⟩
theorem loop_ends {gm : GM} {bd : SM} (J : List SV → Slots → Store → Prop)
    (step : ∀ x xs rho S, J (x :: xs) rho S → Ends ((gm x rho S).bind (k_body bd)) fun r => r.1 = .nx ∧ J xs r.2.1 r.2.2) {xs : List SV} {rho : Slots} {S : Store} (h : J xs rho S) :
    Ends (loopM (fun _ => True) gm bd xs rho S) fun r => r.1 = .nx ∧ J [] r.2.1 r.2.2 := by
  obtain ⟨rho', S', e, j⟩ := loop_inv (lk := fun _ => True) gm bd J (fun _ _ _ _ => trivial) (fun x xs rho S h => by
    obtain ⟨⟨f, r1, S1⟩, e, q1, q2⟩ := step x xs rho S h
    cases q1
    exact ⟨r1, S1, e, q2⟩) xs rho S h
  exact ⟨_, e, rfl, j⟩
/-! ### slices, comprehensions -/
section
variable {a b : EM} {rho : Slots} {S T : Store} {x y : SV} {t : TM} {e : EM} {gm : GM}
def k_ps (r : SV × Store) : Res (Option Int × Store) := match r.1 with
  | .fr (.int i) => .ok (some i, r.2)
  | _ => .stuck
theorem r_ps : pS a rho S = (a rho S).bind k_ps := id rfl
theorem s_ps (i : Int) : k_ps (.fr (.int i), S) = .ok (some i, S) := id rfl
theorem r_pn : pN rho S = .ok (none, S) := id rfl
def k_sl2 (c : Bool) (x : SV) (lo : Option Int) (r : Option Int × Store) : Res (SV × Store) := slG c x lo r.1 r.2
def k_sl1 (c : Bool) (hi : PM) (rho : Slots) (x : SV) (r : Option Int × Store) : Res (SV × Store) := (hi rho r.2).bind (k_sl2 c x r.1)
def k_sl (c : Bool) (lo hi : PM) (rho : Slots) (r : SV × Store) : Res (SV × Store) := (lo rho r.2).bind (k_sl1 c hi rho r.1)
theorem r_sl (c : Bool) (lo hi : PM) : eSl c a lo hi rho S = (a rho S).bind (k_sl c lo hi rho) := id rfl
theorem s_sl (c : Bool) (lo hi : PM) : k_sl c lo hi rho (x, S) = (lo rho S).bind (k_sl1 c hi rho x) := id rfl
theorem s_sl1 (c : Bool) (hi : PM) (l : Option Int) : k_sl1 c hi rho x (l, S) = (hi rho S).bind (k_sl2 c x l) := id rfl
theorem s_sl2 (c : Bool) (l u : Option Int) : k_sl2 c x l (u, S) = slG c x l u S := id rfl
theorem cut_map {α β : Type} (f : α → β) (xs : List α) (l u : Option Int) : cutA (xs.map f) l u = (cutA xs l u).map f := by
  unfold cutA
  simp [List.map_drop, List.map_take]
theorem r_slL (ds : List D) (l u : Option Int) : slG false (.fr (.lst ds)) l u S = .ok (.fr (.lst (cutA ds l u)), S) := by
  unfold slG
  simp only [rdS, rdL, cut_map, newL0, allFr_map, Bool.false_eq_true, if_false]
theorem r_slS (ds : List D) (l u : Option Int) : slG false (.fr (.scr ds)) l u S = .ok (.fr (.lst (cutA ds l u)), S) := by
  unfold slG
  simp only [rdS, cut_map, newL0, allFr_map, Bool.false_eq_true, if_false]
theorem r_slT (c : Bool) (ds : List D) (l u : Option Int) : slG c (.fr (.tup ds)) l u S = .ok (.fr (.tup (cutA ds l u)), S) := id rfl
theorem cut_to {α : Type} (xs : List α) (n : Nat) : cutA xs none (some (n : Int)) = xs.take n := by
  unfold cutA
  rw [HT.sIx_none, HT.sIx_nat, List.drop_zero, Nat.sub_zero]
  by_cases h : n ≤ xs.length
  · rw [Nat.min_eq_left h]
  · rw [Nat.min_eq_right (by omega), List.take_length, List.take_of_length_le (by omega)]
theorem cut_from {α : Type} (xs : List α) (n : Nat) : cutA xs (some (n : Int)) none = xs.drop n := by
  unfold cutA
  rw [HT.sIx_none, HT.sIx_nat]
  by_cases h : n ≤ xs.length
  · rw [Nat.min_eq_left h, List.take_of_length_le (by simp)]
  · rw [Nat.min_eq_right (by omega)]
    simp [List.drop_eq_nil_of_le (show xs.length ≤ n by omega)]
/-! one turn of a comprehension -/
def k_l3 (r : SV × Store) : Res (Option SV × Store) := .ok (some r.1, r.2)
def k_l2 (e : EM) (rho : Slots) (r : Bool × Store) : Res (Option SV × Store) := if r.1 then (e rho r.2).bind k_l3 else .ok (none, r.2)
def k_l1 (t : TM) (e : EM) (r : Slots × Store) : Res (Option SV × Store) := (t r.1 r.2).bind (k_l2 e r.1)
def lcT (gm : GM) (t : TM) (e : EM) (x : SV) (rho : Slots) (S : Store) : Res (Option SV × Store) := (gm x rho S).bind (k_l1 t e)
theorem r_lcT : lcT gm t e x rho S = (gm x rho S).bind (k_l1 t e) := id rfl
theorem s_l1 : k_l1 t e (rho, S) = (t rho S).bind (k_l2 e rho) := id rfl
theorem s_l2t : k_l2 e rho (true, S) = (e rho S).bind k_l3 := id rfl
theorem s_l2f : k_l2 e rho (false, S) = .ok (none, S) := id rfl
theorem s_l3 : k_l3 (x, S) = .ok (some x, S) := id rfl
theorem lc_nil {lk : Store → Prop} {own : List Nat} {acc : List SV} (h : lk (S ++ [.lst acc])) : lcM lk gm t e own rho [] S acc = .ok (acc, S) := by
  unfold lcM
  rw [if_pos h]
theorem lc_some {lk : Store → Prop} {own : List Nat} {acc : List SV} {xs : List SV} {S1 : Store} (h : lk (S ++ [.lst acc])) (hl : acc.length < sizeLine) (hs : S1.length = S.length) (hr : lcT gm t e x (wipeR rho own) (S ++ [.lst acc]) = .ok (some y, S1 ++ [.lst acc])) :
    lcM lk gm t e own rho (x :: xs) S acc = lcM lk gm t e own rho xs S1 (acc ++ [y]) := by
  conv => lhs; unfold lcM
  rw [if_pos h]
  unfold lcT k_l1 k_l2 k_l3 at hr
  cases hg : gm x (wipeR rho own) (S ++ [.lst acc]) with
  | ok r =>
    rw [hg, r_bind] at hr
    rw [r_bind]
    cases ht : t r.1 r.2 with
    | ok k =>
      rw [ht, r_bind] at hr
      rw [r_bind]
      by_cases hk : k.1 = true
      · rw [if_pos hk] at hr ⊢
        cases he : e r.1 k.2 with
        | ok z =>
          rw [he, r_bind] at hr
          rw [r_bind]
          simp only [Res.ok.injEq, Prod.mk.injEq, Option.some.injEq] at hr
          obtain ⟨rfl, h2⟩ := hr
          rw [h2, unS_app hs]
          dsimp only
          rw [if_pos hl]
        | _ => rw [he] at hr; cases hr
      · rw [if_neg hk] at hr
        simp at hr
    | _ => rw [ht] at hr; cases hr
  | _ => rw [hg] at hr; cases hr
theorem lc_none {lk : Store → Prop} {own : List Nat} {acc : List SV} {xs : List SV} {S1 : Store} (h : lk (S ++ [.lst acc])) (hs : S1.length = S.length) (hr : lcT gm t e x (wipeR rho own) (S ++ [.lst acc]) = .ok (none, S1 ++ [.lst acc])) :
    lcM lk gm t e own rho (x :: xs) S acc = lcM lk gm t e own rho xs S1 acc := by
  conv => lhs; unfold lcM
  rw [if_pos h]
  unfold lcT k_l1 k_l2 k_l3 at hr
  cases hg : gm x (wipeR rho own) (S ++ [.lst acc]) with
  | ok r =>
    rw [hg, r_bind] at hr
    rw [r_bind]
    cases ht : t r.1 r.2 with
    | ok k =>
      rw [ht, r_bind] at hr
      rw [r_bind]
      by_cases hk : k.1 = true
      · rw [if_pos hk] at hr
        cases he : e r.1 k.2 with
        | ok z => rw [he, r_bind] at hr; simp at hr
        | _ => rw [he] at hr; cases hr
      · rw [if_neg hk] at hr ⊢
        simp only [Res.ok.injEq, Prod.mk.injEq, true_and] at hr
        rw [hr, unS_app hs]
    | _ => rw [ht] at hr; cases hr
  | _ => rw [hg] at hr; cases hr
/-- a comprehension's turns, by an invariant over what is left and what is there -/
theorem lc_inv {lk : Store → Prop} {own : List Nat} (J : List SV → List SV → Store → Prop) (hl : ∀ xs acc S, J xs acc S → lk (S ++ [.lst acc]))
    (step : ∀ x xs acc S, J (x :: xs) acc S → ∃ o S1, S1.length = S.length ∧ lcT gm t e x (wipeR rho own) (S ++ [.lst acc]) = .ok (o, S1 ++ [.lst acc]) ∧ (match o with
      | some y => acc.length < sizeLine ∧ J xs (acc ++ [y]) S1
      | none => J xs acc S1)) :
    ∀ (xs acc : List SV) (S : Store), J xs acc S → ∃ acc' S', lcM lk gm t e own rho xs S acc = .ok (acc', S') ∧ J [] acc' S'
  | [], acc, S, h => ⟨acc, S, lc_nil (hl _ _ _ h), h⟩
  | x :: xs, acc, S, h => by
    obtain ⟨o, S1, h1, h2, h3⟩ := step x xs acc S h
    cases o with
    | some y =>
      obtain ⟨acc', S', q1, q2⟩ := lc_inv J hl step xs (acc ++ [y]) S1 h3.2
      exact ⟨acc', S', by rw [lc_some (hl _ _ _ h) h3.1 h1 h2, q1], q2⟩
    | none =>
      obtain ⟨acc', S', q1, q2⟩ := lc_inv J hl step xs acc S1 h3
      exact ⟨acc', S', by rw [lc_none (hl _ _ _ h) h1 h2, q1], q2⟩
/-- the items one by one, the store as it was -/
theorem lc_map {lk : Store → Prop} {own : List Nat} (f : SV → SV) (hlk : ∀ acc, lk (S ++ [.lst acc])) : ∀ (xs acc : List SV), acc.length + xs.length ≤ sizeLine →
    (∀ x ∈ xs, ∀ acc, lcT gm t e x (wipeR rho own) (S ++ [.lst acc]) = .ok (some (f x), S ++ [.lst acc])) → lcM lk gm t e own rho xs S acc = .ok (acc ++ xs.map f, S)
  | [], acc, _, _ => by rw [lc_nil (hlk _)]; simp
  | x :: xs, acc, hz, h => by
    have hz' : acc.length + (xs.length + 1) ≤ sizeLine := hz
    rw [lc_some (hlk _) (by omega) rfl (h x List.mem_cons_self acc), lc_map f hlk xs (acc ++ [f x]) (by simp; omega) fun z hz => h z (List.mem_cons_of_mem _ hz)]
    simp
noncomputable def k_lce (cc : Bool) (r : List SV × Store) : Res (SV × Store) := lcEnd cc r.1 r.2
noncomputable def k_lc (cc : Bool) (gm : GM) (t : TM) (e : EM) (own : List Nat) (rho : Slots) (r : Wk × Store) : Res (SV × Store) := (noE (lcM r.1.lk gm t e own rho r.1.xs r.2 [])).bind (k_lce cc)
theorem r_lc (cc : Bool) (im : IM) (own : List Nat) : eLC cc im gm t e own rho S = (im rho S).bind (k_lc cc gm t e own rho) := id rfl
theorem s_lc (cc : Bool) (own : List Nat) (w : Wk) : k_lc cc gm t e own rho (w, S) = (noE (lcM w.lk gm t e own rho w.xs S [])).bind (k_lce cc) := id rfl
theorem s_noE {α : Type} (r : α) : noE (.ok r) = .ok r := id rfl
theorem s_lceC (acc : List SV) : k_lce true (acc, S) = .ok (.cell S.length, S ++ [.lst acc]) := id rfl
theorem s_lceF {ds : List D} (wf : WF S) : k_lce false (ds.map SV.fr, S) = .ok (.fr (.lst ds), S) := by
  unfold k_lce lcEnd
  simp only [Bool.false_eq_true, if_false, allFr_map]
  rw [if_pos (show S.all (Cell.below S.length) = true from wf)]
theorem s_wr0 : wipeR rho [] = rho := id rfl
theorem s_wr (v : Nat) (vs : List Nat) : wipeR rho (v :: vs) = (wipeR rho vs).set v none := id rfl
end
/-! ### new lists and tuples of a written length -/
def szN {α : Type} : List α → Nat
  | [] => 0
  | _ :: xs => szN xs + 1
theorem szN_eq {α : Type} : ∀ xs : List α, szN xs = xs.length
  | [] => rfl
  | _ :: xs => by rw [szN, szN_eq xs]; rfl
theorem s_sz0 {α : Type} : szN ([] : List α) = 0 := id rfl
theorem s_sz1 {α : Type} (x : α) (xs : List α) : szN (x :: xs) = szN xs + 1 := id rfl
section
variable {S : Store}
def k_nT (n : Nat) (S : Store) (o : Option (List D)) : Res (SV × Store) := if n ≤ 16777216 then (match o with
  | some ds => .ok (.fr (.tup ds), S)
  | none => .stuck) else .stuck
theorem r_nT (xs : List SV) : newT xs S = k_nT (szN xs) S (allFr xs) := by
  unfold newT k_nT
  rw [szN_eq, sizeLine_eq]
  try rfl
theorem s_nT {n : Nat} (h : n ≤ 16777216) (ds : List D) : k_nT n S (some ds) = .ok (.fr (.tup ds), S) := if_pos h
def k_nF (n : Nat) (S : Store) (o : Option (List D)) : Res (SV × Store) := if n ≤ 16777216 then (match o with
  | some ds => .ok (.fr (.lst ds), S)
  | none => .stuck) else .stuck
theorem r_nF (xs : List SV) : newL false xs S = k_nF (szN xs) S (allFr xs) := by
  unfold newL k_nF
  rw [szN_eq, sizeLine_eq]
  try rfl
theorem s_nF {n : Nat} (h : n ≤ 16777216) (ds : List D) : k_nF n S (some ds) = .ok (.fr (.lst ds), S) := if_pos h
def k_nC (n : Nat) (xs : List SV) (S : Store) : Res (SV × Store) := if n ≤ 16777216 then .ok (.cell S.length, S ++ [.lst xs]) else .stuck
theorem r_nC (xs : List SV) : newL true xs S = k_nC (szN xs) xs S := by
  unfold newL k_nC
  rw [szN_eq, sizeLine_eq]
  try rfl
theorem s_nC {n : Nat} (h : n ≤ 16777216) (xs : List SV) : k_nC n xs S = .ok (.cell S.length, S ++ [.lst xs]) := if_pos h
theorem r_mulF {ds : List D} {k : Nat} (h : ds.length * k ≤ 16777216) (hk : (k : Int) < 2 ^ 63) : mulG false (.fr (.lst ds)) (.fr (.int (k : Int))) S = .ok (.fr (.lst (List.replicate k ds).flatten), S) := by
  unfold mulG
  have e : (List.replicate k (ds.map SV.fr)).flatten = ((List.replicate k ds).flatten).map SV.fr := by
    rw [List.map_flatten, List.map_replicate]
  have hz := sizeLine_eq
  simp only [rdL, Int.toNat_natCast, List.length_map, hz]
  rw [if_pos ⟨by omega, hk, h⟩, e, r_newL (allFr_map _) (by rw [hz]; simp [Nat.mul_comm]; rw [Nat.mul_comm]; exact h)]
theorem r_mulF2 {ds : List D} (h : szN ds * 2 ≤ 16777216) : mulG false (.fr (.lst ds)) (.fr (.int 2)) S = .ok (.fr (.lst (ds ++ ds)), S) := by
  have := r_mulF (S := S) (ds := ds) (k := 2) (by rw [← szN_eq]; exact h) (by decide)
  rw [show ((2 : Nat) : Int) = 2 from rfl] at this
  rw [this]
  simp
end
def absI (i : Int) : Int := if i < 0 then -i else i
theorem bag_run (ns : List Int) (hn : ns.length ≤ sizeLine) : bagM [.fr (.scr (ns.map D.int))] [] = .ok (.new (Bag.c ⟨0, 1234567891, 0, (ns.take 63).map absI⟩), []) := by
  have e1 : cutA (ns.map D.int) none (some 63) = (ns.take 63).map D.int := by
    rw [show (63 : Int) = ((63 : Nat) : Int) from rfl, cut_to, List.map_take]
  have e2 : lcM (fun _ => True) (gNm 2) tTr (eA absG (aC (eV 2) aN)) [1, 2] [some (.fr (.scr (ns.map D.int))), none, none] (((ns.take 63).map D.int).map SV.fr) [] [] = .ok ((((ns.take 63).map absI).map D.int).map SV.fr, []) := by
    rw [lc_map (fun x => match x with
      | .fr (.int i) => .fr (.int (absI i))
      | z => z) (fun _ => trivial)]
    · simp [Function.comp_def]
    · simp
      omega
    · intro x hx acc
      obtain ⟨d, hd, rfl⟩ := List.mem_map.mp hx
      obtain ⟨i, _, rfl⟩ := List.mem_map.mp hd
      simp only [r_bind, r_1, s_1, r_2, s_2, s_2b, r_v, s_v, r_c, r_n, r_a, s_a, s_ab, r_g, s_g, r_and, s_And, s_and1, s_and0, r_or, s_Or, s_or1, s_or0, r_not, s_Not, s_not, r_if, s_if1, s_if0, r_ch, s_ch, s_cha, s_chb1, s_chb0, s_chc, r_tB, s_tB, r_tV, s_tV, s_tv, r_tN, s_tN, r_tA, s_tA1, s_tA0, r_tO, s_tO1, s_tO0, r_tT, r_trB, r_trI, r_trN, r_call, s_call, s_noX, s_backV, s_backC, s_backF, s_frz, r_frz, r_all0, r_all1, r_fn1, r_fn2, r_fn3, r_fn4, r_fn5, s_lvR, s_lvN, r_nx, r_bk, r_ct, r_seq, s_seqN, s_seqR, s_seqB, s_seqC, r_ret, s_ret, r_retN, r_sif, s_sif1, s_sif0, r_ex, s_ex, r_set, s_set, r_par, s_par, r_as, s_as, s_gb, r_gNm, r_gNl, r_gCs, s_gCs, r_gTu2, r_gTu3, r_gTu4, r_gSb, s_sb, s_sb2, s_st, s_nxS, r_au, s_au, s_au0, s_au1, s_au2, s_au3, r_addI, r_for, s_for, s_body, s_turnN, s_turnC, s_turnB, s_turnR, r_r1, s_r1, r_r2, s_r2, r_sq, s_sqL, s_sqS, r_tp, s_tp, r_xT, r_xL, s_x, s_xd, at_0, at_1, at_2, at_3, at_4, r_add, r_sub, r_neg, r_mul, r_fdiv, r_mod, r_pow, r_cmp, r_is, r_eqI, r_abs, r_int, r_max, r_min, r_okV, r_snap, r_lenF, r_lenT, DL.isNon, List.replicate_succ, List.replicate_zero, List.set_cons_zero, List.set_cons_succ, List.getElem?_cons_zero, List.getElem?_cons_succ, Option.map_some, Nat.reduceSub, and_self, and_true, true_and, decide_true, decide_false, if_true, if_false, Bool.false_eq_true, Bool.not_true, Bool.not_false, Nat.reduceSub, Nat.reduceAdd, Nat.reduceMul, Nat.reduceLeDiff, r_lcT, s_l1, s_l2t, s_l3, s_wr0, s_wr]
      rfl
  simp only [r_bind, r_1, s_1, r_2, s_2, s_2b, r_v, s_v, r_c, r_n, r_a, s_a, s_ab, r_g, s_g, r_and, s_And, s_and1, s_and0, r_or, s_Or, s_or1, s_or0, r_not, s_Not, s_not, r_if, s_if1, s_if0, r_ch, s_ch, s_cha, s_chb1, s_chb0, s_chc, r_tB, s_tB, r_tV, s_tV, s_tv, r_tN, s_tN, r_tA, s_tA1, s_tA0, r_tO, s_tO1, s_tO0, r_tT, r_trB, r_trI, r_trN, r_call, s_call, s_noX, s_backV, s_backC, s_backF, s_frz, r_frz, r_all0, r_all1, r_fn1, r_fn2, r_fn3, r_fn4, r_fn5, s_lvR, s_lvN, r_nx, r_bk, r_ct, r_seq, s_seqN, s_seqR, s_seqB, s_seqC, r_ret, s_ret, r_retN, r_sif, s_sif1, s_sif0, r_ex, s_ex, r_set, s_set, r_par, s_par, r_as, s_as, s_gb, r_gNm, r_gNl, r_gCs, s_gCs, r_gTu2, r_gTu3, r_gTu4, r_gSb, s_sb, s_sb2, s_st, s_nxS, r_au, s_au, s_au0, s_au1, s_au2, s_au3, r_addI, r_for, s_for, s_body, s_turnN, s_turnC, s_turnB, s_turnR, r_r1, s_r1, r_r2, s_r2, r_sq, s_sqL, s_sqS, r_tp, s_tp, r_xT, r_xL, s_x, s_xd, at_0, at_1, at_2, at_3, at_4, r_add, r_sub, r_neg, r_mul, r_fdiv, r_mod, r_pow, r_cmp, r_is, r_eqI, r_abs, r_int, r_max, r_min, r_okV, r_snap, r_lenF, r_lenT, DL.isNon, List.replicate_succ, List.replicate_zero, List.set_cons_zero, List.set_cons_succ, List.getElem?_cons_zero, List.getElem?_cons_succ, Option.map_some, Nat.reduceSub, and_self, and_true, true_and, decide_true, decide_false, if_true, if_false, Bool.false_eq_true, Bool.not_true, Bool.not_false, Nat.reduceSub, Nat.reduceAdd, Nat.reduceMul, Nat.reduceLeDiff, bagM, r_nC, s_nC, s_sz0, s_sz1, r_lc, r_sl, s_sl, s_sl1, s_sl2, r_ps, s_ps, r_pn, r_slS, e1, s_lc, e2, s_noE, s_lceF wf_nil, Option.map_none]
  rfl
end DL

namespace DL
open PySem L2

/-! ### a list of one's own: the last cell -/
section
variable {S : Store} {c c' : Cell} {x y : SV} {xs : List SV} {m : AM} {rho : Slots} {o : EM}
theorem get_snoc : (S ++ [c])[S.length]? = some c := by simp
theorem set_snoc : (S ++ [c]).set S.length c' = S ++ [c'] := by simp
theorem last_x (i : Int) : ixG (.cell S.length) (.fr (.int i)) (S ++ [.lst xs]) = k_x (S ++ [.lst xs]) (atI xs i) := r_xC get_snoc i
theorem at_m1 {α : Type} (l : List α) (a : α) : atI (l ++ [a]) (-1) = some a := by
  unfold atI ixN
  rw [if_neg (by decide), List.length_append, List.length_singleton, if_pos (by omega), Option.bind_some]
  have : ((-1 : Int) + ((l.length + 1 : Nat) : Int)).toNat = l.length := by omega
  rw [this]
  simp
theorem last_set (v : SV) (l : List SV) (a : SV) : setL (.cell S.length) (.fr (.int (-1))) v (S ++ [.lst (l ++ [a])]) = .ok (S ++ [.lst (l ++ [v])]) := by
  unfold setL
  have e : ixN (l ++ [a]).length (-1) = some l.length := by
    unfold ixN
    rw [if_neg (by decide), List.length_append, List.length_singleton, if_pos (by omega)]
    congr 1
    omega
  simp only [get_snoc, e, set_snoc]
  congr 4
  simp
def k_mtb (g : GMt) (x : SV) (r : List SV × Store) : Res (SV × Store) := g x r.1 r.2
def k_mt (T : String) (g : GMt) (m : AM) (rho : Slots) (r : SV × Store) : Res (SV × Store) := if tyS T r.2 r.1 then (m rho r.2).bind (k_mtb g r.1) else .stuck
theorem r_mt (T : String) (g : GMt) : eMt T g o m rho S = (o rho S).bind (k_mt T g m rho) := id rfl
theorem s_mt {T : String} (g : GMt) (h : tyS T S x = true) : k_mt T g m rho (x, S) = (m rho S).bind (k_mtb g x) := if_pos h
theorem s_mtb (g : GMt) : k_mtb g x (xs, S) = g x xs S := id rfl
theorem ty_last : tyS "list" (S ++ [.lst xs]) (.cell S.length) = true := by
  unfold tyS
  simp [rdL, get_snoc]
theorem last_app (h : xs.length < 16777216) : appendG (.cell S.length) [y] (S ++ [.lst xs]) = .ok (.fr .non, S ++ [.lst (xs ++ [y])]) := by
  unfold appendG cellOf
  have hz := sizeLine_eq
  simp only [get_snoc, hz, if_pos h, set_snoc]
  rfl
theorem last_snap {ds : List D} : snap (S ++ [.lst (ds.map SV.fr)]) (.cell S.length) = some (.lst ds) := by
  unfold snap
  simp only [get_snoc, allSn_map (snap0_fr _), Option.map_some]
theorem last_rdS : rdS (S ++ [.lst xs]) (.cell S.length) = some xs := by
  unfold rdS rdL
  simp only [get_snoc]
/-- a list against the empty one -/
theorem deq_nil (ds : List D) : deq (.lst ds) (.lst []) = ds.isEmpty := by
  cases ds <;> rfl
theorem plain_nil : plain (.lst []) = true := by rfl
theorem eqD_nil {ds : List D} (h : plain (.lst ds) = true) : eqD (.lst ds) (.lst []) = some ds.isEmpty := by
  unfold eqD
  split
  · rename_i e
    cases e
  · rw [h, plain_nil, deq_nil]; rfl
theorem eq_nilF {ds : List D} (n : Bool) (h : plain (.lst ds) = true) : eqG n (.fr (.lst ds)) (.fr (.lst [])) S = .ok (.fr (.bl (if n then !ds.isEmpty else ds.isEmpty)), S) := r_eq n rfl rfl (eqD_nil h)
theorem eq_nilL {ds : List D} (n : Bool) (h : plain (.lst ds) = true) : eqG n (.cell S.length) (.fr (.lst [])) (S ++ [.lst (ds.map SV.fr)]) = .ok (.fr (.bl (if n then !ds.isEmpty else ds.isEmpty)), S ++ [.lst (ds.map SV.fr)]) := r_eq n last_snap rfl (eqD_nil h)
/-! instances -/
theorem r_fld (ns : List Str) (f : Str) : eFld ns f o rho S = (o rho S).bind fun r => fldG ns f r.1 r.2 := id rfl
def k_fld (ns : List Str) (f : Str) (r : SV × Store) : Res (SV × Store) := fldG ns f r.1 r.2
theorem r_fld' (ns : List Str) (f : Str) : eFld ns f o rho S = (o rho S).bind (k_fld ns f) := id rfl
theorem s_fld (ns : List Str) (f : Str) : k_fld ns f (x, S) = fldG ns f x S := id rfl
def k_meth0 (cc : Bool) (tbl : Tbl) (nm : Str) (r : SV × Store) : Res (SV × Store) := match metOf tbl nm r.2 r.1 with
  | some f => (noX (f [r.1] r.2)).bind (back cc)
  | none => .stuck
theorem r_meth0 (cc : Bool) (tbl : Tbl) (nm : Str) : eMeth0 cc tbl nm o rho S = (o rho S).bind (k_meth0 cc tbl nm) := id rfl
theorem s_meth0 {cc : Bool} {tbl : Tbl} {nm : Str} {f : FnM} (h : metOf tbl nm S x = some f) : k_meth0 cc tbl nm (x, S) = (noX (f [x] S)).bind (back cc) := by
  unfold k_meth0
  simp only [h]
def k_methb (cc : Bool) (f : FnM) (x : SV) (r : List SV × Store) : Res (SV × Store) := (noX (f (x :: r.1) r.2)).bind (back cc)
def k_meth (cc : Bool) (tbl : Tbl) (nm : Str) (m : AM) (rho : Slots) (r : SV × Store) : Res (SV × Store) := match metOf tbl nm r.2 r.1 with
  | some f => (m rho r.2).bind (k_methb cc f r.1)
  | none => .stuck
theorem r_meth (cc : Bool) (tbl : Tbl) (nm : Str) : eMeth cc tbl nm o m rho S = (o rho S).bind (k_meth cc tbl nm m rho) := id rfl
theorem s_meth {cc : Bool} {tbl : Tbl} {nm : Str} {f : FnM} (h : metOf tbl nm S x = some f) : k_meth cc tbl nm m rho (x, S) = (m rho S).bind (k_methb cc f x) := by
  unfold k_meth
  simp only [h]
theorem s_methb (cc : Bool) (f : FnM) : k_methb cc f x (xs, S) = (noX (f (x :: xs) S)).bind (back cc) := id rfl
def k_make (c : Bool) (n : Str) (f : FnM) (r : List SV × Store) : Res (SV × Store) := (noX (f (.cell r.2.length :: r.1) (r.2 ++ [.ins n []]))).bind (mkEnd c r.2.length)
theorem r_make (c : Bool) (n : Str) (f : FnM) : eMake c n f m rho S = (m rho S).bind (k_make c n f) := id rfl
theorem s_make (c : Bool) (n : Str) (f : FnM) : k_make c n f (xs, S) = (noX (f (.cell S.length :: xs) (S ++ [.ins n []]))).bind (mkEnd c S.length) := id rfl
theorem s_mkEnd {n : Str} {fs : List (Str × SV)} {ds : List (Str × D)} (wf : WF S) (h : allFrF fs = some ds) : mkEnd false S.length (.val (.fr .non), S ++ [.ins n fs]) = .ok (.fr (.ins n ds), S) := by
  unfold mkEnd
  simp only [get_snoc, Bool.false_eq_true, if_false, List.take_left', h]
  rw [if_pos (show S.all (Cell.below S.length) = true from wf)]
def k_sfb (ns : List Str) (f : Str) (rho : Slots) (v : SV) (r : SV × Store) : Res (Fl × Slots × Store) := match r.1 with
  | .cell k => match r.2[k]? with
    | some (.ins n fs) => if n ∈ ns ∧ fs.length < 1000 then .ok (.nx, rho, r.2.set k (.ins n (putS f v fs))) else .stuck
    | _ => .stuck
  | _ => .stuck
def k_sf (ns : List Str) (f : Str) (o : EM) (rho : Slots) (r : SV × Store) : Res (Fl × Slots × Store) := (o rho r.2).bind (k_sfb ns f rho r.1)
theorem r_sf (ns : List Str) (f : Str) (p : EM) : sFldM ns f o p rho S = (p rho S).bind (k_sf ns f o rho) := id rfl
theorem s_sf (ns : List Str) (f : Str) : k_sf ns f o rho (x, S) = (o rho S).bind (k_sfb ns f rho x) := id rfl
theorem s_sfb {ns : List Str} {f n : Str} {fs : List (Str × SV)} (h : n ∈ ns ∧ fs.length < 1000) : k_sfb ns f rho x (.cell S.length, S ++ [.ins n fs]) = .ok (.nx, rho, S ++ [.ins n (putS f x fs)]) := by
  unfold k_sfb
  simp only [get_snoc, if_pos h, set_snoc]
/-! sorted by key -/
def k_sort (c : Bool) (r : SV × Store) : Res (SV × Store) := sortG c r.1 r.2
theorem r_sort (c : Bool) : eSortF c o rho S = (o rho S).bind (k_sort c) := id rfl
theorem s_sort (c : Bool) : k_sort c (x, S) = sortG c x S := id rfl
theorem wf_acc (h : WF S) (ds : List D) : WF (S ++ [.lst (ds.map SV.fr)]) := h.snoc (by simp only [Cell.below]; exact below_map _ ds)
theorem wf_lst (h : WF S) {xs : List SV} {ds : List D} (e : xs = ds.map SV.fr) : WF (S ++ [.lst xs]) := e ▸ wf_acc h ds
/-- a comprehension of plain data, with or without a test -/
theorem lc_fm {gm : GM} {t : TM} {e : EM} {lk : Store → Prop} {own : List Nat} (f : SV → Option D) (hlk : ∀ ds : List D, lk (S ++ [.lst (ds.map SV.fr)])) : ∀ (xs : List SV) (ds : List D), ds.length + xs.length ≤ 16777216 →
    (∀ x ∈ xs, ∀ ds : List D, lcT gm t e x (wipeR rho own) (S ++ [.lst (ds.map SV.fr)]) = .ok ((f x).map SV.fr, S ++ [.lst (ds.map SV.fr)])) → lcM lk gm t e own rho xs S (ds.map SV.fr) = .ok ((ds ++ xs.filterMap f).map SV.fr, S)
  | [], ds, _, _ => by rw [lc_nil (hlk _)]; simp
  | x :: xs, ds, hz, h => by
    have hz' : ds.length + (xs.length + 1) ≤ 16777216 := hz
    have hs := sizeLine_eq
    have h1 := h x List.mem_cons_self ds
    cases q : f x with
    | none =>
      rw [q] at h1
      rw [lc_none (hlk _) rfl h1, lc_fm f hlk xs ds (by omega) fun z hz => h z (List.mem_cons_of_mem _ hz), List.filterMap_cons_none q]
    | some d =>
      rw [q] at h1
      have e2 : ds.map SV.fr ++ [SV.fr d] = (ds ++ [d]).map SV.fr := by simp
      rw [lc_some (hlk _) (by rw [List.length_map, hs]; omega) rfl h1, e2, lc_fm f hlk xs (ds ++ [d]) (by simp; omega) fun z hz => h z (List.mem_cons_of_mem _ hz), List.filterMap_cons_some q]
      simp
theorem lc_fm0 {gm : GM} {t : TM} {e : EM} {lk : Store → Prop} {own : List Nat} (f : SV → Option D) (hlk : ∀ ds : List D, lk (S ++ [.lst (ds.map SV.fr)])) (xs : List SV) (hz : xs.length ≤ 16777216)
    (h : ∀ x ∈ xs, ∀ ds : List D, lcT gm t e x (wipeR rho own) (S ++ [.lst (ds.map SV.fr)]) = .ok ((f x).map SV.fr, S ++ [.lst (ds.map SV.fr)])) : lcM lk gm t e own rho xs S [] = .ok ((xs.filterMap f).map SV.fr, S) := by
  have := lc_fm f hlk xs [] (by simpa using hz) h
  simpa using this
theorem blsOf_map : ∀ bs : List Bool, blsOf (bs.map fun b => SV.fr (.bl b)) = some bs
  | [] => rfl
  | b :: bs => by simp [blsOf, blsOf_map bs]
theorem intsOf_map : ∀ bs : List Int, intsOf (bs.map fun b => SV.fr (.int b)) = some bs
  | [] => rfl
  | b :: bs => by simp [intsOf, intsOf_map bs]
theorem all_bls (bs : List Bool) : allG [.fr (.lst (bs.map D.bl))] S = .ok (.fr (.bl (bs.all id)), S) := by
  unfold allG
  have e : (rdS S (.fr (.lst (bs.map D.bl)))).bind blsOf = some bs := by
    simp only [rdS, rdL, Option.bind_some, List.map_map]
    exact blsOf_map bs
  simp only [e, okV]
theorem any_bls (bs : List Bool) : anyG [.fr (.lst (bs.map D.bl))] S = .ok (.fr (.bl (bs.any id)), S) := by
  unfold anyG
  have e : (rdS S (.fr (.lst (bs.map D.bl)))).bind blsOf = some bs := by
    simp only [rdS, rdL, Option.bind_some, List.map_map]
    exact blsOf_map bs
  simp only [e, okV]
theorem sum_ints (ns : List Int) : sumG [.fr (.lst (ns.map D.int))] S = .ok (.fr (.int ns.sum), S) := by
  unfold sumG
  have e : (rdS S (.fr (.lst (ns.map D.int)))).bind intsOf = some ns := by
    simp only [rdS, rdL, Option.bind_some, List.map_map]
    exact intsOf_map ns
  simp only [e, okV]
theorem list_new (ds : List D) : listG true [.fr (.lst ds)] S = .ok (.cell S.length, S ++ [.lst (ds.map SV.fr)]) := rfl
theorem list_fr (ds : List D) : listG false [.fr (.lst ds)] S = .ok (.fr (.lst ds), S) := by
  unfold listG
  simp only [rdS, rdL, newL0, allFr_map, Bool.false_eq_true, if_false]
end
end DL

namespace DL
open PySem L2

/-! ### the machine's steps for enumerate, zip, sorted(set(..)) -/
section
variable {S : Store} {a : EM} {m : AM} {rho : Slots} {x y : SV}
def k_en (r : List SV × Store) : Res (Wk × Store) := match r.1 with
  | [a] => match srcM r.2 a with
    | some (ds, lk) => .ok (⟨enF 0 ds, lk⟩, r.2)
    | none => .stuck
  | _ => .stuck
theorem r_en : iEn m rho S = (m rho S).bind k_en := id rfl
theorem src_L (ds : List D) : srcM S (.fr (.lst ds)) = some (ds, fun _ => True) := by
  unfold srcM
  simp only [rdS, rdL, Option.bind_some, allFr_map, Option.map_some]
theorem src_C {k : Nat} {ds : List D} (h : S[k]? = some (.lst (ds.map SV.fr))) : srcM S (.cell k) = some (ds, fun S' => S'[k]? = some (.lst (ds.map SV.fr))) := by
  unfold srcM
  simp only [rdL, h, Option.bind_some, allFr_map, Option.map_some]
theorem s_enL (ds : List D) : k_en ([.fr (.lst ds)], S) = .ok (⟨enF 0 ds, fun _ => True⟩, S) := by
  unfold k_en
  simp only [src_L]
theorem s_enC {k : Nat} {ds : List D} (h : S[k]? = some (.lst (ds.map SV.fr))) : k_en ([.cell k], S) = .ok (⟨enF 0 ds, fun S' => S'[k]? = some (.lst (ds.map SV.fr))⟩, S) := by
  unfold k_en
  simp only [src_C h]
def k_zi (r : List SV × Store) : Res (Wk × Store) := match r.1 with
  | [a, b] => match srcM r.2 a, srcM r.2 b with
    | some (ds, lk), some (es, lk') => .ok (⟨ziF ds es, fun S => lk S ∧ lk' S⟩, r.2)
    | _, _ => .stuck
  | _ => .stuck
theorem r_zi : iZi m rho S = (m rho S).bind k_zi := id rfl
theorem s_ziL (ds es : List D) : k_zi ([.fr (.lst ds), .fr (.lst es)], S) = .ok (⟨ziF ds es, fun _ => True ∧ True⟩, S) := by
  unfold k_zi
  simp only [src_L]
def k_sst (c : Bool) (r : SV × Store) : Res (SV × Store) := sortSetG c r.1 r.2
theorem r_sst (c : Bool) : eSortSet c a rho S = (a rho S).bind (k_sst c) := id rfl
theorem intsOf_fr (ns : List Int) : intsOf (ns.map fun i => SV.fr (.int i)) = some ns := intsOf_map ns
theorem s_sstC {k : Nat} {ns : List Int} (h : S[k]? = some (.lst (ns.map fun i => SV.fr (.int i)))) (h1 : ns.length < 4000) (h2 : (asc ns).length < 64) : k_sst true (.cell k, S) = .ok (.cell S.length, S ++ [.lst ((asc ns).map fun i => SV.fr (.int i))]) := by
  show sortSetG true (.cell k) S = _
  unfold sortSetG
  simp only [rdS, rdL, h, Option.bind_some, intsOf_fr, if_pos (And.intro h1 h2)]
  rfl
theorem s_sstF {k : Nat} {ns : List Int} (h : S[k]? = some (.lst (ns.map fun i => SV.fr (.int i)))) (h1 : ns.length < 4000) (h2 : (asc ns).length < 64) : k_sst false (.cell k, S) = .ok (.fr (.lst ((asc ns).map D.int)), S) := by
  show sortSetG false (.cell k) S = _
  unfold sortSetG
  simp only [rdS, rdL, h, Option.bind_some, intsOf_fr, if_pos (And.intro h1 h2)]
  unfold newL0
  have e : (asc ns).map (fun i => SV.fr (.int i)) = ((asc ns).map D.int).map SV.fr := by rw [List.map_map]; rfl
  rw [e, allFr_map]
  rfl
def k_cmA (cc : Bool) (n : Str) (f : FnM) (r : List SV × Store) : Res (SV × Store) := (noX (f (.fr (.cls n) :: r.1) r.2)).bind (back cc)
theorem r_cmA (cc : Bool) (n : Str) (f : FnM) : eCmA cc n f m rho S = (m rho S).bind (k_cmA cc n f) := id rfl
theorem s_cmA (cc : Bool) (n : Str) (f : FnM) (xs : List SV) : k_cmA cc n f (xs, S) = (noX (f (.fr (.cls n) :: xs) S)).bind (back cc) := id rfl
def k_rev (c : Bool) (r : SV × Store) : Res (SV × Store) := revG c r.1 r.2
theorem r_rev (c : Bool) : eRev c a rho S = (a rho S).bind (k_rev c) := id rfl
theorem s_revF (ds : List D) : k_rev false (.fr (.lst ds), S) = .ok (.fr (.lst ds.reverse), S) := by
  show revG false (.fr (.lst ds)) S = _
  unfold revG newL0
  simp only [rdS, rdL, ← List.map_reverse, allFr_map, Bool.false_eq_true, if_false]
theorem s_revC {k : Nat} {ds : List D} (h : S[k]? = some (.lst (ds.map SV.fr))) : k_rev false (.cell k, S) = .ok (.fr (.lst ds.reverse), S) := by
  show revG false (.cell k) S = _
  unfold revG newL0
  simp only [rdS, rdL, h, ← List.map_reverse, allFr_map, Bool.false_eq_true, if_false]
def k_par3 (i j l : Nat) (rho : Slots) (r : List SV × Store) : Res (Fl × Slots × Store) := match r.1 with
  | [u, v, w] => .ok (.nx, ((rho.set i (some u)).set j (some v)).set l (some w), r.2)
  | _ => .stuck
theorem r_par3 (i j l : Nat) : sPar3 i j l m rho S = (m rho S).bind (k_par3 i j l rho) := id rfl
theorem s_par3 (i j l : Nat) (z : SV) : k_par3 i j l rho ([x, y, z], S) = .ok (.nx, ((rho.set i (some x)).set j (some y)).set l (some z), S) := id rfl
theorem r_gUl3 {ms : GMs} (d e f : D) : gUl 3 ms (.fr (.lst [d, e, f])) rho S = ms [.fr d, .fr e, .fr f] rho S := id rfl
theorem s_gUl {ms : GMs} {k n : Nat} {xs : List SV} (h : S[k]? = some (.lst xs)) (hl : xs.length = n) : gUl n ms (.cell k) rho S = ms xs rho S := by
  unfold gUl
  simp only [rdS, rdL, h, hl, if_true]
theorem r_mt0 (T : String) (g : GMt) : eMt0 T g a rho S = (a rho S).bind fun x => if tyS T x.2 x.1 then g x.1 [] x.2 else .stuck := id rfl
def k_mt0 (T : String) (g : GMt) (r : SV × Store) : Res (SV × Store) := if tyS T r.2 r.1 then g r.1 [] r.2 else .stuck
theorem r_mt0' (T : String) (g : GMt) : eMt0 T g a rho S = (a rho S).bind (k_mt0 T g) := id rfl
theorem s_mt0 {T : String} (g : GMt) (h : tyS T S x = true) : k_mt0 T g (x, S) = g x [] S := if_pos h
end
/-- a loop over a list that may have an end of its own -/
theorem loop_endsL {lk : Store → Prop} {gm : GM} {bd : SM} (J : List SV → Slots → Store → Prop) (hl : ∀ xs rho S, J xs rho S → lk S)
    (step : ∀ x xs rho S, J (x :: xs) rho S → Ends ((gm x rho S).bind (k_body bd)) fun r => r.1 = .nx ∧ J xs r.2.1 r.2.2) {xs : List SV} {rho : Slots} {S : Store} (h : J xs rho S) :
    Ends (loopM lk gm bd xs rho S) fun r => r.1 = .nx ∧ J [] r.2.1 r.2.2 := by
  obtain ⟨rho', S', e, j⟩ := loop_inv (lk := lk) gm bd J hl (fun x xs rho S h => by
    obtain ⟨⟨f, r1, S1⟩, e, q1, q2⟩ := step x xs rho S h
    cases q1
    exact ⟨r1, S1, e, q2⟩) xs rho S h
  exact ⟨_, e, rfl, j⟩
section
variable {S : Store}
def k_nTC (n : Nat) (xs : List SV) (S : Store) : Res (SV × Store) := if n ≤ 16777216 then .ok (.cell S.length, S ++ [.tup xs]) else .stuck
theorem r_nTC (xs : List SV) : newTC xs S = k_nTC (szN xs) xs S := by
  unfold newTC k_nTC
  rw [szN_eq, sizeLine_eq]
  try rfl
theorem s_nTC {n : Nat} (h : n ≤ 16777216) (xs : List SV) : k_nTC n xs S = .ok (.cell S.length, S ++ [.tup xs]) := if_pos h
theorem leave_tup {S' : Store} {xs : List SV} {ds : List D} {k : Nat} (h : WF S) (ht : S'.take S.length = S) (hk : S.length ≤ k) (hc : S'[k]? = some (.tup xs)) (hb : (Cell.tup xs).below S.length = false) (hf : frzA S' S.length xs = some ds) :
    leave S.length (.cell k) S' = .ok (.val (.fr (.tup ds)), S) := by
  unfold leave
  rw [ht, if_pos (show S.all (Cell.below S.length) = true from h)]
  simp only [if_neg (Nat.not_lt.mpr hk), hc, hb, Bool.false_eq_true, if_false, leaveT, hf, ht]
end
end DL

namespace MA

/-! ### spans of bytes, plain mathematics -/
abbrev Span := Int × Option Int
def below (x : Int) : Option Int → Bool
  | none => true
  | some l => decide (x ≤ l)
def cov (s : Span) (x : Int) : Bool := decide (s.1 ≤ x) && below x s.2
def mem (ss : List Span) (x : Int) : Bool := ss.any fun s => cov s x
structure Ok (s : Span) : Prop where
  f0 : 0 ≤ s.1
  l1 : ∀ l, s.2 = some l → s.1 ≤ l
/-- ascending, apart by one at least, from lo on -/
def Nf : Int → List Span → Prop
  | _, [] => True
  | lo, (f, none) :: r => lo ≤ f ∧ r = []
  | lo, (f, some l) :: r => lo ≤ f ∧ f ≤ l ∧ Nf (l + 2) r
theorem Nf.mono {a b : Int} (h : b ≤ a) : ∀ {ss : List Span}, Nf a ss → Nf b ss
  | [], _ => True.intro
  | (f, none) :: r, q => ⟨Int.le_trans h q.1, q.2⟩
  | (f, some l) :: r, q => ⟨Int.le_trans h q.1, q.2⟩
theorem mem_nil (x : Int) : mem [] x = false := rfl
theorem mem_cons (s : Span) (ss : List Span) (x : Int) : mem (s :: ss) x = (cov s x || mem ss x) := rfl
theorem mem_app (a b : List Span) (x : Int) : mem (a ++ b) x = (mem a x || mem b x) := by
  simp [mem, List.any_append]
theorem Nf.low {lo x : Int} : ∀ {ss : List Span}, Nf lo ss → x < lo → mem ss x = false
  | [], _, _ => rfl
  | (f, none) :: r, q, h => by
    obtain ⟨q1, rfl⟩ := q
    have : ¬ f ≤ x := by omega
    simp [mem_cons, mem_nil, cov, this]
  | (f, some l) :: r, q, h => by
    obtain ⟨q1, q2, q3⟩ := q
    have : ¬ f ≤ x := by omega
    rw [mem_cons, Nf.low q3 (by omega)]
    simp [cov, this]
/-- the normal form is told by its bytes -/
theorem Nf.uniq : ∀ {xs ys : List Span} {a b : Int}, Nf a xs → Nf b ys → (∀ x, mem xs x = mem ys x) → xs = ys
  | [], [], _, _, _, _, _ => rfl
  | [], (f, l) :: r, _, _, _, q, h => by
    have z := h f
    have : cov (f, l) f = true := by
      cases l with
      | none => simp [cov, below]
      | some i => simp [cov, below, q.2.1]
    rw [mem_nil, mem_cons, this] at z
    cases z
  | (f, l) :: r, [], _, _, q, _, h => by
    have z := h f
    have : cov (f, l) f = true := by
      cases l with
      | none => simp [cov, below]
      | some i => simp [cov, below, q.2.1]
    rw [mem_nil, mem_cons, this] at z
    cases z
  | (f, l) :: r, (g, k) :: t, a, b, q, p, h => by
    have cf : cov (f, l) f = true := by
      cases l with
      | none => simp [cov, below]
      | some i => simp [cov, below, q.2.1]
    have cg : cov (g, k) g = true := by
      cases k with
      | none => simp [cov, below]
      | some i => simp [cov, below, p.2.1]
    have lowr : ∀ x, x ≤ f → mem r x = false := fun x hx => by
      cases l with
      | none => rw [q.2]; rfl
      | some i => exact q.2.2.low (by have := q.2.1; omega)
    have lowt : ∀ x, x ≤ g → mem t x = false := fun x hx => by
      cases k with
      | none => rw [p.2]; rfl
      | some i => exact p.2.2.low (by have := p.2.1; omega)
    have fg : f = g := by
      rcases Int.lt_trichotomy f g with c | c | c
      · have z := h f
        rw [mem_cons, mem_cons, cf, lowt f (by omega)] at z
        have : cov (g, k) f = false := by simp [cov]; intro; omega
        rw [this] at z
        cases z
      · exact c
      · have z := h g
        rw [mem_cons, mem_cons, cg, lowr g (by omega)] at z
        have : cov (f, l) g = false := by simp [cov]; intro; omega
        rw [this] at z
        cases z
    subst fg
    cases l with
    | none =>
      cases k with
      | none => rw [q.2, p.2]
      | some j =>
        have z := h (j + 1)
        have e1 : cov (f, none) (j + 1) = true := by
          have := p.2.1
          simp [cov, below]; omega
        have e2 : cov (f, some j) (j + 1) = false := by simp [cov, below]; intro; omega
        rw [mem_cons, mem_cons, e1, e2, p.2.2.low (by omega)] at z
        cases z
    | some i =>
      cases k with
      | none =>
        have z := h (i + 1)
        have e1 : cov (f, none) (i + 1) = true := by
          have := q.2.1
          simp [cov, below]; omega
        have e2 : cov (f, some i) (i + 1) = false := by simp [cov, below]; intro; omega
        rw [mem_cons, mem_cons, e1, e2, q.2.2.low (by omega)] at z
        cases z
      | some j =>
        have ij : i = j := by
          rcases Int.lt_trichotomy i j with c | c | c
          · have z := h (i + 1)
            have e1 : cov (f, some j) (i + 1) = true := by
              have := q.2.1
              simp [cov, below]; omega
            have e2 : cov (f, some i) (i + 1) = false := by simp [cov, below]; intro; omega
            rw [mem_cons, mem_cons, e1, e2, q.2.2.low (by omega)] at z
            cases z
          · exact c
          · have z := h (j + 1)
            have e1 : cov (f, some i) (j + 1) = true := by
              have := p.2.1
              simp [cov, below]; omega
            have e2 : cov (f, some j) (j + 1) = false := by simp [cov, below]; intro; omega
            rw [mem_cons, mem_cons, e1, e2, p.2.2.low (by omega)] at z
            cases z
        subst ij
        have rest : r = t := Nf.uniq q.2.2 p.2.2 fun x => by
          by_cases hx : x ≤ i
          · rw [q.2.2.low (by omega), p.2.2.low (by omega)]
          · have z := h x
            have e2 : cov (f, some i) x = false := by simp [cov, below]; intro; omega
            rw [mem_cons, mem_cons, e2] at z
            exact z
        rw [rest]
theorem Nf.ok {lo : Int} (h0 : 0 ≤ lo) : ∀ {ss : List Span}, Nf lo ss → ∀ s ∈ ss, Ok s
  | [], _, s, hs => by cases hs
  | (f, none) :: r, q, s, hs => by
    rw [q.2] at hs
    rcases List.mem_cons.mp hs with rfl | hs
    · exact ⟨by have := q.1; show 0 ≤ f; omega, fun l e => by cases e⟩
    · cases hs
  | (f, some l) :: r, q, s, hs => by
    rcases List.mem_cons.mp hs with rfl | hs
    · exact ⟨by have := q.1; show 0 ≤ f; omega, fun i e => by cases e; exact q.2.1⟩
    · exact Nf.ok (by have := q.1; have := q.2.1; omega) q.2.2 s hs

/-! ### merging -/
def greater : Option Int → Option Int → Option Int
  | some a, some b => some (max a b)
  | _, _ => none
/-- may the next one be joined -/
def joins (l0 : Option Int) (f : Int) : Bool := match l0 with
  | none => true
  | some l => decide (f ≤ l + 1)
def mergeGo (cur : Span) : List Span → List Span
  | [] => [cur]
  | (f, l) :: r => if joins cur.2 f = true then mergeGo (cur.1, greater cur.2 l) r else cur :: mergeGo (f, l) r
def mergeAll : List Span → List Span
  | [] => []
  | s :: r => mergeGo s r
theorem cov_join {f0 f x : Int} {l0 l : Option Int} (hf : f0 ≤ f) (h1 : ∀ i, l0 = some i → f0 ≤ i) (h2 : ∀ i, l = some i → f ≤ i) (hj : joins l0 f = true) : cov (f0, greater l0 l) x = (cov (f0, l0) x || cov (f, l) x) := by
  cases l0 with
  | none =>
    simp only [greater, cov, below, Bool.and_true]
    by_cases c : f0 ≤ x
    · simp [c]
    · have : ¬ f ≤ x := by omega
      simp [c, this]
  | some i =>
    simp only [joins, decide_eq_true_eq] at hj
    have a := h1 i rfl
    cases l with
    | none =>
      simp only [greater, cov, below, Bool.and_true]
      rw [Bool.eq_iff_iff]
      simp only [decide_eq_true_eq, Bool.or_eq_true, Bool.and_eq_true]
      omega
    | some j =>
      have b := h2 j rfl
      simp only [greater, cov, below]
      rw [Bool.eq_iff_iff]
      simp only [decide_eq_true_eq, Bool.or_eq_true, Bool.and_eq_true]
      omega
theorem greater_ok {f0 : Int} {l0 l : Option Int} (h1 : ∀ i, l0 = some i → f0 ≤ i) : ∀ i, greater l0 l = some i → f0 ≤ i := by
  intro i e
  cases l0 with
  | none => cases e
  | some a =>
    cases l with
    | none => cases e
    | some b =>
      have := h1 a rfl
      simp only [greater, Option.some.injEq] at e
      omega
theorem mergeGo_ok : ∀ (r : List Span) (cur : Span) (lo : Int), lo ≤ cur.1 → (∀ l, cur.2 = some l → cur.1 ≤ l) → (∀ s ∈ r, cur.1 ≤ s.1 ∧ ∀ l, s.2 = some l → s.1 ≤ l) → r.Pairwise (fun a b => a.1 ≤ b.1) →
    Nf lo (mergeGo cur r) ∧ ∀ x, mem (mergeGo cur r) x = (cov cur x || mem r x)
  | [], (f, l), lo, h1, h2, _, _ => by
    refine ⟨?_, fun x => by simp [mergeGo, mem]⟩
    cases l with
    | none => exact ⟨h1, rfl⟩
    | some i => exact ⟨h1, h2 i rfl, True.intro⟩
  | (f, l) :: r, (f0, l0), lo, h1, h2, h3, hp => by
    have hp' := List.pairwise_cons.mp hp
    have hs := h3 (f, l) List.mem_cons_self
    unfold mergeGo
    by_cases hj : joins l0 f = true
    · rw [if_pos hj]
      obtain ⟨q1, q2⟩ := mergeGo_ok r (f0, greater l0 l) lo h1 (greater_ok h2) (fun s m => ⟨(h3 s (List.mem_cons_of_mem _ m)).1, (h3 s (List.mem_cons_of_mem _ m)).2⟩) hp'.2
      refine ⟨q1, fun x => ?_⟩
      rw [q2 x, cov_join hs.1 h2 hs.2 hj, mem_cons, Bool.or_assoc]
    · rw [if_neg hj]
      cases l0 with
      | none => exact absurd rfl hj
      | some i =>
        simp only [joins, decide_eq_true_eq] at hj
        obtain ⟨q1, q2⟩ := mergeGo_ok r (f, l) (i + 2) (show i + 2 ≤ f by omega) hs.2 (fun s m => ⟨hp'.1 s m, (h3 s (List.mem_cons_of_mem _ m)).2⟩) hp'.2
        refine ⟨⟨h1, h2 i rfl, q1⟩, fun x => ?_⟩
        rw [mem_cons, q2 x, mem_cons]
theorem mergeAll_ok {r : List Span} (h : ∀ s ∈ r, Ok s) (hp : r.Pairwise (fun a b => a.1 ≤ b.1)) : Nf 0 (mergeAll r) ∧ ∀ x, mem (mergeAll r) x = mem r x := by
  cases r with
  | nil => exact ⟨True.intro, fun _ => rfl⟩
  | cons s r =>
    have hp' := List.pairwise_cons.mp hp
    obtain ⟨q1, q2⟩ := mergeGo_ok r s 0 (h s List.mem_cons_self).f0 (h s List.mem_cons_self).l1 (fun t m => ⟨hp'.1 t m, (h t (List.mem_cons_of_mem _ m)).l1⟩) hp'.2
    exact ⟨q1, fun x => by rw [show mergeAll (s :: r) = mergeGo s r from rfl, q2 x, mem_cons]⟩
def byFirst (ss : List Span) : List Span := ss.mergeSort fun a b => decide (a.1 ≤ b.1)
theorem byFirst_sorted (ss : List Span) : (byFirst ss).Pairwise fun a b => a.1 ≤ b.1 := by
  have := List.pairwise_mergeSort (le := fun a b : Span => decide (a.1 ≤ b.1)) (fun a b c h1 h2 => by simp only [decide_eq_true_eq] at *; omega) (fun a b => by simp only [Bool.or_eq_true, decide_eq_true_eq]; omega) ss
  exact this.imp fun h => by simpa using h
theorem byFirst_mem {ss : List Span} {s : Span} : s ∈ byFirst ss ↔ s ∈ ss := List.mem_mergeSort
theorem mem_iff {ss : List Span} {x : Int} : mem ss x = true ↔ ∃ s ∈ ss, cov s x = true := by simp [mem]
theorem mem_byFirst (ss : List Span) (x : Int) : mem (byFirst ss) x = mem ss x := by
  rw [Bool.eq_iff_iff, mem_iff, mem_iff]
  exact ⟨fun ⟨s, h, q⟩ => ⟨s, byFirst_mem.mp h, q⟩, fun ⟨s, h, q⟩ => ⟨s, byFirst_mem.mpr h, q⟩⟩
/-- what an Area keeps -/
def norm (ss : List Span) : List Span := mergeAll (byFirst ss)
theorem norm_ok {ss : List Span} (h : ∀ s ∈ ss, Ok s) : Nf 0 (norm ss) ∧ ∀ x, mem (norm ss) x = mem ss x := by
  obtain ⟨q1, q2⟩ := mergeAll_ok (r := byFirst ss) (fun s m => h s (byFirst_mem.mp m)) (byFirst_sorted ss)
  exact ⟨q1, fun x => by rw [norm, q2 x, mem_byFirst]⟩

/-! ### what is left out, what is shared -/
def leftGo (b : Int) : List Span → List Span
  | [] => [(b, none)]
  | (f, l) :: r => (if b < f then [(b, some (f - 1))] else []) ++ (match l with
    | none => []
    | some i => leftGo (i + 1) r)
theorem leftGo_ok : ∀ (ss : List Span) (b : Int), Nf b ss → Nf b (leftGo b ss) ∧ ∀ x, mem (leftGo b ss) x = (decide (b ≤ x) && !mem ss x)
  | [], b, _ => ⟨⟨Int.le_refl _, rfl⟩, fun x => by simp [leftGo, mem, cov, below]⟩
  | (f, none) :: r, b, h => by
    obtain ⟨h1, rfl⟩ := h
    unfold leftGo
    by_cases c : b < f
    · rw [if_pos c]
      refine ⟨⟨Int.le_refl _, by omega, True.intro⟩, fun x => ?_⟩
      simp only [List.append_nil, mem_cons, mem_nil, cov, below, Bool.or_false, Bool.and_true]
      rw [Bool.eq_iff_iff]
      simp only [Bool.and_eq_true, decide_eq_true_eq, Bool.not_eq_true', decide_eq_false_iff_not]
      omega
    · rw [if_neg c]
      refine ⟨True.intro, fun x => ?_⟩
      simp only [List.append_nil, mem_cons, mem_nil, cov, below, Bool.or_false, Bool.and_true]
      rw [eq_comm, Bool.and_eq_false_iff]
      by_cases q : b ≤ x
      · right
        have : f ≤ x := by omega
        simp [this]
      · left; simp [q]
  | (f, some i) :: r, b, h => by
    obtain ⟨h1, h2, h3⟩ := h
    obtain ⟨q1, q2⟩ := leftGo_ok r (i + 1) (h3.mono (by omega))
    unfold leftGo
    by_cases c : b < f
    · rw [if_pos c]
      refine ⟨⟨Int.le_refl _, by omega, q1.mono (by omega)⟩, fun x => ?_⟩
      rw [mem_app, q2 x, mem_cons]
      simp only [mem_cons, mem_nil, cov, below, Bool.or_false]
      by_cases lo : x < i + 2
      · rw [h3.low lo, Bool.eq_iff_iff]
        simp only [Bool.and_eq_true, decide_eq_true_eq, Bool.or_eq_true, Bool.not_eq_true', Bool.not_false, Bool.or_false, and_true, Bool.and_eq_false_iff, decide_eq_false_iff_not]
        omega
      · cases mem r x with
        | true =>
          rw [Bool.eq_iff_iff]
          simp only [Bool.and_eq_true, decide_eq_true_eq, Bool.or_eq_true, Bool.not_true, Bool.or_true, Bool.false_eq_true, and_false, or_false, iff_false]
          omega
        | false =>
          rw [Bool.eq_iff_iff]
          simp only [Bool.and_eq_true, decide_eq_true_eq, Bool.or_eq_true, Bool.not_eq_true', Bool.not_false, Bool.or_false, and_true, Bool.and_eq_false_iff, decide_eq_false_iff_not]
          omega
    · rw [if_neg c, List.nil_append]
      refine ⟨q1.mono (by omega), fun x => ?_⟩
      rw [q2 x, mem_cons]
      simp only [cov, below]
      by_cases lo : x < i + 2
      · rw [h3.low lo, Bool.eq_iff_iff]
        simp only [Bool.and_eq_true, decide_eq_true_eq, Bool.not_eq_true', Bool.not_false, Bool.or_false, and_true, Bool.and_eq_false_iff, decide_eq_false_iff_not]
        omega
      · cases mem r x with
        | true => simp
        | false =>
          rw [Bool.eq_iff_iff]
          simp only [Bool.and_eq_true, decide_eq_true_eq, Bool.not_eq_true', Bool.not_false, Bool.or_false, and_true, Bool.and_eq_false_iff, decide_eq_false_iff_not]
          omega
def lesser : Option Int → Option Int → Option Int
  | none, b => b
  | some a, none => some a
  | some a, some b => some (min a b)
/-- the two's bytes, if there are any -/
def meet (s t : Span) : Option Span := if below (max s.1 t.1) (lesser s.2 t.2) = true then some (max s.1 t.1, lesser s.2 t.2) else none
def shared (xs ys : List Span) : List Span := xs.flatMap fun s => ys.filterMap fun t => meet s t
theorem below_lesser (x : Int) (a b : Option Int) : below x (lesser a b) = (below x a && below x b) := by
  cases a with
  | none => simp [lesser, below]
  | some i =>
    cases b with
    | none => simp [lesser, below]
    | some j =>
      simp only [lesser, below]
      rw [Bool.eq_iff_iff]
      simp only [decide_eq_true_eq, Bool.and_eq_true]
      omega
theorem below_mono {x y : Int} (h : y ≤ x) {l : Option Int} (b : below x l = true) : below y l = true := by
  cases l with
  | none => rfl
  | some i => simp only [below, decide_eq_true_eq] at *; omega
theorem meet_cov {s t : Span} {x : Int} : (∃ u, meet s t = some u ∧ cov u x = true) ↔ (cov s x = true ∧ cov t x = true) := by
  unfold meet cov
  constructor
  · rintro ⟨u, e, q⟩
    split at e
    · cases e
      simp only [below_lesser, Bool.and_eq_true, decide_eq_true_eq] at q ⊢
      exact ⟨⟨by omega, q.2.1⟩, by omega, q.2.2⟩
    · cases e
  · rintro ⟨q1, q2⟩
    simp only [Bool.and_eq_true, decide_eq_true_eq] at q1 q2
    have m : max s.1 t.1 ≤ x := by omega
    have b : below (max s.1 t.1) (lesser s.2 t.2) = true := by
      rw [below_lesser, below_mono m q1.2, below_mono m q2.2]; rfl
    refine ⟨_, if_pos b, ?_⟩
    simp only [below_lesser, Bool.and_eq_true, decide_eq_true_eq]
    exact ⟨m, q1.2, q2.2⟩
theorem shared_mem (xs ys : List Span) (x : Int) : mem (shared xs ys) x = (mem xs x && mem ys x) := by
  rw [Bool.eq_iff_iff, Bool.and_eq_true, mem_iff, mem_iff, mem_iff]
  unfold shared
  constructor
  · rintro ⟨u, hu, q⟩
    obtain ⟨s, hs, hu⟩ := List.mem_flatMap.mp hu
    obtain ⟨t, ht, e⟩ := List.mem_filterMap.mp hu
    obtain ⟨a, b⟩ := meet_cov.mp ⟨u, e, q⟩
    exact ⟨⟨s, hs, a⟩, t, ht, b⟩
  · rintro ⟨⟨s, hs, a⟩, t, ht, b⟩
    obtain ⟨u, e, q⟩ := meet_cov.mpr ⟨a, b⟩
    exact ⟨u, List.mem_flatMap.mpr ⟨s, hs, List.mem_filterMap.mpr ⟨t, ht, e⟩⟩, q⟩
theorem meet_ok {s t u : Span} (h : Ok s) (e : meet s t = some u) : Ok u := by
  unfold meet at e
  split at e
  · rename_i b
    cases e
    refine ⟨by have := h.f0; show 0 ≤ max s.1 t.1; omega, fun l q => ?_⟩
    dsimp only at q ⊢
    rw [q] at b
    simpa [below] using b
  · cases e
theorem shared_ok {xs ys : List Span} (h : ∀ s ∈ xs, Ok s) : ∀ u ∈ shared xs ys, Ok u := by
  intro u hu
  obtain ⟨s, hs, hu⟩ := List.mem_flatMap.mp hu
  obtain ⟨t, ht, e⟩ := List.mem_filterMap.mp hu
  exact meet_ok (h s hs) e
end MA

namespace MB

/-! ### levels of bytes, plain mathematics -/
abbrev St := Int × MA.Span
def lev : List St → Int → Int
  | [], _ => 0
  | (l, s) :: r, x => if MA.cov s x = true then l else lev r x
/-- stretches, ascending and apart, from p on -/
def Wf : Int → List St → Prop
  | _, [] => True
  | p, (l, f, none) :: r => 1 ≤ l ∧ l ≤ 2 ∧ p ≤ f ∧ r = []
  | p, (l, f, some i) :: r => 1 ≤ l ∧ l ≤ 2 ∧ p ≤ f ∧ f ≤ i ∧ Wf (i + 1) r
/-- the longest ones: q is the level of the byte before p -/
def Nf : Int → Int → List St → Prop
  | _, _, [] => True
  | p, q, (l, f, none) :: r => 1 ≤ l ∧ l ≤ 2 ∧ p ≤ f ∧ (f = p → l ≠ q) ∧ r = []
  | p, q, (l, f, some i) :: r => 1 ≤ l ∧ l ≤ 2 ∧ p ≤ f ∧ (f = p → l ≠ q) ∧ f ≤ i ∧ Nf (i + 1) l r
theorem Nf.wf : ∀ {ss : List St} {p q : Int}, Nf p q ss → Wf p ss
  | [], _, _, _ => True.intro
  | (l, f, none) :: r, _, _, h => ⟨h.1, h.2.1, h.2.2.1, h.2.2.2.2⟩
  | (l, f, some i) :: r, _, _, h => ⟨h.1, h.2.1, h.2.2.1, h.2.2.2.2.1, h.2.2.2.2.2.wf⟩
theorem Wf.mono {a b : Int} (h : b ≤ a) : ∀ {ss : List St}, Wf a ss → Wf b ss
  | [], _ => True.intro
  | (l, f, none) :: r, q => ⟨q.1, q.2.1, Int.le_trans h q.2.2.1, q.2.2.2⟩
  | (l, f, some i) :: r, q => ⟨q.1, q.2.1, Int.le_trans h q.2.2.1, q.2.2.2⟩
theorem lev_cons (l : Int) (s : MA.Span) (r : List St) (x : Int) : lev ((l, s) :: r) x = if MA.cov s x = true then l else lev r x := rfl
theorem cov_n {f x : Int} : (MA.cov (f, none) x = true) ↔ f ≤ x := by simp [MA.cov, MA.below]
theorem cov_s {f i x : Int} : (MA.cov (f, some i) x = true) ↔ (f ≤ x ∧ x ≤ i) := by simp [MA.cov, MA.below]
theorem Wf.low {p x : Int} : ∀ {ss : List St}, Wf p ss → x < p → lev ss x = 0
  | [], _, _ => rfl
  | (l, f, none) :: r, q, h => by
    obtain ⟨_, _, q3, rfl⟩ := q
    rw [lev_cons, if_neg (by rw [cov_n]; omega)]
    rfl
  | (l, f, some i) :: r, q, h => by
    obtain ⟨_, _, q3, q4, q5⟩ := q
    rw [lev_cons, if_neg (by rw [cov_s]; omega)]
    exact q5.low (by omega)
theorem Nf.at_ {p q : Int} (hq : 1 ≤ q) : ∀ {ss : List St}, Nf p q ss → lev ss p ≠ q
  | [], _ => by show (0 : Int) ≠ q; omega
  | (l, f, none) :: r, h => by
    obtain ⟨h1, h2, h3, h4, rfl⟩ := h
    rw [lev_cons]
    split
    · rename_i c
      rw [cov_n] at c
      exact h4 (by omega)
    · show (0 : Int) ≠ q
      omega
  | (l, f, some i) :: r, h => by
    obtain ⟨h1, h2, h3, h4, h5, h6⟩ := h
    rw [lev_cons]
    split
    · rename_i c
      rw [cov_s] at c
      exact h4 (by omega)
    · rename_i c
      rw [cov_s] at c
      rw [h6.wf.low (by omega)]
      omega
theorem Wf.rng : ∀ {ss : List St} {p : Int}, Wf p ss → ∀ x, 0 ≤ lev ss x ∧ lev ss x ≤ 2
  | [], _, _, x => by show (0 : Int) ≤ 0 ∧ (0 : Int) ≤ 2; omega
  | (l, f, none) :: r, _, h, x => by
    obtain ⟨h1, h2, h3, rfl⟩ := h
    rw [lev_cons]
    split
    · omega
    · show (0 : Int) ≤ 0 ∧ (0 : Int) ≤ 2; omega
  | (l, f, some i) :: r, _, h, x => by
    obtain ⟨h1, h2, h3, h4, h5⟩ := h
    rw [lev_cons]
    split
    · omega
    · exact h5.rng x
/-- the longest stretches are told by the levels -/
theorem Nf.uniq : ∀ {xs ys : List St} {p q : Int}, Nf p q xs → Nf p q ys → (∀ x, p ≤ x → lev xs x = lev ys x) → xs = ys
  | [], [], _, _, _, _, _ => rfl
  | [], (l, f, e) :: r, p, q, _, k, h => by
    have hf : p ≤ f ∧ 1 ≤ l ∧ MA.cov (f, e) f = true := by
      cases e with
      | none => exact ⟨k.2.2.1, k.1, cov_n.mpr (Int.le_refl _)⟩
      | some i => exact ⟨k.2.2.1, k.1, cov_s.mpr ⟨Int.le_refl _, k.2.2.2.2.1⟩⟩
    have z := h f hf.1
    rw [lev_cons, if_pos hf.2.2] at z
    have : (0 : Int) = l := z
    omega
  | (l, f, e) :: r, [], p, q, k, _, h => by
    have hf : p ≤ f ∧ 1 ≤ l ∧ MA.cov (f, e) f = true := by
      cases e with
      | none => exact ⟨k.2.2.1, k.1, cov_n.mpr (Int.le_refl _)⟩
      | some i => exact ⟨k.2.2.1, k.1, cov_s.mpr ⟨Int.le_refl _, k.2.2.2.2.1⟩⟩
    have z := h f hf.1
    rw [lev_cons, if_pos hf.2.2] at z
    have : l = (0 : Int) := z
    omega
  | (l, f, e) :: r, (m, g, d) :: t, p, q, k, j, h => by
    have hf : p ≤ f ∧ 1 ≤ l ∧ MA.cov (f, e) f = true ∧ (∀ x, x < f → lev ((l, f, e) :: r) x = 0) := by
      cases e with
      | none => exact ⟨k.2.2.1, k.1, cov_n.mpr (Int.le_refl _), fun x hx => Wf.low (p := f) (ss := (l, f, none) :: r) ⟨k.1, k.2.1, Int.le_refl _, k.2.2.2.2⟩ hx⟩
      | some i => exact ⟨k.2.2.1, k.1, cov_s.mpr ⟨Int.le_refl _, k.2.2.2.2.1⟩, fun x hx => Wf.low (p := f) (ss := (l, f, some i) :: r) ⟨k.1, k.2.1, Int.le_refl _, k.2.2.2.2.1, k.2.2.2.2.2.wf⟩ hx⟩
    have hg : p ≤ g ∧ 1 ≤ m ∧ MA.cov (g, d) g = true ∧ (∀ x, x < g → lev ((m, g, d) :: t) x = 0) := by
      cases d with
      | none => exact ⟨j.2.2.1, j.1, cov_n.mpr (Int.le_refl _), fun x hx => Wf.low (p := g) (ss := (m, g, none) :: t) ⟨j.1, j.2.1, Int.le_refl _, j.2.2.2.2⟩ hx⟩
      | some i => exact ⟨j.2.2.1, j.1, cov_s.mpr ⟨Int.le_refl _, j.2.2.2.2.1⟩, fun x hx => Wf.low (p := g) (ss := (m, g, some i) :: t) ⟨j.1, j.2.1, Int.le_refl _, j.2.2.2.2.1, j.2.2.2.2.2.wf⟩ hx⟩
    have vf : lev ((l, f, e) :: r) f = l := by rw [lev_cons, if_pos hf.2.2.1]
    have vg : lev ((m, g, d) :: t) g = m := by rw [lev_cons, if_pos hg.2.2.1]
    have fg : f = g := by
      rcases Int.lt_trichotomy f g with c | c | c
      · have z := h f hf.1
        rw [vf, hg.2.2.2 f c] at z
        omega
      · exact c
      · have z := h g hg.1
        rw [vg, hf.2.2.2 g c] at z
        omega
    subst fg
    have lm : l = m := by
      have z := h f hf.1
      rw [vf, vg] at z
      exact z
    subst lm
    cases e with
    | none =>
      cases d with
      | none => rw [k.2.2.2.2, j.2.2.2.2]
      | some i =>
        have z := h (i + 1) (by have := j.2.2.2.2.1; omega)
        rw [lev_cons, if_pos (cov_n.mpr (by have := j.2.2.2.2.1; omega)), lev_cons, if_neg (by rw [cov_s]; omega)] at z
        exact absurd z.symm (Nf.at_ j.1 j.2.2.2.2.2)
    | some i =>
      cases d with
      | none =>
        have z := h (i + 1) (by have := k.2.2.2.2.1; omega)
        rw [lev_cons, if_neg (by rw [cov_s]; omega), lev_cons, if_pos (cov_n.mpr (by have := k.2.2.2.2.1; omega))] at z
        exact absurd z (Nf.at_ k.1 k.2.2.2.2.2)
      | some i' =>
        have ii : i = i' := by
          rcases Int.lt_trichotomy i i' with c | c | c
          · have z := h (i + 1) (by have := k.2.2.2.2.1; omega)
            rw [lev_cons, if_neg (by rw [cov_s]; omega), lev_cons, if_pos (cov_s.mpr (by have := k.2.2.2.2.1; omega))] at z
            exact absurd z (Nf.at_ k.1 k.2.2.2.2.2)
          · exact c
          · have z := h (i' + 1) (by have := j.2.2.2.2.1; omega)
            rw [lev_cons, if_pos (cov_s.mpr (by have := j.2.2.2.2.1; omega)), lev_cons, if_neg (by rw [cov_s]; omega)] at z
            exact absurd z.symm (Nf.at_ j.1 j.2.2.2.2.2)
        subst ii
        have rt : r = t := Nf.uniq k.2.2.2.2.2 j.2.2.2.2.2 fun x hx => by
          have z := h x (by have := k.2.2.2.2.1; omega)
          rw [lev_cons, if_neg (by rw [cov_s]; omega), lev_cons, if_neg (by rw [cov_s]; omega)] at z
          exact z
        rw [rt]

/-! ### where levels may change -/
def ends : List St → List Int
  | [] => []
  | (_, f, none) :: r => f :: ends r
  | (_, f, some i) :: r => f :: (i + 1) :: ends r
def Cst (F : List Int) (g : Int → Int) : Prop := ∀ x y, x ≤ y → (∀ b ∈ F, ¬ (x < b ∧ b ≤ y)) → g x = g y
theorem Cst.mono {F G : List Int} {g : Int → Int} (h : Cst F g) (k : ∀ b ∈ F, b ∈ G) : Cst G g := fun x y q n => h x y q fun b hb => n b (k b hb)
theorem cst_lev : ∀ ss : List St, Cst (ends ss) (lev ss)
  | [], x, y, _, _ => rfl
  | (l, f, none) :: r, x, y, q, n => by
    have h1 := n f List.mem_cons_self
    have h2 := cst_lev r x y q fun b hb => n b (List.mem_cons_of_mem _ hb)
    rw [lev_cons, lev_cons, h2]
    have e : (MA.cov (f, none) x = true) ↔ (MA.cov (f, none) y = true) := by rw [cov_n, cov_n]; omega
    simp only [e]
  | (l, f, some i) :: r, x, y, q, n => by
    have h1 := n f List.mem_cons_self
    have h3 := n (i + 1) (List.mem_cons_of_mem _ List.mem_cons_self)
    have h2 := cst_lev r x y q fun b hb => n b (List.mem_cons_of_mem _ (List.mem_cons_of_mem _ hb))
    rw [lev_cons, lev_cons, h2]
    have e : (MA.cov (f, some i) x = true) ↔ (MA.cov (f, some i) y = true) := by rw [cov_s, cov_s]; omega
    simp only [e]
theorem ends_pos : ∀ {ss : List St} {p : Int}, 0 ≤ p → Wf p ss → ∀ b ∈ ends ss, 0 ≤ b
  | [], _, _, _, b, hb => by cases hb
  | (l, f, none) :: r, p, h0, h, b, hb => by
    obtain ⟨h1, h2, h3, rfl⟩ := h
    simp only [ends, List.mem_cons, List.not_mem_nil, or_false] at hb
    omega
  | (l, f, some i) :: r, p, h0, h, b, hb => by
    obtain ⟨h1, h2, h3, h4, h5⟩ := h
    simp only [ends, List.mem_cons] at hb
    rcases hb with rfl | rfl | hb
    · omega
    · omega
    · exact ends_pos (by omega) h5 b hb
theorem ends_len : ∀ ss : List St, (ends ss).length ≤ 2 * ss.length
  | [] => Nat.le_refl _
  | (l, f, none) :: r => by
    have := ends_len r
    simp only [ends, List.length_cons]; omega
  | (l, f, some i) :: r => by
    have := ends_len r
    simp only [ends, List.length_cons]; omega
/-- the ends of the longest stretches are places of change -/
theorem Nf.change : ∀ {ss : List St} {p q : Int}, Nf p q ss → ∀ b ∈ ends ss, (b = p ∧ lev ss p ≠ q) ∨ (p < b ∧ lev ss b ≠ lev ss (b - 1))
  | [], _, _, _, b, hb => by cases hb
  | (l, f, none) :: r, p, q, h, b, hb => by
    obtain ⟨h1, h2, h3, h4, rfl⟩ := h
    simp only [ends, List.mem_cons, List.not_mem_nil, or_false] at hb
    subst hb
    by_cases c : b = p
    · left
      refine ⟨c, ?_⟩
      rw [lev_cons, if_pos (cov_n.mpr (by omega))]
      exact h4 c
    · right
      refine ⟨by omega, ?_⟩
      rw [lev_cons, if_pos (cov_n.mpr (by omega)), lev_cons, if_neg (by rw [cov_n]; omega)]
      show l ≠ (0 : Int)
      omega
  | (l, f, some i) :: r, p, q, h, b, hb => by
    obtain ⟨h1, h2, h3, h4, h5, h6⟩ := h
    simp only [ends, List.mem_cons] at hb
    rcases hb with rfl | rfl | hb
    · by_cases c : b = p
      · left
        refine ⟨c, ?_⟩
        rw [lev_cons, if_pos (cov_s.mpr (by omega))]
        exact h4 c
      · right
        refine ⟨by omega, ?_⟩
        rw [lev_cons, if_pos (cov_s.mpr (by omega)), lev_cons, if_neg (by rw [cov_s]; omega), h6.wf.low (by omega)]
        omega
    · right
      refine ⟨by omega, ?_⟩
      rw [lev_cons, if_neg (by rw [cov_s]; omega), lev_cons, if_pos (cov_s.mpr (by omega))]
      exact Nf.at_ h1 h6
    · right
      rcases Nf.change h6 b hb with ⟨rfl, c⟩ | ⟨c1, c2⟩
      · refine ⟨by omega, ?_⟩
        rw [lev_cons, if_neg (by rw [cov_s]; omega), lev_cons, if_pos (cov_s.mpr (by omega))]
        exact c
      · refine ⟨by omega, ?_⟩
        rw [lev_cons, if_neg (by rw [cov_s]; omega), lev_cons, if_neg (by rw [cov_s]; omega)]
        exact c2
theorem Cst.mem {F : List Int} {g : Int → Int} (h : Cst F g) {b : Int} (n : g b ≠ g (b - 1)) : b ∈ F := by
  refine Decidable.byContradiction fun c => n (h (b - 1) b (by omega) fun d hd k => ?_).symm
  have : d = b := by omega
  exact c (this ▸ hd)
/-- ends of the longest stretches lie among the places at which levels may change -/
theorem Nf.ends_in {ss : List St} {F : List Int} (h : Nf 0 0 ss) (h0 : (0 : Int) ∈ F) {g : Int → Int} (hg : ∀ x, 0 ≤ x → lev ss x = g x) (k : Cst F g) : ∀ b ∈ ends ss, b ∈ F := fun b hb => by
  rcases h.change b hb with ⟨rfl, _⟩ | ⟨c1, c2⟩
  · exact h0
  · rw [hg b (by omega), hg (b - 1) (by omega)] at c2
    exact k.mem c2
theorem Wf.firsts : ∀ {ss : List St} {p : Int}, Wf p ss → (ss.map fun s => s.2.1).Pairwise (· < ·) ∧ ∀ b ∈ ss.map (fun s => s.2.1), p ≤ b
  | [], _, _ => ⟨List.Pairwise.nil, fun b hb => by cases hb⟩
  | (l, f, none) :: r, p, h => by
    obtain ⟨h1, h2, h3, rfl⟩ := h
    exact ⟨by simp, fun b hb => by simp only [List.map_cons, List.map_nil, List.mem_singleton] at hb; omega⟩
  | (l, f, some i) :: r, p, h => by
    obtain ⟨h1, h2, h3, h4, h5⟩ := h
    obtain ⟨q1, q2⟩ := h5.firsts
    refine ⟨List.pairwise_cons.mpr ⟨fun b hb => by have := q2 b hb; dsimp only; omega, q1⟩, fun b hb => ?_⟩
    simp only [List.map_cons, List.mem_cons] at hb
    rcases hb with rfl | hb
    · exact h3
    · have := q2 b hb; omega
theorem first_end : ∀ (ss : List St), ∀ b ∈ ss.map (fun s => s.2.1), b ∈ ends ss
  | [], b, hb => by cases hb
  | (l, f, none) :: r, b, hb => by
    simp only [List.map_cons, List.mem_cons, ends] at hb ⊢
    exact hb.imp id (first_end r b)
  | (l, f, some i) :: r, b, hb => by
    simp only [List.map_cons, List.mem_cons, ends] at hb ⊢
    exact hb.imp id fun h => .inr (first_end r b h)
theorem Wf.len_le {ss : List St} {F : List Int} {p : Int} (h : Wf p ss) (k : ∀ b ∈ ends ss, b ∈ F) : ss.length ≤ F.length := by
  have := DL.nodup_le (h.firsts.1.imp fun h => Int.ne_of_lt h) fun x hx => k x (first_end ss x hx)
  rwa [List.length_map] at this

/-! ### step functions -/
def stp (d : Int) : List (Int × Int) → Int → Int
  | [], _ => d
  | (b, k) :: r, x => if b ≤ x then stp k r x else d
def Asc (ps : List (Int × Int)) : Prop := (ps.map Prod.fst).Pairwise (· < ·)
theorem Asc.tail {c : Int × Int} {r : List (Int × Int)} (h : Asc (c :: r)) : Asc r ∧ ∀ e ∈ r, c.1 < e.1 := by
  obtain ⟨h1, h2⟩ := List.pairwise_cons.mp (show ((c :: r).map Prod.fst).Pairwise (· < ·) from h)
  exact ⟨h2, fun e he => h1 e.1 (List.mem_map_of_mem he)⟩
theorem stp_low {d x : Int} : ∀ {r : List (Int × Int)}, (∀ e ∈ r, x < e.1) → stp d r x = d
  | [], _ => rfl
  | (b, k) :: r, h => by
    have := h (b, k) List.mem_cons_self
    dsimp only at this
    unfold stp
    rw [if_neg (by omega)]
theorem stp_cst : ∀ (r : List (Int × Int)) (d : Int), Cst (r.map Prod.fst) (stp d r)
  | [], d, x, y, _, _ => rfl
  | (b, k) :: r, d, x, y, q, n => by
    have h1 := n b List.mem_cons_self
    have h2 := stp_cst r k x y q fun c hc => n c (List.mem_cons_of_mem _ hc)
    unfold stp
    rw [h2]
    by_cases c : b ≤ x
    · rw [if_pos c, if_pos (by omega)]
    · rw [if_neg c, if_neg (by omega)]
theorem stp_in {P : Int → Prop} : ∀ (r : List (Int × Int)) (d : Int), P d → (∀ e ∈ r, P e.2) → ∀ x, P (stp d r x)
  | [], d, h, _, x => h
  | (b, k) :: r, d, h, q, x => by
    unfold stp
    split
    · exact stp_in r k (q (b, k) List.mem_cons_self) (fun e he => q e (List.mem_cons_of_mem _ he)) x
    · exact h
theorem stp_go {g : Int → Int} : ∀ (r : List Int) (b0 : Int), (∀ c ∈ r, b0 < c) → r.Pairwise (· < ·) → (∀ y z, b0 ≤ y → y ≤ z → (∀ b ∈ r, ¬ (y < b ∧ b ≤ z)) → g y = g z) → ∀ x, b0 ≤ x → stp (g b0) (r.map fun b => (b, g b)) x = g x
  | [], b0, _, _, h, x, hx => h b0 x (Int.le_refl _) hx fun b hb => by cases hb
  | c :: r, b0, h1, h2, h, x, hx => by
    obtain ⟨p1, p2⟩ := List.pairwise_cons.mp h2
    have hc := h1 c List.mem_cons_self
    show (if c ≤ x then stp (g c) (r.map fun b => (b, g b)) x else g b0) = g x
    by_cases q : c ≤ x
    · rw [if_pos q]
      refine stp_go r c p1 p2 (fun y z hy hz n => h y z (by omega) hz fun b hb k => ?_) x q
      rcases List.mem_cons.mp hb with rfl | hb
      · omega
      · exact n b hb k
    · rw [if_neg q]
      refine h b0 x (Int.le_refl _) hx fun b hb k => ?_
      rcases List.mem_cons.mp hb with rfl | hb
      · omega
      · have := p1 b hb; omega
/-- the cells' first bytes: 0 and others, none below -/
structure Fs (F : List Int) : Prop where
  ex : ∃ r, F = 0 :: r
  asc : F.Pairwise (· < ·)
theorem Fs.zero {F : List Int} (h : Fs F) : (0 : Int) ∈ F := by
  obtain ⟨r, rfl⟩ := h.ex
  exact List.mem_cons_self
theorem Fs.pos {F : List Int} (h : Fs F) : ∀ b ∈ F, 0 ≤ b := by
  obtain ⟨⟨r, rfl⟩, h2⟩ := h
  intro b hb
  rcases List.mem_cons.mp hb with rfl | hb
  · exact Int.le_refl _
  · exact Int.le_of_lt ((List.pairwise_cons.mp h2).1 b hb)
theorem fs_asc {E : List Int} (h : ∀ b ∈ E, 0 ≤ b) : Fs (DL.asc (0 :: E)) := by
  have a := DL.asc_asc (0 :: E)
  have m : (0 : Int) ∈ DL.asc (0 :: E) := DL.asc_mem.mpr List.mem_cons_self
  refine ⟨?_, a⟩
  cases q : DL.asc (0 :: E) with
  | nil => rw [q] at m; cases m
  | cons x r =>
    rw [q] at a m
    have hx : x ∈ 0 :: E := DL.asc_mem.mp (by rw [q]; exact List.mem_cons_self)
    have x0 : 0 ≤ x := by
      rcases List.mem_cons.mp hx with rfl | hx
      · exact Int.le_refl _
      · exact h x hx
    rcases List.mem_cons.mp m with e | m
    · exact ⟨r, by rw [← e]⟩
    · have := (List.pairwise_cons.mp a).1 0 m
      omega
theorem stp_map {F : List Int} {g : Int → Int} (h : Fs F) (k : Cst F g) {x : Int} (hx : 0 ≤ x) : stp 0 (F.map fun b => (b, g b)) x = g x := by
  obtain ⟨⟨r, rfl⟩, h2⟩ := h
  obtain ⟨p1, p2⟩ := List.pairwise_cons.mp h2
  show (if (0 : Int) ≤ x then stp (g 0) (r.map fun b => (b, g b)) x else 0) = g x
  rw [if_pos hx]
  refine stp_go r 0 p1 p2 (fun y z hy hz n => k y z hz fun b hb q => ?_) x hx
  rcases List.mem_cons.mp hb with rfl | hb
  · omega
  · exact n b hb q

/-! ### stretches of cells -/
def lastOf : List (Int × Int) → Option Int
  | [] => none
  | (b, _) :: _ => some (b - 1)
def stGo : Option (Int × Int) → List (Int × Int) → List St
  | none, [] => []
  | some (l, f), [] => [(l, f, none)]
  | none, (b, k) :: r => if k = 0 then stGo none r else stGo (some (k, b)) r
  | some (l, f), (b, k) :: r => if k = l then stGo (some (l, f)) r else (l, f, some (b - 1)) :: (if k = 0 then stGo none r else stGo (some (k, b)) r)
def Lok (ps : List (Int × Int)) : Prop := ∀ e ∈ ps, 0 ≤ e.2 ∧ e.2 ≤ 2
theorem stGo_ok : ∀ (r : List (Int × Int)), Asc r → Lok r →
    (∀ p q : Int, (∀ e ∈ r, p < e.1) → Nf p q (stGo none r) ∧ ∀ x, lev (stGo none r) x = stp 0 r x) ∧
    (∀ l f p q : Int, p ≤ f → (f = p → l ≠ q) → 1 ≤ l → l ≤ 2 → (∀ e ∈ r, f < e.1) → Nf p q (stGo (some (l, f)) r) ∧ ∀ x, lev (stGo (some (l, f)) r) x = if f ≤ x then stp l r x else 0)
  | [], _, _ => by
    refine ⟨fun p q _ => ⟨True.intro, fun x => rfl⟩, fun l f p q h1 h2 h3 h4 _ => ⟨⟨h3, h4, h1, h2, rfl⟩, fun x => ?_⟩⟩
    show lev [(l, f, none)] x = if f ≤ x then l else 0
    rw [lev_cons]
    simp only [cov_n]
    rfl
  | (b, k) :: r, ha, hl => by
    obtain ⟨a1, a2⟩ := ha.tail
    obtain ⟨i1, i2⟩ := stGo_ok r a1 fun e he => hl e (List.mem_cons_of_mem _ he)
    obtain ⟨k0, k2⟩ := hl (b, k) List.mem_cons_self
    dsimp only at a2 k0 k2
    refine ⟨fun p q hp => ?_, fun l f p q h1 h2 h3 h4 hp => ?_⟩
    · have pb := hp (b, k) List.mem_cons_self
      dsimp only at pb
      unfold stGo
      by_cases c : k = 0
      · rw [if_pos c]
        obtain ⟨j1, j2⟩ := i1 p q fun e he => by have := a2 e he; omega
        refine ⟨j1, fun x => ?_⟩
        rw [j2 x]
        show stp 0 r x = if b ≤ x then stp k r x else 0
        rw [c]
        by_cases d : b ≤ x
        · rw [if_pos d]
        · rw [if_neg d]
          exact stp_low fun e he => by have := a2 e he; omega
      · rw [if_neg c]
        obtain ⟨j1, j2⟩ := i2 k b p q (by omega) (by omega) (by omega) k2 a2
        exact ⟨j1, j2⟩
    · have pb := hp (b, k) List.mem_cons_self
      dsimp only at pb
      unfold stGo
      by_cases c : k = l
      · rw [if_pos c]
        obtain ⟨j1, j2⟩ := i2 l f p q h1 h2 h3 h4 fun e he => by have := a2 e he; omega
        refine ⟨j1, fun x => ?_⟩
        rw [j2 x]
        by_cases d : f ≤ x
        · rw [if_pos d, if_pos d]
          show stp l r x = if b ≤ x then stp k r x else l
          by_cases d2 : b ≤ x
          · rw [if_pos d2, c]
          · rw [if_neg d2]
            exact stp_low fun e he => by have := a2 e he; omega
        · rw [if_neg d, if_neg d]
      · rw [if_neg c]
        have tl : ∃ T, T = (if k = 0 then stGo none r else stGo (some (k, b)) r) ∧ Nf (b - 1 + 1) l T ∧ ∀ x, lev T x = if b ≤ x then stp k r x else 0 := by
          refine ⟨_, rfl, ?_⟩
          by_cases c0 : k = 0
          · rw [if_pos c0]
            obtain ⟨j1, j2⟩ := i1 (b - 1 + 1) l fun e he => by have := a2 e he; omega
            refine ⟨j1, fun x => ?_⟩
            rw [j2 x, c0]
            by_cases d : b ≤ x
            · rw [if_pos d]
            · rw [if_neg d]
              exact stp_low fun e he => by have := a2 e he; omega
          · rw [if_neg c0]
            exact i2 k b (b - 1 + 1) l (by omega) (fun _ => c) (by omega) k2 a2
        obtain ⟨T, eT, t1, t2⟩ := tl
        rw [← eT]
        refine ⟨⟨h3, h4, h1, h2, by omega, t1⟩, fun x => ?_⟩
        rw [lev_cons, t2 x]
        simp only [cov_s]
        show (if f ≤ x ∧ x ≤ b - 1 then l else if b ≤ x then stp k r x else 0) = if f ≤ x then (if b ≤ x then stp k r x else l) else 0
        by_cases d : f ≤ x
        · by_cases d2 : b ≤ x
          · rw [if_neg (by omega), if_pos d2, if_pos d, if_pos d2]
          · rw [if_pos (by omega), if_pos d, if_neg d2]
        · rw [if_neg (by omega), if_neg (by omega), if_neg d]
theorem st0_ok {ps : List (Int × Int)} (h : Asc ps) (hl : Lok ps) (h0 : ∀ e ∈ ps, 0 ≤ e.1) : Nf 0 0 (stGo none ps) ∧ ∀ x, lev (stGo none ps) x = stp 0 ps x := by
  cases ps with
  | nil => exact ⟨True.intro, fun _ => rfl⟩
  | cons c r =>
    obtain ⟨b, k⟩ := c
    obtain ⟨a1, a2⟩ := h.tail
    obtain ⟨k0, k2⟩ := hl (b, k) List.mem_cons_self
    have b0 := h0 (b, k) List.mem_cons_self
    dsimp only at a2 k0 k2 b0
    obtain ⟨i1, i2⟩ := stGo_ok r a1 fun e he => hl e (List.mem_cons_of_mem _ he)
    by_cases c0 : k = 0
    · obtain ⟨j1, j2⟩ := i1 0 0 fun e he => by have := a2 e he; omega
      have e : stGo none ((b, k) :: r) = stGo none r := by
        conv => lhs; unfold stGo
        rw [if_pos c0]
      rw [e]
      refine ⟨j1, fun x => ?_⟩
      rw [j2 x]
      show stp 0 r x = if b ≤ x then stp k r x else 0
      rw [c0]
      by_cases d : b ≤ x
      · rw [if_pos d]
      · rw [if_neg d]
        exact stp_low fun e he => by have := a2 e he; omega
    · obtain ⟨j1, j2⟩ := i2 k b 0 0 b0 (by omega) (by omega) k2 a2
      have e : stGo none ((b, k) :: r) = stGo (some (k, b)) r := by
        conv => lhs; unfold stGo
        rw [if_neg c0]
      rw [e]
      exact ⟨j1, j2⟩

/-! ### holdings told by their levels -/
/-- the stretches of a level for each byte, by cells -/
def mk (F : List Int) (g : Int → Int) : List St := stGo none (F.map fun b => (b, g b))
def bnd (several : List (List St)) : List Int := DL.asc (0 :: several.flatMap ends)
/-- the longest stretches; levels change among F alone -/
structure Hd (F : List Int) (ss : List St) : Prop where
  nf : Nf 0 0 ss
  inn : ∀ b ∈ ends ss, b ∈ F
theorem Hd.wf {F : List Int} {ss : List St} (h : Hd F ss) : Wf 0 ss := h.nf.wf
theorem Hd.cst {F : List Int} {ss : List St} (h : Hd F ss) : Cst F (lev ss) := (cst_lev ss).mono h.inn
theorem Hd.rng {F : List Int} {ss : List St} (h : Hd F ss) (x : Int) : 0 ≤ lev ss x ∧ lev ss x ≤ 2 := h.wf.rng x
theorem Hd.len {F : List Int} {ss : List St} (h : Hd F ss) : ss.length ≤ F.length := h.wf.len_le h.inn
theorem Hd.ext {F G : List Int} {xs ys : List St} (h : Hd F xs) (k : Hd G ys) (e : ∀ x, 0 ≤ x → lev xs x = lev ys x) : xs = ys := Nf.uniq h.nf k.nf e
theorem mk_hd {F G : List Int} {g : Int → Int} (hF : Fs F) (k : Cst F g) (r : ∀ x, 0 ≤ g x ∧ g x ≤ 2) (h0 : (0 : Int) ∈ G) (kG : Cst G g) : Hd G (mk F g) ∧ ∀ x, 0 ≤ x → lev (mk F g) x = g x := by
  have a : Asc (F.map fun b => (b, g b)) := by
    have e : (F.map fun b => (b, g b)).map Prod.fst = F := by rw [List.map_map]; exact List.map_id F
    unfold Asc
    rw [e]
    exact hF.asc
  have l : Lok (F.map fun b => (b, g b)) := fun e he => by
    obtain ⟨b, _, rfl⟩ := List.mem_map.mp he
    exact r b
  obtain ⟨q1, q2⟩ := st0_ok a l fun e he => by
    obtain ⟨b, hb, rfl⟩ := List.mem_map.mp he
    exact hF.pos b hb
  have q3 : ∀ x, 0 ≤ x → lev (mk F g) x = g x := fun x hx => by rw [mk, q2 x, stp_map hF k hx]
  exact ⟨⟨q1, Nf.ends_in q1 h0 q3 kG⟩, q3⟩
theorem bnd_fs {several : List (List St)} (h : ∀ ss ∈ several, Wf 0 ss) : Fs (bnd several) := fs_asc fun b hb => by
  obtain ⟨ss, h1, h2⟩ := List.mem_flatMap.mp hb
  exact ends_pos (Int.le_refl _) (h ss h1) b h2
theorem bnd_cst {several : List (List St)} {ss : List St} (h : ss ∈ several) : Cst (bnd several) (lev ss) :=
  (cst_lev ss).mono fun b hb => DL.asc_mem.mpr (List.mem_cons_of_mem _ (List.mem_flatMap.mpr ⟨ss, h, hb⟩))
theorem bnd_len {several : List (List St)} {F : List Int} (h0 : (0 : Int) ∈ F) (h : ∀ ss ∈ several, ∀ b ∈ ends ss, b ∈ F) : (bnd several).length ≤ F.length := DL.asc_le fun x hx => by
  rcases List.mem_cons.mp hx with rfl | hx
  · exact h0
  · obtain ⟨ss, h1, h2⟩ := List.mem_flatMap.mp hx
    exact h ss h1 x h2
/-- asked at the cells' first bytes is asked at all -/
theorem all_cells {F : List Int} (hF : Fs F) {g h : Int → Int} {p : Int → Int → Bool} (kg : Cst F g) (kh : Cst F h) : (F.all fun b => p (g b) (h b)) = true ↔ ∀ x, 0 ≤ x → p (g x) (h x) = true := by
  rw [List.all_eq_true]
  constructor
  · intro a x hx
    have kk : ∃ b ∈ F, b ≤ x ∧ ∀ c ∈ F, ¬ (b < c ∧ c ≤ x) := by
      obtain ⟨⟨r, rfl⟩, ha⟩ := hF
      suffices ∀ (r : List Int) (b0 : Int), (b0 :: r).Pairwise (· < ·) → b0 ≤ x → ∃ b ∈ b0 :: r, b ≤ x ∧ ∀ c ∈ b0 :: r, ¬ (b < c ∧ c ≤ x) from this r 0 ha hx
      intro r
      induction r with
      | nil => exact fun b0 _ h => ⟨b0, List.mem_cons_self, h, fun c hc => by rw [List.mem_singleton] at hc; omega⟩
      | cons d r ih =>
        intro b0 hp h
        obtain ⟨p1, p2⟩ := List.pairwise_cons.mp hp
        by_cases q : d ≤ x
        · obtain ⟨b, h1, h2, h3⟩ := ih d p2 q
          refine ⟨b, List.mem_cons_of_mem _ h1, h2, fun c hc => ?_⟩
          rcases List.mem_cons.mp hc with rfl | hc
          · have := p1 b h1; omega
          · exact h3 c hc
        · refine ⟨b0, List.mem_cons_self, h, fun c hc => ?_⟩
          rcases List.mem_cons.mp hc with rfl | hc
          · omega
          · have hd : d ≤ c := by
              rcases List.mem_cons.mp hc with rfl | hc
              · exact Int.le_refl _
              · exact Int.le_of_lt ((List.pairwise_cons.mp p2).1 c hc)
            omega
    obtain ⟨b, h1, h2, h3⟩ := kk
    have q := a b h1
    rwa [kg b x h2 h3, kh b x h2 h3] at q
  · exact fun a b hb => a b (hF.pos b hb)

/-! ### the places of change -/
def chP (d : Int) : List (Int × Int) → List Int
  | [] => []
  | (b, k) :: r => if k ≠ d then b :: chP k r else chP k r
theorem chP_sub : ∀ (d : Int) (ps : List (Int × Int)), (chP d ps).Sublist (ps.map Prod.fst)
  | _, [] => List.Sublist.slnil
  | d, (b, k) :: r => by
    unfold chP
    split
    · exact (chP_sub k r).cons_cons b
    · exact (chP_sub k r).cons b
theorem chP_mem : ∀ (ps : List (Int × Int)) (d b : Int), Asc ps → (b ∈ chP d ps ↔ stp d ps b ≠ stp d ps (b - 1))
  | [], d, b, _ => by simp [chP, stp]
  | (c, k) :: r, d, b, ha => by
    obtain ⟨a1, a2⟩ := ha.tail
    dsimp only at a2
    have ih := chP_mem r k b a1
    have e : (b ∈ chP d ((c, k) :: r)) ↔ ((b = c ∧ k ≠ d) ∨ b ∈ chP k r) := by
      show b ∈ (if k ≠ d then c :: chP k r else chP k r) ↔ _
      split
      · rename_i h; simp [h]
      · rename_i h; simp [h]
    rw [e, ih]
    show _ ↔ (if c ≤ b then stp k r b else d) ≠ (if c ≤ b - 1 then stp k r (b - 1) else d)
    rcases Int.lt_trichotomy b c with q | q | q
    · rw [if_neg (by omega), if_neg (by omega), stp_low (fun e he => by have := a2 e he; omega), stp_low (fun e he => by have := a2 e he; omega)]
      constructor
      · rintro (⟨h, _⟩ | h)
        · omega
        · exact absurd rfl h
      · exact fun h => absurd rfl h
    · subst q
      rw [if_pos (by omega), if_neg (by omega), stp_low (fun e he => by have := a2 e he; omega), stp_low (fun e he => by have := a2 e he; omega)]
      constructor
      · rintro (⟨_, h⟩ | h)
        · exact h
        · exact absurd rfl h
      · exact fun h => .inl ⟨rfl, h⟩
    · rw [if_pos (by omega), if_pos (by omega)]
      constructor
      · rintro (⟨h, _⟩ | h)
        · omega
        · exact h
      · exact fun h => .inr h
theorem chP_ext {d : Int} {ps qs : List (Int × Int)} (h : Asc ps) (k : Asc qs) (e : ∀ x, stp d ps x = stp d qs x) : chP d ps = chP d qs :=
  DL.asc_uniq (List.Pairwise.sublist (chP_sub d ps) h) (List.Pairwise.sublist (chP_sub d qs) k) fun b => by rw [chP_mem ps d b h, chP_mem qs d b k, e, e]
end MB

namespace K11
open PySem PySem.Spec PyProof.Rows L2 DL
def top (i : Nat) : Stmt := PySem.Challenge.pw_byteholds_k11_kinds_known.main.body.getD i (.Pass ⟨0, 0, 0, 0⟩)
structure Txt (K : PySem.W.Frag) (mg : Str → Option Value) : Prop where
  n_abs : mg "abs" = none
  n_all : mg "all" = none
  n_bool : mg "bool" = none
  n_int : mg "int" = none
  n_isinstance : mg "isinstance" = none
  n_len : mg "len" = none
  n_range : mg "range" = none
  n_repr : mg "repr" = none
  n_str : mg "str" = none
  n_tuple : mg "tuple" = none
  g_OWNER_WORDS : mg "OWNER_WORDS" = some (.ref (He.ga K "OWNER_WORDS"))
  t_OWNER_WORDS : ∀ H, SqT K H (He.ga K "OWNER_WORDS") (([.inr "process", .inr "open"] : List Key).map kV)
  k_LETTERS : ∃ t, mg "LETTERS" = some (.str "abcdefghijklmnopqrstuvwxyz" t)
  k_MOST_LETTERS : ∃ t, mg "MOST_LETTERS" = some (.int (8) t)
  k_MOST_LEVEL : ∃ t, mg "MOST_LEVEL" = some (.int (2) t)
section
variable {P : Program} {w : World} {K : PySem.W.Frag} {mg : Str → Option Value} {base : Heap}
abbrev s_is_integer : Stmt := top 5
theorem sc_is_integer : FnScope ["thing"] ["thing"] (defScope s_is_integer) :=
  ⟨rfl, rfl, rfl, by decide +kernel, rfl, by decide +kernel, by decide +kernel⟩
noncomputable def b_is_integer : SM :=
    (sRet (eAnd (eA isiG (aC (eV 0) (aC (eC (.ty "int")) aN))) (eNot (eA isiG (aC (eV 0) (aC (eC (.ty "bool")) aN))))))
noncomputable def m_is_integer : FnM := fnM 1 1 b_is_integer
theorem ok_is_integer (T : Txt K mg) {f : Addr} {fd : FuncData} (F : Fun K "is_integer" "is_integer" s_is_integer f fd) (hm : mg "is_integer" = some (.ref f)) (hb : Binds K fd ["thing"] [])  :
    CalD P w K mg base 1 "is_integer" m_is_integer :=
  calD_of (k := 0) F hm hb sc_is_integer fun cdv A outer s H E hgd hr =>
    (pss_1 (psd_ret (pd_and (pd_callB call_isi isi_ok T.n_isinstance PyProof.Rows.boot_isinstance (pda_cons (pd_v 0) (pda_cons (pd_ty T.n_int PyProof.Rows.boot_int) pda_nil))) (pd_one (pd_not (pd_callB call_isi isi_ok T.n_isinstance PyProof.Rows.boot_isinstance (pda_cons (pd_v 0) (pda_cons (pd_ty T.n_bool PyProof.Rows.boot_bool) pda_nil))))))))
abbrev s_is_name : Stmt := top 11
theorem sc_is_name : FnScope ["thing", ".0", "letter"] ["thing"] (defScope s_is_name) :=
  ⟨rfl, rfl, rfl, by decide +kernel, rfl, by decide +kernel, by decide +kernel⟩
noncomputable def b_is_name : SM :=
    (sSeq (sIf (tOo (tNt (tV (eA isiG (aC (eV 0) (aC (eC (.ty "str")) aN))))) (tNt (tB (eCh (leG) (leG) (eC (.int 1)) (eA lenG (aC (eV 0) aN)) (eC (.int 8)))))) (sRet (eC (.bl false))) sNx)
    (sRet (eA allG (aC (eLC false (iStS (eV 0)) (gNm 2) tTr (e2 (inSgG false) (eV 2) (eC (.str "abcdefghijklmnopqrstuvwxyz"))) [1, 2]) aN))))
noncomputable def m_is_name : FnM := fnM 1 3 b_is_name
theorem ok_is_name (T : Txt K mg) {f : Addr} {fd : FuncData} (F : Fun K "is_name" "is_name" s_is_name f fd) (hm : mg "is_name" = some (.ref f)) (hb : Binds K fd ["thing"] [])  :
    CalD P w K mg base 1 "is_name" m_is_name :=
  calD_of (k := 0) F hm hb sc_is_name fun cdv A outer s H E hgd hr =>
    (pss_c (psd_if (pt_w (pw_o (pt_nt (pt_v (pd_callB call_isi isi_ok T.n_isinstance PyProof.Rows.boot_isinstance (pda_cons (pd_v 0) (pda_cons (pd_ty T.n_str PyProof.Rows.boot_str) pda_nil))))) (pw_o1 (pt_nt (pt_ch op_le op_le cmp_ok cmp_ok pd_int (pd_callB call_len len_ok T.n_len PySem.boot_len (pda_cons (pd_v 0) pda_nil)) (pd_cint T.k_MOST_LETTERS)))))) (pss_1 (psd_ret pd_bl)) pss_n)
    (pss_1 (psd_ret (pd_callB (cr_all rfl) all_ok T.n_all PyProof.Rows.boot_all (pda_cons (pd_lc false rfl sc_is_name.nd (pid_sgn (pd_v 0)) (blkOk_by (own := [(".0", 1), ("letter", 2)]) (by kernel_rfl)) (fun _ _ _ _ _ => (pgd_name (i := 2) sc_is_name.nd)) (fun _ _ _ _ _ => pts_n) (fun _ _ _ _ _ => (pd_inSg (pd_v 2) (pd_cstr T.k_LETTERS)))) pda_nil)))))
abbrev s_law_bag : Stmt := top 14
theorem sc_law_bag : FnScope ["_law_script", ".0", "_law_cell"] ["_law_script"] (defScope s_law_bag) :=
  ⟨rfl, rfl, rfl, by decide +kernel, rfl, by decide +kernel, by decide +kernel⟩
noncomputable def b_law_bag : SM :=
    (sRet (eA (newL true) (aC (eC (.int 0)) (aC (eC (.int 1234567891)) (aC (eC (.int 0)) (aC (eLC false (iSeq (eSl false (eV 0) pN (pS (eC (.int 63))))) (gNm 2) tTr (eA absG (aC (eV 2) aN)) [1, 2]) aN))))))
noncomputable def m_law_bag : FnM := fnM 1 3 b_law_bag
theorem ok_law_bag (T : Txt K mg) {f : Addr} {fd : FuncData} (F : Fun K "_law_bag" "_law_bag" s_law_bag f fd) (hm : mg "_law_bag" = some (.ref f)) (hb : Binds K fd ["_law_script"] [])  :
    CalD P w K mg base 1 "_law_bag" m_law_bag :=
  calD_of (k := 0) F hm hb sc_law_bag fun cdv A outer s H E hgd hr =>
    (pss_1 (psd_ret (pd_lst true (pda_cons pd_int (pda_cons pd_int (pda_cons pd_int (pda_cons (pd_lc false rfl sc_law_bag.nd (pid_seq (pd_sl false (pd_v 0) po_n (po_s pd_int))) (blkOk_by (own := [(".0", 1), ("_law_cell", 2)]) (by kernel_rfl)) (fun _ _ _ _ _ => (pgd_name (i := 2) sc_law_bag.nd)) (fun _ _ _ _ _ => pts_n) (fun _ _ _ _ _ => (pd_callB call_abs abs_ok T.n_abs PyProof.Rows.boot_abs (pda_cons (pd_v 2) pda_nil)))) pda_nil)))))))
abbrev s_law_take : Stmt := top 15
theorem sc_law_take : FnScope ["_law_bag_here", "_law_many", "_law_cell", "_law_mixed", "_law_value", "_law_begin", "_law_second"] ["_law_bag_here", "_law_many"] (defScope s_law_take) :=
  ⟨rfl, rfl, rfl, by decide +kernel, rfl, by decide +kernel, by decide +kernel⟩
noncomputable def b_law_take : SM :=
    (sSeq (sIf (tB (e2 (eqG false) (e2 ixG (eV 0) (eC (.int 0))) (eC (.int 0)))) (sSeq (sSet 2 (eC (.int 0)))
    (sSeq (sIf (tB (e2 (ltG) (e2 ixG (eV 0) (eC (.int 2))) (eA lenG (aC (e2 ixG (eV 0) (eC (.int 3))) aN)))) (sSet 2 (e2 ixG (e2 ixG (eV 0) (eC (.int 3))) (e2 ixG (eV 0) (eC (.int 2))))) sNx)
    (sSeq (sAugS (eV 0) (eC (.int 2)) (eC (.int 1)))
    (sSeq (sIf (tB (e2 (geG) (eV 2) (eC (.int 1000000000000000000)))) (sAs (eV 2) (gSb (eV 0) (eC (.int 0)))) sNx)
    (sSeq (sSet 3 (e2 (addG false) (e2 (addG false) (e2 (mulG false) (e2 ixG (eV 0) (eC (.int 1))) (eC (.int 48271))) (e2 (modG) (eA intG (aC (eV 2) aN)) (eC (.int 2147483647)))) (e2 (mulG false) (eC (.int 7919)) (e2 ixG (eV 0) (eC (.int 2))))))
    (sAs (e2 (modG) (eA intG (aC (eV 3) aN)) (eC (.int 2147483647))) (gSb (eV 0) (eC (.int 1))))))))) sNx)
    (sSeq (sIf (tB (e2 (gtG) (e2 ixG (eV 0) (eC (.int 0))) (eC (.int 0)))) (sSeq (sSet 4 (e2 (modG) (eA intG (aC (e2 ixG (eV 0) (eC (.int 0))) aN)) (eV 1)))
    (sSeq (sAs (e2 (fdivG) (e2 ixG (eV 0) (eC (.int 0))) (eV 1)) (gSb (eV 0) (eC (.int 0))))
    (sRet (eV 4)))) sNx)
    (sSeq (sSet 5 (e2 (modG) (eA intG (aC (e2 (mulG false) (e2 (addG false) (e2 ixG (eV 0) (eC (.int 1))) (eC (.int 1))) (eC (.int 39373))) aN)) (eC (.int 1000000007))))
    (sSeq (sSet 6 (e2 (modG) (eA intG (aC (e2 (mulG false) (e2 (modG) (eA intG (aC (e2 (mulG false) (eV 5) (eV 5)) aN)) (eC (.int 998244353))) (eC (.int 30011))) aN)) (eC (.int 998244353))))
    (sSeq (sIf (tB (e2 (gtG) (eV 1) (eC (.int 1000000)))) (sRet (e2 (modG) (eA intG (aC (e2 (addG false) (e2 (mulG false) (eV 6) (eC (.int 1000000007))) (eV 5)) aN)) (eV 1))) sNx)
    (sRet (e2 (modG) (eA intG (aC (e2 (fdivG) (eV 6) (eC (.int 7))) aN)) (eV 1))))))))
noncomputable def m_law_take : FnM := fnM 2 7 b_law_take
theorem ok_law_take (T : Txt K mg) {f : Addr} {fd : FuncData} (F : Fun K "_law_take" "_law_take" s_law_take f fd) (hm : mg "_law_take" = some (.ref f)) (hb : Binds K fd ["_law_bag_here", "_law_many"] [])  :
    CalD P w K mg base 1 "_law_take" m_law_take :=
  calD_of (k := 0) F hm hb sc_law_take fun cdv A outer s H E hgd hr =>
    (pss_c (psd_if (pt_eq hr.units (pd_ix (pd_v 0) pd_int) pd_int) (pss_c (psd_set (i := 2) sc_law_take.nd pd_int)
    (pss_c (psd_if (pt_lt (pd_ix (pd_v 0) pd_int) (pd_callB call_len len_ok T.n_len PySem.boot_len (pda_cons (pd_ix (pd_v 0) pd_int) pda_nil))) (pss_1 (psd_set (i := 2) sc_law_take.nd (pd_ix (pd_ix (pd_v 0) pd_int) (pd_ix (pd_v 0) pd_int)))) pss_n)
    (pss_c (psd_augS (pd_v 0) pd_int pd_int)
    (pss_c (psd_if (pt_ge (pd_v 2) pd_int) (pss_1 (psd_asg (pd_v 2) (pgd_sub (pd_v 0) pd_int))) pss_n)
    (pss_c (psd_set (i := 3) sc_law_take.nd (pd_add false (pd_add false (pd_mul false (pd_ix (pd_v 0) pd_int) pd_int) (pd_mod (pd_callTy call_int1 int_ok T.n_int PyProof.Rows.boot_int (pda_cons (pd_v 2) pda_nil)) pd_int)) (pd_mul false pd_int (pd_ix (pd_v 0) pd_int))))
    (pss_1 (psd_asg (pd_mod (pd_callTy call_int1 int_ok T.n_int PyProof.Rows.boot_int (pda_cons (pd_v 3) pda_nil)) pd_int) (pgd_sub (pd_v 0) pd_int)))))))) pss_n)
    (pss_c (psd_if (pt_gt (pd_ix (pd_v 0) pd_int) pd_int) (pss_c (psd_set (i := 4) sc_law_take.nd (pd_mod (pd_callTy call_int1 int_ok T.n_int PyProof.Rows.boot_int (pda_cons (pd_ix (pd_v 0) pd_int) pda_nil)) (pd_v 1)))
    (pss_c (psd_asg (pd_fdiv (pd_ix (pd_v 0) pd_int) (pd_v 1)) (pgd_sub (pd_v 0) pd_int))
    (pss_1 (psd_ret (pd_v 4))))) pss_n)
    (pss_c (psd_set (i := 5) sc_law_take.nd (pd_mod (pd_callTy call_int1 int_ok T.n_int PyProof.Rows.boot_int (pda_cons (pd_mul false (pd_add false (pd_ix (pd_v 0) pd_int) pd_int) pd_int) pda_nil)) pd_int))
    (pss_c (psd_set (i := 6) sc_law_take.nd (pd_mod (pd_callTy call_int1 int_ok T.n_int PyProof.Rows.boot_int (pda_cons (pd_mul false (pd_mod (pd_callTy call_int1 int_ok T.n_int PyProof.Rows.boot_int (pda_cons (pd_mul false (pd_v 5) (pd_v 5)) pda_nil)) pd_int) pd_int) pda_nil)) pd_int))
    (pss_c (psd_if (pt_gt (pd_v 1) pd_int) (pss_1 (psd_ret (pd_mod (pd_callTy call_int1 int_ok T.n_int PyProof.Rows.boot_int (pda_cons (pd_add false (pd_mul false (pd_v 6) pd_int) (pd_v 5)) pda_nil)) (pd_v 1)))) pss_n)
    (pss_1 (psd_ret (pd_mod (pd_callTy call_int1 int_ok T.n_int PyProof.Rows.boot_int (pda_cons (pd_fdiv (pd_v 6) pd_int) pda_nil)) (pd_v 1)))))))))
abbrev s_law_whole : Stmt := top 20
theorem sc_law_whole : FnScope ["_law_thing_here"] ["_law_thing_here"] (defScope s_law_whole) :=
  ⟨rfl, rfl, rfl, by decide +kernel, rfl, by decide +kernel, by decide +kernel⟩
noncomputable def b_law_whole : SM :=
    (sRet (eAnd (eA isiG (aC (eV 0) (aC (eC (.ty "int")) aN))) (eNot (eA isiG (aC (eV 0) (aC (eC (.ty "bool")) aN))))))
noncomputable def m_law_whole : FnM := fnM 1 1 b_law_whole
theorem ok_law_whole (T : Txt K mg) {f : Addr} {fd : FuncData} (F : Fun K "_law_whole" "_law_whole" s_law_whole f fd) (hm : mg "_law_whole" = some (.ref f)) (hb : Binds K fd ["_law_thing_here"] [])  :
    CalD P w K mg base 1 "_law_whole" m_law_whole :=
  calD_of (k := 0) F hm hb sc_law_whole fun cdv A outer s H E hgd hr =>
    (pss_1 (psd_ret (pd_and (pd_callB call_isi isi_ok T.n_isinstance PyProof.Rows.boot_isinstance (pda_cons (pd_v 0) (pda_cons (pd_ty T.n_int PyProof.Rows.boot_int) pda_nil))) (pd_one (pd_not (pd_callB call_isi isi_ok T.n_isinstance PyProof.Rows.boot_isinstance (pda_cons (pd_v 0) (pda_cons (pd_ty T.n_bool PyProof.Rows.boot_bool) pda_nil))))))))
abbrev s_is_between : Stmt := top 6
theorem sc_is_between : FnScope ["thing", "least", "greatest"] ["thing", "least", "greatest"] (defScope s_is_between) :=
  ⟨rfl, rfl, rfl, by decide +kernel, rfl, by decide +kernel, by decide +kernel⟩
noncomputable def b_is_between : SM :=
    (sRet (eAnd (eCall m_is_integer false (aC (eV 0) aN)) (eCh (leG) (leG) (eV 1) (eV 0) (eV 2))))
noncomputable def m_is_between : FnM := fnM 3 3 b_is_between
theorem ok_is_between (T : Txt K mg) {f : Addr} {fd : FuncData} (F : Fun K "is_between" "is_between" s_is_between f fd) (hm : mg "is_between" = some (.ref f)) (hb : Binds K fd ["thing", "least", "greatest"] []) (c_is_integer : CalD P w K mg base 1 "is_integer" m_is_integer) :
    CalD P w K mg base 2 "is_between" m_is_between :=
  calD_of (k := 1) F hm hb sc_is_between fun cdv A outer s H E hgd hr =>
    (pss_1 (psd_ret (pd_and (pd_call false c_is_integer hr (by decide) hgd (pda_cons (pd_v 0) pda_nil)) (pd_one (pd_ch op_le op_le cmp_ok cmp_ok (pd_v 1) (pd_v 0) (pd_v 2))))))
abbrev s_is_byte : Stmt := top 7
theorem sc_is_byte : FnScope ["thing"] ["thing"] (defScope s_is_byte) :=
  ⟨rfl, rfl, rfl, by decide +kernel, rfl, by decide +kernel, by decide +kernel⟩
noncomputable def b_is_byte : SM :=
    (sRet (eAnd (eCall m_is_integer false (aC (eV 0) aN)) (e2 (geG) (eV 0) (eC (.int 0)))))
noncomputable def m_is_byte : FnM := fnM 1 1 b_is_byte
theorem ok_is_byte (T : Txt K mg) {f : Addr} {fd : FuncData} (F : Fun K "is_byte" "is_byte" s_is_byte f fd) (hm : mg "is_byte" = some (.ref f)) (hb : Binds K fd ["thing"] []) (c_is_integer : CalD P w K mg base 1 "is_integer" m_is_integer) :
    CalD P w K mg base 2 "is_byte" m_is_byte :=
  calD_of (k := 1) F hm hb sc_is_byte fun cdv A outer s H E hgd hr =>
    (pss_1 (psd_ret (pd_and (pd_call false c_is_integer hr (by decide) hgd (pda_cons (pd_v 0) pda_nil)) (pd_one (pd_ge (pd_v 0) pd_int)))))
abbrev s_law_number : Stmt := top 16
theorem sc_law_number : FnScope ["_law_bag_here", "_law_some"] ["_law_bag_here"] (defScope s_law_number) :=
  ⟨rfl, rfl, rfl, by decide +kernel, rfl, by decide +kernel, by decide +kernel⟩
noncomputable def b_law_number : SM :=
    (sSeq (sSet 1 (eA (newL false) (aC (eC (.int 0)) (aC (eC (.int 1)) (aC (eC (.int 2)) (aC (eC (.int 3)) (aC (e1 negG (eC (.int 1))) (aC (eCall m_law_take false (aC (eV 0) (aC (eC (.int 9)) aN))) (aC (e2 (addG false) (e2 (powG) (eC (.int 10)) (eC (.int 12))) (eCall m_law_take false (aC (eV 0) (aC (eC (.int 9)) aN)))) (aC (e2 (powG) (eC (.int 10)) (eC (.int 39))) (aC (e2 (powG) (eC (.int 10)) (eC (.int 40))) (aC (e1 negG (e2 (powG) (eC (.int 10)) (eC (.int 30)))) aN))))))))))))
    (sRet (e2 ixG (eV 1) (eCall m_law_take false (aC (eV 0) (aC (eC (.int 10)) aN))))))
noncomputable def m_law_number : FnM := fnM 1 2 b_law_number
theorem ok_law_number (T : Txt K mg) {f : Addr} {fd : FuncData} (F : Fun K "_law_number" "_law_number" s_law_number f fd) (hm : mg "_law_number" = some (.ref f)) (hb : Binds K fd ["_law_bag_here"] []) (c_law_take : CalD P w K mg base 1 "_law_take" m_law_take) :
    CalD P w K mg base 2 "_law_number" m_law_number :=
  calD_of (k := 1) F hm hb sc_law_number fun cdv A outer s H E hgd hr =>
    (pss_c (psd_set (i := 1) sc_law_number.nd (pd_lst false (pda_cons pd_int (pda_cons pd_int (pda_cons pd_int (pda_cons pd_int (pda_cons (pd_neg pd_int) (pda_cons (pd_call false c_law_take hr (by decide) hgd (pda_cons (pd_v 0) (pda_cons pd_int pda_nil))) (pda_cons (pd_add false (pd_pow pd_int pd_int) (pd_call false c_law_take hr (by decide) hgd (pda_cons (pd_v 0) (pda_cons pd_int pda_nil)))) (pda_cons (pd_pow pd_int pd_int) (pda_cons (pd_pow pd_int pd_int) (pda_cons (pd_neg (pd_pow pd_int pd_int)) pda_nil))))))))))))
    (pss_1 (psd_ret (pd_ix (pd_v 1) (pd_call false c_law_take hr (by decide) hgd (pda_cons (pd_v 0) (pda_cons pd_int pda_nil)))))))
abbrev s_law_text : Stmt := top 18
theorem sc_law_text : FnScope ["_law_bag_here", "_law_letters", "_law_text_here", "_law_at", "_law_others", "_law_sign", ".0", "_law_k"] ["_law_bag_here"] (defScope s_law_text) :=
  ⟨rfl, rfl, rfl, by decide +kernel, rfl, by decide +kernel, by decide +kernel⟩
noncomputable def b_law_text : SM :=
    (sSeq (sSet 1 (eC (.str "abcdefghijklmnopqrstuvwxyz")))
    (sSeq (sSet 2 (eMt "str" joinG (eC (.str "")) (aC (eLC false (iR1 (aC (eCall m_law_take false (aC (eV 0) (aC (eC (.int 10)) aN))) aN)) (gNm 7) tTr (e2 ixG (eV 1) (eCall m_law_take false (aC (eV 0) (aC (eC (.int 26)) aN)))) [6, 7]) aN)))
    (sSeq (sSet 3 (eCall m_law_take false (aC (eV 0) (aC (e2 (addG false) (eA lenG (aC (eV 2) aN)) (eC (.int 1))) aN))))
    (sSeq (sSet 4 (eC (.str " !#$&'()*+,-./0123456789:;<=>?@\x5b]^_`{|}~ABYZ\n")))
    (sSeq (sSet 5 (e2 mulSG (e2 ixG (eV 4) (eCall m_law_take false (aC (eV 0) (aC (eA lenG (aC (eV 4) aN)) aN)))) (eCall m_law_take false (aC (eV 0) (aC (eC (.int 2)) aN)))))
    (sRet (e2 (addG true) (e2 (addG false) (eSl false (eV 2) pN (pS (eV 3))) (eV 5)) (eSl false (eV 2) (pS (eV 3)) pN))))))))
noncomputable def m_law_text : FnM := fnM 1 8 b_law_text
theorem ok_law_text (T : Txt K mg) {f : Addr} {fd : FuncData} (F : Fun K "_law_text" "_law_text" s_law_text f fd) (hm : mg "_law_text" = some (.ref f)) (hb : Binds K fd ["_law_bag_here"] []) (c_law_take : CalD P w K mg base 1 "_law_take" m_law_take) :
    CalD P w K mg base 2 "_law_text" m_law_text :=
  calD_of (k := 1) F hm hb sc_law_text fun cdv A outer s H E hgd hr =>
    (pss_c (psd_set (i := 1) sc_law_text.nd pd_str)
    (pss_c (psd_set (i := 2) sc_law_text.nd (pd_mt PySem.F.plainAttrs_str PySem.F.slot_str_join PySem.F.type_str_join mt_join join_ok pd_str (pda_cons (pd_lc false rfl sc_law_text.nd (pid_range1 T.n_range (pda_cons (pd_call false c_law_take hr (by decide) hgd (pda_cons (pd_v 0) (pda_cons pd_int pda_nil))) pda_nil)) (blkOk_by (own := [(".0", 6), ("_law_k", 7)]) (by kernel_rfl)) (fun _ _ _ _ _ => (pgd_name (i := 7) sc_law_text.nd)) (fun _ _ _ _ _ => pts_n) (fun _ _ _ _ _ => (pd_ix (pd_v 1) (pd_call false c_law_take hr (by decide) hgd (pda_cons (pd_v 0) (pda_cons pd_int pda_nil)))))) pda_nil)))
    (pss_c (psd_set (i := 3) sc_law_text.nd (pd_call false c_law_take hr (by decide) hgd (pda_cons (pd_v 0) (pda_cons (pd_add false (pd_callB call_len len_ok T.n_len PySem.boot_len (pda_cons (pd_v 2) pda_nil)) pd_int) pda_nil))))
    (pss_c (psd_set (i := 4) sc_law_text.nd pd_str)
    (pss_c (psd_set (i := 5) sc_law_text.nd (pd_mulS (pd_ix (pd_v 4) (pd_call false c_law_take hr (by decide) hgd (pda_cons (pd_v 0) (pda_cons (pd_callB call_len len_ok T.n_len PySem.boot_len (pda_cons (pd_v 4) pda_nil)) pda_nil)))) (pd_call false c_law_take hr (by decide) hgd (pda_cons (pd_v 0) (pda_cons pd_int pda_nil)))))
    (pss_1 (psd_ret (pd_add true (pd_add false (pd_sl false (pd_v 2) po_n (po_s (pd_v 3))) (pd_v 5)) (pd_sl false (pd_v 2) (po_s (pd_v 3)) po_n)))))))))
abbrev s_law_due : Stmt := top 21
theorem sc_law_due : FnScope ["_law_thing_here", "_law_byte", "_law_pair", "_law_span", "_law_name", "_law_owner", "_law_whole_here", ".0", "_law_sign"] ["_law_thing_here"] (defScope s_law_due) :=
  ⟨rfl, rfl, rfl, by decide +kernel, rfl, by decide +kernel, by decide +kernel⟩
noncomputable def b_law_due : SM :=
    (sSeq (sPar 1 2 (aC (eAnd (eCall m_law_whole false (aC (eV 0) aN)) (e2 (geG) (eV 0) (eC (.int 0)))) (aC (eAnd (eA isiG (aC (eV 0) (aC (eC (.ty "tuple")) aN))) (e2 (eqG false) (eA lenG (aC (eV 0) aN)) (eC (.int 2)))) aN)))
    (sSeq (sSet 3 (eAnd (eV 2) (eAnd (eCall m_law_whole false (aC (e2 ixG (eV 0) (eC (.int 0))) aN)) (e2 (geG) (e2 ixG (eV 0) (eC (.int 0))) (eC (.int 0))))))
    (sSeq (sIf (tAn (tV (eV 3)) (tB (e2 (isG true) (e2 ixG (eV 0) (eC (.int 1))) (eC .non)))) (sSet 3 (eAnd (eCall m_law_whole false (aC (e2 ixG (eV 0) (eC (.int 1))) aN)) (e2 (geG) (e2 ixG (eV 0) (eC (.int 1))) (e2 ixG (eV 0) (eC (.int 0)))))) sNx)
    (sSeq (sSet 4 (eAnd (eA isiG (aC (eV 0) (aC (eC (.ty "str")) aN))) (eCh (leG) (leG) (eC (.int 1)) (eA lenG (aC (eV 0) aN)) (eC (.int 8)))))
    (sSeq (sSet 4 (eAnd (eV 4) (e2 (eqG false) (eLC false (iStS (eV 0)) (gNm 8) (tB (e2 (inSgG true) (eV 8) (eC (.str "abcdefghijklmnopqrstuvwxyz")))) (eV 8) [7, 8]) (eA (newL false) aN))))
    (sSeq (sSet 5 (eAnd (eV 2) (eAnd (eA isiG (aC (e2 ixG (eV 0) (eC (.int 0))) (aC (eC (.ty "str")) aN))) (e2 (inG [] false) (e2 ixG (eV 0) (eC (.int 0))) (eA (newL false) (aC (eC (.str "process")) (aC (eC (.str "open")) aN)))))))
    (sSeq (sSet 5 (eAnd (eV 5) (eAnd (eCall m_law_whole false (aC (e2 ixG (eV 0) (eC (.int 1))) aN)) (e2 (geG) (e2 ixG (eV 0) (eC (.int 1))) (eC (.int 0))))))
    (sSeq (sSet 6 (eCall m_law_whole false (aC (eV 0) aN)))
    (sRet (eA (newL true) (aC (eV 6) (aC (eV 1) (aC (eV 3) (aC (eAnd (eV 6) (eCh (leG) (leG) (eC (.int 0)) (eV 0) (eC (.int 2)))) (aC (eV 4) (aC (eV 5) aN))))))))))))))))
noncomputable def m_law_due : FnM := fnM 1 9 b_law_due
theorem ok_law_due (T : Txt K mg) {f : Addr} {fd : FuncData} (F : Fun K "_law_due" "_law_due" s_law_due f fd) (hm : mg "_law_due" = some (.ref f)) (hb : Binds K fd ["_law_thing_here"] []) (c_law_whole : CalD P w K mg base 1 "_law_whole" m_law_whole) :
    CalD P w K mg base 2 "_law_due" m_law_due :=
  calD_of (k := 1) F hm hb sc_law_due fun cdv A outer s H E hgd hr =>
    (pss_c (psd_par (i := 1) (j := 2) rfl sc_law_due.nd (pda_cons (pd_and (pd_call false c_law_whole hr (by decide) hgd (pda_cons (pd_v 0) pda_nil)) (pd_one (pd_ge (pd_v 0) pd_int))) (pda_cons (pd_and (pd_callB call_isi isi_ok T.n_isinstance PyProof.Rows.boot_isinstance (pda_cons (pd_v 0) (pda_cons (pd_ty T.n_tuple PyProof.Rows.boot_tuple) pda_nil))) (pd_one (pd_eq hr.units (pd_callB call_len len_ok T.n_len PySem.boot_len (pda_cons (pd_v 0) pda_nil)) pd_int))) pda_nil)))
    (pss_c (psd_set (i := 3) sc_law_due.nd (pd_and (pd_v 2) (pd_and (pd_call false c_law_whole hr (by decide) hgd (pda_cons (pd_ix (pd_v 0) pd_int) pda_nil)) (pd_one (pd_ge (pd_ix (pd_v 0) pd_int) pd_int)))))
    (pss_c (psd_if (pt_w (pw_a (pt_v (pd_v 3)) (pw_a1 (pt_isnot (pd_ix (pd_v 0) pd_int) pd_non)))) (pss_1 (psd_set (i := 3) sc_law_due.nd (pd_and (pd_call false c_law_whole hr (by decide) hgd (pda_cons (pd_ix (pd_v 0) pd_int) pda_nil)) (pd_one (pd_ge (pd_ix (pd_v 0) pd_int) (pd_ix (pd_v 0) pd_int)))))) pss_n)
    (pss_c (psd_set (i := 4) sc_law_due.nd (pd_and (pd_callB call_isi isi_ok T.n_isinstance PyProof.Rows.boot_isinstance (pda_cons (pd_v 0) (pda_cons (pd_ty T.n_str PyProof.Rows.boot_str) pda_nil))) (pd_one (pd_ch op_le op_le cmp_ok cmp_ok pd_int (pd_callB call_len len_ok T.n_len PySem.boot_len (pda_cons (pd_v 0) pda_nil)) pd_int))))
    (pss_c (psd_set (i := 4) sc_law_due.nd (pd_and (pd_v 4) (pd_one (pd_eq hr.units (pd_lc false rfl sc_law_due.nd (pid_sgn (pd_v 0)) (blkOk_by (own := [(".0", 7), ("_law_sign", 8)]) (by kernel_rfl)) (fun _ _ _ _ _ => (pgd_name (i := 8) sc_law_due.nd)) (fun _ _ _ _ _ => (pts_1 (pt_notInSg (pd_v 8) pd_str))) (fun _ _ _ _ _ => (pd_v 8))) (pd_lst false pda_nil)))))
    (pss_c (psd_set (i := 5) sc_law_due.nd (pd_and (pd_v 2) (pd_and (pd_callB call_isi isi_ok T.n_isinstance PyProof.Rows.boot_isinstance (pda_cons (pd_ix (pd_v 0) pd_int) (pda_cons (pd_ty T.n_str PyProof.Rows.boot_str) pda_nil))) (pd_one (pd_in (ops_nil (k := 0)) (hr.mono (by decide)) hgd (u65 hr) (pd_ix (pd_v 0) pd_int) (pd_lst false (pda_cons pd_str (pda_cons pd_str pda_nil))))))))
    (pss_c (psd_set (i := 5) sc_law_due.nd (pd_and (pd_v 5) (pd_and (pd_call false c_law_whole hr (by decide) hgd (pda_cons (pd_ix (pd_v 0) pd_int) pda_nil)) (pd_one (pd_ge (pd_ix (pd_v 0) pd_int) pd_int)))))
    (pss_c (psd_set (i := 6) sc_law_due.nd (pd_call false c_law_whole hr (by decide) hgd (pda_cons (pd_v 0) pda_nil)))
    (pss_1 (psd_ret (pd_lst true (pda_cons (pd_v 6) (pda_cons (pd_v 1) (pda_cons (pd_v 3) (pda_cons (pd_and (pd_v 6) (pd_one (pd_ch op_le op_le cmp_ok cmp_ok pd_int (pd_v 0) pd_int))) (pda_cons (pd_v 4) (pda_cons (pd_v 5) pda_nil)))))))))))))))))
abbrev s_span_fault : Stmt := top 8
theorem sc_span_fault : FnScope ["first", "last"] ["first", "last"] (defScope s_span_fault) :=
  ⟨rfl, rfl, rfl, by decide +kernel, rfl, by decide +kernel, by decide +kernel⟩
noncomputable def b_span_fault : SM :=
    (sSeq (sIf (tNt (tV (eCall m_is_byte false (aC (eV 0) aN)))) (sRet (eC (.int 0))) sNx)
    (sSeq (sIf (tOo (tB (e2 (isG false) (eV 1) (eC .non))) (tAn (tV (eCall m_is_byte false (aC (eV 1) aN))) (tB (e2 (geG) (eV 1) (eV 0))))) (sRet (eC .non)) sNx)
    (sRet (eC (.int 1)))))
noncomputable def m_span_fault : FnM := fnM 2 2 b_span_fault
theorem ok_span_fault (T : Txt K mg) {f : Addr} {fd : FuncData} (F : Fun K "span_fault" "span_fault" s_span_fault f fd) (hm : mg "span_fault" = some (.ref f)) (hb : Binds K fd ["first", "last"] []) (c_is_byte : CalD P w K mg base 2 "is_byte" m_is_byte) :
    CalD P w K mg base 3 "span_fault" m_span_fault :=
  calD_of (k := 2) F hm hb sc_span_fault fun cdv A outer s H E hgd hr =>
    (pss_c (psd_if (pt_nt (pt_v (pd_call false c_is_byte hr (by decide) hgd (pda_cons (pd_v 0) pda_nil)))) (pss_1 (psd_ret pd_int)) pss_n)
    (pss_c (psd_if (pt_w (pw_o (pt_is (pd_v 1) pd_non) (pw_o1 (pt_w (pw_a (pt_v (pd_call false c_is_byte hr (by decide) hgd (pda_cons (pd_v 1) pda_nil))) (pw_a1 (pt_ge (pd_v 1) (pd_v 0)))))))) (pss_1 (psd_ret pd_non)) pss_n)
    (pss_1 (psd_ret pd_int))))
abbrev s_is_level : Stmt := top 10
theorem sc_is_level : FnScope ["thing"] ["thing"] (defScope s_is_level) :=
  ⟨rfl, rfl, rfl, by decide +kernel, rfl, by decide +kernel, by decide +kernel⟩
noncomputable def b_is_level : SM :=
    (sRet (eCall m_is_between true (aC (eV 0) (aC (eC (.int 0)) (aC (eC (.int 2)) aN)))))
noncomputable def m_is_level : FnM := fnM 1 1 b_is_level
theorem ok_is_level (T : Txt K mg) {f : Addr} {fd : FuncData} (F : Fun K "is_level" "is_level" s_is_level f fd) (hm : mg "is_level" = some (.ref f)) (hb : Binds K fd ["thing"] []) (c_is_between : CalD P w K mg base 2 "is_between" m_is_between) :
    CalD P w K mg base 3 "is_level" m_is_level :=
  calD_of (k := 2) F hm hb sc_is_level fun cdv A outer s H E hgd hr =>
    (pss_1 (psd_ret (pd_call true c_is_between hr (by decide) hgd (pda_cons (pd_v 0) (pda_cons pd_int (pda_cons (pd_cint T.k_MOST_LEVEL) pda_nil))))))
abbrev s_is_owner : Stmt := top 12
theorem sc_is_owner : FnScope ["thing"] ["thing"] (defScope s_is_owner) :=
  ⟨rfl, rfl, rfl, by decide +kernel, rfl, by decide +kernel, by decide +kernel⟩
noncomputable def b_is_owner : SM :=
    (sSeq (sIf (tOo (tNt (tV (eA isiG (aC (eV 0) (aC (eC (.ty "tuple")) aN))))) (tB (e2 (eqG true) (eA lenG (aC (eV 0) aN)) (eC (.int 2))))) (sRet (eC (.bl false))) sNx)
    (sRet (eAnd (eA isiG (aC (e2 ixG (eV 0) (eC (.int 0))) (aC (eC (.ty "str")) aN))) (eAnd (e2 (inKG "OWNER_WORDS" [.inr "process", .inr "open"] false) (e2 ixG (eV 0) (eC (.int 0))) (eC (.cls "OWNER_WORDS"))) (eCall m_is_byte false (aC (e2 ixG (eV 0) (eC (.int 1))) aN))))))
noncomputable def m_is_owner : FnM := fnM 1 1 b_is_owner
theorem ok_is_owner (T : Txt K mg) {f : Addr} {fd : FuncData} (F : Fun K "is_owner" "is_owner" s_is_owner f fd) (hm : mg "is_owner" = some (.ref f)) (hb : Binds K fd ["thing"] []) (c_is_byte : CalD P w K mg base 2 "is_byte" m_is_byte) :
    CalD P w K mg base 3 "is_owner" m_is_owner :=
  calD_of (k := 2) F hm hb sc_is_owner fun cdv A outer s H E hgd hr =>
    (pss_c (psd_if (pt_w (pw_o (pt_nt (pt_v (pd_callB call_isi isi_ok T.n_isinstance PyProof.Rows.boot_isinstance (pda_cons (pd_v 0) (pda_cons (pd_ty T.n_tuple PyProof.Rows.boot_tuple) pda_nil))))) (pw_o1 (pt_ne hr.units (pd_callB call_len len_ok T.n_len PySem.boot_len (pda_cons (pd_v 0) pda_nil)) pd_int)))) (pss_1 (psd_ret pd_bl)) pss_n)
    (pss_1 (psd_ret (pd_and (pd_callB call_isi isi_ok T.n_isinstance PyProof.Rows.boot_isinstance (pda_cons (pd_ix (pd_v 0) pd_int) (pda_cons (pd_ty T.n_str PyProof.Rows.boot_str) pda_nil))) (pd_and (pd_inK T.t_OWNER_WORDS (pd_ix (pd_v 0) pd_int) (pd_cls T.g_OWNER_WORDS)) (pd_one (pd_call false c_is_byte hr (by decide) hgd (pda_cons (pd_ix (pd_v 0) pd_int) pda_nil))))))))
abbrev s_law_atom : Stmt := top 17
theorem sc_law_atom : FnScope ["_law_bag_here", "_law_some"] ["_law_bag_here"] (defScope s_law_atom) :=
  ⟨rfl, rfl, rfl, by decide +kernel, rfl, by decide +kernel, by decide +kernel⟩
noncomputable def b_law_atom : SM :=
    (sSeq (sSet 1 (eA (newL false) (aC (eC .non) (aC (eC (.bl true)) (aC (eC (.bl false)) (aC (eC (.str "")) (aC (eC (.str "a")) (aC (eC (.str "process")) (aC (eC (.str "open")) (aC (eC (.str "opens")) (aC (eC (.str "abcdefgh")) (aC (eC (.str "abcdefghi")) (aC (eC (.str "aB")) (aC (eC (.str "a1")) (aC (eC (.str "a b")) (aC (eC (.str "z{")) aN))))))))))))))))
    (sSeq (sSet 1 (e2 (addG false) (eV 1) (eA (newL false) (aC (eA newT aN) (aC (eA (newL false) aN) (aC (eDN false) (aC (eA newT (aC (eC (.int 0)) (aC (eC (.int 1)) aN))) (aC (eC (.str "Process")) (aC (eC (.str "0")) (aC (eA (newL false) (aC (eC (.int 0)) (aC (eC (.int 1)) aN))) (aC (eC (.str "a\n")) (aC (eA newT (aC (eC (.str "open")) (aC (eC (.int 0)) aN))) (aC (eC (.str "process ")) aN)))))))))))))
    (sRet (e2 ixG (eA (newL false) (aC (e2 ixG (eV 1) (eCall m_law_take false (aC (eV 0) (aC (eC (.int 24)) aN)))) (aC (eCall m_law_number false (aC (eV 0) aN)) aN))) (eCall m_law_take false (aC (eV 0) (aC (eC (.int 2)) aN)))))))
noncomputable def m_law_atom : FnM := fnM 1 2 b_law_atom
theorem ok_law_atom (T : Txt K mg) {f : Addr} {fd : FuncData} (F : Fun K "_law_atom" "_law_atom" s_law_atom f fd) (hm : mg "_law_atom" = some (.ref f)) (hb : Binds K fd ["_law_bag_here"] []) (c_law_number : CalD P w K mg base 2 "_law_number" m_law_number) (c_law_take : CalD P w K mg base 1 "_law_take" m_law_take) :
    CalD P w K mg base 3 "_law_atom" m_law_atom :=
  calD_of (k := 2) F hm hb sc_law_atom fun cdv A outer s H E hgd hr =>
    (pss_c (psd_set (i := 1) sc_law_atom.nd (pd_lst false (pda_cons pd_non (pda_cons pd_bl (pda_cons pd_bl (pda_cons pd_str (pda_cons pd_str (pda_cons pd_str (pda_cons pd_str (pda_cons pd_str (pda_cons pd_str (pda_cons pd_str (pda_cons pd_str (pda_cons pd_str (pda_cons pd_str (pda_cons pd_str pda_nil))))))))))))))))
    (pss_c (psd_set (i := 1) sc_law_atom.nd (pd_add false (pd_v 1) (pd_lst false (pda_cons (pd_tup pda_nil) (pda_cons (pd_lst false pda_nil) (pda_cons (pd_dn false) (pda_cons (pd_tup (pda_cons pd_int (pda_cons pd_int pda_nil))) (pda_cons pd_str (pda_cons pd_str (pda_cons (pd_lst false (pda_cons pd_int (pda_cons pd_int pda_nil))) (pda_cons pd_str (pda_cons (pd_tup (pda_cons pd_str (pda_cons pd_int pda_nil))) (pda_cons pd_str pda_nil)))))))))))))
    (pss_1 (psd_ret (pd_ix (pd_lst false (pda_cons (pd_ix (pd_v 1) (pd_call false c_law_take hr (by decide) hgd (pda_cons (pd_v 0) (pda_cons pd_int pda_nil)))) (pda_cons (pd_call false c_law_number hr (by decide) hgd (pda_cons (pd_v 0) pda_nil)) pda_nil))) (pd_call false c_law_take hr (by decide) hgd (pda_cons (pd_v 0) (pda_cons pd_int pda_nil))))))))
abbrev s_is_span : Stmt := top 9
theorem sc_is_span : FnScope ["thing"] ["thing"] (defScope s_is_span) :=
  ⟨rfl, rfl, rfl, by decide +kernel, rfl, by decide +kernel, by decide +kernel⟩
noncomputable def b_is_span : SM :=
    (sRet (eAnd (eA isiG (aC (eV 0) (aC (eC (.ty "tuple")) aN))) (eAnd (e2 (eqG false) (eA lenG (aC (eV 0) aN)) (eC (.int 2))) (e2 (isG false) (eCall m_span_fault false (aC (e2 ixG (eV 0) (eC (.int 0))) (aC (e2 ixG (eV 0) (eC (.int 1))) aN))) (eC .non)))))
noncomputable def m_is_span : FnM := fnM 1 1 b_is_span
theorem ok_is_span (T : Txt K mg) {f : Addr} {fd : FuncData} (F : Fun K "is_span" "is_span" s_is_span f fd) (hm : mg "is_span" = some (.ref f)) (hb : Binds K fd ["thing"] []) (c_span_fault : CalD P w K mg base 3 "span_fault" m_span_fault) :
    CalD P w K mg base 4 "is_span" m_is_span :=
  calD_of (k := 3) F hm hb sc_is_span fun cdv A outer s H E hgd hr =>
    (pss_1 (psd_ret (pd_and (pd_callB call_isi isi_ok T.n_isinstance PyProof.Rows.boot_isinstance (pda_cons (pd_v 0) (pda_cons (pd_ty T.n_tuple PyProof.Rows.boot_tuple) pda_nil))) (pd_and (pd_eq hr.units (pd_callB call_len len_ok T.n_len PySem.boot_len (pda_cons (pd_v 0) pda_nil)) pd_int) (pd_one (pd_is (pd_call false c_span_fault hr (by decide) hgd (pda_cons (pd_ix (pd_v 0) pd_int) (pda_cons (pd_ix (pd_v 0) pd_int) pda_nil))) pd_non))))))
abbrev s_law_thing : Stmt := top 19
theorem sc_law_thing : FnScope ["_law_bag_here", "_law_way", "_law_one", "_law_other", "_law_parts", ".0", "_law_k"] ["_law_bag_here"] (defScope s_law_thing) :=
  ⟨rfl, rfl, rfl, by decide +kernel, rfl, by decide +kernel, by decide +kernel⟩
noncomputable def b_law_thing : SM :=
    (sSeq (sPar3 1 2 3 (aC (eCall m_law_take false (aC (eV 0) (aC (eC (.int 7)) aN))) (aC (eCall m_law_number false (aC (eV 0) aN)) (aC (eCall m_law_number false (aC (eV 0) aN)) aN))))
    (sSeq (sIf (tB (e2 (eqG false) (eV 1) (eC (.int 6)))) (sRet (eCall m_law_text true (aC (eV 0) aN))) sNx)
    (sSeq (sIf (tB (e2 (ltG) (eV 1) (eC (.int 2)))) (sRet (eCall m_law_atom true (aC (eV 0) aN))) sNx)
    (sSeq (sIf (tB (e2 (eqG false) (eV 1) (eC (.int 2)))) (sRet (eA newT (aC (eV 2) (aC (e2 ixG (eA (newL false) (aC (eV 3) (aC (eC .non) (aC (eV 2) (aC (e2 (addG false) (eV 2) (eCall m_law_take false (aC (eV 0) (aC (eC (.int 5)) aN)))) aN))))) (eCall m_law_take false (aC (eV 0) (aC (eC (.int 4)) aN)))) aN)))) sNx)
    (sSeq (sIf (tB (e2 (eqG false) (eV 1) (eC (.int 3)))) (sRet (eA newT (aC (e2 ixG (eA (newL false) (aC (eC (.str "process")) (aC (eC (.str "open")) (aC (eC (.str "opens")) aN)))) (eCall m_law_take false (aC (eV 0) (aC (eC (.int 3)) aN)))) (aC (eV 2) aN)))) sNx)
    (sSeq (sSet 4 (eLC false (iR1 (aC (eCall m_law_take false (aC (eV 0) (aC (eC (.int 4)) aN))) aN)) (gNm 6) tTr (eCall m_law_atom false (aC (eV 0) aN)) [5, 6]))
    (sRet (eIf (tB (e2 (eqG false) (eV 1) (eC (.int 4)))) (eV 4) (eA (tupleG) (aC (eV 4) aN))))))))))
noncomputable def m_law_thing : FnM := fnM 1 7 b_law_thing
theorem ok_law_thing (T : Txt K mg) {f : Addr} {fd : FuncData} (F : Fun K "_law_thing" "_law_thing" s_law_thing f fd) (hm : mg "_law_thing" = some (.ref f)) (hb : Binds K fd ["_law_bag_here"] []) (c_law_take : CalD P w K mg base 1 "_law_take" m_law_take) (c_law_atom : CalD P w K mg base 3 "_law_atom" m_law_atom) (c_law_text : CalD P w K mg base 2 "_law_text" m_law_text) (c_law_number : CalD P w K mg base 2 "_law_number" m_law_number) :
    CalD P w K mg base 4 "_law_thing" m_law_thing :=
  calD_of (k := 3) F hm hb sc_law_thing fun cdv A outer s H E hgd hr =>
    (pss_c (psd_par3 (i := 1) (j := 2) (k := 3) rfl sc_law_thing.nd (pda_cons (pd_call false c_law_take hr (by decide) hgd (pda_cons (pd_v 0) (pda_cons pd_int pda_nil))) (pda_cons (pd_call false c_law_number hr (by decide) hgd (pda_cons (pd_v 0) pda_nil)) (pda_cons (pd_call false c_law_number hr (by decide) hgd (pda_cons (pd_v 0) pda_nil)) pda_nil))))
    (pss_c (psd_if (pt_eq hr.units (pd_v 1) pd_int) (pss_1 (psd_ret (pd_call true c_law_text hr (by decide) hgd (pda_cons (pd_v 0) pda_nil)))) pss_n)
    (pss_c (psd_if (pt_lt (pd_v 1) pd_int) (pss_1 (psd_ret (pd_call true c_law_atom hr (by decide) hgd (pda_cons (pd_v 0) pda_nil)))) pss_n)
    (pss_c (psd_if (pt_eq hr.units (pd_v 1) pd_int) (pss_1 (psd_ret (pd_tup (pda_cons (pd_v 2) (pda_cons (pd_ix (pd_lst false (pda_cons (pd_v 3) (pda_cons pd_non (pda_cons (pd_v 2) (pda_cons (pd_add false (pd_v 2) (pd_call false c_law_take hr (by decide) hgd (pda_cons (pd_v 0) (pda_cons pd_int pda_nil)))) pda_nil))))) (pd_call false c_law_take hr (by decide) hgd (pda_cons (pd_v 0) (pda_cons pd_int pda_nil)))) pda_nil))))) pss_n)
    (pss_c (psd_if (pt_eq hr.units (pd_v 1) pd_int) (pss_1 (psd_ret (pd_tup (pda_cons (pd_ix (pd_lst false (pda_cons pd_str (pda_cons pd_str (pda_cons pd_str pda_nil)))) (pd_call false c_law_take hr (by decide) hgd (pda_cons (pd_v 0) (pda_cons pd_int pda_nil)))) (pda_cons (pd_v 2) pda_nil))))) pss_n)
    (pss_c (psd_setLc false (i := 4) rfl sc_law_thing.nd (pid_range1 T.n_range (pda_cons (pd_call false c_law_take hr (by decide) hgd (pda_cons (pd_v 0) (pda_cons pd_int pda_nil))) pda_nil)) (blkOk_by (own := [(".0", 5), ("_law_k", 6)]) (by kernel_rfl)) (fun _ _ _ _ _ => (pgd_name (i := 6) sc_law_thing.nd)) (fun _ _ _ _ _ => pts_n) (fun _ _ _ _ _ => (pd_call false c_law_atom hr (by decide) hgd (pda_cons (pd_v 0) pda_nil))))
    (pss_1 (psd_ret (pd_if (pt_eq hr.units (pd_v 1) pd_int) (pd_v 4) (pd_callTy call_tuple_of (tuple_ok) T.n_tuple PyProof.Rows.boot_tuple (pda_cons (pd_v 4) pda_nil)))))))))))
abbrev s_law_huge_right : Stmt := top 22
theorem sc_law_huge_right : FnScope ["_law_huge", "_law_told"] [] (defScope s_law_huge_right) :=
  ⟨rfl, rfl, rfl, by decide +kernel, rfl, by decide +kernel, by decide +kernel⟩
noncomputable def b_law_huge_right : SM :=
    (sSeq (sSet 0 (e2 (mulG false) (e2 powWG (e2 powWG (eC (.int 10)) (eC (.int 60))) (eC (.int 64))) (e2 powWG (e2 powWG (eC (.int 10)) (eC (.int 60))) (eC (.int 20)))))
    (sSeq (sSet 1 (eA (newL false) (aC (eCall m_is_integer false (aC (eV 0) aN)) (aC (eCall m_is_byte false (aC (eV 0) aN)) (aC (eCall m_is_span false (aC (eA newT (aC (eC (.int 0)) (aC (eV 0) aN))) aN)) (aC (eCall m_is_owner false (aC (eA newT (aC (eC (.str "open")) (aC (eV 0) aN))) aN)) (aC (eCall m_is_span false (aC (eA newT (aC (eV 0) (aC (eC .non) aN))) aN)) aN)))))))
    (sSeq (sSet 1 (e2 (addG false) (eV 1) (eA (newL false) (aC (eCall m_is_integer false (aC (e1 negG (eV 0)) aN)) (aC (eCall m_is_byte false (aC (e1 negG (eV 0)) aN)) (aC (eCall m_is_level false (aC (eV 0) aN)) (aC (eCall m_is_span false (aC (eA newT (aC (eV 0) (aC (eC (.int 0)) aN))) aN)) (aC (eCall m_is_owner false (aC (eA newT (aC (eC (.str "open")) (aC (e1 negG (eV 0)) aN))) aN)) aN))))))))
    (sRet (e2 (eqG false) (eV 1) (eA (newL false) (aC (eC (.bl true)) (aC (eC (.bl true)) (aC (eC (.bl true)) (aC (eC (.bl true)) (aC (eC (.bl true)) (aC (eC (.bl true)) (aC (eC (.bl false)) (aC (eC (.bl false)) (aC (eC (.bl false)) (aC (eC (.bl false)) aN))))))))))))))))
noncomputable def m_law_huge_right : FnM := fnM 0 2 b_law_huge_right
theorem ok_law_huge_right (T : Txt K mg) {f : Addr} {fd : FuncData} (F : Fun K "_law_huge_right" "_law_huge_right" s_law_huge_right f fd) (hm : mg "_law_huge_right" = some (.ref f)) (hb : Binds K fd [] []) (c_is_owner : CalD P w K mg base 3 "is_owner" m_is_owner) (c_is_span : CalD P w K mg base 4 "is_span" m_is_span) (c_is_level : CalD P w K mg base 3 "is_level" m_is_level) (c_is_byte : CalD P w K mg base 2 "is_byte" m_is_byte) (c_is_integer : CalD P w K mg base 1 "is_integer" m_is_integer) :
    CalD P w K mg base 5 "_law_huge_right" m_law_huge_right :=
  calD_of (k := 4) F hm hb sc_law_huge_right fun cdv A outer s H E hgd hr =>
    (pss_c (psd_set (i := 0) sc_law_huge_right.nd (pd_mul false (pd_powW (pd_powW pd_int pd_int) pd_int) (pd_powW (pd_powW pd_int pd_int) pd_int)))
    (pss_c (psd_set (i := 1) sc_law_huge_right.nd (pd_lst false (pda_cons (pd_call false c_is_integer hr (by decide) hgd (pda_cons (pd_v 0) pda_nil)) (pda_cons (pd_call false c_is_byte hr (by decide) hgd (pda_cons (pd_v 0) pda_nil)) (pda_cons (pd_call false c_is_span hr (by decide) hgd (pda_cons (pd_tup (pda_cons pd_int (pda_cons (pd_v 0) pda_nil))) pda_nil)) (pda_cons (pd_call false c_is_owner hr (by decide) hgd (pda_cons (pd_tup (pda_cons pd_str (pda_cons (pd_v 0) pda_nil))) pda_nil)) (pda_cons (pd_call false c_is_span hr (by decide) hgd (pda_cons (pd_tup (pda_cons (pd_v 0) (pda_cons pd_non pda_nil))) pda_nil)) pda_nil)))))))
    (pss_c (psd_set (i := 1) sc_law_huge_right.nd (pd_add false (pd_v 1) (pd_lst false (pda_cons (pd_call false c_is_integer hr (by decide) hgd (pda_cons (pd_neg (pd_v 0)) pda_nil)) (pda_cons (pd_call false c_is_byte hr (by decide) hgd (pda_cons (pd_neg (pd_v 0)) pda_nil)) (pda_cons (pd_call false c_is_level hr (by decide) hgd (pda_cons (pd_v 0) pda_nil)) (pda_cons (pd_call false c_is_span hr (by decide) hgd (pda_cons (pd_tup (pda_cons (pd_v 0) (pda_cons pd_int pda_nil))) pda_nil)) (pda_cons (pd_call false c_is_owner hr (by decide) hgd (pda_cons (pd_tup (pda_cons pd_str (pda_cons (pd_neg (pd_v 0)) pda_nil))) pda_nil)) pda_nil))))))))
    (pss_1 (psd_ret (pd_eq hr.units (pd_v 1) (pd_lst false (pda_cons pd_bl (pda_cons pd_bl (pda_cons pd_bl (pda_cons pd_bl (pda_cons pd_bl (pda_cons pd_bl (pda_cons pd_bl (pda_cons pd_bl (pda_cons pd_bl (pda_cons pd_bl pda_nil)))))))))))))))))
abbrev s_law : Stmt := top 23
theorem sc_law : FnScope ["_law_script", "_law_bag_here", "_law_things", "_law_thing_here", "_law_kept", "_law_told", ".0", "_law_k"] ["_law_script"] (defScope s_law) :=
  ⟨rfl, rfl, rfl, by decide +kernel, rfl, by decide +kernel, by decide +kernel⟩
noncomputable def i_law_1 : SM :=
    (sIf (tOo (tB (e2 (eqG true) (eA reprXG (aC (eV 5) aN)) (eA reprXG (aC (eCall m_law_due false (aC (eV 3) aN)) aN)))) (tB (e2 (eqG true) (eA reprXG (aC (eV 3) aN)) (eV 4)))) (sRet (eC (.bl false))) sNx)
noncomputable def f_law_1 : SM :=
    (sSeq (sSet 4 (eA reprXG (aC (eV 3) aN)))
    (sSeq (sSet 5 (eA (newL false) (aC (eCall m_is_integer false (aC (eV 3) aN)) (aC (eCall m_is_byte false (aC (eV 3) aN)) (aC (eCall m_is_span false (aC (eV 3) aN)) aN)))))
    (sSeq (sSet 5 (e2 (addG false) (eV 5) (eA (newL false) (aC (eCall m_is_level false (aC (eV 3) aN)) (aC (eCall m_is_name false (aC (eV 3) aN)) (aC (eCall m_is_owner false (aC (eV 3) aN)) aN))))))
    i_law_1)))
noncomputable def i_law_2 : SM :=
    (sIf (tNt (tV (eCall0 m_law_huge_right false))) (sRet (eC (.bl false))) sNx)
noncomputable def b_law : SM :=
    (sSeq (sSet 1 (eCall m_law_bag true (aC (eV 0) aN)))
    (sSeq i_law_2
    (sSeq (sSet 2 (eLC false (iR1 (aC (eC (.int 24)) aN)) (gNm 7) tTr (eCall m_law_thing false (aC (eV 1) aN)) [6, 7]))
    (sSeq (sFor (iSeq (e2 (addG false) (eV 2) (eRev false (eV 2)))) (gNm 3) f_law_1)
    (sRet (eC (.bl true)))))))
noncomputable def m_law : FnM := fnM 1 8 b_law
theorem ok_law (T : Txt K mg) {f : Addr} {fd : FuncData} (F : Fun K "law" "law" s_law f fd) (hm : mg "law" = some (.ref f)) (hb : Binds K fd ["_law_script"] []) (c_law_due : CalD P w K mg base 2 "_law_due" m_law_due) (c_is_owner : CalD P w K mg base 3 "is_owner" m_is_owner) (c_is_name : CalD P w K mg base 1 "is_name" m_is_name) (c_is_level : CalD P w K mg base 3 "is_level" m_is_level) (c_is_span : CalD P w K mg base 4 "is_span" m_is_span) (c_is_byte : CalD P w K mg base 2 "is_byte" m_is_byte) (c_is_integer : CalD P w K mg base 1 "is_integer" m_is_integer) (c_law_thing : CalD P w K mg base 4 "_law_thing" m_law_thing) (c_law_huge_right : CalD P w K mg base 5 "_law_huge_right" m_law_huge_right) (c_law_bag : CalD P w K mg base 1 "_law_bag" m_law_bag) :
    CalD P w K mg base 6 "law" m_law :=
  calD_of (k := 5) F hm hb sc_law fun cdv A outer s H E hgd hr =>
    (pss_c (psd_set (i := 1) sc_law.nd (pd_call true c_law_bag hr (by decide) hgd (pda_cons (pd_v 0) pda_nil)))
    (pss_c (psd_if (pt_nt (pt_v (pd_call0 false c_law_huge_right hr (by decide) hgd))) (pss_1 (psd_ret pd_bl)) pss_n)
    (pss_c (psd_setLc false (i := 2) rfl sc_law.nd (pid_range1 T.n_range (pda_cons pd_int pda_nil)) (blkOk_by (own := [(".0", 6), ("_law_k", 7)]) (by kernel_rfl)) (fun _ _ _ _ _ => (pgd_name (i := 7) sc_law.nd)) (fun _ _ _ _ _ => pts_n) (fun _ _ _ _ _ => (pd_call false c_law_thing hr (by decide) hgd (pda_cons (pd_v 1) pda_nil))))
    (pss_c (psd_for rfl (passes_of rfl) (pid_seq (pd_add false (pd_v 2) (pd_rev false (pd_v 2)))) (pgd_name (i := 3) sc_law.nd) (pss_c (psd_set (i := 4) sc_law.nd (pd_callB (call_reprX hgd (hu80 hr)) reprX_ok T.n_repr PyProof.Rows.boot_repr (pda_cons (pd_v 3) pda_nil)))
    (pss_c (psd_set (i := 5) sc_law.nd (pd_lst false (pda_cons (pd_call false c_is_integer hr (by decide) hgd (pda_cons (pd_v 3) pda_nil)) (pda_cons (pd_call false c_is_byte hr (by decide) hgd (pda_cons (pd_v 3) pda_nil)) (pda_cons (pd_call false c_is_span hr (by decide) hgd (pda_cons (pd_v 3) pda_nil)) pda_nil)))))
    (pss_c (psd_set (i := 5) sc_law.nd (pd_add false (pd_v 5) (pd_lst false (pda_cons (pd_call false c_is_level hr (by decide) hgd (pda_cons (pd_v 3) pda_nil)) (pda_cons (pd_call false c_is_name hr (by decide) hgd (pda_cons (pd_v 3) pda_nil)) (pda_cons (pd_call false c_is_owner hr (by decide) hgd (pda_cons (pd_v 3) pda_nil)) pda_nil))))))
    (pss_1 (psd_if (pt_w (pw_o (pt_ne hr.units (pd_callB (call_reprX hgd (hu80 hr)) reprX_ok T.n_repr PyProof.Rows.boot_repr (pda_cons (pd_v 5) pda_nil)) (pd_callB (call_reprX hgd (hu80 hr)) reprX_ok T.n_repr PyProof.Rows.boot_repr (pda_cons (pd_call false c_law_due hr (by decide) hgd (pda_cons (pd_v 3) pda_nil)) pda_nil))) (pw_o1 (pt_ne hr.units (pd_callB (call_reprX hgd (hu80 hr)) reprX_ok T.n_repr PyProof.Rows.boot_repr (pda_cons (pd_v 3) pda_nil)) (pd_v 4))))) (pss_1 (psd_ret pd_bl)) pss_n))))))
    (pss_1 (psd_ret pd_bl))))))
end
/-! ### spans and areas: what the program's defs compute -/
def oD : Option Int → D
  | none => .non
  | some i => .int i
theorem oD_n : oD none = .non := rfl
theorem oD_s (i : Int) : oD (some i) = .int i := rfl
abbrev spD (s : MA.Span) : D := .tup [.int s.1, oD s.2]
abbrev spsD (ss : List MA.Span) : D := .lst (ss.map spD)
abbrev areaD (ss : List MA.Span) : D := .ins "Area" [("kept", spsD ss)]
theorem spD_inj {a b : MA.Span} (h : spD a = spD b) : a = b := by
  obtain ⟨f, l⟩ := a
  obtain ⟨g, k⟩ := b
  simp only [spD, D.tup.injEq, List.cons.injEq, D.int.injEq, and_true] at h
  obtain ⟨rfl, h⟩ := h
  cases l <;> cases k <;> simp_all [oD]
/-! == on spans -/
theorem lay_o (l : Option Int) : isP (oD l) = true ∧ (py (oD l)).canLay0 = true ∧ (py (oD l)).depth = 0 := by
  cases l <;> simp [oD, isP, py, PyData.canLay0, PyData.depth]
theorem lay_sps : ∀ ss : List MA.Span, isPs (ss.map spD) = true ∧ PyData.canLayAll0 (pys (ss.map spD)) = true ∧ PyData.depthAll (pys (ss.map spD)) ≤ 1
  | [] => by simp [isPs, pys, PyData.canLayAll0, PyData.depthAll]
  | s :: ss => by
    obtain ⟨a, b, c⟩ := lay_sps ss
    obtain ⟨a2, b2, c2⟩ := lay_o s.2
    refine ⟨?_, ?_, ?_⟩
    · simp only [List.map_cons, isPs, isP, a, a2, Bool.and_self]
    · simp only [List.map_cons, pys, py, PyData.canLayAll0, PyData.canLay0, b, b2, Bool.and_self]
    · simp only [List.map_cons, pys, py, PyData.depthAll, PyData.depth, c2]
      omega
theorem plain_sps (ss : List MA.Span) : DL.plain (spsD ss) = true := by
  obtain ⟨a, b, c⟩ := lay_sps ss
  unfold DL.plain SeqAt.shaped
  simp only [spsD, isP, py, PyData.canLay0, PyData.depth, a, b, Bool.true_and, decide_eq_true_eq]
  omega
theorem plain_sp (s : MA.Span) : DL.plain (spD s) = true := by
  obtain ⟨a, b, c⟩ := lay_o s.2
  simp [DL.plain, SeqAt.shaped, spD, isP, isPs, py, pys, PyData.canLay0, PyData.canLayAll0, PyData.depth, PyData.depthAll, a, b, c]
theorem deq_o (l k : Option Int) : PyData.eqv (py (oD l)) (py (oD k)) = decide (l = k) := by
  cases l with
  | none => cases k <;> simp [oD, py, PyData.eqv]
  | some i =>
    cases k with
    | none => simp [oD, py, PyData.eqv]
    | some j =>
      simp only [oD, py, PyData.eqv]
      rw [Bool.eq_iff_iff]
      simp
theorem deq_sps : ∀ xs ys : List MA.Span, PyData.eqvAll (pys (xs.map spD)) (pys (ys.map spD)) = decide (xs = ys)
  | [], [] => by simp [pys, PyData.eqvAll]
  | [], _ :: _ => by simp [pys, PyData.eqvAll]
  | _ :: _, [] => by simp [pys, PyData.eqvAll]
  | (f, l) :: xs, (g, k) :: ys => by
    simp only [List.map_cons, pys, py, PyData.eqvAll, PyData.eqv, deq_o, deq_sps xs ys, Bool.and_true]
    rw [Bool.eq_iff_iff]
    simp [and_assoc]
theorem eq_sps (n : Bool) (xs ys : List MA.Span) (S : Store) : eqG n (.fr (spsD xs)) (.fr (spsD ys)) S = .ok (.fr (.bl (if n then !decide (xs = ys) else decide (xs = ys))), S) := by
  refine r_eq n rfl rfl ?_
  unfold eqD
  split
  · rename_i e
    cases e
  · rw [plain_sps, plain_sps]
    simp only [deq, py, PyData.eqv, deq_sps, Bool.and_self, if_true]
section
variable {S : Store} (wf : WF S)
include wf
/-! kinds -/
theorem r_isi (x : SV) (t b : String) (r : Bool) (h : (tyN S x).bind (fun a => kin a b) = some r) : isiG [x, .fr (.ty b)] S = .ok (.fr (.bl r), S) := by
  unfold isiG
  simp only [h, okV]
theorem integer_run (i : Int) : m_is_integer [.fr (.int i)] S = .ok (.val (.fr (.bl true)), S) := by
  have e1 : isiG [.fr (.int i), .fr (.ty "int")] S = .ok (.fr (.bl true), S) := r_isi wf _ "int" _ _ rfl
  have e2 : isiG [.fr (.int i), .fr (.ty "bool")] S = .ok (.fr (.bl false), S) := r_isi wf _ "int" _ _ rfl
  simp only [r_bind, r_1, s_1, r_2, s_2, s_2b, r_v, s_v, r_c, r_n, r_a, s_a, s_ab, r_g, s_g, r_and, s_And, s_and1, s_and0, r_or, s_Or, s_or1, s_or0, r_not, s_Not, s_not, r_if, s_if1, s_if0, r_ch, s_ch, s_cha, s_chb1, s_chb0, s_chc, r_tB, s_tB, r_tV, s_tV, s_tv, r_tN, s_tN, r_tA, s_tA1, s_tA0, r_tO, s_tO1, s_tO0, r_tT, r_trB, r_trI, r_trN, r_call, s_call, s_noX, s_backV, s_backC, s_backF, s_frz, r_frz, r_all0, r_all1, r_fn1, r_fn2, r_fn3, r_fn4, r_fn5, s_lvR, s_lvN, r_nx, r_bk, r_ct, r_seq, s_seqN, s_seqR, s_seqB, s_seqC, r_ret, s_ret, r_retN, r_sif, s_sif1, s_sif0, r_ex, s_ex, r_set, s_set, r_par, s_par, r_as, s_as, s_gb, r_gNm, r_gNl, r_gCs, s_gCs, r_gTu2, r_gTu3, r_gTu4, r_gSb, s_sb, s_sb2, s_st, s_nxS, r_au, s_au, s_au0, s_au1, s_au2, s_au3, r_addI, r_for, s_for, s_body, s_turnN, s_turnC, s_turnB, s_turnR, r_r1, s_r1, r_r2, s_r2, r_sq, s_sqL, s_sqS, r_tp, s_tp, r_xT, r_xL, s_x, s_xd, at_0, at_1, at_2, at_3, at_4, r_add, r_sub, r_neg, r_mul, r_fdiv, r_mod, r_pow, r_cmp, r_is, r_eqI, r_abs, r_int, r_max, r_min, r_okV, r_snap, r_lenF, r_lenT, DL.isNon, List.replicate_succ, List.replicate_zero, List.set_cons_zero, List.set_cons_succ, List.getElem?_cons_zero, List.getElem?_cons_succ, Option.map_some, Nat.reduceSub, and_self, and_true, true_and, decide_true, decide_false, if_true, if_false, Bool.false_eq_true, Bool.not_true, Bool.not_false, r_ps, s_ps, r_pn, r_sl, s_sl, s_sl1, s_sl2, r_slL, r_slS, r_slT, r_lcT, s_l1, s_l2t, s_l2f, s_l3, r_lc, s_lc, s_noE, s_lceC, s_wr0, s_wr, r_nT, s_nT, r_nF, s_nF, r_nC, s_nC, s_sz0, s_sz1, Nat.reduceAdd, Nat.reduceMul, Nat.reduceLeDiff, last_x, at_m1, last_set, r_mt, s_mt, s_mtb, ty_last, r_fld', s_fld, r_meth0, s_meth0, r_meth, s_meth, s_methb, r_make, s_make, r_sf, s_sf, s_sfb, r_sort, s_sort, r_en, s_enL, r_zi, s_ziL, r_sst, r_mt0', r_gUl3, r_par3, s_par3, r_cmA, s_cmA, r_rev, s_revF, r_cw, s_cw, s_cw1, r_fill, r_isB, r_nTC, s_nTC, m_is_integer, b_is_integer, isbG, e1, e2, leave_val wf]
theorem byte_run (i : Int) : m_is_byte [.fr (.int i)] S = .ok (.val (.fr (.bl (decide (0 ≤ i)))), S) := by
  simp only [r_bind, r_1, s_1, r_2, s_2, s_2b, r_v, s_v, r_c, r_n, r_a, s_a, s_ab, r_g, s_g, r_and, s_And, s_and1, s_and0, r_or, s_Or, s_or1, s_or0, r_not, s_Not, s_not, r_if, s_if1, s_if0, r_ch, s_ch, s_cha, s_chb1, s_chb0, s_chc, r_tB, s_tB, r_tV, s_tV, s_tv, r_tN, s_tN, r_tA, s_tA1, s_tA0, r_tO, s_tO1, s_tO0, r_tT, r_trB, r_trI, r_trN, r_call, s_call, s_noX, s_backV, s_backC, s_backF, s_frz, r_frz, r_all0, r_all1, r_fn1, r_fn2, r_fn3, r_fn4, r_fn5, s_lvR, s_lvN, r_nx, r_bk, r_ct, r_seq, s_seqN, s_seqR, s_seqB, s_seqC, r_ret, s_ret, r_retN, r_sif, s_sif1, s_sif0, r_ex, s_ex, r_set, s_set, r_par, s_par, r_as, s_as, s_gb, r_gNm, r_gNl, r_gCs, s_gCs, r_gTu2, r_gTu3, r_gTu4, r_gSb, s_sb, s_sb2, s_st, s_nxS, r_au, s_au, s_au0, s_au1, s_au2, s_au3, r_addI, r_for, s_for, s_body, s_turnN, s_turnC, s_turnB, s_turnR, r_r1, s_r1, r_r2, s_r2, r_sq, s_sqL, s_sqS, r_tp, s_tp, r_xT, r_xL, s_x, s_xd, at_0, at_1, at_2, at_3, at_4, r_add, r_sub, r_neg, r_mul, r_fdiv, r_mod, r_pow, r_cmp, r_is, r_eqI, r_abs, r_int, r_max, r_min, r_okV, r_snap, r_lenF, r_lenT, DL.isNon, List.replicate_succ, List.replicate_zero, List.set_cons_zero, List.set_cons_succ, List.getElem?_cons_zero, List.getElem?_cons_succ, Option.map_some, Nat.reduceSub, and_self, and_true, true_and, decide_true, decide_false, if_true, if_false, Bool.false_eq_true, Bool.not_true, Bool.not_false, r_ps, s_ps, r_pn, r_sl, s_sl, s_sl1, s_sl2, r_slL, r_slS, r_slT, r_lcT, s_l1, s_l2t, s_l2f, s_l3, r_lc, s_lc, s_noE, s_lceC, s_wr0, s_wr, r_nT, s_nT, r_nF, s_nF, r_nC, s_nC, s_sz0, s_sz1, Nat.reduceAdd, Nat.reduceMul, Nat.reduceLeDiff, last_x, at_m1, last_set, r_mt, s_mt, s_mtb, ty_last, r_fld', s_fld, r_meth0, s_meth0, r_meth, s_meth, s_methb, r_make, s_make, r_sf, s_sf, s_sfb, r_sort, s_sort, r_en, s_enL, r_zi, s_ziL, r_sst, r_mt0', r_gUl3, r_par3, s_par3, r_cmA, s_cmA, r_rev, s_revF, r_cw, s_cw, s_cw1, r_fill, r_isB, r_nTC, s_nTC, m_is_byte, b_is_byte, integer_run wf, leave_val wf]
theorem fault_run {s : MA.Span} (h : MA.Ok s) : m_span_fault [.fr (.int s.1), .fr (oD s.2)] S = .ok (.val (.fr .non), S) := by
  obtain ⟨f, l⟩ := s
  have h0 := h.f0
  cases l with
  | none => simp only [r_bind, r_1, s_1, r_2, s_2, s_2b, r_v, s_v, r_c, r_n, r_a, s_a, s_ab, r_g, s_g, r_and, s_And, s_and1, s_and0, r_or, s_Or, s_or1, s_or0, r_not, s_Not, s_not, r_if, s_if1, s_if0, r_ch, s_ch, s_cha, s_chb1, s_chb0, s_chc, r_tB, s_tB, r_tV, s_tV, s_tv, r_tN, s_tN, r_tA, s_tA1, s_tA0, r_tO, s_tO1, s_tO0, r_tT, r_trB, r_trI, r_trN, r_call, s_call, s_noX, s_backV, s_backC, s_backF, s_frz, r_frz, r_all0, r_all1, r_fn1, r_fn2, r_fn3, r_fn4, r_fn5, s_lvR, s_lvN, r_nx, r_bk, r_ct, r_seq, s_seqN, s_seqR, s_seqB, s_seqC, r_ret, s_ret, r_retN, r_sif, s_sif1, s_sif0, r_ex, s_ex, r_set, s_set, r_par, s_par, r_as, s_as, s_gb, r_gNm, r_gNl, r_gCs, s_gCs, r_gTu2, r_gTu3, r_gTu4, r_gSb, s_sb, s_sb2, s_st, s_nxS, r_au, s_au, s_au0, s_au1, s_au2, s_au3, r_addI, r_for, s_for, s_body, s_turnN, s_turnC, s_turnB, s_turnR, r_r1, s_r1, r_r2, s_r2, r_sq, s_sqL, s_sqS, r_tp, s_tp, r_xT, r_xL, s_x, s_xd, at_0, at_1, at_2, at_3, at_4, r_add, r_sub, r_neg, r_mul, r_fdiv, r_mod, r_pow, r_cmp, r_is, r_eqI, r_abs, r_int, r_max, r_min, r_okV, r_snap, r_lenF, r_lenT, DL.isNon, List.replicate_succ, List.replicate_zero, List.set_cons_zero, List.set_cons_succ, List.getElem?_cons_zero, List.getElem?_cons_succ, Option.map_some, Nat.reduceSub, and_self, and_true, true_and, decide_true, decide_false, if_true, if_false, Bool.false_eq_true, Bool.not_true, Bool.not_false, r_ps, s_ps, r_pn, r_sl, s_sl, s_sl1, s_sl2, r_slL, r_slS, r_slT, r_lcT, s_l1, s_l2t, s_l2f, s_l3, r_lc, s_lc, s_noE, s_lceC, s_wr0, s_wr, r_nT, s_nT, r_nF, s_nF, r_nC, s_nC, s_sz0, s_sz1, Nat.reduceAdd, Nat.reduceMul, Nat.reduceLeDiff, last_x, at_m1, last_set, r_mt, s_mt, s_mtb, ty_last, r_fld', s_fld, r_meth0, s_meth0, r_meth, s_meth, s_methb, r_make, s_make, r_sf, s_sf, s_sfb, r_sort, s_sort, r_en, s_enL, r_zi, s_ziL, r_sst, r_mt0', r_gUl3, r_par3, s_par3, r_cmA, s_cmA, r_rev, s_revF, r_cw, s_cw, s_cw1, r_fill, r_isB, r_nTC, s_nTC, m_span_fault, b_span_fault, byte_run wf, h0, oD_n, leave_val wf]
  | some i =>
    have h1 := h.l1 i rfl
    dsimp only at h0 h1
    have h2 : 0 ≤ i := by omega
    simp only [r_bind, r_1, s_1, r_2, s_2, s_2b, r_v, s_v, r_c, r_n, r_a, s_a, s_ab, r_g, s_g, r_and, s_And, s_and1, s_and0, r_or, s_Or, s_or1, s_or0, r_not, s_Not, s_not, r_if, s_if1, s_if0, r_ch, s_ch, s_cha, s_chb1, s_chb0, s_chc, r_tB, s_tB, r_tV, s_tV, s_tv, r_tN, s_tN, r_tA, s_tA1, s_tA0, r_tO, s_tO1, s_tO0, r_tT, r_trB, r_trI, r_trN, r_call, s_call, s_noX, s_backV, s_backC, s_backF, s_frz, r_frz, r_all0, r_all1, r_fn1, r_fn2, r_fn3, r_fn4, r_fn5, s_lvR, s_lvN, r_nx, r_bk, r_ct, r_seq, s_seqN, s_seqR, s_seqB, s_seqC, r_ret, s_ret, r_retN, r_sif, s_sif1, s_sif0, r_ex, s_ex, r_set, s_set, r_par, s_par, r_as, s_as, s_gb, r_gNm, r_gNl, r_gCs, s_gCs, r_gTu2, r_gTu3, r_gTu4, r_gSb, s_sb, s_sb2, s_st, s_nxS, r_au, s_au, s_au0, s_au1, s_au2, s_au3, r_addI, r_for, s_for, s_body, s_turnN, s_turnC, s_turnB, s_turnR, r_r1, s_r1, r_r2, s_r2, r_sq, s_sqL, s_sqS, r_tp, s_tp, r_xT, r_xL, s_x, s_xd, at_0, at_1, at_2, at_3, at_4, r_add, r_sub, r_neg, r_mul, r_fdiv, r_mod, r_pow, r_cmp, r_is, r_eqI, r_abs, r_int, r_max, r_min, r_okV, r_snap, r_lenF, r_lenT, DL.isNon, List.replicate_succ, List.replicate_zero, List.set_cons_zero, List.set_cons_succ, List.getElem?_cons_zero, List.getElem?_cons_succ, Option.map_some, Nat.reduceSub, and_self, and_true, true_and, decide_true, decide_false, if_true, if_false, Bool.false_eq_true, Bool.not_true, Bool.not_false, r_ps, s_ps, r_pn, r_sl, s_sl, s_sl1, s_sl2, r_slL, r_slS, r_slT, r_lcT, s_l1, s_l2t, s_l2f, s_l3, r_lc, s_lc, s_noE, s_lceC, s_wr0, s_wr, r_nT, s_nT, r_nF, s_nF, r_nC, s_nC, s_sz0, s_sz1, Nat.reduceAdd, Nat.reduceMul, Nat.reduceLeDiff, last_x, at_m1, last_set, r_mt, s_mt, s_mtb, ty_last, r_fld', s_fld, r_meth0, s_meth0, r_meth, s_meth, s_methb, r_make, s_make, r_sf, s_sf, s_sfb, r_sort, s_sort, r_en, s_enL, r_zi, s_ziL, r_sst, r_mt0', r_gUl3, r_par3, s_par3, r_cmA, s_cmA, r_rev, s_revF, r_cw, s_cw, s_cw1, r_fill, r_isB, r_nTC, s_nTC, m_span_fault, b_span_fault, byte_run wf, h0, h1, h2, oD_s, leave_val wf]
theorem is_span_run {s : MA.Span} (h : MA.Ok s) : m_is_span [.fr (spD s)] S = .ok (.val (.fr (.bl true)), S) := by
  have e1 : isiG [.fr (spD s), .fr (.ty "tuple")] S = .ok (.fr (.bl true), S) := r_isi wf _ "tuple" _ _ rfl
  have e2 : lenG [.fr (spD s)] S = .ok (.fr (.int 2), S) := rfl
  have e3 : decide ((2 : Int) = 2) = true := rfl
  simp only [r_bind, r_1, s_1, r_2, s_2, s_2b, r_v, s_v, r_c, r_n, r_a, s_a, s_ab, r_g, s_g, r_and, s_And, s_and1, s_and0, r_or, s_Or, s_or1, s_or0, r_not, s_Not, s_not, r_if, s_if1, s_if0, r_ch, s_ch, s_cha, s_chb1, s_chb0, s_chc, r_tB, s_tB, r_tV, s_tV, s_tv, r_tN, s_tN, r_tA, s_tA1, s_tA0, r_tO, s_tO1, s_tO0, r_tT, r_trB, r_trI, r_trN, r_call, s_call, s_noX, s_backV, s_backC, s_backF, s_frz, r_frz, r_all0, r_all1, r_fn1, r_fn2, r_fn3, r_fn4, r_fn5, s_lvR, s_lvN, r_nx, r_bk, r_ct, r_seq, s_seqN, s_seqR, s_seqB, s_seqC, r_ret, s_ret, r_retN, r_sif, s_sif1, s_sif0, r_ex, s_ex, r_set, s_set, r_par, s_par, r_as, s_as, s_gb, r_gNm, r_gNl, r_gCs, s_gCs, r_gTu2, r_gTu3, r_gTu4, r_gSb, s_sb, s_sb2, s_st, s_nxS, r_au, s_au, s_au0, s_au1, s_au2, s_au3, r_addI, r_for, s_for, s_body, s_turnN, s_turnC, s_turnB, s_turnR, r_r1, s_r1, r_r2, s_r2, r_sq, s_sqL, s_sqS, r_tp, s_tp, r_xT, r_xL, s_x, s_xd, at_0, at_1, at_2, at_3, at_4, r_add, r_sub, r_neg, r_mul, r_fdiv, r_mod, r_pow, r_cmp, r_is, r_eqI, r_abs, r_int, r_max, r_min, r_okV, r_snap, r_lenF, r_lenT, DL.isNon, List.replicate_succ, List.replicate_zero, List.set_cons_zero, List.set_cons_succ, List.getElem?_cons_zero, List.getElem?_cons_succ, Option.map_some, Nat.reduceSub, and_self, and_true, true_and, decide_true, decide_false, if_true, if_false, Bool.false_eq_true, Bool.not_true, Bool.not_false, r_ps, s_ps, r_pn, r_sl, s_sl, s_sl1, s_sl2, r_slL, r_slS, r_slT, r_lcT, s_l1, s_l2t, s_l2f, s_l3, r_lc, s_lc, s_noE, s_lceC, s_wr0, s_wr, r_nT, s_nT, r_nF, s_nF, r_nC, s_nC, s_sz0, s_sz1, Nat.reduceAdd, Nat.reduceMul, Nat.reduceLeDiff, last_x, at_m1, last_set, r_mt, s_mt, s_mtb, ty_last, r_fld', s_fld, r_meth0, s_meth0, r_meth, s_meth, s_methb, r_make, s_make, r_sf, s_sf, s_sfb, r_sort, s_sort, r_en, s_enL, r_zi, s_ziL, r_sst, r_mt0', r_gUl3, r_par3, s_par3, r_cmA, s_cmA, r_rev, s_revF, r_cw, s_cw, s_cw1, r_fill, r_isB, r_nTC, s_nTC, m_is_span, b_is_span, isbG, e1, e2, e3, fault_run wf h, leave_val wf]
end

theorem add_cf {S : Store} {xs : List SV} {ds : List D} (h : xs.length + ds.length ≤ 16777216) : addG true (.cell S.length) (.fr (.lst ds)) (S ++ [.lst xs]) = .ok (.cell (S.length + 1), S ++ [.lst xs] ++ [.lst (xs ++ ds.map SV.fr)]) := by
  have e1 : rdL (S ++ [.lst xs]) (.cell S.length) = some xs := by
    unfold rdL
    simp only [get_snoc]
  have hz := sizeLine_eq
  unfold addG
  simp only [e1]
  simp only [rdL]
  unfold newL
  rw [if_pos (by simpa using (by omega : xs.length + ds.length ≤ sizeLine))]
  simp
theorem add_ff {S : Store} (c : Bool) {xs ys : List D} (h : xs.length + ys.length ≤ 16777216) : addG c (.fr (.lst xs)) (.fr (.lst ys)) S = (if c then .ok (.cell S.length, S ++ [.lst ((xs ++ ys).map SV.fr)]) else .ok (.fr (.lst (xs ++ ys)), S)) := by
  have hz := sizeLine_eq
  unfold addG
  simp only [rdL]
  unfold newL
  rw [if_pos (by simpa using (by omega : xs.length + ys.length ≤ sizeLine)), ← List.map_append, allFr_map]
theorem leave_new2 {S : Store} {a c : Cell} (h : WF S) (hc : c.below S.length = true) : leave S.length (.cell (S.length + 1)) (S ++ [a] ++ [c]) = .ok (.new c, S) := by
  unfold leave
  have e1 : (S ++ [a] ++ [c]).take S.length = S := by simp
  have e2 : (S ++ [a] ++ [c])[S.length + 1]? = some c := by
    rw [List.getElem?_append_right (by simp)]
    simp
  rw [e1, if_pos (show S.all (Cell.below S.length) = true from h)]
  simp only [e2]
  rw [if_neg (by omega), if_pos hc]
theorem take_is : m_law_take = takeM := rfl
theorem bag_is : m_law_bag = bagM := rfl
theorem wfb (b : Bag) : WF [b.c] := by unfold WF; simp [Bag.c, Cell.below, SV.below]
theorem rng_len (a : Int) (n : Nat) : (rngS a n).length = n := by simp [rngS]
theorem fit_1 (n : Nat) : fit n (.int 1) = true := by cases n <;> simp [fit]
theorem fit_int {n : Nat} {i : Int} (h : i.natAbs < 10 ^ 129) : fit n (.int i) = true := by
  cases n <;> simp [fit, h]
theorem fit_oD {n : Nat} {l : Option Int} (h : ∀ i, l = some i → i.natAbs < 10 ^ 129) : fit n (oD l) = true := by
  cases l with
  | none => cases n <;> simp [fit, oD]
  | some i => exact fit_int (h i rfl)
theorem bulk_oD (l : Option Int) : (py (oD l)).bulk = 0 := by cases l <;> simp only [oD, py, PyData.bulk]
theorem fit_bl (n : Nat) (b : Bool) : fit n (.bl b) = true := by cases n <;> simp [fit]
theorem int_bl (S : Store) (r : Bool) : intG [.fr (.bl r)] S = .ok (.fr (.int (if r then 1 else 0)), S) := rfl
theorem mul_1 (S : Store) (d : D) : mulG true (.fr (.lst [d])) (.fr (.int 1)) S = .ok (.cell S.length, S ++ [.lst [.fr d]]) := by
  have hz := sizeLine_eq
  unfold mulG
  simp only [rdL]
  rw [if_pos (by simp; omega)]
  unfold newL
  rw [if_pos (by simp; omega)]
  rfl
theorem mul_0 (S : Store) (d : D) : mulG true (.fr (.lst [d])) (.fr (.int 0)) S = .ok (.cell S.length, S ++ [.lst []]) := by
  unfold mulG
  simp only [rdL]
  rw [if_pos (by simp)]
  unfold newL
  rw [if_pos (by simp)]
  rfl
theorem leave_more2 {S : Store} {a c : Cell} (h : WF S) (d : D) : leave S.length (.fr d) (S ++ [a] ++ [c]) = .ok (.val (.fr d), S) := by
  rw [List.append_assoc]
  exact leave_more h d
theorem ne_non (S : Store) (k : Int) : eqG true (.fr .non) (.fr (.int k)) S = .ok (.fr (.bl true), S) := r_eq true (r := false) rfl rfl (by
  unfold eqD
  simp [DL.plain, SeqAt.shaped, isP, py, PyData.canLay0, PyData.depth, deq, PyData.eqv])
theorem ne_bl (S : Store) (a b : Bool) : eqG true (.fr (.bl a)) (.fr (.bl b)) S = .ok (.fr (.bl (a != b)), S) := by
  have h : eqD (.bl a) (.bl b) = some (a == b) := by
    unfold eqD
    cases a <;> cases b <;> simp [DL.plain, SeqAt.shaped, isP, py, PyData.canLay0, PyData.depth, deq, PyData.eqv]
  rw [r_eq true (S := S) (a := .fr (.bl a)) (b := .fr (.bl b)) rfl rfl h]
  rfl
theorem at_m1s {α : Type} (a : α) : atI [a] (-1) = some a := rfl

section
variable {S : Store} (wf : WF S)
include wf
end

/-! ### holdings: what the program's defs compute -/
abbrev stD (s : MB.St) : D := .tup [.int s.1, .int s.2.1, oD s.2.2]
abbrev stsD (ss : List MB.St) : D := .lst (ss.map stD)
abbrev hdD (ss : List MB.St) : D := .ins "Holding" [("kept", stsD ss)]
abbrev svt (ss : List MB.St) : List SV := ss.map fun s => SV.fr (stD s)
abbrev intsD (ns : List Int) : D := .lst (ns.map D.int)
abbrev svi (ns : List Int) : List SV := ns.map fun i => SV.fr (.int i)
theorem svt_eq (ss : List MB.St) : (ss.map stD).map SV.fr = svt ss := by rw [List.map_map]; rfl
theorem svi_eq (ns : List Int) : (ns.map D.int).map SV.fr = svi ns := by rw [List.map_map]; rfl
theorem svt_snoc (ss : List MB.St) (s : MB.St) : svt (ss ++ [s]) = svt ss ++ [SV.fr (.tup [.int s.1, .int s.2.1, oD s.2.2])] := by simp
theorem svi_snoc (ns : List Int) (i : Int) : svi (ns ++ [i]) = svi ns ++ [SV.fr (.int i)] := by simp
theorem below_svt (n : Nat) (ss : List MB.St) : (Cell.lst (svt ss)).below n = true := by
  simp only [Cell.below]
  rw [← svt_eq]
  exact below_map _ _
theorem below_svi (n : Nat) (ns : List Int) : (Cell.lst (svi ns)).below n = true := by
  simp only [Cell.below]
  rw [← svi_eq]
  exact below_map _ _
theorem frz_svt (ss : List MB.St) : allFr (svt ss) = some (ss.map stD) := by rw [← svt_eq, allFr_map]
theorem frz_svi (ns : List Int) : allFr (svi ns) = some (ns.map D.int) := by rw [← svi_eq, allFr_map]
theorem wf_svt {S : Store} (h : WF S) (ss : List MB.St) : WF (S ++ [.lst (svt ss)]) := h.snoc (below_svt _ _)
theorem wf_svi {S : Store} (h : WF S) (ns : List Int) : WF (S ++ [.lst (svi ns)]) := h.snoc (below_svi _ _)
theorem stD_inj {a b : MB.St} (h : stD a = stD b) : a = b := by
  obtain ⟨l, f, e⟩ := a
  obtain ⟨m, g, k⟩ := b
  simp only [stD, D.tup.injEq, List.cons.injEq, D.int.injEq, and_true] at h
  obtain ⟨rfl, rfl, h⟩ := h
  cases e <;> cases k <;> simp_all [oD]
theorem lay_sts : ∀ ss : List MB.St, isPs (ss.map stD) = true ∧ PyData.canLayAll0 (pys (ss.map stD)) = true ∧ PyData.depthAll (pys (ss.map stD)) ≤ 1
  | [] => by simp [isPs, pys, PyData.canLayAll0, PyData.depthAll]
  | s :: ss => by
    obtain ⟨a, b, c⟩ := lay_sts ss
    obtain ⟨a2, b2, c2⟩ := lay_o s.2.2
    refine ⟨?_, ?_, ?_⟩
    · simp only [List.map_cons, isPs, isP, a, a2, Bool.and_self]
    · simp only [List.map_cons, pys, py, PyData.canLayAll0, PyData.canLay0, b, b2, Bool.and_self]
    · simp only [List.map_cons, pys, py, PyData.depthAll, PyData.depth, c2]
      omega
theorem plain_sts (ss : List MB.St) : DL.plain (stsD ss) = true := by
  obtain ⟨a, b, c⟩ := lay_sts ss
  unfold DL.plain SeqAt.shaped
  simp only [stsD, isP, py, PyData.canLay0, PyData.depth, a, b, Bool.true_and, decide_eq_true_eq]
  omega
theorem deq_sts : ∀ xs ys : List MB.St, PyData.eqvAll (pys (xs.map stD)) (pys (ys.map stD)) = decide (xs = ys)
  | [], [] => by simp [pys, PyData.eqvAll]
  | [], _ :: _ => by simp [pys, PyData.eqvAll]
  | _ :: _, [] => by simp [pys, PyData.eqvAll]
  | (l, f, e) :: xs, (m, g, k) :: ys => by
    simp only [List.map_cons, pys, py, PyData.eqvAll, PyData.eqv, deq_o, deq_sts xs ys, Bool.and_true]
    rw [Bool.eq_iff_iff]
    simp [and_assoc]
theorem eq_sts (n : Bool) (xs ys : List MB.St) (S : Store) : eqG n (.fr (stsD xs)) (.fr (stsD ys)) S = .ok (.fr (.bl (if n then !decide (xs = ys) else decide (xs = ys))), S) := by
  refine r_eq n rfl rfl ?_
  unfold eqD
  split
  · rename_i e
    cases e
  · rw [plain_sts, plain_sts]
    simp only [deq, py, PyData.eqv, deq_sts, Bool.and_self, if_true]
section
variable {S : Store} (wf : WF S)
include wf
end

/-! stretches of cells -/
structure LvS (S : Store) (x : SV) (ls : List Int) : Prop where
  ex : ∃ lk : Store → Prop, (∀ T, lk (S ++ T)) ∧ ∀ T, k_en ([x], S ++ T) = .ok (⟨enF 0 (ls.map D.int), lk⟩, S ++ T)
theorem lvs_fr (S : Store) (ls : List Int) : LvS S (.fr (intsD ls)) ls := ⟨⟨_, fun _ => trivial, fun _ => s_enL _⟩⟩
theorem lvs_cell (R : Store) (ls : List Int) : LvS (R ++ [.lst (svi ls)]) (.cell R.length) ls := by
  have e : ∀ T : Store, (R ++ [.lst (svi ls)] ++ T)[R.length]? = some (.lst ((ls.map D.int).map SV.fr)) := fun T => by
    rw [List.append_assoc, List.getElem?_append_right (Nat.le_refl _), Nat.sub_self, svi_eq]
    rfl
  exact ⟨⟨_, e, fun T => s_enC (e T)⟩⟩
theorem at_mid {α : Type} (pre : List α) (a : α) (r : List α) : atI (pre ++ a :: r) (pre.length : Int) = some a := by
  rw [DL.atI_nat, List.getElem?_append_right (Nat.le_refl _), Nat.sub_self]
  rfl
theorem at_nxt {α : Type} (pre : List α) (a b : α) (r : List α) : atI (pre ++ a :: b :: r) ((pre.length : Int) + 1) = some b := by
  have := at_mid (pre ++ [a]) b r
  rw [List.append_assoc, List.length_append, List.length_singleton] at this
  exact this
theorem atD_mid (pre : List Int) (a : Int) (r : List Int) : atI ((pre ++ a :: r).map D.int) (pre.length : Int) = some (.int a) := by rw [atI_map, at_mid]; rfl
theorem atD_nxt (pre : List Int) (a b : Int) (r : List Int) : atI ((pre ++ a :: b :: r).map D.int) ((pre.length : Int) + 1) = some (.int b) := by rw [atI_map, at_nxt]; rfl
def curSt : Option (Int × Int) → List (Int × Int) → List MB.St
  | none, _ => []
  | some (l, f), rest => [(l, f, MB.lastOf rest)]
def curLv : Option (Int × Int) → Int
  | none => 0
  | some (l, _) => l
section
variable {S : Store} (wf : WF S)
include wf
omit wf in
theorem negone (S : Store) : negG (.fr (.int 1)) S = .ok (.fr (.int (-1)), S) := rfl
def JS (S : Store) (F : List Int) (x : SV) (tgt : List MB.St) (xs : List SV) (rho : Slots) (S' : Store) : Prop :=
  ∃ (pre : List Int) (rest : List (Int × Int)) (cur : Option (Int × Int)) (done : List MB.St) (x4 x5 x6 : Option SV), xs = enF pre.length (rest.map fun e => D.int e.2) ∧ F = pre ++ rest.map Prod.fst ∧
    rho = [some (.fr (intsD F)), some x, some (.cell S.length), some (.fr (.int (curLv cur))), x4, x5, x6] ∧ S' = S ++ [.lst (svt (done ++ curSt cur rest))] ∧ done ++ MB.stGo cur rest = tgt ∧
    (∀ l f, cur = some (l, f) → ¬ l = 0) ∧ done.length + rest.length + 1 ≤ 1000000
/-! kinds -/
theorem between_run (i : Int) : m_is_between [.fr (.int i), .fr (.int 0), .fr (.int 2)] S = .ok (.val (.fr (.bl (decide (0 ≤ i) && decide (i ≤ 2)))), S) := by
  by_cases h : 0 ≤ i
  · simp only [r_bind, r_1, s_1, r_2, s_2, s_2b, r_v, s_v, r_c, r_n, r_a, s_a, s_ab, r_g, s_g, r_and, s_And, s_and1, s_and0, r_or, s_Or, s_or1, s_or0, r_not, s_Not, s_not, r_if, s_if1, s_if0, r_ch, s_ch, s_cha, s_chb1, s_chb0, s_chc, r_tB, s_tB, r_tV, s_tV, s_tv, r_tN, s_tN, r_tA, s_tA1, s_tA0, r_tO, s_tO1, s_tO0, r_tT, r_trB, r_trI, r_trN, r_call, s_call, s_noX, s_backV, s_backC, s_backF, s_frz, r_frz, r_all0, r_all1, r_fn1, r_fn2, r_fn3, r_fn4, r_fn5, s_lvR, s_lvN, r_nx, r_bk, r_ct, r_seq, s_seqN, s_seqR, s_seqB, s_seqC, r_ret, s_ret, r_retN, r_sif, s_sif1, s_sif0, r_ex, s_ex, r_set, s_set, r_par, s_par, r_as, s_as, s_gb, r_gNm, r_gNl, r_gCs, s_gCs, r_gTu2, r_gTu3, r_gTu4, r_gSb, s_sb, s_sb2, s_st, s_nxS, r_au, s_au, s_au0, s_au1, s_au2, s_au3, r_addI, r_for, s_for, s_body, s_turnN, s_turnC, s_turnB, s_turnR, r_r1, s_r1, r_r2, s_r2, r_sq, s_sqL, s_sqS, r_tp, s_tp, r_xT, r_xL, s_x, s_xd, at_0, at_1, at_2, at_3, at_4, r_add, r_sub, r_neg, r_mul, r_fdiv, r_mod, r_pow, r_cmp, r_is, r_eqI, r_abs, r_int, r_max, r_min, r_okV, r_snap, r_lenF, r_lenT, DL.isNon, List.replicate_succ, List.replicate_zero, List.set_cons_zero, List.set_cons_succ, List.getElem?_cons_zero, List.getElem?_cons_succ, Option.map_some, Nat.reduceSub, and_self, and_true, true_and, decide_true, decide_false, if_true, if_false, Bool.false_eq_true, Bool.not_true, Bool.not_false, r_ps, s_ps, r_pn, r_sl, s_sl, s_sl1, s_sl2, r_slL, r_slS, r_slT, r_lcT, s_l1, s_l2t, s_l2f, s_l3, r_lc, s_lc, s_noE, s_lceC, s_wr0, s_wr, r_nT, s_nT, r_nF, s_nF, r_nC, s_nC, s_sz0, s_sz1, Nat.reduceAdd, Nat.reduceMul, Nat.reduceLeDiff, last_x, at_m1, last_set, r_mt, s_mt, s_mtb, ty_last, r_fld', s_fld, r_meth0, s_meth0, r_meth, s_meth, s_methb, r_make, s_make, r_sf, s_sf, s_sfb, r_sort, s_sort, r_en, s_enL, r_zi, s_ziL, r_sst, r_mt0', r_gUl3, r_par3, s_par3, r_cmA, s_cmA, r_rev, s_revF, r_cw, s_cw, s_cw1, r_fill, r_isB, r_nTC, s_nTC, m_is_between, b_is_between, integer_run wf, h, leave_val wf, Bool.true_and]
  · simp only [r_bind, r_1, s_1, r_2, s_2, s_2b, r_v, s_v, r_c, r_n, r_a, s_a, s_ab, r_g, s_g, r_and, s_And, s_and1, s_and0, r_or, s_Or, s_or1, s_or0, r_not, s_Not, s_not, r_if, s_if1, s_if0, r_ch, s_ch, s_cha, s_chb1, s_chb0, s_chc, r_tB, s_tB, r_tV, s_tV, s_tv, r_tN, s_tN, r_tA, s_tA1, s_tA0, r_tO, s_tO1, s_tO0, r_tT, r_trB, r_trI, r_trN, r_call, s_call, s_noX, s_backV, s_backC, s_backF, s_frz, r_frz, r_all0, r_all1, r_fn1, r_fn2, r_fn3, r_fn4, r_fn5, s_lvR, s_lvN, r_nx, r_bk, r_ct, r_seq, s_seqN, s_seqR, s_seqB, s_seqC, r_ret, s_ret, r_retN, r_sif, s_sif1, s_sif0, r_ex, s_ex, r_set, s_set, r_par, s_par, r_as, s_as, s_gb, r_gNm, r_gNl, r_gCs, s_gCs, r_gTu2, r_gTu3, r_gTu4, r_gSb, s_sb, s_sb2, s_st, s_nxS, r_au, s_au, s_au0, s_au1, s_au2, s_au3, r_addI, r_for, s_for, s_body, s_turnN, s_turnC, s_turnB, s_turnR, r_r1, s_r1, r_r2, s_r2, r_sq, s_sqL, s_sqS, r_tp, s_tp, r_xT, r_xL, s_x, s_xd, at_0, at_1, at_2, at_3, at_4, r_add, r_sub, r_neg, r_mul, r_fdiv, r_mod, r_pow, r_cmp, r_is, r_eqI, r_abs, r_int, r_max, r_min, r_okV, r_snap, r_lenF, r_lenT, DL.isNon, List.replicate_succ, List.replicate_zero, List.set_cons_zero, List.set_cons_succ, List.getElem?_cons_zero, List.getElem?_cons_succ, Option.map_some, Nat.reduceSub, and_self, and_true, true_and, decide_true, decide_false, if_true, if_false, Bool.false_eq_true, Bool.not_true, Bool.not_false, r_ps, s_ps, r_pn, r_sl, s_sl, s_sl1, s_sl2, r_slL, r_slS, r_slT, r_lcT, s_l1, s_l2t, s_l2f, s_l3, r_lc, s_lc, s_noE, s_lceC, s_wr0, s_wr, r_nT, s_nT, r_nF, s_nF, r_nC, s_nC, s_sz0, s_sz1, Nat.reduceAdd, Nat.reduceMul, Nat.reduceLeDiff, last_x, at_m1, last_set, r_mt, s_mt, s_mtb, ty_last, r_fld', s_fld, r_meth0, s_meth0, r_meth, s_meth, s_methb, r_make, s_make, r_sf, s_sf, s_sfb, r_sort, s_sort, r_en, s_enL, r_zi, s_ziL, r_sst, r_mt0', r_gUl3, r_par3, s_par3, r_cmA, s_cmA, r_rev, s_revF, r_cw, s_cw, s_cw1, r_fill, r_isB, r_nTC, s_nTC, m_is_between, b_is_between, integer_run wf, h, leave_val wf, Bool.false_and]
end

def unint : SV → Int
  | .fr (.int i) => i
  | _ => 0
theorem fm_int {β : Type} (f : Int → β) (F : List Int) : (svi F).filterMap (fun v => some (f (unint v))) = F.map f := by
  rw [List.filterMap_eq_map', List.map_map]
  rfl
section
variable {S : Store} (wf : WF S)
include wf
omit wf in
/-- a comprehension over ints -/
theorem lc_int {gm : GM} {t : TM} {e : EM} {rho : Slots} {own : List Nat} (d : Int → D) (F : List Int) (hz : F.length ≤ 1000000)
    (h : ∀ i ∈ F, ∀ ds : List D, lcT gm t e (.fr (.int i)) (wipeR rho own) (S ++ [.lst (ds.map SV.fr)]) = .ok (some (.fr (d i)), S ++ [.lst (ds.map SV.fr)])) :
    lcM (fun _ => True) gm t e own rho ((F.map D.int).map SV.fr) S [] = .ok ((F.map d).map SV.fr, S) := by
  rw [lc_fm0 (fun v => some (d (unint v))) (fun _ => trivial) _ (by simp only [List.length_map]; omega), svi_eq, fm_int d]
  intro x hx ds
  rw [svi_eq] at hx
  obtain ⟨i, hi, rfl⟩ := List.mem_map.mp hx
  exact h i hi ds
omit wf in
theorem wf_item : ∀ {ss : List MB.St} {p : Int}, 0 ≤ p → MB.Wf p ss → ∀ s ∈ ss, 1 ≤ s.1 ∧ s.1 ≤ 2 ∧ MA.Ok s.2
  | [], _, _, _, s, hs => by cases hs
  | (l, f, none) :: r, p, h0, h, s, hs => by
    obtain ⟨h1, h2, h3, rfl⟩ := h
    rw [List.mem_singleton] at hs
    subst hs
    exact ⟨h1, h2, by show 0 ≤ f; omega, fun i e => by cases e⟩
  | (l, f, some i) :: r, p, h0, h, s, hs => by
    obtain ⟨h1, h2, h3, h4, h5⟩ := h
    rcases List.mem_cons.mp hs with rfl | hs
    · exact ⟨h1, h2, by show 0 ≤ f; omega, fun j e => by cases e; exact h4⟩
    · exact wf_item (by omega) h5 s hs
end
/-- stretches of which the ends are among F -/
structure Wk (F : List Int) (ss : List MB.St) : Prop where
  wf : MB.Wf 0 ss
  inn : ∀ b ∈ MB.ends ss, b ∈ F
theorem hd_wk {F : List Int} {ss : List MB.St} (h : MB.Hd F ss) : Wk F ss := ⟨h.wf, h.inn⟩
/-- first bytes of cells: 0 among them, few -/
structure Few (F : List Int) : Prop where
  z : (0 : Int) ∈ F
  le : F.length < 64
theorem Wk.len {F : List Int} {ss : List MB.St} (h : Wk F ss) : ss.length ≤ F.length := h.wf.len_le h.inn
abbrev can (ss : List MB.St) : List MB.St := MB.mk (MB.bnd [ss]) (MB.lev ss)
theorem can_hd {F : List Int} {ss : List MB.St} (hF : Few F) (h : Wk F ss) : MB.Hd F (can ss) ∧ ∀ x, 0 ≤ x → MB.lev (can ss) x = MB.lev ss x :=
  MB.mk_hd (MB.bnd_fs fun s hs => by rw [List.mem_singleton] at hs; exact hs ▸ h.wf) (MB.bnd_cst (List.mem_singleton.mpr rfl)) h.wf.rng hF.z ((MB.cst_lev ss).mono h.inn)
theorem can_self {F : List Int} {ss : List MB.St} (hF : Few F) (h : MB.Hd F ss) : can ss = ss := (can_hd hF (hd_wk h)).1.ext h (can_hd hF (hd_wk h)).2
theorem ends_few {F : List Int} (hF : Few F) {several : List (List MB.St)} (h : ∀ ss ∈ several, Wk F ss) (hn : several.length ≤ 10) : (several.flatMap MB.ends).length < 3900 := by
  have : ∀ (several : List (List MB.St)), (∀ ss ∈ several, Wk F ss) → (several.flatMap MB.ends).length ≤ 128 * several.length := by
    intro several
    induction several with
    | nil => exact fun _ => Nat.le_refl _
    | cons s r ih =>
      intro h
      have h1 := (h s List.mem_cons_self).len
      have h2 := MB.ends_len s
      have h3 := ih fun t ht => h t (List.mem_cons_of_mem _ ht)
      have h4 := hF.le
      rw [List.flatMap_cons, List.length_append, List.length_cons]
      omega
  have := this several h
  omega
section
variable {S : Store} (wf : WF S) {F : List Int} (hF : Few F)
include wf hF
omit wf hF in
theorem mk_map (F : List Int) (g : Int → Int) : (F.map fun b => (b, g b)).map Prod.fst = F ∧ (F.map fun b => (b, g b)).map Prod.snd = F.map g := by
  constructor
  · rw [List.map_map]; exact List.map_id F
  · rw [List.map_map]; rfl
omit hF in
theorem hmk (ss : List MB.St) : mkEnd false S.length (.val (.fr .non), S ++ [.ins "Holding" [("kept", .fr (stsD ss))]]) = .ok (.fr (hdD ss), S) := s_mkEnd wf rfl
end
theorem fldH (a : List MB.St) (S : Store) : fldG ["Area", "Holding"] "kept" (.fr (hdD a)) S = .ok (.fr (stsD a), S) := by
  unfold fldG
  simp only [hdD, insOf, List.map_cons, List.map_nil]
  rw [if_pos (by decide)]
  rfl

/-! what the operators give -/
abbrev invH (a : List MB.St) : List MB.St := MB.mk (MB.bnd [a]) fun x => 2 - MB.lev a x
abbrev orH (a b : List MB.St) : List MB.St := MB.mk (MB.bnd [a, b]) fun x => max (MB.lev a x) (MB.lev b x)
abbrev andH (a b : List MB.St) : List MB.St := MB.mk (MB.bnd [a, b]) fun x => min (MB.lev a x) (MB.lev b x)
abbrev ptH (a : List MB.St) (l : Int) (s : MA.Span) : List MB.St := MB.mk (MB.bnd [a, [(l, s)]]) fun x => if MA.cov s x = true then l else MB.lev a x
section
variable {F : List Int} (hF : Few F) {a b : List MB.St} (ha : MB.Hd F a) (hb : MB.Hd F b)
include hF ha
theorem inv_hd : MB.Hd F (invH a) ∧ ∀ x, 0 ≤ x → MB.lev (invH a) x = 2 - MB.lev a x := by
  have c : ∀ G, MB.Cst G (MB.lev a) → MB.Cst G fun x => 2 - MB.lev a x := fun G k x y q n => by dsimp only; rw [k x y q n]
  exact MB.mk_hd (MB.bnd_fs fun s hs => by rw [List.mem_singleton] at hs; exact hs ▸ ha.wf) (c _ (MB.bnd_cst (List.mem_singleton.mpr rfl))) (fun x => by have := ha.rng x; omega) hF.z (c _ ha.cst)
include hb
theorem two_wf : ∀ s ∈ [a, b], MB.Wf 0 s := fun s hs => by
  simp only [List.mem_cons, List.not_mem_nil, or_false] at hs
  rcases hs with rfl | rfl
  · exact ha.wf
  · exact hb.wf
theorem two_wk : ∀ s ∈ [a, b], Wk F s := fun s hs => by
  simp only [List.mem_cons, List.not_mem_nil, or_false] at hs
  rcases hs with rfl | rfl
  · exact hd_wk ha
  · exact hd_wk hb
theorem two_len : (MB.bnd [a, b]).length < 64 := Nat.lt_of_le_of_lt (MB.bnd_len hF.z fun ss hs => (two_wk hF ha hb ss hs).inn) hF.le
theorem or_hd : MB.Hd F (orH a b) ∧ ∀ x, 0 ≤ x → MB.lev (orH a b) x = max (MB.lev a x) (MB.lev b x) := by
  have c : ∀ G, MB.Cst G (MB.lev a) → MB.Cst G (MB.lev b) → MB.Cst G fun x => max (MB.lev a x) (MB.lev b x) := fun G k k' x y q n => by dsimp only; rw [k x y q n, k' x y q n]
  exact MB.mk_hd (MB.bnd_fs (two_wf hF ha hb)) (c _ (MB.bnd_cst (by simp)) (MB.bnd_cst (by simp))) (fun x => by have := ha.rng x; have := hb.rng x; omega) hF.z (c _ ha.cst hb.cst)
theorem and_hd : MB.Hd F (andH a b) ∧ ∀ x, 0 ≤ x → MB.lev (andH a b) x = min (MB.lev a x) (MB.lev b x) := by
  have c : ∀ G, MB.Cst G (MB.lev a) → MB.Cst G (MB.lev b) → MB.Cst G fun x => min (MB.lev a x) (MB.lev b x) := fun G k k' x y q n => by dsimp only; rw [k x y q n, k' x y q n]
  exact MB.mk_hd (MB.bnd_fs (two_wf hF ha hb)) (c _ (MB.bnd_cst (by simp)) (MB.bnd_cst (by simp))) (fun x => by have := ha.rng x; have := hb.rng x; omega) hF.z (c _ ha.cst hb.cst)
end
theorem cov_cst {F : List Int} {f : Int} {e : Option Int} (h1 : f ∈ F) (h2 : ∀ i, e = some i → i + 1 ∈ F) {x y : Int} (q : x ≤ y) (n : ∀ b ∈ F, ¬ (x < b ∧ b ≤ y)) : MA.cov (f, e) x = MA.cov (f, e) y := by
  have n1 := n f h1
  rw [Bool.eq_iff_iff]
  cases e with
  | none => rw [MB.cov_n, MB.cov_n]; omega
  | some i =>
    have n2 := n (i + 1) (h2 i rfl)
    rw [MB.cov_s, MB.cov_s]; omega
section
variable {F : List Int} (hF : Few F) {a : List MB.St} (ha : MB.Hd F a) {l f : Int} {e : Option Int} (hl : 0 ≤ l ∧ l ≤ 2) (ho : MA.Ok (f, e)) (h1 : f ∈ F) (h2 : ∀ i, e = some i → i + 1 ∈ F)
include hF ha ho h1 h2
theorem pt_fs : MB.Fs (MB.bnd [a, [(l, f, e)]]) ∧ (MB.bnd [a, [(l, f, e)]]).length < 64 := by
  have e2 : ∀ b ∈ MB.ends [(l, f, e)], b ∈ F ∧ 0 ≤ b := fun b hb => by
    have f0 := ho.f0
    dsimp only at f0
    cases e with
    | none =>
      simp only [MB.ends, List.mem_cons, List.not_mem_nil, or_false] at hb
      subst hb
      exact ⟨h1, f0⟩
    | some i =>
      have l1 := ho.l1 i rfl
      dsimp only at l1
      simp only [MB.ends, List.mem_cons, List.not_mem_nil, or_false] at hb
      rcases hb with rfl | rfl
      · exact ⟨h1, f0⟩
      · exact ⟨h2 i rfl, by omega⟩
  refine ⟨MB.fs_asc fun b hb => ?_, Nat.lt_of_le_of_lt (MB.bnd_len hF.z fun ss hs b hb => ?_) hF.le⟩
  · obtain ⟨ss, q1, q2⟩ := List.mem_flatMap.mp hb
    simp only [List.mem_cons, List.not_mem_nil, or_false] at q1
    rcases q1 with rfl | rfl
    · exact MB.ends_pos (Int.le_refl _) ha.wf b q2
    · exact (e2 b q2).2
  · simp only [List.mem_cons, List.not_mem_nil, or_false] at hs
    rcases hs with rfl | rfl
    · exact ha.inn b hb
    · exact (e2 b hb).1
include hl
theorem pt_hd : MB.Hd F (ptH a l (f, e)) ∧ ∀ x, 0 ≤ x → MB.lev (ptH a l (f, e)) x = if MA.cov (f, e) x = true then l else MB.lev a x := by
  have c : ∀ G, f ∈ G → (∀ i, e = some i → i + 1 ∈ G) → MB.Cst G (MB.lev a) → MB.Cst G fun x => if MA.cov (f, e) x = true then l else MB.lev a x := fun G g1 g2 k x y q n => by dsimp only; rw [k x y q n, cov_cst g1 g2 q n]
  have m1 : f ∈ MB.ends [(l, f, e)] := by cases e <;> simp [MB.ends]
  have m2 : ∀ i, e = some i → i + 1 ∈ MB.ends [(l, f, e)] := fun i q => by subst q; simp [MB.ends]
  have m3 : ∀ x ∈ MB.ends [(l, f, e)], x ∈ MB.bnd [a, [(l, f, e)]] := fun x hx => DL.asc_mem.mpr (List.mem_cons_of_mem _ (List.mem_flatMap.mpr ⟨_, by simp, hx⟩))
  exact MB.mk_hd (pt_fs hF ha ho h1 h2).1 (c _ (m3 _ m1) (fun i q => m3 _ (m2 i q)) (MB.bnd_cst (by simp))) (fun x => by split; exact hl; exact ha.rng x) hF.z (c _ h1 h2 ha.cst)
end
section
variable {S : Store} (wf : WF S) {F : List Int} (hF : Few F) {a b : List MB.St} (ha : MB.Hd F a) (hb : MB.Hd F b)
include wf hF ha
include hb
end

section
variable {S : Store} {a b : List MB.St}
theorem isiH : isiOG "Holding" [.fr (hdD a), .fr (.cls "Holding")] S = .ok (.fr (.bl true), S) := by
  unfold isiOG
  simp only [if_true, hdD, insOf, okV]
theorem ownH (f g : FnM) : ownG false [("Area", f), ("Holding", g)] (.fr (hdD a)) (.fr (hdD b)) S = (noX (g [.fr (hdD a), .fr (hdD b)] S)).bind (back false) := by
  unfold ownG
  simp only [hdD, insOf, List.map_cons, List.map_nil, if_true]
  rfl
theorem own1H (f g : FnM) : own1G false [("Area", f), ("Holding", g)] (.fr (hdD a)) S = (noX (g [.fr (hdD a)] S)).bind (back false) := rfl
theorem orGH (g g' : G2) (y : SV) : orG g g' (.fr (hdD a)) y S = g' (.fr (hdD a)) y S := rfl
theorem metH1 (f : FnM) (nm : Str) (h : (nm == "kept") = false) : metOf [("Holding", f)] nm S (.fr (hdD a)) = some f := by
  unfold metOf
  simp only [hdD, insOf, List.map_cons, List.map_nil, List.lookup, h]
  rfl
theorem metH2 (e f : FnM) (nm : Str) (h : (nm == "kept") = false) : metOf [("Area", e), ("Holding", f)] nm S (.fr (hdD a)) = some f := by
  unfold metOf
  simp only [hdD, insOf, List.map_cons, List.map_nil, List.lookup, h]
  rfl
theorem kFits (cc : Bool) (g : FnM) (m : AM) (rho : Slots) : k_meth cc [("Holding", g)] "fits" m rho (.fr (hdD a), S) = (m rho S).bind (k_methb cc g (.fr (hdD a))) := s_meth (metH1 g "fits" (by decide))
theorem kLevel (cc : Bool) (g : FnM) (m : AM) (rho : Slots) : k_meth cc [("Holding", g)] "level_at" m rho (.fr (hdD a), S) = (m rho S).bind (k_methb cc g (.fr (hdD a))) := s_meth (metH1 g "level_at" (by decide))
theorem kPaint (cc : Bool) (g : FnM) (m : AM) (rho : Slots) : k_meth cc [("Holding", g)] "painted" m rho (.fr (hdD a), S) = (m rho S).bind (k_methb cc g (.fr (hdD a))) := s_meth (metH1 g "painted" (by decide))
theorem kWithin (cc : Bool) (f g : FnM) (m : AM) (rho : Slots) : k_meth cc [("Area", f), ("Holding", g)] "within" m rho (.fr (hdD a), S) = (m rho S).bind (k_methb cc g (.fr (hdD a))) := s_meth (metH2 f g "within" (by decide))
theorem tup_add (c : Bool) {xs ys : List D} (h : xs.length + ys.length ≤ 1000) : addG c (.fr (.tup xs)) (.fr (.tup ys)) S = .ok (.fr (.tup (xs ++ ys)), S) := by
  have hz := sizeLine_eq
  show (if xs.length + ys.length ≤ sizeLine then okV (.tup (xs ++ ys)) S else .stuck) = _
  rw [if_pos (by omega)]
  rfl
end
theorem isiXH (ms : List Str) (b : List MB.St) (S : Store) : isiXG "Holding" ms [.fr (hdD b), .fr (.cls "Holding")] S = .ok (.fr (.bl true), S) := rfl
section
variable {S : Store} (wf : WF S) {F : List Int} (hF : Few F) {a b : List MB.St} (ha : MB.Hd F a)
include wf
include hF ha
end

/-! ### what the laws over cells draw -/
theorem app_at {S : Store} {k : Nat} {xs : List SV} {y : SV} (h : S[k]? = some (.lst xs)) (hl : xs.length < 16777216) : appendG (.cell k) [y] S = .ok (.fr .non, S.set k (.lst (xs ++ [y]))) := by
  unfold appendG DL.cellOf
  have hz := sizeLine_eq
  simp only [h, hz, if_pos hl]
  rfl
theorem ty_at {S : Store} {k : Nat} {xs : List SV} (h : S[k]? = some (.lst xs)) : tyS "list" S (.cell k) = true := by
  unfold tyS
  simp [rdL, h]
section
variable {c d c' d' e : Cell} {R : Store}
theorem g2a : (e :: (R ++ [c, d]))[R.length + 1]? = some c := by simp
theorem g2b : (e :: (R ++ [c, d]))[R.length + 1 + 1]? = some d := by simp [List.getElem?_append_right]
theorem s2a : (e :: (R ++ [c, d])).set (R.length + 1) c' = e :: (R ++ [c', d]) := by simp
theorem s2b : (e :: (R ++ [c, d])).set (R.length + 1 + 1) d' = e :: (R ++ [c, d']) := by simp
theorem g1a : (e :: (R ++ [c]))[R.length + 1]? = some c := by simp
theorem s1a : (e :: (R ++ [c])).set (R.length + 1) c' = e :: (R ++ [c']) := by simp
theorem leave_c2 {b : Bag} (h : WF (b.c :: R)) (hc : d.below (R.length + 1) = true) : leave (R.length + 1) (.cell (R.length + 1 + 1)) (b.c :: (R ++ [c, d])) = .ok (.new d, b.c :: R) := by
  have := leave_new2 (S := b.c :: R) (a := c) (c := d) h hc
  rw [List.append_assoc] at this
  exact this
theorem leave_c1 {b : Bag} (h : WF (b.c :: R)) (hc : c.below (R.length + 1) = true) : leave (R.length + 1) (.cell (R.length + 1)) (b.c :: (R ++ [c])) = .ok (.new c, b.c :: R) := leave_new (S := b.c :: R) h hc
theorem wf2 {b : Bag} (h : WF (b.c :: R)) (hc : c.below 0 = true) (hd : d.below 0 = true) : WF (b.c :: (R ++ [c, d])) := by
  have h1 : WF (b.c :: R ++ [c]) := h.snoc (Cell.below_mono (Nat.zero_le _) hc)
  have h2 : WF (b.c :: R ++ [c] ++ [d]) := h1.snoc (Cell.below_mono (Nat.zero_le _) hd)
  rw [List.append_assoc] at h2
  exact h2
theorem wf1 {b : Bag} (h : WF (b.c :: R)) (hc : c.below 0 = true) : WF (b.c :: (R ++ [c])) := h.snoc (Cell.below_mono (Nat.zero_le _) hc)
theorem wf_fst2 {b : Bag} {b' : Bag} (h : WF (b.c :: R)) : WF (b'.c :: R) := WF.bag h
end
def sums (c : Int) : List Int → List Int
  | [] => [c]
  | z :: zs => c :: sums (c + z) zs
theorem sums_len : ∀ (zs : List Int) (c : Int), (sums c zs).length = zs.length + 1
  | [], _ => rfl
  | z :: zs, c => by simp only [sums, List.length_cons, sums_len zs (c + z)]
theorem sums_ok : ∀ (zs : List Int) (c : Int), (∀ z ∈ zs, 1 ≤ z ∧ z ≤ 2000000000000) → (∃ r, sums c zs = c :: r) ∧ (sums c zs).Pairwise (· < ·) ∧ ∀ x ∈ sums c zs, c ≤ x ∧ x ≤ c + 2000000000000 * (zs.length : Int)
  | [], c, _ => ⟨⟨[], rfl⟩, by simp [sums], fun x hx => by simp only [sums, List.mem_singleton] at hx; subst hx; simp⟩
  | z :: zs, c, h => by
    obtain ⟨z1, z2⟩ := h z List.mem_cons_self
    obtain ⟨_, q2, q3⟩ := sums_ok zs (c + z) fun y hy => h y (List.mem_cons_of_mem _ hy)
    refine ⟨⟨_, rfl⟩, List.pairwise_cons.mpr ⟨fun x hx => by have := (q3 x hx).1; omega, q2⟩, fun x hx => ?_⟩
    rcases List.mem_cons.mp hx with rfl | hx
    · simp only [List.length_cons]; omega
    · have := q3 x hx
      simp only [List.length_cons]; omega
def JC1 (R : Store) (N : Nat) (xs : List SV) (rho : Slots) (S' : Store) : Prop :=
  ∃ (b : Bag) (zs : List Int) (x1 x4 : Option SV), b.Ok ∧ WF (b.c :: R) ∧ rho = [some (.cell 0), x1, some (.cell (R.length + 1)), some (.cell (R.length + 1 + 1)), x4] ∧ S' = b.c :: (R ++ [.lst (svi zs), .lst [.fr (.int 0)]]) ∧ (∀ z ∈ zs, 1 ≤ z ∧ z ≤ 2000000000000) ∧ zs.length + xs.length = N
def JC2 (b : Bag) (R : Store) (zs : List Int) (xs : List SV) (rho : Slots) (S' : Store) : Prop :=
  ∃ (rest done : List Int) (c : Int) (x1 x4 : Option SV), xs = svi rest ∧ rho = [some (.cell 0), x1, some (.cell (R.length + 1)), some (.cell (R.length + 1 + 1)), x4] ∧ S' = b.c :: (R ++ [.lst (svi zs), .lst (svi (done ++ [c]))]) ∧ done ++ sums c rest = sums 0 zs ∧ done.length + rest.length ≤ 1000
theorem last_i (b : Bag) (R : Store) (z : Cell) (done : List Int) (c : Int) : ixG (.cell (R.length + 1 + 1)) (.fr (.int (-1))) (b.c :: (R ++ [z, .lst (svi (done ++ [c]))])) = .ok (.fr (.int c), b.c :: (R ++ [z, .lst (svi (done ++ [c]))])) := by
  rw [r_xC g2b, svi_snoc, at_m1]
  rfl
/-- cells: first bytes -/
structure Cuts (n : Nat) (cs : List Int) : Prop where
  fs : MB.Fs cs
  len : cs.length = n
  le : ∀ c ∈ cs, c ≤ 200000000000000
/-! levels -/
def Lv2 (ls : List Int) : Prop := ∀ l ∈ ls, 0 ≤ l ∧ l ≤ 2
theorem menu_run {v : Int} (h0 : 0 ≤ v) (h6 : v < 6) : ∃ m : List Int, atI [D.lst [.int 0, .int 1, .int 2], D.lst [.int 0, .int 0, .int 0, .int 1, .int 2], D.lst [.int 0, .int 2], D.lst [.int 0, .int 1], D.lst [.int 1, .int 2], D.lst [.int 0]] v = some (intsD m) ∧ 0 < m.length ∧ m.length ≤ 5 ∧ Lv2 m := by
  have k : ∀ m : List Int, (m.all fun l => decide (0 ≤ l) && decide (l ≤ 2)) = true → Lv2 m := fun m h l hl => by
    have := List.all_eq_true.mp h l hl
    simpa using this
  rcases (show v = 0 ∨ v = 1 ∨ v = 2 ∨ v = 3 ∨ v = 4 ∨ v = 5 by omega) with rfl | rfl | rfl | rfl | rfl | rfl
  · exact ⟨[0, 1, 2], rfl, by decide, by decide, k _ rfl⟩
  · exact ⟨[0, 0, 0, 1, 2], rfl, by decide, by decide, k _ rfl⟩
  · exact ⟨[0, 2], rfl, by decide, by decide, k _ rfl⟩
  · exact ⟨[0, 1], rfl, by decide, by decide, k _ rfl⟩
  · exact ⟨[1, 2], rfl, by decide, by decide, k _ rfl⟩
  · exact ⟨[0], rfl, by decide, by decide, k _ rfl⟩
theorem rng_ok (n : Nat) (a : Int) : (rngS a n).length = n := rng_len a n
/-! spans of cells, stretches of cells, a Holding of cells -/
theorem zip_fst : ∀ {cs ls : List Int}, ls.length = cs.length → (cs.zip ls).map Prod.fst = cs
  | [], _, _ => by simp
  | c :: cs, [], h => by simp at h
  | c :: cs, l :: ls, h => by simp only [List.zip_cons_cons, List.map_cons, zip_fst (cs := cs) (ls := ls) (by simpa using h)]
theorem zip_snd : ∀ {cs ls : List Int}, ls.length = cs.length → (cs.zip ls).map Prod.snd = ls
  | [], [], _ => rfl
  | [], _ :: _, h => by simp at h
  | c :: cs, [], h => by simp at h
  | c :: cs, l :: ls, h => by simp only [List.zip_cons_cons, List.map_cons, zip_snd (cs := cs) (ls := ls) (by simpa using h)]
def lastAt (cs : List Int) (j : Nat) : Option Int := cs[j + 1]?.map fun c => c - 1
section
variable {S : Store} (wf : WF S)
include wf
omit wf in
theorem rng_cons (a : Int) (n : Nat) : rngS a (n + 1) = .fr (.int a) :: rngS (a + 1) n := by
  unfold rngS
  rw [List.range_succ_eq_map, List.map_cons, List.map_map]
  congr 1
  · simp
  · refine List.map_congr_left fun i _ => ?_
    simp only [Function.comp_apply]
    congr 2
    omega
omit wf in
theorem ne_nilT (n : Bool) (ss : List MB.St) : eqG n (.cell S.length) (.fr (.lst [])) (S ++ [.lst (svt ss)]) = .ok (.fr (.bl (if n then !ss.isEmpty else ss.isEmpty)), S ++ [.lst (svt ss)]) := by
  have := eq_nilL (S := S) n (plain_sts ss)
  rw [svt_eq, List.isEmpty_map] at this
  exact this
/-- the state of the cells that were looked at -/
def LJ (S : Store) (cs ls : List Int) (tgt : List MB.St) (xs : List SV) (rho : Slots) (S' : Store) : Prop :=
  ∃ (pre rest : List (Int × Int)) (cur : Option (Int × Int)) (done : List MB.St) (x3 : Option SV), xs = rngS (pre.length : Int) rest.length ∧ cs = pre.map Prod.fst ++ rest.map Prod.fst ∧ ls = pre.map Prod.snd ++ rest.map Prod.snd ∧
    rho = [some (.fr (intsD cs)), some (.fr (intsD ls)), some (.cell S.length), x3] ∧ S' = S ++ [.lst (svt (done ++ curSt cur rest))] ∧ done ++ MB.stGo cur rest = tgt ∧
    (∀ l f, cur = some (l, f) → 0 < l) ∧ (∀ c p, pre = p ++ [c] → c.2 = curLv cur) ∧ (pre = [] → cur = none) ∧ (∀ e ∈ rest, 0 ≤ e.2) ∧ done.length + rest.length + 1 ≤ 100000
end

theorem len62 {n : Nat} (h : n ≤ 100000) : -(2 ^ 62) ≤ (n : Int) ∧ (n : Int) < 2 ^ 62 := by
  have h1 : (n : Int) ≤ 100000 := by omega
  have h2 : (0 : Int) ≤ n := by omega
  generalize (n : Int) = i at h1 h2
  omega
abbrev cellH (cs ls : List Int) : List MB.St := MB.stGo none (cs.zip ls)
section
variable {S : Store} (wf : WF S)
include wf
end
/-- cells and their levels -/
structure Cel (cs ls : List Int) : Prop where
  fs : MB.Fs cs
  le : cs.length < 60
  len : ls.length = cs.length
  lv : Lv2 ls
theorem Cel.few {cs ls : List Int} (h : Cel cs ls) : Few cs := ⟨h.fs.zero, by have := h.le; omega⟩
theorem Cel.hd {cs ls : List Int} (h : Cel cs ls) : MB.Hd cs (cellH cs ls) ∧ ∀ x, MB.lev (cellH cs ls) x = MB.stp 0 (cs.zip ls) x := by
  have a : MB.Asc (cs.zip ls) := by unfold MB.Asc; rw [zip_fst h.len]; exact h.fs.asc
  obtain ⟨q1, q2⟩ := MB.st0_ok a (fun e he => h.lv e.2 (List.of_mem_zip he).2) (fun e he => h.fs.pos e.1 (List.of_mem_zip he).1)
  refine ⟨⟨q1, MB.Nf.ends_in q1 h.fs.zero (fun x _ => q2 x) ?_⟩, q2⟩
  have := MB.stp_cst (cs.zip ls) 0
  rwa [zip_fst h.len] at this
/-! a byte's cell -/
structure InC (cs : List Int) (i : Nat) (x : Int) : Prop where
  ex : ∃ pre c post, cs = pre ++ c :: post ∧ pre.length = i ∧ c ≤ x ∧ ∀ d ∈ post, x < d
theorem InC.lt {cs : List Int} {i : Nat} {x : Int} (h : InC cs i x) : i < cs.length := by
  obtain ⟨pre, c, post, rfl, rfl, _, _⟩ := h.ex
  rw [List.length_append, List.length_cons]
  omega
theorem stp_zip {c x : Int} {post : List Int} (hc : c ≤ x) (hp : ∀ d ∈ post, x < d) : ∀ (pre ls : List Int) (d : Int), (pre ++ c :: post).Pairwise (· < ·) → ls.length = (pre ++ c :: post).length → MB.stp d ((pre ++ c :: post).zip ls) x = ls.getD pre.length 0
  | [], [], d, _, h => by simp at h
  | [], l :: ls, d, ha, h => by
    show (if c ≤ x then MB.stp l (post.zip ls) x else d) = l
    rw [if_pos hc]
    exact MB.stp_low fun e he => hp e.1 (List.of_mem_zip he).1
  | p :: pre, [], d, _, h => by simp at h
  | p :: pre, l :: ls, d, ha, h => by
    obtain ⟨a1, a2⟩ := List.pairwise_cons.mp (show (p :: (pre ++ c :: post)).Pairwise (· < ·) from ha)
    have := a1 c (by simp)
    show (if p ≤ x then MB.stp l ((pre ++ c :: post).zip ls) x else d) = ls.getD pre.length 0
    rw [if_pos (by omega)]
    exact stp_zip hc hp pre ls l a2 (by simpa using h)
theorem cell_val {cs ls : List Int} (h : Cel cs ls) {i : Nat} {x : Int} (k : InC cs i x) : MB.lev (cellH cs ls) x = ls.getD i 0 := by
  rw [h.hd.2]
  obtain ⟨pre, c, post, e, rfl, h1, h2⟩ := k.ex
  have a := h.fs.asc
  have l := h.len
  rw [e] at a l ⊢
  exact stp_zip h1 h2 pre ls 0 a l
theorem cell_ex {cs : List Int} (h : MB.Fs cs) {x : Int} (hx : 0 ≤ x) : ∃ i, InC cs i x := by
  obtain ⟨⟨r, rfl⟩, ha⟩ := h
  suffices ∀ (r : List Int) (b : Int), (b :: r).Pairwise (· < ·) → b ≤ x → ∃ pre c post, b :: r = pre ++ c :: post ∧ c ≤ x ∧ ∀ d ∈ post, x < d by
    obtain ⟨pre, c, post, h1, h2, h3⟩ := this r 0 ha hx
    exact ⟨pre.length, pre, c, post, h1, rfl, h2, h3⟩
  intro r
  induction r with
  | nil => exact fun b _ h => ⟨[], b, [], rfl, h, fun d hd => by cases hd⟩
  | cons d r ih =>
    intro b hp h
    obtain ⟨p1, p2⟩ := List.pairwise_cons.mp hp
    by_cases q : d ≤ x
    · obtain ⟨pre, c, post, h1, h2, h3⟩ := ih d p2 q
      exact ⟨b :: pre, c, post, by rw [h1]; rfl, h2, h3⟩
    · refine ⟨[], b, d :: r, rfl, h, fun e he => ?_⟩
      rcases List.mem_cons.mp he with rfl | he
      · omega
      · have := (List.pairwise_cons.mp p2).1 e he
        omega
theorem split_at {cs : List Int} {i : Nat} {c : Int} (h : cs[i]? = some c) : ∃ pre post, cs = pre ++ c :: post ∧ pre.length = i := by
  obtain ⟨hi, e⟩ := List.getElem?_eq_some_iff.mp h
  refine ⟨cs.take i, cs.drop (i + 1), ?_, by rw [List.length_take]; omega⟩
  rw [← e, List.getElem_cons_drop, List.take_append_drop]
theorem inc_first {cs : List Int} (h : MB.Fs cs) {i : Nat} {c : Int} (hi : cs[i]? = some c) : InC cs i c := by
  obtain ⟨pre, post, e, hl⟩ := split_at hi
  refine ⟨pre, c, post, e, hl, Int.le_refl _, fun d hd => ?_⟩
  have a := h.asc
  rw [e] at a
  exact (List.pairwise_cons.mp (List.pairwise_append.mp a).2.1).1 d hd
theorem inc_last {cs : List Int} (h : MB.Fs cs) {i : Nat} {c e : Int} (hi : cs[i]? = some c) (he : lastAt cs i = some e) : InC cs i e ∧ c ≤ e := by
  obtain ⟨pre, post, q, hl⟩ := split_at hi
  have a := h.asc
  rw [q] at a
  have a2 := List.pairwise_cons.mp (List.pairwise_append.mp a).2.1
  unfold lastAt at he
  rw [q, List.getElem?_append_right (by omega), show i + 1 - pre.length = 0 + 1 by omega, List.getElem?_cons_succ] at he
  cases post with
  | nil => cases he
  | cons d post =>
    simp only [List.getElem?_cons_zero, Option.map_some, Option.some.injEq] at he
    have cd := a2.1 d List.mem_cons_self
    refine ⟨⟨pre, c, d :: post, q, hl, by omega, fun f hf => ?_⟩, by omega⟩
    rcases List.mem_cons.mp hf with rfl | hf
    · omega
    · have := (List.pairwise_cons.mp a2.2).1 f hf
      omega
/-- a Holding with these levels at the cells -/
structure Rp (cs ls : List Int) (a : List MB.St) : Prop where
  hd : MB.Hd cs a
  lv : ∀ i x, InC cs i x → MB.lev a x = ls.getD i 0
theorem cel_rp {cs ls : List Int} (h : Cel cs ls) : Rp cs ls (cellH cs ls) := ⟨h.hd.1, fun i x k => cell_val h k⟩
theorem Rp.eq {cs ls : List Int} {a : List MB.St} (h : Cel cs ls) (k : Rp cs ls a) : a = cellH cs ls := k.hd.ext h.hd.1 fun x hx => by
  obtain ⟨i, hi⟩ := cell_ex h.fs hx
  rw [k.lv i x hi, cell_val h hi]
theorem getD_zip {f : Int → Int → Int} : ∀ {xs ys : List Int} (i : Nat), i < xs.length → ys.length = xs.length → (List.zipWith f xs ys).getD i 0 = f (xs.getD i 0) (ys.getD i 0)
  | [], _, i, h, _ => by simp at h
  | x :: xs, [], i, _, h => by simp at h
  | x :: xs, y :: ys, 0, _, _ => rfl
  | x :: xs, y :: ys, i + 1, h, k => by
    have := getD_zip (f := f) (xs := xs) (ys := ys) i (by simpa using h) (by simpa using k)
    simpa using this
theorem getD_map {f : Int → Int} : ∀ {xs : List Int} (i : Nat), i < xs.length → (xs.map f).getD i 0 = f (xs.getD i 0)
  | [], i, h => by simp at h
  | x :: xs, 0, _ => rfl
  | x :: xs, i + 1, h => by
    have := getD_map (f := f) (xs := xs) i (by simpa using h)
    simpa using this
theorem lv2_zip {f : Int → Int → Int} (hf : ∀ a b, 0 ≤ a ∧ a ≤ 2 → 0 ≤ b ∧ b ≤ 2 → 0 ≤ f a b ∧ f a b ≤ 2) {xs ys : List Int} (hx : Lv2 xs) (hy : Lv2 ys) : Lv2 (List.zipWith f xs ys) := fun l hl => by
  obtain ⟨i, hi, rfl⟩ := List.getElem_of_mem hl
  rw [List.getElem_zipWith]
  exact hf _ _ (hx _ (List.getElem_mem _)) (hy _ (List.getElem_mem _))
theorem Lv2.getD {ls : List Int} (h : Lv2 ls) (i : Nat) : 0 ≤ ls.getD i 0 ∧ ls.getD i 0 ≤ 2 := by
  rw [List.getD_eq_getElem?_getD]
  cases q : ls[i]? with
  | none => simp
  | some x => exact h x (List.mem_of_getElem? q)
/-- all bytes, by cells -/
theorem bnd_all {F : List Int} (hF : Few F) {a b : List MB.St} (ha : MB.Hd F a) (hb : MB.Hd F b) (p : Int → Int → Bool) : ((MB.bnd [a, b]).all fun x => p (MB.lev a x) (MB.lev b x)) = true ↔ ∀ x, 0 ≤ x → p (MB.lev a x) (MB.lev b x) = true :=
  MB.all_cells (MB.bnd_fs (two_wf hF ha hb)) (MB.bnd_cst (by simp)) (MB.bnd_cst (by simp))
abbrev fitsB (a b : List MB.St) : Bool := (MB.bnd [a, b]).all fun x => decide (MB.lev a x + MB.lev b x ≤ 2)
abbrev withB (a b : List MB.St) : Bool := (MB.bnd [a, b]).all fun x => decide (MB.lev a x ≤ MB.lev b x)
section
variable {F : List Int} (hF : Few F) {a b : List MB.St} (ha : MB.Hd F a) (hb : MB.Hd F b)
include hF ha hb
theorem fits_iff : fitsB a b = true ↔ ∀ x, 0 ≤ x → MB.lev a x + MB.lev b x ≤ 2 := by
  rw [fitsB, bnd_all hF ha hb fun u v => decide (u + v ≤ 2)]
  simp only [decide_eq_true_eq]
theorem with_iff : withB a b = true ↔ ∀ x, 0 ≤ x → MB.lev a x ≤ MB.lev b x := by
  rw [withB, bnd_all hF ha hb fun u v => decide (u ≤ v)]
  simp only [decide_eq_true_eq]
end

section
variable {S : Store}
/-- a comprehension over plain data -/
theorem lc_genO {α : Type} {gm : GM} {t : TM} {e : EM} {rho : Slots} {own : List Nat} (enc : α → D) (out : α → Option D) : ∀ (l : List α) (ds : List D), ds.length + l.length ≤ 1000000 →
    (∀ a ∈ l, ∀ ds : List D, lcT gm t e (.fr (enc a)) (wipeR rho own) (S ++ [.lst (ds.map SV.fr)]) = .ok ((out a).map SV.fr, S ++ [.lst (ds.map SV.fr)])) →
    lcM (fun _ => True) gm t e own rho ((l.map enc).map SV.fr) S (ds.map SV.fr) = .ok ((ds ++ l.filterMap out).map SV.fr, S)
  | [], ds, _, _ => by rw [List.map_nil, List.map_nil, lc_nil trivial]; simp
  | a :: l, ds, hz, h => by
    simp only [List.map_cons, List.length_cons] at hz ⊢
    have hs := sizeLine_eq
    have h1 := h a List.mem_cons_self ds
    cases q : out a with
    | none =>
      rw [q] at h1
      rw [lc_none trivial rfl h1, lc_genO enc out l ds (by omega) fun z hz => h z (List.mem_cons_of_mem _ hz), List.filterMap_cons_none q]
    | some d =>
      rw [q] at h1
      have e2 : ds.map SV.fr ++ [SV.fr d] = (ds ++ [d]).map SV.fr := by simp
      rw [lc_some trivial (by rw [List.length_map, hs]; omega) rfl h1, e2, lc_genO enc out l (ds ++ [d]) (by simp; omega) fun z hz => h z (List.mem_cons_of_mem _ hz), List.filterMap_cons_some q]
      simp
theorem lc_gen {α : Type} {gm : GM} {t : TM} {e : EM} {rho : Slots} {own : List Nat} (enc out : α → D) (l : List α) (hz : l.length ≤ 1000000)
    (h : ∀ a ∈ l, ∀ ds : List D, lcT gm t e (.fr (enc a)) (wipeR rho own) (S ++ [.lst (ds.map SV.fr)]) = .ok (some (.fr (out a)), S ++ [.lst (ds.map SV.fr)])) :
    lcM (fun _ => True) gm t e own rho ((l.map enc).map SV.fr) S [] = .ok ((l.map out).map SV.fr, S) := by
  have := lc_genO (S := S) (gm := gm) (t := t) (e := e) (rho := rho) (own := own) enc (fun a => some (out a)) l [] (by simpa using hz) h
  rw [List.filterMap_eq_map', List.nil_append] at this
  exact this
theorem lc_genF {α : Type} {gm : GM} {t : TM} {e : EM} {rho : Slots} {own : List Nat} (enc : α → D) (out : α → Option D) (l : List α) (hz : l.length ≤ 1000000)
    (h : ∀ a ∈ l, ∀ ds : List D, lcT gm t e (.fr (enc a)) (wipeR rho own) (S ++ [.lst (ds.map SV.fr)]) = .ok ((out a).map SV.fr, S ++ [.lst (ds.map SV.fr)])) :
    lcM (fun _ => True) gm t e own rho ((l.map enc).map SV.fr) S [] = .ok ((l.filterMap out).map SV.fr, S) := by
  have := lc_genO (S := S) (gm := gm) (t := t) (e := e) (rho := rho) (own := own) enc out l [] (by simpa using hz) h
  rw [List.nil_append] at this
  exact this
end
abbrev pairD (p : Int × Int) : D := .tup [.int p.1, .int p.2]
theorem ziF_ints : ∀ (xs ys : List Int), ziF (xs.map D.int) (ys.map D.int) = ((xs.zip ys).map pairD).map SV.fr
  | [], _ => rfl
  | _ :: _, [] => rfl
  | x :: xs, y :: ys => by
    have := ziF_ints xs ys
    unfold ziF at this ⊢
    simp only [List.map_cons, List.zipWith_cons_cons, List.zip_cons_cons, this]
theorem zip_out (f : Int → Int → Int) (xs ys : List Int) : (xs.zip ys).map (fun p => D.int (f p.1 p.2)) = (List.zipWith f xs ys).map D.int := by
  rw [List.zip, List.map_zipWith, List.map_zipWith]
theorem hd_mono {F G : List Int} {a : List MB.St} (h : MB.Hd F a) (k : ∀ x ∈ F, x ∈ G) : MB.Hd G a := ⟨h.nf, fun b hb => k b (h.inn b hb)⟩

theorem bag0 (ns : List Int) (hns : ns.length ≤ 63) : ∃ b0 : Bag, b0.Ok ∧ bagM [.fr (.scr (ns.map D.int))] [] = .ok (.new b0.c, []) := by
  have hz := sizeLine_eq
  refine ⟨_, ?_, bag_run ns (by omega)⟩
  refine ⟨Int.le_refl _, (show (0 : Int) ≤ 1234567891 by decide), Int.le_refl _, fun n hn => ?_⟩
  obtain ⟨m, _, rfl⟩ := List.mem_map.mp hn
  unfold absI
  split <;> omega
theorem tells_of (h : ∀ ns : List Int, ns.length ≤ 63 → Ends (m_law [.fr (.scr (ns.map D.int))] []) fun r => r.1 = .val (.fr (.bl true))) : DL.Tells 63 m_law := by
  intro ns hns
  obtain ⟨⟨v, S'⟩, e, q⟩ := h ns hns
  cases q
  exact ⟨S', e⟩
theorem leave0 (b : Bag) : leave 0 (.fr (.bl true)) [b.c] = .ok (.val (.fr (.bl true)), []) := rfl
theorem lognat {n : Nat} (h : n ≤ 1000) : ((n : Int)).natAbs.log2 < 9000 := by
  have h1 : ((n : Int)).natAbs < 2 ^ 10 := by
    rw [Int.natAbs_natCast]
    exact Nat.lt_of_le_of_lt h (by decide)
  exact Nat.lt_of_lt_of_le (log_lt h1 (by decide)) (by decide)

/-! calls, by both -/
def tInt : D → Bool
  | .int _ => true
  | .bl _ => true
  | _ => false
def tBl : D → Bool
  | .bl _ => true
  | _ => false
def tStr : D → Bool
  | .str _ => true
  | _ => false
def tTup : D → Bool
  | .tup _ => true
  | _ => false
def tLst : D → Bool
  | .lst _ => true
  | .scr _ => true
  | _ => false
theorem isi_x {d : D} (h : isX d = true) (S : Store) : isiG [.fr d, .fr (.ty "int")] S = .ok (.fr (.bl (tInt d)), S) ∧ isiG [.fr d, .fr (.ty "bool")] S = .ok (.fr (.bl (tBl d)), S) ∧
    isiG [.fr d, .fr (.ty "str")] S = .ok (.fr (.bl (tStr d)), S) ∧ isiG [.fr d, .fr (.ty "tuple")] S = .ok (.fr (.bl (tTup d)), S) ∧ isiG [.fr d, .fr (.ty "list")] S = .ok (.fr (.bl (tLst d)), S) := by
  cases d <;> first | exact ⟨rfl, rfl, rfl, rfl, rfl⟩ | (exfalso; revert h; simp [isX]; done)
theorem isn_x {d : D} (h : d ≠ .non) (S : Store) : isG false (.fr d) (.fr .non) S = .ok (.fr (.bl false), S) := by
  cases d <;> first | rfl | exact absurd rfl h
def isI : D → Bool
  | .int _ => true
  | _ => false
def byteB : D → Bool
  | .int i => decide (0 ≤ i)
  | _ => false
def levB : D → Bool
  | .int i => decide (0 ≤ i) && decide (i ≤ 2)
  | _ => false
def wordB : D → Bool
  | .str s => decide (s = "ask") || decide (s = "need")
  | _ => false
def endB : D → D → Bool
  | .int _, .non => true
  | .int a, .int b => decide (0 ≤ b) && decide (a ≤ b)
  | _, _ => false
def callB : D → Bool
  | .tup [w, l, f, z] => wordB w && levB l && byteB f && endB f z
  | _ => false
theorem byteB_int {d : D} (h : byteB d = true) : ∃ i, d = .int i ∧ 0 ≤ i := by
  cases d with
  | int i => exact ⟨i, rfl, by simpa [byteB] using h⟩
  | _ => simp [byteB] at h
theorem endB_no {a : Int} {z : D} (h : z ≠ .non) (hb : byteB z = false) : endB (.int a) z = false := by
  cases z with
  | non => exact absurd rfl h
  | int b =>
    simp only [byteB, endB] at hb ⊢
    rw [hb, Bool.false_and]
  | _ => rfl
theorem endB_yes {a b : Int} (h : 0 ≤ b) : endB (.int a) (.int b) = decide (a ≤ b) := by
  simp only [endB]
  rw [decide_eq_true h, Bool.true_and]
section
variable {S : Store} (wf : WF S)
include wf
theorem integer_x {d : D} (h : isX d = true) : m_is_integer [.fr d] S = .ok (.val (.fr (.bl (isI d))), S) := by
  obtain ⟨e1, e2, _⟩ := isi_x h S
  cases d <;> first
    | (exfalso; revert h; simp [isX]; done)
    | (simp only [tInt, tBl, isI] at e1 e2 ⊢; simp only [r_bind, r_1, s_1, r_2, s_2, s_2b, r_v, s_v, r_c, r_n, r_a, s_a, s_ab, r_g, s_g, r_and, s_And, s_and1, s_and0, r_or, s_Or, s_or1, s_or0, r_not, s_Not, s_not, r_if, s_if1, s_if0, r_ch, s_ch, s_cha, s_chb1, s_chb0, s_chc, r_tB, s_tB, r_tV, s_tV, s_tv, r_tN, s_tN, r_tA, s_tA1, s_tA0, r_tO, s_tO1, s_tO0, r_tT, r_trB, r_trI, r_trN, r_call, s_call, s_noX, s_backV, s_backC, s_backF, s_frz, r_frz, r_all0, r_all1, r_fn1, r_fn2, r_fn3, r_fn4, r_fn5, s_lvR, s_lvN, r_nx, r_bk, r_ct, r_seq, s_seqN, s_seqR, s_seqB, s_seqC, r_ret, s_ret, r_retN, r_sif, s_sif1, s_sif0, r_ex, s_ex, r_set, s_set, r_par, s_par, r_as, s_as, s_gb, r_gNm, r_gNl, r_gCs, s_gCs, r_gTu2, r_gTu3, r_gTu4, r_gSb, s_sb, s_sb2, s_st, s_nxS, r_au, s_au, s_au0, s_au1, s_au2, s_au3, r_addI, r_for, s_for, s_body, s_turnN, s_turnC, s_turnB, s_turnR, r_r1, s_r1, r_r2, s_r2, r_sq, s_sqL, s_sqS, r_tp, s_tp, r_xT, r_xL, s_x, s_xd, at_0, at_1, at_2, at_3, at_4, r_add, r_sub, r_neg, r_mul, r_fdiv, r_mod, r_pow, r_cmp, r_is, r_eqI, r_abs, r_int, r_max, r_min, r_okV, r_snap, r_lenF, r_lenT, DL.isNon, List.replicate_succ, List.replicate_zero, List.set_cons_zero, List.set_cons_succ, List.getElem?_cons_zero, List.getElem?_cons_succ, Option.map_some, Nat.reduceSub, and_self, and_true, true_and, decide_true, decide_false, if_true, if_false, Bool.false_eq_true, Bool.not_true, Bool.not_false, r_ps, s_ps, r_pn, r_sl, s_sl, s_sl1, s_sl2, r_slL, r_slS, r_slT, r_lcT, s_l1, s_l2t, s_l2f, s_l3, r_lc, s_lc, s_noE, s_lceC, s_wr0, s_wr, r_nT, s_nT, r_nF, s_nF, r_nC, s_nC, s_sz0, s_sz1, Nat.reduceAdd, Nat.reduceMul, Nat.reduceLeDiff, last_x, at_m1, last_set, r_mt, s_mt, s_mtb, ty_last, r_fld', s_fld, r_meth0, s_meth0, r_meth, s_meth, s_methb, r_make, s_make, r_sf, s_sf, s_sfb, r_sort, s_sort, r_en, s_enL, r_zi, s_ziL, r_sst, r_mt0', r_gUl3, r_par3, s_par3, r_cmA, s_cmA, r_rev, s_revF, r_cw, s_cw, s_cw1, r_fill, r_isB, r_nTC, s_nTC, m_is_integer, b_is_integer, e1, e2, leave_val wf])
theorem byte_x {d : D} (h : isX d = true) : m_is_byte [.fr d] S = .ok (.val (.fr (.bl (byteB d))), S) := by
  have e := integer_x wf h
  cases d <;> first
    | (exfalso; revert h; simp [isX]; done)
    | (simp only [isI, byteB] at e ⊢; simp only [r_bind, r_1, s_1, r_2, s_2, s_2b, r_v, s_v, r_c, r_n, r_a, s_a, s_ab, r_g, s_g, r_and, s_And, s_and1, s_and0, r_or, s_Or, s_or1, s_or0, r_not, s_Not, s_not, r_if, s_if1, s_if0, r_ch, s_ch, s_cha, s_chb1, s_chb0, s_chc, r_tB, s_tB, r_tV, s_tV, s_tv, r_tN, s_tN, r_tA, s_tA1, s_tA0, r_tO, s_tO1, s_tO0, r_tT, r_trB, r_trI, r_trN, r_call, s_call, s_noX, s_backV, s_backC, s_backF, s_frz, r_frz, r_all0, r_all1, r_fn1, r_fn2, r_fn3, r_fn4, r_fn5, s_lvR, s_lvN, r_nx, r_bk, r_ct, r_seq, s_seqN, s_seqR, s_seqB, s_seqC, r_ret, s_ret, r_retN, r_sif, s_sif1, s_sif0, r_ex, s_ex, r_set, s_set, r_par, s_par, r_as, s_as, s_gb, r_gNm, r_gNl, r_gCs, s_gCs, r_gTu2, r_gTu3, r_gTu4, r_gSb, s_sb, s_sb2, s_st, s_nxS, r_au, s_au, s_au0, s_au1, s_au2, s_au3, r_addI, r_for, s_for, s_body, s_turnN, s_turnC, s_turnB, s_turnR, r_r1, s_r1, r_r2, s_r2, r_sq, s_sqL, s_sqS, r_tp, s_tp, r_xT, r_xL, s_x, s_xd, at_0, at_1, at_2, at_3, at_4, r_add, r_sub, r_neg, r_mul, r_fdiv, r_mod, r_pow, r_cmp, r_is, r_eqI, r_abs, r_int, r_max, r_min, r_okV, r_snap, r_lenF, r_lenT, DL.isNon, List.replicate_succ, List.replicate_zero, List.set_cons_zero, List.set_cons_succ, List.getElem?_cons_zero, List.getElem?_cons_succ, Option.map_some, Nat.reduceSub, and_self, and_true, true_and, decide_true, decide_false, if_true, if_false, Bool.false_eq_true, Bool.not_true, Bool.not_false, r_ps, s_ps, r_pn, r_sl, s_sl, s_sl1, s_sl2, r_slL, r_slS, r_slT, r_lcT, s_l1, s_l2t, s_l2f, s_l3, r_lc, s_lc, s_noE, s_lceC, s_wr0, s_wr, r_nT, s_nT, r_nF, s_nF, r_nC, s_nC, s_sz0, s_sz1, Nat.reduceAdd, Nat.reduceMul, Nat.reduceLeDiff, last_x, at_m1, last_set, r_mt, s_mt, s_mtb, ty_last, r_fld', s_fld, r_meth0, s_meth0, r_meth, s_meth, s_methb, r_make, s_make, r_sf, s_sf, s_sfb, r_sort, s_sort, r_en, s_enL, r_zi, s_ziL, r_sst, r_mt0', r_gUl3, r_par3, s_par3, r_cmA, s_cmA, r_rev, s_revF, r_cw, s_cw, s_cw1, r_fill, r_isB, r_nTC, s_nTC, m_is_byte, b_is_byte, e, leave_val wf])
theorem level_x {d : D} (h : isX d = true) : m_is_level [.fr d] S = .ok (.val (.fr (.bl (levB d))), S) := by
  have e := integer_x wf h
  cases d with
  | int i =>
    simp only [isI, levB] at e ⊢
    by_cases q : 0 ≤ i
    · rw [decide_eq_true q, Bool.true_and]
      simp only [r_bind, r_1, s_1, r_2, s_2, s_2b, r_v, s_v, r_c, r_n, r_a, s_a, s_ab, r_g, s_g, r_and, s_And, s_and1, s_and0, r_or, s_Or, s_or1, s_or0, r_not, s_Not, s_not, r_if, s_if1, s_if0, r_ch, s_ch, s_cha, s_chb1, s_chb0, s_chc, r_tB, s_tB, r_tV, s_tV, s_tv, r_tN, s_tN, r_tA, s_tA1, s_tA0, r_tO, s_tO1, s_tO0, r_tT, r_trB, r_trI, r_trN, r_call, s_call, s_noX, s_backV, s_backC, s_backF, s_frz, r_frz, r_all0, r_all1, r_fn1, r_fn2, r_fn3, r_fn4, r_fn5, s_lvR, s_lvN, r_nx, r_bk, r_ct, r_seq, s_seqN, s_seqR, s_seqB, s_seqC, r_ret, s_ret, r_retN, r_sif, s_sif1, s_sif0, r_ex, s_ex, r_set, s_set, r_par, s_par, r_as, s_as, s_gb, r_gNm, r_gNl, r_gCs, s_gCs, r_gTu2, r_gTu3, r_gTu4, r_gSb, s_sb, s_sb2, s_st, s_nxS, r_au, s_au, s_au0, s_au1, s_au2, s_au3, r_addI, r_for, s_for, s_body, s_turnN, s_turnC, s_turnB, s_turnR, r_r1, s_r1, r_r2, s_r2, r_sq, s_sqL, s_sqS, r_tp, s_tp, r_xT, r_xL, s_x, s_xd, at_0, at_1, at_2, at_3, at_4, r_add, r_sub, r_neg, r_mul, r_fdiv, r_mod, r_pow, r_cmp, r_is, r_eqI, r_abs, r_int, r_max, r_min, r_okV, r_snap, r_lenF, r_lenT, DL.isNon, List.replicate_succ, List.replicate_zero, List.set_cons_zero, List.set_cons_succ, List.getElem?_cons_zero, List.getElem?_cons_succ, Option.map_some, Nat.reduceSub, and_self, and_true, true_and, decide_true, decide_false, if_true, if_false, Bool.false_eq_true, Bool.not_true, Bool.not_false, r_ps, s_ps, r_pn, r_sl, s_sl, s_sl1, s_sl2, r_slL, r_slS, r_slT, r_lcT, s_l1, s_l2t, s_l2f, s_l3, r_lc, s_lc, s_noE, s_lceC, s_wr0, s_wr, r_nT, s_nT, r_nF, s_nF, r_nC, s_nC, s_sz0, s_sz1, Nat.reduceAdd, Nat.reduceMul, Nat.reduceLeDiff, last_x, at_m1, last_set, r_mt, s_mt, s_mtb, ty_last, r_fld', s_fld, r_meth0, s_meth0, r_meth, s_meth, s_methb, r_make, s_make, r_sf, s_sf, s_sfb, r_sort, s_sort, r_en, s_enL, r_zi, s_ziL, r_sst, r_mt0', r_gUl3, r_par3, s_par3, r_cmA, s_cmA, r_rev, s_revF, r_cw, s_cw, s_cw1, r_fill, r_isB, r_nTC, s_nTC, m_is_level, b_is_level, m_is_between, b_is_between, e, decide_eq_true q, leave_val wf]
    · rw [decide_eq_false q, Bool.false_and]
      simp only [r_bind, r_1, s_1, r_2, s_2, s_2b, r_v, s_v, r_c, r_n, r_a, s_a, s_ab, r_g, s_g, r_and, s_And, s_and1, s_and0, r_or, s_Or, s_or1, s_or0, r_not, s_Not, s_not, r_if, s_if1, s_if0, r_ch, s_ch, s_cha, s_chb1, s_chb0, s_chc, r_tB, s_tB, r_tV, s_tV, s_tv, r_tN, s_tN, r_tA, s_tA1, s_tA0, r_tO, s_tO1, s_tO0, r_tT, r_trB, r_trI, r_trN, r_call, s_call, s_noX, s_backV, s_backC, s_backF, s_frz, r_frz, r_all0, r_all1, r_fn1, r_fn2, r_fn3, r_fn4, r_fn5, s_lvR, s_lvN, r_nx, r_bk, r_ct, r_seq, s_seqN, s_seqR, s_seqB, s_seqC, r_ret, s_ret, r_retN, r_sif, s_sif1, s_sif0, r_ex, s_ex, r_set, s_set, r_par, s_par, r_as, s_as, s_gb, r_gNm, r_gNl, r_gCs, s_gCs, r_gTu2, r_gTu3, r_gTu4, r_gSb, s_sb, s_sb2, s_st, s_nxS, r_au, s_au, s_au0, s_au1, s_au2, s_au3, r_addI, r_for, s_for, s_body, s_turnN, s_turnC, s_turnB, s_turnR, r_r1, s_r1, r_r2, s_r2, r_sq, s_sqL, s_sqS, r_tp, s_tp, r_xT, r_xL, s_x, s_xd, at_0, at_1, at_2, at_3, at_4, r_add, r_sub, r_neg, r_mul, r_fdiv, r_mod, r_pow, r_cmp, r_is, r_eqI, r_abs, r_int, r_max, r_min, r_okV, r_snap, r_lenF, r_lenT, DL.isNon, List.replicate_succ, List.replicate_zero, List.set_cons_zero, List.set_cons_succ, List.getElem?_cons_zero, List.getElem?_cons_succ, Option.map_some, Nat.reduceSub, and_self, and_true, true_and, decide_true, decide_false, if_true, if_false, Bool.false_eq_true, Bool.not_true, Bool.not_false, r_ps, s_ps, r_pn, r_sl, s_sl, s_sl1, s_sl2, r_slL, r_slS, r_slT, r_lcT, s_l1, s_l2t, s_l2f, s_l3, r_lc, s_lc, s_noE, s_lceC, s_wr0, s_wr, r_nT, s_nT, r_nF, s_nF, r_nC, s_nC, s_sz0, s_sz1, Nat.reduceAdd, Nat.reduceMul, Nat.reduceLeDiff, last_x, at_m1, last_set, r_mt, s_mt, s_mtb, ty_last, r_fld', s_fld, r_meth0, s_meth0, r_meth, s_meth, s_methb, r_make, s_make, r_sf, s_sf, s_sfb, r_sort, s_sort, r_en, s_enL, r_zi, s_ziL, r_sst, r_mt0', r_gUl3, r_par3, s_par3, r_cmA, s_cmA, r_rev, s_revF, r_cw, s_cw, s_cw1, r_fill, r_isB, r_nTC, s_nTC, m_is_level, b_is_level, m_is_between, b_is_between, e, decide_eq_false q, leave_val wf]
  | _ => first
    | (exfalso; revert h; simp [isX]; done)
    | (simp only [isI, levB] at e ⊢; simp only [r_bind, r_1, s_1, r_2, s_2, s_2b, r_v, s_v, r_c, r_n, r_a, s_a, s_ab, r_g, s_g, r_and, s_And, s_and1, s_and0, r_or, s_Or, s_or1, s_or0, r_not, s_Not, s_not, r_if, s_if1, s_if0, r_ch, s_ch, s_cha, s_chb1, s_chb0, s_chc, r_tB, s_tB, r_tV, s_tV, s_tv, r_tN, s_tN, r_tA, s_tA1, s_tA0, r_tO, s_tO1, s_tO0, r_tT, r_trB, r_trI, r_trN, r_call, s_call, s_noX, s_backV, s_backC, s_backF, s_frz, r_frz, r_all0, r_all1, r_fn1, r_fn2, r_fn3, r_fn4, r_fn5, s_lvR, s_lvN, r_nx, r_bk, r_ct, r_seq, s_seqN, s_seqR, s_seqB, s_seqC, r_ret, s_ret, r_retN, r_sif, s_sif1, s_sif0, r_ex, s_ex, r_set, s_set, r_par, s_par, r_as, s_as, s_gb, r_gNm, r_gNl, r_gCs, s_gCs, r_gTu2, r_gTu3, r_gTu4, r_gSb, s_sb, s_sb2, s_st, s_nxS, r_au, s_au, s_au0, s_au1, s_au2, s_au3, r_addI, r_for, s_for, s_body, s_turnN, s_turnC, s_turnB, s_turnR, r_r1, s_r1, r_r2, s_r2, r_sq, s_sqL, s_sqS, r_tp, s_tp, r_xT, r_xL, s_x, s_xd, at_0, at_1, at_2, at_3, at_4, r_add, r_sub, r_neg, r_mul, r_fdiv, r_mod, r_pow, r_cmp, r_is, r_eqI, r_abs, r_int, r_max, r_min, r_okV, r_snap, r_lenF, r_lenT, DL.isNon, List.replicate_succ, List.replicate_zero, List.set_cons_zero, List.set_cons_succ, List.getElem?_cons_zero, List.getElem?_cons_succ, Option.map_some, Nat.reduceSub, and_self, and_true, true_and, decide_true, decide_false, if_true, if_false, Bool.false_eq_true, Bool.not_true, Bool.not_false, r_ps, s_ps, r_pn, r_sl, s_sl, s_sl1, s_sl2, r_slL, r_slS, r_slT, r_lcT, s_l1, s_l2t, s_l2f, s_l3, r_lc, s_lc, s_noE, s_lceC, s_wr0, s_wr, r_nT, s_nT, r_nF, s_nF, r_nC, s_nC, s_sz0, s_sz1, Nat.reduceAdd, Nat.reduceMul, Nat.reduceLeDiff, last_x, at_m1, last_set, r_mt, s_mt, s_mtb, ty_last, r_fld', s_fld, r_meth0, s_meth0, r_meth, s_meth, s_methb, r_make, s_make, r_sf, s_sf, s_sfb, r_sort, s_sort, r_en, s_enL, r_zi, s_ziL, r_sst, r_mt0', r_gUl3, r_par3, s_par3, r_cmA, s_cmA, r_rev, s_revF, r_cw, s_cw, s_cw1, r_fill, r_isB, r_nTC, s_nTC, m_is_level, b_is_level, m_is_between, b_is_between, e, leave_val wf])
theorem fault_x {f z : D} (hf : isX f = true) (hz : isX z = true) : m_span_fault [.fr f, .fr z] S = .ok (.val (.fr (if byteB f = true then (if endB f z = true then .non else .int 1) else .int 0)), S) := by
  have e1 := byte_x wf hf
  have e2 := byte_x wf hz
  cases hb : byteB f with
  | false =>
    rw [hb] at e1
    rw [if_neg (by decide)]
    simp only [r_bind, r_1, s_1, r_2, s_2, s_2b, r_v, s_v, r_c, r_n, r_a, s_a, s_ab, r_g, s_g, r_and, s_And, s_and1, s_and0, r_or, s_Or, s_or1, s_or0, r_not, s_Not, s_not, r_if, s_if1, s_if0, r_ch, s_ch, s_cha, s_chb1, s_chb0, s_chc, r_tB, s_tB, r_tV, s_tV, s_tv, r_tN, s_tN, r_tA, s_tA1, s_tA0, r_tO, s_tO1, s_tO0, r_tT, r_trB, r_trI, r_trN, r_call, s_call, s_noX, s_backV, s_backC, s_backF, s_frz, r_frz, r_all0, r_all1, r_fn1, r_fn2, r_fn3, r_fn4, r_fn5, s_lvR, s_lvN, r_nx, r_bk, r_ct, r_seq, s_seqN, s_seqR, s_seqB, s_seqC, r_ret, s_ret, r_retN, r_sif, s_sif1, s_sif0, r_ex, s_ex, r_set, s_set, r_par, s_par, r_as, s_as, s_gb, r_gNm, r_gNl, r_gCs, s_gCs, r_gTu2, r_gTu3, r_gTu4, r_gSb, s_sb, s_sb2, s_st, s_nxS, r_au, s_au, s_au0, s_au1, s_au2, s_au3, r_addI, r_for, s_for, s_body, s_turnN, s_turnC, s_turnB, s_turnR, r_r1, s_r1, r_r2, s_r2, r_sq, s_sqL, s_sqS, r_tp, s_tp, r_xT, r_xL, s_x, s_xd, at_0, at_1, at_2, at_3, at_4, r_add, r_sub, r_neg, r_mul, r_fdiv, r_mod, r_pow, r_cmp, r_is, r_eqI, r_abs, r_int, r_max, r_min, r_okV, r_snap, r_lenF, r_lenT, DL.isNon, List.replicate_succ, List.replicate_zero, List.set_cons_zero, List.set_cons_succ, List.getElem?_cons_zero, List.getElem?_cons_succ, Option.map_some, Nat.reduceSub, and_self, and_true, true_and, decide_true, decide_false, if_true, if_false, Bool.false_eq_true, Bool.not_true, Bool.not_false, r_ps, s_ps, r_pn, r_sl, s_sl, s_sl1, s_sl2, r_slL, r_slS, r_slT, r_lcT, s_l1, s_l2t, s_l2f, s_l3, r_lc, s_lc, s_noE, s_lceC, s_wr0, s_wr, r_nT, s_nT, r_nF, s_nF, r_nC, s_nC, s_sz0, s_sz1, Nat.reduceAdd, Nat.reduceMul, Nat.reduceLeDiff, last_x, at_m1, last_set, r_mt, s_mt, s_mtb, ty_last, r_fld', s_fld, r_meth0, s_meth0, r_meth, s_meth, s_methb, r_make, s_make, r_sf, s_sf, s_sfb, r_sort, s_sort, r_en, s_enL, r_zi, s_ziL, r_sst, r_mt0', r_gUl3, r_par3, s_par3, r_cmA, s_cmA, r_rev, s_revF, r_cw, s_cw, s_cw1, r_fill, r_isB, r_nTC, s_nTC, m_span_fault, b_span_fault, e1, leave_val wf]
  | true =>
    rw [hb] at e1
    rw [if_pos rfl]
    cases f with
    | int a =>
      by_cases hn : z = .non
      · subst hn
        rw [if_pos (show endB (.int a) .non = true from rfl)]
        simp only [r_bind, r_1, s_1, r_2, s_2, s_2b, r_v, s_v, r_c, r_n, r_a, s_a, s_ab, r_g, s_g, r_and, s_And, s_and1, s_and0, r_or, s_Or, s_or1, s_or0, r_not, s_Not, s_not, r_if, s_if1, s_if0, r_ch, s_ch, s_cha, s_chb1, s_chb0, s_chc, r_tB, s_tB, r_tV, s_tV, s_tv, r_tN, s_tN, r_tA, s_tA1, s_tA0, r_tO, s_tO1, s_tO0, r_tT, r_trB, r_trI, r_trN, r_call, s_call, s_noX, s_backV, s_backC, s_backF, s_frz, r_frz, r_all0, r_all1, r_fn1, r_fn2, r_fn3, r_fn4, r_fn5, s_lvR, s_lvN, r_nx, r_bk, r_ct, r_seq, s_seqN, s_seqR, s_seqB, s_seqC, r_ret, s_ret, r_retN, r_sif, s_sif1, s_sif0, r_ex, s_ex, r_set, s_set, r_par, s_par, r_as, s_as, s_gb, r_gNm, r_gNl, r_gCs, s_gCs, r_gTu2, r_gTu3, r_gTu4, r_gSb, s_sb, s_sb2, s_st, s_nxS, r_au, s_au, s_au0, s_au1, s_au2, s_au3, r_addI, r_for, s_for, s_body, s_turnN, s_turnC, s_turnB, s_turnR, r_r1, s_r1, r_r2, s_r2, r_sq, s_sqL, s_sqS, r_tp, s_tp, r_xT, r_xL, s_x, s_xd, at_0, at_1, at_2, at_3, at_4, r_add, r_sub, r_neg, r_mul, r_fdiv, r_mod, r_pow, r_cmp, r_is, r_eqI, r_abs, r_int, r_max, r_min, r_okV, r_snap, r_lenF, r_lenT, DL.isNon, List.replicate_succ, List.replicate_zero, List.set_cons_zero, List.set_cons_succ, List.getElem?_cons_zero, List.getElem?_cons_succ, Option.map_some, Nat.reduceSub, and_self, and_true, true_and, decide_true, decide_false, if_true, if_false, Bool.false_eq_true, Bool.not_true, Bool.not_false, r_ps, s_ps, r_pn, r_sl, s_sl, s_sl1, s_sl2, r_slL, r_slS, r_slT, r_lcT, s_l1, s_l2t, s_l2f, s_l3, r_lc, s_lc, s_noE, s_lceC, s_wr0, s_wr, r_nT, s_nT, r_nF, s_nF, r_nC, s_nC, s_sz0, s_sz1, Nat.reduceAdd, Nat.reduceMul, Nat.reduceLeDiff, last_x, at_m1, last_set, r_mt, s_mt, s_mtb, ty_last, r_fld', s_fld, r_meth0, s_meth0, r_meth, s_meth, s_methb, r_make, s_make, r_sf, s_sf, s_sfb, r_sort, s_sort, r_en, s_enL, r_zi, s_ziL, r_sst, r_mt0', r_gUl3, r_par3, s_par3, r_cmA, s_cmA, r_rev, s_revF, r_cw, s_cw, s_cw1, r_fill, r_isB, r_nTC, s_nTC, m_span_fault, b_span_fault, e1, leave_val wf]
      · have isn := isn_x hn S
        cases h2 : byteB z with
        | false =>
          rw [h2] at e2
          rw [endB_no hn h2, if_neg (by decide)]
          simp only [r_bind, r_1, s_1, r_2, s_2, s_2b, r_v, s_v, r_c, r_n, r_a, s_a, s_ab, r_g, s_g, r_and, s_And, s_and1, s_and0, r_or, s_Or, s_or1, s_or0, r_not, s_Not, s_not, r_if, s_if1, s_if0, r_ch, s_ch, s_cha, s_chb1, s_chb0, s_chc, r_tB, s_tB, r_tV, s_tV, s_tv, r_tN, s_tN, r_tA, s_tA1, s_tA0, r_tO, s_tO1, s_tO0, r_tT, r_trB, r_trI, r_trN, r_call, s_call, s_noX, s_backV, s_backC, s_backF, s_frz, r_frz, r_all0, r_all1, r_fn1, r_fn2, r_fn3, r_fn4, r_fn5, s_lvR, s_lvN, r_nx, r_bk, r_ct, r_seq, s_seqN, s_seqR, s_seqB, s_seqC, r_ret, s_ret, r_retN, r_sif, s_sif1, s_sif0, r_ex, s_ex, r_set, s_set, r_par, s_par, r_as, s_as, s_gb, r_gNm, r_gNl, r_gCs, s_gCs, r_gTu2, r_gTu3, r_gTu4, r_gSb, s_sb, s_sb2, s_st, s_nxS, r_au, s_au, s_au0, s_au1, s_au2, s_au3, r_addI, r_for, s_for, s_body, s_turnN, s_turnC, s_turnB, s_turnR, r_r1, s_r1, r_r2, s_r2, r_sq, s_sqL, s_sqS, r_tp, s_tp, r_xT, r_xL, s_x, s_xd, at_0, at_1, at_2, at_3, at_4, r_add, r_sub, r_neg, r_mul, r_fdiv, r_mod, r_pow, r_cmp, r_is, r_eqI, r_abs, r_int, r_max, r_min, r_okV, r_snap, r_lenF, r_lenT, DL.isNon, List.replicate_succ, List.replicate_zero, List.set_cons_zero, List.set_cons_succ, List.getElem?_cons_zero, List.getElem?_cons_succ, Option.map_some, Nat.reduceSub, and_self, and_true, true_and, decide_true, decide_false, if_true, if_false, Bool.false_eq_true, Bool.not_true, Bool.not_false, r_ps, s_ps, r_pn, r_sl, s_sl, s_sl1, s_sl2, r_slL, r_slS, r_slT, r_lcT, s_l1, s_l2t, s_l2f, s_l3, r_lc, s_lc, s_noE, s_lceC, s_wr0, s_wr, r_nT, s_nT, r_nF, s_nF, r_nC, s_nC, s_sz0, s_sz1, Nat.reduceAdd, Nat.reduceMul, Nat.reduceLeDiff, last_x, at_m1, last_set, r_mt, s_mt, s_mtb, ty_last, r_fld', s_fld, r_meth0, s_meth0, r_meth, s_meth, s_methb, r_make, s_make, r_sf, s_sf, s_sfb, r_sort, s_sort, r_en, s_enL, r_zi, s_ziL, r_sst, r_mt0', r_gUl3, r_par3, s_par3, r_cmA, s_cmA, r_rev, s_revF, r_cw, s_cw, s_cw1, r_fill, r_isB, r_nTC, s_nTC, m_span_fault, b_span_fault, e1, e2, isn, leave_val wf]
        | true =>
          obtain ⟨b, rfl, q⟩ := byteB_int h2
          rw [h2] at e2
          rw [endB_yes q]
          by_cases r : a ≤ b
          · rw [decide_eq_true r, if_pos rfl]
            simp only [r_bind, r_1, s_1, r_2, s_2, s_2b, r_v, s_v, r_c, r_n, r_a, s_a, s_ab, r_g, s_g, r_and, s_And, s_and1, s_and0, r_or, s_Or, s_or1, s_or0, r_not, s_Not, s_not, r_if, s_if1, s_if0, r_ch, s_ch, s_cha, s_chb1, s_chb0, s_chc, r_tB, s_tB, r_tV, s_tV, s_tv, r_tN, s_tN, r_tA, s_tA1, s_tA0, r_tO, s_tO1, s_tO0, r_tT, r_trB, r_trI, r_trN, r_call, s_call, s_noX, s_backV, s_backC, s_backF, s_frz, r_frz, r_all0, r_all1, r_fn1, r_fn2, r_fn3, r_fn4, r_fn5, s_lvR, s_lvN, r_nx, r_bk, r_ct, r_seq, s_seqN, s_seqR, s_seqB, s_seqC, r_ret, s_ret, r_retN, r_sif, s_sif1, s_sif0, r_ex, s_ex, r_set, s_set, r_par, s_par, r_as, s_as, s_gb, r_gNm, r_gNl, r_gCs, s_gCs, r_gTu2, r_gTu3, r_gTu4, r_gSb, s_sb, s_sb2, s_st, s_nxS, r_au, s_au, s_au0, s_au1, s_au2, s_au3, r_addI, r_for, s_for, s_body, s_turnN, s_turnC, s_turnB, s_turnR, r_r1, s_r1, r_r2, s_r2, r_sq, s_sqL, s_sqS, r_tp, s_tp, r_xT, r_xL, s_x, s_xd, at_0, at_1, at_2, at_3, at_4, r_add, r_sub, r_neg, r_mul, r_fdiv, r_mod, r_pow, r_cmp, r_is, r_eqI, r_abs, r_int, r_max, r_min, r_okV, r_snap, r_lenF, r_lenT, DL.isNon, List.replicate_succ, List.replicate_zero, List.set_cons_zero, List.set_cons_succ, List.getElem?_cons_zero, List.getElem?_cons_succ, Option.map_some, Nat.reduceSub, and_self, and_true, true_and, decide_true, decide_false, if_true, if_false, Bool.false_eq_true, Bool.not_true, Bool.not_false, r_ps, s_ps, r_pn, r_sl, s_sl, s_sl1, s_sl2, r_slL, r_slS, r_slT, r_lcT, s_l1, s_l2t, s_l2f, s_l3, r_lc, s_lc, s_noE, s_lceC, s_wr0, s_wr, r_nT, s_nT, r_nF, s_nF, r_nC, s_nC, s_sz0, s_sz1, Nat.reduceAdd, Nat.reduceMul, Nat.reduceLeDiff, last_x, at_m1, last_set, r_mt, s_mt, s_mtb, ty_last, r_fld', s_fld, r_meth0, s_meth0, r_meth, s_meth, s_methb, r_make, s_make, r_sf, s_sf, s_sfb, r_sort, s_sort, r_en, s_enL, r_zi, s_ziL, r_sst, r_mt0', r_gUl3, r_par3, s_par3, r_cmA, s_cmA, r_rev, s_revF, r_cw, s_cw, s_cw1, r_fill, r_isB, r_nTC, s_nTC, m_span_fault, b_span_fault, e1, e2, isn, decide_eq_true r, leave_val wf]
          · rw [decide_eq_false r, if_neg (by decide)]
            simp only [r_bind, r_1, s_1, r_2, s_2, s_2b, r_v, s_v, r_c, r_n, r_a, s_a, s_ab, r_g, s_g, r_and, s_And, s_and1, s_and0, r_or, s_Or, s_or1, s_or0, r_not, s_Not, s_not, r_if, s_if1, s_if0, r_ch, s_ch, s_cha, s_chb1, s_chb0, s_chc, r_tB, s_tB, r_tV, s_tV, s_tv, r_tN, s_tN, r_tA, s_tA1, s_tA0, r_tO, s_tO1, s_tO0, r_tT, r_trB, r_trI, r_trN, r_call, s_call, s_noX, s_backV, s_backC, s_backF, s_frz, r_frz, r_all0, r_all1, r_fn1, r_fn2, r_fn3, r_fn4, r_fn5, s_lvR, s_lvN, r_nx, r_bk, r_ct, r_seq, s_seqN, s_seqR, s_seqB, s_seqC, r_ret, s_ret, r_retN, r_sif, s_sif1, s_sif0, r_ex, s_ex, r_set, s_set, r_par, s_par, r_as, s_as, s_gb, r_gNm, r_gNl, r_gCs, s_gCs, r_gTu2, r_gTu3, r_gTu4, r_gSb, s_sb, s_sb2, s_st, s_nxS, r_au, s_au, s_au0, s_au1, s_au2, s_au3, r_addI, r_for, s_for, s_body, s_turnN, s_turnC, s_turnB, s_turnR, r_r1, s_r1, r_r2, s_r2, r_sq, s_sqL, s_sqS, r_tp, s_tp, r_xT, r_xL, s_x, s_xd, at_0, at_1, at_2, at_3, at_4, r_add, r_sub, r_neg, r_mul, r_fdiv, r_mod, r_pow, r_cmp, r_is, r_eqI, r_abs, r_int, r_max, r_min, r_okV, r_snap, r_lenF, r_lenT, DL.isNon, List.replicate_succ, List.replicate_zero, List.set_cons_zero, List.set_cons_succ, List.getElem?_cons_zero, List.getElem?_cons_succ, Option.map_some, Nat.reduceSub, and_self, and_true, true_and, decide_true, decide_false, if_true, if_false, Bool.false_eq_true, Bool.not_true, Bool.not_false, r_ps, s_ps, r_pn, r_sl, s_sl, s_sl1, s_sl2, r_slL, r_slS, r_slT, r_lcT, s_l1, s_l2t, s_l2f, s_l3, r_lc, s_lc, s_noE, s_lceC, s_wr0, s_wr, r_nT, s_nT, r_nF, s_nF, r_nC, s_nC, s_sz0, s_sz1, Nat.reduceAdd, Nat.reduceMul, Nat.reduceLeDiff, last_x, at_m1, last_set, r_mt, s_mt, s_mtb, ty_last, r_fld', s_fld, r_meth0, s_meth0, r_meth, s_meth, s_methb, r_make, s_make, r_sf, s_sf, s_sfb, r_sort, s_sort, r_en, s_enL, r_zi, s_ziL, r_sst, r_mt0', r_gUl3, r_par3, s_par3, r_cmA, s_cmA, r_rev, s_revF, r_cw, s_cw, s_cw1, r_fill, r_isB, r_nTC, s_nTC, m_span_fault, b_span_fault, e1, e2, isn, decide_eq_false r, leave_val wf]
    | _ => simp [byteB] at hb
theorem span_x {f z : D} (hf : isX f = true) (hz : isX z = true) : m_is_span [.fr (.tup [f, z])] S = .ok (.val (.fr (.bl (byteB f && endB f z))), S) := by
  have e1 := fault_x wf hf hz
  have e2 : isiG [.fr (.tup [f, z]), .fr (.ty "tuple")] S = .ok (.fr (.bl true), S) := rfl
  have e3 : lenG [.fr (.tup [f, z])] S = .ok (.fr (.int 2), S) := rfl
  have is0 : isG false (.fr (.int 0)) (.fr .non) S = .ok (.fr (.bl false), S) := rfl
  have is1 : isG false (.fr (.int 1)) (.fr .non) S = .ok (.fr (.bl false), S) := rfl
  cases hb : byteB f with
  | false =>
    rw [hb, if_neg (by decide)] at e1
    simp only [r_bind, r_1, s_1, r_2, s_2, s_2b, r_v, s_v, r_c, r_n, r_a, s_a, s_ab, r_g, s_g, r_and, s_And, s_and1, s_and0, r_or, s_Or, s_or1, s_or0, r_not, s_Not, s_not, r_if, s_if1, s_if0, r_ch, s_ch, s_cha, s_chb1, s_chb0, s_chc, r_tB, s_tB, r_tV, s_tV, s_tv, r_tN, s_tN, r_tA, s_tA1, s_tA0, r_tO, s_tO1, s_tO0, r_tT, r_trB, r_trI, r_trN, r_call, s_call, s_noX, s_backV, s_backC, s_backF, s_frz, r_frz, r_all0, r_all1, r_fn1, r_fn2, r_fn3, r_fn4, r_fn5, s_lvR, s_lvN, r_nx, r_bk, r_ct, r_seq, s_seqN, s_seqR, s_seqB, s_seqC, r_ret, s_ret, r_retN, r_sif, s_sif1, s_sif0, r_ex, s_ex, r_set, s_set, r_par, s_par, r_as, s_as, s_gb, r_gNm, r_gNl, r_gCs, s_gCs, r_gTu2, r_gTu3, r_gTu4, r_gSb, s_sb, s_sb2, s_st, s_nxS, r_au, s_au, s_au0, s_au1, s_au2, s_au3, r_addI, r_for, s_for, s_body, s_turnN, s_turnC, s_turnB, s_turnR, r_r1, s_r1, r_r2, s_r2, r_sq, s_sqL, s_sqS, r_tp, s_tp, r_xT, r_xL, s_x, s_xd, at_0, at_1, at_2, at_3, at_4, r_add, r_sub, r_neg, r_mul, r_fdiv, r_mod, r_pow, r_cmp, r_is, r_eqI, r_abs, r_int, r_max, r_min, r_okV, r_snap, r_lenF, r_lenT, DL.isNon, List.replicate_succ, List.replicate_zero, List.set_cons_zero, List.set_cons_succ, List.getElem?_cons_zero, List.getElem?_cons_succ, Option.map_some, Nat.reduceSub, and_self, and_true, true_and, decide_true, decide_false, if_true, if_false, Bool.false_eq_true, Bool.not_true, Bool.not_false, r_ps, s_ps, r_pn, r_sl, s_sl, s_sl1, s_sl2, r_slL, r_slS, r_slT, r_lcT, s_l1, s_l2t, s_l2f, s_l3, r_lc, s_lc, s_noE, s_lceC, s_wr0, s_wr, r_nT, s_nT, r_nF, s_nF, r_nC, s_nC, s_sz0, s_sz1, Nat.reduceAdd, Nat.reduceMul, Nat.reduceLeDiff, last_x, at_m1, last_set, r_mt, s_mt, s_mtb, ty_last, r_fld', s_fld, r_meth0, s_meth0, r_meth, s_meth, s_methb, r_make, s_make, r_sf, s_sf, s_sfb, r_sort, s_sort, r_en, s_enL, r_zi, s_ziL, r_sst, r_mt0', r_gUl3, r_par3, s_par3, r_cmA, s_cmA, r_rev, s_revF, r_cw, s_cw, s_cw1, r_fill, r_isB, r_nTC, s_nTC, m_is_span, b_is_span, e1, e2, e3, is0, Bool.false_and, leave_val wf]
  | true =>
    rw [hb, if_pos rfl] at e1
    cases he : endB f z with
    | false =>
      rw [he, if_neg (by decide)] at e1
      simp only [r_bind, r_1, s_1, r_2, s_2, s_2b, r_v, s_v, r_c, r_n, r_a, s_a, s_ab, r_g, s_g, r_and, s_And, s_and1, s_and0, r_or, s_Or, s_or1, s_or0, r_not, s_Not, s_not, r_if, s_if1, s_if0, r_ch, s_ch, s_cha, s_chb1, s_chb0, s_chc, r_tB, s_tB, r_tV, s_tV, s_tv, r_tN, s_tN, r_tA, s_tA1, s_tA0, r_tO, s_tO1, s_tO0, r_tT, r_trB, r_trI, r_trN, r_call, s_call, s_noX, s_backV, s_backC, s_backF, s_frz, r_frz, r_all0, r_all1, r_fn1, r_fn2, r_fn3, r_fn4, r_fn5, s_lvR, s_lvN, r_nx, r_bk, r_ct, r_seq, s_seqN, s_seqR, s_seqB, s_seqC, r_ret, s_ret, r_retN, r_sif, s_sif1, s_sif0, r_ex, s_ex, r_set, s_set, r_par, s_par, r_as, s_as, s_gb, r_gNm, r_gNl, r_gCs, s_gCs, r_gTu2, r_gTu3, r_gTu4, r_gSb, s_sb, s_sb2, s_st, s_nxS, r_au, s_au, s_au0, s_au1, s_au2, s_au3, r_addI, r_for, s_for, s_body, s_turnN, s_turnC, s_turnB, s_turnR, r_r1, s_r1, r_r2, s_r2, r_sq, s_sqL, s_sqS, r_tp, s_tp, r_xT, r_xL, s_x, s_xd, at_0, at_1, at_2, at_3, at_4, r_add, r_sub, r_neg, r_mul, r_fdiv, r_mod, r_pow, r_cmp, r_is, r_eqI, r_abs, r_int, r_max, r_min, r_okV, r_snap, r_lenF, r_lenT, DL.isNon, List.replicate_succ, List.replicate_zero, List.set_cons_zero, List.set_cons_succ, List.getElem?_cons_zero, List.getElem?_cons_succ, Option.map_some, Nat.reduceSub, and_self, and_true, true_and, decide_true, decide_false, if_true, if_false, Bool.false_eq_true, Bool.not_true, Bool.not_false, r_ps, s_ps, r_pn, r_sl, s_sl, s_sl1, s_sl2, r_slL, r_slS, r_slT, r_lcT, s_l1, s_l2t, s_l2f, s_l3, r_lc, s_lc, s_noE, s_lceC, s_wr0, s_wr, r_nT, s_nT, r_nF, s_nF, r_nC, s_nC, s_sz0, s_sz1, Nat.reduceAdd, Nat.reduceMul, Nat.reduceLeDiff, last_x, at_m1, last_set, r_mt, s_mt, s_mtb, ty_last, r_fld', s_fld, r_meth0, s_meth0, r_meth, s_meth, s_methb, r_make, s_make, r_sf, s_sf, s_sfb, r_sort, s_sort, r_en, s_enL, r_zi, s_ziL, r_sst, r_mt0', r_gUl3, r_par3, s_par3, r_cmA, s_cmA, r_rev, s_revF, r_cw, s_cw, s_cw1, r_fill, r_isB, r_nTC, s_nTC, m_is_span, b_is_span, e1, e2, e3, is1, Bool.true_and, leave_val wf]
    | true =>
      rw [he, if_pos rfl] at e1
      simp only [r_bind, r_1, s_1, r_2, s_2, s_2b, r_v, s_v, r_c, r_n, r_a, s_a, s_ab, r_g, s_g, r_and, s_And, s_and1, s_and0, r_or, s_Or, s_or1, s_or0, r_not, s_Not, s_not, r_if, s_if1, s_if0, r_ch, s_ch, s_cha, s_chb1, s_chb0, s_chc, r_tB, s_tB, r_tV, s_tV, s_tv, r_tN, s_tN, r_tA, s_tA1, s_tA0, r_tO, s_tO1, s_tO0, r_tT, r_trB, r_trI, r_trN, r_call, s_call, s_noX, s_backV, s_backC, s_backF, s_frz, r_frz, r_all0, r_all1, r_fn1, r_fn2, r_fn3, r_fn4, r_fn5, s_lvR, s_lvN, r_nx, r_bk, r_ct, r_seq, s_seqN, s_seqR, s_seqB, s_seqC, r_ret, s_ret, r_retN, r_sif, s_sif1, s_sif0, r_ex, s_ex, r_set, s_set, r_par, s_par, r_as, s_as, s_gb, r_gNm, r_gNl, r_gCs, s_gCs, r_gTu2, r_gTu3, r_gTu4, r_gSb, s_sb, s_sb2, s_st, s_nxS, r_au, s_au, s_au0, s_au1, s_au2, s_au3, r_addI, r_for, s_for, s_body, s_turnN, s_turnC, s_turnB, s_turnR, r_r1, s_r1, r_r2, s_r2, r_sq, s_sqL, s_sqS, r_tp, s_tp, r_xT, r_xL, s_x, s_xd, at_0, at_1, at_2, at_3, at_4, r_add, r_sub, r_neg, r_mul, r_fdiv, r_mod, r_pow, r_cmp, r_is, r_eqI, r_abs, r_int, r_max, r_min, r_okV, r_snap, r_lenF, r_lenT, DL.isNon, List.replicate_succ, List.replicate_zero, List.set_cons_zero, List.set_cons_succ, List.getElem?_cons_zero, List.getElem?_cons_succ, Option.map_some, Nat.reduceSub, and_self, and_true, true_and, decide_true, decide_false, if_true, if_false, Bool.false_eq_true, Bool.not_true, Bool.not_false, r_ps, s_ps, r_pn, r_sl, s_sl, s_sl1, s_sl2, r_slL, r_slS, r_slT, r_lcT, s_l1, s_l2t, s_l2f, s_l3, r_lc, s_lc, s_noE, s_lceC, s_wr0, s_wr, r_nT, s_nT, r_nF, s_nF, r_nC, s_nC, s_sz0, s_sz1, Nat.reduceAdd, Nat.reduceMul, Nat.reduceLeDiff, last_x, at_m1, last_set, r_mt, s_mt, s_mtb, ty_last, r_fld', s_fld, r_meth0, s_meth0, r_meth, s_meth, s_methb, r_make, s_make, r_sf, s_sf, s_sfb, r_sort, s_sort, r_en, s_enL, r_zi, s_ziL, r_sst, r_mt0', r_gUl3, r_par3, s_par3, r_cmA, s_cmA, r_rev, s_revF, r_cw, s_cw, s_cw1, r_fill, r_isB, r_nTC, s_nTC, m_is_span, b_is_span, e1, e2, e3, Bool.true_and, leave_val wf]
end
theorem anyK_w (s : Str) : DL.anyK (.inr s) [.inr "ask", .inr "need"] = wordB (.str s) := by
  unfold DL.anyK wordB
  simp only [List.any_cons, List.any_nil, Bool.or_false]
  rw [Bool.eq_iff_iff]
  simp only [Bool.or_eq_true, decide_eq_true_eq, Sum.inr.injEq]
  constructor
  · rintro (h | h)
    · exact .inl h.symm
    · exact .inr h.symm
  · rintro (h | h)
    · exact .inl h.symm
    · exact .inr h.symm
theorem inK_w (s : Str) (S : Store) : inKG "WORDS" [.inr "ask", .inr "need"] true (.fr (.str s)) (.fr (.cls "WORDS")) S = .ok (.fr (.bl (!wordB (.str s))), S) := by
  rw [← anyK_w]
  unfold inKG
  simp only [keyS, if_true]
  rfl
theorem inT_w (s : Str) (S : Store) : inTpG true (.fr (.str s)) (.fr (.tup [.str "ask", .str "need"])) S = .ok (.fr (.bl (!wordB (.str s))), S) := by
  rw [← anyK_w]
  rfl
section
variable {S : Store} (wf : WF S)
include wf
end

/-! the six questions of any value -/
abbrev ltrs : Str := "abcdefghijklmnopqrstuvwxyz"
def spanB : D → Bool
  | .tup [f, z] => byteB f && endB f z
  | _ => false
def nameS (s : Str) : Bool := (decide ((1 : Int) ≤ s.length) && decide ((s.length : Int) ≤ 8)) && s.cps.toList.all fun c => decide (c ∈ ltrs.cps.toList)
def nameB : D → Bool
  | .str s => nameS s
  | _ => false
def ownW : D → Bool
  | .str s => decide (s = "process") || decide (s = "open")
  | _ => false
def ownB : D → Bool
  | .tup [w, n] => ownW w && byteB n
  | _ => false
section
variable {rho : Slots} {S : Store} {m : EM}
def k_sg (r : SV × Store) : Res (DL.Wk × Store) := match r.1 with
  | .fr (.str z) => .ok (⟨sgnS z, fun _ => True⟩, r.2)
  | _ => .stuck
theorem r_sg : iStS m rho S = (m rho S).bind k_sg := id rfl
theorem s_sg (z : Str) : k_sg (.fr (.str z), S) = .ok (⟨sgnS z, fun _ => True⟩, S) := id rfl
theorem r_call0 (f : FnM) (c : Bool) : eCall0 f c rho S = (noX (f [] S)).bind (back c) := id rfl
end
theorem inSg (ng : Bool) (c : Nat) (z : Str) (S : Store) : inSgG ng (.fr (.str ⟨#[c]⟩)) (.fr (.str z)) S = .ok (.fr (.bl (if ng then !decide (c ∈ z.cps.toList) else decide (c ∈ z.cps.toList))), S) := rfl
theorem sgn_enc (z : Str) : sgnS z = (z.cps.toList.map fun c => D.str ⟨#[c]⟩).map SV.fr := by
  unfold sgnS
  rw [List.map_map]
  rfl
theorem lenStr (z : Str) (S : Store) (h : z.length ≤ 16777216) : lenG [.fr (.str z)] S = .ok (.fr (.int z.length), S) := by
  unfold lenG lenS
  simp only [rdS, rdL]
  rw [if_pos (by rw [sizeLine_eq]; exact h)]
  rfl
theorem anyK_o (s : Str) : DL.anyK (.inr s) [.inr "process", .inr "open"] = ownW (.str s) := by
  unfold DL.anyK ownW
  simp only [List.any_cons, List.any_nil, Bool.or_false]
  rw [Bool.eq_iff_iff]
  simp only [Bool.or_eq_true, decide_eq_true_eq, Sum.inr.injEq]
  constructor
  · rintro (h | h)
    · exact .inl h.symm
    · exact .inr h.symm
  · rintro (h | h)
    · exact .inl h.symm
    · exact .inr h.symm
theorem inK_o (s : Str) (S : Store) : inKG "OWNER_WORDS" [.inr "process", .inr "open"] false (.fr (.str s)) (.fr (.cls "OWNER_WORDS")) S = .ok (.fr (.bl (ownW (.str s))), S) := by
  rw [← anyK_o]
  unfold inKG
  simp only [keyS, if_true]
  rfl
theorem in_o (s : Str) (hs : PyData.strOk s = true) (S : Store) : inG [] false (.fr (.str s)) (.fr (.lst [.str "process", .str "open"])) S = .ok (.fr (.bl (ownW (.str s))), S) := by
  have p1 : DL.plain (.str s) = true := fit_plain (by simpa only [fit] using hs)
  have p2 : DL.plain (.lst [.str "process", .str "open"]) = true := fit_plain (by simp only [fit, fits]; decide +kernel)
  unfold inG
  show inLG false _ _ S = _
  unfold inLG
  simp only [snap, p1, p2, Bool.and_self, if_true, List.any_cons, List.any_nil, Bool.or_false, okV, Bool.false_eq_true, if_false]
  congr 4
  unfold ownW
  have e : ∀ a b : Str, deq (.str a) (.str b) = decide (b = a) := fun a b => by
    simp only [deq, py, PyData.eqv]
    rw [Bool.eq_iff_iff]
    simp only [beq_iff_eq, decide_eq_true_eq]
    exact eq_comm
  rw [e, e]
section
variable {S : Store} (wf : WF S)
include wf
theorem whole_x {d : D} (h : isX d = true) : m_law_whole [.fr d] S = .ok (.val (.fr (.bl (isI d))), S) := by
  obtain ⟨e1, e2, _⟩ := isi_x h S
  cases d <;> first
    | (exfalso; revert h; simp [isX]; done)
    | (simp only [tInt, tBl, isI] at e1 e2 ⊢; simp only [r_bind, r_1, s_1, r_2, s_2, s_2b, r_v, s_v, r_c, r_n, r_a, s_a, s_ab, r_g, s_g, r_and, s_And, s_and1, s_and0, r_or, s_Or, s_or1, s_or0, r_not, s_Not, s_not, r_if, s_if1, s_if0, r_ch, s_ch, s_cha, s_chb1, s_chb0, s_chc, r_tB, s_tB, r_tV, s_tV, s_tv, r_tN, s_tN, r_tA, s_tA1, s_tA0, r_tO, s_tO1, s_tO0, r_tT, r_trB, r_trI, r_trN, r_call, s_call, s_noX, s_backV, s_backC, s_backF, s_frz, r_frz, r_all0, r_all1, r_fn1, r_fn2, r_fn3, r_fn4, r_fn5, s_lvR, s_lvN, r_nx, r_bk, r_ct, r_seq, s_seqN, s_seqR, s_seqB, s_seqC, r_ret, s_ret, r_retN, r_sif, s_sif1, s_sif0, r_ex, s_ex, r_set, s_set, r_par, s_par, r_as, s_as, s_gb, r_gNm, r_gNl, r_gCs, s_gCs, r_gTu2, r_gTu3, r_gTu4, r_gSb, s_sb, s_sb2, s_st, s_nxS, r_au, s_au, s_au0, s_au1, s_au2, s_au3, r_addI, r_for, s_for, s_body, s_turnN, s_turnC, s_turnB, s_turnR, r_r1, s_r1, r_r2, s_r2, r_sq, s_sqL, s_sqS, r_tp, s_tp, r_xT, r_xL, s_x, s_xd, at_0, at_1, at_2, at_3, at_4, r_add, r_sub, r_neg, r_mul, r_fdiv, r_mod, r_pow, r_cmp, r_is, r_eqI, r_abs, r_int, r_max, r_min, r_okV, r_snap, r_lenF, r_lenT, DL.isNon, List.replicate_succ, List.replicate_zero, List.set_cons_zero, List.set_cons_succ, List.getElem?_cons_zero, List.getElem?_cons_succ, Option.map_some, Nat.reduceSub, and_self, and_true, true_and, decide_true, decide_false, if_true, if_false, Bool.false_eq_true, Bool.not_true, Bool.not_false, r_ps, s_ps, r_pn, r_sl, s_sl, s_sl1, s_sl2, r_slL, r_slS, r_slT, r_lcT, s_l1, s_l2t, s_l2f, s_l3, r_lc, s_lc, s_noE, s_lceC, s_wr0, s_wr, r_nT, s_nT, r_nF, s_nF, r_nC, s_nC, s_sz0, s_sz1, Nat.reduceAdd, Nat.reduceMul, Nat.reduceLeDiff, last_x, at_m1, last_set, r_mt, s_mt, s_mtb, ty_last, r_fld', s_fld, r_meth0, s_meth0, r_meth, s_meth, s_methb, r_make, s_make, r_sf, s_sf, s_sfb, r_sort, s_sort, r_en, s_enL, r_zi, s_ziL, r_sst, r_mt0', r_gUl3, r_par3, s_par3, r_cmA, s_cmA, r_rev, s_revF, r_cw, s_cw, s_cw1, r_fill, r_isB, r_nTC, s_nTC, m_law_whole, b_law_whole, e1, e2, leave_val wf])
theorem span_all {d : D} (h : isX d = true) : m_is_span [.fr d] S = .ok (.val (.fr (.bl (spanB d))), S) := by
  obtain ⟨_, _, _, e1, _⟩ := isi_x h S
  have lv := leave_val wf (d := .bl false)
  have no : tTup d = false → spanB d = false → m_is_span [.fr d] S = .ok (.val (.fr (.bl (spanB d))), S) := fun h1 h2 => by
    rw [h1] at e1
    rw [h2]
    simp only [r_bind, r_1, s_1, r_2, s_2, s_2b, r_v, s_v, r_c, r_n, r_a, s_a, s_ab, r_g, s_g, r_and, s_And, s_and1, s_and0, r_or, s_Or, s_or1, s_or0, r_not, s_Not, s_not, r_if, s_if1, s_if0, r_ch, s_ch, s_cha, s_chb1, s_chb0, s_chc, r_tB, s_tB, r_tV, s_tV, s_tv, r_tN, s_tN, r_tA, s_tA1, s_tA0, r_tO, s_tO1, s_tO0, r_tT, r_trB, r_trI, r_trN, r_call, s_call, s_noX, s_backV, s_backC, s_backF, s_frz, r_frz, r_all0, r_all1, r_fn1, r_fn2, r_fn3, r_fn4, r_fn5, s_lvR, s_lvN, r_nx, r_bk, r_ct, r_seq, s_seqN, s_seqR, s_seqB, s_seqC, r_ret, s_ret, r_retN, r_sif, s_sif1, s_sif0, r_ex, s_ex, r_set, s_set, r_par, s_par, r_as, s_as, s_gb, r_gNm, r_gNl, r_gCs, s_gCs, r_gTu2, r_gTu3, r_gTu4, r_gSb, s_sb, s_sb2, s_st, s_nxS, r_au, s_au, s_au0, s_au1, s_au2, s_au3, r_addI, r_for, s_for, s_body, s_turnN, s_turnC, s_turnB, s_turnR, r_r1, s_r1, r_r2, s_r2, r_sq, s_sqL, s_sqS, r_tp, s_tp, r_xT, r_xL, s_x, s_xd, at_0, at_1, at_2, at_3, at_4, r_add, r_sub, r_neg, r_mul, r_fdiv, r_mod, r_pow, r_cmp, r_is, r_eqI, r_abs, r_int, r_max, r_min, r_okV, r_snap, r_lenF, r_lenT, DL.isNon, List.replicate_succ, List.replicate_zero, List.set_cons_zero, List.set_cons_succ, List.getElem?_cons_zero, List.getElem?_cons_succ, Option.map_some, Nat.reduceSub, and_self, and_true, true_and, decide_true, decide_false, if_true, if_false, Bool.false_eq_true, Bool.not_true, Bool.not_false, r_ps, s_ps, r_pn, r_sl, s_sl, s_sl1, s_sl2, r_slL, r_slS, r_slT, r_lcT, s_l1, s_l2t, s_l2f, s_l3, r_lc, s_lc, s_noE, s_lceC, s_wr0, s_wr, r_nT, s_nT, r_nF, s_nF, r_nC, s_nC, s_sz0, s_sz1, Nat.reduceAdd, Nat.reduceMul, Nat.reduceLeDiff, last_x, at_m1, last_set, r_mt, s_mt, s_mtb, ty_last, r_fld', s_fld, r_meth0, s_meth0, r_meth, s_meth, s_methb, r_make, s_make, r_sf, s_sf, s_sfb, r_sort, s_sort, r_en, s_enL, r_zi, s_ziL, r_sst, r_mt0', r_gUl3, r_par3, s_par3, r_cmA, s_cmA, r_rev, s_revF, r_cw, s_cw, s_cw1, r_fill, r_isB, r_nTC, s_nTC, m_is_span, b_is_span, e1, lv]
  cases d with
  | tup ds =>
    by_cases q : ds.length = 2
    · match ds, q with
      | [f, z], _ =>
        simp only [isX, isXs, Bool.and_eq_true] at h
        exact span_x wf h.1 h.2.1
    · have sh : spanB (.tup ds) = false := by
        match ds, q with
        | [], _ => rfl
        | [_], _ => rfl
        | [_, _], q => exact absurd rfl q
        | _ :: _ :: _ :: _, _ => rfl
      rw [sh]
      have e2 : lenG [.fr (.tup ds)] S = .ok (.fr (.int ds.length), S) := rfl
      have e4 : decide ((ds.length : Int) = 2) = false := decide_eq_false (by omega)
      simp only [tTup] at e1
      simp only [r_bind, r_1, s_1, r_2, s_2, s_2b, r_v, s_v, r_c, r_n, r_a, s_a, s_ab, r_g, s_g, r_and, s_And, s_and1, s_and0, r_or, s_Or, s_or1, s_or0, r_not, s_Not, s_not, r_if, s_if1, s_if0, r_ch, s_ch, s_cha, s_chb1, s_chb0, s_chc, r_tB, s_tB, r_tV, s_tV, s_tv, r_tN, s_tN, r_tA, s_tA1, s_tA0, r_tO, s_tO1, s_tO0, r_tT, r_trB, r_trI, r_trN, r_call, s_call, s_noX, s_backV, s_backC, s_backF, s_frz, r_frz, r_all0, r_all1, r_fn1, r_fn2, r_fn3, r_fn4, r_fn5, s_lvR, s_lvN, r_nx, r_bk, r_ct, r_seq, s_seqN, s_seqR, s_seqB, s_seqC, r_ret, s_ret, r_retN, r_sif, s_sif1, s_sif0, r_ex, s_ex, r_set, s_set, r_par, s_par, r_as, s_as, s_gb, r_gNm, r_gNl, r_gCs, s_gCs, r_gTu2, r_gTu3, r_gTu4, r_gSb, s_sb, s_sb2, s_st, s_nxS, r_au, s_au, s_au0, s_au1, s_au2, s_au3, r_addI, r_for, s_for, s_body, s_turnN, s_turnC, s_turnB, s_turnR, r_r1, s_r1, r_r2, s_r2, r_sq, s_sqL, s_sqS, r_tp, s_tp, r_xT, r_xL, s_x, s_xd, at_0, at_1, at_2, at_3, at_4, r_add, r_sub, r_neg, r_mul, r_fdiv, r_mod, r_pow, r_cmp, r_is, r_eqI, r_abs, r_int, r_max, r_min, r_okV, r_snap, r_lenF, r_lenT, DL.isNon, List.replicate_succ, List.replicate_zero, List.set_cons_zero, List.set_cons_succ, List.getElem?_cons_zero, List.getElem?_cons_succ, Option.map_some, Nat.reduceSub, and_self, and_true, true_and, decide_true, decide_false, if_true, if_false, Bool.false_eq_true, Bool.not_true, Bool.not_false, r_ps, s_ps, r_pn, r_sl, s_sl, s_sl1, s_sl2, r_slL, r_slS, r_slT, r_lcT, s_l1, s_l2t, s_l2f, s_l3, r_lc, s_lc, s_noE, s_lceC, s_wr0, s_wr, r_nT, s_nT, r_nF, s_nF, r_nC, s_nC, s_sz0, s_sz1, Nat.reduceAdd, Nat.reduceMul, Nat.reduceLeDiff, last_x, at_m1, last_set, r_mt, s_mt, s_mtb, ty_last, r_fld', s_fld, r_meth0, s_meth0, r_meth, s_meth, s_methb, r_make, s_make, r_sf, s_sf, s_sfb, r_sort, s_sort, r_en, s_enL, r_zi, s_ziL, r_sst, r_mt0', r_gUl3, r_par3, s_par3, r_cmA, s_cmA, r_rev, s_revF, r_cw, s_cw, s_cw1, r_fill, r_isB, r_nTC, s_nTC, m_is_span, b_is_span, e1, e2, e4, lv]
  | _ => exact no rfl rfl
theorem owner_all {d : D} (h : isX d = true) : m_is_owner [.fr d] S = .ok (.val (.fr (.bl (ownB d))), S) := by
  obtain ⟨_, _, _, e1, _⟩ := isi_x h S
  have lv := leave_val wf (d := .bl false)
  have no : tTup d = false → ownB d = false → m_is_owner [.fr d] S = .ok (.val (.fr (.bl (ownB d))), S) := fun h1 h2 => by
    rw [h1] at e1
    rw [h2]
    simp only [r_bind, r_1, s_1, r_2, s_2, s_2b, r_v, s_v, r_c, r_n, r_a, s_a, s_ab, r_g, s_g, r_and, s_And, s_and1, s_and0, r_or, s_Or, s_or1, s_or0, r_not, s_Not, s_not, r_if, s_if1, s_if0, r_ch, s_ch, s_cha, s_chb1, s_chb0, s_chc, r_tB, s_tB, r_tV, s_tV, s_tv, r_tN, s_tN, r_tA, s_tA1, s_tA0, r_tO, s_tO1, s_tO0, r_tT, r_trB, r_trI, r_trN, r_call, s_call, s_noX, s_backV, s_backC, s_backF, s_frz, r_frz, r_all0, r_all1, r_fn1, r_fn2, r_fn3, r_fn4, r_fn5, s_lvR, s_lvN, r_nx, r_bk, r_ct, r_seq, s_seqN, s_seqR, s_seqB, s_seqC, r_ret, s_ret, r_retN, r_sif, s_sif1, s_sif0, r_ex, s_ex, r_set, s_set, r_par, s_par, r_as, s_as, s_gb, r_gNm, r_gNl, r_gCs, s_gCs, r_gTu2, r_gTu3, r_gTu4, r_gSb, s_sb, s_sb2, s_st, s_nxS, r_au, s_au, s_au0, s_au1, s_au2, s_au3, r_addI, r_for, s_for, s_body, s_turnN, s_turnC, s_turnB, s_turnR, r_r1, s_r1, r_r2, s_r2, r_sq, s_sqL, s_sqS, r_tp, s_tp, r_xT, r_xL, s_x, s_xd, at_0, at_1, at_2, at_3, at_4, r_add, r_sub, r_neg, r_mul, r_fdiv, r_mod, r_pow, r_cmp, r_is, r_eqI, r_abs, r_int, r_max, r_min, r_okV, r_snap, r_lenF, r_lenT, DL.isNon, List.replicate_succ, List.replicate_zero, List.set_cons_zero, List.set_cons_succ, List.getElem?_cons_zero, List.getElem?_cons_succ, Option.map_some, Nat.reduceSub, and_self, and_true, true_and, decide_true, decide_false, if_true, if_false, Bool.false_eq_true, Bool.not_true, Bool.not_false, r_ps, s_ps, r_pn, r_sl, s_sl, s_sl1, s_sl2, r_slL, r_slS, r_slT, r_lcT, s_l1, s_l2t, s_l2f, s_l3, r_lc, s_lc, s_noE, s_lceC, s_wr0, s_wr, r_nT, s_nT, r_nF, s_nF, r_nC, s_nC, s_sz0, s_sz1, Nat.reduceAdd, Nat.reduceMul, Nat.reduceLeDiff, last_x, at_m1, last_set, r_mt, s_mt, s_mtb, ty_last, r_fld', s_fld, r_meth0, s_meth0, r_meth, s_meth, s_methb, r_make, s_make, r_sf, s_sf, s_sfb, r_sort, s_sort, r_en, s_enL, r_zi, s_ziL, r_sst, r_mt0', r_gUl3, r_par3, s_par3, r_cmA, s_cmA, r_rev, s_revF, r_cw, s_cw, s_cw1, r_fill, r_isB, r_nTC, s_nTC, m_is_owner, b_is_owner, e1, lv]
  cases d with
  | tup ds =>
    simp only [tTup] at e1
    have e2 : lenG [.fr (.tup ds)] S = .ok (.fr (.int ds.length), S) := rfl
    by_cases q : ds.length = 2
    · match ds, q, e1, e2 with
      | [w, n], _, e1, _ =>
        simp only [isX, isXs, Bool.and_eq_true] at h
        have e2 : lenG [.fr (.tup [w, n])] S = .ok (.fr (.int 2), S) := rfl
        obtain ⟨_, _, e3, _⟩ := isi_x h.1 S
        have e5 := byte_x wf h.2.1
        cases w with
        | str s =>
          simp only [tStr] at e3
          have i := inK_o s S
          simp only [ownB]
          cases hb : ownW (.str s) with
          | false =>
            rw [hb] at i
            simp only [r_bind, r_1, s_1, r_2, s_2, s_2b, r_v, s_v, r_c, r_n, r_a, s_a, s_ab, r_g, s_g, r_and, s_And, s_and1, s_and0, r_or, s_Or, s_or1, s_or0, r_not, s_Not, s_not, r_if, s_if1, s_if0, r_ch, s_ch, s_cha, s_chb1, s_chb0, s_chc, r_tB, s_tB, r_tV, s_tV, s_tv, r_tN, s_tN, r_tA, s_tA1, s_tA0, r_tO, s_tO1, s_tO0, r_tT, r_trB, r_trI, r_trN, r_call, s_call, s_noX, s_backV, s_backC, s_backF, s_frz, r_frz, r_all0, r_all1, r_fn1, r_fn2, r_fn3, r_fn4, r_fn5, s_lvR, s_lvN, r_nx, r_bk, r_ct, r_seq, s_seqN, s_seqR, s_seqB, s_seqC, r_ret, s_ret, r_retN, r_sif, s_sif1, s_sif0, r_ex, s_ex, r_set, s_set, r_par, s_par, r_as, s_as, s_gb, r_gNm, r_gNl, r_gCs, s_gCs, r_gTu2, r_gTu3, r_gTu4, r_gSb, s_sb, s_sb2, s_st, s_nxS, r_au, s_au, s_au0, s_au1, s_au2, s_au3, r_addI, r_for, s_for, s_body, s_turnN, s_turnC, s_turnB, s_turnR, r_r1, s_r1, r_r2, s_r2, r_sq, s_sqL, s_sqS, r_tp, s_tp, r_xT, r_xL, s_x, s_xd, at_0, at_1, at_2, at_3, at_4, r_add, r_sub, r_neg, r_mul, r_fdiv, r_mod, r_pow, r_cmp, r_is, r_eqI, r_abs, r_int, r_max, r_min, r_okV, r_snap, r_lenF, r_lenT, DL.isNon, List.replicate_succ, List.replicate_zero, List.set_cons_zero, List.set_cons_succ, List.getElem?_cons_zero, List.getElem?_cons_succ, Option.map_some, Nat.reduceSub, and_self, and_true, true_and, decide_true, decide_false, if_true, if_false, Bool.false_eq_true, Bool.not_true, Bool.not_false, r_ps, s_ps, r_pn, r_sl, s_sl, s_sl1, s_sl2, r_slL, r_slS, r_slT, r_lcT, s_l1, s_l2t, s_l2f, s_l3, r_lc, s_lc, s_noE, s_lceC, s_wr0, s_wr, r_nT, s_nT, r_nF, s_nF, r_nC, s_nC, s_sz0, s_sz1, Nat.reduceAdd, Nat.reduceMul, Nat.reduceLeDiff, last_x, at_m1, last_set, r_mt, s_mt, s_mtb, ty_last, r_fld', s_fld, r_meth0, s_meth0, r_meth, s_meth, s_methb, r_make, s_make, r_sf, s_sf, s_sfb, r_sort, s_sort, r_en, s_enL, r_zi, s_ziL, r_sst, r_mt0', r_gUl3, r_par3, s_par3, r_cmA, s_cmA, r_rev, s_revF, r_cw, s_cw, s_cw1, r_fill, r_isB, r_nTC, s_nTC, m_is_owner, b_is_owner, e1, e2, e3, i, Bool.false_and, leave_val wf]
          | true =>
            rw [hb] at i
            simp only [r_bind, r_1, s_1, r_2, s_2, s_2b, r_v, s_v, r_c, r_n, r_a, s_a, s_ab, r_g, s_g, r_and, s_And, s_and1, s_and0, r_or, s_Or, s_or1, s_or0, r_not, s_Not, s_not, r_if, s_if1, s_if0, r_ch, s_ch, s_cha, s_chb1, s_chb0, s_chc, r_tB, s_tB, r_tV, s_tV, s_tv, r_tN, s_tN, r_tA, s_tA1, s_tA0, r_tO, s_tO1, s_tO0, r_tT, r_trB, r_trI, r_trN, r_call, s_call, s_noX, s_backV, s_backC, s_backF, s_frz, r_frz, r_all0, r_all1, r_fn1, r_fn2, r_fn3, r_fn4, r_fn5, s_lvR, s_lvN, r_nx, r_bk, r_ct, r_seq, s_seqN, s_seqR, s_seqB, s_seqC, r_ret, s_ret, r_retN, r_sif, s_sif1, s_sif0, r_ex, s_ex, r_set, s_set, r_par, s_par, r_as, s_as, s_gb, r_gNm, r_gNl, r_gCs, s_gCs, r_gTu2, r_gTu3, r_gTu4, r_gSb, s_sb, s_sb2, s_st, s_nxS, r_au, s_au, s_au0, s_au1, s_au2, s_au3, r_addI, r_for, s_for, s_body, s_turnN, s_turnC, s_turnB, s_turnR, r_r1, s_r1, r_r2, s_r2, r_sq, s_sqL, s_sqS, r_tp, s_tp, r_xT, r_xL, s_x, s_xd, at_0, at_1, at_2, at_3, at_4, r_add, r_sub, r_neg, r_mul, r_fdiv, r_mod, r_pow, r_cmp, r_is, r_eqI, r_abs, r_int, r_max, r_min, r_okV, r_snap, r_lenF, r_lenT, DL.isNon, List.replicate_succ, List.replicate_zero, List.set_cons_zero, List.set_cons_succ, List.getElem?_cons_zero, List.getElem?_cons_succ, Option.map_some, Nat.reduceSub, and_self, and_true, true_and, decide_true, decide_false, if_true, if_false, Bool.false_eq_true, Bool.not_true, Bool.not_false, r_ps, s_ps, r_pn, r_sl, s_sl, s_sl1, s_sl2, r_slL, r_slS, r_slT, r_lcT, s_l1, s_l2t, s_l2f, s_l3, r_lc, s_lc, s_noE, s_lceC, s_wr0, s_wr, r_nT, s_nT, r_nF, s_nF, r_nC, s_nC, s_sz0, s_sz1, Nat.reduceAdd, Nat.reduceMul, Nat.reduceLeDiff, last_x, at_m1, last_set, r_mt, s_mt, s_mtb, ty_last, r_fld', s_fld, r_meth0, s_meth0, r_meth, s_meth, s_methb, r_make, s_make, r_sf, s_sf, s_sfb, r_sort, s_sort, r_en, s_enL, r_zi, s_ziL, r_sst, r_mt0', r_gUl3, r_par3, s_par3, r_cmA, s_cmA, r_rev, s_revF, r_cw, s_cw, s_cw1, r_fill, r_isB, r_nTC, s_nTC, m_is_owner, b_is_owner, e1, e2, e3, i, e5, Bool.true_and, leave_val wf]
        | _ => first
          | (exfalso; have h1 := h.1; revert h1; simp [isX]; done)
          | (simp only [tStr] at e3; simp only [ownB, ownW]; simp only [r_bind, r_1, s_1, r_2, s_2, s_2b, r_v, s_v, r_c, r_n, r_a, s_a, s_ab, r_g, s_g, r_and, s_And, s_and1, s_and0, r_or, s_Or, s_or1, s_or0, r_not, s_Not, s_not, r_if, s_if1, s_if0, r_ch, s_ch, s_cha, s_chb1, s_chb0, s_chc, r_tB, s_tB, r_tV, s_tV, s_tv, r_tN, s_tN, r_tA, s_tA1, s_tA0, r_tO, s_tO1, s_tO0, r_tT, r_trB, r_trI, r_trN, r_call, s_call, s_noX, s_backV, s_backC, s_backF, s_frz, r_frz, r_all0, r_all1, r_fn1, r_fn2, r_fn3, r_fn4, r_fn5, s_lvR, s_lvN, r_nx, r_bk, r_ct, r_seq, s_seqN, s_seqR, s_seqB, s_seqC, r_ret, s_ret, r_retN, r_sif, s_sif1, s_sif0, r_ex, s_ex, r_set, s_set, r_par, s_par, r_as, s_as, s_gb, r_gNm, r_gNl, r_gCs, s_gCs, r_gTu2, r_gTu3, r_gTu4, r_gSb, s_sb, s_sb2, s_st, s_nxS, r_au, s_au, s_au0, s_au1, s_au2, s_au3, r_addI, r_for, s_for, s_body, s_turnN, s_turnC, s_turnB, s_turnR, r_r1, s_r1, r_r2, s_r2, r_sq, s_sqL, s_sqS, r_tp, s_tp, r_xT, r_xL, s_x, s_xd, at_0, at_1, at_2, at_3, at_4, r_add, r_sub, r_neg, r_mul, r_fdiv, r_mod, r_pow, r_cmp, r_is, r_eqI, r_abs, r_int, r_max, r_min, r_okV, r_snap, r_lenF, r_lenT, DL.isNon, List.replicate_succ, List.replicate_zero, List.set_cons_zero, List.set_cons_succ, List.getElem?_cons_zero, List.getElem?_cons_succ, Option.map_some, Nat.reduceSub, and_self, and_true, true_and, decide_true, decide_false, if_true, if_false, Bool.false_eq_true, Bool.not_true, Bool.not_false, r_ps, s_ps, r_pn, r_sl, s_sl, s_sl1, s_sl2, r_slL, r_slS, r_slT, r_lcT, s_l1, s_l2t, s_l2f, s_l3, r_lc, s_lc, s_noE, s_lceC, s_wr0, s_wr, r_nT, s_nT, r_nF, s_nF, r_nC, s_nC, s_sz0, s_sz1, Nat.reduceAdd, Nat.reduceMul, Nat.reduceLeDiff, last_x, at_m1, last_set, r_mt, s_mt, s_mtb, ty_last, r_fld', s_fld, r_meth0, s_meth0, r_meth, s_meth, s_methb, r_make, s_make, r_sf, s_sf, s_sfb, r_sort, s_sort, r_en, s_enL, r_zi, s_ziL, r_sst, r_mt0', r_gUl3, r_par3, s_par3, r_cmA, s_cmA, r_rev, s_revF, r_cw, s_cw, s_cw1, r_fill, r_isB, r_nTC, s_nTC, m_is_owner, b_is_owner, e1, e2, e3, Bool.false_and, leave_val wf])
    · have sh : ownB (.tup ds) = false := by
        match ds, q with
        | [], _ => rfl
        | [_], _ => rfl
        | [_, _], q => exact absurd rfl q
        | _ :: _ :: _ :: _, _ => rfl
      rw [sh]
      have e4 : decide ((ds.length : Int) = 2) = false := decide_eq_false (by omega)
      simp only [r_bind, r_1, s_1, r_2, s_2, s_2b, r_v, s_v, r_c, r_n, r_a, s_a, s_ab, r_g, s_g, r_and, s_And, s_and1, s_and0, r_or, s_Or, s_or1, s_or0, r_not, s_Not, s_not, r_if, s_if1, s_if0, r_ch, s_ch, s_cha, s_chb1, s_chb0, s_chc, r_tB, s_tB, r_tV, s_tV, s_tv, r_tN, s_tN, r_tA, s_tA1, s_tA0, r_tO, s_tO1, s_tO0, r_tT, r_trB, r_trI, r_trN, r_call, s_call, s_noX, s_backV, s_backC, s_backF, s_frz, r_frz, r_all0, r_all1, r_fn1, r_fn2, r_fn3, r_fn4, r_fn5, s_lvR, s_lvN, r_nx, r_bk, r_ct, r_seq, s_seqN, s_seqR, s_seqB, s_seqC, r_ret, s_ret, r_retN, r_sif, s_sif1, s_sif0, r_ex, s_ex, r_set, s_set, r_par, s_par, r_as, s_as, s_gb, r_gNm, r_gNl, r_gCs, s_gCs, r_gTu2, r_gTu3, r_gTu4, r_gSb, s_sb, s_sb2, s_st, s_nxS, r_au, s_au, s_au0, s_au1, s_au2, s_au3, r_addI, r_for, s_for, s_body, s_turnN, s_turnC, s_turnB, s_turnR, r_r1, s_r1, r_r2, s_r2, r_sq, s_sqL, s_sqS, r_tp, s_tp, r_xT, r_xL, s_x, s_xd, at_0, at_1, at_2, at_3, at_4, r_add, r_sub, r_neg, r_mul, r_fdiv, r_mod, r_pow, r_cmp, r_is, r_eqI, r_abs, r_int, r_max, r_min, r_okV, r_snap, r_lenF, r_lenT, DL.isNon, List.replicate_succ, List.replicate_zero, List.set_cons_zero, List.set_cons_succ, List.getElem?_cons_zero, List.getElem?_cons_succ, Option.map_some, Nat.reduceSub, and_self, and_true, true_and, decide_true, decide_false, if_true, if_false, Bool.false_eq_true, Bool.not_true, Bool.not_false, r_ps, s_ps, r_pn, r_sl, s_sl, s_sl1, s_sl2, r_slL, r_slS, r_slT, r_lcT, s_l1, s_l2t, s_l2f, s_l3, r_lc, s_lc, s_noE, s_lceC, s_wr0, s_wr, r_nT, s_nT, r_nF, s_nF, r_nC, s_nC, s_sz0, s_sz1, Nat.reduceAdd, Nat.reduceMul, Nat.reduceLeDiff, last_x, at_m1, last_set, r_mt, s_mt, s_mtb, ty_last, r_fld', s_fld, r_meth0, s_meth0, r_meth, s_meth, s_methb, r_make, s_make, r_sf, s_sf, s_sfb, r_sort, s_sort, r_en, s_enL, r_zi, s_ziL, r_sst, r_mt0', r_gUl3, r_par3, s_par3, r_cmA, s_cmA, r_rev, s_revF, r_cw, s_cw, s_cw1, r_fill, r_isB, r_nTC, s_nTC, m_is_owner, b_is_owner, e1, e2, e4, lv]
  | _ => exact no rfl rfl
theorem name_all {d : D} (h : isX d = true) (hl : ∀ s, d = .str s → s.length ≤ 1000) : m_is_name [.fr d] S = .ok (.val (.fr (.bl (nameB d))), S) := by
  obtain ⟨_, _, e1, _⟩ := isi_x h S
  have lv := leave_val wf (d := .bl false)
  have no : tStr d = false → nameB d = false → m_is_name [.fr d] S = .ok (.val (.fr (.bl (nameB d))), S) := fun h1 h2 => by
    rw [h1] at e1
    rw [h2]
    simp only [r_bind, r_1, s_1, r_2, s_2, s_2b, r_v, s_v, r_c, r_n, r_a, s_a, s_ab, r_g, s_g, r_and, s_And, s_and1, s_and0, r_or, s_Or, s_or1, s_or0, r_not, s_Not, s_not, r_if, s_if1, s_if0, r_ch, s_ch, s_cha, s_chb1, s_chb0, s_chc, r_tB, s_tB, r_tV, s_tV, s_tv, r_tN, s_tN, r_tA, s_tA1, s_tA0, r_tO, s_tO1, s_tO0, r_tT, r_trB, r_trI, r_trN, r_call, s_call, s_noX, s_backV, s_backC, s_backF, s_frz, r_frz, r_all0, r_all1, r_fn1, r_fn2, r_fn3, r_fn4, r_fn5, s_lvR, s_lvN, r_nx, r_bk, r_ct, r_seq, s_seqN, s_seqR, s_seqB, s_seqC, r_ret, s_ret, r_retN, r_sif, s_sif1, s_sif0, r_ex, s_ex, r_set, s_set, r_par, s_par, r_as, s_as, s_gb, r_gNm, r_gNl, r_gCs, s_gCs, r_gTu2, r_gTu3, r_gTu4, r_gSb, s_sb, s_sb2, s_st, s_nxS, r_au, s_au, s_au0, s_au1, s_au2, s_au3, r_addI, r_for, s_for, s_body, s_turnN, s_turnC, s_turnB, s_turnR, r_r1, s_r1, r_r2, s_r2, r_sq, s_sqL, s_sqS, r_tp, s_tp, r_xT, r_xL, s_x, s_xd, at_0, at_1, at_2, at_3, at_4, r_add, r_sub, r_neg, r_mul, r_fdiv, r_mod, r_pow, r_cmp, r_is, r_eqI, r_abs, r_int, r_max, r_min, r_okV, r_snap, r_lenF, r_lenT, DL.isNon, List.replicate_succ, List.replicate_zero, List.set_cons_zero, List.set_cons_succ, List.getElem?_cons_zero, List.getElem?_cons_succ, Option.map_some, Nat.reduceSub, and_self, and_true, true_and, decide_true, decide_false, if_true, if_false, Bool.false_eq_true, Bool.not_true, Bool.not_false, r_ps, s_ps, r_pn, r_sl, s_sl, s_sl1, s_sl2, r_slL, r_slS, r_slT, r_lcT, s_l1, s_l2t, s_l2f, s_l3, r_lc, s_lc, s_noE, s_lceC, s_wr0, s_wr, r_nT, s_nT, r_nF, s_nF, r_nC, s_nC, s_sz0, s_sz1, Nat.reduceAdd, Nat.reduceMul, Nat.reduceLeDiff, last_x, at_m1, last_set, r_mt, s_mt, s_mtb, ty_last, r_fld', s_fld, r_meth0, s_meth0, r_meth, s_meth, s_methb, r_make, s_make, r_sf, s_sf, s_sfb, r_sort, s_sort, r_en, s_enL, r_zi, s_ziL, r_sst, r_mt0', r_gUl3, r_par3, s_par3, r_cmA, s_cmA, r_rev, s_revF, r_cw, s_cw, s_cw1, r_fill, r_isB, r_nTC, s_nTC, m_is_name, b_is_name, e1, lv]
  cases d with
  | str s =>
    have l1 := hl s rfl
    simp only [tStr] at e1
    have ln := lenStr s S (by omega)
    simp only [nameB, nameS]
    have zl : s.cps.toList.length = s.length := Array.length_toList
    have cm : lcM (fun _ => True) (gNm 2) tTr (DL.e2 (inSgG false) (eV 2) (eC (.str "abcdefghijklmnopqrstuvwxyz"))) [1, 2] [some (.fr (.str s)), none, none] (sgnS s) S [] = .ok ((((s.cps.toList.map fun c => decide (c ∈ ltrs.cps.toList))).map D.bl).map SV.fr, S) := by
      rw [sgn_enc, lc_gen (fun c : Nat => D.str ⟨#[c]⟩) (fun c : Nat => D.bl (decide (c ∈ ltrs.cps.toList))) s.cps.toList (by omega) fun c _ ds => by
        have i := inSg false c ltrs (S ++ [.lst (ds.map SV.fr)])
        simp only [r_bind, r_1, s_1, r_2, s_2, s_2b, r_v, s_v, r_c, r_n, r_a, s_a, s_ab, r_g, s_g, r_and, s_And, s_and1, s_and0, r_or, s_Or, s_or1, s_or0, r_not, s_Not, s_not, r_if, s_if1, s_if0, r_ch, s_ch, s_cha, s_chb1, s_chb0, s_chc, r_tB, s_tB, r_tV, s_tV, s_tv, r_tN, s_tN, r_tA, s_tA1, s_tA0, r_tO, s_tO1, s_tO0, r_tT, r_trB, r_trI, r_trN, r_call, s_call, s_noX, s_backV, s_backC, s_backF, s_frz, r_frz, r_all0, r_all1, r_fn1, r_fn2, r_fn3, r_fn4, r_fn5, s_lvR, s_lvN, r_nx, r_bk, r_ct, r_seq, s_seqN, s_seqR, s_seqB, s_seqC, r_ret, s_ret, r_retN, r_sif, s_sif1, s_sif0, r_ex, s_ex, r_set, s_set, r_par, s_par, r_as, s_as, s_gb, r_gNm, r_gNl, r_gCs, s_gCs, r_gTu2, r_gTu3, r_gTu4, r_gSb, s_sb, s_sb2, s_st, s_nxS, r_au, s_au, s_au0, s_au1, s_au2, s_au3, r_addI, r_for, s_for, s_body, s_turnN, s_turnC, s_turnB, s_turnR, r_r1, s_r1, r_r2, s_r2, r_sq, s_sqL, s_sqS, r_tp, s_tp, r_xT, r_xL, s_x, s_xd, at_0, at_1, at_2, at_3, at_4, r_add, r_sub, r_neg, r_mul, r_fdiv, r_mod, r_pow, r_cmp, r_is, r_eqI, r_abs, r_int, r_max, r_min, r_okV, r_snap, r_lenF, r_lenT, DL.isNon, List.replicate_succ, List.replicate_zero, List.set_cons_zero, List.set_cons_succ, List.getElem?_cons_zero, List.getElem?_cons_succ, Option.map_some, Nat.reduceSub, and_self, and_true, true_and, decide_true, decide_false, if_true, if_false, Bool.false_eq_true, Bool.not_true, Bool.not_false, r_ps, s_ps, r_pn, r_sl, s_sl, s_sl1, s_sl2, r_slL, r_slS, r_slT, r_lcT, s_l1, s_l2t, s_l2f, s_l3, r_lc, s_lc, s_noE, s_lceC, s_wr0, s_wr, r_nT, s_nT, r_nF, s_nF, r_nC, s_nC, s_sz0, s_sz1, Nat.reduceAdd, Nat.reduceMul, Nat.reduceLeDiff, last_x, at_m1, last_set, r_mt, s_mt, s_mtb, ty_last, r_fld', s_fld, r_meth0, s_meth0, r_meth, s_meth, s_methb, r_make, s_make, r_sf, s_sf, s_sfb, r_sort, s_sort, r_en, s_enL, r_zi, s_ziL, r_sst, r_mt0', r_gUl3, r_par3, s_par3, r_cmA, s_cmA, r_rev, s_revF, r_cw, s_cw, s_cw1, r_fill, r_isB, r_nTC, s_nTC, i]]
      simp only [List.map_map]
      rfl
    have al : ((s.cps.toList.map fun c => decide (c ∈ ltrs.cps.toList)).all id) = s.cps.toList.all fun c => decide (c ∈ ltrs.cps.toList) := by
      rw [List.all_map]
      rfl
    by_cases q1 : (1 : Int) ≤ s.length
    · by_cases q2 : (s.length : Int) ≤ 8
      · rw [decide_eq_true q1, decide_eq_true q2, Bool.and_self, Bool.true_and]
        simp only [r_bind, r_1, s_1, r_2, s_2, s_2b, r_v, s_v, r_c, r_n, r_a, s_a, s_ab, r_g, s_g, r_and, s_And, s_and1, s_and0, r_or, s_Or, s_or1, s_or0, r_not, s_Not, s_not, r_if, s_if1, s_if0, r_ch, s_ch, s_cha, s_chb1, s_chb0, s_chc, r_tB, s_tB, r_tV, s_tV, s_tv, r_tN, s_tN, r_tA, s_tA1, s_tA0, r_tO, s_tO1, s_tO0, r_tT, r_trB, r_trI, r_trN, r_call, s_call, s_noX, s_backV, s_backC, s_backF, s_frz, r_frz, r_all0, r_all1, r_fn1, r_fn2, r_fn3, r_fn4, r_fn5, s_lvR, s_lvN, r_nx, r_bk, r_ct, r_seq, s_seqN, s_seqR, s_seqB, s_seqC, r_ret, s_ret, r_retN, r_sif, s_sif1, s_sif0, r_ex, s_ex, r_set, s_set, r_par, s_par, r_as, s_as, s_gb, r_gNm, r_gNl, r_gCs, s_gCs, r_gTu2, r_gTu3, r_gTu4, r_gSb, s_sb, s_sb2, s_st, s_nxS, r_au, s_au, s_au0, s_au1, s_au2, s_au3, r_addI, r_for, s_for, s_body, s_turnN, s_turnC, s_turnB, s_turnR, r_r1, s_r1, r_r2, s_r2, r_sq, s_sqL, s_sqS, r_tp, s_tp, r_xT, r_xL, s_x, s_xd, at_0, at_1, at_2, at_3, at_4, r_add, r_sub, r_neg, r_mul, r_fdiv, r_mod, r_pow, r_cmp, r_is, r_eqI, r_abs, r_int, r_max, r_min, r_okV, r_snap, r_lenF, r_lenT, DL.isNon, List.replicate_succ, List.replicate_zero, List.set_cons_zero, List.set_cons_succ, List.getElem?_cons_zero, List.getElem?_cons_succ, Option.map_some, Nat.reduceSub, and_self, and_true, true_and, decide_true, decide_false, if_true, if_false, Bool.false_eq_true, Bool.not_true, Bool.not_false, r_ps, s_ps, r_pn, r_sl, s_sl, s_sl1, s_sl2, r_slL, r_slS, r_slT, r_lcT, s_l1, s_l2t, s_l2f, s_l3, r_lc, s_lc, s_noE, s_lceC, s_wr0, s_wr, r_nT, s_nT, r_nF, s_nF, r_nC, s_nC, s_sz0, s_sz1, Nat.reduceAdd, Nat.reduceMul, Nat.reduceLeDiff, last_x, at_m1, last_set, r_mt, s_mt, s_mtb, ty_last, r_fld', s_fld, r_meth0, s_meth0, r_meth, s_meth, s_methb, r_make, s_make, r_sf, s_sf, s_sfb, r_sort, s_sort, r_en, s_enL, r_zi, s_ziL, r_sst, r_mt0', r_gUl3, r_par3, s_par3, r_cmA, s_cmA, r_rev, s_revF, r_cw, s_cw, s_cw1, r_fill, r_isB, r_nTC, s_nTC, m_is_name, b_is_name, e1, ln, decide_eq_true q1, decide_eq_true q2, r_sg, s_sg, cm, s_lceF wf, all_bls, al, leave_val wf]
      · rw [decide_eq_false q2, Bool.and_false, Bool.false_and]
        simp only [r_bind, r_1, s_1, r_2, s_2, s_2b, r_v, s_v, r_c, r_n, r_a, s_a, s_ab, r_g, s_g, r_and, s_And, s_and1, s_and0, r_or, s_Or, s_or1, s_or0, r_not, s_Not, s_not, r_if, s_if1, s_if0, r_ch, s_ch, s_cha, s_chb1, s_chb0, s_chc, r_tB, s_tB, r_tV, s_tV, s_tv, r_tN, s_tN, r_tA, s_tA1, s_tA0, r_tO, s_tO1, s_tO0, r_tT, r_trB, r_trI, r_trN, r_call, s_call, s_noX, s_backV, s_backC, s_backF, s_frz, r_frz, r_all0, r_all1, r_fn1, r_fn2, r_fn3, r_fn4, r_fn5, s_lvR, s_lvN, r_nx, r_bk, r_ct, r_seq, s_seqN, s_seqR, s_seqB, s_seqC, r_ret, s_ret, r_retN, r_sif, s_sif1, s_sif0, r_ex, s_ex, r_set, s_set, r_par, s_par, r_as, s_as, s_gb, r_gNm, r_gNl, r_gCs, s_gCs, r_gTu2, r_gTu3, r_gTu4, r_gSb, s_sb, s_sb2, s_st, s_nxS, r_au, s_au, s_au0, s_au1, s_au2, s_au3, r_addI, r_for, s_for, s_body, s_turnN, s_turnC, s_turnB, s_turnR, r_r1, s_r1, r_r2, s_r2, r_sq, s_sqL, s_sqS, r_tp, s_tp, r_xT, r_xL, s_x, s_xd, at_0, at_1, at_2, at_3, at_4, r_add, r_sub, r_neg, r_mul, r_fdiv, r_mod, r_pow, r_cmp, r_is, r_eqI, r_abs, r_int, r_max, r_min, r_okV, r_snap, r_lenF, r_lenT, DL.isNon, List.replicate_succ, List.replicate_zero, List.set_cons_zero, List.set_cons_succ, List.getElem?_cons_zero, List.getElem?_cons_succ, Option.map_some, Nat.reduceSub, and_self, and_true, true_and, decide_true, decide_false, if_true, if_false, Bool.false_eq_true, Bool.not_true, Bool.not_false, r_ps, s_ps, r_pn, r_sl, s_sl, s_sl1, s_sl2, r_slL, r_slS, r_slT, r_lcT, s_l1, s_l2t, s_l2f, s_l3, r_lc, s_lc, s_noE, s_lceC, s_wr0, s_wr, r_nT, s_nT, r_nF, s_nF, r_nC, s_nC, s_sz0, s_sz1, Nat.reduceAdd, Nat.reduceMul, Nat.reduceLeDiff, last_x, at_m1, last_set, r_mt, s_mt, s_mtb, ty_last, r_fld', s_fld, r_meth0, s_meth0, r_meth, s_meth, s_methb, r_make, s_make, r_sf, s_sf, s_sfb, r_sort, s_sort, r_en, s_enL, r_zi, s_ziL, r_sst, r_mt0', r_gUl3, r_par3, s_par3, r_cmA, s_cmA, r_rev, s_revF, r_cw, s_cw, s_cw1, r_fill, r_isB, r_nTC, s_nTC, m_is_name, b_is_name, e1, ln, decide_eq_true q1, decide_eq_false q2, lv]
    · rw [decide_eq_false q1, Bool.false_and, Bool.false_and]
      simp only [r_bind, r_1, s_1, r_2, s_2, s_2b, r_v, s_v, r_c, r_n, r_a, s_a, s_ab, r_g, s_g, r_and, s_And, s_and1, s_and0, r_or, s_Or, s_or1, s_or0, r_not, s_Not, s_not, r_if, s_if1, s_if0, r_ch, s_ch, s_cha, s_chb1, s_chb0, s_chc, r_tB, s_tB, r_tV, s_tV, s_tv, r_tN, s_tN, r_tA, s_tA1, s_tA0, r_tO, s_tO1, s_tO0, r_tT, r_trB, r_trI, r_trN, r_call, s_call, s_noX, s_backV, s_backC, s_backF, s_frz, r_frz, r_all0, r_all1, r_fn1, r_fn2, r_fn3, r_fn4, r_fn5, s_lvR, s_lvN, r_nx, r_bk, r_ct, r_seq, s_seqN, s_seqR, s_seqB, s_seqC, r_ret, s_ret, r_retN, r_sif, s_sif1, s_sif0, r_ex, s_ex, r_set, s_set, r_par, s_par, r_as, s_as, s_gb, r_gNm, r_gNl, r_gCs, s_gCs, r_gTu2, r_gTu3, r_gTu4, r_gSb, s_sb, s_sb2, s_st, s_nxS, r_au, s_au, s_au0, s_au1, s_au2, s_au3, r_addI, r_for, s_for, s_body, s_turnN, s_turnC, s_turnB, s_turnR, r_r1, s_r1, r_r2, s_r2, r_sq, s_sqL, s_sqS, r_tp, s_tp, r_xT, r_xL, s_x, s_xd, at_0, at_1, at_2, at_3, at_4, r_add, r_sub, r_neg, r_mul, r_fdiv, r_mod, r_pow, r_cmp, r_is, r_eqI, r_abs, r_int, r_max, r_min, r_okV, r_snap, r_lenF, r_lenT, DL.isNon, List.replicate_succ, List.replicate_zero, List.set_cons_zero, List.set_cons_succ, List.getElem?_cons_zero, List.getElem?_cons_succ, Option.map_some, Nat.reduceSub, and_self, and_true, true_and, decide_true, decide_false, if_true, if_false, Bool.false_eq_true, Bool.not_true, Bool.not_false, r_ps, s_ps, r_pn, r_sl, s_sl, s_sl1, s_sl2, r_slL, r_slS, r_slT, r_lcT, s_l1, s_l2t, s_l2f, s_l3, r_lc, s_lc, s_noE, s_lceC, s_wr0, s_wr, r_nT, s_nT, r_nF, s_nF, r_nC, s_nC, s_sz0, s_sz1, Nat.reduceAdd, Nat.reduceMul, Nat.reduceLeDiff, last_x, at_m1, last_set, r_mt, s_mt, s_mtb, ty_last, r_fld', s_fld, r_meth0, s_meth0, r_meth, s_meth, s_methb, r_make, s_make, r_sf, s_sf, s_sfb, r_sort, s_sort, r_en, s_enL, r_zi, s_ziL, r_sst, r_mt0', r_gUl3, r_par3, s_par3, r_cmA, s_cmA, r_rev, s_revF, r_cw, s_cw, s_cw1, r_fill, r_isB, r_nTC, s_nTC, m_is_name, b_is_name, e1, ln, decide_eq_false q1, lv]
  | _ => exact no rfl rfl
/-! what is due -/
abbrev dueL (d : D) : List Bool := [isI d, byteB d, spanB d, levB d, nameB d, ownB d]
theorem due_lv (b1 b2 b3 b4 b5 b6 : Bool) : leave S.length (.cell S.length) (S ++ [.lst [.fr (.bl b1), .fr (.bl b2), .fr (.bl b3), .fr (.bl b4), .fr (.bl b5), .fr (.bl b6)]]) = .ok (.new (.lst [.fr (.bl b1), .fr (.bl b2), .fr (.bl b3), .fr (.bl b4), .fr (.bl b5), .fr (.bl b6)]), S) :=
  leave_new (S := S) (c := .lst [.fr (.bl b1), .fr (.bl b2), .fr (.bl b3), .fr (.bl b4), .fr (.bl b5), .fr (.bl b6)]) wf rfl
theorem due_tup2 {f z : D} (hf : isX f = true) (hz : isX z = true) (hs : ∀ s, f = .str s → PyData.strOk s = true) : m_law_due [.fr (.tup [f, z])] S =
    .ok (.new (.lst [.fr (.bl false), .fr (.bl false), .fr (.bl (spanB (.tup [f, z]))), .fr (.bl false), .fr (.bl false), .fr (.bl (ownB (.tup [f, z])))]), S) := by
  have w0 := whole_x wf (d := .tup [f, z]) (by simp only [isX, isXs, hf, hz, Bool.and_self])
  have w1 := whole_x wf hf
  have w2 := whole_x wf hz
  obtain ⟨_, _, s1, _⟩ := isi_x hf S
  have t1 : isiG [.fr (.tup [f, z]), .fr (.ty "tuple")] S = .ok (.fr (.bl true), S) := rfl
  have t2 : isiG [.fr (.tup [f, z]), .fr (.ty "str")] S = .ok (.fr (.bl false), S) := rfl
  have l1 : lenG [.fr (.tup [f, z])] S = .ok (.fr (.int 2), S) := rfl
  have lv := due_lv wf
  simp only [isI] at w0
  cases f with
  | str s =>
    have io := in_o s (hs s rfl) S
    simp only [tStr, isI] at s1 w1
    have e3 : spanB (.tup [.str s, z]) = false := rfl
    have e5 : ownB (.tup [.str s, z]) = (ownW (.str s) && byteB z) := rfl
    rw [e3, e5]
    cases hb : ownW (.str s) with
    | false =>
      rw [hb] at io
      rw [Bool.false_and]
      simp only [r_bind, r_1, s_1, r_2, s_2, s_2b, r_v, s_v, r_c, r_n, r_a, s_a, s_ab, r_g, s_g, r_and, s_And, s_and1, s_and0, r_or, s_Or, s_or1, s_or0, r_not, s_Not, s_not, r_if, s_if1, s_if0, r_ch, s_ch, s_cha, s_chb1, s_chb0, s_chc, r_tB, s_tB, r_tV, s_tV, s_tv, r_tN, s_tN, r_tA, s_tA1, s_tA0, r_tO, s_tO1, s_tO0, r_tT, r_trB, r_trI, r_trN, r_call, s_call, s_noX, s_backV, s_backC, s_backF, s_frz, r_frz, r_all0, r_all1, r_fn1, r_fn2, r_fn3, r_fn4, r_fn5, s_lvR, s_lvN, r_nx, r_bk, r_ct, r_seq, s_seqN, s_seqR, s_seqB, s_seqC, r_ret, s_ret, r_retN, r_sif, s_sif1, s_sif0, r_ex, s_ex, r_set, s_set, r_par, s_par, r_as, s_as, s_gb, r_gNm, r_gNl, r_gCs, s_gCs, r_gTu2, r_gTu3, r_gTu4, r_gSb, s_sb, s_sb2, s_st, s_nxS, r_au, s_au, s_au0, s_au1, s_au2, s_au3, r_addI, r_for, s_for, s_body, s_turnN, s_turnC, s_turnB, s_turnR, r_r1, s_r1, r_r2, s_r2, r_sq, s_sqL, s_sqS, r_tp, s_tp, r_xT, r_xL, s_x, s_xd, at_0, at_1, at_2, at_3, at_4, r_add, r_sub, r_neg, r_mul, r_fdiv, r_mod, r_pow, r_cmp, r_is, r_eqI, r_abs, r_int, r_max, r_min, r_okV, r_snap, r_lenF, r_lenT, DL.isNon, List.replicate_succ, List.replicate_zero, List.set_cons_zero, List.set_cons_succ, List.getElem?_cons_zero, List.getElem?_cons_succ, Option.map_some, Nat.reduceSub, and_self, and_true, true_and, decide_true, decide_false, if_true, if_false, Bool.false_eq_true, Bool.not_true, Bool.not_false, r_ps, s_ps, r_pn, r_sl, s_sl, s_sl1, s_sl2, r_slL, r_slS, r_slT, r_lcT, s_l1, s_l2t, s_l2f, s_l3, r_lc, s_lc, s_noE, s_lceC, s_wr0, s_wr, r_nT, s_nT, r_nF, s_nF, r_nC, s_nC, s_sz0, s_sz1, Nat.reduceAdd, Nat.reduceMul, Nat.reduceLeDiff, last_x, at_m1, last_set, r_mt, s_mt, s_mtb, ty_last, r_fld', s_fld, r_meth0, s_meth0, r_meth, s_meth, s_methb, r_make, s_make, r_sf, s_sf, s_sfb, r_sort, s_sort, r_en, s_enL, r_zi, s_ziL, r_sst, r_mt0', r_gUl3, r_par3, s_par3, r_cmA, s_cmA, r_rev, s_revF, r_cw, s_cw, s_cw1, r_fill, r_isB, r_nTC, s_nTC, m_law_due, b_law_due, w0, w1, s1, t1, t2, l1, io, lv]
    | true =>
      rw [hb] at io
      rw [Bool.true_and]
      cases hz2 : isI z with
      | false =>
        rw [hz2] at w2
        have e6 : byteB z = false := by
          cases z <;> first | rfl | (simp [isI] at hz2)
        rw [e6]
        simp only [r_bind, r_1, s_1, r_2, s_2, s_2b, r_v, s_v, r_c, r_n, r_a, s_a, s_ab, r_g, s_g, r_and, s_And, s_and1, s_and0, r_or, s_Or, s_or1, s_or0, r_not, s_Not, s_not, r_if, s_if1, s_if0, r_ch, s_ch, s_cha, s_chb1, s_chb0, s_chc, r_tB, s_tB, r_tV, s_tV, s_tv, r_tN, s_tN, r_tA, s_tA1, s_tA0, r_tO, s_tO1, s_tO0, r_tT, r_trB, r_trI, r_trN, r_call, s_call, s_noX, s_backV, s_backC, s_backF, s_frz, r_frz, r_all0, r_all1, r_fn1, r_fn2, r_fn3, r_fn4, r_fn5, s_lvR, s_lvN, r_nx, r_bk, r_ct, r_seq, s_seqN, s_seqR, s_seqB, s_seqC, r_ret, s_ret, r_retN, r_sif, s_sif1, s_sif0, r_ex, s_ex, r_set, s_set, r_par, s_par, r_as, s_as, s_gb, r_gNm, r_gNl, r_gCs, s_gCs, r_gTu2, r_gTu3, r_gTu4, r_gSb, s_sb, s_sb2, s_st, s_nxS, r_au, s_au, s_au0, s_au1, s_au2, s_au3, r_addI, r_for, s_for, s_body, s_turnN, s_turnC, s_turnB, s_turnR, r_r1, s_r1, r_r2, s_r2, r_sq, s_sqL, s_sqS, r_tp, s_tp, r_xT, r_xL, s_x, s_xd, at_0, at_1, at_2, at_3, at_4, r_add, r_sub, r_neg, r_mul, r_fdiv, r_mod, r_pow, r_cmp, r_is, r_eqI, r_abs, r_int, r_max, r_min, r_okV, r_snap, r_lenF, r_lenT, DL.isNon, List.replicate_succ, List.replicate_zero, List.set_cons_zero, List.set_cons_succ, List.getElem?_cons_zero, List.getElem?_cons_succ, Option.map_some, Nat.reduceSub, and_self, and_true, true_and, decide_true, decide_false, if_true, if_false, Bool.false_eq_true, Bool.not_true, Bool.not_false, r_ps, s_ps, r_pn, r_sl, s_sl, s_sl1, s_sl2, r_slL, r_slS, r_slT, r_lcT, s_l1, s_l2t, s_l2f, s_l3, r_lc, s_lc, s_noE, s_lceC, s_wr0, s_wr, r_nT, s_nT, r_nF, s_nF, r_nC, s_nC, s_sz0, s_sz1, Nat.reduceAdd, Nat.reduceMul, Nat.reduceLeDiff, last_x, at_m1, last_set, r_mt, s_mt, s_mtb, ty_last, r_fld', s_fld, r_meth0, s_meth0, r_meth, s_meth, s_methb, r_make, s_make, r_sf, s_sf, s_sfb, r_sort, s_sort, r_en, s_enL, r_zi, s_ziL, r_sst, r_mt0', r_gUl3, r_par3, s_par3, r_cmA, s_cmA, r_rev, s_revF, r_cw, s_cw, s_cw1, r_fill, r_isB, r_nTC, s_nTC, m_law_due, b_law_due, w0, w1, w2, s1, t1, t2, l1, io, lv]
      | true =>
        rw [hz2] at w2
        obtain ⟨b, rfl⟩ : ∃ b, z = .int b := by
          cases z with
          | int b => exact ⟨b, rfl⟩
          | _ => simp [isI] at hz2
        rw [show byteB (.int b) = decide (0 ≤ b) from rfl]
        simp only [r_bind, r_1, s_1, r_2, s_2, s_2b, r_v, s_v, r_c, r_n, r_a, s_a, s_ab, r_g, s_g, r_and, s_And, s_and1, s_and0, r_or, s_Or, s_or1, s_or0, r_not, s_Not, s_not, r_if, s_if1, s_if0, r_ch, s_ch, s_cha, s_chb1, s_chb0, s_chc, r_tB, s_tB, r_tV, s_tV, s_tv, r_tN, s_tN, r_tA, s_tA1, s_tA0, r_tO, s_tO1, s_tO0, r_tT, r_trB, r_trI, r_trN, r_call, s_call, s_noX, s_backV, s_backC, s_backF, s_frz, r_frz, r_all0, r_all1, r_fn1, r_fn2, r_fn3, r_fn4, r_fn5, s_lvR, s_lvN, r_nx, r_bk, r_ct, r_seq, s_seqN, s_seqR, s_seqB, s_seqC, r_ret, s_ret, r_retN, r_sif, s_sif1, s_sif0, r_ex, s_ex, r_set, s_set, r_par, s_par, r_as, s_as, s_gb, r_gNm, r_gNl, r_gCs, s_gCs, r_gTu2, r_gTu3, r_gTu4, r_gSb, s_sb, s_sb2, s_st, s_nxS, r_au, s_au, s_au0, s_au1, s_au2, s_au3, r_addI, r_for, s_for, s_body, s_turnN, s_turnC, s_turnB, s_turnR, r_r1, s_r1, r_r2, s_r2, r_sq, s_sqL, s_sqS, r_tp, s_tp, r_xT, r_xL, s_x, s_xd, at_0, at_1, at_2, at_3, at_4, r_add, r_sub, r_neg, r_mul, r_fdiv, r_mod, r_pow, r_cmp, r_is, r_eqI, r_abs, r_int, r_max, r_min, r_okV, r_snap, r_lenF, r_lenT, DL.isNon, List.replicate_succ, List.replicate_zero, List.set_cons_zero, List.set_cons_succ, List.getElem?_cons_zero, List.getElem?_cons_succ, Option.map_some, Nat.reduceSub, and_self, and_true, true_and, decide_true, decide_false, if_true, if_false, Bool.false_eq_true, Bool.not_true, Bool.not_false, r_ps, s_ps, r_pn, r_sl, s_sl, s_sl1, s_sl2, r_slL, r_slS, r_slT, r_lcT, s_l1, s_l2t, s_l2f, s_l3, r_lc, s_lc, s_noE, s_lceC, s_wr0, s_wr, r_nT, s_nT, r_nF, s_nF, r_nC, s_nC, s_sz0, s_sz1, Nat.reduceAdd, Nat.reduceMul, Nat.reduceLeDiff, last_x, at_m1, last_set, r_mt, s_mt, s_mtb, ty_last, r_fld', s_fld, r_meth0, s_meth0, r_meth, s_meth, s_methb, r_make, s_make, r_sf, s_sf, s_sfb, r_sort, s_sort, r_en, s_enL, r_zi, s_ziL, r_sst, r_mt0', r_gUl3, r_par3, s_par3, r_cmA, s_cmA, r_rev, s_revF, r_cw, s_cw, s_cw1, r_fill, r_isB, r_nTC, s_nTC, m_law_due, b_law_due, w0, w1, w2, s1, t1, t2, l1, io, lv]
  | int a =>
    simp only [tStr, isI] at s1 w1
    have e3 : spanB (.tup [.int a, z]) = (decide (0 ≤ a) && endB (.int a) z) := rfl
    have e5 : ownB (.tup [.int a, z]) = false := rfl
    rw [e3, e5]
    by_cases q : 0 ≤ a
    · rw [decide_eq_true q, Bool.true_and]
      by_cases hn : z = .non
      · subst hn
        have isn : isG true (.fr .non) (.fr .non) S = .ok (.fr (.bl false), S) := rfl
        rw [show endB (.int a) .non = true from rfl]
        simp only [r_bind, r_1, s_1, r_2, s_2, s_2b, r_v, s_v, r_c, r_n, r_a, s_a, s_ab, r_g, s_g, r_and, s_And, s_and1, s_and0, r_or, s_Or, s_or1, s_or0, r_not, s_Not, s_not, r_if, s_if1, s_if0, r_ch, s_ch, s_cha, s_chb1, s_chb0, s_chc, r_tB, s_tB, r_tV, s_tV, s_tv, r_tN, s_tN, r_tA, s_tA1, s_tA0, r_tO, s_tO1, s_tO0, r_tT, r_trB, r_trI, r_trN, r_call, s_call, s_noX, s_backV, s_backC, s_backF, s_frz, r_frz, r_all0, r_all1, r_fn1, r_fn2, r_fn3, r_fn4, r_fn5, s_lvR, s_lvN, r_nx, r_bk, r_ct, r_seq, s_seqN, s_seqR, s_seqB, s_seqC, r_ret, s_ret, r_retN, r_sif, s_sif1, s_sif0, r_ex, s_ex, r_set, s_set, r_par, s_par, r_as, s_as, s_gb, r_gNm, r_gNl, r_gCs, s_gCs, r_gTu2, r_gTu3, r_gTu4, r_gSb, s_sb, s_sb2, s_st, s_nxS, r_au, s_au, s_au0, s_au1, s_au2, s_au3, r_addI, r_for, s_for, s_body, s_turnN, s_turnC, s_turnB, s_turnR, r_r1, s_r1, r_r2, s_r2, r_sq, s_sqL, s_sqS, r_tp, s_tp, r_xT, r_xL, s_x, s_xd, at_0, at_1, at_2, at_3, at_4, r_add, r_sub, r_neg, r_mul, r_fdiv, r_mod, r_pow, r_cmp, r_is, r_eqI, r_abs, r_int, r_max, r_min, r_okV, r_snap, r_lenF, r_lenT, DL.isNon, List.replicate_succ, List.replicate_zero, List.set_cons_zero, List.set_cons_succ, List.getElem?_cons_zero, List.getElem?_cons_succ, Option.map_some, Nat.reduceSub, and_self, and_true, true_and, decide_true, decide_false, if_true, if_false, Bool.false_eq_true, Bool.not_true, Bool.not_false, r_ps, s_ps, r_pn, r_sl, s_sl, s_sl1, s_sl2, r_slL, r_slS, r_slT, r_lcT, s_l1, s_l2t, s_l2f, s_l3, r_lc, s_lc, s_noE, s_lceC, s_wr0, s_wr, r_nT, s_nT, r_nF, s_nF, r_nC, s_nC, s_sz0, s_sz1, Nat.reduceAdd, Nat.reduceMul, Nat.reduceLeDiff, last_x, at_m1, last_set, r_mt, s_mt, s_mtb, ty_last, r_fld', s_fld, r_meth0, s_meth0, r_meth, s_meth, s_methb, r_make, s_make, r_sf, s_sf, s_sfb, r_sort, s_sort, r_en, s_enL, r_zi, s_ziL, r_sst, r_mt0', r_gUl3, r_par3, s_par3, r_cmA, s_cmA, r_rev, s_revF, r_cw, s_cw, s_cw1, r_fill, r_isB, r_nTC, s_nTC, m_law_due, b_law_due, w0, w1, w2, s1, t1, t2, l1, decide_eq_true q, isn, lv]
      · have isn : isG true (.fr z) (.fr .non) S = .ok (.fr (.bl true), S) := by
          cases z <;> first | rfl | exact absurd rfl hn
        cases hz2 : isI z with
        | false =>
          rw [hz2] at w2
          have e6 : byteB z = false := by
            cases z <;> first | rfl | (simp [isI] at hz2)
          rw [endB_no hn e6]
          simp only [r_bind, r_1, s_1, r_2, s_2, s_2b, r_v, s_v, r_c, r_n, r_a, s_a, s_ab, r_g, s_g, r_and, s_And, s_and1, s_and0, r_or, s_Or, s_or1, s_or0, r_not, s_Not, s_not, r_if, s_if1, s_if0, r_ch, s_ch, s_cha, s_chb1, s_chb0, s_chc, r_tB, s_tB, r_tV, s_tV, s_tv, r_tN, s_tN, r_tA, s_tA1, s_tA0, r_tO, s_tO1, s_tO0, r_tT, r_trB, r_trI, r_trN, r_call, s_call, s_noX, s_backV, s_backC, s_backF, s_frz, r_frz, r_all0, r_all1, r_fn1, r_fn2, r_fn3, r_fn4, r_fn5, s_lvR, s_lvN, r_nx, r_bk, r_ct, r_seq, s_seqN, s_seqR, s_seqB, s_seqC, r_ret, s_ret, r_retN, r_sif, s_sif1, s_sif0, r_ex, s_ex, r_set, s_set, r_par, s_par, r_as, s_as, s_gb, r_gNm, r_gNl, r_gCs, s_gCs, r_gTu2, r_gTu3, r_gTu4, r_gSb, s_sb, s_sb2, s_st, s_nxS, r_au, s_au, s_au0, s_au1, s_au2, s_au3, r_addI, r_for, s_for, s_body, s_turnN, s_turnC, s_turnB, s_turnR, r_r1, s_r1, r_r2, s_r2, r_sq, s_sqL, s_sqS, r_tp, s_tp, r_xT, r_xL, s_x, s_xd, at_0, at_1, at_2, at_3, at_4, r_add, r_sub, r_neg, r_mul, r_fdiv, r_mod, r_pow, r_cmp, r_is, r_eqI, r_abs, r_int, r_max, r_min, r_okV, r_snap, r_lenF, r_lenT, DL.isNon, List.replicate_succ, List.replicate_zero, List.set_cons_zero, List.set_cons_succ, List.getElem?_cons_zero, List.getElem?_cons_succ, Option.map_some, Nat.reduceSub, and_self, and_true, true_and, decide_true, decide_false, if_true, if_false, Bool.false_eq_true, Bool.not_true, Bool.not_false, r_ps, s_ps, r_pn, r_sl, s_sl, s_sl1, s_sl2, r_slL, r_slS, r_slT, r_lcT, s_l1, s_l2t, s_l2f, s_l3, r_lc, s_lc, s_noE, s_lceC, s_wr0, s_wr, r_nT, s_nT, r_nF, s_nF, r_nC, s_nC, s_sz0, s_sz1, Nat.reduceAdd, Nat.reduceMul, Nat.reduceLeDiff, last_x, at_m1, last_set, r_mt, s_mt, s_mtb, ty_last, r_fld', s_fld, r_meth0, s_meth0, r_meth, s_meth, s_methb, r_make, s_make, r_sf, s_sf, s_sfb, r_sort, s_sort, r_en, s_enL, r_zi, s_ziL, r_sst, r_mt0', r_gUl3, r_par3, s_par3, r_cmA, s_cmA, r_rev, s_revF, r_cw, s_cw, s_cw1, r_fill, r_isB, r_nTC, s_nTC, m_law_due, b_law_due, w0, w1, w2, s1, t1, t2, l1, decide_eq_true q, isn, lv]
        | true =>
          rw [hz2] at w2
          obtain ⟨b, rfl⟩ : ∃ b, z = .int b := by
            cases z with
            | int b => exact ⟨b, rfl⟩
            | _ => simp [isI] at hz2
          have e7 : endB (.int a) (.int b) = decide (a ≤ b) := by
            simp only [endB]
            by_cases r : a ≤ b
            · rw [decide_eq_true r, decide_eq_true (show 0 ≤ b by omega), Bool.and_self]
            · rw [decide_eq_false r, Bool.and_false]
          rw [e7]
          simp only [r_bind, r_1, s_1, r_2, s_2, s_2b, r_v, s_v, r_c, r_n, r_a, s_a, s_ab, r_g, s_g, r_and, s_And, s_and1, s_and0, r_or, s_Or, s_or1, s_or0, r_not, s_Not, s_not, r_if, s_if1, s_if0, r_ch, s_ch, s_cha, s_chb1, s_chb0, s_chc, r_tB, s_tB, r_tV, s_tV, s_tv, r_tN, s_tN, r_tA, s_tA1, s_tA0, r_tO, s_tO1, s_tO0, r_tT, r_trB, r_trI, r_trN, r_call, s_call, s_noX, s_backV, s_backC, s_backF, s_frz, r_frz, r_all0, r_all1, r_fn1, r_fn2, r_fn3, r_fn4, r_fn5, s_lvR, s_lvN, r_nx, r_bk, r_ct, r_seq, s_seqN, s_seqR, s_seqB, s_seqC, r_ret, s_ret, r_retN, r_sif, s_sif1, s_sif0, r_ex, s_ex, r_set, s_set, r_par, s_par, r_as, s_as, s_gb, r_gNm, r_gNl, r_gCs, s_gCs, r_gTu2, r_gTu3, r_gTu4, r_gSb, s_sb, s_sb2, s_st, s_nxS, r_au, s_au, s_au0, s_au1, s_au2, s_au3, r_addI, r_for, s_for, s_body, s_turnN, s_turnC, s_turnB, s_turnR, r_r1, s_r1, r_r2, s_r2, r_sq, s_sqL, s_sqS, r_tp, s_tp, r_xT, r_xL, s_x, s_xd, at_0, at_1, at_2, at_3, at_4, r_add, r_sub, r_neg, r_mul, r_fdiv, r_mod, r_pow, r_cmp, r_is, r_eqI, r_abs, r_int, r_max, r_min, r_okV, r_snap, r_lenF, r_lenT, DL.isNon, List.replicate_succ, List.replicate_zero, List.set_cons_zero, List.set_cons_succ, List.getElem?_cons_zero, List.getElem?_cons_succ, Option.map_some, Nat.reduceSub, and_self, and_true, true_and, decide_true, decide_false, if_true, if_false, Bool.false_eq_true, Bool.not_true, Bool.not_false, r_ps, s_ps, r_pn, r_sl, s_sl, s_sl1, s_sl2, r_slL, r_slS, r_slT, r_lcT, s_l1, s_l2t, s_l2f, s_l3, r_lc, s_lc, s_noE, s_lceC, s_wr0, s_wr, r_nT, s_nT, r_nF, s_nF, r_nC, s_nC, s_sz0, s_sz1, Nat.reduceAdd, Nat.reduceMul, Nat.reduceLeDiff, last_x, at_m1, last_set, r_mt, s_mt, s_mtb, ty_last, r_fld', s_fld, r_meth0, s_meth0, r_meth, s_meth, s_methb, r_make, s_make, r_sf, s_sf, s_sfb, r_sort, s_sort, r_en, s_enL, r_zi, s_ziL, r_sst, r_mt0', r_gUl3, r_par3, s_par3, r_cmA, s_cmA, r_rev, s_revF, r_cw, s_cw, s_cw1, r_fill, r_isB, r_nTC, s_nTC, m_law_due, b_law_due, w0, w1, w2, s1, t1, t2, l1, decide_eq_true q, isn, lv]
    · rw [decide_eq_false q, Bool.false_and]
      simp only [r_bind, r_1, s_1, r_2, s_2, s_2b, r_v, s_v, r_c, r_n, r_a, s_a, s_ab, r_g, s_g, r_and, s_And, s_and1, s_and0, r_or, s_Or, s_or1, s_or0, r_not, s_Not, s_not, r_if, s_if1, s_if0, r_ch, s_ch, s_cha, s_chb1, s_chb0, s_chc, r_tB, s_tB, r_tV, s_tV, s_tv, r_tN, s_tN, r_tA, s_tA1, s_tA0, r_tO, s_tO1, s_tO0, r_tT, r_trB, r_trI, r_trN, r_call, s_call, s_noX, s_backV, s_backC, s_backF, s_frz, r_frz, r_all0, r_all1, r_fn1, r_fn2, r_fn3, r_fn4, r_fn5, s_lvR, s_lvN, r_nx, r_bk, r_ct, r_seq, s_seqN, s_seqR, s_seqB, s_seqC, r_ret, s_ret, r_retN, r_sif, s_sif1, s_sif0, r_ex, s_ex, r_set, s_set, r_par, s_par, r_as, s_as, s_gb, r_gNm, r_gNl, r_gCs, s_gCs, r_gTu2, r_gTu3, r_gTu4, r_gSb, s_sb, s_sb2, s_st, s_nxS, r_au, s_au, s_au0, s_au1, s_au2, s_au3, r_addI, r_for, s_for, s_body, s_turnN, s_turnC, s_turnB, s_turnR, r_r1, s_r1, r_r2, s_r2, r_sq, s_sqL, s_sqS, r_tp, s_tp, r_xT, r_xL, s_x, s_xd, at_0, at_1, at_2, at_3, at_4, r_add, r_sub, r_neg, r_mul, r_fdiv, r_mod, r_pow, r_cmp, r_is, r_eqI, r_abs, r_int, r_max, r_min, r_okV, r_snap, r_lenF, r_lenT, DL.isNon, List.replicate_succ, List.replicate_zero, List.set_cons_zero, List.set_cons_succ, List.getElem?_cons_zero, List.getElem?_cons_succ, Option.map_some, Nat.reduceSub, and_self, and_true, true_and, decide_true, decide_false, if_true, if_false, Bool.false_eq_true, Bool.not_true, Bool.not_false, r_ps, s_ps, r_pn, r_sl, s_sl, s_sl1, s_sl2, r_slL, r_slS, r_slT, r_lcT, s_l1, s_l2t, s_l2f, s_l3, r_lc, s_lc, s_noE, s_lceC, s_wr0, s_wr, r_nT, s_nT, r_nF, s_nF, r_nC, s_nC, s_sz0, s_sz1, Nat.reduceAdd, Nat.reduceMul, Nat.reduceLeDiff, last_x, at_m1, last_set, r_mt, s_mt, s_mtb, ty_last, r_fld', s_fld, r_meth0, s_meth0, r_meth, s_meth, s_methb, r_make, s_make, r_sf, s_sf, s_sfb, r_sort, s_sort, r_en, s_enL, r_zi, s_ziL, r_sst, r_mt0', r_gUl3, r_par3, s_par3, r_cmA, s_cmA, r_rev, s_revF, r_cw, s_cw, s_cw1, r_fill, r_isB, r_nTC, s_nTC, m_law_due, b_law_due, w0, w1, w2, s1, t1, t2, l1, decide_eq_false q, lv]
  | _ => first
    | (exfalso; revert hf; simp [isX]; done)
    | (simp only [tStr, isI] at s1 w1; simp only [spanB, byteB, ownB, ownW, Bool.false_and]; simp only [r_bind, r_1, s_1, r_2, s_2, s_2b, r_v, s_v, r_c, r_n, r_a, s_a, s_ab, r_g, s_g, r_and, s_And, s_and1, s_and0, r_or, s_Or, s_or1, s_or0, r_not, s_Not, s_not, r_if, s_if1, s_if0, r_ch, s_ch, s_cha, s_chb1, s_chb0, s_chc, r_tB, s_tB, r_tV, s_tV, s_tv, r_tN, s_tN, r_tA, s_tA1, s_tA0, r_tO, s_tO1, s_tO0, r_tT, r_trB, r_trI, r_trN, r_call, s_call, s_noX, s_backV, s_backC, s_backF, s_frz, r_frz, r_all0, r_all1, r_fn1, r_fn2, r_fn3, r_fn4, r_fn5, s_lvR, s_lvN, r_nx, r_bk, r_ct, r_seq, s_seqN, s_seqR, s_seqB, s_seqC, r_ret, s_ret, r_retN, r_sif, s_sif1, s_sif0, r_ex, s_ex, r_set, s_set, r_par, s_par, r_as, s_as, s_gb, r_gNm, r_gNl, r_gCs, s_gCs, r_gTu2, r_gTu3, r_gTu4, r_gSb, s_sb, s_sb2, s_st, s_nxS, r_au, s_au, s_au0, s_au1, s_au2, s_au3, r_addI, r_for, s_for, s_body, s_turnN, s_turnC, s_turnB, s_turnR, r_r1, s_r1, r_r2, s_r2, r_sq, s_sqL, s_sqS, r_tp, s_tp, r_xT, r_xL, s_x, s_xd, at_0, at_1, at_2, at_3, at_4, r_add, r_sub, r_neg, r_mul, r_fdiv, r_mod, r_pow, r_cmp, r_is, r_eqI, r_abs, r_int, r_max, r_min, r_okV, r_snap, r_lenF, r_lenT, DL.isNon, List.replicate_succ, List.replicate_zero, List.set_cons_zero, List.set_cons_succ, List.getElem?_cons_zero, List.getElem?_cons_succ, Option.map_some, Nat.reduceSub, and_self, and_true, true_and, decide_true, decide_false, if_true, if_false, Bool.false_eq_true, Bool.not_true, Bool.not_false, r_ps, s_ps, r_pn, r_sl, s_sl, s_sl1, s_sl2, r_slL, r_slS, r_slT, r_lcT, s_l1, s_l2t, s_l2f, s_l3, r_lc, s_lc, s_noE, s_lceC, s_wr0, s_wr, r_nT, s_nT, r_nF, s_nF, r_nC, s_nC, s_sz0, s_sz1, Nat.reduceAdd, Nat.reduceMul, Nat.reduceLeDiff, last_x, at_m1, last_set, r_mt, s_mt, s_mtb, ty_last, r_fld', s_fld, r_meth0, s_meth0, r_meth, s_meth, s_methb, r_make, s_make, r_sf, s_sf, s_sfb, r_sort, s_sort, r_en, s_enL, r_zi, s_ziL, r_sst, r_mt0', r_gUl3, r_par3, s_par3, r_cmA, s_cmA, r_rev, s_revF, r_cw, s_cw, s_cw1, r_fill, r_isB, r_nTC, s_nTC, m_law_due, b_law_due, w0, w1, s1, t1, t2, l1, lv])
omit wf in
theorem flt_key (p : Nat → Bool) (l : List Nat) : (l.filterMap fun c : Nat => if (!p c) = true then some (D.str ⟨#[c]⟩) else none) = (l.filter fun c => !p c).map fun c => D.str ⟨#[c]⟩ := by
  induction l with
  | nil => rfl
  | cons c l ih =>
    cases hc : p c with
    | true => rw [List.filterMap_cons_none (by rw [hc]; rfl), List.filter_cons_of_neg (by rw [hc]; decide), ih]
    | false => rw [List.filterMap_cons_some (by rw [hc]; rfl), List.filter_cons_of_pos (by rw [hc]; rfl), ih, List.map_cons]
theorem due_str {s : Str} (hs : PyData.strOk s = true) (hl : s.length ≤ 1000) : m_law_due [.fr (.str s)] S = .ok (.new (.lst [.fr (.bl false), .fr (.bl false), .fr (.bl false), .fr (.bl false), .fr (.bl (nameS s)), .fr (.bl false)]), S) := by
  have w0 := whole_x wf (d := .str s) rfl
  have t1 : isiG [.fr (.str s), .fr (.ty "tuple")] S = .ok (.fr (.bl false), S) := rfl
  have t2 : isiG [.fr (.str s), .fr (.ty "str")] S = .ok (.fr (.bl true), S) := rfl
  have ln := lenStr s S (by omega)
  have lv := due_lv wf
  simp only [isI] at w0
  have zl : s.cps.toList.length = s.length := Array.length_toList
  have cm : ∀ (x1 x2 x3 x4 x5 x6 x7 x8 : Option SV), lcM (fun _ => True) (gNm 8) (DL.tB (DL.e2 (inSgG true) (eV 8) (eC (.str "abcdefghijklmnopqrstuvwxyz")))) (eV 8) [7, 8] [some (.fr (.str s)), x1, x2, x3, x4, x5, x6, x7, x8] (sgnS s) S [] =
      .ok (((s.cps.toList.filter fun c => !decide (c ∈ ltrs.cps.toList)).map fun c => D.str ⟨#[c]⟩).map SV.fr, S) := fun x1 x2 x3 x4 x5 x6 x7 x8 => by
    rw [sgn_enc, lc_genF (fun c : Nat => D.str ⟨#[c]⟩) (fun c : Nat => if (!decide (c ∈ ltrs.cps.toList)) = true then some (D.str ⟨#[c]⟩) else none) s.cps.toList (by omega) fun c _ ds => by
      have i := inSg true c ltrs (S ++ [.lst (ds.map SV.fr)])
      rw [if_pos rfl] at i
      cases hc : decide (c ∈ ltrs.cps.toList) with
      | true =>
        rw [hc, Bool.not_true] at i
        rw [Bool.not_true, if_neg (by decide), Option.map_none]
        simp only [r_bind, r_1, s_1, r_2, s_2, s_2b, r_v, s_v, r_c, r_n, r_a, s_a, s_ab, r_g, s_g, r_and, s_And, s_and1, s_and0, r_or, s_Or, s_or1, s_or0, r_not, s_Not, s_not, r_if, s_if1, s_if0, r_ch, s_ch, s_cha, s_chb1, s_chb0, s_chc, r_tB, s_tB, r_tV, s_tV, s_tv, r_tN, s_tN, r_tA, s_tA1, s_tA0, r_tO, s_tO1, s_tO0, r_tT, r_trB, r_trI, r_trN, r_call, s_call, s_noX, s_backV, s_backC, s_backF, s_frz, r_frz, r_all0, r_all1, r_fn1, r_fn2, r_fn3, r_fn4, r_fn5, s_lvR, s_lvN, r_nx, r_bk, r_ct, r_seq, s_seqN, s_seqR, s_seqB, s_seqC, r_ret, s_ret, r_retN, r_sif, s_sif1, s_sif0, r_ex, s_ex, r_set, s_set, r_par, s_par, r_as, s_as, s_gb, r_gNm, r_gNl, r_gCs, s_gCs, r_gTu2, r_gTu3, r_gTu4, r_gSb, s_sb, s_sb2, s_st, s_nxS, r_au, s_au, s_au0, s_au1, s_au2, s_au3, r_addI, r_for, s_for, s_body, s_turnN, s_turnC, s_turnB, s_turnR, r_r1, s_r1, r_r2, s_r2, r_sq, s_sqL, s_sqS, r_tp, s_tp, r_xT, r_xL, s_x, s_xd, at_0, at_1, at_2, at_3, at_4, r_add, r_sub, r_neg, r_mul, r_fdiv, r_mod, r_pow, r_cmp, r_is, r_eqI, r_abs, r_int, r_max, r_min, r_okV, r_snap, r_lenF, r_lenT, DL.isNon, List.replicate_succ, List.replicate_zero, List.set_cons_zero, List.set_cons_succ, List.getElem?_cons_zero, List.getElem?_cons_succ, Option.map_some, Nat.reduceSub, and_self, and_true, true_and, decide_true, decide_false, if_true, if_false, Bool.false_eq_true, Bool.not_true, Bool.not_false, r_ps, s_ps, r_pn, r_sl, s_sl, s_sl1, s_sl2, r_slL, r_slS, r_slT, r_lcT, s_l1, s_l2t, s_l2f, s_l3, r_lc, s_lc, s_noE, s_lceC, s_wr0, s_wr, r_nT, s_nT, r_nF, s_nF, r_nC, s_nC, s_sz0, s_sz1, Nat.reduceAdd, Nat.reduceMul, Nat.reduceLeDiff, last_x, at_m1, last_set, r_mt, s_mt, s_mtb, ty_last, r_fld', s_fld, r_meth0, s_meth0, r_meth, s_meth, s_methb, r_make, s_make, r_sf, s_sf, s_sfb, r_sort, s_sort, r_en, s_enL, r_zi, s_ziL, r_sst, r_mt0', r_gUl3, r_par3, s_par3, r_cmA, s_cmA, r_rev, s_revF, r_cw, s_cw, s_cw1, r_fill, r_isB, r_nTC, s_nTC, i]
      | false =>
        rw [hc, Bool.not_false] at i
        rw [Bool.not_false, if_pos rfl]
        simp only [r_bind, r_1, s_1, r_2, s_2, s_2b, r_v, s_v, r_c, r_n, r_a, s_a, s_ab, r_g, s_g, r_and, s_And, s_and1, s_and0, r_or, s_Or, s_or1, s_or0, r_not, s_Not, s_not, r_if, s_if1, s_if0, r_ch, s_ch, s_cha, s_chb1, s_chb0, s_chc, r_tB, s_tB, r_tV, s_tV, s_tv, r_tN, s_tN, r_tA, s_tA1, s_tA0, r_tO, s_tO1, s_tO0, r_tT, r_trB, r_trI, r_trN, r_call, s_call, s_noX, s_backV, s_backC, s_backF, s_frz, r_frz, r_all0, r_all1, r_fn1, r_fn2, r_fn3, r_fn4, r_fn5, s_lvR, s_lvN, r_nx, r_bk, r_ct, r_seq, s_seqN, s_seqR, s_seqB, s_seqC, r_ret, s_ret, r_retN, r_sif, s_sif1, s_sif0, r_ex, s_ex, r_set, s_set, r_par, s_par, r_as, s_as, s_gb, r_gNm, r_gNl, r_gCs, s_gCs, r_gTu2, r_gTu3, r_gTu4, r_gSb, s_sb, s_sb2, s_st, s_nxS, r_au, s_au, s_au0, s_au1, s_au2, s_au3, r_addI, r_for, s_for, s_body, s_turnN, s_turnC, s_turnB, s_turnR, r_r1, s_r1, r_r2, s_r2, r_sq, s_sqL, s_sqS, r_tp, s_tp, r_xT, r_xL, s_x, s_xd, at_0, at_1, at_2, at_3, at_4, r_add, r_sub, r_neg, r_mul, r_fdiv, r_mod, r_pow, r_cmp, r_is, r_eqI, r_abs, r_int, r_max, r_min, r_okV, r_snap, r_lenF, r_lenT, DL.isNon, List.replicate_succ, List.replicate_zero, List.set_cons_zero, List.set_cons_succ, List.getElem?_cons_zero, List.getElem?_cons_succ, Option.map_some, Nat.reduceSub, and_self, and_true, true_and, decide_true, decide_false, if_true, if_false, Bool.false_eq_true, Bool.not_true, Bool.not_false, r_ps, s_ps, r_pn, r_sl, s_sl, s_sl1, s_sl2, r_slL, r_slS, r_slT, r_lcT, s_l1, s_l2t, s_l2f, s_l3, r_lc, s_lc, s_noE, s_lceC, s_wr0, s_wr, r_nT, s_nT, r_nF, s_nF, r_nC, s_nC, s_sz0, s_sz1, Nat.reduceAdd, Nat.reduceMul, Nat.reduceLeDiff, last_x, at_m1, last_set, r_mt, s_mt, s_mtb, ty_last, r_fld', s_fld, r_meth0, s_meth0, r_meth, s_meth, s_methb, r_make, s_make, r_sf, s_sf, s_sfb, r_sort, s_sort, r_en, s_enL, r_zi, s_ziL, r_sst, r_mt0', r_gUl3, r_par3, s_par3, r_cmA, s_cmA, r_rev, s_revF, r_cw, s_cw, s_cw1, r_fill, r_isB, r_nTC, s_nTC, i, Option.map_some]]
    rw [flt_key fun c => decide (c ∈ ltrs.cps.toList)]
  have pl : fit 64 (.lst ((s.cps.toList.filter fun c => !decide (c ∈ ltrs.cps.toList)).map fun c => D.str ⟨#[c]⟩)) = true := by
    simp only [fit]
    refine fits_all fun d hd => ?_
    obtain ⟨c, hc, rfl⟩ := List.mem_map.mp hd
    have hc := (List.mem_filter.mp hc).1
    unfold PyData.strOk at hs
    rw [← Array.all_toList, List.all_eq_true] at hs
    have := hs c hc
    simp only [fit]
    simpa [PyData.strOk] using this
  have eq := eq_nilF (S := S) false (fit_plain pl)
  rw [if_neg (by decide), List.isEmpty_map] at eq
  have ie : (s.cps.toList.filter fun c => !decide (c ∈ ltrs.cps.toList)).isEmpty = s.cps.toList.all fun c => decide (c ∈ ltrs.cps.toList) := by
    rw [Bool.eq_iff_iff, List.isEmpty_iff, List.filter_eq_nil_iff, List.all_eq_true]
    constructor
    · intro h c hc
      have := h c hc
      simpa using this
    · intro h c hc
      have := h c hc
      simpa using this
  rw [ie] at eq
  unfold nameS
  by_cases q1 : (1 : Int) ≤ s.length
  · by_cases q2 : (s.length : Int) ≤ 8
    · rw [decide_eq_true q1, decide_eq_true q2, Bool.and_self, Bool.true_and]
      simp only [r_bind, r_1, s_1, r_2, s_2, s_2b, r_v, s_v, r_c, r_n, r_a, s_a, s_ab, r_g, s_g, r_and, s_And, s_and1, s_and0, r_or, s_Or, s_or1, s_or0, r_not, s_Not, s_not, r_if, s_if1, s_if0, r_ch, s_ch, s_cha, s_chb1, s_chb0, s_chc, r_tB, s_tB, r_tV, s_tV, s_tv, r_tN, s_tN, r_tA, s_tA1, s_tA0, r_tO, s_tO1, s_tO0, r_tT, r_trB, r_trI, r_trN, r_call, s_call, s_noX, s_backV, s_backC, s_backF, s_frz, r_frz, r_all0, r_all1, r_fn1, r_fn2, r_fn3, r_fn4, r_fn5, s_lvR, s_lvN, r_nx, r_bk, r_ct, r_seq, s_seqN, s_seqR, s_seqB, s_seqC, r_ret, s_ret, r_retN, r_sif, s_sif1, s_sif0, r_ex, s_ex, r_set, s_set, r_par, s_par, r_as, s_as, s_gb, r_gNm, r_gNl, r_gCs, s_gCs, r_gTu2, r_gTu3, r_gTu4, r_gSb, s_sb, s_sb2, s_st, s_nxS, r_au, s_au, s_au0, s_au1, s_au2, s_au3, r_addI, r_for, s_for, s_body, s_turnN, s_turnC, s_turnB, s_turnR, r_r1, s_r1, r_r2, s_r2, r_sq, s_sqL, s_sqS, r_tp, s_tp, r_xT, r_xL, s_x, s_xd, at_0, at_1, at_2, at_3, at_4, r_add, r_sub, r_neg, r_mul, r_fdiv, r_mod, r_pow, r_cmp, r_is, r_eqI, r_abs, r_int, r_max, r_min, r_okV, r_snap, r_lenF, r_lenT, DL.isNon, List.replicate_succ, List.replicate_zero, List.set_cons_zero, List.set_cons_succ, List.getElem?_cons_zero, List.getElem?_cons_succ, Option.map_some, Nat.reduceSub, and_self, and_true, true_and, decide_true, decide_false, if_true, if_false, Bool.false_eq_true, Bool.not_true, Bool.not_false, r_ps, s_ps, r_pn, r_sl, s_sl, s_sl1, s_sl2, r_slL, r_slS, r_slT, r_lcT, s_l1, s_l2t, s_l2f, s_l3, r_lc, s_lc, s_noE, s_lceC, s_wr0, s_wr, r_nT, s_nT, r_nF, s_nF, r_nC, s_nC, s_sz0, s_sz1, Nat.reduceAdd, Nat.reduceMul, Nat.reduceLeDiff, last_x, at_m1, last_set, r_mt, s_mt, s_mtb, ty_last, r_fld', s_fld, r_meth0, s_meth0, r_meth, s_meth, s_methb, r_make, s_make, r_sf, s_sf, s_sfb, r_sort, s_sort, r_en, s_enL, r_zi, s_ziL, r_sst, r_mt0', r_gUl3, r_par3, s_par3, r_cmA, s_cmA, r_rev, s_revF, r_cw, s_cw, s_cw1, r_fill, r_isB, r_nTC, s_nTC, m_law_due, b_law_due, w0, t1, t2, ln, decide_eq_true q1, decide_eq_true q2, r_sg, s_sg, cm, s_lceF wf, eq, lv]
    · rw [decide_eq_false q2, Bool.and_false, Bool.false_and]
      simp only [r_bind, r_1, s_1, r_2, s_2, s_2b, r_v, s_v, r_c, r_n, r_a, s_a, s_ab, r_g, s_g, r_and, s_And, s_and1, s_and0, r_or, s_Or, s_or1, s_or0, r_not, s_Not, s_not, r_if, s_if1, s_if0, r_ch, s_ch, s_cha, s_chb1, s_chb0, s_chc, r_tB, s_tB, r_tV, s_tV, s_tv, r_tN, s_tN, r_tA, s_tA1, s_tA0, r_tO, s_tO1, s_tO0, r_tT, r_trB, r_trI, r_trN, r_call, s_call, s_noX, s_backV, s_backC, s_backF, s_frz, r_frz, r_all0, r_all1, r_fn1, r_fn2, r_fn3, r_fn4, r_fn5, s_lvR, s_lvN, r_nx, r_bk, r_ct, r_seq, s_seqN, s_seqR, s_seqB, s_seqC, r_ret, s_ret, r_retN, r_sif, s_sif1, s_sif0, r_ex, s_ex, r_set, s_set, r_par, s_par, r_as, s_as, s_gb, r_gNm, r_gNl, r_gCs, s_gCs, r_gTu2, r_gTu3, r_gTu4, r_gSb, s_sb, s_sb2, s_st, s_nxS, r_au, s_au, s_au0, s_au1, s_au2, s_au3, r_addI, r_for, s_for, s_body, s_turnN, s_turnC, s_turnB, s_turnR, r_r1, s_r1, r_r2, s_r2, r_sq, s_sqL, s_sqS, r_tp, s_tp, r_xT, r_xL, s_x, s_xd, at_0, at_1, at_2, at_3, at_4, r_add, r_sub, r_neg, r_mul, r_fdiv, r_mod, r_pow, r_cmp, r_is, r_eqI, r_abs, r_int, r_max, r_min, r_okV, r_snap, r_lenF, r_lenT, DL.isNon, List.replicate_succ, List.replicate_zero, List.set_cons_zero, List.set_cons_succ, List.getElem?_cons_zero, List.getElem?_cons_succ, Option.map_some, Nat.reduceSub, and_self, and_true, true_and, decide_true, decide_false, if_true, if_false, Bool.false_eq_true, Bool.not_true, Bool.not_false, r_ps, s_ps, r_pn, r_sl, s_sl, s_sl1, s_sl2, r_slL, r_slS, r_slT, r_lcT, s_l1, s_l2t, s_l2f, s_l3, r_lc, s_lc, s_noE, s_lceC, s_wr0, s_wr, r_nT, s_nT, r_nF, s_nF, r_nC, s_nC, s_sz0, s_sz1, Nat.reduceAdd, Nat.reduceMul, Nat.reduceLeDiff, last_x, at_m1, last_set, r_mt, s_mt, s_mtb, ty_last, r_fld', s_fld, r_meth0, s_meth0, r_meth, s_meth, s_methb, r_make, s_make, r_sf, s_sf, s_sfb, r_sort, s_sort, r_en, s_enL, r_zi, s_ziL, r_sst, r_mt0', r_gUl3, r_par3, s_par3, r_cmA, s_cmA, r_rev, s_revF, r_cw, s_cw, s_cw1, r_fill, r_isB, r_nTC, s_nTC, m_law_due, b_law_due, w0, t1, t2, ln, decide_eq_true q1, decide_eq_false q2, lv]
  · rw [decide_eq_false q1, Bool.false_and, Bool.false_and]
    simp only [r_bind, r_1, s_1, r_2, s_2, s_2b, r_v, s_v, r_c, r_n, r_a, s_a, s_ab, r_g, s_g, r_and, s_And, s_and1, s_and0, r_or, s_Or, s_or1, s_or0, r_not, s_Not, s_not, r_if, s_if1, s_if0, r_ch, s_ch, s_cha, s_chb1, s_chb0, s_chc, r_tB, s_tB, r_tV, s_tV, s_tv, r_tN, s_tN, r_tA, s_tA1, s_tA0, r_tO, s_tO1, s_tO0, r_tT, r_trB, r_trI, r_trN, r_call, s_call, s_noX, s_backV, s_backC, s_backF, s_frz, r_frz, r_all0, r_all1, r_fn1, r_fn2, r_fn3, r_fn4, r_fn5, s_lvR, s_lvN, r_nx, r_bk, r_ct, r_seq, s_seqN, s_seqR, s_seqB, s_seqC, r_ret, s_ret, r_retN, r_sif, s_sif1, s_sif0, r_ex, s_ex, r_set, s_set, r_par, s_par, r_as, s_as, s_gb, r_gNm, r_gNl, r_gCs, s_gCs, r_gTu2, r_gTu3, r_gTu4, r_gSb, s_sb, s_sb2, s_st, s_nxS, r_au, s_au, s_au0, s_au1, s_au2, s_au3, r_addI, r_for, s_for, s_body, s_turnN, s_turnC, s_turnB, s_turnR, r_r1, s_r1, r_r2, s_r2, r_sq, s_sqL, s_sqS, r_tp, s_tp, r_xT, r_xL, s_x, s_xd, at_0, at_1, at_2, at_3, at_4, r_add, r_sub, r_neg, r_mul, r_fdiv, r_mod, r_pow, r_cmp, r_is, r_eqI, r_abs, r_int, r_max, r_min, r_okV, r_snap, r_lenF, r_lenT, DL.isNon, List.replicate_succ, List.replicate_zero, List.set_cons_zero, List.set_cons_succ, List.getElem?_cons_zero, List.getElem?_cons_succ, Option.map_some, Nat.reduceSub, and_self, and_true, true_and, decide_true, decide_false, if_true, if_false, Bool.false_eq_true, Bool.not_true, Bool.not_false, r_ps, s_ps, r_pn, r_sl, s_sl, s_sl1, s_sl2, r_slL, r_slS, r_slT, r_lcT, s_l1, s_l2t, s_l2f, s_l3, r_lc, s_lc, s_noE, s_lceC, s_wr0, s_wr, r_nT, s_nT, r_nF, s_nF, r_nC, s_nC, s_sz0, s_sz1, Nat.reduceAdd, Nat.reduceMul, Nat.reduceLeDiff, last_x, at_m1, last_set, r_mt, s_mt, s_mtb, ty_last, r_fld', s_fld, r_meth0, s_meth0, r_meth, s_meth, s_methb, r_make, s_make, r_sf, s_sf, s_sfb, r_sort, s_sort, r_en, s_enL, r_zi, s_ziL, r_sst, r_mt0', r_gUl3, r_par3, s_par3, r_cmA, s_cmA, r_rev, s_revF, r_cw, s_cw, s_cw1, r_fill, r_isB, r_nTC, s_nTC, m_law_due, b_law_due, w0, t1, t2, ln, decide_eq_false q1, lv]
theorem due_int (i : Int) : m_law_due [.fr (.int i)] S = .ok (.new (.lst [.fr (.bl true), .fr (.bl (byteB (.int i))), .fr (.bl false), .fr (.bl (levB (.int i))), .fr (.bl false), .fr (.bl false)]), S) := by
  have w0 := whole_x wf (d := .int i) rfl
  have t1 : isiG [.fr (.int i), .fr (.ty "tuple")] S = .ok (.fr (.bl false), S) := rfl
  have t2 : isiG [.fr (.int i), .fr (.ty "str")] S = .ok (.fr (.bl false), S) := rfl
  have lv := due_lv wf
  simp only [isI] at w0
  rw [show byteB (.int i) = decide (0 ≤ i) from rfl, show levB (.int i) = (decide (0 ≤ i) && decide (i ≤ 2)) from rfl]
  by_cases q : 0 ≤ i
  · rw [decide_eq_true q, Bool.true_and]
    simp only [r_bind, r_1, s_1, r_2, s_2, s_2b, r_v, s_v, r_c, r_n, r_a, s_a, s_ab, r_g, s_g, r_and, s_And, s_and1, s_and0, r_or, s_Or, s_or1, s_or0, r_not, s_Not, s_not, r_if, s_if1, s_if0, r_ch, s_ch, s_cha, s_chb1, s_chb0, s_chc, r_tB, s_tB, r_tV, s_tV, s_tv, r_tN, s_tN, r_tA, s_tA1, s_tA0, r_tO, s_tO1, s_tO0, r_tT, r_trB, r_trI, r_trN, r_call, s_call, s_noX, s_backV, s_backC, s_backF, s_frz, r_frz, r_all0, r_all1, r_fn1, r_fn2, r_fn3, r_fn4, r_fn5, s_lvR, s_lvN, r_nx, r_bk, r_ct, r_seq, s_seqN, s_seqR, s_seqB, s_seqC, r_ret, s_ret, r_retN, r_sif, s_sif1, s_sif0, r_ex, s_ex, r_set, s_set, r_par, s_par, r_as, s_as, s_gb, r_gNm, r_gNl, r_gCs, s_gCs, r_gTu2, r_gTu3, r_gTu4, r_gSb, s_sb, s_sb2, s_st, s_nxS, r_au, s_au, s_au0, s_au1, s_au2, s_au3, r_addI, r_for, s_for, s_body, s_turnN, s_turnC, s_turnB, s_turnR, r_r1, s_r1, r_r2, s_r2, r_sq, s_sqL, s_sqS, r_tp, s_tp, r_xT, r_xL, s_x, s_xd, at_0, at_1, at_2, at_3, at_4, r_add, r_sub, r_neg, r_mul, r_fdiv, r_mod, r_pow, r_cmp, r_is, r_eqI, r_abs, r_int, r_max, r_min, r_okV, r_snap, r_lenF, r_lenT, DL.isNon, List.replicate_succ, List.replicate_zero, List.set_cons_zero, List.set_cons_succ, List.getElem?_cons_zero, List.getElem?_cons_succ, Option.map_some, Nat.reduceSub, and_self, and_true, true_and, decide_true, decide_false, if_true, if_false, Bool.false_eq_true, Bool.not_true, Bool.not_false, r_ps, s_ps, r_pn, r_sl, s_sl, s_sl1, s_sl2, r_slL, r_slS, r_slT, r_lcT, s_l1, s_l2t, s_l2f, s_l3, r_lc, s_lc, s_noE, s_lceC, s_wr0, s_wr, r_nT, s_nT, r_nF, s_nF, r_nC, s_nC, s_sz0, s_sz1, Nat.reduceAdd, Nat.reduceMul, Nat.reduceLeDiff, last_x, at_m1, last_set, r_mt, s_mt, s_mtb, ty_last, r_fld', s_fld, r_meth0, s_meth0, r_meth, s_meth, s_methb, r_make, s_make, r_sf, s_sf, s_sfb, r_sort, s_sort, r_en, s_enL, r_zi, s_ziL, r_sst, r_mt0', r_gUl3, r_par3, s_par3, r_cmA, s_cmA, r_rev, s_revF, r_cw, s_cw, s_cw1, r_fill, r_isB, r_nTC, s_nTC, m_law_due, b_law_due, w0, t1, t2, decide_eq_true q, lv]
  · rw [decide_eq_false q, Bool.false_and]
    simp only [r_bind, r_1, s_1, r_2, s_2, s_2b, r_v, s_v, r_c, r_n, r_a, s_a, s_ab, r_g, s_g, r_and, s_And, s_and1, s_and0, r_or, s_Or, s_or1, s_or0, r_not, s_Not, s_not, r_if, s_if1, s_if0, r_ch, s_ch, s_cha, s_chb1, s_chb0, s_chc, r_tB, s_tB, r_tV, s_tV, s_tv, r_tN, s_tN, r_tA, s_tA1, s_tA0, r_tO, s_tO1, s_tO0, r_tT, r_trB, r_trI, r_trN, r_call, s_call, s_noX, s_backV, s_backC, s_backF, s_frz, r_frz, r_all0, r_all1, r_fn1, r_fn2, r_fn3, r_fn4, r_fn5, s_lvR, s_lvN, r_nx, r_bk, r_ct, r_seq, s_seqN, s_seqR, s_seqB, s_seqC, r_ret, s_ret, r_retN, r_sif, s_sif1, s_sif0, r_ex, s_ex, r_set, s_set, r_par, s_par, r_as, s_as, s_gb, r_gNm, r_gNl, r_gCs, s_gCs, r_gTu2, r_gTu3, r_gTu4, r_gSb, s_sb, s_sb2, s_st, s_nxS, r_au, s_au, s_au0, s_au1, s_au2, s_au3, r_addI, r_for, s_for, s_body, s_turnN, s_turnC, s_turnB, s_turnR, r_r1, s_r1, r_r2, s_r2, r_sq, s_sqL, s_sqS, r_tp, s_tp, r_xT, r_xL, s_x, s_xd, at_0, at_1, at_2, at_3, at_4, r_add, r_sub, r_neg, r_mul, r_fdiv, r_mod, r_pow, r_cmp, r_is, r_eqI, r_abs, r_int, r_max, r_min, r_okV, r_snap, r_lenF, r_lenT, DL.isNon, List.replicate_succ, List.replicate_zero, List.set_cons_zero, List.set_cons_succ, List.getElem?_cons_zero, List.getElem?_cons_succ, Option.map_some, Nat.reduceSub, and_self, and_true, true_and, decide_true, decide_false, if_true, if_false, Bool.false_eq_true, Bool.not_true, Bool.not_false, r_ps, s_ps, r_pn, r_sl, s_sl, s_sl1, s_sl2, r_slL, r_slS, r_slT, r_lcT, s_l1, s_l2t, s_l2f, s_l3, r_lc, s_lc, s_noE, s_lceC, s_wr0, s_wr, r_nT, s_nT, r_nF, s_nF, r_nC, s_nC, s_sz0, s_sz1, Nat.reduceAdd, Nat.reduceMul, Nat.reduceLeDiff, last_x, at_m1, last_set, r_mt, s_mt, s_mtb, ty_last, r_fld', s_fld, r_meth0, s_meth0, r_meth, s_meth, s_methb, r_make, s_make, r_sf, s_sf, s_sfb, r_sort, s_sort, r_en, s_enL, r_zi, s_ziL, r_sst, r_mt0', r_gUl3, r_par3, s_par3, r_cmA, s_cmA, r_rev, s_revF, r_cw, s_cw, s_cw1, r_fill, r_isB, r_nTC, s_nTC, m_law_due, b_law_due, w0, t1, t2, decide_eq_false q, lv]
theorem due_no {d : D} (h : isX d = true) (h1 : isI d = false) (h2 : tStr d = false) (h3 : ∀ f z, d ≠ .tup [f, z]) : m_law_due [.fr d] S = .ok (.new (.lst [.fr (.bl false), .fr (.bl false), .fr (.bl false), .fr (.bl false), .fr (.bl false), .fr (.bl false)]), S) := by
  have w0 := whole_x wf h
  obtain ⟨_, _, t2, t1, _⟩ := isi_x h S
  rw [h1] at w0
  rw [h2] at t2
  have lv := due_lv wf
  cases ht : tTup d with
  | false =>
    rw [ht] at t1
    simp only [r_bind, r_1, s_1, r_2, s_2, s_2b, r_v, s_v, r_c, r_n, r_a, s_a, s_ab, r_g, s_g, r_and, s_And, s_and1, s_and0, r_or, s_Or, s_or1, s_or0, r_not, s_Not, s_not, r_if, s_if1, s_if0, r_ch, s_ch, s_cha, s_chb1, s_chb0, s_chc, r_tB, s_tB, r_tV, s_tV, s_tv, r_tN, s_tN, r_tA, s_tA1, s_tA0, r_tO, s_tO1, s_tO0, r_tT, r_trB, r_trI, r_trN, r_call, s_call, s_noX, s_backV, s_backC, s_backF, s_frz, r_frz, r_all0, r_all1, r_fn1, r_fn2, r_fn3, r_fn4, r_fn5, s_lvR, s_lvN, r_nx, r_bk, r_ct, r_seq, s_seqN, s_seqR, s_seqB, s_seqC, r_ret, s_ret, r_retN, r_sif, s_sif1, s_sif0, r_ex, s_ex, r_set, s_set, r_par, s_par, r_as, s_as, s_gb, r_gNm, r_gNl, r_gCs, s_gCs, r_gTu2, r_gTu3, r_gTu4, r_gSb, s_sb, s_sb2, s_st, s_nxS, r_au, s_au, s_au0, s_au1, s_au2, s_au3, r_addI, r_for, s_for, s_body, s_turnN, s_turnC, s_turnB, s_turnR, r_r1, s_r1, r_r2, s_r2, r_sq, s_sqL, s_sqS, r_tp, s_tp, r_xT, r_xL, s_x, s_xd, at_0, at_1, at_2, at_3, at_4, r_add, r_sub, r_neg, r_mul, r_fdiv, r_mod, r_pow, r_cmp, r_is, r_eqI, r_abs, r_int, r_max, r_min, r_okV, r_snap, r_lenF, r_lenT, DL.isNon, List.replicate_succ, List.replicate_zero, List.set_cons_zero, List.set_cons_succ, List.getElem?_cons_zero, List.getElem?_cons_succ, Option.map_some, Nat.reduceSub, and_self, and_true, true_and, decide_true, decide_false, if_true, if_false, Bool.false_eq_true, Bool.not_true, Bool.not_false, r_ps, s_ps, r_pn, r_sl, s_sl, s_sl1, s_sl2, r_slL, r_slS, r_slT, r_lcT, s_l1, s_l2t, s_l2f, s_l3, r_lc, s_lc, s_noE, s_lceC, s_wr0, s_wr, r_nT, s_nT, r_nF, s_nF, r_nC, s_nC, s_sz0, s_sz1, Nat.reduceAdd, Nat.reduceMul, Nat.reduceLeDiff, last_x, at_m1, last_set, r_mt, s_mt, s_mtb, ty_last, r_fld', s_fld, r_meth0, s_meth0, r_meth, s_meth, s_methb, r_make, s_make, r_sf, s_sf, s_sfb, r_sort, s_sort, r_en, s_enL, r_zi, s_ziL, r_sst, r_mt0', r_gUl3, r_par3, s_par3, r_cmA, s_cmA, r_rev, s_revF, r_cw, s_cw, s_cw1, r_fill, r_isB, r_nTC, s_nTC, m_law_due, b_law_due, w0, t1, t2, lv]
  | true =>
    rw [ht] at t1
    obtain ⟨ds, rfl⟩ : ∃ ds, d = .tup ds := by
      cases d with
      | tup ds => exact ⟨ds, rfl⟩
      | _ => simp [tTup] at ht
    have e2 : lenG [.fr (.tup ds)] S = .ok (.fr (.int ds.length), S) := rfl
    have q : ds.length ≠ 2 := fun q => by
      match ds, q with
      | [f, z], _ => exact h3 f z rfl
    have e4 : decide ((ds.length : Int) = 2) = false := decide_eq_false (by omega)
    simp only [r_bind, r_1, s_1, r_2, s_2, s_2b, r_v, s_v, r_c, r_n, r_a, s_a, s_ab, r_g, s_g, r_and, s_And, s_and1, s_and0, r_or, s_Or, s_or1, s_or0, r_not, s_Not, s_not, r_if, s_if1, s_if0, r_ch, s_ch, s_cha, s_chb1, s_chb0, s_chc, r_tB, s_tB, r_tV, s_tV, s_tv, r_tN, s_tN, r_tA, s_tA1, s_tA0, r_tO, s_tO1, s_tO0, r_tT, r_trB, r_trI, r_trN, r_call, s_call, s_noX, s_backV, s_backC, s_backF, s_frz, r_frz, r_all0, r_all1, r_fn1, r_fn2, r_fn3, r_fn4, r_fn5, s_lvR, s_lvN, r_nx, r_bk, r_ct, r_seq, s_seqN, s_seqR, s_seqB, s_seqC, r_ret, s_ret, r_retN, r_sif, s_sif1, s_sif0, r_ex, s_ex, r_set, s_set, r_par, s_par, r_as, s_as, s_gb, r_gNm, r_gNl, r_gCs, s_gCs, r_gTu2, r_gTu3, r_gTu4, r_gSb, s_sb, s_sb2, s_st, s_nxS, r_au, s_au, s_au0, s_au1, s_au2, s_au3, r_addI, r_for, s_for, s_body, s_turnN, s_turnC, s_turnB, s_turnR, r_r1, s_r1, r_r2, s_r2, r_sq, s_sqL, s_sqS, r_tp, s_tp, r_xT, r_xL, s_x, s_xd, at_0, at_1, at_2, at_3, at_4, r_add, r_sub, r_neg, r_mul, r_fdiv, r_mod, r_pow, r_cmp, r_is, r_eqI, r_abs, r_int, r_max, r_min, r_okV, r_snap, r_lenF, r_lenT, DL.isNon, List.replicate_succ, List.replicate_zero, List.set_cons_zero, List.set_cons_succ, List.getElem?_cons_zero, List.getElem?_cons_succ, Option.map_some, Nat.reduceSub, and_self, and_true, true_and, decide_true, decide_false, if_true, if_false, Bool.false_eq_true, Bool.not_true, Bool.not_false, r_ps, s_ps, r_pn, r_sl, s_sl, s_sl1, s_sl2, r_slL, r_slS, r_slT, r_lcT, s_l1, s_l2t, s_l2f, s_l3, r_lc, s_lc, s_noE, s_lceC, s_wr0, s_wr, r_nT, s_nT, r_nF, s_nF, r_nC, s_nC, s_sz0, s_sz1, Nat.reduceAdd, Nat.reduceMul, Nat.reduceLeDiff, last_x, at_m1, last_set, r_mt, s_mt, s_mtb, ty_last, r_fld', s_fld, r_meth0, s_meth0, r_meth, s_meth, s_methb, r_make, s_make, r_sf, s_sf, s_sfb, r_sort, s_sort, r_en, s_enL, r_zi, s_ziL, r_sst, r_mt0', r_gUl3, r_par3, s_par3, r_cmA, s_cmA, r_rev, s_revF, r_cw, s_cw, s_cw1, r_fill, r_isB, r_nTC, s_nTC, m_law_due, b_law_due, w0, t1, t2, e2, e4, lv]
theorem due_all {d : D} (h : isX d = true) (hs : ∀ s, d = .str s → PyData.strOk s = true ∧ s.length ≤ 1000) (hp : ∀ s z, d = .tup [.str s, z] → PyData.strOk s = true) :
    m_law_due [.fr d] S = .ok (.new (.lst [.fr (.bl (isI d)), .fr (.bl (byteB d)), .fr (.bl (spanB d)), .fr (.bl (levB d)), .fr (.bl (nameB d)), .fr (.bl (ownB d))]), S) := by
  cases d with
  | int i => exact due_int wf i
  | str s => exact due_str wf (hs s rfl).1 (hs s rfl).2
  | tup ds =>
    by_cases q : ds.length = 2
    · match ds, q with
      | [f, z], _ =>
        simp only [isX, isXs, Bool.and_eq_true] at h
        exact due_tup2 wf h.1 h.2.1 fun s e => by subst e; exact hp s z rfl
    · have e1 : spanB (.tup ds) = false := by
        match ds, q with
        | [], _ => rfl
        | [_], _ => rfl
        | [_, _], q => exact absurd rfl q
        | _ :: _ :: _ :: _, _ => rfl
      have e2 : ownB (.tup ds) = false := by
        match ds, q with
        | [], _ => rfl
        | [_], _ => rfl
        | [_, _], q => exact absurd rfl q
        | _ :: _ :: _ :: _, _ => rfl
      rw [e1, e2]
      exact due_no wf h rfl rfl fun f z e => by
        cases e
        exact q rfl
  | _ => exact due_no wf h rfl rfl fun f z e => by cases e
end

/-! texts of data with empty dicts -/
mutual
theorem x_of : ∀ {d : D}, isP d = true → isX d = true ∧ pyX d = py d
  | .non, _ => ⟨rfl, rfl⟩
  | .bl _, _ => ⟨rfl, rfl⟩
  | .int _, _ => ⟨rfl, rfl⟩
  | .str _, _ => ⟨rfl, rfl⟩
  | .tup ds, h => by
    obtain ⟨a, b⟩ := xs_of (ds := ds) (by simpa only [isP] using h)
    exact ⟨by simpa only [isX] using a, by simp only [pyX, py, b]⟩
  | .lst ds, h => by
    obtain ⟨a, b⟩ := xs_of (ds := ds) (by simpa only [isP] using h)
    exact ⟨by simpa only [isX] using a, by simp only [pyX, py, b]⟩
  | .scr ds, h => by
    obtain ⟨a, b⟩ := xs_of (ds := ds) (by simpa only [isP] using h)
    exact ⟨by simpa only [isX] using a, by simp only [pyX, py, b]⟩
  | .ty _, h => by simp [isP] at h
  | .ref _, h => by simp [isP] at h
  | .ins _ _, h => by simp [isP] at h
  | .cls _, h => by simp [isP] at h
  | .dct _, h => by simp [isP] at h
theorem xs_of : ∀ {ds : List D}, isPs ds = true → isXs ds = true ∧ pyXs ds = pys ds
  | [], _ => ⟨rfl, rfl⟩
  | d :: ds, h => by
    simp only [isPs, Bool.and_eq_true] at h
    obtain ⟨a, b⟩ := x_of h.1
    obtain ⟨c, e⟩ := xs_of h.2
    exact ⟨by simp only [isXs, a, c, Bool.and_self], by simp only [pyXs, pys, b, e]⟩
end
structure XOk (B : Nat) (d : D) : Prop where
  x : isX d = true
  show_ : (pyX d).showable = true
  lv : (pyX d).leavesShort 130 = true
  bk : (pyX d).bulk ≤ B
  dp : (pyX d).depth ≤ 63
theorem xok_fit {B : Nat} {d : D} (h : fit 63 d = true) (hb : (py d).bulk ≤ B) : XOk B d := by
  obtain ⟨a, b⟩ := fit_p 63 d h
  obtain ⟨c, e⟩ := x_of a
  exact ⟨c, by rw [e]; exact b.show_, by rw [e]; exact PyData.leavesShort_of_canLay0 130 _ b.lay b.nsh, by rw [e]; exact hb, by rw [e]; exact b.dep⟩
theorem reprX_of {S : Store} {d : D} (h : rOkX d = true) : reprXG [.fr d] S = .ok (.fr (.str (rTxtX d)), S) := by
  unfold reprXG
  simp only [snap, h, if_true]
  rfl

structure YOk (B n : Nat) (d : D) : Prop where
  x : isX d = true
  sh : (pyX d).showable = true
  lv : (pyX d).leavesShort 130 = true
  bk : (pyX d).bulk ≤ B
  dp : (pyX d).depth ≤ n
theorem YOk.mono {B C n m : Nat} {d : D} (h : YOk B n d) (h1 : B ≤ C) (h2 : n ≤ m) : YOk C m d := ⟨h.x, h.sh, h.lv, Nat.le_trans h.bk h1, Nat.le_trans h.dp h2⟩
theorem y_fit {B n : Nat} {d : D} (h : fit 63 d = true) (hb : (py d).bulk ≤ B) (hd : (py d).depth ≤ n) : YOk B n d := by
  have o := xok_fit h hb
  obtain ⟨_, e⟩ := x_of (fit_p 63 d h).1
  exact ⟨o.x, o.show_, o.lv, o.bk, by rw [e]; exact hd⟩
theorem y_seq {B n : Nat} : ∀ {ds : List D}, (∀ d ∈ ds, YOk B n d) → isXs ds = true ∧ PyData.showableAll (pyXs ds) = true ∧ PyData.leavesShortAll 130 (pyXs ds) = true ∧ PyData.bulkAll (pyXs ds) ≤ (B + 1) * ds.length ∧ PyData.depthAll (pyXs ds) ≤ n
  | [], _ => by simp [isXs, pyXs, PyData.showableAll, PyData.leavesShortAll, PyData.bulkAll, PyData.depthAll]
  | d :: ds, h => by
    obtain ⟨a, b, c, e, f⟩ := y_seq (ds := ds) fun x hx => h x (List.mem_cons_of_mem _ hx)
    have o := h d List.mem_cons_self
    have h1 := o.bk
    have h2 := o.dp
    simp only [isXs, pyXs, PyData.showableAll, PyData.leavesShortAll, PyData.bulkAll, PyData.depthAll, o.x, o.sh, o.lv, a, b, c, Bool.and_self, List.length_cons, true_and]
    refine ⟨?_, by omega⟩
    rw [Nat.mul_succ]
    omega
theorem y_tup {B n m : Nat} {ds : List D} (h : ∀ d ∈ ds, YOk B n d) (hl : ds.length ≤ m) : YOk ((B + 1) * m) (n + 1) (.tup ds) := by
  obtain ⟨a, b, c, e, f⟩ := y_seq h
  refine ⟨by simpa only [isX] using a, by simpa only [pyX, PyData.showable] using b, by simpa only [pyX, PyData.leavesShort] using c, ?_, ?_⟩
  · simp only [pyX, PyData.bulk]
    exact Nat.le_trans e (Nat.mul_le_mul_left _ hl)
  · simp only [pyX, PyData.depth]
    omega
theorem y_lst {B n m : Nat} {ds : List D} (h : ∀ d ∈ ds, YOk B n d) (hl : ds.length ≤ m) : YOk ((B + 1) * m) (n + 1) (.lst ds) := by
  obtain ⟨a, b, c, e, f⟩ := y_seq h
  refine ⟨by simpa only [isX] using a, by simpa only [pyX, PyData.showable] using b, by simpa only [pyX, PyData.leavesShort] using c, ?_, ?_⟩
  · simp only [pyX, PyData.bulk]
    exact Nat.le_trans e (Nat.mul_le_mul_left _ hl)
  · simp only [pyX, PyData.depth]
    omega
theorem YOk.ro {B n : Nat} {d : D} (h : YOk B n d) (hB : B ≤ 100000) (hn : n ≤ 64) : rOkX d = true := by
  have h1 := h.bk
  have h2 := h.dp
  unfold rOkX
  simp only [h.x, h.sh, h.lv, Bool.true_and, Bool.and_eq_true, decide_eq_true_eq]
  omega
theorem slStr {z : Str} (h : z.length ≤ 16777216) (lo hi : Option Int) (S : Store) : slG false (.fr (.str z)) lo hi S = .ok (.fr (.str (cutS z lo hi)), S) := by
  unfold slG
  simp only [rdS, rdL]
  rw [if_pos (by rw [sizeLine_eq]; exact h)]
  rfl
theorem adStr {a b : Str} (h : a.length + b.length ≤ 16777216) (c : Bool) (S : Store) : addG c (.fr (.str a)) (.fr (.str b)) S = .ok (.fr (.str (a ++ b)), S) := by
  unfold addG
  simp only
  rw [if_pos (by rw [sizeLine_eq]; exact h)]
  rfl
theorem strOk_cut {z : Str} (h : PyData.strOk z = true) (lo hi : Option Int) : PyData.strOk (cutS z lo hi) = true := by
  unfold PyData.strOk at h ⊢
  rw [← Array.all_toList, List.all_eq_true] at h ⊢
  intro c hc
  unfold cutS at hc
  rw [List.toList_toArray] at hc
  exact h c (List.mem_of_mem_drop (List.mem_of_mem_take hc))
theorem strOk_app {a b : Str} (h : PyData.strOk a = true) (k : PyData.strOk b = true) : PyData.strOk (a ++ b) = true := by
  unfold PyData.strOk at h k ⊢
  show (a.cps ++ b.cps).all _ = true
  rw [Array.all_append, h, k]
  rfl
theorem len_app (a b : Str) : (a ++ b).length = a.length + b.length := by
  show (a.cps ++ b.cps).size = a.cps.size + b.cps.size
  rw [Array.size_append]
theorem len_to (z : Str) (a : Nat) (h : a ≤ z.length) : (cutS z none (some (a : Int))).length = a := by
  show (((z.cps.toList.drop (HT.sIx z.length 0 none)).take (HT.sIx z.length z.length (some (a : Int)) - HT.sIx z.length 0 none)).toArray).size = a
  rw [HT.sIx_none, HT.sIx_nat, List.size_toArray, List.length_take, List.length_drop, Array.length_toList]
  have : z.cps.size = z.length := rfl
  omega
theorem len_from (z : Str) (a : Nat) : (cutS z (some (a : Int)) none).length = z.length - a := by
  show (((z.cps.toList.drop (HT.sIx z.length 0 (some (a : Int)))).take (HT.sIx z.length z.length none - HT.sIx z.length 0 (some (a : Int)))).toArray).size = z.length - a
  rw [HT.sIx_none, HT.sIx_nat, List.size_toArray, List.length_take, List.length_drop, Array.length_toList]
  have : z.cps.size = z.length := rfl
  omega
/-! things drawn -/
structure Kd (B n : Nat) (d : D) : Prop where
  y : YOk B n d
  s : ∀ s, d = .str s → PyData.strOk s = true ∧ s.length ≤ 1000
  t : ∀ s z, d = .tup [.str s, z] → PyData.strOk s = true
theorem kd_of {B n : Nat} {d : D} (h : fit 63 d = true) (hb : (py d).bulk ≤ B) (hd : (py d).depth ≤ n) (hs : ∀ s, d = .str s → PyData.strOk s = true ∧ s.length ≤ 1000) (ht : ∀ s z, d = .tup [.str s, z] → PyData.strOk s = true) : Kd B n d := ⟨y_fit h hb hd, hs, ht⟩
theorem Kd.mono {B C n m : Nat} {d : D} (h : Kd B n d) (h1 : B ≤ C) (h2 : n ≤ m) : Kd C m d := ⟨h.y.mono h1 h2, h.s, h.t⟩
theorem kd_int {i : Int} (h : i.natAbs < 10 ^ 129) : Kd 60 3 (.int i) := kd_of (fit_int h) (by simp [py, PyData.bulk]) (by simp [py, PyData.depth]) (fun _ e => by cases e) (fun _ _ e => by cases e)
theorem kd_str {s : Str} (h : PyData.strOk s = true) (hl : s.length ≤ 60) : Kd 60 3 (.str s) := kd_of (by simpa only [fit] using h) (by
    simp only [py, PyData.bulk]
    have : s.cps.size = s.length := rfl
    omega) (by simp [py, PyData.depth]) (fun t e => by cases e; exact ⟨h, by omega⟩) (fun _ _ e => by cases e)
abbrev A1 : List D := [.non, .bl true, .bl false, .str "", .str "a", .str "process", .str "open", .str "opens", .str "abcdefgh", .str "abcdefghi", .str "aB", .str "a1", .str "a b", .str "z{"]
abbrev A2 : List D := [.tup [], .lst [], .dct [], .tup [.int 0, .int 1], .str "Process", .str "0", .lst [.int 0, .int 1], .str "a\n", .tup [.str "open", .int 0], .str "process "]
theorem kd_a1 : ∀ d ∈ A1, Kd 60 3 d := by
  simp only [List.forall_mem_cons]
  refine ⟨?_, ?_, ?_, kd_str (by decide +kernel) (by decide +kernel), kd_str (by decide +kernel) (by decide +kernel), kd_str (by decide +kernel) (by decide +kernel), kd_str (by decide +kernel) (by decide +kernel), kd_str (by decide +kernel) (by decide +kernel), kd_str (by decide +kernel) (by decide +kernel), kd_str (by decide +kernel) (by decide +kernel), kd_str (by decide +kernel) (by decide +kernel), kd_str (by decide +kernel) (by decide +kernel), kd_str (by decide +kernel) (by decide +kernel), kd_str (by decide +kernel) (by decide +kernel), fun _ h => (by cases h)⟩
  · exact kd_of (by simp [fit]) (by simp [py, PyData.bulk]) (by simp [py, PyData.depth]) (fun _ e => by cases e) (fun _ _ e => by cases e)
  · exact kd_of (by simp [fit]) (by simp [py, PyData.bulk]) (by simp [py, PyData.depth]) (fun _ e => by cases e) (fun _ _ e => by cases e)
  · exact kd_of (by simp [fit]) (by simp [py, PyData.bulk]) (by simp [py, PyData.depth]) (fun _ e => by cases e) (fun _ _ e => by cases e)
theorem kd_a2 : ∀ d ∈ A2, Kd 60 3 d := by
  simp only [List.forall_mem_cons]
  refine ⟨?_, ?_, ?_, ?_, kd_str (by decide +kernel) (by decide +kernel), kd_str (by decide +kernel) (by decide +kernel), ?_, kd_str (by decide +kernel) (by decide +kernel), ?_, kd_str (by decide +kernel) (by decide +kernel), fun _ h => (by cases h)⟩
  · exact kd_of (by simp [fit, fits]) (by simp [py, pys, PyData.bulk, PyData.bulkAll]) (by simp [py, pys, PyData.depth, PyData.depthAll]) (fun _ e => by cases e) (fun _ _ e => by cases e)
  · exact kd_of (by simp [fit, fits]) (by simp [py, pys, PyData.bulk, PyData.bulkAll]) (by simp [py, pys, PyData.depth, PyData.depthAll]) (fun _ e => by cases e) (fun _ _ e => by cases e)
  · exact ⟨⟨rfl, rfl, rfl, Nat.zero_le _, show (1 : Nat) ≤ 3 by decide⟩, (fun _ e => by cases e), (fun _ _ e => by cases e)⟩
  · exact kd_of (by simp [fit, fits]) (by simp [py, pys, PyData.bulk, PyData.bulkAll]) (by simp [py, pys, PyData.depth, PyData.depthAll]) (fun _ e => by cases e) (fun _ _ e => by cases e)
  · exact kd_of (by simp [fit, fits]) (by simp [py, pys, PyData.bulk, PyData.bulkAll]) (by simp [py, pys, PyData.depth, PyData.depthAll]) (fun _ e => by cases e) (fun _ _ e => by cases e)
  · exact kd_of (by simp only [fit, fits]; decide +kernel) (by simp only [py, pys, PyData.bulk, PyData.bulkAll]; decide +kernel) (by simp [py, pys, PyData.depth, PyData.depthAll]) (fun _ e => by cases e) (fun _ _ e => by cases e; decide +kernel)
theorem num_run (b : Bag) (hb : b.Ok) (R : Store) (w : WF (b.c :: R)) : ∃ (v : Int) (b' : Bag), Bag.Ok b' ∧ WF (b'.c :: R) ∧ v.natAbs < 10 ^ 50 ∧ m_law_number [.cell 0] (b.c :: R) = .ok (.val (.fr (.int v)), b'.c :: R) := by
  obtain ⟨v1, b1, l1, u1, k1, w1, e1⟩ := take_run b hb 9 (by decide) (by decide) R w
  obtain ⟨v2, b2, l2, u2, k2, w2, e2⟩ := take_run b1 k1 9 (by decide) (by decide) R w1
  obtain ⟨v3, b3, l3, u3, k3, w3, e3⟩ := take_run b2 k2 10 (by decide) (by decide) R w2
  have p1 : CPow 10 12 := by decide
  have g1 : (10 : Int) ^ (12 : Int).toNat = 1000000000000 := rfl
  have p2 : CPow 10 30 := by decide
  have g2 : (10 : Int) ^ (30 : Int).toNat = 1000000000000000000000000000000 := rfl
  have p3 : CPow 10 39 := by decide
  have g3 : (10 : Int) ^ (39 : Int).toNat = 1000000000000000000000000000000000000000 := rfl
  have p4 : CPow 10 40 := by decide
  have g4 : (10 : Int) ^ (40 : Int).toNat = 10000000000000000000000000000000000000000 := rfl
  obtain ⟨v, hv, at_⟩ : ∃ v : Int, v.natAbs < 10 ^ 50 ∧ atI [D.int 0, .int 1, .int 2, .int 3, .int (-1), .int v1, .int (1000000000000 + v2), .int 1000000000000000000000000000000000000000, .int 10000000000000000000000000000000000000000, .int (-1000000000000000000000000000000)] v3 = some (.int v) := by
    rcases (show v3 = 0 ∨ v3 = 1 ∨ v3 = 2 ∨ v3 = 3 ∨ v3 = 4 ∨ v3 = 5 ∨ v3 = 6 ∨ v3 = 7 ∨ v3 = 8 ∨ v3 = 9 by omega) with rfl | rfl | rfl | rfl | rfl | rfl | rfl | rfl | rfl | rfl
    · exact ⟨_, by decide, rfl⟩
    · exact ⟨_, by decide, rfl⟩
    · exact ⟨_, by decide, rfl⟩
    · exact ⟨_, by decide, rfl⟩
    · exact ⟨_, by decide, rfl⟩
    · exact ⟨_, by omega, rfl⟩
    · exact ⟨_, by omega, rfl⟩
    · exact ⟨_, by decide, rfl⟩
    · exact ⟨_, by decide, rfl⟩
    · exact ⟨_, by decide, rfl⟩
  have lv := leave_val w3 (d := .int v)
  have ng : ∀ S : Store, negG (.fr (.int 1000000000000000000000000000000)) S = .ok (.fr (.int (-1000000000000000000000000000000)), S) := fun _ => rfl
  refine ⟨v, b3, k3, w3, hv, ?_⟩
  simp only [r_bind, r_1, s_1, r_2, s_2, s_2b, r_v, s_v, r_c, r_n, r_a, s_a, s_ab, r_g, s_g, r_and, s_And, s_and1, s_and0, r_or, s_Or, s_or1, s_or0, r_not, s_Not, s_not, r_if, s_if1, s_if0, r_ch, s_ch, s_cha, s_chb1, s_chb0, s_chc, r_tB, s_tB, r_tV, s_tV, s_tv, r_tN, s_tN, r_tA, s_tA1, s_tA0, r_tO, s_tO1, s_tO0, r_tT, r_trB, r_trI, r_trN, r_call, s_call, s_noX, s_backV, s_backC, s_backF, s_frz, r_frz, r_all0, r_all1, r_fn1, r_fn2, r_fn3, r_fn4, r_fn5, s_lvR, s_lvN, r_nx, r_bk, r_ct, r_seq, s_seqN, s_seqR, s_seqB, s_seqC, r_ret, s_ret, r_retN, r_sif, s_sif1, s_sif0, r_ex, s_ex, r_set, s_set, r_par, s_par, r_as, s_as, s_gb, r_gNm, r_gNl, r_gCs, s_gCs, r_gTu2, r_gTu3, r_gTu4, r_gSb, s_sb, s_sb2, s_st, s_nxS, r_au, s_au, s_au0, s_au1, s_au2, s_au3, r_addI, r_for, s_for, s_body, s_turnN, s_turnC, s_turnB, s_turnR, r_r1, s_r1, r_r2, s_r2, r_sq, s_sqL, s_sqS, r_tp, s_tp, r_xT, r_xL, s_x, s_xd, at_0, at_1, at_2, at_3, at_4, r_add, r_sub, r_neg, r_mul, r_fdiv, r_mod, r_pow, r_cmp, r_is, r_eqI, r_abs, r_int, r_max, r_min, r_okV, r_snap, r_lenF, r_lenT, DL.isNon, List.replicate_succ, List.replicate_zero, List.set_cons_zero, List.set_cons_succ, List.getElem?_cons_zero, List.getElem?_cons_succ, Option.map_some, Nat.reduceSub, and_self, and_true, true_and, decide_true, decide_false, if_true, if_false, Bool.false_eq_true, Bool.not_true, Bool.not_false, r_ps, s_ps, r_pn, r_sl, s_sl, s_sl1, s_sl2, r_slL, r_slS, r_slT, r_lcT, s_l1, s_l2t, s_l2f, s_l3, r_lc, s_lc, s_noE, s_lceC, s_wr0, s_wr, r_nT, s_nT, r_nF, s_nF, r_nC, s_nC, s_sz0, s_sz1, Nat.reduceAdd, Nat.reduceMul, Nat.reduceLeDiff, last_x, at_m1, last_set, r_mt, s_mt, s_mtb, ty_last, r_fld', s_fld, r_meth0, s_meth0, r_meth, s_meth, s_methb, r_make, s_make, r_sf, s_sf, s_sfb, r_sort, s_sort, r_en, s_enL, r_zi, s_ziL, r_sst, r_mt0', r_gUl3, r_par3, s_par3, r_cmA, s_cmA, r_rev, s_revF, r_cw, s_cw, s_cw1, r_fill, r_isB, r_nTC, s_nTC, m_law_number, b_law_number, take_is, e1, e2, e3, p1, g1, p2, g2, p3, g3, p4, g4, negone, ng, at_]
  exact lv
theorem atom_run (b : Bag) (hb : b.Ok) (R : Store) (w : WF (b.c :: R)) : ∃ (d : D) (b' : Bag), Bag.Ok b' ∧ WF (b'.c :: R) ∧ Kd 60 3 d ∧ m_law_atom [.cell 0] (b.c :: R) = .ok (.val (.fr d), b'.c :: R) := by
  obtain ⟨v1, b1, l1, u1, k1, w1, e1⟩ := take_run b hb 24 (by decide) (by decide) R w
  obtain ⟨n, b2, k2, w2, hn, e2⟩ := num_run b1 k1 R w1
  obtain ⟨v3, b3, l3, u3, k3, w3, e3⟩ := take_run b2 k2 2 (by decide) (by decide) R w2
  have ad : addG false (.fr (.lst A1)) (.fr (.lst A2)) (b.c :: R) = .ok (.fr (.lst (A1 ++ A2)), b.c :: R) := by
    rw [add_ff false (by simp), if_neg (by decide)]
  have all : ∀ d ∈ A1 ++ A2, Kd 60 3 d := fun d hd => by
    rcases List.mem_append.mp hd with hd | hd
    · exact kd_a1 d hd
    · exact kd_a2 d hd
  have hlen : (A1 ++ A2).length = 24 := rfl
  obtain ⟨m, rfl⟩ : ∃ m : Nat, v1 = (m : Int) := ⟨v1.toNat, by omega⟩
  generalize hL : A1 ++ A2 = L at *
  have lt : m < L.length := by omega
  have at_ : atI L (m : Int) = some (L[m]) := by rw [DL.atI_nat, List.getElem?_eq_getElem lt]
  have hd := all _ (List.getElem_mem lt)
  generalize L[m] = d at *
  have dn : ∀ (rho : Slots) (S : Store), eDN false rho S = .ok (.fr (.dct []), S) := fun _ _ => rfl
  obtain ⟨z, hz, at2⟩ : ∃ z : D, Kd 60 3 z ∧ atI [d, .int n] v3 = some z := by
    rcases (show v3 = 0 ∨ v3 = 1 by omega) with rfl | rfl
    · exact ⟨_, hd, rfl⟩
    · exact ⟨_, kd_int (by omega), rfl⟩
  have lv := leave_val w3 (d := z)
  refine ⟨z, b3, k3, w3, hz, ?_⟩
  simp only [r_bind, r_1, s_1, r_2, s_2, s_2b, r_v, s_v, r_c, r_n, r_a, s_a, s_ab, r_g, s_g, r_and, s_And, s_and1, s_and0, r_or, s_Or, s_or1, s_or0, r_not, s_Not, s_not, r_if, s_if1, s_if0, r_ch, s_ch, s_cha, s_chb1, s_chb0, s_chc, r_tB, s_tB, r_tV, s_tV, s_tv, r_tN, s_tN, r_tA, s_tA1, s_tA0, r_tO, s_tO1, s_tO0, r_tT, r_trB, r_trI, r_trN, r_call, s_call, s_noX, s_backV, s_backC, s_backF, s_frz, r_frz, r_all0, r_all1, r_fn1, r_fn2, r_fn3, r_fn4, r_fn5, s_lvR, s_lvN, r_nx, r_bk, r_ct, r_seq, s_seqN, s_seqR, s_seqB, s_seqC, r_ret, s_ret, r_retN, r_sif, s_sif1, s_sif0, r_ex, s_ex, r_set, s_set, r_par, s_par, r_as, s_as, s_gb, r_gNm, r_gNl, r_gCs, s_gCs, r_gTu2, r_gTu3, r_gTu4, r_gSb, s_sb, s_sb2, s_st, s_nxS, r_au, s_au, s_au0, s_au1, s_au2, s_au3, r_addI, r_for, s_for, s_body, s_turnN, s_turnC, s_turnB, s_turnR, r_r1, s_r1, r_r2, s_r2, r_sq, s_sqL, s_sqS, r_tp, s_tp, r_xT, r_xL, s_x, s_xd, at_0, at_1, at_2, at_3, at_4, r_add, r_sub, r_neg, r_mul, r_fdiv, r_mod, r_pow, r_cmp, r_is, r_eqI, r_abs, r_int, r_max, r_min, r_okV, r_snap, r_lenF, r_lenT, DL.isNon, List.replicate_succ, List.replicate_zero, List.set_cons_zero, List.set_cons_succ, List.getElem?_cons_zero, List.getElem?_cons_succ, Option.map_some, Nat.reduceSub, and_self, and_true, true_and, decide_true, decide_false, if_true, if_false, Bool.false_eq_true, Bool.not_true, Bool.not_false, r_ps, s_ps, r_pn, r_sl, s_sl, s_sl1, s_sl2, r_slL, r_slS, r_slT, r_lcT, s_l1, s_l2t, s_l2f, s_l3, r_lc, s_lc, s_noE, s_lceC, s_wr0, s_wr, r_nT, s_nT, r_nF, s_nF, r_nC, s_nC, s_sz0, s_sz1, Nat.reduceAdd, Nat.reduceMul, Nat.reduceLeDiff, last_x, at_m1, last_set, r_mt, s_mt, s_mtb, ty_last, r_fld', s_fld, r_meth0, s_meth0, r_meth, s_meth, s_methb, r_make, s_make, r_sf, s_sf, s_sfb, r_sort, s_sort, r_en, s_enL, r_zi, s_ziL, r_sst, r_mt0', r_gUl3, r_par3, s_par3, r_cmA, s_cmA, r_rev, s_revF, r_cw, s_cw, s_cw1, r_fill, r_isB, r_nTC, s_nTC, m_law_atom, b_law_atom, take_is, dn, ad, e1, at_, e2, e3, at2]
  exact lv

/-! texts drawn -/
theorem ix_str {z : Str} (hz : z.length ≤ 16777216) {m : Nat} (h : m < z.cps.toList.length) (S : Store) : ixG (.fr (.str z)) (.fr (.int (m : Int))) S = .ok (.fr (.str ⟨#[z.cps.toList[m]]⟩), S) := by
  unfold ixG
  simp only [rdS, rdL]
  rw [if_pos (by rw [sizeLine_eq]; exact hz), DL.atI_nat, List.getElem?_eq_getElem h]
  rfl
theorem one_ok {z : Str} (hs : PyData.strOk z = true) {m : Nat} (h : m < z.cps.toList.length) : PyData.strOk (⟨#[z.cps.toList[m]]⟩ : Str) = true := by
  unfold PyData.strOk at hs ⊢
  rw [← Array.all_toList, List.all_eq_true] at hs
  have := hs _ (List.getElem_mem h)
  simpa using this
theorem glue_go : ∀ (r : List Str) (acc : Array Nat), (∀ z ∈ r, PyData.strOk z = true ∧ z.length = 1) → acc.all (· < 0x110000) = true → (r.foldl (fun (acc : Array Nat) (p : Str) => acc ++ ("" : Str).cps ++ p.cps) acc).all (· < 0x110000) = true ∧ (r.foldl (fun (acc : Array Nat) (p : Str) => acc ++ ("" : Str).cps ++ p.cps) acc).size = acc.size + r.length
  | [], acc, _, h => ⟨h, rfl⟩
  | z :: r, acc, h, ha => by
    have hz := h z List.mem_cons_self
    have h0 : (("" : Str).cps.all (· < 0x110000)) = true := by decide +kernel
    have h1 : ("" : Str).cps.size = 0 := by decide +kernel
    have hz1 : (z.cps.all (· < 0x110000)) = true := hz.1
    have hz2 : z.cps.size = 1 := hz.2
    obtain ⟨a, b⟩ := glue_go r (acc ++ ("" : Str).cps ++ z.cps) (fun x hx => h x (List.mem_cons_of_mem _ hx)) (by rw [Array.all_append, Array.all_append, ha, h0, hz1]; rfl)
    rw [List.foldl_cons]
    refine ⟨a, ?_⟩
    rw [b, Array.size_append, Array.size_append, h1, hz2, List.length_cons]
    omega
theorem join0 (zs : List Str) (h : ∀ z ∈ zs, PyData.strOk z = true ∧ z.length = 1) : PyData.strOk (Txt.join "" zs) = true ∧ (Txt.join "" zs).length = zs.length := by
  cases zs with
  | nil => exact ⟨by decide +kernel, by decide +kernel⟩
  | cons z r =>
    have hz := h z List.mem_cons_self
    obtain ⟨a, b⟩ := glue_go r z.cps (fun x hx => h x (List.mem_cons_of_mem _ hx)) hz.1
    refine ⟨a, ?_⟩
    show ((r.foldl (fun (acc : Array Nat) (p : Str) => acc ++ ("" : Str).cps ++ p.cps) z.cps)).size = r.length + 1
    have hz2 : z.cps.size = 1 := hz.2
    rw [b, hz2]
    omega
theorem strs_fr : ∀ zs : List Str, strsOf ((zs.map D.str).map SV.fr) = some zs
  | [] => rfl
  | z :: zs => by
    rw [List.map_cons, List.map_cons]
    unfold strsOf
    rw [strs_fr zs]
    rfl
theorem join_lst {zs : List Str} (h : ∀ z ∈ zs, PyData.strOk z = true ∧ z.length = 1) (hl : zs.length ≤ 1000) (S : Store) : joinG (.fr (.str "")) [.fr (.lst (zs.map D.str))] S = .ok (.fr (.str (Txt.join "" zs)), S) := by
  unfold joinG
  simp only [rdS, rdL, strs_fr]
  have e : (zs.map (·.length)).sum = zs.length := by
    clear hl
    induction zs with
    | nil => rfl
    | cons z zs ih =>
      rw [List.map_cons, List.sum_cons, ih fun x hx => h x (List.mem_cons_of_mem _ hx), (h z List.mem_cons_self).2, List.length_cons]
      omega
  rw [if_pos (by
    rw [e]
    have : ("" : Str).length = 0 := by decide +kernel
    rw [this]
    omega)]
  rfl
theorem mul01 {z : Str} {v : Int} (hs : PyData.strOk z = true) (hl : z.length ≤ 1) (hv : 0 ≤ v ∧ v < 2) : ∃ t : Str, PyData.strOk t = true ∧ t.length ≤ 1 ∧ ∀ S, mulSG (.fr (.str z)) (.fr (.int v)) S = .ok (.fr (.str t), S) := by
  rcases (show v = 0 ∨ v = 1 by omega) with rfl | rfl
  · exact ⟨Str.empty, by decide +kernel, by decide +kernel, fun _ => rfl⟩
  · exact ⟨z, hs, hl, fun _ => rfl⟩
abbrev oths : Str := " !#$&'()*+,-./0123456789:;<=>?@\x5b]^_`{|}~ABYZ\n"
theorem text_run (b : Bag) (hb : b.Ok) (R : Store) (w : WF (b.c :: R)) : ∃ (t : Str) (b' : Bag), Bag.Ok b' ∧ WF (b'.c :: R) ∧ PyData.strOk t = true ∧ t.length ≤ 60 ∧ m_law_text [.cell 0] (b.c :: R) = .ok (.val (.fr (.str t)), b'.c :: R) := by
  obtain ⟨v1, b1, l1, u1, k1, w1, e1⟩ := take_run b hb 10 (by decide) (by decide) R w
  have cm : ∃ acc' S', lcM (fun _ => True) (gNm 7) tTr (DL.e2 ixG (eV 1) (eCall m_law_take false (aC (eV 0) (aC (eC (.int 26)) aN)))) [6, 7] [some (.cell 0), some (.fr (.str "abcdefghijklmnopqrstuvwxyz")), none, none, none, none, none, none] (rngS 0 v1.toNat) (b1.c :: R) [] = .ok (acc', S') ∧
      ∃ (b : Bag) (zs : List Str), Bag.Ok b ∧ WF (b.c :: R) ∧ S' = b.c :: R ∧ acc' = (zs.map D.str).map SV.fr ∧ (∀ z ∈ zs, PyData.strOk z = true ∧ z.length = 1) ∧ zs.length + ([] : List SV).length = v1.toNat := by
    refine lc_inv (fun xs acc S => ∃ (b : Bag) (zs : List Str), Bag.Ok b ∧ WF (b.c :: R) ∧ S = b.c :: R ∧ acc = (zs.map D.str).map SV.fr ∧ (∀ z ∈ zs, PyData.strOk z = true ∧ z.length = 1) ∧ zs.length + xs.length = v1.toNat) (fun _ _ _ _ => trivial) (fun x xs acc S h => ?_) _ _ _ ⟨b1, [], k1, w1, rfl, rfl, (fun _ h => by cases h), by rw [rng_len, List.length_nil, Nat.zero_add]⟩
    obtain ⟨b, zs, hb, w, rfl, rfl, hz, hl⟩ := h
    obtain ⟨v, b2, q1, q2, k2, w2, et⟩ := take_run b hb 26 (by decide) (by decide) (R ++ [.lst ((zs.map D.str).map SV.fr)]) (wf1 w (by simp only [Cell.below]; exact below_map _ _))
    obtain ⟨m, rfl⟩ : ∃ m : Nat, v = (m : Int) := ⟨v.toNat, by omega⟩
    have ll : ltrs.cps.toList.length = 26 := by decide +kernel
    have hm : m < ltrs.cps.toList.length := by rw [ll]; omega
    have ix := ix_str (z := ltrs) (by decide +kernel) hm (b2.c :: (R ++ [.lst ((zs.map D.str).map SV.fr)]))
    have ok := one_ok (z := ltrs) (by decide +kernel) hm
    generalize ltrs.cps.toList[m] = c at *
    refine ⟨some (.fr (.str ⟨#[c]⟩)), b2.c :: R, rfl, ?_, ?_⟩
    · show lcT _ _ _ _ _ (b.c :: (R ++ [.lst ((zs.map D.str).map SV.fr)])) = .ok (_, b2.c :: (R ++ [.lst ((zs.map D.str).map SV.fr)]))
      simp only [r_bind, r_1, s_1, r_2, s_2, s_2b, r_v, s_v, r_c, r_n, r_a, s_a, s_ab, r_g, s_g, r_and, s_And, s_and1, s_and0, r_or, s_Or, s_or1, s_or0, r_not, s_Not, s_not, r_if, s_if1, s_if0, r_ch, s_ch, s_cha, s_chb1, s_chb0, s_chc, r_tB, s_tB, r_tV, s_tV, s_tv, r_tN, s_tN, r_tA, s_tA1, s_tA0, r_tO, s_tO1, s_tO0, r_tT, r_trB, r_trI, r_trN, r_call, s_call, s_noX, s_backV, s_backC, s_backF, s_frz, r_frz, r_all0, r_all1, r_fn1, r_fn2, r_fn3, r_fn4, r_fn5, s_lvR, s_lvN, r_nx, r_bk, r_ct, r_seq, s_seqN, s_seqR, s_seqB, s_seqC, r_ret, s_ret, r_retN, r_sif, s_sif1, s_sif0, r_ex, s_ex, r_set, s_set, r_par, s_par, r_as, s_as, s_gb, r_gNm, r_gNl, r_gCs, s_gCs, r_gTu2, r_gTu3, r_gTu4, r_gSb, s_sb, s_sb2, s_st, s_nxS, r_au, s_au, s_au0, s_au1, s_au2, s_au3, r_addI, r_for, s_for, s_body, s_turnN, s_turnC, s_turnB, s_turnR, r_r1, s_r1, r_r2, s_r2, r_sq, s_sqL, s_sqS, r_tp, s_tp, r_xT, r_xL, s_x, s_xd, at_0, at_1, at_2, at_3, at_4, r_add, r_sub, r_neg, r_mul, r_fdiv, r_mod, r_pow, r_cmp, r_is, r_eqI, r_abs, r_int, r_max, r_min, r_okV, r_snap, r_lenF, r_lenT, DL.isNon, List.replicate_succ, List.replicate_zero, List.set_cons_zero, List.set_cons_succ, List.getElem?_cons_zero, List.getElem?_cons_succ, Option.map_some, Nat.reduceSub, and_self, and_true, true_and, decide_true, decide_false, if_true, if_false, Bool.false_eq_true, Bool.not_true, Bool.not_false, r_ps, s_ps, r_pn, r_sl, s_sl, s_sl1, s_sl2, r_slL, r_slS, r_slT, r_lcT, s_l1, s_l2t, s_l2f, s_l3, r_lc, s_lc, s_noE, s_lceC, s_wr0, s_wr, r_nT, s_nT, r_nF, s_nF, r_nC, s_nC, s_sz0, s_sz1, Nat.reduceAdd, Nat.reduceMul, Nat.reduceLeDiff, last_x, at_m1, last_set, r_mt, s_mt, s_mtb, ty_last, r_fld', s_fld, r_meth0, s_meth0, r_meth, s_meth, s_methb, r_make, s_make, r_sf, s_sf, s_sfb, r_sort, s_sort, r_en, s_enL, r_zi, s_ziL, r_sst, r_mt0', r_gUl3, r_par3, s_par3, r_cmA, s_cmA, r_rev, s_revF, r_cw, s_cw, s_cw1, r_fill, r_isB, r_nTC, s_nTC, take_is, et, ix]
    · simp only [List.length_cons] at hl
      refine ⟨?_, b2, zs ++ [⟨#[c]⟩], k2, WF.bag w, rfl, by simp, fun z hz' => ?_, by rw [List.length_append, List.length_singleton]; omega⟩
      · have hs := sizeLine_eq
        simp only [List.length_map]
        omega
      · rcases List.mem_append.mp hz' with h | h
        · exact hz z h
        · rw [List.mem_singleton] at h
          subst h
          exact ⟨ok, rfl⟩
  obtain ⟨acc', S', ec, b2, zs, k2, w2, rfl, rfl, hz, hl⟩ := cm
  simp only [List.length_nil, Nat.add_zero] at hl
  simp only [take_is] at ec
  obtain ⟨j1, j2⟩ := join0 zs hz
  have jl := join_lst hz (by omega) (b2.c :: R)
  generalize Txt.join "" zs = t0 at *
  have ln := lenStr t0 (b2.c :: R) (by omega)
  obtain ⟨v3, b3, l3, u3, k3, w3, e3⟩ := take_run b2 k2 ((t0.length : Int) + 1) (by omega) (by
    rw [show (t0.length : Int) + 1 = ((t0.length + 1 : Nat) : Int) by omega]
    exact lognat (by omega)) R w2
  have lo := lenStr oths (b3.c :: R) (by decide +kernel)
  have ol : oths.length = 45 := by decide +kernel
  rw [ol, show ((45 : Nat) : Int) = 45 from rfl] at lo
  obtain ⟨v4, b4, l4, u4, k4, w4, e4⟩ := take_run b3 k3 45 (by decide) (by decide) R w3
  obtain ⟨v5, b5, l5, u5, k5, w5, e5⟩ := take_run b4 k4 2 (by decide) (by decide) R w4
  obtain ⟨m, rfl⟩ : ∃ m : Nat, v4 = (m : Int) := ⟨v4.toNat, by omega⟩
  have oll : oths.cps.toList.length = 45 := by decide +kernel
  have hm : m < oths.cps.toList.length := by rw [oll]; omega
  have ix := ix_str (z := oths) (by decide +kernel) hm (b4.c :: R)
  have ok := one_ok (z := oths) (by decide +kernel) hm
  generalize oths.cps.toList[m] = c at *
  obtain ⟨sg, so, sl, ms⟩ := mul01 (z := ⟨#[c]⟩) ok (Nat.le_refl _) ⟨l5, u5⟩
  obtain ⟨a, rfl⟩ : ∃ a : Nat, v3 = (a : Int) := ⟨v3.toNat, by omega⟩
  have s1 := slStr (z := t0) (by omega) none (some (a : Int)) (b5.c :: R)
  have s2 := slStr (z := t0) (by omega) (some (a : Int)) none (b5.c :: R)
  have lt := len_to t0 a (by omega)
  have lf := len_from t0 a
  have ad1 := adStr (a := cutS t0 none (some (a : Int))) (b := sg) (by omega) false (b5.c :: R)
  have ad2 := adStr (a := cutS t0 none (some (a : Int)) ++ sg) (b := cutS t0 (some (a : Int)) none) (by rw [len_app, lt, lf]; omega) true (b5.c :: R)
  have lv := leave_val w5 (d := .str (cutS t0 none (some (a : Int)) ++ sg ++ cutS t0 (some (a : Int)) none))
  refine ⟨cutS t0 none (some (a : Int)) ++ sg ++ cutS t0 (some (a : Int)) none, b5, k5, w5, strOk_app (strOk_app (strOk_cut j1 _ _) so) (strOk_cut j1 _ _), by rw [len_app, len_app, lt, lf]; omega, ?_⟩
  have ty : ∀ S : Store, tyS "str" S (.fr (.str "")) = true := fun _ => rfl
  simp only [r_bind, r_1, s_1, r_2, s_2, s_2b, r_v, s_v, r_c, r_n, r_a, s_a, s_ab, r_g, s_g, r_and, s_And, s_and1, s_and0, r_or, s_Or, s_or1, s_or0, r_not, s_Not, s_not, r_if, s_if1, s_if0, r_ch, s_ch, s_cha, s_chb1, s_chb0, s_chc, r_tB, s_tB, r_tV, s_tV, s_tv, r_tN, s_tN, r_tA, s_tA1, s_tA0, r_tO, s_tO1, s_tO0, r_tT, r_trB, r_trI, r_trN, r_call, s_call, s_noX, s_backV, s_backC, s_backF, s_frz, r_frz, r_all0, r_all1, r_fn1, r_fn2, r_fn3, r_fn4, r_fn5, s_lvR, s_lvN, r_nx, r_bk, r_ct, r_seq, s_seqN, s_seqR, s_seqB, s_seqC, r_ret, s_ret, r_retN, r_sif, s_sif1, s_sif0, r_ex, s_ex, r_set, s_set, r_par, s_par, r_as, s_as, s_gb, r_gNm, r_gNl, r_gCs, s_gCs, r_gTu2, r_gTu3, r_gTu4, r_gSb, s_sb, s_sb2, s_st, s_nxS, r_au, s_au, s_au0, s_au1, s_au2, s_au3, r_addI, r_for, s_for, s_body, s_turnN, s_turnC, s_turnB, s_turnR, r_r1, s_r1, r_r2, s_r2, r_sq, s_sqL, s_sqS, r_tp, s_tp, r_xT, r_xL, s_x, s_xd, at_0, at_1, at_2, at_3, at_4, r_add, r_sub, r_neg, r_mul, r_fdiv, r_mod, r_pow, r_cmp, r_is, r_eqI, r_abs, r_int, r_max, r_min, r_okV, r_snap, r_lenF, r_lenT, DL.isNon, List.replicate_succ, List.replicate_zero, List.set_cons_zero, List.set_cons_succ, List.getElem?_cons_zero, List.getElem?_cons_succ, Option.map_some, Nat.reduceSub, and_self, and_true, true_and, decide_true, decide_false, if_true, if_false, Bool.false_eq_true, Bool.not_true, Bool.not_false, r_ps, s_ps, r_pn, r_sl, s_sl, s_sl1, s_sl2, r_slL, r_slS, r_slT, r_lcT, s_l1, s_l2t, s_l2f, s_l3, r_lc, s_lc, s_noE, s_lceC, s_wr0, s_wr, r_nT, s_nT, r_nF, s_nF, r_nC, s_nC, s_sz0, s_sz1, Nat.reduceAdd, Nat.reduceMul, Nat.reduceLeDiff, last_x, at_m1, last_set, r_mt, s_mt, s_mtb, ty_last, r_fld', s_fld, r_meth0, s_meth0, r_meth, s_meth, s_methb, r_make, s_make, r_sf, s_sf, s_sfb, r_sort, s_sort, r_en, s_enL, r_zi, s_ziL, r_sst, r_mt0', r_gUl3, r_par3, s_par3, r_cmA, s_cmA, r_rev, s_revF, r_cw, s_cw, s_cw1, r_fill, r_isB, r_nTC, s_nTC, m_law_text, b_law_text, take_is, e1, s_r1 (show -(2 ^ 62) ≤ v1 ∧ v1 < 2 ^ 62 by omega), ec, s_lceF w2, s_mt _ (ty _), jl, ln, e3, lo, e4, ix, e5, ms, s1, ad1, s2, ad2]
  exact lv

/-! things, huge numbers -/
theorem list_T (ds : List D) (S : Store) : listG false [.fr (.tup ds)] S = .ok (.fr (.lst ds), S) := by
  unfold listG
  simp only [rdS, rdL, rdT, newL0, allFr_map, Bool.false_eq_true, if_false]
theorem tuple_F (ds : List D) (S : Store) : tupleG [.fr (.lst ds)] S = .ok (.fr (.tup ds), S) := by
  unfold tupleG
  simp only [rdS, rdL, allFr_map]
theorem atoms_comp {rho : Slots} (hT : ∀ (x : SV) (S : Store), lcT (gNm 6) tTr (eCall m_law_atom false (aC (eV 0) aN)) x (wipeR rho [5, 6]) S = ((noX (m_law_atom [.cell 0] S)).bind (back false)).bind k_l3)
    (b : Bag) (hb : b.Ok) (R : Store) (w : WF (b.c :: R)) {m : Nat} (hm : m ≤ 10) (a : Int) : ∃ (ds : List D) (b' : Bag), Bag.Ok b' ∧ WF (b'.c :: R) ∧ (∀ d ∈ ds, Kd 60 3 d) ∧ ds.length = m ∧
      lcM (fun _ => True) (gNm 6) tTr (eCall m_law_atom false (aC (eV 0) aN)) [5, 6] rho (rngS a m) (b.c :: R) [] = .ok (ds.map SV.fr, b'.c :: R) := by
  have lp : ∃ acc' S', lcM (fun _ => True) (gNm 6) tTr (eCall m_law_atom false (aC (eV 0) aN)) [5, 6] rho (rngS a m) (b.c :: R) [] = .ok (acc', S') ∧
      ∃ (b : Bag) (ds : List D), Bag.Ok b ∧ WF (b.c :: R) ∧ S' = b.c :: R ∧ acc' = ds.map SV.fr ∧ (∀ d ∈ ds, Kd 60 3 d) ∧ ds.length + ([] : List SV).length = m := by
    refine lc_inv (fun xs acc S => ∃ (b : Bag) (ds : List D), Bag.Ok b ∧ WF (b.c :: R) ∧ S = b.c :: R ∧ acc = ds.map SV.fr ∧ (∀ d ∈ ds, Kd 60 3 d) ∧ ds.length + xs.length = m) (fun _ _ _ _ => trivial) (fun x xs acc S h => ?_) _ _ _ ⟨b, [], hb, w, rfl, rfl, (fun l hl => by cases hl), by rw [rng_len, List.length_nil, Nat.zero_add]⟩
    obtain ⟨b, ds, hb, w, rfl, rfl, hd, hz⟩ := h
    obtain ⟨d, b1, k1, w1, hp, e1⟩ := atom_run b hb (R ++ [.lst (ds.map SV.fr)]) (wf1 (R := R) w (by simp only [Cell.below]; exact below_map _ _))
    refine ⟨some (.fr d), b1.c :: R, rfl, ?_, ?_⟩
    · rw [hT]
      simp only [List.cons_append, e1, s_noX, r_bind, s_backV, s_l3]
    · simp only [List.length_cons] at hz
      refine ⟨?_, b1, ds ++ [d], k1, WF.bag w, rfl, by rw [List.map_append, List.map_cons, List.map_nil], fun d' h => ?_, by rw [List.length_append, List.length_singleton]; omega⟩
      · have hs := sizeLine_eq
        rw [List.length_map]
        omega
      · rcases List.mem_append.mp h with h | h
        · exact hd d' h
        · rw [List.mem_singleton] at h
          subst h
          exact hp
  obtain ⟨acc', S', e, b2, ds, kb, wb, rfl, rfl, hd, hz⟩ := lp
  exact ⟨ds, b2, kb, wb, hd, by simpa using hz, e⟩
theorem kd_two {f z : D} (hf : Kd 60 3 f) (hz : Kd 60 3 z) : Kd 500 6 (.tup [f, z]) := ⟨(y_tup (m := 2) (fun d hd => by
    rcases List.mem_cons.mp hd with rfl | hd
    · exact hf.y
    · rw [List.mem_singleton] at hd; subst hd; exact hz.y) (by simp)).mono (by decide) (by decide), (fun _ e => by cases e), fun s z' e => by cases e; exact (hf.s s rfl).1⟩
theorem thing_run (b : Bag) (hb : b.Ok) (R : Store) (w : WF (b.c :: R)) : ∃ (d : D) (b' : Bag), Bag.Ok b' ∧ WF (b'.c :: R) ∧ Kd 500 6 d ∧ m_law_thing [.cell 0] (b.c :: R) = .ok (.val (.fr d), b'.c :: R) := by
  obtain ⟨v1, b1, l1, u1, k1, w1, e1⟩ := take_run b hb 7 (by decide) (by decide) R w
  obtain ⟨x, b2, k2, w2, hx, e2⟩ := num_run b1 k1 R w1
  obtain ⟨y, b3, k3, w3, hy, e3⟩ := num_run b2 k2 R w2
  by_cases z6 : v1 = 6
  · obtain ⟨t, b4, k4, w4, ht, hl, e4⟩ := text_run b3 k3 R w3
    have lv := leave_val w4 (d := .str t)
    refine ⟨_, b4, k4, w4, (kd_str ht hl).mono (by decide) (by decide), ?_⟩
    simp only [r_bind, r_1, s_1, r_2, s_2, s_2b, r_v, s_v, r_c, r_n, r_a, s_a, s_ab, r_g, s_g, r_and, s_And, s_and1, s_and0, r_or, s_Or, s_or1, s_or0, r_not, s_Not, s_not, r_if, s_if1, s_if0, r_ch, s_ch, s_cha, s_chb1, s_chb0, s_chc, r_tB, s_tB, r_tV, s_tV, s_tv, r_tN, s_tN, r_tA, s_tA1, s_tA0, r_tO, s_tO1, s_tO0, r_tT, r_trB, r_trI, r_trN, r_call, s_call, s_noX, s_backV, s_backC, s_backF, s_frz, r_frz, r_all0, r_all1, r_fn1, r_fn2, r_fn3, r_fn4, r_fn5, s_lvR, s_lvN, r_nx, r_bk, r_ct, r_seq, s_seqN, s_seqR, s_seqB, s_seqC, r_ret, s_ret, r_retN, r_sif, s_sif1, s_sif0, r_ex, s_ex, r_set, s_set, r_par, s_par, r_as, s_as, s_gb, r_gNm, r_gNl, r_gCs, s_gCs, r_gTu2, r_gTu3, r_gTu4, r_gSb, s_sb, s_sb2, s_st, s_nxS, r_au, s_au, s_au0, s_au1, s_au2, s_au3, r_addI, r_for, s_for, s_body, s_turnN, s_turnC, s_turnB, s_turnR, r_r1, s_r1, r_r2, s_r2, r_sq, s_sqL, s_sqS, r_tp, s_tp, r_xT, r_xL, s_x, s_xd, at_0, at_1, at_2, at_3, at_4, r_add, r_sub, r_neg, r_mul, r_fdiv, r_mod, r_pow, r_cmp, r_is, r_eqI, r_abs, r_int, r_max, r_min, r_okV, r_snap, r_lenF, r_lenT, DL.isNon, List.replicate_succ, List.replicate_zero, List.set_cons_zero, List.set_cons_succ, List.getElem?_cons_zero, List.getElem?_cons_succ, Option.map_some, Nat.reduceSub, and_self, and_true, true_and, decide_true, decide_false, if_true, if_false, Bool.false_eq_true, Bool.not_true, Bool.not_false, r_ps, s_ps, r_pn, r_sl, s_sl, s_sl1, s_sl2, r_slL, r_slS, r_slT, r_lcT, s_l1, s_l2t, s_l2f, s_l3, r_lc, s_lc, s_noE, s_lceC, s_wr0, s_wr, r_nT, s_nT, r_nF, s_nF, r_nC, s_nC, s_sz0, s_sz1, Nat.reduceAdd, Nat.reduceMul, Nat.reduceLeDiff, last_x, at_m1, last_set, r_mt, s_mt, s_mtb, ty_last, r_fld', s_fld, r_meth0, s_meth0, r_meth, s_meth, s_methb, r_make, s_make, r_sf, s_sf, s_sfb, r_sort, s_sort, r_en, s_enL, r_zi, s_ziL, r_sst, r_mt0', r_gUl3, r_par3, s_par3, r_cmA, s_cmA, r_rev, s_revF, r_cw, s_cw, s_cw1, r_fill, r_isB, r_nTC, s_nTC, m_law_thing, b_law_thing, take_is, e1, e2, e3, decide_eq_true z6, e4]
    exact lv
  by_cases z2 : v1 < 2
  · obtain ⟨d, b4, k4, w4, hd, e4⟩ := atom_run b3 k3 R w3
    have lv := leave_val w4 (d := d)
    refine ⟨_, b4, k4, w4, hd.mono (by decide) (by decide), ?_⟩
    simp only [r_bind, r_1, s_1, r_2, s_2, s_2b, r_v, s_v, r_c, r_n, r_a, s_a, s_ab, r_g, s_g, r_and, s_And, s_and1, s_and0, r_or, s_Or, s_or1, s_or0, r_not, s_Not, s_not, r_if, s_if1, s_if0, r_ch, s_ch, s_cha, s_chb1, s_chb0, s_chc, r_tB, s_tB, r_tV, s_tV, s_tv, r_tN, s_tN, r_tA, s_tA1, s_tA0, r_tO, s_tO1, s_tO0, r_tT, r_trB, r_trI, r_trN, r_call, s_call, s_noX, s_backV, s_backC, s_backF, s_frz, r_frz, r_all0, r_all1, r_fn1, r_fn2, r_fn3, r_fn4, r_fn5, s_lvR, s_lvN, r_nx, r_bk, r_ct, r_seq, s_seqN, s_seqR, s_seqB, s_seqC, r_ret, s_ret, r_retN, r_sif, s_sif1, s_sif0, r_ex, s_ex, r_set, s_set, r_par, s_par, r_as, s_as, s_gb, r_gNm, r_gNl, r_gCs, s_gCs, r_gTu2, r_gTu3, r_gTu4, r_gSb, s_sb, s_sb2, s_st, s_nxS, r_au, s_au, s_au0, s_au1, s_au2, s_au3, r_addI, r_for, s_for, s_body, s_turnN, s_turnC, s_turnB, s_turnR, r_r1, s_r1, r_r2, s_r2, r_sq, s_sqL, s_sqS, r_tp, s_tp, r_xT, r_xL, s_x, s_xd, at_0, at_1, at_2, at_3, at_4, r_add, r_sub, r_neg, r_mul, r_fdiv, r_mod, r_pow, r_cmp, r_is, r_eqI, r_abs, r_int, r_max, r_min, r_okV, r_snap, r_lenF, r_lenT, DL.isNon, List.replicate_succ, List.replicate_zero, List.set_cons_zero, List.set_cons_succ, List.getElem?_cons_zero, List.getElem?_cons_succ, Option.map_some, Nat.reduceSub, and_self, and_true, true_and, decide_true, decide_false, if_true, if_false, Bool.false_eq_true, Bool.not_true, Bool.not_false, r_ps, s_ps, r_pn, r_sl, s_sl, s_sl1, s_sl2, r_slL, r_slS, r_slT, r_lcT, s_l1, s_l2t, s_l2f, s_l3, r_lc, s_lc, s_noE, s_lceC, s_wr0, s_wr, r_nT, s_nT, r_nF, s_nF, r_nC, s_nC, s_sz0, s_sz1, Nat.reduceAdd, Nat.reduceMul, Nat.reduceLeDiff, last_x, at_m1, last_set, r_mt, s_mt, s_mtb, ty_last, r_fld', s_fld, r_meth0, s_meth0, r_meth, s_meth, s_methb, r_make, s_make, r_sf, s_sf, s_sfb, r_sort, s_sort, r_en, s_enL, r_zi, s_ziL, r_sst, r_mt0', r_gUl3, r_par3, s_par3, r_cmA, s_cmA, r_rev, s_revF, r_cw, s_cw, s_cw1, r_fill, r_isB, r_nTC, s_nTC, m_law_thing, b_law_thing, take_is, e1, e2, e3, decide_eq_false z6, decide_eq_true z2, e4]
    exact lv
  by_cases z3 : v1 = 2
  · obtain ⟨v4, b4, l4, u4, k4, w4, e4⟩ := take_run b3 k3 5 (by decide) (by decide) R w3
    obtain ⟨v5, b5, l5, u5, k5, w5, e5⟩ := take_run b4 k4 4 (by decide) (by decide) R w4
    obtain ⟨z, hz, at_⟩ : ∃ z : D, Kd 60 3 z ∧ atI [D.int y, .non, .int x, .int (x + v4)] v5 = some z := by
      rcases (show v5 = 0 ∨ v5 = 1 ∨ v5 = 2 ∨ v5 = 3 by omega) with rfl | rfl | rfl | rfl
      · exact ⟨_, kd_int (by omega), rfl⟩
      · exact ⟨_, kd_of (by simp [fit]) (by simp [py, PyData.bulk]) (by simp [py, PyData.depth]) (fun _ e => by cases e) (fun _ _ e => by cases e), rfl⟩
      · exact ⟨_, kd_int (by omega), rfl⟩
      · exact ⟨_, kd_int (by omega), rfl⟩
    have lv := leave_val w5 (d := .tup [.int x, z])
    refine ⟨_, b5, k5, w5, kd_two (kd_int (i := x) (by omega)) hz, ?_⟩
    simp only [r_bind, r_1, s_1, r_2, s_2, s_2b, r_v, s_v, r_c, r_n, r_a, s_a, s_ab, r_g, s_g, r_and, s_And, s_and1, s_and0, r_or, s_Or, s_or1, s_or0, r_not, s_Not, s_not, r_if, s_if1, s_if0, r_ch, s_ch, s_cha, s_chb1, s_chb0, s_chc, r_tB, s_tB, r_tV, s_tV, s_tv, r_tN, s_tN, r_tA, s_tA1, s_tA0, r_tO, s_tO1, s_tO0, r_tT, r_trB, r_trI, r_trN, r_call, s_call, s_noX, s_backV, s_backC, s_backF, s_frz, r_frz, r_all0, r_all1, r_fn1, r_fn2, r_fn3, r_fn4, r_fn5, s_lvR, s_lvN, r_nx, r_bk, r_ct, r_seq, s_seqN, s_seqR, s_seqB, s_seqC, r_ret, s_ret, r_retN, r_sif, s_sif1, s_sif0, r_ex, s_ex, r_set, s_set, r_par, s_par, r_as, s_as, s_gb, r_gNm, r_gNl, r_gCs, s_gCs, r_gTu2, r_gTu3, r_gTu4, r_gSb, s_sb, s_sb2, s_st, s_nxS, r_au, s_au, s_au0, s_au1, s_au2, s_au3, r_addI, r_for, s_for, s_body, s_turnN, s_turnC, s_turnB, s_turnR, r_r1, s_r1, r_r2, s_r2, r_sq, s_sqL, s_sqS, r_tp, s_tp, r_xT, r_xL, s_x, s_xd, at_0, at_1, at_2, at_3, at_4, r_add, r_sub, r_neg, r_mul, r_fdiv, r_mod, r_pow, r_cmp, r_is, r_eqI, r_abs, r_int, r_max, r_min, r_okV, r_snap, r_lenF, r_lenT, DL.isNon, List.replicate_succ, List.replicate_zero, List.set_cons_zero, List.set_cons_succ, List.getElem?_cons_zero, List.getElem?_cons_succ, Option.map_some, Nat.reduceSub, and_self, and_true, true_and, decide_true, decide_false, if_true, if_false, Bool.false_eq_true, Bool.not_true, Bool.not_false, r_ps, s_ps, r_pn, r_sl, s_sl, s_sl1, s_sl2, r_slL, r_slS, r_slT, r_lcT, s_l1, s_l2t, s_l2f, s_l3, r_lc, s_lc, s_noE, s_lceC, s_wr0, s_wr, r_nT, s_nT, r_nF, s_nF, r_nC, s_nC, s_sz0, s_sz1, Nat.reduceAdd, Nat.reduceMul, Nat.reduceLeDiff, last_x, at_m1, last_set, r_mt, s_mt, s_mtb, ty_last, r_fld', s_fld, r_meth0, s_meth0, r_meth, s_meth, s_methb, r_make, s_make, r_sf, s_sf, s_sfb, r_sort, s_sort, r_en, s_enL, r_zi, s_ziL, r_sst, r_mt0', r_gUl3, r_par3, s_par3, r_cmA, s_cmA, r_rev, s_revF, r_cw, s_cw, s_cw1, r_fill, r_isB, r_nTC, s_nTC, m_law_thing, b_law_thing, take_is, e1, e2, e3, decide_eq_false z6, decide_eq_false z2, decide_eq_true z3, e4, e5, at_]
    exact lv
  by_cases z4 : v1 = 3
  · obtain ⟨v5, b5, l5, u5, k5, w5, e5⟩ := take_run b3 k3 3 (by decide) (by decide) R w3
    obtain ⟨z, hz, at_⟩ : ∃ z : D, Kd 60 3 z ∧ atI [D.str "process", .str "open", .str "opens"] v5 = some z := by
      rcases (show v5 = 0 ∨ v5 = 1 ∨ v5 = 2 by omega) with rfl | rfl | rfl
      · exact ⟨_, kd_str (by decide +kernel) (by decide +kernel), rfl⟩
      · exact ⟨_, kd_str (by decide +kernel) (by decide +kernel), rfl⟩
      · exact ⟨_, kd_str (by decide +kernel) (by decide +kernel), rfl⟩
    have lv := leave_val w5 (d := .tup [z, .int x])
    refine ⟨_, b5, k5, w5, kd_two hz (kd_int (i := x) (by omega)), ?_⟩
    simp only [r_bind, r_1, s_1, r_2, s_2, s_2b, r_v, s_v, r_c, r_n, r_a, s_a, s_ab, r_g, s_g, r_and, s_And, s_and1, s_and0, r_or, s_Or, s_or1, s_or0, r_not, s_Not, s_not, r_if, s_if1, s_if0, r_ch, s_ch, s_cha, s_chb1, s_chb0, s_chc, r_tB, s_tB, r_tV, s_tV, s_tv, r_tN, s_tN, r_tA, s_tA1, s_tA0, r_tO, s_tO1, s_tO0, r_tT, r_trB, r_trI, r_trN, r_call, s_call, s_noX, s_backV, s_backC, s_backF, s_frz, r_frz, r_all0, r_all1, r_fn1, r_fn2, r_fn3, r_fn4, r_fn5, s_lvR, s_lvN, r_nx, r_bk, r_ct, r_seq, s_seqN, s_seqR, s_seqB, s_seqC, r_ret, s_ret, r_retN, r_sif, s_sif1, s_sif0, r_ex, s_ex, r_set, s_set, r_par, s_par, r_as, s_as, s_gb, r_gNm, r_gNl, r_gCs, s_gCs, r_gTu2, r_gTu3, r_gTu4, r_gSb, s_sb, s_sb2, s_st, s_nxS, r_au, s_au, s_au0, s_au1, s_au2, s_au3, r_addI, r_for, s_for, s_body, s_turnN, s_turnC, s_turnB, s_turnR, r_r1, s_r1, r_r2, s_r2, r_sq, s_sqL, s_sqS, r_tp, s_tp, r_xT, r_xL, s_x, s_xd, at_0, at_1, at_2, at_3, at_4, r_add, r_sub, r_neg, r_mul, r_fdiv, r_mod, r_pow, r_cmp, r_is, r_eqI, r_abs, r_int, r_max, r_min, r_okV, r_snap, r_lenF, r_lenT, DL.isNon, List.replicate_succ, List.replicate_zero, List.set_cons_zero, List.set_cons_succ, List.getElem?_cons_zero, List.getElem?_cons_succ, Option.map_some, Nat.reduceSub, and_self, and_true, true_and, decide_true, decide_false, if_true, if_false, Bool.false_eq_true, Bool.not_true, Bool.not_false, r_ps, s_ps, r_pn, r_sl, s_sl, s_sl1, s_sl2, r_slL, r_slS, r_slT, r_lcT, s_l1, s_l2t, s_l2f, s_l3, r_lc, s_lc, s_noE, s_lceC, s_wr0, s_wr, r_nT, s_nT, r_nF, s_nF, r_nC, s_nC, s_sz0, s_sz1, Nat.reduceAdd, Nat.reduceMul, Nat.reduceLeDiff, last_x, at_m1, last_set, r_mt, s_mt, s_mtb, ty_last, r_fld', s_fld, r_meth0, s_meth0, r_meth, s_meth, s_methb, r_make, s_make, r_sf, s_sf, s_sfb, r_sort, s_sort, r_en, s_enL, r_zi, s_ziL, r_sst, r_mt0', r_gUl3, r_par3, s_par3, r_cmA, s_cmA, r_rev, s_revF, r_cw, s_cw, s_cw1, r_fill, r_isB, r_nTC, s_nTC, m_law_thing, b_law_thing, take_is, e1, e2, e3, decide_eq_false z6, decide_eq_false z2, decide_eq_false z3, decide_eq_true z4, e5, at_]
    exact lv
  obtain ⟨v4, b4, l4, u4, k4, w4, e4⟩ := take_run b3 k3 4 (by decide) (by decide) R w3
  obtain ⟨ds, b5, k5, w5, hd, hl, e5⟩ := atoms_comp (rho := [some (.cell 0), some (.fr (.int v1)), some (.fr (.int x)), some (.fr (.int y)), none, none, none]) (fun x S => by simp only [r_bind, r_1, s_1, r_2, s_2, s_2b, r_v, s_v, r_c, r_n, r_a, s_a, s_ab, r_g, s_g, r_and, s_And, s_and1, s_and0, r_or, s_Or, s_or1, s_or0, r_not, s_Not, s_not, r_if, s_if1, s_if0, r_ch, s_ch, s_cha, s_chb1, s_chb0, s_chc, r_tB, s_tB, r_tV, s_tV, s_tv, r_tN, s_tN, r_tA, s_tA1, s_tA0, r_tO, s_tO1, s_tO0, r_tT, r_trB, r_trI, r_trN, r_call, s_call, s_noX, s_backV, s_backC, s_backF, s_frz, r_frz, r_all0, r_all1, r_fn1, r_fn2, r_fn3, r_fn4, r_fn5, s_lvR, s_lvN, r_nx, r_bk, r_ct, r_seq, s_seqN, s_seqR, s_seqB, s_seqC, r_ret, s_ret, r_retN, r_sif, s_sif1, s_sif0, r_ex, s_ex, r_set, s_set, r_par, s_par, r_as, s_as, s_gb, r_gNm, r_gNl, r_gCs, s_gCs, r_gTu2, r_gTu3, r_gTu4, r_gSb, s_sb, s_sb2, s_st, s_nxS, r_au, s_au, s_au0, s_au1, s_au2, s_au3, r_addI, r_for, s_for, s_body, s_turnN, s_turnC, s_turnB, s_turnR, r_r1, s_r1, r_r2, s_r2, r_sq, s_sqL, s_sqS, r_tp, s_tp, r_xT, r_xL, s_x, s_xd, at_0, at_1, at_2, at_3, at_4, r_add, r_sub, r_neg, r_mul, r_fdiv, r_mod, r_pow, r_cmp, r_is, r_eqI, r_abs, r_int, r_max, r_min, r_okV, r_snap, r_lenF, r_lenT, DL.isNon, List.replicate_succ, List.replicate_zero, List.set_cons_zero, List.set_cons_succ, List.getElem?_cons_zero, List.getElem?_cons_succ, Option.map_some, Nat.reduceSub, and_self, and_true, true_and, decide_true, decide_false, if_true, if_false, Bool.false_eq_true, Bool.not_true, Bool.not_false, r_ps, s_ps, r_pn, r_sl, s_sl, s_sl1, s_sl2, r_slL, r_slS, r_slT, r_lcT, s_l1, s_l2t, s_l2f, s_l3, r_lc, s_lc, s_noE, s_lceC, s_wr0, s_wr, r_nT, s_nT, r_nF, s_nF, r_nC, s_nC, s_sz0, s_sz1, Nat.reduceAdd, Nat.reduceMul, Nat.reduceLeDiff, last_x, at_m1, last_set, r_mt, s_mt, s_mtb, ty_last, r_fld', s_fld, r_meth0, s_meth0, r_meth, s_meth, s_methb, r_make, s_make, r_sf, s_sf, s_sfb, r_sort, s_sort, r_en, s_enL, r_zi, s_ziL, r_sst, r_mt0', r_gUl3, r_par3, s_par3, r_cmA, s_cmA, r_rev, s_revF, r_cw, s_cw, s_cw1, r_fill, r_isB, r_nTC, s_nTC]) b4 k4 R w4 (m := v4.toNat) (by omega) 0
  by_cases z5 : v1 = 4
  · have lv := leave_val w5 (d := .lst ds)
    refine ⟨_, b5, k5, w5, ⟨(y_lst (m := 4) (fun d h => (hd d h).y) (by omega)).mono (by decide) (by decide), (fun _ e => by cases e), (fun _ _ e => by cases e)⟩, ?_⟩
    simp only [r_bind, r_1, s_1, r_2, s_2, s_2b, r_v, s_v, r_c, r_n, r_a, s_a, s_ab, r_g, s_g, r_and, s_And, s_and1, s_and0, r_or, s_Or, s_or1, s_or0, r_not, s_Not, s_not, r_if, s_if1, s_if0, r_ch, s_ch, s_cha, s_chb1, s_chb0, s_chc, r_tB, s_tB, r_tV, s_tV, s_tv, r_tN, s_tN, r_tA, s_tA1, s_tA0, r_tO, s_tO1, s_tO0, r_tT, r_trB, r_trI, r_trN, r_call, s_call, s_noX, s_backV, s_backC, s_backF, s_frz, r_frz, r_all0, r_all1, r_fn1, r_fn2, r_fn3, r_fn4, r_fn5, s_lvR, s_lvN, r_nx, r_bk, r_ct, r_seq, s_seqN, s_seqR, s_seqB, s_seqC, r_ret, s_ret, r_retN, r_sif, s_sif1, s_sif0, r_ex, s_ex, r_set, s_set, r_par, s_par, r_as, s_as, s_gb, r_gNm, r_gNl, r_gCs, s_gCs, r_gTu2, r_gTu3, r_gTu4, r_gSb, s_sb, s_sb2, s_st, s_nxS, r_au, s_au, s_au0, s_au1, s_au2, s_au3, r_addI, r_for, s_for, s_body, s_turnN, s_turnC, s_turnB, s_turnR, r_r1, s_r1, r_r2, s_r2, r_sq, s_sqL, s_sqS, r_tp, s_tp, r_xT, r_xL, s_x, s_xd, at_0, at_1, at_2, at_3, at_4, r_add, r_sub, r_neg, r_mul, r_fdiv, r_mod, r_pow, r_cmp, r_is, r_eqI, r_abs, r_int, r_max, r_min, r_okV, r_snap, r_lenF, r_lenT, DL.isNon, List.replicate_succ, List.replicate_zero, List.set_cons_zero, List.set_cons_succ, List.getElem?_cons_zero, List.getElem?_cons_succ, Option.map_some, Nat.reduceSub, and_self, and_true, true_and, decide_true, decide_false, if_true, if_false, Bool.false_eq_true, Bool.not_true, Bool.not_false, r_ps, s_ps, r_pn, r_sl, s_sl, s_sl1, s_sl2, r_slL, r_slS, r_slT, r_lcT, s_l1, s_l2t, s_l2f, s_l3, r_lc, s_lc, s_noE, s_lceC, s_wr0, s_wr, r_nT, s_nT, r_nF, s_nF, r_nC, s_nC, s_sz0, s_sz1, Nat.reduceAdd, Nat.reduceMul, Nat.reduceLeDiff, last_x, at_m1, last_set, r_mt, s_mt, s_mtb, ty_last, r_fld', s_fld, r_meth0, s_meth0, r_meth, s_meth, s_methb, r_make, s_make, r_sf, s_sf, s_sfb, r_sort, s_sort, r_en, s_enL, r_zi, s_ziL, r_sst, r_mt0', r_gUl3, r_par3, s_par3, r_cmA, s_cmA, r_rev, s_revF, r_cw, s_cw, s_cw1, r_fill, r_isB, r_nTC, s_nTC, m_law_thing, b_law_thing, take_is, e1, e2, e3, decide_eq_false z6, decide_eq_false z2, decide_eq_false z3, decide_eq_false z4, e4, s_r1 (show -(2 ^ 62) ≤ v4 ∧ v4 < 2 ^ 62 by omega), e5, s_lceF w5, decide_eq_true z5]
    exact lv
  · have lv := leave_val w5 (d := .tup ds)
    have tf := tuple_F ds (b5.c :: R)
    refine ⟨_, b5, k5, w5, ⟨(y_tup (m := 4) (fun d h => (hd d h).y) (by omega)).mono (by decide) (by decide), (fun _ e => by cases e), fun s z e => ?_⟩, ?_⟩
    · cases e
      exact ((hd _ List.mem_cons_self).s s rfl).1
    · simp only [r_bind, r_1, s_1, r_2, s_2, s_2b, r_v, s_v, r_c, r_n, r_a, s_a, s_ab, r_g, s_g, r_and, s_And, s_and1, s_and0, r_or, s_Or, s_or1, s_or0, r_not, s_Not, s_not, r_if, s_if1, s_if0, r_ch, s_ch, s_cha, s_chb1, s_chb0, s_chc, r_tB, s_tB, r_tV, s_tV, s_tv, r_tN, s_tN, r_tA, s_tA1, s_tA0, r_tO, s_tO1, s_tO0, r_tT, r_trB, r_trI, r_trN, r_call, s_call, s_noX, s_backV, s_backC, s_backF, s_frz, r_frz, r_all0, r_all1, r_fn1, r_fn2, r_fn3, r_fn4, r_fn5, s_lvR, s_lvN, r_nx, r_bk, r_ct, r_seq, s_seqN, s_seqR, s_seqB, s_seqC, r_ret, s_ret, r_retN, r_sif, s_sif1, s_sif0, r_ex, s_ex, r_set, s_set, r_par, s_par, r_as, s_as, s_gb, r_gNm, r_gNl, r_gCs, s_gCs, r_gTu2, r_gTu3, r_gTu4, r_gSb, s_sb, s_sb2, s_st, s_nxS, r_au, s_au, s_au0, s_au1, s_au2, s_au3, r_addI, r_for, s_for, s_body, s_turnN, s_turnC, s_turnB, s_turnR, r_r1, s_r1, r_r2, s_r2, r_sq, s_sqL, s_sqS, r_tp, s_tp, r_xT, r_xL, s_x, s_xd, at_0, at_1, at_2, at_3, at_4, r_add, r_sub, r_neg, r_mul, r_fdiv, r_mod, r_pow, r_cmp, r_is, r_eqI, r_abs, r_int, r_max, r_min, r_okV, r_snap, r_lenF, r_lenT, DL.isNon, List.replicate_succ, List.replicate_zero, List.set_cons_zero, List.set_cons_succ, List.getElem?_cons_zero, List.getElem?_cons_succ, Option.map_some, Nat.reduceSub, and_self, and_true, true_and, decide_true, decide_false, if_true, if_false, Bool.false_eq_true, Bool.not_true, Bool.not_false, r_ps, s_ps, r_pn, r_sl, s_sl, s_sl1, s_sl2, r_slL, r_slS, r_slT, r_lcT, s_l1, s_l2t, s_l2f, s_l3, r_lc, s_lc, s_noE, s_lceC, s_wr0, s_wr, r_nT, s_nT, r_nF, s_nF, r_nC, s_nC, s_sz0, s_sz1, Nat.reduceAdd, Nat.reduceMul, Nat.reduceLeDiff, last_x, at_m1, last_set, r_mt, s_mt, s_mtb, ty_last, r_fld', s_fld, r_meth0, s_meth0, r_meth, s_meth, s_methb, r_make, s_make, r_sf, s_sf, s_sfb, r_sort, s_sort, r_en, s_enL, r_zi, s_ziL, r_sst, r_mt0', r_gUl3, r_par3, s_par3, r_cmA, s_cmA, r_rev, s_revF, r_cw, s_cw, s_cw1, r_fill, r_isB, r_nTC, s_nTC, m_law_thing, b_law_thing, take_is, e1, e2, e3, decide_eq_false z6, decide_eq_false z2, decide_eq_false z3, decide_eq_false z4, e4, s_r1 (show -(2 ^ 62) ≤ v4 ∧ v4 < 2 ^ 62 by omega), e5, s_lceF w5, decide_eq_false z5, tf]
      exact lv

theorem eq_str (n : Bool) (x y : Str) (S : Store) : eqG n (.fr (.str x)) (.fr (.str y)) S = .ok (.fr (.bl (if n then !decide (x = y) else decide (x = y))), S) := by
  have h : eqD (.str x) (.str y) = some (decide (x = y)) := by simp [eqD]
  exact r_eq n (S := S) (a := .fr (.str x)) (b := .fr (.str y)) rfl rfl h
theorem powW {i j : Int} (h : CPowW i j) (S : Store) : powWG (.fr (.int i)) (.fr (.int j)) S = .ok (.fr (.int (i ^ j.toNat)), S) := by
  unfold powWG
  simp only [if_pos h]
  rfl
theorem mulW {i j : Int} (h : CMulW i j) (S : Store) : mulG false (.fr (.int i)) (.fr (.int j)) S = .ok (.fr (.int (i * j)), S) := by
  unfold mulG
  simp only
  rw [if_pos (.inr h)]
  rfl
theorem huge_ex : ∃ P Q R g : Int, 2 < g ∧ ∀ S : Store, powWG (.fr (.int 10)) (.fr (.int 60)) S = .ok (.fr (.int P), S) ∧ powWG (.fr (.int P)) (.fr (.int 64)) S = .ok (.fr (.int Q), S) ∧ powWG (.fr (.int P)) (.fr (.int 20)) S = .ok (.fr (.int R), S) ∧ mulG false (.fr (.int Q)) (.fr (.int R)) S = .ok (.fr (.int g), S) := by
  refine ⟨10 ^ 60, (10 ^ 60) ^ 64, (10 ^ 60) ^ 20, (10 ^ 60) ^ 64 * (10 ^ 60) ^ 20, by decide +kernel, fun S => ⟨?_, ?_, ?_, ?_⟩⟩
  · exact powW (by decide +kernel) S
  · exact powW (by decide +kernel) S
  · exact powW (by decide +kernel) S
  · exact mulW (by decide +kernel) S
theorem huge_run {S : Store} (wf : WF S) : m_law_huge_right [] S = .ok (.val (.fr (.bl true)), S) := by
  obtain ⟨P, Q, R, g, hg, hp⟩ := huge_ex
  obtain ⟨e1, e2, e3, e4⟩ := hp S
  have xg : isX (.int g) = true := rfl
  have f1 := integer_x wf (d := .int g) rfl
  have f2 := byte_x wf (d := .int g) rfl
  have f3 := span_x wf (f := .int 0) (z := .int g) rfl rfl
  have f4 := owner_all wf (d := .tup [.str "open", .int g]) rfl
  have f5 := span_x wf (f := .int g) (z := .non) rfl rfl
  have f6 := integer_x wf (d := .int (-g)) rfl
  have f7 := byte_x wf (d := .int (-g)) rfl
  have f8 := level_x wf (d := .int g) rfl
  have f9 := span_x wf (f := .int g) (z := .int 0) rfl rfl
  have f10 := owner_all wf (d := .tup [.str "open", .int (-g)]) rfl
  have b2 : byteB (.int g) = true := decide_eq_true (by omega)
  have b7 : byteB (.int (-g)) = false := decide_eq_false (by omega)
  have b0 : byteB (.int 0) = true := rfl
  have b3 : endB (.int 0) (.int g) = true := by
    simp only [endB]
    rw [decide_eq_true (show (0 : Int) ≤ g by omega), Bool.and_self]
  have b9 : endB (.int g) (.int 0) = false := by
    simp only [endB]
    rw [decide_eq_false (show ¬ g ≤ 0 by omega), Bool.and_false]
  have b8 : levB (.int g) = false := by
    simp only [levB]
    rw [decide_eq_false (show ¬ g ≤ 2 by omega), Bool.and_false]
  have w0 : ownW (.str "open") = true := by decide +kernel
  have b4 : ownB (.tup [.str "open", .int g]) = true := by
    simp only [ownB, w0, b2, Bool.and_self]
  have b10 : ownB (.tup [.str "open", .int (-g)]) = false := by
    simp only [ownB, b7, Bool.and_false]
  rw [show isI (.int g) = true from rfl] at f1
  rw [show isI (.int (-g)) = true from rfl] at f6
  rw [b2] at f2
  rw [b0, b3, Bool.and_self] at f3
  rw [b4] at f4
  rw [b2, show endB (.int g) .non = true from rfl, Bool.and_self] at f5
  rw [b7] at f7
  rw [b8] at f8
  rw [b9, Bool.and_false] at f9
  rw [b10] at f10
  have ad : addG false (.fr (.lst [.bl true, .bl true, .bl true, .bl true, .bl true])) (.fr (.lst [.bl true, .bl false, .bl false, .bl false, .bl false])) S = .ok (.fr (.lst [.bl true, .bl true, .bl true, .bl true, .bl true, .bl true, .bl false, .bl false, .bl false, .bl false]), S) := by
    rw [add_ff false (by simp), if_neg (by decide)]
    rfl
  have eq : eqG false (.fr (.lst [.bl true, .bl true, .bl true, .bl true, .bl true, .bl true, .bl false, .bl false, .bl false, .bl false])) (.fr (.lst [.bl true, .bl true, .bl true, .bl true, .bl true, .bl true, .bl false, .bl false, .bl false, .bl false])) S = .ok (.fr (.bl true), S) := r_eq false rfl rfl (eqD_refl (by simp [fit, fits]))
  have ng : negG (.fr (.int g)) S = .ok (.fr (.int (-g)), S) := rfl
  have r0 : ∀ (n : Nat) (b : SM), fnM 0 n b [] S = (b (List.replicate n none) S).bind (leaveF S.length) := fun n b => rfl
  simp only [r_bind, r_1, s_1, r_2, s_2, s_2b, r_v, s_v, r_c, r_n, r_a, s_a, s_ab, r_g, s_g, r_and, s_And, s_and1, s_and0, r_or, s_Or, s_or1, s_or0, r_not, s_Not, s_not, r_if, s_if1, s_if0, r_ch, s_ch, s_cha, s_chb1, s_chb0, s_chc, r_tB, s_tB, r_tV, s_tV, s_tv, r_tN, s_tN, r_tA, s_tA1, s_tA0, r_tO, s_tO1, s_tO0, r_tT, r_trB, r_trI, r_trN, r_call, s_call, s_noX, s_backV, s_backC, s_backF, s_frz, r_frz, r_all0, r_all1, r_fn1, r_fn2, r_fn3, r_fn4, r_fn5, s_lvR, s_lvN, r_nx, r_bk, r_ct, r_seq, s_seqN, s_seqR, s_seqB, s_seqC, r_ret, s_ret, r_retN, r_sif, s_sif1, s_sif0, r_ex, s_ex, r_set, s_set, r_par, s_par, r_as, s_as, s_gb, r_gNm, r_gNl, r_gCs, s_gCs, r_gTu2, r_gTu3, r_gTu4, r_gSb, s_sb, s_sb2, s_st, s_nxS, r_au, s_au, s_au0, s_au1, s_au2, s_au3, r_addI, r_for, s_for, s_body, s_turnN, s_turnC, s_turnB, s_turnR, r_r1, s_r1, r_r2, s_r2, r_sq, s_sqL, s_sqS, r_tp, s_tp, r_xT, r_xL, s_x, s_xd, at_0, at_1, at_2, at_3, at_4, r_add, r_sub, r_neg, r_mul, r_fdiv, r_mod, r_pow, r_cmp, r_is, r_eqI, r_abs, r_int, r_max, r_min, r_okV, r_snap, r_lenF, r_lenT, DL.isNon, List.replicate_succ, List.replicate_zero, List.set_cons_zero, List.set_cons_succ, List.getElem?_cons_zero, List.getElem?_cons_succ, Option.map_some, Nat.reduceSub, and_self, and_true, true_and, decide_true, decide_false, if_true, if_false, Bool.false_eq_true, Bool.not_true, Bool.not_false, r_ps, s_ps, r_pn, r_sl, s_sl, s_sl1, s_sl2, r_slL, r_slS, r_slT, r_lcT, s_l1, s_l2t, s_l2f, s_l3, r_lc, s_lc, s_noE, s_lceC, s_wr0, s_wr, r_nT, s_nT, r_nF, s_nF, r_nC, s_nC, s_sz0, s_sz1, Nat.reduceAdd, Nat.reduceMul, Nat.reduceLeDiff, last_x, at_m1, last_set, r_mt, s_mt, s_mtb, ty_last, r_fld', s_fld, r_meth0, s_meth0, r_meth, s_meth, s_methb, r_make, s_make, r_sf, s_sf, s_sfb, r_sort, s_sort, r_en, s_enL, r_zi, s_ziL, r_sst, r_mt0', r_gUl3, r_par3, s_par3, r_cmA, s_cmA, r_rev, s_revF, r_cw, s_cw, s_cw1, r_fill, r_isB, r_nTC, s_nTC, m_law_huge_right, r0, b_law_huge_right, e1, e2, e3, e4, f1, f2, f3, f4, f5, ng, f6, f7, f8, f9, f10, ad, eq, leave_val wf]
/-! the law -/
def JT (x0 x2 : Option SV) (b : Bag) (xs : List SV) (rho : Slots) (S' : Store) : Prop :=
  ∃ (ds : List D) (x3 x4 x5 x6 x7 : Option SV), xs = ds.map SV.fr ∧ (∀ d ∈ ds, Kd 500 6 d) ∧ S' = [b.c] ∧ rho = [x0, some (.cell 0), x2, x3, x4, x5, x6, x7]
theorem jt_step {x0 x2 : Option SV} {b : Bag} (y : SV) (xs : List SV) (rho : Slots) (S' : Store) (j : JT x0 x2 b (y :: xs) rho S') :
    DL.Ends ((gNm 3 y rho S').bind (k_body f_law_1)) fun r => r.1 = .nx ∧ JT x0 x2 b xs r.2.1 r.2.2 := by
  obtain ⟨ds, x3, x4, x5, x6, x7, e, hd, rfl, rfl⟩ := j
  cases ds with
  | nil => cases e
  | cons d ds =>
    rw [List.map_cons] at e
    injection e with e1 e2
    subst e1 e2
    have kd := hd d List.mem_cons_self
    have wf := wfb b
    have hx := kd.y.x
    have rp := reprX_of (S := [b.c]) (kd.y.ro (by decide) (by decide))
    have f1 := integer_x wf hx
    have f2 := byte_x wf hx
    have f3 := span_all wf hx
    have f4 := level_x wf hx
    have f5 := name_all wf hx fun s e => (kd.s s e).2
    have f6 := owner_all wf hx
    have du := due_all wf hx kd.s kd.t
    have ad : ∀ a1 a2 a3 a4 a5 a6 : Bool, addG false (.fr (.lst [.bl a1, .bl a2, .bl a3])) (.fr (.lst [.bl a4, .bl a5, .bl a6])) [b.c] = .ok (.fr (.lst [.bl a1, .bl a2, .bl a3, .bl a4, .bl a5, .bl a6]), [b.c]) := fun a1 a2 a3 a4 a5 a6 => by
      rw [add_ff false (by simp), if_neg (by decide)]
      rfl
    have fz : ∀ a1 a2 a3 a4 a5 a6 : Bool, allFr [SV.fr (.bl a1), .fr (.bl a2), .fr (.bl a3), .fr (.bl a4), .fr (.bl a5), .fr (.bl a6)] = some [D.bl a1, .bl a2, .bl a3, .bl a4, .bl a5, .bl a6] := fun _ _ _ _ _ _ => rfl
    have r6 : ∀ a1 a2 a3 a4 a5 a6 : Bool, rOkX (.lst [.bl a1, .bl a2, .bl a3, .bl a4, .bl a5, .bl a6]) = true := fun a1 a2 a3 a4 a5 a6 => by
      refine (y_lst (B := 0) (n := 0) (m := 6) (fun d hd => ?_) (by simp)).ro (by decide) (by decide)
      simp only [List.mem_cons, List.not_mem_nil, or_false] at hd
      have : ∀ a : Bool, YOk 0 0 (.bl a) := fun a => y_fit (by simp [fit]) (by simp [py, PyData.bulk]) (by simp [py, PyData.depth])
      rcases hd with rfl | rfl | rfl | rfl | rfl | rfl <;> exact this _
    generalize isI d = a1 at *
    generalize byteB d = a2 at *
    generalize spanB d = a3 at *
    generalize levB d = a4 at *
    generalize nameB d = a5 at *
    generalize ownB d = a6 at *
    have rl := reprX_of (S := [b.c]) (r6 a1 a2 a3 a4 a5 a6)
    generalize rTxtX d = tx at *
    generalize rTxtX (.lst [.bl a1, .bl a2, .bl a3, .bl a4, .bl a5, .bl a6]) = tl at *
    have es1 := eq_str true tx tx [b.c]
    rw [decide_eq_true (rfl : tx = tx)] at es1
    have es2 := eq_str true tl tl [b.c]
    rw [decide_eq_true (rfl : tl = tl)] at es2
    simp only [r_bind, r_1, s_1, r_2, s_2, s_2b, r_v, s_v, r_c, r_n, r_a, s_a, s_ab, r_g, s_g, r_and, s_And, s_and1, s_and0, r_or, s_Or, s_or1, s_or0, r_not, s_Not, s_not, r_if, s_if1, s_if0, r_ch, s_ch, s_cha, s_chb1, s_chb0, s_chc, r_tB, s_tB, r_tV, s_tV, s_tv, r_tN, s_tN, r_tA, s_tA1, s_tA0, r_tO, s_tO1, s_tO0, r_tT, r_trB, r_trI, r_trN, r_call, s_call, s_noX, s_backV, s_backC, s_backF, s_frz, r_frz, r_all0, r_all1, r_fn1, r_fn2, r_fn3, r_fn4, r_fn5, s_lvR, s_lvN, r_nx, r_bk, r_ct, r_seq, s_seqN, s_seqR, s_seqB, s_seqC, r_ret, s_ret, r_retN, r_sif, s_sif1, s_sif0, r_ex, s_ex, r_set, s_set, r_par, s_par, r_as, s_as, s_gb, r_gNm, r_gNl, r_gCs, s_gCs, r_gTu2, r_gTu3, r_gTu4, r_gSb, s_sb, s_sb2, s_st, s_nxS, r_au, s_au, s_au0, s_au1, s_au2, s_au3, r_addI, r_for, s_for, s_body, s_turnN, s_turnC, s_turnB, s_turnR, r_r1, s_r1, r_r2, s_r2, r_sq, s_sqL, s_sqS, r_tp, s_tp, r_xT, r_xL, s_x, s_xd, at_0, at_1, at_2, at_3, at_4, r_add, r_sub, r_neg, r_mul, r_fdiv, r_mod, r_pow, r_cmp, r_is, r_eqI, r_abs, r_int, r_max, r_min, r_okV, r_snap, r_lenF, r_lenT, DL.isNon, List.replicate_succ, List.replicate_zero, List.set_cons_zero, List.set_cons_succ, List.getElem?_cons_zero, List.getElem?_cons_succ, Option.map_some, Nat.reduceSub, and_self, and_true, true_and, decide_true, decide_false, if_true, if_false, Bool.false_eq_true, Bool.not_true, Bool.not_false, r_ps, s_ps, r_pn, r_sl, s_sl, s_sl1, s_sl2, r_slL, r_slS, r_slT, r_lcT, s_l1, s_l2t, s_l2f, s_l3, r_lc, s_lc, s_noE, s_lceC, s_wr0, s_wr, r_nT, s_nT, r_nF, s_nF, r_nC, s_nC, s_sz0, s_sz1, Nat.reduceAdd, Nat.reduceMul, Nat.reduceLeDiff, last_x, at_m1, last_set, r_mt, s_mt, s_mtb, ty_last, r_fld', s_fld, r_meth0, s_meth0, r_meth, s_meth, s_methb, r_make, s_make, r_sf, s_sf, s_sfb, r_sort, s_sort, r_en, s_enL, r_zi, s_ziL, r_sst, r_mt0', r_gUl3, r_par3, s_par3, r_cmA, s_cmA, r_rev, s_revF, r_cw, s_cw, s_cw1, r_fill, r_isB, r_nTC, s_nTC, f_law_1, i_law_1, rp, f1, f2, f3, f4, f5, f6, ad, rl, du, fz, es1, es2, s_ends]
    exact ⟨ds, _, _, _, _, _, rfl, fun e he => hd e (List.mem_cons_of_mem _ he), rfl, rfl⟩
theorem things_comp {rho : Slots} (hT : ∀ (x : SV) (S : Store), lcT (gNm 7) tTr (eCall m_law_thing false (aC (eV 1) aN)) x (wipeR rho [6, 7]) S = ((noX (m_law_thing [.cell 0] S)).bind (back false)).bind k_l3)
    (b : Bag) (hb : b.Ok) {m : Nat} (hm : m ≤ 100) (a : Int) : ∃ (ds : List D) (b' : Bag), Bag.Ok b' ∧ (∀ d ∈ ds, Kd 500 6 d) ∧ ds.length = m ∧
      lcM (fun _ => True) (gNm 7) tTr (eCall m_law_thing false (aC (eV 1) aN)) [6, 7] rho (rngS a m) [b.c] [] = .ok (ds.map SV.fr, [b'.c]) := by
  have lp : ∃ acc' S', lcM (fun _ => True) (gNm 7) tTr (eCall m_law_thing false (aC (eV 1) aN)) [6, 7] rho (rngS a m) [b.c] [] = .ok (acc', S') ∧
      ∃ (b : Bag) (ds : List D), Bag.Ok b ∧ S' = [b.c] ∧ acc' = ds.map SV.fr ∧ (∀ d ∈ ds, Kd 500 6 d) ∧ ds.length + ([] : List SV).length = m := by
    refine lc_inv (fun xs acc S => ∃ (b : Bag) (ds : List D), Bag.Ok b ∧ S = [b.c] ∧ acc = ds.map SV.fr ∧ (∀ d ∈ ds, Kd 500 6 d) ∧ ds.length + xs.length = m) (fun _ _ _ _ => trivial) (fun x xs acc S h => ?_) _ _ _ ⟨b, [], hb, rfl, rfl, (fun l hl => by cases hl), by rw [rng_len, List.length_nil, Nat.zero_add]⟩
    obtain ⟨b, ds, hb, rfl, rfl, hd, hz⟩ := h
    obtain ⟨d, b1, k1, w1, hp, e1⟩ := thing_run b hb [.lst (ds.map SV.fr)] (wf1 (R := []) (wfb b) (by simp only [Cell.below]; exact below_map _ _))
    refine ⟨some (.fr d), [b1.c], rfl, ?_, ?_⟩
    · rw [hT]
      simp only [List.cons_append, List.nil_append, e1, s_noX, r_bind, s_backV, s_l3]
    · simp only [List.length_cons] at hz
      refine ⟨?_, b1, ds ++ [d], k1, rfl, by rw [List.map_append, List.map_cons, List.map_nil], fun d' h => ?_, by rw [List.length_append, List.length_singleton]; omega⟩
      · have hs := sizeLine_eq
        rw [List.length_map]
        omega
      · rcases List.mem_append.mp h with h | h
        · exact hd d' h
        · rw [List.mem_singleton] at h
          subst h
          exact hp
  obtain ⟨acc', S', e, b2, ds, kb, rfl, rfl, hd, hz⟩ := lp
  exact ⟨ds, b2, kb, hd, by simpa using hz, e⟩
theorem tells : DL.Tells 63 m_law := tells_of fun ns hns => by
  obtain ⟨b0, ok0, eb⟩ := bag0 ns hns
  have hu := huge_run (wfb b0)
  obtain ⟨ds, b1, k1, hd, hl, e1⟩ := things_comp (rho := [some (.fr (.scr (ns.map D.int))), some (.cell 0), none, none, none, none, none, none]) (fun x S => by simp only [r_bind, r_1, s_1, r_2, s_2, s_2b, r_v, s_v, r_c, r_n, r_a, s_a, s_ab, r_g, s_g, r_and, s_And, s_and1, s_and0, r_or, s_Or, s_or1, s_or0, r_not, s_Not, s_not, r_if, s_if1, s_if0, r_ch, s_ch, s_cha, s_chb1, s_chb0, s_chc, r_tB, s_tB, r_tV, s_tV, s_tv, r_tN, s_tN, r_tA, s_tA1, s_tA0, r_tO, s_tO1, s_tO0, r_tT, r_trB, r_trI, r_trN, r_call, s_call, s_noX, s_backV, s_backC, s_backF, s_frz, r_frz, r_all0, r_all1, r_fn1, r_fn2, r_fn3, r_fn4, r_fn5, s_lvR, s_lvN, r_nx, r_bk, r_ct, r_seq, s_seqN, s_seqR, s_seqB, s_seqC, r_ret, s_ret, r_retN, r_sif, s_sif1, s_sif0, r_ex, s_ex, r_set, s_set, r_par, s_par, r_as, s_as, s_gb, r_gNm, r_gNl, r_gCs, s_gCs, r_gTu2, r_gTu3, r_gTu4, r_gSb, s_sb, s_sb2, s_st, s_nxS, r_au, s_au, s_au0, s_au1, s_au2, s_au3, r_addI, r_for, s_for, s_body, s_turnN, s_turnC, s_turnB, s_turnR, r_r1, s_r1, r_r2, s_r2, r_sq, s_sqL, s_sqS, r_tp, s_tp, r_xT, r_xL, s_x, s_xd, at_0, at_1, at_2, at_3, at_4, r_add, r_sub, r_neg, r_mul, r_fdiv, r_mod, r_pow, r_cmp, r_is, r_eqI, r_abs, r_int, r_max, r_min, r_okV, r_snap, r_lenF, r_lenT, DL.isNon, List.replicate_succ, List.replicate_zero, List.set_cons_zero, List.set_cons_succ, List.getElem?_cons_zero, List.getElem?_cons_succ, Option.map_some, Nat.reduceSub, and_self, and_true, true_and, decide_true, decide_false, if_true, if_false, Bool.false_eq_true, Bool.not_true, Bool.not_false, r_ps, s_ps, r_pn, r_sl, s_sl, s_sl1, s_sl2, r_slL, r_slS, r_slT, r_lcT, s_l1, s_l2t, s_l2f, s_l3, r_lc, s_lc, s_noE, s_lceC, s_wr0, s_wr, r_nT, s_nT, r_nF, s_nF, r_nC, s_nC, s_sz0, s_sz1, Nat.reduceAdd, Nat.reduceMul, Nat.reduceLeDiff, last_x, at_m1, last_set, r_mt, s_mt, s_mtb, ty_last, r_fld', s_fld, r_meth0, s_meth0, r_meth, s_meth, s_methb, r_make, s_make, r_sf, s_sf, s_sfb, r_sort, s_sort, r_en, s_enL, r_zi, s_ziL, r_sst, r_mt0', r_gUl3, r_par3, s_par3, r_cmA, s_cmA, r_rev, s_revF, r_cw, s_cw, s_cw1, r_fill, r_isB, r_nTC, s_nTC]) b0 ok0 (m := 24) (by decide) 0
  have rv : eRev false (eV 2) [some (.fr (.scr (ns.map D.int))), some (.cell 0), some (.fr (.lst ds)), none, none, none, none, none] [b1.c] = .ok (.fr (.lst ds.reverse), [b1.c]) := by
    have e : eV 2 [some (.fr (.scr (ns.map D.int))), some (.cell 0), some (.fr (.lst ds)), none, none, none, none, none] [b1.c] = .ok (.fr (.lst ds), [b1.c]) := rfl
    unfold eRev
    rw [e, r_bind]
    unfold revG
    simp only [rdS, rdL, newL0, ← List.map_reverse, allFr_map, Bool.false_eq_true, if_false]
  have ad : addG false (.fr (.lst ds)) (.fr (.lst ds.reverse)) [b1.c] = .ok (.fr (.lst (ds ++ ds.reverse)), [b1.c]) := by
    rw [add_ff false (by rw [List.length_reverse]; omega), if_neg (by decide)]
  obtain ⟨⟨fl, rho, S'⟩, g2, h2, es, z3, z4, z5, z6, z7, q1, _, q5, q6⟩ := loop_ends (JT (some (.fr (.scr (ns.map D.int)))) (some (.fr (.lst ds))) b1) jt_step (xs := (ds ++ ds.reverse).map SV.fr) (rho := [some (.fr (.scr (ns.map D.int))), some (.cell 0), some (.fr (.lst ds)), none, none, none, none, none]) (S := [b1.c])
    ⟨_, _, _, _, _, _, rfl, fun d h => by
      rcases List.mem_append.mp h with h | h
      · exact hd d h
      · exact hd d (List.mem_reverse.mp h), rfl, rfl⟩
  dsimp only at h2 q5 q6
  subst h2 q5 q6
  have lv := leave0 b1
  simp only [r_bind, r_1, s_1, r_2, s_2, s_2b, r_v, s_v, r_c, r_n, r_a, s_a, s_ab, r_g, s_g, r_and, s_And, s_and1, s_and0, r_or, s_Or, s_or1, s_or0, r_not, s_Not, s_not, r_if, s_if1, s_if0, r_ch, s_ch, s_cha, s_chb1, s_chb0, s_chc, r_tB, s_tB, r_tV, s_tV, s_tv, r_tN, s_tN, r_tA, s_tA1, s_tA0, r_tO, s_tO1, s_tO0, r_tT, r_trB, r_trI, r_trN, r_call, s_call, s_noX, s_backV, s_backC, s_backF, s_frz, r_frz, r_all0, r_all1, r_fn1, r_fn2, r_fn3, r_fn4, r_fn5, s_lvR, s_lvN, r_nx, r_bk, r_ct, r_seq, s_seqN, s_seqR, s_seqB, s_seqC, r_ret, s_ret, r_retN, r_sif, s_sif1, s_sif0, r_ex, s_ex, r_set, s_set, r_par, s_par, r_as, s_as, s_gb, r_gNm, r_gNl, r_gCs, s_gCs, r_gTu2, r_gTu3, r_gTu4, r_gSb, s_sb, s_sb2, s_st, s_nxS, r_au, s_au, s_au0, s_au1, s_au2, s_au3, r_addI, r_for, s_for, s_body, s_turnN, s_turnC, s_turnB, s_turnR, r_r1, s_r1, r_r2, s_r2, r_sq, s_sqL, s_sqS, r_tp, s_tp, r_xT, r_xL, s_x, s_xd, at_0, at_1, at_2, at_3, at_4, r_add, r_sub, r_neg, r_mul, r_fdiv, r_mod, r_pow, r_cmp, r_is, r_eqI, r_abs, r_int, r_max, r_min, r_okV, r_snap, r_lenF, r_lenT, DL.isNon, List.replicate_succ, List.replicate_zero, List.set_cons_zero, List.set_cons_succ, List.getElem?_cons_zero, List.getElem?_cons_succ, Option.map_some, Nat.reduceSub, and_self, and_true, true_and, decide_true, decide_false, if_true, if_false, Bool.false_eq_true, Bool.not_true, Bool.not_false, r_ps, s_ps, r_pn, r_sl, s_sl, s_sl1, s_sl2, r_slL, r_slS, r_slT, r_lcT, s_l1, s_l2t, s_l2f, s_l3, r_lc, s_lc, s_noE, s_lceC, s_wr0, s_wr, r_nT, s_nT, r_nF, s_nF, r_nC, s_nC, s_sz0, s_sz1, Nat.reduceAdd, Nat.reduceMul, Nat.reduceLeDiff, last_x, at_m1, last_set, r_mt, s_mt, s_mtb, ty_last, r_fld', s_fld, r_meth0, s_meth0, r_meth, s_meth, s_methb, r_make, s_make, r_sf, s_sf, s_sfb, r_sort, s_sort, r_en, s_enL, r_zi, s_ziL, r_sst, r_mt0', r_gUl3, r_par3, s_par3, r_cmA, s_cmA, r_rev, s_revF, r_cw, s_cw, s_cw1, r_fill, r_isB, r_nTC, s_nTC, m_law, b_law, bag_is, eb, List.length_nil, List.nil_append, i_law_2, r_call0, hu, s_r1 (j := 24) (by decide), show (24 : Int).toNat = 24 from rfl, e1, s_lceF (wfb b1), rv, ad, g2, lv, s_ends]

def dd_is_integer : He5.DefA := ⟨fun K => He.ga K "is_integer", "is_integer", "is_integer", defArgs s_is_integer, defBody s_is_integer, defScope s_is_integer, [], []⟩
def dd_is_name : He5.DefA := ⟨fun K => He.ga K "is_name", "is_name", "is_name", defArgs s_is_name, defBody s_is_name, defScope s_is_name, [], []⟩
def dd_law_bag : He5.DefA := ⟨fun K => He.ga K "_law_bag", "_law_bag", "_law_bag", defArgs s_law_bag, defBody s_law_bag, defScope s_law_bag, [], []⟩
def dd_law_take : He5.DefA := ⟨fun K => He.ga K "_law_take", "_law_take", "_law_take", defArgs s_law_take, defBody s_law_take, defScope s_law_take, [], []⟩
def dd_law_whole : He5.DefA := ⟨fun K => He.ga K "_law_whole", "_law_whole", "_law_whole", defArgs s_law_whole, defBody s_law_whole, defScope s_law_whole, [], []⟩
def dd_is_between : He5.DefA := ⟨fun K => He.ga K "is_between", "is_between", "is_between", defArgs s_is_between, defBody s_is_between, defScope s_is_between, [], []⟩
def dd_is_byte : He5.DefA := ⟨fun K => He.ga K "is_byte", "is_byte", "is_byte", defArgs s_is_byte, defBody s_is_byte, defScope s_is_byte, [], []⟩
def dd_law_number : He5.DefA := ⟨fun K => He.ga K "_law_number", "_law_number", "_law_number", defArgs s_law_number, defBody s_law_number, defScope s_law_number, [], []⟩
def dd_law_text : He5.DefA := ⟨fun K => He.ga K "_law_text", "_law_text", "_law_text", defArgs s_law_text, defBody s_law_text, defScope s_law_text, [], []⟩
def dd_law_due : He5.DefA := ⟨fun K => He.ga K "_law_due", "_law_due", "_law_due", defArgs s_law_due, defBody s_law_due, defScope s_law_due, [], []⟩
def dd_span_fault : He5.DefA := ⟨fun K => He.ga K "span_fault", "span_fault", "span_fault", defArgs s_span_fault, defBody s_span_fault, defScope s_span_fault, [], []⟩
def dd_is_level : He5.DefA := ⟨fun K => He.ga K "is_level", "is_level", "is_level", defArgs s_is_level, defBody s_is_level, defScope s_is_level, [], []⟩
def dd_is_owner : He5.DefA := ⟨fun K => He.ga K "is_owner", "is_owner", "is_owner", defArgs s_is_owner, defBody s_is_owner, defScope s_is_owner, [], []⟩
def dd_law_atom : He5.DefA := ⟨fun K => He.ga K "_law_atom", "_law_atom", "_law_atom", defArgs s_law_atom, defBody s_law_atom, defScope s_law_atom, [], []⟩
def dd_is_span : He5.DefA := ⟨fun K => He.ga K "is_span", "is_span", "is_span", defArgs s_is_span, defBody s_is_span, defScope s_is_span, [], []⟩
def dd_law_thing : He5.DefA := ⟨fun K => He.ga K "_law_thing", "_law_thing", "_law_thing", defArgs s_law_thing, defBody s_law_thing, defScope s_law_thing, [], []⟩
def dd_law_huge_right : He5.DefA := ⟨fun K => He.ga K "_law_huge_right", "_law_huge_right", "_law_huge_right", defArgs s_law_huge_right, defBody s_law_huge_right, defScope s_law_huge_right, [], []⟩
def dd_law : He5.DefA := ⟨fun K => He.ga K "law", "law", "law", defArgs s_law, defBody s_law, defScope s_law, [], []⟩
def fnl : List He5.DefA := [dd_is_integer, dd_is_name, dd_law_bag, dd_law_take, dd_law_whole, dd_is_between, dd_is_byte, dd_law_number, dd_law_text, dd_law_due, dd_span_fault, dd_is_level, dd_is_owner, dd_law_atom, dd_is_span, dd_law_thing, dd_law_huge_right, dd_law]
def fcl : List Fc := [fcFree "abs", fcFree "all", fcFree "bool", fcFree "int", fcFree "isinstance", fcFree "len", fcFree "range", fcFree "repr", fcFree "str", fcFree "tuple", fcGlo "OWNER_WORDS", fcTup "OWNER_WORDS" [.inr "process", .inr "open"], fcStr "LETTERS" "abcdefghijklmnopqrstuvwxyz", fcInt "MOST_LETTERS" (8), fcInt "MOST_LEVEL" (2), fcGlo "is_integer", fcGlo "is_name", fcGlo "_law_bag", fcGlo "_law_take", fcGlo "_law_whole", fcGlo "is_between", fcGlo "is_byte", fcGlo "_law_number", fcGlo "_law_text", fcGlo "_law_due", fcGlo "span_fault", fcGlo "is_level", fcGlo "is_owner", fcGlo "_law_atom", fcGlo "is_span", fcGlo "_law_thing", fcGlo "_law_huge_right", fcGlo "law"]
abbrev RW : PySem.W.OpenRow := PySem.W.OpenLaw.row PySem.Challenge.rw_byteholds_k11_kinds_known
abbrev hkD : PySem.W.Hook := hookF 5 fcl fnl
def obD (s : PySem.W.SharedT) : He.AlD := obsFG 5 fcl fnl (HandSHeadRun.getT s)
theorem obD_eq (s : PySem.W.SharedT) : obD s = hkD.obs s.abs := obsFG_eq (HandSHeadRun.getT_eq s)
theorem ranD (w : World) : HandSHeadRun.RunEq RW (PySem.W.view RW.prog [23]) hkD obD 6000 ("LETTERS" :: "MOST_LETTERS" :: "MOST_LEVEL" :: "OWNER_WORDS" :: "is_integer" :: "is_between" :: "is_byte" :: "span_fault" :: "is_span" :: "is_level" :: "is_name" :: "is_owner" :: "_law_bag" :: "_law_take" :: "_law_number" :: "_law_atom" :: "_law_text" :: "_law_thing" :: "_law_whole" :: "_law_due" :: "_law_huge_right" :: []) w := by
  intro os
  kernel_rfl
theorem allD {P : Program} {w : World} {K : PySem.W.Frag} {mg : Str → Option Value} {h base : Heap} (X : K.In h) (G : h.Ns mainGlobals mg) (c : SaysF fcl fnl K) : CalD P w K mg base 6 "law" m_law := by
  have T : Txt K mg := ⟨He.free_ok X G (c.fact 0 (f := fcFree "abs") rfl), He.free_ok X G (c.fact 1 (f := fcFree "all") rfl), He.free_ok X G (c.fact 2 (f := fcFree "bool") rfl), He.free_ok X G (c.fact 3 (f := fcFree "int") rfl), He.free_ok X G (c.fact 4 (f := fcFree "isinstance") rfl), He.free_ok X G (c.fact 5 (f := fcFree "len") rfl), He.free_ok X G (c.fact 6 (f := fcFree "range") rfl), He.free_ok X G (c.fact 7 (f := fcFree "repr") rfl), He.free_ok X G (c.fact 8 (f := fcFree "str") rfl), He.free_ok X G (c.fact 9 (f := fcFree "tuple") rfl), He.glo_ok X G (c.fact 10 (f := fcGlo "OWNER_WORDS") rfl), ctup_of (c.fact 11 (f := fcTup "OWNER_WORDS" [.inr "process", .inr "open"]) rfl), cstr_of X G (c.fact 12 (f := fcStr "LETTERS" "abcdefghijklmnopqrstuvwxyz") rfl), cint_of X G (c.fact 13 (f := fcInt "MOST_LETTERS" (8)) rfl), cint_of X G (c.fact 14 (f := fcInt "MOST_LEVEL" (2)) rfl)⟩
  obtain ⟨_, F_is_integer⟩ := c.def_ 0 (d := dd_is_integer) rfl
  have B_is_integer := F_is_integer.bindsN (ps := ["thing"]) fun _ _ _ _ _ _ us hl => match us, hl with | [_], _ => rfl
  have c_is_integer := ok_is_integer (P := P) (w := w) (base := base) T (He5.fun_of F_is_integer) (He.glo_ok X G (c.fact 15 (f := fcGlo "is_integer") rfl)) B_is_integer 
  obtain ⟨_, F_is_name⟩ := c.def_ 1 (d := dd_is_name) rfl
  have B_is_name := F_is_name.bindsN (ps := ["thing"]) fun _ _ _ _ _ _ us hl => match us, hl with | [_], _ => rfl
  have c_is_name := ok_is_name (P := P) (w := w) (base := base) T (He5.fun_of F_is_name) (He.glo_ok X G (c.fact 16 (f := fcGlo "is_name") rfl)) B_is_name 
  obtain ⟨_, F_law_bag⟩ := c.def_ 2 (d := dd_law_bag) rfl
  have B_law_bag := F_law_bag.bindsN (ps := ["_law_script"]) fun _ _ _ _ _ _ us hl => match us, hl with | [_], _ => rfl
  have c_law_bag := ok_law_bag (P := P) (w := w) (base := base) T (He5.fun_of F_law_bag) (He.glo_ok X G (c.fact 17 (f := fcGlo "_law_bag") rfl)) B_law_bag 
  obtain ⟨_, F_law_take⟩ := c.def_ 3 (d := dd_law_take) rfl
  have B_law_take := F_law_take.bindsN (ps := ["_law_bag_here", "_law_many"]) fun _ _ _ _ _ _ us hl => match us, hl with | [_, _], _ => rfl
  have c_law_take := ok_law_take (P := P) (w := w) (base := base) T (He5.fun_of F_law_take) (He.glo_ok X G (c.fact 18 (f := fcGlo "_law_take") rfl)) B_law_take 
  obtain ⟨_, F_law_whole⟩ := c.def_ 4 (d := dd_law_whole) rfl
  have B_law_whole := F_law_whole.bindsN (ps := ["_law_thing_here"]) fun _ _ _ _ _ _ us hl => match us, hl with | [_], _ => rfl
  have c_law_whole := ok_law_whole (P := P) (w := w) (base := base) T (He5.fun_of F_law_whole) (He.glo_ok X G (c.fact 19 (f := fcGlo "_law_whole") rfl)) B_law_whole 
  obtain ⟨_, F_is_between⟩ := c.def_ 5 (d := dd_is_between) rfl
  have B_is_between := F_is_between.bindsN (ps := ["thing", "least", "greatest"]) fun _ _ _ _ _ _ us hl => match us, hl with | [_, _, _], _ => rfl
  have c_is_between := ok_is_between (P := P) (w := w) (base := base) T (He5.fun_of F_is_between) (He.glo_ok X G (c.fact 20 (f := fcGlo "is_between") rfl)) B_is_between c_is_integer
  obtain ⟨_, F_is_byte⟩ := c.def_ 6 (d := dd_is_byte) rfl
  have B_is_byte := F_is_byte.bindsN (ps := ["thing"]) fun _ _ _ _ _ _ us hl => match us, hl with | [_], _ => rfl
  have c_is_byte := ok_is_byte (P := P) (w := w) (base := base) T (He5.fun_of F_is_byte) (He.glo_ok X G (c.fact 21 (f := fcGlo "is_byte") rfl)) B_is_byte c_is_integer
  obtain ⟨_, F_law_number⟩ := c.def_ 7 (d := dd_law_number) rfl
  have B_law_number := F_law_number.bindsN (ps := ["_law_bag_here"]) fun _ _ _ _ _ _ us hl => match us, hl with | [_], _ => rfl
  have c_law_number := ok_law_number (P := P) (w := w) (base := base) T (He5.fun_of F_law_number) (He.glo_ok X G (c.fact 22 (f := fcGlo "_law_number") rfl)) B_law_number c_law_take
  obtain ⟨_, F_law_text⟩ := c.def_ 8 (d := dd_law_text) rfl
  have B_law_text := F_law_text.bindsN (ps := ["_law_bag_here"]) fun _ _ _ _ _ _ us hl => match us, hl with | [_], _ => rfl
  have c_law_text := ok_law_text (P := P) (w := w) (base := base) T (He5.fun_of F_law_text) (He.glo_ok X G (c.fact 23 (f := fcGlo "_law_text") rfl)) B_law_text c_law_take
  obtain ⟨_, F_law_due⟩ := c.def_ 9 (d := dd_law_due) rfl
  have B_law_due := F_law_due.bindsN (ps := ["_law_thing_here"]) fun _ _ _ _ _ _ us hl => match us, hl with | [_], _ => rfl
  have c_law_due := ok_law_due (P := P) (w := w) (base := base) T (He5.fun_of F_law_due) (He.glo_ok X G (c.fact 24 (f := fcGlo "_law_due") rfl)) B_law_due c_law_whole
  obtain ⟨_, F_span_fault⟩ := c.def_ 10 (d := dd_span_fault) rfl
  have B_span_fault := F_span_fault.bindsN (ps := ["first", "last"]) fun _ _ _ _ _ _ us hl => match us, hl with | [_, _], _ => rfl
  have c_span_fault := ok_span_fault (P := P) (w := w) (base := base) T (He5.fun_of F_span_fault) (He.glo_ok X G (c.fact 25 (f := fcGlo "span_fault") rfl)) B_span_fault c_is_byte
  obtain ⟨_, F_is_level⟩ := c.def_ 11 (d := dd_is_level) rfl
  have B_is_level := F_is_level.bindsN (ps := ["thing"]) fun _ _ _ _ _ _ us hl => match us, hl with | [_], _ => rfl
  have c_is_level := ok_is_level (P := P) (w := w) (base := base) T (He5.fun_of F_is_level) (He.glo_ok X G (c.fact 26 (f := fcGlo "is_level") rfl)) B_is_level c_is_between
  obtain ⟨_, F_is_owner⟩ := c.def_ 12 (d := dd_is_owner) rfl
  have B_is_owner := F_is_owner.bindsN (ps := ["thing"]) fun _ _ _ _ _ _ us hl => match us, hl with | [_], _ => rfl
  have c_is_owner := ok_is_owner (P := P) (w := w) (base := base) T (He5.fun_of F_is_owner) (He.glo_ok X G (c.fact 27 (f := fcGlo "is_owner") rfl)) B_is_owner c_is_byte
  obtain ⟨_, F_law_atom⟩ := c.def_ 13 (d := dd_law_atom) rfl
  have B_law_atom := F_law_atom.bindsN (ps := ["_law_bag_here"]) fun _ _ _ _ _ _ us hl => match us, hl with | [_], _ => rfl
  have c_law_atom := ok_law_atom (P := P) (w := w) (base := base) T (He5.fun_of F_law_atom) (He.glo_ok X G (c.fact 28 (f := fcGlo "_law_atom") rfl)) B_law_atom c_law_number c_law_take
  obtain ⟨_, F_is_span⟩ := c.def_ 14 (d := dd_is_span) rfl
  have B_is_span := F_is_span.bindsN (ps := ["thing"]) fun _ _ _ _ _ _ us hl => match us, hl with | [_], _ => rfl
  have c_is_span := ok_is_span (P := P) (w := w) (base := base) T (He5.fun_of F_is_span) (He.glo_ok X G (c.fact 29 (f := fcGlo "is_span") rfl)) B_is_span c_span_fault
  obtain ⟨_, F_law_thing⟩ := c.def_ 15 (d := dd_law_thing) rfl
  have B_law_thing := F_law_thing.bindsN (ps := ["_law_bag_here"]) fun _ _ _ _ _ _ us hl => match us, hl with | [_], _ => rfl
  have c_law_thing := ok_law_thing (P := P) (w := w) (base := base) T (He5.fun_of F_law_thing) (He.glo_ok X G (c.fact 30 (f := fcGlo "_law_thing") rfl)) B_law_thing c_law_take c_law_atom c_law_text c_law_number
  obtain ⟨_, F_law_huge_right⟩ := c.def_ 16 (d := dd_law_huge_right) rfl
  have B_law_huge_right := F_law_huge_right.bindsN (ps := []) fun _ _ _ _ _ _ us hl => match us, hl with | [], _ => rfl
  have c_law_huge_right := ok_law_huge_right (P := P) (w := w) (base := base) T (He5.fun_of F_law_huge_right) (He.glo_ok X G (c.fact 31 (f := fcGlo "_law_huge_right") rfl)) B_law_huge_right c_is_owner c_is_span c_is_level c_is_byte c_is_integer
  obtain ⟨_, F_law⟩ := c.def_ 17 (d := dd_law) rfl
  have B_law := F_law.bindsN (ps := ["_law_script"]) fun _ _ _ _ _ _ us hl => match us, hl with | [_], _ => rfl
  have c_law := ok_law (P := P) (w := w) (base := base) T (He5.fun_of F_law) (He.glo_ok X G (c.fact 32 (f := fcGlo "law") rfl)) B_law c_law_due c_is_owner c_is_name c_is_level c_is_span c_is_byte c_is_integer c_law_thing c_law_huge_right c_law_bag
  exact c_law
end K11
open PySem PySem.W PySem.Calls PyProof.Rows
theorem PySem.Challenge.cw_byteholds_k11_kinds_known_holds : PySem.Challenge.rw_byteholds_k11_kinds_known.Holds := by
  w_on; o_law
  refine HandSHeadRun.head_any (r := OpenLaw.row PySem.Challenge.rw_byteholds_k11_kinds_known) (q := view (OpenLaw.row PySem.Challenge.rw_byteholds_k11_kinds_known).prog [23]) (H := K11.hkD) (ob := K11.obD) (M := 6000) (loose := ("LETTERS" :: "MOST_LETTERS" :: "MOST_LEVEL" :: "OWNER_WORDS" :: "is_integer" :: "is_between" :: "is_byte" :: "span_fault" :: "is_span" :: "is_level" :: "is_name" :: "is_owner" :: "_law_bag" :: "_law_take" :: "_law_number" :: "_law_atom" :: "_law_text" :: "_law_thing" :: "_law_whole" :: "_law_due" :: "_law_huge_right" :: [])) (d := HandSHeadRun.topDef (OpenLaw.row PySem.Challenge.rw_byteholds_k11_kinds_known).prog 23) (kwd := []) K11.obD_eq
    (by kernel_rfl) (fun s => by kernel_rfl) K11.ranD (by kernel_rfl) (by kernel_rfl) (by kernel_rfl) (by rfl) (by first | assumption | decide +kernel) (by decide +kernel) ⟨rfl, rfl, rfl, rfl, rfl, by decide +kernel⟩ ?hw ?hc
  case hw => w_witness2
  case hc =>
    refine DL.walkD (l := PySem.Challenge.rw_byteholds_k11_kinds_known) (n := 63) (k := 6) rfl (by decide) (by kernel_rfl) ⟨rfl, by decide, by decide⟩ (fun w mg h Y G => ?_) K11.tells
    obtain ⟨K, X, c⟩ := Y
    have e : (HandSHeadRun.topDef (OpenLaw.row PySem.Challenge.rw_byteholds_k11_kinds_known).prog 23).name = ("law" : PySem.Str) := by kernel_rfl
    refine ⟨K, X, fun base _ _ => ?_⟩
    rw [e]
    exact K11.allD X G c
