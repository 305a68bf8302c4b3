import PyProof.Rows.All
import Wide.All
import OpenK.AllK
import Wide.FinOn
import HandS.ForMost
import HandS.Exc
import HandS.TryMany
import HandS.Lambda
import HandS.EndTab
import HandS.ExcInit
import HandS.Deep
import HandS.IsInst
import HandS.Wide
import HandS.TupAny
import HandS.Flow
import HandS.SortInts
import HandS.Conv
import HandS.CallSlots
import KE.GoesEnum
import HandS.Small
import HandS.Style
import HandS.TupMul
import HandS.TupLen
import KE.KDictPairs
import HandS.WordsDict
import HandS.More
import KE.GoesMore
import KE.KDictZip
import PyProof.CollectWalk
import HandS.RevTup
import PyProof.Commute
import PyProof.Rows.FactsT2
import HandS.HeadWalk
import KE.KExcSuper
import HandS.Nested
import HandS.ExcField
import HandS.HeadHook4
import HandS.Head2
import HandS.HeadEnd
import KE.KData
import PyProof.FitsInt
import PySem.Challenge.RW_gateforge_k05_gates_made
set_option Elab.async false
set_option linter.all false
set_option maxRecDepth 100000
set_option maxHeartbeats 4000000
namespace Vy
open PySem PySem.Spec L2

abbrev D := PyData
/-- the tables of code objects that the text has -/
class Tb where
  T : List (Addr × Str)
  /-- the classes of the program's own, by their numbers; the names of their fields -/
  oc : Nat → Addr
  ol : Nat → List Str
variable [Tb]

/-- a list that is never written any more: locked, or of the written part -/
def SqF (K : PySem.W.Frag) (H : Hp) (a : Addr) (vs : List V) : Prop :=
  (∃ o, H a = some (.frz o (.lst vs))) ∨ SqL K (fun _ => none) a vs

mutual
/-- the data d lies at the value v, for good -/
inductive Rp (K : PySem.W.Frag) (H : Hp) : D → V → Prop
  | non : Rp K H .none .non
  | bl (b : Bool) : Rp K H (.bool b) (.bl b)
  | int (i : Int) : Rp K H (.int i) (.int i)
  | str (x : Str) : Rp K H (.str x) (.str x)
  | tup {a : Addr} {vs : List V} {ds : List D} : H a = some (.tup vs) → RpA K H ds vs → Rp K H (.tuple ds) (.ref a)
  | lst {a : Addr} {vs : List V} {ds : List D} : SqF K H a vs → RpA K H ds vs → Rp K H (.list ds) (.ref a)
inductive RpA (K : PySem.W.Frag) (H : Hp) : List D → List V → Prop
  | nil : RpA K H [] []
  | cons {d : D} {ds : List D} {v : V} {vs : List V} : Rp K H d v → RpA K H ds vs → RpA K H (d :: ds) (v :: vs)
end

/-- nothing is told of a, or it is a table of code objects -/
def Fr (H : Hp) (a : Addr) : Prop := ∀ o, H a = some o → ∃ ps, o = .tbl ps
theorem Fr.of {H : Hp} {a : Addr} (h : H a = none) : Fr H a := fun o e => by rw [h] at e; cases e
theorem Fr.no {H : Hp} {a : Addr} {o : HO} (h : H a = some o) (t : ∀ ps, o ≠ .tbl ps) : ¬ Fr H a := fun f => by
  obtain ⟨ps, e⟩ := f o h
  exact t ps e
theorem Fr.ne {H : Hp} {a b : Addr} {o : HO} (n : Fr H a) (h : H b = some o) (t : ∀ ps, o ≠ .tbl ps) : b ≠ a := fun e => Fr.no h t (by rw [e]; exact n)
/-- what evaluation may do to the heap: the shared cells m are written, code tables grow -/
structure Ext (m : List Addr) (H H' : Hp) : Prop where
  keep : ∀ b o, H b = some o → b ∉ m → (∀ ps, o ≠ .tbl ps) → H' b = some o
  fixT : ∀ b xs, H b = some (.tup xs) → H' b = some (.tup xs)
  fixF : ∀ b o u, H b = some (.frz o u) → H' b = some (.frz o u)
  fixI : ∀ b C dx gs, H b = some (.ins C dx gs) → H' b = some (.ins C dx gs)
  there : ∀ b, Fr H' b → Fr H b
  tab : LamX.Tabs Tb.T H → LamX.Tabs Tb.T H'

theorem Ext.refl (m : List Addr) (H : Hp) : Ext m H H := ⟨fun _ _ h _ _ => h, fun _ _ h => h, fun _ _ _ h => h, fun _ _ _ _ h => h, fun _ h => h, fun h => h⟩
theorem Ext.trans {m m' : List Addr} {H H1 H2 : Hp} (a : Ext m H H1) (b : Ext m' H1 H2) (hm : ∀ x ∈ m', x ∈ m ∨ Fr H x) : Ext m H H2 where
  keep := fun x o h n t => b.keep x o (a.keep x o h n t) (fun z => (hm x z).elim n fun e => Fr.no h t e) t
  fixT := fun x xs h => b.fixT x xs (a.fixT x xs h)
  fixF := fun x o u h => b.fixF x o u (a.fixF x o u h)
  fixI := fun x C dx gs h => b.fixI x C dx gs (a.fixI x C dx gs h)
  there := fun x h => a.there x (b.there x h)
  tab := fun h => b.tab (a.tab h)
theorem Ext.mono {m m' : List Addr} {H H1 : Hp} (a : Ext m H H1) (hm : ∀ x ∈ m, x ∈ m') : Ext m' H H1 :=
  ⟨fun x o h n t => a.keep x o h (fun z => n (hm x z)) t, a.fixT, a.fixF, a.fixI, a.there, a.tab⟩
theorem Ext.new {m : List Addr} {H : Hp} {p : Addr} {o : HO} (hp : H p = none) : Ext m H (upd H p o) where
  keep := fun x o' h _ _ => by rw [upd_ne (ne_of_none h hp)]; exact h
  fixT := fun x xs h => by rw [upd_ne (ne_of_none h hp)]; exact h
  fixF := fun x o' u h => by rw [upd_ne (ne_of_none h hp)]; exact h
  fixI := fun x C dx gs h => by rw [upd_ne (ne_of_none h hp)]; exact h
  there := fun x h => by
    by_cases e : x = p
    · rw [e]; exact Fr.of hp
    · exact fun o ho => h o (by rw [upd_ne e]; exact ho)
  tab := fun h => h.ext fun b o e => by rw [upd_ne (ne_of_none e hp)]; exact e
/-- what is written: lists and dicts -/
def Wr : HO → Prop
  | .lst _ => True
  | .dK _ => True
  | .dT _ => True
  | _ => False
theorem Wr.tab {H : Hp} {p : Addr} {o u : HO} (hp : H p = some u) (w : Wr u) (h : LamX.Tabs Tb.T H) : LamX.Tabs Tb.T (upd H p o) := fun q hq => by
  obtain ⟨ps, h1, h2, h3⟩ := h q hq
  refine ⟨ps, by rw [upd_ne (fun e => by rw [e, hp] at h1; cases h1; exact w)]; exact h1, h2, fun pos cv hc => ?_⟩
  obtain ⟨c, e1, e2⟩ := h3 pos cv hc
  exact ⟨c, e1, by rw [upd_ne (fun e => by rw [e, hp] at e2; cases e2; exact w)]; exact e2⟩
theorem Ext.put {m : List Addr} {H : Hp} {p : Addr} {o u : HO} (hp : H p = some u) (w : Wr u) (hm : p ∈ m) (wo : ∀ ps, o ≠ .tbl ps := by intro ps z; cases z) : Ext m H (upd H p o) where
  keep := fun x o' h n _ => by rw [upd_ne (fun e => n (by rw [e]; exact hm))]; exact h
  fixT := fun x xs h => by rw [upd_ne (fun e => by rw [e, hp] at h; cases h; exact w)]; exact h
  fixF := fun x o' v h => by rw [upd_ne (fun e => by rw [e, hp] at h; cases h; exact w)]; exact h
  fixI := fun x C dx gs h => by rw [upd_ne (fun e => by rw [e, hp] at h; cases h; exact w)]; exact h
  there := fun x h => by
    by_cases e : x = p
    · rw [e] at h; exact absurd h (Fr.no upd_same wo)
    · exact fun o ho => h o (by rw [upd_ne e]; exact ho)
  tab := Wr.tab hp w

section
variable {K : PySem.W.Frag} {m : List Addr} {H H' : Hp}
theorem SqT.ext {a : Addr} {vs : List V} (h : SqT K H a vs) (e : Ext m H H') : SqT K H' a vs := by
  rcases h with (h | ⟨o, h⟩) | h
  · exact .inl (.inl (e.fixT _ _ h))
  · exact .inl (.inr ⟨o, e.fixF _ _ _ h⟩)
  · exact .inr h
theorem SqF.ext {a : Addr} {vs : List V} (h : SqF K H a vs) (e : Ext m H H') : SqF K H' a vs := by
  rcases h with ⟨o, h⟩ | h
  · exact .inl ⟨o, e.fixF _ _ _ h⟩
  · exact .inr h
theorem SqF.sql {a : Addr} {vs : List V} (h : SqF K H a vs) : SqL K H a vs := by
  rcases h with ⟨o, h⟩ | h
  · exact .inl (.inr ⟨o, h⟩)
  · rcases h with (h | ⟨o, h⟩) | h
    · cases h
    · cases h
    · exact .inr h
mutual
theorem Rp.ext {d : D} {v : V} (h : Rp K H d v) (e : Ext m H H') : Rp K H' d v := by
  cases h with
  | non => exact .non
  | bl b => exact .bl b
  | int i => exact .int i
  | str x => exact .str x
  | tup h1 h2 => exact .tup (e.fixT _ _ h1) (RpA.ext h2 e)
  | lst h1 h2 => exact .lst (SqF.ext h1 e) (RpA.ext h2 e)
theorem RpA.ext {ds : List D} {vs : List V} (h : RpA K H ds vs) (e : Ext m H H') : RpA K H' ds vs := by
  cases h with
  | nil => exact .nil
  | cons h1 h2 => exact .cons (Rp.ext h1 e) (RpA.ext h2 e)
end
mutual
theorem Rp.dp {d : D} {v : V} (h : Rp K H d v) : Dp K H v d := by
  cases h with
  | non => exact .non
  | bl b => exact .bl b
  | int i => exact .int i
  | str x => exact .str x
  | tup h1 h2 => exact .tup (.inl (.inl h1)) (RpA.dp h2)
  | lst h1 h2 => exact .lst (SqF.sql h1) (RpA.dp h2)
theorem RpA.dp {ds : List D} {vs : List V} (h : RpA K H ds vs) : DpAll K H vs ds := by
  cases h with
  | nil => exact .nil
  | cons h1 h2 => exact .cons (Rp.dp h1) (RpA.dp h2)
end
theorem RpA.len {ds : List D} {vs : List V} (h : RpA K H ds vs) : ds.length = vs.length := by
  induction vs generalizing ds with
  | nil => cases h; rfl
  | cons v vs ih => cases h with | cons a b => rw [List.length_cons, List.length_cons, ih b]
theorem RpA.get : ∀ {ds : List D} {vs : List V} {i : Nat} {d : D}, RpA K H ds vs → ds[i]? = some d → ∃ v, vs[i]? = some v ∧ Rp K H d v
  | _, _, _, _, .nil, e => by simp at e
  | _, _, 0, _, .cons a _, e => by simp at e; subst e; exact ⟨_, rfl, a⟩
  | _, _, i + 1, d, .cons _ b, e => by
    obtain ⟨v, h1, h2⟩ := RpA.get (i := i) (d := d) b (by simpa using e)
    exact ⟨v, by simpa using h1, h2⟩
theorem RpA.getV : ∀ {ds : List D} {vs : List V} {i : Nat} {v : V}, RpA K H ds vs → vs[i]? = some v → ∃ d, ds[i]? = some d ∧ Rp K H d v
  | _, _, _, _, .nil, e => by simp at e
  | _, _, 0, _, .cons a _, e => by simp at e; subst e; exact ⟨_, rfl, a⟩
  | _, _, i + 1, d, .cons _ b, e => by
    obtain ⟨v, h1, h2⟩ := RpA.getV (i := i) (v := d) b (by simpa using e)
    exact ⟨v, by simpa using h1, h2⟩
theorem RpA.app : ∀ {ds ds' : List D} {vs vs' : List V}, RpA K H ds vs → RpA K H ds' vs' → RpA K H (ds ++ ds') (vs ++ vs')
  | _, _, _, _, .nil, h => h
  | _, _, _, _, .cons a b, h => .cons a (RpA.app b h)
theorem RpA.set {d : D} {v : V} (r : Rp K H d v) : ∀ {ds : List D} {vs : List V} (i : Nat), RpA K H ds vs → RpA K H (ds.set i d) (vs.set i v)
  | _, _, _, .nil => .nil
  | _, _, 0, .cons _ t => .cons r t
  | _, _, i + 1, .cons q t => .cons q (RpA.set r i t)
theorem RpA.take : ∀ {ds : List D} {vs : List V} (n : Nat), RpA K H ds vs → RpA K H (ds.take n) (vs.take n)
  | _, _, 0, _ => .nil
  | _, _, _ + 1, .nil => .nil
  | _, _, n + 1, .cons a b => .cons a (RpA.take n b)
theorem RpA.drop : ∀ {ds : List D} {vs : List V} (n : Nat), RpA K H ds vs → RpA K H (ds.drop n) (vs.drop n)
  | _, _, 0, h => h
  | _, _, _ + 1, .nil => .nil
  | _, _, n + 1, .cons _ b => RpA.drop n b
theorem RpA.inv {ds ds' : List D} {vs : List V} : RpA K H (ds ++ ds') vs → ∃ v1 v2, vs = v1 ++ v2 ∧ RpA K H ds v1 ∧ RpA K H ds' v2 := by
  induction ds generalizing vs with
  | nil => intro h; exact ⟨[], vs, rfl, .nil, h⟩
  | cons d ds ih =>
    intro h
    cases h with
    | cons a b =>
      obtain ⟨v1, v2, e, h1, h2⟩ := ih b
      exact ⟨_ :: v1, v2, by rw [e]; rfl, .cons a h1, h2⟩
end

/-! ### cells, slots, states -/
inductive Cell
  | lst (ds : List D)
  | dct (kvs : List (Key × D))
  | dcT (kvs : List (List Key × D))
/-- a field of an instance: data, a shared cell -/
inductive FV
  | d (d : D)
  | c (k : Nat)
inductive SV
  | p (d : D)
  | ref (k : Nat)
  | own (c : Cell)
  | obj (c : Nat) (fs : List FV)
abbrev Ev := List (Option SV)
abbrev Sto := List Cell

def KvR {κ : Type} (K : PySem.W.Frag) (H : Hp) : List (κ × D) → List (κ × V) → Prop := Paired fun p q => p.1 = q.1 ∧ Rp K H p.2 q.2
/-- the cell c stands at a -/
def CellR (K : PySem.W.Frag) (H : Hp) (a : Addr) : Cell → Prop
  | .lst ds => ∃ vs, H a = some (.lst vs) ∧ RpA K H ds vs
  | .dct kvs => ∃ ws, H a = some (.dK ws) ∧ KvR K H kvs ws
  | .dcT kvs => ∃ ws, H a = some (.dT ws) ∧ KvR K H kvs ws
theorem KvR.ext {κ : Type} {K : PySem.W.Frag} {H H' : Hp} {m : List Addr} {kvs : List (κ × D)} {ws : List (κ × V)} (h : KvR K H kvs ws) (e : Ext m H H') : KvR K H' kvs ws := Paired.mapP h fun _ _ z => ⟨z.1, z.2.ext e⟩
theorem CellR.ext {K : PySem.W.Frag} {H H' : Hp} {m : List Addr} {a : Addr} {c : Cell} (h : CellR K H a c) (e : Ext m H H') (n : a ∉ m) : CellR K H' a c := by
  cases c with
  | lst ds =>
    obtain ⟨vs, h1, h2⟩ := h
    exact ⟨vs, e.keep _ _ h1 n (fun ps z => by cases z), h2.ext e⟩
  | dct kvs =>
    obtain ⟨ws, h1, h2⟩ := h
    exact ⟨ws, e.keep _ _ h1 n (fun ps z => by cases z), h2.ext e⟩
  | dcT kvs =>
    obtain ⟨ws, h1, h2⟩ := h
    exact ⟨ws, e.keep _ _ h1 n (fun ps z => by cases z), h2.ext e⟩
theorem CellR.there {K : PySem.W.Frag} {H : Hp} {a : Addr} {c : Cell} (h : CellR K H a c) : ∃ o, H a = some o ∧ Wr o ∧ ∀ ps, o ≠ .tbl ps := by
  cases c with
  | lst ds => obtain ⟨vs, h1, _⟩ := h; exact ⟨_, h1, trivial, fun ps z => by cases z⟩
  | dct kvs => obtain ⟨vs, h1, _⟩ := h; exact ⟨_, h1, trivial, fun ps z => by cases z⟩
  | dcT kvs => obtain ⟨vs, h1, _⟩ := h; exact ⟨_, h1, trivial, fun ps z => by cases z⟩
/-- a field's value -/
inductive FvR (K : PySem.W.Frag) (H : Hp) (m : List Addr) : FV → V → Prop
  | d {d : D} {v : V} : Rp K H d v → FvR K H m (.d d) v
  | c {k : Nat} {a : Addr} : m[k]? = some a → FvR K H m (.c k) (.ref a)
/-- the instance at a: of the class c, its fields -/
def ObjR (K : PySem.W.Frag) (H : Hp) (m : List Addr) (c : Nat) (fs : List FV) (a : Addr) : Prop := ∃ dx gs, H a = some (.ins (Tb.oc c) dx gs) ∧ gs.map (·.1) = Tb.ol c ∧ Paired (fun p q => FvR K H m p q.2) fs gs

/-- one slot: as, its own cell's address -/
inductive SlotR (K : PySem.W.Frag) (H : Hp) (m : List Addr) : Option SV → Option V → List Addr → Prop
  | no (o : Option V) : SlotR K H m none o []
  | p {d : D} {v : V} : Rp K H d v → SlotR K H m (some (.p d)) (some v) []
  | ref {k : Nat} {a : Addr} : m[k]? = some a → SlotR K H m (some (.ref k)) (some (.ref a)) []
  | own {c : Cell} {a : Addr} : CellR K H a c → SlotR K H m (some (.own c)) (some (.ref a)) [a]
  | obj {c : Nat} {fs : List FV} {a : Addr} : ObjR K H m c fs a → SlotR K H m (some (.obj c fs)) (some (.ref a)) []
inductive Slots (K : PySem.W.Frag) (H : Hp) (m : List Addr) : Ev → L2.St → List Addr → Prop
  | nil : Slots K H m [] [] []
  | cons {s : Option SV} {o : Option V} {as : List Addr} {env : Ev} {σ : L2.St} {os : List Addr} : SlotR K H m s o as → Slots K H m env σ os → Slots K H m (s :: env) (o :: σ) (as ++ os)
def Cells (K : PySem.W.Frag) (H : Hp) (S : Sto) (m : List Addr) : Prop := Paired (fun c a => CellR K H a c) S m

structure Rel (K : PySem.W.Frag) (m os : List Addr) (env : Ev) (S : Sto) (σ : L2.St) (H : Hp) : Prop where
  sl : Slots K H m env σ os
  ce : Cells K H S m
  nd : (m ++ os).Nodup
  tb : LamX.Tabs Tb.T H

section
variable {K : PySem.W.Frag} {m m' os : List Addr} {H H' : Hp} {env : Ev} {σ : L2.St} {S S' : Sto}
theorem pre_get {m m' : List Addr} (h : m <+: m') {k : Nat} {a : Addr} (e : m[k]? = some a) : m'[k]? = some a := by
  obtain ⟨t, rfl⟩ := h
  rw [List.getElem?_append_left (List.getElem?_eq_some_iff.mp e).1]
  exact e
theorem FvR.ext {f : FV} {v : V} {q : List Addr} (h : FvR K H m f v) (hm : m <+: m') (e : Ext q H H') : FvR K H' m' f v := by
  cases h with
  | d r => exact .d (r.ext e)
  | c k => exact .c (pre_get hm k)
theorem ObjR.ext {c : Nat} {fs : List FV} {a : Addr} {q : List Addr} (h : ObjR K H m c fs a) (hm : m <+: m') (e : Ext q H H') : ObjR K H' m' c fs a := by
  obtain ⟨dx, gs, h1, h2, h3⟩ := h
  exact ⟨dx, gs, e.fixI _ _ _ _ h1, h2, Paired.mapP h3 fun p r z => z.ext hm e⟩
theorem SlotR.ext {s : Option SV} {o : Option V} {as q : List Addr} (h : SlotR K H m s o as) (hm : m <+: m') (e : Ext q H H') (n : ∀ a ∈ as, a ∉ q) : SlotR K H' m' s o as := by
  cases h with
  | no o => exact .no o
  | p r => exact .p (r.ext e)
  | ref k => exact .ref (pre_get hm k)
  | own c => exact .own (c.ext e (n _ (by simp)))
  | obj o => exact .obj (o.ext hm e)
theorem Slots.ext {q : List Addr} (h : Slots K H m env σ os) (hm : m <+: m') (e : Ext q H H') (n : ∀ a ∈ os, a ∉ q) : Slots K H' m' env σ os := by
  induction h with
  | nil => exact .nil
  | cons r _ ih => exact .cons (r.ext hm e fun a ha => n a (List.mem_append_left _ ha)) (ih fun a ha => n a (List.mem_append_right _ ha))
theorem Slots.len (h : Slots K H m env σ os) : env.length = σ.length := by
  induction h with
  | nil => rfl
  | cons _ _ ih => simp [ih]
/-- a slot, and what comes of another thing there -/
theorem Slots.at_ (h : Slots K H m env σ os) : ∀ {i : Nat} {s : Option SV}, env[i]? = some s → ∃ o as o1 o2, σ[i]? = some o ∧ SlotR K H m s o as ∧ os = o1 ++ as ++ o2 ∧
    ∀ (q : List Addr) (H' : Hp) (s' : Option SV) (o' : Option V) (as' : List Addr), Ext q H H' → (∀ a ∈ o1 ++ o2, a ∉ q) → SlotR K H' m s' o' as' → Slots K H' m (env.set i s') (σ.set i o') (o1 ++ as' ++ o2) := by
  induction h with
  | nil => intro i s e; simp at e
  | @cons s₀ o₀ as₀ env₀ σ₀ os₀ r t ih =>
    intro i s e
    cases i with
    | zero =>
      simp at e
      subst e
      refine ⟨o₀, as₀, [], os₀, rfl, r, rfl, fun q H' s' o' as' x n r' => ?_⟩
      exact .cons r' (t.ext (List.prefix_refl m) x n)
    | succ i =>
      obtain ⟨o, as, o1, o2, h1, h2, h3, h4⟩ := ih (i := i) (by simpa using e)
      refine ⟨o, as, as₀ ++ o1, o2, by simpa using h1, h2, by rw [h3]; simp [List.append_assoc], fun q H' s' o' as' x n r' => ?_⟩
      have z := h4 q H' s' o' as' x (fun a ha => n a (by simp only [List.mem_append] at ha ⊢; rcases ha with ha | ha; exact .inl (.inr ha); exact .inr ha)) r'
      have z2 := Slots.cons (r.ext (List.prefix_refl m) x fun a ha => n a (by simp [ha])) z
      simpa [List.append_assoc] using z2
theorem Cells.len (h : Cells K H S m) : S.length = m.length := Paired.length h
theorem Cells.ext {q : List Addr} (h : Cells K H S m) (e : Ext q H H') (n : ∀ a ∈ m, a ∉ q) : Cells K H' S m := by
  induction h with
  | nil => exact .nil
  | cons r _ ih => exact .cons (r.ext e (n _ List.mem_cons_self)) (ih fun a ha => n a (List.mem_cons_of_mem _ ha))
theorem Cells.get : ∀ {S : Sto} {m : List Addr} {k : Nat} {c : Cell}, Cells K H S m → S[k]? = some c → ∃ a, m[k]? = some a ∧ CellR K H a c
  | _, _, _, _, .nil, e => by simp at e
  | _, _, 0, _, .cons r _, e => by simp at e; subst e; exact ⟨_, rfl, r⟩
  | _, _, k + 1, c, .cons _ t, e => by
    obtain ⟨a, h1, h2⟩ := Cells.get (k := k) (c := c) t (by simpa using e)
    exact ⟨a, by simpa using h1, h2⟩
/-- the cell k is written -/
theorem Cells.put {c' : Cell} : ∀ {S : Sto} {m : List Addr} {k : Nat} {a : Addr}, Cells K H S m → m.Nodup → m[k]? = some a → Ext [a] H H' → CellR K H' a c' → Cells K H' (S.set k c') m
  | _, _, _, _, .nil, _, e, _, _ => by simp at e
  | _, _, 0, a, .cons r t, nd, e, x, r' => by
    simp at e; subst e
    refine .cons r' (Cells.ext t x fun b hb => ?_)
    have := (List.nodup_cons.mp nd).1
    intro z
    rw [List.mem_singleton.mp z] at hb
    exact this hb
  | _, _, k + 1, a, .cons r t, nd, e, x, r' => by
    have e' := (show _ = some a by simpa using e)
    refine .cons (r.ext x fun z => ?_) (Cells.put t (List.nodup_cons.mp nd).2 e' x r')
    have hm := List.mem_of_getElem? e'
    rw [← List.mem_singleton.mp z] at hm
    exact (List.nodup_cons.mp nd).1 hm
theorem Cells.app {c : Cell} {a : Addr} (h : Cells K H S m) (r : CellR K H a c) : Cells K H (S ++ [c]) (m ++ [a]) := Paired.snoc h r
end
end Vy
set_option Elab.async false
set_option linter.all false
set_option maxRecDepth 100000
set_option maxHeartbeats 4000000
namespace Vy
open PySem PySem.Spec L2

/-- what an expression gives: data, a new list or dict that nobody else holds, an own cell looked at, a shared cell -/
inductive R
  | p (d : D)
  | nl (ds : List D)
  | nd (kvs : List (Key × D))
  | nT (kvs : List (List Key × D))
  | bw (c : Cell)
  | ref (k : Nat)
  | obj (c : Nat) (fs : List FV)
inductive Res (α : Type)
  | ok (a : α) (S : Sto)
  | exc (c : Nat) (fs : List D) (S : Sto)
  | bad
@[simp] def Res.bind {α β : Type} : Res α → (α → Sto → Res β) → Res β
  | .ok a S, f => f a S
  | .exc c fs S, _ => .exc c fs S
  | .bad, _ => .bad
@[simp] def opt {α : Type} (S : Sto) : Option α → Res α
  | some a => .ok a S
  | none => .bad

/-- what stands there as data, to be read at once -/
def dat (S : Sto) : R → Option D
  | .p d => some d
  | .nl ds => some (.list ds)
  | .bw (.lst ds) => some (.list ds)
  | .ref k => match S[k]? with
    | some (.lst ds) => some (.list ds)
    | _ => none
  | _ => none
def dic (S : Sto) : R → Option (List (Key × D))
  | .nd kvs => some kvs
  | .bw (.dct kvs) => some kvs
  | .ref k => match S[k]? with
    | some (.dct kvs) => some kvs
    | _ => none
  | _ => none
def dicT (S : Sto) : R → Option (List (List Key × D))
  | .nT kvs => some kvs
  | .bw (.dcT kvs) => some kvs
  | .ref k => match S[k]? with
    | some (.dcT kvs) => some kvs
    | _ => none
  | _ => none
/-- as data for good -/
def fz : R → Option D
  | .p d => some d
  | .nl ds => some (.list ds)
  | _ => none
def slot : R → Option SV
  | .p d => some (.p d)
  | .nl ds => some (.p (.list ds))
  | .ref k => some (.ref k)
  | .obj c fs => some (.obj c fs)
  | _ => none
def slotOwn : R → Option SV
  | .nl ds => some (.own (.lst ds))
  | .nd kvs => some (.own (.dct kvs))
  | .nT kvs => some (.own (.dcT kvs))
  | _ => none
def argR : R → Option R
  | .p d => some (.p d)
  | .nl ds => some (.p (.list ds))
  | .ref k => some (.ref k)
  | .obj c fs => some (.obj c fs)
  | _ => none
def retR : R → Option R
  | .bw (.lst ds) => some (.nl ds)
  | .bw (.dct kvs) => some (.nd kvs)
  | .bw (.dcT kvs) => some (.nT kvs)
  | r => some r

/-! ### dicts -/
def kvGet {κ : Type} [DecidableEq κ] (kvs : List (κ × D)) (k : κ) : Option D := (kvs.find? fun q => decide (q.1 = k)).map (·.2)
def kvPut {κ : Type} [DecidableEq κ] (kvs : List (κ × D)) (k : κ) (v : D) : List (κ × D) :=
  if (kvs.any fun q => decide (q.1 = k)) = true then kvs.map fun q => if q.1 = k then (q.1, v) else q else kvs ++ [(k, v)]
def kvMerge {κ : Type} [DecidableEq κ] (kvs more : List (κ × D)) : List (κ × D) := more.foldl (fun acc q => kvPut acc q.1 q.2) kvs
/-! ### operators on data -/
def mulOk (i j : Int) : Bool := decide ((-(2 ^ 64) < i ∧ i < 2 ^ 64) ∨ (-(2 ^ 64) < j ∧ j < 2 ^ 64))
def divOk (j : Int) : Bool := decide (j ≠ 0 ∧ j.natAbs < 1073741824)
def binD : Operator → D → D → Option R
  | .Add, .int i, .int j => some (.p (.int (i + j)))
  | .Sub, .int i, .int j => some (.p (.int (i - j)))
  | .Mult, .int i, .int j => if mulOk i j then some (.p (.int (i * j))) else none
  | .FloorDiv, .int i, .int j => if divOk j then some (.p (.int (i.fdiv j))) else none
  | .Mod, .int i, .int j => if j ≠ 0 then some (.p (.int (i.fmod j))) else none
  | .Add, .str x, .str y => if x.length + y.length ≤ sizeLine then some (.p (.str (x ++ y))) else none
  | .Add, .tuple xs, .tuple ys => if xs.length + ys.length ≤ sizeLine then some (.p (.tuple (xs ++ ys))) else none
  | .Add, .list xs, .list ys => if xs.length + ys.length ≤ sizeLine then some (.nl (xs ++ ys)) else none
  | _, _, _ => none
def binR (S : Sto) (op : Operator) (a b : R) : Option R :=
  match op, a, b with
  | .Mult, .p (.tuple xs), .p (.int k) => if xs ≠ [] ∧ 2 ≤ k ∧ k ≤ 1000 ∧ xs.length ≤ 1000 then some (.p (.tuple (List.replicate k.toNat xs).flatten)) else none
  | .Mult, .nl xs, .p (.int k) => if xs.length * k.toNat ≤ sizeLine ∧ -(2 ^ 63) ≤ k ∧ k < 2 ^ 63 then some (.nl (List.replicate k.toNat xs).flatten) else none
  | _, _, _ => match dat S a, dat S b with
    | some x, some y => binD op x y
    | _, _ => none
/-- xs[::-1] -/
def revD : D → Option R
  | .list xs => some (.nl xs.reverse)
  | .tuple xs => some (.p (.tuple xs.reverse))
  | _ => none
def flatD : D → Bool
  | .none => true
  | .bool _ => true
  | .int _ => true
  | .str _ => true
  | _ => false
def isNonD : D → Bool
  | .none => true
  | _ => false
def cmpD : CmpOp → D → D → Option Bool
  | .Eq, a, b => if SeqAt.shaped a = true ∧ SeqAt.shaped b = true then some (PyData.eqv a b) else none
  | .NotEq, a, b => if SeqAt.shaped a = true ∧ SeqAt.shaped b = true then some (!PyData.eqv a b) else none
  | .Lt, .int i, .int j => some (decide (i < j))
  | .LtE, .int i, .int j => some (decide (i ≤ j))
  | .Gt, .int i, .int j => some (decide (j < i))
  | .GtE, .int i, .int j => some (decide (j ≤ i))
  | .In, x, .list ys => if flatD x = true ∧ ys.all flatD = true then some (ys.any fun y => PyData.eqv y x) else none
  | .In, x, .tuple ys => if flatD x = true ∧ ys.all flatD = true then some (ys.any fun y => PyData.eqv y x) else none
  | .NotIn, x, .list ys => if flatD x = true ∧ ys.all flatD = true then some (!ys.any fun y => PyData.eqv y x) else none
  | .NotIn, x, .tuple ys => if flatD x = true ∧ ys.all flatD = true then some (!ys.any fun y => PyData.eqv y x) else none
  | .Is, a, .none => some (isNonD a)
  | .IsNot, a, .none => some (!isNonD a)
  | _, _, _ => none
def keyD : D → Option Key
  | .int i => some (.inl i)
  | .str x => some (.inr x)
  | _ => none
/-- a tuple as a key -/
def keyT : D → Option (List Key)
  | .tuple ds => ds.mapM keyD
  | _ => none
/-- a comparison of what two expressions gave -/
def cmpR (S : Sto) (op : CmpOp) (a b : R) : Option Bool :=
  match dic S b with
  | some kvs => match op, a with
    | .In, .p d => (keyD d).map fun k => (kvGet kvs k).isSome
    | .NotIn, .p d => (keyD d).map fun k => !(kvGet kvs k).isSome
    | _, _ => none
  | none => match dicT S b with
    | some kvs => match op, a with
      | .In, .p d => (keyT d).map fun k => (kvGet kvs k).isSome
      | .NotIn, .p d => (keyT d).map fun k => !(kvGet kvs k).isSome
      | _, _ => none
    | none => match dat S a, dat S b with
      | some x, some y => cmpD op x y
      | _, _ => none
def truD : D → Option Bool
  | .none => some false
  | .bool b => some b
  | .int i => some (i != 0)
  | .str x => if x.length ≤ sizeLine then some ((x.length : Int) != 0) else none
  | .list xs => some (!xs.isEmpty)
  | .tuple xs => some (!xs.isEmpty)
  | _ => none
def truR (S : Sto) (r : R) : Option Bool :=
  match dat S r with
  | some d => truD d
  | none => (dic S r).map fun kvs => !kvs.isEmpty
def idxD : D → D → Option D
  | .list xs, .int i => atI xs i
  | .tuple xs, .int i => atI xs i
  | .str x, .int i => if x.length ≤ sizeLine then (atI x.cps.toList i).map fun c => .str ⟨#[c]⟩ else none
  | _, _ => none
def idxR (S : Sto) (a b : R) : Option R :=
  match dic S a with
  | some kvs => match b with
    | .p d => ((keyD d).bind fun k => kvGet kvs k).map .p
    | _ => none
  | none => match dicT S a with
    | some kvs => match b with
      | .p d => ((keyT d).bind fun k => kvGet kvs k).map .p
      | _ => none
    | none => match dat S a, dat S b with
      | some x, some y => (idxD x y).map .p
      | _, _ => none
def cutD (xs : List D) (lo hi : Option Int) : List D := (xs.drop (HT.sIx xs.length 0 lo)).take (HT.sIx xs.length xs.length hi - HT.sIx xs.length 0 lo)
def slcD (d : D) (lo hi : Option Int) : Option R :=
  match d with
  | .list xs => some (.nl (cutD xs lo hi))
  | .tuple xs => some (.p (.tuple (cutD xs lo hi)))
  | .str x => if x.length ≤ sizeLine then some (.p (.str (cutS x lo hi))) else none
  | _ => none
def intsD : List D → Option (List Int)
  | [] => some []
  | .int i :: r => (intsD r).map (i :: ·)
  | _ => none
def boolsD : List D → Option (List Bool)
  | [] => some []
  | .bool b :: r => (boolsD r).map (b :: ·)
  | _ => none
def intsK : List (Key × D) → Option (List Int)
  | [] => some []
  | (.inl i, _) :: r => (intsK r).map (i :: ·)
  | _ => none
def maxI : List Int → Option Int
  | [] => none
  | i :: r => some (r.foldl (fun a b => if b > a then b else a) i)
def minI : List Int → Option Int
  | [] => none
  | i :: r => some (r.foldl (fun a b => if b < a then b else a) i)
def sortI (l : List Int) : List Int := l.mergeSort (fun a b => decide (a ≤ b))
/-- the name of the type of data -/
def tyD : D → String
  | .none => "NoneType"
  | .bool _ => "bool"
  | .int _ => "int"
  | .str _ => "str"
  | .list _ => "list"
  | .tuple _ => "tuple"
  | .dict _ => "dict"
def isiD (d : D) (t : String) : Bool := tyD d == t || (tyD d == "bool" && t == "int")

/-- the built-ins that are called by name -/
inductive Bi
  | len | int_ | tuple_ | list_ | max2 | min2 | max1 | min1 | sorted_ | all_ | any_ | sum_ | repr_ | dict_ | abs_
  deriving DecidableEq
def pairsD : List D → Option (List (Key × D))
  | [] => some []
  | .tuple [k, v] :: r => match keyD k, pairsD r with
    | some k, some l => some ((k, v) :: l)
    | _, _ => none
  | _ => none
def pairsT : List D → Option (List (List Key × D))
  | [] => some []
  | .tuple [k, v] :: r => match keyT k, pairsT r with
    | some k, some l => some ((k, v) :: l)
    | _, _ => none
  | _ => none
def biR (S : Sto) : Bi → List R → Option R
  | .len, [r] => match dat S r with
    | some (.list xs) => some (.p (.int xs.length))
    | some (.tuple xs) => some (.p (.int xs.length))
    | some (.str x) => if x.length ≤ sizeLine then some (.p (.int x.length)) else none
    | _ => match dic S r with
      | some kvs => some (.p (.int kvs.length))
      | none => (dicT S r).map fun kvs => .p (.int kvs.length)
  | .int_, [.p (.int i)] => some (.p (.int i))
  | .int_, [.p (.bool b)] => some (.p (.int (if b = true then 1 else 0)))
  | .tuple_, [r] => match dat S r with
    | some (.list xs) => some (.p (.tuple xs))
    | some (.tuple xs) => some (.p (.tuple xs))
    | _ => none
  | .list_, [r] => match dat S r with
    | some (.list xs) => some (.nl xs)
    | some (.tuple xs) => some (.nl xs)
    | _ => none
  | .max2, [.p (.int i), .p (.int j)] => some (.p (.int (if j > i then j else i)))
  | .min2, [.p (.int i), .p (.int j)] => some (.p (.int (if j < i then j else i)))
  | .max1, [r] => match dat S r with
    | some (.list xs) => ((intsD xs).bind maxI).map fun i => .p (.int i)
    | _ => none
  | .min1, [r] => match dat S r with
    | some (.list xs) => ((intsD xs).bind minI).map fun i => .p (.int i)
    | _ => none
  | .sorted_, [r] => match dat S r with
    | some (.list xs) => (intsD xs).map fun l => .nl ((sortI l).map .int)
    | _ => (dic S r).bind fun kvs => (intsK kvs).bind fun l => if l.length < 64 then some (.nl ((sortI l).map .int)) else none
  | .all_, [r] => match dat S r with
    | some (.list xs) => (boolsD xs).map fun l => .p (.bool (l.all id))
    | _ => none
  | .any_, [r] => match dat S r with
    | some (.list xs) => (boolsD xs).map fun l => .p (.bool (l.any id))
    | _ => none
  | .sum_, [r] => match dat S r with
    | some (.list xs) => (intsD xs).map fun l => .p (.int l.sum)
    | _ => none
  | .abs_, [.p (.int i)] => some (.p (.int (if i < 0 then -i else i)))
  | .repr_, [r] => match dat S r with
    | some d => if d.showable = true ∧ d.hasDict = false ∧ d.depth ≤ 60 ∧ d.shown.length ≤ sizeLine then some (.p (.str d.shown)) else none
    | none => none
  | .dict_, [r] => match dat S r with
    | some (.list xs) => match pairsD xs with
      | some l => some (.nd (kvMerge [] l))
      | none => (pairsT xs).map fun l => .nT (kvMerge [] l)
    | _ => none
  | _, _ => none

/-- what is walked -/
inductive Src | dat | rng1 | rng2 | enum | zip | keys
  deriving DecidableEq
def rangeD (lo hi : Int) : List D := (List.range (hi - lo).toNat).map fun i : Nat => .int (lo + (i : Int))
def enumD (i : Nat) : List D → List D
  | [] => []
  | d :: r => .tuple [.int i, d] :: enumD (i + 1) r
def zipD : List D → List D → List D
  | a :: r, b :: s => .tuple [a, b] :: zipD r s
  | _, _ => []
def seqOf : D → Option (List D)
  | .list xs => some xs
  | .tuple xs => some xs
  | _ => none
def rngOk (j : Int) : Bool := decide (-(2 ^ 62) ≤ j ∧ j < 2 ^ 62)
def srcD : Src → List D → Option (List D)
  | .dat, [d] => seqOf d
  | .rng1, [.int j] => if rngOk j then some (rangeD 0 j) else none
  | .rng2, [.int i, .int j] => if rngOk i ∧ rngOk j then some (rangeD i j) else none
  | .enum, [d] => (seqOf d).map (enumD 0)
  | .zip, [a, b] => match seqOf a, seqOf b with
    | some x, some y => some (zipD x y)
    | _, _ => none
  | _, _ => none
def tzipD (a b : D) : Option R := match seqOf a, seqOf b with
  | some x, some y => some (.p (.tuple (zipD x y)))
  | _, _ => none
def ddispD (ks : List D) (ds : List D) : Option R := if ks.length = ds.length ∧ 1 ≤ ks.length ∧ ks.length ≤ 15 then (ks.mapM keyD).map fun l => .nd (kvMerge [] (l.zip ds)) else none
def lrngD (s : Src) (is : List D) : Option R := match s with
  | .rng1 => (srcD .rng1 is).bind fun l => if l.length ≤ sizeLine then some (.nl l) else none
  | .rng2 => (srcD .rng2 is).bind fun l => if l.length ≤ sizeLine then some (.nl l) else none
  | _ => none
/-- what a walk stores its items into -/
inductive Tg | nm (i : Nat) | tp (is : List Nat)
def setAll : List Nat → List D → Ev → Option Ev
  | [], [], env => some env
  | i :: is, d :: ds, env => setAll is ds (env.set i (some (.p d)))
  | _, _, _ => none
def tgSet : Tg → D → Ev → Option Ev
  | .nm i, d, env => some (env.set i (some (.p d)))
  | .tp is, .tuple ds, env => setAll is ds env
  | _, _, _ => none
def wipeE (env : Ev) : List Nat → Ev
  | [] => env
  | v :: vs => (wipeE env vs).set v none

mutual
inductive E
  | var (i : Nat)
  | non | bl (b : Bool) | int (i : Int) | str (s : Str)
  | con (k : Nat)
  | tup (es : Es) | lst (es : Es) | edict
  | bin (op : Operator) (a b : E)
  | neg (a : E)
  | cmp (a : E) (cs : Cs)
  | nott (a : E)
  | bop (an : Bool) (es : Es)
  | ite (c a b : E)
  | idx (a i : E)
  | slc (a : E) (lo hi : Oe)
  | bi (f : Bi) (es : Es)
  | isi (t : String) (a : E)
  | call (f : Nat) (es : Es)
  | comp (own : List Nat) (elt : E) (tg : Tg) (src : Src) (it : Es) (cond : Oe)
  | comp2 (own own1 : List Nat) (elt : E) (tg : Tg) (src : Src) (it : Es) (cond : Oe) (tg1 : Tg) (src1 : Src) (it1 : Es) (cond1 : Oe)
  | told (ws : List (Nat × Str)) (a : E)
  | rev (a : E) | tzip (a b : E) | ddisp (ks : List D) (vs : Es) | lrng (s : Src) (es : Es)
  | att (c : Nat) (a : E) (i : Nat) | mth (c f : Nat) (a : E) (es : Es) | new (c f : Nat) (es : Es)
inductive Es | nil | cons (e : E) (es : Es)
inductive Oe | no | so (e : E)
inductive Cs | nil | cons (op : CmpOp) (e : E) (cs : Cs)
end

/-- a written int from 0 on -/
def E.nat (k : Nat) : E := .int (k : Int)

structure FT where
  call : Nat → List R → Sto → Res R
  con : List D

/-- a block lets nothing out -/
def noX {α : Type} : Res α → Res α
  | .ok a S => .ok a S
  | _ => .bad
/-- the turns of a list comprehension -/
def compL (turn : D → Sto → Res (List D)) : List D → Sto → Res (List D)
  | [], S => .ok [] S
  | d :: r, S => (turn d S).bind fun x S => (compL turn r S).bind fun xs S => .ok (x ++ xs) S

/-- an attribute -/
def attR (S : Sto) (i : Nat) : R → Option R
  | .obj _ fs => match fs[i]? with
    | some (.d d) => some (.p d)
    | some (.c k) => if k < S.length then some (.ref k) else none
    | none => none
  | _ => none
/-- an instance of a class -/
def objR (c : Nat) : R → Option R
  | .obj c' fs => if c' = c then some (.obj c' fs) else none
  | _ => none
mutual
def evE (F : FT) : E → Ev → Sto → Res R
  | .var i, env, S => match env[i]? with
    | some (some (.p d)) => .ok (.p d) S
    | some (some (.ref k)) => .ok (.ref k) S
    | some (some (.own c)) => .ok (.bw c) S
    | some (some (.obj c fs)) => .ok (.obj c fs) S
    | _ => .bad
  | .non, _, S => .ok (.p .none) S
  | .bl b, _, S => .ok (.p (.bool b)) S
  | .int i, _, S => .ok (.p (.int i)) S
  | .str x, _, S => .ok (.p (.str x)) S
  | .con k, _, S => opt S (F.con[k]?.map .p)
  | .tup es, env, S => (evFz F es env S).bind fun ds S => .ok (.p (.tuple ds)) S
  | .lst es, env, S => (evFz F es env S).bind fun ds S => .ok (.nl ds) S
  | .edict, _, S => .ok (.nd []) S
  | .bin op a b, env, S => (evE F a env S).bind fun x S => (evE F b env S).bind fun y S => opt S (binR S op x y)
  | .neg a, env, S => (evE F a env S).bind fun x S => match x with
    | .p (.int i) => .ok (.p (.int (-i))) S
    | _ => .bad
  | .cmp a cs, env, S => (evE F a env S).bind fun x S => evCs F x cs env S
  | .nott a, env, S => (evE F a env S).bind fun x S => (opt S (truR S x)).bind fun b S => .ok (.p (.bool (!b))) S
  | .bop an es, env, S => evBop F an es env S
  | .ite c a b, env, S => (evE F c env S).bind fun x S => (opt S (truR S x)).bind fun t S => if t = true then evE F a env S else evE F b env S
  | .idx a i, env, S => (evE F a env S).bind fun x S => (evE F i env S).bind fun y S => opt S (idxR S x y)
  | .slc a lo hi, env, S => (evE F a env S).bind fun x S => (evOe F lo env S).bind fun l S => (evOe F hi env S).bind fun h S => opt S ((dat S x).bind fun d => slcD d l h)
  | .bi f es, env, S => (evEs F es env S).bind fun xs S => opt S (biR S f xs)
  | .isi t a, env, S => (evE F a env S).bind fun x S => opt S ((dat S x).map fun d => .p (.bool (isiD d t)))
  | .call f es, env, S => (evAr F es env S).bind fun xs S => F.call f xs S
  | .comp own elt tg src it cond, env, S => (evFz F it env S).bind fun is S => (opt S (srcD src is)).bind fun items S =>
      (noX (compL (fun d S => match tgSet tg d (wipeE env own) with
        | none => .bad
        | some env' => (evOb F cond env' S).bind fun t S => if t = true then (evE F elt env' S).bind fun y S => (opt S (fz y)).bind fun y S => .ok [y] S else .ok [] S) items S)).bind fun ys S => if ys.length ≤ sizeLine then .ok (.nl ys) S else .bad
  | .comp2 own own1 elt tg src it cond tg1 src1 it1 cond1, env, S => (evFz F it env S).bind fun is S => (opt S (srcD src is)).bind fun items S =>
      (noX (compL (fun d S => match tgSet tg d (wipeE env own) with
        | none => .bad
        | some env' => (evOb F cond env' S).bind fun t S => if t = true then
            (evFz F it1 env' S).bind fun is1 S => (opt S (srcD src1 is1)).bind fun items1 S =>
              compL (fun d1 S => match tgSet tg1 d1 (wipeE env' own1) with
                | none => .bad
                | some env2 => (evOb F cond1 env2 S).bind fun t S => if t = true then (evE F elt env2 S).bind fun y S => (opt S (fz y)).bind fun y S => .ok [y] S else .ok [] S) items1 S
          else .ok [] S) items S)).bind fun ys S => if ys.length ≤ sizeLine then .ok (.nl ys) S else .bad
  | .told ws a, env, S => match evE F a env S with
    | .ok r S => .ok r S
    | .exc c fs S => (match ws.lookup c, fs with
      | some w, [d] => .ok (.nl [.str w, d]) S
      | _, _ => .bad)
    | .bad => .bad
  | .rev a, env, S => (evE F a env S).bind fun x S => opt S ((dat S x).bind revD)
  | .tzip a b, env, S => (evE F a env S).bind fun x S => (evE F b env S).bind fun y S => opt S ((dat S x).bind fun d => (dat S y).bind fun e => tzipD d e)
  | .ddisp ks vs, env, S => (evFz F vs env S).bind fun ds S => opt S (ddispD ks ds)
  | .lrng s es, env, S => (evFz F es env S).bind fun is S => opt S (lrngD s is)
  | .att c a i, env, S => (evE F a env S).bind fun o S => (opt S (objR c o)).bind fun o S => opt S (attR S i o)
  | .mth c f a es, env, S => (evE F a env S).bind fun o S => (opt S (objR c o)).bind fun o S => (evAr F es env S).bind fun xs S => F.call f (o :: xs) S
  | .new c f es, env, S => (evAr F es env S).bind fun xs S => (F.call f xs S).bind fun o S => opt S (objR c o)
def evEs (F : FT) : Es → Ev → Sto → Res (List R)
  | .nil, _, S => .ok [] S
  | .cons e es, env, S => (evE F e env S).bind fun x S => (evEs F es env S).bind fun xs S => .ok (x :: xs) S
/-- as data for good -/
def evFz (F : FT) : Es → Ev → Sto → Res (List D)
  | .nil, _, S => .ok [] S
  | .cons e es, env, S => (evE F e env S).bind fun x S => (opt S (fz x)).bind fun d S => (evFz F es env S).bind fun ds S => .ok (d :: ds) S
/-- as arguments -/
def evAr (F : FT) : Es → Ev → Sto → Res (List R)
  | .nil, _, S => .ok [] S
  | .cons e es, env, S => (evE F e env S).bind fun x S => (opt S (argR x)).bind fun d S => (evAr F es env S).bind fun ds S => .ok (d :: ds) S
def evBop (F : FT) (an : Bool) : Es → Ev → Sto → Res R
  | .nil, _, _ => .bad
  | .cons e .nil, env, S => evE F e env S
  | .cons e es, env, S => (evE F e env S).bind fun x S => (opt S (truR S x)).bind fun t S => if t = an then evBop F an es env S else .ok x S
/-- an end of a slice -/
def evOe (F : FT) : Oe → Ev → Sto → Res (Option Int)
  | .no, _, S => .ok none S
  | .so e, env, S => (evE F e env S).bind fun x S => match x with
    | .p (.int i) => .ok (some i) S
    | _ => .bad
/-- a test that may lack -/
def evOb (F : FT) : Oe → Ev → Sto → Res Bool
  | .no, _, S => .ok true S
  | .so e, env, S => (evE F e env S).bind fun x S => opt S (truR S x)
def evCs (F : FT) (x : R) : Cs → Ev → Sto → Res R
  | .nil, _, _ => .bad
  | .cons op e .nil, env, S => (evE F e env S).bind fun y S => (opt S (cmpR S op x y)).bind fun b S => .ok (.p (.bool b)) S
  | .cons op e cs, env, S => (evE F e env S).bind fun y S => (opt S (cmpR S op x y)).bind fun b S => if b = true then evCs F y cs env S else .ok (.p (.bool false)) S
end

/-- targets of a tuple's parts -/
inductive Pt
  | nm (i : Nat) | tp (is : List Nat) | so (i : Nat) (ix : E) | sr (a ix : E)
mutual
inductive S
  | sett (ts : List Pt) (e : E) | par3 (i : Nat) (oi : Bool) (j : Nat) (oj : Bool) (k : Nat) (ok : Bool) (a b c : E)
  | asg (i : Nat) (e : E) | own (i : Nat) (e : E) | nref (i : Nat) (e : E)
  | unp (is : List Nat) (e : E)
  | par2 (i : Nat) (oi : Bool) (j : Nat) (oj : Bool) (a b : E)
  | app (i : Nat) (e : E) | appr (i : Nat) (e : E) | appx (a e : E)
  | seto (i : Nat) (ix e : E) | setr (a ix e : E)
  | augo (i : Nat) (op : Operator) (ix e : E)
  | augn (i : Nat) (op : Operator) (e : E)
  | ext (i : Nat) (e : E)
  | pop (i j : Nat)
  | ifs (c : E) (a b : SS) | forr (tg : Tg) (src : Src) (it : Es) (body : SS) | whil (c : E) (body : SS)
  | ret (e : E) | retn | rais (c : Nat) (es : Es) | exprs (e : E)
  | frz (i : Nat) | fgt (is : List Nat) | pass | brk | cont
inductive SS | nil | cons (s : S) (r : SS)
end

inductive Out
  | next (env : Ev) (S : Sto) | brk (env : Ev) (S : Sto) | cnt (env : Ev) (S : Sto)
  | ret (r : R) (S : Sto) | exc (c : Nat) (fs : List D) (env : Ev) (S : Sto) | bad
/-- behind an expression of a statement -/
@[simp] def Res.st {α : Type} (env : Ev) : Res α → (α → Sto → Out) → Out
  | .ok a S, f => f a S
  | .exc c fs S, _ => .exc c fs env S
  | .bad, _ => .bad
@[simp] def optS {α : Type} : Option α → (α → Out) → Out
  | some a, f => f a
  | none, _ => .bad
def forL (b : D → Ev → Sto → Out) : List D → Ev → Sto → Out
  | [], env, S => .next env S
  | d :: r, env, S => match b d env S with
    | .next env S => forL b r env S
    | .cnt env S => forL b r env S
    | .brk env S => .next env S
    | o => o
def whilL (c : Ev → Sto → Res Bool) (b : Ev → Sto → Out) : Nat → Ev → Sto → Out
  | 0, _, _ => .bad
  | k + 1, env, S => (c env S).st env fun t S => if t = true then match b env S with
      | .next env S => whilL c b k env S
      | .cnt env S => whilL c b k env S
      | .brk env S => .next env S
      | o => o
    else .next env S
def slotB (o : Bool) (r : R) : Option SV := if o = true then slotOwn r else slot r
def ownL (env : Ev) (i : Nat) : Option (List D) := match env[i]? with
  | some (some (.own (.lst ds))) => some ds
  | _ => none
def refL (S : Sto) (k : Nat) : Option (List D) := match S[k]? with
  | some (.lst ds) => some ds
  | _ => none
/-- c[ix] = d -/
def putC (c : Cell) (ix d : D) : Option Cell :=
  match c, ix with
  | .lst ds, .int i => (ixN ds.length i).map fun j => .lst (ds.set j d)
  | .dct kvs, k => if kvs.length < sizeLine then (keyD k).map fun k => .dct (kvPut kvs k d) else none
  | .dcT kvs, k => if kvs.length < sizeLine then (keyT k).map fun k => .dcT (kvPut kvs k d) else none
  | _, _ => none

/-- x op= y of ints -/
def binI : Operator → D → R → Option D
  | .Add, .int x, .p (.int y) => some (.int (x + y))
  | .Sub, .int x, .p (.int y) => some (.int (x - y))
  | _, _, _ => none
/-- a list that is not locked -/
def lstR (S : Sto) : R → Option (List D)
  | .nl ds => some ds
  | .bw (.lst ds) => some ds
  | .ref k => match S[k]? with
    | some (.lst ds) => some ds
    | _ => none
  | _ => none
def setT (F : FT) (t : Pt) (d : D) (env : Ev) (S : Sto) : Out := match t with
  | .nm i => .next (env.set i (some (.p d))) S
  | .tp is => match d with
    | .tuple ds => optS (setAll is ds env) fun env => .next env S
    | _ => .bad
  | .so i ix => match env[i]? with
    | some (some (.own c)) => (evE F ix env S).st env fun q S => match q with
      | .p k => optS (putC c k d) fun c => .next (env.set i (some (.own c))) S
      | _ => .bad
    | _ => .bad
  | .sr a ix => (evE F a env S).st env fun o S => (evE F ix env S).st env fun q S => match o, q with
    | .ref n, .p k => optS (S[n]?) fun c => optS (putC c k d) fun c => .next env (S.set n c)
    | _, _ => .bad
def setTs (F : FT) : List Pt → List D → Ev → Sto → Out
  | [], [], env, S => .next env S
  | t :: ts, d :: ds, env, S => match setT F t d env S with
    | .next env S => setTs F ts ds env S
    | o => o
  | _, _, _, _ => .bad
mutual
def exS (F : FT) (lim : Nat) : S → Ev → Sto → Out
  | .asg i e, env, S => (evE F e env S).st env fun r S => optS (slot r) fun v => .next (env.set i (some v)) S
  | .own i e, env, S => (evE F e env S).st env fun r S => optS (slotOwn r) fun v => .next (env.set i (some v)) S
  | .nref i e, env, S => (evE F e env S).st env fun r S => match r with
    | .nl ds => .next (env.set i (some (.ref S.length))) (S ++ [.lst ds])
    | .nd kvs => .next (env.set i (some (.ref S.length))) (S ++ [.dct kvs])
    | .nT kvs => .next (env.set i (some (.ref S.length))) (S ++ [.dcT kvs])
    | _ => .bad
  | .unp is e, env, S => (evE F e env S).st env fun r S => match r with
    | .p (.tuple ds) => optS (setAll is ds env) fun env => .next env S
    | _ => .bad
  | .par2 i oi j oj a b, env, S => (evE F a env S).st env fun r1 S => (evE F b env S).st env fun r2 S => optS (slotB oi r1) fun s1 => optS (slotB oj r2) fun s2 => .next ((env.set i (some s1)).set j (some s2)) S
  | .sett ts e, env, S => (evE F e env S).st env fun r S => match r with
    | .p (.tuple ds) => if ds.length = ts.length then setTs F ts ds env S else .bad
    | _ => .bad
  | .par3 i oi j oj k ok a b c, env, S => (evE F a env S).st env fun r1 S => (evE F b env S).st env fun r2 S => (evE F c env S).st env fun r3 S => optS (slotB oi r1) fun s1 => optS (slotB oj r2) fun s2 => optS (slotB ok r3) fun s3 => .next (((env.set i (some s1)).set j (some s2)).set k (some s3)) S
  | .app i e, env, S => optS (ownL env i) fun ds => (evE F e env S).st env fun r S => optS (fz r) fun d => if ds.length < sizeLine then .next (env.set i (some (.own (.lst (ds ++ [d]))))) S else .bad
  | .appr i e, env, S => match env[i]? with
    | some (some (.ref k)) => optS (refL S k) fun _ => (evE F e env S).st env fun r S => optS (fz r) fun d => optS (refL S k) fun ds => if ds.length < sizeLine then .next env (S.set k (.lst (ds ++ [d]))) else .bad
    | _ => .bad
  | .appx a e, env, S => (evE F a env S).st env fun o S => match o with
    | .ref k => optS (refL S k) fun _ => (evE F e env S).st env fun r S => optS (fz r) fun d => optS (refL S k) fun ds => if ds.length < sizeLine then .next env (S.set k (.lst (ds ++ [d]))) else .bad
    | _ => .bad
  | .seto i ix e, env, S => (evE F e env S).st env fun r S => optS (fz r) fun d => match env[i]? with
    | some (some (.own c)) => (evE F ix env S).st env fun q S => match q with
      | .p k => optS (putC c k d) fun c => .next (env.set i (some (.own c))) S
      | _ => .bad
    | _ => .bad
  | .setr a ix e, env, S => (evE F e env S).st env fun r S => optS (fz r) fun d => (evE F a env S).st env fun o S => (evE F ix env S).st env fun q S => match o, q with
    | .ref n, .p k => optS (S[n]?) fun c => optS (putC c k d) fun c => .next env (S.set n c)
    | _, _ => .bad
  | .augo i op ix e, env, S => optS (ownL env i) fun ds => (evE F ix env S).st env fun q S => match q with
    | .p k => optS (idxD (.list ds) k) fun x => (evE F e env S).st env fun r S => optS (binI op x r) fun z => optS (putC (.lst ds) k z) fun c => .next (env.set i (some (.own c))) S
    | _ => .bad
  | .augn i op e, env, S => match env[i]? with
    | some (some (.p x)) => (evE F e env S).st env fun r S => optS (binI op x r) fun z => .next (env.set i (some (.p z))) S
    | _ => .bad
  | .ext i e, env, S => optS (ownL env i) fun ds => (evE F e env S).st env fun r S => optS (lstR S r) fun xs => if ds.length + xs.length ≤ sizeLine then .next (env.set i (some (.own (.lst (ds ++ xs))))) S else .bad
  | .pop i j, env, S => optS (ownL env j) fun ds => optS ds.getLast? fun d => .next ((env.set j (some (.own (.lst ds.dropLast)))).set i (some (.p d))) S
  | .ifs c a b, env, S => ((evE F c env S).bind fun x S => opt S (truR S x)).st env fun t S => if t = true then exSS F lim a env S else exSS F lim b env S
  | .forr tg src it body, env, S => (evFz F it env S).st env fun is S => optS (srcD src is) fun items => forL (fun d env S => optS (tgSet tg d env) fun env => exSS F lim body env S) items env S
  | .whil c body, env, S => whilL (fun env S => (evE F c env S).bind fun x S => opt S (truR S x)) (fun env S => exSS F lim body env S) lim env S
  | .ret e, env, S => (evE F e env S).st env fun r S => optS (retR r) fun r => .ret r S
  | .retn, _, S => .ret (.p .none) S
  | .rais c es, env, S => (evFz F es env S).st env fun ds S => .exc c ds env S
  | .exprs e, env, S => (evE F e env S).st env fun _ S => .next env S
  | .frz i, env, S => match env[i]? with
    | some (some (.own (.lst ds))) => .next (env.set i (some (.p (.list ds)))) S
    | _ => .bad
  | .fgt is, env, S => .next (wipeE env is) S
  | .pass, env, S => .next env S
  | .brk, env, S => .brk env S
  | .cont, env, S => .cnt env S
def exSS (F : FT) (lim : Nat) : SS → Ev → Sto → Out
  | .nil, env, S => .next env S
  | .cons s r, env, S => match exS F lim s env S with
    | .next env S => exSS F lim r env S
    | o => o
end

/-- a field's first value -/
inductive FK | dat (e : E) | lst (e : E) | dct | dcT
structure FnI where
  np : Nat
  ns : Nat
  tr : Bool
  body : SS
  /-- of an __init__: the class, what it refuses, its fields -/
  ini : Option (Nat × List (E × Nat × Es) × List (Str × FK)) := none
def argS : R → Option SV
  | .p d => some (.p d)
  | .ref k => some (.ref k)
  | .obj c fs => some (.obj c fs)
  | _ => none
def argE : List R → Option Ev
  | [] => some []
  | r :: rs => match argS r, argE rs with
    | some v, some env => some (some v :: env)
    | _, _ => none
def FV.lt (n : Nat) : FV → Bool
  | .d _ => true
  | .c k => decide (k < n)
/-- cells made within are let go -/
def letGo (tr : Bool) (n : Nat) (r : R) (S : Sto) : Res R :=
  if tr = true then match r with
    | .ref k => if k < n then .ok (.ref k) (S.take n) else match S[k]? with
      | some (.lst ds) => .ok (.nl ds) (S.take n)
      | some (.dct kvs) => .ok (.nd kvs) (S.take n)
      | some (.dcT kvs) => .ok (.nT kvs) (S.take n)
      | none => .bad
    | .obj c fs => if fs.all (FV.lt n) = true then .ok (.obj c fs) (S.take n) else .bad
    | r => .ok r (S.take n)
  else .ok r S
/-- the fields of a new instance -/
def iniF (F : FT) (c : Nat) : List (Str × FK) → Ev → Sto → List FV → Res R
  | [], _, S, fs => .ok (.obj c fs) S
  | (_, .dcT) :: r, env, S, fs => iniF F c r env (S ++ [.dcT []]) (fs ++ [.c S.length])
  | (_, .dct) :: r, env, S, fs => iniF F c r env (S ++ [.dct []]) (fs ++ [.c S.length])
  | (_, .lst e) :: r, env, S, fs => (evE F e env S).bind fun v S => match v with
    | .nl ds => iniF F c r env (S ++ [.lst ds]) (fs ++ [.c S.length])
    | _ => .bad
  | (_, .dat e) :: r, env, S, fs => (evE F e env S).bind fun v S => (opt S (fz v)).bind fun d S => iniF F c r env S (fs ++ [.d d])
/-- what an __init__ refuses -/
def preF (F : FT) : List (E × Nat × Es) → Ev → Sto → Res Unit
  | [], _, S => .ok () S
  | (c, k, es) :: r, env, S => (evE F c env S).bind fun x S => (opt S (truR S x)).bind fun t S => if t = true then (evFz F es env S).bind fun ds S => .exc k ds S else preF F r env S
def noObj (env : Ev) : Bool := env.all fun o => match o with
  | some (.obj _ _) => false
  | _ => true
/-- the frame of a def that is called -/
def frmE (fn : FnI) (args : List R) : Option Ev := match fn.ini with
  | none => if args.length = fn.np ∧ fn.np ≤ fn.ns then (argE args).map fun env => env ++ List.replicate (fn.ns - fn.np) none else none
  | some _ => if args.length + 1 = fn.np ∧ fn.np ≤ fn.ns then (argE args).map fun env => none :: (env ++ List.replicate (fn.ns - fn.np) none) else none
def runF (P : List FnI) (cs : List D) (lim : Nat) : Nat → Nat → List R → Sto → Res R
  | 0, _, _, _ => .bad
  | n + 1, f, args, S => match P[f]? with
    | none => .bad
    | some fn => match frmE fn args with
      | none => .bad
      | some env => match fn.ini with
        | some (c, ps, fl) => if noObj env = true then (preF ⟨runF P cs lim n, cs⟩ ps env S).bind fun _ S => iniF ⟨runF P cs lim n, cs⟩ c fl env S [] else .bad
        | none => match exSS ⟨runF P cs lim n, cs⟩ lim fn.body env S with
          | .next env' S' => letGo fn.tr S.length (.p .none) S'
          | .ret r S' => letGo fn.tr S.length r S'
          | .exc c fs _ S' => .exc c fs (if fn.tr = true then S'.take S.length else S')
          | _ => .bad
end Vy
set_option Elab.async false
set_option linter.all false
set_option maxRecDepth 100000
set_option maxHeartbeats 4000000
namespace Vy
open PySem PySem.Spec L2
variable [Tb]

/-- a step of the heap: cells m are written, new ones come behind -/
structure Stp (m m' : List Addr) (H H' : Hp) : Prop where
  pre : m <+: m'
  ext : Ext m H H'
  new : ∀ x ∈ m', x ∈ m ∨ Fr H x
theorem Stp.refl (m : List Addr) (H : Hp) : Stp m m H H := ⟨List.prefix_refl m, Ext.refl m H, fun _ h => .inl h⟩
theorem Stp.trans {m m1 m2 : List Addr} {H H1 H2 : Hp} (a : Stp m m1 H H1) (b : Stp m1 m2 H1 H2) : Stp m m2 H H2 :=
  ⟨a.pre.trans b.pre, a.ext.trans b.ext a.new, fun x hx => (b.new x hx).elim (a.new x) fun h => .inr (a.ext.there x h)⟩
theorem Stp.of {m : List Addr} {H H' : Hp} (e : Ext m H H') : Stp m m H H' := ⟨List.prefix_refl m, e, fun _ h => .inl h⟩

/-- what was given lies at the value -/
inductive RpR (K : PySem.W.Frag) (m os : List Addr) (H0 H : Hp) : R → V → Prop
  | p {d : D} {v : V} : Rp K H d v → RpR K m os H0 H (.p d) v
  | nl {ds : List D} {a : Addr} : Fr H0 a → a ∉ m → a ∉ os → CellR K H a (.lst ds) → RpR K m os H0 H (.nl ds) (.ref a)
  | nd {kvs : List (Key × D)} {a : Addr} : Fr H0 a → a ∉ m → a ∉ os → CellR K H a (.dct kvs) → RpR K m os H0 H (.nd kvs) (.ref a)
  | nT {kvs : List (List Key × D)} {a : Addr} : Fr H0 a → a ∉ m → a ∉ os → CellR K H a (.dcT kvs) → RpR K m os H0 H (.nT kvs) (.ref a)
  | bw {c : Cell} {a : Addr} : a ∉ m → a ∈ os → CellR K H a c → RpR K m os H0 H (.bw c) (.ref a)
  | ref {k : Nat} {a : Addr} : m[k]? = some a → RpR K m os H0 H (.ref k) (.ref a)
  | obj {c : Nat} {fs : List FV} {a : Addr} : ObjR K H m c fs a → RpR K m os H0 H (.obj c fs) (.ref a)
theorem CellR.some {K : PySem.W.Frag} {H : Hp} {a : Addr} {c : Cell} (h : CellR K H a c) : ¬ Fr H a := by
  obtain ⟨o, e, _, t⟩ := h.there
  exact Fr.no e t
section
variable {K : PySem.W.Frag} {m m' os : List Addr} {H0 H H' : Hp} {env : Ev} {σ : L2.St} {S : Sto} {r : R} {v : V}
theorem Stp.notin (s : Stp m m' H H') {a : Addr} (h : a ∉ m) (t : ¬ Fr H a) : a ∉ m' := fun z => (s.new a z).elim h t
theorem RpR.step (h : RpR K m os H0 H r v) (s : Stp m m' H H') : RpR K m' os H0 H' r v := by
  cases h with
  | p q => exact .p (q.ext s.ext)
  | nl a b c d => exact .nl a (s.notin b d.some) c (d.ext s.ext b)
  | nd a b c d => exact .nd a (s.notin b d.some) c (d.ext s.ext b)
  | nT a b c d => exact .nT a (s.notin b d.some) c (d.ext s.ext b)
  | bw b c d => exact .bw (s.notin b d.some) c (d.ext s.ext b)
  | ref q => exact .ref (pre_get s.pre q)
  | obj q => exact .obj (q.ext s.pre s.ext)
theorem RpR.back (h : RpR K m os H H' r v) (t : ∀ b, Fr H b → Fr H0 b) : RpR K m os H0 H' r v := by
  cases h with
  | p q => exact .p q
  | nl a b c d => exact .nl (t _ a) b c d
  | nd a b c d => exact .nd (t _ a) b c d
  | nT a b c d => exact .nT (t _ a) b c d
  | bw b c d => exact .bw b c d
  | ref q => exact .ref q
  | obj q => exact .obj q
/-- what a reading needs -/
inductive Rt (K : PySem.W.Frag) (H : Hp) : D → V → Prop
  | of {d : D} {v : V} : Rp K H d v → Rt K H d v
  | lst {a : Addr} {vs : List V} {ds : List D} : H a = some (.lst vs) → RpA K H ds vs → Rt K H (.list ds) (.ref a)
theorem RpR.dat (h : RpR K m os H0 H r v) (c : Cells K H S m) {d : D} (e : dat S r = some d) : Rt K H d v := by
  cases h with
  | p q => cases e; exact .of q
  | nl a b c d => cases e; obtain ⟨vs, h1, h2⟩ := d; exact .lst h1 h2
  | nd a b c d => cases e
  | nT a b c d => cases e
  | obj q => cases e
  | @bw c' a b ho d =>
    cases c' with
    | lst ds => cases e; obtain ⟨vs, h1, h2⟩ := d; exact .lst h1 h2
    | dct kvs => cases e
    | dcT kvs => cases e
  | @ref k a q =>
    simp only [Vy.dat] at e
    cases h : S[k]? with
    | none => rw [h] at e; cases e
    | some cc =>
      rw [h] at e
      obtain ⟨a', h1, h2⟩ := c.get h
      rw [q] at h1; cases h1
      cases cc with
      | lst ds => cases e; obtain ⟨vs, h3, h4⟩ := h2; exact .lst h3 h4
      | dct kvs => cases e
      | dcT kvs => cases e
theorem RpR.dic (h : RpR K m os H0 H r v) (c : Cells K H S m) {kvs : List (Key × D)} (e : dic S r = some kvs) : ∃ a, v = .ref a ∧ CellR K H a (.dct kvs) := by
  cases h with
  | p q => cases e
  | nl a b c d => cases e
  | nd a b c d => cases e; exact ⟨_, rfl, d⟩
  | nT a b c d => cases e
  | obj q => cases e
  | @bw c' a b ho d =>
    cases c' with
    | lst ds => cases e
    | dct kvs => cases e; exact ⟨_, rfl, d⟩
    | dcT kvs => cases e
  | @ref k a q =>
    simp only [Vy.dic] at e
    cases h : S[k]? with
    | none => rw [h] at e; cases e
    | some cc =>
      rw [h] at e
      obtain ⟨a', h1, h2⟩ := c.get h
      rw [q] at h1; cases h1
      cases cc with
      | lst ds => cases e
      | dct kvs => cases e; exact ⟨_, rfl, h2⟩
      | dcT kvs => cases e
theorem RpR.dicT (h : RpR K m os H0 H r v) (c : Cells K H S m) {kvs : List (List Key × D)} (e : dicT S r = some kvs) : ∃ a, v = .ref a ∧ CellR K H a (.dcT kvs) := by
  cases h with
  | p q => cases e
  | nl a b c d => cases e
  | nd a b c d => cases e
  | nT a b c d => cases e; exact ⟨_, rfl, d⟩
  | obj q => cases e
  | @bw c' a b ho d =>
    cases c' with
    | lst ds => cases e
    | dct kvs => cases e
    | dcT kvs => cases e; exact ⟨_, rfl, d⟩
  | @ref k a q =>
    simp only [Vy.dicT] at e
    cases h : S[k]? with
    | none => rw [h] at e; cases e
    | some cc =>
      rw [h] at e
      obtain ⟨a', h1, h2⟩ := c.get h
      rw [q] at h1; cases h1
      cases cc with
      | lst ds => cases e
      | dct kvs => cases e
      | dcT kvs => cases e; exact ⟨_, rfl, h2⟩
theorem Rt.dp {d : D} (h : Rt K H d v) : Dp K H v d := by
  cases h with
  | of q => exact q.dp
  | lst a b => exact .lst (SqL.of a) b.dp
theorem Rt.list {ds : List D} (h : Rt K H (.list ds) v) : ∃ a vs, v = .ref a ∧ SqL K H a vs ∧ RpA K H ds vs := by
  cases h with
  | of q => cases q with | lst a b => exact ⟨_, _, rfl, a.sql, b⟩
  | lst a b => exact ⟨_, _, rfl, SqL.of a, b⟩
theorem Rt.tuple {ds : List D} (h : Rt K H (.tuple ds) v) : ∃ a vs, v = .ref a ∧ SqT K H a vs ∧ RpA K H ds vs := by
  cases h with
  | of q => cases q with | tup a b => exact ⟨_, _, rfl, .inl (.inl a), b⟩
theorem Rt.tupT {ds : List D} (h : Rt K H (.tuple ds) v) : ∃ a vs, v = .ref a ∧ H a = some (.tup vs) ∧ RpA K H ds vs := by
  cases h with
  | of q => cases q with | tup a b => exact ⟨_, _, rfl, a, b⟩
theorem Rt.int {i : Int} (h : Rt K H (.int i) v) : v = .int i := by
  cases h with
  | of q => cases q; rfl
theorem Rt.str {x : Str} (h : Rt K H (.str x) v) : v = .str x := by
  cases h with
  | of q => cases q; rfl
theorem Rt.bool {b : Bool} (h : Rt K H (.bool b) v) : v = .bl b := by
  cases h with
  | of q => cases q; rfl
theorem Rt.none (h : Rt K H .none v) : v = .non := by
  cases h with
  | of q => cases q; rfl

theorem Rel.step {S' : Sto} (h : Rel K m os env S σ H) (s : Stp m m' H H') (c : Cells K H' S' m') (nd : (m' ++ os).Nodup) : Rel K m' os env S' σ H' :=
  ⟨h.sl.ext s.pre s.ext fun a ha z => (List.nodup_append.mp h.nd).2.2 a z a ha rfl, c, nd, s.ext.tab h.tb⟩
theorem Slots.some {a : Addr} (h : Slots K H m env σ os) : a ∈ os → ¬ Fr H a := by
  induction h with
  | nil => intro z; cases z
  | cons r _ ih =>
    intro z
    rcases List.mem_append.mp z with z | z
    · cases r with
      | no => cases z
      | p => cases z
      | ref => cases z
      | own c => rw [List.mem_singleton.mp z]; exact c.some
      | obj => cases z
    · exact ih z
theorem Cells.some {a : Addr} (h : Cells K H S m) : a ∈ m → ¬ Fr H a := by
  induction h with
  | nil => intro z; cases z
  | cons r _ ih =>
    intro z
    rcases List.mem_cons.mp z with z | z
    · rw [z]; exact r.some
    · exact ih z
theorem Rel.offO (h : Rel K m os env S σ H) {a : Addr} (n : Fr H a) : a ∉ os := fun z => h.sl.some z n
theorem Rel.offM (h : Rel K m os env S σ H) {a : Addr} (n : Fr H a) : a ∉ m := fun z => h.ce.some z n
/-- a heap that differs at one place that no cell has -/
theorem Rel.off (h : Rel K m os env S σ H) {a : Addr} (e : Ext [a] H H') (hm : a ∉ m) (ho : a ∉ os) : Rel K m os env S σ H' :=
  ⟨h.sl.ext (List.prefix_refl m) e fun b hb z => ho (by rw [← List.mem_singleton.mp z]; exact hb), h.ce.ext e fun b hb z => hm (by rw [← List.mem_singleton.mp z]; exact hb), h.nd, e.tab h.tb⟩
/-- a new object beside -/
theorem Rel.new (h : Rel K m os env S σ H) {a : Addr} {o : HO} (n : H a = none) : Rel K m os env S σ (upd H a o) :=
  h.off (Ext.new n) (h.offM (Fr.of n)) (h.offO (Fr.of n))
theorem Ext.frz {q : List Addr} {a : Addr} {o : Obj} {vs : List V} (h : H a = some (.lst vs)) (hq : a ∈ q) : Ext q H (upd H a (.frz o (.lst vs))) := Ext.put h trivial hq
theorem Rel.frz (h : Rel K m os env S σ H) {a : Addr} {o : Obj} {vs : List V} (e : H a = some (.lst vs)) (hm : a ∉ m) (ho : a ∉ os) : Rel K m os env S σ (upd H a (.frz o (.lst vs))) :=
  h.off (Ext.frz e (List.mem_singleton.mpr rfl)) hm ho
/-- a step that changes besides what was new -/
theorem Stp.also (s : Stp m m' H0 H) {a : Addr} {o : HO} {u : HO} (n : Fr H0 a) (t : H a = some u) (w : Wr u) : Stp m m' H0 (upd H a o) where
  pre := s.pre
  new := s.new
  ext := ⟨fun b o' h hm ht => by rw [upd_ne (n.ne h ht)]; exact s.ext.keep b o' h hm ht, fun b xs h => by rw [upd_ne (n.ne h fun ps z => by cases z)]; exact s.ext.fixT b xs h,
    fun b o' u h => by rw [upd_ne (n.ne h fun ps z => by cases z)]; exact s.ext.fixF b o' u h, fun b C dx gs h => by rw [upd_ne (n.ne h fun ps z => by cases z)]; exact s.ext.fixI b C dx gs h, fun b h => by
      by_cases e : b = a
      · rw [e]; exact n
      · exact s.ext.there b fun o ho => h o (by rw [upd_ne e]; exact ho), fun h => Wr.tab t w (s.ext.tab h)⟩
theorem Stp.new' (s : Stp m m' H0 H) {a : Addr} {o : HO} (n : H a = none) : Stp m m' H0 (upd H a o) := s.trans (Stp.of (Ext.new n))
end

/-! ### what comes of an evaluation -/
def PX {α : Type} (ok : α → Sto → Prop) (ex : Nat → List D → Sto → Prop) : Res α → Prop
  | .ok a S => ok a S
  | .exc c fs S => ex c fs S
  | .bad => False
theorem PX.bind {α β : Type} {ok : β → Sto → Prop} {ex : Nat → List D → Sto → Prop} {r : Res α} {k : α → Sto → Res β} (h : PX ok ex (r.bind k)) : PX (fun a S => PX ok ex (k a S)) ex r := by
  cases r <;> exact h
theorem PX.mono {α : Type} {ok ok' : α → Sto → Prop} {ex ex' : Nat → List D → Sto → Prop} {r : Res α} (h : PX ok ex r) (a : ∀ x S, ok x S → ok' x S) (b : ∀ c fs S, ex c fs S → ex' c fs S) : PX ok' ex' r := by
  cases r with
  | ok x S => exact a x S h
  | exc c fs S => exact b c fs S h
  | bad => exact h
theorem PX.got {α : Type} {ok : α → Sto → Prop} {ex : Nat → List D → Sto → Prop} {o : Option α} {S : Sto} (h : PX ok ex (opt S o)) : ∃ a, o = some a ∧ ok a S := by
  cases o with
  | none => exact h.elim
  | some a => exact ⟨a, rfl, h⟩
theorem PX.obind {α β : Type} {ok : β → Sto → Prop} {ex : Nat → List D → Sto → Prop} {o : Option α} {S : Sto} {k : α → Sto → Res β} (h : PX ok ex ((opt S o).bind k)) : ∃ a, o = some a ∧ PX ok ex (k a S) := by
  cases o with
  | none => exact h.elim
  | some a => exact ⟨a, rfl, h⟩

/-- an exception's own dict: its fields -/
def XdR (K : PySem.W.Frag) (H : Hp) (d : Addr) (ns : List Str) (fs : List D) : Prop :=
  ∃ kvs : List (Str × V), H d = some (.xd kvs) ∧ Paired (fun n f => ∃ v, kvs.lookup n = some v ∧ Rp K H f v) ns fs

/-- the whole text's surroundings -/
structure Nv where
  K : PySem.W.Frag
  ca : Nat → Addr
  fl : Nat → List Str
  F : FT

section
variable (V_ : Nv) (W : WX)
def exW (m os : List Addr) (env : Ev) (σ : L2.St) (H : Hp) (c : Nat) (fs : List D) (S' : Sto) : Prop :=
  ∀ m' d H', Stp m m' H H' → Rel V_.K m' os env S' σ H' → XdR V_.K H' d (V_.fl c) fs → W (.ref (V_.ca c)) (some d) σ H'
def okE (m os : List Addr) (env : Ev) (σ : L2.St) (H : Hp) (Q : VK) (r : R) (S' : Sto) : Prop :=
  ∀ m' v H', Stp m m' H H' → Rel V_.K m' os env S' σ H' → RpR V_.K m' os H H' r v → Q v H'
abbrev PE_ (m os : List Addr) (env : Ev) (σ : L2.St) (H : Hp) (Q : VK) : Res R → Prop := PX (okE V_ m os env σ H Q) (exW V_ W m os env σ H)
/-- an expression's reading -/
def dE (e : E) : TE := fun σ H Q => ∃ m os env S, Rel V_.K m os env S σ H ∧ PE_ V_ W m os env σ H Q (evE V_.F e env S)
end
section
variable {V_ : Nv} {W : WX} {m m1 os : List Addr} {env : Ev} {σ : L2.St} {H H1 : Hp} {Q : VK} {S : Sto}
theorem exW.step (s : Stp m m1 H H1) {c : Nat} {fs : List D} {S' : Sto} (h : exW V_ W m os env σ H c fs S') : exW V_ W m1 os env σ H1 c fs S' :=
  fun m' d H' s' r x => h m' d H' (s.trans s') r x
theorem okE.step (s : Stp m m1 H H1) {r : R} {S' : Sto} (h : okE V_ m os env σ H Q r S') : okE V_ m1 os env σ H1 Q r S' :=
  fun m' v H' s' rel rp => h m' v H' (s.trans s') rel (rp.back s.ext.there)
theorem PE_.step (s : Stp m m1 H H1) {r : Res R} (h : PE_ V_ W m os env σ H Q r) : PE_ V_ W m1 os env σ H1 Q r := PX.mono h (fun _ _ z => z.step s) fun _ _ _ z => z.step s
theorem PX.st {α : Type} {ok : α → Sto → Prop} {r : Res α} (s : Stp m m1 H H1) (h : PX ok (exW V_ W m os env σ H) r) : PX ok (exW V_ W m1 os env σ H1) r := PX.mono h (fun _ _ z => z) fun _ _ _ z => z.step s
/-- one part of an expression; what is left told of the start -/
theorem ev0 {e : E} {α : Type} {k : R → Sto → Res α} {ok : α → Sto → Prop} {Q' : VK} (rel : Rel V_.K m os env S σ H) (post : PX ok (exW V_ W m os env σ H) ((evE V_.F e env S).bind k))
    (hk : ∀ r S1 m1 v H1, Stp m m1 H H1 → Rel V_.K m1 os env S1 σ H1 → RpR V_.K m1 os H H1 r v → PX ok (exW V_ W m os env σ H) (k r S1) → Q' v H1) : dE V_ W e σ H Q' :=
  ⟨m, os, env, S, rel, PX.mono (PX.bind post) (fun r S1 z m1 v H1 s1 rel1 rp1 => hk r S1 m1 v H1 s1 rel1 rp1 z) fun _ _ _ z => z⟩
/-- one part of an expression -/
theorem ev1 {e : E} {α : Type} {k : R → Sto → Res α} {ok : α → Sto → Prop} {Q' : VK} (rel : Rel V_.K m os env S σ H) (post : PX ok (exW V_ W m os env σ H) ((evE V_.F e env S).bind k))
    (hk : ∀ r S1 m1 v H1, Stp m m1 H H1 → Rel V_.K m1 os env S1 σ H1 → RpR V_.K m1 os H H1 r v → PX ok (exW V_ W m1 os env σ H1) (k r S1) → Q' v H1) : dE V_ W e σ H Q' :=
  ⟨m, os, env, S, rel, PX.mono (PX.bind post) (fun r S1 z m1 v H1 s1 rel1 rp1 => hk r S1 m1 v H1 s1 rel1 rp1 (PX.mono z (fun _ _ y => y) fun _ _ _ y => y.step s1)) fun _ _ _ z => z⟩
theorem dE.use {e : E} {Q : VK} (rel : Rel V_.K m os env S σ H) (post : PE_ V_ W m os env σ H Q (evE V_.F e env S)) : dE V_ W e σ H Q := ⟨m, os, env, S, rel, post⟩
end
theorem _root_.L2.PE.imp {X : Cx} {e : Expr} {t t' : TE} (h : PE X e t) (i : ∀ σ H Q, t' σ H Q → t σ H Q) : PE X e t' := ⟨fun pins s σ H Q I q => h.run pins s σ H Q I (i σ H Q q)⟩
theorem OpR.or {X : Cx} {f : Value → Value → Sem Value} {r r' : R2} (a : OpR X f r) (b : OpR X f r') : OpR X f (fun x y H Q => r x y H Q ∨ r' x y H Q) :=
  fun pins s σ H x y v u Q I rx ry h => h.elim (a pins s σ H x y v u Q I rx ry) (b pins s σ H x y v u Q I rx ry)
theorem CallR.or {X : Cx} {f : Value} {r r' : List V → Hp → VK → Prop} (a : CallR X f r) (b : CallR X f r') : CallR X f (fun xs H Q => r xs H Q ∨ r' xs H Q) :=
  fun pins s σ H xs us Q I rx h => h.elim (a pins s σ H xs us Q I rx) (b pins s σ H xs us Q I rx)

/-! ### a list is locked -/
theorem Inv.frz {X : Cx} {pins : List (Addr × Obj)} {σ : L2.St} {H : Hp} {s : Shared} {a : Addr} {vs : List V} (I : L2.Inv X pins σ H s) (e : H a = some (.lst vs)) : ∃ o, L2.Inv X pins σ (upd H a (.frz o (.lst vs))) s := by
  obtain ⟨z, its, n, rv, ho⟩ := (show ObjOk X.prog X.w H s.heap a (.lst vs) from I.hok a _ e)
  refine ⟨{ cls := .type "list", data := .seq its.toArray n }, I.un (h' := s.heap) (t' := s.toks) (H' := upd H a (.frz { cls := .type "list", data := .seq its.toArray n } (.lst vs))) ⟨fun b o h _ _ _ => h, fun b o h _ _ _ => ⟨o.slots, h⟩, fun b o h n _ => ?_, fun b o h _ => ⟨o, h⟩, fun b xs h => ?_, fun b o u h => ?_, fun b ps h => ⟨#[], ?_⟩⟩ ?_⟩
  · rw [upd_ne (fun q => by rw [q, e] at n; cases n)]; exact n
  · rw [upd_ne (fun q => by rw [q, e] at h; cases h)]; exact h
  · rw [upd_ne (fun q => by rw [q, e] at h; cases h)]; exact h
  · rw [upd_ne (fun q => by rw [q, e] at h; cases h), h]; simp
  · intro b o h
    by_cases hb : b = a
    · subst hb
      rw [upd_same] at h
      cases h
      exact ⟨ho, z, its, n, rv, ho⟩
    · rw [upd_ne hb] at h
      refine (I.hok b o h).stay (fun _ _ _ q => q) (fun c q => ?_) fun c xs q => ?_
      · rw [upd_ne (fun y => by rw [y, e] at q; cases q)]; exact q
      · rw [upd_ne (fun y => by rw [y, e] at q; cases q)]; exact q
/-- what is wanted, the list at the value locked where one likes -/
def Lk (Q : VK) : VK := fun v H => Q v H ∨ ∃ a vs, v = .ref a ∧ H a = some (.lst vs) ∧ ∀ o, Q v (upd H a (.frz o (.lst vs)))
theorem _root_.L2.PE.lk {X : Cx} {e : Expr} {t : TE} (h : PE X e t) : PE X e (fun σ H Q => t σ H (Lk Q)) := ⟨fun pins s σ H Q I q => thn (h.run pins s σ H _ I q) fun u s1 ⟨v, H1, I1, r1, z⟩ => by
  rcases z with z | ⟨a, vs, rfl, e, z⟩
  · exact ⟨v, H1, I1, r1, z⟩
  · obtain ⟨o, J⟩ := Inv.frz I1 e
    exact ⟨_, _, J, r1, z o⟩⟩
section
variable {V_ : Nv} {m m1 os : List Addr} {env : Ev} {σ : L2.St} {H H1 : Hp} {Q : VK} {S : Sto} {r : R} {d : D} {v : V}
/-- given for good -/
theorem lk_of (s : Stp m m1 H H1) (rel : Rel V_.K m1 os env S σ H1) (rp : RpR V_.K m1 os H H1 r v) (e : fz r = some d)
    (h : ∀ H2, Stp m m1 H H2 → Rel V_.K m1 os env S σ H2 → Rp V_.K H2 d v → Q v H2) : Lk Q v H1 := by
  cases rp with
  | p q => cases e; exact .inl (h _ s rel q)
  | nl a b c q =>
    cases e
    obtain ⟨vs, h1, h2⟩ := q
    refine .inr ⟨_, vs, rfl, h1, fun o => h _ (s.also a h1 trivial) (rel.frz h1 b c) ?_⟩
    exact .lst (.inl ⟨o, upd_same⟩) (h2.ext (Ext.frz (q := [_]) h1 (List.mem_singleton.mpr rfl)))
  | nd a b c q => cases e
  | nT a b c q => cases e
  | bw b c q => cases e
  | ref q => cases e
  | obj q => cases e
end
end Vy
set_option Elab.async false
set_option linter.all false
set_option maxRecDepth 100000
set_option maxHeartbeats 4000000
namespace Vy
open PySem PySem.Spec L2
variable [Tb]

section
variable {V_ : Nv} {X : Cx} {m os : List Addr} {env : Ev} {σ : L2.St} {H : Hp} {Q : VK} {S : Sto} {K : PySem.W.Frag}
/-- the answer is data that lies there -/
theorem okE.data {d : D} (q : okE V_ m os env σ H Q (.p d) S) (rel : Rel V_.K m os env S σ H) {v : V} (r : Rp V_.K H d v) : Q v H := q m v H (Stp.refl m H) rel (.p r)
theorem okE.newT {ds : List D} (q : okE V_ m os env σ H Q (.p (.tuple ds)) S) (rel : Rel V_.K m os env S σ H) {vs : List V} (r : RpA V_.K H ds vs) {p : Addr} (n : H p = none) : Q (.ref p) (upd H p (.tup vs)) :=
  q m _ _ (Stp.of (Ext.new n)) (rel.new n) (.p (.tup upd_same (r.ext (Ext.new (m := m) n))))
theorem okE.newL {ds : List D} (q : okE V_ m os env σ H Q (.nl ds) S) (rel : Rel V_.K m os env S σ H) {vs : List V} (r : RpA V_.K H ds vs) {p : Addr} (n : H p = none) : Q (.ref p) (upd H p (.lst vs)) :=
  q m _ _ (Stp.of (Ext.new n)) (rel.new n) (.nl (Fr.of n) (rel.offM (Fr.of n)) (rel.offO (Fr.of n)) ⟨vs, upd_same, r.ext (Ext.new (m := m) n)⟩)
theorem okE.newD {kvs : List (Key × D)} (q : okE V_ m os env σ H Q (.nd kvs) S) (rel : Rel V_.K m os env S σ H) {ws : List (Key × V)} (r : KvR V_.K H kvs ws) {p : Addr} (n : H p = none) : Q (.ref p) (upd H p (.dK ws)) :=
  q m _ _ (Stp.of (Ext.new n)) (rel.new n) (.nd (Fr.of n) (rel.offM (Fr.of n)) (rel.offO (Fr.of n)) ⟨ws, upd_same, r.ext (Ext.new (m := m) n)⟩)
theorem okE.newDT {kvs : List (List Key × D)} (q : okE V_ m os env σ H Q (.nT kvs) S) (rel : Rel V_.K m os env S σ H) {ws : List (List Key × V)} (r : KvR V_.K H kvs ws) {p : Addr} (n : H p = none) : Q (.ref p) (upd H p (.dT ws)) :=
  q m _ _ (Stp.of (Ext.new n)) (rel.new n) (.nT (Fr.of n) (rel.offM (Fr.of n)) (rel.offO (Fr.of n)) ⟨ws, upd_same, r.ext (Ext.new (m := m) n)⟩)
end

/-! ### lists that are read, put together -/
section
variable {X : Cx} {pins : List (Addr × Obj)} {σ : L2.St} {H : Hp} {s : Shared}
theorem Inv.lstO {a : Addr} {xs : List V} (I : L2.Inv X pins σ H s) (h : SqL X.K H a xs) :
    ∃ (its : List Value) (n : Nat) (sl : Array (Option Value)), Vals xs its ∧ xs.length ≤ sizeLine ∧ s.heap.get? a = some { cls := .type "list", data := .seq its.toArray n, slots := sl } := by
  rcases h with h | ⟨o, its, n, h1, h2, h3, h4, h5, h6⟩
  · obtain ⟨z, its, n, rv, e⟩ := (show ObjOk X.prog X.w H s.heap a (.lst xs) from h.ok I.hok)
    exact ⟨its, n, _, rv, z, e⟩
  · obtain ⟨c, d, dt, sl⟩ := o
    simp only at h2 h3 h4
    subst h2 h3 h4
    refine ⟨its.toList, n, sl, h6, ?_, ?_⟩
    · rw [h6.length]
      simpa using h5
    · have e := I.kIn a _ h1
      rw [e]
def rCatF (K : PySem.W.Frag) : R2 := fun x y H Q => ∃ l b xs zs, x = .ref l ∧ y = .ref b ∧ SqL K H l xs ∧ SqL K H b zs ∧ xs.length + zs.length ≤ sizeLine ∧ ∀ p, H p = none → Q (.ref p) (upd H p (.lst (xs ++ zs)))
theorem op_catF : OpR X (binaryOp .Add) (rCatF X.K) := by
  intro pins s σ H x y v u Q I rx ry h
  obtain ⟨l, b, xs, zs, rfl, rfl, hl, hb, hz, q⟩ := h
  cases rx
  cases ry
  obtain ⟨i1, n1, sl1, r1, z1, e1⟩ := Inv.lstO I hl
  obtain ⟨i2, n2, sl2, r2, z2, e2⟩ := Inv.lstO I hb
  have l1 := r1.length
  have l2 := r2.length
  refine PySem.concat_meets ⟨_, e1, rfl⟩ ⟨_, e2, rfl⟩ PySem.noFill_list_add PySem.seq_list_add PySem.F.slot_list_add PySem.F.entry_list_add (PySem.F.args_list_add_2 _ _) (PyProof.Rows.list_addW l b i1.toArray i2.toArray n1 n2 none none sl1 sl2 (by simp; omega)) ⟨e1, e2, ?_⟩
  have ea : i1.toArray ++ i2.toArray = (i1 ++ i2).toArray := by simp
  rw [ea]
  exact ⟨.ref _, _, I.lnew (t' := s.toks) (r1.append r2) (by rw [List.length_append]; omega), rfl, q _ I.fresh⟩
end

/-! ### operators -/
section
variable {X : Cx}
def rStrA : R2 := fun x y H Q => ∃ i j, x = .str i ∧ y = .str j ∧ i.length + j.length ≤ sizeLine ∧ Q (.str (i ++ j)) H
def oprR (K : PySem.W.Frag) : Operator → R2
  | .Add => fun x y H Q => ((rI0 (fun i j => .int (i + j)) x y H Q ∨ rStrA x y H Q) ∨ rCatA K x y H Q) ∨ rCatF K x y H Q
  | .Sub => rI0 fun i j => .int (i - j)
  | .Mult => fun x y H Q => (rI CMul (fun i j => .int (i * j)) x y H Q ∨ rRep x y H Q) ∨ rRepT K x y H Q
  | .FloorDiv => rI CDivN fun i j => .int (i.fdiv j)
  | .Mod => rI (fun _ j => j ≠ 0) fun i j => .int (i.fmod j)
  | _ => fun _ _ _ _ => False
theorem op_all (op : Operator) : OpR X (binaryOp op) (oprR X.K op) := by
  cases op <;> first
    | exact OpR.or (OpR.or (OpR.or op_add op_add_str) op_catA) op_catF
    | exact op_sub
    | exact OpR.or (OpR.or op_mul op_rep) op_repT
    | exact op_fdivN
    | exact op_modN
    | (intro pins s σ H x y v u Q I rx ry h; exact h.elim)
end
section
variable {V_ : Nv} {m os : List Addr} {env : Ev} {σ : L2.St} {H H0 H1 : Hp} {Q : VK} {S : Sto}
theorem Rp.is {K : PySem.W.Frag} {d : D} {v : V} (h : Rp K H d v) : Rt K H d v := .of h
theorem RpR.isInt {K : PySem.W.Frag} {i : Int} {v : V} (h : RpR K m os H0 H (.p (.int i)) v) : v = .int i := by
  cases h with
  | p q => cases q; rfl
theorem mulOk_of {i j : Int} (h : mulOk i j = true) : CMul i j := (decide_eq_true_iff.mp h : _ ∨ _)
theorem divOk_of {j : Int} (h : divOk j = true) : j ≠ 0 ∧ j.natAbs < 1073741824 := (decide_eq_true_iff.mp h : _ ∧ _)
theorem bin_val {op : Operator} {a b r : R} {x y : V} (rel : Rel V_.K m os env S σ H) (ra : RpR V_.K m os H0 H a x) (rb : RpR V_.K m os H1 H b y) (e : binR S op a b = some r) (q : okE V_ m os env σ H Q r S) : oprR V_.K op x y H Q := by
  unfold binR at e
  have key0 : ∀ {xs : List D} {vs : List V}, RpA V_.K H xs vs → ∀ n : Nat, RpA V_.K H (List.replicate n xs).flatten (List.replicate n vs).flatten := fun h2 n => by
    induction n with
    | zero => exact .nil
    | succ n ih => rw [List.replicate_succ, List.replicate_succ, List.flatten_cons, List.flatten_cons]; exact h2.app ih
  split at e
  · rename_i xs k
    split at e
    · rename_i hz
      cases e
      obtain rfl := rb.isInt
      cases ra with
      | p a4 =>
        obtain ⟨a, vs, rfl, h1, h2⟩ := (Rp.is a4).tupT
        have hl := h2.len
        refine .inr ⟨a, k, vs, rfl, rfl, .inl (.inl h1), fun z => hz.1 ?_, hz.2.1, hz.2.2.1, by rw [← hl]; exact hz.2.2.2, fun p n => q.newT rel (key0 h2 _) n⟩
        rw [z] at hl
        exact List.eq_nil_of_length_eq_zero hl
    · cases e
  · rename_i xs k
    split at e
    · rename_i hz
      cases e
      obtain rfl := rb.isInt
      cases ra with
      | nl a1 a2 a3 a4 =>
        obtain ⟨vs, h1, h2⟩ := a4
        have hl := h2.len
        exact .inl (.inr ⟨_, k, vs, rfl, rfl, h1, hz.2.1, hz.2.2, by rw [← hl]; exact hz.1, fun p n => q.newL rel (key0 h2 _) n⟩)
    · cases e
  · split at e
    · rename_i d1 d2 e1 e2
      have t1 := ra.dat rel.ce e1
      have t2 := rb.dat rel.ce e2
      unfold binD at e
      split at e
      · cases e
        rw [t1.int, t2.int]
        exact .inl (.inl (.inl ⟨_, _, rfl, rfl, q.data rel (.int _)⟩))
      · cases e
        rw [t1.int, t2.int]
        exact ⟨_, _, rfl, rfl, q.data rel (.int _)⟩
      · split at e
        · rename_i hm
          cases e
          rw [t1.int, t2.int]
          exact .inl (.inl ⟨_, _, rfl, rfl, mulOk_of hm, q.data rel (.int _)⟩)
        · cases e
      · split at e
        · rename_i hm
          cases e
          rw [t1.int, t2.int]
          exact ⟨_, _, rfl, rfl, divOk_of hm, q.data rel (.int _)⟩
        · cases e
      · split at e
        · rename_i hm
          cases e
          rw [t1.int, t2.int]
          exact ⟨_, _, rfl, rfl, hm, q.data rel (.int _)⟩
        · cases e
      · split at e
        · rename_i hm
          cases e
          rw [t1.str, t2.str]
          exact .inl (.inl (.inr ⟨_, _, rfl, rfl, hm, q.data rel (.str _)⟩))
        · cases e
      · split at e
        · rename_i hm
          cases e
          obtain ⟨a1, v1, rfl, s1, p1⟩ := t1.tupT
          obtain ⟨a2, v2, rfl, s2, p2⟩ := t2.tupT
          have l1 := p1.len
          have l2 := p2.len
          refine .inl (.inr ⟨a1, a2, v1, v2, rfl, rfl, .inl (.inl s1), .inl (.inl s2), by omega, fun z => ?_, fun z1 z => ?_, fun z1 z2 p n => q.newT rel (p1.app p2) n⟩)
          · subst z
            cases p1
            exact q.data rel (.tup s2 p2)
          · subst z
            cases p2
            rw [List.append_nil] at q
            exact q.data rel (.tup s1 p1)
        · cases e
      · split at e
        · rename_i hm
          cases e
          obtain ⟨a1, v1, rfl, s1, p1⟩ := t1.list
          obtain ⟨a2, v2, rfl, s2, p2⟩ := t2.list
          have l1 := p1.len
          have l2 := p2.len
          exact .inr ⟨a1, a2, v1, v2, rfl, rfl, s1, s2, by omega, fun p n => q.newL rel (p1.app p2) n⟩
        · cases e
      · cases e
    · cases e
end
end Vy
set_option Elab.async false
set_option linter.all false
set_option maxRecDepth 100000
set_option maxHeartbeats 4000000
namespace Vy
open PySem PySem.Spec L2
variable [Tb]

/-! ### dicts -/
theorem KvR.get {κ : Type} [DecidableEq κ] {K : PySem.W.Frag} {H : Hp} {kvs : List (κ × D)} {ws : List (κ × V)} (h : KvR K H kvs ws) (k : κ) :
    (∃ d v, kvGet kvs k = some d ∧ valV ws k = some v ∧ Rp K H d v) ∨ (kvGet kvs k = none ∧ valV ws k = none) := by
  induction h with
  | nil => exact .inr ⟨rfl, rfl⟩
  | @cons p q ps qs r t ih =>
    obtain ⟨e, rp⟩ := r
    by_cases hk : p.1 = k
    · refine .inl ⟨p.2, q.2, ?_, ?_, rp⟩
      · simp [kvGet, List.find?_cons, hk]
      · exact valV_pos (by rw [← e]; exact hk)
    · have hq : ¬ q.1 = k := by rw [← e]; exact hk
      rw [valV_neg hq]
      have : kvGet (p :: ps) k = kvGet ps k := by simp [kvGet, List.find?_cons, hk]
      rw [this]
      exact ih
theorem KvR.len {κ : Type} [DecidableEq κ] {K : PySem.W.Frag} {H : Hp} {kvs : List (κ × D)} {ws : List (κ × V)} (h : KvR K H kvs ws) : kvs.length = ws.length := Paired.length h
theorem KvR.any {κ : Type} [DecidableEq κ] {K : PySem.W.Frag} {H : Hp} {kvs : List (κ × D)} {ws : List (κ × V)} (h : KvR K H kvs ws) (k : κ) : (kvs.any fun q => decide (q.1 = k)) = ws.any fun q => decide (q.1 = k) := by
  induction h with
  | nil => rfl
  | cons r _ ih => rw [List.any_cons, List.any_cons, ih, r.1]
theorem KvR.put {κ : Type} [DecidableEq κ] {K : PySem.W.Frag} {H : Hp} {kvs : List (κ × D)} {ws : List (κ × V)} (h : KvR K H kvs ws) (k : κ) {d : D} {v : V} (r : Rp K H d v) : KvR K H (kvPut kvs k d) (putK ws k v) := by
  unfold kvPut putK
  rw [h.any k]
  by_cases hk : (ws.any fun kv => decide (kv.1 = k)) = true
  · rw [if_pos hk, if_pos hk]
    clear hk
    induction h with
    | nil => exact .nil
    | @cons p q ps qs r' t ih =>
      rw [List.map_cons, List.map_cons]
      refine .cons ?_ ih
      rw [r'.1]
      by_cases e : q.1 = k
      · rw [if_pos e, if_pos e]
        exact ⟨rfl, r⟩
      · rw [if_neg e, if_neg e]
        exact r'
  · rw [if_neg hk, if_neg hk]
    exact Paired.snoc h ⟨rfl, r⟩
theorem KvR.merge {K : PySem.W.Frag} {H : Hp} : ∀ {more : List (Key × D)} {mw : List (Key × V)} {kvs : List (Key × D)} {ws : List (Key × V)}, KvR K H more mw → KvR K H kvs ws → KvR K H (kvMerge kvs more) (mergeK ws mw) := by
  intro more mw kvs ws h
  induction h generalizing kvs ws with
  | nil => intro q; exact q
  | @cons p q ps qs r t ih =>
    intro z
    show KvR K H (kvMerge (kvPut kvs p.1 p.2) ps) (mergeK (putK ws q.1 q.2) qs)
    rw [r.1]
    exact ih (z.put _ r.2)
theorem keyD_kV {K : PySem.W.Frag} {H : Hp} {d : D} {v : V} {k : Key} (h : Rp K H d v) (e : keyD d = some k) : v = kV k := by
  cases h <;> cases e <;> rfl
theorem keyT_of {K : PySem.W.Frag} {H : Hp} : ∀ {ds : List D} {vs : List V} {ks : List Key}, RpA K H ds vs → ds.mapM keyD = some ks → vs = ks.map kV
  | _, _, _, .nil, e => by cases e; rfl
  | d :: ds, v :: vs, ks, .cons r t, e => by
    rw [List.mapM_cons] at e
    cases h1 : keyD d with
    | none => rw [h1] at e; cases e
    | some k =>
      rw [h1] at e
      cases h2 : ds.mapM keyD with
      | none => rw [h2] at e; cases e
      | some ks' =>
        rw [h2] at e
        cases e
        rw [List.map_cons, keyD_kV r h1, keyT_of t h2]
theorem keyT_at {K : PySem.W.Frag} {H : Hp} {d : D} {v : V} {k : List Key} (h : Rp K H d v) (e : keyT d = some k) : ∃ b, v = .ref b ∧ H b = some (.tup (k.map kV)) := by
  cases h with
  | tup h1 h2 => exact ⟨_, rfl, by rw [h1, keyT_of h2 e]⟩
  | non => cases e
  | bl => cases e
  | int => cases e
  | str => cases e
  | lst => cases e
section
variable {K : PySem.W.Frag} {m os : List Addr} {env : Ev} {σ : L2.St} {H H0 H1 : Hp} {Q : VK} {S : Sto}
theorem dget_of {kvs : List (Key × D)} {a : Addr} {k : Key} (c : CellR K H a (.dct kvs)) : ∃ o, DGet H a (kV k) o ∧ ((∃ d v, kvGet kvs k = some d ∧ o = some v ∧ Rp K H d v) ∨ (kvGet kvs k = none ∧ o = none)) := by
  obtain ⟨ws, h1, h2⟩ := c
  refine ⟨_, .inl ⟨ws, k, .inl h1, rfl, rfl⟩, ?_⟩
  rcases h2.get k with ⟨d, v, a, b, c⟩ | h
  · exact .inl ⟨d, v, a, b, c⟩
  · exact .inr h
theorem dgetT_of {kvs : List (List Key × D)} {a b : Addr} {k : List Key} (c : CellR K H a (.dcT kvs)) (hb : H b = some (.tup (k.map kV))) : ∃ o, DGet H a (.ref b) o ∧ ((∃ d v, kvGet kvs k = some d ∧ o = some v ∧ Rp K H d v) ∨ (kvGet kvs k = none ∧ o = none)) := by
  obtain ⟨ws, h1, h2⟩ := c
  refine ⟨_, DGet.t h1 hb, ?_⟩
  rcases h2.get k with ⟨d, v, a, b, c⟩ | h
  · exact .inl ⟨d, v, a, b, c⟩
  · exact .inr h
end

/-! ### comparisons -/
section
variable {X : Cx}
/-- k in d, by the values -/
def rDIn (neg : Bool) : R2 := fun x y H Q => ∃ a o, y = .ref a ∧ DGet H a x o ∧ Q (.bl (if neg = true then !o.isSome else o.isSome)) H
theorem op_dIn (hu : X.A.units + 1 < cLine) : OpR X (compareOp .In) (rDIn false) := by
  intro pins s σ H x y v u Q I rx ry h
  obtain ⟨a, o, rfl, g, q⟩ := h
  cases ry
  exact d_in hu I g rx fun s3 I3 => ⟨.bl o.isSome, H, I3, rfl, q⟩
theorem op_dNotIn (hu : X.A.units + 1 < cLine) : OpR X (compareOp .NotIn) (rDIn true) := by
  intro pins s σ H x y v u Q I rx ry h
  obtain ⟨a, o, rfl, g, q⟩ := h
  cases ry
  exact d_notIn hu I g rx fun s3 I3 => ⟨.bl (!o.isSome), H, I3, rfl, q⟩
def oprC (K : PySem.W.Frag) : CmpOp → R2
  | .Eq => rEqD K
  | .NotEq => rNeD K
  | .Lt => rI0 fun i j => .bl (decide (i < j))
  | .LtE => rI0 fun i j => .bl (decide (i ≤ j))
  | .Gt => rI0 fun i j => .bl (decide (j < i))
  | .GtE => rI0 fun i j => .bl (decide (j ≤ i))
  | .In => fun x y H Q => rIn K false x y H Q ∨ rDIn false x y H Q
  | .NotIn => fun x y H Q => rIn K true x y H Q ∨ rDIn true x y H Q
  | .Is => fun x y H Q => y = .non ∧ Q (.bl (decide (x = .non))) H
  | .IsNot => fun x y H Q => y = .non ∧ Q (.bl (!decide (x = .non))) H
theorem op_allC (hu : X.A.units + 64 < cLine) (op : CmpOp) : OpR X (compareOp op) (oprC X.K op) := by
  cases op
  · exact op_eqD hu
  · exact op_neD hu
  · exact op_lt
  · exact op_le
  · exact op_gt
  · exact op_ge
  · exact op_isN
  · exact op_notN
  · exact OpR.or op_in_seq (op_dIn (by omega))
  · exact OpR.or op_notIn_seq (op_dNotIn (by omega))
end
theorem flat_of {K : PySem.W.Frag} {H : Hp} {d : D} {v : V} (h : Rt K H d v) (f : flatD d = true) : flatV v = true := by
  cases h with
  | of q => cases q <;> first | rfl | cases f
  | lst a b => cases f
theorem flatA_of {K : PySem.W.Frag} {H : Hp} : ∀ {ds : List D} {vs : List V}, RpA K H ds vs → ds.all flatD = true → vs.all flatV = true
  | _, _, .nil, _ => rfl
  | _, _, .cons a b, f => by
    rw [List.all_cons, Bool.and_eq_true] at f ⊢
    exact ⟨flat_of (.of a) f.1, flatA_of b f.2⟩
theorem eqV_of {K : PySem.W.Frag} {H : Hp} {d e : D} {v u : V} (h : Rp K H d v) (h' : Rt K H e u) (f : flatD d = true) (f' : flatD e = true) : eqV v u = PyData.eqv d e := by
  have h'' : Rp K H e u := by
    cases h' with
    | of q => exact q
    | lst a b => cases f'
  cases h <;> cases h'' <;> first | rfl | (cases f; done) | (cases f'; done) | skip
  all_goals simp [eqV, PyData.eqv]
theorem inV_of {K : PySem.W.Frag} {H : Hp} {e : D} {u : V} (h' : Rt K H e u) (f' : flatD e = true) : ∀ {ds : List D} {vs : List V}, RpA K H ds vs → ds.all flatD = true → inV u vs = ds.any fun y => PyData.eqv y e
  | _, _, .nil, _ => rfl
  | _, _, .cons (d := d) (v := v) a b, f => by
    rw [List.all_cons, Bool.and_eq_true] at f
    have ih := inV_of h' f' b f.2
    unfold inV at ih ⊢
    rw [List.any_cons, List.any_cons, ih, eqV_of a h' f.1 f']
section
variable {V_ : Nv} {m os : List Addr} {env : Ev} {σ : L2.St} {H H0 H1 : Hp} {Q : VK} {S : Sto}
theorem non_of {K : PySem.W.Frag} {d : D} {v : V} (h : Rt K H d v) : decide (v = .non) = isNonD d := by
  cases h with
  | of q => cases q <;> rfl
  | lst a b => rfl
theorem cmpD_val {op : CmpOp} {d e : D} {b : Bool} {x y : V} (t1 : Rt V_.K H d x) (t2 : Rt V_.K H e y) (h : cmpD op d e = some b) (q : Q (.bl b) H) : oprC V_.K op x y H Q := by
  unfold cmpD at h
  split at h
  · split at h
    · rename_i hs
      cases h
      exact ⟨_, _, t1.dp, t2.dp, hs.1, hs.2, q⟩
    · cases h
  · split at h
    · rename_i hs
      cases h
      exact ⟨_, _, t1.dp, t2.dp, hs.1, hs.2, q⟩
    · cases h
  · cases h; rw [t1.int, t2.int]; exact ⟨_, _, rfl, rfl, q⟩
  · cases h; rw [t1.int, t2.int]; exact ⟨_, _, rfl, rfl, q⟩
  · cases h; rw [t1.int, t2.int]; exact ⟨_, _, rfl, rfl, q⟩
  · cases h; rw [t1.int, t2.int]; exact ⟨_, _, rfl, rfl, q⟩
  · split at h
    · rename_i hs
      cases h
      obtain ⟨a, vs, rfl, s1, p1⟩ := t2.list
      exact .inl ⟨a, vs, rfl, .inl s1, flat_of t1 hs.1, flatA_of p1 hs.2, by rw [inV_of t1 hs.1 p1 hs.2]; exact q⟩
    · cases h
  · split at h
    · rename_i hs
      cases h
      obtain ⟨a, vs, rfl, s1, p1⟩ := t2.tuple
      exact .inl ⟨a, vs, rfl, .inr s1, flat_of t1 hs.1, flatA_of p1 hs.2, by rw [inV_of t1 hs.1 p1 hs.2]; exact q⟩
    · cases h
  · split at h
    · rename_i hs
      cases h
      obtain ⟨a, vs, rfl, s1, p1⟩ := t2.list
      exact .inl ⟨a, vs, rfl, .inl s1, flat_of t1 hs.1, flatA_of p1 hs.2, by rw [inV_of t1 hs.1 p1 hs.2]; exact q⟩
    · cases h
  · split at h
    · rename_i hs
      cases h
      obtain ⟨a, vs, rfl, s1, p1⟩ := t2.tuple
      exact .inl ⟨a, vs, rfl, .inr s1, flat_of t1 hs.1, flatA_of p1 hs.2, by rw [inV_of t1 hs.1 p1 hs.2]; exact q⟩
    · cases h
  · cases h
    refine ⟨t2.none, ?_⟩
    rw [non_of t1]
    exact q
  · cases h
    refine ⟨t2.none, ?_⟩
    rw [non_of t1]
    exact q
  · cases h
theorem cmp_val {op : CmpOp} {a b : R} {t : Bool} {x y : V} (rel : Rel V_.K m os env S σ H) (ra : RpR V_.K m os H0 H a x) (rb : RpR V_.K m os H1 H b y) (h : cmpR S op a b = some t) (q : Q (.bl t) H) : oprC V_.K op x y H Q := by
  unfold cmpR at h
  cases hd : dic S b with
  | some kvs =>
    rw [hd] at h
    simp only at h
    obtain ⟨a2, rfl, c⟩ := rb.dic rel.ce hd
    split at h
    · rename_i d
      cases hk : keyD d with
      | none => rw [hk] at h; cases h
      | some k =>
        rw [hk] at h
        cases h
        cases ra with
        | p rp =>
          rw [keyD_kV rp hk]
          obtain ⟨o, g, z⟩ := dget_of (k := k) c
          refine .inr ⟨a2, o, rfl, g, ?_⟩
          replace q : Q (.bl (kvGet kvs k).isSome) H := q
          rcases z with ⟨d', v', e1, e2, _⟩ | ⟨e1, e2⟩ <;> (rw [e1] at q; rw [e2]; exact q)
    · rename_i d
      cases hk : keyD d with
      | none => rw [hk] at h; cases h
      | some k =>
        rw [hk] at h
        cases h
        cases ra with
        | p rp =>
          rw [keyD_kV rp hk]
          obtain ⟨o, g, z⟩ := dget_of (k := k) c
          refine .inr ⟨a2, o, rfl, g, ?_⟩
          replace q : Q (.bl (!(kvGet kvs k).isSome)) H := q
          rcases z with ⟨d', v', e1, e2, _⟩ | ⟨e1, e2⟩ <;> (rw [e1] at q; rw [e2]; exact q)
    · cases h
  | none =>
    rw [hd] at h
    simp only at h
    cases hT : dicT S b with
    | some kvs =>
      rw [hT] at h
      simp only at h
      obtain ⟨a2, rfl, c⟩ := rb.dicT rel.ce hT
      split at h
      · rename_i d
        cases hk : keyT d with
        | none => rw [hk] at h; cases h
        | some k =>
          rw [hk] at h
          cases h
          cases ra with
          | p rp =>
            obtain ⟨b1, rfl, hb⟩ := keyT_at rp hk
            obtain ⟨o, g, z⟩ := dgetT_of c hb
            refine .inr ⟨a2, o, rfl, g, ?_⟩
            replace q : Q (.bl (kvGet kvs k).isSome) H := q
            rcases z with ⟨d', v', e1, e2, _⟩ | ⟨e1, e2⟩ <;> (rw [e1] at q; rw [e2]; exact q)
      · rename_i d
        cases hk : keyT d with
        | none => rw [hk] at h; cases h
        | some k =>
          rw [hk] at h
          cases h
          cases ra with
          | p rp =>
            obtain ⟨b1, rfl, hb⟩ := keyT_at rp hk
            obtain ⟨o, g, z⟩ := dgetT_of c hb
            refine .inr ⟨a2, o, rfl, g, ?_⟩
            replace q : Q (.bl (!(kvGet kvs k).isSome)) H := q
            rcases z with ⟨d', v', e1, e2, _⟩ | ⟨e1, e2⟩ <;> (rw [e1] at q; rw [e2]; exact q)
      · cases h
    | none =>
      rw [hT] at h
      simp only at h
      split at h
      · rename_i d e h1 h2
        exact cmpD_val (ra.dat rel.ce h1) (rb.dat rel.ce h2) h q
      · cases h
/-! ### truth -/
theorem tru_val {r : R} {t : Bool} {x : V} (rel : Rel V_.K m os env S σ H) (ra : RpR V_.K m os H0 H r x) (h : truR S r = some t) : TruV V_.K x H t := by
  unfold truR at h
  cases hd : dat S r with
  | some d =>
    rw [hd] at h
    have z := ra.dat rel.ce hd
    simp only at h
    unfold truD at h
    split at h
    · cases h; rw [z.none]; exact rfl
    · cases h; rw [z.bool]; exact rfl
    · cases h; rw [z.int]; exact rfl
    · split at h
      · rename_i hl; cases h; rw [z.str]; exact ⟨hl, rfl⟩
      · cases h
    · cases h
      obtain ⟨a, vs, rfl, s1, p1⟩ := z.list
      refine .inl ⟨vs, s1, ?_⟩
      have := p1.len
      cases p1 <;> rfl
    · cases h
      obtain ⟨a, vs, rfl, s1, p1⟩ := z.tuple
      refine .inr (.inl ⟨vs, s1, ?_⟩)
      cases p1 <;> rfl
    · cases h
  | none =>
    rw [hd] at h
    cases hc : dic S r with
    | none => simp only [hc] at h; cases h
    | some kvs =>
      simp only [hc] at h
      cases h
      obtain ⟨a, rfl, ws, h1, h2⟩ := ra.dic rel.ce hc
      refine .inr (.inr ⟨ws, h1, ?_⟩)
      cases h2 <;> rfl
end
end Vy
set_option Elab.async false
set_option linter.all false
set_option maxRecDepth 100000
set_option maxHeartbeats 4000000
namespace Vy
open PySem PySem.Spec L2
variable [Tb]
/-! ### dict(xs) of pairs whose keys are tuples -/
def mergeT (kvs more : List (List Key × V)) : List (List Key × V) := more.foldl (fun acc kv => putK acc kv.1 kv.2) kvs
theorem KvR.mergeT {K : PySem.W.Frag} {H : Hp} : ∀ {more : List (List Key × D)} {mw : List (List Key × V)} {kvs : List (List Key × D)} {ws : List (List Key × V)}, KvR K H more mw → KvR K H kvs ws → KvR K H (kvMerge kvs more) (Vy.mergeT ws mw) := by
  intro more mw kvs ws h
  induction h generalizing kvs ws with
  | nil => intro q; exact q
  | @cons p q ps qs r t ih =>
    intro z
    show KvR K H (kvMerge (kvPut kvs p.1 p.2) ps) (Vy.mergeT (putK ws q.1 q.2) qs)
    rw [r.1]
    exact ih (z.put _ r.2)
def rDictT (K : PySem.W.Frag) : List V → Hp → VK → Prop := fun xs H Q => ∃ a ps kvs, xs = [.ref a] ∧ SqL K H a (List.map V.ref ps) ∧ Paired (fun p (kv : List Key × V) => ∃ b, SqT K H p [.ref b, kv.2] ∧ H b = some (.tup (kv.1.map kV))) ps kvs ∧ ∀ (p : Addr), H p = none → Q (.ref p) (upd H p (.dT (mergeT [] kvs)))
section
variable {X : Cx}
theorem pairsT_at {pins : List (Addr × Obj)} {σ : L2.St} {H : Hp} {s : Shared} (I : L2.Inv X pins σ H s) : ∀ {ps : List Addr} {kvs : List (List Key × V)}, Paired (fun p (kv : List Key × V) => ∃ b, SqT X.K H p [.ref b, kv.2] ∧ H b = some (.tup (kv.1.map kV))) ps kvs →
    ∃ prs : List (List Key × Addr × Value), KT H kvs prs ∧ prs.length = ps.length ∧ ∀ (j : Nat) (q : List Key × Addr × Value), prs[j]? = some q → ∃ p, ps[j]? = some p ∧ PyProof.Rows.IsTup s.heap p #[.ref q.2.1, q.2.2] ∧ (tupleKind (mixKind X.prog X.w)).is s.heap q.1 q.2.1
  | _, _, .nil => ⟨[], .nil, rfl, fun j q e => by simp at e⟩
  | _, _, .cons (a := p) (b := kv) h t => by
    obtain ⟨prs, r, hl, hp⟩ := pairsT_at I t
    obtain ⟨b, h1, h2⟩ := h
    obtain ⟨its, rv, ht, _⟩ := I.tuple h1
    obtain ⟨u, y, ei, ru, ry⟩ := vals2 rv
    subst ei
    cases ru
    refine ⟨(kv.1, b, y) :: prs, .cons ⟨rfl, h2, ry⟩ r, by rw [List.length_cons, List.length_cons, hl], fun j q e => ?_⟩
    cases j with
    | zero =>
      have e' : (kv.1, b, y) = q := Option.some.inj e
      subst e'
      exact ⟨p, rfl, ht, key_of I.hok h2⟩
    | succ j =>
      obtain ⟨p', e1, e2, e3⟩ := hp j q (by simpa using e)
      exact ⟨p', by simpa using e1, e2, e3⟩
theorem KT.merge {H : Hp} : ∀ {more : List (List Key × V)} {prs : List (List Key × Addr × Value)} {kvs : List (List Key × V)} {xs : List (List Key × Addr × Value)}, KT H more prs → KT H kvs xs → KT H (mergeT kvs more) (storedAllH xs prs) := by
  intro more prs kvs xs h
  induction h generalizing kvs xs with
  | nil => intro q; exact q
  | @cons p q ps qs r t ih =>
    intro z
    show KT H (mergeT (putK kvs p.1 p.2) ps) (storedAllH (storedH xs q.1 q.2.1 q.2.2) qs)
    rw [← r.1]
    exact ih (z.put p.1 r.2.1 r.2.2)
theorem call_dictPT (hcalm : X.calm = true) (hu : X.A.units + 64 < cLine) : CallR X (.type "dict") (rDictT X.K) := by
  intro pins s σ H xs us Q I r q
  obtain ⟨a, ps, kvs, rfl, hq, hp, q⟩ := q
  obtain ⟨u, rfl, rx⟩ := vals1 r
  cases rx
  obtain ⟨its, rv, pl, hz⟩ := I.list hq
  have ei := refs_at rv
  subst ei
  rw [List.length_map] at hz
  obtain ⟨prs, rel, hl, hpr⟩ := pairsT_at I hp
  obtain ⟨o, n, ho, hc, hd, hdat⟩ := pl
  let Ts : Nat → Addr := fun j => ps.getD j 0
  let pv : List (Value × Value) := prs.map fun q => (.ref q.2.1, q.2.2)
  have hpl : pv.length = ps.length := by simp [pv, hl]
  have ok : PlainSeq "list" s.heap a (ps.map Value.ref).toArray ∧ PairItems s.heap (ps.map Value.ref).toArray Ts pv := by
    refine ⟨⟨o, n, ho, hc, hd, hdat⟩, by simp [pv, hl], fun j k v e => ?_⟩
    simp only [pv, List.getElem?_map, Option.map_eq_some_iff] at e
    obtain ⟨q, e1, e2⟩ := e
    obtain ⟨p, e3, e4, _⟩ := hpr j q e1
    cases e2
    have et : Ts j = p := by simp [Ts, List.getD_eq_getElem?_getD, e3]
    refine ⟨by simp [e3, et], ?_⟩
    rw [et]
    exact .inl e4
  refine PySem.call_dict_pairsH (knd := tupleKind (mixKind X.prog X.w)) (ps := prs) (PairArg.list a _ Ts pv) (I.ok.hd hcalm) (show X.A.in1.in1.units < cLine from by first | exact Nat.lt_of_le_of_lt (Nat.le_add_right _ 64) hu | (simp only [Around.in1_units]; omega)) ok ⟨by simp [pv], fun i key v e => ?_⟩ (fun h' hk x hx => ?_) (by rw [hpl]; exact hz) fun h' tk hd' k => ?_
  · simp only [PairRel, pv, List.getElem?_map, Option.map_eq_some_iff] at e
    obtain ⟨q, e1, e2⟩ := e
    cases e2
    exact ⟨q.1, q.2.1, e1, rfl⟩
  · obtain ⟨j, hj⟩ := List.getElem?_of_mem hx
    obtain ⟨p, e3, e4, e5⟩ := hpr j x hj
    obtain ⟨o', xs', n', w1, w2, w3, w4⟩ := e5
    exact ⟨o', xs', n', hk _ _ (Nat.ne_of_lt (Heap.lt_size w1)) (by simp) w1, w2, w3, w4⟩
  · have hm : (s.heap.objs.size == sysModules) = false := beq_eq_false_iff_ne.mpr (Nat.ne_of_gt I.big)
    have hkt : KT H (mergeT [] kvs) (storedAllH [] prs) := KT.merge rel .nil
    have hlen : (mergeT [] kvs).length ≤ sizeLine := by
      rw [Paired.length hkt]
      refine Nat.le_trans (storedAllH_length prs []) ?_
      rw [List.length_nil, Nat.zero_add, hl]
      exact hz
    have fr : H s.heap.objs.size = none := I.hok.fresh (Nat.le_refl _)
    refine ⟨.ref s.heap.objs.size, upd H s.heap.objs.size (.dT (mergeT [] kvs)), I.laid (t' := tk) (fun b o e => k b o (by simp) e) (Nat.le_refl _) ?_, rfl, q _ fr⟩
    obtain ⟨o2, es, ep, w1, w2, w3, w4, w5, w6⟩ := hd'
    exact ⟨hlen, hm, storedAllH [] prs, KT.keeps hkt fun b ys e => by rw [upd_ne (ne_of_none e fr)]; exact e, o2, es, ep, w1, w2, w3, w4, w6⟩
end
theorem pairsT_of {K : PySem.W.Frag} {H : Hp} : ∀ {xs : List D} {vs : List V} {l : List (List Key × D)}, RpA K H xs vs → pairsT xs = some l →
    ∃ (ps : List Addr) (kvs : List (List Key × V)), vs = ps.map V.ref ∧ Paired (fun p (kv : List Key × V) => ∃ b, SqT K H p [.ref b, kv.2] ∧ H b = some (.tup (kv.1.map kV))) ps kvs ∧ KvR K H l kvs
  | [], _, _, .nil, h => by cases h; exact ⟨[], [], rfl, .nil, .nil⟩
  | x :: r, _, l, .cons a b, h => by
    cases a with
    | @tup p us ds s q =>
      cases q with
      | nil => simp [pairsT] at h
      | @cons k ks kv kvs' rk q =>
        cases q with
        | nil => simp [pairsT] at h
        | @cons d ds' dv dvs rd q =>
          cases q with
          | cons _ _ => simp [pairsT] at h
          | nil =>
            cases hk : keyT k with
            | none => simp [pairsT, hk] at h
            | some k' =>
              cases hr : pairsT r with
              | none => simp [pairsT, hk, hr] at h
              | some l' =>
                simp [pairsT, hk, hr] at h
                subst h
                obtain ⟨ps, kvs, e1, e2, e3⟩ := pairsT_of b hr
                obtain ⟨bk, ek, hb⟩ := keyT_at rk hk
                subst ek
                exact ⟨p :: ps, (k', dv) :: kvs, by rw [e1]; rfl, .cons ⟨bk, .inl (.inl s), hb⟩ e2, .cons ⟨rfl, rd⟩ e3⟩
    | _ => simp [pairsT] at h
end Vy
set_option Elab.async false
set_option linter.all false
set_option maxRecDepth 100000
set_option maxHeartbeats 4000000
namespace Vy
open PySem PySem.Spec L2
variable [Tb]

/-! ### subscripts -/
section
variable {X : Cx}
def rIxD : R2 := fun x y H Q => ∃ a v, x = .ref a ∧ DGet H a y (some v) ∧ Q v H
theorem ix_dict (hu : X.A.units + 1 < cLine) : IxR X rIxD := by
  intro value slice pins s σ H x y v u Q I rx ry h hs
  obtain ⟨a, z, rfl, g, q⟩ := h
  cases rx
  exact PyProof.Rows.tail_any (dict_typeIs I g) PySem.F.slot_dict_getitem.lookup (d_getItem hu I g ry fun w' s' I' rw' => ⟨z, H, I', rw', q⟩) hs
def rIxA (K : PySem.W.Frag) : R2 := fun x y H Q => rIx K x y H Q ∨ rIxD x y H Q
theorem ix_all (hu : X.A.units + 1 < cLine) : IxR X (rIxA X.K) := IxR.or ix_seq (ix_dict hu)
def rSlX (K : PySem.W.Frag) : V → Option Int → Option Int → Hp → VK → Prop := fun x lo hi H Q => (rSlL K x lo hi H Q ∨ rSlA K x lo hi H Q) ∨ rSlS x lo hi H Q
theorem slc_of : SlR X (rSlX X.K) := SlR.or (SlR.or sl_list sl_tupA) sl_str
end
section
variable {V_ : Nv} {m os : List Addr} {env : Ev} {σ : L2.St} {H H0 H1 : Hp} {Q : VK} {S : Sto}
theorem atI_of {K : PySem.W.Frag} {ds : List D} {vs : List V} {i : Int} {d : D} (h : RpA K H ds vs) (e : atI ds i = some d) : ∃ v, atI vs i = some v ∧ Rp K H d v := by
  unfold atI at e ⊢
  rw [← h.len]
  cases hx : ixN ds.length i with
  | none => rw [hx] at e; cases e
  | some j =>
    rw [hx] at e
    exact h.get e
theorem idx_val {a b r : R} {x y : V} (rel : Rel V_.K m os env S σ H) (ra : RpR V_.K m os H0 H a x) (rb : RpR V_.K m os H1 H b y) (h : idxR S a b = some r) (q : okE V_ m os env σ H Q r S) : rIxA V_.K x y H Q := by
  unfold idxR at h
  cases hd : dic S a with
  | some kvs =>
    rw [hd] at h
    simp only at h
    obtain ⟨a2, rfl, c⟩ := ra.dic rel.ce hd
    split at h
    · rename_i d
      cases hk : keyD d with
      | none => rw [hk] at h; cases h
      | some k =>
        rw [hk] at h
        cases rb with
        | p rp =>
          rw [keyD_kV rp hk]
          obtain ⟨o, g, z⟩ := dget_of (k := k) c
          rcases z with ⟨d', v', e1, e2, e3⟩ | ⟨e1, e2⟩
          · have h' : (kvGet kvs k).map R.p = some r := h
            rw [e1] at h'
            cases h'
            subst e2
            exact .inr ⟨a2, v', rfl, g, q.data rel e3⟩
          · have h' : (kvGet kvs k).map R.p = some r := h
            rw [e1] at h'
            cases h'
    · cases h
  | none =>
    rw [hd] at h
    simp only at h
    cases hT : dicT S a with
    | some kvs =>
      rw [hT] at h
      simp only at h
      obtain ⟨a2, rfl, c⟩ := ra.dicT rel.ce hT
      split at h
      · rename_i d
        cases hk : keyT d with
        | none => rw [hk] at h; cases h
        | some k =>
          rw [hk] at h
          cases rb with
          | p rp =>
            obtain ⟨b1, rfl, hb⟩ := keyT_at rp hk
            obtain ⟨o, g, z⟩ := dgetT_of c hb
            rcases z with ⟨d', v', e1, e2, e3⟩ | ⟨e1, e2⟩
            · have h' : (kvGet kvs k).map R.p = some r := h
              rw [e1] at h'
              cases h'
              subst e2
              exact .inr ⟨a2, v', rfl, g, q.data rel e3⟩
            · have h' : (kvGet kvs k).map R.p = some r := h
              rw [e1] at h'
              cases h'
      · cases h
    | none =>
      rw [hT] at h
      simp only at h
      split at h
      · rename_i d e h1 h2
        have t1 := ra.dat rel.ce h1
        have t2 := rb.dat rel.ce h2
        unfold idxD at h
        split at h
        · rename_i xs i
          cases hx : atI xs i with
          | none => rw [hx] at h; cases h
          | some z =>
            rw [hx] at h
            cases h
            obtain ⟨p, vs, rfl, s1, p1⟩ := t1.list
            obtain ⟨w, e1, e2⟩ := atI_of p1 hx
            exact .inl (.inl ⟨p, vs, i, w, rfl, t2.int, s1, e1, q.data rel e2⟩)
        · rename_i xs i
          cases hx : atI xs i with
          | none => rw [hx] at h; cases h
          | some z =>
            rw [hx] at h
            cases h
            obtain ⟨p, vs, rfl, s1, p1⟩ := t1.tuple
            obtain ⟨w, e1, e2⟩ := atI_of p1 hx
            exact .inl (.inr (.inl ⟨p, vs, i, w, rfl, t2.int, s1, e1, q.data rel e2⟩))
        · rename_i z i
          split at h
          · rename_i hl
            cases hx : atI z.cps.toList i with
            | none => rw [hx] at h; cases h
            | some c =>
              rw [hx] at h
              cases h
              exact .inl (.inr (.inr ⟨z, i, c, t1.str, t2.int, hl, hx, q.data rel (.str _)⟩))
          · cases h
        · cases h
      · cases h
theorem sIx_of {ds : List D} {vs : List V} {K : PySem.W.Frag} (h : RpA K H ds vs) (lo hi : Option Int) : RpA K H (cutD ds lo hi) (cutV vs lo hi) := by
  unfold cutD cutV
  rw [h.len]
  exact (h.drop _).take _
theorem slc_val {a : R} {lo hi : Option Int} {d : D} {r : R} {x : V} (rel : Rel V_.K m os env S σ H) (ra : RpR V_.K m os H0 H a x) (hd : dat S a = some d) (h : slcD d lo hi = some r) (q : okE V_ m os env σ H Q r S) : rSlX V_.K x lo hi H Q := by
  have t1 := ra.dat rel.ce hd
  unfold slcD at h
  split at h
  · cases h
    obtain ⟨p, vs, rfl, s1, p1⟩ := t1.list
    exact .inl (.inl ⟨p, vs, rfl, s1, fun p n => q.newL rel (sIx_of p1 lo hi) n⟩)
  · rename_i xs
    cases h
    obtain ⟨p, vs, rfl, s1, p1⟩ := t1.tupT
    refine .inl (.inr ⟨p, vs, rfl, .inl (.inl s1), fun z => ?_, fun _ p n => q.newT rel (sIx_of p1 lo hi) n⟩)
    refine q.data rel (.tup s1 ?_)
    have e : cutD xs lo hi = xs := by
      unfold cutD
      rw [p1.len, z.1, z.2, List.drop_zero, Nat.sub_zero, ← p1.len, List.take_length]
    rw [e]
    exact p1
  · rename_i z
    split at h
    · rename_i hl
      cases h
      exact .inr ⟨z, t1.str, hl, q.data rel (.str _)⟩
    · cases h
  · cases h
end

/-! ### built-ins -/
inductive RpL (K : PySem.W.Frag) (m os : List Addr) (H : Hp) : List R → List V → Prop
  | nil : RpL K m os H [] []
  | cons {H0 : Hp} {r : R} {v : V} {rs : List R} {vs : List V} : RpR K m os H0 H r v → RpL K m os H rs vs → RpL K m os H (r :: rs) (v :: vs)
def biV : Bi → Value
  | .len => .builtin "len" | .int_ => .type "int" | .tuple_ => .type "tuple" | .list_ => .type "list" | .max2 => .builtin "max" | .min2 => .builtin "min"
  | .max1 => .builtin "max" | .min1 => .builtin "min" | .sorted_ => .builtin "sorted" | .all_ => .builtin "all" | .any_ => .builtin "any" | .sum_ => .builtin "sum"
  | .repr_ => .builtin "repr" | .dict_ => .type "dict" | .abs_ => .builtin "abs"
def rRepr (K : PySem.W.Frag) : List V → Hp → VK → Prop := fun xs H Q => ∃ v d, xs = [v] ∧ Dp K H v d ∧ d.showable = true ∧ d.hasDict = false ∧ d.depth ≤ 60 ∧ d.shown.length ≤ sizeLine ∧ Q (.str d.shown) H
def rBi (K : PySem.W.Frag) : Bi → List V → Hp → VK → Prop
  | .len => fun xs H Q => ((∃ x n, xs = [x] ∧ LenV K x H n ∧ Q (.int n) H) ∨ ∃ a kvs, xs = [V.ref a] ∧ H a = some (.dK kvs) ∧ Q (.int kvs.length) H) ∨ rLenT xs H Q
  | .int_ => fun xs H Q => (∃ i, xs = [.int i] ∧ Q (.int i) H) ∨ ∃ k, xs = [.bl k] ∧ Q (.int (if k = true then 1 else 0)) H
  | .tuple_ => fun xs H Q => ∃ p ys, xs = [.ref p] ∧ ((SqL K H p ys ∧ ∀ l, H l = none → Q (.ref l) (upd H l (.tup ys))) ∨ SqT K H p ys ∧ Q (.ref p) H)
  | .list_ => fun xs H Q => ∃ p ys, xs = [.ref p] ∧ (SqL K H p ys ∨ SqT K H p ys) ∧ ∀ l, H l = none → Q (.ref l) (upd H l (.lst ys))
  | .max2 => fun xs H Q => ∃ i j, xs = [.int i, .int j] ∧ Q (.int (if j > i then j else i)) H
  | .min2 => fun xs H Q => ∃ i j, xs = [.int i, .int j] ∧ Q (.int (if j < i then j else i)) H
  | .max1 => rMax K
  | .min1 => rMin K
  | .sorted_ => fun xs H Q => rSortedI K xs H Q ∨ ∃ (a : Addr) (kvs : List (Key × V)) (ks : List Int), xs = [.ref a] ∧ Rd H a (.dK kvs) ∧ kvs.map (·.1) = ks.map Sum.inl ∧ ks.length < 64 ∧
      ∀ (ys : List Int) (p : Addr), ys.Perm ks → ys.Pairwise (· ≤ ·) → H p = none → Q (.ref p) (upd H p (.lst (ys.map V.int)))
  | .all_ => rAll K
  | .any_ => rAny K
  | .sum_ => rSum K
  | .repr_ => rRepr K
  | .abs_ => fun xs H Q => ∃ i, xs = [.int i] ∧ Q (.int (if i < 0 then -i else i)) H
  | .dict_ => fun xs H Q => (∃ a ps kvs, xs = [.ref a] ∧ SqL K H a (List.map V.ref ps) ∧ Paired (fun p kv => SqT K H p [kV kv.fst, kv.snd]) ps kvs ∧ ∀ (p : Addr), H p = none → Q (.ref p) (upd H p (.dK (mergeK [] kvs)))) ∨ rDictT K xs H Q
theorem call_reprR {X : Cx} (hu : X.A.units + 64 < cLine) (hg : X.A.guards = some []) : CallR X (.builtin "repr") (rRepr X.K) := by
  intro pins s σ H xs us Q I r h
  obtain ⟨v, d, rfl, dp, hs, hd, hz, hl, q⟩ := h
  obtain ⟨u, rfl, ru⟩ := vals1 r
  have main : (∃ a, v = .ref a) → wpAny (model X.prog X.w) X.A (call (.builtin "repr") [u]) (EP X pins σ Q) X.xe s := by
    rintro ⟨a, rfl⟩
    obtain ⟨as, rd⟩ := Dp.reads I d _ u dp ru
    cases ru
    exact PySem.repr_of_reads' rd hs (fun z => by rw [hd] at z; cases z) hg (by omega) (fun _ _ e => e) (fun h' u tk k => ⟨.str d.shown, H, I.kept (t' := tk) k, ⟨_, rfl⟩, q⟩) hl
  cases dp with
  | non =>
    obtain rfl : u = .none := ru
    exact P.repr_of_none ⟨.str _, H, I.tok _, ⟨_, rfl⟩, q⟩
  | bl b =>
    obtain rfl : u = .bool b := ru
    cases b
    · exact P.repr_of_bool ⟨.str (PyData.bool false).shown, H, I.tok _, ⟨_, rfl⟩, q⟩
    · exact P.repr_of_bool ⟨.str (PyData.bool true).shown, H, I.tok _, ⟨_, rfl⟩, q⟩
  | int i =>
    obtain ⟨t, rfl⟩ := ru
    exact P.repr_of_int (by simpa [PyData.showable] using hs) ⟨.str _, H, I.tok _, ⟨_, rfl⟩, q⟩
  | str x =>
    obtain ⟨t, rfl⟩ := ru
    exact P.repr_of_str ⟨.str _, H, I.tok _, ⟨_, rfl⟩, q⟩ hl
  | _ => exact main ⟨_, rfl⟩
theorem bi_all {X : Cx} (hc : X.calm = true) (hu : X.A.units + 64 < cLine) (f : Bi) (hf : f = .repr_ → X.A.guards = some []) : CallR X (biV f) (rBi X.K f) := by
  cases f
  · exact CallR.or (CallR.or call_len call_lenD) call_len_dT
  · exact call_int1
  · exact call_tuple_of
  · exact call_list_of
  · exact call_max2 hc
  · exact call_min2 hc
  · exact cr_max hc
  · exact cr_min hc
  · exact CallR.or cr_sortedI (call_sortedDI hc)
  · exact cr_all hc
  · exact cr_any hc
  · exact cr_sum hc
  · exact call_reprR hu (hf rfl)
  · exact CallR.or (call_dictP hc) (call_dictPT hc hu)
  · exact call_abs

theorem intsD_eq : ∀ {xs : List D} {l : List Int}, intsD xs = some l → xs = l.map .int
  | [], _, h => by cases h; rfl
  | x :: r, l, h => by
    cases x with
    | int i =>
      cases hr : intsD r with
      | none => simp [intsD, hr] at h
      | some l' =>
        simp [intsD, hr] at h
        subst h
        rw [List.map_cons, ← intsD_eq hr]
    | _ => simp [intsD] at h
theorem boolsD_eq : ∀ {xs : List D} {l : List Bool}, boolsD xs = some l → xs = l.map .bool
  | [], _, h => by cases h; rfl
  | x :: r, l, h => by
    cases x with
    | bool i =>
      cases hr : boolsD r with
      | none => simp [boolsD, hr] at h
      | some l' =>
        simp [boolsD, hr] at h
        subst h
        rw [List.map_cons, ← boolsD_eq hr]
    | _ => simp [boolsD] at h
theorem RpA.ints {K : PySem.W.Frag} {H : Hp} : ∀ {l : List Int} {vs : List V}, RpA K H (l.map .int) vs → vs = l.map .int
  | [], _, .nil => rfl
  | _ :: _, _, .cons (.int _) b => by rw [List.map_cons, ← RpA.ints b]
theorem RpA.bools {K : PySem.W.Frag} {H : Hp} : ∀ {l : List Bool} {vs : List V}, RpA K H (l.map .bool) vs → vs = l.map .bl
  | [], _, .nil => rfl
  | _ :: _, _, .cons (.bl _) b => by rw [List.map_cons, ← RpA.bools b]
theorem RpA.ofInts {K : PySem.W.Frag} {H : Hp} : ∀ (l : List Int), RpA K H (l.map .int) (l.map .int)
  | [] => .nil
  | i :: l => .cons (.int i) (RpA.ofInts l)
theorem intsK_eq {K : PySem.W.Frag} {H : Hp} : ∀ {kvs : List (Key × D)} {ws : List (Key × V)} {l : List Int}, KvR K H kvs ws → intsK kvs = some l → ws.map (·.1) = l.map Sum.inl
  | [], _, _, .nil, h => by cases h; rfl
  | (k, d) :: r, _, l, .cons (b := q) a b, h => by
    cases k with
    | inl i =>
      cases hr : intsK r with
      | none => simp [intsK, hr] at h
      | some l' =>
        simp [intsK, hr] at h
        subst h
        rw [List.map_cons, List.map_cons, intsK_eq b hr]
        have : q.1 = Sum.inl i := a.1.symm
        rw [this]
    | inr x => simp [intsK] at h
theorem sort_one {a b : List Int} (h : a.Perm b) (ha : a.Pairwise (· ≤ ·)) (hb : b.Pairwise (· ≤ ·)) : a = b := by
  induction a generalizing b with
  | nil => exact (List.nil_perm.mp h).symm ▸ rfl
  | cons x a ih =>
    cases b with
    | nil => exact absurd (List.perm_nil.mp h) (by simp)
    | cons y b =>
      have e : x = y := by
        have h1 : y ∈ x :: a := h.symm.subset (List.mem_cons_self)
        have h2 : x ∈ y :: b := h.subset (List.mem_cons_self)
        have l1 : x ≤ y := by
          rcases List.mem_cons.mp h1 with z | z
          · omega
          · exact (List.pairwise_cons.mp ha).1 y z
        have l2 : y ≤ x := by
          rcases List.mem_cons.mp h2 with z | z
          · omega
          · exact (List.pairwise_cons.mp hb).1 x z
        omega
      subst e
      rw [ih (List.Perm.cons_inv h) (List.pairwise_cons.mp ha).2 (List.pairwise_cons.mp hb).2]
theorem sortI_perm (l : List Int) : (sortI l).Perm l := List.mergeSort_perm l _
theorem sortI_up (l : List Int) : (sortI l).Pairwise (· ≤ ·) := by
  have h := List.pairwise_mergeSort (le := fun a b : Int => decide (a ≤ b)) (fun a b c h1 h2 => by simp only [decide_eq_true_eq] at *; omega) (fun a b => by simp only [Bool.or_eq_true, decide_eq_true_eq]; omega) l
  exact h.imp fun h => of_decide_eq_true h
theorem sortI_is {l a : List Int} (h : a.Perm l) (u : a.Pairwise (· ≤ ·)) : a = sortI l := sort_one (h.trans (sortI_perm l).symm) u (sortI_up l)
theorem maxI_fold (r : List Int) : ∀ i : Int, let m := r.foldl (fun a b => if b > a then b else a) i; (m = i ∨ m ∈ r) ∧ i ≤ m ∧ ∀ y ∈ r, y ≤ m := by
  induction r with
  | nil => intro i; exact ⟨.inl rfl, Int.le_refl _, fun y h => nomatch h⟩
  | cons x r ih =>
    intro i
    obtain ⟨h1, h2, h3⟩ := ih (if x > i then x else i)
    rw [List.foldl_cons]
    refine ⟨?_, ?_, ?_⟩
    · rcases h1 with h1 | h1
      · by_cases hx : x > i
        · rw [if_pos hx] at h1 ⊢
          exact .inr (by rw [h1]; exact List.mem_cons_self)
        · rw [if_neg hx] at h1 ⊢
          exact .inl h1
      · exact .inr (List.mem_cons_of_mem _ h1)
    · exact Int.le_trans (by split <;> omega) h2
    · intro y hy
      rcases List.mem_cons.mp hy with e | hy
      · subst e
        exact Int.le_trans (by split <;> omega) h2
      · exact h3 y hy
theorem minI_fold (r : List Int) : ∀ i : Int, let m := r.foldl (fun a b => if b < a then b else a) i; (m = i ∨ m ∈ r) ∧ m ≤ i ∧ ∀ y ∈ r, m ≤ y := by
  induction r with
  | nil => intro i; exact ⟨.inl rfl, Int.le_refl _, fun y h => nomatch h⟩
  | cons x r ih =>
    intro i
    obtain ⟨h1, h2, h3⟩ := ih (if x < i then x else i)
    rw [List.foldl_cons]
    refine ⟨?_, ?_, ?_⟩
    · rcases h1 with h1 | h1
      · by_cases hx : x < i
        · rw [if_pos hx] at h1 ⊢
          exact .inr (by rw [h1]; exact List.mem_cons_self)
        · rw [if_neg hx] at h1 ⊢
          exact .inl h1
      · exact .inr (List.mem_cons_of_mem _ h1)
    · exact Int.le_trans h2 (by split <;> omega)
    · intro y hy
      rcases List.mem_cons.mp hy with e | hy
      · subst e
        exact Int.le_trans h2 (by split <;> omega)
      · exact h3 y hy
theorem maxI_is {l : List Int} {i m : Int} (h : maxI l = some i) (hm : m ∈ l) (hu : ∀ y ∈ l, y ≤ m) : m = i := by
  cases l with
  | nil => cases h
  | cons x r =>
    cases h
    obtain ⟨h1, h2, h3⟩ := maxI_fold r x
    have a : m ≤ r.foldl (fun a b => if b > a then b else a) x := by
      rcases List.mem_cons.mp hm with e | hm
      · rw [e]; exact h2
      · exact h3 m hm
    have b : r.foldl (fun a b => if b > a then b else a) x ≤ m := by
      rcases h1 with h1 | h1
      · rw [h1]; exact hu x List.mem_cons_self
      · exact hu _ (List.mem_cons_of_mem _ h1)
    omega
theorem minI_is {l : List Int} {i m : Int} (h : minI l = some i) (hm : m ∈ l) (hu : ∀ y ∈ l, m ≤ y) : m = i := by
  cases l with
  | nil => cases h
  | cons x r =>
    cases h
    obtain ⟨h1, h2, h3⟩ := minI_fold r x
    have a : r.foldl (fun a b => if b < a then b else a) x ≤ m := by
      rcases List.mem_cons.mp hm with e | hm
      · rw [e]; exact h2
      · exact h3 m hm
    have b : m ≤ r.foldl (fun a b => if b < a then b else a) x := by
      rcases h1 with h1 | h1
      · rw [h1]; exact hu x List.mem_cons_self
      · exact hu _ (List.mem_cons_of_mem _ h1)
    omega
theorem maxI_pos {l : List Int} {i : Int} (h : maxI l = some i) : 0 < l.length := by
  cases l with
  | nil => cases h
  | cons x r => simp
theorem minI_pos {l : List Int} {i : Int} (h : minI l = some i) : 0 < l.length := by
  cases l with
  | nil => cases h
  | cons x r => simp
theorem pairs_of {K : PySem.W.Frag} {H : Hp} : ∀ {xs : List D} {vs : List V} {l : List (Key × D)}, RpA K H xs vs → pairsD xs = some l →
    ∃ (ps : List Addr) (kvs : List (Key × V)), vs = ps.map V.ref ∧ Paired (fun p kv => SqT K H p [kV kv.fst, kv.snd]) ps kvs ∧ KvR K H l kvs
  | [], _, _, .nil, h => by cases h; exact ⟨[], [], rfl, .nil, .nil⟩
  | x :: r, _, l, .cons a b, h => by
    cases a with
    | @tup p us ds s q =>
      cases q with
      | nil => simp [pairsD] at h
      | @cons k ks kv kvs' rk q =>
        cases q with
        | nil => simp [pairsD] at h
        | @cons d ds' dv dvs rd q =>
          cases q with
          | cons _ _ => simp [pairsD] at h
          | nil =>
            cases hk : keyD k with
            | none => simp [pairsD, hk] at h
            | some k' =>
              cases hr : pairsD r with
              | none => simp [pairsD, hk, hr] at h
              | some l' =>
                simp [pairsD, hk, hr] at h
                subst h
                obtain ⟨ps, kvs, e1, e2, e3⟩ := pairs_of b hr
                have ek := keyD_kV rk hk
                subst ek
                exact ⟨p :: ps, (k', dv) :: kvs, by rw [e1]; rfl, .cons (.inl (.inl s)) e2, .cons ⟨rfl, rd⟩ e3⟩
    | _ => simp [pairsD] at h
section
variable {V_ : Nv} {m os : List Addr} {env : Ev} {σ : L2.St} {H H0 H1 : Hp} {Q : VK} {S : Sto}
theorem RpL.one {K : PySem.W.Frag} {r : R} {vs : List V} (h : RpL K m os H [r] vs) : ∃ H0 v, vs = [v] ∧ RpR K m os H0 H r v := by
  cases h with
  | cons a b => cases b; exact ⟨_, _, rfl, a⟩
theorem bi_val {f : Bi} {rs : List R} {r : R} {vs : List V} (rel : Rel V_.K m os env S σ H) (ra : RpL V_.K m os H rs vs) (h : biR S f rs = some r) (q : okE V_ m os env σ H Q r S) : rBi V_.K f vs H Q := by
  unfold biR at h
  split at h
  · -- len
    rename_i x
    obtain ⟨H0, v, rfl, rp⟩ := ra.one
    split at h
    · rename_i xs hd
      cases h
      obtain ⟨a, ws, rfl, s1, p1⟩ := (rp.dat rel.ce hd).list
      exact .inl (.inl ⟨_, xs.length, rfl, .inl ⟨ws, s1, p1.len⟩, q.data rel (.int _)⟩)
    · rename_i xs hd
      cases h
      obtain ⟨a, ws, rfl, s1, p1⟩ := (rp.dat rel.ce hd).tuple
      exact .inl (.inl ⟨_, xs.length, rfl, .inr ⟨ws, s1, p1.len⟩, q.data rel (.int _)⟩)
    · rename_i z hd
      split at h
      · rename_i hl
        cases h
        have e := (rp.dat rel.ce hd).str
        subst e
        exact .inl (.inl ⟨_, z.length, rfl, ⟨hl, rfl⟩, q.data rel (.int _)⟩)
      · cases h
    · cases hd : dic S x with
      | none =>
        rw [hd] at h
        cases ht : dicT S x with
        | none => simp only [ht] at h; cases h
        | some kvs =>
          simp only [ht, Option.map_some] at h
          cases h
          obtain ⟨a, rfl, ws, h1, h2⟩ := rp.dicT rel.ce ht
          have e : kvs.length = ws.length := h2.len
          exact .inr ⟨a, ws, rfl, h1, by rw [← e]; exact q.data rel (.int _)⟩
      | some kvs =>
        rw [hd] at h
        cases h
        obtain ⟨a, rfl, ws, h1, h2⟩ := rp.dic rel.ce hd
        have e : kvs.length = ws.length := h2.len
        exact .inl (.inr ⟨a, ws, rfl, h1, by rw [← e]; exact q.data rel (.int _)⟩)
  · -- int of int
    cases h
    obtain ⟨H0, v, rfl, rp⟩ := ra.one
    cases rp with | p rp => cases rp; exact .inl ⟨_, rfl, q.data rel (.int _)⟩
  · cases h
    obtain ⟨H0, v, rfl, rp⟩ := ra.one
    cases rp with | p rp => cases rp; exact .inr ⟨_, rfl, q.data rel (.int _)⟩
  · -- tuple
    obtain ⟨H0, v, rfl, rp⟩ := ra.one
    split at h
    · rename_i xs hd
      cases h
      obtain ⟨a, ws, rfl, s1, p1⟩ := (rp.dat rel.ce hd).list
      exact ⟨a, ws, rfl, .inl ⟨s1, fun p n => q.newT rel p1 n⟩⟩
    · rename_i xs hd
      cases h
      obtain ⟨a, ws, rfl, s1, p1⟩ := (rp.dat rel.ce hd).tupT
      exact ⟨a, ws, rfl, .inr ⟨.inl (.inl s1), q.data rel (.tup s1 p1)⟩⟩
    · cases h
  · -- list
    obtain ⟨H0, v, rfl, rp⟩ := ra.one
    split at h
    · rename_i xs hd
      cases h
      obtain ⟨a, ws, rfl, s1, p1⟩ := (rp.dat rel.ce hd).list
      exact ⟨a, ws, rfl, .inl s1, fun p n => q.newL rel p1 n⟩
    · rename_i xs hd
      cases h
      obtain ⟨a, ws, rfl, s1, p1⟩ := (rp.dat rel.ce hd).tuple
      exact ⟨a, ws, rfl, .inr s1, fun p n => q.newL rel p1 n⟩
    · cases h
  · -- max2
    cases h
    cases ra with
    | cons a b =>
      obtain ⟨H0, v, rfl, rp⟩ := b.one
      rw [a.isInt, rp.isInt]
      exact ⟨_, _, rfl, q.data rel (.int _)⟩
  · cases h
    cases ra with
    | cons a b =>
      obtain ⟨H0, v, rfl, rp⟩ := b.one
      rw [a.isInt, rp.isInt]
      exact ⟨_, _, rfl, q.data rel (.int _)⟩
  · -- max1
    obtain ⟨H0, v, rfl, rp⟩ := ra.one
    split at h
    · rename_i xs hd
      cases hi : intsD xs with
      | none => rw [hi] at h; cases h
      | some l =>
        rw [hi] at h
        cases hm : maxI l with
        | none => simp only [Option.bind_some, hm] at h; cases h
        | some i =>
          simp only [Option.bind_some, hm] at h
          cases h
          have e := intsD_eq hi
          subst e
          obtain ⟨a, ws, rfl, s1, p1⟩ := (rp.dat rel.ce hd).list
          obtain rfl := p1.ints
          exact ⟨a, l, rfl, s1, maxI_pos hm, fun m' h1 h2 => by rw [maxI_is hm h1 h2]; exact q.data rel (.int _)⟩
    · cases h
  · obtain ⟨H0, v, rfl, rp⟩ := ra.one
    split at h
    · rename_i xs hd
      cases hi : intsD xs with
      | none => rw [hi] at h; cases h
      | some l =>
        rw [hi] at h
        cases hm : minI l with
        | none => simp only [Option.bind_some, hm] at h; cases h
        | some i =>
          simp only [Option.bind_some, hm] at h
          cases h
          have e := intsD_eq hi
          subst e
          obtain ⟨a, ws, rfl, s1, p1⟩ := (rp.dat rel.ce hd).list
          obtain rfl := p1.ints
          exact ⟨a, l, rfl, s1, minI_pos hm, fun m' h1 h2 => by rw [minI_is hm h1 h2]; exact q.data rel (.int _)⟩
    · cases h
  · -- sorted
    rename_i x
    obtain ⟨H0, v, rfl, rp⟩ := ra.one
    split at h
    · rename_i xs hd
      cases hi : intsD xs with
      | none => rw [hi] at h; cases h
      | some l =>
        rw [hi] at h
        cases h
        have e := intsD_eq hi
        subst e
        obtain ⟨a, ws, rfl, s1, p1⟩ := (rp.dat rel.ce hd).list
        obtain rfl := p1.ints
        exact .inl ⟨a, l, rfl, s1, fun ns' p h1 h2 n => by rw [sortI_is h1 h2]; exact q.newL rel (RpA.ofInts _) n⟩
    · cases hd : dic S x with
      | none => rw [hd] at h; cases h
      | some kvs =>
        rw [hd] at h
        cases hi : intsK kvs with
        | none => simp only [Option.bind_some, hi] at h; cases h
        | some l =>
          simp only [Option.bind_some, hi] at h
          split at h
          · rename_i hl
            cases h
            obtain ⟨a, rfl, ws, h1, h2⟩ := rp.dic rel.ce hd
            exact .inr ⟨a, ws, l, rfl, .inl h1, intsK_eq h2 hi, hl, fun ys p h1 h2 n => by rw [sortI_is h1 h2]; exact q.newL rel (RpA.ofInts _) n⟩
          · cases h
  · -- all
    obtain ⟨H0, v, rfl, rp⟩ := ra.one
    split at h
    · rename_i xs hd
      cases hi : boolsD xs with
      | none => rw [hi] at h; cases h
      | some l =>
        rw [hi] at h
        cases h
        have e := boolsD_eq hi
        subst e
        obtain ⟨a, ws, rfl, s1, p1⟩ := (rp.dat rel.ce hd).list
        obtain rfl := p1.bools
        exact ⟨a, l, rfl, s1, q.data rel (.bl _)⟩
    · cases h
  · obtain ⟨H0, v, rfl, rp⟩ := ra.one
    split at h
    · rename_i xs hd
      cases hi : boolsD xs with
      | none => rw [hi] at h; cases h
      | some l =>
        rw [hi] at h
        cases h
        have e := boolsD_eq hi
        subst e
        obtain ⟨a, ws, rfl, s1, p1⟩ := (rp.dat rel.ce hd).list
        obtain rfl := p1.bools
        exact ⟨a, l, rfl, s1, q.data rel (.bl _)⟩
    · cases h
  · -- sum
    obtain ⟨H0, v, rfl, rp⟩ := ra.one
    split at h
    · rename_i xs hd
      cases hi : intsD xs with
      | none => rw [hi] at h; cases h
      | some l =>
        rw [hi] at h
        cases h
        have e := intsD_eq hi
        subst e
        obtain ⟨a, ws, rfl, s1, p1⟩ := (rp.dat rel.ce hd).list
        obtain rfl := p1.ints
        exact ⟨a, l, rfl, s1, q.data rel (.int _)⟩
    · cases h
  · -- abs
    cases h
    obtain ⟨H0, v, rfl, rp⟩ := ra.one
    rw [rp.isInt]
    exact ⟨_, rfl, q.data rel (.int _)⟩
  · -- repr
    obtain ⟨H0, v, rfl, rp⟩ := ra.one
    split at h
    · rename_i d hd
      split at h
      · rename_i hc
        cases h
        have t := rp.dat rel.ce hd
        exact ⟨_, _, rfl, t.dp, hc.1, hc.2.1, hc.2.2.1, hc.2.2.2, q.data rel (.str _)⟩
      · cases h
    · cases h
  · -- dict
    obtain ⟨H0, v, rfl, rp⟩ := ra.one
    split at h
    · rename_i xs hd
      cases hi : pairsD xs with
      | none =>
        rw [hi] at h
        cases hj : pairsT xs with
        | none => simp only [hj] at h; cases h
        | some l =>
          simp only [hj, Option.map_some] at h
          cases h
          obtain ⟨a, ws, rfl, s1, p1⟩ := (rp.dat rel.ce hd).list
          obtain ⟨ps, kvs, e1, e2, e3⟩ := pairsT_of p1 hj
          subst e1
          exact .inr ⟨a, ps, kvs, rfl, s1, e2, fun p n => q.newDT rel (KvR.mergeT e3 .nil) n⟩
      | some l =>
        rw [hi] at h
        cases h
        obtain ⟨a, ws, rfl, s1, p1⟩ := (rp.dat rel.ce hd).list
        obtain ⟨ps, kvs, e1, e2, e3⟩ := pairs_of p1 hi
        subst e1
        exact .inl ⟨a, ps, kvs, rfl, s1, e2, fun p n => q.newD rel (KvR.merge e3 .nil) n⟩
    · cases h
  · cases h
end
end Vy
set_option Elab.async false
set_option linter.all false
set_option maxRecDepth 100000
set_option maxHeartbeats 4000000
namespace Vy
open PySem PySem.Spec L2 PyProof.Rows
/-! ### xs[::-1] -/
section
variable {prog : Program} {w : World} {A : Around} {E : Value → Shared → Prop} {s : Shared}
theorem places_rev (n : Nat) : Builtin.Slice.slicePlaces ((n : Int) - 1) (-1) (-1) = n := by
  unfold Builtin.Slice.slicePlaces
  rw [if_neg (by decide)]
  by_cases h : (n : Int) - 1 > -1
  · rw [if_pos h]
    have : ((n : Int) - 1 - -1 - 1) / (- -1) + 1 = (n : Int) := by
      rw [Int.neg_neg, Int.ediv_one]
      omega
    rw [this]
    omega
  · rw [if_neg h]
    omega
theorem sliceApplied_rev {sl : Addr} {vs : Value} {n : Nat} {Q : Int × Int × Nat → Shared → Prop} (hs : s.heap.IsSliceOf sl .none .none vs) (p : IsPart vs (some (-1)))
    (h : Q ((n : Int) - 1, -1, n) s) : wpAny (model prog w) A (Builtin.Slice.sliceApplied (.ref sl) (pure (n : Int))) Q E s := by
  obtain ⟨os, hos, hcs, hds⟩ := id hs
  unfold Builtin.Slice.sliceApplied Builtin.Slice.sliceFields
  refine wpAny_bind (wpAny_bind (wpAny_field hos hds (x := .none) rfl (wpAny_bind (wpAny_field hos hds (x := .none) rfl (wpAny_bind (wpAny_field hos hds (x := vs) rfl (wpAny_pure ?_)))))))
  refine wpAny_bind (HT.slicePart_ p ?_)
  show wpAny _ _ (if ((-1 : Int) == 0) = true then _ else _) _ _ s
  rw [if_neg (by decide)]
  refine wpAny_bind (slicePart_none (wpAny_bind (slicePart_none (wpAny_bind (wpAny_pure ?_)))))
  show wpAny _ _ (pure ((n : Int) - 1, (-1 : Int), Builtin.Slice.slicePlaces ((n : Int) - 1) (-1) (-1))) _ _ s
  rw [places_rev]
  exact wpAny_pure h
theorem fm_cong {α β : Type} {f g : α → Option β} : ∀ {l : List α}, (∀ x ∈ l, f x = g x) → l.filterMap f = l.filterMap g
  | [], _ => rfl
  | a :: r, h => by rw [List.filterMap_cons, List.filterMap_cons, h a List.mem_cons_self, fm_cong fun x hx => h x (List.mem_cons_of_mem _ hx)]
theorem fm_range {α : Type} : ∀ l : List α, ((List.range l.length).filterMap fun m => l[m]?) = l
  | [] => rfl
  | a :: r => by
    rw [List.length_cons, List.range_succ_eq_map, List.filterMap_cons]
    simp only [List.getElem?_cons_zero, List.filterMap_map]
    congr 1
    exact fm_range r
theorem pick_rev (xs : Array Value) : ((List.range xs.size).filterMap fun (m : Nat) => xs[(((xs.size : Int) - 1) + (m : Int) * (-1)).toNat]?).toArray = xs.toList.reverse.toArray := by
  congr 1
  have e : ∀ m ∈ List.range xs.size, xs[(((xs.size : Int) - 1) + (m : Int) * (-1)).toNat]? = (xs.toList.reverse)[m]? := fun m hm => by
    have hm := List.mem_range.mp hm
    have : (((xs.size : Int) - 1) + (m : Int) * (-1)).toNat = xs.size - 1 - m := by omega
    rw [this, List.getElem?_reverse (by simpa using hm)]
    simp
  rw [fm_cong e]
  have : xs.size = xs.toList.reverse.length := by simp
  rw [this]
  exact fm_range _
theorem getItem_tuple_rev {t sl : Addr} {items : Array Value} {vs : Value} {Q : Value → Shared → Prop} (ht : IsTup s.heap t items) (hs : s.heap.IsSliceOf sl .none .none vs) (p : IsPart vs (some (-1)))
    (h : Q (.ref s.heap.objs.size) { s with heap := s.heap.push { cls := .type "tuple", data := .seq items.toList.reverse.toArray } })
    (hsz : items.size ≤ sizeLine) : wpAny (model prog w) A (getItem (.ref t) (.ref sl)) Q E s := by
  have htake : sizeOk (.seq items.toList.reverse.toArray) := by
    show items.toList.reverse.toArray.size ≤ sizeLine
    simpa using hsz
  obtain ⟨os, hos, hcs, hds⟩ := id hs
  have hTs : s.TypeIs (.ref sl) "slice" := ⟨os, hos, hcs⟩
  unfold getItem
  try with_reducible refine wpAny_holding ?_
  first | refine wpAny_bind (wpAny_pure ?_) | skip
  refine wpAny_bind (wpAny_sequenceKey ht.typeIs (by decide) ?_)
  refine wpAny_bind (wpAny_callSpecial?_slot (name := Str.ofString "__getitem__") ht.typeIs PyProof.Rows.slot_tuple_getitem
    (wpAny_call_entry PyProof.Rows.slot_tuple_getitem ht.typeIs entry_tuple_getitem ?_ (args_tuple_getitem _ _)))
  show wpAny _ _ (Builtin.Tuple.tupleItemsOf (.ref t) >>= _) _ _ s
  refine wpAny_bind (tupleItemsOf_ ht ?_)
  refine wpAny_bind (wpAny_typeOf hTs ?_)
  rw [if_pos (by decide)]
  refine wpAny_bind (sliceApplied_rev hs p ?_)
  have hno : ¬ ((((items.size : Int) - 1) == 0 && (-1 : Int) == 1 && items.size == items.size) = true) := by
    intro q
    rw [Bool.and_eq_true, Bool.and_eq_true] at q
    exact absurd q.1.2 (by decide)
  show wpAny _ _ (if (((items.size : Int) - 1) == 0 && (-1 : Int) == 1 && items.size == items.size) = true then _ else _) _ _ s
  rw [if_neg hno, pick_rev]
  first
    | exact wpAny_bind (m := Builtin.Tuple.tupleExact _) (wpAny_newObj_type (wpAny_pure ⟨_, rfl, wpAny_pure h⟩) htake)
    | exact wpAny_bind (m := Builtin.Tuple.tupleExact _) (wpAny_newObj_type (wpAny_bind (wpAny_pure (wpAny_pure ⟨_, rfl, wpAny_pure h⟩))) htake)
    | exact wpAny_bind (wpAny_bind (m := Builtin.Tuple.tupleExact _) (wpAny_newObj_type (wpAny_pure (wpAny_pure ⟨_, rfl, wpAny_pure h⟩)) htake))
    | exact wpAny_bind (wpAny_bind (m := Builtin.Tuple.tupleExact _) (wpAny_newObj_type (wpAny_pure ⟨_, rfl, wpAny_pure h⟩) htake))
theorem slicePick_rev (items : Array Value) : slicePick items none none (some (-1)) = items.toList.reverse.toArray := by
  unfold slicePick
  congr 1
  have e : (sliceBounds none none (some (-1)) items.size) = ((items.size : Int) - 1, -1, -1) := by
    simp [sliceBounds]
  rw [e]
  have e2 : sliceRange ((items.size : Int) - 1) (-1) (-1) = (List.range items.size).map fun (k : Nat) => (((items.size : Int) - 1) + (-1) * (k : Int)).toNat := by
    unfold sliceRange
    rw [if_neg (by decide)]
    by_cases h : (items.size : Int) - 1 > -1
    · rw [if_pos h]
      have : ((items.size : Int) - 1 - -1 - -1 - 1) / (- -1) = (items.size : Int) := by
        rw [Int.neg_neg, Int.ediv_one]
        omega
      rw [this]
      rfl
    · rw [if_neg h]
      have : items.size = 0 := by omega
      rw [this]
      rfl
  rw [e2, List.filterMap_map]
  have e3 : ∀ m ∈ List.range items.size, ((items[·]?) ∘ fun (k : Nat) => (((items.size : Int) - 1) + (-1) * (k : Int)).toNat) m = (items.toList.reverse)[m]? := fun m hm => by
    have hm := List.mem_range.mp hm
    show items[(((items.size : Int) - 1) + (-1) * (m : Int)).toNat]? = _
    have : (((items.size : Int) - 1) + (-1) * (m : Int)).toNat = items.size - 1 - m := by omega
    rw [this, List.getElem?_reverse (by simpa using hm)]
    simp
  rw [fm_cong e3]
  have : items.size = items.toList.reverse.length := by simp
  rw [this]
  exact fm_range _
end
/-- xs[::-1] by values -/
def rRev (K : PySem.W.Frag) : V → Hp → VK → Prop := fun x H Q => (∃ a xs, x = .ref a ∧ SqL K H a xs ∧ ∀ p, H p = none → Q (.ref p) (upd H p (.lst xs.reverse))) ∨ ∃ a xs, x = .ref a ∧ SqT K H a xs ∧ ∀ p, H p = none → Q (.ref p) (upd H p (.tup xs.reverse))
theorem Paired.rev {α β : Type} {r : α → β → Prop} {xs : List α} {ys : List β} (h : Paired r xs ys) : Paired r xs.reverse ys.reverse := by
  induction h with
  | nil => exact .nil
  | cons a _ ih => rw [List.reverse_cons, List.reverse_cons]; exact Paired.snoc ih a
theorem sl_rev {X : Cx} (pins : List (Addr × Obj)) (s : Shared) (σ : L2.St) (H : Hp) (x : V) (v vs : Value) (sl : Addr) (Q : VK) (I : L2.Inv X pins σ H s) (rx : RelV x v) (hs : s.heap.IsSliceOf sl .none .none vs) (p : IsPart vs (some (-1))) (h : rRev X.K x H Q) :
    ∃ T id, typeLookup (.type T) "__getitem__" = pure (some (.builtin id)) ∧ s.TypeIs v T ∧ wpAny (model X.prog X.w) X.A (getItem v (.ref sl)) (EP X pins σ Q) X.xe s := by
  rcases h with ⟨a, xs, rfl, hx, q⟩ | ⟨a, xs, rfl, hx, q⟩
  · cases rx
    obtain ⟨its, r, ht, hz⟩ := I.list hx
    have hlen := r.length
    refine ⟨"list", _, slot_list_getitem.lookup, ht.isList.typeIs, ?_⟩
    refine wpAny_getItem_list_slice ht.isList hs .none .none p (by simp) ?_ (by rw [List.size_toArray] <;> omega)
    rw [slicePick_rev]
    refine ⟨.ref s.heap.objs.size, _, I.laid (t' := s.toks) (o := .lst xs.reverse) (fun b ob q => Heap.get?_push_of_some _ q) (Nat.le_refl _) ?_, rfl, q _ (I.hok.fresh (Nat.le_refl _))⟩
    exact ⟨by rw [List.length_reverse]; exact hz, _, 0, Paired.rev r, Heap.get?_push_size _ rfl⟩
  · cases rx
    obtain ⟨its, r, ht, hz⟩ := I.tuple hx
    refine ⟨"tuple", _, PyProof.Rows.slot_tuple_getitem.lookup, ht.typeIs, ?_⟩
    refine getItem_tuple_rev ht hs p ?_ (by rw [List.size_toArray, ← r.length]; exact hz)
    refine ⟨.ref s.heap.objs.size, _, I.laid (t' := s.toks) (o := .tup xs.reverse) (fun b ob q => Heap.get?_push_of_some _ q) (Nat.le_refl _) ?_, rfl, q _ (I.hok.fresh (Nat.le_refl _))⟩
    exact ⟨by rw [List.length_reverse]; exact hz, _, Paired.rev r, IsTup.new _ _⟩
theorem pe_rev {X : Cx} {e : Expr} {te : TE} {k : Nat} {p1 p2 p3 pos : Pos} (he : PE X e te) : PE X (.Subscript e (.Slice none none (some (.UnaryOp .USub (.Constant (.int 1) k p3) p1)) p2) pos) (fun σ H Q => te σ H fun x H1 => rRev X.K x H1 Q) := by
  refine ⟨fun pins s σ H Q I h => ?_⟩
  refine Subscript_ (thn (he.run pins s σ H _ I h) fun v s1 ⟨x, H1, I1, r1, q1⟩ => ?_)
  refine wpAny_Slice ?_
  rw [evalPart_none]
  refine wpAny_pure ?_
  refine wpAny_pure ?_
  rw [evalPart_some]
  refine thn ((pe_un un_neg (pe_int (X := X) (pos := p3))).run pins s1 σ H1 (fun y H2 => y = .int (-1) ∧ H2 = H1) I1 ⟨1, rfl, rfl, rfl⟩) fun vs s3 ⟨y, H3, I3, pu, e1, e2⟩ => ?_
  subst e1 e2
  obtain ⟨t, rfl⟩ := pu
  have I4 : L2.Inv X pins σ H3 { s3 with heap := s3.heap.push { cls := .type "slice", data := .fields #[.none, .none, .int (-1) t] } } := I3.kept (t' := s3.toks) fun b ob q => Heap.get?_push_of_some _ q
  obtain ⟨T, id, hT, ht, hg⟩ := sl_rev pins { s3 with heap := s3.heap.push { cls := .type "slice", data := .fields #[.none, .none, .int (-1) t] } } σ H3 x v _ s3.heap.objs.size Q I4 r1 (Heap.IsSliceOf.new ..) (.int (-1) t) q1
  show wpAny (model X.prog X.w) X.A (subscriptTail e (.Slice none none _ p2) v (.ref s3.heap.objs.size)) (EP X pins σ Q) X.xe { s3 with heap := s3.heap.push { cls := .type "slice", data := .fields #[.none, .none, .int (-1) t] } }
  exact tail_any (ops := [v, .ref s3.heap.objs.size]) ht hT hg (by with_unfolding_all rfl)
end Vy
set_option Elab.async false
set_option linter.all false
set_option maxRecDepth 100000
set_option maxHeartbeats 4000000
namespace Vy
open PySem PySem.Spec L2 PyProof.Rows
/-! ### tuple(zip(xs, ys)): the pairs are held -/
section
variable {prog : Program} {w : World} {A : Around} {E : Value → Shared → Prop} {s : Shared} {z TI TO T i1 i2 : Addr} {fp1 fp2 : List Addr} {n1 n2 i : Nat} {P1 P2 : Nat → Value → Prop} {St1 St2 : Nat → Heap → Prop} {f : Bool} {oT : Obj}
theorem zipH_next_item {Q : Value → Shared → Prop} (S : ZipSep2 z TI TO i1 i2 fp1 fp2) (D1 : Draws prog w A i1 fp1 n1 P1 St1) (D2 : Draws prog w A i2 fp2 n2 P2 St2)
    (hz : IsZipHeld s.heap z TI TO T f) (hT : s.heap.get? T = some oT) (hTI : IsTupOf2 s.heap TI (.ref i1) (.ref i2)) (st1 : St1 i s.heap) (st2 : St2 i s.heap) (hlt1 : i < n1) (hlt2 : i < n2)
    (hQ : ∀ x1 x2 h' tk, P1 i x1 → P2 i x2 → IsZipHeld h' z TI TO T true → St1 (i + 1) h' → St2 (i + 1) h' → IsTupOf2 h' s.heap.objs.size x1 x2 → h'.objs.size = s.heap.objs.size + 1 →
      (∀ c o, c ≠ z → c ≠ i1 → c ≠ i2 → s.heap.get? c = some o → h'.get? c = some o) → Q (.ref s.heap.objs.size) { s with heap := h', toks := tk }) :
    wpAny (model prog w) A (Builtin.«zip.__next__» ⟨[.ref z], []⟩) (fun fin s' => ∃ v, fin = .done (.ret v) ∧ Q v s') E s := by
  obtain ⟨hp, g, d, tk0, os⟩ := s
  show wpAny _ _ (field (.ref z) 2 >>= _) _ _ _
  refine wpAny_bind (wpAny_field hz rfl (x := .bool false) rfl ?_)
  show wpAny _ _ (field (.ref z) 3 >>= _) _ _ _
  refine wpAny_bind (wpAny_field hz rfl (x := .ref TI) rfl ?_)
  refine wpAny_bind (wpAny_seqItems hTI rfl ?_)
  show wpAny _ _ (Builtin.SmallTypes.ownedTupleIsFree (.ref z) >>= _) _ _ _
  refine wpAny_bind (wpAny_tupleHeld_zip hz hT fun g0 hz0 hs0 => ?_)
  replace hs0 : Heap.SameBut z hp g0 := hs0
  simp only [Bool.false_eq_true, if_false]
  refine wpAny_bind ?_
  rw [← Array.forIn_toList]
  simp only [List.forIn_cons, List.forIn_nil]
  refine wpAny_bind (wpAny_bind (wpAny_holding ?_))
  show wpAny _ _ (Builtin.SmallTypes.nextOf (.ref i1) >>= _) _ _ ⟨g0, g, d, tk0, os⟩
  refine wpAny_bind (D1.item i _ _ _ hlt1 (D1.over st1 hs0 S.zf1) fun x1 p1 tk1 hx1 sn1 hp1 => wpAny_pure ?_)
  replace hp1 : Heap.SameBut i1 g0 p1 := hp1
  refine wpAny_pure ?_
  refine wpAny_bind (wpAny_bind (wpAny_holding ?_))
  show wpAny _ _ (Builtin.SmallTypes.nextOf (.ref i2) >>= _) _ _ ⟨p1, g, d, tk1, os⟩
  refine wpAny_bind (D2.item i _ _ _ hlt2 (D2.over (D2.over st2 hs0 S.zf2) hp1 S.sep1_2) fun x2 p2 tk2 hx2 sn2 hp2 => wpAny_pure ?_)
  replace hp2 : Heap.SameBut i2 p1 p2 := hp2
  refine wpAny_pure (wpAny_pure ?_)
  show wpAny _ _ (newTuple [x1, x2] >>= _) _ _ _
  refine wpAny_bind (wpAny_newTuple ?_)
  have hsz : p2.objs.size = hp.objs.size := by rw [hp2.1, hp1.1, hs0.1]
  have hzz : IsZipHeld p2 z TI TO T true := hp2.extBut _ _ S.zi2 (hp1.extBut _ _ S.zi1 hz0)
  have hkk : ∀ c o, c ≠ z → c ≠ i1 → c ≠ i2 → hp.get? c = some o → p2.get? c = some o := fun c o cz c1 c2 e => hp2.extBut _ _ c2 (hp1.extBut _ _ c1 (hs0.extBut _ _ cz e))
  have hj1 : St1 (i + 1) p2 := D1.over sn1 hp2 S.sep2_1
  refine wpAny_pure ⟨_, rfl, ?_⟩
  show Q (.ref p2.objs.size) ⟨p2.push { cls := .type "tuple", data := .seq #[x1, x2] }, g, d, tk2, os⟩
  have hTp : IsTupOf2 (p2.push { cls := .type "tuple", data := .seq #[x1, x2] }) p2.objs.size x1 x2 := Heap.get?_push_size _ rfl
  have hz4 : (p2.push { cls := .type "tuple", data := .seq #[x1, x2] }).objs.size = p2.objs.size + 1 := Heap.size_push ..
  rw [hsz] at hTp hz4 ⊢
  exact hQ x1 x2 _ tk2 hx1 hx2 (Heap.get?_push_of_some _ hzz) (D1.frame _ _ _ hj1 fun b hb o e => Heap.get?_push_of_some _ e) (D2.frame _ _ _ sn2 fun b hb o e => Heap.get?_push_of_some _ e) hTp hz4 fun c o cz c1 c2 e => Heap.get?_push_of_some _ (hkk c o cz c1 c2 e)
theorem zipH_next_end {Q : Fin → Shared → Prop} (S : ZipSep2 z TI TO i1 i2 fp1 fp2) (D1 : Draws prog w A i1 fp1 n1 P1 St1) (D2 : Draws prog w A i2 fp2 n2 P2 St2)
    (hz : IsZipHeld s.heap z TI TO T f) (hT : s.heap.get? T = some oT) (hTI : IsTupOf2 s.heap TI (.ref i1) (.ref i2)) (st1 : St1 i s.heap) (st2 : St2 i s.heap) (hle1 : i ≤ n1) (hle2 : i ≤ n2) (hend : i = n1 ∨ i = n2)
    (hE : ∀ h' tk e, (∀ c o, c ≠ z → c ≠ i1 → c ≠ i2 → s.heap.get? c = some o → h'.get? c = some o) → (∃ o, h'.get? e = some o ∧ o.cls = .type "StopIteration") → E (.ref e) { s with heap := h', toks := tk }) :
    wpAny (model prog w) A (Builtin.«zip.__next__» ⟨[.ref z], []⟩) Q E s := by
  obtain ⟨hp, g, d, tk0, os⟩ := s
  show wpAny _ _ (field (.ref z) 2 >>= _) _ _ _
  refine wpAny_bind (wpAny_field hz rfl (x := .bool false) rfl ?_)
  show wpAny _ _ (field (.ref z) 3 >>= _) _ _ _
  refine wpAny_bind (wpAny_field hz rfl (x := .ref TI) rfl ?_)
  refine wpAny_bind (wpAny_seqItems hTI rfl ?_)
  show wpAny _ _ (Builtin.SmallTypes.ownedTupleIsFree (.ref z) >>= _) _ _ _
  refine wpAny_bind (wpAny_tupleHeld_zip hz hT fun g0 hz0 hs0 => ?_)
  replace hs0 : Heap.SameBut z hp g0 := hs0
  simp only [Bool.false_eq_true, if_false]
  refine wpAny_bind ?_
  rw [← Array.forIn_toList]
  simp only [List.forIn_cons, List.forIn_nil]
  refine wpAny_bind (wpAny_bind (wpAny_holding ?_))
  show wpAny _ _ (Builtin.SmallTypes.nextOf (.ref i1) >>= _) _ _ ⟨g0, g, d, tk0, os⟩
  by_cases hlt1 : i < n1
  · refine wpAny_bind (D1.item i _ _ _ hlt1 (D1.over st1 hs0 S.zf1) fun x1 p1 tk1 hx1 sn1 hp1 => wpAny_pure ?_)
    replace hp1 : Heap.SameBut i1 g0 p1 := hp1
    have hi2 : i = n2 := by omega
    refine wpAny_pure ?_
    refine wpAny_bind (wpAny_bind (wpAny_holding ?_))
    show wpAny _ _ (Builtin.SmallTypes.nextOf (.ref i2) >>= _) _ _ ⟨p1, g, d, tk1, os⟩
    refine wpAny_bind (D2.done ⟨p1, g, d, tk1, os⟩ _ _ (by rw [← hi2]; exact (D2.over (D2.over st2 hs0 S.zf2) hp1 S.sep1_2)) fun q e hq he => ?_)
    replace hq : Heap.ExtBut i2 p1 q := hq
    exact hE q tk1 e (fun c o cz c1 c2 x => hq _ _ c2 (hp1.extBut _ _ c1 (hs0.extBut _ _ cz x))) he
  · have hi1 : i = n1 := by omega
    refine wpAny_bind (D1.done ⟨g0, g, d, tk0, os⟩ _ _ (by rw [← hi1]; exact (D1.over st1 hs0 S.zf1)) fun q e hq he => ?_)
    replace hq : Heap.ExtBut i1 g0 q := hq
    exact hE q tk0 e (fun c o cz c1 c2 x => hq _ _ c1 (hs0.extBut _ _ cz x)) he
end
end Vy
set_option Elab.async false
set_option linter.all false
set_option maxRecDepth 100000
set_option maxHeartbeats 4000000
namespace Vy
open PySem PySem.Spec L2 PyProof.Rows
section
variable {prog : Program} {w : World} {A : Around} {E : Value → Shared → Prop} {s : Shared} {z TI TO T i1 i2 : Addr} {fp1 fp2 : List Addr} {n1 n2 i : Nat} {P1 P2 : Nat → Value → Prop} {St1 St2 : Nat → Heap → Prop} {f : Bool} {oT : Obj}
theorem pyNext_zipH_item {Q : Option Value → Shared → Prop} (S : ZipSep2 z TI TO i1 i2 fp1 fp2) (D1 : Draws prog w A.in1 i1 fp1 n1 P1 St1) (D2 : Draws prog w A.in1 i2 fp2 n2 P2 St2)
    (hz : IsZipHeld s.heap z TI TO T f) (hT : s.heap.get? T = some oT) (hTI : IsTupOf2 s.heap TI (.ref i1) (.ref i2)) (st1 : St1 i s.heap) (st2 : St2 i s.heap) (hlt1 : i < n1) (hlt2 : i < n2)
    (hQ : ∀ x1 x2 h' tk, P1 i x1 → P2 i x2 → IsZipHeld h' z TI TO T true → St1 (i + 1) h' → St2 (i + 1) h' → IsTupOf2 h' s.heap.objs.size x1 x2 → h'.objs.size = s.heap.objs.size + 1 →
      (∀ c o, c ≠ z → c ≠ i1 → c ≠ i2 → s.heap.get? c = some o → h'.get? c = some o) → Q (some (.ref s.heap.objs.size)) { s with heap := h', toks := tk }) :
    wpAny (model prog w) A (pyNext (.ref z)) Q E s := by
  have hTy : s.TypeIs (.ref z) "zip" := ⟨_, hz, rfl⟩
  unfold pyNext
  exact wpAny_bind (wpAny_attempt (wpAny_callSpecial?_slot (name := Str.ofString "__next__") hTy F.slot_zip_next
    (wpAny_call_entry F.slot_zip_next hTy F.entry_zip_next
      (zipH_next_item S D1 D2 hz hT hTI st1 st2 hlt1 hlt2 fun x1 x2 h' tk y1 y2 b1 d1 d2 b5 b6 b7 => wpAny_pure (hQ x1 x2 h' tk y1 y2 b1 d1 d2 b5 b6 b7)) (F.args_zip_next_1 _))))
theorem pyNext_zipH_end {Q : Option Value → Shared → Prop} (S : ZipSep2 z TI TO i1 i2 fp1 fp2) (D1 : Draws prog w A.in1 i1 fp1 n1 P1 St1) (D2 : Draws prog w A.in1 i2 fp2 n2 P2 St2)
    (hz : IsZipHeld s.heap z TI TO T f) (hT : s.heap.get? T = some oT) (hTI : IsTupOf2 s.heap TI (.ref i1) (.ref i2)) (st1 : St1 i s.heap) (st2 : St2 i s.heap) (hle1 : i ≤ n1) (hle2 : i ≤ n2) (hend : i = n1 ∨ i = n2)
    (hQ : ∀ h' tk, (∀ c o, c ≠ z → c ≠ i1 → c ≠ i2 → s.heap.get? c = some o → h'.get? c = some o) → Q none { s with heap := h', toks := tk }) :
    wpAny (model prog w) A (pyNext (.ref z)) Q E s := by
  have hTy : s.TypeIs (.ref z) "zip" := ⟨_, hz, rfl⟩
  unfold pyNext
  refine wpAny_bind (wpAny_attempt (wpAny_callSpecial?_slot (name := Str.ofString "__next__") hTy F.slot_zip_next
    (wpAny_call_entry F.slot_zip_next hTy F.entry_zip_next (zipH_next_end S D1 D2 hz hT hTI st1 st2 hle1 hle2 hend fun h' tk e hk he => ?_) (F.args_zip_next_1 _))))
  obtain ⟨o, ho, hc⟩ := he
  refine wpAny_bind (wpAny_isInstance (T := "StopIteration") (b := true) ⟨o, ho, hc⟩ isSubtype_stop ?_)
  exact wpAny_pure (hQ _ _ hk)
end
/-- the pairs so far: new tuples, in the order in which they were made -/
structure ZAcc (h : Heap) (b : Nat) (P1 P2 : Nat → Value → Prop) (Ts : List Addr) (ws : List (Value × Value)) : Prop where
  at_ : Paired (fun T q => IsTupOf2 h T q.1 q.2) Ts ws
  nd : Ts.Nodup
  lo : ∀ T ∈ Ts, b ≤ T
  hi : ∀ T ∈ Ts, T < h.objs.size
  it : ∀ j q, ws[j]? = some q → P1 j q.1 ∧ P2 j q.2
theorem ZAcc.keep {h h' : Heap} {b : Nat} {P1 P2 : Nat → Value → Prop} {Ts : List Addr} {ws : List (Value × Value)} (z : ZAcc h b P1 P2 Ts ws) (k : ∀ c o, b ≤ c → h.get? c = some o → h'.get? c = some o) (hs : h.objs.size ≤ h'.objs.size) : ZAcc h' b P1 P2 Ts ws := by
  refine ⟨?_, z.nd, z.lo, fun T hT => Nat.lt_of_lt_of_le (z.hi T hT) hs, z.it⟩
  have lo := z.lo
  have a := z.at_
  clear z
  induction a with
  | nil => exact .nil
  | cons r t ih => exact .cons (k _ _ (lo _ List.mem_cons_self) r) (ih fun T hT => lo T (List.mem_cons_of_mem _ hT))
theorem ZAcc.push {h : Heap} {b : Nat} {P1 P2 : Nat → Value → Prop} {Ts : List Addr} {ws : List (Value × Value)} (z : ZAcc h b P1 P2 Ts ws) {T : Addr} {x1 x2 : Value} (e : IsTupOf2 h T x1 x2) (n : T ∉ Ts) (lo : b ≤ T) (p1 : P1 ws.length x1) (p2 : P2 ws.length x2) :
    ZAcc h b P1 P2 (Ts ++ [T]) (ws ++ [(x1, x2)]) := by
  refine ⟨Paired.snoc z.at_ e, ?_, fun t ht => ?_, fun t ht => ?_, fun j q hq => ?_⟩
  · rw [List.nodup_append]
    exact ⟨z.nd, by simp, fun a ha c hc => by rw [List.mem_singleton.mp hc]; exact fun e => n (by rw [← e]; exact ha)⟩
  · rcases List.mem_append.mp ht with ht | ht
    · exact z.lo t ht
    · rw [List.mem_singleton.mp ht]; exact lo
  · rcases List.mem_append.mp ht with ht | ht
    · exact z.hi t ht
    · rw [List.mem_singleton.mp ht]; exact Heap.lt_size e
  · by_cases hj : j < ws.length
    · rw [List.getElem?_append_left hj] at hq
      exact z.it j q hq
    · rw [List.getElem?_append_right (by omega)] at hq
      have : j - ws.length = 0 := by
        rcases Nat.eq_zero_or_pos (j - ws.length) with h | h
        · exact h
        · rw [List.getElem?_eq_none (by simp; omega)] at hq
          cases hq
      rw [this] at hq
      cases hq
      have : j = ws.length := by omega
      subst this
      exact ⟨p1, p2⟩
end Vy
set_option Elab.async false
set_option linter.all false
set_option maxRecDepth 100000
set_option maxHeartbeats 4000000
namespace Vy
open PySem PySem.Spec L2 PyProof.Rows
theorem nolen_zip : typeLookup (.type "zip") "__len__" = pure none := by rw [typeLookup_type, builtinLookup_eq_fast]; kernel_rfl
theorem nohint_zip : typeLookup (.type "zip") "__length_hint__" = pure none := by rw [typeLookup_type, builtinLookup_eq_fast]; kernel_rfl
theorem ne_lo {a z b : Nat} (h : z < b) (l : b ≤ a) : a ≠ z := by omega
/-- the zip's own state: fresh, or its first tuple is out and alive -/
def ZSt (h : Heap) (z TI TO : Addr) (Ts : List Addr) : Prop := (Ts = [] ∧ IsZip h z TI TO .none ∧ ∃ a1 a2, IsTupOf2 h TO a1 a2) ∨ ∃ T f, T ∈ Ts ∧ IsZipHeld h z TI TO T f
section
variable {prog : Program} {w : World} {A : Around} {E : Value → Shared → Prop} {s : Shared} {z TI TO i1 i2 : Addr} {fp1 fp2 : List Addr} {n1 n2 i : Nat} {P1 P2 : Nat → Value → Prop} {St1 St2 : Nat → Heap → Prop} {a1 a2 : Value}
theorem RT_next_item {Q : Option Value → Shared → Prop} (S : ZipSep2 z TI TO i1 i2 fp1 fp2) (D1 : Draws prog w A.in1 i1 fp1 n1 P1 St1) (D2 : Draws prog w A.in1 i2 fp2 n2 P2 St2)
    (hz : IsZip s.heap z TI TO .none) (hTI : IsTupOf2 s.heap TI (.ref i1) (.ref i2)) (hTO : IsTupOf2 s.heap TO a1 a2) (st1 : St1 i s.heap) (st2 : St2 i s.heap) (hlt1 : i < n1) (hlt2 : i < n2)
    (hQ : ∀ x1 x2 h' tk, P1 i x1 → P2 i x2 → IsZipHeld h' z TI TO s.heap.objs.size false → St1 (i + 1) h' → St2 (i + 1) h' → IsTupOf2 h' s.heap.objs.size x1 x2 → h'.objs.size = s.heap.objs.size + 1 →
      (∀ c o, c ≠ z → c ≠ TO → c ≠ i1 → c ≠ i2 → s.heap.get? c = some o → h'.get? c = some o) → Q (some (.ref s.heap.objs.size)) { s with heap := h', toks := tk }) :
    wpAny (model prog w) A (pyNext (.ref z)) Q E s := by
  have hTy : s.TypeIs (.ref z) "zip" := ⟨_, hz, rfl⟩
  unfold pyNext
  exact wpAny_bind (wpAny_attempt (wpAny_callSpecial?_slot (name := Str.ofString "__next__") hTy F.slot_zip_next
    (wpAny_call_entry F.slot_zip_next hTy F.entry_zip_next
      (zipD2_next_item S D1 D2 hz hTI hTO st1 st2 hlt1 hlt2 fun x1 x2 h' tk y1 y2 b1 _ d1 d2 b5 b6 b7 => wpAny_pure (hQ x1 x2 h' tk y1 y2 b1 d1 d2 b5 b6 b7)) (F.args_zip_next_1 _))))
theorem RT_next_end {Q : Option Value → Shared → Prop} (S : ZipSep2 z TI TO i1 i2 fp1 fp2) (D1 : Draws prog w A.in1 i1 fp1 n1 P1 St1) (D2 : Draws prog w A.in1 i2 fp2 n2 P2 St2)
    (hz : IsZip s.heap z TI TO .none) (hTI : IsTupOf2 s.heap TI (.ref i1) (.ref i2)) (hTO : IsTupOf2 s.heap TO a1 a2) (st1 : St1 i s.heap) (st2 : St2 i s.heap) (hle1 : i ≤ n1) (hle2 : i ≤ n2) (hend : i = n1 ∨ i = n2)
    (hQ : ∀ h' tk, (∀ c o, c ≠ z → c ≠ TO → c ≠ i1 → c ≠ i2 → s.heap.get? c = some o → h'.get? c = some o) → Q none { s with heap := h', toks := tk }) :
    wpAny (model prog w) A (pyNext (.ref z)) Q E s := by
  have hTy : s.TypeIs (.ref z) "zip" := ⟨_, hz, rfl⟩
  unfold pyNext
  refine wpAny_bind (wpAny_attempt (wpAny_callSpecial?_slot (name := Str.ofString "__next__") hTy F.slot_zip_next
    (wpAny_call_entry F.slot_zip_next hTy F.entry_zip_next (zipD2_next_end S D1 D2 hz hTI hTO st1 st2 hle1 hle2 hend fun h' tk e hk he => ?_) (F.args_zip_next_1 _))))
  obtain ⟨o, ho, hc⟩ := he
  refine wpAny_bind (wpAny_isInstance (T := "StopIteration") (b := true) ⟨o, ho, hc⟩ isSubtype_stop ?_)
  exact wpAny_pure (hQ _ _ hk)
end
section
variable {prog : Program} {w : World} {A : Around} {z TI TO i1 i2 : Addr} {fp1 fp2 : List Addr} {n1 n2 : Nat} {P1 P2 : Nat → Value → Prop} {St1 St2 : Nat → Heap → Prop}
theorem ZAcc.alive {h : Heap} {b : Nat} {Ts : List Addr} {ws : List (Value × Value)} (z : ZAcc h b P1 P2 Ts ws) {T : Addr} (hT : T ∈ Ts) : ∃ o, h.get? T = some o := by
  have a := z.at_
  clear z
  induction a with
  | nil => cases hT
  | cons r t ih =>
    rcases List.mem_cons.mp hT with e | hT
    · subst e; exact ⟨_, r⟩
    · exact ih hT
theorem zip_extend_loop {R : Result → Shared → Prop} (S : ZipSep2 z TI TO i1 i2 fp1 fp2)
    (D1 : Draws prog w A.in1.in1 i1 fp1 n1 P1 St1) (D2 : Draws prog w A.in1.in1 i2 fp2 n2 P2 St2) (hn : min n1 n2 ≤ sizeLine) (L : Addr) (b : Nat) (hb : ∀ a ∈ z :: TI :: TO :: (fp1 ++ fp2), a < b) (hL : L ∉ z :: TI :: TO :: (fp1 ++ fp2)) (hLb : L < b) (res : Value) :
    ∀ (k i : Nat) (s : Shared) (Ts : List Addr) (ws : List (Value × Value)) (c : Nat), min n1 n2 - i = k → i ≤ min n1 n2 → St1 i s.heap → St2 i s.heap → IsTupOf2 s.heap TI (.ref i1) (.ref i2) → ZSt s.heap z TI TO Ts → ZAcc s.heap b P1 P2 Ts ws → Ts.length = i → ws.length = i → b ≤ s.heap.objs.size →
    s.heap.get? L = some { cls := .type "list", dict := none, data := .seq (Ts.map Value.ref).toArray c, slots := #[] } →
    (∀ h' tk Ts' ws' c', ZAcc h' b P1 P2 Ts' ws' → Ts'.length = min n1 n2 → ws'.length = min n1 n2 → h'.get? L = some { cls := .type "list", dict := none, data := .seq (Ts'.map Value.ref).toArray c', slots := #[] } →
      (∀ a o, a ≠ L → a ≠ z → a ≠ TO → a ≠ i1 → a ≠ i2 → s.heap.get? a = some o → h'.get? a = some o) → R (.ok (.ret res)) { s with heap := h', toks := tk }) →
    codeAny (model prog w) A (.builtin "list.extend.loop" ⟨[.ref L, .ref z, res], []⟩) R s := by
  have hz : L ≠ z := fun e => hL (by simp [e])
  have hTO : L ≠ TO := fun e => hL (by simp [e])
  have hTI : L ≠ TI := fun e => hL (by simp [e])
  have hf1 : L ∉ fp1 := fun e => hL (by simp [e])
  have hf2 : L ∉ fp2 := fun e => hL (by simp [e])
  have hi1 : L ≠ i1 := fun e => hf1 (e ▸ S.mem1)
  have hi2 : L ≠ i2 := fun e => hf2 (e ▸ S.mem2)
  have bz : z < b := hb _ (by simp)
  have bTO : TO < b := hb _ (by simp)
  have bi1 : i1 < b := hb _ (by simp [S.mem1])
  have bi2 : i2 < b := hb _ (by simp [S.mem2])
  intro k
  induction k with
  | zero =>
    intro i s Ts ws c hk hi st1 st2 hT hz0 acc l1 l2 hs hS hR
    have hin : i = min n1 n2 := by omega
    refine codeAny_builtin F.entry_extend_loop ?_
    rw [Around.under_plainId F.plain_extend_loop _]
    show wpAny _ A.in1 (pyNext (.ref z) >>= _) _ _ s
    refine wpAny_bind ?_
    rcases hz0 with ⟨e0, hz0, a1, a2, hO⟩ | ⟨T, f, hTm, hz0⟩
    · subst e0
      refine RT_next_end S D1 D2 hz0 hT hO st1 st2 (by omega) (by omega) (by omega) fun h' tk kk => wpAny_pure ?_
      refine hR h' tk [] ws c ?_ (by rw [l1]; exact hin) (by omega) (kk _ _ hz hTO hi1 hi2 hS) fun a o _ a1 a2 a3 a4 e => kk a o a1 a2 a3 a4 e
      have := acc.at_
      cases this
      exact ⟨.nil, List.nodup_nil, fun T hT => (by cases hT), fun T hT => (by cases hT), fun j q hq => (by simp at hq)⟩
    · obtain ⟨oT, hoT⟩ := acc.alive hTm
      refine pyNext_zipH_end S D1 D2 hz0 hoT hT st1 st2 (by omega) (by omega) (by omega) fun h' tk kk => wpAny_pure ?_
      refine hR h' tk Ts ws c ?_ (by omega) (by omega) (kk _ _ hz hi1 hi2 hS) fun a o _ a1 _ a3 a4 e => kk a o a1 a3 a4 e
      refine ⟨?_, acc.nd, acc.lo, fun T' hT' => ?_, acc.it⟩
      · have lo := acc.lo
        have at0 := acc.at_
        clear acc hR l1 l2 hS hTm hoT
        induction at0 with
        | nil => exact .nil
        | @cons T1 q1 _ _ r t ih =>
          have := lo T1 List.mem_cons_self
          exact .cons (kk _ _ (ne_lo bz this) (ne_lo bi1 this) (ne_lo bi2 this) r) (ih fun x hx => lo x (List.mem_cons_of_mem _ hx))
      · obtain ⟨o', ho'⟩ := acc.alive hT'
        have := acc.lo T' hT'
        exact Heap.lt_size (kk _ _ (ne_lo bz this) (ne_lo bi1 this) (ne_lo bi2 this) ho')
  | succ k ih =>
    intro i s Ts ws c hk hi st1 st2 hT hz0 acc l1 l2 hs hS hR
    have hlt : i < min n1 n2 := by omega
    refine codeAny_builtin F.entry_extend_loop ?_
    rw [Around.under_plainId F.plain_extend_loop _]
    show wpAny _ A.in1 (pyNext (.ref z) >>= _) _ _ s
    refine wpAny_bind ?_
    have step : ∀ x1 x2 h' tk, P1 i x1 → P2 i x2 → (∃ T f, T ∈ Ts ++ [s.heap.objs.size] ∧ IsZipHeld h' z TI TO T f) → St1 (i + 1) h' → St2 (i + 1) h' → IsTupOf2 h' s.heap.objs.size x1 x2 → h'.objs.size = s.heap.objs.size + 1 →
        (∀ a o, a ≠ z → a ≠ TO → a ≠ i1 → a ≠ i2 → s.heap.get? a = some o → h'.get? a = some o) →
        wpAny (model prog w) A.in1 (updateSeq L (·.push (.ref s.heap.objs.size)) >>= fun _ => again (.builtin "list.extend.loop" ⟨[.ref L, .ref z, res], []⟩))
          (fun fin s' => match fin with | .done f => R (.ok f) s' | .again c' => c'.quiet = true ∧ codeAny (model prog w) A c' R s') (fun e s' => R (.error e) s') { s with heap := h', toks := tk } := by
      intro x1 x2 h' tk p1 p2 hz1 st1' st2' hN hsz kk
      have hS' := kk _ _ hz hTO hi1 hi2 hS
      refine wpAny_bind ?_
      have up : ∀ a o, a ≠ L → h'.get? a = some o → (h'.update L (Obj.mapSeq (·.push (.ref s.heap.objs.size)))).get? a = some o := fun a o ha e => (Heap.get?_update_other _ _ (Ne.symm ha)).trans e
      refine wpAny_updateSeq hS' rfl (wpAny_pure ⟨plainId_quiet F.plain_extend_loop _, ih (i + 1) _ (Ts ++ [s.heap.objs.size]) (ws ++ [(x1, x2)]) _ (by omega) hlt ?_ ?_ ?_ ?_ ?_ (by simp [l1]) (by simp [l2]) ?_ (by rw [List.map_append]; have e := Heap.get?_update_self (Obj.mapSeq (·.push (.ref s.heap.objs.size))) hS' rfl; rw [e]; simp [Obj.mapSeq]; rfl) ?_⟩)
        (by simp [l1]; omega) (by show ((Ts.map Value.ref).toArray.push _).size ≤ sizeLine + 1; simp [l1]; omega)
      · exact D1.frame _ _ _ st1' fun a ha o e => up a o (fun q => hf1 (q ▸ ha)) e
      · exact D2.frame _ _ _ st2' fun a ha o e => up a o (fun q => hf2 (q ▸ ha)) e
      · exact up _ _ (Ne.symm hTI) (kk _ _ S.TIz S.TITO S.TIi1 S.TIi2 hT)
      · obtain ⟨T, f, m, hz1⟩ := hz1
        exact .inr ⟨T, f, m, up _ _ (Ne.symm hz) hz1⟩
      · have a1 : ZAcc h' b P1 P2 Ts ws := acc.keep (fun a o ha e => kk a o (ne_lo bz ha) (ne_lo bTO ha) (ne_lo bi1 ha) (ne_lo bi2 ha) e) (by omega)
        have a2 : ZAcc h' b P1 P2 (Ts ++ [s.heap.objs.size]) (ws ++ [(x1, x2)]) := a1.push hN (fun hm => Nat.lt_irrefl _ (acc.hi _ hm)) hs (by rw [l2]; exact p1) (by rw [l2]; exact p2)
        exact a2.keep (fun a o ha e => up a o (ne_lo hLb ha) e) (by show _ ≤ (h'.update _ _).objs.size; rw [Heap.size_update]; exact Nat.le_refl _)
      · show b ≤ (h'.update _ _).objs.size
        rw [Heap.size_update]
        omega
      · intro h2 tk2 Ts' ws' c' a1 a2 a3 a4 a5
        exact hR h2 tk2 Ts' ws' c' a1 a2 a3 a4 fun a o b1 b2 b3 b4 b5 e => a5 a o b1 b2 b3 b4 b5 (up a o b1 (kk a o b2 b3 b4 b5 e))
    rcases hz0 with ⟨e0, hz0, a1, a2, hO⟩ | ⟨T, f, hTm, hz0⟩
    · subst e0
      refine RT_next_item S D1 D2 hz0 hT hO st1 st2 (by omega) (by omega) fun x1 x2 h' tk p1 p2 q1 q2 q3 q4 q5 kk => ?_
      exact step x1 x2 h' tk p1 p2 ⟨s.heap.objs.size, false, by simp, q1⟩ q2 q3 q4 q5 kk
    · obtain ⟨oT, hoT⟩ := acc.alive hTm
      refine pyNext_zipH_item S D1 D2 hz0 hoT hT st1 st2 (by omega) (by omega) fun x1 x2 h' tk p1 p2 q1 q2 q3 q4 q5 kk => ?_
      exact step x1 x2 h' tk p1 p2 ⟨T, true, by simp [hTm], q1⟩ q2 q3 q4 q5 fun a o b1 _ b3 b4 e => kk a o b1 b3 b4 e
end
end Vy

namespace Vy
open PySem PySem.Spec L2 PyProof.Rows
section
variable {prog : Program} {w : World} {A : Around} {E : Value → Shared → Prop} {s : Shared} {z TI TO i1 i2 : Addr} {fp1 fp2 : List Addr} {n1 n2 : Nat} {P1 P2 : Nat → Value → Prop} {St1 St2 : Nat → Heap → Prop}
/-- what is known where a zip begins -/
structure ZBeg (prog : Program) (w : World) (h : Heap) (z TI TO i1 i2 : Addr) (fp1 fp2 : List Addr) (n1 n2 : Nat) (P1 P2 : Nat → Value → Prop) (St1 St2 : Nat → Heap → Prop) : Prop where
  sep : ZipSep2 z TI TO i1 i2 fp1 fp2
  d1 : ∀ A : Around, A.handled = none → Draws prog w A i1 fp1 n1 P1 St1
  d2 : ∀ A : Around, A.handled = none → Draws prog w A i2 fp2 n2 P2 St2
  hz : IsZip h z TI TO .none
  hI : IsTupOf2 h TI (.ref i1) (.ref i2)
  hO : IsTupOf2 h TO .none .none
  s1 : St1 0 h
  s2 : St2 0 h
  lt : ∀ a ∈ z :: TI :: TO :: (fp1 ++ fp2), a < h.objs.size
  le : min n1 n2 ≤ sizeLine
theorem collect_zip {Q : List Value → Shared → Prop} (hh : A.handled = none) (B : ZBeg prog w s.heap z TI TO i1 i2 fp1 fp2 n1 n2 P1 P2 St1 St2)
    (hQ : ∀ (h' : Heap) (tk : Nat) (Ts : List Addr) (ws : List (Value × Value)), (∀ a o, a ≠ z → a ≠ TO → a ≠ i1 → a ≠ i2 → s.heap.get? a = some o → h'.get? a = some o) → ZAcc h' s.heap.objs.size P1 P2 Ts ws → Ts.length = min n1 n2 → ws.length = min n1 n2 → Q (Ts.map Value.ref) { s with heap := h', toks := tk }) :
    wpAny (model prog w) A (collect (.ref z)) Q E s := by
  have hSz : s.heap.objs.size ≠ z := Nat.ne_of_gt (B.lt _ (by simp))
  have hSf : s.heap.objs.size ∉ z :: TI :: TO :: (fp1 ++ fp2) := fun hm => Nat.lt_irrefl _ (B.lt _ hm)
  unfold collect
  refine wpAny_bind (wpAny_runValue (codeAny_builtin F.entry_proto_collect ?_))
  rw [Around.under_plainId F.plain_proto_collect _]
  show wpAny _ A.in1 (newList [] >>= fun l' => again (.builtin "list.__iadd__" ⟨[l', .ref z], []⟩)) _ _ s
  refine wpAny_bind (wpAny_newObj_type ?_)
  refine wpAny_pure ⟨plainId_quiet F.plain_list_iadd _, codeAny_builtin F.entry_list_iadd ?_⟩
  rw [Around.under_plainId F.plain_list_iadd _]
  generalize hb : s.heap.push { cls := .type "list", data := .seq ([] : List Value).toArray } = h1
  have k1 : ∀ a o, s.heap.get? a = some o → h1.get? a = some o := fun a o e => by rw [← hb]; exact Heap.get?_push_of_some _ e
  have hS₁ : h1.get? s.heap.objs.size = some { cls := .type "list", data := .seq ([] : List Value).toArray } := by rw [← hb]; exact Heap.get?_push_size _ rfl
  have hsz1 : h1.objs.size = s.heap.objs.size + 1 := by rw [← hb, Heap.size_push]
  have hT : ({ s with heap := h1 } : Shared).TypeIs (.ref z) "zip" := ⟨_, k1 _ _ B.hz, rfl⟩
  have e1 : Builtin.List.listSameRef (.ref s.heap.objs.size) (.ref z) = false := by simp [Builtin.List.listSameRef, hSz]
  show wpAny _ A.in1 (Builtin.List.listExtendWith (.ref s.heap.objs.size) (.ref z) (.ref s.heap.objs.size)) _ _ _
  unfold Builtin.List.listExtendWith
  refine wpAny_bind (wpAny_typeOf hT ?_)
  have h2 : (Value.type "zip" == Value.type "list") = false := by decide
  have h3 : (Value.type "zip" == Value.type "tuple") = false := by decide
  simp only [e1, h2, h3, Bool.or_false, Bool.false_eq_true, if_false]
  refine wpAny_bind (wpAny_pyIter_zip (s := { s with heap := h1 }) (k1 _ _ B.hz) ?_)
  refine wpAny_bind (wpAny_holding ?_)
  unfold Builtin.List.listLengthHint
  refine wpAny_bind (wpAny_specialOf hT nolen_zip ?_)
  show wpAny _ A.in1 (specialOf (Value.ref z) (Str.ofString "__length_hint__") >>= _) _ _ _
  refine wpAny_bind (wpAny_specialOf hT nohint_zip ?_)
  refine wpAny_pure ?_
  show wpAny _ A.in1 (rule "list.extend.makes-room" >>= fun _ => Builtin.List.listTouch (.ref s.heap.objs.size) >>= fun _ =>
    again (.builtin "list.extend.loop" ⟨[.ref s.heap.objs.size, .ref z, .ref s.heap.objs.size], []⟩)) _ _ _
  refine wpAny_bind (wpAny_rule ?_)
  refine wpAny_bind ?_
  show wpAny _ A.in1 (updateSeq s.heap.objs.size (·.push .none) >>= fun _ => updateSeq s.heap.objs.size (·.pop)) _ _ _
  refine wpAny_bind (wpAny_updateSeq hS₁ rfl ?_)
  have hS₂ := Heap.get?_update_self (Obj.mapSeq (·.push Value.none)) hS₁ rfl
  refine wpAny_updateSeq hS₂ rfl ?_
  have hS₃ := Heap.get?_update_self (Obj.mapSeq (·.pop)) hS₂ rfl
  have oth : ∀ a o, a ≠ s.heap.objs.size → h1.get? a = some o → ((h1.update s.heap.objs.size (Obj.mapSeq (·.push Value.none))).update s.heap.objs.size (Obj.mapSeq (·.pop))).get? a = some o :=
    fun b o hb e => (Heap.get?_update_other _ _ (Ne.symm hb)).trans ((Heap.get?_update_other _ _ (Ne.symm hb)).trans e)
  have all : ∀ a o, s.heap.get? a = some o → ((h1.update s.heap.objs.size (Obj.mapSeq (·.push Value.none))).update s.heap.objs.size (Obj.mapSeq (·.pop))).get? a = some o := fun a o e => oth a o (Nat.ne_of_lt (Heap.lt_size e)) (k1 a o e)
  have hsz3 : ((h1.update s.heap.objs.size (Obj.mapSeq (·.push Value.none))).update s.heap.objs.size (Obj.mapSeq (·.pop))).objs.size = s.heap.objs.size + 1 := by rw [Heap.size_update, Heap.size_update, hsz1]
  have D1 := B.d1 A.in1.in1 hh
  have D2 := B.d2 A.in1.in1 hh
  refine wpAny_pure ⟨plainId_quiet F.plain_extend_loop _, zip_extend_loop B.sep D1 D2 B.le s.heap.objs.size (s.heap.objs.size + 1) (fun a ha => Nat.lt_succ_of_lt (B.lt a ha)) hSf (Nat.lt_succ_self _) _ (min n1 n2) 0 _ [] [] _ rfl (Nat.zero_le _)
    (D1.frame _ _ _ B.s1 fun a _ o e => all a o e) (D2.frame _ _ _ B.s2 fun a _ o e => all a o e) (all _ _ B.hI) (.inl ⟨rfl, all _ _ B.hz, _, _, all _ _ B.hO⟩) ⟨.nil, List.nodup_nil, fun T hT => (by cases hT), fun T hT => (by cases hT), fun j q hq => (by simp at hq)⟩ rfl rfl (Nat.le_of_eq hsz3.symm) hS₃ fun h' tk Ts ws c' acc l1 l2 hL kk => ?_⟩
  show wpAny _ A (load s.heap.objs.size >>= _) _ _ _
  refine wpAny_bind (wpAny_load hL ?_)
  refine wpAny_pure ?_
  have fin := hQ h' tk Ts ws (fun a o b1 b2 b3 b4 e => kk a o (Nat.ne_of_lt (Heap.lt_size e)) b1 b2 b3 b4 (all a o e)) ⟨acc.at_, acc.nd, fun T hT => Nat.le_of_succ_le (acc.lo T hT), acc.hi, acc.it⟩ l1 l2
  simpa using fin
theorem code_tuple_new_zip {Q₁ : Value → Shared → Prop} (hh : A.handled = none) (B : ZBeg prog w s.heap z TI TO i1 i2 fp1 fp2 n1 n2 P1 P2 St1 St2)
    (h : ∀ (h' : Heap) (tk : Nat) (Ts : List Addr) (ws : List (Value × Value)), (∀ a o, a ≠ z → a ≠ TO → a ≠ i1 → a ≠ i2 → s.heap.get? a = some o → h'.get? a = some o) → ZAcc h' s.heap.objs.size P1 P2 Ts ws → Ts.length = min n1 n2 → ws.length = min n1 n2 →
      Q₁ (.ref h'.objs.size) { s with heap := h'.push { cls := .type "tuple", data := .seq (Ts.map Value.ref).toArray }, toks := tk }) :
    codeAny (model prog w) A (.call (.builtin "tuple.__new__") ⟨[.type "tuple", .ref z], []⟩) (wants Q₁ E) s := by
  refine codeAny_of_tree ?_
  show wpAny _ A.in1 (do checkBuiltinCall "tuple.__new__" ⟨[.type "tuple", .ref z], []⟩; again (.builtin "tuple.__new__" ⟨[.type "tuple", .ref z], []⟩)) _ _ s
  refine wpAny_bind (wpAny_of_eq (F.newCall_tuple_1 _) (wpAny_pure ⟨plainId_quiet F.plain_tuple_new _, codeAny_builtin F.entry_tuple_new ?_⟩))
  rw [Around.under_plainId F.plain_tuple_new _]
  have hsub := sub_tuple_self
  have hinit := init_tuple_lookup
  have hmh := madeHere_tuple
  have hTI : s.TypeIs (.ref z) "zip" := ⟨_, B.hz, rfl⟩
  have hh1 : A.in1.handled = none := hh
  wp_walk using wpAny_typeOf hTI, collect_zip (A := A.in1) hh1 B
  intro h' tk Ts ws hk hacc l1 l2
  show wpAny _ _ (Builtin.Tuple.tupleExact (Ts.map Value.ref).toArray >>= fun v => ret v) _ _ _
  unfold Builtin.Tuple.tupleExact
  refine wpAny_bind (wpAny_newObj_type ?_ (by show (Ts.map Value.ref).toArray.size ≤ sizeLine; simp [l1]; have := B.le; omega))
  refine wpAny_pure ?_
  exact h h' tk Ts ws hk hacc l1 l2
theorem call_tuple_zip {Q : Value → Shared → Prop} (hh : A.handled = none) (B : ZBeg prog w s.heap z TI TO i1 i2 fp1 fp2 n1 n2 P1 P2 St1 St2)
    (hQ : ∀ (h' : Heap) (tk : Nat) (Ts : List Addr) (ws : List (Value × Value)), (∀ a o, a ≠ z → a ≠ TO → a ≠ i1 → a ≠ i2 → s.heap.get? a = some o → h'.get? a = some o) → ZAcc h' s.heap.objs.size P1 P2 Ts ws → Ts.length = min n1 n2 → ws.length = min n1 n2 →
      Q (.ref h'.objs.size) { s with heap := h'.push { cls := .type "tuple", data := .seq (Ts.map Value.ref).toArray }, toks := tk }) :
    wpAny (model prog w) A (call (.type "tuple") [.ref z]) Q E s := by
  refine callType_codes (Q₁ := fun obj s₁ => s₁.TypeIs obj "tuple" ∧ Q obj s₁) F.called_tuple (F.typeCall_tuple_1 _) F.entry_object_init
    (code_tuple_new_zip (A := A.in1) hh B fun h' tk Ts ws hk hacc l1 l2 => ⟨⟨_, Heap.get?_push_size _ rfl, rfl⟩, hQ h' tk Ts ws hk hacc l1 l2⟩) fun obj s₁ h₁ => ?_
  exact ⟨h₁.1, F.args_object_init_2 obj _, object_init_meets F.called_tuple.init.lookup F.called_tuple.made (by decide) prog w A.in1 _ s₁ ⟨h₁.1, rfl, h₁.2⟩⟩
end
end Vy
set_option Elab.async false
set_option linter.all false
set_option maxRecDepth 100000
set_option maxHeartbeats 4000000
namespace Vy
open PySem PySem.Spec L2 PyProof.Rows
/-! ### many new objects at once -/
def updL (H : Hp) : List (Addr × HO) → Hp
  | [] => H
  | p :: r => upd (updL H r) p.1 p.2
theorem updL_out {H : Hp} : ∀ {L : List (Addr × HO)} {b : Addr}, b ∉ L.map (·.1) → updL H L b = H b
  | [], b, _ => rfl
  | p :: r, b, h => by
    rw [List.map_cons, List.mem_cons, not_or] at h
    show upd (updL H r) p.1 p.2 b = _
    rw [upd_ne h.1]
    exact updL_out h.2
theorem updL_in {H : Hp} : ∀ {L : List (Addr × HO)}, (L.map (·.1)).Nodup → ∀ p ∈ L, updL H L p.1 = some p.2
  | [], _, p, h => nomatch h
  | q :: r, nd, p, h => by
    rw [List.map_cons, List.nodup_cons] at nd
    show upd (updL H r) q.1 q.2 p.1 = _
    rcases List.mem_cons.mp h with e | h
    · subst e; exact upd_same
    · rw [upd_ne (fun e => nd.1 (by rw [← e]; exact List.mem_map_of_mem h))]
      exact updL_in nd.2 p h
section
variable {X : Cx} {pins : List (Addr × Obj)} {σ : L2.St} {H : Hp} {s : Shared} {h' : Heap} {t' : Nat}
theorem Inv.laidL (I : L2.Inv X pins σ H s) (k : ∀ b u, s.heap.get? b = some u → h'.get? b = some u) {L : List (Addr × HO)} (hp : ∀ p ∈ L, s.heap.objs.size ≤ p.1) (nd : (L.map (·.1)).Nodup) (new : ∀ p ∈ L, ObjOk X.prog X.w (updL H L) h' p.1 p.2) :
    L2.Inv X pins σ (updL H L) { s with heap := h', toks := t' } := by
  have off : ∀ b u, s.heap.get? b = some u → b ∉ L.map (·.1) := fun b u e hb => by
    obtain ⟨p, hp1, rfl⟩ := List.mem_map.mp hb
    exact absurd (Heap.lt_size e) (Nat.not_lt.mpr (hp p hp1))
  have fr : ∀ b u, H b = some u → b ∉ L.map (·.1) := fun b u e hb => by
    obtain ⟨p, hp1, rfl⟩ := List.mem_map.mp hb
    rw [I.hok.fresh (hp p hp1)] at e
    cases e
  refine I.un ⟨fun b u q _ _ _ => k b u q, fun b u q _ _ _ => ⟨u.slots, k b u q⟩, fun b u q n _ => by rw [updL_out (off b u q)]; exact n, fun b u q _ => ⟨u, k b u q⟩, fun b xs q => by rw [updL_out (fr b _ q)]; exact q,
    fun b u xs q => by rw [updL_out (fr b _ q)]; exact q, fun b ps q => ⟨#[], by rw [updL_out (fr b _ q), q]; simp⟩⟩ fun b u e => ?_
  by_cases hb : b ∈ L.map (·.1)
  · obtain ⟨p, hp1, rfl⟩ := List.mem_map.mp hb
    rw [updL_in nd p hp1] at e
    cases e
    exact new p hp1
  · rw [updL_out hb] at e
    exact (I.hok b u e).stay (fun c v _ q => k c v q) (fun c q => by rw [updL_out (fr c _ q)]; exact q) fun c xs q => by rw [updL_out (fr c _ q)]; exact q
end
/-! ### tuple(zip(x, y)) -/
theorem src_of {s : Shared} {a : Addr} {its : Array Value} (hq : s.heap.IsList a its ∨ s.heap.IsTuple a its) : ∃ (o : Obj) (Hs : Heap → Prop) (St : Addr → Nat → Heap → Prop), Begins (.ref a) o Hs ∧ Hs s.heap ∧
    (∀ it, it ≠ a → ∀ (prog : Program) (w : World) (A : Around), A.handled = none → Draws prog w A it [it, a] its.size (fun i v => its[i]? = some v) (St it)) ∧
    ∀ it h', it ≠ a → (∀ c o, s.heap.get? c = some o → h'.get? c = some o) → h'.get? it = some o → St it 0 h' := by
  rcases hq with hq | hq
  · exact ⟨_, _, fun it i h => h.IsListIter it a i ∧ h.IsList a its, begins_list a its, hq, fun it ne prog w A hh => Draws.list hh it a (Ne.symm ne) its, fun it h' ne k e => ⟨⟨_, e, rfl, rfl⟩, hq.at fun o q => k _ o q⟩⟩
  · exact ⟨_, _, fun it i h => h.IsTupleIter it a i ∧ h.IsTuple a its, begins_tuple a its, hq, fun it ne prog w A hh => Draws.tuple hh it a (Ne.symm ne) its, fun it h' ne k e => ⟨⟨_, e, rfl, rfl⟩, hq.at fun o q => k _ o q⟩⟩
def SqA (K : PySem.W.Frag) (H : Hp) (a : Addr) (xs : List V) : Prop := SqL K H a xs ∨ SqT K H a xs
def zipV : List V → List V → List HO
  | x :: r, y :: s => .tup [x, y] :: zipV r s
  | _, _ => []
theorem zipV_len : ∀ (xs ys : List V), (zipV xs ys).length = min xs.length ys.length
  | [], ys => by simp [zipV]
  | _ :: _, [] => by simp [zipV]
  | _ :: r, _ :: s => by rw [zipV, List.length_cons, zipV_len r s, List.length_cons, List.length_cons]; omega
theorem zipV_get : ∀ {xs ys : List V} {j : Nat} {o : HO}, (zipV xs ys)[j]? = some o → ∃ x y, xs[j]? = some x ∧ ys[j]? = some y ∧ o = .tup [x, y]
  | [], ys, j, o, h => by simp [zipV] at h
  | _ :: _, [], j, o, h => by simp [zipV] at h
  | x :: r, y :: s, 0, o, h => by simp [zipV] at h; exact ⟨x, y, rfl, rfl, h.symm⟩
  | x :: r, y :: s, j + 1, o, h => by
    obtain ⟨x', y', h1, h2, h3⟩ := zipV_get (xs := r) (ys := s) (j := j) (o := o) (by simpa [zipV] using h)
    exact ⟨x', y', by simpa using h1, by simpa using h2, h3⟩
def tTz (K : PySem.W.Frag) (ta : TA) : TE := fun σ H Q => ta σ H fun vs H2 => ∃ a b xs ys, vs = [.ref a, .ref b] ∧ SqA K H2 a xs ∧ SqA K H2 b ys ∧
  ∀ (Ts : List Addr) (p : Addr), (Ts ++ [p]).Nodup → (∀ T ∈ Ts ++ [p], H2 T = none) → Ts.length = (zipV xs ys).length → Q (.ref p) (upd (updL H2 (Ts.zip (zipV xs ys))) p (.tup (Ts.map V.ref)))
theorem pe_tupZip {X : Cx} {e1 e2 : Expr} {ta : TA} {p p2 pos pos2 : Pos} (hc : X.calm = true) (hg : Gl X "tuple") (hm : X.mg "tuple" = none) (hg2 : Gl X "zip") (hm2 : X.mg "zip" = none) (ha : PA X [e1, e2] ta)
    (na : starEach [e1, e2] X.env = (false, eval e1 X.env) :: starEach [e2] X.env) (hp : (backTo pos2 (starEach [e2] X.env)).any (·.1) = false) :
    PE X (.Call (.Name "tuple" p) [.Call (.Name "zip" p2) [e1, e2] [] pos2] [] pos) (tTz X.K ta) := by
  refine ⟨fun pins s σ H Q I h => ?_⟩
  refine Call_ (ld_blt I hg hm boot_tuple (PyProof.Rows.callWith_type1 (args_cons (Call_ (ld_blt I hg2 hm2 boot_zip (PyProof.Rows.callWith_type1 (thn (ha.run pos2 pins s σ H _ I h) fun us s1 ⟨vs, H1, I1, r1, q1⟩ => ?_) na hp))) rfl) rfl rfl))
  obtain ⟨a, b, xs, ys, rfl, hx, hy, q1⟩ := q1
  obtain ⟨u1, u2, rfl, ru1, ru2⟩ := vals2 r1
  obtain rfl : u1 = .ref a := ru1
  obtain rfl : u2 = .ref b := ru2
  have at_ : ∀ {c : Addr} {zs : List V}, SqA X.K H1 c zs → ∃ its : List Value, Vals zs its ∧ (s1.heap.IsList c its.toArray ∨ s1.heap.IsTuple c its.toArray) ∧ zs.length ≤ sizeLine ∧ c < s1.heap.objs.size := by
    intro c zs hz
    rcases hz with hz | hz
    · obtain ⟨its, rv, pl, hl⟩ := I1.list hz
      obtain ⟨o, n, ho, _⟩ := id pl
      exact ⟨its, rv, .inl pl.isList, hl, Heap.lt_size ho⟩
    · obtain ⟨its, rv, pl, hl⟩ := I1.tuple hz
      obtain ⟨o, ho, h2, n, h3⟩ := id pl
      exact ⟨its, rv, .inr ⟨o, ho, h2, n, h3⟩, hl, Heap.lt_size ho⟩
  obtain ⟨ia, va, qa, la, lta⟩ := at_ hx
  obtain ⟨ib, vb, qb, lb, ltb⟩ := at_ hy
  obtain ⟨oa, Ha, Sa, Ba, ha1, da, sa⟩ := src_of qa
  obtain ⟨ob, Hb, Sb, Bb, hb1, db, sb⟩ := src_of qb
  generalize hn : s1.heap.objs.size = n at lta ltb
  have ne : ∀ {i j : Nat}, i ≠ j → n + i ≠ n + j := fun h => by omega
  refine zip_begins2 Ba Bb ha1 hb1 fun h2 z1 z2 z3 z4 z5 z6 k2 => ?_
  rw [hn] at z1 z2 z3 z4 z5 z6 ⊢
  have n1 : (n : Addr) ≠ a := Nat.ne_of_gt lta
  have n2 : (n + 1 : Addr) ≠ b := Nat.ne_of_gt (Nat.lt_succ_of_lt ltb)
  have lta' : @LT.lt Nat _ a n := lta
  have ltb' : @LT.lt Nat _ b n := ltb
  have sep : ZipSep2 (n + 4) (n + 2) (n + 3) n (n + 1) [n, a] [n + 1, b] := by
    refine ⟨ne (by decide), ne (by decide), ne (by decide), ne (i := 2) (j := 0) (by decide), by simp, ?_, ?_, ne (by decide), by simp, ?_, ?_, ?_, ?_⟩ <;> (simp only [List.mem_cons, List.not_mem_nil, or_false, not_or]; constructor <;> (intro z; have z' : (_ : Nat) = _ := z; omega))
  have B : ZBeg X.prog X.w h2 (n + 4) (n + 2) (n + 3) n (n + 1) [n, a] [n + 1, b] ia.toArray.size ib.toArray.size (fun i v => ia.toArray[i]? = some v) (fun i v => ib.toArray[i]? = some v) (Sa n) (Sb (n + 1)) :=
    ⟨sep, fun A hh => da n n1 _ _ A hh, fun A hh => db (n + 1) n2 _ _ A hh, z1, z2, z3, sa n h2 n1 k2 z4, sb (n + 1) h2 n2 k2 z5, fun c hc => by
      rw [z6]
      simp only [List.cons_append, List.nil_append, List.mem_cons, List.not_mem_nil, or_false] at hc
      rcases hc with rfl | rfl | rfl | rfl | rfl | rfl | rfl
      all_goals first
        | exact Nat.add_lt_add_left (by decide) n
        | exact Nat.lt_add_of_pos_right (by decide)
        | exact Nat.lt_of_lt_of_le lta (Nat.le_add_right _ _)
        | exact Nat.lt_of_lt_of_le ltb (Nat.le_add_right _ _), by
      rw [List.size_toArray, List.size_toArray, ← va.length]
      exact Nat.le_trans (Nat.min_le_left _ _) la⟩
  refine args_nil ?_
  refine call_tuple_zip (s := { s1 with heap := h2 }) (I1.ok.hd hc) B fun h3 tk Ts ws k3 acc l1 l2 => ?_
  have hlz : (zipV xs ys).length = Ts.length := by
    rw [l1, zipV_len, List.size_toArray, List.size_toArray, va.length, vb.length]
  have big : ∀ T ∈ Ts, n + 5 ≤ T := fun T hT => by
    have := acc.lo T hT
    rw [show ({ s1 with heap := h2 } : Shared).heap.objs.size = n + 5 from z6] at this
    exact this
  have keep : ∀ c o, s1.heap.get? c = some o → (h3.push { cls := .type "tuple", data := .seq (Ts.map Value.ref).toArray }).get? c = some o := fun c o e => by
    have hc : c < n := by rw [← hn]; exact Heap.lt_size e
    have f : ∀ i, c ≠ n + i := fun i z => by
      exact Nat.not_lt.mpr (Nat.le_add_right n i) (by rw [← z]; exact hc)
    exact Heap.get?_push_of_some _ (k3 c o (f 4) (f 3) (f 0) (f 1) (k2 c o e))
  have nT : h3.objs.size ∉ Ts := fun hT => Nat.lt_irrefl _ (acc.hi _ hT)
  have atj : ∀ (j : Nat) (T : Addr), Ts[j]? = some T → ∃ x y u v, xs[j]? = some x ∧ ys[j]? = some y ∧ RelV x u ∧ RelV y v ∧ IsTupOf2 h3 T u v ∧ (zipV xs ys)[j]? = some (.tup [x, y]) := by
    intro j T hj
    have hjl : j < Ts.length := (List.getElem?_eq_some_iff.mp hj).1
    have hjw : j < ws.length := by rw [l2, ← l1]; exact hjl
    obtain ⟨p1, p2⟩ := acc.it j ws[j] (List.getElem?_eq_getElem hjw)
    have hz : j < (zipV xs ys).length := by rw [hlz]; exact hjl
    obtain ⟨x, y, e1, e2, e3⟩ := zipV_get (List.getElem?_eq_getElem hz)
    obtain ⟨u, eu, ru⟩ := va.get e1
    obtain ⟨v, ev, rv⟩ := vb.get e2
    rw [List.getElem?_toArray, eu] at p1
    rw [List.getElem?_toArray, ev] at p2
    injection p1 with p1
    injection p2 with p2
    have key : ∀ {Ts : List Addr} {ws : List (Value × Value)}, Paired (fun T q => IsTupOf2 h3 T q.1 q.2) Ts ws → ∀ (j : Nat) (T : Addr) (q : Value × Value), Ts[j]? = some T → ws[j]? = some q → IsTupOf2 h3 T q.1 q.2 := by
      intro Ts ws hP
      induction hP with
      | nil => intro j T q h; simp at h
      | cons r t ih =>
        intro j T q h1 h2
        cases j with
        | zero => simp at h1 h2; subst h1 h2; exact r
        | succ j => exact ih j T q (by simpa using h1) (by simpa using h2)
    have hT := key acc.at_ j T ws[j] hj (List.getElem?_eq_getElem hjw)
    refine ⟨x, y, u, v, e1, e2, ru, rv, ?_, by rw [List.getElem?_eq_getElem hz, e3]⟩
    rw [← p1, ← p2] at hT
    exact hT
  have mp : (Ts.zip (zipV xs ys)).map (·.1) = Ts := by
    rw [List.map_fst_zip (Nat.le_of_eq hlz.symm)]
  have frT : ∀ T, n ≤ T → H1 T = none := fun T hT => I1.hok.fresh (by rw [hn]; exact hT)
  let o0 : Obj := { cls := .type "tuple", data := .seq (Ts.map Value.ref).toArray }
  have I2 : L2.Inv X pins σ (updL H1 ((h3.objs.size, HO.tup (Ts.map V.ref)) :: Ts.zip (zipV xs ys))) { s1 with heap := h3.push o0, toks := tk } := by
    have hsz3 : n ≤ h3.objs.size := by
      have := Heap.lt_size (k3 (n + 2) _ (ne (i := 2) (j := 4) (by decide)) (ne (i := 2) (j := 3) (by decide)) (ne (i := 2) (j := 0) (by decide)) (ne (i := 2) (j := 1) (by decide)) z2)
      have h' : (n + 2 : Nat) < h3.objs.size := this
      omega
    refine Inv.laidL I1 keep (fun q hq => ?_) ?_ fun q hq => ?_
    · rw [hn]
      rcases List.mem_cons.mp hq with e | hq
      · subst e; exact hsz3
      · have : q.1 ∈ Ts := by rw [← mp]; exact List.mem_map_of_mem hq
        exact Nat.le_trans (Nat.le_add_right _ _) (big _ this)
    · rw [List.map_cons, mp, List.nodup_cons]
      exact ⟨nT, acc.nd⟩
    · rcases List.mem_cons.mp hq with e | hq
      · subst e
        refine ⟨by rw [List.length_map, l1]; exact B.le, Ts.map Value.ref, ?_, IsTup.new _ _⟩
        clear l1 hlz big nT atj mp acc k3 hq keep frT
        induction Ts with
        | nil => exact .nil
        | cons T r ih => exact .cons rfl ih
      · obtain ⟨j, hj⟩ := List.getElem?_of_mem hq
        rw [List.getElem?_zip_eq_some] at hj
        obtain ⟨x, y, u, v, e1, e2, ru, rv, hT, ez⟩ := atj j q.1 hj.1
        have eq2 : q.2 = .tup [x, y] := by
          have := hj.2
          rw [ez] at this
          exact (Option.some.inj this).symm
        rw [eq2]
        refine ⟨by rw [sizeLine_eq]; exact (by decide : 2 ≤ 16777216), [u, v], .cons ru (.cons rv .nil), ?_⟩
        exact ⟨_, Heap.get?_push_of_some _ hT, rfl, 0, rfl⟩
  refine ⟨.ref h3.objs.size, _, I2, rfl, ?_⟩
  have hsz3 : n ≤ h3.objs.size := by
    have := Heap.lt_size (k3 (n + 2) _ (ne (i := 2) (j := 4) (by decide)) (ne (i := 2) (j := 3) (by decide)) (ne (i := 2) (j := 0) (by decide)) (ne (i := 2) (j := 1) (by decide)) z2)
    have h' : (n + 2 : Nat) < h3.objs.size := this
    omega
  refine q1 Ts h3.objs.size ?_ (fun T hT => frT T ?_) hlz.symm
  · rw [List.nodup_append]
    exact ⟨acc.nd, by simp, fun c hc d hd => by rw [List.mem_singleton.mp hd]; exact fun e => nT (by rw [← e]; exact hc)⟩
  · rcases List.mem_append.mp hT with hT | hT
    · exact Nat.le_trans (Nat.le_add_right _ _) (big _ hT)
    · rw [List.mem_singleton.mp hT]; exact hsz3
end Vy
set_option Elab.async false
set_option linter.all false
set_option maxRecDepth 100000
set_option maxHeartbeats 4000000
namespace Vy
open PySem PySem.Spec L2
variable [Tb]

/-! ### the place of a piece of text, the names of the whole text -/
structure Cxs where
  N : List Str
  sc : Scope
  fn : Str → Bool
  gd : Bool
  lm : Nat
structure GT where
  fns : List (Str × Bool)
  cons : List Str
  excs : List Str
  tn : Str
  ws : List (Nat × Str)
  exn : List Nat
  /-- methods: the def's number, the class, the name, whether it asks that nothing is being shown -/
  mts : List (Nat × Nat × Str × Bool) := []
  /-- makers: the class, its name, the def's number, as above -/
  mks : List (Nat × Str × Nat × Bool) := []
  /-- attributes: the class, the field's number, its name -/
  ats : List (Nat × Nat × Str) := []

/-- a def that may ask that nothing is being shown -/
structure FnG (P : Program) (w : World) (K : PySem.W.Frag) (mg : Str → Option Value) (base : Heap) (gd : Bool) (k : Nat) (f : Addr) (fd : FuncData) (ps : List Str) (sp : Sp) : Prop where
  len : ∀ vs H Q E, sp vs H Q E → vs.length = ps.length
  run : ∀ (A : Around) (outer : List Env) (s : Shared) (H : Hp) (args : Args) (us : List Value) (vs : List V) (Q : VK) (E : XK), Room k A → (gd = true → A.guards = some []) → Env0 P w K mg base A outer s H → BindsTo s fd args (ps.zip us) → Vals vs us → sp vs H Q E →
    codeAny (model P w) A (.call (.ref f) args) (CR (L2.CX P w) outer P w H s Q E) s
/-- the promise of a def whose meaning is g -/
def spF (V_ : Nv) (np : Nat) (g : List R → Sto → Res R) : Sp := fun vs H Q E => vs.length = np ∧ LamX.Tabs Tb.T H ∧ ∃ m S rs, Cells V_.K H S m ∧ m.Nodup ∧ RpL V_.K m [] H rs vs ∧
  PX (fun r S' => ∀ m' v H', Stp m m' H H' → Cells V_.K H' S' m' → m'.Nodup → RpR V_.K m' [] H H' r v → Q v H')
    (fun c fs S' => ∀ m' d H', Stp m m' H H' → Cells V_.K H' S' m' → m'.Nodup → XdR V_.K H' d (V_.fl c) fs → E (.ref (V_.ca c)) (some d) H') (g rs S)

/-- the promise of an __init__ whose meaning is g -/
def spNw (V_ : Nv) (c np : Nat) (g : List R → Sto → Res R) : Sp := fun vs Hx Q E => ∃ x dx H vs', vs = .ref x :: vs' ∧ H x = none ∧ H dx = none ∧ dx ≠ x ∧ Hx = upd (upd H dx (.own x)) x (.ins (Tb.oc c) dx []) ∧
  spF V_ np g vs' H (fun v H' => v = .ref x → Q .non H') E

def bltN : List Str := ["len", "int", "tuple", "list", "max", "min", "sorted", "all", "any", "sum", "repr", "dict", "abs", "isinstance", "range", "enumerate", "zip", "bool", "str", "ValueError"]
/-- an own exception is made: its fields -/
def ExcOk (V_ : Nv) (k : Nat) (x : Str) (X : Cx) : Prop := Gl X x → (x == ("__debug__" : Str)) = false → ∀ (y : Expr) (l : List Expr) (p pos : Pos) (ta : TA), PA X (y :: l) ta → starEach (y :: l) X.env = (false, eval y X.env) :: starEach l X.env → (backTo pos (starEach l X.env)).any (·.1) = false →
  PMk X (.Call (.Name x p) (y :: l) [] pos) (fun σ H Q => ta σ H fun vs H1 => vs.length = (V_.fl k).length ∧ ∀ d H2 kvs, (∀ b o, H1 b = some o → H2 b = some o) → H2 d = some (.xd kvs) → (∀ n v, ((V_.fl k).zip vs).lookup n = some v → kvs.lookup n = some v) → Q (.ref (V_.ca k)) (some d) H2)
structure Ge (G : GT) (V_ : Nv) (n : Nat) (P : Program) (w : World) (mg : Str → Option Value) (base : Heap) : Prop where
  blt : ∀ x, (bltN.any fun y => decide (x = y)) = true → mg x = none
  con : ∀ (k : Nat) (x : Str), G.cons[k]? = some x → ∃ d v u, V_.F.con[k]? = some d ∧ mg x = some u ∧ RelV v u ∧ ∀ H, Rp V_.K H d v
  fns : ∀ (f : Nat) (x : Str) (gd : Bool), G.fns[f]? = some (x, gd) → ∃ a fd ps, mg x = some (.ref a) ∧ PySem.W.keepIn V_.K (.ref a) = true ∧ Binds V_.K fd ps [] ∧ FnG P w V_.K mg base gd n a fd ps (spF V_ ps.length (V_.F.call f)) ∧
    ∀ rs S, V_.F.call f rs S = .bad ∨ (rs.length = ps.length ∧ ∀ r ∈ rs, argS r ≠ none)
  mts : ∀ (f c : Nat) (x : Str) (gd : Bool), (f, c, x, gd) ∈ G.mts → x ∉ Tb.ol c ∧ L2.Cls V_.K (Tb.oc c) ∧ ∃ a fd ps, L2.Meth V_.K (Tb.oc c) x a ∧ Binds V_.K fd ps [] ∧ FnG P w V_.K mg base gd n a fd ps (spF V_ ps.length (V_.F.call f)) ∧
    ∀ rs S, V_.F.call f rs S = .bad ∨ (rs.length = ps.length ∧ ∀ r ∈ rs, argS r ≠ none)
  mks : ∀ (c : Nat) (x : Str) (f : Nat) (gd : Bool), (c, x, f, gd) ∈ G.mks → ∃ a fd ps np n', n' + 1 ≤ n ∧ ps.length = np + 1 ∧ mg x = some (.ref (Tb.oc c)) ∧ L2.Mk V_.K (Tb.oc c) a ∧ Binds V_.K fd ps [] ∧ FnG P w V_.K mg base gd n' a fd ps (spNw V_ c np (V_.F.call f)) ∧
    ∀ rs S, V_.F.call f rs S = .bad ∨ (rs.length = np ∧ ∀ r ∈ rs, argS r ≠ none)
  ats : ∀ (c i : Nat) (x : Str), (c, i, x) ∈ G.ats → (Tb.ol c)[i]? = some x ∧ (Tb.ol c).Nodup ∧ L2.Cls V_.K (Tb.oc c) ∧ L2.NoAttr V_.K (Tb.oc c) x
/-- what the def that tells does: it calls, and makes lists of what is raised -/
def toldT (V_ : Nv) (ws : List (Nat × Str)) : (XK → Hp → VK → Prop) → Hp → VK → Prop := fun tl H Q =>
  tl (fun cls d H' => ∃ k w dd f v kvs, cls = .ref (V_.ca k) ∧ ws.lookup k = some w ∧ V_.fl k = [f] ∧ d = some dd ∧ H' dd = some (.xd kvs) ∧ kvs.lookup f = some v ∧ ∀ a, H' a = none → Q (.ref a) (upd H' a (.lst [.str w, v]))) H Q
def ToldOk (V_ : Nv) (n : Nat) (tn : Str) (ws : List (Nat × Str)) (X : Cx) : Prop :=
  ∀ (body : Expr) (scope : Scope) (p lpos pos : Pos) (t : XK → TE), LamX.LamS X.env.scope scope →
    (∀ (A : Around) (outer : List Env) (s : Shared) (H : Hp) (E : XK) (f c' : Addr), Room n (A.deeper (LamX.lamEnv X scope s.heap.objs.size f c')) → PE (LamX.lamCx X A outer s H E scope f c') body (t E)) →
    PE X (.Call (.Name tn p) [.Lambda ⟨[], [], none, [], [], none, []⟩ body scope lpos] [] pos) (LamX.tLam Tb.T (toldT V_ ws) t)
/-- the exceptions of the text -/
structure Gx (G : GT) (V_ : Nv) (P : Program) (w : World) (mg : Str → Option Value) (base : Heap) : Prop where
  exc : ∀ k x, G.excs[k]? = some x → ∀ X : Cx, X.prog = P → X.w = w → X.mg = mg → X.base = base → X.K = V_.K → X.calm = true → Room 2 X.A → ExcOk V_ k x X
  exn : ∀ k m, G.exn[k]? = some m → (V_.fl k).length = m ∧ (V_.fl k).Nodup
structure Gd (G : GT) (V_ : Nv) (n : Nat) (C : Cxs) (X : Cx) : Prop where
  N : X.N = C.N
  sc : X.env.scope = C.sc
  nd : C.N.Nodup
  fn : ∀ x, X.fn x = C.fn x
  calm : X.calm = true
  K : X.K = V_.K
  glob : Ge G V_ n X.prog X.w X.mg X.base
  room : Room (n + C.lm) X.A
  told : 2 ≤ C.lm → ToldOk V_ n G.tn G.ws X
  gs : C.gd = true → X.A.guards = some []

/-! ### the look -/
def vis (sc : Scope) (x : Str) : Bool := match sc.names.lookup x with
  | some .local => true | some .cell => true | some .free => true | _ => false
def glo (sc : Scope) (x : Str) : Bool := match sc.names.lookup x with
  | some .globalImplicit => true | _ => false
def chkN (C : Cxs) (i : Nat) (x : Str) : Bool := decide (C.N[i]? = some x) && vis C.sc x && !(x == ("__debug__" : Str)) && !(x == ("__classdict__" : Str))
def chkG (C : Cxs) (x : Str) : Bool := glo C.sc x && !(x == ("__debug__" : Str)) && decide (x ≠ "__name__")
def chkB (C : Cxs) (x y : Str) : Bool := decide (x = y) && chkG C x && (bltN.any fun z => decide (x = z))
def biN : Bi → Str
  | .len => "len" | .int_ => "int" | .tuple_ => "tuple" | .list_ => "list" | .max2 => "max" | .min2 => "min" | .max1 => "max" | .min1 => "min" | .sorted_ => "sorted"
  | .all_ => "all" | .any_ => "any" | .sum_ => "sum" | .repr_ => "repr" | .dict_ => "dict" | .abs_ => "abs"
def biK (C : Cxs) : Bi → Bool
  | .repr_ => C.gd
  | _ => true
def plainE : Expr → Bool
  | .Starred .. => false | .Slice .. => false | .Set .. => false | .NamedExpr .. => false | .Await .. => false | .Yield .. => false | .YieldFrom .. => false
  | .Lambda .. => false | .SetComp .. => false | .DictComp .. => false | .GeneratorExp .. => false | .JoinedStr .. => false | .FormattedValue .. => false
  | _ => true
/-- what an attribute is taken of -/
def plnO : Expr → Bool
  | .Name .. => true | .Attribute .. => true | .Subscript .. => true
  | _ => false
def Es.len : Es → Nat
  | .nil => 0
  | .cons _ es => es.len + 1
def chkTs (C : Cxs) : List Nat → List Expr → Bool
  | [], [] => true
  | i :: is, .Name x _ :: es => decide (C.N[i]? = some x) && (match C.sc.names.lookup x with
    | some .local => true
    | some .cell => C.fn x
    | _ => false) && chkTs C is es
  | _, _ => false
def chkTg (C : Cxs) : Tg → Expr → Bool
  | .nm i, e => chkTs C [i] [e]
  | .tp is, .Tuple es _ _ => chkTs C is es
  | _, _ => false
def isTup : Expr → Bool
  | .Tuple .. => true
  | _ => false
/-- the block of a comprehension -/
def blkS (C : Cxs) (scope : Scope) : Cxs := { C with sc := relS scope C.sc, fn := fun x => scope.names.lookup x == some .cell, lm := 0 }
/-- the body of a lambda -/
def lamS (C : Cxs) (scope : Scope) : Cxs := { C with sc := scope, fn := fun _ => false, gd := false, lm := 0 }
def tgIn (own : List Nat) : Tg → Bool
  | .nm i => decide (i ∈ own)
  | .tp is => is.all fun i => decide (i ∈ own)
def ownN (N : List Str) (own : List Nat) : List (Str × Nat) := own.map fun i => (N.getD i "", i)

def chkKs : List D → List (Option Expr) → Bool
  | [], [] => true
  | .int i :: r, some (.Constant (.int j) _ _) :: l => decide (i = j) && chkKs r l
  | .str i :: r, some (.Constant (.str j) _ _) :: l => decide (i = j) && chkKs r l
  | _, _ => false
mutual
def chkE (G : GT) (C : Cxs) : E → Expr → Bool
  | .var i, .Name x _ => chkN C i x
  | .non, .Constant .none _ _ => true
  | .bl b, .Constant (.bool c) _ _ => decide (b = c)
  | .int i, .Constant (.int j) _ _ => decide (i = j)
  | .str x, .Constant (.str y) _ _ => decide (x = y)
  | .con k, .Name x _ => decide (G.cons[k]? = some x) && chkG C x
  | .tup es, .Tuple l _ _ => chkEs G C es l && decide (es.len ≤ 1000)
  | .lst es, .List l _ => chkEs G C es l && decide (es.len ≤ 1000)
  | .edict, .Dict [] [] _ => true
  | .bin op a b, .BinOp x o y _ => decide (op = o) && chkE G C a x && chkE G C b y
  | .neg a, .UnaryOp .USub x _ => chkE G C a x
  | .cmp a cs, .Compare x ops l _ => chkE G C a x && chkCs G C cs ops l
  | .nott a, .UnaryOp .Not x _ => chkE G C a x
  | .bop an es, .BoolOp op l _ => decide ((op = .And) = (an = true)) && decide (1 ≤ es.len) && chkEs G C es l
  | .ite c a b, .IfExp x y z _ => chkE G C c x && chkE G C a y && chkE G C b z
  | .idx a i, .Subscript x y _ => chkE G C a x && chkE G C i y
  | .slc a lo hi, .Subscript x (.Slice l h none _) _ => chkE G C a x && chkO G C lo l && chkO G C hi h
  | .bi f es, .Call (.Name x _) l [] _ => chkB C x (biN f) && biK C f && decide (1 ≤ es.len) && chkEs G C es l
  | .isi t a, .Call (.Name x _) [y, .Name z _] [] _ => chkB C x "isinstance" && chkE G C a y && (["int", "bool", "tuple", "list", "str"].any fun s => decide (t = s) && decide (z = Str.ofString s) && (t == "int" || t == "bool" || t == "tuple" || t == "list" || t == "str")) && chkG C z && (bltN.any fun u => decide (z = u))
  | .call f es, .Call (.Name x _) l [] _ => (match G.fns[f]? with
    | some (y, gd) => decide (x = y) && (!gd || C.gd)
    | none => false) && chkG C x && chkEs G C es l
  | .comp own elt tg src it cond, .ListComp y [⟨t, i, ifs, z⟩] scope _ => decide (z = 0) && blkC C.N C.sc scope (ownN C.N own) && tgIn own tg && chkTg (blkS C scope) tg t && chkSrc G C src it i (isTup t) && chkI G (blkS C scope) cond ifs && chkE G (blkS C scope) elt y
  | .comp2 own own1 elt tg src it cond tg1 src1 it1 cond1, .ListComp y [⟨t, i, ifs, z⟩, ⟨t1, i1, ifs1, z1⟩] scope _ => decide (z = 0) && decide (z1 = 0) && blkC C.N C.sc scope (ownN C.N own) && (own1.all fun i => decide (i ∈ own)) && tgIn own tg && chkTg (blkS C scope) tg t && chkSrc G C src it i (isTup t) && chkI G (blkS C scope) cond ifs &&
      tgIn own1 tg1 && chkTg (blkS C scope) tg1 t1 && chkSrc G (blkS C scope) src1 it1 i1 (isTup t1) && chkI G (blkS C scope) cond1 ifs1 && chkE G (blkS C scope) elt y
  | .rev a, .Subscript x (.Slice none none (some (.UnaryOp .USub (.Constant (.int i) _ _) _)) _) _ => decide (i = 1) && chkE G C a x
  | .tzip a b, .Call (.Name t _) [.Call (.Name z _) [x, y] [] _] [] _ => chkB C t "tuple" && chkB C z "zip" && (plainE x && chkE G C a x && (plainE y && chkE G C b y))
  | .ddisp ks vs, .Dict keys l _ => chkKs ks keys && decide (ks.length = vs.len) && decide (1 ≤ ks.length) && decide (ks.length ≤ 15) && chkEs G C vs l
  | .lrng .rng1 (.cons a .nil), .Call (.Name t _) [.Call (.Name z _) [x] [] _] [] _ => chkB C t "list" && chkB C z "range" && (plainE x && chkE G C a x)
  | .lrng .rng2 (.cons a (.cons b .nil)), .Call (.Name t _) [.Call (.Name z _) [x, y] [] _] [] _ => chkB C t "list" && chkB C z "range" && (plainE x && chkE G C a x && (plainE y && chkE G C b y))
  | .att c a i, .Attribute x nm _ => (G.ats.any fun t => decide (t = (c, i, nm))) && plnO x && chkE G C a x
  | .mth c f a es, .Call (.Attribute x nm ap) l [] cp => (G.mts.any fun t => decide (t.1 = f ∧ t.2.1 = c ∧ t.2.2.1 = nm) && (!t.2.2.2 || C.gd)) && plnO x && ap.endLine == cp.line && decide (es.len ≤ 20) && chkE G C a x && chkEs G C es l
  | .new c f es, .Call (.Name x _) l [] _ => (G.mks.any fun t => decide (t.1 = c ∧ t.2.1 = x ∧ t.2.2.1 = f) && (!t.2.2.2 || C.gd)) && chkG C x && chkEs G C es l
  | .told ws a, .Call (.Name x _) [.Lambda ⟨[], [], none, [], [], none, []⟩ b scope _] [] _ => decide (2 ≤ C.lm) && decide (x = G.tn) && decide (ws = G.ws) && LamX.lamSB C.sc scope && chkE G (lamS C scope) a b
  | _, _ => false
def chkEs (G : GT) (C : Cxs) : Es → List Expr → Bool
  | .nil, [] => true
  | .cons e es, x :: l => plainE x && chkE G C e x && chkEs G C es l
  | _, _ => false
def chkO (G : GT) (C : Cxs) : Oe → Option Expr → Bool
  | .no, none => true
  | .so e, some x => chkE G C e x
  | _, _ => false
def chkI (G : GT) (C : Cxs) : Oe → List Expr → Bool
  | .no, [] => true
  | .so e, [x] => chkE G C e x
  | _, _ => false
def chkCs (G : GT) (C : Cxs) : Cs → List CmpOp → List Expr → Bool
  | .cons op e .nil, [o], [x] => decide (op = o) && plainE x && chkE G C e x
  | .cons op e cs, o :: os, x :: l => decide (op = o) && plainE x && chkE G C e x && chkCs G C cs os l
  | _, _, _ => false
def chkSrc (G : GT) (C : Cxs) : Src → Es → Expr → Bool → Bool
  | .dat, .cons e .nil, x, _ => plainE x && chkE G C e x
  | .rng1, .cons a .nil, .Call (.Name x _) [y] [] _, _ => chkB C x "range" && (plainE y && chkE G C a y)
  | .rng2, .cons a (.cons b .nil), .Call (.Name x _) [y, z] [] _, _ => chkB C x "range" && (plainE y && chkE G C a y && (plainE z && chkE G C b z))
  | .enum, .cons a .nil, .Call (.Name x _) [y] [] _, tp => chkB C x "enumerate" && (plainE y && chkE G C a y) && tp
  | _, _, _, _ => false
end

/-! ### what the look says -/
theorem vis_of {sc : Scope} {x : Str} (h : vis sc x = true) : Vis sc x := by
  unfold vis at h
  split at h
  · exact .inl (by assumption)
  · exact .inr (.inl (by assumption))
  · exact .inr (.inr (by assumption))
  · cases h
theorem glo_of {sc : Scope} {x : Str} (h : glo sc x = true) : sc.names.lookup x = some .globalImplicit := by
  unfold glo at h
  split at h
  · assumption
  · cases h
theorem star_of {x : Expr} {l : List Expr} {env : Env} (h : plainE x = true) : starEach (x :: l) env = (false, eval x env) :: starEach l env := by
  cases x <;> first | rfl | cases h
theorem mark_of {x : Expr} {op : CmpOp} (h : plainE x = true) : behindInMarks op x = false := by
  cases x <;> first | rfl | cases h
theorem plainIx_of {x : Expr} (h : plainE x = true) : PlainIx x := by
  intro o i
  cases x <;> first | rfl | cases h
theorem set_of_plain {x : Expr} {env : Env} (h : plainE x = true) : ∀ v, foldedSetIterable x env v = pure v := by
  intro v
  cases x <;> first | rfl | cases h
section
variable {G : GT} {V_ : Nv} {n : Nat} {C : Cxs} {X : Cx}
theorem chkE_plain : ∀ {e : E} {x : Expr}, chkE G C e x = true → plainE x = true := by
  intro e x h
  cases x <;> first | rfl | (cases e <;> simp [chkE] at h)
theorem chkEs_star {pos : Pos} {env : Env} : ∀ {es : Es} {l : List Expr}, chkEs G C es l = true → (backTo pos (starEach l env)).any (·.1) = false
  | .nil, [], _ => rfl
  | .cons e es, x :: l, h => by
    unfold chkEs at h
    simp only [Bool.and_eq_true] at h
    rw [star_of h.1.1]
    show ((false : Bool) || (backTo pos (starEach l env)).any (·.1)) = false
    rw [chkEs_star h.2]
    rfl
  | .nil, _ :: _, h => by simp [chkEs] at h
  | .cons _ _, [], h => by simp [chkEs] at h
theorem chkEs_len : ∀ {es : Es} {l : List Expr}, chkEs G C es l = true → l.length = es.len
  | .nil, [], _ => rfl
  | .cons e es, x :: l, h => by
    unfold chkEs at h
    simp only [Bool.and_eq_true] at h
    rw [List.length_cons, chkEs_len h.2]
    rfl
  | .nil, _ :: _, h => by simp [chkEs] at h
  | .cons _ _, [], h => by simp [chkEs] at h
theorem Gd.gl (g : Gd G V_ n C X) {x : Str} (h : chkG C x = true) : Gl X x ∧ (x == ("__debug__" : Str)) = false ∧ x ≠ "__name__" := by
  unfold chkG at h
  simp only [Bool.and_eq_true, Bool.not_eq_true', decide_eq_true_eq] at h
  refine ⟨?_, h.1.2, h.2⟩
  show X.env.scope.names.lookup x = _
  rw [g.sc]
  exact glo_of h.1.1
theorem Gd.bl (g : Gd G V_ n C X) {x y : Str} (h : chkB C x y = true) : x = y ∧ Gl X x ∧ (x == ("__debug__" : Str)) = false ∧ x ≠ "__name__" ∧ X.mg x = none := by
  unfold chkB at h
  simp only [Bool.and_eq_true, decide_eq_true_eq] at h
  obtain ⟨a, b, c⟩ := g.gl h.1.2
  exact ⟨h.1.1, a, b, c, g.glob.blt _ h.2⟩
end
end Vy
set_option Elab.async false
set_option linter.all false
set_option maxRecDepth 100000
set_option maxHeartbeats 4000000
namespace Vy
open PySem PySem.Spec L2
variable [Tb]

section
variable (V_ : Nv) (W : WX)
def okT (m os : List Addr) (env : Ev) (σ : L2.St) (H : Hp) (Q : Bool → Hp → Prop) (b : Bool) (S' : Sto) : Prop :=
  ∀ m' H', Stp m m' H H' → Rel V_.K m' os env S' σ H' → Q b H'
/-- a test's reading -/
def dT (e : E) : TT := fun σ H Q => ∃ m os env S, Rel V_.K m os env S σ H ∧ PX (okT V_ m os env σ H Q) (exW V_ W m os env σ H) ((evE V_.F e env S).bind fun x S => opt S (truR S x))
def okL (m os : List Addr) (env : Ev) (σ : L2.St) (H : Hp) (Q : List V → Hp → Prop) (rs : List R) (S' : Sto) : Prop :=
  ∀ m' vs H', Stp m m' H H' → Rel V_.K m' os env S' σ H' → RpL V_.K m' os H' rs vs → Q vs H'
def okF (m os : List Addr) (env : Ev) (σ : L2.St) (H : Hp) (Q : List V → Hp → Prop) (ds : List D) (S' : Sto) : Prop :=
  ∀ m' vs H', Stp m m' H H' → Rel V_.K m' os env S' σ H' → RpA V_.K H' ds vs → Q vs H'
def dEs (es : Es) : TA := fun σ H Q => ∃ m os env S, Rel V_.K m os env S σ H ∧ PX (okL V_ m os env σ H Q) (exW V_ W m os env σ H) (evEs V_.F es env S)
def dFz (es : Es) : TA := fun σ H Q => ∃ m os env S, Rel V_.K m os env S σ H ∧ PX (okF V_ m os env σ H Q) (exW V_ W m os env σ H) (evFz V_.F es env S)
def dAr (es : Es) : TA := fun σ H Q => ∃ m os env S, Rel V_.K m os env S σ H ∧ PX (okL V_ m os env σ H Q) (exW V_ W m os env σ H) (evAr V_.F es env S)
def dBop (an : Bool) (es : Es) : TE := fun σ H Q => ∃ m os env S, Rel V_.K m os env S σ H ∧ PE_ V_ W m os env σ H Q (evBop V_.F an es env S)
def dBopT (an : Bool) (es : Es) : TT := fun σ H Q => ∃ m os env S, Rel V_.K m os env S σ H ∧ PX (okT V_ m os env σ H Q) (exW V_ W m os env σ H) ((evBop V_.F an es env S).bind fun x S => opt S (truR S x))
def dO (o : Oe) : TO := fun σ H Q => ∃ m os env S, Rel V_.K m os env S σ H ∧
  PX (fun i S' => ∀ m' H', Stp m m' H H' → Rel V_.K m' os env S' σ H' → Q i H') (exW V_ W m os env σ H) (evOe V_.F o env S)
def dI (o : Oe) : TT := fun σ H Q => ∃ m os env S, Rel V_.K m os env S σ H ∧ PX (okT V_ m os env σ H Q) (exW V_ W m os env σ H) (evOb V_.F o env S)
def dC (cs : Cs) (x : V) : TE := fun σ H Q => ∃ m os env S H0 r, Rel V_.K m os env S σ H ∧ RpR V_.K m os H0 H r x ∧ PE_ V_ W m os env σ H Q (evCs V_.F r cs env S)
def dCT (cs : Cs) (x : V) : TT := fun σ H Q => ∃ m os env S H0 r, Rel V_.K m os env S σ H ∧ RpR V_.K m os H0 H r x ∧ PX (okT V_ m os env σ H Q) (exW V_ W m os env σ H) ((evCs V_.F r cs env S).bind fun x S => opt S (truR S x))
end
theorem _root_.L2.PT.imp {X : Cx} {e : Expr} {t t' : TT} (h : PT X e t) (i : ∀ σ H Q, t' σ H Q → t σ H Q) : PT X e t' := ⟨fun pins s σ H Q I q => h.run pins s σ H Q I (i σ H Q q)⟩
theorem _root_.L2.PW.imp {X : Cx} {e : Expr} {t t' : TT} (h : PW X e t) (i : ∀ σ H Q, t' σ H Q → t σ H Q) : PW X e t' := ⟨fun wh pins s σ H Q I q => h.run wh pins s σ H Q I (i σ H Q q)⟩
theorem _root_.L2.PA.imp {X : Cx} {e : List Expr} {t t' : TA} (h : PA X e t) (i : ∀ σ H Q, t' σ H Q → t σ H Q) : PA X e t' := ⟨fun p pins s σ H Q I q => h.run p pins s σ H Q I (i σ H Q q)⟩
theorem _root_.L2.PO.imp {X : Cx} {e : Option Expr} {t t' : TO} (h : PO X e t) (i : ∀ σ H Q, t' σ H Q → t σ H Q) : PO X e t' := ⟨fun pins s σ H Q I q => h.run pins s σ H Q I (i σ H Q q)⟩
theorem _root_.L2.PTs.imp {X : Cx} {e : List Expr} {t t' : TT} (h : PTs X e t) (i : ∀ σ H Q, t' σ H Q → t σ H Q) : PTs X e t' := ⟨fun pins s σ H Q I q => h.run pins s σ H Q I (i σ H Q q)⟩

section
variable {V_ : Nv} {W : WX} {m m1 os : List Addr} {env : Ev} {σ : L2.St} {H H1 : Hp} {S : Sto}
theorem okT.step {Q : Bool → Hp → Prop} (s : Stp m m1 H H1) {b : Bool} {S' : Sto} (h : okT V_ m os env σ H Q b S') : okT V_ m1 os env σ H1 Q b S' := fun m' H' s' rel => h m' H' (s.trans s') rel
theorem okL.step {Q : List V → Hp → Prop} (s : Stp m m1 H H1) {b : List R} {S' : Sto} (h : okL V_ m os env σ H Q b S') : okL V_ m1 os env σ H1 Q b S' := fun m' vs H' s' rel => h m' vs H' (s.trans s') rel
theorem okF.step {Q : List V → Hp → Prop} (s : Stp m m1 H H1) {b : List D} {S' : Sto} (h : okF V_ m os env σ H Q b S') : okF V_ m1 os env σ H1 Q b S' := fun m' vs H' s' rel => h m' vs H' (s.trans s') rel
theorem RpL.step {K : PySem.W.Frag} {rs : List R} {vs : List V} (h : RpL K m os H rs vs) (s : Stp m m1 H H1) : RpL K m1 os H1 rs vs := by
  induction h with
  | nil => exact .nil
  | cons r _ ih => exact .cons (r.step s) ih
/-- one part as a test -/
theorem ev1T {e : E} {α : Type} {k : Bool → Sto → Res α} {ok : α → Sto → Prop} {Q' : Bool → Hp → Prop} (rel : Rel V_.K m os env S σ H) (post : PX ok (exW V_ W m os env σ H) (((evE V_.F e env S).bind fun x S => opt S (truR S x)).bind k))
    (hk : ∀ b S1 m1 H1, Stp m m1 H H1 → Rel V_.K m1 os env S1 σ H1 → PX ok (exW V_ W m1 os env σ H1) (k b S1) → Q' b H1) : dT V_ W e σ H Q' :=
  ⟨m, os, env, S, rel, PX.mono (PX.bind post) (fun r S1 z m1 H1 s1 rel1 => hk r S1 m1 H1 s1 rel1 (PX.mono z (fun _ _ y => y) fun _ _ _ y => y.step s1)) fun _ _ _ z => z⟩
theorem ev1F {es : Es} {α : Type} {k : List D → Sto → Res α} {ok : α → Sto → Prop} {Q' : List V → Hp → Prop} (rel : Rel V_.K m os env S σ H) (post : PX ok (exW V_ W m os env σ H) ((evFz V_.F es env S).bind k))
    (hk : ∀ ds S1 m1 vs H1, Stp m m1 H H1 → Rel V_.K m1 os env S1 σ H1 → RpA V_.K H1 ds vs → PX ok (exW V_ W m1 os env σ H1) (k ds S1) → Q' vs H1) : dFz V_ W es σ H Q' :=
  ⟨m, os, env, S, rel, PX.mono (PX.bind post) (fun r S1 z m1 v H1 s1 rel1 rp1 => hk r S1 m1 v H1 s1 rel1 rp1 (PX.mono z (fun _ _ y => y) fun _ _ _ y => y.step s1)) fun _ _ _ z => z⟩
theorem ev1L {es : Es} {α : Type} {k : List R → Sto → Res α} {ok : α → Sto → Prop} {Q' : List V → Hp → Prop} (rel : Rel V_.K m os env S σ H) (post : PX ok (exW V_ W m os env σ H) ((evEs V_.F es env S).bind k))
    (hk : ∀ ds S1 m1 vs H1, Stp m m1 H H1 → Rel V_.K m1 os env S1 σ H1 → RpL V_.K m1 os H1 ds vs → PX ok (exW V_ W m1 os env σ H1) (k ds S1) → Q' vs H1) : dEs V_ W es σ H Q' :=
  ⟨m, os, env, S, rel, PX.mono (PX.bind post) (fun r S1 z m1 v H1 s1 rel1 rp1 => hk r S1 m1 v H1 s1 rel1 rp1 (PX.mono z (fun _ _ y => y) fun _ _ _ y => y.step s1)) fun _ _ _ z => z⟩
theorem ev1A {es : Es} {α : Type} {k : List R → Sto → Res α} {ok : α → Sto → Prop} {Q' : List V → Hp → Prop} (rel : Rel V_.K m os env S σ H) (post : PX ok (exW V_ W m os env σ H) ((evAr V_.F es env S).bind k))
    (hk : ∀ ds S1 m1 vs H1, Stp m m1 H H1 → Rel V_.K m1 os env S1 σ H1 → RpL V_.K m1 os H1 ds vs → PX ok (exW V_ W m1 os env σ H1) (k ds S1) → Q' vs H1) : dAr V_ W es σ H Q' :=
  ⟨m, os, env, S, rel, PX.mono (PX.bind post) (fun r S1 z m1 v H1 s1 rel1 rp1 => hk r S1 m1 v H1 s1 rel1 rp1 (PX.mono z (fun _ _ y => y) fun _ _ _ y => y.step s1)) fun _ _ _ z => z⟩
theorem evFz_len0 {F : FT} : ∀ (es : Es) (env : Ev) (S : Sto) (ds : List D) (S' : Sto), evFz F es env S = .ok ds S' → ds.length = es.len
  | .nil, env, S, ds, S', h => by simp [evFz] at h; obtain ⟨rfl, _⟩ := h; rfl
  | .cons e es, env, S, ds, S', h => by
    unfold evFz at h
    cases h1 : evE F e env S with
    | bad => simp [h1] at h
    | exc => simp [h1] at h
    | ok x S1 =>
      simp only [h1, Res.bind] at h
      cases h2 : fz x with
      | none => simp [h2] at h
      | some d =>
        simp only [h2, opt, Res.bind] at h
        cases h3 : evFz F es env S1 with
        | bad => simp [h3] at h
        | exc => simp [h3] at h
        | ok ds2 S2 =>
          simp only [h3, Res.bind] at h
          cases h
          show ds2.length + 1 = es.len + 1
          rw [evFz_len0 es env S1 ds2 S' h3]
theorem evFz_len {F : FT} {ok : List D → Sto → Prop} {ex : Nat → List D → Sto → Prop} : ∀ {es : Es} {env : Ev} {S : Sto}, PX ok ex (evFz F es env S) → PX (fun ds S => ds.length = es.len ∧ ok ds S) ex (evFz F es env S) := by
  intro es
  intro env S h
  cases h1 : evFz F es env S with
  | bad => rw [h1] at h; exact h
  | exc => rw [h1] at h; exact h
  | ok ds S' => rw [h1] at h; exact ⟨evFz_len0 es env S ds S' h1, h⟩
end

section
variable (G : GT) (V_ : Nv) (n : Nat)
def SE (e : E) : Prop := ∀ (X : Cx) (C : Cxs) (a : Expr) (W : WX), Gd G V_ n C X → Takes X W → chkE G C e a = true → PE X a (dE V_ W e) ∧ PT X a (dT V_ W e)
def SL (es : Es) : Prop := ∀ (X : Cx) (C : Cxs) (l : List Expr) (W : WX), Gd G V_ n C X → Takes X W → chkEs G C es l = true → PA X l (dEs V_ W es) ∧ PA X l (dFz V_ W es) ∧ PA X l (dAr V_ W es) ∧
  ∀ (an : Bool) (op : BoolOp) (pos : Pos), ((op = .And) = (an = true)) → 1 ≤ es.len → PE X (.BoolOp op l pos) (dBop V_ W an es) ∧ PW X (.BoolOp op l pos) (dBopT V_ W an es)
def SO (o : Oe) : Prop := (∀ (X : Cx) (C : Cxs) (a : Option Expr) (W : WX), Gd G V_ n C X → Takes X W → chkO G C o a = true → PO X a (dO V_ W o)) ∧
  ∀ (X : Cx) (C : Cxs) (a : List Expr) (W : WX), Gd G V_ n C X → Takes X W → chkI G C o a = true → PTs X a (dI V_ W o)
def SC (cs : Cs) : Prop := ∀ (X : Cx) (C : Cxs) (ops : List CmpOp) (l : List Expr) (W : WX), Gd G V_ n C X → Takes X W → chkCs G C cs ops l = true →
  (∀ (pos : Pos) (pins : List (Addr × Obj)) (s : Shared) (σ : L2.St) (H : Hp) (v : Value) (x : V) (Q : VK), L2.Inv X pins σ H s → RelV x v → dC V_ W cs x σ H Q → wpAny (model X.prog X.w) X.A (compareChain pos v ops (evalEach l X.env)) (EP X pins σ Q) X.xe s) ∧
  (∀ (pos : Pos) (pins : List (Addr × Obj)) (s : Shared) (σ : L2.St) (H : Hp) (v : Value) (x : V) (Q : Bool → Hp → Prop), L2.Inv X pins σ H s → RelV x v → dCT V_ W cs x σ H Q → wpAny (model X.prog X.w) X.A (testChain pos v ops (evalEach l X.env)) (TP X pins σ Q) X.xe s)
end

/-- where the test is the value's truth -/
theorem test_plain {X : Cx} {V_ : Nv} {W : WX} {e : E} {a : Expr} (hK : X.K = V_.K) (h : PE X a (dE V_ W e)) (he : ∀ whole, isTrue a X.env whole = (do let v ← whole; standAt a.pos; holding [v] (truthy v))) : PT X a (dT V_ W e) := by
  refine (pt_truth h he).imp fun σ H Q q => ?_
  obtain ⟨m, os, env, S, rel, post⟩ := q
  refine ev1 rel post fun r S1 m1 v H1 s1 rel1 rp1 post1 => ?_
  obtain ⟨b, e1, ok⟩ := PX.got post1
  rw [hK]
  exact ⟨b, tru_val rel1 rp1 e1, ok m1 H1 s1 rel1⟩
section
variable {G : GT} {V_ : Nv} {n : Nat} {C : Cxs} {X : Cx} {W : WX}
theorem pair {a : Expr} {e : E} (g : Gd G V_ n C X) (h : PE X a (dE V_ W e)) (he : ∀ whole, isTrue a X.env whole = (do let v ← whole; standAt a.pos; holding [v] (truthy v))) : PE X a (dE V_ W e) ∧ PT X a (dT V_ W e) := ⟨h, test_plain g.K h he⟩

theorem se_var (i : Nat) : SE G V_ n (.var i) := by
  intro X C a W g tk h
  cases a <;> try (simp [chkE] at h; done)
  rename_i x pos
  simp only [chkE, chkN, Bool.and_eq_true, Bool.not_eq_true', decide_eq_true_eq] at h
  obtain ⟨⟨⟨h1, h2⟩, h3⟩, h4⟩ := h
  refine pair g ((pe_var (i := i) (by rw [g.N]; exact h1) (by rw [g.sc]; exact vis_of h2) h3 h4).imp fun σ H Q q => ?_) (fun _ => rfl)
  obtain ⟨m, os, env, S, rel, post⟩ := q
  unfold evE at post
  cases he : env[i]? with
  | none => simp only [he] at post; exact post.elim
  | some s =>
    obtain ⟨o, as, o1, o2, e1, r, e2, _⟩ := rel.sl.at_ he
    simp only [he] at post
    cases r with
    | no o => exact post.elim
    | p r => exact ⟨_, e1, post m _ H (Stp.refl m H) rel (.p r)⟩
    | ref q => exact ⟨_, e1, post m _ H (Stp.refl m H) rel (.ref q)⟩
    | obj q => exact ⟨_, e1, post m _ H (Stp.refl m H) rel (.obj q)⟩
    | own c =>
      refine ⟨_, e1, post m _ H (Stp.refl m H) rel (.bw (fun z => ?_) (by rw [e2]; simp) c)⟩
      exact (List.nodup_append.mp rel.nd).2.2 _ z _ (by rw [e2]; simp) rfl
theorem se_non : SE G V_ n .non := by
  intro X C a W g tk h
  cases a <;> try (simp [chkE] at h; done)
  rename_i c k pos
  cases c <;> try (simp [chkE] at h; done)
  refine pair g (pe_non.imp fun σ H Q q => ?_) (fun _ => rfl)
  obtain ⟨m, os, env, S, rel, post⟩ := q
  exact okE.data post rel .non
theorem se_bl (b : Bool) : SE G V_ n (.bl b) := by
  intro X C a W g tk h
  cases a <;> try (simp [chkE] at h; done)
  rename_i c k pos
  cases c <;> try (simp [chkE] at h; done)
  simp only [chkE, decide_eq_true_eq] at h
  subst h
  refine pair g (pe_bl.imp fun σ H Q q => ?_) (fun _ => rfl)
  obtain ⟨m, os, env, S, rel, post⟩ := q
  exact okE.data post rel (.bl _)
theorem se_int (i : Int) : SE G V_ n (.int i) := by
  intro X C a W g tk h
  cases a <;> try (simp [chkE] at h; done)
  rename_i c k pos
  cases c <;> try (simp [chkE] at h; done)
  simp only [chkE, decide_eq_true_eq] at h
  subst h
  refine pair g (pe_int.imp fun σ H Q q => ?_) (fun _ => rfl)
  obtain ⟨m, os, env, S, rel, post⟩ := q
  exact okE.data post rel (.int _)
theorem se_str (i : Str) : SE G V_ n (.str i) := by
  intro X C a W g tk h
  cases a <;> try (simp [chkE] at h; done)
  rename_i c k pos
  cases c <;> try (simp [chkE] at h; done)
  simp only [chkE, decide_eq_true_eq] at h
  subst h
  refine pair g (pe_str.imp fun σ H Q q => ?_) (fun _ => rfl)
  obtain ⟨m, os, env, S, rel, post⟩ := q
  exact okE.data post rel (.str _)
theorem se_con (k : Nat) : SE G V_ n (.con k) := by
  intro X C a W g tk h
  cases a <;> try (simp [chkE] at h; done)
  rename_i x pos
  simp only [chkE, Bool.and_eq_true, decide_eq_true_eq] at h
  obtain ⟨gl, h2, h3⟩ := g.gl h.2
  obtain ⟨d, v, u, e1, e2, e3, e4⟩ := g.glob.con k x h.1
  refine pair g ((pe_glob gl e2 e3 h2).imp fun σ H Q q => ?_) (fun _ => rfl)
  obtain ⟨m, os, env, S, rel, post⟩ := q
  unfold evE at post
  simp only [e1, Option.map_some, opt] at post
  exact okE.data post rel (e4 H)
theorem se_edict : SE G V_ n .edict := by
  intro X C a W g tk h
  cases a <;> try (simp [chkE] at h; done)
  rename_i ks vs pos
  cases ks <;> try (simp [chkE] at h; done)
  cases vs <;> try (simp [chkE] at h; done)
  refine pair g (pe_dnewK.imp fun σ H Q q => ?_) (fun _ => rfl)
  obtain ⟨m, os, env, S, rel, post⟩ := q
  exact fun p n => okE.newD post rel .nil n
theorem se_tup {es : Es} (hs : SL G V_ n es) : SE G V_ n (.tup es) := by
  intro X C a W g tk h
  cases a <;> try (simp [chkE] at h; done)
  rename_i l k pos
  simp only [chkE, Bool.and_eq_true, decide_eq_true_eq] at h
  obtain ⟨_, hf, _⟩ := hs X C l W g tk h.1
  refine pair g ((pe_tup hf).imp fun σ H Q q => ?_) (fun _ => rfl)
  obtain ⟨m, os, env, S, rel, post⟩ := q
  unfold evE at post
  refine ⟨m, os, env, S, rel, PX.mono (evFz_len (PX.bind post)) (fun ds S1 z m1 vs H1 s1 rel1 rp => ?_) fun _ _ _ z => z⟩
  have hl := rp.len
  refine ⟨by rw [← hl, z.1, sizeLine_eq]; have := h.2; omega, fun p n => okE.newT (okE.step s1 z.2) rel1 rp n⟩
theorem se_lst {es : Es} (hs : SL G V_ n es) : SE G V_ n (.lst es) := by
  intro X C a W g tk h
  cases a <;> try (simp [chkE] at h; done)
  rename_i l pos
  simp only [chkE, Bool.and_eq_true, decide_eq_true_eq] at h
  obtain ⟨_, hf, _⟩ := hs X C l W g tk h.1
  refine pair g ((pe_lst hf).imp fun σ H Q q => ?_) (fun _ => rfl)
  obtain ⟨m, os, env, S, rel, post⟩ := q
  unfold evE at post
  refine ⟨m, os, env, S, rel, PX.mono (evFz_len (PX.bind post)) (fun ds S1 z m1 vs H1 s1 rel1 rp => ?_) fun _ _ _ z => z⟩
  have hl := rp.len
  refine ⟨by rw [← hl, z.1, sizeLine_eq]; have := h.2; omega, fun p n => okE.newL (okE.step s1 z.2) rel1 rp n⟩
theorem se_bin {op : Operator} {a b : E} (ha : SE G V_ n a) (hb : SE G V_ n b) : SE G V_ n (.bin op a b) := by
  intro X C x W g tk h
  cases x <;> try (simp [chkE] at h; done)
  rename_i x o y pos
  simp only [chkE, Bool.and_eq_true, decide_eq_true_eq] at h
  obtain ⟨⟨h0, h1⟩, h2⟩ := h
  subst h0
  have pa := (ha X C x W g tk h1).1
  have pb := (hb X C y W g tk h2).1
  refine pair g ((pe_op (op_all op) pa pb).imp fun σ H Q q => ?_) (fun _ => rfl)
  obtain ⟨m, os, env, S, rel, post⟩ := q
  unfold evE at post
  refine ev1 rel post fun r1 S1 m1 v1 H1 s1 rel1 rp1 post1 => ev1 rel1 post1 fun r2 S2 m2 v2 H2 s2 rel2 rp2 post2 => ?_
  obtain ⟨r, e, ok⟩ := PX.got post2
  rw [g.K]
  exact bin_val rel2 (rp1.step s2) rp2 e (okE.step (s1.trans s2) ok)
theorem se_neg {a : E} (ha : SE G V_ n a) : SE G V_ n (.neg a) := by
  intro X C x W g tk h
  cases x <;> try (simp [chkE] at h; done)
  rename_i op x pos
  cases op <;> try (simp [chkE] at h; done)
  simp only [chkE] at h
  refine pair g ((pe_un un_neg (ha X C x W g tk h).1).imp fun σ H Q q => ?_) (fun _ => rfl)
  obtain ⟨m, os, env, S, rel, post⟩ := q
  unfold evE at post
  refine ev1 rel post fun r1 S1 m1 v1 H1 s1 rel1 rp1 post1 => ?_
  split at post1
  · rename_i i
    exact ⟨i, rp1.isInt, okE.data (okE.step s1 post1) rel1 (.int _)⟩
  · exact post1.elim
theorem se_idx {a i : E} (ha : SE G V_ n a) (hi : SE G V_ n i) : SE G V_ n (.idx a i) := by
  intro X C x W g tk h
  cases x <;> try (simp [chkE] at h; done)
  rename_i x y pos
  simp only [chkE, Bool.and_eq_true] at h
  have pa := (ha X C x W g tk h.1).1
  have pb := (hi X C y W g tk h.2).1
  have hu := g.room.units
  refine pair g ((pe_ix (ix_all (by omega)) pa pb (plainIx_of (chkE_plain h.2))).imp fun σ H Q q => ?_) (fun _ => rfl)
  obtain ⟨m, os, env, S, rel, post⟩ := q
  unfold evE at post
  refine ev1 rel post fun r1 S1 m1 v1 H1 s1 rel1 rp1 post1 => ev1 rel1 post1 fun r2 S2 m2 v2 H2 s2 rel2 rp2 post2 => ?_
  obtain ⟨r, e, ok⟩ := PX.got post2
  rw [g.K]
  exact idx_val rel2 (rp1.step s2) rp2 e (okE.step (s1.trans s2) ok)
theorem se_nott {a : E} (ha : SE G V_ n a) : SE G V_ n (.nott a) := by
  intro X C x W g tk h
  cases x <;> try (simp [chkE] at h; done)
  rename_i op x pos
  cases op <;> try (simp [chkE] at h; done)
  simp only [chkE] at h
  obtain ⟨pa, pt⟩ := ha X C x W g tk h
  refine ⟨(pe_notT pa).imp fun σ H Q q => ?_, (pt_not pt).imp fun σ H Q q => ?_⟩
  · obtain ⟨m, os, env, S, rel, post⟩ := q
    unfold evE at post
    refine ev1 rel post fun r1 S1 m1 v1 H1 s1 rel1 rp1 post1 => ?_
    obtain ⟨b, e, ok⟩ := PX.obind post1
    rw [g.K]
    exact ⟨b, tru_val rel1 rp1 e, okE.data (okE.step s1 ok) rel1 (.bl _)⟩
  · obtain ⟨m, os, env, S, rel, post⟩ := q
    unfold evE at post
    refine ⟨m, os, env, S, rel, ?_⟩
    cases h1 : evE V_.F a env S with
    | bad => simp [h1, PX] at post
    | exc c fs S1 => simp only [h1, Res.bind] at post ⊢; exact post
    | ok r S1 =>
      simp only [h1, Res.bind] at post ⊢
      cases h2 : truR S1 r with
      | none => simp [h2, PX] at post
      | some b =>
        simp only [h2, opt, Res.bind] at post ⊢
        exact post
theorem se_ite {c a b : E} (hc : SE G V_ n c) (ha : SE G V_ n a) (hb : SE G V_ n b) : SE G V_ n (.ite c a b) := by
  intro X C x W g tk h
  cases x <;> try (simp [chkE] at h; done)
  rename_i x y z pos
  simp only [chkE, Bool.and_eq_true] at h
  obtain ⟨pc, tc⟩ := hc X C x W g tk h.1.1
  obtain ⟨pa, ta⟩ := ha X C y W g tk h.1.2
  obtain ⟨pb, tb⟩ := hb X C z W g tk h.2
  have res : ∀ {α : Type} (e : Ev) (S : Sto) (k : R → Sto → Res α), (evE V_.F (.ite c a b) e S).bind k = ((evE V_.F c e S).bind fun x S => opt S (truR S x)).bind fun t S => if t = true then (evE V_.F a e S).bind k else (evE V_.F b e S).bind k := by
    intro α e S k
    conv => lhs; unfold evE
    cases evE V_.F c e S with
    | bad => rfl
    | exc => rfl
    | ok r S1 =>
      simp only [Res.bind]
      cases truR S1 r with
      | none => rfl
      | some t => cases t <;> rfl
  refine ⟨(pe_ifExp tc pa pb).imp fun σ H Q q => ?_, ⟨fun pins s σ H Q I q => ?_⟩⟩
  · obtain ⟨m, os, env, S, rel, post⟩ := q
    have post' : PE_ V_ W m os env σ H Q ((evE V_.F (.ite c a b) env S).bind fun x S => .ok x S) := by
      cases h1 : evE V_.F (.ite c a b) env S <;> (rw [h1] at post; exact post)
    rw [res] at post'
    refine ev1T rel post' fun t S1 m1 H1 s1 rel1 post1 => ?_
    cases t with
    | true =>
      rw [if_pos rfl]
      rw [if_pos rfl] at post1
      refine ⟨m1, os, env, S1, rel1, ?_⟩
      cases h1 : evE V_.F a env S1 <;> (rw [h1] at post1; first | exact post1 | exact okE.step s1 post1)
    | false =>
      rw [if_neg (by decide)]
      rw [if_neg (by decide)] at post1
      refine ⟨m1, os, env, S1, rel1, ?_⟩
      cases h1 : evE V_.F b env S1 <;> (rw [h1] at post1; first | exact post1 | exact okE.step s1 post1)
  · have e : isTrue (.IfExp x y z pos) X.env (eval (.IfExp x y z pos) X.env) = (do if ← isTrue x X.env (eval x X.env) then isTrue y X.env (eval y X.env) else isTrue z X.env (eval z X.env)) := rfl
    rw [e]
    obtain ⟨m, os, env, S, rel, post⟩ := q
    rw [res] at post
    refine wpAny_bind (thn (tc.run pins s σ H (fun t H1 => if t = true then dT V_ W a σ H1 Q else dT V_ W b σ H1 Q) I (ev1T rel post fun t S1 m1 H1 s1 rel1 post1 => ?_)) fun t s1 ⟨H1, I1, q1⟩ => ?_)
    · cases t with
      | true =>
        rw [if_pos rfl] at post1 ⊢
        exact ⟨m1, os, env, S1, rel1, PX.mono post1 (fun _ _ z => okT.step s1 z) fun _ _ _ z => z⟩
      | false =>
        rw [if_neg (by decide)] at post1 ⊢
        exact ⟨m1, os, env, S1, rel1, PX.mono post1 (fun _ _ z => okT.step s1 z) fun _ _ _ z => z⟩
    · cases t with
      | true => exact ta.run pins s1 σ H1 Q I1 q1
      | false => exact tb.run pins s1 σ H1 Q I1 q1
end
end Vy
set_option Elab.async false
set_option linter.all false
set_option maxRecDepth 100000
set_option maxHeartbeats 4000000
namespace Vy
open PySem PySem.Spec L2
variable [Tb]

section
variable {V_ : Nv} {W : WX} {m m1 os : List Addr} {env : Ev} {σ : L2.St} {H H1 : Hp} {S : Sto}
/-- given as an argument -/
theorem lk_arg {Q : VK} {r r' : R} {v : V} (s : Stp m m1 H H1) (rel : Rel V_.K m1 os env S σ H1) (rp : RpR V_.K m1 os H H1 r v) (e : argR r = some r')
    (h : ∀ H2, Stp m m1 H H2 → Rel V_.K m1 os env S σ H2 → RpR V_.K m1 [] H H2 r' v → Q v H2) : Lk Q v H1 := by
  cases rp with
  | p q => cases e; exact .inl (h _ s rel (.p q))
  | nl a b c q =>
    cases e
    exact lk_of s rel (.nl a b c q) rfl fun H2 s2 rel2 rp2 => h H2 s2 rel2 (.p rp2)
  | nd a b c q => cases e
  | nT a b c q => cases e
  | bw b c q => cases e
  | ref q => cases e; exact .inl (h _ s rel (.ref q))
  | obj q => cases e; exact .inl (h _ s rel (.obj q))
theorem Rel.os_nd (h : Rel V_.K m os env S σ H) : os.Nodup := (List.nodup_append.mp h.nd).2.1
theorem Rel.m_nd (h : Rel V_.K m os env S σ H) : m.Nodup := (List.nodup_append.mp h.nd).1
/-- behind a call -/
theorem Rel.after {S' : Sto} (h : Rel V_.K m os env S σ H) (s : Stp m m1 H H1) (c : Cells V_.K H1 S' m1) (nd : m1.Nodup) : Rel V_.K m1 os env S' σ H1 :=
  h.step s c (List.nodup_append.mpr ⟨nd, h.os_nd, fun a ha b hb e => by
    subst e
    rcases s.new a ha with z | z
    · exact (List.nodup_append.mp h.nd).2.2 a z a hb rfl
    · exact h.sl.some hb z⟩)
theorem RpR.reos {r : R} {v : V} (rel : Rel V_.K m os env S σ H) (h : RpR V_.K m1 [] H H1 r v) : RpR V_.K m1 os H H1 r v := by
  cases h with
  | p q => exact .p q
  | nl a b c d => exact .nl a b (rel.offO a) d
  | nd a b c d => exact .nd a b (rel.offO a) d
  | nT a b c d => exact .nT a b (rel.offO a) d
  | bw b c d => exact absurd c (by simp)
  | ref q => exact .ref q
  | obj q => exact .obj q
theorem RpL.len {K : PySem.W.Frag} {rs : List R} {vs : List V} (h : RpL K m os H rs vs) : rs.length = vs.length := by
  induction h with
  | nil => rfl
  | cons _ _ ih => simp [ih]
end

section
variable {G : GT} {V_ : Nv} {n : Nat}
theorem sl_nil : SL G V_ n .nil := by
  intro X C l W g tk h
  cases l with
  | cons => simp [chkEs] at h
  | nil =>
    refine ⟨pa_nil.imp fun σ H Q q => ?_, pa_nil.imp fun σ H Q q => ?_, pa_nil.imp fun σ H Q q => ?_, fun an op pos _ z => absurd z (by decide)⟩
    · obtain ⟨m, os, env, S, rel, post⟩ := q
      exact post m [] H (Stp.refl m H) rel .nil
    · obtain ⟨m, os, env, S, rel, post⟩ := q
      exact post m [] H (Stp.refl m H) rel .nil
    · obtain ⟨m, os, env, S, rel, post⟩ := q
      exact post m [] H (Stp.refl m H) rel .nil
theorem bop_bind {F : FT} {an : Bool} {e e2 : E} {es : Es} {env : Ev} {S : Sto} {α : Type} (k : R → Sto → Res α) : (evBop F an (.cons e (.cons e2 es)) env S).bind k =
    (evE F e env S).bind fun x S => (opt S (truR S x)).bind fun t S => if t = an then (evBop F an (.cons e2 es) env S).bind k else k x S := by
  conv => lhs; unfold evBop
  cases evE F e env S with
  | bad => rfl
  | exc => rfl
  | ok r S1 =>
    simp only [Res.bind]
    cases truR S1 r with
    | none => rfl
    | some t => cases an <;> cases t <;> rfl
theorem bind_ok {α : Type} (r : Res α) : (r.bind fun x S => .ok x S) = r := by cases r <;> rfl
theorem RpL.reos {m m1 os : List Addr} {env : Ev} {σ : L2.St} {H H1 : Hp} {S : Sto} {K : PySem.W.Frag} {rs : List R} {vs : List V} (h : RpL K m [] H rs vs) (o : ∀ r ∈ rs, argS r ≠ none) : RpL K m os H rs vs := by
  induction h with
  | nil => exact .nil
  | @cons H0 r v rs vs a b ih =>
    refine .cons (H0 := H0) ?_ (ih fun r hr => o r (List.mem_cons_of_mem _ hr))
    have := o r List.mem_cons_self
    cases a with
    | p q => exact .p q
    | ref q => exact .ref q
    | nl => exact absurd rfl this
    | nd => exact absurd rfl this
    | nT => exact absurd rfl this
    | bw => exact absurd rfl this
    | obj q => exact .obj q
theorem sl_cons {e : E} {es : Es} (he : SE G V_ n e) (hs : SL G V_ n es) : SL G V_ n (.cons e es) := by
  intro X C l W g tk h
  cases l with
  | nil => simp [chkEs] at h
  | cons x l =>
    unfold chkEs at h
    simp only [Bool.and_eq_true] at h
    obtain ⟨⟨h0, h1⟩, h2⟩ := h
    obtain ⟨pe, pt⟩ := he X C x W g tk h1
    obtain ⟨l1, l2, l3, l4⟩ := hs X C l W g tk h2
    refine ⟨(pa_cons pe l1 (star_of h0)).imp fun σ H Q q => ?_, (pa_cons pe.lk l2 (star_of h0)).imp fun σ H Q q => ?_, (pa_cons pe.lk l3 (star_of h0)).imp fun σ H Q q => ?_, fun an op pos ho hl => ?_⟩
    · obtain ⟨m, os, env, S, rel, post⟩ := q
      unfold evEs at post
      refine ev1 rel post fun r1 S1 m1 v1 H1 s1 rel1 rp1 post1 => ev1L rel1 post1 fun rs S2 m2 vs H2 s2 rel2 rp2 post2 => ?_
      exact post2 m2 _ H2 (s1.trans s2) rel2 (.cons (rp1.step s2) rp2)
    · obtain ⟨m, os, env, S, rel, post⟩ := q
      unfold evFz at post
      refine ev0 rel post fun r1 S1 m1 v1 H1 s1 rel1 rp1 post1 => ?_
      obtain ⟨d, e, post1⟩ := PX.obind post1
      refine lk_of s1 rel1 rp1 e fun H2 s2 rel2 rp2 => ?_
      refine ev1F rel2 (PX.st s2 post1) fun ds S2 m2 vs H3 s3 rel3 rp3 post3 => ?_
      exact post3 m2 _ H3 (s2.trans s3) rel3 (.cons (rp2.ext s3.ext) rp3)
    · obtain ⟨m, os, env, S, rel, post⟩ := q
      unfold evAr at post
      refine ev0 rel post fun r1 S1 m1 v1 H1 s1 rel1 rp1 post1 => ?_
      obtain ⟨d, e, post1⟩ := PX.obind post1
      refine lk_arg s1 rel1 rp1 e fun H2 s2 rel2 rp2 => ?_
      refine ev1A rel2 (PX.st s2 post1) fun ds S2 m2 vs H3 s3 rel3 rp3 post3 => ?_
      exact post3 m2 _ H3 (s2.trans s3) rel3 (.cons ((rp2.reos rel).step s3) rp3)
    · cases es with
      | nil =>
        cases l with
        | cons => simp [chkEs] at h2
        | nil =>
          refine ⟨(pe_one pe).imp fun σ H Q q => ?_, ?_⟩
          · obtain ⟨m, os, env, S, rel, post⟩ := q
            exact ⟨m, os, env, S, rel, post⟩
          · cases op with
            | And => exact (pw_and1 pt).imp fun σ H Q q => q
            | Or => exact (pw_or1 pt).imp fun σ H Q q => q
      | cons e2 es =>
        cases l with
        | nil => simp [chkEs] at h2
        | cons y l =>
          obtain ⟨be, bt⟩ := l4 an op pos ho (Nat.le_add_left _ _)
          cases op with
          | And =>
            have : an = true := by simpa using ho
            subst this
            refine ⟨(pe_andT pe be).imp fun σ H Q q => ?_, (pw_and pt bt).imp fun σ H Q q => ?_⟩
            · obtain ⟨m, os, env, S, rel, post⟩ := q
              rw [← bind_ok (evBop V_.F true _ env S), bop_bind] at post
              refine ev1 rel post fun r1 S1 m1 v1 H1 s1 rel1 rp1 post1 => ?_
              obtain ⟨t, e', post1⟩ := PX.obind post1
              rw [g.K]
              refine ⟨t, tru_val rel1 rp1 e', ?_⟩
              cases t with
              | true =>
                rw [if_pos rfl] at post1 ⊢
                rw [bind_ok] at post1
                exact ⟨m1, os, env, S1, rel1, PX.mono post1 (fun _ _ z => okE.step s1 z) fun _ _ _ z => z⟩
              | false =>
                rw [if_neg (by decide)] at post1 ⊢
                exact post1 m1 v1 H1 s1 rel1 rp1
            · obtain ⟨m, os, env, S, rel, post⟩ := q
              rw [bop_bind] at post
              have post' : PX (okT V_ m os env σ H Q) (exW V_ W m os env σ H) (((evE V_.F e env S).bind fun x S => opt S (truR S x)).bind fun t S => if t = true then (evBop V_.F true (.cons e2 es) env S).bind (fun x S => opt S (truR S x)) else .ok false S) := by
                cases h3 : evE V_.F e env S with
                | bad => rw [h3] at post; exact post
                | exc => rw [h3] at post; exact post
                | ok r S1 =>
                  simp only [h3, Res.bind] at post ⊢
                  cases h4 : truR S1 r with
                  | none => simp only [h4] at post; exact post
                  | some t =>
                    cases t with
                    | true => simp only [h4, opt, Res.bind] at post ⊢; exact post
                    | false => simp only [h4, opt, Res.bind] at post ⊢; exact post
              refine ev1T rel post' fun t S1 m1 H1 s1 rel1 post1 => ?_
              cases t with
              | true =>
                rw [if_pos rfl] at post1 ⊢
                exact ⟨m1, os, env, S1, rel1, PX.mono post1 (fun _ _ z => okT.step s1 z) fun _ _ _ z => z⟩
              | false =>
                rw [if_neg (by decide)] at post1 ⊢
                exact post1 m1 H1 s1 rel1
          | Or =>
            have : an = false := by
              cases an with
              | false => rfl
              | true => exact absurd (ho.mpr rfl) (by decide)
            subst this
            refine ⟨(pe_orT pe be).imp fun σ H Q q => ?_, (pw_or pt bt).imp fun σ H Q q => ?_⟩
            · obtain ⟨m, os, env, S, rel, post⟩ := q
              rw [← bind_ok (evBop V_.F false _ env S), bop_bind] at post
              refine ev1 rel post fun r1 S1 m1 v1 H1 s1 rel1 rp1 post1 => ?_
              obtain ⟨t, e', post1⟩ := PX.obind post1
              rw [g.K]
              refine ⟨t, tru_val rel1 rp1 e', ?_⟩
              cases t with
              | false =>
                rw [if_pos rfl] at post1
                rw [if_neg (by decide)]
                rw [bind_ok] at post1
                exact ⟨m1, os, env, S1, rel1, PX.mono post1 (fun _ _ z => okE.step s1 z) fun _ _ _ z => z⟩
              | true =>
                rw [if_neg (by decide)] at post1
                rw [if_pos rfl]
                exact post1 m1 v1 H1 s1 rel1 rp1
            · obtain ⟨m, os, env, S, rel, post⟩ := q
              rw [bop_bind] at post
              have post' : PX (okT V_ m os env σ H Q) (exW V_ W m os env σ H) (((evE V_.F e env S).bind fun x S => opt S (truR S x)).bind fun t S => if t = true then .ok true S else (evBop V_.F false (.cons e2 es) env S).bind (fun x S => opt S (truR S x))) := by
                cases h3 : evE V_.F e env S with
                | bad => rw [h3] at post; exact post
                | exc => rw [h3] at post; exact post
                | ok r S1 =>
                  simp only [h3, Res.bind] at post ⊢
                  cases h4 : truR S1 r with
                  | none => simp only [h4] at post; exact post
                  | some t =>
                    cases t with
                    | true => simp only [h4, opt, Res.bind] at post ⊢; exact post
                    | false => simp only [h4, opt, Res.bind] at post ⊢; exact post
              refine ev1T rel post' fun t S1 m1 H1 s1 rel1 post1 => ?_
              cases t with
              | false =>
                rw [if_neg (by decide)] at post1 ⊢
                exact ⟨m1, os, env, S1, rel1, PX.mono post1 (fun _ _ z => okT.step s1 z) fun _ _ _ z => z⟩
              | true =>
                rw [if_pos rfl] at post1 ⊢
                exact post1 m1 H1 s1 rel1
theorem se_bop {an : Bool} {es : Es} (hs : SL G V_ n es) : SE G V_ n (.bop an es) := by
  intro X C x W g tk h
  cases x <;> try (simp [chkE] at h; done)
  rename_i op l pos
  simp only [chkE, Bool.and_eq_true, decide_eq_true_eq] at h
  obtain ⟨_, _, _, l4⟩ := hs X C l W g tk h.2
  obtain ⟨a, b⟩ := l4 an op pos h.1.1 h.1.2
  exact ⟨a.imp fun σ H Q q => q, b.pt.imp fun σ H Q q => q⟩
end
end Vy
set_option Elab.async false
set_option linter.all false
set_option maxRecDepth 100000
set_option maxHeartbeats 4000000
namespace Vy
open PySem PySem.Spec L2
variable [Tb]

/-- one part, run -/
theorem _root_.L2.PE.got {X : Cx} {V_ : Nv} {W : WX} {m os : List Addr} {env : Ev} {σ : L2.St} {H : Hp} {S : Sto} {x : Expr} {e : E} {α : Type} {k : R → Sto → Res α} {ok : α → Sto → Prop} {pins : List (Addr × Obj)} {s : Shared}
    (pe : PE X x (dE V_ W e)) (I : L2.Inv X pins σ H s) (rel : Rel V_.K m os env S σ H) (post : PX ok (exW V_ W m os env σ H) ((evE V_.F e env S).bind k)) :
    wpAny (model X.prog X.w) X.A (eval x X.env) (fun u s2 => ∃ r S1 m1 v H1, L2.Inv X pins σ H1 s2 ∧ RelV v u ∧ Stp m m1 H H1 ∧ Rel V_.K m1 os env S1 σ H1 ∧ RpR V_.K m1 os H H1 r v ∧ PX ok (exW V_ W m1 os env σ H1) (k r S1)) X.xe s :=
  thn (pe.run pins s σ H (fun v H1 => ∃ r S1 m1, Stp m m1 H H1 ∧ Rel V_.K m1 os env S1 σ H1 ∧ RpR V_.K m1 os H H1 r v ∧ PX ok (exW V_ W m1 os env σ H1) (k r S1)) I
    (ev1 rel post fun r S1 m1 v H1 s1 rel1 rp1 post1 => ⟨r, S1, m1, s1, rel1, rp1, post1⟩)) fun u s2 ⟨v, H1, I1, rv, r, S1, m1, s1, rel1, rp1, post1⟩ => ⟨r, S1, m1, v, H1, I1, rv, s1, rel1, rp1, post1⟩
theorem cs_bind {F : FT} {x : R} {op : CmpOp} {e : E} {op2 : CmpOp} {e2 : E} {cs : Cs} {env : Ev} {S : Sto} {α : Type} (k : R → Sto → Res α) : (evCs F x (.cons op e (.cons op2 e2 cs)) env S).bind k =
    (evE F e env S).bind fun y S => (opt S (cmpR S op x y)).bind fun b S => if b = true then (evCs F y (.cons op2 e2 cs) env S).bind k else k (.p (.bool false)) S := by
  conv => lhs; unfold evCs
  cases evE F e env S with
  | bad => rfl
  | exc => rfl
  | ok r S1 =>
    simp only [Res.bind]
    cases cmpR S1 op x r with
    | none => rfl
    | some t => cases t <;> rfl
theorem cs_bind1 {F : FT} {x : R} {op : CmpOp} {e : E} {env : Ev} {S : Sto} {α : Type} (k : R → Sto → Res α) : (evCs F x (.cons op e .nil) env S).bind k =
    (evE F e env S).bind fun y S => (opt S (cmpR S op x y)).bind fun b S => k (.p (.bool b)) S := by
  conv => lhs; unfold evCs
  cases evE F e env S with
  | bad => rfl
  | exc => rfl
  | ok r S1 =>
    simp only [Res.bind]
    cases cmpR S1 op x r with
    | none => rfl
    | some t => cases t <;> rfl
section
variable {G : GT} {V_ : Nv} {n : Nat}
theorem sc_nil : SC G V_ n .nil := by
  intro X C ops l W g tk h
  cases ops <;> simp [chkCs] at h
theorem sc_cons {op : CmpOp} {e : E} {cs : Cs} (he : SE G V_ n e) (hs : SC G V_ n cs) : SC G V_ n (.cons op e cs) := by
  intro X C ops l W g tk h
  have hu := g.room.units
  cases cs with
  | nil =>
    cases ops with
    | nil => simp [chkCs] at h
    | cons o ops =>
      cases l with
      | nil => cases ops <;> simp [chkCs] at h
      | cons x l =>
        have h' : ops = [] ∧ l = [] ∧ op = o ∧ plainE x = true ∧ chkE G C e x = true := by
          cases ops with
          | nil =>
            cases l with
            | nil => simp only [chkCs, Bool.and_eq_true, decide_eq_true_eq] at h; exact ⟨rfl, rfl, h.1.1, h.1.2, h.2⟩
            | cons => simp [chkCs] at h
          | cons => simp [chkCs] at h
        obtain ⟨rfl, rfl, rfl, h0, h1⟩ := h'
        obtain ⟨pe, _⟩ := he X C x W g tk h1
        refine ⟨fun pos pins s σ H v y Q I rv q => ?_, fun pos pins s σ H v y Q I rv q => ?_⟩
        · obtain ⟨m, os, env, S, H0, r, rel, rp, post⟩ := q
          rw [← bind_ok (evCs V_.F r _ env S), cs_bind1] at post
          refine PyProof.Rows.chain_last (thn (pe.got I rel post) fun u s2 ⟨r1, S1, m1, z, H2, I2, r2, s1, rel1, rp1, post1⟩ => ?_)
          obtain ⟨b, e1, ok⟩ := PX.obind post1
          exact op_allC hu op pins s2 σ H2 y z v u Q I2 rv r2 (by rw [g.K]; exact cmp_val rel1 (rp.step s1) rp1 e1 (okE.data (okE.step s1 ok) rel1 (.bl b)))
        · obtain ⟨m, os, env, S, H0, r, rel, rp, post⟩ := q
          rw [cs_bind1] at post
          refine PyProof.Rows.test_last (thn (pe.got I rel post) fun u s2 ⟨r1, S1, m1, z, H2, I2, r2, s1, rel1, rp1, post1⟩ => ?_)
          obtain ⟨b, e1, ok⟩ := PX.obind post1
          refine thn (op_allC hu op pins s2 σ H2 y z v u (fun w H4 => w = .bl b ∧ Q b H4) I2 rv r2 (by rw [g.K]; exact cmp_val rel1 (rp.step s1) rp1 e1 ⟨rfl, ok m1 H2 s1 rel1⟩)) fun c s3 ⟨w, H4, I4, r4, e4, q4⟩ => ?_
          subst e4
          cases r4
          exact wpAny_truthy_bool ⟨H4, I4, q4⟩
  | cons op2 e2 cs =>
    cases ops with
    | nil => simp [chkCs] at h
    | cons o ops =>
      cases l with
      | nil => simp [chkCs] at h
      | cons x l =>
        have h' : op = o ∧ plainE x = true ∧ chkE G C e x = true ∧ chkCs G C (.cons op2 e2 cs) ops l = true := by
          simp only [chkCs, Bool.and_eq_true, decide_eq_true_eq] at h
          exact ⟨h.1.1.1, h.1.1.2, h.1.2, h.2⟩
        obtain ⟨rfl, h0, h1, h2⟩ := h'
        obtain ⟨pe, _⟩ := he X C x W g tk h1
        obtain ⟨ce, ct⟩ := hs X C ops l W g tk h2
        cases ops with
        | nil => simp [chkCs] at h2
        | cons o2 ops =>
          cases l with
          | nil => simp [chkCs] at h2
          | cons x2 l =>
            refine ⟨fun pos pins s σ H v y Q I rv q => ?_, fun pos pins s σ H v y Q I rv q => ?_⟩
            · obtain ⟨m, os, env, S, H0, r, rel, rp, post⟩ := q
              rw [← bind_ok (evCs V_.F r _ env S), cs_bind] at post
              refine PyProof.Rows.chain_link (thn (pe.got I rel post) fun u s2 ⟨r1, S1, m1, z, H2, I2, r2, s1, rel1, rp1, post1⟩ => ?_)
              obtain ⟨b, e1, ok⟩ := PX.obind post1
              refine thn (op_allC hu op pins s2 σ H2 y z v u (fun w H4 => w = .bl b ∧ H4 = H2) I2 rv r2 (by rw [g.K]; exact cmp_val rel1 (rp.step s1) rp1 e1 ⟨rfl, rfl⟩)) fun c s3 ⟨w, H4, I4, r4, e4, q4⟩ => ?_
              subst e4
              rw [q4] at I4
              cases r4
              refine wpAny_truthy_bool ?_
              cases b with
              | true =>
                rw [if_pos rfl] at ok ⊢
                rw [bind_ok] at ok
                exact ce pos pins s3 σ H2 u z Q I4 r2 ⟨m1, os, env, S1, _, r1, rel1, rp1, PX.mono ok (fun _ _ z => okE.step s1 z) fun _ _ _ z => z⟩
              | false =>
                rw [if_neg (by decide)] at ok ⊢
                exact ⟨.bl false, H2, I4, rfl, okE.data (okE.step s1 ok) rel1 (.bl _)⟩
            · obtain ⟨m, os, env, S, H0, r, rel, rp, post⟩ := q
              rw [cs_bind] at post
              refine PyProof.Rows.test_link (thn (pe.got I rel post) fun u s2 ⟨r1, S1, m1, z, H2, I2, r2, s1, rel1, rp1, post1⟩ => ?_)
              obtain ⟨b, e1, ok⟩ := PX.obind post1
              refine thn (op_allC hu op pins s2 σ H2 y z v u (fun w H4 => w = .bl b ∧ H4 = H2) I2 rv r2 (by rw [g.K]; exact cmp_val rel1 (rp.step s1) rp1 e1 ⟨rfl, rfl⟩)) fun c s3 ⟨w, H4, I4, r4, e4, q4⟩ => ?_
              subst e4
              rw [q4] at I4
              cases r4
              refine wpAny_truthy_bool ?_
              cases b with
              | true =>
                rw [if_pos rfl] at ok ⊢
                exact ct pos pins s3 σ H2 u z Q I4 r2 ⟨m1, os, env, S1, _, r1, rel1, rp1, PX.mono ok (fun _ _ z => okT.step s1 z) fun _ _ _ z => z⟩
              | false =>
                rw [if_neg (by decide)] at ok ⊢
                exact ⟨H2, I4, okT.step s1 ok m1 H2 (Stp.refl _ _) rel1⟩
theorem chkCs_marks {C : Cxs} : ∀ {cs : Cs} {ops : List CmpOp} {l : List Expr}, chkCs G C cs ops l = true → lastMarks ops l = false ∧ ops.length = l.length ∧ 1 ≤ l.length
  | .nil, ops, l, h => by cases ops <;> simp [chkCs] at h
  | .cons op e .nil, [], l, h => by simp [chkCs] at h
  | .cons op e .nil, [o], [], h => by simp [chkCs] at h
  | .cons op e .nil, [o], [x], h => by
    simp only [chkCs, Bool.and_eq_true, decide_eq_true_eq] at h
    exact ⟨mark_of h.1.2, rfl, Nat.le_refl _⟩
  | .cons op e .nil, [o], x :: y :: l, h => by simp [chkCs] at h
  | .cons op e .nil, o :: o2 :: ops, l, h => by cases l <;> simp [chkCs] at h
  | .cons op e (.cons op2 e2 cs), [], l, h => by simp [chkCs] at h
  | .cons op e (.cons op2 e2 cs), o :: ops, [], h => by simp [chkCs] at h
  | .cons op e (.cons op2 e2 cs), o :: ops, x :: l, h => by
    simp only [chkCs, Bool.and_eq_true, decide_eq_true_eq] at h
    obtain ⟨a, b, c⟩ := chkCs_marks h.2
    refine ⟨?_, by simp [b], by simp⟩
    cases ops with
    | nil => cases l <;> simp at b c
    | cons o2 ops =>
      cases l with
      | nil => simp at c
      | cons x2 l => exact a
theorem se_cmp {a : E} {cs : Cs} (ha : SE G V_ n a) (hs : SC G V_ n cs) : SE G V_ n (.cmp a cs) := by
  intro X C x W g tk h
  cases x <;> try (simp [chkE] at h; done)
  rename_i x ops l pos
  simp only [chkE, Bool.and_eq_true] at h
  obtain ⟨pa, _⟩ := ha X C x W g tk h.1
  obtain ⟨ce, ct⟩ := hs X C ops l W g tk h.2
  obtain ⟨hm, hl, h1⟩ := chkCs_marks h.2
  refine ⟨⟨fun pins s σ H Q I q => ?_⟩, ⟨fun pins s σ H Q I q => ?_⟩⟩
  · show wpAny _ _ (do compareChain pos (← eval x X.env) ops (markedEach ops l (evalEach l X.env))) _ _ _
    rw [PyProof.Rows.markedEach_of_false _ _ _ hm]
    obtain ⟨m, os, env, S, rel, post⟩ := q
    unfold evE at post
    refine wpAny_bind (thn (pa.run pins s σ H _ I (ev1 (Q' := fun v1 H1 => dC V_ W cs v1 σ H1 Q) rel post fun r1 S1 m1 v1 H1 s1 rel1 rp1 post1 => ?_)) fun v s2 ⟨y, H2, I2, r2, q2⟩ => ?_)
    · exact ⟨m1, os, env, S1, _, r1, rel1, rp1, PX.mono post1 (fun _ _ z => okE.step s1 z) fun _ _ _ z => z⟩
    · exact ce pos pins s2 σ H2 v y Q I2 r2 q2
  · show wpAny _ _ (do testChain pos (← eval x X.env) ops (markedEach ops l (evalEach l X.env))) _ _ _
    rw [PyProof.Rows.markedEach_of_false _ _ _ hm]
    obtain ⟨m, os, env, S, rel, post⟩ := q
    unfold evE at post
    have post' : PX (okT V_ m os env σ H Q) (exW V_ W m os env σ H) ((evE V_.F a env S).bind fun x S => (evCs V_.F x cs env S).bind fun x S => opt S (truR S x)) := by
      cases h3 : evE V_.F a env S with
      | bad => rw [h3] at post; exact post
      | exc => rw [h3] at post; exact post
      | ok r S1 => rw [h3] at post; exact post
    refine wpAny_bind (thn (pa.run pins s σ H _ I (ev1 (Q' := fun v1 H1 => dCT V_ W cs v1 σ H1 Q) rel post' fun r1 S1 m1 v1 H1 s1 rel1 rp1 post1 => ?_)) fun v s2 ⟨y, H2, I2, r2, q2⟩ => ?_)
    · exact ⟨m1, os, env, S1, _, r1, rel1, rp1, PX.mono post1 (fun _ _ z => okT.step s1 z) fun _ _ _ z => z⟩
    · exact ct pos pins s2 σ H2 v y Q I2 r2 q2
theorem so_no : SO G V_ n .no := by
  refine ⟨fun X C a W g tk h => ?_, fun X C a W g tk h => ?_⟩
  · cases a with
    | some => simp [chkO] at h
    | none =>
      refine po_none.imp fun σ H Q q => ?_
      obtain ⟨m, os, env, S, rel, post⟩ := q
      exact post m H (Stp.refl m H) rel
  · cases a with
    | cons => simp [chkI] at h
    | nil =>
      refine pts_nil.imp fun σ H Q q => ?_
      obtain ⟨m, os, env, S, rel, post⟩ := q
      exact post m H (Stp.refl m H) rel
theorem so_so {e : E} (he : SE G V_ n e) : SO G V_ n (.so e) := by
  refine ⟨fun X C a W g tk h => ?_, fun X C a W g tk h => ?_⟩
  · cases a with
    | none => simp [chkO] at h
    | some x =>
      simp only [chkO] at h
      refine (po_some (he X C x W g tk h).1).imp fun σ H Q q => ?_
      obtain ⟨m, os, env, S, rel, post⟩ := q
      unfold evOe at post
      refine ev1 rel post fun r1 S1 m1 v1 H1 s1 rel1 rp1 post1 => ?_
      split at post1
      · exact ⟨_, rp1.isInt, post1 m1 H1 s1 rel1⟩
      · exact post1.elim
  · cases a with
    | nil => simp [chkI] at h
    | cons x l =>
      cases l with
      | cons => simp [chkI] at h
      | nil =>
        simp only [chkI] at h
        refine (pts_one (he X C x W g tk h).2).imp fun σ H Q q => ?_
        obtain ⟨m, os, env, S, rel, post⟩ := q
        exact ⟨m, os, env, S, rel, post⟩
theorem se_slc {a : E} {lo hi : Oe} (ha : SE G V_ n a) (hl : SO G V_ n lo) (hh : SO G V_ n hi) : SE G V_ n (.slc a lo hi) := by
  intro X C x W g tk h
  cases x <;> try (simp [chkE] at h; done)
  rename_i x sl pos
  cases sl <;> try (simp [chkE] at h; done)
  rename_i l u st p2
  cases st <;> try (simp [chkE] at h; done)
  simp only [chkE, Bool.and_eq_true] at h
  refine pair g ((pe_slice slc_of (ha X C x W g tk h.1.1).1 (hl.1 X C l W g tk h.1.2) (hh.1 X C u W g tk h.2)).imp fun σ H Q q => ?_) (fun _ => rfl)
  obtain ⟨m, os, env, S, rel, post⟩ := q
  unfold evE at post
  refine ev1 rel post fun r1 S1 m1 v1 H1 s1 rel1 rp1 post1 => ?_
  refine ⟨m1, os, env, S1, rel1, PX.mono (PX.bind post1) (fun i S2 post2 m2 H2 s2 rel2 => ?_) fun _ _ _ z => z⟩
  refine ⟨m2, os, env, S2, rel2, PX.mono (PX.bind (PX.st s2 post2)) (fun j S3 post3 m3 H3 s3 rel3 => ?_) fun _ _ _ z => z⟩
  obtain ⟨r, e, ok⟩ := PX.got post3
  rw [g.K]
  cases hd : dat S3 r1 with
  | none => rw [hd] at e; cases e
  | some d =>
    rw [hd] at e
    exact slc_val rel3 ((rp1.step s2).step s3) hd e (okE.step ((s1.trans s2).trans s3) ok)
end
end Vy
set_option Elab.async false
set_option linter.all false
set_option maxRecDepth 100000
set_option maxHeartbeats 4000000
namespace Vy
open PySem PySem.Spec L2
variable [Tb]

section
variable {G : GT} {V_ : Nv} {n : Nat}
def biT : Bi → Option String
  | .int_ => some "int" | .tuple_ => some "tuple" | .list_ => some "list" | .dict_ => some "dict"
  | _ => none
theorem bi_boot (f : Bi) : bootBuiltins (biN f) = some (biV f) := by
  cases f <;> (show bootBuiltins _ = some _; decide +kernel)
theorem chkEs_cons {C : Cxs} {es : Es} {l : List Expr} (h : chkEs G C es l = true) (h1 : 1 ≤ es.len) : ∃ x l', l = x :: l' ∧ plainE x = true := by
  cases es with
  | nil => simp [Es.len] at h1
  | cons e es =>
    cases l with
    | nil => simp [chkEs] at h
    | cons x l =>
      unfold chkEs at h
      simp only [Bool.and_eq_true] at h
      exact ⟨x, l, rfl, h.1.1⟩
theorem chkEs_tail {C : Cxs} {es : Es} {x : Expr} {l : List Expr} (h : chkEs G C es (x :: l) = true) {pos : Pos} {env : Env} : (backTo pos (starEach l env)).any (·.1) = false := by
  cases es with
  | nil => simp [chkEs] at h
  | cons e es =>
    unfold chkEs at h
    simp only [Bool.and_eq_true] at h
    exact chkEs_star h.2
theorem se_bi {f : Bi} {es : Es} (hs : SL G V_ n es) : SE G V_ n (.bi f es) := by
  intro X C x W g tk h
  cases x <;> try (simp [chkE] at h; done)
  rename_i fn l kws pos
  cases fn <;> try (simp [chkE] at h; done)
  rename_i x p
  cases kws <;> try (simp [chkE] at h; done)
  simp only [chkE, Bool.and_eq_true, decide_eq_true_eq] at h
  obtain ⟨⟨⟨h0, h1⟩, h2⟩, h3⟩ := h
  obtain ⟨e0, gl, hd, hn, hm⟩ := g.bl h0
  obtain ⟨y, l, rfl, hy⟩ := chkEs_cons h3 h2
  obtain ⟨l1, _⟩ := hs X C _ W g tk h3
  have hb := bi_all (X := X) g.calm g.room.units f (fun z => g.gs (by subst z; exact h1))
  have hv : bootBuiltins x = some (biV f) := by rw [e0]; exact bi_boot f
  have main : PE X (.Call (.Name x p) (y :: l) [] pos) (tCB (rBi X.K f) (dEs V_ W es)) := by
    revert hb hv
    generalize rBi X.K f = r
    have e1 := star_of (l := l) (env := X.env) hy
    have e2 := chkEs_tail h3 (pos := pos) (env := X.env)
    intro hb hv
    cases f
    all_goals first
      | exact pe_callB hb gl hm hv l1 hn hd e1 e2
      | exact pe_callTy hb gl hm hv l1 hn hd e1 e2
  refine pair g (main.imp fun σ H Q q => ?_) (fun _ => rfl)
  obtain ⟨m, os, env, S, rel, post⟩ := q
  unfold evE at post
  refine ev1L rel post fun rs S1 m1 vs H1 s1 rel1 rp1 post1 => ?_
  obtain ⟨r, e, ok⟩ := PX.got post1
  rw [g.K]
  exact bi_val rel1 rp1 e (okE.step s1 ok)
theorem ty_of {K : PySem.W.Frag} {H : Hp} {d : D} {v : V} (h : Rt K H d v) : TyX K H v (.type (tyD d)) := by
  cases h with
  | of q =>
    cases q with
    | non => exact .base .non
    | bl b => exact .base (.bl b)
    | int i => exact .base (.int i)
    | str x => exact .base (.str x)
    | tup s _ => exact .base (.tup s)
    | lst s _ =>
      rcases s with ⟨o, s⟩ | ((s | ⟨o, s⟩) | ⟨o, its, n, h1, h2, h3, _⟩)
      · exact .base (.frz s)
      · cases s
      · cases s
      · exact .kList h1 h2
  | lst s _ => exact .base (.lst s)
theorem kit_all : ∀ t ∈ ["int", "bool", "tuple", "list", "str"], ∀ s ∈ ["NoneType", "bool", "int", "str", "list", "tuple"], kitB s t = some (s == t || (s == "bool" && t == "int")) := by decide +kernel
theorem tyD_mem {K : PySem.W.Frag} {H : Hp} {d : D} {v : V} (h : Rt K H d v) : tyD d ∈ ["NoneType", "bool", "int", "str", "list", "tuple"] := by
  cases h with
  | of q => cases q <;> (simp [tyD])
  | lst _ _ => simp [tyD]
theorem boot_ty : ∀ t ∈ ["int", "bool", "tuple", "list", "str"], bootBuiltins (Str.ofString t) = some (.type t) := by
  intro t ht
  simp only [List.mem_cons, List.not_mem_nil, or_false] at ht
  rcases ht with rfl | rfl | rfl | rfl | rfl <;> decide +kernel
theorem se_isi {t : String} {a : E} (ha : SE G V_ n a) : SE G V_ n (.isi t a) := by
  intro X C x W g tk h
  cases x <;> try (simp [chkE] at h; done)
  rename_i fn l kws pos
  have h' : ∃ x p y z p2, fn = .Name x p ∧ l = [y, .Name z p2] ∧ kws = [] := by
    cases fn <;> try (simp [chkE] at h; done)
    rename_i x p
    cases kws <;> try (simp [chkE] at h; done)
    cases l with
    | nil => simp [chkE] at h
    | cons y l =>
      cases l with
      | nil => simp [chkE] at h
      | cons w l =>
        cases l with
        | cons => cases w <;> simp [chkE] at h
        | nil =>
          cases w <;> try (simp [chkE] at h; done)
          exact ⟨_, _, _, _, _, rfl, rfl, rfl⟩
  obtain ⟨x, p, y, z, p2, rfl, rfl, rfl⟩ := h'
  simp only [chkE, Bool.and_eq_true] at h
  obtain ⟨⟨⟨⟨h0, h1⟩, h2⟩, h3⟩, h4⟩ := h
  obtain ⟨e0, gl, hd, hn, hm⟩ := g.bl h0
  obtain ⟨gz, hdz, hnz⟩ := g.gl h3
  have hmz := g.glob.blt _ h4
  rw [List.any_eq_true] at h2
  obtain ⟨t', ht, h2⟩ := h2
  simp only [Bool.and_eq_true, decide_eq_true_eq] at h2
  obtain ⟨⟨e1, e2⟩, _⟩ := h2
  subst e1
  have hy := chkE_plain h1
  have hv : bootBuiltins x = some (.builtin "isinstance") := by rw [e0]; decide +kernel
  have hz : bootBuiltins z = some (.type t) := by rw [e2]; exact boot_ty t ht
  have main := pe_callB (pos := pos) (p := p) call_isi gl hm hv (pa_cons (ha X C y W g tk h1).1 (pa_cons (pe_bltn (v := .ty t) (pos := p2) gz hmz hz rfl hnz hdz) pa_nil rfl) (star_of hy)) hn hd (star_of hy) rfl
  refine pair g (main.imp fun σ H Q q => ?_) (fun _ => rfl)
  obtain ⟨m, os, env, S, rel, post⟩ := q
  unfold evE at post
  refine ev1 rel post fun r1 S1 m1 v1 H1 s1 rel1 rp1 post1 => ?_
  obtain ⟨r, e, ok⟩ := PX.got post1
  cases hdt : dat S1 r1 with
  | none => rw [hdt] at e; cases e
  | some d =>
    rw [hdt] at e
    cases e
    have rt := rp1.dat rel1.ce hdt
    refine ⟨v1, .ty t, .type (tyD d), .type t, isiD d t, rfl, .ty t, by rw [g.K]; exact ty_of rt, ?_, okE.data (okE.step s1 ok) rel1 (.bl _)⟩
    exact kit_ty (kit_all t ht _ (tyD_mem rt))
theorem run_G {X : Cx} {W : WX} {gd : Bool} {k : Nat} {f : Addr} {fd : FuncData} {ps : List Str} {sp : Sp} {pins : List (Addr × Obj)} {σ : L2.St} {H : Hp} {s : Shared} {Q : VK} {us : List Value} {vs : List V}
    (F : FnG X.prog X.w X.K X.mg X.base gd k f fd ps sp) (hr : Room k X.A) (hg : gd = true → X.A.guards = some []) (hb : Binds X.K fd ps []) (tk : Takes X W) (I : L2.Inv X pins σ H s) (r : Vals vs us) (h : sp vs H Q (WE W σ)) :
    wpAny (model X.prog X.w) X.A (call (.ref f) us) (EP X pins σ Q) X.xe s := by
  have hl : us.length = ps.length := by rw [← r.length]; exact F.len _ _ _ _ h
  have hbd := hb s us I.kIn (by rw [List.append_nil]; exact hl)
  rw [List.append_nil] at hbd
  refine wpAny_call (codeAny_mono (F.run X.A X.stack s H ⟨us, []⟩ us vs Q (WE W σ) hr hg I.env0 hbd r h) fun r s' hq => ?_)
  cases r with
  | error e => exact passAt tk σ pins H s e s' I hq
  | ok fl =>
    cases fl with
    | ret u => exact I.after hq
    | next => exact False.elim hq
    | brk => exact False.elim hq
    | cont => exact False.elim hq
theorem RpL.noos {m os : List Addr} {H : Hp} {K : PySem.W.Frag} {rs : List R} {vs : List V} (h : RpL K m os H rs vs) (o : ∀ r ∈ rs, argS r ≠ none) : RpL K m [] H rs vs := by
  induction h with
  | nil => exact .nil
  | @cons H0 r v rs vs a b ih =>
    refine .cons (H0 := H0) ?_ (ih fun r hr => o r (List.mem_cons_of_mem _ hr))
    have := o r List.mem_cons_self
    cases a with
    | p q => exact .p q
    | ref q => exact .ref q
    | nl => exact absurd rfl this
    | nd => exact absurd rfl this
    | nT => exact absurd rfl this
    | bw => exact absurd rfl this
    | obj q => exact .obj q
theorem se_call {f : Nat} {es : Es} (hs : SL G V_ n es) : SE G V_ n (.call f es) := by
  intro X C x W g tk h
  cases x <;> try (simp [chkE] at h; done)
  rename_i fn l kws pos
  cases fn <;> try (simp [chkE] at h; done)
  rename_i x p
  cases kws <;> try (simp [chkE] at h; done)
  simp only [chkE, Bool.and_eq_true] at h
  obtain ⟨⟨h0, h1⟩, h2⟩ := h
  obtain ⟨gl, hd, hn⟩ := g.gl h1
  cases hf : G.fns[f]? with
  | none => rw [hf] at h0; cases h0
  | some q =>
    obtain ⟨y, gd⟩ := q
    rw [hf] at h0
    simp only [Bool.and_eq_true, decide_eq_true_eq, Bool.or_eq_true, Bool.not_eq_true'] at h0
    obtain ⟨rfl, h0⟩ := h0
    obtain ⟨a, fd, ps, hm, hk, hb, FN, har⟩ := g.glob.fns f x gd hf
    rw [← g.K] at hk hb FN
    have hg : gd = true → X.A.guards = some [] := fun z => g.gs (h0.elim (fun w => by rw [z] at w; cases w) id)
    obtain ⟨_, _, l3, _⟩ := hs X C l W g tk h2
    have main : PE X (.Call (.Name x p) l [] pos) (fun σ H Q => dAr V_ W es σ H fun vs H1 => spF V_ ps.length (V_.F.call f) vs H1 Q (WE W σ)) := by
      cases l with
      | nil =>
        refine ⟨fun pins s σ H Q I q => ?_⟩
        refine wpAny_Call_Name_kw (ld_glob I gl hm ?_ hd)
        have z := (l3.run pos pins s σ H _ I q)
        refine PySem.W.callWith_K0 I.kIn hk ?_
        cases es with
        | cons => simp [chkEs] at h2
        | nil =>
          obtain ⟨m, os, env, S, rel, post⟩ := q
          exact run_G (us := []) FN (g.room.mono (Nat.le_add_right _ _)) hg hb tk I .nil (post m [] H (Stp.refl m H) rel .nil)
      | cons y l =>
        obtain ⟨y', l', e, hy⟩ := chkEs_cons h2 (by rw [← chkEs_len h2]; simp)
        cases e
        refine ⟨fun pins s σ H Q I q => ?_⟩
        refine wpAny_Call_Name_kw (ld_glob I gl hm ?_ hd)
        refine PySem.W.callWith_K (h₀ := X.base) I.ok.mod.kin hk (thn (l3.run pos pins s σ H _ I q) fun us s1 ⟨vs, H1, I1, r, q⟩ => ⟨I1.kIn, ?_⟩) (star_of hy) (chkEs_tail h2)
        exact run_G FN (g.room.mono (Nat.le_add_right _ _)) hg hb tk I1 r q
    refine pair g (main.imp fun σ H Q q => ?_) (fun _ => rfl)
    obtain ⟨m, os, env, S, rel, post⟩ := q
    unfold evE at post
    refine ev1A rel post fun rs S1 m1 vs H1 s1 rel1 rp1 post1 => ?_
    rcases har rs S1 with nb | ⟨hl, ho⟩
    · rw [nb] at post1
      exact post1.elim
    · refine ⟨by rw [← rp1.len]; exact hl, rel1.tb, m1, S1, rs, rel1.ce, rel1.m_nd, rp1.noos ho, PX.mono post1 (fun r S' z m' v H' st ce nd rp => ?_) fun c fs S' z m' d H' st ce nd xd => ?_⟩
      · exact (okE.step s1 z) m' v H' st (rel1.after st ce nd) (rp.reos rel1)
      · exact z m' d H' st (rel1.after st ce nd) xd
end
end Vy
set_option Elab.async false
set_option linter.all false
set_option maxRecDepth 100000
set_option maxHeartbeats 4000000
namespace Vy
open PySem PySem.Spec L2
variable [Tb]

/-! ### attributes, methods, makers of the program's own classes -/
theorem plnO_base {o : Expr} {m : Str} {env : Env} {r : Sem Value} (h : plnO o = true) : attributeBase o m env r = r := by
  cases o <;> first | rfl | cases h
theorem meth_ht {o : Expr} {m : Str} {apos pos : Pos} {env : Env} {args : List Expr} (hb : attributeBase o m env (eval o env) = eval o env)
    (hf : methodCallForm args.length (backTo pos (starEach args env)) [] = true) (hl : (apos.endLine == pos.line) = true) :
    eval (.Call (.Attribute o m apos) args [] pos) env = (do
      let ov ← eval o env
      standAt apos.atName
      let (f, first) ← holding [ov] (getMethod ov m (plainOf o env))
      callWith pos f first (backTo pos (starEach args env)) (backToKw pos (keywordEach [] env))) := by
  rw [arm_eval_Call, hb]
  have e : ∀ ov, methodCall o m apos pos env ov (args.length + ([] : List Keyword).length) (backTo pos (starEach args env)) (backToKw pos (keywordEach [] env)) = (do
      let (f, first) ← holding [ov] (getMethod ov m (plainOf o env))
      callWith pos f first (backTo pos (starEach args env)) (backToKw pos (keywordEach [] env))) := fun ov => mcall_line hf hl
  simp only [e]
theorem ObjR.get {K : PySem.W.Frag} {H : Hp} {m : List Addr} {c : Nat} {fs : List FV} {a : Addr} (h : ObjR K H m c fs a) {i : Nat} {f : FV} (e : fs[i]? = some f) {x : Str} (hx : (Tb.ol c)[i]? = some x) (nd : (Tb.ol c).Nodup) :
    ∃ dx gs v, H a = some (.ins (Tb.oc c) dx gs) ∧ gs.lookup x = some v ∧ FvR K H m f v := by
  obtain ⟨dx, gs, h1, h2, h3⟩ := h
  suffices ∃ v, gs.lookup x = some v ∧ FvR K H m f v by
    obtain ⟨v, a, b⟩ := this
    exact ⟨dx, gs, v, h1, a, b⟩
  clear h1
  rw [← h2] at hx nd
  clear h2
  induction h3 generalizing i with
  | nil => simp at e
  | @cons p q ps qs r t ih =>
    rw [List.map_cons, List.nodup_cons] at nd
    cases i with
    | zero =>
      simp at e hx
      subst e
      exact ⟨q.2, by rw [← hx, List.lookup_cons]; simp, r⟩
    | succ i =>
      rw [List.getElem?_cons_succ] at e
      rw [List.map_cons, List.getElem?_cons_succ] at hx
      obtain ⟨v, h1, h2⟩ := ih e nd.2 hx
      refine ⟨v, ?_, h2⟩
      rw [List.lookup_cons]
      have : (x == q.1) = false := beq_eq_false_iff_ne.mpr fun z => nd.1 (by rw [← z]; exact List.mem_of_getElem? hx)
      rw [this]
      exact h1
theorem ObjR.no {K : PySem.W.Frag} {H : Hp} {m : List Addr} {c : Nat} {fs : List FV} {a : Addr} (h : ObjR K H m c fs a) {x : Str} (hx : x ∉ Tb.ol c) : ∃ dx gs, H a = some (.ins (Tb.oc c) dx gs) ∧ gs.lookup x = none := by
  obtain ⟨dx, gs, h1, h2, h3⟩ := h
  refine ⟨dx, gs, h1, ?_⟩
  rw [← h2] at hx
  clear h1 h2 h3
  induction gs with
  | nil => rfl
  | cons q qs ih =>
    rw [List.map_cons, List.mem_cons] at hx
    rw [List.lookup_cons]
    have : (x == q.1) = false := beq_eq_false_iff_ne.mpr fun z => hx (.inl z)
    rw [this]
    exact ih fun z => hx (.inr z)
theorem objR_got {c : Nat} {r r' : R} (h : objR c r = some r') : ∃ fs, r = .obj c fs ∧ r' = .obj c fs := by
  cases r with
  | obj c' fs =>
    unfold objR at h
    simp only at h
    split at h
    · rename_i e; cases h; subst e; exact ⟨fs, rfl, rfl⟩
    · cases h
  | _ => cases h
section
variable {G : GT} {V_ : Nv} {n : Nat}
theorem se_att {c i : Nat} {a : E} (ha : SE G V_ n a) : SE G V_ n (.att c a i) := by
  intro X C x W g tk h
  cases x <;> try (simp [chkE] at h; done)
  rename_i o nm pos
  simp only [chkE, Bool.and_eq_true, List.any_eq_true, decide_eq_true_eq] at h
  obtain ⟨⟨⟨t, ht, rfl⟩, h1⟩, h2⟩ := h
  obtain ⟨hx, nd, hc, na⟩ := g.glob.ats c i nm ht
  rw [← g.K] at hc na
  refine pair g ((pe_fld (ha X C o W g tk h2).1 (plnO_base h1)).imp fun σ H Q q => ?_) (fun _ => rfl)
  obtain ⟨m, os, env, S, rel, post⟩ := q
  unfold evE at post
  refine ev1 rel post fun r1 S1 m1 v1 H1 s1 rel1 rp1 post1 => ?_
  obtain ⟨r2, e1, post1⟩ := PX.obind post1
  obtain ⟨fs, rfl, rfl⟩ := objR_got e1
  obtain ⟨r, e2, ok⟩ := PX.got post1
  cases rp1 with
  | @obj _ _ p ob =>
    unfold attR at e2
    simp only at e2
    cases hf : fs[i]? with
    | none => rw [hf] at e2; cases e2
    | some f =>
      rw [hf] at e2
      obtain ⟨dx, gs, v, h3, h4, h5⟩ := ob.get hf hx nd
      refine ⟨p, _, dx, gs, v, rfl, h3, hc, na, h4, ?_⟩
      cases h5 with
      | d r => cases e2; exact okE.data (okE.step s1 ok) rel1 r
      | @c k q e =>
        simp only at e2
        split at e2
        · cases e2
          exact okE.step s1 ok m1 _ H1 (Stp.refl m1 H1) rel1 (.ref e)
        · cases e2
theorem se_mth {c f : Nat} {a : E} {es : Es} (ha : SE G V_ n a) (hs : SL G V_ n es) : SE G V_ n (.mth c f a es) := by
  intro X C x W g tk h
  cases x <;> try (simp [chkE] at h; done)
  rename_i fn l kws pos
  cases fn <;> try (simp [chkE] at h; done)
  rename_i o nm ap
  cases kws <;> try (simp [chkE] at h; done)
  simp only [chkE, Bool.and_eq_true, List.any_eq_true, decide_eq_true_eq, Bool.or_eq_true, Bool.not_eq_true'] at h
  obtain ⟨⟨⟨⟨⟨⟨⟨f', c', nm', gd⟩, ht, ⟨rfl, rfl, rfl⟩, hgd⟩, h1⟩, h2⟩, h3⟩, h4⟩, h5⟩ := h
  obtain ⟨hno, hc, ad, fd, ps, hm, hb, FN, har⟩ := g.glob.mts f' c' nm' gd ht
  rw [← g.K] at hc hm hb FN
  have hg : gd = true → X.A.guards = some [] := fun z => g.gs (hgd.elim (fun w => by rw [z] at w; cases w) id)
  obtain ⟨_, _, l3, _⟩ := hs X C l W g tk h5
  have hlen := chkEs_len h5
  have hpl0 : (backTo pos (starEach l X.env)).all (fun x => !x.1) = true := by
    have z : (backTo pos (starEach l X.env)).any (·.1) = false := chkEs_star h5
    rw [List.all_eq_true]
    intro y hy
    rw [List.any_eq_false] at z
    simpa using z y hy
  have hform : methodCallForm l.length (backTo pos (starEach l X.env)) [] = true := by
    unfold methodCallForm
    rw [hpl0, hlen]
    simp
    omega
  have ht := meth_ht (m := nm') (apos := ap) (pos := pos) (env := X.env) (args := l) (plnO_base h1) hform h2
  have he := (ha X C o W g tk h4).1
  have main : PE X (.Call (.Attribute o nm' ap) l [] pos) (fun σ H Q => dE V_ W a σ H fun x H1 => ∃ p dx gs, x = .ref p ∧ H1 p = some (.ins (Tb.oc c') dx gs) ∧ gs.lookup nm' = none ∧
      dAr V_ W es σ H1 fun vs H2 => spF V_ ps.length (V_.F.call f') (.ref p :: vs) H2 Q (WE W σ)) := by
    refine ⟨fun pins s σ H Q I q => ?_⟩
    refine PySem.W.methodCall_KW (pl := plainOf o X.env) (thn (he.run pins s σ H _ I q) fun u s1 ⟨x, H1, I1, rx, p, dx, gs, ex, ea, l0, q⟩ => ?_) ht
    subst ex
    obtain rfl : u = Value.ref p := rx
    refine getmeth_ok I1 ea hc hm l0 ?_
    cases l with
    | nil =>
      cases es with
      | cons => simp [chkEs] at h5
      | nil =>
        obtain ⟨m, os, env, S, rel, post⟩ := q
        exact PySem.W.callWith_K0 (first := [.ref p]) I1.kIn hm.kp (run_G (us := [.ref p]) (vs := [.ref p]) FN (g.room.mono (Nat.le_add_right _ _)) hg hb tk I1 (.cons rfl .nil) (post m [] H1 (Stp.refl m H1) rel .nil))
    | cons y l =>
      obtain ⟨y', l', e, hy⟩ := chkEs_cons h5 (by rw [← chkEs_len h5]; simp)
      cases e
      refine PySem.W.callWith_K (first := [.ref p]) (h₀ := X.base) I.ok.mod.kin hm.kp (thn (l3.run pos pins s1 σ H1 _ I1 q) fun us s2 ⟨vs, H2, I2, r, q2⟩ => ⟨I2.kIn, ?_⟩) (star_of hy) (chkEs_tail h5)
      exact run_G (us := .ref p :: us) (vs := .ref p :: vs) FN (g.room.mono (Nat.le_add_right _ _)) hg hb tk I2 (.cons rfl r) q2
  refine pair g (main.imp fun σ H Q q => ?_) (fun _ => rfl)
  obtain ⟨m, os, env, S, rel, post⟩ := q
  unfold evE at post
  refine ev1 rel post fun r1 S1 m1 v1 H1 s1 rel1 rp1 post1 => ?_
  obtain ⟨r2, e1, post1⟩ := PX.obind post1
  obtain ⟨fs, rfl, rfl⟩ := objR_got e1
  cases rp1 with
  | @obj _ _ p ob =>
    obtain ⟨dx, gs, h6, h7⟩ := ob.no hno
    refine ⟨p, dx, gs, rfl, h6, h7, ?_⟩
    refine ev1A rel1 post1 fun rs S2 m2 vs H2 s2 rel2 rp2 post2 => ?_
    rcases har (.obj c' fs :: rs) S2 with nb | ⟨hl, ho⟩
    · rw [nb] at post2
      exact post2.elim
    · have rp3 : RpL V_.K m2 os H2 (.obj c' fs :: rs) (.ref p :: vs) := .cons (H0 := H) (.obj (ob.ext s2.pre s2.ext)) rp2
      refine ⟨by rw [← rp3.len]; exact hl, rel2.tb, m2, S2, _, rel2.ce, rel2.m_nd, rp3.noos ho, PX.mono post2 (fun r S' z m' v H' st ce nd rp => ?_) fun c fs S' z m' d H' st ce nd xd => ?_⟩
      · exact (okE.step (s1.trans s2) z) m' v H' st (rel2.after st ce nd) (rp.reos rel2)
      · exact z m' d H' st (rel2.after st ce nd) xd
theorem run_GM {X : Cx} {W : WX} {gd : Bool} {k : Nat} {C f : Addr} {fd : FuncData} {ps : List Str} {sp : Sp} {pins : List (Addr × Obj)} {σ : L2.St} {H : Hp} {s : Shared} {Q : VK} {us : List Value} {vs : List V} (M : L2.Mk X.K C f)
    (F : FnG X.prog X.w X.K X.mg X.base gd k f fd ps sp) (hr : Room (k + 1) X.A) (hg : gd = true → X.A.guards = some []) (hb : Binds X.K fd ps []) (tk : Takes X W) (I : L2.Inv X pins σ H s) (r : Vals vs us)
    (h : ∀ x dx, H x = none → H dx = none → dx ≠ x → sp (.ref x :: vs) (upd (upd H dx (.own x)) x (.ins C dx [])) (fun v H2 => v = .non ∧ Q (.ref x) H2) (WE W σ)) :
    wpAny (model X.prog X.w) X.A (call (.ref C) us) (EP X pins σ Q) X.xe s := by
  have hq := h (s.heap.objs.size + 1) s.heap.objs.size (I.hok.fresh (Nat.le_succ _)) (I.hok.fresh (Nat.le_refl _)) (Nat.ne_of_lt (Nat.lt_succ_self _))
  have I2 := L2.Inv.made (C := C) I
  have r2 : Vals (V.ref (s.heap.objs.size + 1) :: vs) (Value.ref (s.heap.objs.size + 1) :: us) := .cons rfl r
  have hl : (Value.ref (s.heap.objs.size + 1) :: us).length = ps.length := by rw [← r2.length]; exact F.len _ _ _ _ hq
  have hbd := hb _ (Value.ref (s.heap.objs.size + 1) :: us) I2.kIn (by rw [List.append_nil]; exact hl)
  rw [List.append_nil] at hbd
  refine wpAny_call (make_map (f := f) I.kIn M.makes M.init (beq_iff_eq.mp M.fn) (codeAny_mono (F.run _ X.stack _ _ ⟨Value.ref (s.heap.objs.size + 1) :: us, []⟩ (Value.ref (s.heap.objs.size + 1) :: us) _ _ (WE W σ) (hr.make C us [])
    hg (I2.env0.make C us []) hbd r2 hq) fun r s' hq' => ?_))
  cases r with
  | error e => exact passAt tk σ pins _ _ e s' I2 hq'
  | ok fl =>
    cases fl with
    | ret u =>
      obtain ⟨v, H', I3, rv, ev, q3⟩ := I2.after hq'
      subst ev
      exact ⟨rv, ⟨V.ref (s.heap.objs.size + 1), H', I3, rfl, q3⟩⟩
    | next => exact False.elim hq'
    | brk => exact False.elim hq'
    | cont => exact False.elim hq'
theorem se_new {c f : Nat} {es : Es} (hs : SL G V_ n es) : SE G V_ n (.new c f es) := by
  intro X C x W g tk h
  cases x <;> try (simp [chkE] at h; done)
  rename_i fn l kws pos
  cases fn <;> try (simp [chkE] at h; done)
  rename_i x p
  cases kws <;> try (simp [chkE] at h; done)
  simp only [chkE, Bool.and_eq_true, List.any_eq_true, decide_eq_true_eq, Bool.or_eq_true, Bool.not_eq_true'] at h
  obtain ⟨⟨⟨⟨c', x', f', gd⟩, ht, ⟨rfl, rfl, rfl⟩, hgd⟩, h1⟩, h2⟩ := h
  obtain ⟨gl, hd, hn⟩ := g.gl h1
  obtain ⟨a, fd, ps, np, n', hn', hps, hm, M, hb, FN, har⟩ := g.glob.mks c' x' f' gd ht
  rw [← g.K] at M hb FN
  have hg : gd = true → X.A.guards = some [] := fun z => g.gs (hgd.elim (fun w => by rw [z] at w; cases w) id)
  obtain ⟨_, _, l3, _⟩ := hs X C l W g tk h2
  have hroom : Room (n' + 1) X.A := g.room.mono (Nat.le_trans hn' (Nat.le_add_right _ _))
  have use : ∀ {pins : List (Addr × Obj)} {s : Shared} {σ : L2.St} {H : Hp} {Q : VK} {us : List Value} {vs : List V}, L2.Inv X pins σ H s → Vals vs us → spF V_ np (V_.F.call f') vs H Q (WE W σ) → wpAny (model X.prog X.w) X.A (call (.ref (Tb.oc c')) us) (EP X pins σ Q) X.xe s := by
    intro pins s σ H Q us vs I r q
    refine run_GM M FN hroom hg hb tk I r fun x dx hx hdx ne => ⟨x, dx, H, vs, rfl, hx, hdx, ne, rfl, ?_⟩
    obtain ⟨q1, q2, m, S, rs, q3, q4, q5, q6⟩ := q
    exact ⟨q1, q2, m, S, rs, q3, q4, q5, PX.mono q6 (fun r S' z m' v H' st ce nd rp e => ⟨rfl, by rw [← e]; exact z m' v H' st ce nd rp⟩) fun _ _ _ z => z⟩
  have main : PE X (.Call (.Name x' p) l [] pos) (fun σ H Q => dAr V_ W es σ H fun vs H1 => spF V_ np (V_.F.call f') vs H1 Q (WE W σ)) := by
    cases l with
    | nil =>
      refine ⟨fun pins s σ H Q I q => ?_⟩
      refine wpAny_Call_Name_kw (ld_glob I gl hm ?_ hd)
      refine PySem.W.callWith_K0 I.kIn M.kp ?_
      cases es with
      | cons => simp [chkEs] at h2
      | nil =>
        obtain ⟨m, os, env, S, rel, post⟩ := q
        exact use (us := []) I .nil (post m [] H (Stp.refl m H) rel .nil)
    | cons y l =>
      obtain ⟨y', l', e, hy⟩ := chkEs_cons h2 (by rw [← chkEs_len h2]; simp)
      cases e
      refine ⟨fun pins s σ H Q I q => ?_⟩
      refine wpAny_Call_Name_kw (ld_glob I gl hm ?_ hd)
      refine PySem.W.callWith_K (h₀ := X.base) I.ok.mod.kin M.kp (thn (l3.run pos pins s σ H _ I q) fun us s1 ⟨vs, H1, I1, r, q⟩ => ⟨I1.kIn, ?_⟩) (star_of hy) (chkEs_tail h2)
      exact use I1 r q
  refine pair g (main.imp fun σ H Q q => ?_) (fun _ => rfl)
  obtain ⟨m, os, env, S, rel, post⟩ := q
  unfold evE at post
  refine ev1A rel post fun rs S1 m1 vs H1 s1 rel1 rp1 post1 => ?_
  rcases har rs S1 with nb | ⟨hl, ho⟩
  · rw [nb] at post1
    exact post1.elim
  · refine ⟨by rw [← rp1.len]; exact hl, rel1.tb, m1, S1, rs, rel1.ce, rel1.m_nd, rp1.noos ho, PX.mono (PX.bind post1) (fun r S' z m' v H' st ce nd rp => ?_) fun c fs S' z m' d H' st ce nd xd => ?_⟩
    · obtain ⟨r', e1, z⟩ := PX.got z
      obtain ⟨fs, rfl, rfl⟩ := objR_got e1
      exact (okE.step s1 z) m' v H' st (rel1.after st ce nd) (rp.reos rel1)
    · exact z m' d H' st (rel1.after st ce nd) xd
end
end Vy
set_option Elab.async false
set_option linter.all false
set_option maxRecDepth 100000
set_option maxHeartbeats 4000000
namespace Vy
open PySem PySem.Spec L2
variable [Tb]
section
variable {G : GT} {V_ : Nv} {n : Nat}
/-! ### xs[::-1] -/
theorem RpA.rev {K : PySem.W.Frag} {H : Hp} {ds : List D} {vs : List V} (h : RpA K H ds vs) : RpA K H ds.reverse vs.reverse := by
  induction vs generalizing ds with
  | nil => cases h; exact .nil
  | cons v vs ih =>
    cases h with
    | cons a b => rw [List.reverse_cons, List.reverse_cons]; exact (ih b).app (.cons a .nil)
theorem se_rev {a : E} (ha : SE G V_ n a) : SE G V_ n (.rev a) := by
  intro X C x W g tk h
  have h' : ∃ y k p3 p1 p2 pos, x = .Subscript y (.Slice none none (some (.UnaryOp .USub (.Constant (.int 1) k p3) p1)) p2) pos ∧ chkE G C a y = true := by
    cases x <;> try (simp [chkE] at h; done)
    rename_i y sl pos
    cases sl <;> try (simp [chkE] at h; done)
    rename_i l u st p2
    cases l <;> cases u <;> cases st <;> try (simp [chkE] at h; done)
    rename_i st
    cases st <;> try (simp [chkE] at h; done)
    rename_i op e p1
    cases op <;> cases e <;> try (simp [chkE] at h; done)
    rename_i c k p3
    cases c <;> try (simp [chkE] at h; done)
    rename_i i
    simp only [chkE, Bool.and_eq_true, decide_eq_true_eq] at h
    obtain ⟨rfl, h⟩ := h
    exact ⟨y, k, p3, p1, p2, pos, rfl, h⟩
  obtain ⟨y, k, p3, p1, p2, pos, rfl, h⟩ := h'
  refine pair g ((pe_rev (ha X C y W g tk h).1).imp fun σ H Q q => ?_) (fun _ => rfl)
  obtain ⟨m, os, env, S, rel, post⟩ := q
  unfold evE at post
  refine ev1 rel post fun r1 S1 m1 v1 H1 s1 rel1 rp1 post1 => ?_
  obtain ⟨r, e, ok⟩ := PX.got post1
  cases hd : dat S1 r1 with
  | none => rw [hd] at e; cases e
  | some d =>
    rw [hd] at e
    have t := rp1.dat rel1.ce hd
    rw [g.K]
    cases d <;> try (cases e; done)
    · rename_i xs
      cases e
      obtain ⟨p, ws, rfl, q1, q2⟩ := t.list
      exact .inl ⟨p, ws, rfl, q1, fun z hz => (okE.step s1 ok).newL rel1 q2.rev hz⟩
    · rename_i xs
      cases e
      obtain ⟨p, ws, rfl, q1, q2⟩ := t.tuple
      exact .inr ⟨p, ws, rfl, q1, fun z hz => (okE.step s1 ok).newT rel1 q2.rev hz⟩
/-! ### tuple(zip(a, b)) -/
theorem Ext.newL {q : List Addr} : ∀ {L : List (Addr × HO)} {H : Hp}, (∀ p ∈ L, H p.1 = none) → (L.map (·.1)).Nodup → Ext q H (updL H L)
  | [], H, _, _ => Ext.refl q H
  | p :: r, H, hn, nd => by
    rw [List.map_cons, List.nodup_cons] at nd
    have ih := Ext.newL (q := q) (L := r) (H := H) (fun x hx => hn x (List.mem_cons_of_mem _ hx)) nd.2
    refine ih.trans (Ext.new (m := q) (p := p.1) (o := p.2) ?_) fun x hx => .inl hx
    rw [updL_out nd.1]
    exact hn p List.mem_cons_self
theorem Rel.newL {K : PySem.W.Frag} {m os : List Addr} {env : Ev} {σ : L2.St} {S : Sto} : ∀ {L : List (Addr × HO)} {H : Hp}, Rel K m os env S σ H → (∀ p ∈ L, H p.1 = none) → (L.map (·.1)).Nodup → Rel K m os env S σ (updL H L)
  | [], H, h, _, _ => h
  | p :: r, H, h, hn, nd => by
    rw [List.map_cons, List.nodup_cons] at nd
    have ih := Rel.newL (L := r) h (fun x hx => hn x (List.mem_cons_of_mem _ hx)) nd.2
    refine ih.new ?_
    rw [updL_out nd.1]
    exact hn p List.mem_cons_self
theorem zip_rp {K : PySem.W.Frag} {H0 H : Hp} : ∀ {xs ys : List D} {vs ws : List V} {Ts : List Addr}, RpA K H xs vs → RpA K H ys ws → (∀ p ∈ Ts.zip (zipV vs ws), H p.1 = some p.2) → Ts.length = (zipV vs ws).length → RpA K H (zipD xs ys) (Ts.map V.ref)
  | [], ys, vs, ws, Ts, a, b, h, hl => by
    cases a
    have : Ts = [] := List.eq_nil_of_length_eq_zero (by simpa [zipV] using hl)
    subst this
    exact .nil
  | x :: xs, [], vs, ws, Ts, a, b, h, hl => by
    cases b
    cases a
    have : Ts = [] := List.eq_nil_of_length_eq_zero (by simpa [zipV] using hl)
    subst this
    exact .nil
  | x :: xs, y :: ys, vs, ws, Ts, a, b, h, hl => by
    cases a with
    | cons a1 a2 =>
      cases b with
      | cons b1 b2 =>
        cases Ts with
        | nil => simp [zipV] at hl
        | cons T Ts =>
          have h0 := h (T, _) (by simp [zipV]; exact .inl rfl)
          refine .cons (.tup h0 (.cons a1 (.cons b1 .nil))) (zip_rp (H0 := H0) a2 b2 (fun p hp => h p ?_) (by simpa [zipV] using hl))
          simp only [zipV, List.zip_cons_cons]
          exact List.mem_cons_of_mem _ hp
theorem se_tzip {a b : E} (ha : SE G V_ n a) (hb : SE G V_ n b) : SE G V_ n (.tzip a b) := by
  intro X C x W g tk h
  have h' : ∃ t pt z pz y1 y2 p2 pos, x = .Call (.Name t pt) [.Call (.Name z pz) [y1, y2] [] p2] [] pos ∧ (chkB C t "tuple" && chkB C z "zip" && (plainE y1 && chkE G C a y1 && (plainE y2 && chkE G C b y2))) = true := by
    cases x <;> try (simp [chkE] at h; done)
    rename_i f l kw pos
    cases f <;> try (simp [chkE] at h; done)
    rename_i t pt
    cases kw <;> try (cases l <;> simp [chkE] at h; done)
    match l, h with
    | [.Call (.Name z pz) [y1, y2] [] p2], h => exact ⟨t, pt, z, pz, y1, y2, p2, pos, rfl, h⟩
    | [], h => exact absurd (show false = true from h) (by decide)
    | (u :: v :: w), h => cases u <;> exact absurd (show false = true by simpa [chkE] using h) (by decide)
    | [u], h =>
      cases u <;> try (exact absurd (show false = true by simpa [chkE] using h) (by decide))
      rename_i f2 l2 kw2 p2
      cases f2 <;> try (exact absurd (show false = true by simpa [chkE] using h) (by decide))
      cases kw2 with
      | cons => rcases l2 with _ | ⟨_, _ | ⟨_, _ | _⟩⟩ <;> simp [chkE] at h
      | nil =>
        rcases l2 with _ | ⟨y1, _ | ⟨y2, _ | _⟩⟩ <;> try (simp [chkE] at h; done)
        exact ⟨_, _, _, _, _, _, _, _, rfl, by simpa [chkE] using h⟩
  obtain ⟨t, pt, z, pz, y1, y2, p2, pos, rfl, h'⟩ := h'
  simp only [Bool.and_eq_true] at h'
  obtain ⟨⟨h1, h2⟩, ⟨h3, h4⟩, h5, h6⟩ := h'
  obtain ⟨rfl, g1, _, _, m1⟩ := g.bl h1
  obtain ⟨rfl, g2, _, _, m2⟩ := g.bl h2
  have pa := (ha X C y1 W g tk h4).1
  have pb := (hb X C y2 W g tk h6).1
  refine pair g ((pe_tupZip g.calm g1 m1 g2 m2 (pa_cons pa (pa_cons pb pa_nil (star_of h5)) (star_of h3)) (star_of h3) (by rw [star_of h5]; rfl)).imp fun σ H Q q => ?_) (fun _ => rfl)
  obtain ⟨m, os, env, S, rel, post⟩ := q
  unfold evE at post
  refine ev1 rel post fun r1 S1 m1 v1 H1 s1 rel1 rp1 post1 => ev1 rel1 post1 fun r2 S2 m2 v2 H2 s2 rel2 rp2 post2 => ?_
  obtain ⟨r, e, ok⟩ := PX.got post2
  rw [g.K]
  have sq : ∀ {d : D} {v : V} {xs : List D}, Rt V_.K H2 d v → seqOf d = some xs → ∃ p ws, v = .ref p ∧ SqA V_.K H2 p ws ∧ RpA V_.K H2 xs ws := by
    intro d v xs t hs
    cases d <;> try (cases hs; done)
    · cases hs
      obtain ⟨p, ws, rfl, q1, q2⟩ := t.list
      exact ⟨p, ws, rfl, .inl q1, q2⟩
    · cases hs
      obtain ⟨p, ws, rfl, q1, q2⟩ := t.tuple
      exact ⟨p, ws, rfl, .inr q1, q2⟩
  cases hd : dat S2 r1 with
  | none => rw [hd] at e; cases e
  | some d =>
    cases hd2 : dat S2 r2 with
    | none => rw [hd, hd2] at e; cases e
    | some d2 =>
      rw [hd, hd2] at e
      simp only [Option.bind_some] at e
      unfold tzipD at e
      split at e
      · rename_i xs ys e1 e2
        cases e
        obtain ⟨p, ws, rfl, q1, q2⟩ := sq ((rp1.step s2).dat rel2.ce hd) e1
        obtain ⟨p', ws', rfl, q1', q2'⟩ := sq (rp2.dat rel2.ce hd2) e2
        refine ⟨p, p', ws, ws', rfl, q1, q1', fun Ts z nd fr hl => ?_⟩
        have mp : (Ts.zip (zipV ws ws')).map (·.1) = Ts := List.map_fst_zip (Nat.le_of_eq hl)
        obtain ⟨nd1, _, nd2⟩ := List.nodup_append.mp nd
        have hn : ∀ q ∈ Ts.zip (zipV ws ws'), H2 q.1 = none := fun q hq => fr _ (List.mem_append_left _ (by rw [← mp]; exact List.mem_map_of_mem hq))
        have ndL : ((Ts.zip (zipV ws ws')).map (·.1)).Nodup := by rw [mp]; exact nd1
        have relL := rel2.newL hn ndL
        have ext : Ext m2 H2 (updL H2 (Ts.zip (zipV ws ws'))) := Ext.newL hn ndL
        have rp := zip_rp (H0 := H2) (q2.ext ext) (q2'.ext ext) (fun q hq => updL_in ndL q hq) hl
        refine (okE.step ((s1.trans s2).trans (Stp.of ext)) ok).newT relL rp ?_
        rw [updL_out (by rw [mp]; exact fun hz => nd2 z hz z (by simp) rfl)]
        exact fr z (by simp)
      · cases e
/-! ### {k: v, ..} -/
def SEs (G : GT) (V_ : Nv) (n : Nat) : Es → Prop
  | .nil => True
  | .cons e es => SE G V_ n e ∧ SEs G V_ n es
def kD : D → V
  | .int i => .int i
  | .str x => .str x
  | _ => .non
theorem disp_pairs {X : Cx} {C : Cxs} {W : WX} {pos : Pos} (g : Gd G V_ n C X) (tk : Takes X W) : ∀ {es : Es} {l : List Expr} {ks : List D} {keys : List (Option Expr)}, SEs G V_ n es → chkKs ks keys = true → chkEs G C es l = true → ks.length = es.len →
    ∃ trs, PPs X pos keys l trs ∧ keys.all (·.isSome) = true ∧ keys.length = l.length ∧ ∀ (m os : List Addr) (env : Ev) (S : Sto) (σ : L2.St) (H : Hp) (Q : List (V × V) → Hp → Prop) (ok : List D → Sto → Prop), Rel V_.K m os env S σ H → PX ok (exW V_ W m os env σ H) (evFz V_.F es env S) →
      (∀ ds S' m' vs H', Stp m m' H H' → Rel V_.K m' os env S' σ H' → RpA V_.K H' ds vs → ds.length = ks.length → ok ds S' → Q ((ks.map kD).zip vs) H') → tPairs trs σ H Q
  | .nil, [], [], [], _, _, _, _ => ⟨[], pps_nil, rfl, rfl, fun m os env S σ H Q ok rel post h => h [] S m [] H (Stp.refl m H) rel .nil rfl post⟩
  | .cons e es, x :: l, k :: ks, ke :: keys, hs, hk, hc, hl => by
    unfold chkEs at hc
    simp only [Bool.and_eq_true] at hc
    have hk' : (∃ kx, ke = some kx ∧ PE X kx (fun σ H Q => Q (kD k) H)) ∧ chkKs ks keys = true := by
      match k, ke, hk with
      | .int i, some (.Constant (.int j) _ _), hk =>
        simp only [chkKs, Bool.and_eq_true, decide_eq_true_eq] at hk
        obtain ⟨rfl, hk⟩ := hk
        exact ⟨⟨_, rfl, pe_int⟩, hk⟩
      | .str i, some (.Constant (.str j) _ _), hk =>
        simp only [chkKs, Bool.and_eq_true, decide_eq_true_eq] at hk
        obtain ⟨rfl, hk⟩ := hk
        exact ⟨⟨_, rfl, pe_str⟩, hk⟩
    obtain ⟨⟨kx, rfl, pk⟩, hk2⟩ := hk'
    obtain ⟨trs, h1, h2, h3, h4⟩ := disp_pairs g tk (es := es) (l := l) (ks := ks) (keys := keys) hs.2 hk2 hc.2 (by
      have : ks.length + 1 = es.len + 1 := hl
      omega)
    refine ⟨_, pps_cons pk ((hs.1 X C x W g tk hc.1.2).1.lk) h1, by simpa using h2, by simpa using h3, fun m os env S σ H Q ok rel post h => ?_⟩
    unfold evFz at post
    show dE V_ W e σ H (Lk fun y H2 => tPairs trs σ H2 fun ps H3 => Q ((kD k, y) :: ps) H3)
    refine ev0 rel post fun r1 S1 m1 v1 H1 s1 rel1 rp1 post1 => ?_
    obtain ⟨d, e, post1⟩ := PX.obind post1
    refine lk_of s1 rel1 rp1 e fun H2 s2 rel2 rp2 => ?_
    refine h4 m1 os env S1 σ H2 _ _ rel2 (PX.bind (PX.st s2 post1)) fun ds S' m' vs H' s3 rel3 rp3 hdl post3 => ?_
    exact h (d :: ds) S' m' (v1 :: vs) H' (s2.trans s3) rel3 (.cons (rp2.ext s3.ext) rp3) (by rw [List.length_cons, hdl, List.length_cons]) post3
  | .cons _ _, _ :: _, _ :: _, [], _, hk, _, _ => by simp [chkKs] at hk
theorem keys_kv : ∀ {ks : List D} {l : List Key}, ks.mapM keyD = some l → ks.map kD = l.map kV
  | [], l, h => by cases h; rfl
  | k :: ks, l, h => by
    rw [List.mapM_cons] at h
    cases h1 : keyD k with
    | none => rw [h1] at h; cases h
    | some q =>
      rw [h1] at h
      cases h2 : ks.mapM keyD with
      | none => rw [h2] at h; cases h
      | some qs =>
        rw [h2] at h
        cases h
        rw [List.map_cons, List.map_cons, keys_kv h2]
        congr 1
        cases k <;> cases h1 <;> rfl
theorem kvs_zip {K : PySem.W.Frag} {H : Hp} : ∀ {l : List Key} {ds : List D} {vs : List V}, RpA K H ds vs → KvR K H (l.zip ds) (l.zip vs)
  | [], _, _, _ => .nil
  | _ :: _, [], _, h => by cases h; exact .nil
  | k :: l, d :: ds, _, h => by
    cases h with
    | cons a b => exact .cons ⟨rfl, a⟩ (kvs_zip b)
theorem se_ddisp {ks : List D} {es : Es} (hs : SEs G V_ n es) : SE G V_ n (.ddisp ks es) := by
  intro X C x W g tk h
  cases x <;> try (simp [chkE] at h; done)
  rename_i keys l pos
  simp only [chkE, Bool.and_eq_true, decide_eq_true_eq] at h
  obtain ⟨⟨⟨⟨h1, h2⟩, h3⟩, h4⟩, h5⟩ := h
  obtain ⟨trs, pp, ha, hl, rd⟩ := disp_pairs (pos := pos) g tk hs h1 h5 h2
  have ln : l.length = es.len := chkEs_len h5
  refine pair g ((pe_disp pp ha hl (fun z => by rw [z] at hl; rw [← hl] at ln; simp at ln; omega) (by rw [hl, ln, ← h2]; exact h4)).imp fun σ H Q q => fun p hp => ?_) (fun _ => rfl)
  obtain ⟨m, os, env, S, rel, post⟩ := q
  unfold evE at post
  have s0 : Stp m m H (upd H p (.dK [])) := Stp.of (Ext.new hp)
  have rel0 : Rel V_.K m os env S σ (upd H p (.dK [])) := rel.new hp
  have frp : Fr H p := Fr.of hp
  refine rd m os env S σ _ _ _ rel0 (PX.bind (PX.st s0 post)) fun ds S' m' vs H' s1 rel1 rp hdl post1 => ?_
  have pm : p ∉ m := rel.offM frp
  have e1 : H' p = some (.dK []) := s1.ext.keep _ _ upd_same pm fun ps z => by cases z
  obtain ⟨r, e, ok⟩ := PX.got post1
  unfold ddispD at e
  split at e
  · rename_i hc
    cases hk : ks.mapM keyD with
    | none => rw [hk] at e; cases e
    | some kl =>
      rw [hk] at e
      cases e
      have hkl : kl.length = ks.length := by
        have := congrArg List.length (keys_kv hk)
        simpa using this.symm
      refine ⟨e1, kl.zip vs, ?_, by rw [List.length_zip]; exact Nat.le_trans (Nat.min_le_left _ _) (by rw [hkl]; exact hc.2.2), ?_⟩
      · rw [keys_kv hk]
        clear rd e1 hc hkl hk ok rp hdl post1
        induction kl generalizing vs with
        | nil => rfl
        | cons k kl ih =>
          cases vs with
          | nil => rfl
          | cons v vs => simp [ih]
      · have nm : p ∉ m' := s1.notin pm (Fr.no upd_same fun ps z => by cases z)
        have no : p ∉ os := rel.offO frp
        have kv := kvs_zip (l := kl) rp
        have ex : Ext [p] H' (upd H' p (.dK (mergeK [] (kl.zip vs)))) := Ext.put e1 trivial (by simp)
        have kvm : KvR V_.K H' (kvMerge [] (kl.zip ds)) (mergeK [] (kl.zip vs)) := KvR.merge kv .nil
        have st : Stp m m' H (upd H' p (.dK (mergeK [] (kl.zip vs)))) := (s0.trans s1).also frp e1 trivial
        exact ok m' (.ref p) _ st (rel1.off ex nm no) (.nd frp nm no ⟨_, upd_same, kvm.ext ex⟩)
  · cases e
/-! ### list(range(..)) -/
theorem bnd_assoc {α β γ : Type} (r : Res α) (f : α → Sto → Res β) (k : β → Sto → Res γ) : (r.bind f).bind k = r.bind fun x S => (f x S).bind k := by cases r <;> rfl
theorem bnd_ok {α β : Type} (a : α) (S : Sto) (f : α → Sto → Res β) : (Res.ok a S).bind f = f a S := rfl
theorem opt_so {α : Type} (a : α) (S : Sto) : opt S (some a) = .ok a S := rfl
theorem rg_rp {K : PySem.W.Frag} {H : Hp} (i j : Int) : RpA K H (rangeD i j) (rgV i j) := by
  unfold rangeD rgV
  have : ∀ l : List Nat, RpA K H (l.map fun k : Nat => PyData.int (i + (k : Int))) (l.map fun k : Nat => V.int (i + (k : Nat))) := fun l => by
    induction l with
    | nil => exact .nil
    | cons k l ih => exact .cons (.int _) ih
  exact this _
theorem rangeD_len (i j : Int) : (rangeD i j).length = (j - i).toNat := by unfold rangeD; rw [List.length_map, List.length_range]
theorem se_lrng {s : Src} {es : Es} (hs : SEs G V_ n es) : SE G V_ n (.lrng s es) := by
  intro X C x W g tk h
  have h' : (∃ a t pt z pz y p2 pos, s = .rng1 ∧ es = .cons a .nil ∧ x = .Call (.Name t pt) [.Call (.Name z pz) [y] [] p2] [] pos ∧ (chkB C t "list" && chkB C z "range" && (plainE y && chkE G C a y)) = true) ∨
      ∃ a b t pt z pz y y2 p2 pos, s = .rng2 ∧ es = .cons a (.cons b .nil) ∧ x = .Call (.Name t pt) [.Call (.Name z pz) [y, y2] [] p2] [] pos ∧ (chkB C t "list" && chkB C z "range" && (plainE y && chkE G C a y && (plainE y2 && chkE G C b y2))) = true := by
    cases s <;> try (simp [chkE] at h; done)
    · rcases es with _ | ⟨a, _ | _⟩ <;> try (simp [chkE] at h; done)
      rcases x with _ | _ | _ | _ | _ | _ | _ | _ | _ | _ | _ | _ | _ | _ | _ | _ | _ | _ | _ | _ | _ | _ | _ | _ | _ | _ | _ | _ | _ <;> try (simp [chkE] at h; done)
      rename_i f l kw pos
      cases f <;> try (simp [chkE] at h; done)
      cases kw <;> try (rcases l with _ | ⟨u, _ | _⟩ <;> simp [chkE] at h; done)
      rcases l with _ | ⟨u, _ | _⟩ <;> try (simp [chkE] at h; done)
      cases u <;> try (simp [chkE] at h; done)
      rename_i f2 l2 kw2 p2
      cases f2 <;> try (simp [chkE] at h; done)
      cases kw2 <;> try (rcases l2 with _ | ⟨_, _ | _⟩ <;> simp [chkE] at h; done)
      rcases l2 with _ | ⟨y, _ | _⟩ <;> try (simp [chkE] at h; done)
      exact .inl ⟨_, _, _, _, _, _, _, _, rfl, rfl, rfl, by simpa [chkE] using h⟩
    · rcases es with _ | ⟨a, _ | ⟨b, _ | _⟩⟩ <;> try (simp [chkE] at h; done)
      cases x <;> try (simp [chkE] at h; done)
      rename_i f l kw pos
      cases f <;> try (simp [chkE] at h; done)
      cases kw <;> try (rcases l with _ | ⟨u, _ | _⟩ <;> simp [chkE] at h; done)
      rcases l with _ | ⟨u, _ | _⟩ <;> try (simp [chkE] at h; done)
      cases u <;> try (simp [chkE] at h; done)
      rename_i f2 l2 kw2 p2
      cases f2 <;> try (simp [chkE] at h; done)
      cases kw2 <;> try (rcases l2 with _ | ⟨_, _ | ⟨_, _ | _⟩⟩ <;> simp [chkE] at h; done)
      rcases l2 with _ | ⟨y, _ | ⟨y2, _ | _⟩⟩ <;> try (simp [chkE] at h; done)
      exact .inr ⟨_, _, _, _, _, _, _, _, _, _, rfl, rfl, rfl, by simpa [chkE] using h⟩
  have fin : ∀ {m os : List Addr} {env : Ev} {S1 : Sto} {σ : L2.St} {H H1 : Hp} {m1 : List Addr} {Q : VK} {i j : Int} {r : R}, Stp m m1 H H1 → Rel V_.K m1 os env S1 σ H1 → (if (rngOk i ∧ rngOk j) then (if (rangeD i j).length ≤ sizeLine then some (R.nl (rangeD i j)) else none) else none) = some r → okE V_ m os env σ H Q r S1 → RgOk i j ∧ ∀ q, H1 q = none → Q (.ref q) (upd H1 q (.lst (rgV i j))) := by
    intro m os env S1 σ H H1 m1 Q i j r s1 rel1 e ok
    split at e
    · rename_i hr
      split at e
      · rename_i hl
        cases e
        rw [rangeD_len, sizeLine_eq] at hl
        unfold rngOk at hr
        simp only [decide_eq_true_eq] at hr
        exact ⟨⟨hr.1.1, hr.1.2, hr.2.1, hr.2.2, hl⟩, fun q hq => (okE.step s1 ok).newL rel1 (rg_rp i j) hq⟩
      · cases e
    · cases e
  rcases h' with ⟨a, t, pt, z, pz, y, p2, pos, rfl, rfl, rfl, h'⟩ | ⟨a, b, t, pt, z, pz, y, y2, p2, pos, rfl, rfl, rfl, h'⟩
  · simp only [Bool.and_eq_true] at h'
    obtain ⟨⟨h1, h2⟩, h3, h4⟩ := h'
    obtain ⟨rfl, g1, _, _, m1⟩ := g.bl h1
    obtain ⟨rfl, g2, _, _, m2⟩ := g.bl h2
    have pa := (hs.1 X C y W g tk h4).1
    refine pair g ((pe_listRg g.calm g1 m1 (prg_1 g2 m2 pa (star_of h3)) rfl).imp fun σ H Q q => ?_) (fun _ => rfl)
    obtain ⟨m, os, env, S, rel, post⟩ := q
    unfold evE evFz at post
    simp only [evFz] at post
    rw [bnd_assoc] at post
    refine ev1 rel post fun r1 S1 m1 v1 H1 s1 rel1 rp1 post1 => ?_
    cases hf : fz r1 with
    | none => rw [hf] at post1; exact post1.elim
    | some d =>
      rw [hf] at post1
      simp only [opt, Res.bind] at post1
      obtain ⟨r, e, ok⟩ := PX.got post1
      unfold lrngD srcD at e
      cases d <;> try (cases e; done)
      rename_i j
      have er : r1 = .p (.int j) := by
        cases r1 <;> simp [fz] at hf
        rw [hf]
      subst er
      refine ⟨j, rp1.isInt, fin (i := 0) s1 rel1 ?_ ok⟩
      rw [← e]
      have : rngOk 0 = true := by decide
      simp only [this, true_and]
      by_cases hj : rngOk j = true
      · rw [if_pos hj, if_pos hj]; rfl
      · rw [if_neg hj, if_neg hj]; rfl
  · simp only [Bool.and_eq_true] at h'
    obtain ⟨⟨h1, h2⟩, ⟨h3, h4⟩, h5, h6⟩ := h'
    obtain ⟨rfl, g1, _, _, m1⟩ := g.bl h1
    obtain ⟨rfl, g2, _, _, m2⟩ := g.bl h2
    have pa := (hs.1 X C y W g tk h4).1
    have pb := (hs.2.1 X C y2 W g tk h6).1
    refine pair g ((pe_listRg g.calm g1 m1 (prg_2 g2 m2 pa pb (star_of h3) (star_of h5) (by rw [star_of h5]; rfl)) rfl).imp fun σ H Q q => ?_) (fun _ => rfl)
    obtain ⟨m, os, env, S, rel, post⟩ := q
    unfold evE evFz evFz at post
    simp only [evFz] at post
    rw [bnd_assoc] at post
    refine ev1 rel post fun r1 S1 m1 v1 H1 s1 rel1 rp1 post1 => ?_
    cases hf : fz r1 with
    | none => rw [hf] at post1; exact post1.elim
    | some d =>
      rw [hf, opt_so, bnd_ok, bnd_assoc, bnd_assoc] at post1
      refine ev1 rel1 post1 fun r2 S2 m2 v2 H2 s2 rel2 rp2 post2 => ?_
      cases hf2 : fz r2 with
      | none => rw [hf2] at post2; exact post2.elim
      | some d2 =>
        rw [hf2, opt_so, bnd_ok, bnd_ok, bnd_ok, bnd_ok] at post2
        obtain ⟨r, e, ok⟩ := PX.got post2
        unfold lrngD srcD at e
        cases d <;> try (cases e; done)
        cases d2 <;> try (cases e; done)
        rename_i i j
        have er : r1 = .p (.int i) := by
          cases r1 <;> simp [fz] at hf
          rw [hf]
        have er2 : r2 = .p (.int j) := by
          cases r2 <;> simp [fz] at hf2
          rw [hf2]
        subst er er2
        refine ⟨i, j, (rp1.step s2).isInt, rp2.isInt, fin (s1.trans s2) rel2 ?_ ok⟩
        rw [← e]
        by_cases hj : (rngOk i = true ∧ rngOk j = true)
        · rw [if_pos hj]
          simp only [hj, and_self, if_true, Option.bind_some]
        · rw [if_neg hj]
          simp only [hj, if_false, Option.bind_none]
end
end Vy
set_option Elab.async false
set_option linter.all false
set_option maxRecDepth 100000
set_option maxHeartbeats 4000000
namespace Vy
open PySem PySem.Spec L2
variable [Tb]

/-! ### what is walked -/
/-- what never goes away -/
def Kep (H H' : Hp) : Prop := (∀ b xs, H b = some (.tup xs) → H' b = some (.tup xs)) ∧ ∀ b o u, H b = some (.frz o u) → H' b = some (.frz o u)
theorem Ext.kep {m : List Addr} {H H' : Hp} (e : Ext m H H') : Kep H H' := ⟨e.fixT, e.fixF⟩
theorem Kep.trans {H H1 H2 : Hp} (a : Kep H H1) (b : Kep H1 H2) : Kep H H2 := ⟨fun x xs h => b.1 x xs (a.1 x xs h), fun x o u h => b.2 x o u (a.2 x o u h)⟩
theorem SqT.kep {K : PySem.W.Frag} {H H' : Hp} {a : Addr} {vs : List V} (h : SqT K H a vs) (e : Kep H H') : SqT K H' a vs := by
  rcases h with (h | ⟨o, h⟩) | h
  · exact .inl (.inl (e.1 _ _ h))
  · exact .inl (.inr ⟨o, e.2 _ _ _ h⟩)
  · exact .inr h
theorem SqF.kep {K : PySem.W.Frag} {H H' : Hp} {a : Addr} {vs : List V} (h : SqF K H a vs) (e : Kep H H') : SqF K H' a vs := by
  rcases h with ⟨o, h⟩ | h
  · exact .inl ⟨o, e.2 _ _ _ h⟩
  · exact .inr h
mutual
theorem Rp.kep {K : PySem.W.Frag} {H H' : Hp} {d : D} {v : V} (h : Rp K H d v) (e : Kep H H') : Rp K H' d v := by
  cases h with
  | non => exact .non
  | bl b => exact .bl b
  | int i => exact .int i
  | str x => exact .str x
  | tup h1 h2 => exact .tup (e.1 _ _ h1) (RpA.kep h2 e)
  | lst h1 h2 => exact .lst (SqF.kep h1 e) (RpA.kep h2 e)
theorem RpA.kep {K : PySem.W.Frag} {H H' : Hp} {ds : List D} {vs : List V} (h : RpA K H ds vs) (e : Kep H H') : RpA K H' ds vs := by
  cases h with
  | nil => exact .nil
  | cons h1 h2 => exact .cons (Rp.kep h1 e) (RpA.kep h2 e)
end
/-- J gives the items ds, one after the other, whatever comes -/
def Wk (K : PySem.W.Frag) (J : It) (ds : List D) (H : Hp) : Prop := ∀ H', Kep H H' → ∀ i : Nat, (i < ds.length → J.go i H' ∧ ∀ x H'', J.yld i H' x H'' → (∃ d, ds[i]? = some d ∧ Rp K H'' d x) ∧ Stp [] [] H' H'') ∧ (i = ds.length → J.stop i H')
theorem Wk.kep {K : PySem.W.Frag} {J : It} {ds : List D} {H H' : Hp} (h : Wk K J ds H) (e : Kep H H') : Wk K J ds H' := fun H2 e2 => h H2 (e.trans e2)
theorem wk_list {K : PySem.W.Frag} {a : Addr} {vs : List V} {ds : List D} {H : Hp} (s : SqF K H a vs) (r : RpA K H ds vs) : Wk K (Itl K a) ds H := by
  intro H' e i
  have s' := (s.kep e).sql
  have r' := r.kep e
  refine ⟨fun hi => ⟨?_, fun x H'' y => ?_⟩, fun hi => ⟨vs, s', by rw [← r.len]; exact Nat.le_of_eq hi.symm⟩⟩
  · obtain ⟨v, h1, h2⟩ := r'.get (List.getElem?_eq_getElem hi)
    exact ⟨vs, v, s', h1⟩
  · obtain ⟨e1, y⟩ := y
    subst e1
    obtain ⟨d, h1, h2⟩ := r'.getV (y vs s')
    exact ⟨⟨d, h1, h2⟩, Stp.refl _ _⟩
theorem wk_tup {K : PySem.W.Frag} {a : Addr} {vs : List V} {ds : List D} {H : Hp} (s : SqT K H a vs) (r : RpA K H ds vs) : Wk K (Itt K a) ds H := by
  intro H' e i
  have s' := SqT.kep s e
  have r' := r.kep e
  refine ⟨fun hi => ⟨?_, fun x H'' y => ?_⟩, fun hi => ⟨vs, s', by rw [← r.len]; exact Nat.le_of_eq hi.symm⟩⟩
  · obtain ⟨v, h1, h2⟩ := r'.get (List.getElem?_eq_getElem hi)
    exact ⟨vs, v, s', h1⟩
  · obtain ⟨e1, y⟩ := y
    subst e1
    obtain ⟨d, h1, h2⟩ := r'.getV (y vs s')
    exact ⟨⟨d, h1, h2⟩, Stp.refl _ _⟩
theorem wk_rng {K : PySem.W.Frag} {lo hi : Int} {H : Hp} : Wk K (Itr lo (hi - lo).toNat) (rangeD lo hi) H := by
  intro H' e i
  have hl : (rangeD lo hi).length = (hi - lo).toNat := by simp [rangeD]
  refine ⟨fun h => ⟨by rw [hl] at h; exact h, fun x H'' y => ?_⟩, fun h => by rw [hl] at h; exact Nat.le_of_eq h.symm⟩
  obtain ⟨e1, e2⟩ := y
  subst e1 e2
  rw [hl] at h
  refine ⟨⟨.int (lo + i), ?_, .int _⟩, Stp.refl _ _⟩
  unfold rangeD
  rw [List.getElem?_map, List.getElem?_range h]
  rfl

section
variable (V_ : Nv) (W : WX)
/-- a walk's reading: R is to hold of any iterator that gives the items -/
def dSrc (src : Src) (it : Es) : TI := fun σ H R => ∃ m os env S, Rel V_.K m os env S σ H ∧
  PX (fun items S' => ∀ m' H' J, Stp m m' H H' → Rel V_.K m' os env S' σ H' → Wk V_.K J items H' → R J H') (exW V_ W m os env σ H) ((evFz V_.F it env S).bind fun is S => opt S (srcD src is))
end
theorem _root_.L2.PI.imp {X : Cx} {t e : Expr} {w w' : TI} (h : PI X t e w) (i : ∀ σ H R, w' σ H R → w σ H R) : PI X t e w' := ⟨fun pins s σ H R I q => h.run pins s σ H R I (i σ H R q)⟩
/-- a list or a tuple, whichever comes -/
theorem _root_.L2.PI.any {X : Cx} {t e : Expr} {te : TE} (h : PE X e te) : PI X t e (fun σ H R => te σ H fun x H1 => ∃ a, x = .ref a ∧ ((∃ xs, SqL X.K H1 a xs) ∧ R (Itl X.K a) H1 ∨ (∃ xs, SqT X.K H1 a xs) ∧ R (Itt X.K a) H1)) := by
  refine ⟨fun pins s σ H R I q => thn (h.run pins s σ H _ I q) fun v s1 ⟨x, H1, I1, r1, a, e1, z⟩ => ?_⟩
  subst e1
  cases r1
  have keep : ∀ (o : Obj), L2.Inv X pins σ H1 { s1 with heap := s1.heap.push o } := fun o => I1.kept (t' := s1.toks) fun b u e => Heap.get?_push_of_some _ e
  have at_ : ∀ b ∈ [s1.heap.objs.size], FpOk X pins H1 b := fun b hb => by
    rw [List.mem_singleton.mp hb]
    exact I1.fpOk (Nat.le_refl _) (I1.hok.fresh (Nat.le_refl _))
  rcases z with ⟨⟨xs, hs⟩, hr⟩ | ⟨⟨xs, hs⟩, hr⟩
  · obtain ⟨_, _, pl, _⟩ := I1.list hs
    exact wpAny_pyIter_list pl.isList ⟨_, _, _, _, H1, rfl, keep _, turn_list a _, ⟨_, Heap.get?_push_size _ rfl, rfl, rfl⟩, at_, hr⟩
  · obtain ⟨ws, _, pt, _⟩ := I1.tuple hs
    exact wpAny_pyIter_tuple (show s1.heap.IsTuple a ws.toArray from pt) ⟨_, _, _, _, H1, rfl, keep _, turn_tuple a _, ⟨_, Heap.get?_push_size _ rfl, rfl, rfl⟩, at_, hr⟩
section
variable {G : GT} {V_ : Nv} {n : Nat} {C : Cxs} {X : Cx} {W : WX}
theorem evFz_one {F : FT} {e : E} {env : Ev} {S : Sto} {α : Type} (k : List D → Sto → Res α) : (evFz F (.cons e .nil) env S).bind k = (evE F e env S).bind fun x S => (opt S (fz x)).bind fun d S => k [d] S := by
  simp only [evFz]
  cases evE F e env S with
  | bad => rfl
  | exc => rfl
  | ok x S1 => simp only [Res.bind]; cases fz x <;> rfl
theorem src_rng1 {is items : List D} (h : srcD .rng1 is = some items) : ∃ j, is = [.int j] ∧ rngOk j = true ∧ items = rangeD 0 j := by
  cases is with
  | nil => cases h
  | cons d l =>
    cases l with
    | cons => cases d <;> cases h
    | nil =>
      cases d <;> try (cases h; done)
      rename_i j
      simp only [srcD] at h
      split at h
      · cases h; exact ⟨j, rfl, by assumption, rfl⟩
      · cases h
theorem src_rng2 {is items : List D} (h : srcD .rng2 is = some items) : ∃ i j, is = [.int i, .int j] ∧ rngOk i = true ∧ rngOk j = true ∧ items = rangeD i j := by
  cases is with
  | nil => cases h
  | cons d l =>
    cases l with
    | nil => cases d <;> cases h
    | cons e l =>
      cases l with
      | cons => cases d <;> cases e <;> cases h
      | nil =>
        cases d <;> try (cases h; done)
        cases e <;> try (cases h; done)
        rename_i i j
        simp only [srcD] at h
        split at h
        · rename_i hz; cases h; exact ⟨i, j, rfl, hz.1, hz.2, rfl⟩
        · cases h
theorem rngOk_of {j : Int} (h : rngOk j = true) : -(2 ^ 62) ≤ j ∧ j < 2 ^ 62 := (decide_eq_true_iff.mp h : _ ∧ _)
/-- the source of a walk -/
theorem src_ok {src : Src} {it : Es} {t i : Expr} (g : Gd G V_ n C X) (tk : Takes X W) (h : chkSrc G C src it i (isTup t) = true) (hs : SL G V_ n it) (h1 : ∀ e, it = .cons e .nil → SE G V_ n e)
    (hen : src = .enum ∨ src = .zip → False) : PI X t i (dSrc V_ W src it) := by
  cases src with
  | enum => exact (hen (.inl rfl)).elim
  | zip => exact (hen (.inr rfl)).elim
  | keys =>
    cases it with
    | nil => simp [chkSrc] at h
    | cons e es => simp [chkSrc] at h
  | dat =>
    cases it with
    | nil => simp [chkSrc] at h
    | cons e es =>
      cases es with
      | cons => simp [chkSrc] at h
      | nil =>
        simp only [chkSrc, Bool.and_eq_true] at h
        have pe := (h1 e rfl X C i W g tk h.2).1
        refine (PI.any pe.lk).imp fun σ H R q => ?_
        obtain ⟨m, os, env, S, rel, post⟩ := q
        rw [evFz_one] at post
        refine ev0 rel post fun r1 S1 m1 v1 H1 s1 rel1 rp1 post1 => ?_
        obtain ⟨d, e1, post1⟩ := PX.obind post1
        refine lk_of s1 rel1 rp1 e1 fun H2 s2 rel2 rp2 => ?_
        obtain ⟨items, e2, ok⟩ := PX.got post1
        unfold srcD at e2
        rw [g.K]
        cases rp2 with
        | tup a b => cases e2; exact ⟨_, rfl, .inr ⟨⟨_, .inl (.inl a)⟩, ok m1 H2 _ s2 rel2 (wk_tup (.inl (.inl a)) b)⟩⟩
        | lst a b => cases e2; exact ⟨_, rfl, .inl ⟨⟨_, a.sql⟩, ok m1 H2 _ s2 rel2 (wk_list a b)⟩⟩
        | _ => cases e2
  | rng1 =>
    cases it with
    | nil => simp [chkSrc] at h
    | cons e es =>
      cases es with
      | cons => simp [chkSrc] at h
      | nil =>
        have h' : ∃ x p y pos, i = .Call (.Name x p) [y] [] pos ∧ chkB C x "range" = true ∧ chkEs G C (.cons e .nil) [y] = true := by
          cases i <;> try (simp [chkSrc] at h; done)
          rename_i fn l kws pos
          cases fn <;> try (simp [chkSrc] at h; done)
          cases l with
          | nil => simp [chkSrc] at h
          | cons y l =>
            cases l with
            | cons => simp [chkSrc] at h
            | nil =>
              cases kws with
              | cons => simp [chkSrc] at h
              | nil =>
                simp only [chkSrc, Bool.and_eq_true] at h
                exact ⟨_, _, _, _, rfl, h.1, by simp [chkEs, h.2.1, h.2.2]⟩
        obtain ⟨x, p, y, pos, rfl, hb, hc⟩ := h'
        obtain ⟨e0, gl, hd, hn, hm⟩ := g.bl hb
        subst e0
        obtain ⟨_, l2, _⟩ := hs X C _ W g tk hc
        obtain ⟨y', l', e1, hy⟩ := chkEs_cons hc (Nat.le_add_left _ _)
        cases e1
        refine (pi_range1 gl hm l2 (star_of hy)).imp fun σ H R q => ?_
        obtain ⟨m, os, env, S, rel, post⟩ := q
        refine ev1F rel post fun ds S1 m1 vs H1 s1 rel1 rp1 post1 => ?_
        obtain ⟨items, e2, ok⟩ := PX.got post1
        obtain ⟨j, rfl, hj, rfl⟩ := src_rng1 e2
        cases rp1 with
        | cons a b =>
          cases a
          cases b
          have z := wk_rng (K := V_.K) (lo := 0) (hi := j) (H := H1)
          rw [Int.sub_zero] at z
          exact ⟨j, rfl, (rngOk_of hj).1, (rngOk_of hj).2, ok m1 H1 _ s1 rel1 z⟩
  | rng2 =>
    have h' : ∃ a b x p y w pos, it = .cons a (.cons b .nil) ∧ i = .Call (.Name x p) [y, w] [] pos ∧ chkB C x "range" = true ∧ chkEs G C (.cons a (.cons b .nil)) [y, w] = true ∧ plainE w = true := by
      cases it with
      | nil => simp [chkSrc] at h
      | cons a es =>
        cases es with
        | nil => simp [chkSrc] at h
        | cons b es =>
          cases es with
          | cons => simp [chkSrc] at h
          | nil =>
            cases i <;> try (simp [chkSrc] at h; done)
            rename_i fn l kws pos
            cases fn <;> try (simp [chkSrc] at h; done)
            cases l with
            | nil => simp [chkSrc] at h
            | cons y l =>
              cases l with
              | nil => simp [chkSrc] at h
              | cons w l =>
                cases l with
                | cons => simp [chkSrc] at h
                | nil =>
                  cases kws with
                  | cons => simp [chkSrc] at h
                  | nil =>
                    simp only [chkSrc, Bool.and_eq_true] at h
                    exact ⟨_, _, _, _, _, _, _, rfl, rfl, h.1, by simp [chkEs, h.2.1.1, h.2.1.2, h.2.2.1, h.2.2.2], h.2.2.1⟩
    obtain ⟨a, b, x, p, y, w, pos, rfl, rfl, hb, hc, hw⟩ := h'
    obtain ⟨e0, gl, hd, hn, hm⟩ := g.bl hb
    subst e0
    obtain ⟨_, l2, _⟩ := hs X C _ W g tk hc
    obtain ⟨y', l', e1, hy⟩ := chkEs_cons hc (Nat.le_add_left _ _)
    cases e1
    refine (pi_range2 gl hm l2 ((star_of hy).trans (by rw [star_of hw]; rfl)) (star_of hw)).imp fun σ H R q => ?_
    obtain ⟨m, os, env, S, rel, post⟩ := q
    refine ev1F rel post fun ds S1 m1 vs H1 s1 rel1 rp1 post1 => ?_
    obtain ⟨items, e2, ok⟩ := PX.got post1
    obtain ⟨i, j, rfl, hi, hj, rfl⟩ := src_rng2 e2
    cases rp1 with
    | cons a b =>
      cases a
      cases b with
      | cons a b =>
        cases a
        cases b
        exact ⟨i, j, rfl, ⟨(rngOk_of hi).1, (rngOk_of hi).2, (rngOk_of hj).1, (rngOk_of hj).2⟩, ok m1 H1 _ s1 rel1 wk_rng⟩
end
end Vy
set_option Elab.async false
set_option linter.all false
set_option maxRecDepth 100000
set_option maxHeartbeats 4000000
namespace Vy
open PySem PySem.Spec L2
variable [Tb]

/-! ### slots are stored to and forgotten -/
section
variable {K : PySem.W.Frag} {m m1 os : List Addr} {H H1 : Hp} {env : Ev} {σ : L2.St} {S : Sto}
theorem Slots.put {i : Nat} {s' : Option SV} {o' : Option V} (h : Slots K H m env σ os) (r : SlotR K H m s' o' []) : ∃ os', Slots K H m (env.set i s') (σ.set i o') os' ∧ os'.Sublist os := by
  cases e : env[i]? with
  | none =>
    have e := List.getElem?_eq_none_iff.mp e
    rw [List.set_eq_of_length_le e, List.set_eq_of_length_le (by rw [← h.len]; exact e)]
    exact ⟨os, h, List.Sublist.refl _⟩
  | some s =>
    obtain ⟨o, as, o1, o2, _, _, e2, k⟩ := h.at_ e
    refine ⟨_, k [] H s' o' [] (Ext.refl _ _) (fun a _ z => absurd z (by simp)) r, ?_⟩
    rw [e2, List.append_nil, List.append_assoc]
    exact (List.Sublist.refl o1).append (List.sublist_append_right as o2)
theorem Slots.wipe (h : Slots K H m env σ os) : ∀ vs : List Nat, ∃ os', Slots K H m (wipeE env vs) (L2.wipe σ vs) os' ∧ os'.Sublist os
  | [] => ⟨os, h, List.Sublist.refl _⟩
  | v :: vs => by
    obtain ⟨o1, h1, e1⟩ := Slots.wipe h vs
    obtain ⟨o2, h2, e2⟩ := h1.put (i := v) (s' := none) (o' := none) (.no _)
    exact ⟨o2, h2, e2.trans e1⟩
theorem Rel.sub {env' : Ev} {σ' : L2.St} {os' : List Addr} (h : Rel K m os env S σ H) (s : Slots K H m env' σ' os') (u : os'.Sublist os) : Rel K m os' env' S σ' H :=
  ⟨s, h.ce, (((List.Sublist.refl m).append u).nodup h.nd), h.tb⟩
theorem Rel.put {i : Nat} {s' : Option SV} {o' : Option V} (h : Rel K m os env S σ H) (r : SlotR K H m s' o' []) : ∃ os', Rel K m os' (env.set i s') S (σ.set i o') H ∧ os'.Sublist os := by
  obtain ⟨os', s, u⟩ := h.sl.put (i := i) r
  exact ⟨os', h.sub s u, u⟩
theorem Rel.wipe (h : Rel K m os env S σ H) (vs : List Nat) : ∃ os', Rel K m os' (wipeE env vs) S (L2.wipe σ vs) H ∧ os'.Sublist os := by
  obtain ⟨os', s, u⟩ := h.sl.wipe vs
  exact ⟨os', h.sub s u, u⟩
/-- several names -/
def gAll : List Nat → TGs
  | [] => gNil
  | i :: is => gCons (gName i) (gAll is)
theorem gAll_val {Q : L2.St → Hp → Prop} : ∀ {is : List Nat} {ds : List D} {vs : List V} {env env' : Ev} {σ : L2.St} {os : List Addr}, Rel K m os env S σ H → RpA K H ds vs → setAll is ds env = some env' →
    (∀ σ' os', Rel K m os' env' S σ' H → os'.Sublist os → L2.wipe σ' is = L2.wipe σ is → Q σ' H) → gAll is vs σ H Q := by
  intro is
  induction is with
  | nil =>
    intro ds vs env env' σ os rel ra e hq
    cases ds with
    | cons => cases e
    | nil =>
      cases ra
      cases e
      exact ⟨rfl, hq _ _ rel (List.Sublist.refl _) rfl⟩
  | cons i is ih =>
    intro ds vs env env' σ os rel ra e hq
    cases ds with
    | nil => cases e
    | cons d ds =>
      cases ra with
      | @cons _ _ v vs r ra =>
        refine ⟨v, vs, rfl, ?_⟩
        obtain ⟨os1, rel1, u1⟩ := rel.put (i := i) (SlotR.p (m := m) r)
        refine ih rel1 ra e fun σ' os' rel' u' w => hq σ' os' rel' (u'.trans u1) ?_
        show (L2.wipe σ' is).set i none = (L2.wipe σ is).set i none
        rw [w]
        clear ih e hq w rel' rel1
        have : ∀ (l : List Nat) (τ : L2.St), (L2.wipe (τ.set i (some v)) l).set i none = (L2.wipe τ l).set i none := by
          intro l
          induction l with
          | nil => intro τ; exact (by show List.set (List.set τ i (some v)) i none = List.set τ i none; simp)
          | cons j l ih =>
            intro τ
            show ((L2.wipe (τ.set i (some v)) l).set j none).set i none = ((L2.wipe τ l).set j none).set i none
            by_cases hj : j = i
            · subst hj; rw [List.set_set, List.set_set]; exact ih τ
            · rw [List.set_comm _ _ hj, ih τ, List.set_comm _ _ (Ne.symm hj)]
        exact this is σ
theorem wipe_set {i : Nat} {x : Option V} : ∀ {vs : List Nat} {σ : L2.St}, i ∈ vs → L2.wipe (σ.set i x) vs = L2.wipe σ vs := by
  have key : ∀ (l : List Nat) (τ : L2.St), (L2.wipe (τ.set i x) l).set i none = (L2.wipe τ l).set i none := by
    intro l
    induction l with
    | nil => intro τ; exact (by show List.set (List.set τ i x) i none = List.set τ i none; simp)
    | cons j l ih =>
      intro τ
      show ((L2.wipe (τ.set i x) l).set j none).set i none = ((L2.wipe τ l).set j none).set i none
      by_cases hj : j = i
      · subst hj; rw [List.set_set, List.set_set]; exact ih τ
      · rw [List.set_comm _ _ hj, ih τ, List.set_comm _ _ (Ne.symm hj)]
  intro vs
  induction vs with
  | nil => intro σ h; cases h
  | cons j vs ih =>
    intro σ h
    rcases List.mem_cons.mp h with h | h
    · subst h; exact key vs σ
    · show (L2.wipe (σ.set i x) vs).set j none = (L2.wipe σ vs).set j none
      rw [ih h]
theorem wipe_wipe {vs : List Nat} {σ : L2.St} : ∀ {is : List Nat}, (∀ i ∈ is, i ∈ vs) → L2.wipe (L2.wipe σ is) vs = L2.wipe σ vs
  | [], _ => rfl
  | i :: is, h => by
    show L2.wipe ((L2.wipe σ is).set i none) vs = _
    rw [wipe_set (h i List.mem_cons_self)]
    exact wipe_wipe fun j hj => h j (List.mem_cons_of_mem _ hj)
end

/-- what a target's reading is -/
def gTg (K : PySem.W.Frag) : Tg → TG
  | .nm i => gName i
  | .tp is => gTup K is.length (gAll is)
section
variable {G : GT} {V_ : Nv} {n : Nat} {C : Cxs} {X : Cx} {W : WX}
variable {m m1 os : List Addr} {H H1 : Hp} {env env' : Ev} {σ : L2.St} {S : Sto}
theorem tg_val {K : PySem.W.Frag} {Q : L2.St → Hp → Prop} {tg : Tg} {d : D} {v : V} (rel : Rel K m os env S σ H) (r : Rp K H d v) (e : tgSet tg d env = some env')
    (hq : ∀ σ' os', Rel K m os' env' S σ' H → os'.Sublist os → (∀ vs, tgIn vs tg = true → L2.wipe σ' vs = L2.wipe σ vs) → Q σ' H) : gTg K tg v σ H Q := by
  cases tg with
  | nm i =>
    cases e
    obtain ⟨os', rel', u⟩ := rel.put (i := i) (SlotR.p (m := m) r)
    exact hq _ os' rel' u fun vs h => wipe_set (by simpa [tgIn] using h)
  | tp is =>
    cases r with
    | @tup a vs ds s ra =>
      have hl : is.length = ds.length := by
        clear rel hq s ra
        simp only [tgSet] at e
        induction is generalizing ds env with
        | nil => cases ds with
          | nil => rfl
          | cons => cases e
        | cons i is ih => cases ds with
          | nil => cases e
          | cons d ds => simp only [List.length_cons]; rw [ih e]
      refine ⟨a, vs, rfl, .inl (.inl s), by rw [hl, ra.len], gAll_val rel ra e fun σ' os' rel' u w => hq σ' os' rel' u fun vs h => ?_⟩
      have hin : ∀ i ∈ is, i ∈ vs := fun i hi => by
        have := List.all_eq_true.mp h i hi
        simpa using this
      rw [← wipe_wipe (σ := σ') hin, w, wipe_wipe hin]
    | _ => cases e
theorem chkTs_len : ∀ {is : List Nat} {es : List Expr}, chkTs C is es = true → es.length = is.length
  | [], [], _ => rfl
  | i :: is, e :: es, h => by
    cases e <;> simp only [chkTs, Bool.and_eq_true] at h <;> first | (rw [List.length_cons, List.length_cons, chkTs_len h.2]) | cases h
  | [], _ :: _, h => by simp [chkTs] at h
  | _ :: _, [], h => by simp [chkTs] at h
theorem chkTs_each : ∀ {is : List Nat} {es : List Expr} {ev : Env}, chkTs C is es = true → assignEach es ev = es.map fun t => (false, assign t ev)
  | [], [], _, _ => rfl
  | i :: is, e :: es, ev, h => by
    cases e <;> simp only [chkTs, Bool.and_eq_true] at h <;> first | (unfold assignEach; rw [chkTs_each h.2]; rfl) | cases h
  | [], _ :: _, _, h => by simp [chkTs] at h
  | _ :: _, [], _, h => by simp [chkTs] at h
theorem tgs_ok : ∀ {is : List Nat} {es : List Expr}, Gd G V_ n C X → chkTs C is es = true → PGs X es (gAll is)
  | [], [], _, _ => pgs_nil
  | i :: is, e :: es, g, h => by
    have h0 := h
    cases e <;> simp only [chkTs, Bool.and_eq_true, decide_eq_true_eq] at h <;> try (cases h; done)
    rename_i x pos
    have hl : L2.Loc X.env.scope x ∧ (X.fn x = true ∨ X.env.scope.names.lookup x = some .local) := by
      have h2 := h.1.2
      rw [g.sc, g.fn]
      split at h2
      · rename_i q; exact ⟨.inl q, .inr q⟩
      · rename_i q; exact ⟨.inr q, .inl h2⟩
      · cases h2
    refine pgs_cons (pg_name (by rw [g.N]; exact g.nd) (by rw [g.N]; exact h.1.1) hl.1 hl.2) (tgs_ok g h.2) ?_
    rw [chkTs_each h0, chkTs_each h.2]
    rfl
  | [], _ :: _, _, h => by simp [chkTs] at h
  | _ :: _, [], _, h => by simp [chkTs] at h
theorem tg_ok {tg : Tg} {t : Expr} (g : Gd G V_ n C X) (h : chkTg C tg t = true) : PG X t (gTg V_.K tg) := by
  cases tg with
  | nm i =>
    have h : chkTs C [i] [t] = true := h
    cases t <;> simp only [chkTs, Bool.and_eq_true, decide_eq_true_eq] at h <;> try (cases h; done)
    rename_i x pos _
    have h2 := h.1.2
    have hl : L2.Loc X.env.scope x ∧ (X.fn x = true ∨ X.env.scope.names.lookup x = some .local) := by
      rw [g.sc, g.fn]
      split at h2
      · rename_i q; exact ⟨.inl q, .inr q⟩
      · rename_i q; exact ⟨.inr q, .inl h2⟩
      · cases h2
    exact pg_name (by rw [g.N]; exact g.nd) (by rw [g.N]; exact h.1.1) hl.1 hl.2
  | tp is =>
    cases t <;> simp only [chkTg] at h <;> try (cases h; done)
    rename_i es k pos
    have z := pg_tup (k := k) (pos := pos) (n := is.length) g.calm (tgs_ok g h) (by rw [chkTs_each h, List.length_map, chkTs_len h]) (by
      rw [chkTs_each h, List.findIdx?_eq_none_iff]
      intro x hx
      obtain ⟨t, _, rfl⟩ := List.mem_map.mp hx
      rfl)
    rw [g.K] at z
    exact z
/-- the block of a comprehension is a place like any -/
theorem Gd.blk (g : Gd G V_ n C X) {s : Shared} {H : Hp} {scope : Scope} {cl : List (Str × Addr)} {c : Addr} {fp : List Addr} : Gd G V_ n (blkS C scope) (X.blk s H scope (compEnvC scope cl c X.env) fp) where
  N := g.N
  sc := by show relS scope X.env.scope = relS scope C.sc; rw [g.sc]
  nd := g.nd
  fn := fun x => rfl
  calm := g.calm
  K := g.K
  glob := g.glob
  room := g.room.mono (Nat.le_add_right _ _)
  told := fun h => absurd (show 2 ≤ 0 from h) (by decide)
  gs := g.gs
end
end Vy
set_option Elab.async false
set_option linter.all false
set_option maxRecDepth 100000
set_option maxHeartbeats 4000000
namespace Vy
open PySem PySem.Spec L2
variable [Tb]

/-! ### list comprehensions -/
abbrev W0 : WX := fun _ _ _ _ => False
def turnC (F : FT) (own : List Nat) (tg : Tg) (cond : Oe) (elt : E) (env : Ev) (d : D) (S : Sto) : Res (List D) := match tgSet tg d (wipeE env own) with
  | none => .bad
  | some env' => (evOb F cond env' S).bind fun t S => if t = true then (evE F elt env' S).bind fun y S => (opt S (fz y)).bind fun y S => .ok [y] S else .ok [] S
theorem turnC_none {F : FT} {own : List Nat} {tg : Tg} {cond : Oe} {elt : E} {env : Ev} {d : D} {S : Sto} (h : tgSet tg d (wipeE env own) = none) : turnC F own tg cond elt env d S = .bad := by unfold turnC; rw [h]
theorem turnC_some {F : FT} {own : List Nat} {tg : Tg} {cond : Oe} {elt : E} {env env' : Ev} {d : D} {S : Sto} (h : tgSet tg d (wipeE env own) = some env') : turnC F own tg cond elt env d S =
    (evOb F cond env' S).bind fun t S => if t = true then (evE F elt env' S).bind fun y S => (opt S (fz y)).bind fun y S => .ok [y] S else .ok [] S := by unfold turnC; rw [h]
theorem ev_comp {F : FT} {own : List Nat} {elt : E} {tg : Tg} {src : Src} {it : Es} {cond : Oe} {env : Ev} {S : Sto} : evE F (.comp own elt tg src it cond) env S =
    (evFz F it env S).bind fun is S => (opt S (srcD src is)).bind fun items S => (noX (compL (turnC F own tg cond elt env) items S)).bind fun ys S => if ys.length ≤ sizeLine then .ok (.nl ys) S else .bad := by
  conv => lhs; unfold evE
  rfl
theorem PX.noX {α : Type} {ok : α → Sto → Prop} {ex : Nat → List D → Sto → Prop} {r : Res α} (h : PX ok ex (noX r)) : PX ok (fun _ _ _ => False) r := by
  cases r <;> exact h
theorem PX.some_ok {α : Type} {ok : α → Sto → Prop} {r : Res α} (h : PX ok (fun _ _ _ => False) r) : ∃ a S, ok a S := by
  cases r with
  | ok a S => exact ⟨a, S, h⟩
  | exc => exact h.elim
  | bad => exact h.elim
/-- a step that writes at Dl, too -/
structure StD (Dl : Addr) (m m' : List Addr) (H H' : Hp) : Prop where
  pre : m <+: m'
  ext : Ext (Dl :: m) H H'
  new : ∀ x ∈ m', x ∈ m ∨ Fr H x
theorem StD.refl {Dl : Addr} {m : List Addr} {H : Hp} : StD Dl m m H H := ⟨List.prefix_refl m, Ext.refl _ _, fun _ h => .inl h⟩
theorem StD.step {Dl : Addr} {m m1 m2 : List Addr} {H H1 H2 : Hp} (a : StD Dl m m1 H H1) (s : Stp m1 m2 H1 H2) : StD Dl m m2 H H2 :=
  ⟨a.pre.trans s.pre, a.ext.trans s.ext fun x hx => (a.new x hx).imp (List.mem_cons_of_mem _) id, fun x hx => (s.new x hx).elim (a.new x) fun h => .inr (a.ext.there x h)⟩
theorem StD.put {Dl : Addr} {m m1 : List Addr} {H H1 : Hp} {o u : HO} (a : StD Dl m m1 H H1) (t : H1 Dl = some u) (w : Wr u) (wo : ∀ ps, o ≠ .tbl ps := by intro ps z; cases z) : StD Dl m m1 H (upd H1 Dl o) :=
  ⟨a.pre, a.ext.trans (Ext.put t w (List.mem_singleton.mpr rfl) wo) fun x hx => .inl (by rw [List.mem_singleton.mp hx]; exact List.mem_cons_self), a.new⟩
theorem Rel.afterD {K : PySem.W.Frag} {Dl : Addr} {m m1 os : List Addr} {env : Ev} {S S' : Sto} {σ : L2.St} {H H1 : Hp} (h : Rel K m os env S σ H) (s : StD Dl m m1 H H1) (ho : Dl ∉ os) (c : Cells K H1 S' m1) (nd : m1.Nodup) : Rel K m1 os env S' σ H1 := by
  have dj : ∀ a ∈ m, ∀ b ∈ os, a ≠ b := (List.nodup_append.mp h.nd).2.2
  refine ⟨h.sl.ext s.pre s.ext fun a ha z => ?_, c, List.nodup_append.mpr ⟨nd, (List.nodup_append.mp h.nd).2.1, fun a ha b hb e => ?_⟩, s.ext.tab h.tb⟩
  · rcases List.mem_cons.mp z with z | z
    · exact ho (z ▸ ha)
    · exact dj a z a ha rfl
  · subst e
    rcases s.new a ha with z | z
    · exact dj a z a hb rfl
    · exact h.sl.some hb z
/-- between two turns: the new list at D has ys; what is left is to give FIN -/
def LcI (V_ : Nv) (m0 os : List Addr) (env : Ev) (σ : L2.St) (H0 Hs : Hp) (ms : List Addr) (Dl : Addr) (turn : D → Sto → Res (List D)) (FIN : List D → Sto → Prop) (rest : List D) (H : Hp) : Prop :=
  ∃ m' S' acc ys, Stp m0 m' H0 H ∧ Rel V_.K m' os env S' σ H ∧ H Dl = some (.lst acc) ∧ RpA V_.K H ys acc ∧ Dl ∉ m' ∧ StD Dl ms m' Hs H ∧ PX (fun zs S'' => FIN (ys ++ zs) S'') (fun _ _ _ => False) (compL turn rest S')
section
variable {V_ : Nv} {m0 m m1 ms os : List Addr} {H0 Hs H H1 : Hp} {env : Ev} {σ : L2.St} {S : Sto} {Dl : Addr} {turn : D → Sto → Res (List D)} {FIN : List D → Sto → Prop} {d : D} {rest : List D}
theorem Stp.mono (s : Stp [] [] H H1) (m : List Addr) : Stp m m H H1 := Stp.of (s.ext.mono fun x hx => absurd hx (by simp))
theorem Rel.nil {K : PySem.W.Frag} (h : Rel K m os env S σ H) (s : Stp [] [] H H1) : Rel K m os env S σ H1 :=
  h.step (s.mono m) (h.ce.ext s.ext fun a _ z => absurd z (by simp)) h.nd
/-- an item comes -/
theorem LcI.item (h : LcI V_ m0 os env σ H0 Hs ms Dl turn FIN (d :: rest) H) (hD : Fr H0 Dl) (s : Stp [] [] H H1) :
    ∃ m' S' acc ys, Stp m0 m' H0 H1 ∧ Rel V_.K m' os env S' σ H1 ∧ H1 Dl = some (.lst acc) ∧ RpA V_.K H1 ys acc ∧ Dl ∉ m' ∧ StD Dl ms m' Hs H1 ∧
      PX (fun x S => PX (fun zs S'' => FIN (ys ++ (x ++ zs)) S'') (fun _ _ _ => False) (compL turn rest S)) (fun _ _ _ => False) (turn d S') := by
  obtain ⟨m', S', acc, ys, s1, rel, h1, h2, h3, h4, h5⟩ := h
  refine ⟨m', S', acc, ys, s1.trans (s.mono m'), rel.nil s, s.ext.keep _ _ h1 (by simp) (fun ps z => by cases z), h2.ext s.ext, h3, h4.step (s.mono m'), ?_⟩
  unfold compL at h5
  exact PX.mono (PX.bind h5) (fun x S z => PX.mono (PX.bind z) (fun _ _ y => y) fun _ _ _ y => y) fun _ _ _ y => y
/-- the turn gave nothing -/
theorem LcI.skip {ys : List D} {acc : List V} (s1 : Stp m0 m H0 H) (rel : Rel V_.K m os env S σ H) (h1 : H Dl = some (.lst acc)) (h2 : RpA V_.K H ys acc) (h3 : Dl ∉ m) (h4 : StD Dl ms m Hs H)
    (s : Stp m m1 H H1) {S1 : Sto} (ce : Cells V_.K H1 S1 m1) (nd : m1.Nodup) (h5 : PX (fun zs S'' => FIN (ys ++ ([] ++ zs)) S'') (fun _ _ _ => False) (compL turn rest S1)) : LcI V_ m0 os env σ H0 Hs ms Dl turn FIN rest H1 := by
  refine ⟨m1, S1, acc, ys, s1.trans s, rel.after s ce nd, s.ext.keep _ _ h1 h3 (fun ps z => by cases z), h2.ext s.ext, s.notin h3 (Fr.no h1 fun ps z => by cases z), h4.step s, h5⟩
/-- the turn gave one thing, which is put behind -/
theorem LcI.app {ys : List D} {acc : List V} (hD : Fr H0 Dl) (s1 : Stp m0 m H0 H) (rel : Rel V_.K m os env S σ H) (h1 : H Dl = some (.lst acc)) (h2 : RpA V_.K H ys acc) (h3 : Dl ∉ m) (h3' : Dl ∉ os) (h4 : StD Dl ms m Hs H)
    (s : Stp m m1 H H1) {S1 : Sto} {y : D} {v : V} (ce : Cells V_.K H1 S1 m1) (nd : m1.Nodup) (ry : Rp V_.K H1 y v) (hF : ∀ zs S, FIN zs S → zs.length ≤ sizeLine) (h5 : PX (fun zs S'' => FIN (ys ++ ([y] ++ zs)) S'') (fun _ _ _ => False) (compL turn rest S1)) :
    ∃ acc', H1 Dl = some (.lst acc') ∧ acc'.length < sizeLine ∧ LcI V_ m0 os env σ H0 Hs ms Dl turn FIN rest (upd H1 Dl (.lst (acc' ++ [v]))) := by
  have e1 := s.ext.keep _ _ h1 h3 (fun ps z => by cases z)
  have h3'' := s.notin h3 (Fr.no h1 fun ps z => by cases z)
  have hx : Ext [Dl] H1 (upd H1 Dl (.lst (acc ++ [v]))) := Ext.put e1 trivial (List.mem_singleton.mpr rfl)
  have h2' := h2.ext s.ext
  refine ⟨acc, e1, ?_, m1, S1, acc ++ [v], ys ++ [y], (s1.trans s).also hD e1 trivial, (rel.after s ce nd).off hx h3'' h3', upd_same, (h2'.app (.cons ry .nil)).ext hx, h3'', (h4.step s).put e1 trivial, ?_⟩
  · obtain ⟨zs, S2, z⟩ := h5.some_ok
    have := hF _ _ z
    rw [← h2'.len]
    simp only [List.length_append, List.length_cons] at this
    omega
  · refine PX.mono h5 (fun zs S z => ?_) fun _ _ _ z => z
    rw [List.append_assoc]
    exact z
end
section
variable {G : GT} {V_ : Nv} {n : Nat}
theorem fset_of {x : Expr} {env : Env} {G : GT} {C : Cxs} {src : Src} {it : Es} {b : Bool} (h : chkSrc G C src it x b = true) : ∀ v, foldedSetIterable x env v = pure v := by
  refine set_of_plain ?_
  cases src
  · cases it with
    | nil => simp [chkSrc] at h
    | cons e es => cases es with
      | cons => simp [chkSrc] at h
      | nil => simp only [chkSrc, Bool.and_eq_true] at h; exact h.1
  all_goals (cases x <;> first | rfl | (simp [chkSrc] at h))
theorem comp_val {W : WX} {own : List Nat} {elt : E} {tg : Tg} {src : Src} {it : Es} {cond : Oe} (hin : tgIn own tg = true) {σ : L2.St} {H : Hp} {Q : VK} (q : dE V_ W (.comp own elt tg src it cond) σ H Q) :
    tLc (dSrc V_ W src it) (gTg V_.K tg) (dI V_ W0 cond) (fun σ H Q => dE V_ W0 elt σ H (Lk Q)) own σ H Q := by
  obtain ⟨m, os, env, S, rel, post⟩ := q
  rw [ev_comp] at post
  refine ⟨m, os, env, S, rel, ?_⟩
  have post : PX (fun items S' => PX (okE V_ m os env σ H Q) (exW V_ W m os env σ H) ((noX (compL (turnC V_.F own tg cond elt env) items S')).bind fun ys S => if ys.length ≤ sizeLine then .ok (.nl ys) S else .bad)) (exW V_ W m os env σ H) ((evFz V_.F it env S).bind fun is S => opt S (srcD src is)) := by
    cases h3 : evFz V_.F it env S with
    | bad => rw [h3] at post; exact post
    | exc => rw [h3] at post; exact post
    | ok is S1 =>
      rw [h3] at post
      simp only [Res.bind] at post ⊢
      cases h4 : srcD src is with
      | none => rw [h4] at post; exact post
      | some items => rw [h4] at post; exact post
  refine PX.mono post (fun items S1 z m1 H1 J s1 rel1 wk => ?_) fun _ _ _ z => z
  have fin := PX.noX (PX.bind z)
  intro Dl hD
  have hD0 : Fr H Dl := s1.ext.there _ (Fr.of hD)
  have hDm : Dl ∉ m1 := rel1.offM (Fr.of hD)
  have hDo : Dl ∉ os := rel1.offO (Fr.of hD)
  generalize hFIN : (fun (ys : List D) (S' : Sto) => PX (okE V_ m os env σ H Q) (exW V_ W m os env σ H) (if ys.length ≤ sizeLine then .ok (.nl ys) S' else .bad)) = FIN at fin
  have hF : ∀ zs S, FIN zs S → zs.length ≤ sizeLine := fun zs S z => by
    rw [← hFIN] at z
    by_cases hz : zs.length ≤ sizeLine
    · exact hz
    · simp only [hz, if_false] at z; exact z.elim
  have hx : Ext m1 H1 (upd H1 Dl (.lst [])) := Ext.new hD
  refine ⟨fun i k H' => k = items.length - i ∧ i ≤ items.length ∧ LcI V_ m os env σ H H1 m1 Dl (turnC V_.F own tg cond elt env) FIN (items.drop i) H', ⟨_, rfl, Nat.zero_le _, m1, S1, [], [], s1.trans (Stp.of hx), rel1.new hD, upd_same, .nil, hDm, ⟨List.prefix_refl _, Ext.new hD, fun _ h => .inl h⟩, fin⟩, ?_⟩
  rintro i k H2 ⟨rfl, hi, inv⟩
  by_cases hlt : i < items.length
  · have hdr : items.drop i = items[i] :: items.drop (i + 1) := List.drop_eq_getElem_cons hlt
    have kep : Kep H1 H2 := by obtain ⟨_, _, _, _, _, _, _, _, _, k, _⟩ := inv; exact k.ext.kep
    obtain ⟨w1, w2⟩ := (wk H2 kep i).1 hlt
    refine .inr ⟨w1, fun H' => LcI V_ m os env σ H H1 m1 Dl (turnC V_.F own tg cond elt env) FIN (items.drop (i + 1)) H', fun H' z => ⟨_, by omega, rfl, by omega, z⟩, fun x H3 yl => ?_⟩
    obtain ⟨⟨d, ed, rd⟩, st⟩ := w2 x H3 yl
    rw [hdr] at inv
    obtain ⟨m2, S2, acc, ys, t1, rel2, a1, a2, a3, a4, a5⟩ := inv.item hD0 st
    have ed' : items[i] = d := by rw [List.getElem?_eq_getElem hlt] at ed; exact Option.some.inj ed
    rw [ed'] at a5
    obtain ⟨os1, relw, u1⟩ := rel2.wipe own
    cases htS : tgSet tg d (wipeE env own) with
    | none => rw [turnC_none htS] at a5; exact a5.elim
    | some env' =>
      rw [turnC_some htS] at a5
      refine tg_val relw rd htS fun σ2 os2 rel3 u2 hw => ⟨?_, ?_⟩
      · rw [hw _ hin]
        exact wipe_wipe fun _ h => h
      refine ⟨m2, os2, env', S2, rel3, PX.mono (PX.bind a5) (fun b S3 zb m3 H4 s4 rel4 => ?_) fun _ _ _ z => z.elim⟩
      cases b with
      | false =>
        simp only [Bool.false_eq_true, if_false] at zb ⊢
        exact LcI.skip t1 rel2 a1 a2 a3 a4 s4 rel4.ce rel4.m_nd zb
      | true =>
        simp only [if_true] at zb ⊢
        refine ev0 (W := W0) (ok := fun x S => PX (fun zs S'' => FIN (ys ++ (x ++ zs)) S'') (fun _ _ _ => False) (compL (turnC V_.F own tg cond elt env) (items.drop (i + 1)) S)) rel4 (PX.mono zb (fun _ _ z => z) fun _ _ _ z => z.elim) fun r S5 m5 v H5 s5 rel5 rp5 zr => ?_
        obtain ⟨yd, e1, ok⟩ := PX.obind zr
        refine lk_of s5 rel5 rp5 e1 fun H6 s6 rel6 rp6 => ?_
        exact LcI.app hD0 t1 rel2 a1 a2 a3 hDo a4 (s4.trans s6) rel6.ce rel6.m_nd rp6 hF ok
  · have e : i = items.length := by omega
    subst e
    have kep : Kep H1 H2 := by obtain ⟨_, _, _, _, _, _, _, _, _, k, _⟩ := inv; exact k.ext.kep
    refine .inl ⟨(wk H2 kep _).2 rfl, ?_⟩
    obtain ⟨m2, S2, acc, ys, t1, rel2, a1, a2, a3, a4, a5⟩ := inv
    rw [List.drop_length] at a5
    have a5 : FIN (ys ++ []) S2 := a5
    rw [List.append_nil] at a5
    have hl := hF _ _ a5
    rw [← hFIN] at a5
    simp only [hl, if_true] at a5
    exact a5 m2 _ H2 t1 rel2 (.nl hD0 a3 hDo ⟨acc, a1, a2⟩)
/-- what the look at a comprehension says -/
structure CompOk (X : Cx) (W : WX) (V_ : Nv) (own : List Nat) (elt : E) (tg : Tg) (src : Src) (it : Es) (cond : Oe) (y t i : Expr) (ifs : List Expr) (scope : Scope) : Prop where
  hin : tgIn own tg = true
  hi : PI X t i (dSrc V_ W src it)
  ok : BlkOk X.N X.env.scope scope (ownN X.N own)
  hg : ∀ (s : Shared) (H : Hp) (C : Addr) (cl : List (Str × Addr)) (fp : List Addr), PG (X.blk s H scope (compEnvC scope cl C X.env) fp) t (gTg V_.K tg)
  ht : ∀ (s : Shared) (H : Hp) (C : Addr) (cl : List (Str × Addr)) (fp : List Addr), PTs (X.blk s H scope (compEnvC scope cl C X.env) fp) ifs (dI V_ W0 cond)
  he : ∀ (s : Shared) (H : Hp) (C : Addr) (cl : List (Str × Addr)) (fp : List Addr), PE (X.blk s H scope (compEnvC scope cl C X.env) fp) y (fun σ H Q => dE V_ W0 elt σ H (Lk Q))
  hs : ∀ x, foldedSetIterable i X.env x = pure x
theorem own_snd (N : List Str) (own : List Nat) : (ownN N own).map (·.2) = own := by unfold ownN; rw [List.map_map]; exact List.map_id _
def SrcOk (G : GT) (V_ : Nv) (n : Nat) (src : Src) (it : Es) : Prop := ∀ (X : Cx) (C : Cxs) (W : WX) (t i : Expr), Gd G V_ n C X → Takes X W → chkSrc G C src it i (isTup t) = true → PI X t i (dSrc V_ W src it)
theorem comp_parts {own : List Nat} {elt : E} {tg : Tg} {src : Src} {it : Es} {cond : Oe} (he : SE G V_ n elt) (ho : SO G V_ n cond) (hsrc : SrcOk G V_ n src it) {X : Cx} {C : Cxs} {a : Expr} {W : WX} (g : Gd G V_ n C X) (tk : Takes X W) (h : chkE G C (.comp own elt tg src it cond) a = true) :
    ∃ y t i ifs scope pos, a = .ListComp y [⟨t, i, ifs, 0⟩] scope pos ∧ CompOk X W V_ own elt tg src it cond y t i ifs scope := by
  have h' : ∃ y t i ifs scope pos, a = .ListComp y [⟨t, i, ifs, 0⟩] scope pos ∧ (blkC C.N C.sc scope (ownN C.N own) && tgIn own tg && chkTg (blkS C scope) tg t && chkSrc G C src it i (isTup t) && chkI G (blkS C scope) cond ifs && chkE G (blkS C scope) elt y) = true := by
    cases a <;> try (simp [chkE] at h; done)
    rename_i y gs scope pos
    cases gs with
    | nil => simp [chkE] at h
    | cons c gs =>
      cases gs with
      | cons c2 gs => obtain ⟨t, i, ifs, z⟩ := c; simp [chkE] at h
      | nil =>
        obtain ⟨t, i, ifs, z⟩ := c
        simp only [chkE, Bool.and_eq_true, decide_eq_true_eq] at h ⊢
        obtain ⟨⟨⟨⟨⟨⟨hz, h1⟩, h2⟩, h3⟩, h4⟩, h5⟩, h6⟩ := h
        subst hz
        exact ⟨y, t, i, ifs, scope, pos, rfl, ⟨⟨⟨⟨h1, h2⟩, h3⟩, h4⟩, h5⟩, h6⟩
  obtain ⟨y, t, i, ifs, scope, pos, rfl, hh⟩ := h'
  simp only [Bool.and_eq_true] at hh
  obtain ⟨⟨⟨⟨⟨hb, hin⟩, htg⟩, hsc⟩, hif⟩, hel⟩ := hh
  have hbk : BlkOk X.N X.env.scope scope (ownN C.N own) := by rw [g.N, g.sc]; exact blkOk_by hb
  refine ⟨y, t, i, ifs, scope, pos, rfl, hin, hsrc X C W t i g tk hsc, by rw [g.N] at hbk ⊢; exact hbk, fun s H c cl fp => tg_ok g.blk htg, fun s H c cl fp => ho.2 _ _ _ W0 g.blk LamX.takes0 hif, fun s H c cl fp => (he _ _ _ W0 g.blk LamX.takes0 hel).1.lk, fset_of hsc⟩
theorem se_comp {own : List Nat} {elt : E} {tg : Tg} {src : Src} {it : Es} {cond : Oe} (he : SE G V_ n elt) (ho : SO G V_ n cond) (hsrc : SrcOk G V_ n src it) : SE G V_ n (.comp own elt tg src it cond) := by
  intro X C a W g tk h
  obtain ⟨y, t, i, ifs, scope, pos, rfl, P⟩ := comp_parts he ho hsrc g tk h
  have main := pe_lc (X := X) (pos := pos) g.calm (by rw [g.N]; exact g.nd) P.hi P.ok P.hg P.ht P.he P.hs
  rw [own_snd] at main
  exact pair g (main.imp fun σ H Q q => comp_val P.hin q) (fun _ => rfl)
end
end Vy
set_option Elab.async false
set_option linter.all false
set_option maxRecDepth 100000
set_option maxHeartbeats 4000000
namespace Vy
open PySem PySem.Spec L2
variable [Tb]

/-! ### list comprehensions of two clauses -/
def turnC2 (F : FT) (own own1 : List Nat) (tg : Tg) (cond : Oe) (tg1 : Tg) (src1 : Src) (it1 : Es) (cond1 : Oe) (elt : E) (env : Ev) (d : D) (S : Sto) : Res (List D) := match tgSet tg d (wipeE env own) with
  | none => .bad
  | some env' => (evOb F cond env' S).bind fun t S => if t = true then (evFz F it1 env' S).bind fun is1 S => (opt S (srcD src1 is1)).bind fun items1 S => compL (turnC F own1 tg1 cond1 elt env') items1 S else .ok [] S
theorem turnC2_none {F : FT} {own own1 : List Nat} {tg tg1 : Tg} {cond cond1 : Oe} {src1 : Src} {it1 : Es} {elt : E} {env : Ev} {d : D} {S : Sto} (h : tgSet tg d (wipeE env own) = none) : turnC2 F own own1 tg cond tg1 src1 it1 cond1 elt env d S = .bad := by unfold turnC2; rw [h]
theorem turnC2_some {F : FT} {own own1 : List Nat} {tg tg1 : Tg} {cond cond1 : Oe} {src1 : Src} {it1 : Es} {elt : E} {env env' : Ev} {d : D} {S : Sto} (h : tgSet tg d (wipeE env own) = some env') : turnC2 F own own1 tg cond tg1 src1 it1 cond1 elt env d S =
    (evOb F cond env' S).bind fun t S => if t = true then (evFz F it1 env' S).bind fun is1 S => (opt S (srcD src1 is1)).bind fun items1 S => compL (turnC F own1 tg1 cond1 elt env') items1 S else .ok [] S := by unfold turnC2; rw [h]
theorem ev_comp2 {F : FT} {own own1 : List Nat} {elt : E} {tg tg1 : Tg} {src src1 : Src} {it it1 : Es} {cond cond1 : Oe} {env : Ev} {S : Sto} : evE F (.comp2 own own1 elt tg src it cond tg1 src1 it1 cond1) env S =
    (evFz F it env S).bind fun is S => (opt S (srcD src is)).bind fun items S => (noX (compL (turnC2 F own own1 tg cond tg1 src1 it1 cond1 elt env) items S)).bind fun ys S => if ys.length ≤ sizeLine then .ok (.nl ys) S else .bad := by
  conv => lhs; unfold evE
  rfl
theorem StD.trans {Dl : Addr} {m m1 m2 : List Addr} {H H1 H2 : Hp} (a : StD Dl m m1 H H1) (b : StD Dl m1 m2 H1 H2) : StD Dl m m2 H H2 :=
  ⟨a.pre.trans b.pre, a.ext.trans b.ext fun x hx => (List.mem_cons.mp hx).elim (fun e => .inl (e ▸ List.mem_cons_self)) fun h => (a.new x h).imp (List.mem_cons_of_mem _) id, fun x hx => (b.new x hx).elim (a.new x) fun h => .inr (a.ext.there x h)⟩
section
variable {G : GT} {V_ : Nv} {n : Nat}
/-- one turn of the innermost clause -/
theorem turn_val {m0 ms os : List Addr} {env : Ev} {σ : L2.St} {H0 Hs H3 : Hp} {Dl : Addr} {FIN : List D → Sto → Prop} {rest : List D} {own : List Nat} {elt : E} {tg : Tg} {cond : Oe} {turn : D → Sto → Res (List D)}
    {m2 : List Addr} {S2 : Sto} {acc : List V} {ys : List D} {d : D} {x : V} (hin : tgIn own tg = true) (hD0 : Fr H0 Dl) (hDo : Dl ∉ os) (hF : ∀ zs S, FIN zs S → zs.length ≤ sizeLine)
    (t1 : Stp m0 m2 H0 H3) (rel2 : Rel V_.K m2 os env S2 σ H3) (a1 : H3 Dl = some (.lst acc)) (a2 : RpA V_.K H3 ys acc) (a3 : Dl ∉ m2) (a4 : StD Dl ms m2 Hs H3) (rd : Rp V_.K H3 d x)
    (a5 : PX (fun x S => PX (fun zs S'' => FIN (ys ++ (x ++ zs)) S'') (fun _ _ _ => False) (compL turn rest S)) (fun _ _ _ => False) (turnC V_.F own tg cond elt env d S2)) :
    gTg V_.K tg x (L2.wipe σ own) H3 fun σ2 H2 => L2.wipe σ2 own = L2.wipe σ own ∧ dI V_ W0 cond σ2 H2 fun b H3 =>
      if b = true then dE V_ W0 elt σ2 H3 (Lk fun y H4 => ∃ acc, H4 Dl = some (.lst acc) ∧ acc.length < sizeLine ∧ LcI V_ m0 os env σ H0 Hs ms Dl turn FIN rest (upd H4 Dl (.lst (acc ++ [y])))) else LcI V_ m0 os env σ H0 Hs ms Dl turn FIN rest H3 := by
  obtain ⟨os1, relw, u1⟩ := rel2.wipe own
  cases htS : tgSet tg d (wipeE env own) with
  | none => rw [turnC_none htS] at a5; exact a5.elim
  | some env' =>
    rw [turnC_some htS] at a5
    refine tg_val relw rd htS fun σ2 os2 rel3 u2 hw => ⟨?_, ?_⟩
    · rw [hw _ hin]
      exact wipe_wipe fun _ h => h
    refine ⟨m2, os2, env', S2, rel3, PX.mono (PX.bind a5) (fun b S3 zb m3 H4 s4 rel4 => ?_) fun _ _ _ z => z.elim⟩
    cases b with
    | false =>
      simp only [Bool.false_eq_true, if_false] at zb ⊢
      exact LcI.skip t1 rel2 a1 a2 a3 a4 s4 rel4.ce rel4.m_nd zb
    | true =>
      simp only [if_true] at zb ⊢
      refine ev0 (W := W0) (ok := fun x S => PX (fun zs S'' => FIN (ys ++ (x ++ zs)) S'') (fun _ _ _ => False) (compL turn rest S)) rel4 (PX.mono zb (fun _ _ z => z) fun _ _ _ z => z.elim) fun r S5 m5 v H5 s5 rel5 rp5 zr => ?_
      obtain ⟨yd, e1, ok⟩ := PX.obind zr
      refine lk_of s5 rel5 rp5 e1 fun H6 s6 rel6 rp6 => ?_
      exact LcI.app hD0 t1 rel2 a1 a2 a3 hDo a4 (s4.trans s6) rel6.ce rel6.m_nd rp6 hF ok
theorem src_ev {src : Src} {it : Es} {env : Ev} {S : Sto} {α : Type} {ok : α → Sto → Prop} {ex : Nat → List D → Sto → Prop} {k : List D → Sto → Res α} (post : PX ok ex ((evFz V_.F it env S).bind fun is S => (opt S (srcD src is)).bind k)) :
    PX (fun items S' => PX ok ex (k items S')) ex ((evFz V_.F it env S).bind fun is S => opt S (srcD src is)) := by
  cases h3 : evFz V_.F it env S with
  | bad => rw [h3] at post; exact post
  | exc => rw [h3] at post; exact post
  | ok is S1 =>
    rw [h3] at post
    simp only [Res.bind] at post ⊢
    cases h4 : srcD src is with
    | none => rw [h4] at post; exact post
    | some items => rw [h4] at post; exact post
theorem comp2_val {W : WX} {own own1 : List Nat} {elt : E} {tg tg1 : Tg} {src src1 : Src} {it it1 : Es} {cond cond1 : Oe} (hin : tgIn own tg = true) (hin1 : tgIn own1 tg1 = true) {σ : L2.St} {H : Hp} {Q : VK}
    (q : dE V_ W (.comp2 own own1 elt tg src it cond tg1 src1 it1 cond1) σ H Q) :
    tLc2 (dSrc V_ W src it) (gTg V_.K tg) (dI V_ W0 cond) (dSrc V_ W0 src1 it1) (gTg V_.K tg1) (dI V_ W0 cond1) (fun σ H Q => dE V_ W0 elt σ H (Lk Q)) own own1 σ H Q := by
  obtain ⟨m, os, env, S, rel, post⟩ := q
  rw [ev_comp2] at post
  refine ⟨m, os, env, S, rel, ?_⟩
  refine PX.mono (src_ev post) (fun items S1 z m1 H1 J s1 rel1 wk => ?_) fun _ _ _ z => z
  have fin := PX.noX (PX.bind z)
  intro Dl hD
  have hD0 : Fr H Dl := s1.ext.there _ (Fr.of hD)
  have hDm : Dl ∉ m1 := rel1.offM (Fr.of hD)
  have hDo : Dl ∉ os := rel1.offO (Fr.of hD)
  generalize hFIN : (fun (ys : List D) (S' : Sto) => PX (okE V_ m os env σ H Q) (exW V_ W m os env σ H) (if ys.length ≤ sizeLine then .ok (.nl ys) S' else .bad)) = FIN at fin
  have hF : ∀ zs S, FIN zs S → zs.length ≤ sizeLine := fun zs S z => by
    rw [← hFIN] at z
    by_cases hz : zs.length ≤ sizeLine
    · exact hz
    · simp only [hz, if_false] at z; exact z.elim
  have hx : Ext m1 H1 (upd H1 Dl (.lst [])) := Ext.new hD
  generalize hT : turnC2 V_.F own own1 tg cond tg1 src1 it1 cond1 elt env = turn at fin
  refine ⟨fun i k H' => k = items.length - i ∧ i ≤ items.length ∧ LcI V_ m os env σ H H1 m1 Dl turn FIN (items.drop i) H', ⟨_, rfl, Nat.zero_le _, m1, S1, [], [], s1.trans (Stp.of hx), rel1.new hD, upd_same, .nil, hDm, ⟨List.prefix_refl _, Ext.new hD, fun _ h => .inl h⟩, fin⟩, ?_⟩
  rintro i k H2 ⟨rfl, hi, inv⟩
  by_cases hlt : i < items.length
  · have hdr : items.drop i = items[i] :: items.drop (i + 1) := List.drop_eq_getElem_cons hlt
    have kep : Kep H1 H2 := by obtain ⟨_, _, _, _, _, _, _, _, _, k, _⟩ := inv; exact k.ext.kep
    obtain ⟨w1, w2⟩ := (wk H2 kep i).1 hlt
    refine .inr ⟨w1, fun H' => LcI V_ m os env σ H H1 m1 Dl turn FIN (items.drop (i + 1)) H', fun H' z => ⟨_, by omega, rfl, by omega, z⟩, fun x H3 yl => ?_⟩
    obtain ⟨⟨d, ed, rd⟩, st⟩ := w2 x H3 yl
    rw [hdr] at inv
    obtain ⟨m2, S2, acc, ys, t1, rel2, a1, a2, a3, a4, a5⟩ := inv.item hD0 st
    have ed' : items[i] = d := by rw [List.getElem?_eq_getElem hlt] at ed; exact Option.some.inj ed
    rw [ed'] at a5
    obtain ⟨os1, relw, u1⟩ := rel2.wipe own
    cases htS : tgSet tg d (wipeE env own) with
    | none => rw [← hT, turnC2_none htS] at a5; exact a5.elim
    | some env' =>
      have a5 : PX (fun x S => PX (fun zs S'' => FIN (ys ++ (x ++ zs)) S'') (fun _ _ _ => False) (compL turn (items.drop (i + 1)) S)) (fun _ _ _ => False) ((evOb V_.F cond env' S2).bind fun t S => if t = true then (evFz V_.F it1 env' S).bind fun is1 S => (opt S (srcD src1 is1)).bind fun items1 S => compL (turnC V_.F own1 tg1 cond1 elt env') items1 S else .ok [] S) := by
        rw [← turnC2_some htS, hT]
        exact a5
      refine tg_val relw rd htS fun σ2 os2 rel3 u2 hw => ⟨?_, ?_⟩
      · rw [hw _ hin]
        exact wipe_wipe fun _ h => h
      have hDo2 : Dl ∉ os2 := fun z => hDo ((u2.trans u1).subset z)
      refine ⟨m2, os2, env', S2, rel3, PX.mono (PX.bind a5) (fun b S3 zb m3 H4 s4 rel4 => ?_) fun _ _ _ z => z.elim⟩
      cases b with
      | false =>
        simp only [Bool.false_eq_true, if_false] at zb ⊢
        exact LcI.skip t1 rel2 a1 a2 a3 a4 s4 rel4.ce rel4.m_nd zb
      | true =>
        simp only [if_true] at zb ⊢
        refine ⟨m3, os2, env', S3, rel4, PX.mono (src_ev zb) (fun items1 S4 z4 m4 H5 J1 s5 rel5 wk1 => ?_) fun _ _ _ z => z.elim⟩
        -- the inner loop
        generalize hFIN1 : (fun (zs : List D) (S' : Sto) => PX (fun xs S'' => FIN (zs ++ xs) S'') (fun _ _ _ => False) (compL turn (items.drop (i + 1)) S')) = FIN1
        have hF1 : ∀ zs S, FIN1 zs S → zs.length ≤ sizeLine := fun zs S z => by
          rw [← hFIN1] at z
          obtain ⟨xs, S', z⟩ := PX.some_ok z
          have := hF _ _ z
          rw [List.length_append] at this
          omega
        have z4 : PX (fun zs S'' => FIN1 (ys ++ zs) S'') (fun _ _ _ => False) (compL (turnC V_.F own1 tg1 cond1 elt env') items1 S4) := by
          refine PX.mono z4 (fun x S z => ?_) fun _ _ _ z => z
          rw [← hFIN1]
          refine PX.mono z (fun zs S'' y => ?_) fun _ _ _ z => z
          rw [List.append_assoc]
          exact y
        have s6 : Stp m2 m4 H3 H5 := s4.trans s5
        have b1 : H5 Dl = some (.lst acc) := s6.ext.keep _ _ a1 a3 (fun ps z => by cases z)
        refine ⟨fun j k H' => k = items1.length - j ∧ j ≤ items1.length ∧ LcI V_ m os2 env' σ2 H H5 m4 Dl (turnC V_.F own1 tg1 cond1 elt env') FIN1 (items1.drop j) H', ⟨_, rfl, Nat.zero_le _, m4, S4, acc, ys, t1.trans s6, rel5, b1, a2.ext s6.ext, s6.notin a3 (Fr.no a1 fun ps z => by cases z), StD.refl, z4⟩, ?_⟩
        rintro j k H6 ⟨rfl, hj, inv1⟩
        have kep1 : Kep H5 H6 := by obtain ⟨_, _, _, _, _, _, _, _, _, k, _⟩ := inv1; exact k.ext.kep
        by_cases hlt1 : j < items1.length
        · have hdr1 : items1.drop j = items1[j] :: items1.drop (j + 1) := List.drop_eq_getElem_cons hlt1
          obtain ⟨w3, w4⟩ := (wk1 H6 kep1 j).1 hlt1
          refine .inr ⟨w3, fun H' => LcI V_ m os2 env' σ2 H H5 m4 Dl (turnC V_.F own1 tg1 cond1 elt env') FIN1 (items1.drop (j + 1)) H', fun H' z => ⟨_, by omega, rfl, by omega, z⟩, fun x1 H7 yl1 => ?_⟩
          obtain ⟨⟨d1, ed1, rd1⟩, st1⟩ := w4 x1 H7 yl1
          rw [hdr1] at inv1
          obtain ⟨m7, S7, acc7, ys7, c1, rel7, c2, c3, c4, c5, c6⟩ := inv1.item hD0 st1
          have ed1' : items1[j] = d1 := by rw [List.getElem?_eq_getElem hlt1] at ed1; exact Option.some.inj ed1
          rw [ed1'] at c6
          exact turn_val hin1 hD0 hDo2 hF1 c1 rel7 c2 c3 c4 c5 rd1 c6
        · have e : j = items1.length := by omega
          subst e
          refine .inl ⟨(wk1 H6 kep1 _).2 rfl, ?_⟩
          obtain ⟨m7, S7, acc7, ys7, c1, rel7, c2, c3, c4, c5, c6⟩ := inv1
          rw [List.drop_length] at c6
          have c6 : FIN1 (ys7 ++ []) S7 := c6
          rw [List.append_nil, ← hFIN1] at c6
          exact ⟨m7, S7, acc7, ys7, c1, rel2.afterD ((StD.refl.step s6).trans c5) hDo rel7.ce rel7.m_nd, c2, c3, c4, (a4.step s6).trans c5, c6⟩
  · have e : i = items.length := by omega
    subst e
    have kep : Kep H1 H2 := by obtain ⟨_, _, _, _, _, _, _, _, _, k, _⟩ := inv; exact k.ext.kep
    refine .inl ⟨(wk H2 kep _).2 rfl, ?_⟩
    obtain ⟨m2, S2, acc, ys, t1, rel2, a1, a2, a3, a4, a5⟩ := inv
    rw [List.drop_length] at a5
    have a5 : FIN (ys ++ []) S2 := a5
    rw [List.append_nil] at a5
    have hl := hF _ _ a5
    rw [← hFIN] at a5
    simp only [hl, if_true] at a5
    exact a5 m2 _ H2 t1 rel2 (.nl hD0 a3 hDo ⟨acc, a1, a2⟩)
structure Comp2Ok (X : Cx) (W : WX) (V_ : Nv) (own own1 : List Nat) (elt : E) (tg : Tg) (src : Src) (it : Es) (cond : Oe) (tg1 : Tg) (src1 : Src) (it1 : Es) (cond1 : Oe) (y t i : Expr) (ifs : List Expr) (t1 i1 : Expr) (ifs1 : List Expr) (scope : Scope) : Prop where
  P : CompOk X W V_ own elt tg src it cond y t i ifs scope
  hv : ∀ i ∈ own1, i ∈ own
  hin : tgIn own1 tg1 = true
  hi : ∀ (s : Shared) (H : Hp) (C : Addr) (cl : List (Str × Addr)) (fp : List Addr), PI (X.blk s H scope (compEnvC scope cl C X.env) fp) t1 i1 (dSrc V_ W0 src1 it1)
  hg : ∀ (s : Shared) (H : Hp) (C : Addr) (cl : List (Str × Addr)) (fp : List Addr), PG (X.blk s H scope (compEnvC scope cl C X.env) fp) t1 (gTg V_.K tg1)
  ht : ∀ (s : Shared) (H : Hp) (C : Addr) (cl : List (Str × Addr)) (fp : List Addr), PTs (X.blk s H scope (compEnvC scope cl C X.env) fp) ifs1 (dI V_ W0 cond1)
  hs : ∀ env x, foldedSetIterable i1 env x = pure x
theorem comp2_parts {own own1 : List Nat} {elt : E} {tg tg1 : Tg} {src src1 : Src} {it it1 : Es} {cond cond1 : Oe} (he : SE G V_ n elt) (ho : SO G V_ n cond) (ho1 : SO G V_ n cond1) (hsrc : SrcOk G V_ n src it) (hsrc1 : SrcOk G V_ n src1 it1) {X : Cx} {C : Cxs} {a : Expr} {W : WX}
    (g : Gd G V_ n C X) (tk : Takes X W) (h : chkE G C (.comp2 own own1 elt tg src it cond tg1 src1 it1 cond1) a = true) :
    ∃ y t i ifs t1 i1 ifs1 scope pos, a = .ListComp y [⟨t, i, ifs, 0⟩, ⟨t1, i1, ifs1, 0⟩] scope pos ∧ Comp2Ok X W V_ own own1 elt tg src it cond tg1 src1 it1 cond1 y t i ifs t1 i1 ifs1 scope := by
  cases a <;> try (simp [chkE] at h; done)
  rename_i y gs scope pos
  cases gs with
  | nil => simp [chkE] at h
  | cons c gs =>
    cases gs with
    | nil => obtain ⟨t, i, ifs, z⟩ := c; simp [chkE] at h
    | cons c2 gs =>
      cases gs with
      | cons => obtain ⟨t, i, ifs, z⟩ := c; obtain ⟨t1, i1, ifs1, z1⟩ := c2; simp [chkE] at h
      | nil =>
        obtain ⟨t, i, ifs, z⟩ := c
        obtain ⟨t1, i1, ifs1, z1⟩ := c2
        simp only [chkE, Bool.and_eq_true, decide_eq_true_eq, List.all_eq_true] at h
        obtain ⟨⟨⟨⟨⟨⟨⟨⟨⟨⟨⟨⟨hz, hz1⟩, hb⟩, hv⟩, hin⟩, htg⟩, hsc⟩, hif⟩, hin1⟩, htg1⟩, hsc1⟩, hif1⟩, hel⟩ := h
        subst hz hz1
        refine ⟨y, t, i, ifs, t1, i1, ifs1, scope, pos, rfl, ⟨hin, hsrc X C W t i g tk hsc, by rw [g.N, g.sc]; exact blkOk_by hb, fun s H c cl fp => tg_ok g.blk htg, fun s H c cl fp => ho.2 _ _ _ W0 g.blk LamX.takes0 hif, fun s H c cl fp => (he _ _ _ W0 g.blk LamX.takes0 hel).1.lk, fset_of hsc⟩, hv, hin1,
          fun s H c cl fp => hsrc1 _ _ W0 _ _ g.blk LamX.takes0 hsc1, fun s H c cl fp => tg_ok g.blk htg1, fun s H c cl fp => ho1.2 _ _ _ W0 g.blk LamX.takes0 hif1, fun env => fset_of hsc1⟩
theorem se_comp2 {own own1 : List Nat} {elt : E} {tg tg1 : Tg} {src src1 : Src} {it it1 : Es} {cond cond1 : Oe} (he : SE G V_ n elt) (ho : SO G V_ n cond) (ho1 : SO G V_ n cond1) (hsrc : SrcOk G V_ n src it) (hsrc1 : SrcOk G V_ n src1 it1) :
    SE G V_ n (.comp2 own own1 elt tg src it cond tg1 src1 it1 cond1) := by
  intro X C a W g tk h
  obtain ⟨y, t, i, ifs, t1, i1, ifs1, scope, pos, rfl, P⟩ := comp2_parts he ho ho1 hsrc hsrc1 g tk h
  have main := pe_lc2 (X := X) (pos := pos) (vs1 := own1) g.calm (by rw [g.N]; exact g.nd) P.P.hi P.P.ok (by rw [own_snd]; exact P.hv) P.P.hg P.P.ht P.hi P.hg P.ht P.P.he P.P.hs P.hs
  rw [own_snd] at main
  exact pair g (main.imp fun σ H Q q => comp2_val P.P.hin P.hin q) (fun _ => rfl)
end
end Vy
set_option Elab.async false
set_option linter.all false
set_option maxRecDepth 100000
set_option maxHeartbeats 4000000
namespace Vy
open PySem PySem.Spec L2 PyProof.Rows
variable [Tb]

/-! ### enumerate(list or tuple) -/
theorem meets_enum1 {v : Value} {o : Obj} {H : Heap → Prop} (B : Begins v o H) :
    Meets (Builtin.«enumerate.__new__» ⟨[.type "enumerate", v], []⟩) (fun _ R s => H s.heap ∧
      R (.ok (.ret (.ref (s.heap.push o).objs.size))) { s with heap := (s.heap.push o).push { cls := .type "enumerate", data := .fields #[.none, .bool false, .ref s.heap.objs.size, rawInt 0, .none, .none] } }) :=
  .of_wp fun prog w A R s h => by
    obtain ⟨hp, g, d, tk, os⟩ := s; obtain ⟨h1, h⟩ := h
    have hsub := sub_enumerate
    have q1 : ∀ {A' : Around} {E : Value → Shared → Prop} {Q : Value → Shared → Prop}, Q (.ref hp.objs.size) ⟨hp.push o, g, d, tk, os⟩ → wpAny (model prog w) A' (pyIter v) Q E ⟨hp, g, d, tk, os⟩ :=
      fun q => B.iter prog w _ _ ⟨hp, g, d, tk, os⟩ _ h1 q
    wp_walk using q1
    refine wpAny_stack_any fun st => wpAny_pure ?_
    split
    · rename_i c _ _ _ _ _
      cases (c == Value.type "enumerate")
      · wp_walk using q1
        exact ⟨_, rfl, h⟩
      · wp_walk using q1
        exact ⟨_, rfl, h⟩
    · wp_walk using q1
      exact ⟨_, rfl, h⟩
theorem call_enum1 {prog : Program} {w : World} {A : Around} {E : Value → Shared → Prop} {s : Shared} {v : Value} {o : Obj} {H : Heap → Prop} {Q : Value → Shared → Prop} (B : Begins v o H) (h1 : H s.heap)
    (h : ∀ h', IsEnum h' (s.heap.objs.size + 1) s.heap.objs.size 0 .none → h'.get? s.heap.objs.size = some o → (∀ b o, s.heap.get? b = some o → h'.get? b = some o) → Q (.ref (s.heap.objs.size + 1)) { s with heap := h' }) :
    wpAny (model prog w) A (call (.type "enumerate") [v]) Q E s := by
  refine callType_new F.called_enumerate (by decide) (F.typeCall_enumerate_1 _) (F.newCall_enumerate_1 _) (fun obj => F.args_object_init_2 obj _) F.entry_enumerate_new (meets_enum1 B) ⟨h1, ?_⟩
  have hz : (s.heap.push o).objs.size = s.heap.objs.size + 1 := Heap.size_push ..
  show _ ∧ _
  rw [hz]
  have he : IsEnum ((s.heap.push o).push { cls := .type "enumerate", data := .fields #[.none, .bool false, .ref s.heap.objs.size, rawInt 0, .none, .none] }) (s.heap.objs.size + 1) s.heap.objs.size 0 .none := by
    have := Heap.get?_push_size (s.heap.push o) (o := { cls := .type "enumerate", data := .fields #[.none, .bool false, .ref s.heap.objs.size, rawInt 0, .none, .none] }) rfl
    rw [hz] at this; exact this
  exact ⟨⟨_, he, rfl⟩, h _ he (Heap.get?_push_of_some _ (Heap.get?_push_size _ B.free)) fun b o x => Heap.get?_push_of_some _ (Heap.get?_push_of_some _ x)⟩
/-- the tuple at a, each item in a new pair -/
def IteT (K : PySem.W.Frag) (a : Addr) : It :=
  ⟨fun i H => ∃ (xs : List V) (x : V), SqT K H a xs ∧ xs[i]? = some x, fun i H v H' => ∃ T x, v = .ref T ∧ H T = none ∧ H' = upd H T (.tup [.int (i : Nat), x]) ∧ ∀ xs, SqT K H a xs → xs[i]? = some x, fun i H => ∃ xs : List V, SqT K H a xs ∧ xs.length = i⟩
theorem turn_enumT {P : Program} {w : World} {K : PySem.W.Frag} {elts : List Expr} {kk : Nat} {tpos : Pos} (a e it : Addr) :
    Turn P w K (.Tuple elts kk tpos) (IteT K a) [e, it] e (fun i h => (∃ old, IsEnum h e it ((i : Nat) : Int) old) ∧ h.IsTupleIter it a i ∧ e ≠ it) where
  mem := by simp
  obj := fun i h st b hb => by
    obtain ⟨⟨old, he⟩, ⟨o, ho, hc, hd⟩, _⟩ := st
    have e' : b = e ∨ b = it := by simpa using hb
    rcases e' with z | z
    · rw [z]; exact ⟨_, he, fun v q => nomatch q⟩
    · rw [z]; exact ⟨o, ho, fun v q => by rw [hd] at q; cases q⟩
  keep := fun i h h' st k => let ⟨⟨old, he⟩, hi, hne⟩ := st; ⟨⟨old, k e (by simp) _ he⟩, hi.at fun o q => k it (by simp) o q, hne⟩
  item := by
    intro X hP hw hK hc i pins s σ H E I hf st hg
    subst hP hw hK
    obtain ⟨⟨old, he⟩, hit, hne⟩ := st
    obtain ⟨xs, x, hq, hx⟩ := hg
    obtain ⟨its, rv, p, hz⟩ := I.tuple hq
    obtain ⟨u, hu, ru⟩ := rv.get hx
    have hel : e < s.heap.objs.size := Heap.lt_size he
    have hil : it < s.heap.objs.size := by obtain ⟨_, q, _⟩ := hit; exact Heap.lt_size q
    have hlt : i < its.toArray.size := by
      obtain ⟨h1, _⟩ := List.getElem?_eq_some_iff.mp hu
      simpa using h1
    have hne2 : a ≠ it := fun z => by
      obtain ⟨o, ho, hc1, hd1⟩ := hit
      obtain ⟨o2, ho2, hc2, hd2⟩ := p
      rw [z, ho] at ho2
      cases ho2
      rw [hc1] at hc2
      exact absurd hc2 (by decide)
    have hea : e ≠ a := fun z => by
      obtain ⟨o2, ho2, hc2, hd2⟩ := p
      rw [← z, he] at ho2
      cases ho2
      exact absurd (show Value.type "enumerate" = .type "tuple" from hc2) (by decide)
    have hh : X.A.in1.handled = none := I.ok.hd hc
    refine wpAny_pyNext_enum_itemC (Draws.tuple hh it a hne2 its.toArray) he ⟨hit, p⟩ hlt hne (by simp [hne, hea]) fun x' h' tk hP' ho hit' hT hsz hk => ?_
    have ex : x' = u := by
      have : its.toArray[i]? = some x' := hP'
      rw [List.getElem?_toArray, hu] at this
      exact (Option.some.inj this).symm
    subst ex
    refine ⟨_, rfl, wpAny_letOwnedTupleGo_enum (s := { s with heap := h', toks := tk + 1 }) ho fun h'' he' sb => ?_⟩
    have hT2 : h''.get? s.heap.objs.size = some { cls := .type "tuple", data := .seq #[.int i tk, x'] } := (sb.2 _ (Nat.ne_of_gt hel)).trans hT
    have new : ObjOk X.prog X.w (upd H s.heap.objs.size (.tup [.int (i : Nat), x])) h'' s.heap.objs.size (.tup [.int (i : Nat), x]) :=
      ⟨by show 2 ≤ sizeLine; decide, [.int i tk, x'], .cons ⟨_, rfl⟩ (.cons ru .nil), ⟨_, hT2, rfl, _, rfl⟩⟩
    have I1 : Inv X pins σ (upd H s.heap.objs.size (.tup [.int (i : Nat), x])) { s with heap := h'', toks := tk + 1 } :=
      I.turnedNew (ch := [e, it]) (fun b ob hb q => (sb.2 b (fun z => hb (by simp [z]))).trans (hk b ob (fun z => hb (by simp [z])) (fun z => hb (by simp [z])) q)) hf (Nat.le_refl _) new
    refine ⟨.ref s.heap.objs.size, _, I1, rfl, ⟨_, x, rfl, I.hok.fresh (Nat.le_refl _), rfl, fun ys hy => ?_⟩, ⟨⟨x', ?_⟩, hit'.1.at fun o q => (sb.2 it (Ne.symm hne)).trans q, hne⟩, fun b hb => ?_⟩
    · rw [I.tuple_inj hy hq]; exact hx
    · have e1 : ((i + 1 : Nat) : Int) = (i : Int) + 1 := by omega
      rw [e1]; exact he'
    · have hb' : b < s.heap.objs.size := by
        have e' : b = e ∨ b = it := by simpa using hb
        rcases e' with z | z
        · rw [z]; exact hel
        · rw [z]; exact hil
      rw [upd_ne (Nat.ne_of_lt hb')]
      exact (hf b hb).1
  done := by
    intro X hP hw hK hc i pins s σ H E I hf st hg
    subst hP hw hK
    obtain ⟨⟨old, he⟩, hit, hne⟩ := st
    obtain ⟨xs, hq, hx⟩ := hg
    obtain ⟨its, rv, p, hz⟩ := I.tuple hq
    obtain ⟨f0, f1, f2, f3, f4, f5⟩ := hf it (by simp)
    have hh : X.A.in1.handled = none := I.ok.hd hc
    have hl := rv.length
    have hn : i = its.toArray.size := by simp; omega
    subst hn
    have hne2 : a ≠ it := fun z => by
      obtain ⟨o, ho, hc1, hd1⟩ := hit
      obtain ⟨o2, ho2, hc2, hd2⟩ := p
      rw [z, ho] at ho2
      cases ho2
      rw [hc1] at hc2
      exact absurd hc2 (by decide)
    exact wpAny_pyNext_enum_endD (Draws.tuple hh it a hne2 its.toArray) he ⟨hit, p⟩ fun h' eb => ⟨rfl, I.turned (t' := s.toks) (fun b o hb q => eb b o hb q) f0 f1 f3 f4 f5⟩
  self := fun A i s Q E st h => let ⟨⟨_, he⟩, _⟩ := st; wpAny_pyIter_enum he h
/-- enumerate(list or tuple) -/
theorem pi_enumA {X : Cx} {e : Expr} {ta : TA} {p pos tpos : Pos} {elts : List Expr} {kk : Nat} (hg : Gl X "enumerate") (hm : X.mg "enumerate" = none) (ha : PA X [e] ta) (hs : starEach [e] X.env = [(false, eval e X.env)] := by rfl) :
    PI X (.Tuple elts kk tpos) (.Call (.Name "enumerate" p) [e] [] pos) (fun σ H R => ta σ H fun vs H1 => ∃ a, vs = [.ref a] ∧ ((∃ xs, SqL X.K H1 a xs) ∧ R (Ite X.K a) H1 ∨ (∃ xs, SqT X.K H1 a xs) ∧ R (IteT X.K a) H1)) := by
  refine ⟨fun pins s σ H R I h => ?_⟩
  refine Call_ (ld_blt I hg hm boot_enumerate (PyProof.Rows.callWith_type1 (thn (ha.run pos pins s σ H _ I h) fun us s1 ⟨vs, H1, I1, r1, q1⟩ => ?_) hs rfl))
  obtain ⟨a, ex, q⟩ := q1
  subst ex
  cases r1 with
  | cons r rr =>
    cases rr
    cases r
    have at_ : ∀ b ∈ [s1.heap.objs.size + 1, s1.heap.objs.size], FpOk X pins H1 b := fun b hb => by
      have e' : b = s1.heap.objs.size + 1 ∨ b = s1.heap.objs.size := by simpa using hb
      have hle : s1.heap.objs.size ≤ b := by
        rcases e' with z | z
        · rw [z]; exact Nat.le_add_right _ _
        · rw [z]; exact Nat.le_refl _
      exact I1.fpOk hle (I1.hok.fresh hle)
    rcases q with ⟨⟨xs, hq⟩, q⟩ | ⟨⟨xs, hq⟩, q⟩
    · obtain ⟨its, rv, p', hz⟩ := I1.list hq
      refine call_enum1 (begins_list a its.toArray) p'.isList fun h' he hit hk => wpAny_pyIter_enum he ?_
      have I2 : Inv X pins σ H1 { s1 with heap := h' } := I1.kept (t' := s1.toks) hk
      exact ⟨s1.heap.objs.size + 1, [s1.heap.objs.size + 1, s1.heap.objs.size], _, _, H1, rfl, I2, turn_enum a (s1.heap.objs.size + 1) s1.heap.objs.size, ⟨⟨.none, he⟩, ⟨_, hit, rfl, rfl⟩, Nat.succ_ne_self _⟩, at_, q⟩
    · obtain ⟨its, rv, p', hz⟩ := I1.tuple hq
      refine call_enum1 (begins_tuple a its.toArray) p' fun h' he hit hk => wpAny_pyIter_enum he ?_
      have I2 : Inv X pins σ H1 { s1 with heap := h' } := I1.kept (t' := s1.toks) hk
      exact ⟨s1.heap.objs.size + 1, [s1.heap.objs.size + 1, s1.heap.objs.size], _, _, H1, rfl, I2, turn_enumT a (s1.heap.objs.size + 1) s1.heap.objs.size, ⟨⟨.none, he⟩, ⟨_, hit, rfl, rfl⟩, Nat.succ_ne_self _⟩, at_, q⟩
theorem enumD_len : ∀ (k : Nat) (ds : List D), (enumD k ds).length = ds.length
  | _, [] => rfl
  | k, d :: r => by unfold enumD; rw [List.length_cons, List.length_cons, enumD_len (k + 1) r]
theorem enumD_get : ∀ (k : Nat) (ds : List D) (i : Nat), (enumD k ds)[i]? = ds[i]?.map fun d => .tuple [.int ((k + i : Nat) : Int), d]
  | _, [], _ => by simp [enumD]
  | k, d :: r, 0 => by simp [enumD]
  | k, d :: r, i + 1 => by
    unfold enumD
    rw [List.getElem?_cons_succ, List.getElem?_cons_succ, enumD_get (k + 1) r i, show k + 1 + i = k + (i + 1) by omega]
theorem enum_yld {K : PySem.W.Frag} {H' H'' : Hp} {T : Addr} {i : Nat} {ds : List D} {d : D} {x : V} (n : H' T = none) (e : H'' = upd H' T (.tup [.int (i : Nat), x])) (h1 : ds[i]? = some d) (h2 : Rp K H' d x) :
    (∃ d, (enumD 0 ds)[i]? = some d ∧ Rp K H'' d (.ref T)) ∧ Stp [] [] H' H'' := by
  subst e
  refine ⟨⟨.tuple [.int (i : Nat), d], by rw [enumD_get, h1, Nat.zero_add]; rfl, .tup upd_same (.cons (.int _) (.cons (h2.ext (Ext.new (m := []) n)) .nil))⟩, Stp.of (Ext.new n)⟩
theorem wk_enumL {K : PySem.W.Frag} {a : Addr} {vs : List V} {ds : List D} {H : Hp} (s : SqF K H a vs) (r : RpA K H ds vs) : Wk K (Ite K a) (enumD 0 ds) H := by
  intro H' e i
  have s' := (s.kep e).sql
  have r' := r.kep e
  rw [enumD_len]
  refine ⟨fun hi => ⟨?_, fun x H'' y => ?_⟩, fun hi => ⟨vs, s', by rw [← r.len]; exact Nat.le_of_eq hi.symm⟩⟩
  · obtain ⟨v, h1, h2⟩ := r'.get (List.getElem?_eq_getElem hi)
    exact ⟨vs, v, s', h1⟩
  · obtain ⟨T, x', e1, n, e2, y⟩ := y
    subst e1
    obtain ⟨d, h1, h2⟩ := r'.getV (y vs s')
    exact enum_yld n e2 h1 h2
theorem wk_enumT {K : PySem.W.Frag} {a : Addr} {vs : List V} {ds : List D} {H : Hp} (s : SqT K H a vs) (r : RpA K H ds vs) : Wk K (IteT K a) (enumD 0 ds) H := by
  intro H' e i
  have s' := SqT.kep s e
  have r' := r.kep e
  rw [enumD_len]
  refine ⟨fun hi => ⟨?_, fun x H'' y => ?_⟩, fun hi => ⟨vs, s', by rw [← r.len]; exact hi.symm⟩⟩
  · obtain ⟨v, h1, h2⟩ := r'.get (List.getElem?_eq_getElem hi)
    exact ⟨vs, v, s', h1⟩
  · obtain ⟨T, x', e1, n, e2, y⟩ := y
    subst e1
    obtain ⟨d, h1, h2⟩ := r'.getV (y vs s')
    exact enum_yld n e2 h1 h2
theorem src_all {G : GT} {V_ : Nv} {n : Nat} {src : Src} {it : Es} (hs : SL G V_ n it) (h1 : ∀ e, it = .cons e .nil → SE G V_ n e) : SrcOk G V_ n src it := by
  intro X C W t i g tk h
  by_cases hen : src = .enum
  · subst hen
    have h' : ∃ e x p y pos elts k tp, it = .cons e .nil ∧ i = .Call (.Name x p) [y] [] pos ∧ t = .Tuple elts k tp ∧ chkB C x "enumerate" = true ∧ chkEs G C (.cons e .nil) [y] = true := by
      cases it with
      | nil => simp [chkSrc] at h
      | cons e es =>
        cases es with
        | cons => simp [chkSrc] at h
        | nil =>
          cases i <;> try (simp [chkSrc] at h; done)
          rename_i fn l kws pos
          cases fn <;> try (simp [chkSrc] at h; done)
          cases l with
          | nil => simp [chkSrc] at h
          | cons y l =>
            cases l with
            | cons => simp [chkSrc] at h
            | nil =>
              cases kws with
              | cons => simp [chkSrc] at h
              | nil =>
                simp only [chkSrc, Bool.and_eq_true] at h
                have h2 := h.2
                cases t <;> try (simp [isTup] at h2; done)
                exact ⟨_, _, _, _, _, _, _, _, rfl, rfl, rfl, h.1.1, by simp [chkEs, h.1.2.1, h.1.2.2]⟩
    obtain ⟨e, x, p, y, pos, elts, k, tp, rfl, rfl, rfl, hb, hc⟩ := h'
    obtain ⟨e0, gl, hd, hn, hm⟩ := g.bl hb
    subst e0
    obtain ⟨_, l2, _⟩ := hs X C _ W g tk hc
    obtain ⟨y', l', e1, hy⟩ := chkEs_cons hc (Nat.le_add_left _ _)
    cases e1
    refine (pi_enumA gl hm l2 (star_of hy)).imp fun σ H R q => ?_
    obtain ⟨m, os, env, S, rel, post⟩ := q
    refine ev1F rel post fun ds S1 m1 vs H1 s1 rel1 rp1 post1 => ?_
    obtain ⟨items, e2, ok⟩ := PX.got post1
    rw [g.K]
    cases rp1 with
    | nil => cases e2
    | cons a b =>
      cases b with
      | cons a2 b => cases e2
      | nil =>
        cases a with
        | tup a b => cases e2; exact ⟨_, rfl, .inr ⟨⟨_, .inl (.inl a)⟩, ok m1 H1 _ s1 rel1 (wk_enumT (.inl (.inl a)) b)⟩⟩
        | lst a b => cases e2; exact ⟨_, rfl, .inl ⟨⟨_, a.sql⟩, ok m1 H1 _ s1 rel1 (wk_enumL a b)⟩⟩
        | _ => cases e2
  · by_cases hz : src = .zip
    · subst hz
      cases it with
      | nil => simp [chkSrc] at h
      | cons e es => cases es <;> simp [chkSrc] at h
    · exact src_ok g tk h hs h1 fun z => z.elim hen hz
end Vy
set_option Elab.async false
set_option linter.all false
set_option maxRecDepth 100000
set_option maxHeartbeats 4000000
namespace Vy
open PySem PySem.Spec L2
variable [Tb]

/-! ### a lambda that is handed to the def that tells -/
theorem Ext.lam {m : List Addr} {H H1 : Hp} (e : LamX.ExtN H H1) (t : LamX.Tabs Tb.T H1) : Ext m H H1 where
  keep := fun b o h _ n => e b o h n
  fixT := fun b xs h => e b _ h fun ps z => by cases z
  fixF := fun b o u h => e b _ h fun ps z => by cases z
  fixI := fun b C dx gs h => e b _ h fun ps z => by cases z
  there := fun b h o ho => Classical.byContradiction fun n => by
    have n' : ∀ ps, o ≠ .tbl ps := fun ps z => n ⟨ps, z⟩
    obtain ⟨ps, z⟩ := h o (e b o ho n')
    exact n' ps z
  tab := fun _ => t
section
variable {G : GT} {V_ : Nv} {n : Nat}
theorem Gd.lam {C : Cxs} {X : Cx} (g : Gd G V_ n C X) {A : Around} {outer : List Env} {s : Shared} {H : Hp} {E : XK} {scope : Scope} {f c' : Addr} (hr : Room n (A.deeper (LamX.lamEnv X scope s.heap.objs.size f c'))) :
    Gd G V_ n (lamS C scope) (LamX.lamCx X A outer s H E scope f c') where
  N := g.N
  sc := rfl
  nd := g.nd
  fn := fun x => rfl
  calm := rfl
  K := g.K
  glob := g.glob
  room := hr
  told := fun h => absurd (show 2 ≤ 0 from h) (by decide)
  gs := fun h => by cases h
theorem se_told {ws : List (Nat × Str)} {a : E} (ha : SE G V_ n a) : SE G V_ n (.told ws a) := by
  intro X C x W g tk h
  have h' : ∃ tn p b scope lp pos, x = .Call (.Name tn p) [.Lambda ⟨[], [], none, [], [], none, []⟩ b scope lp] [] pos ∧ 2 ≤ C.lm ∧ tn = G.tn ∧ ws = G.ws ∧ LamX.lamSB C.sc scope = true ∧ chkE G (lamS C scope) a b = true := by
    cases x <;> try (simp [chkE] at h; done)
    rename_i fn l kws pos
    cases fn <;> try (simp [chkE] at h; done)
    rename_i tn p
    cases l with
    | nil => simp [chkE] at h
    | cons y l =>
      cases l with
      | cons => cases y <;> simp [chkE] at h
      | nil =>
        cases kws with
        | cons => cases y <;> simp [chkE] at h
        | nil =>
          cases y <;> try (simp [chkE] at h; done)
          rename_i ar b scope lp
          obtain ⟨a1, a2, a3, a4, a5, a6, a7⟩ := ar
          have he : a1 = [] ∧ a2 = [] ∧ a3 = none ∧ a4 = [] ∧ a5 = [] ∧ a6 = none ∧ a7 = [] := by
            cases a1 <;> cases a2 <;> cases a3 <;> cases a4 <;> cases a5 <;> cases a6 <;> cases a7 <;> first | exact ⟨rfl, rfl, rfl, rfl, rfl, rfl, rfl⟩ | (simp [chkE] at h)
          obtain ⟨rfl, rfl, rfl, rfl, rfl, rfl, rfl⟩ := he
          simp only [chkE, Bool.and_eq_true, decide_eq_true_eq] at h
          exact ⟨tn, p, b, scope, lp, pos, rfl, h.1.1.1.1, h.1.1.1.2, h.1.1.2, h.1.2, h.2⟩
  obtain ⟨tn, p, b, scope, lp, pos, rfl, h2, rfl, rfl, hL, hb⟩ := h'
  have L : LamX.LamS X.env.scope scope := by rw [g.sc]; exact LamX.lamS_by hL
  have main := g.told h2 b scope p lp pos (fun E => dE V_ (fun cls d _ H => E cls d H) a) L fun A outer s H E f c' hr =>
    (ha _ _ _ (fun cls d _ H => E cls d H) (g.lam hr) (takes_of rfl rfl rfl rfl) hb).1
  refine pair g (main.imp fun σ H Q q => ?_) (fun _ => rfl)
  obtain ⟨m, os, env, S, rel, post⟩ := q
  refine ⟨rel.tb, fun H1 eN t1 => ?_⟩
  have s1 : Stp m m H H1 := Stp.of (Ext.lam eN t1)
  have rel1 : Rel V_.K m os env S σ H1 := rel.step s1 (rel.ce.ext (Ext.lam (m := []) eN t1) fun a _ z => absurd z (by simp)) rel.nd
  refine ⟨m, os, env, S, rel1, ?_⟩
  unfold evE at post
  cases he : evE V_.F a env S with
  | bad => rw [he] at post; exact post.elim
  | ok r S' => rw [he] at post; exact okE.step s1 post
  | exc c fs S' =>
    rw [he] at post
    intro m2 d H2 s2 rel2 xd
    simp only at post
    cases hl : G.ws.lookup c with
    | none => rw [hl] at post; exact post.elim
    | some w =>
      rw [hl] at post
      cases fs with
      | nil => exact post.elim
      | cons f fs =>
        cases fs with
        | cons => exact post.elim
        | nil =>
          obtain ⟨kvs, h3, h4⟩ := xd
          generalize hfl : V_.fl c = ns at h4
          cases h4 with
          | @cons fname _ nr fr hv hr =>
            cases hr
            obtain ⟨v, h5, h6⟩ := hv
            refine ⟨c, w, d, fname, v, kvs, rfl, hl, hfl, rfl, h3, h5, fun ad hn => ?_⟩
            exact (okE.newL (okE.step (s1.trans s2) post) rel2 (.cons (.str w) (.cons h6 .nil)) hn)
mutual
theorem se_all : ∀ e : E, SE G V_ n e
  | .var i => se_var i
  | .non => se_non
  | .bl b => se_bl b
  | .int i => se_int i
  | .str x => se_str x
  | .con k => se_con k
  | .tup es => se_tup (es_all es)
  | .lst es => se_lst (es_all es)
  | .edict => se_edict
  | .bin op a b => se_bin (se_all a) (se_all b)
  | .neg a => se_neg (se_all a)
  | .cmp a cs => se_cmp (se_all a) (cs_all cs)
  | .nott a => se_nott (se_all a)
  | .bop an es => se_bop (es_all es)
  | .ite c a b => se_ite (se_all c) (se_all a) (se_all b)
  | .idx a i => se_idx (se_all a) (se_all i)
  | .slc a lo hi => se_slc (se_all a) (oe_all lo) (oe_all hi)
  | .bi f es => se_bi (es_all es)
  | .isi t a => se_isi (se_all a)
  | .call f es => se_call (es_all es)
  | .comp own elt tg src it cond => se_comp (se_all elt) (oe_all cond) (src_all (es_all it) (s1_all it))
  | .comp2 own own1 elt tg src it cond tg1 src1 it1 cond1 => se_comp2 (se_all elt) (oe_all cond) (oe_all cond1) (src_all (es_all it) (s1_all it)) (src_all (es_all it1) (s1_all it1))
  | .att c a i => se_att (se_all a)
  | .mth c f a es => se_mth (se_all a) (es_all es)
  | .new c f es => se_new (es_all es)
  | .told ws a => se_told (se_all a)
  | .rev a => se_rev (se_all a)
  | .tzip a b => se_tzip (se_all a) (se_all b)
  | .ddisp ks vs => se_ddisp (each_all vs)
  | .lrng s es => se_lrng (each_all es)
theorem each_all : ∀ es : Es, SEs G V_ n es
  | .nil => trivial
  | .cons e es => ⟨se_all e, each_all es⟩
theorem es_all : ∀ es : Es, SL G V_ n es
  | .nil => sl_nil
  | .cons e es => sl_cons (se_all e) (es_all es)
theorem s1_all : ∀ es : Es, ∀ e, es = .cons e .nil → SE G V_ n e
  | .nil => fun e h => by cases h
  | .cons e es => fun e' h => by
    injection h with h1 h2
    rw [← h1]
    exact se_all e
theorem oe_all : ∀ o : Oe, SO G V_ n o
  | .no => so_no
  | .so e => so_so (se_all e)
theorem cs_all : ∀ cs : Cs, SC G V_ n cs
  | .nil => sc_nil
  | .cons op e cs => sc_cons (se_all e) (cs_all cs)
end
end
end Vy
set_option Elab.async false
set_option linter.all false
set_option maxRecDepth 100000
set_option maxHeartbeats 4000000
namespace Vy
open PySem PySem.Spec L2
variable [Tb]

/-! ### where a body began -/
structure Ba where
  m0 : List Addr
  H0 : Hp
  P : Hp → Prop
  st : ∀ H H', P H → Kep H H' → P H'
structure En (B : Ba) (m os : List Addr) (H : Hp) : Prop where
  pre : B.m0 <+: m
  ext : Ext B.m0 B.H0 H
  new : ∀ x ∈ m ++ os, x ∈ B.m0 ∨ Fr B.H0 x
  p : B.P H
section
variable {B : Ba} {m m' os os' q : List Addr} {H H' : Hp}
theorem En.to (e : En B m os H) (x : Ext q H H') (hq : ∀ a ∈ q, a ∈ m ++ os) (pre : m <+: m') (new : ∀ a ∈ m' ++ os', a ∈ m ++ os ∨ Fr H a) : En B m' os' H' :=
  ⟨e.pre.trans pre, e.ext.trans x fun a h => e.new a (hq a h), fun a h => (new a h).elim (e.new a) fun z => .inr (e.ext.there a z), B.st _ _ e.p x.kep⟩
theorem En.step (e : En B m os H) (s : Stp m m' H H') : En B m' os H' :=
  e.to s.ext (fun a h => List.mem_append_left _ h) s.pre fun a h => (List.mem_append.mp h).elim (fun z => (s.new a z).imp (List.mem_append_left _) id) fun z => .inl (List.mem_append_right _ z)
theorem En.sub (e : En B m os H) (u : ∀ a ∈ os', a ∈ os) : En B m os' H :=
  ⟨e.pre, e.ext, fun a h => e.new a ((List.mem_append.mp h).elim (List.mem_append_left _) fun z => List.mem_append_right _ (u a z)), e.p⟩
theorem En.stp (e : En B m os H) : Stp B.m0 m B.H0 H := ⟨e.pre, e.ext, fun a h => e.new a (List.mem_append_left _ h)⟩
/-- what is wished behind -/
def OUT (V_ : Nv) (W : WX) (B : Ba) (Dn : Ends) : Out → Prop
  | .next env S => ∀ m os σ H, En B m os H → Rel V_.K m os env S σ H → Dn.nx σ H
  | .brk env S => ∀ m os σ H, En B m os H → Rel V_.K m os env S σ H → Dn.bk σ H
  | .cnt env S => ∀ m os σ H, En B m os H → Rel V_.K m os env S σ H → Dn.ct σ H
  | .ret r S => ∀ m v H, Stp B.m0 m B.H0 H → Cells V_.K H S m → m.Nodup → RpR V_.K m [] B.H0 H r v → Dn.rt v H
  | .exc c fs _ S => ∀ m d σ H, Stp B.m0 m B.H0 H → Cells V_.K H S m → m.Nodup → XdR V_.K H d (V_.fl c) fs → W (.ref (V_.ca c)) (some d) σ H
  | .bad => False
def dS (V_ : Nv) (W : WX) (B : Ba) (lim : Nat) (s : Vy.S) : TS := fun Dn σ H => ∃ m os env S, En B m os H ∧ Rel V_.K m os env S σ H ∧ OUT V_ W B Dn (exS V_.F lim s env S)
def dSS (V_ : Nv) (W : WX) (B : Ba) (lim : Nat) (s : SS) : TS := fun Dn σ H => ∃ m os env S, En B m os H ∧ Rel V_.K m os env S σ H ∧ OUT V_ W B Dn (exSS V_.F lim s env S)
end
theorem _root_.L2.PS.imp {X : Cx} {e : Stmt} {t t' : TS} (h : PS X e t) (i : ∀ D σ H, t' D σ H → t D σ H) : PS X e t' := ⟨fun pins s σ H Q I q => h.run pins s σ H Q I (i Q σ H q)⟩
theorem _root_.L2.PSs.imp {X : Cx} {e : List Stmt} {t t' : TS} (h : PSs X e t) (i : ∀ D σ H, t' D σ H → t D σ H) : PSs X e t' := ⟨fun pins s σ H Q I q => h.run pins s σ H Q I (i Q σ H q)⟩
section
variable {V_ : Nv} {W : WX} {B : Ba} {Dn : Ends} {m m1 os : List Addr} {env : Ev} {σ : L2.St} {H H1 : Hp} {S : Sto}
theorem out_exc {c : Nat} {fs : List D} {S' : Sto} (en : En B m os H) (rel : Rel V_.K m os env S σ H) (h : OUT V_ W B Dn (.exc c fs env S')) : exW V_ W m os env σ H c fs S' :=
  fun m' d H' s r x => h m' d σ H' (en.step s).stp r.ce r.m_nd x
/-- an expression of a statement -/
theorem st_e {e : E} {k : R → Sto → Out} {Q' : VK} (en : En B m os H) (rel : Rel V_.K m os env S σ H) (post : OUT V_ W B Dn ((evE V_.F e env S).st env k))
    (hk : ∀ r S1 m1 v H1, Stp m m1 H H1 → Rel V_.K m1 os env S1 σ H1 → En B m1 os H1 → RpR V_.K m1 os H H1 r v → OUT V_ W B Dn (k r S1) → Q' v H1) : dE V_ W e σ H Q' := by
  refine ⟨m, os, env, S, rel, ?_⟩
  cases h : evE V_.F e env S with
  | bad => rw [h] at post; exact post
  | exc c fs S' => rw [h] at post; exact out_exc en rel post
  | ok r S1 => rw [h] at post; exact fun m1 v H1 s1 rel1 rp => hk r S1 m1 v H1 s1 rel1 (en.step s1) rp post
theorem st_t {e : E} {k : Bool → Sto → Out} {Q' : Bool → Hp → Prop} (en : En B m os H) (rel : Rel V_.K m os env S σ H) (post : OUT V_ W B Dn (((evE V_.F e env S).bind fun x S => opt S (truR S x)).st env k))
    (hk : ∀ b S1 m1 H1, Stp m m1 H H1 → Rel V_.K m1 os env S1 σ H1 → En B m1 os H1 → OUT V_ W B Dn (k b S1) → Q' b H1) : dT V_ W e σ H Q' := by
  refine ⟨m, os, env, S, rel, ?_⟩
  cases h : (evE V_.F e env S).bind fun x S => opt S (truR S x) with
  | bad => rw [h] at post; exact post
  | exc c fs S' => rw [h] at post; exact out_exc en rel post
  | ok r S1 => rw [h] at post; exact fun m1 H1 s1 rel1 => hk r S1 m1 H1 s1 rel1 (en.step s1) post
theorem st_f {es : Es} {k : List D → Sto → Out} {Q' : List V → Hp → Prop} (en : En B m os H) (rel : Rel V_.K m os env S σ H) (post : OUT V_ W B Dn ((evFz V_.F es env S).st env k))
    (hk : ∀ r S1 m1 vs H1, r.length = es.len → Stp m m1 H H1 → Rel V_.K m1 os env S1 σ H1 → En B m1 os H1 → RpA V_.K H1 r vs → OUT V_ W B Dn (k r S1) → Q' vs H1) : dFz V_ W es σ H Q' := by
  refine ⟨m, os, env, S, rel, ?_⟩
  cases h : evFz V_.F es env S with
  | bad => rw [h] at post; exact post
  | exc c fs S' => rw [h] at post; exact out_exc en rel post
  | ok r S1 => rw [h] at post; exact fun m1 vs H1 s1 rel1 rp => hk r S1 m1 vs H1 (evFz_len0 _ _ _ _ _ h) s1 rel1 (en.step s1) rp post
theorem optS_got {α : Type} {o : Option α} {k : α → Out} (h : OUT V_ W B Dn (optS o k)) : ∃ a, o = some a ∧ OUT V_ W B Dn (k a) := by
  cases o with
  | none => exact h.elim
  | some a => exact ⟨a, rfl, h⟩
/-- given for a slot -/
theorem lk_slot {Q : VK} {r : R} {sv : SV} {v : V} (s : Stp m m1 H H1) (rel : Rel V_.K m1 os env S σ H1) (rp : RpR V_.K m1 os H H1 r v) (e : slot r = some sv)
    (h : ∀ H2, Stp m m1 H H2 → Rel V_.K m1 os env S σ H2 → SlotR V_.K H2 m1 (some sv) (some v) [] → Q v H2) : Lk Q v H1 := by
  cases rp with
  | p q => cases e; exact .inl (h _ s rel (.p q))
  | nl a b c q =>
    cases e
    exact lk_of s rel (.nl a b c q) rfl fun H2 s2 rel2 rp2 => h H2 s2 rel2 (.p rp2)
  | nd a b c q => cases e
  | nT a b c q => cases e
  | bw b c q => cases e
  | ref q => cases e; exact .inl (h _ s rel (.ref q))
  | obj q => cases e; exact .inl (h _ s rel (.obj q))
theorem slot_own {r : R} {sv : SV} {v : V} (rp : RpR V_.K m1 os H H1 r v) (e : slotOwn r = some sv) : ∃ c a, sv = .own c ∧ v = .ref a ∧ Fr H a ∧ a ∉ m1 ∧ a ∉ os ∧ CellR V_.K H1 a c := by
  cases rp with
  | nl a b c q => cases e; exact ⟨_, _, rfl, rfl, a, b, c, q⟩
  | nd a b c q => cases e; exact ⟨_, _, rfl, rfl, a, b, c, q⟩
  | nT a b c q => cases e; exact ⟨_, _, rfl, rfl, a, b, c, q⟩
  | obj => cases e
  | p => cases e
  | bw => cases e
  | ref => cases e
/-- a cell of one's own is put into a slot -/
theorem Rel.own {i : Nat} {c : Cell} {a : Addr} (h : Rel V_.K m os env S σ H) (r : CellR V_.K H a c) (hm : a ∉ m) (ho : a ∉ os) : ∃ os', Rel V_.K m os' (env.set i (some (.own c))) S (σ.set i (some (.ref a))) H ∧ ∀ x ∈ os', x ∈ os ∨ x = a := by
  cases e : env[i]? with
  | none =>
    have e := List.getElem?_eq_none_iff.mp e
    rw [List.set_eq_of_length_le e, List.set_eq_of_length_le (by rw [← h.sl.len]; exact e)]
    exact ⟨os, h, fun x hx => .inl hx⟩
  | some s =>
    obtain ⟨o, as, o1, o2, _, _, e2, k⟩ := h.sl.at_ e
    refine ⟨o1 ++ [a] ++ o2, ⟨k [] H _ _ [a] (Ext.refl _ _) (fun a _ z => absurd z (by simp)) (.own r), h.ce, ?_, h.tb⟩, fun x hx => ?_⟩
    · have nd := h.nd
      rw [e2] at nd ho
      have sub : (m ++ (o1 ++ o2)).Nodup := by
        refine List.Sublist.nodup ((List.Sublist.refl m).append ?_) nd
        rw [List.append_assoc]
        exact (List.Sublist.refl o1).append (List.sublist_append_right as o2)
      have : (m ++ (o1 ++ [a] ++ o2)).Perm (a :: (m ++ (o1 ++ o2))) := by
        rw [List.append_assoc, ← List.append_assoc m o1, ← List.append_assoc m o1]
        exact List.perm_middle
      refine this.nodup_iff.mpr (List.nodup_cons.mpr ⟨fun z => ?_, sub⟩)
      rcases List.mem_append.mp z with z | z
      · exact hm z
      · exact ho (by rcases List.mem_append.mp z with z | z <;> simp [z])
    · rw [e2]
      rcases List.mem_append.mp hx with hx | hx
      · rcases List.mem_append.mp hx with hx | hx
        · exact .inl (by simp [hx])
        · exact .inr (List.mem_singleton.mp hx)
      · exact .inl (by simp [hx])
/-- a cell of one's own is written -/
theorem Rel.wr {i : Nat} {c c' : Cell} (h : Rel V_.K m os env S σ H) (e : env[i]? = some (some (.own c))) : ∃ a, σ[i]? = some (some (.ref a)) ∧ CellR V_.K H a c ∧ a ∈ os ∧ a ∉ m ∧
    ∀ H', Ext [a] H H' → CellR V_.K H' a c' → Rel V_.K m os (env.set i (some (.own c'))) S σ H' := by
  obtain ⟨o, as, o1, o2, e1, r, e2, k⟩ := h.sl.at_ e
  cases r with
  | @own _ a r =>
    have ha : a ∈ os := by rw [e2]; simp
    have nd := h.nd
    refine ⟨a, e1, r, ha, fun z => (List.nodup_append.mp nd).2.2 a z a ha rfl, fun H' x r' => ?_⟩
    have hno : ∀ b ∈ o1 ++ o2, b ∉ [a] := fun b hb z => by
      have hz := List.mem_singleton.mp z
      subst hz
      rw [e2] at nd
      have nd2 := (List.nodup_append.mp nd).2.1
      have : (o1 ++ [b] ++ o2).Perm (b :: (o1 ++ o2)) := by
        rw [List.append_assoc]
        exact List.perm_middle
      exact (List.nodup_cons.mp (this.nodup_iff.mp nd2)).1 hb
    have sl := k [a] H' (some (.own c')) (some (.ref a)) [a] x hno (.own r')
    have es : σ.set i (some (.ref a)) = σ := by
      obtain ⟨hlt, ev⟩ := List.getElem?_eq_some_iff.mp e1
      conv => rhs; rw [← List.set_getElem_self hlt]
      rw [ev]
    rw [es, ← e2] at sl
    refine ⟨sl, h.ce.ext x fun b hb z => ?_, nd, x.tab h.tb⟩
    rw [List.mem_singleton.mp z] at hb
    exact (List.nodup_append.mp nd).2.2 a hb a ha rfl
end
end Vy
set_option Elab.async false
set_option linter.all false
set_option maxRecDepth 100000
set_option maxHeartbeats 4000000
namespace Vy
open PySem PySem.Spec L2
variable [Tb]

/-! ### the look at statements -/
def swB (C : Cxs) : Expr → Expr → Bool
  | .Name x p, .ListComp _ _ scope pos => (match C.sc.names.lookup x with | some .local => true | _ => false) && p.line == pos.line && !(scope.names.any fun (n, k) => n == x && (k == .local || k == .cell))
  | _, _ => false
/-- the names of a swapped store -/
def swNm (kd : Str → Option NameKind) (line : Nat) (ts : List Expr) : List Str := ts.filterMap fun
  | .Name id pos => if kd id == some .local && pos.line == line then some id else none
  | _ => none
def kdC (C : Cxs) (y : Str) : Option NameKind := C.sc.names.lookup y
def starB (vs : List Expr) : Bool := vs.any fun | .Starred .. => true | _ => false
def line0 (ts : List Expr) : Nat := (ts.head?.map (·.pos.line)).getD 0
theorem sw_eq {ts vs : List Expr} {k k2 : Nat} {p p2 : Pos} {env : Env} : swappedStores [.Tuple ts k p] (.Tuple vs k2 p2) env =
    (if (!(ts.length == 2 || ts.length == 3) || vs.length != ts.length || env.blockKind != .function) = true then pure none else if starB vs = true then pure none else
      if ((swNm env.kindOf (line0 ts) ts).length != ts.length || (swNm env.kindOf (line0 ts) ts).eraseDups.length != (swNm env.kindOf (line0 ts) ts).length) = true then pure none else
      if vs.all (foldedForSure 8) = true then pure none else if vs.all (constantsAlone 8) = true then unsupported "assign.tuple-of-constant-expressions:order-of-the-stores" else pure (some (swNm env.kindOf (line0 ts) ts))) := by
  rfl
/-- surely not swapped -/
def swNo (C : Cxs) (ts : List Expr) : Expr → Bool
  | .Tuple vs _ _ => !(ts.length == 2 || ts.length == 3) || vs.length != ts.length || starB vs || ((swNm (kdC C) (line0 ts) ts).length != ts.length || (swNm (kdC C) (line0 ts) ts).eraseDups.length != (swNm (kdC C) (line0 ts) ts).length) || vs.all (foldedForSure 8)
  | _ => true
/-- surely swapped -/
def swYes (C : Cxs) (ts vs : List Expr) (ns : List Str) : Bool :=
  !(!(ts.length == 2 || ts.length == 3) || vs.length != ts.length) && !starB vs && !((swNm (kdC C) (line0 ts) ts).length != ts.length || (swNm (kdC C) (line0 ts) ts).eraseDups.length != (swNm (kdC C) (line0 ts) ts).length) &&
    !vs.all (foldedForSure 8) && !vs.all (constantsAlone 8) && decide (swNm (kdC C) (line0 ts) ts = ns)
def isLc : Expr → Bool
  | .ListComp .. => true
  | _ => false
def locB (C : Cxs) (x : Str) : Bool := match C.sc.names.lookup x with | some .local => true | _ => false
def opAS : Operator → Bool
  | .Add => true
  | .Sub => true
  | _ => false
def tupL : Expr → List Expr
  | .Tuple l _ _ => l
  | _ => []
def par2Ok (C : Cxs) (i j : Nat) : List Expr → Expr → Bool
  | [.Tuple [.Name x px, .Name y py] _ _], .Tuple [u, v] _ _ => decide (C.N[i]? = some x) && decide (C.N[j]? = some y) && decide (i ≠ j) && locB C x && locB C y && swYes C [.Name x px, .Name y py] [u, v] [x, y]
  | _, _ => false
def par3Ok (C : Cxs) (i j k : Nat) : List Expr → Expr → Bool
  | [.Tuple [.Name x px, .Name y py, .Name z pz] _ _], .Tuple [u, v, w] _ _ => decide (C.N[i]? = some x) && decide (C.N[j]? = some y) && decide (C.N[k]? = some z) && decide (i ≠ j) && decide (i ≠ k) && decide (j ≠ k) && locB C x && locB C y && locB C z && swYes C [.Name x px, .Name y py, .Name z pz] [u, v, w] [x, y, z]
  | _, _ => false
theorem par3Ok_inv {C : Cxs} {i j k : Nat} {ts : List Expr} {e : Expr} (h : par3Ok C i j k ts e = true) : ∃ x px y py z pz kk p u v w k2 p2, ts = [.Tuple [.Name x px, .Name y py, .Name z pz] kk p] ∧ e = .Tuple [u, v, w] k2 p2 ∧
    (decide (C.N[i]? = some x) && decide (C.N[j]? = some y) && decide (C.N[k]? = some z) && decide (i ≠ j) && decide (i ≠ k) && decide (j ≠ k) && locB C x && locB C y && locB C z && swYes C [.Name x px, .Name y py, .Name z pz] [u, v, w] [x, y, z]) = true := by
  unfold par3Ok at h
  split at h
  · exact ⟨_, _, _, _, _, _, _, _, _, _, _, _, _, rfl, rfl, h⟩
  · cases h
/-- the targets of a tuple's parts -/
def chkPt (G : GT) (C : Cxs) : Pt → Expr → Bool
  | .nm i, .Name x p => chkTs C [i] [.Name x p]
  | .tp is, .Tuple ts _ _ => chkTs C is ts
  | .so i ix, .Subscript (.Name x _) z _ => chkN C i x && chkE G C ix z
  | .sr a ix, .Subscript x z _ => chkE G C a x && chkE G C ix z
  | _, _ => false
def chkPts (G : GT) (C : Cxs) : List Pt → List Expr → Bool
  | [], [] => true
  | t :: ts, x :: xs => chkPt G C t x && chkPts G C ts xs
  | _, _ => false
theorem par2Ok_inv {C : Cxs} {i j : Nat} {ts : List Expr} {e : Expr} (h : par2Ok C i j ts e = true) : ∃ x px y py k p u v k2 p2, ts = [.Tuple [.Name x px, .Name y py] k p] ∧ e = .Tuple [u, v] k2 p2 ∧
    (decide (C.N[i]? = some x) && decide (C.N[j]? = some y) && decide (i ≠ j) && locB C x && locB C y && swYes C [.Name x px, .Name y py] [u, v] [x, y]) = true := by
  unfold par2Ok at h
  split at h
  · exact ⟨_, _, _, _, _, _, _, _, _, _, rfl, rfl, h⟩
  · cases h
mutual
def chkS (G : GT) (C : Cxs) : S → Stmt → Bool
  | .asg i e, .Assign [t] x _ => chkTs C [i] [t] && chkE G C e x
  | .own i e, .Assign [t] x _ => chkTs C [i] [t] && chkE G C e x
  | .nref i e, .Assign [t] x _ => chkTs C [i] [t] && chkE G C e x
  | .unp is e, .Assign [.Tuple ts _ _] x _ => chkTs C is ts && chkE G C e x && swNo C ts x
  | .par2 i _ j _ a b, .Assign ts x _ => par2Ok C i j ts x && chkEs G C (.cons a (.cons b .nil)) (tupL x)
  | .sett ps e, .Assign [.Tuple ts _ _] x _ => chkPts G C ps ts && decide (2 ≤ ts.length) && chkE G C e x && swNo C ts x
  | .par3 i _ j _ k _ a b c, .Assign ts x _ => par3Ok C i j k ts x && chkEs G C (.cons a (.cons b (.cons c .nil))) (tupL x)
  | .app i e, .Expr (.Call (.Attribute (.Name x _) nm ap) [y] [] cp) _ => decide (nm = "append") && chkN C i x && chkE G C e y && ap.endLine == cp.line
  | .appr i e, .Expr (.Call (.Attribute (.Name x _) nm ap) [y] [] cp) _ => decide (nm = "append") && chkN C i x && chkE G C e y && ap.endLine == cp.line
  | .appx a e, .Expr (.Call (.Attribute x nm ap) [y] [] cp) _ => decide (nm = "append") && plnO x && chkE G C a x && chkE G C e y && ap.endLine == cp.line
  | .seto i ix e, .Assign [.Subscript (.Name x _) z _] y _ => chkN C i x && chkE G C ix z && chkE G C e y
  | .setr a ix e, .Assign [.Subscript x z _] y _ => chkE G C a x && chkE G C ix z && chkE G C e y
  | .augo i op ix e, .AugAssign (.Subscript (.Name x _) z _) o y _ => chkN C i x && decide (op = o) && opAS op && chkE G C ix z && chkE G C e y
  | .augn i op e, .AugAssign t o y _ => chkTs C [i] [t] && decide (op = o) && opAS op && chkE G C e y
  | .ext i e, .AugAssign t .Add y _ => chkTs C [i] [t] && chkE G C e y
  | .pop i j, .Assign [t] (.Call (.Attribute (.Name x _) nm ap) [] [] cp) _ => chkTs C [i] [t] && decide (nm = "pop") && chkN C j x && ap.endLine == cp.line
  | .ifs c a b, .If x p q _ => chkE G C c x && chkSS G C a p && chkSS G C b q
  | .forr tg src it body, .For t i l [] _ => chkTg C tg t && chkSrc G C src it i (isTup t) && chkSS G C body l
  | .whil c body, .While x l [] _ => chkE G C c x && chkSS G C body l
  | .ret e, .Return (some x) _ => chkE G C e x
  | .retn, .Return none _ => true
  | .rais c es, .Raise (some (.Call (.Name x _) (y :: l) [] _)) none _ => decide (G.excs[c]? = some x) && decide (G.exn[c]? = some es.len) && chkG C x && chkEs G C es (y :: l)
  | .exprs e, .Expr x _ => chkE G C e x && !isLc x
  | .pass, .Pass _ => true
  | .pass, .Expr (.Constant (.str _) _ _) _ => true
  | .brk, .Break _ => true
  | .cont, .Continue _ => true
  | _, _ => false
def chkSS (G : GT) (C : Cxs) : SS → List Stmt → Bool
  | .nil, [] => true
  | .cons (.frz _) r, l => chkSS G C r l
  | .cons (.fgt _) r, l => chkSS G C r l
  | .cons s r, x :: l => chkS G C s x && chkSS G C r l
  | _, _ => false
end

/-! ### what a body's place is -/
structure Fd (G : GT) (V_ : Nv) (W : WX) (X : Cx) : Prop where
  kind : X.env.scope.kind = .function
  tk : Takes X W
  ps : PassesOwn (model X.prog X.w) X.A X.env X.xe
  gx : Gx G V_ X.prog X.w X.mg X.base
  two : Room 2 X.A
def So (G : GT) (V_ : Nv) (n lim : Nat) (s : S) : Prop := ∀ (X : Cx) (C : Cxs) (a : Stmt) (W : WX) (B : Ba), Gd G V_ n C X → Fd G V_ W X → chkS G C s a = true → PS X a (dS V_ W B lim s)
def SSo (G : GT) (V_ : Nv) (n lim : Nat) (s : SS) : Prop := ∀ (X : Cx) (C : Cxs) (a : List Stmt) (W : WX) (B : Ba), Gd G V_ n C X → Fd G V_ W X → chkSS G C s a = true → PSs X a (dSS V_ W B lim s)

/-! ### a list is locked behind a statement -/
def LkD (Dn : Ends) : Ends := { Dn with nx := fun σ H => Dn.nx σ H ∨ ∃ a vs, H a = some (.lst vs) ∧ ∀ o, Dn.nx σ (upd H a (.frz o (.lst vs))) }
theorem _root_.L2.PS.lk {X : Cx} {st : Stmt} {t : TS} (h : PS X st t) : PS X st (fun Dn σ H => t (LkD Dn) σ H) := ⟨fun pins s σ H Dn I q => thn (h.run pins s σ H _ I q) fun f s1 z => by
  cases f with
  | next =>
    obtain ⟨σ', H', I', z⟩ := z
    rcases z with z | ⟨a, vs, e, z⟩
    · exact ⟨σ', H', I', z⟩
    · obtain ⟨o, J⟩ := Inv.frz I' e
      exact ⟨σ', _, J, z o⟩
  | ret v => exact z
  | brk => exact z
  | cont => exact z⟩
theorem _root_.L2.PSs.lkS {X : Cx} {st : List Stmt} {t : TS} (h : PSs X st t) : PSs X st (fun Dn σ H => t Dn σ H ∨ ∃ a vs, H a = some (.lst vs) ∧ ∀ o, t Dn σ (upd H a (.frz o (.lst vs)))) := ⟨fun pins s σ H Dn I q => by
  rcases q with q | ⟨a, vs, e, q⟩
  · exact h.run pins s σ H Dn I q
  · obtain ⟨o, J⟩ := Inv.frz I e
    exact h.run pins s σ _ Dn J (q o)⟩

section
variable {G : GT} {V_ : Nv} {n lim : Nat} {C : Cxs} {X : Cx} {W : WX}
theorem sw_no {t x : Expr} {l : Nat} (g : Gd G V_ n C X) (k : X.env.scope.kind = .function) (hp : plainE x = true) (h : swB C t x = false) : swapsWith x (some t) l X.env = pure false := by
  cases x <;> try (first | rfl | (cases hp; done))
  rename_i y gs scope pos
  cases t <;> try rfl
  rename_i z p
  have hb : X.env.blockKind = .function := by unfold Env.blockKind; rw [k]; rfl
  have hk : X.env.kindOf z = C.sc.names.lookup z := by unfold Env.kindOf; rw [g.sc]
  show (pure (X.env.blockKind == .function && X.env.kindOf z == some .local && p.line == pos.line && !(scope.names.any fun (n, k) => n == z && (k == .local || k == .cell))) : Sem Bool) = _
  rw [hb, hk]
  have h' : ((match C.sc.names.lookup z with | some .local => true | _ => false) && p.line == pos.line && !(scope.names.any fun (n, k) => n == z && (k == .local || k == .cell))) = false := h
  have h2 : ((ScopeKind.function == ScopeKind.function) && (C.sc.names.lookup z == some .local) && p.line == pos.line && !(scope.names.any fun (n, k) => n == z && (k == .local || k == .cell))) = false := by
    rw [← h']
    congr 2
    cases C.sc.names.lookup z with
    | none => rfl
    | some kk => cases kk <;> rfl
  rw [h2]
theorem sw_yes {t x : Expr} {l : Nat} (g : Gd G V_ n C X) (k : X.env.scope.kind = .function) (h : swB C t x = true) : ∃ y gs scope pos z p, x = .ListComp y gs scope pos ∧ t = .Name z p ∧ X.env.scope.names.lookup z = some .local ∧ swapsWith x (some t) l X.env = pure true := by
  cases x <;> try (simp [swB] at h; done)
  rename_i y gs scope pos
  cases t <;> try (simp [swB] at h; done)
  rename_i z p
  simp only [swB, Bool.and_eq_true, Bool.not_eq_true'] at h
  have hz : X.env.scope.names.lookup z = some .local := by
    rw [g.sc]
    have := h.1.1
    split at this
    · assumption
    · cases this
  exact ⟨y, gs, scope, pos, z, p, rfl, rfl, hz, sw_true k hz h.1.2 h.2⟩
theorem kd_eq (g : Gd G V_ n C X) : X.env.kindOf = kdC C := by
  funext y
  unfold Env.kindOf kdC
  rw [g.sc]
theorem sw_none {ts : List Expr} {x : Expr} {k : Nat} {p : Pos} (g : Gd G V_ n C X) (hk : X.env.scope.kind = .function) (h : swNo C ts x = true) : swappedStores [.Tuple ts k p] x X.env = pure none := by
  cases x <;> try rfl
  rename_i vs k2 p2
  have hb : X.env.blockKind = .function := by unfold Env.blockKind; rw [hk]; rfl
  rw [sw_eq, kd_eq g, hb]
  simp only [swNo, Bool.or_eq_true] at h
  by_cases c1 : (!(ts.length == 2 || ts.length == 3) || vs.length != ts.length || ScopeKind.function != .function) = true
  · rw [if_pos c1]
  · rw [if_neg c1]
    by_cases c2 : starB vs = true
    · rw [if_pos c2]
    · rw [if_neg c2]
      by_cases c3 : ((swNm (kdC C) (line0 ts) ts).length != ts.length || (swNm (kdC C) (line0 ts) ts).eraseDups.length != (swNm (kdC C) (line0 ts) ts).length) = true
      · rw [if_pos c3]
      · rw [if_neg c3]
        by_cases c4 : vs.all (foldedForSure 8) = true
        · rw [if_pos c4]
        · exfalso
          rcases h with (((h | h) | h) | h) | h
          · exact c1 (by rw [h]; rfl)
          · exact c1 (by rw [h, Bool.or_true]; rfl)
          · exact c2 h
          · exact c3 (by simpa only [Bool.or_eq_true] using h)
          · exact c4 h
theorem sw_some {ts vs : List Expr} {ns : List Str} {k k2 : Nat} {p p2 : Pos} (g : Gd G V_ n C X) (hk : X.env.scope.kind = .function) (h : swYes C ts vs ns = true) : swappedStores [.Tuple ts k p] (.Tuple vs k2 p2) X.env = pure (some ns) := by
  have hb : X.env.blockKind = .function := by unfold Env.blockKind; rw [hk]; rfl
  simp only [swYes, Bool.and_eq_true, Bool.not_eq_true', decide_eq_true_eq] at h
  obtain ⟨⟨⟨⟨⟨c1, c2⟩, c3⟩, c4⟩, c5⟩, c6⟩ := h
  rw [sw_eq, kd_eq g, hb, c1, c2, c3, c4, c5, c6]
  rfl
theorem nm_of {i : Nat} {t : Expr} (g : Gd G V_ n C X) (h : chkTs C [i] [t] = true) : ∃ x p, t = .Name x p ∧ X.N[i]? = some x ∧ L2.Loc X.env.scope x ∧ (X.fn x = true ∨ X.env.scope.names.lookup x = some .local) := by
  cases t <;> simp only [chkTs, Bool.and_eq_true, decide_eq_true_eq] at h <;> try (cases h; done)
  rename_i x pos
  have h2 := h.1.2
  have hl : L2.Loc X.env.scope x ∧ (X.fn x = true ∨ X.env.scope.names.lookup x = some .local) := by
    rw [g.sc, g.fn]
    split at h2
    · rename_i q; exact ⟨.inl q, .inr q⟩
    · rename_i q; exact ⟨.inr q, .inl h2⟩
    · cases h2
  exact ⟨x, pos, rfl, by rw [g.N]; exact h.1.1, hl.1, hl.2⟩
/-- name = e -/
theorem asg_ps {i : Nat} {e : E} {t x : Expr} {pos : Pos} (g : Gd G V_ n C X) (f : Fd G V_ W X) (h1 : chkTs C [i] [t] = true) (h2 : chkE G C e x = true) :
    PS X (.Assign [t] x pos) (fun Dn σ H => dE V_ W e σ H fun v H1 => Dn.nx (σ.set i (some v)) H1) := by
  have hN : X.N.Nodup := by rw [g.N]; exact g.nd
  cases hs : swB C t x with
  | false =>
    obtain ⟨z, p, rfl, a1, a2, a3⟩ := nm_of g h1
    exact ps_set hN a1 a2 (se_all e X C x W g f.tk h2).1 (sw_no g f.kind (chkE_plain h2) hs) a3
  | true =>
    obtain ⟨z, p, e1, a1, a2, a3⟩ := nm_of g h1
    obtain ⟨y, gs, scope, p2, z', p', e2, e3, hl, hw⟩ := sw_yes (l := pos.line) g f.kind hs
    subst e1 e2
    injection e3 with e3 e4
    subst e3 e4
    have he : (∃ own elt tg src it cond, e = .comp own elt tg src it cond) ∨ ∃ own own1 elt tg src it cond tg1 src1 it1 cond1, e = .comp2 own own1 elt tg src it cond tg1 src1 it1 cond1 := by
      cases e with
      | comp own elt tg src it cond => exact .inl ⟨_, _, _, _, _, _, rfl⟩
      | comp2 own own1 elt tg src it cond tg1 src1 it1 cond1 => exact .inr ⟨_, _, _, _, _, _, _, _, _, _, _, rfl⟩
      | lrng s es => (exfalso; cases s <;> rcases es with _ | ⟨_, _ | ⟨_, _ | _⟩⟩ <;> simp [chkE] at h2)
      | _ => exact absurd (show false = true from h2) (by decide)
    rcases he with ⟨own, elt, tg, src, it, cond, rfl⟩ | ⟨own, own1, elt, tg, src, it, cond, tg1, src1, it1, cond1, rfl⟩
    · obtain ⟨y', t', i', ifs, sc', pos', e5, P⟩ := comp_parts (se_all elt) (oe_all cond) (src_all (es_all it) (s1_all it)) g f.tk h2
      cases e5
      have main := ps_setLc (i := i) (py := p) (spos := pos) (pos := p2) g.calm hN a1 hl hw P.hi P.ok P.hg P.ht P.he P.hs
      rw [own_snd] at main
      exact main.imp fun D σ H q => comp_val P.hin q
    · obtain ⟨y', t', i', ifs, t1', i1', ifs1, sc', pos', e5, P⟩ := comp2_parts (se_all elt) (oe_all cond) (oe_all cond1) (src_all (es_all it) (s1_all it)) (src_all (es_all it1) (s1_all it1)) g f.tk h2
      cases e5
      have main := ps_setLc2 (i := i) (py := p) (spos := pos) (pos := p2) (vs1 := own1) g.calm hN a1 hl hw P.P.hi P.P.ok (by rw [own_snd]; exact P.hv) P.P.hg P.P.ht P.hi P.hg P.ht P.P.he P.P.hs P.hs
      rw [own_snd] at main
      exact main.imp fun D σ H q => comp2_val P.P.hin P.hin q
end
end Vy
set_option Elab.async false
set_option linter.all false
set_option maxRecDepth 100000
set_option maxHeartbeats 4000000
namespace Vy
open PySem PySem.Spec L2
variable [Tb]

section
variable {V_ : Nv} {B : Ba} {m m1 os os' : List Addr} {env : Ev} {σ : L2.St} {H H1 : Hp} {S : Sto}
theorem En.own (en : En B m os H) (s : Stp m m1 H H1) {a : Addr} (fr : Fr H a) (u : ∀ x ∈ os', x ∈ os ∨ x = a) : En B m1 os' H1 :=
  en.to s.ext (fun a h => List.mem_append_left _ h) s.pre fun x h => (List.mem_append.mp h).elim (fun z => (s.new x z).imp (List.mem_append_left _) id) fun z => (u x z).imp (List.mem_append_right _) fun e => by rw [e]; exact fr
theorem pre_add (m : List Addr) (a : Addr) : m <+: m ++ [a] := List.prefix_append m [a]
/-- a new shared cell -/
theorem Rel.add {c : Cell} {a : Addr} (h : Rel V_.K m os env S σ H) (r : CellR V_.K H a c) (hm : a ∉ m) (ho : a ∉ os) : Rel V_.K (m ++ [a]) os env (S ++ [c]) σ H :=
  ⟨h.sl.ext (pre_add m a) (Ext.refl [] H) fun a _ z => absurd z (by simp), h.ce.app r, by
    have : (m ++ [a] ++ os).Perm (a :: (m ++ os)) := by rw [List.append_assoc]; exact List.perm_middle
    exact this.nodup_iff.mpr (List.nodup_cons.mpr ⟨fun z => (List.mem_append.mp z).elim hm ho, h.nd⟩), h.tb⟩
end
section
variable {G : GT} {V_ : Nv} {n lim : Nat}
theorem so_asg {i : Nat} {e : E} : So G V_ n lim (.asg i e) := by
  intro X C a W B g f h
  have h' : ∃ t x pos, a = .Assign [t] x pos ∧ (chkTs C [i] [t] && chkE G C e x) = true := by
    cases a with
    | Assign ts x pos =>
      cases ts with
      | nil => exact absurd (show false = true from h) (by decide)
      | cons t ts => cases ts with
        | nil => exact ⟨t, x, pos, rfl, h⟩
        | cons => exact absurd (show false = true from h) (by decide)
    | _ => exact absurd (show false = true from h) (by decide)
  obtain ⟨t, x, pos, rfl, h'⟩ := h'
  rw [Bool.and_eq_true] at h'
  refine (asg_ps g f h'.1 h'.2).lk.imp fun Dn σ H q => ?_
  obtain ⟨m, os, env, S, en, rel, post⟩ := q
  unfold exS at post
  refine st_e en rel post fun r S1 m1 v H1 s1 rel1 en1 rp1 post1 => ?_
  obtain ⟨sv, e1, post1⟩ := optS_got post1
  have z : Lk (fun v H => Dn.nx (σ.set i (some v)) H) v H1 := lk_slot s1 rel1 rp1 e1 fun H2 s2 rel2 sr => by
    obtain ⟨os', rel3, u⟩ := rel2.put (i := i) sr
    exact post1 m1 os' _ H2 ((en.step s2).sub fun a h => u.subset h) rel3
  rcases z with z | ⟨a, vs, e2, e3, z⟩
  · exact .inl z
  · exact .inr ⟨a, vs, e3, z⟩
theorem so_own {i : Nat} {e : E} : So G V_ n lim (.own i e) := by
  intro X C a W B g f h
  have h' : ∃ t x pos, a = .Assign [t] x pos ∧ (chkTs C [i] [t] && chkE G C e x) = true := by
    cases a with
    | Assign ts x pos =>
      cases ts with
      | nil => exact absurd (show false = true from h) (by decide)
      | cons t ts => cases ts with
        | nil => exact ⟨t, x, pos, rfl, h⟩
        | cons => exact absurd (show false = true from h) (by decide)
    | _ => exact absurd (show false = true from h) (by decide)
  obtain ⟨t, x, pos, rfl, h'⟩ := h'
  rw [Bool.and_eq_true] at h'
  refine (asg_ps g f h'.1 h'.2).imp fun Dn σ H q => ?_
  obtain ⟨m, os, env, S, en, rel, post⟩ := q
  unfold exS at post
  refine st_e en rel post fun r S1 m1 v H1 s1 rel1 en1 rp1 post1 => ?_
  obtain ⟨sv, e1, post1⟩ := optS_got post1
  obtain ⟨c, a, rfl, rfl, fr, hm, ho, cr⟩ := slot_own rp1 e1
  obtain ⟨os', rel2, u⟩ := rel1.own (i := i) cr hm ho
  exact post1 m1 os' _ H1 (en.own s1 fr u) rel2
theorem so_nref {i : Nat} {e : E} : So G V_ n lim (.nref i e) := by
  intro X C a W B g f h
  have h' : ∃ t x pos, a = .Assign [t] x pos ∧ (chkTs C [i] [t] && chkE G C e x) = true := by
    cases a with
    | Assign ts x pos =>
      cases ts with
      | nil => exact absurd (show false = true from h) (by decide)
      | cons t ts => cases ts with
        | nil => exact ⟨t, x, pos, rfl, h⟩
        | cons => exact absurd (show false = true from h) (by decide)
    | _ => exact absurd (show false = true from h) (by decide)
  obtain ⟨t, x, pos, rfl, h'⟩ := h'
  rw [Bool.and_eq_true] at h'
  refine (asg_ps g f h'.1 h'.2).imp fun Dn σ H q => ?_
  obtain ⟨m, os, env, S, en, rel, post⟩ := q
  unfold exS at post
  refine st_e en rel post fun r S1 m1 v H1 s1 rel1 en1 rp1 post1 => ?_
  have fin : ∀ (c : Cell) (a : Addr), v = .ref a → Fr H a → a ∉ m1 → a ∉ os → CellR V_.K H1 a c → OUT V_ W B Dn (.next (env.set i (some (.ref S1.length))) (S1 ++ [c])) → Dn.nx (σ.set i (some v)) H1 := by
    intro c a ev fr hm ho cr post2
    subst ev
    have rel2 := rel1.add cr hm ho
    obtain ⟨os', rel3, u⟩ := rel2.put (i := i) (SlotR.ref (K := V_.K) (H := H1) (k := S1.length) (a := a) (by rw [rel1.ce.len]; simp))
    refine post2 (m1 ++ [a]) os' _ H1 (en.to s1.ext (fun a h => List.mem_append_left _ h) (s1.pre.trans (pre_add m1 a)) fun x hx => ?_) rel3
    rcases List.mem_append.mp hx with hx | hx
    · rcases List.mem_append.mp hx with hx | hx
      · exact (s1.new x hx).imp (List.mem_append_left _) id
      · rw [List.mem_singleton.mp hx]; exact .inr fr
    · exact .inl (List.mem_append_right _ (u.subset hx))
  cases rp1 with
  | nl a b c q => exact fin _ _ rfl a b c q post1
  | nd a b c q => exact fin _ _ rfl a b c q post1
  | nT a b c q => exact fin _ _ rfl a b c q post1
  | obj => exact post1.elim
  | p => exact post1.elim
  | bw => exact post1.elim
  | ref => exact post1.elim
theorem so_unp {is : List Nat} {e : E} : So G V_ n lim (.unp is e) := by
  intro X C a W B g f h
  have h' : ∃ ts k p x pos, a = .Assign [.Tuple ts k p] x pos ∧ (chkTs C is ts && chkE G C e x && swNo C ts x) = true := by
    cases a with
    | Assign ts x pos =>
      cases ts with
      | nil => exact absurd (show false = true from h) (by decide)
      | cons t ts => cases ts with
        | nil => cases t with
          | Tuple l k p => exact ⟨l, k, p, x, pos, rfl, h⟩
          | _ => exact absurd (show false = true from h) (by decide)
        | cons => cases t <;> exact absurd (show false = true from h) (by decide)
    | _ => exact absurd (show false = true from h) (by decide)
  obtain ⟨ts, k, p, x, pos, rfl, h'⟩ := h'
  simp only [Bool.and_eq_true] at h'
  obtain ⟨⟨h1, h2⟩, h3⟩ := h'
  have hp := chkE_plain h2
  refine (ps_asg (pos := pos) (se_all e X C x W g f.tk h2).1 (tg_ok (tg := .tp is) (t := .Tuple ts k p) g h1) (by cases x <;> first | rfl | cases hp) (sw_none g f.kind h3) rfl).imp fun Dn σ H q => ?_
  obtain ⟨m, os, env, S, en, rel, post⟩ := q
  unfold exS at post
  refine st_e en rel post fun r S1 m1 v H1 s1 rel1 en1 rp1 post1 => ?_
  cases rp1 with
  | p q =>
    cases q with
    | tup a b =>
      obtain ⟨env', e1, post1⟩ := optS_got post1
      exact tg_val (tg := .tp is) rel1 (.tup a b) e1 fun σ' os' rel2 u _ => post1 m1 os' _ H1 (en1.sub fun a h => u.subset h) rel2
    | _ => exact post1.elim
  | nl => exact post1.elim
  | nd => exact post1.elim
  | nT => exact post1.elim
  | obj => exact post1.elim
  | bw => exact post1.elim
  | ref => exact post1.elim
end
end Vy
set_option Elab.async false
set_option linter.all false
set_option maxRecDepth 100000
set_option maxHeartbeats 4000000
namespace Vy
open PySem PySem.Spec L2
variable [Tb]

section
variable {G : GT} {V_ : Nv} {n lim : Nat}
theorem slotB_lk {B : Ba} {m m1 os os2 : List Addr} {env env2 : Ev} {σ : L2.St} {H H1 : Hp} {S : Sto} {o : Bool} {r : R} {sv : SV} {v : V} {Q : VK} (s1 : Stp m m1 H H1) (rel : Rel V_.K m1 os env S σ H1) (rp : RpR V_.K m1 os H H1 r v) (e : slotB o r = some sv)
    (h : ∀ H2 as, Stp m m1 H H2 → Rel V_.K m1 os env S σ H2 → SlotR V_.K H2 m1 (some sv) (some v) as → (∀ a ∈ as, as = [a] ∧ Fr H a ∧ a ∉ m1 ∧ a ∉ os) → Q v H2) : Lk Q v H1 := by
  cases o with
  | false => exact lk_slot s1 rel rp e fun H2 s2 rel2 sr => h H2 [] s2 rel2 sr fun a ha => absurd ha (by simp)
  | true =>
    obtain ⟨c, a, rfl, rfl, fr, hm, ho, cr⟩ := slot_own rp e
    exact .inl (h H1 [a] s1 rel (.own cr) fun b hb => by rw [List.mem_singleton.mp hb]; exact ⟨rfl, fr, hm, ho⟩)
/-- any slot is stored to -/
theorem Rel.any {K : PySem.W.Frag} {m os as : List Addr} {env : Ev} {σ : L2.St} {H : Hp} {S : Sto} {i : Nat} {sv : SV} {v : V} (h : Rel K m os env S σ H) (r : SlotR K H m (some sv) (some v) as) (f : ∀ a ∈ as, a ∉ m ∧ a ∉ os) :
    ∃ os', Rel K m os' (env.set i (some sv)) S (σ.set i (some v)) H ∧ ∀ x ∈ os', x ∈ os ∨ x ∈ as := by
  cases r with
  | p q => obtain ⟨os', h1, u⟩ := h.put (i := i) (SlotR.p (m := m) q); exact ⟨os', h1, fun x hx => .inl (u.subset hx)⟩
  | ref q => obtain ⟨os', h1, u⟩ := h.put (i := i) (SlotR.ref (K := K) (H := H) q); exact ⟨os', h1, fun x hx => .inl (u.subset hx)⟩
  | obj q => obtain ⟨os', h1, u⟩ := h.put (i := i) (SlotR.obj (K := K) (H := H) q); exact ⟨os', h1, fun x hx => .inl (u.subset hx)⟩
  | @own c a q =>
    have := f a (by simp)
    let V2 : Nv := ⟨K, fun _ => 0, fun _ => [], ⟨fun _ _ _ => .bad, []⟩⟩
    obtain ⟨os', h1, u⟩ := Rel.own (V_ := V2) (i := i) h q this.1 this.2
    exact ⟨os', h1, fun x hx => (u x hx).imp id fun e => by simp [e]⟩
theorem so_par2 {i j : Nat} {oi oj : Bool} {a b : E} : So G V_ n lim (.par2 i oi j oj a b) := by
  intro X C st W B g f h
  have h' : ∃ x px y py k p u v k2 p2 pos, st = .Assign [.Tuple [.Name x px, .Name y py] k p] (.Tuple [u, v] k2 p2) pos ∧
      (decide (C.N[i]? = some x) && decide (C.N[j]? = some y) && decide (i ≠ j) && locB C x && locB C y && swYes C [.Name x px, .Name y py] [u, v] [x, y] && chkEs G C (.cons a (.cons b .nil)) [u, v]) = true := by
    cases st with
    | Assign ts e pos =>
      have h : (par2Ok C i j ts e && chkEs G C (.cons a (.cons b .nil)) (tupL e)) = true := h
      rw [Bool.and_eq_true] at h
      obtain ⟨x, px, y, py, k, p, u, v, k2, p2, rfl, rfl, h1⟩ := par2Ok_inv h.1
      exact ⟨x, px, y, py, k, p, u, v, k2, p2, pos, rfl, by rw [Bool.and_eq_true]; exact ⟨h1, h.2⟩⟩
    | _ => exact absurd (show false = true from h) (by decide)
  obtain ⟨x, px, y, py, k, p, u, v, k2, p2, pos, rfl, h'⟩ := h'
  simp only [Bool.and_eq_true, decide_eq_true_eq] at h'
  obtain ⟨⟨⟨⟨⟨⟨h1, h2⟩, h3⟩, h4⟩, h5⟩, h6⟩, h7⟩ := h'
  have loc : ∀ z, locB C z = true → X.env.scope.names.lookup z = some .local := fun z hz => by
    rw [g.sc]
    unfold locB at hz
    split at hz
    · assumption
    · cases hz
  simp only [chkEs, Bool.and_eq_true] at h7
  obtain ⟨⟨p1, c1⟩, ⟨p2', c2⟩, _⟩ := h7
  have main := ps_par (pos := pos) (kt := k) (pt := p) (px := px) (py := py) (k2 := k2) (pt2 := p2) g.calm (by rw [g.N]; exact g.nd) (by rw [g.N]; exact h1) (by rw [g.N]; exact h2) h3 (loc x h4) (loc y h5)
    (pa_cons (se_all a X C u W g f.tk c1).1.lk (pa_cons (se_all b X C v W g f.tk c2).1.lk pa_nil (star_of p2')) (by rw [star_of p1])) (sw_some g f.kind h6)
  refine main.imp fun Dn σ H q => ?_
  obtain ⟨m, os, env, S, en, rel, post⟩ := q
  unfold exS at post
  refine st_e en rel post fun r1 S1 m1 v1 H1 s1 rel1 en1 rp1 post1 => ?_
  -- what the second part and the stores make, from a heap in which the first thing may be locked
  have go : ∀ H1', Stp m m1 H H1' → Rel V_.K m1 os env S1 σ H1' → (∀ m2 H2, Stp m1 m2 H1' H2 → ∀ sv, slotB oi r1 = some sv → ∃ as, SlotR V_.K H2 m2 (some sv) (some v1) as ∧ ∀ a ∈ as, as = [a] ∧ ¬ Fr H1' a ∧ Fr H a ∧ a ∉ m2 ∧ a ∉ os) →
      dE V_ W b σ H1' (Lk fun w H2 => ∃ v' w', [v1, w] = [v', w'] ∧ Dn.nx ((σ.set i (some v')).set j (some w')) H2) := by
    intro H1' s1' rel1' hs
    have en1' := en.step s1'
    refine st_e en1' rel1' post1 fun r2 S2 m2 v2 H2 s2 rel2 en2 rp2 post2 => ?_
    obtain ⟨sv1, e1, post2⟩ := optS_got post2
    obtain ⟨sv2, e2, post2⟩ := optS_got post2
    refine slotB_lk (os2 := os) (env2 := env) (B := B) s2 rel2 rp2 e2 fun H3 as2 s3 rel3 sr2 f2 => ⟨_, _, rfl, ?_⟩
    obtain ⟨as1, sr1, f1⟩ := hs m2 H3 s3 sv1 e1
    obtain ⟨os3, rel4, u4⟩ := rel3.any (i := i) sr1 fun a ha => ⟨(f1 a ha).2.2.2.1, (f1 a ha).2.2.2.2⟩
    obtain ⟨os5, rel5, u5⟩ := rel4.any (i := j) sr2 fun a ha => ⟨(f2 a ha).2.2.1, fun z => (u4 a z).elim (f2 a ha).2.2.2 fun z => (f1 a z).2.1 (f2 a ha).2.1⟩
    refine post2 m2 os5 _ H3 (en.to (s1'.trans s3).ext (fun a h => List.mem_append_left _ h) (s1'.trans s3).pre fun z hz => ?_) rel5
    rcases List.mem_append.mp hz with hz | hz
    · exact ((s1'.trans s3).new z hz).imp (List.mem_append_left _) id
    · rcases u5 z hz with hz | hz
      · rcases u4 z hz with hz | hz
        · exact .inl (List.mem_append_right _ hz)
        · exact .inr (f1 z hz).2.2.1
      · exact .inr (s1'.ext.there z (f2 z hz).2.1)
  -- the first thing is locked, or not
  cases hsl : slotB oi r1 with
  | none =>
    refine .inl (go H1 s1 rel1 fun m2 H2 s2 sv e => ?_)
    rw [hsl] at e
    cases e
  | some sv1 =>
    have z : Lk (fun _ H' => dE V_ W b σ H' (Lk fun w H2 => ∃ v' w', [v1, w] = [v', w'] ∧ Dn.nx ((σ.set i (some v')).set j (some w')) H2)) v1 H1 := by
      refine slotB_lk (os2 := os) (env2 := env) (B := B) s1 rel1 rp1 hsl fun H2 as s2 rel2 sr f2 => go H2 s2 rel2 fun m2 H3 s3 sv e => ?_
      rw [hsl] at e
      cases e
      have fr : ∀ a ∈ as, ¬ Fr H2 a := fun a ha => by
        have ea := (f2 a ha).1
        subst ea
        cases sr with
        | own c => exact c.some
      exact ⟨as, sr.ext s3.pre s3.ext (fun a ha => (f2 a ha).2.2.1), fun a ha => ⟨(f2 a ha).1, fr a ha, (f2 a ha).2.1, s3.notin (f2 a ha).2.2.1 (fr a ha), (f2 a ha).2.2.2⟩⟩
    rcases z with z | ⟨a, vs, e1, e2, z⟩
    · exact .inl z
    · exact .inr ⟨a, vs, e1, e2, z⟩
end
end Vy
set_option Elab.async false
set_option linter.all false
set_option maxRecDepth 100000
set_option maxHeartbeats 4000000
namespace Vy
open PySem PySem.Spec L2 PyProof.Rows
variable [Tb]
/-! ### a, b, c = x, y, z -/
theorem ps_par3 {X : Cx} {i j l : Nat} {x y z : Str} {a b c : Expr} {ta : TA} {px py pz pt pos : Pos} {kt k2 pt2} (hc : X.calm = true) (hN : X.N.Nodup) (hi : X.N[i]? = some x) (hj : X.N[j]? = some y) (hl : X.N[l]? = some z) (hij : i ≠ j) (hil : i ≠ l) (hjl : j ≠ l)
    (hx : X.env.scope.names.lookup x = some .local) (hy : X.env.scope.names.lookup y = some .local) (hz : X.env.scope.names.lookup z = some .local) (ha : PA X [a, b, c] ta)
    (hw : swappedStores [.Tuple [.Name x px, .Name y py, .Name z pz] kt pt] (.Tuple [a, b, c] k2 pt2) X.env = pure (some [x, y, z]))
    (hs : swapsWithSole [.Tuple [.Name x px, .Name y py, .Name z pz] kt pt] (.Tuple [a, b, c] k2 pt2) pos.line X.env = pure false := by rfl) :
    PS X (.Assign [.Tuple [.Name x px, .Name y py, .Name z pz] kt pt] (.Tuple [a, b, c] k2 pt2) pos) (fun D σ H => ta σ H fun vs H1 => ∃ u v w, vs = [u, v, w] ∧ D.nx (((σ.set i (some u)).set j (some v)).set l (some w)) H1) := by
  refine ⟨fun pins s σ H D I h => ?_⟩
  rw [exec_Assign_arm]
  refine wpAny_bind (wpAny_standAt ?_)
  rw [hs]
  refine wpAny_bind (wpAny_pure ?_)
  rw [if_neg (by decide)]
  refine wpAny_bind (Tuple_ (thn (ha.run _ pins s σ H _ I h) fun us s1 ⟨vs, H1, I1, r1, q1⟩ => ?_))
  obtain ⟨v, w, t, e1, q1⟩ := q1
  subst e1
  obtain ⟨u1, u2, u3, rfl, rv, rw', rt⟩ : ∃ u1 u2 u3, us = [u1, u2, u3] ∧ RelV v u1 ∧ RelV w u2 ∧ RelV t u3 := by
    cases r1 with
    | cons p q =>
      cases q with
      | cons p' q' =>
        cases q' with
        | cons p'' q'' =>
          cases q''
          exact ⟨_, _, _, rfl, p, p', p''⟩
  refine wpAny_newObj_type ?_ (by show 3 ≤ sizeLine; decide)
  have I2 : L2.Inv X pins σ H1 { s1 with heap := s1.heap.push { cls := .type "tuple", data := .seq [u1, u2, u3].toArray } } := I1.kept (t' := s1.toks) fun b o e => Heap.get?_push_of_some _ e
  rw [hw]
  refine wpAny_bind (wpAny_pure ?_)
  show wpAny (model X.prog X.w) X.A (do rule "assign.swapped-stores"; let items ← unpackItems (.ref s1.heap.objs.size) 3 none; assignInOrder [fun v => bindName X.env z v, fun v => bindName X.env y v, fun v => bindName X.env x v] items.reverse; pure Flow.next) _ _ _
  refine wpAny_bind (wpAny_rule (wpAny_bind (unpackItems_tuple (items := #[u1, u2, u3]) (I.ok.hd hc) (IsTup.new s1.heap _) fun h' hx' => ?_)))
  have I3 := I2.kept (h' := h') (t' := s1.toks) fun b o e => hx' b o (Nat.ne_of_lt (Heap.lt_size e)) e
  show wpAny _ _ (assignInOrder [fun v => bindName X.env z v, fun v => bindName X.env y v, fun v => bindName X.env x v] [u3, u2, u1] >>= fun _ => pure Flow.next) _ _ _
  refine wpAny_bind (assignInOrder_cons (wpAny_bindName (store_ok I3 hN hl (.inl hz) rt (fun s2 I4 => ?_) (.inr hz))))
  refine assignInOrder_cons (wpAny_bindName (store_ok I4 hN hj (.inl hy) rw' (fun s3 I5 => ?_) (.inr hy)))
  refine assignInOrder_cons (wpAny_bindName (store_ok I5 hN hi (.inl hx) rv (fun s4 I6 => assignInOrder_nil (wpAny_pure ?_)) (.inr hx)))
  rw [List.set_comm _ _ (Ne.symm hjl), List.set_comm _ _ (Ne.symm hil), List.set_comm _ _ (Ne.symm hij)] at I6
  exact ⟨_, H1, I6, q1⟩
section
variable {G : GT} {V_ : Nv} {n lim : Nat}
/-- a thing that waits to be stored -/
def Pq (V_ : Nv) (r : R) (o : Bool) (v : V) (m os : List Addr) (H0 Hc : Hp) : Prop := ∀ m2 H2, Stp m m2 Hc H2 → ∀ sv, slotB o r = some sv → ∃ as, SlotR V_.K H2 m2 (some sv) (some v) as ∧ ∀ a ∈ as, as = [a] ∧ ¬ Fr Hc a ∧ Fr H0 a ∧ a ∉ m2 ∧ a ∉ os
theorem pend {B : Ba} {m m1 os : List Addr} {env : Ev} {σ : L2.St} {H H1 : Hp} {S : Sto} {o : Bool} {r : R} {v : V} {Q : VK} (s1 : Stp m m1 H H1) (rel1 : Rel V_.K m1 os env S σ H1) (rp : RpR V_.K m1 os H H1 r v)
    (go : ∀ H2, Stp m m1 H H2 → Rel V_.K m1 os env S σ H2 → Pq V_ r o v m1 os H H2 → Q v H2) : Lk Q v H1 := by
  cases hsl : slotB o r with
  | none =>
    refine .inl (go H1 s1 rel1 fun m2 H2 s2 sv e => ?_)
    rw [hsl] at e
    cases e
  | some sv1 =>
    refine slotB_lk (os2 := os) (env2 := env) (B := B) s1 rel1 rp hsl fun H2 as s2 rel2 sr f2 => go H2 s2 rel2 fun m2 H3 s3 sv e => ?_
    rw [hsl] at e
    cases e
    have fr : ∀ a ∈ as, ¬ Fr H2 a := fun a ha => by
      have ea := (f2 a ha).1
      subst ea
      cases sr with
      | own c => exact c.some
    exact ⟨as, sr.ext s3.pre s3.ext (fun a ha => (f2 a ha).2.2.1), fun a ha => ⟨(f2 a ha).1, fr a ha, (f2 a ha).2.1, s3.notin (f2 a ha).2.2.1 (fr a ha), (f2 a ha).2.2.2⟩⟩
theorem so_par3 {i j l : Nat} {oi oj ol : Bool} {a b c : E} : So G V_ n lim (.par3 i oi j oj l ol a b c) := by
  intro X C st W B g f h
  have h' : ∃ x px y py z pz k p u v w k2 p2 pos, st = .Assign [.Tuple [.Name x px, .Name y py, .Name z pz] k p] (.Tuple [u, v, w] k2 p2) pos ∧
      ((decide (C.N[i]? = some x) && decide (C.N[j]? = some y) && decide (C.N[l]? = some z) && decide (i ≠ j) && decide (i ≠ l) && decide (j ≠ l) && locB C x && locB C y && locB C z && swYes C [.Name x px, .Name y py, .Name z pz] [u, v, w] [x, y, z]) && chkEs G C (.cons a (.cons b (.cons c .nil))) [u, v, w]) = true := by
    cases st with
    | Assign ts e pos =>
      have h : (par3Ok C i j l ts e && chkEs G C (.cons a (.cons b (.cons c .nil))) (tupL e)) = true := h
      rw [Bool.and_eq_true] at h
      obtain ⟨x, px, y, py, z, pz, k, p, u, v, w, k2, p2, rfl, rfl, h1⟩ := par3Ok_inv h.1
      exact ⟨x, px, y, py, z, pz, k, p, u, v, w, k2, p2, pos, rfl, by rw [Bool.and_eq_true]; exact ⟨h1, h.2⟩⟩
    | _ => exact absurd (show false = true from h) (by decide)
  obtain ⟨x, px, y, py, z, pz, k, p, u, v, w, k2, p2, pos, rfl, h'⟩ := h'
  simp only [Bool.and_eq_true, decide_eq_true_eq] at h'
  obtain ⟨⟨⟨⟨⟨⟨⟨⟨⟨⟨h1, h2⟩, h3⟩, h4⟩, h5⟩, h6⟩, h7⟩, h8⟩, h9⟩, h10⟩, h11⟩ := h'
  have loc : ∀ z, locB C z = true → X.env.scope.names.lookup z = some .local := fun z hz => by
    rw [g.sc]
    unfold locB at hz
    split at hz
    · assumption
    · cases hz
  simp only [chkEs, Bool.and_eq_true] at h11
  obtain ⟨⟨p1, c1⟩, ⟨p2', c2⟩, ⟨p3', c3⟩, _⟩ := h11
  have main := ps_par3 (pos := pos) (kt := k) (pt := p) (px := px) (py := py) (pz := pz) (k2 := k2) (pt2 := p2) g.calm (by rw [g.N]; exact g.nd) (by rw [g.N]; exact h1) (by rw [g.N]; exact h2) (by rw [g.N]; exact h3) h4 h5 h6 (loc x h7) (loc y h8) (loc z h9)
    (pa_cons (se_all a X C u W g f.tk c1).1.lk (pa_cons (se_all b X C v W g f.tk c2).1.lk (pa_cons (se_all c X C w W g f.tk c3).1.lk pa_nil (star_of p3')) (star_of p2')) (star_of p1)) (sw_some g f.kind h10)
  refine main.imp fun Dn σ H q => ?_
  obtain ⟨m, os, env, S, en, rel, post⟩ := q
  unfold exS at post
  refine st_e en rel post fun r1 S1 m1 v1 H1 s1 rel1 en1 rp1 post1 => pend (B := B) (o := oi) s1 rel1 rp1 fun H1' s1' rel1' q1 => ?_
  have en1' := en.step s1'
  refine st_e en1' rel1' post1 fun r2 S2 m2 v2 H2 s2 rel2 en2 rp2 post2 => pend (B := B) (o := oj) s2 rel2 rp2 fun H2' s2' rel2' q2 => ?_
  have en2' := en1'.step s2'
  refine st_e en2' rel2' post2 fun r3 S3 m3 v3 H3 s3 rel3 en3 rp3 post3 => ?_
  obtain ⟨sv1, e1, post3⟩ := optS_got post3
  obtain ⟨sv2, e2, post3⟩ := optS_got post3
  obtain ⟨sv3, e3, post3⟩ := optS_got post3
  refine pend (B := B) (o := ol) s3 rel3 rp3 fun H3' s3' rel3' q3 => ⟨_, _, _, rfl, ?_⟩
  obtain ⟨as1, sr1, f1⟩ := q1 m3 H3' (s2'.trans s3') sv1 e1
  obtain ⟨as2, sr2, f2⟩ := q2 m3 H3' s3' sv2 e2
  obtain ⟨as3, sr3, f3⟩ := q3 m3 H3' (Stp.refl m3 H3') sv3 e3
  obtain ⟨os4, rel4, u4⟩ := rel3'.any (i := i) sr1 fun a ha => ⟨(f1 a ha).2.2.2.1, (f1 a ha).2.2.2.2⟩
  obtain ⟨os5, rel5, u5⟩ := rel4.any (i := j) sr2 fun a ha => ⟨(f2 a ha).2.2.2.1, fun z => (u4 a z).elim (f2 a ha).2.2.2.2 fun z => (f1 a z).2.1 (f2 a ha).2.2.1⟩
  obtain ⟨os6, rel6, u6⟩ := rel5.any (i := l) sr3 fun a ha => ⟨(f3 a ha).2.2.2.1, fun z => (u5 a z).elim (fun z => (u4 a z).elim (f3 a ha).2.2.2.2 fun z => (f1 a z).2.1 (s2'.ext.there a (f3 a ha).2.2.1)) fun z => (f2 a z).2.1 (f3 a ha).2.2.1⟩
  have tot := (s1'.trans s2').trans s3'
  refine post3 m3 os6 _ H3' (en.to tot.ext (fun a h => List.mem_append_left _ h) tot.pre fun z hz => ?_) rel6
  rcases List.mem_append.mp hz with hz | hz
  · exact (tot.new z hz).imp (List.mem_append_left _) id
  · rcases u6 z hz with hz | hz
    · rcases u5 z hz with hz | hz
      · rcases u4 z hz with hz | hz
        · exact .inl (List.mem_append_right _ hz)
        · exact .inr (f1 z hz).2.2.1
      · exact .inr (s1'.ext.there z (f2 z hz).2.2.1)
    · exact .inr (s1'.ext.there z (s2'.ext.there z (f3 z hz).2.2.1))
end
end Vy
set_option Elab.async false
set_option linter.all false
set_option maxRecDepth 100000
set_option maxHeartbeats 4000000
namespace Vy
open PySem PySem.Spec L2
variable [Tb]

section
variable {V_ : Nv} {B : Ba} {m m1 os os' : List Addr} {env : Ev} {σ : L2.St} {H H1 : Hp} {S : Sto}
theorem ownL_got {i : Nat} {ds : List D} (h : ownL env i = some ds) : env[i]? = some (some (.own (.lst ds))) := by
  unfold ownL at h
  split at h
  · cases h; assumption
  · cases h
theorem ev_own {F : FT} {i : Nat} {c : Cell} (h : env[i]? = some (some (.own c))) : evE F (.var i) env S = .ok (.bw c) S := by
  unfold evE
  rw [h]
/-- a cell of one's own that is looked at -/
theorem bw_at {i : Nat} {c : Cell} {r : R} {v : V} (rel : Rel V_.K m1 os env S σ H1) (h : env[i]? = some (some (.own c))) : ∃ a, σ[i]? = some (some (.ref a)) ∧ CellR V_.K H1 a c ∧ a ∈ os ∧ a ∉ m1 := by
  obtain ⟨a, e1, r, ha, hm, _⟩ := rel.wr (c' := c) h
  exact ⟨a, e1, r, ha, hm⟩
theorem En.wr (en : En B m os H) {a : Addr} (ha : a ∈ os) (x : Ext [a] H H1) : En B m os H1 :=
  en.to x (fun b hb => by rw [List.mem_singleton.mp hb]; exact List.mem_append_right _ ha) (List.prefix_refl m) fun b hb => .inl hb
end
section
variable {G : GT} {V_ : Nv} {n lim : Nat} {C : Cxs} {X : Cx} {W : WX}
theorem var_pe {i : Nat} {x : Str} {pos : Pos} (g : Gd G V_ n C X) (h : chkN C i x = true) : PE X (.Name x pos) (tVar i) := by
  simp only [chkN, Bool.and_eq_true, Bool.not_eq_true', decide_eq_true_eq] at h
  obtain ⟨⟨⟨h1, h2⟩, h3⟩, h4⟩ := h
  exact pe_var (by rw [g.N]; exact h1) (by rw [g.sc]; exact vis_of h2) h3 h4
theorem so_app {i : Nat} {e : E} : So G V_ n lim (.app i e) := by
  intro X C a W B g f h
  have h' : ∃ x p nm ap y cp pos, a = .Expr (.Call (.Attribute (.Name x p) nm ap) [y] [] cp) pos ∧ (decide (nm = "append") && chkN C i x && chkE G C e y && ap.endLine == cp.line) = true := by
    cases a with
    | Expr z pos =>
      cases z with
      | Call fn l kws cp =>
        cases fn with
        | Attribute o nm ap =>
          cases o with
          | Name x p =>
            cases l with
            | nil => exact absurd (show false = true from h) (by decide)
            | cons y l =>
              cases l with
              | cons => exact absurd (show false = true from h) (by decide)
              | nil =>
                cases kws with
                | cons => exact absurd (show false = true from h) (by decide)
                | nil => exact ⟨x, p, nm, ap, y, cp, pos, rfl, h⟩
          | _ => exact absurd (show false = true from h) (by decide)
        | _ => exact absurd (show false = true from h) (by decide)
      | _ => exact absurd (show false = true from h) (by decide)
    | _ => exact absurd (show false = true from h) (by decide)
  obtain ⟨x, p, nm, ap, y, cp, pos, rfl, h'⟩ := h'
  simp only [Bool.and_eq_true, decide_eq_true_eq] at h'
  obtain ⟨⟨⟨rfl, h2⟩, h3⟩, h4⟩ := h'
  have hy := chkE_plain h3
  have main := ps_expr (pos := pos) (pe_bm (apos := ap) (cpos := cp) PySem.F.plainAttrs_list PySem.F.slot_list_append PySem.F.type_list_append mt_append (var_pe (pos := p) g h2) (pa_cons (se_all e X C y W g f.tk h3).1.lk pa_nil (star_of hy)) rfl (by rw [star_of hy]; rfl) h4 (star_of hy) rfl) rfl
  refine main.imp fun Dn σ H q => ?_
  obtain ⟨m, os, env, S, en, rel, post⟩ := q
  unfold exS at post
  obtain ⟨ds, e1, post⟩ := optS_got post
  have hown := ownL_got e1
  obtain ⟨a, ea, cr, ha, hm, _⟩ := rel.wr (c' := .lst ds) hown
  refine ⟨_, ea, ?_⟩
  refine ⟨?_, st_e en rel post fun r S1 m1 v H1 s1 rel1 en1 rp1 post1 => ?_⟩
  · obtain ⟨vs, c1, _⟩ := cr
    exact .inl ⟨rfl, vs, SqL.of c1⟩
  · obtain ⟨d, e2, post1⟩ := optS_got post1
    refine lk_of s1 rel1 rp1 e2 fun H2 s2 rel2 rp2 => ?_
    obtain ⟨a', ea', cr', ha', hm', k⟩ := rel2.wr (c' := .lst (ds ++ [d])) hown
    rw [ea] at ea'
    cases ea'
    obtain ⟨vs, c1, c2⟩ := cr'
    by_cases hz : ds.length < sizeLine
    · rw [if_pos hz] at post1
      have x : Ext [a] H2 (upd H2 a (.lst (vs ++ [v]))) := Ext.put c1 trivial (List.mem_singleton.mpr rfl)
      exact ⟨a, vs, v, rfl, rfl, c1, by rw [← c2.len]; exact hz, post1 m1 os _ _ ((en.step s2).wr ha' x) (k _ x ⟨_, upd_same, (c2.app (.cons rp2 .nil)).ext x⟩)⟩
    · rw [if_neg hz] at post1
      exact post1.elim
theorem pset_or {X : Cx} {r r' : TSet} (a : PSet X r) (b : PSet X r') : PSet X (fun o i v H Q => r o i v H Q ∨ r' o i v H Q) :=
  fun pins s σ H o i v ov iv u Q I ro ri rv h => h.elim (a pins s σ H o i v ov iv u Q I ro ri rv) (b pins s σ H o i v ov iv u Q I ro ri rv)
def rSet : TSet := fun o i v H Q => rSetL o i v H Q ∨ rSetD o i v H Q
/-- a cell is written -/
theorem put_val {K : PySem.W.Frag} {H : Hp} {c c' : Cell} {a : Addr} {k d : D} {w v : V} {Q : Hp → Prop} (cr : CellR K H a c) (rk : Rp K H k w) (rd : Rp K H d v) (e : putC c k d = some c')
    (hq : ∀ H', Ext [a] H H' → CellR K H' a c' → Q H') : rSet (.ref a) w v H Q := by
  cases c with
  | lst ds =>
    obtain ⟨vs, c1, c2⟩ := cr
    cases k <;> simp only [putC] at e <;> try (cases e; done)
    rename_i ki
    cases rk
    cases hj : ixN ds.length ki with
    | none => rw [hj] at e; cases e
    | some j =>
      rw [hj] at e
      cases e
      have x : Ext [a] H (upd H a (.lst (vs.set j v))) := Ext.put c1 trivial (List.mem_singleton.mpr rfl)
      exact .inl ⟨a, vs, ki, j, rfl, rfl, c1, by rw [← c2.len]; exact hj, hq _ x ⟨_, upd_same, (RpA.set rd j c2).ext x⟩⟩
  | dct kvs =>
    obtain ⟨ws, c1, c2⟩ := cr
    simp only [putC] at e
    by_cases hz : kvs.length < sizeLine
    · rw [if_pos hz] at e
      cases hk : keyD k with
      | none => rw [hk] at e; cases e
      | some kk =>
        rw [hk] at e
        cases e
        have x : Ext [a] H (upd H a (.dK (putK ws kk v))) := Ext.put c1 trivial (List.mem_singleton.mpr rfl)
        rw [keyD_kV rk hk]
        exact .inr ⟨a, _, rfl, DPut.k c1 (by rw [← Paired.length c2]; exact hz), hq _ x ⟨_, upd_same, (c2.put kk rd).ext x⟩⟩
    · rw [if_neg hz] at e
      cases e
  | dcT kvs =>
    obtain ⟨ws, c1, c2⟩ := cr
    simp only [putC] at e
    by_cases hz : kvs.length < sizeLine
    · rw [if_pos hz] at e
      cases hk : keyT k with
      | none => rw [hk] at e; cases e
      | some kk =>
        rw [hk] at e
        cases e
        have x : Ext [a] H (upd H a (.dT (putK ws kk v))) := Ext.put c1 trivial (List.mem_singleton.mpr rfl)
        obtain ⟨b, rfl, hb⟩ := keyT_at rk hk
        exact .inr ⟨a, _, rfl, DPut.t c1 hb (by rw [← Paired.length c2]; exact hz), hq _ x ⟨_, upd_same, (c2.put kk rd).ext x⟩⟩
    · rw [if_neg hz] at e
      cases e
end
end Vy
set_option Elab.async false
set_option linter.all false
set_option maxRecDepth 100000
set_option maxHeartbeats 4000000
namespace Vy
open PySem PySem.Spec L2
variable [Tb]

section
variable {V_ : Nv} {B : Ba} {m m1 os os' : List Addr} {env : Ev} {σ : L2.St} {H H1 : Hp} {S : Sto}
/-- a shared cell is written -/
theorem Rel.wrS {K : PySem.W.Frag} {k : Nat} {c c' : Cell} (h : Rel K m os env S σ H) (e : S[k]? = some c) : ∃ a, m[k]? = some a ∧ a ∈ m ∧ CellR K H a c ∧ ∀ H', Ext [a] H H' → CellR K H' a c' → Rel K m os env (S.set k c') σ H' := by
  obtain ⟨a, e1, r⟩ := h.ce.get e
  have ha := List.mem_of_getElem? e1
  refine ⟨a, e1, ha, r, fun H' x r' => ⟨h.sl.ext (List.prefix_refl m) x fun b hb z => ?_, h.ce.put (List.nodup_append.mp h.nd).1 e1 x r', h.nd, x.tab h.tb⟩⟩
  rw [List.mem_singleton.mp z] at hb
  exact (List.nodup_append.mp h.nd).2.2 a ha a hb rfl
theorem En.wrS (en : En B m os H) {a : Addr} (ha : a ∈ m) (x : Ext [a] H H1) : En B m os H1 :=
  en.to x (fun b hb => by rw [List.mem_singleton.mp hb]; exact List.mem_append_left _ ha) (List.prefix_refl m) fun b hb => .inl hb
end
section
variable {G : GT} {V_ : Nv} {n lim : Nat} {C : Cxs} {X : Cx} {W : WX}
theorem refL_got {S : Sto} {k : Nat} {ds : List D} (h : refL S k = some ds) : S[k]? = some (.lst ds) := by
  unfold refL at h
  split at h
  · cases h; assumption
  · cases h
theorem so_appr {i : Nat} {e : E} : So G V_ n lim (.appr i e) := by
  intro X C a W B g f h
  have h' : ∃ x p nm ap y cp pos, a = .Expr (.Call (.Attribute (.Name x p) nm ap) [y] [] cp) pos ∧ (decide (nm = "append") && chkN C i x && chkE G C e y && ap.endLine == cp.line) = true := by
    cases a with
    | Expr z pos =>
      cases z with
      | Call fn l kws cp =>
        cases fn with
        | Attribute o nm ap =>
          cases o with
          | Name x p =>
            cases l with
            | nil => exact absurd (show false = true from h) (by decide)
            | cons y l =>
              cases l with
              | cons => exact absurd (show false = true from h) (by decide)
              | nil =>
                cases kws with
                | cons => exact absurd (show false = true from h) (by decide)
                | nil => exact ⟨x, p, nm, ap, y, cp, pos, rfl, h⟩
          | _ => exact absurd (show false = true from h) (by decide)
        | _ => exact absurd (show false = true from h) (by decide)
      | _ => exact absurd (show false = true from h) (by decide)
    | _ => exact absurd (show false = true from h) (by decide)
  obtain ⟨x, p, nm, ap, y, cp, pos, rfl, h'⟩ := h'
  simp only [Bool.and_eq_true, decide_eq_true_eq] at h'
  obtain ⟨⟨⟨rfl, h2⟩, h3⟩, h4⟩ := h'
  have hy := chkE_plain h3
  have main := ps_expr (pos := pos) (pe_bm (apos := ap) (cpos := cp) PySem.F.plainAttrs_list PySem.F.slot_list_append PySem.F.type_list_append mt_append (var_pe (pos := p) g h2) (pa_cons (se_all e X C y W g f.tk h3).1.lk pa_nil (star_of hy)) rfl (by rw [star_of hy]; rfl) h4 (star_of hy) rfl) rfl
  refine main.imp fun Dn σ H q => ?_
  obtain ⟨m, os, env, S, en, rel, post⟩ := q
  unfold exS at post
  cases hs : env[i]? with
  | none => rw [hs] at post; exact post.elim
  | some sv =>
    rw [hs] at post
    cases sv with
    | none => exact post.elim
    | some sv =>
      cases sv with
      | p => exact post.elim
      | own => exact post.elim
      | obj => exact post.elim
      | ref n =>
        obtain ⟨ds0, e1, post⟩ := optS_got post
        have hS := refL_got e1
        obtain ⟨a, ea, ha, cr, _⟩ := rel.wrS (c' := .lst ds0) hS
        obtain ⟨o, as, o1, o2, h5, h6, _, _⟩ := rel.sl.at_ hs
        cases h6 with
        | @ref _ a' q =>
          rw [q] at ea
          cases ea
          refine ⟨_, h5, ?_⟩
          refine ⟨?_, st_e en rel post fun r S1 m1 v H1 s1 rel1 en1 rp1 post1 => ?_⟩
          · obtain ⟨vs, c1, _⟩ := cr
            exact .inl ⟨rfl, vs, SqL.of c1⟩
          · obtain ⟨d, e2, post1⟩ := optS_got post1
            refine lk_of s1 rel1 rp1 e2 fun H2 s2 rel2 rp2 => ?_
            obtain ⟨ds, e3, post1⟩ := optS_got post1
            obtain ⟨a', ea', ha', cr', k⟩ := rel2.wrS (c' := .lst (ds ++ [d])) (refL_got e3)
            rw [pre_get s2.pre q] at ea'
            cases ea'
            obtain ⟨vs, c1, c2⟩ := cr'
            by_cases hz : ds.length < sizeLine
            · rw [if_pos hz] at post1
              have x : Ext [a] H2 (upd H2 a (.lst (vs ++ [v]))) := Ext.put c1 trivial (List.mem_singleton.mpr rfl)
              exact ⟨a, vs, v, rfl, rfl, c1, by rw [← c2.len]; exact hz, post1 m1 os _ _ ((en.step s2).wrS ha' x) (k _ x ⟨_, upd_same, (c2.app (.cons rp2 .nil)).ext x⟩)⟩
            · rw [if_neg hz] at post1
              exact post1.elim
theorem so_seto {i : Nat} {ix e : E} : So G V_ n lim (.seto i ix e) := by
  intro X C a W B g f h
  have h' : ∃ x p z sp y pos, a = .Assign [.Subscript (.Name x p) z sp] y pos ∧ (chkN C i x && chkE G C ix z && chkE G C e y) = true := by
    cases a with
    | Assign ts y pos =>
      cases ts with
      | nil => exact absurd (show false = true from h) (by decide)
      | cons t ts =>
        cases ts with
        | cons =>
          cases t with
          | Subscript o z sp => cases o <;> exact absurd (show false = true from h) (by decide)
          | _ => exact absurd (show false = true from h) (by decide)
        | nil =>
          cases t with
          | Subscript o z sp =>
            cases o with
            | Name x p => exact ⟨x, p, z, sp, y, pos, rfl, h⟩
            | _ => exact absurd (show false = true from h) (by decide)
          | _ => exact absurd (show false = true from h) (by decide)
    | _ => exact absurd (show false = true from h) (by decide)
  obtain ⟨x, p, z, sp, y, pos, rfl, h'⟩ := h'
  simp only [Bool.and_eq_true] at h'
  obtain ⟨⟨h1, h2⟩, h3⟩ := h'
  have hy := chkE_plain h3
  have hu : X.A.units + 1 < cLine := by have := g.room.units; omega
  have main := ps_asg (pos := pos) (se_all e X C y W g f.tk h3).1.lk (pg_sub (pos := sp) (var_pe (pos := p) g h1) (se_all ix X C z W g f.tk h2).1 (pset_or set_list (set_dict hu)) (by intro _; have hz := chkE_plain h2; cases z <;> first | rfl | cases hz)) (by cases y <;> first | rfl | cases hy) rfl rfl
  refine main.imp fun Dn σ H q => ?_
  obtain ⟨m, os, env, S, en, rel, post⟩ := q
  unfold exS at post
  refine st_e en rel post fun r S1 m1 v H1 s1 rel1 en1 rp1 post1 => ?_
  obtain ⟨d, e1, post1⟩ := optS_got post1
  refine lk_of s1 rel1 rp1 e1 fun H2 s2 rel2 rp2 => ?_
  have en2 := en.step s2
  cases hs : env[i]? with
  | none => rw [hs] at post1; exact post1.elim
  | some sv =>
    rw [hs] at post1
    cases sv with
    | none => exact post1.elim
    | some sv =>
      cases sv with
      | p => exact post1.elim
      | ref => exact post1.elim
      | obj => exact post1.elim
      | own c =>
        obtain ⟨a, ea, _, _, _, _⟩ := rel2.wr (c' := c) hs
        refine ⟨_, ea, st_e en2 rel2 post1 fun q S3 m3 w H3 s3 rel3 en3 rp3 post3 => ?_⟩
        cases rp3 with
        | @p k _ rk =>
          obtain ⟨c', e2, post3⟩ := optS_got post3
          obtain ⟨a', ea', cr', ha', hm', k⟩ := rel3.wr (c' := c') hs
          rw [ea] at ea'
          cases ea'
          exact put_val cr' rk (rp2.ext s3.ext) e2 fun H' x r' => post3 m3 os _ H' (en3.wr ha' x) (k _ x r')
        | nl => exact post3.elim
        | nd => exact post3.elim
        | nT => exact post3.elim
        | obj => exact post3.elim
        | bw => exact post3.elim
        | ref => exact post3.elim
theorem so_setr {o ix e : E} : So G V_ n lim (.setr o ix e) := by
  intro X C a W B g f h
  have h' : ∃ x z sp y pos, a = .Assign [.Subscript x z sp] y pos ∧ (chkE G C o x && chkE G C ix z && chkE G C e y) = true := by
    cases a with
    | Assign ts y pos =>
      cases ts with
      | nil => exact absurd (show false = true from h) (by decide)
      | cons t ts =>
        cases ts with
        | cons =>
          cases t with
          | Subscript o z sp => cases o <;> exact absurd (show false = true from h) (by decide)
          | _ => exact absurd (show false = true from h) (by decide)
        | nil =>
          cases t with
          | Subscript o z sp => exact ⟨o, z, sp, y, pos, rfl, by cases o <;> exact h⟩
          | _ => exact absurd (show false = true from h) (by decide)
    | _ => exact absurd (show false = true from h) (by decide)
  obtain ⟨x, z, sp, y, pos, rfl, h'⟩ := h'
  simp only [Bool.and_eq_true] at h'
  obtain ⟨⟨h1, h2⟩, h3⟩ := h'
  have hy := chkE_plain h3
  have hu : X.A.units + 1 < cLine := by have := g.room.units; omega
  have main := ps_asg (pos := pos) (se_all e X C y W g f.tk h3).1.lk (pg_sub (pos := sp) (se_all o X C x W g f.tk h1).1 (se_all ix X C z W g f.tk h2).1 (pset_or set_list (set_dict hu)) (by intro _; have hz := chkE_plain h2; cases z <;> first | rfl | cases hz)) (by cases y <;> first | rfl | cases hy) rfl rfl
  refine main.imp fun Dn σ H q => ?_
  obtain ⟨m, os, env, S, en, rel, post⟩ := q
  unfold exS at post
  refine st_e en rel post fun r S1 m1 v H1 s1 rel1 en1 rp1 post1 => ?_
  obtain ⟨d, e1, post1⟩ := optS_got post1
  refine lk_of s1 rel1 rp1 e1 fun H2 s2 rel2 rp2 => ?_
  have en2 := en.step s2
  refine st_e en2 rel2 post1 fun r3 S3 m3 ov H3 s3 rel3 en3 rp3 post3 => ?_
  refine st_e en3 rel3 post3 fun q S4 m4 w H4 s4 rel4 en4 rp4 post4 => ?_
  cases rp3 with
  | @ref k a ek =>
    cases rp4 with
    | @p kd _ rk =>
      obtain ⟨c, ec, post4⟩ := optS_got post4
      obtain ⟨c', e2, post4⟩ := optS_got post4
      obtain ⟨a', ea', ha', cr', kk⟩ := rel4.wrS (c' := c') ec
      rw [pre_get s4.pre ek] at ea'
      cases ea'
      exact put_val cr' rk ((rp2.ext s3.ext).ext s4.ext) e2 fun H' x r' => post4 m4 os _ H' (en4.wrS ha' x) (kk _ x r')
    | nl => exact post4.elim
    | nd => exact post4.elim
    | nT => exact post4.elim
    | obj => exact post4.elim
    | bw => exact post4.elim
    | ref => exact post4.elim
  | p => cases q <;> exact post4.elim
  | nl => cases q <;> exact post4.elim
  | nd => cases q <;> exact post4.elim
  | nT => cases q <;> exact post4.elim
  | obj => cases q <;> exact post4.elim
  | bw => cases q <;> exact post4.elim
end
end Vy
set_option Elab.async false
set_option linter.all false
set_option maxRecDepth 100000
set_option maxHeartbeats 4000000
namespace Vy
open PySem PySem.Spec L2
variable [Tb]
section
variable {G : GT} {V_ : Nv} {n lim : Nat} {C : Cxs} {X : Cx} {W : WX}
theorem so_appx {b e : E} : So G V_ n lim (.appx b e) := by
  intro X C a W B g f h
  have h' : ∃ x nm ap y cp pos, a = .Expr (.Call (.Attribute x nm ap) [y] [] cp) pos ∧ (decide (nm = "append") && plnO x && chkE G C b x && chkE G C e y && ap.endLine == cp.line) = true := by
    cases a with
    | Expr z pos =>
      cases z with
      | Call fn l kws cp =>
        cases fn with
        | Attribute o nm ap =>
          cases l with
          | nil => cases o <;> exact absurd (show false = true from h) (by decide)
          | cons y l =>
            cases l with
            | cons => cases o <;> exact absurd (show false = true from h) (by decide)
            | nil =>
              cases kws with
              | cons => cases o <;> exact absurd (show false = true from h) (by decide)
              | nil => exact ⟨o, nm, ap, y, cp, pos, rfl, by cases o <;> exact h⟩
        | _ => exact absurd (show false = true from h) (by decide)
      | _ => exact absurd (show false = true from h) (by decide)
    | _ => exact absurd (show false = true from h) (by decide)
  obtain ⟨x, nm, ap, y, cp, pos, rfl, h'⟩ := h'
  simp only [Bool.and_eq_true, decide_eq_true_eq] at h'
  obtain ⟨⟨⟨⟨rfl, h2⟩, h5⟩, h3⟩, h4⟩ := h'
  have hy := chkE_plain h3
  have main := ps_expr (pos := pos) (pe_bm (apos := ap) (cpos := cp) PySem.F.plainAttrs_list PySem.F.slot_list_append PySem.F.type_list_append mt_append (se_all b X C x W g f.tk h5).1 (pa_cons (se_all e X C y W g f.tk h3).1.lk pa_nil (star_of hy)) (plnO_base h2) (by rw [star_of hy]; rfl) h4 (star_of hy) rfl) rfl
  refine main.imp fun Dn σ H q => ?_
  obtain ⟨m, os, env, S, en, rel, post⟩ := q
  unfold exS at post
  refine st_e en rel post fun r0 S0 m0 v0 H0 s0 rel0 en0 rp0 post0 => ?_
  cases rp0 with
  | @ref k a q =>
    simp only at post0
    obtain ⟨ds0, e1, post0⟩ := optS_got post0
    have hS := refL_got e1
    obtain ⟨a1, ea, ha, cr, _⟩ := rel0.wrS (c' := .lst ds0) hS
    rw [q] at ea
    cases ea
    refine ⟨?_, st_e en0 rel0 post0 fun r S1 m1 v H1 s1 rel1 en1 rp1 post1 => ?_⟩
    · obtain ⟨vs, c1, _⟩ := cr
      exact .inl ⟨rfl, vs, SqL.of c1⟩
    · obtain ⟨d, e2, post1⟩ := optS_got post1
      refine lk_of s1 rel1 rp1 e2 fun H2 s2 rel2 rp2 => ?_
      obtain ⟨ds, e3, post1⟩ := optS_got post1
      obtain ⟨a', ea', ha', cr', k⟩ := rel2.wrS (c' := .lst (ds ++ [d])) (refL_got e3)
      rw [pre_get s2.pre q] at ea'
      cases ea'
      obtain ⟨vs, c1, c2⟩ := cr'
      by_cases hz : ds.length < sizeLine
      · rw [if_pos hz] at post1
        have x : Ext [a] H2 (upd H2 a (.lst (vs ++ [v]))) := Ext.put c1 trivial (List.mem_singleton.mpr rfl)
        exact ⟨a, vs, v, rfl, rfl, c1, by rw [← c2.len]; exact hz, post1 m1 os _ _ ((en0.step s2).wrS ha' x) (k _ x ⟨_, upd_same, (c2.app (.cons rp2 .nil)).ext x⟩)⟩
      · rw [if_neg hz] at post1
        exact post1.elim
  | _ => exact post0.elim
end
end Vy
set_option Elab.async false
set_option linter.all false
set_option maxRecDepth 100000
set_option maxHeartbeats 4000000
namespace Vy
open PySem PySem.Spec L2
variable [Tb]
/-! ### targets of a tuple's parts -/
def seqO (o : Out) (k : Ev → Sto → Out) : Out := match o with
  | .next env S => k env S
  | o => o
theorem seq_st {α : Type} (env : Ev) (x : Res α) (f : α → Sto → Out) (k : Ev → Sto → Out) : seqO (x.st env f) k = x.st env fun a S => seqO (f a S) k := by cases x <;> rfl
theorem seq_opt {α : Type} (x : Option α) (f : α → Out) (k : Ev → Sto → Out) : seqO (optS x f) k = optS x fun a => seqO (f a) k := by cases x <;> rfl
theorem setTs_cons (F : FT) (t : Pt) (ts : List Pt) (d : D) (ds : List D) (env : Ev) (S : Sto) : setTs F (t :: ts) (d :: ds) env S = seqO (setT F t d env S) (setTs F ts ds) := by
  unfold setTs seqO
  cases setT F t d env S <;> rfl
section
variable {G : GT} {V_ : Nv} {n lim : Nat} {C : Cxs} {X : Cx} {W : WX}
/-- what a target's reading asks -/
def PtRd (V_ : Nv) (W : WX) (t : Pt) (tg : TG) : Prop := ∀ (B : Ba) (m os : List Addr) (env : Ev) (S : Sto) (σ : L2.St) (H : Hp) (d : D) (v : V) (Dn : Ends) (k : Ev → Sto → Out) (Q : L2.St → Hp → Prop), En B m os H → Rel V_.K m os env S σ H → Rp V_.K H d v → OUT V_ W B Dn (seqO (setT V_.F t d env S) k) →
  (∀ q m' os' env' S' σ' H', Ext q H H' → En B m' os' H' → Rel V_.K m' os' env' S' σ' H' → OUT V_ W B Dn (k env' S') → Q σ' H') → tg v σ H Q
theorem out_bad {B : Ba} {Dn : Ends} {P : Prop} (h : OUT V_ W B Dn .bad) : P := h.elim
theorem pt_sub (g : Gd G V_ n C X) (f : Fd G V_ W X) {x z : Expr} {pos : Pos} {tx : TE} {ix : E} (px : PE X x tx) (h2 : chkE G C ix z = true) :
    PG X (.Subscript x z pos) (gSub tx (dE V_ W ix) rSet) := by
  have hu : X.A.units + 1 < cLine := by have := g.room.units; omega
  exact pg_sub (pos := pos) px (se_all ix X C z W g f.tk h2).1 (pset_or set_list (set_dict hu)) (by intro _; have hz := chkE_plain h2; cases z <;> first | rfl | cases hz)
def plTg : Expr → Bool
  | .Name .. => true
  | .Tuple .. => true
  | .Subscript .. => true
  | _ => false
theorem each_pl {x : Expr} {l : List Expr} {env : Env} (h : plTg x = true) : assignEach (x :: l) env = (false, assign x env) :: assignEach l env := by
  cases x <;> first | rfl | cases h
theorem pt_ok {t : Pt} {x : Expr} (g : Gd G V_ n C X) (f : Fd G V_ W X) (h : chkPt G C t x = true) : ∃ tg, PG X x tg ∧ plTg x = true ∧ PtRd V_ W t tg := by
  cases t with
  | nm i =>
    cases x <;> try (simp [chkPt] at h; done)
    rename_i nm p
    have h : chkTs C [i] [.Name nm p] = true := h
    refine ⟨_, tg_ok (tg := .nm i) (t := .Name nm p) g h, rfl, fun B m os env S σ H d v Dn k Q en rel r post hq => ?_⟩
    exact tg_val (tg := .nm i) rel r rfl fun σ' os' rel2 u _ => hq [] m os' _ S σ' H (Ext.refl _ H) (en.sub fun a h => u.subset h) rel2 post
  | tp is =>
    cases x <;> try (simp [chkPt] at h; done)
    rename_i ts k p
    have h : chkTs C is ts = true := h
    refine ⟨_, tg_ok (tg := .tp is) (t := .Tuple ts k p) g h, rfl, fun B m os env S σ H d v Dn k Q en rel r post hq => ?_⟩
    cases d <;> try (exact out_bad post)
    rename_i ds
    rw [show setT V_.F (.tp is) (.tuple ds) env S = optS (setAll is ds env) fun env => .next env S from rfl, seq_opt] at post
    obtain ⟨env', e1, post1⟩ := optS_got post
    exact tg_val (tg := .tp is) rel r e1 fun σ' os' rel2 u _ => hq [] m os' _ S σ' H (Ext.refl _ H) (en.sub fun a h => u.subset h) rel2 post1
  | so i ix =>
    have h' : ∃ nm p z sp, x = .Subscript (.Name nm p) z sp ∧ (chkN C i nm && chkE G C ix z) = true := by
      cases x <;> try (simp [chkPt] at h; done)
      rename_i o z sp
      cases o <;> try (simp [chkPt] at h; done)
      exact ⟨_, _, _, _, rfl, h⟩
    obtain ⟨nm, p, z, sp, rfl, h'⟩ := h'
    rw [Bool.and_eq_true] at h'
    refine ⟨_, pt_sub g f (var_pe (pos := p) g h'.1) h'.2, rfl, fun B m os env S σ H d v Dn k Q en rel r post hq => ?_⟩
    simp only [setT] at post
    cases hs : env[i]? with
    | none => rw [hs] at post; exact out_bad post
    | some sv =>
      rw [hs] at post
      cases sv with
      | none => exact out_bad post
      | some sv =>
        cases sv with
        | p => exact out_bad post
        | ref => exact out_bad post
        | obj => exact out_bad post
        | own c =>
          obtain ⟨a, ea, _, _, _, _⟩ := rel.wr (c' := c) hs
          simp only [seq_st] at post
          refine ⟨_, ea, st_e en rel post fun q S3 m3 w H3 s3 rel3 en3 rp3 post3 => ?_⟩
          cases rp3 with
          | @p kd _ rk =>
            rw [seq_opt] at post3
            obtain ⟨c', e2, post3⟩ := optS_got post3
            obtain ⟨a', ea', cr', ha', hm', kk⟩ := rel3.wr (c' := c') hs
            rw [ea] at ea'
            cases ea'
            exact put_val cr' rk (r.ext s3.ext) e2 fun H' x r' => hq (m ++ [a]) m3 os _ S3 _ H' ((s3.ext.mono (fun y hy => List.mem_append_left _ hy)).trans (x.mono (fun y hy => List.mem_append_right m hy)) (fun y hy => .inl hy)) (en3.wr ha' x) (kk _ x r') post3
          | nl => exact out_bad post3
          | nd => exact out_bad post3
          | nT => exact out_bad post3
          | obj => exact out_bad post3
          | bw => exact out_bad post3
          | ref => exact out_bad post3
  | sr a ix =>
    have h' : ∃ y z sp, x = .Subscript y z sp ∧ (chkE G C a y && chkE G C ix z) = true := by
      cases x <;> try (simp [chkPt] at h; done)
      exact ⟨_, _, _, rfl, h⟩
    obtain ⟨y, z, sp, rfl, h'⟩ := h'
    rw [Bool.and_eq_true] at h'
    refine ⟨_, pt_sub g f (se_all a X C y W g f.tk h'.1).1 h'.2, rfl, fun B m os env S σ H d v Dn k Q en rel r post hq => ?_⟩
    rw [show setT V_.F (.sr a ix) d env S = (evE V_.F a env S).st env fun o S => (evE V_.F ix env S).st env fun q S => match o, q with
      | .ref n, .p k => optS (S[n]?) fun c => optS (putC c k d) fun c => .next env (S.set n c)
      | _, _ => .bad from rfl] at post
    simp only [seq_st] at post
    refine st_e en rel post fun r3 S3 m3 ov H3 s3 rel3 en3 rp3 post3 => ?_
    refine st_e en3 rel3 post3 fun q S4 m4 w H4 s4 rel4 en4 rp4 post4 => ?_
    cases rp3 with
    | @ref kn p ek =>
      cases rp4 with
      | @p kd _ rk =>
        simp only [seq_opt] at post4
        obtain ⟨c, ec, post4⟩ := optS_got post4
        obtain ⟨c', e2, post4⟩ := optS_got post4
        obtain ⟨a', ea', ha', cr', kk⟩ := rel4.wrS (c' := c') ec
        rw [pre_get s4.pre ek] at ea'
        cases ea'
        refine put_val cr' rk ((r.ext s3.ext).ext s4.ext) e2 fun H' x r' => hq ((m ++ m3) ++ [p]) m4 os _ _ _ H' ?_ (en4.wrS ha' x) (kk _ x r') post4
        refine ((s3.ext.mono (m' := (m ++ m3) ++ [p]) (fun y hy => ?_)).trans (s4.ext.mono (m' := (m ++ m3) ++ [p]) fun y hy => ?_) (fun y hy => .inl hy)).trans (x.mono (m' := (m ++ m3) ++ [p]) fun y hy => ?_) (fun y hy => .inl hy)
        · exact List.mem_append_left _ (List.mem_append_left _ hy)
        · exact List.mem_append_left _ (List.mem_append_right _ hy)
        · exact List.mem_append_right _ hy
      | nl => exact out_bad post4
      | nd => exact out_bad post4
      | nT => exact out_bad post4
      | obj => exact out_bad post4
      | bw => exact out_bad post4
      | ref => exact out_bad post4
    | p => cases q <;> exact out_bad post4
    | nl => cases q <;> exact out_bad post4
    | nd => cases q <;> exact out_bad post4
    | nT => cases q <;> exact out_bad post4
    | obj => cases q <;> exact out_bad post4
    | bw => cases q <;> exact out_bad post4
theorem pts_ok (g : Gd G V_ n C X) (f : Fd G V_ W X) : ∀ {ts : List Pt} {xs : List Expr}, chkPts G C ts xs = true → ∃ tg, PGs X xs tg ∧ (assignEach xs X.env).length = ts.length ∧ (∀ q ∈ assignEach xs X.env, q.1 = false) ∧
    ∀ (B : Ba) (m os : List Addr) (env : Ev) (S : Sto) (σ : L2.St) (H : Hp) (ds : List D) (vs : List V) (Dn : Ends), En B m os H → Rel V_.K m os env S σ H → RpA V_.K H ds vs → ds.length = ts.length → OUT V_ W B Dn (setTs V_.F ts ds env S) → tg vs σ H Dn.nx
  | [], [], _ => ⟨gNil, pgs_nil, rfl, fun q hq => (by cases hq), fun B m os env S σ H ds vs Dn en rel r hl post => by
    cases r with
    | nil => exact ⟨rfl, post m os σ H en rel⟩
    | cons => exact out_bad post⟩
  | t :: ts, x :: xs, h => by
    unfold chkPts at h
    rw [Bool.and_eq_true] at h
    obtain ⟨tg, p1, p2, p3⟩ := pt_ok g f h.1
    obtain ⟨tgs, q1, q2, q3, q4⟩ := pts_ok g f h.2
    have ea := each_pl (l := xs) (env := X.env) p2
    refine ⟨_, pgs_cons p1 q1 (by rw [ea]; rfl), by rw [ea, List.length_cons, q2, List.length_cons], fun q hq => ?_, fun B m os env S σ H ds vs Dn en rel r hl post => ?_⟩
    · rw [ea] at hq
      rcases List.mem_cons.mp hq with e | hq
      · rw [e]
      · exact q3 q hq
    · cases r with
      | nil => exact out_bad post
      | @cons d ds v vs r1 r2 =>
        rw [setTs_cons] at post
        refine ⟨v, vs, rfl, p3 B m os env S σ H d v Dn _ _ en rel r1 post fun q m' os' env' S' σ' H' x en' rel' post' => ?_⟩
        exact q4 B m' os' env' S' σ' H' ds vs Dn en' rel' (r2.ext x) (by simpa using hl) post'
  | [], _ :: _, h => by simp [chkPts] at h
  | _ :: _, [], h => by simp [chkPts] at h
theorem so_sett {ts : List Pt} {e : E} : So G V_ n lim (.sett ts e) := by
  intro X C a W B g f h
  have h' : ∃ xs k p x pos, a = .Assign [.Tuple xs k p] x pos ∧ (chkPts G C ts xs && decide (2 ≤ xs.length) && chkE G C e x && swNo C xs x) = true := by
    cases a with
    | Assign us x pos =>
      cases us with
      | nil => exact absurd (show false = true from h) (by decide)
      | cons t us => cases us with
        | nil => cases t with
          | Tuple l k p => exact ⟨l, k, p, x, pos, rfl, h⟩
          | _ => exact absurd (show false = true from h) (by decide)
        | cons => cases t <;> exact absurd (show false = true from h) (by decide)
    | _ => exact absurd (show false = true from h) (by decide)
  obtain ⟨xs, k, p, x, pos, rfl, h'⟩ := h'
  simp only [Bool.and_eq_true, decide_eq_true_eq] at h'
  obtain ⟨⟨⟨h1, h0⟩, h2⟩, h3⟩ := h'
  have hp := chkE_plain h2
  obtain ⟨tg, q1, q2, q3, q4⟩ := pts_ok g f h1
  have pg := pg_tup (k := k) (pos := p) (n := ts.length) g.calm q1 q2 (by
    rw [List.findIdx?_eq_none_iff]
    exact fun q hq => by rw [q3 q hq])
  refine (ps_asg (pos := pos) (se_all e X C x W g f.tk h2).1 pg (by cases x <;> first | rfl | cases hp) (sw_none g f.kind h3) rfl).imp fun Dn σ H q => ?_
  obtain ⟨m, os, env, S, en, rel, post⟩ := q
  unfold exS at post
  refine st_e en rel post fun r S1 m1 v H1 s1 rel1 en1 rp1 post1 => ?_
  cases rp1 with
  | p q =>
    cases q with
    | tup a b =>
      simp only at post1
      split at post1
      · rename_i hl
        rw [g.K]
        exact ⟨_, _, rfl, .inl (.inl a), by rw [← b.len]; exact hl, q4 B m1 os env S1 σ H1 _ _ Dn en1 rel1 b hl post1⟩
      · exact out_bad post1
    | _ => exact out_bad post1
  | nl => exact out_bad post1
  | nd => exact out_bad post1
  | nT => exact out_bad post1
  | obj => exact out_bad post1
  | bw => exact out_bad post1
  | ref => exact out_bad post1
end
end Vy
set_option Elab.async false
set_option linter.all false
set_option maxRecDepth 100000
set_option maxHeartbeats 4000000
namespace Vy
open PySem PySem.Spec L2
variable [Tb]

section
variable {G : GT} {V_ : Nv} {n lim : Nat} {C : Cxs} {X : Cx} {W : WX}
/-- xs[i], by values -/
theorem get_list {X : Cx} : PGet X (rIxL X.K) := by
  intro pins s σ H o i ov iv Q I ro ri h
  obtain ⟨p, xs, k, z, rfl, rfl, hq, he, q⟩ := h
  cases ro
  obtain ⟨t, rfl⟩ := ri
  obtain ⟨its, r, pl, hz⟩ := I.list hq
  obtain ⟨j, h1, h2, h3, h4, h5⟩ := atI_get he
  obtain ⟨w, ew, rw'⟩ := r.get h2
  have hl := r.length
  have hn := line63
  have fin : EP X pins σ Q w s := ⟨z, H, I, rw', q⟩
  by_cases h0 : 0 ≤ k
  · have hj : k.toNat = j := by
      rw [seqIndex_of h0 h5] at h1
      exact Option.some.inj h1
    exact wpAny_getItem_list pl.isList h0 (by omega) (by rw [hj]; simpa using ew) fin
  · have hj : (k + (its.toArray.size : Int)).toNat = j := by
      rw [seqIndex_neg (by omega) h4] at h1
      rw [List.size_toArray, ← hl]
      exact Option.some.inj h1
    exact wpAny_getItem_list_neg pl.isList (by omega) (by rw [List.size_toArray] <;> omega) (by omega) (by rw [hj]; simpa using ew) fin
/-- x op= y of ints, by values -/
def ipA (op : Operator) : TIp := match op with
  | .Add => ipI fun i j => i + j
  | .Sub => ipI fun i j => i - j
  | _ => fun _ _ _ _ => False
theorem ip_all {X : Cx} (op : Operator) (h : opAS op = true) : PIp X op (ipA op) := by
  cases op <;> first | exact ip_add | exact ip_sub | cases h
theorem ip_val {K : PySem.W.Frag} {m os : List Addr} {H0 H : Hp} {op : Operator} {x : D} {r : R} {z : D} {xv v : V} {Q : VK} (rx : Rp K H x xv) (rp : RpR K m os H0 H r v) (e : binI op x r = some z) (hq : ∀ zv, Rp K H z zv → Q zv H) : ipA op xv v H Q := by
  unfold binI at e
  split at e
  · cases e
    cases rx
    cases rp with | p q => cases q; exact ⟨_, _, rfl, rfl, hq _ (.int _)⟩
  · cases e
    cases rx
    cases rp with | p q => cases q; exact ⟨_, _, rfl, rfl, hq _ (.int _)⟩
  · cases e
theorem so_augo {i : Nat} {op : Operator} {ix e : E} : So G V_ n lim (.augo i op ix e) := by
  intro X C a W B g f h
  have h' : ∃ x p z sp o y pos, a = .AugAssign (.Subscript (.Name x p) z sp) o y pos ∧ (chkN C i x && decide (op = o) && opAS op && chkE G C ix z && chkE G C e y) = true := by
    cases a with
    | AugAssign t o y pos =>
      cases t with
      | Subscript ox z sp =>
        cases ox with
        | Name x p => exact ⟨x, p, z, sp, o, y, pos, rfl, h⟩
        | _ => exact absurd (show false = true from h) (by decide)
      | _ => exact absurd (show false = true from h) (by decide)
    | _ => exact absurd (show false = true from h) (by decide)
  obtain ⟨x, p, z, sp, o, y, pos, rfl, h'⟩ := h'
  simp only [Bool.and_eq_true, decide_eq_true_eq] at h'
  obtain ⟨⟨⟨⟨h1, rfl⟩, h2⟩, h3⟩, h4⟩ := h'
  have main := ps_augS (pos := pos) (tpos := sp) (var_pe (pos := p) g h1) (se_all ix X C z W g f.tk h3).1 get_list (se_all e X C y W g f.tk h4).1 (ip_all op h2) set_list (by intro _ _ _; have hz := chkE_plain h3; cases z <;> first | rfl | cases hz)
  refine main.imp fun Dn σ H q => ?_
  obtain ⟨m, os, env, S, en, rel, post⟩ := q
  unfold exS at post
  obtain ⟨ds, e1, post⟩ := optS_got post
  have hown := ownL_got e1
  obtain ⟨a, ea, _, _, _, _⟩ := rel.wr (c' := .lst ds) hown
  refine ⟨_, ea, st_e en rel post fun q S1 m1 w H1 s1 rel1 en1 rp1 post1 => ?_⟩
  cases rp1 with
  | @p k _ rk =>
    obtain ⟨xd, e2, post1⟩ := optS_got post1
    obtain ⟨a', ea', cr, _, _, _⟩ := rel1.wr (c' := .lst ds) hown
    rw [ea] at ea'
    cases ea'
    obtain ⟨vs, c1, c2⟩ := cr
    cases k with
    | int ki =>
      simp only [idxD] at e2
      cases rk
      obtain ⟨xv, h5, h6⟩ := atI_of c2 e2
      refine ⟨a, vs, ki, xv, rfl, rfl, by rw [g.K]; exact SqL.of c1, h5, st_e en1 rel1 post1 fun r S2 m2 v H2 s2 rel2 en2 rp2 post2 => ?_⟩
      obtain ⟨zd, e3, post2⟩ := optS_got post2
      refine ip_val (h6.ext s2.ext) rp2 e3 fun zv rz => ?_
      obtain ⟨c', e4, post2⟩ := optS_got post2
      obtain ⟨a', ea', cr, ha', hm', kk⟩ := rel2.wr (c' := c') hown
      rw [ea] at ea'
      cases ea'
      obtain ⟨vs2, c3, c4⟩ := cr
      simp only [putC] at e4
      cases hj : ixN ds.length ki with
      | none => rw [hj] at e4; cases e4
      | some j =>
        rw [hj] at e4
        cases e4
        have x : Ext [a] H2 (upd H2 a (.lst (vs2.set j zv))) := Ext.put c3 trivial (List.mem_singleton.mpr rfl)
        exact ⟨a, vs2, ki, j, rfl, rfl, c3, by rw [← c4.len]; exact hj, post2 m2 os _ _ (en2.wr ha' x) (kk _ x ⟨_, upd_same, (RpA.set rz j c4).ext x⟩)⟩
    | _ => simp [idxD] at e2
  | nl => exact post1.elim
  | nd => exact post1.elim
  | nT => exact post1.elim
  | obj => exact post1.elim
  | bw => exact post1.elim
  | ref => exact post1.elim
theorem so_augn {i : Nat} {op : Operator} {e : E} : So G V_ n lim (.augn i op e) := by
  intro X C a W B g f h
  have h' : ∃ t o y pos, a = .AugAssign t o y pos ∧ (chkTs C [i] [t] && decide (op = o) && opAS op && chkE G C e y) = true := by
    cases a with
    | AugAssign t o y pos => exact ⟨t, o, y, pos, rfl, h⟩
    | _ => exact absurd (show false = true from h) (by decide)
  obtain ⟨t, o, y, pos, rfl, h'⟩ := h'
  simp only [Bool.and_eq_true, decide_eq_true_eq] at h'
  obtain ⟨⟨⟨h1, rfl⟩, h2⟩, h3⟩ := h'
  obtain ⟨x, p, rfl, a1, a2, a3⟩ := nm_of g h1
  have main := ps_aug (pos := pos) (pos' := p) (by rw [g.N]; exact g.nd) a1 a2 (se_all e X C y W g f.tk h3).1 (ip_all op h2) a3
  refine main.imp fun Dn σ H q => ?_
  obtain ⟨m, os, env, S, en, rel, post⟩ := q
  unfold exS at post
  cases hs : env[i]? with
  | none => rw [hs] at post; exact post.elim
  | some sv =>
    rw [hs] at post
    obtain ⟨ov, as, o1, o2, e1, sr, _, _⟩ := rel.sl.at_ hs
    cases sr with
    | no => exact post.elim
    | ref => exact post.elim
    | own => exact post.elim
    | obj => exact post.elim
    | @p xd xv rx =>
      refine ⟨xv, e1, st_e en rel post fun r S1 m1 v H1 s1 rel1 en1 rp1 post1 => ?_⟩
      obtain ⟨zd, e3, post1⟩ := optS_got post1
      refine ip_val (rx.ext s1.ext) rp1 e3 fun zv rz => ?_
      obtain ⟨os', rel2, u⟩ := rel1.put (i := i) (SlotR.p (m := m1) rz)
      exact post1 m1 os' _ H1 (en1.sub fun a h => u.subset h) rel2
theorem lstR_val {K : PySem.W.Frag} {m os : List Addr} {H0 H : Hp} {S : Sto} {r : R} {v : V} {xs : List D} (c : Cells K H S m) (rp : RpR K m os H0 H r v) (e : lstR S r = some xs) : ∃ b zs, v = .ref b ∧ H b = some (.lst zs) ∧ RpA K H xs zs := by
  cases rp with
  | p => cases e
  | nl a b c d => cases e; obtain ⟨zs, h1, h2⟩ := d; exact ⟨_, zs, rfl, h1, h2⟩
  | nd => cases e
  | nT => cases e
  | obj => cases e
  | @bw c' a b ho d =>
    cases c' with
    | lst ds => cases e; obtain ⟨zs, h1, h2⟩ := d; exact ⟨_, zs, rfl, h1, h2⟩
    | dct => cases e
    | dcT => cases e
  | @ref k a q =>
    simp only [lstR] at e
    cases h : S[k]? with
    | none => rw [h] at e; cases e
    | some cc =>
      rw [h] at e
      obtain ⟨a', h1, h2⟩ := c.get h
      rw [q] at h1; cases h1
      cases cc with
      | lst ds => cases e; obtain ⟨zs, h3, h4⟩ := h2; exact ⟨_, zs, rfl, h3, h4⟩
      | dct => cases e
      | dcT => cases e
theorem so_ext {i : Nat} {e : E} : So G V_ n lim (.ext i e) := by
  intro X C a W B g f h
  have h' : ∃ t y pos, a = .AugAssign t .Add y pos ∧ (chkTs C [i] [t] && chkE G C e y) = true := by
    cases a with
    | AugAssign t o y pos => cases o <;> first | exact ⟨t, y, pos, rfl, h⟩ | exact absurd (show false = true from h) (by decide)
    | _ => exact absurd (show false = true from h) (by decide)
  obtain ⟨t, y, pos, rfl, h'⟩ := h'
  simp only [Bool.and_eq_true] at h'
  obtain ⟨h1, h3⟩ := h'
  obtain ⟨x, p, rfl, a1, a2, a3⟩ := nm_of g h1
  have main := ps_aug (pos := pos) (pos' := p) (op := .Add) (by rw [g.N]; exact g.nd) a1 a2 (se_all e X C y W g f.tk h3).1 iop_ext a3
  refine main.imp fun Dn σ H q => ?_
  obtain ⟨m, os, env, S, en, rel, post⟩ := q
  unfold exS at post
  obtain ⟨ds, e1, post⟩ := optS_got post
  have hown := ownL_got e1
  obtain ⟨a, ea, _, _, _, _⟩ := rel.wr (c' := .lst ds) hown
  refine ⟨_, ea, st_e en rel post fun r S1 m1 v H1 s1 rel1 en1 rp1 post1 => ?_⟩
  obtain ⟨xs, e2, post1⟩ := optS_got post1
  obtain ⟨b, zs, rfl, b1, b2⟩ := lstR_val rel1.ce rp1 e2
  by_cases hz : ds.length + xs.length ≤ sizeLine
  · rw [if_pos hz] at post1
    obtain ⟨a', ea', cr, ha', hm', kk⟩ := rel1.wr (c' := .lst (ds ++ xs)) hown
    rw [ea] at ea'
    cases ea'
    obtain ⟨vs, c1, c2⟩ := cr
    have x : Ext [a] H1 (upd H1 a (.lst (vs ++ zs))) := Ext.put c1 trivial (List.mem_singleton.mpr rfl)
    refine ⟨a, b, vs, zs, rfl, rfl, c1, b1, by rw [← c2.len, ← b2.len]; exact hz, ?_⟩
    have es : σ.set i (some (.ref a)) = σ := by
      obtain ⟨hlt, ev⟩ := List.getElem?_eq_some_iff.mp ea
      conv => rhs; rw [← List.set_getElem_self hlt]
      rw [ev]
    show Dn.nx (σ.set i (some (.ref a))) _
    rw [es]
    exact post1 m1 os _ _ (en1.wr ha' x) (kk _ x ⟨_, upd_same, (c2.app b2).ext x⟩)
  · rw [if_neg hz] at post1
    exact post1.elim
theorem so_pop {i j : Nat} : So G V_ n lim (.pop i j) := by
  intro X C a W B g f h
  have h' : ∃ t x p nm ap cp pos, a = .Assign [t] (.Call (.Attribute (.Name x p) nm ap) [] [] cp) pos ∧ (chkTs C [i] [t] && decide (nm = "pop") && chkN C j x && ap.endLine == cp.line) = true := by
    cases a with
    | Assign ts y pos =>
      cases ts with
      | nil => exact absurd (show false = true from h) (by decide)
      | cons t ts =>
        cases ts with
        | cons => cases t <;> exact absurd (show false = true from h) (by decide)
        | nil =>
          cases y with
          | Call fn l kws cp =>
            cases fn with
            | Attribute o nm ap =>
              cases o with
              | Name x p =>
                cases l with
                | cons => cases t <;> exact absurd (show false = true from h) (by decide)
                | nil =>
                  cases kws with
                  | cons => cases t <;> exact absurd (show false = true from h) (by decide)
                  | nil => exact ⟨t, x, p, nm, ap, cp, pos, rfl, by cases t <;> exact h⟩
              | _ => cases t <;> exact absurd (show false = true from h) (by decide)
            | _ => cases t <;> exact absurd (show false = true from h) (by decide)
          | _ => cases t <;> exact absurd (show false = true from h) (by decide)
    | _ => exact absurd (show false = true from h) (by decide)
  obtain ⟨t, x, p, nm, ap, cp, pos, rfl, h'⟩ := h'
  simp only [Bool.and_eq_true, decide_eq_true_eq] at h'
  obtain ⟨⟨⟨h1, rfl⟩, h2⟩, h4⟩ := h'
  obtain ⟨z, pz, rfl, a1, a2, a3⟩ := nm_of g h1
  have main := ps_set (pos := pos) (pos' := pz) (by rw [g.N]; exact g.nd) a1 a2 (pe_bm0 (apos := ap) (cpos := cp) PySem.F.plainAttrs_list PySem.F.slot_list_pop PySem.F.type_list_pop mt_pop (var_pe (pos := p) g h2) rfl h4) rfl a3
  refine main.imp fun Dn σ H q => ?_
  obtain ⟨m, os, env, S, en, rel, post⟩ := q
  unfold exS at post
  obtain ⟨ds, e1, post⟩ := optS_got post
  obtain ⟨d, e2, post⟩ := optS_got post
  have hown := ownL_got e1
  obtain ⟨a, ea, cr, ha, hm, kk⟩ := rel.wr (c' := .lst ds.dropLast) hown
  obtain ⟨vs, c1, c2⟩ := cr
  rw [List.getLast?_eq_getElem?] at e2
  obtain ⟨v, e3, rv⟩ := c2.get e2
  have x : Ext [a] H (upd H a (.lst vs.dropLast)) := Ext.put c1 trivial (List.mem_singleton.mpr rfl)
  refine ⟨_, ea, .inl ⟨rfl, vs, SqL.of c1⟩, a, vs, v, rfl, rfl, c1, by rw [← c2.len]; exact e3, ?_⟩
  have c3 : RpA V_.K H ds.dropLast vs.dropLast := by
    rw [List.dropLast_eq_take, List.dropLast_eq_take, ← c2.len]
    exact c2.take _
  have rel2 := kk _ x ⟨_, upd_same, c3.ext x⟩
  obtain ⟨os', rel3, u⟩ := rel2.put (i := i) (SlotR.p (m := m) (rv.ext x))
  exact post m os' _ _ ((en.wr ha x).sub fun a h => u.subset h) rel3
end
end Vy
set_option Elab.async false
set_option linter.all false
set_option maxRecDepth 100000
set_option maxHeartbeats 4000000
namespace Vy
open PySem PySem.Spec L2
variable [Tb]

section
variable {G : GT} {V_ : Nv} {n lim : Nat}
theorem RpR.ret {K : PySem.W.Frag} {B : Ba} {m m1 os : List Addr} {env : Ev} {σ : L2.St} {S : Sto} {H H1 : Hp} {r r' : R} {v : V} (en : En B m os H) (rel1 : Rel K m1 os env S σ H1) (en1 : En B m1 os H1) (rp : RpR K m1 os H H1 r v) (e : retR r = some r') : RpR K m1 [] B.H0 H1 r' v := by
  cases rp with
  | p q => cases e; exact .p q
  | nl a b c d => cases e; exact .nl (en.ext.there _ a) b (by simp) d
  | nd a b c d => cases e; exact .nd (en.ext.there _ a) b (by simp) d
  | nT a b c d => cases e; exact .nT (en.ext.there _ a) b (by simp) d
  | obj q => cases e; exact .obj q
  | ref q => cases e; exact .ref q
  | @bw c a b ho d =>
    have fr : Fr B.H0 a := (en1.new a (List.mem_append_right _ ho)).elim (fun z => absurd (en1.pre.subset z) b) id
    cases c with
    | lst ds => cases e; exact .nl fr b (by simp) d
    | dct kvs => cases e; exact .nd fr b (by simp) d
    | dcT kvs => cases e; exact .nT fr b (by simp) d
theorem so_ret {e : E} : So G V_ n lim (.ret e) := by
  intro X C a W B g f h
  have h' : ∃ x pos, a = .Return (some x) pos ∧ chkE G C e x = true := by
    cases a with
    | Return x pos => cases x with
      | none => exact absurd (show false = true from h) (by decide)
      | some x => exact ⟨x, pos, rfl, h⟩
    | _ => exact absurd (show false = true from h) (by decide)
  obtain ⟨x, pos, rfl, h1⟩ := h'
  refine (ps_ret (pos := pos) (se_all e X C x W g f.tk h1).1).imp fun Dn σ H q => ?_
  obtain ⟨m, os, env, S, en, rel, post⟩ := q
  unfold exS at post
  refine st_e en rel post fun r S1 m1 v H1 s1 rel1 en1 rp1 post1 => ?_
  obtain ⟨r', e1, post1⟩ := optS_got post1
  exact post1 m1 v H1 en1.stp rel1.ce rel1.m_nd (rp1.ret en rel1 en1 e1)
theorem so_retn : So G V_ n lim .retn := by
  intro X C a W B g f h
  have h' : ∃ pos, a = .Return none pos := by
    cases a with
    | Return x pos => cases x with
      | none => exact ⟨pos, rfl⟩
      | some x => exact absurd (show false = true from h) (by decide)
    | _ => exact absurd (show false = true from h) (by decide)
  obtain ⟨pos, rfl⟩ := h'
  refine (ps_retN (pos := pos)).imp fun Dn σ H q => ?_
  obtain ⟨m, os, env, S, en, rel, post⟩ := q
  unfold exS at post
  exact post m _ H en.stp rel.ce rel.m_nd (.p .non)
theorem so_exprs {e : E} : So G V_ n lim (.exprs e) := by
  intro X C a W B g f h
  have h' : ∃ x pos, a = .Expr x pos ∧ (chkE G C e x && !isLc x) = true := by
    cases a with
    | Expr x pos => exact ⟨x, pos, rfl, h⟩
    | _ => exact absurd (show false = true from h) (by decide)
  obtain ⟨x, pos, rfl, h1⟩ := h'
  simp only [Bool.and_eq_true, Bool.not_eq_true'] at h1
  have hp := chkE_plain h1.1
  refine (ps_expr (pos := pos) (se_all e X C x W g f.tk h1.1).1 (by have h2 := h1.2; cases x <;> first | rfl | exact absurd (show true = false from h2) (by decide) | cases hp)).imp fun Dn σ H q => ?_
  obtain ⟨m, os, env, S, en, rel, post⟩ := q
  unfold exS at post
  exact st_e en rel post fun r S1 m1 v H1 s1 rel1 en1 rp1 post1 => post1 m1 os σ H1 en1 rel1
theorem so_pass : So G V_ n lim .pass := by
  intro X C a W B g f h
  have key : ∀ Dn σ H, dS V_ W B lim .pass Dn σ H → tNext Dn σ H := fun Dn σ H q => by
    obtain ⟨m, os, env, S, en, rel, post⟩ := q
    unfold exS at post
    exact post m os σ H en rel
  cases a with
  | Pass pos => exact ps_pass.imp key
  | Expr x pos =>
    cases x with
    | Constant c k p => cases c with
      | str s => exact ps_doc.imp key
      | _ => exact absurd (show false = true from h) (by decide)
    | _ => exact absurd (show false = true from h) (by decide)
  | _ => exact absurd (show false = true from h) (by decide)
theorem so_brk : So G V_ n lim .brk := by
  intro X C a W B g f h
  cases a with
  | Break pos =>
    refine ps_break.imp fun Dn σ H q => ?_
    obtain ⟨m, os, env, S, en, rel, post⟩ := q
    unfold exS at post
    exact post m os σ H en rel
  | _ => exact absurd (show false = true from h) (by decide)
theorem so_cont : So G V_ n lim .cont := by
  intro X C a W B g f h
  cases a with
  | Continue pos =>
    refine ps_continue.imp fun Dn σ H q => ?_
    obtain ⟨m, os, env, S, en, rel, post⟩ := q
    unfold exS at post
    exact post m os σ H en rel
  | _ => exact absurd (show false = true from h) (by decide)
theorem so_ifs {c : E} {a b : SS} (ha : SSo G V_ n lim a) (hb : SSo G V_ n lim b) : So G V_ n lim (.ifs c a b) := by
  intro X C st W B g f h
  have h' : ∃ x p q pos, st = .If x p q pos ∧ (chkE G C c x && chkSS G C a p && chkSS G C b q) = true := by
    cases st with
    | If x p q pos => exact ⟨x, p, q, pos, rfl, h⟩
    | _ => exact absurd (show false = true from h) (by decide)
  obtain ⟨x, p, q, pos, rfl, h1⟩ := h'
  simp only [Bool.and_eq_true] at h1
  obtain ⟨⟨h1, h2⟩, h3⟩ := h1
  refine (ps_if (pos := pos) (se_all c X C x W g f.tk h1).2 (ha X C p W B g f h2) (hb X C q W B g f h3)).imp fun Dn σ H q => ?_
  obtain ⟨m, os, env, S, en, rel, post⟩ := q
  unfold exS at post
  refine st_t en rel post fun t S1 m1 H1 s1 rel1 en1 post1 => ?_
  cases t with
  | true => exact ⟨m1, os, env, S1, en1, rel1, post1⟩
  | false => exact ⟨m1, os, env, S1, en1, rel1, post1⟩
theorem whilL_succ {c : Ev → Sto → Res Bool} {b : Ev → Sto → Out} {k : Nat} {env : Ev} {S : Sto} : whilL c b (k + 1) env S = (c env S).st env fun t S => if t = true then match b env S with
      | .next env S => whilL c b k env S
      | .cnt env S => whilL c b k env S
      | .brk env S => .next env S
      | o => o
    else .next env S := rfl
theorem so_whil {c : E} {a : SS} (ha : SSo G V_ n lim a) : So G V_ n lim (.whil c a) := by
  intro X C st W B g f h
  have h' : ∃ x p pos, st = .While x p [] pos ∧ (chkE G C c x && chkSS G C a p) = true := by
    cases st with
    | While x p q pos => cases q with
      | nil => exact ⟨x, p, pos, rfl, h⟩
      | cons => exact absurd (show false = true from h) (by decide)
    | _ => exact absurd (show false = true from h) (by decide)
  obtain ⟨x, p, pos, rfl, h1⟩ := h'
  simp only [Bool.and_eq_true] at h1
  obtain ⟨h1, h2⟩ := h1
  refine (ps_while (pos := pos) f.ps (se_all c X C x W g f.tk h1).2 (ha X C p W B g f h2)).imp fun Dn σ H q => ?_
  obtain ⟨m, os, env, S, en, rel, post⟩ := q
  unfold exS at post
  generalize hc : (fun (env : Ev) (S : Sto) => (evE V_.F c env S).bind fun x S => opt S (truR S x)) = cc at post
  generalize hb : (fun (env : Ev) (S : Sto) => exSS V_.F lim a env S) = bb at post
  refine ⟨fun k σ H => ∃ m os env S, En B m os H ∧ Rel V_.K m os env S σ H ∧ OUT V_ W B Dn (whilL cc bb k env S), ⟨lim, m, os, env, S, en, rel, post⟩, ?_⟩
  rintro k σ H ⟨m, os, env, S, en, rel, post⟩
  cases k with
  | zero => exact post.elim
  | succ k =>
    rw [whilL_succ, ← hc] at post
    refine st_t en rel post fun t S1 m1 H1 s1 rel1 en1 post1 => ?_
    cases t with
    | false => exact post1 m1 os σ H1 en1 rel1
    | true =>
      rw [if_pos rfl] at post1 ⊢
      refine ⟨fun σ' H' => ∃ m os env S, En B m os H' ∧ Rel V_.K m os env S σ' H' ∧ OUT V_ W B Dn (whilL cc bb k env S), fun σ' H' z => ⟨k, Nat.lt_succ_self k, z⟩, m1, os, env, S1, en1, rel1, ?_⟩
      rw [hc] at post1
      have eb : bb env S1 = exSS V_.F lim a env S1 := by rw [← hb]
      rw [eb] at post1
      generalize exSS V_.F lim a env S1 = o at post1
      cases o with
      | next env' S' => exact fun m os σ H en rel => ⟨m, os, env', S', en, rel, post1⟩
      | cnt env' S' => exact fun m os σ H en rel => ⟨m, os, env', S', en, rel, post1⟩
      | brk env' S' => exact post1
      | ret r S' => exact post1
      | exc c fs env' S' => exact post1
      | bad => exact post1
/-- the base, with what the walk's start tells -/
def Ba.at_ (B : Ba) (Hs : Hp) : Ba := ⟨B.m0, B.H0, fun H => B.P H ∧ Kep Hs H, fun H H' h k => ⟨B.st H H' h.1 k, h.2.trans k⟩⟩
theorem En.of_at {B : Ba} {Hs : Hp} {m os : List Addr} {H : Hp} (e : En (B.at_ Hs) m os H) : En B m os H := ⟨e.pre, e.ext, e.new, e.p.1⟩
theorem Kep.rfl {H : Hp} : Kep H H := ⟨fun _ _ h => h, fun _ _ _ h => h⟩
theorem _root_.L2.PSs.ex {X : Cx} {l : List Stmt} {ι : Type} {t : ι → TS} (h : ∀ i, PSs X l (t i)) : PSs X l (fun D σ H => ∃ i, t i D σ H) := ⟨fun pins s σ H D I q => by
  obtain ⟨i, q⟩ := q
  exact (h i).run pins s σ H D I q⟩
theorem so_forr {tg : Tg} {src : Src} {it : Es} {a : SS} (ha : SSo G V_ n lim a) : So G V_ n lim (.forr tg src it a) := by
  intro X C st W B g f h
  have h' : ∃ t i l pos, st = .For t i l [] pos ∧ (chkTg C tg t && chkSrc G C src it i (isTup t) && chkSS G C a l) = true := by
    cases st with
    | For t i l q pos => cases q with
      | nil => exact ⟨t, i, l, pos, rfl, h⟩
      | cons => exact absurd (show false = true from h) (by decide)
    | _ => exact absurd (show false = true from h) (by decide)
  obtain ⟨t, i, l, pos, rfl, h1⟩ := h'
  simp only [Bool.and_eq_true] at h1
  obtain ⟨⟨h1, h2⟩, h3⟩ := h1
  have main := ps_for (pos := pos) f.ps g.calm (src_all (es_all it) (s1_all it) X C W t i g f.tk h2) (tg_ok g h1) (PSs.ex fun Hs => ha X C l W (B.at_ Hs) g f h3) (fset_of h2)
  refine main.imp fun Dn σ H q => ?_
  obtain ⟨m, os, env, S, en, rel, post⟩ := q
  unfold exS at post
  -- the source
  refine ⟨m, os, env, S, rel, ?_⟩
  generalize hb : (fun (d : D) (env : Ev) (S : Sto) => optS (tgSet tg d env) fun env => exSS V_.F lim a env S) = bb at post
  have post : PX (fun items S' => OUT V_ W B Dn (forL bb items env S')) (exW V_ W m os env σ H) ((evFz V_.F it env S).bind fun is S => opt S (srcD src is)) := by
    cases h3 : evFz V_.F it env S with
    | bad => rw [h3] at post; exact post
    | exc c fs S' => rw [h3] at post; exact out_exc en rel post
    | ok is S1 =>
      rw [h3] at post
      simp only [Res.bind]
      obtain ⟨items, e1, post1⟩ := optS_got post
      rw [e1]
      exact post1
  refine PX.mono post (fun items S1 z m1 H1 J s1 rel1 wk => ?_) fun _ _ _ z => z
  have en1 := en.step s1
  refine ⟨fun i k σ H => k = items.length - i ∧ i ≤ items.length ∧ ∃ m os env S, En (B.at_ H1) m os H ∧ Rel V_.K m os env S σ H ∧ OUT V_ W B Dn (forL bb (items.drop i) env S), ⟨_, rfl, Nat.zero_le _, m1, os, env, S1, ⟨en1.pre, en1.ext, en1.new, en1.p, Kep.rfl⟩, rel1, z⟩, ?_⟩
  rintro i k σ2 H2 ⟨rfl, hi, m2, os2, env2, S2, en2, rel2, post2⟩
  by_cases hlt : i < items.length
  · have hdr : items.drop i = items[i] :: items.drop (i + 1) := List.drop_eq_getElem_cons hlt
    obtain ⟨w1, w2⟩ := (wk H2 en2.p.2 i).1 hlt
    refine .inr ⟨w1, fun σ H => ∃ m os env S, En (B.at_ H1) m os H ∧ Rel V_.K m os env S σ H ∧ OUT V_ W B Dn (forL bb (items.drop (i + 1)) env S), fun σ' H' z => ⟨_, by omega, rfl, by omega, z⟩, fun x H3 yl => ?_⟩
    obtain ⟨⟨d, ed, rd⟩, st⟩ := w2 x H3 yl
    have ed' : items[i] = d := by rw [List.getElem?_eq_getElem hlt] at ed; exact Option.some.inj ed
    rw [hdr, ed'] at post2
    have rel3 := rel2.nil st
    have en3 := en2.step (st.mono m2)
    have eb : forL bb (d :: items.drop (i + 1)) env2 S2 = (match bb d env2 S2 with
      | .next env S => forL bb (items.drop (i + 1)) env S
      | .cnt env S => forL bb (items.drop (i + 1)) env S
      | .brk env S => .next env S
      | o => o) := rfl
    rw [eb] at post2
    have eb2 : bb d env2 S2 = optS (tgSet tg d env2) fun env => exSS V_.F lim a env S2 := by rw [← hb]
    rw [eb2] at post2
    cases htS : tgSet tg d env2 with
    | none => rw [htS] at post2; exact post2.elim
    | some env' =>
      rw [htS] at post2
      simp only [optS] at post2
      refine tg_val rel3 rd htS fun σ4 os4 rel4 u4 _ => ⟨H1, m2, os4, env', S2, en3.sub fun a h => u4.subset h, rel4, ?_⟩
      generalize exSS V_.F lim a env' S2 = o at post2
      cases o with
      | next env' S' => exact fun m os σ H en rel => ⟨m, os, env', S', en, rel, post2⟩
      | cnt env' S' => exact fun m os σ H en rel => ⟨m, os, env', S', en, rel, post2⟩
      | brk env' S' => exact fun m os σ H en rel => post2 m os σ H en.of_at rel
      | ret r S' => exact post2
      | exc c fs env' S' => exact post2
      | bad => exact post2
  · have e : i = items.length := by omega
    subst e
    refine .inl ⟨(wk H2 en2.p.2 _).2 rfl, ?_⟩
    rw [List.drop_length] at post2
    exact post2 m2 os2 _ H2 en2.of_at rel2
end
section
variable {G : GT} {V_ : Nv} {n lim : Nat}
theorem zip_xd {K : PySem.W.Frag} {H : Hp} : ∀ {ns : List Str} {vs : List V} {ds : List D}, ns.Nodup → ns.length = vs.length → RpA K H ds vs → Paired (fun n f => n ∈ ns ∧ ∃ v, (ns.zip vs).lookup n = some v ∧ Rp K H f v) ns ds
  | [], [], _, _, _, .nil => .nil
  | n :: ns, v :: vs, _, nd, hl, .cons r ra => by
    have nd' := List.nodup_cons.mp nd
    refine .cons ⟨List.mem_cons_self, v, by simp [List.lookup_cons], r⟩ (Paired.mapP (zip_xd nd'.2 (by simpa using hl) ra) fun a f z => ?_)
    obtain ⟨hm, w, h1, h2⟩ := z
    refine ⟨List.mem_cons_of_mem _ hm, w, ?_, h2⟩
    have hne : (a == n) = false := by
      rw [beq_eq_false_iff_ne]
      intro e
      subst e
      exact nd'.1 hm
    show List.lookup a ((n, v) :: ns.zip vs) = some w
    rw [List.lookup_cons, hne]
    exact h1
  | _ :: _, [], _, _, hl, _ => by simp at hl
  | [], _ :: _, _, _, hl, _ => by simp at hl
theorem so_rais {c : Nat} {es : Es} : So G V_ n lim (.rais c es) := by
  intro X C a W B g f h
  have h' : ∃ x p y l cp pos, a = .Raise (some (.Call (.Name x p) (y :: l) [] cp)) none pos ∧ (decide (G.excs[c]? = some x) && decide (G.exn[c]? = some es.len) && chkG C x && chkEs G C es (y :: l)) = true := by
    cases a with
    | Raise ex fr pos =>
      cases ex with
      | none => exact absurd (show false = true from h) (by decide)
      | some z =>
        cases fr with
        | some => cases z with
          | Call fn l kws cp => cases fn <;> cases l <;> cases kws <;> exact absurd (show false = true from h) (by decide)
          | _ => exact absurd (show false = true from h) (by decide)
        | none =>
          cases z with
          | Call fn l kws cp =>
            cases fn with
            | Name x p =>
              cases l with
              | nil => exact absurd (show false = true from h) (by decide)
              | cons y l =>
                cases kws with
                | cons => exact absurd (show false = true from h) (by decide)
                | nil => exact ⟨x, p, y, l, cp, pos, rfl, h⟩
            | _ => exact absurd (show false = true from h) (by decide)
          | _ => exact absurd (show false = true from h) (by decide)
    | _ => exact absurd (show false = true from h) (by decide)
  obtain ⟨x, p, y, l, cp, pos, rfl, h1⟩ := h'
  simp only [Bool.and_eq_true, decide_eq_true_eq] at h1
  obtain ⟨⟨⟨h1, h1n⟩, h2⟩, h3⟩ := h1
  obtain ⟨_, l2, _⟩ := es_all (G := G) (V_ := V_) (n := n) es X C _ W g f.tk h3
  obtain ⟨y', l', e1, hy⟩ := chkEs_cons h3 (by rw [← chkEs_len h3]; simp)
  cases e1
  refine (ps_raise (pos := pos) g.calm f.tk (f.gx.exc c x h1 X rfl rfl rfl rfl g.K g.calm f.two (g.gl h2).1 (g.gl h2).2.1 y l p cp _ l2 (star_of hy) (chkEs_tail h3))).imp fun Dn σ H q => ?_
  obtain ⟨m, os, env, S, en, rel, post⟩ := q
  unfold exS at post
  refine st_f en rel post fun ds S1 m1 vs H1 hl s1 rel1 en1 rp1 post1 => ?_
  obtain ⟨hfl, hnd⟩ := f.gx.exn c _ h1n
  have hlv : vs.length = (V_.fl c).length := by rw [← rp1.len, hl, hfl]
  refine ⟨hlv, fun d H2 kvs k hd hkv => ?_⟩
  have x : Ext [] H1 H2 := ⟨fun b o h _ _ => k b o h, fun b xs h => k b _ h, fun b o u h => k b _ h, fun b C dx gs h => k b _ h, fun b h o ho => h o (k b o ho), fun h => h.ext k⟩
  have s2 : Stp m1 m1 H1 H2 := Stp.of (x.mono fun _ h => absurd h (by simp))
  exact post1 m1 d σ H2 (en1.step s2).stp (rel1.ce.ext x fun a _ z => absurd z (by simp)) rel1.m_nd ⟨_, hd, Paired.mapP (zip_xd hnd hlv.symm (rp1.ext x)) fun n f z => by obtain ⟨v, z1, z2⟩ := z.2; exact ⟨v, hkv n v z1, z2⟩⟩
/-! ### several statements -/
theorem set_self {σ : L2.St} {i : Nat} {o : Option V} (h : σ[i]? = some o) : σ.set i o = σ := by
  obtain ⟨hlt, ev⟩ := List.getElem?_eq_some_iff.mp h
  conv => rhs; rw [← List.set_getElem_self hlt]
  rw [ev]
theorem Slots.fgt1 {K : PySem.W.Frag} {m os : List Addr} {env : Ev} {σ : L2.St} {H : Hp} {i : Nat} (h : Slots K H m env σ os) : ∃ os', Slots K H m (env.set i none) σ os' ∧ os'.Sublist os := by
  cases e : env[i]? with
  | none =>
    have e := List.getElem?_eq_none_iff.mp e
    rw [List.set_eq_of_length_le e]
    exact ⟨os, h, List.Sublist.refl _⟩
  | some s =>
    obtain ⟨o, as, o1, o2, e1, _, e2, k⟩ := h.at_ e
    have z := k [] H none o [] (Ext.refl _ _) (fun a _ z => absurd z (by simp)) (.no _)
    rw [set_self e1] at z
    refine ⟨_, z, ?_⟩
    rw [e2, List.append_nil, List.append_assoc]
    exact (List.Sublist.refl o1).append (List.sublist_append_right as o2)
theorem Slots.fgt {K : PySem.W.Frag} {m os : List Addr} {env : Ev} {σ : L2.St} {H : Hp} (h : Slots K H m env σ os) : ∀ is : List Nat, ∃ os', Slots K H m (wipeE env is) σ os' ∧ os'.Sublist os
  | [] => ⟨os, h, List.Sublist.refl _⟩
  | i :: is => by
    obtain ⟨o1, h1, e1⟩ := Slots.fgt h is
    obtain ⟨o2, h2, e2⟩ := h1.fgt1 (i := i)
    exact ⟨o2, h2, e2.trans e1⟩
theorem Rel.lock {K : PySem.W.Frag} {m os : List Addr} {env : Ev} {σ : L2.St} {S : Sto} {H : Hp} {i : Nat} {ds : List D} (h : Rel K m os env S σ H) (e : env[i]? = some (some (.own (.lst ds)))) :
    ∃ a vs os', H a = some (.lst vs) ∧ a ∈ os ∧ os'.Sublist os ∧ ∀ o, Rel K m os' (env.set i (some (.p (.list ds)))) S σ (upd H a (.frz o (.lst vs))) := by
  obtain ⟨o, as, o1, o2, e1, r, e2, k⟩ := h.sl.at_ e
  cases r with
  | @own _ a r =>
    obtain ⟨vs, c1, c2⟩ := r
    have ha : a ∈ os := by rw [e2]; simp
    have nd := h.nd
    have su : (o1 ++ o2).Sublist os := by
      rw [e2, List.append_assoc]
      exact (List.Sublist.refl o1).append (List.sublist_append_right [a] o2)
    refine ⟨a, vs, o1 ++ [] ++ o2, c1, ha, by rw [List.append_nil]; exact su, fun ob => ?_⟩
    have x : Ext [a] H (upd H a (.frz ob (.lst vs))) := Ext.frz c1 (List.mem_singleton.mpr rfl)
    have hno : ∀ b ∈ o1 ++ o2, b ∉ [a] := fun b hb z => by
      have hz := List.mem_singleton.mp z
      subst hz
      rw [e2] at nd
      have nd2 := (List.nodup_append.mp nd).2.1
      have : (o1 ++ [b] ++ o2).Perm (b :: (o1 ++ o2)) := by
        rw [List.append_assoc]
        exact List.perm_middle
      exact (List.nodup_cons.mp (this.nodup_iff.mp nd2)).1 hb
    have sl := k [a] _ (some (.p (.list ds))) (some (.ref a)) [] x hno (.p (.lst (.inl ⟨ob, upd_same⟩) (c2.ext x)))
    rw [set_self e1] at sl
    refine ⟨sl, h.ce.ext x fun b hb z => ?_, ?_, x.tab h.tb⟩
    · rw [List.mem_singleton.mp z] at hb
      exact (List.nodup_append.mp nd).2.2 a hb a ha rfl
    · rw [List.append_nil]
      exact ((List.Sublist.refl m).append su).nodup nd
theorem ss_nil : SSo G V_ n lim .nil := by
  intro X C a W B g f h
  cases a with
  | cons => exact absurd (show false = true from h) (by decide)
  | nil =>
    refine pss_nil.imp fun Dn σ H q => ?_
    obtain ⟨m, os, env, S, en, rel, post⟩ := q
    exact post m os σ H en rel
theorem ss_frz {i : Nat} {r : SS} (hr : SSo G V_ n lim r) : SSo G V_ n lim (.cons (.frz i) r) := by
  intro X C a W B g f h
  have h : chkSS G C r a = true := by cases a <;> exact h
  refine (hr X C a W B g f h).lkS.imp fun Dn σ H q => ?_
  obtain ⟨m, os, env, S, en, rel, post⟩ := q
  unfold exSS exS at post
  cases e : env[i]? with
  | none => rw [e] at post; exact post.elim
  | some sv =>
    rw [e] at post
    cases sv with
    | none => exact post.elim
    | some sv =>
      cases sv with
      | p => exact post.elim
      | ref => exact post.elim
      | obj => exact post.elim
      | own c =>
        cases c with
        | dct => exact post.elim
        | dcT => exact post.elim
        | lst ds =>
          obtain ⟨a', vs, os', c1, ha, su, k⟩ := rel.lock e
          refine .inr ⟨a', vs, c1, fun o => ⟨m, os', _, S, (en.wr ha (Ext.frz c1 (List.mem_singleton.mpr rfl))).sub fun x hx => su.subset hx, k o, post⟩⟩
theorem ss_fgt {is : List Nat} {r : SS} (hr : SSo G V_ n lim r) : SSo G V_ n lim (.cons (.fgt is) r) := by
  intro X C a W B g f h
  have h : chkSS G C r a = true := by cases a <;> exact h
  refine (hr X C a W B g f h).imp fun Dn σ H q => ?_
  obtain ⟨m, os, env, S, en, rel, post⟩ := q
  unfold exSS exS at post
  obtain ⟨os', sl, u⟩ := rel.sl.fgt is
  exact ⟨m, os', _, S, en.sub fun a h => u.subset h, rel.sub sl u, post⟩
theorem ss_cons {s : Vy.S} {r : SS} (hs : So G V_ n lim s) (hr : SSo G V_ n lim r) (h1 : ∀ i, s ≠ .frz i) (h2 : ∀ is, s ≠ .fgt is) : SSo G V_ n lim (.cons s r) := by
  intro X C a W B g f h
  have h' : ∃ x l, a = x :: l ∧ chkS G C s x = true ∧ chkSS G C r l = true := by
    cases s <;> first | exact absurd rfl (h1 _) | exact absurd rfl (h2 _) | skip
    all_goals
      cases a with
      | nil => exact absurd (show false = true from h) (by decide)
      | cons x l => exact ⟨x, l, rfl, (Bool.and_eq_true _ _).mp h⟩
  obtain ⟨x, l, rfl, h3, h4⟩ := h'
  refine (pss_cons (hs X C x W B g f h3) (hr X C l W B g f h4)).imp fun Dn σ H q => ?_
  obtain ⟨m, os, env, S, en, rel, post⟩ := q
  unfold exSS at post
  refine ⟨m, os, env, S, en, rel, ?_⟩
  generalize exS V_.F lim s env S = o at post
  cases o with
  | next env' S' => exact fun m os σ H en rel => ⟨m, os, env', S', en, rel, post⟩
  | cnt env' S' => exact post
  | brk env' S' => exact post
  | ret r S' => exact post
  | exc c fs env' S' => exact post
  | bad => exact post
theorem so_never {s : Vy.S} (h : ∀ (C : Cxs) (a : Stmt), chkS G C s a = false) : So G V_ n lim s := fun X C a W B g f hc => by rw [h C a] at hc; cases hc
theorem ss_any {s : Vy.S} {r : SS} (hs : So G V_ n lim s) (hr : SSo G V_ n lim r) : SSo G V_ n lim (.cons s r) := by
  cases s with
  | frz i => exact ss_frz hr
  | fgt is => exact ss_fgt hr
  | _ => exact ss_cons hs hr (by intro i z; cases z) (by intro i z; cases z)
mutual
theorem so_all : ∀ s : Vy.S, So G V_ n lim s
  | .asg i e => so_asg
  | .own i e => so_own
  | .nref i e => so_nref
  | .unp is e => so_unp
  | .par2 i oi j oj a b => so_par2
  | .sett ts e => so_sett
  | .par3 i oi j oj k ok a b c => so_par3
  | .app i e => so_app
  | .appr i e => so_appr
  | .appx a e => so_appx
  | .seto i ix e => so_seto
  | .setr a ix e => so_setr
  | .augo i op ix e => so_augo
  | .augn i op e => so_augn
  | .ext i e => so_ext
  | .pop i j => so_pop
  | .ifs c a b => so_ifs (ss_all a) (ss_all b)
  | .forr tg src it body => so_forr (ss_all body)
  | .whil c body => so_whil (ss_all body)
  | .ret e => so_ret
  | .retn => so_retn
  | .rais c es => so_rais
  | .exprs e => so_exprs
  | .frz i => so_never fun C a => by cases a <;> rfl
  | .fgt is => so_never fun C a => by cases a <;> rfl
  | .pass => so_pass
  | .brk => so_brk
  | .cont => so_cont
theorem ss_all : ∀ s : SS, SSo G V_ n lim s
  | .nil => ss_nil
  | .cons s r => ss_any (so_all s) (ss_all r)
end
end
end Vy
set_option Elab.async false
set_option linter.all false
set_option maxRecDepth 100000
set_option maxHeartbeats 4000000
namespace Vy
open PySem PySem.Spec L2
variable [Tb]

/-! ### defs -/
section
variable {K : PySem.W.Frag} {m m' : List Addr} {H H' : Hp} {S : Sto}
theorem Cells.take : ∀ {S : Sto} {m : List Addr} (n : Nat), Cells K H S m → Cells K H (S.take n) (m.take n)
  | _, _, 0, _ => .nil
  | _, _, _ + 1, .nil => .nil
  | _, _, n + 1, .cons a b => .cons a (Cells.take n b)
theorem take_pre {m m' : List Addr} (h : m <+: m') : m'.take m.length = m := by
  obtain ⟨t, rfl⟩ := h
  simp
theorem Stp.cut (s : Stp m m' H H') : Stp m m H H' := ⟨List.prefix_refl m, s.ext, fun _ h => .inl h⟩
theorem FvR.cut {f : FV} {v : V} (h : FvR K H m' f v) (s : m <+: m') (c : FV.lt m.length f = true) : FvR K H m f v := by
  cases h with
  | d r => exact .d r
  | @c k a e =>
    have hk : k < m.length := of_decide_eq_true c
    refine .c ?_
    obtain ⟨t, rfl⟩ := s
    rw [List.getElem?_append_left hk] at e
    exact e
theorem ObjR.cut {c : Nat} {fs : List FV} {a : Addr} (h : ObjR K H m' c fs a) (s : m <+: m') (e : fs.all (FV.lt m.length) = true) : ObjR K H m c fs a := by
  obtain ⟨dx, gs, h1, h2, h3⟩ := h
  refine ⟨dx, gs, h1, h2, ?_⟩
  clear h1 h2
  induction h3 with
  | nil => exact .nil
  | cons r t ih =>
    rw [List.all_cons, Bool.and_eq_true] at e
    exact .cons (r.cut s e.1) (ih e.2)
theorem letGo_ok {tr : Bool} {r : R} {S' : Sto} {Q : VK} {ex : Nat → List D → Sto → Prop} (h : PX (fun r S' => ∀ m' v H', Stp m m' H H' → Cells K H' S' m' → m'.Nodup → RpR K m' [] H H' r v → Q v H') ex (letGo tr m.length r S')) :
    ∀ m' v H', Stp m m' H H' → Cells K H' S' m' → m'.Nodup → RpR K m' [] H H' r v → Q v H' := by
  intro m' v H' s c nd rp
  cases tr with
  | false => exact h m' v H' s c nd rp
  | true =>
    have c2 : Cells K H' (S'.take m.length) m := by
      have z := c.take m.length
      rw [take_pre s.pre] at z
      exact z
    have nd2 : m.Nodup := (s.pre.sublist).nodup nd
    have sub : ∀ a, a ∉ m' → a ∉ m := fun a z w => z (s.pre.subset w)
    cases rp with
    | p q => exact h m _ H' s.cut c2 nd2 (.p q)
    | nl a b c d => exact h m _ H' s.cut c2 nd2 (.nl a (sub _ b) c d)
    | nd a b c d => exact h m _ H' s.cut c2 nd2 (.nd a (sub _ b) c d)
    | nT a b c d => exact h m _ H' s.cut c2 nd2 (.nT a (sub _ b) c d)
    | @obj c fs a q =>
      simp only [letGo, if_true] at h
      split at h
      · rename_i hc
        exact h m _ H' s.cut c2 nd2 (.obj (q.cut s.pre hc))
      · exact h.elim
    | bw b c d => exact absurd c (by simp)
    | @ref k a q =>
      simp only [letGo, if_true] at h
      by_cases hk : k < m.length
      · rw [if_pos hk] at h
        refine h m _ H' s.cut c2 nd2 (.ref ?_)
        obtain ⟨t, rfl⟩ := s.pre
        rw [List.getElem?_append_left hk] at q
        exact q
      · rw [if_neg hk] at h
        have hm : a ∉ m := fun z => by
          obtain ⟨t, rfl⟩ := s.pre
          rw [List.getElem?_append_right (by omega)] at q
          exact (List.nodup_append.mp nd).2.2 a z a (List.mem_of_getElem? q) rfl
        have fr : Fr H a := (s.new a (List.mem_of_getElem? q)).elim (fun z => absurd z hm) id
        cases hc : S'[k]? with
        | none => rw [hc] at h; exact h.elim
        | some cc =>
          obtain ⟨a', h1, h2⟩ := c.get hc
          rw [q] at h1
          cases h1
          rw [hc] at h
          cases cc with
          | lst ds => exact h m _ H' s.cut c2 nd2 (.nl fr hm (by simp) h2)
          | dct kvs => exact h m _ H' s.cut c2 nd2 (.nd fr hm (by simp) h2)
          | dcT kvs => exact h m _ H' s.cut c2 nd2 (.nT fr hm (by simp) h2)
theorem letGo_ex {tr : Bool} {Q : Hp → Prop} {S' : Sto} (h : ∀ m' H', Stp m m' H H' → Cells K H' (if tr = true then S'.take m.length else S') m' → m'.Nodup → Q H') : ∀ m' H', Stp m m' H H' → Cells K H' S' m' → m'.Nodup → Q H' := by
  intro m' H' s c nd
  cases tr with
  | false => exact h m' H' s c nd
  | true =>
    have z := c.take m.length
    rw [take_pre s.pre] at z
    exact h m H' s.cut z ((s.pre.sublist).nodup nd)
end
section
variable {K : PySem.W.Frag} {m : List Addr} {H : Hp}
theorem slots_none : ∀ n : Nat, Slots K H m (List.replicate n none) (List.replicate n none) []
  | 0 => .nil
  | n + 1 => by
    have z := Slots.cons (s := none) (o := none) (K := K) (H := H) (m := m) (.no none) (slots_none n)
    exact z
theorem slots_args : ∀ {rs : List R} {vs : List V} {env : Ev} {env2 : Ev} {σ2 : L2.St}, RpL K m [] H rs vs → argE rs = some env → Slots K H m env2 σ2 [] → Slots K H m (env ++ env2) (vs.map some ++ σ2) []
  | _, _, env, env2, σ2, .nil, e, h => by cases e; exact h
  | _, _, env, env2, σ2, @RpL.cons _ _ _ _ _ H0 r v rs vs a b, e, h => by
    unfold argE at e
    cases h1 : argS r with
    | none => rw [h1] at e; cases e
    | some sv =>
      cases h2 : argE rs with
      | none => rw [h1, h2] at e; cases e
      | some e2 =>
        rw [h1, h2] at e
        cases e
        have ih := slots_args b h2 h
        cases a with
        | p q => cases h1; exact Slots.cons (as := []) (.p q) ih
        | ref q => cases h1; exact Slots.cons (as := []) (.ref q) ih
        | nl => cases h1
        | nd => cases h1
        | nT => cases h1
        | obj q => cases h1; exact Slots.cons (as := []) (.obj q) ih
        | bw => cases h1
theorem argE_len : ∀ {rs : List R} {env : Ev}, argE rs = some env → env.length = rs.length
  | [], env, e => by cases e; rfl
  | r :: rs, env, e => by
    unfold argE at e
    cases h1 : argS r with
    | none => rw [h1] at e; cases e
    | some sv =>
      cases h2 : argE rs with
      | none => rw [h1, h2] at e; cases e
      | some e2 => rw [h1, h2] at e; cases e; simp [argE_len h2]
theorem argE_ok : ∀ {rs : List R} {env : Ev}, argE rs = some env → ∀ r ∈ rs, argS r ≠ none
  | [], _, _ => by simp
  | r :: rs, env, h => by
    unfold argE at h
    cases h1 : argS r with
    | none => rw [h1] at h; cases h
    | some sv =>
      cases h3 : argE rs with
      | none => rw [h1, h3] at h; cases h
      | some e2 =>
        intro x hx
        rcases List.mem_cons.mp hx with hx | hx
        · rw [hx, h1]; exact fun z => by cases z
        · exact argE_ok h3 x hx
theorem runF_ar {P : List FnI} {cs : List D} {lim n f : Nat} {rs : List R} {S : Sto} {fn : FnI} (h : P[f]? = some fn) (hi : fn.ini = none) : runF P cs lim n f rs S = .bad ∨ (rs.length = fn.np ∧ ∀ r ∈ rs, argS r ≠ none) := by
  cases n with
  | zero => exact .inl rfl
  | succ n =>
    unfold runF
    rw [h]
    simp only
    unfold frmE
    rw [hi]
    simp only
    by_cases hl : rs.length = fn.np ∧ fn.np ≤ fn.ns
    · rw [if_pos hl]
      cases h2 : argE rs with
      | none => exact .inl rfl
      | some env => exact .inr ⟨hl.1, argE_ok h2⟩
    · rw [if_neg hl]
      exact .inl rfl
theorem runF_arI {P : List FnI} {cs : List D} {lim n f np : Nat} {rs : List R} {S : Sto} {fn : FnI} {q : Nat × List (E × Nat × Es) × List (Str × FK)} (h : P[f]? = some fn) (hi : fn.ini = some q) (hp : fn.np = np + 1) : runF P cs lim n f rs S = .bad ∨ (rs.length = np ∧ ∀ r ∈ rs, argS r ≠ none) := by
  cases n with
  | zero => exact .inl rfl
  | succ n =>
    unfold runF
    rw [h]
    simp only
    unfold frmE
    rw [hi]
    simp only
    by_cases hl : rs.length + 1 = fn.np ∧ fn.np ≤ fn.ns
    · rw [if_pos hl]
      cases h2 : argE rs with
      | none => exact .inl rfl
      | some env => exact .inr ⟨by omega, argE_ok h2⟩
    · rw [if_neg hl]
      exact .inl rfl
end
end Vy
set_option Elab.async false
set_option linter.all false
set_option maxRecDepth 100000
set_option maxHeartbeats 4000000
namespace Vy
open PySem PySem.Spec L2 PyProof.Rows
variable [Tb]

/-- the surroundings with the meaning of defs to the depth n -/
def vN (V_ : Nv) (FP : List FnI) (cs : List D) (lim n : Nat) : Nv := ⟨V_.K, V_.ca, V_.fl, ⟨runF FP cs lim n, cs⟩⟩
theorem fn_G {P : Program} {w : World} {K : PySem.W.Frag} {mg : Str → Option Value} {base : Heap} {gd : Bool} {dp n lm : Nat} {f : Addr} {name qual : Str} {params : Arguments} {body : List Stmt} {scope : Scope} {dV kV doc pm cdv ct oc : Value} {an od : Option Addr} {osl : Array (Option Value)}
    {N ps : List Str} {FP : List FnI} {cs : List D} {lim fi : Nat} {fn : FnI} {G : GT} (V_ : Nv) (hK : V_.K = K)
    (lk : K.lookup f = some ⟨oc, od, .func (PySem.W.fnOf name qual params body scope dV kV doc pm an cdv ct), osl⟩) (hcd : PySem.W.codeIn K cdv qual = true) (S : FnScope N ps scope)
    (hfn : FP[fi]? = some fn) (hi : fn.ini = none) (hnp : fn.np = ps.length) (hns : fn.ns = N.length) (hc : chkSS G ⟨N, scope, fun _ => true, gd, lm⟩ fn.body body = true)
    (hge : Ge G (vN V_ FP cs lim dp) n P w mg base) (hgx : Gx G (vN V_ FP cs lim dp) P w mg base) (h2 : 2 ≤ n + lm)
    (ht : 2 ≤ lm → ∀ (A : Around) (outer : List Env) (s : Shared) (H : Hp) (E : XK), Room (n + lm) (A.deeper (envOfC qual scope s.heap.objs.size f cdv)) → ToldOk (vN V_ FP cs lim dp) n G.tn G.ws (cxOf (L2.CX P w) P w K mg base N qual scope f cdv A outer s H E)) :
    FnG P w K mg base gd (n + lm + 1) f (PySem.W.fnOf name qual params body scope dV kV doc pm an cdv ct) ps (spF V_ ps.length (runF FP cs lim (dp + 1) fi)) := by
  subst hK
  refine ⟨fun vs H Q E h => h.1, fun A outer s H args us vs Q E hr hg e0 hb r hsp => ?_⟩
  refine LamX.run_ofS (k := n + lm) lk hcd S hr e0 hb r hsp.1 fun hr' => ?_
  obtain ⟨hl, tabs, m, S0, rs, ce, nd, rl, post⟩ := hsp
  generalize hX : cxOf (L2.CX P w) P w V_.K mg base N qual scope f cdv A outer s H E = X
  have g : Gd G (vN V_ FP cs lim dp) n ⟨N, scope, fun _ => true, gd, lm⟩ X := by
    subst hX
    exact ⟨rfl, rfl, S.nd, fun _ => rfl, rfl, rfl, hge, hr', fun z => ht z A outer s H E hr', fun z => hg z⟩
  have fd : Fd G (vN V_ FP cs lim dp) (fun cls d _ H => E cls d H) X := by
    subst hX
    exact ⟨S.kind, takes_of rfl rfl rfl rfl, passes_of rfl, hgx, hr'.mono h2⟩
  refine ⟨_, ss_all (lim := lim) fn.body X _ body _ ⟨m, H, fun _ => True, fun _ _ _ _ => trivial⟩ g fd hc, ?_⟩
  unfold runF at post
  rw [hfn] at post
  simp only at post
  unfold frmE at post
  rw [hi] at post
  simp only at post
  by_cases hz : rs.length = fn.np ∧ fn.np ≤ fn.ns
  · rw [if_pos hz] at post
    cases ha : argE rs with
    | none => rw [ha] at post; exact post.elim
    | some env =>
      rw [ha] at post
      simp only [Option.map_some] at post
      have hsl : Slots V_.K H m (env ++ List.replicate (fn.ns - fn.np) none) (L2.start N vs) [] := by
        unfold L2.start
        rw [hns, hnp, ← hl]
        exact slots_args rl ha (slots_none _)
      refine ⟨m, [], env ++ List.replicate (fn.ns - fn.np) none, S0, ⟨List.prefix_refl m, Ext.refl m H, fun x hx => .inl (by simpa using hx), trivial⟩, ⟨hsl, ce, by simpa using nd, tabs⟩, ?_⟩
      have hlen : S0.length = m.length := ce.len
      show OUT _ _ _ _ (exSS ⟨runF FP cs lim dp, cs⟩ lim fn.body (env ++ List.replicate (fn.ns - fn.np) none) S0)
      generalize exSS ⟨runF FP cs lim dp, cs⟩ lim fn.body (env ++ List.replicate (fn.ns - fn.np) none) S0 = o at post
      cases o with
      | next env' S' =>
        rw [hlen] at post
        intro m' os σ H' en rel
        exact letGo_ok post m' .non H' en.stp rel.ce rel.m_nd (.p .non)
      | ret r' S' =>
        rw [hlen] at post
        intro m' v H' st c nd' rp
        exact letGo_ok post m' v H' st c nd' rp
      | exc c fs env' S' =>
        have post : ∀ m' d H', Stp m m' H H' → Cells V_.K H' (if fn.tr = true then S'.take S0.length else S') m' → m'.Nodup → XdR V_.K H' d (V_.fl c) fs → E (.ref (V_.ca c)) (some d) H' := post
        intro m' d σ H' st cc nd' xd
        rw [hlen] at post
        exact letGo_ex (Q := fun H' => XdR V_.K H' d (V_.fl c) fs → E (.ref (V_.ca c)) (some d) H') (fun m' H' st c nd x => post m' d H' st c nd x) m' H' st cc nd' xd
      | brk env' S' => exact post.elim
      | cnt env' S' => exact post.elim
      | bad => exact post.elim
  · rw [if_neg hz] at post
    exact post.elim
end Vy
set_option Elab.async false
set_option linter.all false
set_option maxRecDepth 100000
set_option maxHeartbeats 4000000
namespace Vy
open PySem PySem.Spec L2 PyProof.Rows
variable [Tb]

/-! ### the __init__ of a class of the program's own -/
def edictB : Expr → Bool
  | .Dict [] [] _ => true
  | _ => false
/-- a field's first value -/
def chkFK (G : GT) (C : Cxs) : FK → Expr → Bool
  | .dat e, y => chkE G C e y
  | .lst e, y => chkE G C e y
  | .dct, y => edictB y
  | .dcT, y => edictB y
/-- the statements of an __init__; s: the first parameter -/
def chkIni (G : GT) (C : Cxs) (c : Nat) (s : Str) : List (E × Nat × Es) → List (Str × FK) → List Stmt → Bool
  | ps, fl, .Expr (.Constant (.str _) _ _) _ :: l => chkIni G C c s ps fl l
  | (e, k, es) :: ps, fl, .If x [st] [] _ :: l => chkE G C e x && chkS G C (.rais k es) st && chkIni G C c s ps fl l
  | [], (x, k) :: fl, .Assign [.Attribute (.Name s' _) x' _] y _ :: l => decide (s' = s) && decide (x' = x) && plainE y && chkFK G C k y && chkIni G C c s [] fl l
  | [], [], [] => true
  | _, _, _ => false
theorem chkIni_inv {G : GT} {C : Cxs} {c : Nat} {s : Str} {ps : List (E × Nat × Es)} {fl : List (Str × FK)} {st : Stmt} {l : List Stmt} (h : chkIni G C c s ps fl (st :: l) = true) :
    (∃ t k p pos, st = .Expr (.Constant (.str t) k p) pos ∧ chkIni G C c s ps fl l = true) ∨
    (∃ e k es ps' x st' pos, ps = (e, k, es) :: ps' ∧ st = .If x [st'] [] pos ∧ chkE G C e x = true ∧ chkS G C (.rais k es) st' = true ∧ chkIni G C c s ps' fl l = true) ∨
    (∃ x k fl' p1 p2 y pos, ps = [] ∧ fl = (x, k) :: fl' ∧ st = .Assign [.Attribute (.Name s p1) x p2] y pos ∧ plainE y = true ∧ chkFK G C k y = true ∧ chkIni G C c s [] fl' l = true) := by
  unfold chkIni at h
  split at h
  · rename_i heq
    cases heq
    exact .inl ⟨_, _, _, _, rfl, h⟩
  · rename_i heq
    cases heq
    simp only [Bool.and_eq_true] at h
    exact .inr (.inl ⟨_, _, _, _, _, _, _, rfl, rfl, h.1.1, h.1.2, h.2⟩)
  · rename_i heq
    cases heq
    simp only [Bool.and_eq_true, decide_eq_true_eq] at h
    obtain ⟨⟨⟨⟨rfl, rfl⟩, h1⟩, h2⟩, h3⟩ := h
    exact .inr (.inr ⟨_, _, _, _, _, _, _, rfl, rfl, rfl, h1, h2, h3⟩)
  · rename_i heq
    cases heq
  · cases h
theorem edict_inv {y : Expr} (h : edictB y = true) : ∃ p, y = .Dict [] [] p := by
  unfold edictB at h
  split at h
  · exact ⟨_, rfl⟩
  · cases h
theorem putF_new {f : Str} {v : V} : ∀ {gs : List (Str × V)}, f ∉ gs.map (·.1) → putF f v gs = gs ++ [(f, v)]
  | [], _ => rfl
  | (g, x) :: r, h => by
    rw [List.map_cons, List.mem_cons] at h
    show (if g = f then (g, v) :: r else (g, x) :: putF f v r) = _
    rw [if_neg (fun e => h (.inl e.symm)), putF_new (fun z => h (.inr z))]
    rfl
section
variable {K : PySem.W.Frag} {m m' os : List Addr} {H H' H0 : Hp} {S : Sto} {env : Ev} {σ : L2.St} {x C dx : Addr} {gs gs' : List (Str × V)}
theorem Kep.insW (t : H x = Option.some (.ins C dx gs)) : Kep H (upd H x (.ins C dx gs')) :=
  ⟨fun b xs h => by rw [upd_ne (fun e => by rw [e, t] at h; cases h)]; exact h, fun b o u h => by rw [upd_ne (fun e => by rw [e, t] at h; cases h)]; exact h⟩
theorem tabs_insW (t : H x = Option.some (.ins C dx gs)) (h : LamX.Tabs Tb.T H) : LamX.Tabs Tb.T (upd H x (.ins C dx gs')) := fun q hq => by
  obtain ⟨ps, h1, h2, h3⟩ := h q hq
  refine ⟨ps, by rw [upd_ne (fun e => by rw [e, t] at h1; cases h1)]; exact h1, h2, fun pos cv hc => ?_⟩
  obtain ⟨c, e1, e2⟩ := h3 pos cv hc
  exact ⟨c, e1, by rw [upd_ne (fun e => by rw [e, t] at e2; cases e2)]; exact e2⟩
theorem Stp.insW (s : Stp m m' H0 H) (n : Fr H0 x) (t : H x = Option.some (.ins C dx gs)) : Stp m m' H0 (upd H x (.ins C dx gs')) where
  pre := s.pre
  new := s.new
  ext := ⟨fun b o' h hm ht => by rw [upd_ne (n.ne h ht)]; exact s.ext.keep b o' h hm ht, fun b xs h => by rw [upd_ne (n.ne h fun ps z => by cases z)]; exact s.ext.fixT b xs h,
    fun b o' u h => by rw [upd_ne (n.ne h fun ps z => by cases z)]; exact s.ext.fixF b o' u h, fun b C dx gs h => by rw [upd_ne (n.ne h fun ps z => by cases z)]; exact s.ext.fixI b C dx gs h, fun b h => by
      by_cases e : b = x
      · rw [e]; exact n
      · exact s.ext.there b fun o ho => h o (by rw [upd_ne e]; exact ho), fun h => tabs_insW t (s.ext.tab h)⟩
theorem CellR.insW {a : Addr} {c : Cell} (r : CellR K H a c) (t : H x = Option.some (.ins C dx gs)) : CellR K (upd H x (.ins C dx gs')) a c := by
  have k := Kep.insW (gs' := gs') t
  have ne : a ≠ x := fun e => by
    obtain ⟨o, h1, h2, _⟩ := r.there
    rw [e, t] at h1
    cases h1
    exact h2
  cases c with
  | lst ds => obtain ⟨vs, h1, h2⟩ := r; exact ⟨vs, by rw [upd_ne ne]; exact h1, h2.kep k⟩
  | dct kvs => obtain ⟨vs, h1, h2⟩ := r; exact ⟨vs, by rw [upd_ne ne]; exact h1, Paired.mapP h2 fun _ _ z => ⟨z.1, z.2.kep k⟩⟩
  | dcT kvs => obtain ⟨vs, h1, h2⟩ := r; exact ⟨vs, by rw [upd_ne ne]; exact h1, Paired.mapP h2 fun _ _ z => ⟨z.1, z.2.kep k⟩⟩
theorem FvR.insW {f : FV} {v : V} (r : FvR K H m f v) (t : H x = Option.some (.ins C dx gs)) : FvR K (upd H x (.ins C dx gs')) m f v := by
  cases r with
  | d r => exact .d (r.kep (Kep.insW t))
  | c e => exact .c e
theorem Slots.insW (h : Slots K H m env σ os) (t : H x = Option.some (.ins C dx gs)) (no : noObj env = true) : Slots K (upd H x (.ins C dx gs')) m env σ os := by
  have k := Kep.insW (gs' := gs') t
  induction h with
  | nil => exact .nil
  | cons r _ ih =>
    unfold noObj at no ih
    rw [List.all_cons, Bool.and_eq_true] at no
    refine .cons ?_ (ih no.2)
    cases r with
    | no => exact .no _
    | p r => exact .p (r.kep k)
    | ref e => exact .ref e
    | own c => exact .own (c.insW t)
    | obj _ => exact absurd no.1 (by simp)
theorem Rel.insW (h : Rel K m os env S σ H) (t : H x = Option.some (.ins C dx gs)) (no : noObj env = true) : Rel K m os env S σ (upd H x (.ins C dx gs')) := by
  refine ⟨h.sl.insW t no, ?_, h.nd, tabs_insW t h.tb⟩
  have ce := h.ce
  clear h
  induction ce with
  | nil => exact .nil
  | cons r _ ih => exact .cons (r.insW t) ih
end
/-- an instance that is being made -/
structure Nw (K : PySem.W.Frag) (c : Nat) (x dx : Addr) (m0 : List Addr) (H0 : Hp) (m : List Addr) (env : Ev) (S : Sto) (σ : L2.St) (H : Hp) (done : List Str) (fs : List FV) : Prop where
  stp : Stp m0 m H0 H
  rel : Rel K m [] env S σ H
  ob : ∃ gs, H x = some (.ins (Tb.oc c) dx gs) ∧ gs.map (·.1) = done ∧ Paired (fun p q => FvR K H m p q.2) fs gs
  fr : Fr H0 x
  s0 : σ[0]? = some (some (.ref x))
  no : noObj env = true
section
variable {K : PySem.W.Frag} {c : Nat} {x dx : Addr} {m0 m m2 : List Addr} {H0 H H2 : Hp} {env : Ev} {S S2 : Sto} {σ : L2.St} {done : List Str} {fs : List FV} {f : FV} {nm : Str} {y : V}
theorem Nw.step (N : Nw K c x dx m0 H0 m env S σ H done fs) (s : Stp m m2 H H2) (rel : Rel K m2 [] env S2 σ H2) : Nw K c x dx m0 H0 m2 env S2 σ H2 done fs := by
  obtain ⟨gs, h1, h2, h3⟩ := N.ob
  exact ⟨N.stp.trans s, rel, ⟨gs, s.ext.fixI _ _ _ _ h1, h2, Paired.mapP h3 fun _ _ z => z.ext s.pre s.ext⟩, N.fr, N.s0, N.no⟩
/-- a field is stored -/
theorem Nw.put (N : Nw K c x dx m0 H0 m env S σ H done fs) (r : FvR K H m f y) (nd : nm ∉ done) : ∃ gs, H x = some (.ins (Tb.oc c) dx gs) ∧ gs.length = done.length ∧ Nw K c x dx m0 H0 m env S σ (upd H x (.ins (Tb.oc c) dx (putF nm y gs))) (done ++ [nm]) (fs ++ [f]) := by
  obtain ⟨gs, h1, h2, h3⟩ := N.ob
  refine ⟨gs, h1, by rw [← h2, List.length_map], N.stp.insW N.fr h1, N.rel.insW h1 N.no, ⟨_, upd_same, ?_, ?_⟩, N.fr, N.s0, N.no⟩
  · rw [putF_new (by rw [h2]; exact nd), List.map_append, h2]
    rfl
  · rw [putF_new (by rw [h2]; exact nd)]
    exact Paired.snoc (Paired.mapP h3 fun _ _ z => z.insW h1) (r.insW h1)
end
theorem Res.bind_ok {α β : Type} {a : α} {S : Sto} {k : α → Sto → Res β} : (Res.ok a S).bind k = k a S := rfl
/-- what is wished of what is left of an __init__ -/
def okN (V_ : Nv) (x : Addr) (m0 : List Addr) (H0 : Hp) (nx : Hp → Prop) (r : R) (S' : Sto) : Prop := ∀ m' H', Stp m0 m' H0 H' → Cells V_.K H' S' m' → m'.Nodup → RpR V_.K m' [] H0 H' r (.ref x) → nx H'
def exN (V_ : Nv) (W : WX) (m0 : List Addr) (H0 : Hp) (k : Nat) (ds : List D) (S' : Sto) : Prop := ∀ m' d σ' H', Stp m0 m' H0 H' → Cells V_.K H' S' m' → m'.Nodup → XdR V_.K H' d (V_.fl k) ds → W (.ref (V_.ca k)) (some d) σ' H'
def tNw (V_ : Nv) (W : WX) (c : Nat) (x dx : Addr) (m0 : List Addr) (H0 : Hp) (ps : List (E × Nat × Es)) (fl : List (Str × FK)) : TS := fun D σ H => ∃ m env S done fs, Nw V_.K c x dx m0 H0 m env S σ H done fs ∧ Tb.ol c = done ++ fl.map (·.1) ∧
  PX (okN V_ x m0 H0 fun H' => D.nx σ H') (exN V_ W m0 H0) ((preF V_.F ps env S).bind fun _ S => iniF V_.F c fl env S fs)
section
variable {G : GT} {V_ : Nv} {n : Nat} {C : Cxs} {X : Cx} {W : WX} {c : Nat} {x dx : Addr} {m0 : List Addr} {H0 : Hp} {s : Str}
theorem exN.w {m : List Addr} {env : Ev} {σ : L2.St} {H : Hp} {k : Nat} {ds : List D} {S' : Sto} (st : Stp m0 m H0 H) (h : exN V_ W m0 H0 k ds S') : exW V_ W m [] env σ H k ds S' :=
  fun m' d H' s r xd => h m' d σ H' (st.trans s) r.ce r.m_nd xd
theorem fld_new {fl : List (Str × FK)} {done : List Str} {nm : Str} {k : FK} (hol : Tb.ol c = done ++ ((nm, k) :: fl).map (·.1)) (nd : (Tb.ol c).Nodup) : nm ∉ done ∧ Tb.ol c = (done ++ [nm]) ++ fl.map (·.1) := by
  refine ⟨fun z => ?_, by rw [hol]; simp⟩
  rw [hol] at nd
  exact (List.nodup_append.mp nd).2.2 nm z nm (by simp) rfl
theorem ini_ok (g : Gd G V_ n C X) (f : Fd G V_ W X) (hs : chkN C 0 s = true) (hcl : L2.Cls V_.K (Tb.oc c)) (nd : (Tb.ol c).Nodup) (hl : (Tb.ol c).length ≤ 900) :
    ∀ (l : List Stmt) (ps : List (E × Nat × Es)) (fl : List (Str × FK)), (∀ p ∈ fl, L2.NoAttr V_.K (Tb.oc c) p.1) → chkIni G C c s ps fl l = true → PSs X l (tNw V_ W c x dx m0 H0 ps fl) := by
  rw [← g.K] at hcl
  intro l
  induction l with
  | nil =>
    intro ps fl hn h
    unfold chkIni at h
    split at h <;> rename_i h1 <;> try (cases h1; done)
    · refine pss_nil.imp fun D σ H q => ?_
      obtain ⟨m, env, S, done, fs, N, hol, post⟩ := q
      obtain ⟨gs, h1, h2, h3⟩ := N.ob
      refine post m H N.stp N.rel.ce N.rel.m_nd (.obj ⟨dx, gs, h1, ?_, h3⟩)
      rw [h2, hol]
      simp
    · cases h
  | cons st l ih =>
    intro ps fl hn h
    rcases chkIni_inv h with ⟨t, kk, p, pos, rfl, h⟩ | ⟨e, k, es, ps', x0, st', pos, rfl, rfl, h1, h2, h3⟩ | ⟨nm', k, fl', p1, p2, y, pos, rfl, rfl, rfl, hy, h2, h3⟩
    · exact (pss_cons ps_doc (ih ps fl hn h)).imp fun D σ H q => q
    · -- a refusal
      refine (pss_cons (ps_if (pos := pos) (se_all e X C x0 W g f.tk h1).2 (pss_one (so_all (lim := 0) (.rais k es) X C st' W ⟨m0, H0, fun _ => True, fun _ _ _ _ => trivial⟩ g f h2)) pss_nil) (ih ps' fl hn h3)).imp fun D σ H q => ?_
      obtain ⟨m, env, S, done, fs, N, hol, post⟩ := q
      have post : PX (okN V_ x m0 H0 fun H' => D.nx σ H') (exN V_ W m0 H0) (((evE V_.F e env S).bind fun x S => opt S (truR S x)).bind fun t S => (if t = true then (evFz V_.F es env S).bind fun ds S => .exc k ds S else preF V_.F ps' env S).bind fun _ S => iniF V_.F c fl env S fs) := by
        unfold preF at post
        generalize evE V_.F e env S = r at post ⊢
        cases r with
        | bad => exact post
        | exc => exact post
        | ok r S1 =>
          simp only [Res.bind] at post ⊢
          cases h5 : truR S1 r with
          | none => rw [h5] at post; exact post
          | some t => rw [h5] at post; exact post
      refine ⟨m, [], env, S, N.rel, PX.mono (PX.bind post) (fun t S1 z m1 H1 s1 rel1 => ?_) fun k ds S' z => exN.w N.stp z⟩
      have N1 := N.step s1 rel1
      cases t with
      | true =>
        refine iteT ?_
        refine ⟨m1, [], env, S1, ⟨N1.stp.pre, N1.stp.ext, fun y hy => N1.stp.new y (by simpa using hy), trivial⟩, rel1, ?_⟩
        rw [if_pos rfl] at z
        unfold exS
        cases h6 : evFz V_.F es env S1 with
        | bad => rw [h6] at z; exact z
        | exc k2 ds2 S2 => rw [h6] at z; exact fun m' d σ' H' st ce nd xd => z m' d σ' H' st ce nd xd
        | ok ds2 S2 => rw [h6] at z; exact fun m' d σ' H' st ce nd xd => z m' d σ' H' st ce nd xd
      | false =>
        refine iteF ?_
        rw [if_neg (by decide)] at z
        exact ⟨m1, env, S1, done, fs, N1, hol, z⟩
    · -- a field
      have hna := hn _ List.mem_cons_self
      rw [← g.K] at hna
      have hn' : ∀ p ∈ fl', L2.NoAttr V_.K (Tb.oc c) p.1 := fun p hp => hn p (List.mem_cons_of_mem _ hp)
      have hsw : swapsWith y (some (.Attribute (.Name s p1) nm' p2)) pos.line X.env = pure false := by cases y <;> first | rfl | cases hy
      have rest := ih [] fl' hn' h3
      have store : ∀ {D : Ends} {σ : L2.St} {m : List Addr} {env : Ev} {S : Sto} {H : Hp} {done : List Str} {fs : List FV} {f : FV} {v : V}, Nw V_.K c x dx m0 H0 m env S σ H done fs → Tb.ol c = done ++ ((nm', k) :: fl').map (·.1) → FvR V_.K H m f v →
          PX (okN V_ x m0 H0 fun H' => D.nx σ H') (exN V_ W m0 H0) (iniF V_.F c fl' env S (fs ++ [f])) →
          tVar 0 σ H fun x' H2 => ∃ a C2 dx2 fs, x' = .ref a ∧ H2 a = some (.ins C2 dx2 fs) ∧ L2.Cls X.K C2 ∧ L2.NoAttr X.K C2 nm' ∧ fs.length < 1000 ∧ tNw V_ W c x dx m0 H0 [] fl' D σ (upd H2 a (.ins C2 dx2 (putF nm' v fs))) := by
        intro D σ m env S H done fs f v N hol r post
        obtain ⟨h5, h6⟩ := fld_new hol nd
        obtain ⟨gs, e1, e2, N2⟩ := N.put r h5
        refine ⟨_, N.s0, x, _, dx, gs, rfl, e1, hcl, hna, ?_, m, env, S, _, _, N2, h6, post⟩
        rw [e2]
        have : done.length ≤ (Tb.ol c).length := by rw [hol, List.length_append]; omega
        omega
      cases k with
      | dat e =>
        refine (pss_cons (ps_fld (pos := pos) (var_pe (pos := p1) g hs) (se_all e X C y W g f.tk h2).1.lk hsw) rest).imp fun D σ H q => ?_
        obtain ⟨m, env, S, done, fs, N, hol, post⟩ := q
        unfold preF iniF at post
        simp only [Res.bind_ok] at post
        refine ⟨m, [], env, S, N.rel, PX.mono (PX.bind post) (fun r S1 z m1 v H1 s1 rel1 rp1 => ?_) fun k ds S' z => exN.w N.stp z⟩
        obtain ⟨d, e1, z⟩ := PX.obind z
        refine lk_of s1 rel1 rp1 e1 fun H2 s2 rel2 rp2 => ?_
        exact store (D := D) (N.step s2 rel2) hol (.d rp2) z
      | lst e =>
        refine (pss_cons (ps_fld (pos := pos) (var_pe (pos := p1) g hs) (se_all e X C y W g f.tk h2).1 hsw) rest).imp fun D σ H q => ?_
        obtain ⟨m, env, S, done, fs, N, hol, post⟩ := q
        unfold preF iniF at post
        simp only [Res.bind_ok] at post
        refine ⟨m, [], env, S, N.rel, PX.mono (PX.bind post) (fun r S1 z m1 v H1 s1 rel1 rp1 => ?_) fun k ds S' z => exN.w N.stp z⟩
        cases rp1 with
        | @nl ds a fr hm ho cr =>
          have N1 := N.step s1 rel1
          have rel2 := rel1.add cr hm ho
          have s2 : Stp m (m1 ++ [a]) H H1 := ⟨s1.pre.trans (pre_add m1 a), s1.ext, fun z hz => (List.mem_append.mp hz).elim (s1.new z) fun hz => by rw [List.mem_singleton.mp hz]; exact .inr fr⟩
          refine store (D := D) (N.step s2 rel2) hol (f := .c S1.length) (.c ?_) z
          rw [rel1.ce.len]
          simp
        | _ => exact z.elim
      | dct =>
        obtain ⟨p3, rfl⟩ := edict_inv h2
        refine (pss_cons (ps_fld (pos := pos) (var_pe (pos := p1) g hs) pe_dnewK hsw) rest).imp fun D σ H q => ?_
        obtain ⟨m, env, S, done, fs, N, hol, post⟩ := q
        unfold preF iniF at post
        simp only [Res.bind_ok] at post
        intro a ha
        have rel1 := N.rel.new (o := .dK []) ha
        have cr : CellR V_.K (upd H a (.dK [])) a (.dct []) := ⟨[], upd_same, .nil⟩
        have rel2 := rel1.add cr (N.rel.offM (Fr.of ha)) (by simp)
        have s2 : Stp m (m ++ [a]) H (upd H a (.dK [])) := ⟨pre_add m a, Ext.new ha, fun z hz => (List.mem_append.mp hz).elim .inl fun hz => by rw [List.mem_singleton.mp hz]; exact .inr (Fr.of ha)⟩
        refine store (D := D) (N.step s2 rel2) hol (f := .c S.length) (.c ?_) post
        rw [N.rel.ce.len]
        simp
      | dcT =>
        obtain ⟨p3, rfl⟩ := edict_inv h2
        refine (pss_cons (ps_fld (pos := pos) (var_pe (pos := p1) g hs) pe_dnewT hsw) rest).imp fun D σ H q => ?_
        obtain ⟨m, env, S, done, fs, N, hol, post⟩ := q
        unfold preF iniF at post
        simp only [Res.bind_ok] at post
        intro a ha
        have rel1 := N.rel.new (o := .dT []) ha
        have cr : CellR V_.K (upd H a (.dT [])) a (.dcT []) := ⟨[], upd_same, .nil⟩
        have rel2 := rel1.add cr (N.rel.offM (Fr.of ha)) (by simp)
        have s2 : Stp m (m ++ [a]) H (upd H a (.dT [])) := ⟨pre_add m a, Ext.new ha, fun z hz => (List.mem_append.mp hz).elim .inl fun hz => by rw [List.mem_singleton.mp hz]; exact .inr (Fr.of ha)⟩
        refine store (D := D) (N.step s2 rel2) hol (f := .c S.length) (.c ?_) post
        rw [N.rel.ce.len]
        simp
end
end Vy
set_option Elab.async false
set_option linter.all false
set_option maxRecDepth 100000
set_option maxHeartbeats 4000000
namespace Vy
open PySem PySem.Spec L2 PyProof.Rows
variable [Tb]

theorem fn_GI {P : Program} {w : World} {K : PySem.W.Frag} {mg : Str → Option Value} {base : Heap} {gd : Bool} {dp n c np : Nat} {f : Addr} {name qual s : Str} {params : Arguments} {body : List Stmt} {scope : Scope} {dV kV doc pm cdv ct oc : Value} {an od : Option Addr} {osl : Array (Option Value)}
    {N ps : List Str} {FP : List FnI} {cs : List D} {lim fi : Nat} {fn : FnI} {G : GT} {pres : List (E × Nat × Es)} {fl : List (Str × FK)} (V_ : Nv) (hK : V_.K = K)
    (lk : K.lookup f = some ⟨oc, od, .func (PySem.W.fnOf name qual params body scope dV kV doc pm an cdv ct), osl⟩) (hcd : PySem.W.codeIn K cdv qual = true) (S : FnScope N ps scope)
    (hfn : FP[fi]? = some fn) (hi : fn.ini = some (c, pres, fl)) (htr : fn.tr = false) (hnp : fn.np = ps.length) (hps : ps.length = np + 1) (hns : fn.ns = N.length) (hc : chkIni G ⟨N, scope, fun _ => true, gd, 0⟩ c s pres fl body = true) (hs : chkN ⟨N, scope, fun _ => true, gd, 0⟩ 0 s = true)
    (hcl : L2.Cls K (Tb.oc c)) (nd : (Tb.ol c).Nodup) (hl9 : (Tb.ol c).length ≤ 900) (hol : Tb.ol c = fl.map (·.1)) (hna : ∀ p ∈ fl, L2.NoAttr K (Tb.oc c) p.1)
    (hge : Ge G (vN V_ FP cs lim dp) n P w mg base) (hgx : Gx G (vN V_ FP cs lim dp) P w mg base) (h2 : 2 ≤ n) :
    FnG P w K mg base gd (n + 1) f (PySem.W.fnOf name qual params body scope dV kV doc pm an cdv ct) ps (spNw V_ c np (runF FP cs lim (dp + 1) fi)) := by
  subst hK
  have len : ∀ vs H Q E, spNw V_ c np (runF FP cs lim (dp + 1) fi) vs H Q E → vs.length = ps.length := by
    rintro vs H Q E ⟨x, dx, H1, vs', rfl, _, _, _, _, hl, _⟩
    rw [List.length_cons, hl, hps]
  refine ⟨len, fun A outer s' H args us vs Q E hr hg e0 hb r hsp => ?_⟩
  refine LamX.run_ofS (k := n) lk hcd S hr e0 hb r (len _ _ _ _ hsp) fun hr' => ?_
  obtain ⟨x, dx, H1, vs', rfl, hx, hdx, ne, rfl, hl, tabs, m, S0, rs, ce, ndm, rl, post⟩ := hsp
  generalize hX : cxOf (L2.CX P w) P w V_.K mg base N qual scope f cdv A outer s' (upd (upd H1 dx (.own x)) x (.ins (Tb.oc c) dx [])) E = X
  have g : Gd G (vN V_ FP cs lim dp) n ⟨N, scope, fun _ => true, gd, 0⟩ X := by
    subst hX
    exact ⟨rfl, rfl, S.nd, fun _ => rfl, rfl, rfl, hge, hr', fun z => absurd (show 2 ≤ 0 from z) (by decide), fun z => hg z⟩
  have fd : Fd G (vN V_ FP cs lim dp) (fun cls d _ H => E cls d H) X := by
    subst hX
    exact ⟨S.kind, takes_of rfl rfl rfl rfl, passes_of rfl, hgx, hr'.mono h2⟩
  refine ⟨_, ini_ok (c := c) (x := x) (dx := dx) (m0 := m) (H0 := H1) (W := fun cls d _ H => E cls d H) g fd hs hcl nd hl9 body pres fl hna hc, ?_⟩
  unfold runF at post
  rw [hfn] at post
  simp only at post
  unfold frmE at post
  rw [hi] at post
  simp only at post
  by_cases hz : rs.length + 1 = fn.np ∧ fn.np ≤ fn.ns
  · rw [if_pos hz] at post
    cases ha : argE rs with
    | none => rw [ha] at post; exact post.elim
    | some env =>
      rw [ha] at post
      simp only [Option.map_some] at post
      by_cases hno : noObj (none :: (env ++ List.replicate (fn.ns - fn.np) none)) = true
      · rw [if_pos hno] at post
        have s1 : Stp m m H1 (upd (upd H1 dx (.own x)) x (.ins (Tb.oc c) dx [])) := (Stp.of (Ext.new hdx)).new' (by rw [upd_ne ne.symm]; exact hx)
        have hsl : Slots V_.K H1 m (none :: (env ++ List.replicate (fn.ns - fn.np) none)) (L2.start N (.ref x :: vs')) [] := by
          have e : L2.start N (.ref x :: vs') = some (.ref x) :: (vs'.map some ++ List.replicate (fn.ns - fn.np) none) := by
            unfold L2.start
            rw [hns, hnp, hps, ← hl]
            rfl
          rw [e]
          have z := Slots.cons (as := []) (K := V_.K) (H := H1) (m := m) (.no (some (.ref x))) (slots_args rl ha (slots_none (fn.ns - fn.np)))
          exact z
        have rel0 : Rel V_.K m [] (none :: (env ++ List.replicate (fn.ns - fn.np) none)) S0 (L2.start N (.ref x :: vs')) H1 := ⟨hsl, ce, by simpa using ndm, tabs⟩
        have rel1 : Rel V_.K m [] (none :: (env ++ List.replicate (fn.ns - fn.np) none)) S0 (L2.start N (.ref x :: vs')) (upd (upd H1 dx (.own x)) x (.ins (Tb.oc c) dx [])) :=
          (rel0.new hdx).new (by rw [upd_ne ne.symm]; exact hx)
        refine ⟨m, _, S0, [], [], ⟨s1, rel1, ⟨[], upd_same, rfl, .nil⟩, Fr.of hx, rfl, hno⟩, by rw [hol]; rfl, PX.mono post (fun r S' z m' H' st c nd' rp => z m' _ H' st c nd' rp rfl) fun k ds S' z m' d σ' H' st c nd' xd => z m' d H' st c nd' xd⟩
      · rw [if_neg hno] at post
        exact post.elim
  · rw [if_neg hz] at post
    exact post.elim
end Vy
set_option Elab.async false
set_option linter.all false
set_option maxRecDepth 100000
set_option maxHeartbeats 4000000
namespace Vy
open PySem PySem.Spec L2 PyProof.Rows
variable [Tb]

/-! ### super().__init__(..) in the __init__ of an own exception over ValueError -/
/-- what the written part says of the class at C, whose __init__ is at fI: cc is the cell of __class__ -/
structure SupC (P : Program) (K : PySem.W.Frag) (mg : Str → Option Value) (C fI cc cda : Addr) (fd : FuncData) : Prop where
  ox : OexC K C
  lk : ∃ oc od osl, K.lookup fI = some ⟨oc, od, .func fd, osl⟩
  code : ∃ ccl cdd vs ccs file tf, K.lookup cda = some ⟨ccl, cdd, .fields vs, ccs⟩ ∧ vs[2]? = some (.str file tf) ∧ ((P.main.file : Str) == file) = true
  cell : ∃ cl cld csl, K.lookup cc = some ⟨cl, cld, .cell (some (.ref C)), csl⟩
  cls : ∃ cd, PySem.W.clsIn K C = some cd ∧ PySem.W.alongIn K "__init__" ((cd.mro.dropWhile (· != .ref C)).drop 1) = some (some (.builtin "ValueError.__init__"))
  sub : PySem.W.mroIn K C (.ref C) = some true
  ve : PySem.W.subIn K (.ref C) (.type "ValueError") = some true
  sup : mg "super" = none
  top : (P.main.scope.names.lookup ("super" : Str)).isSome = false
  opq : PySem.W.nsIn K PySem.cStatics "thirdparty.any" = some none
theorem boot_super : bootBuiltins "super" = some (.type "super") := by decide +kernel
theorem sup_stmt {X : Cx} {pins : List (Addr × Obj)} {σ : L2.St} {H : Hp} {s : Shared} {E : Value → Shared → Prop} {Q : Flow → Shared → Prop} {C fI cc cda a : Addr} {fd : FuncData} {body : List Stmt} {ar : Arg} {e : Expr} {es : List Expr} {ta : TA} {p0 p1 p2 p3 p4 : Pos} {pl : Sem Bool}
    (hc : eval (.Call (.Attribute (.Call (.Name "super" p0) [] [] p1) "__init__" p2) (e :: es) [] p3) X.env = (do
      let ov ← attributeBase (.Call (.Name "super" p0) [] [] p1) "__init__" X.env (eval (.Call (.Name "super" p0) [] [] p1) X.env)
      standAt p2.atName
      let (f, first) ← holding [ov] (getMethod ov "__init__" pl)
      callWith p3 f first (backTo p3 (starEach (e :: es) X.env)) []))
    (T : SupC X.prog X.K X.mg C fI cc cda fd) (I : L2.Inv X pins σ H s) (hfu : X.env.func = some fI) (hco : X.env.code = .ref cda) (hcl : X.env.cells.lookup ("__class__" : Str) = some cc)
    (hp : (fd.params.posonlyargs ++ fd.params.args).head? = some ar) (hN : X.N[0]? = some ar.arg) (hka : X.env.scope.names.lookup ar.arg = some .local) (hks : X.env.scope.names.lookup ("super" : Str) = some .globalImplicit) (hkc : X.env.scope.names.lookup ("__class__" : Str) = some .free)
    (hx : X.xe = E) (ha : PA X (e :: es) ta) (he : starEach (e :: es) X.env = (false, eval e X.env) :: starEach es X.env) (hpl : (backTo p3 (starEach es X.env)).any (·.1) = false)
    (hσ : σ[0]? = some (some (.ref a))) (hH : H a = some (exo a C none)) (ht : ta σ H fun vs H1 => H1 a = some (exo a C none) ∧ vs.length ≤ 1000 ∧ ∀ s', L2.Inv X pins σ H1 s' → Q .next s') :
    _root_.PySem.wpAt (model X.prog X.w) X.A (.func body X.env) (exec (.Expr (.Call (.Attribute (.Call (.Name "super" p0) [] [] p1) "__init__" p2) (e :: es) [] p3) p4) X.env) Q E s := by
  obtain ⟨oc, od, osl, lk⟩ := T.lk
  obtain ⟨ccl, cdd, vs, ccs, file, tf, kcode, hvs, hfile⟩ := T.code
  obtain ⟨cl, cld, csl, kcell⟩ := T.cell
  obtain ⟨cd, hcd, hal⟩ := T.cls
  have KX := I.kIn
  obtain ⟨oD, hD, hDt⟩ : ∃ oD, s.heap.get? C = some oD ∧ oD.data = .cls cd := by
    unfold PySem.W.clsIn at hcd
    split at hcd
    · rename_i ho
      cases hcd
      exact ⟨_, KX _ _ ho, rfl⟩
    · cases hcd
  obtain ⟨t1, hxo⟩ := exo_at I.hok hH
  refine ks_wpAt_Expr_any (ks_wpAt_MethodCall (ks_wpAt_super_base hks hkc (by decide) hfu (KX _ _ lk) rfl hp hco (KX _ _ kcode) rfl hvs hfile T.top ?_) hc) I.quiet rfl
  obtain ⟨mb, b1, b2⟩ := I.mod.blt
  refine PySem.W.ks_loadName_global I.ok.kind hks (Calls.loadGlobal_builtin (by rw [I.ok.glob]; exact I.mod.glob.keeps I.bk) T.sup (by rw [I.ok.blt]; exact b1.keeps I.bk) ((b2 "super" (by decide)).trans boot_super) ⟨rfl, ?_⟩)
  refine wpAny_loadName_free I.ok.kind hkc hcl ⟨_, KX _ _ kcell, rfl⟩ ?_
  obtain ⟨ml, hn, hl⟩ := I.loc
  obtain ⟨u, ru, hlook⟩ := hl 0 ar.arg (.ref a) hN hσ (.inl hka)
  obtain rfl : u = Value.ref a := ru
  have hm : ml ar.arg = some (.ref a) := by
    rcases hlook with ⟨_, z⟩ | ⟨z, _⟩
    · exact z
    · have hka' : X.env.kindOf ar.arg = some .local := hka
      rcases z with z | z <;> rw [hka'] at z <;> cases z
  refine wpAny_loadName_local I.ok.kind hka hn hm ?_
  refine ks_wpAny_isType_cls hD hDt ⟨rfl, ?_⟩
  obtain ⟨hp0, g, d, tk, os⟩ := s
  refine ks_wpAny_call_super hD hDt hxo rfl (fun c z => by cases z) (PySem.W.looks_mroIn KX T.sub) fun h1 hso k1 => ?_
  have I1 : L2.Inv X pins σ H ⟨h1, g, d, tk, os⟩ := I.kept (t' := tk) k1
  have hx1 := k1 _ _ hxo
  have IA : PySem.W.InstAt h1 a ({ cls := .ref C, dict := none, data := .fields #[.ref t1, .none, .none, .none, .bool false, .none] } : Obj) C none := ⟨hx1, rfl, rfl, trivial⟩
  have hI : PySem.W.Looks (model X.prog X.w) h1 (isInstance (.ref a) (.type "ValueError")) true := IA.type.andThen (PySem.W.looks_subIn I1.kIn T.ve)
  refine PySem.W.kxs_getMethod PySem.W.kxs_ValueError hso (PySem.W.looks_opaque I1.kIn T.opq) (l₀ := cd.mro) (fun A Q E s k q => wpAny_bind ((PySem.W.looks_clsIn I1.kIn hcd) A _ E s k (wpAny_pure q))) rfl I1.kIn hal hI (PySem.W.ks_ne I1.kIn IA hcd) (by decide) ?_
  -- the bound __init__ is new: it stays
  have k2 : ∀ b o, h1.get? b = some o → (h1.push (PySem.W.kxs_mw "ValueError.__init__" a)).get? b = some o := fun b o q => Heap.get?_push_of_some _ q
  have hu : (h1.push (PySem.W.kxs_mw "ValueError.__init__" a)).get? h1.objs.size = some (PySem.W.kxs_mw "ValueError.__init__" a) := Heap.get?_push_size _ rfl
  have I2 : L2.Inv X pins σ H ⟨h1.push (PySem.W.kxs_mw "ValueError.__init__" a), g, d, tk + 1, os⟩ := I1.kept (t' := tk + 1) k2
  have I3 := I2.pinned (fp := [h1.objs.size]) (fun b hb => by
    rw [List.mem_singleton.mp hb]
    exact I1.fpOk (Nat.le_refl _) (I1.hok.fresh (Nat.le_refl _))) (fun b hb => by
    rw [List.mem_singleton.mp hb]
    exact ⟨_, hu, fun v z => by cases z⟩)
  have hpin : (h1.objs.size, PySem.W.kxs_mw "ValueError.__init__" a) ∈ pinsAt [h1.objs.size] (h1.push (PySem.W.kxs_mw "ValueError.__init__" a)) := mem_pinsAt List.mem_cons_self hu
  show wpAny _ _ (callWith p3 (.ref h1.objs.size) [] (backTo p3 (starEach (e :: es) X.env)) []) _ _ _
  have hA := ha.run p3 _ _ σ H _ I3 ht
  rw [he] at hA ⊢
  refine PySem.W.kxs_callWith (i := "ValueError.__init__") (x := a) (by show (false || (backTo p3 (starEach es X.env)).any (·.1)) = false; rw [hpl]; rfl) (Calls.evalArgs_plain ?_)
  subst hx
  refine thn hA fun us s4 ⟨vs4, H4, I4, r4, hH4, hlen, hq⟩ => ?_
  have hu4 : s4.heap.get? h1.objs.size = some (PySem.W.kxs_mw "ValueError.__init__" a) := (I4.pin _ (List.mem_append_right _ (List.mem_append_right _ hpin))).1
  refine ⟨hu4, ?_⟩
  show wpAny _ _ (call (.ref h1.objs.size) us) _ _ _
  obtain ⟨t4, hx4⟩ := exo_at I4.hok hH4
  have I5 := I4.unpinned
  have KX4 := I4.kIn
  obtain ⟨nm, q, N, bs, bm, sn, sub, ab, col, dd, k0, k1', k2', k3, k5, hC, hbm⟩ := T.ox.cls
  obtain ⟨h4, g4, d4, tk4, os4⟩ := s4
  refine wpAny_call (codeAny_of_tree ?_)
  show wpAny _ X.A.in1 (callAny (.ref h1.objs.size) ⟨us, []⟩) _ _ _
  simp only [callAny]
  refine wpAny_bind (wpAny_load hu4 ?_)
  simp only [PySem.W.kxs_mw, show (Value.type "method-wrapper" == Value.type "method" || Value.type "method-wrapper" == Value.type "builtin_function_or_method" || Value.type "method-wrapper" == Value.type "method-wrapper") = true by decide, if_true]
  refine PySem.W.KFB.if_so (by decide) ?_
  refine wpAny_bind (PySem.W.check_bound_init F.excBase_ValueError.toExcCallFacts (KX4 _ _ hC) hx4 rfl ?_)
  refine wpAny_bind (wpAny_pure (wpAny_pure ?_))
  refine ⟨plainId_quiet F.excBase_ValueError.init.plain _, codeAny_builtin F.excBase_ValueError.initEntry ?_⟩
  refine PySem.W.exc_init_tree (cls := .ref C) (t0 := t4) (dv := none) (c2 := .none) (c3 := .none) (b4 := .bool false) hx4 ?_ fun h5 k5 hx5 _ => ?_
  · rw [← Paired.length r4, sizeLine_eq]
    omega
  have J := I5.write (t' := tk4) (x := a) (e := a) (o := exo a C none) (by rw [hH4]; exact True.intro) (.inl rfl) k5 ⟨_, hx5⟩ (exo_ok hx5)
  have eu : upd H4 a (exo a C none) = H4 := by
    funext b
    by_cases hb : b = a
    · rw [hb, upd_same, hH4]
    · rw [upd_ne hb]
  rw [eu] at J
  exact hq _ J
end Vy
set_option Elab.async false
set_option linter.all false
set_option maxRecDepth 100000
set_option maxHeartbeats 4000000
namespace Vy
open PySem PySem.Spec L2 PyProof.Rows
variable [Tb]

/-! ### the __init__ of an own exception: super().__init__(f, ..); self.f = f; .. -/
def initC : List Str → List Stmt → Bool
  | [], [] => true
  | f :: fs, .Assign [.Attribute (.Name s _) f' _] (.Name x _) _ :: r => decide (s = "self") && decide (f' = f) && decide (x = f) && initC fs r
  | _, _ => false
def tIn (K : PySem.W.Frag) : Nat → List Str → TS
  | _, [] => tNext
  | i, f :: fs => tSeq (tOst K f (tVar 0) (tVar i)) (tIn K (i + 1) fs)
theorem init_pss {X : Cx} : ∀ {fs : List Str} {i : Nat} {l : List Stmt}, initC fs l = true → X.N[0]? = some ("self" : Str) → Vis X.env.scope ("self" : Str) → (∀ j f, fs[j]? = some f → X.N[i + j]? = some f ∧ Vis X.env.scope f ∧ (f == ("__debug__" : Str)) = false ∧ (f == ("__classdict__" : Str)) = false) → PSs X l (tIn X.K i fs)
  | [], i, [], _, _, _, _ => pss_nil
  | f :: fs, i, st :: r, h, h0, hv, hf => by
    cases st with
    | Assign ts y pos =>
      cases ts with
      | nil => exact absurd (show false = true from h) (by decide)
      | cons t ts =>
        cases ts with
        | cons => cases t with
          | Attribute o f' q => cases o <;> exact absurd (show false = true from h) (by decide)
          | _ => exact absurd (show false = true from h) (by decide)
        | nil =>
          cases t with
          | Attribute o f' q =>
            cases o with
            | Name s q2 =>
              cases y with
              | Name x q3 =>
                have h : (decide (s = "self") && decide (f' = f) && decide (x = f) && initC fs r) = true := h
                simp only [Bool.and_eq_true, decide_eq_true_eq] at h
                obtain ⟨⟨⟨rfl, rfl⟩, rfl⟩, hr⟩ := h
                obtain ⟨a1, a2, a3, a4⟩ := hf 0 _ rfl
                refine pss_cons (ps_ost (pe_var h0 hv) (pe_var (i := i) a1 a2 a3 a4) rfl) (init_pss hr h0 hv fun j g hg => ?_)
                have := hf (j + 1) g (by simpa using hg)
                rw [show i + 1 + j = i + (j + 1) by omega]
                exact this
              | _ => exact absurd (show false = true from h) (by decide)
            | _ => exact absurd (show false = true from h) (by decide)
          | _ => exact absurd (show false = true from h) (by decide)
    | _ => exact absurd (show false = true from h) (by decide)
  | [], _, _ :: _, h, _, _, _ => absurd (show false = true from h) (by decide)
  | _ :: _, _, [], h, _, _, _ => absurd (show false = true from h) (by decide)
/-- the later stores -/
theorem tIn_old {K : PySem.W.Frag} {C a dx : Addr} {Dn : Ends} {σ : L2.St} (T : OexC K C) (hσ : σ[0]? = some (some (.ref a))) : ∀ {fs : List Str} {i : Nat} {ws : List V} {H : Hp} {kvs : List (Str × V)}, (∀ f ∈ fs, PySem.W.findIn K (.ref C) f = some none) →
    fs.length = ws.length → (∀ j v, ws[j]? = some v → σ[i + j]? = some (some v)) → H a = some (exo a C (some dx)) → H dx = some (exd dx kvs) → dx ≠ a → kvs.length + fs.length ≤ 900 →
    (∀ H', H' a = some (exo a C (some dx)) → H' dx = some (exd dx ((fs.zip ws).reverse ++ kvs)) → (∀ b, b ≠ dx → H' b = H b) → Dn.nx σ H') → tIn K i fs Dn σ H
  | [], i, [], H, kvs, _, _, _, ha, hd, _, _, hq => hq H ha hd fun _ _ => rfl
  | f :: fs, i, w :: ws, H, kvs, hn, hl, hw, ha, hd, hne, hz, hq => by
    refine ⟨w, hw 0 w rfl, _, hσ, a, C, rfl, T, hn f List.mem_cons_self, .inr ⟨dx, kvs, ha, hd, by simp at hz; omega, ?_⟩⟩
    refine tIn_old T hσ (fun g hg => hn g (List.mem_cons_of_mem _ hg)) (by simpa using hl) (fun j v hj => ?_) (by rw [upd_ne (Ne.symm hne)]; exact ha) upd_same hne (by simp at hz ⊢; omega) fun H' h1 h2 h3 => hq H' h1 ?_ fun b hb => (h3 b hb).trans (upd_ne hb)
    · rw [show i + 1 + j = i + (j + 1) by omega]
      exact hw (j + 1) v (by simpa using hj)
    · rw [h2]
      simp
  | [], _, _ :: _, _, _, _, hl, _, _, _, _, _, _ => by simp at hl
  | _ :: _, _, [], _, _, _, hl, _, _, _, _, _, _ => by simp at hl
/-- what such an __init__ promises -/
def spI (C : Addr) (fs : List Str) : Sp := fun vs H Q _ => ∃ a ws, vs = .ref a :: ws ∧ ws.length = fs.length ∧ H a = some (exo a C none) ∧
  ∀ d H', H d = none → d ≠ a → H' a = some (exo a C (some d)) → H' d = some (exd d (fs.zip ws).reverse) → (∀ b, b ≠ a → b ≠ d → H' b = H b) → Q .non H'
theorem tIn_new {K : PySem.W.Frag} {C a : Addr} {Q : VK} {σ : L2.St} (T : OexC K C) (hσ : σ[0]? = some (some (.ref a))) {fs : List Str} {ws : List V} {H : Hp} (hn : ∀ f ∈ fs, PySem.W.findIn K (.ref C) f = some none)
    (hl : fs.length = ws.length) (hpos : 1 ≤ fs.length) (hw : ∀ j v, ws[j]? = some v → σ[1 + j]? = some (some v)) (ha : H a = some (exo a C none)) (hz : fs.length ≤ 900)
    (hq : ∀ d H', H d = none → d ≠ a → H' a = some (exo a C (some d)) → H' d = some (exd d (fs.zip ws).reverse) → (∀ b, b ≠ a → b ≠ d → H' b = H b) → Q .non H') : tIn K 1 fs { nx := fun _ H' => Q .non H', rt := Q } σ H := by
  cases fs with
  | nil => simp at hpos
  | cons f fs =>
    cases ws with
    | nil => simp at hl
    | cons w ws =>
      refine ⟨w, hw 0 w rfl, _, hσ, a, C, rfl, T, hn f List.mem_cons_self, .inl ⟨ha, fun dx n hne => ?_⟩⟩
      have hda : dx ≠ a := hne
      refine tIn_old T hσ (dx := dx) (kvs := [(f, w)]) (fun g hg => hn g (List.mem_cons_of_mem _ hg)) (by simpa using hl) (fun j v hj => ?_) upd_same (by rw [upd_ne hda, upd_same]) hda (by simp at hz ⊢; omega) fun H' h1 h2 h3 => ?_
      · rw [show 1 + 1 + j = 1 + (j + 1) by omega]
        exact hw (j + 1) v (by simpa using hj)
      · refine hq dx H' n hda h1 (by rw [h2]; simp) fun b h4 h5 => ?_
        rw [h3 b h5, upd_ne h4, upd_ne h5]
/-- the first statement of such an __init__ -/
def supB (fs : List Str) : Stmt → Bool
  | .Expr (.Call (.Attribute (.Call (.Name s _) [] [] _) i ap) es [] cp) _ => (ap.endLine == cp.line) && decide (s = "super") && decide (i = "__init__") && decide (es.length = fs.length) && (es.zip fs).all fun q => match q.1 with
    | .Name x _ => decide (x = q.2)
    | _ => false
  | _ => false
theorem args_pa {X : Cx} : ∀ {fs : List Str} {es : List Expr} {i : Nat}, es.length = fs.length → ((es.zip fs).all fun q => match q.1 with
    | .Name x _ => decide (x = q.2)
    | _ => false) = true → (∀ j f, fs[j]? = some f → X.N[i + j]? = some f ∧ Vis X.env.scope f ∧ (f == ("__debug__" : Str)) = false ∧ (f == ("__classdict__" : Str)) = false) →
    PA X es (fun σ H Q => ∃ ws : List V, ws.length = fs.length ∧ (∀ j v, ws[j]? = some v → σ[i + j]? = some (some v)) ∧ Q ws H) ∧ starEach es X.env = es.map fun e => (false, eval e X.env)
  | [], [], i, _, _, _ => ⟨pa_nil.imp fun σ H Q ⟨ws, hl, _, q⟩ => by cases ws with | nil => exact q | cons => simp at hl, rfl⟩
  | f :: fs, e :: es, i, hl, h, hf => by
    simp only [List.zip_cons_cons, List.all_cons, Bool.and_eq_true] at h
    cases e with
    | Name x p =>
      obtain ⟨h1, h2⟩ := h
      have h1 := of_decide_eq_true h1
      subst h1
      obtain ⟨a1, a2, a3, a4⟩ := hf 0 _ rfl
      obtain ⟨b1, b2⟩ := args_pa (fs := fs) (es := es) (i := i + 1) (X := X) (by simpa using hl) h2 (fun j g hg => by
        have := hf (j + 1) g (by simpa using hg)
        rw [show i + 1 + j = i + (j + 1) by omega]
        exact this)
      have e0 : starEach (.Name x p :: es) X.env = (false, eval (.Name x p) X.env) :: starEach es X.env := rfl
      refine ⟨(pa_cons (pe_var (i := i) (pos := p) a1 a2 a3 a4) b1 e0).imp fun σ H Q ⟨ws, hl', hw, q⟩ => ?_, by rw [e0, b2]; rfl⟩
      cases ws with
      | nil => simp at hl'
      | cons w ws =>
        refine ⟨w, hw 0 w rfl, ws, by simpa using hl', fun j v hj => ?_, q⟩
        rw [show i + 1 + j = i + (j + 1) by omega]
        exact hw (j + 1) v (by simpa using hj)
    | _ => exact absurd (show false = true from h.1) (by decide)
  | [], _ :: _, _, hl, _, _ => by simp at hl
  | _ :: _, [], _, hl, _, _ => by simp at hl
theorem back_any {pos : Pos} {env : Env} : ∀ {es : List Expr}, (backTo pos (es.map fun e => (false, eval e env))).any (·.1) = false
  | [] => rfl
  | e :: es => by
    show ((false : Bool) || (backTo pos (es.map fun e => (false, eval e env))).any (·.1)) = false
    rw [back_any]
    rfl
theorem mc_eq {o : Expr} {name : Str} {p2 p3 : Pos} {args : List Expr} {env : Env} (h : methodCallForm (args.length + 0) (backTo p3 (starEach args env)) [] = true) (hl : (p2.endLine == p3.line) = true) :
    eval (.Call (.Attribute o name p2) args [] p3) env = (do
      let ov ← attributeBase o name env (eval o env)
      standAt p2.atName
      let (f, first) ← holding [ov] (getMethod ov name (do return (← importBound o env).getD true))
      callWith p3 f first (backTo p3 (starEach args env)) []) := by
  have e1 : ∀ few : Bool, methodCallPos few o env p2 p3 = pure p3 := fun few => by
    unfold methodCallPos
    rw [hl, Bool.or_true]
    rfl
  have e2 : ∀ ov, methodCall o name p2 p3 env ov (args.length + 0) (backTo p3 (starEach args env)) [] = (do
      let (f, first) ← holding [ov] (getMethod ov name (do return (← importBound o env).getD true))
      callWith p3 f first (backTo p3 (starEach args env)) []) := fun ov => by
    unfold methodCall
    rw [h, e1]
    rfl
  show (do
    let ov ← attributeBase o name env (eval o env)
    standAt p2.atName
    methodCall o name p2 p3 env ov (args.length + 0) (backTo p3 (starEach args env)) []) = _
  simp only [e2]
theorem supB_inv {fs : List Str} {st : Stmt} (h : supB fs st = true) (hpos : 1 ≤ fs.length) (hz : fs.length ≤ 2) : ∃ p0 p1 p2 p3 p4 e es, st = .Expr (.Call (.Attribute (.Call (.Name "super" p0) [] [] p1) "__init__" p2) (e :: es) [] p3) p4 ∧ (e :: es).length = fs.length ∧ (((e :: es).zip fs).all fun q => match q.1 with
    | .Name x _ => decide (x = q.2)
    | _ => false) = true ∧ ∀ env : Env, ∃ pl : Sem Bool, eval (.Call (.Attribute (.Call (.Name "super" p0) [] [] p1) "__init__" p2) (e :: es) [] p3) env = (do
      let ov ← attributeBase (.Call (.Name "super" p0) [] [] p1) "__init__" env (eval (.Call (.Name "super" p0) [] [] p1) env)
      standAt p2.atName
      let (f, first) ← holding [ov] (getMethod ov "__init__" pl)
      callWith p3 f first (backTo p3 (starEach (e :: es) env)) []) := by
  unfold supB at h
  split at h
  · rename_i s p0 p1 i p2 es p3 p4
    simp only [Bool.and_eq_true, decide_eq_true_eq] at h
    obtain ⟨⟨⟨⟨hln, rfl⟩, rfl⟩, hl⟩, ha⟩ := h
    cases es with
    | nil => rw [← hl] at hpos; simp at hpos
    | cons e es =>
      refine ⟨p0, p1, p2, p3, p4, e, es, rfl, hl, ha, fun env => ?_⟩
      cases es with
      | nil =>
        cases fs with
        | nil => simp at hl
        | cons f fs => cases e with
          | Name x q => exact ⟨_, mc_eq rfl hln⟩
          | _ => exact absurd (show false = true from ((Bool.and_eq_true _ _).mp ha).1) (by decide)
      | cons e2 es =>
        cases es with
        | cons e3 es => rw [← hl] at hz; simp at hz
        | nil =>
          cases fs with
          | nil => simp at hl
          | cons f fs =>
            cases fs with
            | nil => simp at hl
            | cons f2 fs =>
              have h1 := (Bool.and_eq_true _ _).mp ha
              have h2 := (Bool.and_eq_true _ _).mp h1.2
              cases e with
              | Name x q => cases e2 with
                | Name y q2 => exact ⟨_, mc_eq rfl hln⟩
                | _ => exact absurd (show false = true from h2.1) (by decide)
              | _ => exact absurd (show false = true from h1.1) (by decide)
  · cases h
/-- the def __init__ of an own exception keeps its promise -/
theorem fn_init {P : Program} {w : World} {K : PySem.W.Frag} {mg : Str → Option Value} {base : Heap} {k : Nat} {C fI cc cda : Addr} {qual : Str} {params : Arguments} {body : List Stmt} {scope : Scope} {doc pm ct oc : Value} {od : Option Addr} {osl : Array (Option Value)} {fs : List Str} {st : Stmt} {rest : List Stmt} {ar : Arg} {N : List Str}
    (T : SupC P K mg C fI cc cda (PySem.W.fnX "__init__" qual params body scope [("__class__", cc)] .none .none doc pm none (.ref cda) ct)) (lk : K.lookup fI = some ⟨oc, od, .func (PySem.W.fnX "__init__" qual params body scope [("__class__", cc)] .none .none doc pm none (.ref cda) ct), osl⟩) (hcd : PySem.W.codeIn K (.ref cda) qual = true)
    (hb : body = st :: rest) (h1 : supB fs st = true) (h2 : initC fs rest = true) (S : NdefX.NScope N ("self" :: fs) ["__class__"] scope) (hp : (params.posonlyargs ++ params.args).head? = some ar) (har : ar.arg = "self")
    (hks : scope.names.lookup ("super" : Str) = some .globalImplicit) (hfs : ∀ f ∈ fs, PySem.W.findIn K (.ref C) f = some none ∧ (f == ("__debug__" : Str)) = false ∧ (f == ("__classdict__" : Str)) = false) (hpos : 1 ≤ fs.length) (hz : fs.length ≤ 2)
    (hB : base.get? cc ≠ none) : FnOk P w K mg base CX0 (k + 1) fI (PySem.W.fnX "__init__" qual params body scope [("__class__", cc)] .none .none doc pm none (.ref cda) ct) ("self" :: fs) (spI C fs) := by
  refine ⟨fun vs H Q E h => ?_, fun A outer s H args us vs Q E hr e0 hbd r hsp => ?_⟩
  · obtain ⟨a, ws, rfl, hl, _⟩ := h
    simp [hl]
  obtain ⟨a, ws, rfl, hl, ha, hq⟩ := hsp
  have KX : K.In s.heap := e0.mod.kin.keeps fun b o e => (e0.bs b o e).1
  have lim : s.heap.NoLimit := e0.mod.nolimit.keeps fun b o e => (e0.bs b o e).1
  have par : ∀ x ∈ ("self" :: fs : List Str), scope.names.lookup x = some .local := S.par
  let F : NdefX.NF := ⟨"__init__", qual, params, body, scope, [("__class__", cc)], cda⟩
  have hus : us.length = ("self" :: fs : List Str).length := by rw [← r.length]; simp [hl]
  obtain ⟨cl, cld, csl, kcell⟩ := T.cell
  have hHc : H cc = none := by
    cases hb : base.get? cc with
    | none => exact absurd hb hB
    | some o => exact (e0.bs cc o hb).2
  have CA : NdefX.CellsAt [("__class__", cc)] ["__class__"] [none] s.heap H := by
    refine ⟨rfl, fun y c z => ?_, fun x y c z1 z2 => ?_, fun i y z => ?_⟩
    · have : c = cc := by
        simp only [List.lookup_cons, List.lookup_nil] at z
        split at z <;> cases z <;> rfl
      rw [this]
      exact ⟨hHc, _, _, KX _ _ kcell, rfl⟩
    · have k : ∀ w, List.lookup w [(("__class__" : Str), cc)] = some c → w = "__class__" := fun w z => by
        simp only [List.lookup_cons, List.lookup_nil] at z
        split at z
        · rename_i q; exact eq_of_beq q
        · cases z
      rw [k x z1, k y z2]
    · cases i with
      | succ i => simp at z
      | zero =>
        simp at z
        subst z
        exact ⟨cc, by simp [List.lookup_cons], fun v z => by simp at z⟩
  refine ks_codeAny_call_defAt (body := body) hr.depth (KX _ _ lk) rfl lim (PySem.W.codeRec_of KX hcd) rfl hbd (fun y hy => S.nocell y hy) (fun y hy => par y.1 (List.of_mem_zip hy).1) (fun h₁ hns kp => ?_) S.co S.gen S.kind
  have I := NdefX.inv_startN (CX := CX0) (N := N) (F := F) (f := fI) (E := E) S hr.hd e0 (by simp [hl]) r CA hns kp (tk := s.toks + (("self" :: fs : List Str).zip us).length)
  subst hb
  obtain ⟨p0, p1, p2, p3, p4, e, es, rfl, hle, hall, hcs⟩ := supB_inv h1 hpos hz
  generalize hX : NdefX.ncx CX0 P w K mg base N F fI A outer s H E = X at I
  have hXe : X.env = callEnv (PySem.W.fnX "__init__" qual params (.Expr (.Call (.Attribute (.Call (.Name "super" p0) [] [] p1) "__init__" p2) (e :: es) [] p3) p4 :: rest) scope [("__class__", cc)] .none .none doc pm none (.ref cda) ct) s.heap.objs.size fI := by subst hX; rfl
  have hpre := S.pre
  have nget : ∀ j f, ("self" :: fs : List Str)[j]? = some f → N[j]? = some f := fun j f hj => by
    have hlt : j < ("self" :: fs : List Str).length := (List.getElem?_eq_some_iff.mp hj).1
    have := congrArg (fun l : List Str => l[j]?) hpre
    have this : (N.take (("self" :: fs : List Str).length + (["__class__"] : List Str).length))[j]? = (("self" :: fs : List Str) ++ (["__class__"] : List Str))[j]? := this
    rw [List.getElem?_take_of_lt (by simp at hlt ⊢; omega), List.getElem?_append_left hlt, hj] at this
    exact this
  have hfld : ∀ j f, fs[j]? = some f → X.N[1 + j]? = some f ∧ Vis X.env.scope f ∧ (f == ("__debug__" : Str)) = false ∧ (f == ("__classdict__" : Str)) = false := fun j f hj => by
    have hm := List.mem_of_getElem? hj
    obtain ⟨_, b1, b2⟩ := hfs f hm
    subst hX
    exact ⟨nget (1 + j) f (by rw [Nat.add_comm]; simpa using hj), .inl (par f (List.mem_cons_of_mem _ hm)), b1, b2⟩
  obtain ⟨pa, est⟩ := args_pa (X := X) (es := e :: es) (i := 1) hle hall hfld
  obtain ⟨xn, xq, rfl⟩ : ∃ x q, e = .Name x q := by
    cases fs with
    | nil => simp at hpos
    | cons f fs => cases e with
      | Name x q => exact ⟨x, q, rfl⟩
      | _ => exact absurd (show false = true from ((Bool.and_eq_true _ _).mp hall).1) (by decide)
  have est2 : starEach es X.env = es.map fun e => (false, eval e X.env) := (List.cons.inj est).2
  obtain ⟨pl, hc⟩ := hcs X.env
  have hN0 : X.N[0]? = some ar.arg := by subst hX; rw [har]; exact nget 0 _ rfl
  have hself : scope.names.lookup ("self" : Str) = some .local := par _ List.mem_cons_self
  have hfr : scope.names.lookup ("__class__" : Str) = some .free := S.frk _ List.mem_cons_self
  have hσ : (NdefX.startF N (V.ref a :: ws) [none])[0]? = some (some (.ref a)) := rfl
  have hw : ∀ j v, ws[j]? = some v → (NdefX.startF N (V.ref a :: ws) [none])[1 + j]? = some (some v) := fun j v hj => by
    have hlt : j < ws.length := (List.getElem?_eq_some_iff.mp hj).1
    unfold NdefX.startF
    rw [List.getElem?_append_left (by simp; omega), List.getElem?_map, Nat.add_comm, List.getElem?_cons_succ, hj]
    rfl
  have TX : SupC X.prog X.K X.mg C fI cc cda (PySem.W.fnX "__init__" qual params (.Expr (.Call (.Attribute (.Call (.Name "super" p0) [] [] p1) "__init__" p2) (.Name xn xq :: es) [] p3) p4 :: rest) scope [("__class__", cc)] .none .none doc pm none (.ref cda) ct) := by subst hX; exact T
  rw [← hXe]
  have main := sup_stmt (X := X) (pins := []) (σ := NdefX.startF N (V.ref a :: ws) [none]) (H := H) (a := a) (body := .Expr (.Call (.Attribute (.Call (.Name "super" p0) [] [] p1) "__init__" p2) (.Name xn xq :: es) [] p3) p4 :: rest) (p4 := p4)
    (Q := fun fl s' => fl = .next ∧ L2.Inv X [] (NdefX.startF N (V.ref a :: ws) [none]) H s') hc TX I (by subst hX; rfl) (by subst hX; rfl) (by subst hX; rfl) hp hN0 (by subst hX; rw [har]; exact hself) (by subst hX; exact hks) (by subst hX; exact hfr) rfl pa rfl (by rw [est2]; exact back_any) hσ ha ⟨ws, hl, hw, ha, by rw [hl]; omega, fun s' J => ⟨rfl, J⟩⟩
  have pss : PSs X rest (tIn X.K 1 fs) := init_pss h2 (by subst hX; exact nget 0 _ rfl) (by subst hX; exact .inl hself) hfld
  have hA : X.A = A.deeper (callEnv (PySem.W.fnX "__init__" qual params (.Expr (.Call (.Attribute (.Call (.Name "super" p0) [] [] p1) "__init__" p2) (.Name xn xq :: es) [] p3) p4 :: rest) scope [("__class__", cc)] .none .none doc pm none (.ref cda) ct) s.heap.objs.size fI) := by subst hX; rfl
  subst hX
  refine ks_wpAt_execs_cons (ks_wpAt_mono main (fun fl s2 hfl => ?_) fun e' s' h => h)
  obtain ⟨rfl, J⟩ := hfl
  refine wpAt_of_wpAny (wpAny_mono (pss.run [] s2 _ H { nx := fun _ H' => Q .non H', rt := Q } J (tIn_new T.ox hσ (fun f hf => (hfs f hf).1) hl.symm hpos hw ha (by omega) hq)) (fun fl s3 hs => ?_) fun e' s' h => h)
  cases fl with
  | ret u =>
    obtain ⟨v, σ', H', J', rv, q⟩ := hs
    exact ⟨v, H', J'.os, J'.bare, J'.base, J'.hok, rv, q⟩
  | next =>
    obtain ⟨σ', H', J', q⟩ := hs
    exact ⟨.non, H', J'.os, J'.bare, J'.base, J'.hok, rfl, q⟩
  | brk =>
    obtain ⟨_, _, _, q⟩ := hs
    exact False.elim q
  | cont =>
    obtain ⟨_, _, _, q⟩ := hs
    exact False.elim q
end Vy
set_option Elab.async false
set_option linter.all false
set_option maxRecDepth 100000
set_option maxHeartbeats 4000000
namespace Vy
open PySem PySem.Spec L2 PyProof.Rows
variable [Tb]

theorem lookup_rev {β : Type} (n : Str) : ∀ {l : List (Str × β)}, (l.map (·.1)).Nodup → l.reverse.lookup n = l.lookup n
  | [], _ => rfl
  | (x, b) :: l, nd => by
    have nd' := List.nodup_cons.mp nd
    rw [List.reverse_cons, List.lookup_append, lookup_rev n nd'.2]
    cases h : n == x with
    | true =>
      have e : n = x := eq_of_beq h
      subst e
      have : List.lookup n l = none := by
        cases q : List.lookup n l with
        | none => rfl
        | some v => exact absurd (List.mem_map.mpr ⟨(n, v), PySem.mem_of_lookup q, rfl⟩) nd'.1
      rw [this]
      simp [List.lookup_cons]
    | false =>
      have h0 : List.lookup n [(x, b)] = none := by simp [List.lookup_cons, h]
      have h1 : List.lookup n ((x, b) :: l) = List.lookup n l := by simp [List.lookup_cons, h]
      rw [h0, h1]
      cases List.lookup n l <;> rfl
theorem pa_mono {X : Cx} {es : List Expr} {ta : TA} (h : PA X es ta) : PA X es (fun σ H Q' => ∃ Q : List V → Hp → Prop, ta σ H Q ∧ ∀ vs H, Q vs H → Q' vs H) := ⟨fun p pins s σ H Q' I ⟨Q, q, k⟩ => thn (h.run p pins s σ H Q I q) fun us s1 ⟨vs, H1, I1, r, z⟩ => ⟨vs, H1, I1, r, k _ _ z⟩⟩
theorem exc_ok {X : Cx} {V_ : Nv} {k : Nat} {x : Str} {fI cc cda : Addr} {fd : FuncData} {ar : Nat} {C : Addr} {fs : List Str} (hC : V_.ca k = C) (hfs : V_.fl k = fs) (nd : fs.Nodup) (hl : fs.length ≤ 900) (T : OexC X.K C)
    (iC : PySem.W.findIn X.K (.ref C) "__init__" = some (some (.ref fI))) (tI : PySem.W.typeIn X.K (.ref fI) = some (.type "function")) (F1 : FnOk X.prog X.w X.K X.mg X.base CX0 1 fI fd ("self" :: fs) (spI C fs)) (hr : Room 2 X.A)
    (hb : L2.Binds X.K fd ("self" :: fs) []) (hm : X.mg x = some (.ref C)) : ExcOk V_ k x X := by
  intro hg hd y l p pos ta ha he hpl
  have main := pmk_oex (pos := pos) (p := p) (ds := []) (dvs := []) T iC tI F1 hr hb .nil C8.pass0 hg hm (pa_mono ha) hd he hpl
  intro pins s σ H Q I q
  refine main pins s σ H Q I ⟨_, q, fun vs H1 z => ?_⟩
  obtain ⟨hlv, z⟩ := z
  rw [hfs] at hlv z
  refine ⟨by omega, fun a hn => ⟨a, vs, by rw [List.append_nil], hlv, upd_same, fun d H' h1 h2 h3 h4 h5 => ⟨rfl, d, _, h3, h4, ?_, ?_⟩⟩⟩
  · rw [upd_ne h2] at h1
    exact h1
  · rw [upd_ne h2] at h1
    rw [← hC]
    refine z d _ _ (fun b o hb => ?_) upd_same fun n v hv => ?_
    · have n1 : b ≠ a := fun e => by rw [e, hn] at hb; cases hb
      have n2 : b ≠ d := fun e => by rw [e, h1] at hb; cases hb
      rw [upd_ne n2, del_ne n1, h5 b n1 n2, upd_ne n1]
      exact hb
    · rw [lookup_rev n (by rw [List.map_fst_zip (by omega)]; exact nd)]
      exact hv
end Vy
set_option Elab.async false
set_option linter.all false
set_option maxRecDepth 100000
set_option maxHeartbeats 4000000
namespace Vy
open PySem PySem.Spec L2 PyProof.Rows
variable [Tb]

/-! ### several clauses `except X as e`, one of which takes what comes -/
/-- what the clauses wish of an exception of the body; slot i is the name's -/
def wAsN (K : PySem.W.Frag) (i : Nat) (D : Ends) : List (Value × (Addr → Value → Option Addr → TS)) → WX
  | [] => fun _ _ _ _ => False
  | (c, ts) :: r => fun cls d σ H => ∃ b, PySem.W.exmOne K cls c = some b ∧ (b = true → ∀ a, H a = none → ts a cls d { nx := fun σ' H' => D.nx (σ'.set i none) H', rt := D.rt, bk := fun σ' H' => D.bk (σ'.set i none) H', ct := fun σ' H' => D.ct (σ'.set i none) H' } (σ.set i (some (.ref a))) H) ∧
    (b = false → wAsN K i D r cls d σ H)
inductive AsOk (X : Cx) (n : Str) : List ExceptHandler → List (Value × (Addr → Value → Option Addr → TS)) → Prop
  | nil : AsOk X n [] []
  | cons {x : Str} {c : Value} {ts : Addr → Value → Option Addr → TS} {b₀ : Stmt} {suite : List Stmt} {np pos' : Pos} {hds : List ExceptHandler} {l : List (Value × (Addr → Value → Option Addr → TS))} (hc : Names X x c)
      (hsu : ∀ (a : Addr) (oe : Obj) (cls : Value) (d : Option Addr) (pn : List (Addr × Obj)), Zc cls d oe → (∃ vs, oe.data = .fields vs) → PSs (X.suite a ((a, oe) :: pn)) (b₀ :: suite) (ts a cls d)) (r : AsOk X n hds l) :
      AsOk X n (.ExceptHandler (some (.Name x np)) (some n) (b₀ :: suite) pos' :: hds) ((c, ts) :: l)
section
variable {X : Cx} {n : Str} {i : Nat} {pins : List (Addr × Obj)} {D : Ends} {a : Addr} {B : Heap} {sI s : Shared} {σ : L2.St} {H : Hp} {cls : Value} {d : Option Addr}
/-- the clauses, looked at one after the other -/
theorem go_as (hf : X.env.frame = some X.env.locals) (hN : X.N.Nodup) (hi : X.N[i]? = some n) (hln : X.env.kindOf n = some .local) (ok : X.Ok) (J : L2.Inv X pins σ H sI) (nb : ∀ b o, sI.heap.get? b = some o → b ∉ frs X.stack → B.get? b = some o) (na : H a = none)
    (hs : X.stack = X.env :: X.outer) (up : sI.heap.UpToSlots s.heap) (os : s.os = sI.os) (ag : AllBare s.gens) (fl : HandSPX.FlyingZ B (X.env :: X.outer) a (Zc cls d) s.heap) : ∀ {hds : List ExceptHandler} {l : List (Value × (Addr → Value → Option Addr → TS))}, AsOk X n hds l → wAsN X.K i D l cls d σ H →
      wpAny (model X.prog X.w) X.A (handleBy (.ref a) X.env hds) (SP X pins D) X.xe s := by
  have J3 : L2.Inv X pins σ H s := J.landed nb fl.1 up os ag
  obtain ⟨oe, vs, he, hz, hd⟩ := fl.there
  have out : ∀ {h : Heap} {o : Obj} {ws : Array Value}, h.FunFrames B (X.env :: X.outer) → h.get? a = some o → o.data = .fields ws → a ∉ frs (X.env :: X.outer) := fun {h o ws} ff e dd hm => by
    obtain ⟨_, o', e', hnf⟩ := ff.mem hm
    rw [e] at e'
    cases e'
    exact hnf _ dd
  have nfr := out fl.2.2.1 he hd
  have nL : a ≠ X.env.locals := fun z => nfr (List.mem_filterMap.mpr ⟨X.env, List.mem_cons_self, by rw [hf, z]⟩)
  have nF : a ∉ X.fs := fun hm => by
    obtain ⟨e, he, q⟩ := List.mem_filterMap.mp hm
    exact nfr (List.mem_filterMap.mpr ⟨e, List.mem_cons_of_mem _ he, q⟩)
  have S3 := J3.suite he hd na nL nF
  intro hds l hk
  induction hk with
  | nil => exact fun w => False.elim w
  | @cons x c ts b₀ suite np pos' hds2 l2 hc hsu r ih =>
    rintro ⟨b, hb1, hyes, hno⟩
    refine wpAny_handleBy_cons (codeAny_handlers_test ?_) (by intro q; cases q)
    have LT : PySem.W.Looks (model X.prog X.w) s.heap (typeOf (.ref a)) cls := fun A Q E s k q => wpAny_typeOf_ref (k _ _ he) (by rw [hz.1]; exact q)
    have LM := PySem.W.exm_one (M := model X.prog X.w) J3.kIn LT hb1
    have test : ∀ {Q : Value → Shared → Prop} {E : Value → Shared → Prop}, Q c s → wpAny (model X.prog X.w) (X.A.mark (some (.ref a))) (eval (.Name x np) X.env) Q E s := fun {Q E} q => by
      obtain ⟨hg, hdbg, hm | ⟨hm, hv, hnn⟩⟩ := hc
      · exact ld_glob (X := X.suite a ((a, oe) :: (X.pn ++ pins))) S3 hg hm q hdbg
      · exact ld_blt (X := X.suite a ((a, oe) :: (X.pn ++ pins))) S3 hg hm hv q hnn hdbg
    refine test (LM.here ?_)
    cases b with
    | false => exact ih (hno rfl)
    | true =>
      refine codeAny_handlers_suite_as (HandSPX.lands_againZ fl fun h4 fl4 up4 => ?_)
      have J4 : L2.Inv X pins σ H { s with heap := h4 } := J.landed nb fl4.1 (up.trans up4) os ag
      obtain ⟨oe4, vs4, he4, hz4, hd4⟩ := fl4.there
      have S4 := J4.suite he4 hd4 na nL nF
      refine store_ok (X := X.suite a ((a, oe4) :: (X.pn ++ pins))) (v := .ref a) S4 hN hi (.inl hln) rfl (fun s5 S5 => ?_) (.inr hln)
      refine wpAny_mono ((hsu a oe4 cls d (X.pn ++ pins) hz4 ⟨_, hd4⟩).run [] s5 _ H _ S5 (hyes rfl a na)) (fun f s6 hsp => ?_) (fun _ _ z => False.elim z)
      have fin : ∀ {σ6 : L2.St} {H6 : Hp} {Q : Shared → Prop}, L2.Inv (X.suite a ((a, oe4) :: (X.pn ++ pins))) [] σ6 H6 s6 → (∀ s7, L2.Inv X pins (σ6.set i none) H6 s7 → Q s7) →
          wpAny (model X.prog X.w) X.A (do bindName X.env n .none; unbindBehindTheSuite X.env n pos') (fun _ s7 => Q s7) X.xe s6 := fun {σ6 H6 Q} S6 hq => gone_ok (S6.unsuite ok) hN hi hln hq
      cases f with
      | next => obtain ⟨σ6, H6, S6, q6⟩ := hsp; exact fin S6 fun s7 J7 => ⟨_, _, J7, q6⟩
      | brk => obtain ⟨σ6, H6, S6, q6⟩ := hsp; exact fin S6 fun s7 J7 => ⟨_, _, J7, q6⟩
      | cont => obtain ⟨σ6, H6, S6, q6⟩ := hsp; exact fin S6 fun s7 J7 => ⟨_, _, J7, q6⟩
      | ret u => obtain ⟨v6, σ6, H6, S6, r6, q6⟩ := hsp; exact fin S6 fun s7 J7 => ⟨_, _, _, J7, r6, q6⟩
end
theorem ps_try_asN {X : Cx} {n : Str} {i : Nat} {body : List Stmt} {pos : Pos} {tb : WX → TS} {h₀ : ExceptHandler} {hds : List ExceptHandler} {l : List (Value × (Addr → Value → Option Addr → TS))} (hs : X.stack = X.env :: X.outer) (hf : X.env.frame = some X.env.locals) (hN : X.N.Nodup) (hi : X.N[i]? = some n) (hln : X.env.kindOf n = some .local)
    (hb : ∀ (W : WX) (pn : List (Addr × Obj)) (xe : Value → Shared → Prop), Takes (X.tr pn xe) W → PSs (X.tr pn xe) body (tb W)) (hh : AsOk X n (h₀ :: hds) l) :
    PS X (.Try body (h₀ :: hds) [] [] pos) (fun D σ H => tb (fun cls d σ H => σ.length = X.N.length → wAsN X.K i D l cls d σ H) D σ H) := by
  refine ⟨fun pins s σ H D I h => ?_⟩
  have ok := I.ok
  have hfr : X.A.frames = some (X.env :: X.outer) := by rw [ok.frames, hs]
  refine wpAny_Try_except ?_
  refine wpAny_mono ((hb (fun cls d σ H => σ.length = X.N.length → wAsN X.K i D l cls d σ H) (X.pn ++ pins) (fun e s₁ => wpAny (model X.prog X.w) X.A (noteFrame e X.env) (fun _ s₂ => wpAny (model X.prog X.w) X.A (setFlight e none) (fun _ s₃ =>
    wpAny (model X.prog X.w) X.A (handleBy e X.env (h₀ :: hds)) (SP X pins D) X.xe s₃) X.xe s₂) X.xe s₁) (fun u s' xx => ?_)).run [] s σ H D (I.toTry _) h) (fun f s1 hsp => ?_) (fun e s1 he => he)
  · obtain ⟨a, B, sI, pins', σ', H', cls, d, rfl, J', nb, up, sky, na, os, ag, w⟩ := xx
    rw [show (X.tr (X.pn ++ pins) _).stack = X.env :: X.outer from hs] at sky
    show wpAny (model X.prog X.w) X.A (noteFrame (.ref a) X.env) _ _ _
    exact Sky.land Zc.steady hfr hf sky fun h3 fl3 up3 => go_as (s := { s' with heap := h3 }) hf hN hi hln ok (J'.ofTry ok) nb na hs (up.trans up3) os ag fl3 hh (w J'.len)
  · cases f with
    | next => obtain ⟨σ', H', J', q⟩ := hsp; exact wpAny_execs_nil ⟨σ', H', J'.ofTry ok, q⟩
    | brk => obtain ⟨σ', H', J', q⟩ := hsp; exact ⟨σ', H', J'.ofTry ok, q⟩
    | cont => obtain ⟨σ', H', J', q⟩ := hsp; exact ⟨σ', H', J'.ofTry ok, q⟩
    | ret u => obtain ⟨v, σ', H', J', r, q⟩ := hsp; exact ⟨v, σ', H', J'.ofTry ok, r, q⟩
/-! ### the def that tells -/
/-- one clause: except y as e: return [w, e.f] -/
def clsB (y : Str) (w f : Str) : ExceptHandler → Bool
  | .ExceptHandler (some (.Name x _)) (some n) [.Return (some (.List [.Constant (.str w') _ _, .Attribute (.Name n' _) f' _] _)) _] _ => decide (x = y) && decide (n = "e") && decide (w' = w) && decide (n' = "e") && decide (f' = f)
  | _ => false
def clssB : List (Str × Str × Str) → List ExceptHandler → Bool
  | [], [] => true
  | (y, w, f) :: r, h :: hs => clsB y w f h && clssB r hs
  | _, _ => false
abbrev tsT (C : Addr) (w f : Str) (a : Addr) (cls : Value) (d : Option Addr) : TS := tRet (tLst (tCons (tC (.str w)) (tCons (tXf a cls d C f (tVar 1)) tNil)))
structure TellC (V_ : Nv) (K : PySem.W.Frag) (mg : Str → Option Value) (k : Nat) (y w f : Str) : Prop where
  gl : mg y = some (.ref (V_.ca k))
  fl : V_.fl k = [f]
  xf : XfC K (V_.ca k)
  no : PySem.W.findIn K (.ref (V_.ca k)) f = some none
  db : (y == ("__debug__" : Str)) = false
theorem as_ok {X : Cx} {V_ : Nv} : ∀ {tbl : List (Nat × Str × Str × Str)} {hds : List ExceptHandler}, (∀ t ∈ tbl, TellC V_ X.K X.mg t.1 t.2.1 t.2.2.1 t.2.2.2 ∧ X.env.scope.names.lookup t.2.1 = some .globalImplicit) → clssB (tbl.map (·.2)) hds = true →
    X.N[1]? = some ("e" : Str) → Vis X.env.scope ("e" : Str) → AsOk X "e" hds (tbl.map fun t => (Value.ref (V_.ca t.1), tsT (V_.ca t.1) t.2.2.1 t.2.2.2))
  | [], [], _, _, _, _ => .nil
  | (k, y, w, f) :: tbl, h :: hds, hT, hB, hN, hv => by
    have hB : (clsB y w f h && clssB (tbl.map (·.2)) hds) = true := hB
    rw [Bool.and_eq_true] at hB
    obtain ⟨T, hg⟩ := hT _ List.mem_cons_self
    have ih := as_ok (X := X) (V_ := V_) (tbl := tbl) (hds := hds) (fun t ht => hT t (List.mem_cons_of_mem _ ht)) hB.2 hN hv
    have h1 := hB.1
    unfold clsB at h1
    split at h1
    · simp only [Bool.and_eq_true, decide_eq_true_eq] at h1
      obtain ⟨⟨⟨⟨rfl, rfl⟩, rfl⟩, rfl⟩, rfl⟩ := h1
      refine .cons ⟨hg, T.db, .inl T.gl⟩ (fun a oe cls d pn hz hf => pss_one (ps_ret (pe_lst (pa_cons pe_str (pa_cons (pe_xf T.xf T.no hz hf (pe_var (X := X.suite a ((a, oe) :: pn)) (i := 1) hN hv) rfl) pa_nil rfl) rfl)))) ih
    · cases h1
  | [], _ :: _, _, hB, _, _ => absurd (show false = true from hB) (by decide)
  | _ :: _, [], _, hB, _, _ => absurd (show false = true from hB) (by decide)
theorem wAsN_of {K : PySem.W.Frag} {V_ : Nv} {mg : Str → Option Value} {Q : VK} {σ : L2.St} {H : Hp} {k : Nat} {w : Str} {dd : Addr} {f : Str} {v : V} {kvs : List (Str × V)} (hl : 2 ≤ σ.length) (hfl : V_.fl k = [f]) (hd : H dd = some (.xd kvs)) (hv : kvs.lookup f = some v)
    (hq : ∀ a, H a = none → Q (.ref a) (upd H a (.lst [.str w, v]))) : ∀ {tbl : List (Nat × Str × Str × Str)}, (∀ t ∈ tbl, TellC V_ K mg t.1 t.2.1 t.2.2.1 t.2.2.2) → (∀ t ∈ tbl, PySem.W.exmOne K (.ref (V_.ca k)) (.ref (V_.ca t.1)) = some (decide (k = t.1))) →
    (tbl.map fun t => (t.1, t.2.2.1)).lookup k = some w → wAsN K 1 { nx := fun _ H' => Q .non H', rt := Q } (tbl.map fun t => (Value.ref (V_.ca t.1), tsT (V_.ca t.1) t.2.2.1 t.2.2.2)) (.ref (V_.ca k)) (some dd) σ H
  | [], _, _, h => by simp at h
  | (k', y, w', f') :: tbl, hT, hx, h => by
    refine ⟨decide (k = k'), hx _ List.mem_cons_self, fun e a hn => ?_, fun e => ?_⟩
    · have e := of_decide_eq_true e
      subst e
      have T := hT _ List.mem_cons_self
      have ef : f' = f := by
        have := T.fl.symm.trans hfl
        exact (List.cons.inj this).1
      have ew : w' = w := by
        simpa [List.lookup_cons] using h
      subst ef ew
      exact ⟨.ref a, by rw [List.getElem?_set_self (by omega)], rfl, rfl, dd, kvs, v, rfl, hd, hv, by show 2 ≤ sizeLine; decide, hq⟩
    · have ne := of_decide_eq_false e
      refine wAsN_of hl hfl hd hv hq (fun t ht => hT t (List.mem_cons_of_mem _ ht)) (fun t ht => hx t (List.mem_cons_of_mem _ ht)) ?_
      have hb : (k == k') = false := beq_eq_false_iff_ne.mpr ne
      have h : List.lookup k ((k', w') :: tbl.map fun t => (t.1, t.2.2.1)) = some w := h
      rw [List.lookup_cons, hb] at h
      exact h
theorem memN {k : Nat} {w : Str} : ∀ {l : List (Nat × Str)}, l.lookup k = some w → ∃ p ∈ l, p.1 = k
  | [], h => by simp at h
  | (a, b) :: l, h => by
    rw [List.lookup_cons] at h
    cases hb : k == a with
    | true => exact ⟨(a, b), List.mem_cons_self, (eq_of_beq hb).symm⟩
    | false =>
      rw [hb] at h
      obtain ⟨p, hp, e⟩ := memN h
      exact ⟨p, List.mem_cons_of_mem _ hp, e⟩
theorem told_gives {X : Cx} {V_ : Nv} {Ng : List Str} {x a q : Str} {sg : Scope} {g : Addr} {cdg : Value} {tbl : List (Nat × Str × Str × Str)} {h₀ : ExceptHandler} {hds : List ExceptHandler} {p1 p2 p3 p8 : Pos}
    (hT : ∀ t ∈ tbl, TellC V_ X.K X.mg t.1 t.2.1 t.2.2.1 t.2.2.2 ∧ sg.names.lookup t.2.1 = some .globalImplicit) (hx : ∀ t ∈ tbl, ∀ t' ∈ tbl, PySem.W.exmOne X.K (.ref (V_.ca t.1)) (.ref (V_.ca t'.1)) = some (decide (t.1 = t'.1)))
    (hB : clssB (tbl.map (·.2)) (h₀ :: hds) = true) (hN : Ng.Nodup) (h0 : Ng.length = 2) (h1 : Ng[1]? = some ("e" : Str)) (he : sg.names.lookup ("e" : Str) = some .local) :
    LamX.GivesTo X Ng x sg g cdg [.Try [.Return (some (.Call (.Name a p1) [] [] p2)) p3] (h₀ :: hds) [] [] p8] a q (toldT V_ (tbl.map fun t => (t.1, t.2.2.1))) := by
  intro f c' s H Q tl act hc h
  have A := as_ok (X := (cxOf C8.CX0 X.prog X.w X.K X.mg X.base Ng x sg g cdg X.A X.stack s H C8.E0).nox) (V_ := V_) (tbl := tbl) (hds := h₀ :: hds) hT hB h1 (.inl he)
  refine ⟨_, pss_one (ps_try_asN (X := (cxOf C8.CX0 X.prog X.w X.K X.mg X.base Ng x sg g cdg X.A X.stack s H C8.E0).nox) (i := 1) (n := "e")
      (tb := fun W D σ H => ∃ Ech : XK, (∀ cls d σ' H', Ech cls d H' → W cls d σ' H') ∧ σ[0]? = some (some (.ref f)) ∧ H c' = some (LamX.CodeO c' q) ∧ tl Ech H D.rt) rfl rfl hN h1 he (fun W pn xe tk => ?_) A), ?_⟩
  · refine ⟨fun pins s' σ H' D I h' => ?_⟩
    obtain ⟨Ech, hW, h1, h2, h3⟩ := h'
    exact (pss_one (ps_ret (pos := p3) (act W pn xe Ech p1 p2 tk hW))).run pins s' σ H' D I ⟨h1, h2, h3⟩
  · refine ⟨_, fun cls d σ' H' hh hlen => ?_, ?_, hc, h⟩
    · obtain ⟨k, w, dd, fn, v, kvs, rfl, hlk, hfl, rfl, hd, hv, hq⟩ := hh
      have hm : ∃ t ∈ tbl, t.1 = k := by
        obtain ⟨p, hp, e⟩ := memN hlk
        obtain ⟨t, ht, e2⟩ := List.mem_map.mp hp
        exact ⟨t, ht, by rw [← e, ← e2]⟩
      obtain ⟨t0, ht0, rfl⟩ := hm
      have hlen : σ'.length = Ng.length := hlen
      exact wAsN_of (mg := X.mg) (by omega) hfl hd hv hq (fun t ht => (hT t ht).1) (fun t ht => hx t0 ht0 t ht) hlk
    · show (L2.start Ng [.ref f])[0]? = _
      rfl
end Vy
set_option Elab.async false
set_option linter.all false
set_option maxRecDepth 100000
set_option maxHeartbeats 4000000
namespace Vy
open PySem PySem.Spec L2 PyProof.Rows
variable [Tb]

/-- a lambda handed to the def that tells -/
theorem told_ok {X : Cx} {V_ : Nv} {n : Nat} {tn a : Str} {g c P : Addr} {pg : Arguments} {sg : Scope} {dV kV doc pm cdv ct oc : Value} {an od : Option Addr} {osl : Array (Option Value)} {Ng : List Str} {tbl : List (Nat × Str × Str × Str)} {h₀ : ExceptHandler} {hds : List ExceptHandler} {p1 p2 p3 p8 : Pos}
    (hg : Gl X tn) (hdb : (tn == ("__debug__" : Str)) = false) (hm : X.mg tn = some (.ref g)) (hk : PySem.W.keepIn X.K (.ref g) = true)
    (lk : X.K.lookup g = some ⟨oc, od, .func (PySem.W.fnOf tn tn pg [.Try [.Return (some (.Call (.Name a p1) [] [] p2)) p3] (h₀ :: hds) [] [] p8] sg dV kV doc pm an cdv ct), osl⟩) (hcg : PySem.W.codeIn X.K cdv tn = true)
    (hb : L2.Binds X.K (PySem.W.fnOf tn tn pg [.Try [.Return (some (.Call (.Name a p1) [] [] p2)) p3] (h₀ :: hds) [] [] p8] sg dV kV doc pm an cdv ct) [a] []) (Sg : FnScope Ng [a] sg) (hNg : Ng = [a, "e"]) (hva : Vis sg a) (had : (a == ("__debug__" : Str)) = false) (hacd : (a == ("__classdict__" : Str)) = false)
    (hT : ∀ t ∈ tbl, TellC V_ X.K X.mg t.1 t.2.1 t.2.2.1 t.2.2.2 ∧ sg.names.lookup t.2.1 = some .globalImplicit) (hx : ∀ t ∈ tbl, ∀ t' ∈ tbl, PySem.W.exmOne X.K (.ref (V_.ca t.1)) (.ref (V_.ca t'.1)) = some (decide (t.1 = t'.1)))
    (hB : clssB (tbl.map (·.2)) (h₀ :: hds) = true) (he : sg.names.lookup ("e" : Str) = some .local)
    (TB : LamX.TabB X.base X.mg c P) (hcode : X.env.code = .ref c) (hmT : (P, X.env.qual ++ "<lambda>") ∈ Tb.T) (hu : ∀ p ∈ Tb.T, p.1 = P → p.2 = X.env.qual ++ "<lambda>") (hr : Room (n + 2) X.A) : ToldOk V_ n tn (tbl.map fun t => (t.1, t.2.2.1)) X := by
  intro body scope p lpos pos t L hbody
  subst hNg
  exact LamX.pe_lamcall (T := Tb.T) hg hm hk lk hcg hb Sg rfl hva (told_gives hT hx hB Sg.nd rfl rfl he) TB hcode hmT hu hr L rfl (fun _ _ _ _ _ => rfl) hbody hdb had hacd
end Vy
set_option Elab.async false
set_option linter.all false
set_option maxRecDepth 100000
set_option maxHeartbeats 4000000
namespace Vy
open PySem PySem.Spec L2 PyProof.Rows
variable [Tb]

/-! ### all defs of the table -/
theorem FnG.mono {P : Program} {w : World} {K : PySem.W.Frag} {mg : Str → Option Value} {base : Heap} {gd : Bool} {j k : Nat} {f : Addr} {fd : FuncData} {ps : List Str} {sp : Sp} (F : FnG P w K mg base gd j f fd ps sp) (h : j ≤ k) : FnG P w K mg base gd k f fd ps sp :=
  ⟨F.len, fun A outer s H args us vs Q E hr => F.run A outer s H args us vs Q E (hr.mono h)⟩
/-- what the written part has of a def of the table -/
structure DefOk (G : GT) (K : PySem.W.Frag) (mg : Str → Option Value) (x : Str) (gd : Bool) (fn : FnI) : Prop where
  ok : ∃ (a : Addr) (params : Arguments) (body : List Stmt) (scope : Scope) (N ps : List Str) (dV kV doc pm cdv ct oc : Value) (an od : Option Addr) (osl : Array (Option Value)),
    mg x = some (.ref a) ∧ PySem.W.keepIn K (.ref a) = true ∧ K.lookup a = some ⟨oc, od, .func (PySem.W.fnOf x x params body scope dV kV doc pm an cdv ct), osl⟩ ∧ PySem.W.codeIn K cdv x = true ∧
    L2.Binds K (PySem.W.fnOf x x params body scope dV kV doc pm an cdv ct) ps [] ∧ FnScope N ps scope ∧ fn.np = ps.length ∧ fn.ns = N.length ∧ chkSS G ⟨N, scope, fun _ => true, gd, 0⟩ fn.body body = true ∧ fn.ini = none
/-- of a method -/
structure MthOk (G : GT) (K : PySem.W.Frag) (c : Nat) (x : Str) (gd : Bool) (fn : FnI) : Prop where
  no : x ∉ Tb.ol c
  cl : L2.Cls K (Tb.oc c)
  ok : ∃ (a : Addr) (qual : Str) (params : Arguments) (body : List Stmt) (scope : Scope) (N ps : List Str) (dV kV doc pm cdv ct oc : Value) (an od : Option Addr) (osl : Array (Option Value)),
    L2.Meth K (Tb.oc c) x a ∧ K.lookup a = some ⟨oc, od, .func (PySem.W.fnOf x qual params body scope dV kV doc pm an cdv ct), osl⟩ ∧ PySem.W.codeIn K cdv qual = true ∧
    L2.Binds K (PySem.W.fnOf x qual params body scope dV kV doc pm an cdv ct) ps [] ∧ FnScope N ps scope ∧ fn.np = ps.length ∧ fn.ns = N.length ∧ chkSS G ⟨N, scope, fun _ => true, gd, 0⟩ fn.body body = true ∧ fn.ini = none
/-- of an __init__ -/
structure MkrOk (G : GT) (K : PySem.W.Frag) (mg : Str → Option Value) (c : Nat) (x : Str) (gd : Bool) (fn : FnI) : Prop where
  cl : L2.Cls K (Tb.oc c)
  gl : mg x = some (.ref (Tb.oc c))
  nd : (Tb.ol c).Nodup
  ok : ∃ (a : Addr) (s name qual : Str) (params : Arguments) (body : List Stmt) (scope : Scope) (N ps : List Str) (dV kV doc pm cdv ct oc : Value) (an od : Option Addr) (osl : Array (Option Value)) (np : Nat) (pres : List (E × Nat × Es)) (fl : List (Str × FK)),
    L2.Mk K (Tb.oc c) a ∧ K.lookup a = some ⟨oc, od, .func (PySem.W.fnOf name qual params body scope dV kV doc pm an cdv ct), osl⟩ ∧ PySem.W.codeIn K cdv qual = true ∧
    L2.Binds K (PySem.W.fnOf name qual params body scope dV kV doc pm an cdv ct) ps [] ∧ FnScope N ps scope ∧ fn.np = ps.length ∧ ps.length = np + 1 ∧ fn.ns = N.length ∧ fn.tr = false ∧ fn.ini = some (c, pres, fl) ∧ (Tb.ol c).length ≤ 900 ∧ Tb.ol c = fl.map (·.1) ∧
    (∀ p ∈ fl, L2.NoAttr K (Tb.oc c) p.1) ∧ chkN ⟨N, scope, fun _ => true, gd, 0⟩ 0 s = true ∧ chkIni G ⟨N, scope, fun _ => true, gd, 0⟩ c s pres fl body = true
theorem ge_all {G : GT} {V_ : Nv} {FP : List FnI} {cs : List D} {lim : Nat} {P : Program} {w : World} {mg : Str → Option Value} {base : Heap}
    (hblt : ∀ x, (bltN.any fun y => decide (x = y)) = true → mg x = none) (hcon : ∀ (k : Nat) (x : Str), G.cons[k]? = some x → ∃ d v u, cs[k]? = some d ∧ mg x = some u ∧ RelV v u ∧ ∀ H, Rp V_.K H d v)
    (hd : ∀ (f : Nat) (x : Str) (gd : Bool), G.fns[f]? = some (x, gd) → ∃ fn, FP[f]? = some fn ∧ DefOk G V_.K mg x gd fn)
    (hm : ∀ (f c : Nat) (x : Str) (gd : Bool), (f, c, x, gd) ∈ G.mts → ∃ fn, FP[f]? = some fn ∧ MthOk G V_.K c x gd fn)
    (hk : ∀ (c : Nat) (x : Str) (f : Nat) (gd : Bool), (c, x, f, gd) ∈ G.mks → ∃ fn, FP[f]? = some fn ∧ MkrOk G V_.K mg c x gd fn)
    (hat : ∀ (c i : Nat) (x : Str), (c, i, x) ∈ G.ats → (Tb.ol c)[i]? = some x ∧ (Tb.ol c).Nodup ∧ L2.Cls V_.K (Tb.oc c) ∧ L2.NoAttr V_.K (Tb.oc c) x)
    (hgx : ∀ d, Gx G (vN V_ FP cs lim d) P w mg base) :
    ∀ d : Nat, Ge G (vN V_ FP cs lim d) (2 * d + 2) P w mg base
  | 0 => by
    refine ⟨hblt, hcon, fun f x gd hf => ?_, fun f c x gd hf => ?_, fun c x f gd hf => ?_, hat⟩
    · obtain ⟨fn, hfn, ⟨a, params, body, scope, N, ps, dV, kV, doc, pm, cdv, ct, oc, an, od, osl, h1, h2, h3, h4, h5, h6, h7, h8, h9, h10⟩⟩ := hd f x gd hf
      refine ⟨a, _, ps, h1, h2, h5, ⟨fun vs H Q E h => h.1, fun A outer s H args us vs Q E hr hg e0 hb r hsp => ?_⟩, fun rs S => .inl rfl⟩
      obtain ⟨_, _, _, _, _, _, _, _, h⟩ := hsp
      exact h.elim
    · obtain ⟨fn, hfn, M⟩ := hm f c x gd hf
      obtain ⟨a, qual, params, body, scope, N, ps, dV, kV, doc, pm, cdv, ct, oc, an, od, osl, h1, h3, h4, h5, h6, h7, h8, h9, h10⟩ := M.ok
      refine ⟨M.no, M.cl, a, _, ps, h1, h5, ⟨fun vs H Q E h => h.1, fun A outer s H args us vs Q E hr hg e0 hb r hsp => ?_⟩, fun rs S => .inl rfl⟩
      obtain ⟨_, _, _, _, _, _, _, _, h⟩ := hsp
      exact h.elim
    · obtain ⟨fn, hfn, M⟩ := hk c x f gd hf
      obtain ⟨a, s, name, qual, params, body, scope, N, ps, dV, kV, doc, pm, cdv, ct, oc, an, od, osl, np, pres, fl, h1, h3, h4, h5, h6, h7, h7', h8, ht, hi, h9, h10, h11, h12, h13⟩ := M.ok
      refine ⟨a, _, ps, np, 0, by omega, h7', M.gl, h1, h5, ⟨fun vs H Q E h => ?_, fun A outer s H args us vs Q E hr hg e0 hb r hsp => ?_⟩, fun rs S => .inl rfl⟩
      · obtain ⟨x, dx, H1, vs', rfl, _, _, _, _, hl, _⟩ := h
        rw [List.length_cons, hl, h7']
      · obtain ⟨_, _, _, _, _, _, _, _, _, _, _, _, _, _, _, _, _, h⟩ := hsp
        exact h.elim
  | d + 1 => by
    have ih := ge_all hblt hcon hd hm hk hat hgx d
    refine ⟨hblt, hcon, fun f x gd hf => ?_, fun f c x gd hf => ?_, fun c x f gd hf => ?_, hat⟩
    · obtain ⟨fn, hfn, ⟨a, params, body, scope, N, ps, dV, kV, doc, pm, cdv, ct, oc, an, od, osl, h1, h2, h3, h4, h5, h6, h7, h8, h9, h10⟩⟩ := hd f x gd hf
      refine ⟨a, _, ps, h1, h2, h5, ?_, fun rs S => ?_⟩
      · exact (fn_G (dp := d) (n := 2 * d + 2) (lm := 0) V_ rfl h3 h4 h6 hfn h10 h7 h8 h9 ih (hgx d) (by omega) (fun z => absurd z (by decide))).mono (by omega)
      · rw [← h7]
        exact runF_ar hfn h10
    · obtain ⟨fn, hfn, M⟩ := hm f c x gd hf
      obtain ⟨a, qual, params, body, scope, N, ps, dV, kV, doc, pm, cdv, ct, oc, an, od, osl, h1, h3, h4, h5, h6, h7, h8, h9, h10⟩ := M.ok
      refine ⟨M.no, M.cl, a, _, ps, h1, h5, ?_, fun rs S => ?_⟩
      · exact (fn_G (dp := d) (n := 2 * d + 2) (lm := 0) V_ rfl h3 h4 h6 hfn h10 h7 h8 h9 ih (hgx d) (by omega) (fun z => absurd z (by decide))).mono (by omega)
      · rw [← h7]
        exact runF_ar hfn h10
    · obtain ⟨fn, hfn, M⟩ := hk c x f gd hf
      obtain ⟨a, s, name, qual, params, body, scope, N, ps, dV, kV, doc, pm, cdv, ct, oc, an, od, osl, np, pres, fl, h1, h3, h4, h5, h6, h7, h7', h8, ht, hi, h9, h10, h11, h12, h13⟩ := M.ok
      refine ⟨a, _, ps, np, 2 * d + 3, by omega, h7', M.gl, h1, h5, ?_, fun rs S => ?_⟩
      · exact fn_GI (dp := d) (n := 2 * d + 2) V_ rfl h3 h4 h6 hfn hi ht h7 h7' h8 h13 h12 M.cl M.nd h9 h10 h11 ih (hgx d) (by omega)
      · exact runF_arI hfn hi (by rw [h7, h7'])
end Vy
set_option Elab.async false
set_option linter.all false
set_option maxRecDepth 100000
set_option maxHeartbeats 4000000
namespace Vy
open PySem PySem.Spec L2 PyProof.Rows LamX
variable [Tb]

/-! ### the law is called -/
/-- what is told at the call: the script's list (if the written part has it not), the empty tables -/
def sH (K : PySem.W.Frag) (a : Addr) (lo : Obj) (xs : List V) (ts : List Addr) : Hp := fun b => if b ∈ ts then some (.tbl #[]) else if b = a ∧ K.lookup a = none then some (.frz lo (.lst xs)) else none
section
variable {K : PySem.W.Frag} {a : Addr} {lo : Obj} {xs : List V} {ts : List Addr}
theorem sH_inv {b : Addr} {o : HO} (h : sH K a lo xs ts b = some o) : (b ∈ ts ∧ o = .tbl #[]) ∨ (b = a ∧ K.lookup a = none ∧ o = .frz lo (.lst xs)) := by
  unfold sH at h
  by_cases h1 : b ∈ ts
  · rw [if_pos h1] at h
    exact .inl ⟨h1, (Option.some.inj h).symm⟩
  · rw [if_neg h1] at h
    by_cases h2 : b = a ∧ K.lookup a = none
    · rw [if_pos h2] at h
      exact .inr ⟨h2.1, h2.2, (Option.some.inj h).symm⟩
    · rw [if_neg h2] at h
      cases h
theorem sH_tab {b : Addr} (h : b ∈ ts) : sH K a lo xs ts b = some (.tbl #[]) := if_pos h
/-- an object that is neither a sequence nor an empty record is not told of -/
theorem sH_free {h : Heap} {b : Addr} {o : Obj} (hT : ∀ b ∈ ts, h.get? b = some { cls := .none, data := .fields #[] }) (ha : h.get? a = some lo) (e : h.get? b = some o) (n1 : o.data ≠ .fields #[]) (n2 : o ≠ lo) : sH K a lo xs ts b = none := by
  cases q : sH K a lo xs ts b with
  | none => rfl
  | some u =>
    rcases sH_inv q with ⟨hb, _⟩ | ⟨hb, _⟩
    · rw [hT b hb] at e
      cases e
      exact absurd rfl n1
    · rw [hb, ha] at e
      exact absurd (Option.some.inj e).symm n2
end
section
variable {P : Program} {w : World} {K : PySem.W.Frag} {mg mb : Str → Option Value} {a : Addr} {vs : List Value} {ns : List Int} {cs : List (Addr × Addr)} {s₁ : Shared}
abbrev loO (vs : List Value) : Obj := { cls := .type "list", data := .seq vs.toArray }
abbrev callH (K : PySem.W.Frag) (a : Addr) (vs : List Value) (ns : List Int) (cs : List (Addr × Addr)) : Hp := sH K a (loO vs) (ns.map V.int) (cs.map (·.2))
/-- the head's state, the law about to be called -/
structure Atcall (K : PySem.W.Frag) (mg mb : Str → Option Value) (a : Addr) (vs : List Value) (ns : List Int) (cs : List (Addr × Addr)) (s₁ : Shared) : Prop where
  kin : K.In s₁.heap
  glo : s₁.heap.Ns mainGlobals mg
  blt : s₁.heap.Ns builtinsNs mb
  bok : ∀ x : Str, x ≠ "__name__" → mb x = bootBuiltins x
  lim : s₁.heap.NoLimit
  gen : s₁.gens = #[]
  tab : ∀ p ∈ cs, s₁.heap.get? p.2 = some { cls := .none, data := .fields #[] }
  tabK : ∀ p ∈ cs, K.lookup p.2 = none
  code : ∀ p ∈ cs, PySem.W.CodeHd s₁.heap p.1 p.2
  bmod : ∃ (bm : Addr) (ob : Obj), mg "__builtins__" = some (.ref bm) ∧ bm ≠ builtinsNs ∧ s₁.heap.get? bm = some ob ∧ ob.cls = .type "module" ∧ ob.dict = some builtinsNs ∧ ob.data = .plain
  scr : s₁.heap.get? a = some (loO vs)
  isI : IntsAre vs ns
  len : ns.length ≤ sizeLine
variable (A : Atcall K mg mb a vs ns cs s₁)
include A
theorem Atcall.tabs : ∀ b ∈ cs.map (·.2), s₁.heap.get? b = some { cls := .none, data := .fields #[] } := fun b hb => by
  obtain ⟨p, hp, rfl⟩ := List.mem_map.mp hb
  exact A.tab p hp
theorem Atcall.free {b : Addr} {o : Obj} (e : s₁.heap.get? b = some o) (n1 : o.data ≠ .fields #[]) (n2 : ∀ z, o.data ≠ .seq vs.toArray z) : (hidT s₁.heap (callH K a vs ns cs)).get? b = some o :=
  hidT_get e (sH_free A.tabs A.scr e n1 fun z => n2 _ (by rw [z]))
theorem Atcall.nsp {b : Addr} {m : Str → Option Value} (h : s₁.heap.Ns b m) : (hidT s₁.heap (callH K a vs ns cs)).Ns b m := by
  obtain ⟨o, es, ep, e, d, r⟩ := h
  exact ⟨o, es, ep, A.free e (by rw [d]; exact fun z => by cases z) (by rw [d]; exact fun _ z => by cases z), d, r⟩
theorem Atcall.kin' : K.In (hidT s₁.heap (callH K a vs ns cs)) := fun b o e => by
  refine hidT_get (A.kin b o e) ?_
  cases q : callH K a vs ns cs b with
  | none => rfl
  | some u =>
    rcases sH_inv q with ⟨hb, _⟩ | ⟨hb, hk, _⟩
    · obtain ⟨p, hp, rfl⟩ := List.mem_map.mp hb
      rw [A.tabK p hp] at e
      cases e
    · rw [hb, hk] at e
      cases e
theorem Atcall.mod : L2.Mod K mg (hidT s₁.heap (callH K a vs ns cs)) :=
  ⟨A.kin', A.nsp A.glo, ⟨mb, A.nsp A.blt, A.bok⟩, let ⟨mc, h1, h2⟩ := A.lim; ⟨mc, A.nsp h1, h2⟩⟩
theorem Atcall.hok : HOk P w (callH K a vs ns cs) s₁.heap := fun b u z => by
  rcases sH_inv z with ⟨hb, rfl⟩ | ⟨rfl, _, rfl⟩
  · exact A.tabs b hb
  · exact ⟨A.scr, by rw [List.length_map]; exact A.len, vs, _, vals_ints A.isI, A.scr⟩
theorem Atcall.sql : SqL K (callH K a vs ns cs) a (ns.map V.int) := by
  have aT : a ∉ cs.map (·.2) := fun z => by
    have q := A.tabs a z
    rw [A.scr] at q
    have z' : Data.seq vs.toArray _ = Data.fields #[] := congrArg Obj.data (Option.some.inj q)
    cases z'
  cases hk : K.lookup a with
  | none => exact .inl (.inr ⟨loO vs, (if_neg aT).trans (if_pos ⟨rfl, hk⟩)⟩)
  | some o =>
    have e := A.kin a o hk
    rw [A.scr] at e
    cases e
    refine .inr ⟨_, vs.toArray, _, hk, rfl, rfl, rfl, ?_, by simpa using vals_ints A.isI⟩
    rw [List.size_toArray, A.isI.length]
    exact A.len
theorem Atcall.tabB : ∀ p ∈ cs, TabB (hidT s₁.heap (callH K a vs ns cs)) mg p.1 p.2 := fun p hp => by
  have hTp := A.tab p hp
  obtain ⟨o, us, file, tf, flags, tg, inF, text, tt, e1, r1, r2, r3, r4, r5, r6, r7, r8, hne⟩ := A.code p hp
  obtain ⟨bm, ob, b1, b2, b3, b4, b5, b6⟩ := A.bmod
  obtain ⟨og, es, ep, eg, hd, _⟩ := A.glo
  have ge : mainGlobals ≠ p.2 := fun z => by
    rw [z, hTp] at eg
    cases eg
    cases hd
  refine ⟨⟨o, us, file, tf, flags, tg, inF, text, tt, A.free e1 (fun z => ?_) (fun _ z => ?_), r1, r2, r3, r4, r5, r6, r7, r8, hne⟩, ⟨bm, ob, b1, b2, fun q => ?_, fun q => ?_, A.free b3 (by rw [b6]; exact fun z => by cases z) (by rw [b6]; exact fun _ z => by cases z), b4, b5, b6⟩, ge⟩
  · rw [r2] at z
    cases z
    simp at r3
  · rw [r2] at z
    cases z
  · rw [q, eg] at b3
    cases b3
    rw [hd] at b6
    cases b6
  · rw [q, hTp] at b3
    cases b3
    cases b6
theorem Atcall.env0 : Env0 P w K mg (hidT s₁.heap (callH K a vs ns cs)) callerA [] s₁ (callH K a vs ns cs) :=
  ⟨rfl, A.mod, fun b o e => of_hidT e, Nat.le_of_eq (hidT_size _ _), trivial, fun b hb => absurd (show b ∈ ([] : List Addr) from hb) (by simp), A.hok, .of_eq A.gen⟩
/-- the law keeps its promise: it says True, and what was there stays -/
theorem Atcall.run {k : Nat} {fa : Addr} {fd : FuncData} {x : Str} {sp : Sp} (hr : Room k callerA) (F : FnG P w K mg (hidT s₁.heap (callH K a vs ns cs)) true k fa fd [x] sp) (hb : ∀ (s : Shared) (u : Value), BindsTo s fd ⟨[u], []⟩ [(x, u)])
    (hsp : sp [.ref a] (callH K a vs ns cs) (fun v _ => v = .bl true) fun _ _ _ => False) (hCX : ∀ e s', L2.CX P w [] (callH K a vs ns cs) s₁ (fun _ _ _ => False) e s' → False) :
    codeAny (model P w) callerA (.call (.ref fa) ⟨[.ref a], []⟩) (fun r s' => r = .ok (.ret (.bool true)) ∧ OldK s₁.heap s'.heap ∧ s'.os = s₁.os ∧ AllBare s'.gens) s₁ := by
  refine codeAny_mono (F.run callerA [] s₁ _ ⟨[.ref a], []⟩ [.ref a] [.ref a] _ _ hr (fun _ => rfl) A.env0 (hb s₁ (.ref a)) (.cons rfl .nil) hsp) fun r s' h => ?_
  cases r with
  | error e => exact (hCX e s' h).elim
  | ok fl =>
    cases fl with
    | next => exact False.elim h
    | brk => exact False.elim h
    | cont => exact False.elim h
    | ret u =>
      obtain ⟨v, H', os, bare, un, hok', r', q⟩ := h
      obtain rfl : v = .bl true := q
      obtain rfl : u = Value.bool true := r'
      -- what is no table stays as it is; a table grows
      have stay : ∀ b o, b ∉ cs.map (·.2) → s₁.heap.get? b = some o → s'.heap.get? b = some o := fun b o nb e => by
        cases q : callH K a vs ns cs b with
        | none => exact un.keep b o e q (by intro z; exact absurd (show b ∈ ([] : List Addr) from z) (by simp)) (by simp)
        | some u =>
          rcases sH_inv q with ⟨hb, _⟩ | ⟨rfl, _, rfl⟩
          · exact absurd hb nb
          · obtain ⟨e2, _⟩ := hok' b _ (un.frzs b _ _ q)
            rw [A.scr] at e
            cases e
            exact e2
      have grow : ∀ b ∈ cs.map (·.2), ∃ p ∈ cs, p.2 = b ∧ ∃ more : Array Value, s'.heap.get? b = some { cls := .none, data := .fields more } := fun b hb => by
        obtain ⟨p, hp, e⟩ := List.mem_map.mp hb
        obtain ⟨more, z⟩ := un.tbls b #[] (sH_tab hb)
        exact ⟨p, hp, e, _, hok' b _ z⟩
      refine ⟨rfl, ⟨fun b o e => ?_, fun b o e => ?_⟩, os, bare⟩
      · by_cases hb : b ∈ cs.map (·.2)
        · obtain ⟨p, hp, rfl, more, hm⟩ := grow b hb
          rw [A.tab p hp] at e
          cases e
          exact .inr (.inl ⟨((A.code p hp).tab (A.tab p hp)).isCodeTable, rfl, #[], more, rfl, by rw [Array.empty_append]; exact hm⟩)
        · exact .inl (stay b o hb e)
      · by_cases hb : b ∈ cs.map (·.2)
        · obtain ⟨p, hp, rfl, more, hm⟩ := grow b hb
          exact ⟨_, hm⟩
        · exact ⟨o, stay b o hb e⟩
omit A in
theorem SqF.of_sH {K : PySem.W.Frag} {a : Addr} {lo : Obj} {xs : List V} {ts : List Addr} (h : SqL K (sH K a lo xs ts) a xs) : SqF K (sH K a lo xs ts) a xs := by
  rcases h with (h | ⟨o, h⟩) | h
  · rcases sH_inv h with ⟨_, e⟩ | ⟨_, _, e⟩ <;> cases e
  · exact .inl ⟨o, h⟩
  · exact .inr (.inr h)
end
/-- what is known of the law's promise at the head's heap h -/
def LawAtG (l : PySem.W.OpenLaw) (w : World) (K : PySem.W.Frag) (k n : Nat) (x : Str) (mg : Str → Option Value) (fa : Addr) (h : Heap) : Prop :=
  ∃ (fd : FuncData) (cs : List (Addr × Addr)) (sp : Sp), (∀ p ∈ cs, h.get? p.2 = some { cls := .none, data := .fields #[] }) ∧ (∀ p ∈ cs, K.lookup p.2 = none) ∧ (∀ p ∈ cs, PySem.W.CodeHd h p.1 p.2) ∧ (∀ (s : Shared) (u : Value), BindsTo s fd ⟨[u], []⟩ [(x, u)]) ∧
    (∀ (H : Hp) (a : Addr) (ns : List Int), ns.length ≤ n → (∀ z ∈ ns, Builtin.Int.intBits z ≤ 1048576) → (∀ p ∈ cs, H p.2 = some (.tbl #[])) → SqF K H a (ns.map V.int) → sp [.ref a] H (fun v _ => v = .bl true) fun _ _ _ => False) ∧
    ∀ base : Heap, K.In base → base.Ns mainGlobals mg → (∀ p ∈ cs, TabB base mg p.1 p.2) → FnG l.prog w K mg base true k fa fd [x] sp
theorem cx_never {P : Program} {w : World} {H : Hp} {s : Shared} {e : Value} {s' : Shared} : L2.CX P w [] H s (fun _ _ _ => False) e s' → False := fun ⟨_, _, _, _, _, _, _, _, _, _, _, _, z⟩ => z
theorem walk_ofG {l : PySem.W.OpenLaw} {n k : Nat} {q : Program} {loose : List Str} {XP : (Str → Option Value) → Heap → Prop} {YP : World → Heap → Prop} {d : DefRec} {x : Str}
    (hn : l.most = some n) (hn2 : n ≤ sizeLine) (hdf : d.params.defaults = []) (hr : Room k callerA)
    (F : ∀ (w : World) (mg : Str → Option Value) (fa : Addr) (h : Heap), YP w h → h.Ns mainGlobals mg → mg d.name = some (.ref fa) → ∃ K : PySem.W.Frag, K.In h ∧ LawAtG l w K k n x mg fa h) :
    PySem.W.WalkO q loose XP YP l.row.toRowW d [] (fun f vs => PySem.call f vs) := by
  refine Att.attach_callB hn hdf fun w s₀ s₁ mg mb fa o pm cd doc a vs ns G Y ho hd hcd hmg hobj hints hlen hbits hg => ?_
  obtain ⟨K, KX, fd, cs, sp, hT, nT, C, hb, hsp, hF⟩ := F w mg fa _ Y G.T.g hmg
  have A : Atcall K mg mb a vs ns cs s₁ := ⟨KX, G.T.g, G.T.b, G.T.builtins, G.T.nolimit, hg, hT, nT, C, G.T.bmain, hobj, hints, Nat.le_trans hlen hn2⟩
  exact A.run hr (hF _ A.kin' (A.nsp A.glo) A.tabB) hb (hsp _ a ns hlen hbits (fun p hp => sH_tab (List.mem_map.mpr ⟨p, hp, rfl⟩)) (SqF.of_sH A.sql)) fun e s' => cx_never
end Vy
set_option Elab.async false
set_option linter.all false
set_option maxRecDepth 100000
set_option maxHeartbeats 4000000
namespace Vy
open PySem PySem.Spec L2 PyProof.Rows He

/-! ### what the head leaves: own exceptions with an __init__ -/
structure XD where
  name : Str
  qual : Str
  params : Arguments
  body : List Stmt
  scope : Scope
  N : List Str
  fs : List Str
abbrev InV : Type := Option (Str × Str × Arguments × FuncBody × Scope × Addr × Addr)
def initA (K : PySem.W.Frag) (x : XD) : Addr := ma K (ga K x.name) "__init__"
def initV (K : PySem.W.Frag) (x : XD) : InV := match K.lookup (initA K x) with
  | some ⟨_, _, .func fd, _⟩ => some (fd.name, fd.qualname, fd.params, fd.body, fd.scope, fd.globals, fd.builtins)
  | _ => none
def XD.val (x : XD) : InV := some ("__init__", x.qual, x.params, .stmts x.body, x.scope, mainGlobals, builtinsNs)
def clsO (K : PySem.W.Frag) (C : Addr) : Bool := match K.lookup C with
  | some ⟨.type t, _, .cls cd, sl⟩ => decide (t = "type") && (match cd.mro, sl.toList with
    | .ref C' :: bm, [_, _, _, _, some (.builtin n), _] => decide (C' = C) && (decide (n = "ValueError.__new__") && ((!cd.hasDel && cd.hasDict) && PySem.HandSPX.refsVE bm))
    | _, _ => false)
  | _ => false
def codeF (file : Str) (K : PySem.W.Frag) (c : Addr) : Bool := match K.lookup c with
  | some ⟨_, _, .fields vs, _⟩ => (match (vs[2]? : Option Value) with
    | some (Value.str f _) => file == f
    | _ => false)
  | _ => false
def cellIs (K : PySem.W.Frag) (c C : Addr) : Bool := match K.lookup c with
  | some ⟨_, _, .cell (some v), _⟩ => decide (v = .ref C)
  | _ => false
def initB (file : Str) (K : PySem.W.Frag) (x : XD) : Bool := match K.lookup (initA K x) with
  | some ⟨_, _, .func fd, _⟩ => (match fd.closure, fd.code, fd.defaults, fd.kwdefaults, fd.annotations with
    | [(cn, cc)], .ref cda, .none, .none, none => decide (cn = "__class__") && (PySem.W.codeIn K (.ref cda) x.qual && (cellIs K cc (ga K x.name) && codeF file K cda))
    | _, _, _, _, _ => false)
  | _ => false
def supI (K : PySem.W.Frag) (C : Addr) : Bool := match PySem.W.clsIn K C with
  | some cd => decide (PySem.W.alongIn K "__init__" ((cd.mro.dropWhile (· != .ref C)).drop 1) = some (some (.builtin "ValueError.__init__")))
  | none => false
def exB (file : Str) (K : PySem.W.Frag) (x : XD) : Bool :=
  clsO K (ga K x.name) && (decide (PySem.W.findIn K (.ref (ga K x.name)) "__setattr__" = some (some (.builtin "object.__setattr__"))) && (decide (PySem.W.subIn K (.ref (ga K x.name)) (.type "BaseException") = some true) && (decide (PySem.W.typeIn K (.ref (ga K x.name)) = some (.type "type")) && (PySem.W.keepIn K (.ref (ga K x.name)) &&
  (decide (PySem.W.findIn K (.ref (ga K x.name)) "__init__" = some (some (.ref (initA K x)))) && (decide (PySem.W.typeIn K (.ref (initA K x)) = some (.type "function")) && (initB file K x && (supI K (ga K x.name) && (decide (PySem.W.mroIn K (ga K x.name) (.ref (ga K x.name)) = some true) &&
  (decide (PySem.W.subIn K (.ref (ga K x.name)) (.type "ValueError") = some true) && (decide (PySem.W.nsIn K PySem.cStatics "thirdparty.any" = some none) && (xfB K (ga K x.name) && x.fs.all fun f => decide (PySem.W.findIn K (.ref (ga K x.name)) f = some none)))))))))))))
/-- what the look says of a class -/
structure ExF (file : Str) (K : PySem.W.Frag) (x : XD) : Prop where
  ox : OexC K (ga K x.name)
  iC : PySem.W.findIn K (.ref (ga K x.name)) "__init__" = some (some (.ref (initA K x)))
  tI : PySem.W.typeIn K (.ref (initA K x)) = some (.type "function")
  fn : ∃ (oc : Value) (od : Option Addr) (doc pm ct : Value) (cc cda : Addr) (osl : Array (Option Value)), K.lookup (initA K x) = some ⟨oc, od, .func (PySem.W.fnX "__init__" x.qual x.params x.body x.scope [("__class__", cc)] .none .none doc pm none (.ref cda) ct), osl⟩ ∧ PySem.W.codeIn K (.ref cda) x.qual = true ∧
    (∃ ccl cdd vs ccs f tf, K.lookup cda = some ⟨ccl, cdd, .fields vs, ccs⟩ ∧ vs[2]? = some (.str f tf) ∧ (file == f) = true) ∧ ∃ cl cld csl, K.lookup cc = some ⟨cl, cld, .cell (some (.ref (ga K x.name))), csl⟩
  cls : ∃ cd, PySem.W.clsIn K (ga K x.name) = some cd ∧ PySem.W.alongIn K "__init__" ((cd.mro.dropWhile (· != .ref (ga K x.name))).drop 1) = some (some (.builtin "ValueError.__init__"))
  sub : PySem.W.mroIn K (ga K x.name) (.ref (ga K x.name)) = some true
  ve : PySem.W.subIn K (.ref (ga K x.name)) (.type "ValueError") = some true
  opq : PySem.W.nsIn K PySem.cStatics "thirdparty.any" = some none
  xf : XfC K (ga K x.name)
  no : ∀ f ∈ x.fs, PySem.W.findIn K (.ref (ga K x.name)) f = some none
section
variable {file : Str} {K : PySem.W.Frag} {x : XD}
theorem clsO_ok {C : Addr} (h : clsO K C = true) : ∃ nm q N bs bm sn sub ab col dd k0 k1 k2 k3 k5, K.lookup C = some (excClassObj nm q C N bs bm true sn sub ab col dd k0 k1 k2 k3 k5 "ValueError.__new__") ∧ PySem.HandSPX.refsVE bm = true := by
  unfold clsO at h
  split at h
  · rename_i t dd cd sl ho
    rw [Bool.and_eq_true] at h
    obtain ⟨ht, h⟩ := h
    have ht := of_decide_eq_true ht
    subst ht
    split at h
    · rename_i C' bm k0 k1 k2 k3 n k5 hm hs
      simp only [Bool.and_eq_true, decide_eq_true_eq, Bool.not_eq_true'] at h
      obtain ⟨rfl, rfl, ⟨hdel, hdi⟩, hr⟩ := h
      obtain ⟨nm, bs, mro, ns, qn, hd, sn, sub, ab, col, del⟩ := cd
      dsimp only at hm hdel hdi
      subst hm hdel hdi
      have hsl : sl = #[k0, k1, k2, k3, some (.builtin "ValueError.__new__"), k5] := by
        obtain ⟨l⟩ := sl
        simp only at hs
        rw [hs]
      subst hsl
      exact ⟨nm, qn, ns, bs, bm, sn, sub, ab, col, dd, k0, k1, k2, k3, k5, ho, hr⟩
    · cases h
  · cases h
theorem ex_ok (h : exB file K x = true) (e : initV K x = x.val) : ExF file K x := by
  unfold exB at h
  obtain ⟨h1, h⟩ := ba h
  obtain ⟨h2, h⟩ := ba h
  obtain ⟨h3, h⟩ := ba h
  obtain ⟨h4, h⟩ := ba h
  obtain ⟨h5, h⟩ := ba h
  obtain ⟨h6, h⟩ := ba h
  obtain ⟨h7, h⟩ := ba h
  obtain ⟨h8, h⟩ := ba h
  obtain ⟨h9, h⟩ := ba h
  obtain ⟨h10, h⟩ := ba h
  obtain ⟨h11, h⟩ := ba h
  obtain ⟨h12, h⟩ := ba h
  obtain ⟨h13, h14⟩ := ba h
  refine ⟨⟨clsO_ok h1, of_decide_eq_true h2, of_decide_eq_true h3, of_decide_eq_true h4, h5⟩, of_decide_eq_true h6, of_decide_eq_true h7, ?_, ?_, of_decide_eq_true h10, of_decide_eq_true h11, of_decide_eq_true h12, xfB_ok h13, fun f hf => of_decide_eq_true (List.all_eq_true.mp h14 f hf)⟩
  · unfold initB at h8
    unfold initV at e
    cases q : K.lookup (initA K x) with
    | none => rw [q] at h8; cases h8
    | some o =>
      obtain ⟨oc, od, dt, osl⟩ := o
      rw [q] at h8 e
      cases dt with
      | func fd =>
        obtain ⟨n1, n2, n3, n4, n5, n6, n7, n8, n9, n10, n11, n12, n13, n14, n15⟩ := fd
        have e2 : (some (n1, n2, n3, n4, n5, n6, n15) : InV) = some (("__init__" : Str), x.qual, x.params, FuncBody.stmts x.body, x.scope, mainGlobals, builtinsNs) := e
        simp only [Option.some.injEq, Prod.mk.injEq] at e2
        obtain ⟨z1, z2, z3, z4, z5, z6, z7⟩ := e2
        subst z1 z2 z3 z4 z5 z6 z7
        simp only at h8
        split at h8
        · rename_i cn cc cda
          simp only [Bool.and_eq_true, decide_eq_true_eq] at h8
          obtain ⟨rfl, k1, k2, k3⟩ := h8
          refine ⟨oc, od, n10, n11, n14, cc, cda, osl, rfl, k1, ?_, ?_⟩
          · unfold codeF at k3
            split at k3
            · rename_i ho
              split at k3
              · rename_i hv
                exact ⟨_, _, _, _, _, _, ho, hv, k3⟩
              · cases k3
            · cases k3
          · unfold cellIs at k2
            split at k2
            · rename_i ho
              rw [of_decide_eq_true k2] at ho
              exact ⟨_, _, _, ho⟩
            · cases k2
        · cases h8
      | _ => cases h8
  · unfold supI at h9
    split at h9
    · exact ⟨_, by assumption, of_decide_eq_true h9⟩
    · cases h9
end
/-! ### the Hook -/
def asY (g : Addr → Option Obj) : Nat → List Addr
  | 0 => [mainGlobals, PySem.cStatics]
  | n + 1 => growD g (asY g n)
abbrev AlY : Type := AlD × (Bool × List InV)
def obsY (file : Str) (n : Nat) (fa : List Fa) (fn : List DefD) (tf : List Defn) (xs : List XD) (g : Addr → Option Obj) : AlY :=
  (obsD fa fn (frT g (asY g n)), (tabsB g tf (frT g (asY g n)) && xs.all fun x => exB file (frT g (asY g n)) x, xs.map fun x => initV (frT g (asY g n)) x))
def valY (fn : List DefD) (xs : List XD) : AlY := (valD fn, (true, xs.map XD.val))
structure SaysY (file : Str) (fa : List Fa) (fn : List DefD) (tf : List Defn) (xs : List XD) (h : Heap) (K : PySem.W.Frag) : Prop where
  d : SaysD fa fn K
  hd : ∀ p ∈ tf, PySem.W.codeHdIn K (cT K p).1 (cT K p).2 = true
  out : ∀ p ∈ tf, K.lookup (cT K p).2 = none
  empty : ∀ p ∈ tf, h.get? (cT K p).2 = some { cls := .none, data := .fields #[] }
  ex : ∀ x ∈ xs, ExF file K x
theorem saysY_of {file : Str} {n : Nat} {fa : List Fa} {fn : List DefD} {tf : List Defn} {xs : List XD} {h : Heap} (e : obsY file n fa fn tf xs h.get? = valY fn xs) : SaysY file fa fn tf xs h (frT h.get? (asY h.get? n)) := by
  have e1 : obsD fa fn (frT h.get? (asY h.get? n)) = valD fn := congrArg (fun z : AlY => z.1) e
  have e2 : (tabsB h.get? tf (frT h.get? (asY h.get? n)) && xs.all fun x => exB file (frT h.get? (asY h.get? n)) x) = true := congrArg (fun z : AlY => z.2.1) e
  have e3 : (xs.map fun x => initV (frT h.get? (asY h.get? n)) x) = xs.map XD.val := congrArg (fun z : AlY => z.2.2) e
  generalize hK : frT h.get? (asY h.get? n) = K at e1 e2 e3 ⊢
  obtain ⟨h1, h2⟩ := ba e2
  have key : ∀ p ∈ tf, PySem.W.codeHdIn K (cT K p).1 (cT K p).2 = true ∧ ∃ o, h.get? (cT K p).2 = some o ∧ emptyTab o = true := fun p hp => by
    obtain ⟨h3, h4⟩ := ba (List.all_eq_true.mp h1 p hp)
    refine ⟨h3, ?_⟩
    cases q : h.get? (cT K p).2 with
    | none =>
      rw [q] at h4
      cases h4
    | some o =>
      rw [q] at h4
      exact ⟨o, rfl, h4⟩
  refine ⟨e1, fun p hp => (key p hp).1, fun p hp => ?_, fun p hp => ?_, fun x hx => ex_ok (List.all_eq_true.mp h2 x hx) ?_⟩
  · obtain ⟨_, o, q, z⟩ := key p hp
    rw [← hK] at q ⊢
    exact frT_none q z
  · obtain ⟨_, o, q, z⟩ := key p hp
    rw [q, emptyTab_eq z]
  · obtain ⟨i, hi, ex⟩ := List.mem_iff_getElem.mp hx
    have e4 : (xs.map fun x => initV K x)[i]? = (xs.map XD.val)[i]? := by rw [e3]
    rw [List.getElem?_map, List.getElem?_map, List.getElem?_eq_getElem hi, ex] at e4
    exact Option.some.inj e4
def hookY (file : Str) (n : Nat) (fa : List Fa) (fn : List DefD) (tf : List Defn) (xs : List XD) : PySem.W.Hook where
  α := AlY
  obs := fun s => obsY file n fa fn tf xs s.heap.get?
  val := fun _ => valY fn xs
  says := fun _ h => ∃ K : PySem.W.Frag, K.In h ∧ SaysY file fa fn tf xs h K
  of := fun _ _ e => ⟨_, frT_in, saysY_of e⟩
  keeps := fun _ _ _ ⟨K, hK, c⟩ k => ⟨K, PySem.W.Frag.In.keeps hK k, ⟨c.d, c.hd, c.out, fun p hp => k _ _ (c.empty p hp), c.ex⟩⟩
theorem obsY_eq {file : Str} {n : Nat} {fa : List Fa} {fn : List DefD} {tf : List Defn} {xs : List XD} {g : Addr → Option Obj} {s : Shared} (h : ∀ a, g a = s.heap.get? a) : obsY file n fa fn tf xs g = (hookY file n fa fn tf xs).obs s := by
  have e : g = s.heap.get? := funext h
  rw [e] <;> rfl
end Vy
set_option Elab.async false
set_option linter.all false
set_option maxRecDepth 100000
set_option maxHeartbeats 4000000
namespace Vy
open PySem PySem.Spec L2 PyProof.Rows He

/-! ### a row of a law's table of defs -/
/-- a plain def, a method of the class c, its __init__ (C: the class's name) -/
inductive RK | fn | mth (c : Nat) (C : Str) | mk (c : Nat) (C : Str)
structure Row where
  x : Str
  gd : Bool
  st : Stmt
  fn : FnI
  N : List Str
  ps : List Str
  k : RK := .fn
  q : Str := x
def fscB (N ps : List Str) (sc : Scope) : Bool := decide (sc.kind = .function) && (!sc.isCoroutine && (!sc.isGenerator && (decide N.Nodup && (decide (N.take ps.length = ps) && (ps.all (fun x => decide (sc.names.lookup x = some .local) || decide (sc.names.lookup x = some .cell)) && sc.names.all (fun y => !decide (y.2 = .free)))))))
theorem fsc_ok {N ps : List Str} {sc : Scope} (h : fscB N ps sc = true) : FnScope N ps sc := by
  unfold fscB at h
  simp only [Bool.and_eq_true, Bool.or_eq_true, Bool.not_eq_true', decide_eq_true_eq, decide_eq_false_iff_not, List.all_eq_true] at h
  obtain ⟨a, b, c, d, e, f, g⟩ := h
  exact ⟨a, b, c, d, e, f, g⟩
def argB : Arguments → List Str → Bool
  | ⟨[], as, none, [], [], none, []⟩, ps => decide (as.map (·.arg) = ps) && decide (as.length ≤ 5)
  | _, _ => false
/-- its arguments are bound by place -/
def BindR (r : Row) : Prop := ∀ (kV doc pm : Value) (an : Option Addr) (cdv ct : Value) (us : List Value), us.length = r.ps.length → bindArgs (PySem.W.fnOf r.x r.q (defArgs r.st) (defBody r.st) (defScope r.st) .none kV doc pm an cdv ct) ⟨us, []⟩ = pure (r.ps.zip us)
def BindAll : List Row → Prop
  | [] => True
  | r :: rs => BindR r ∧ BindAll rs
theorem BindAll.at_ : ∀ {l : List Row}, BindAll l → ∀ r ∈ l, BindR r
  | [], _, r, h => absurd h (by simp)
  | q :: rs, b, r, h => by
    rcases List.mem_cons.mp h with e | h
    · rw [e]; exact b.1
    · exact BindAll.at_ b.2 r h
def BindX (x : XD) : Prop := ∀ (doc pm : Value) (cl : List (Str × Addr)) (cdv ct : Value) (us : List Value), us.length = x.fs.length + 1 → bindArgs (PySem.W.fnX "__init__" x.qual x.params x.body x.scope cl .none .none doc pm none cdv ct) ⟨us, []⟩ = pure ((("self" : Str) :: x.fs).zip us)
def Row.at_ (r : Row) : Str × Option Str := match r.k with
  | .fn => (r.x, none)
  | .mth _ C => (C, some r.x)
  | .mk _ C => (C, some r.x)
def Row.d (r : Row) : DefD := ⟨r.at_, r.x, r.q, defArgs r.st, defBody r.st, defScope r.st, [], []⟩
def isFn : RK → Bool
  | .fn => true
  | _ => false
def Row.ok (G : GT) (lm : Nat) (r : Row) : Bool := isFn r.k && (decide (r.q = r.x) && (decide (r.fn.ini.isNone = true) && (fscB r.N r.ps (defScope r.st) && ((decide (r.fn.np = r.ps.length) && (decide (r.fn.ns = r.N.length) && chkSS G ⟨r.N, defScope r.st, fun _ => true, r.gd, lm⟩ r.fn.body (defBody r.st)))))))
structure RowOk (G : GT) (lm : Nat) (r : Row) : Prop where
  k : r.k = .fn
  q : r.q = r.x
  ini : r.fn.ini = none
  sc : FnScope r.N r.ps (defScope r.st)
  np : r.fn.np = r.ps.length
  ns : r.fn.ns = r.N.length
  ch : chkSS G ⟨r.N, defScope r.st, fun _ => true, r.gd, lm⟩ r.fn.body (defBody r.st) = true
theorem isFn_eq {k : RK} (h : isFn k = true) : k = .fn := by
  cases k <;> first | rfl | cases h
theorem row_ok {G : GT} {lm : Nat} {r : Row} (h : r.ok G lm = true) : RowOk G lm r := by
  unfold Row.ok at h
  obtain ⟨h01, h⟩ := ba h
  obtain ⟨h02, h⟩ := ba h
  obtain ⟨h03, h⟩ := ba h
  obtain ⟨h1, h⟩ := ba h
  obtain ⟨h3, h⟩ := ba h
  obtain ⟨h4, h5⟩ := ba h
  exact ⟨isFn_eq h01, of_decide_eq_true h02, Option.isNone_iff_eq_none.mp (of_decide_eq_true h03), fsc_ok h1, of_decide_eq_true h3, of_decide_eq_true h4, h5⟩
/-- the classes by their numbers: names, fields -/
abbrev OC := List (Str × List Str)
def ocN (o : OC) (c : Nat) : Str := (o[c]?.getD ("", [])).1
def ocF (o : OC) (c : Nat) : List Str := (o[c]?.getD ("", [])).2
/-- a method, an __init__ -/
def Row.okM (G : GT) (o : OC) (r : Row) : Bool := match r.k with
  | .fn => false
  | .mth c C => decide (c < o.length) && (decide (ocN o c = C) && (decide (r.x ∉ ocF o c) && (r.fn.ini.isNone && (fscB r.N r.ps (defScope r.st) && (decide (r.fn.np = r.ps.length) && (decide (r.fn.ns = r.N.length) && chkSS G ⟨r.N, defScope r.st, fun _ => true, r.gd, 0⟩ r.fn.body (defBody r.st)))))))
  | .mk c C => decide (c < o.length) && (decide (ocN o c = C) && (decide (r.x = "__init__") && (match r.fn.ini, r.ps with
    | some (c', pres, fl), s :: ps' => decide (c' = c) && (decide (ocF o c = fl.map (·.1)) && (decide (ocF o c).Nodup && (decide ((ocF o c).length ≤ 900) && (!r.fn.tr && (fscB r.N r.ps (defScope r.st) && (decide (r.fn.np = r.ps.length) && (decide (r.fn.ns = r.N.length) &&
        (chkN ⟨r.N, defScope r.st, fun _ => true, r.gd, 0⟩ 0 s && chkIni G ⟨r.N, defScope r.st, fun _ => true, r.gd, 0⟩ c s pres fl (defBody r.st)))))))))
    | _, _ => false)))
/-! ### own exceptions -/
def XD.ok (x : XD) : Bool := (match x.body with
    | st :: rest => supB x.fs st && initC x.fs rest
    | [] => false) && (NdefX.nscB x.N ("self" :: x.fs) ["__class__"] x.scope && (argB x.params ("self" :: x.fs) && (decide (x.scope.names.lookup ("super" : Str) = some .globalImplicit) &&
  (x.fs.all (fun f => !(f == ("__debug__" : Str)) && !(f == ("__classdict__" : Str))) && (decide (1 ≤ x.fs.length) && (decide (x.fs.length ≤ 2) && decide x.fs.Nodup))))))
theorem arg_head {a : Arguments} {p : Str} {ps : List Str} (h : argB a (p :: ps) = true) : ∃ ar, (a.posonlyargs ++ a.args).head? = some ar ∧ ar.arg = p := by
  unfold argB at h
  split at h
  · rename_i qs e as
    rw [Bool.and_eq_true, decide_eq_true_eq] at h
    cases as with
    | nil => exact absurd h.1 (by simp)
    | cons b bs =>
      have := h.1
      injection this with h1 h2
      exact ⟨b, rfl, h1⟩
  · cases h
variable [Tb]
theorem row_def {G : GT} {K : PySem.W.Frag} {mg : Str → Option Value} {r : Row} {f : Addr} {fd : FuncData} (F : FunD K r.x r.q (defArgs r.st) (defBody r.st) (defScope r.st) [] [] f fd) (hm : mg r.x = some (.ref f)) (h : RowOk G 0 r) (hb : BindR r) : DefOk G K mg r.x r.gd r.fn := by
  have b := FunD.bindsN (ps := r.ps) F hb
  obtain ⟨oc, od, dV, kV, doc, pm, an, cdv, ct, osl, rfl, lk, hcd, hD, hK⟩ := F.ex
  rw [h.q] at lk hcd b
  exact ⟨f, _, _, _, r.N, r.ps, dV, kV, doc, pm, cdv, ct, oc, an, od, osl, hm, F.kp, lk, hcd, b, h.sc, h.np, h.ns, h.ch, h.ini⟩
theorem row_mth {G : GT} {K : PySem.W.Frag} {o : OC} {r : Row} {c : Nat} {C : Str} {fd : FuncData} (hk : r.k = .mth c C) (F : FunD K r.x r.q (defArgs r.st) (defBody r.st) (defScope r.st) [] [] (ma K (ga K C) r.x) fd) (hoc : Tb.oc c = ga K (ocN o c)) (hol : Tb.ol c = ocF o c) (hc : (Fa.cls C).ok K = true) (hm : (Fa.meth C r.x).ok K = true)
    (h : r.okM G o = true) (hb : BindR r) : MthOk G K c r.x r.gd r.fn := by
  have b := FunD.bindsN (ps := r.ps) F hb
  obtain ⟨oc, od, dV, kV, doc, pm, an, cdv, ct, osl, rfl, lk, hcd, hD, hK⟩ := F.ex
  unfold Row.okM at h
  rw [hk] at h
  simp only at h
  obtain ⟨h0, h⟩ := ba h
  obtain ⟨h1, h⟩ := ba h
  obtain ⟨h2, h⟩ := ba h
  obtain ⟨h3, h⟩ := ba h
  obtain ⟨h4, h⟩ := ba h
  obtain ⟨h5, h⟩ := ba h
  obtain ⟨h6, h7⟩ := ba h
  have e1 : Tb.oc c = ga K C := by rw [hoc, of_decide_eq_true h1]
  refine ⟨by rw [hol]; exact of_decide_eq_true h2, by rw [e1]; exact cls_ok hc, _, r.q, _, _, _, r.N, r.ps, dV, kV, doc, pm, cdv, ct, oc, an, od, osl, by rw [e1]; exact meth_ok hm, lk, hcd, b, fsc_ok h4, of_decide_eq_true h5, of_decide_eq_true h6, h7, Option.isNone_iff_eq_none.mp h3⟩
theorem row_mkr {G : GT} {K : PySem.W.Frag} {mg : Str → Option Value} {o : OC} {r : Row} {c : Nat} {C : Str} {fd : FuncData} (hk : r.k = .mk c C) (F : FunD K r.x r.q (defArgs r.st) (defBody r.st) (defScope r.st) [] [] (ma K (ga K C) r.x) fd) (hoc : Tb.oc c = ga K (ocN o c)) (hol : Tb.ol c = ocF o c) (hc : (Fa.cls C).ok K = true) (hm : (Fa.mkr C).ok K = true)
    (hg : mg C = some (.ref (ga K C))) (hn : ∀ f ∈ ocF o c, (Fa.noat C f).ok K = true) (h : r.okM G o = true) (hb : BindR r) : MkrOk G K mg c C r.gd r.fn := by
  have b := FunD.bindsN (ps := r.ps) F hb
  obtain ⟨oc, od, dV, kV, doc, pm, an, cdv, ct, osl, rfl, lk, hcd, hD, hK⟩ := F.ex
  unfold Row.okM at h
  rw [hk] at h
  simp only at h
  obtain ⟨h0, h⟩ := ba h
  obtain ⟨h1, h⟩ := ba h
  obtain ⟨h2, h⟩ := ba h
  have e1 : Tb.oc c = ga K C := by rw [hoc, of_decide_eq_true h1]
  split at h
  · rename_i c' pres fl s ps' hi hps
    obtain ⟨h3, h⟩ := ba h
    obtain ⟨h4, h⟩ := ba h
    obtain ⟨h5, h⟩ := ba h
    obtain ⟨h6, h⟩ := ba h
    obtain ⟨h7, h⟩ := ba h
    obtain ⟨h8, h⟩ := ba h
    obtain ⟨h9, h⟩ := ba h
    obtain ⟨h10, h⟩ := ba h
    obtain ⟨h11, h12⟩ := ba h
    have e3 := of_decide_eq_true h3
    subst e3
    have e4 := of_decide_eq_true h4
    have M := mkr_ok hm
    rw [← of_decide_eq_true h2] at M
    refine ⟨by rw [e1]; exact cls_ok hc, by rw [e1]; exact hg, by rw [hol]; exact of_decide_eq_true h5, _, s, r.x, r.q, _, _, _, r.N, r.ps, dV, kV, doc, pm, cdv, ct, oc, an, od, osl, ps'.length, pres, fl, by rw [e1]; exact M, lk, hcd, b, fsc_ok h8, of_decide_eq_true h9, by rw [hps]; rfl, of_decide_eq_true h10, by simpa using h7, hi, by rw [hol]; exact of_decide_eq_true h6, by rw [hol]; exact e4, fun p hp => ?_, h11, h12⟩
    rw [e1]
    exact noat_ok (hn p.1 (by rw [e4]; exact List.mem_map.mpr ⟨p, hp, rfl⟩))
  · cases h
theorem xd_exc {file : Str} {K : PySem.W.Frag} {x : XD} {V_ : Nv} {k : Nat} {X : Cx} (e : ExF file K x) (c : x.ok = true) (hK : X.K = K) (hfile : X.prog.main.file = file) (hsup : X.mg "super" = none) (htop : (X.prog.main.scope.names.lookup ("super" : Str)).isSome = false)
    (hkin : K.In X.base) (hC : V_.ca k = ga K x.name) (hfs : V_.fl k = x.fs) (hm : X.mg x.name = some (.ref (ga K x.name))) (hr : Room 2 X.A) (hbx : BindX x) : ExcOk V_ k x.name X := by
  subst hK hfile
  unfold XD.ok at c
  obtain ⟨c1, c⟩ := ba c
  obtain ⟨c2, c⟩ := ba c
  obtain ⟨c3, c⟩ := ba c
  obtain ⟨c4, c⟩ := ba c
  obtain ⟨c5, c⟩ := ba c
  obtain ⟨c6, c⟩ := ba c
  obtain ⟨c7, c8⟩ := ba c
  obtain ⟨oc, od, doc, pm, ct, cc, cda, osl, lk, hcd, hcode, hcell⟩ := e.fn
  have T : SupC X.prog X.K X.mg (ga X.K x.name) (initA X.K x) cc cda (PySem.W.fnX "__init__" x.qual x.params x.body x.scope [("__class__", cc)] .none .none doc pm none (.ref cda) ct) :=
    ⟨e.ox, ⟨oc, od, osl, lk⟩, hcode, hcell, e.cls, e.sub, e.ve, hsup, htop, e.opq⟩
  obtain ⟨ar, ha1, ha2⟩ := arg_head c3
  cases hb : x.body with
  | nil => rw [hb] at c1; cases c1
  | cons st rest =>
    rw [hb] at c1
    obtain ⟨b1, b2⟩ := ba c1
    have F1 := fn_init (P := X.prog) (w := X.w) (mg := X.mg) (base := X.base) (k := 0) T lk hcd hb b1 b2 (NdefX.nscope_by c2) ha1 ha2 (of_decide_eq_true c4) (fun f hf => ⟨e.no f hf, by
      have := List.all_eq_true.mp c5 f hf
      simpa [Bool.and_eq_true, Bool.not_eq_true'] using this⟩) (of_decide_eq_true c6) (of_decide_eq_true c7) (by
      obtain ⟨cl, cld, csl, q⟩ := hcell
      rw [hkin _ _ q]
      exact fun z => by cases z)
    refine exc_ok (cc := cc) (cda := cda) (ar := 0) hC hfs (of_decide_eq_true c8) (by have := of_decide_eq_true c7; omega) e.ox e.iC e.tI F1 hr ?_ hm
    refine .all fun us hl => ?_
    exact hbx doc pm _ _ ct us hl
end Vy
set_option Elab.async false
set_option linter.all false
set_option maxRecDepth 100000
set_option maxHeartbeats 1000000
namespace Vy
open PySem PySem.Spec L2 PyProof.Rows He

/-! ### the end of a law of plain defs -/
def faG (rows : List Row) (td : DefD) (rl : Row) (xs : List XD) (cons : List (Str × Int)) : List Fa :=
  (rows.map fun r => .glo r.x) ++ ([.glo td.name, .glo rl.x] ++ ((bltN.map fun y => .free y) ++ ([.free "super"] ++ ((cons.map fun c => .int c.1 c.2) ++ ((xs.map fun x => .glo x.name) ++ (xs.flatMap fun a => xs.map fun b => .exm a.name b.name (decide (a.name = b.name))))))))
def faM (o : OC) (ms : List Row) : List Fa := (o.flatMap fun p => [.glo p.1, .cls p.1, .mkr p.1] ++ p.2.map fun f => .noat p.1 f) ++ ms.flatMap fun r => match r.k with
  | .mth _ C => [.meth C r.x]
  | _ => []
def faA (rows : List Row) (td : DefD) (rl : Row) (xs : List XD) (cons : List (Str × Int)) (o : OC) (ms : List Row) : List Fa := faG rows td rl xs cons ++ faM o ms
def fnG (rows : List Row) (td : DefD) (rl : Row) (ms : List Row) : List DefD := rows.map Row.d ++ ([td, rl.d] ++ ms.map Row.d)
/-- methods, makers, attributes in the tables -/
def mtsOf (n0 : Nat) : List Row → List (Nat × Nat × Str × Bool)
  | [] => []
  | r :: rs => match r.k with
    | .mth c _ => (n0, c, r.x, r.gd) :: mtsOf (n0 + 1) rs
    | _ => mtsOf (n0 + 1) rs
def mksOf (n0 : Nat) : List Row → List (Nat × Str × Nat × Bool)
  | [] => []
  | r :: rs => match r.k with
    | .mk c C => (c, C, n0, r.gd) :: mksOf (n0 + 1) rs
    | _ => mksOf (n0 + 1) rs
def ixOf (c : Nat) (i : Nat) : List Str → List (Nat × Nat × Str)
  | [] => []
  | x :: r => (c, i, x) :: ixOf c (i + 1) r
def atsOf (n0 : Nat) : OC → List (Nat × Nat × Str)
  | [] => []
  | p :: r => ixOf n0 0 p.2 ++ atsOf (n0 + 1) r
theorem mtsOf_mem {f c : Nat} {x : Str} {gd : Bool} : ∀ {l : List Row} {n0 : Nat}, (f, c, x, gd) ∈ mtsOf n0 l → ∃ i r C, l[i]? = some r ∧ f = n0 + i ∧ r.k = .mth c C ∧ x = r.x ∧ gd = r.gd
  | [], _, h => by simp [mtsOf] at h
  | r :: rs, n0, h => by
    have rest : (f, c, x, gd) ∈ mtsOf (n0 + 1) rs → ∃ i r' C, (r :: rs)[i]? = some r' ∧ f = n0 + i ∧ r'.k = .mth c C ∧ x = r'.x ∧ gd = r'.gd := fun h => by
      obtain ⟨i, r', C, h1, h2, h3⟩ := mtsOf_mem h
      exact ⟨i + 1, r', C, by simpa using h1, by omega, h3⟩
    unfold mtsOf at h
    split at h
    · rename_i c' C hk
      rcases List.mem_cons.mp h with h | h
      · cases h
        exact ⟨0, r, C, rfl, rfl, hk, rfl, rfl⟩
      · exact rest h
    · exact rest h
theorem mksOf_mem {f c : Nat} {x : Str} {gd : Bool} : ∀ {l : List Row} {n0 : Nat}, (c, x, f, gd) ∈ mksOf n0 l → ∃ i r, l[i]? = some r ∧ f = n0 + i ∧ r.k = .mk c x ∧ gd = r.gd
  | [], _, h => by simp [mksOf] at h
  | r :: rs, n0, h => by
    have rest : (c, x, f, gd) ∈ mksOf (n0 + 1) rs → ∃ i r', (r :: rs)[i]? = some r' ∧ f = n0 + i ∧ r'.k = .mk c x ∧ gd = r'.gd := fun h => by
      obtain ⟨i, r', h1, h2, h3⟩ := mksOf_mem h
      exact ⟨i + 1, r', by simpa using h1, by omega, h3⟩
    unfold mksOf at h
    split at h
    · rename_i c' C hk
      rcases List.mem_cons.mp h with h | h
      · cases h
        exact ⟨0, r, rfl, rfl, hk, rfl⟩
      · exact rest h
    · exact rest h
theorem ixOf_mem {c c' i : Nat} {x : Str} : ∀ {l : List Str} {j : Nat}, (c, i, x) ∈ ixOf c' j l → c = c' ∧ ∃ k, i = j + k ∧ l[k]? = some x
  | [], _, h => by simp [ixOf] at h
  | y :: r, j, h => by
    rcases List.mem_cons.mp h with h | h
    · cases h
      exact ⟨rfl, 0, rfl, rfl⟩
    · obtain ⟨a, k, b, d⟩ := ixOf_mem h
      exact ⟨a, k + 1, by omega, by simpa using d⟩
theorem atsOf_mem {c i : Nat} {x : Str} : ∀ {o : OC} {n0 : Nat}, (c, i, x) ∈ atsOf n0 o → ∃ j p, c = n0 + j ∧ o[j]? = some p ∧ p.2[i]? = some x
  | [], _, h => by simp [atsOf] at h
  | p :: r, n0, h => by
    rcases List.mem_append.mp h with h | h
    · obtain ⟨rfl, k, rfl, b⟩ := ixOf_mem h
      exact ⟨0, p, rfl, rfl, by rw [Nat.zero_add]; exact b⟩
    · obtain ⟨j, q, a, b, d⟩ := atsOf_mem h
      exact ⟨j + 1, q, by omega, by simpa using b, d⟩
/-- own exceptions by their numbers (0: none's) -/
def xsI (xs : List XD) : List XD := xs.take 1 ++ xs
def gtG (rows : List Row) (td : DefD) (xs : List XD) (cons : List (Str × Int)) (ws : List (Nat × Str)) (o : OC) (ms : List Row) : GT :=
  { mts := mtsOf rows.length ms, mks := mksOf rows.length ms, ats := atsOf 0 o, fns := rows.map fun r => (r.x, r.gd), cons := cons.map (·.1), excs := (xsI xs).map (·.name), tn := td.name, ws := ws, exn := (xsI xs).map (·.fs.length) }
def x0 : XD := ⟨"", "", ⟨[], [], none, [], [], none, []⟩, [], ⟨.function, [], false, false, []⟩, [], []⟩
def nvG (K : PySem.W.Frag) (xs : List XD) : Nv := ⟨K, fun k => ga K ((xsI xs)[k]?.getD x0).name, fun k => ((xsI xs)[k]?.getD x0).fs, ⟨fun _ _ _ => .bad, []⟩⟩
def lamQ (rl : Row) : Str := (envOfC rl.q (defScope rl.st) 0 0 .none).qual ++ "<lambda>"
/-- the def that tells: what the look wants of it -/
structure TellD (td : DefD) (xs : List XD) (tbl : List (Nat × Str × Str × Str)) : Prop where
  parts : ∃ (a : Str) (Ng : List Str) (h₀ : ExceptHandler) (hds : List ExceptHandler) (p1 p2 p3 p8 : Pos), td.body = [.Try [.Return (some (.Call (.Name a p1) [] [] p2)) p3] (h₀ :: hds) [] [] p8] ∧ Ng = [a, "e"] ∧ FnScope Ng [a] td.scope ∧ Vis td.scope a ∧ (a == ("__debug__" : Str)) = false ∧ (a == ("__classdict__" : Str)) = false ∧
    clssB (tbl.map (·.2)) (h₀ :: hds) = true ∧ ∀ (kV doc pm : Value) (an : Option Addr) (cdv ct : Value) (us : List Value), us.length = 1 → bindArgs (PySem.W.fnOf td.name td.qual td.params td.body td.scope .none kV doc pm an cdv ct) ⟨us, []⟩ = pure ([a].zip us)
  e : td.scope.names.lookup ("e" : Str) = some .local
  glo : ∀ t ∈ tbl, td.scope.names.lookup t.2.1 = some .globalImplicit
  dbg : ∀ t ∈ tbl, (t.2.1 == ("__debug__" : Str)) = false
  xs : ∀ t ∈ tbl, ∃ x ∈ xs, (xsI xs)[t.1]? = some x ∧ x.name = t.2.1 ∧ x.fs = [t.2.2.2]
  nm : ∀ t ∈ tbl, ∀ t' ∈ tbl, decide (t.2.1 = t'.2.1) = decide (t.1 = t'.1)
  eq : td.qual = td.name ∧ td.dfl = [] ∧ td.kwd = [] ∧ td.at_ = (td.name, none)
section
variable {o : OC} {ms : List Row} {rows : List Row} {td : DefD} {rl : Row} {xs : List XD} {cons : List (Str × Int)} {tbl : List (Nat × Str × Str × Str)} {file : Str} {l : PySem.W.OpenLaw} {w : World} {K : PySem.W.Frag} {h : Heap} {mg : Str → Option Value} {fa : Addr} {x : Str} {lim dp : Nat}
theorem xsI_mem {k : Nat} {y : XD} (h : (xsI xs)[k]? = some y) : y ∈ xs := by
  have := List.mem_of_getElem? h
  unfold xsI at this
  rcases List.mem_append.mp this with z | z
  · exact List.mem_of_mem_take z
  · exact z
def ocN' (K : PySem.W.Frag) (o : OC) (c : Nat) : Addr := ga K (ocN o c)
theorem law_at (KX : K.In h) (c : SaysY file (faA rows td rl xs cons o ms) (fnG rows td rl ms) [(rl.x, none)] xs h K) (Gm : h.Ns mainGlobals mg) (hfa : mg rl.x = some (.ref fa)) (hfile : l.prog.main.file = file) (htop : (l.prog.main.scope.names.lookup ("super" : Str)).isSome = false)
    (hrows : ∀ r ∈ rows, r.ok (gtG rows td xs cons (tbl.map fun t => (t.1, t.2.2.1)) o ms) 0 = true) (hb : BindAll rows) (hms : ∀ r ∈ ms, r.okM (gtG rows td xs cons (tbl.map fun t => (t.1, t.2.2.1)) o ms) o = true) (hbm : BindAll ms) (hoc : ∀ p ∈ o, p.2.Nodup) (hlaw : rl.ok (gtG rows td xs cons (tbl.map fun t => (t.1, t.2.2.1)) o ms) 2 = true) (hbl : BindR rl) (hps : rl.ps = [x]) (hgd : rl.gd = true)
    (T : TellD td xs tbl) (hdn : (td.name == ("__debug__" : Str)) = false) (hgl : (defScope rl.st).names.lookup td.name = some .globalImplicit) (hxs : ∀ y ∈ xs, y.ok = true) (hxb : ∀ y ∈ xs, BindX y)
    (hrun : ∀ is : List Int, is.length ≤ 63 → runF (rows.map Row.fn ++ (ms.map Row.fn ++ [rl.fn])) (cons.map fun q => .int q.2) lim (dp + 1) (rows.length + ms.length) [.p (.list (is.map .int))] [] = .ok (.p (.bool true)) []) :
    LawAtG l w K (2 * dp + 5) 63 x mg fa h := by
  generalize hG : gtG rows td xs cons (tbl.map fun t => (t.1, t.2.2.1)) o ms = G at hrows hlaw hms
  have fact : ∀ f ∈ faG rows td rl xs cons, f.ok K = true := fun f hf => c.d.facts (List.mem_append_left _ hf)
  have factM : ∀ f ∈ faM o ms, f.ok K = true := fun f hf => c.d.facts (List.mem_append_right _ hf)
  have glo : ∀ y, Fa.glo y ∈ faG rows td rl xs cons → mg y = some (.ref (ga K y)) := fun y hy => glo_ok KX Gm (fact _ hy)
  have fre : ∀ y, Fa.free y ∈ faG rows td rl xs cons → mg y = none := fun y hy => free_ok KX Gm (fact _ hy)
  have g1 : ∀ r ∈ rows, mg r.x = some (.ref (ga K r.x)) := fun r hr => glo _ (List.mem_append_left _ (List.mem_map.mpr ⟨r, hr, rfl⟩))
  have g2 : mg td.name = some (.ref (ga K td.name)) := glo _ (List.mem_append_right _ (List.mem_append_left _ (by simp)))
  have g3 : mg rl.x = some (.ref (ga K rl.x)) := glo _ (List.mem_append_right _ (List.mem_append_left _ (by simp)))
  have g4 : ∀ y ∈ xs, mg y.name = some (.ref (ga K y.name)) := fun y hy => glo _ (by simp only [faG, List.mem_append]; exact .inr (.inr (.inr (.inr (.inr (.inl (List.mem_map.mpr ⟨y, hy, rfl⟩)))))))
  have f1 : ∀ y ∈ bltN, mg y = none := fun y hy => fre _ (by simp only [faG, List.mem_append]; exact .inr (.inr (.inl (List.mem_map.mpr ⟨y, hy, rfl⟩))))
  have f2 : mg "super" = none := fre _ (by simp only [faG, List.mem_append]; exact .inr (.inr (.inr (.inl (by simp)))))
  have i1 : ∀ q ∈ cons, ∃ t, mg q.1 = some (.int q.2 t) := fun q hq => int_ok KX Gm (fact _ (by simp only [faG, List.mem_append]; exact .inr (.inr (.inr (.inr (.inl (List.mem_map.mpr ⟨q, hq, rfl⟩)))))))
  have m1 : ∀ a ∈ xs, ∀ b ∈ xs, PySem.W.exmOne K (.ref (ga K a.name)) (.ref (ga K b.name)) = some (decide (a.name = b.name)) := fun a ha b hb => exm_ok (fact _ (by simp only [faG, List.mem_append]; exact .inr (.inr (.inr (.inr (.inr (.inr (List.mem_flatMap.mpr ⟨a, ha, List.mem_map.mpr ⟨b, hb, rfl⟩⟩))))))))
  have hfa2 : fa = ga K rl.x := by
    rw [g3] at hfa
    exact (Value.ref.inj (Option.some.inj hfa)).symm
  subst hfa2
  -- the law's def
  obtain ⟨fdL, FL⟩ := c.d.defs (d := rl.d) (by simp [fnG])
  have RL := row_ok hlaw
  have bL := FunD.bindsN (ps := rl.ps) FL hbl
  have bA := FunD.bindsA (ps := rl.ps) FL hbl
  have FL0 := FL
  obtain ⟨oc, od, dV, kV, doc, pm, an, cdv, ct, osl, rfl, lk, hcd, hD, hKw⟩ := FL.ex
  have hdV : dV = .none := by
    rcases hD with ⟨_, e⟩ | ⟨e, _⟩
    · exact e
    · exact absurd rfl e
  obtain ⟨cc, hcc⟩ := codeIn_ref hcd
  have hat : rl.d.at_ = (rl.x, none) := by show rl.at_ = _; unfold Row.at_; rw [RL.k]
  rw [hat] at lk
  have hco : codeOf K (rl.x, none) = cc := codeOf_eq (p := (rl.x, none)) lk hcc
  letI : Tb := ⟨[((cT K (rl.x, none)).2, lamQ rl)], ocN' K o, ocF o⟩
  -- the def that tells
  obtain ⟨fdT, FT⟩ := c.d.defs (d := td) (by simp [fnG])
  obtain ⟨q1, q2, q3, q4⟩ := T.eq
  obtain ⟨a, Ng, h₀, hds, p1, p2, p3, p8, t1, t2, t3, t4, t5, t6, t7, t8⟩ := T.parts
  let V_ : Nv := nvG K xs
  let FP := rows.map Row.fn ++ (ms.map Row.fn ++ [rl.fn])
  let cs : List D := cons.map fun q => .int q.2
  have hxk : ∀ (k : Nat) (y : XD), (xsI xs)[k]? = some y → V_.ca k = ga K y.name ∧ V_.fl k = y.fs := fun k y hy => by
    refine ⟨?_, ?_⟩
    · show ga K ((xsI xs)[k]?.getD x0).name = _
      rw [hy]; rfl
    · show ((xsI xs)[k]?.getD x0).fs = _
      rw [hy]; rfl
  have hgx : ∀ (base : Heap), K.In base → ∀ d, Gx G (vN V_ FP cs lim d) l.prog w mg base := fun base hkin d => by
    refine ⟨fun k y hk X e1 e2 e3 e4 e5 hcalm hr => ?_, fun k m hk => ?_⟩
    · rw [← hG] at hk
      have hk : ((xsI xs).map (·.name))[k]? = some y := hk
      rw [List.getElem?_map] at hk
      cases hy : (xsI xs)[k]? with
      | none => rw [hy] at hk; cases hk
      | some yx =>
        rw [hy] at hk
        cases hk
        have hm := xsI_mem hy
        obtain ⟨z1, z2⟩ := hxk k yx hy
        have e5' : X.K = K := e5
        exact xd_exc (V_ := vN V_ FP cs lim d) (c.ex yx hm) (hxs yx hm) e5' (by rw [e1]; exact hfile) (by rw [e3]; exact f2) (by rw [e1]; exact htop) (by rw [e4]; exact hkin) z1 z2 (by rw [e3]; exact g4 yx hm) hr (hxb yx hm)
    · rw [← hG] at hk
      have hk : ((xsI xs).map (·.fs.length))[k]? = some m := hk
      rw [List.getElem?_map] at hk
      cases hy : (xsI xs)[k]? with
      | none => rw [hy] at hk; cases hk
      | some yx =>
        rw [hy] at hk
        cases hk
        obtain ⟨z1, z2⟩ := hxk k yx hy
        refine ⟨congrArg List.length z2, ?_⟩
        show (V_.fl k).Nodup
        rw [z2]
        have := hxs yx (xsI_mem hy)
        unfold XD.ok at this
        obtain ⟨_, z⟩ := ba this
        obtain ⟨_, z⟩ := ba z
        obtain ⟨_, z⟩ := ba z
        obtain ⟨_, z⟩ := ba z
        obtain ⟨_, z⟩ := ba z
        obtain ⟨_, z⟩ := ba z
        obtain ⟨_, z⟩ := ba z
        exact of_decide_eq_true z
  have hcon : ∀ (k : Nat) (y : Str), G.cons[k]? = some y → ∃ d v u, cs[k]? = some d ∧ mg y = some u ∧ RelV v u ∧ ∀ H, Rp V_.K H d v := fun k y hk => by
    rw [← hG] at hk
    have hk : (cons.map (·.1))[k]? = some y := hk
    rw [List.getElem?_map] at hk
    cases hy : cons[k]? with
    | none => rw [hy] at hk; cases hk
    | some q =>
      rw [hy] at hk
      cases hk
      obtain ⟨t, ht⟩ := i1 q (List.mem_of_getElem? hy)
      refine ⟨.int q.2, .int q.2, .int q.2 t, ?_, ht, ⟨t, rfl⟩, fun H => .int q.2⟩
      show (cons.map fun q => PyData.int q.2)[k]? = _
      rw [List.getElem?_map, hy]
      rfl
  have hdefs : ∀ (f : Nat) (y : Str) (gd : Bool), G.fns[f]? = some (y, gd) → ∃ fn, FP[f]? = some fn ∧ DefOk G V_.K mg y gd fn := fun f y gd hf => by
    have hf0 := hf
    rw [← hG] at hf
    have hf : (rows.map fun r => (r.x, r.gd))[f]? = some (y, gd) := hf
    rw [List.getElem?_map] at hf
    cases hr : rows[f]? with
    | none => rw [hr] at hf; cases hf
    | some r =>
      rw [hr] at hf
      cases hf
      have hm := List.mem_of_getElem? hr
      obtain ⟨fd, F⟩ := c.d.defs (d := r.d) (by simp only [fnG, List.mem_append]; exact .inl (List.mem_map.mpr ⟨r, hm, rfl⟩))
      have R := row_ok (hrows r hm)
      have har : fAd K r.d.at_ = ga K r.x := by
        have : r.d.at_ = (r.x, none) := by show r.at_ = _; unfold Row.at_; rw [R.k]
        rw [this]; rfl
      rw [har] at F
      refine ⟨r.fn, ?_, row_def F (g1 r hm) R (hb.at_ r hm)⟩
      show (rows.map Row.fn ++ (ms.map Row.fn ++ [rl.fn]))[f]? = _
      rw [List.getElem?_append_left (by rw [List.length_map]; exact (List.getElem?_eq_some_iff.mp hr).1), List.getElem?_map, hr]
      rfl
  have hmi : ∀ {i : Nat} {r : Row}, ms[i]? = some r → FP[rows.length + i]? = some r.fn := fun {i r} hr => by
    show (rows.map Row.fn ++ (ms.map Row.fn ++ [rl.fn]))[rows.length + i]? = _
    rw [List.getElem?_append_right (by rw [List.length_map]; omega), List.length_map, Nat.add_sub_cancel_left, List.getElem?_append_left (by rw [List.length_map]; exact (List.getElem?_eq_some_iff.mp hr).1), List.getElem?_map, hr]
    rfl
  have hfd : ∀ r ∈ ms, ∃ fd, FunD K r.x r.q (defArgs r.st) (defBody r.st) (defScope r.st) [] [] (fAd K r.at_) fd := fun r hm => by
    obtain ⟨fd, F⟩ := c.d.defs (d := r.d) (by simp only [fnG, List.mem_append]; exact .inr (.inr (List.mem_map.mpr ⟨r, hm, rfl⟩)))
    exact ⟨fd, F⟩
  have hofa : ∀ {i : Nat} {p : Str × List Str}, o[i]? = some p → (Fa.glo p.1).ok K = true ∧ (Fa.cls p.1).ok K = true ∧ (Fa.mkr p.1).ok K = true ∧ ∀ f ∈ p.2, (Fa.noat p.1 f).ok K = true := fun {i p} hp => by
    have hm := List.mem_of_getElem? hp
    have key : ∀ f ∈ ([Fa.glo p.1, Fa.cls p.1, Fa.mkr p.1] ++ p.2.map fun f => Fa.noat p.1 f), f.ok K = true := fun f hf => factM f (by
      unfold faM
      exact List.mem_append_left _ (List.mem_flatMap.mpr ⟨p, hm, hf⟩))
    exact ⟨key _ (by simp), key _ (by simp), key _ (by simp), fun f hf => key _ (List.mem_append_right _ (List.mem_map.mpr ⟨f, hf, rfl⟩))⟩
  have hmth : ∀ (f c : Nat) (x : Str) (gd : Bool), (f, c, x, gd) ∈ G.mts → ∃ fn, FP[f]? = some fn ∧ MthOk G V_.K c x gd fn := fun f cc' y gd hf => by
    rw [← hG] at hf
    obtain ⟨i, r, C, h1, rfl, hk, rfl, rfl⟩ := mtsOf_mem hf
    have hm := List.mem_of_getElem? h1
    obtain ⟨fd, F⟩ := hfd r hm
    have har : fAd K r.at_ = ma K (ga K C) r.x := by unfold Row.at_; rw [hk]; rfl
    rw [har] at F
    have hok := hms r hm
    have hlt : cc' < o.length ∧ ocN o cc' = C := by
      have z := hok
      unfold Row.okM at z
      rw [hk] at z
      obtain ⟨z0, z⟩ := ba z
      obtain ⟨z1, z⟩ := ba z
      exact ⟨of_decide_eq_true z0, of_decide_eq_true z1⟩
    have hp := List.getElem?_eq_getElem hlt.1
    have hC : (o[cc']'hlt.1).1 = C := by
      have := hlt.2
      unfold ocN at this
      rw [hp] at this
      exact this
    refine ⟨r.fn, hmi h1, row_mth (o := o) hk F rfl rfl (by rw [← hC]; exact (hofa hp).2.1) (factM _ ?_) hok (hbm.at_ r hm)⟩
    unfold faM
    exact List.mem_append_right _ (List.mem_flatMap.mpr ⟨r, hm, by rw [hk]; simp⟩)
  have hmkr : ∀ (c : Nat) (x : Str) (f : Nat) (gd : Bool), (c, x, f, gd) ∈ G.mks → ∃ fn, FP[f]? = some fn ∧ MkrOk G V_.K mg c x gd fn := fun cc' C f gd hf => by
    rw [← hG] at hf
    obtain ⟨i, r, h1, rfl, hk, rfl⟩ := mksOf_mem hf
    have hm := List.mem_of_getElem? h1
    obtain ⟨fd, F⟩ := hfd r hm
    have har : fAd K r.at_ = ma K (ga K C) r.x := by unfold Row.at_; rw [hk]; rfl
    rw [har] at F
    have hok := hms r hm
    have hlt : cc' < o.length ∧ ocN o cc' = C := by
      have z := hok
      unfold Row.okM at z
      rw [hk] at z
      obtain ⟨z0, z⟩ := ba z
      obtain ⟨z1, z⟩ := ba z
      exact ⟨of_decide_eq_true z0, of_decide_eq_true z1⟩
    have hp := List.getElem?_eq_getElem hlt.1
    have hC : (o[cc']'hlt.1).1 = C := by
      have := hlt.2
      unfold ocN at this
      rw [hp] at this
      exact this
    have hF : ocF o cc' = (o[cc']'hlt.1).2 := by
      unfold ocF
      rw [hp]
      rfl
    obtain ⟨a1, a2, a3, a4⟩ := hofa hp
    rw [hC] at a1 a2 a3 a4
    exact ⟨r.fn, hmi h1, row_mkr (o := o) hk F rfl rfl a2 a3 (glo_ok KX Gm a1) (by rw [hF]; exact a4) hok (hbm.at_ r hm)⟩
  have hats : ∀ (c i : Nat) (x : Str), (c, i, x) ∈ G.ats → (Tb.ol c)[i]? = some x ∧ (Tb.ol c).Nodup ∧ L2.Cls V_.K (Tb.oc c) ∧ L2.NoAttr V_.K (Tb.oc c) x := fun cc' i y hf => by
    rw [← hG] at hf
    obtain ⟨j, p, rfl, hp, hx⟩ := atsOf_mem hf
    rw [Nat.zero_add]
    obtain ⟨a1, a2, a3, a4⟩ := hofa hp
    have e1 : ocF o j = p.2 := by unfold ocF; rw [hp]; rfl
    have e2 : ocN' K o j = ga K p.1 := by unfold ocN' ocN; rw [hp]; rfl
    refine ⟨?_, ?_, ?_, ?_⟩
    · show (ocF o j)[i]? = _
      rw [e1]; exact hx
    · show (ocF o j).Nodup
      rw [e1]; exact hoc p (List.mem_of_getElem? hp)
    · show L2.Cls K (ocN' K o j)
      rw [e2]; exact cls_ok a2
    · show L2.NoAttr K (ocN' K o j) y
      rw [e2]; exact noat_ok (a4 y (List.mem_of_getElem? hx))
  refine ⟨PySem.W.fnOf rl.x rl.q (defArgs rl.st) (defBody rl.st) (defScope rl.st) dV kV doc pm an cdv ct, [cT K (rl.x, none)], spF V_ 1 (runF FP cs lim (dp + 1) (rows.length + ms.length)), fun p hp => ?_, fun p hp => ?_, fun p hp => ?_, fun s u => ?_, fun H b ns hl hbits hT hS => ?_, fun base hkin hns hTB => ?_⟩
  · rw [List.mem_singleton.mp hp]; exact c.empty _ (by simp)
  · rw [List.mem_singleton.mp hp]; exact c.out _ (by simp)
  · rw [List.mem_singleton.mp hp]; exact PySem.W.codeHd_of_K KX (c.hd _ (by simp))
  · have z := bA s [u] (by rw [hps]; rfl)
    rw [hps] at z
    exact z
  · refine ⟨rfl, fun p hp => ?_, [], [], [.p (.list (ns.map .int))], .nil, by simp, .cons (H0 := H) (.p (.lst hS ?_)) .nil, ?_⟩
    · rw [List.mem_singleton.mp hp]
      exact ⟨#[], hT _ (by simp), True.intro, fun pos cv hc => by
        have z : codeAmong pos [] = some cv := hc
        cases z⟩
    · clear hS hbits hl
      induction ns with
      | nil => exact .nil
      | cons i r ih => exact .cons (.int i) ih
    · rw [hrun ns hl]
      intro m' v H' s1 _ _ rp
      cases rp with
      | p q => cases q; rfl
  · have hge := ge_all (G := G) (V_ := V_) (FP := FP) (cs := cs) (lim := lim) (P := l.prog) (w := w) (mg := mg) (base := base) (fun y hy => by
      obtain ⟨z, hz, e⟩ := List.any_eq_true.mp hy
      rw [of_decide_eq_true e]
      exact f1 z hz) hcon hdefs hmth hmkr hats (hgx base hkin)
    subst hdV
    have main := fn_G (P := l.prog) (w := w) (K := K) (mg := mg) (base := base) (gd := true) (dp := dp) (n := 2 * dp + 2) (lm := 2) (f := ga K rl.x) (fi := rows.length + ms.length) (fn := rl.fn) (FP := FP) (cs := cs) (lim := lim) (G := G) V_ rfl lk hcd RL.sc (by
      show (rows.map Row.fn ++ (ms.map Row.fn ++ [rl.fn]))[rows.length + ms.length]? = _
      rw [List.getElem?_append_right (by rw [List.length_map]; omega), List.length_map, List.getElem?_append_right (by rw [List.length_map]; omega), List.length_map]
      simp) RL.ini RL.np RL.ns (by have := RL.ch; rw [hgd] at this; exact this) (hge dp) (hgx base hkin dp) (by omega) (fun _ A outer s H E hr => ?_)
    · rw [hps] at main
      exact main
    · have bT := FunD.bindsN (ps := [a]) (kws := td.kws K) (by have z := FT; unfold DefD.dvs at z; rw [q2] at z; exact z) (fun kV doc pm an cdv ct us hl => t8 kV doc pm an cdv ct us hl)
      obtain ⟨oc2, od2, dV2, kV2, doc2, pm2, an2, cdv2, ct2, osl2, rfl, lk2, hcd2, hD2, hK2⟩ := FT.ex
      have hf2 : fAd K td.at_ = ga K td.name := by rw [q4]; rfl
      rw [hf2] at lk2 FT
      rw [q1] at lk2 hcd2 bT
      rw [t1] at lk2 bT
      have tws : G.ws = tbl.map fun t => (t.1, t.2.2.1) := by rw [← hG]; rfl
      have ttn : G.tn = td.name := by rw [← hG]; rfl
      rw [tws, ttn]
      refine told_ok (V_ := vN V_ FP cs lim dp) (c := cc) (P := (cT K (rl.x, none)).2) (Ng := Ng) (tbl := tbl) hgl hdn g2 FT.kp lk2 hcd2 bT t3 t2 t4 t5 t6 (fun t ht => ?_) (fun t ht t' ht' => ?_) t7 T.e ?_ ?_ ?_ ?_ hr
      · obtain ⟨yx, hm, hk, hn, hf⟩ := T.xs t ht
        obtain ⟨z1, z2⟩ := hxk t.1 yx hk
        have e := c.ex yx hm
        have z1' : (vN V_ FP cs lim dp).ca t.1 = ga K yx.name := z1
        refine ⟨⟨?_, z2.trans hf, ?_, ?_, T.dbg t ht⟩, T.glo t ht⟩
        · rw [z1', ← hn]; exact g4 yx hm
        · rw [z1']; exact e.xf
        · rw [z1']; exact e.no _ (by rw [hf]; simp)
      · obtain ⟨yx, hm, hk, hn, hf⟩ := T.xs t ht
        obtain ⟨yx', hm', hk', hn', hf'⟩ := T.xs t' ht'
        have z1 : (vN V_ FP cs lim dp).ca t.1 = ga K yx.name := (hxk t.1 yx hk).1
        have z2 : (vN V_ FP cs lim dp).ca t'.1 = ga K yx'.name := (hxk t'.1 yx' hk').1
        rw [z1, z2]
        show PySem.W.exmOne K _ _ = _
        rw [m1 yx hm yx' hm', hn, hn', T.nm t ht t' ht']
      · have z := hTB (cT K (rl.x, none)) (by simp)
        rw [show (cT K (rl.x, none)).1 = cc from hco] at z
        exact ⟨z.code, z.bm, z.gP⟩
      · exact hcc
      · exact List.mem_singleton.mpr rfl
      · intro p hp _
        rw [List.mem_singleton.mp hp]
        rfl
end
end Vy
set_option Elab.async false
set_option linter.all false
set_option maxRecDepth 100000
set_option maxHeartbeats 4000000
namespace Vz
open PySem PySem.Spec L2 Vy

/-! ### plain Lean about the IR's meaning -/
/-- how a body's end becomes a call's end -/
def fin (tr : Bool) (n : Nat) : Out → Res R
  | .next _ S' => letGo tr n (.p .none) S'
  | .ret r S' => letGo tr n r S'
  | .exc c fs _ S' => .exc c fs (if tr = true then S'.take n else S')
  | _ => .bad
theorem runF_eq {P : List FnI} {cs : List D} {lim n f : Nat} {args : List R} {S : Sto} {fn : FnI} {env : Ev} (h : P[f]? = some fn) (hi : fn.ini = none) (hl : args.length = fn.np) (hs : fn.np ≤ fn.ns) (he : argE args = some env) :
    runF P cs lim (n + 1) f args S = fin fn.tr S.length (exSS ⟨runF P cs lim n, cs⟩ lim fn.body (env ++ List.replicate (fn.ns - fn.np) none) S) := by
  show (match P[f]? with
    | none => Res.bad
    | some fn => _) = _
  rw [h]
  have hf : frmE fn args = some (env ++ List.replicate (fn.ns - fn.np) none) := by
    unfold frmE
    rw [hi]
    simp only
    rw [if_pos ⟨hl, hs⟩, he]
    rfl
  simp only [hf]
  rw [hi]
  simp only
  cases exSS ⟨runF P cs lim n, cs⟩ lim fn.body (env ++ List.replicate (fn.ns - fn.np) none) S <;> rfl
/-- an instance is made -/
theorem runF_new {P : List FnI} {cs : List D} {lim n f c : Nat} {args : List R} {S : Sto} {fn : FnI} {env : Ev} {ps : List (E × Nat × Es)} {fl : List (Str × FK)} (h : P[f]? = some fn) (hi : fn.ini = some (c, ps, fl)) (hl : args.length + 1 = fn.np) (hs : fn.np ≤ fn.ns) (he : argE args = some env) (hn : noObj (none :: (env ++ List.replicate (fn.ns - fn.np) none)) = true) :
    runF P cs lim (n + 1) f args S = (preF ⟨runF P cs lim n, cs⟩ ps (none :: (env ++ List.replicate (fn.ns - fn.np) none)) S).bind fun _ S => iniF ⟨runF P cs lim n, cs⟩ c fl (none :: (env ++ List.replicate (fn.ns - fn.np) none)) S [] := by
  show (match P[f]? with
    | none => Res.bad
    | some fn => _) = _
  rw [h]
  have hf : frmE fn args = some (none :: (env ++ List.replicate (fn.ns - fn.np) none)) := by
    unfold frmE
    rw [hi]
    simp only
    rw [if_pos ⟨hl, hs⟩, he]
    rfl
  simp only [hf]
  rw [hi]
  simp only
  rw [if_pos hn]
/-- the environment of data arguments -/
theorem argE_nil : argE [] = some [] := rfl
theorem argE_p (d : D) (rs : List R) : argE (.p d :: rs) = (argE rs).map (some (.p d) :: ·) := by
  show (match some (SV.p d), argE rs with
    | some v, some env => some (some v :: env)
    | _, _ => none) = _
  cases argE rs <;> rfl
theorem argE_ref (k : Nat) (rs : List R) : argE (.ref k :: rs) = (argE rs).map (some (.ref k) :: ·) := by
  show (match some (SV.ref k), argE rs with
    | some v, some env => some (some v :: env)
    | _, _ => none) = _
  cases argE rs <;> rfl
theorem argE_obj (c : Nat) (fs : List FV) (rs : List R) : argE (.obj c fs :: rs) = (argE rs).map (some (.obj c fs) :: ·) := by
  show (match some (SV.obj c fs), argE rs with
    | some v, some env => some (some v :: env)
    | _, _ => none) = _
  cases argE rs <;> rfl
theorem letGo_p (n : Nat) (d : D) (S : Sto) : letGo true n (.p d) S = .ok (.p d) (S.take n) := rfl
theorem letGo_nl (n : Nat) (d : List D) (S : Sto) : letGo true n (.nl d) S = .ok (.nl d) (S.take n) := rfl
theorem letGo_nd (n : Nat) (d : List (Key × D)) (S : Sto) : letGo true n (.nd d) S = .ok (.nd d) (S.take n) := rfl
theorem fin_ret (n : Nat) (r : R) (S : Sto) : fin true n (.ret r S) = letGo true n r S := rfl
theorem fin_next (n : Nat) (env : Ev) (S : Sto) : fin true n (.next env S) = .ok (.p .none) (S.take n) := rfl
theorem fin_exc (n c : Nat) (fs : List D) (env : Ev) (S : Sto) : fin true n (.exc c fs env S) = .exc c fs (S.take n) := rfl
theorem take_len (S : Sto) : S.take S.length = S := List.take_length

/-- a thing that hangs on another one, so that simp leaves that one alone -/
def Dep {α : Sort _} (_ : α) : Type := Unit
def dep {α : Sort _} (f : α) : Dep f := ()
/-- bind, st and optS whose last parts are left alone until the first ones are known -/
def bk {α β : Type} (x : Res α) (f : α → Sto → Res β) (_ : Dep f := dep f) : Res β := x.bind f
def stk {α : Type} (env : Ev) (x : Res α) (f : α → Sto → Out) (_ : Dep f := dep f) : Out := x.st env f
def optK {α : Type} (x : Option α) (f : α → Out) (_ : Dep f := dep f) : Out := optS x f
/-- a turn of a walk -/
def bodyF (F : FT) (lim : Nat) (tg : Tg) (body : SS) : D → Ev → Sto → Out := fun d env S => optS (tgSet tg d env) fun env => exSS F lim body env S
def condF (F : FT) (c : E) : Ev → Sto → Res Bool := fun env S => (evE F c env S).bind fun x S => opt S (truR S x)
def blkF (F : FT) (lim : Nat) (body : SS) : Ev → Sto → Out := fun env S => exSS F lim body env S
theorem bodyF_eq {F : FT} {lim : Nat} {tg : Tg} {body : SS} {d : D} {env : Ev} {S : Sto} : bodyF F lim tg body d env S = optK (tgSet tg d env) fun env => exSS F lim body env S := rfl
theorem condF_eq {F : FT} {c : E} {env : Ev} {S : Sto} : condF F c env S = bk (evE F c env S) fun x S => opt S (truR S x) := rfl
theorem blkF_eq {F : FT} {lim : Nat} {body : SS} {env : Ev} {S : Sto} : blkF F lim body env S = exSS F lim body env S := rfl
/-- the rest of a list of statements -/
def thenS (F : FT) (lim : Nat) (r : SS) : Out → Out
  | .next env S => exSS F lim r env S
  | o => o
def varR (S : Sto) : Option (Option SV) → Res R
  | some (some (.p d)) => .ok (.p d) S
  | some (some (.ref k)) => .ok (.ref k) S
  | some (some (.own c)) => .ok (.bw c) S
  | some (some (.obj c fs)) => .ok (.obj c fs) S
  | _ => .bad
/-! ### steps of statements -/
section
variable {F : FT} {lim : Nat} {env : Ev} {S : Sto}
theorem exSS_nil : exSS F lim .nil env S = .next env S := rfl
theorem exSS_cons {s : Vy.S} {r : SS} : exSS F lim (.cons s r) env S = thenS F lim r (exS F lim s env S) := by
  unfold exSS thenS
  cases exS F lim s env S <;> rfl
theorem then_next {r : SS} : thenS F lim r (.next env S) = exSS F lim r env S := rfl
theorem then_cnt {r : SS} : thenS F lim r (.cnt env S) = .cnt env S := rfl
theorem then_brk {r : SS} : thenS F lim r (.brk env S) = .brk env S := rfl
theorem then_ret {r : SS} {x : R} : thenS F lim r (.ret x S) = .ret x S := rfl
theorem then_exc {r : SS} {c : Nat} {fs : List D} : thenS F lim r (.exc c fs env S) = .exc c fs env S := rfl
theorem then_ite {c : Prop} [Decidable c] {r : SS} {x y : Out} : thenS F lim r (if c then x else y) = if c then thenS F lim r x else thenS F lim r y := by split <;> rfl
theorem exSS_step {s : Vy.S} {r : SS} {env' : Ev} {S' : Sto} (h : exS F lim s env S = .next env' S') : exSS F lim (.cons s r) env S = exSS F lim r env' S' := by rw [exSS_cons, h]; rfl
theorem exS_asg {i : Nat} {e : E} : exS F lim (.asg i e) env S = stk env (evE F e env S) fun r S => optK (slot r) fun v => .next (env.set i (some v)) S := rfl
theorem exS_own {i : Nat} {e : E} : exS F lim (.own i e) env S = stk env (evE F e env S) fun r S => optK (slotOwn r) fun v => .next (env.set i (some v)) S := rfl
theorem exS_nref {i : Nat} {e : E} : exS F lim (.nref i e) env S = stk env (evE F e env S) fun r S => match r with
    | .nl ds => .next (env.set i (some (.ref S.length))) (S ++ [.lst ds])
    | .nd kvs => .next (env.set i (some (.ref S.length))) (S ++ [.dct kvs])
    | .nT kvs => .next (env.set i (some (.ref S.length))) (S ++ [.dcT kvs])
    | _ => .bad := rfl
theorem exS_unp {is : List Nat} {e : E} : exS F lim (.unp is e) env S = stk env (evE F e env S) fun r S => match r with
    | .p (.tuple ds) => optK (setAll is ds env) fun env => .next env S
    | _ => .bad := rfl
theorem exS_par2 {i j : Nat} {oi oj : Bool} {a b : E} : exS F lim (.par2 i oi j oj a b) env S = stk env (evE F a env S) fun r1 S => stk env (evE F b env S) fun r2 S => optK (slotB oi r1) fun s1 => optK (slotB oj r2) fun s2 => .next ((env.set i (some s1)).set j (some s2)) S := rfl
theorem exS_app {i : Nat} {e : E} : exS F lim (.app i e) env S = optK (ownL env i) fun ds => stk env (evE F e env S) fun r S => optK (fz r) fun d => if ds.length < sizeLine then .next (env.set i (some (.own (.lst (ds ++ [d]))))) S else .bad := rfl
theorem exS_appr {i : Nat} {e : E} : exS F lim (.appr i e) env S = match env[i]? with
    | some (some (.ref k)) => optK (refL S k) fun _ => stk env (evE F e env S) fun r S => optK (fz r) fun d => optK (refL S k) fun ds => if ds.length < sizeLine then .next env (S.set k (.lst (ds ++ [d]))) else .bad
    | _ => .bad := rfl
theorem exS_appx {a e : E} : exS F lim (.appx a e) env S = stk env (evE F a env S) fun o S => match o with
    | .ref k => optK (refL S k) fun _ => stk env (evE F e env S) fun r S => optK (fz r) fun d => optK (refL S k) fun ds => if ds.length < sizeLine then .next env (S.set k (.lst (ds ++ [d]))) else .bad
    | _ => .bad := rfl
theorem exS_sett {ts : List Pt} {e : E} : exS F lim (.sett ts e) env S = stk env (evE F e env S) fun r S => match r with
    | .p (.tuple ds) => if ds.length = ts.length then setTs F ts ds env S else .bad
    | _ => .bad := rfl
theorem exS_par3 {i j k : Nat} {oi oj ok : Bool} {a b c : E} : exS F lim (.par3 i oi j oj k ok a b c) env S = stk env (evE F a env S) fun r1 S => stk env (evE F b env S) fun r2 S => stk env (evE F c env S) fun r3 S => optK (slotB oi r1) fun s1 => optK (slotB oj r2) fun s2 => optK (slotB ok r3) fun s3 => .next (((env.set i (some s1)).set j (some s2)).set k (some s3)) S := rfl
theorem setTs_nil : setTs F [] [] env S = .next env S := rfl
theorem setTs_nm {i : Nat} {ts : List Pt} {d : D} {ds : List D} : setTs F (.nm i :: ts) (d :: ds) env S = setTs F ts ds (env.set i (some (.p d))) S := rfl
theorem setTs_tp {is : List Nat} {ts : List Pt} {es ds : List D} : setTs F (.tp is :: ts) (.tuple es :: ds) env S = optK (setAll is es env) fun env => setTs F ts ds env S := by
  show (match setT F (.tp is) (.tuple es) env S with
    | .next env S => setTs F ts ds env S
    | o => o) = _
  show (match optS (setAll is es env) fun env => .next env S with
    | .next env S => setTs F ts ds env S
    | o => o) = optS _ _
  cases setAll is es env <;> rfl
theorem setTs_sr {a ix : E} {ts : List Pt} {d : D} {ds : List D} : setTs F (.sr a ix :: ts) (d :: ds) env S = stk env (evE F a env S) fun o S => stk env (evE F ix env S) fun q S => match o, q with
    | .ref n, .p k => optK (S[n]?) fun c => optK (putC c k d) fun c => setTs F ts ds env (S.set n c)
    | _, _ => .bad := by
  show (match setT F (.sr a ix) d env S with
    | .next env S => setTs F ts ds env S
    | o => o) = _
  show (match (evE F a env S).st env fun o S => (evE F ix env S).st env fun q S => match o, q with
      | .ref n, .p k => optS (S[n]?) fun c => optS (putC c k d) fun c => .next env (S.set n c)
      | _, _ => .bad with
    | .next env S => setTs F ts ds env S
    | o => o) = Res.st env _ _
  cases evE F a env S with
  | bad => rfl
  | exc => rfl
  | ok o S1 =>
    simp only [Res.st]
    unfold stk
    cases evE F ix env S1 with
    | bad => rfl
    | exc => rfl
    | ok q S2 =>
      simp only [Res.st]
      cases o <;> cases q <;> try rfl
      rename_i n k
      simp only [optK]
      cases h : S2[n]? with
      | none => rfl
      | some c =>
        simp only [optS]
        cases putC c k d <;> rfl
theorem setTs_so {i : Nat} {ix : E} {ts : List Pt} {d : D} {ds : List D} : setTs F (.so i ix :: ts) (d :: ds) env S = match env[i]? with
    | some (some (.own c)) => stk env (evE F ix env S) fun q S => match q with
      | .p k => optK (putC c k d) fun c => setTs F ts ds (env.set i (some (.own c))) S
      | _ => .bad
    | _ => .bad := by
  show (match setT F (.so i ix) d env S with
    | .next env S => setTs F ts ds env S
    | o => o) = _
  simp only [setT]
  cases env[i]? with
  | none => rfl
  | some o =>
    cases o with
    | none => rfl
    | some o =>
      cases o <;> try rfl
      rename_i c
      simp only
      cases h : evE F ix env S with
      | bad => rfl
      | exc => rfl
      | ok q S2 =>
        simp only [Res.st, stk]
        cases q <;> try rfl
        rename_i k
        cases hp : putC c k d <;> simp [optK, hp]
theorem exS_seto {i : Nat} {ix e : E} : exS F lim (.seto i ix e) env S = stk env (evE F e env S) fun r S => optK (fz r) fun d => match env[i]? with
    | some (some (.own c)) => stk env (evE F ix env S) fun q S => match q with
      | .p k => optK (putC c k d) fun c => .next (env.set i (some (.own c))) S
      | _ => .bad
    | _ => .bad := rfl
theorem exS_setr {a ix e : E} : exS F lim (.setr a ix e) env S = stk env (evE F e env S) fun r S => optK (fz r) fun d => stk env (evE F a env S) fun o S => stk env (evE F ix env S) fun q S => match o, q with
    | .ref n, .p k => optK (S[n]?) fun c => optK (putC c k d) fun c => .next env (S.set n c)
    | _, _ => .bad := rfl
theorem exS_augo {i : Nat} {op : Operator} {ix e : E} : exS F lim (.augo i op ix e) env S = optK (ownL env i) fun ds => stk env (evE F ix env S) fun q S => match q with
    | .p k => optK (idxD (.list ds) k) fun x => stk env (evE F e env S) fun r S => optK (binI op x r) fun z => optK (putC (.lst ds) k z) fun c => .next (env.set i (some (.own c))) S
    | _ => .bad := rfl
theorem exS_augn {i : Nat} {op : Operator} {e : E} : exS F lim (.augn i op e) env S = match env[i]? with
    | some (some (.p x)) => stk env (evE F e env S) fun r S => optK (binI op x r) fun z => .next (env.set i (some (.p z))) S
    | _ => .bad := rfl
theorem exS_ext {i : Nat} {e : E} : exS F lim (.ext i e) env S = optK (ownL env i) fun ds => stk env (evE F e env S) fun r S => optK (lstR S r) fun xs => if ds.length + xs.length ≤ sizeLine then .next (env.set i (some (.own (.lst (ds ++ xs))))) S else .bad := rfl
theorem exS_pop {i j : Nat} : exS F lim (.pop i j) env S = optK (ownL env j) fun ds => optK ds.getLast? fun d => .next ((env.set j (some (.own (.lst ds.dropLast)))).set i (some (.p d))) S := rfl
theorem exS_ifs {c : E} {a b : SS} : exS F lim (.ifs c a b) env S = stk env (bk (evE F c env S) fun x S => opt S (truR S x)) fun t S => if t = true then exSS F lim a env S else exSS F lim b env S := rfl
theorem exS_forr {tg : Tg} {src : Src} {it : Es} {body : SS} : exS F lim (.forr tg src it body) env S = stk env (evFz F it env S) fun is S => optK (srcD src is) fun items => forL (bodyF F lim tg body) items env S := rfl
theorem exS_whil {c : E} {body : SS} : exS F lim (.whil c body) env S = whilL (condF F c) (blkF F lim body) lim env S := rfl
theorem exS_ret {e : E} : exS F lim (.ret e) env S = stk env (evE F e env S) fun r S => optK (retR r) fun r => .ret r S := rfl
theorem exS_retn : exS F lim .retn env S = .ret (.p .none) S := rfl
theorem exS_rais {c : Nat} {es : Es} : exS F lim (.rais c es) env S = stk env (evFz F es env S) fun ds S => .exc c ds env S := rfl
theorem exS_exprs {e : E} : exS F lim (.exprs e) env S = stk env (evE F e env S) fun _ S => .next env S := rfl
theorem exS_frz {i : Nat} : exS F lim (.frz i) env S = match env[i]? with
    | some (some (.own (.lst ds))) => .next (env.set i (some (.p (.list ds)))) S
    | _ => .bad := rfl
theorem exS_fgt {is : List Nat} : exS F lim (.fgt is) env S = .next (wipeE env is) S := rfl
theorem exS_pass : exS F lim .pass env S = .next env S := rfl
theorem exS_brk : exS F lim .brk env S = .brk env S := rfl
theorem exS_cont : exS F lim .cont env S = .cnt env S := rfl
/-! ### steps of expressions -/
theorem evE_var {i : Nat} : evE F (.var i) env S = varR S env[i]? := rfl
theorem varR_p {d : D} : varR S (some (some (.p d))) = .ok (.p d) S := rfl
theorem varR_ref {k : Nat} : varR S (some (some (.ref k))) = .ok (.ref k) S := rfl
theorem varR_obj {c : Nat} {fs : List FV} : varR S (some (some (.obj c fs))) = .ok (.obj c fs) S := rfl
theorem varR_own {c : Cell} : varR S (some (some (.own c))) = .ok (.bw c) S := rfl
theorem evE_non : evE F .non env S = .ok (.p .none) S := rfl
theorem evE_bl {b : Bool} : evE F (.bl b) env S = .ok (.p (.bool b)) S := rfl
theorem evE_int {i : Int} : evE F (.int i) env S = .ok (.p (.int i)) S := rfl
theorem evE_nat {k : Nat} : evE F (.nat k) env S = .ok (.p (.int (k : Int))) S := rfl
theorem evE_str {x : Str} : evE F (.str x) env S = .ok (.p (.str x)) S := rfl
theorem evE_con {k : Nat} : evE F (.con k) env S = opt S (F.con[k]?.map .p) := rfl
theorem evE_tup {es : Es} : evE F (.tup es) env S = bk (evFz F es env S) fun ds S => .ok (.p (.tuple ds)) S := rfl
theorem evE_lst {es : Es} : evE F (.lst es) env S = bk (evFz F es env S) fun ds S => .ok (.nl ds) S := rfl
theorem evE_edict : evE F .edict env S = .ok (.nd []) S := rfl
theorem evE_bin {op : Operator} {a b : E} : evE F (.bin op a b) env S = bk (evE F a env S) fun x S => bk (evE F b env S) fun y S => opt S (binR S op x y) := rfl
theorem evE_neg {a : E} : evE F (.neg a) env S = bk (evE F a env S) fun x S => match x with
    | .p (.int i) => .ok (.p (.int (-i))) S
    | _ => .bad := rfl
theorem evE_cmp {a : E} {cs : Cs} : evE F (.cmp a cs) env S = bk (evE F a env S) fun x S => evCs F x cs env S := rfl
theorem evE_nott {a : E} : evE F (.nott a) env S = bk (evE F a env S) fun x S => bk (opt S (truR S x)) fun b S => .ok (.p (.bool (!b))) S := rfl
theorem evE_bop {an : Bool} {es : Es} : evE F (.bop an es) env S = evBop F an es env S := rfl
theorem evE_ite {c a b : E} : evE F (.ite c a b) env S = bk (evE F c env S) fun x S => bk (opt S (truR S x)) fun t S => if t = true then evE F a env S else evE F b env S := rfl
theorem evE_idx {a i : E} : evE F (.idx a i) env S = bk (evE F a env S) fun x S => bk (evE F i env S) fun y S => opt S (idxR S x y) := rfl
theorem evE_slc {a : E} {lo hi : Oe} : evE F (.slc a lo hi) env S = bk (evE F a env S) fun x S => bk (evOe F lo env S) fun l S => bk (evOe F hi env S) fun h S => opt S ((dat S x).bind fun d => slcD d l h) := rfl
theorem evE_bi {f : Bi} {es : Es} : evE F (.bi f es) env S = bk (evEs F es env S) fun xs S => opt S (biR S f xs) := rfl
theorem evE_isi {t : String} {a : E} : evE F (.isi t a) env S = bk (evE F a env S) fun x S => opt S ((dat S x).map fun d => .p (.bool (isiD d t))) := rfl
theorem evE_call {f : Nat} {es : Es} : evE F (.call f es) env S = bk (evAr F es env S) fun xs S => F.call f xs S := rfl
theorem evE_att {c : Nat} {a : E} {i : Nat} : evE F (.att c a i) env S = bk (evE F a env S) fun o S => bk (opt S (objR c o)) fun o S => opt S (attR S i o) := rfl
theorem evE_mth {c f : Nat} {a : E} {es : Es} : evE F (.mth c f a es) env S = bk (evE F a env S) fun o S => bk (opt S (objR c o)) fun o S => bk (evAr F es env S) fun xs S => F.call f (o :: xs) S := rfl
theorem evE_new {c f : Nat} {es : Es} : evE F (.new c f es) env S = bk (evAr F es env S) fun xs S => bk (F.call f xs S) fun o S => opt S (objR c o) := rfl
theorem evE_rev {a : E} : evE F (.rev a) env S = bk (evE F a env S) fun x S => opt S ((dat S x).bind revD) := rfl
theorem evE_tzip {a b : E} : evE F (.tzip a b) env S = bk (evE F a env S) fun x S => bk (evE F b env S) fun y S => opt S ((dat S x).bind fun d => (dat S y).bind fun e => tzipD d e) := rfl
theorem evE_ddisp {ks : List D} {vs : Es} : evE F (.ddisp ks vs) env S = bk (evFz F vs env S) fun ds S => opt S (ddispD ks ds) := rfl
theorem evE_lrng {s : Src} {es : Es} : evE F (.lrng s es) env S = bk (evFz F es env S) fun is S => opt S (lrngD s is) := rfl
/-- a turn of a comprehension -/
def cturn (F : FT) (own : List Nat) (elt : E) (tg : Tg) (cond : Oe) (env : Ev) (d : D) (S : Sto) : Res (List D) := match tgSet tg d (wipeE env own) with
  | none => .bad
  | some env' => bk (evOb F cond env' S) fun t S => if t = true then bk (evE F elt env' S) fun y S => bk (opt S (fz y)) fun y S => .ok [y] S else .ok [] S
def compX (F : FT) (own : List Nat) (elt : E) (tg : Tg) (cond : Oe) (env : Ev) (items : List D) (S : Sto) : Res R :=
  bk (noX (compL (cturn F own elt tg cond env) items S)) fun ys S => if ys.length ≤ sizeLine then .ok (.nl ys) S else .bad
theorem evE_comp {own : List Nat} {elt : E} {tg : Tg} {src : Src} {it : Es} {cond : Oe} : evE F (.comp own elt tg src it cond) env S = bk (evFz F it env S) fun is S => bk (opt S (srcD src is)) fun items S => compX F own elt tg cond env items S := rfl
def cturn2 (F : FT) (own own1 : List Nat) (elt : E) (tg : Tg) (cond : Oe) (tg1 : Tg) (src1 : Src) (it1 : Es) (cond1 : Oe) (env : Ev) (d : D) (S : Sto) : Res (List D) := match tgSet tg d (wipeE env own) with
  | none => .bad
  | some env' => bk (evOb F cond env' S) fun t S => if t = true then
      bk (evFz F it1 env' S) fun is1 S => bk (opt S (srcD src1 is1)) fun items1 S => compL (cturn F own1 elt tg1 cond1 env') items1 S
    else .ok [] S
theorem evE_comp2 {own own1 : List Nat} {elt : E} {tg : Tg} {src : Src} {it : Es} {cond : Oe} {tg1 : Tg} {src1 : Src} {it1 : Es} {cond1 : Oe} : evE F (.comp2 own own1 elt tg src it cond tg1 src1 it1 cond1) env S = bk (evFz F it env S) fun is S => bk (opt S (srcD src is)) fun items S =>
    bk (noX (compL (cturn2 F own own1 elt tg cond tg1 src1 it1 cond1 env) items S)) fun ys S => if ys.length ≤ sizeLine then .ok (.nl ys) S else .bad := rfl
theorem compL_nil {turn : D → Sto → Res (List D)} : compL turn [] S = .ok [] S := rfl
theorem compL_cons {turn : D → Sto → Res (List D)} {d : D} {r : List D} : compL turn (d :: r) S = bk (turn d S) fun x S => bk (compL turn r S) fun xs S => .ok (x ++ xs) S := rfl
theorem evE_told {ws : List (Nat × Str)} {a : E} : evE F (.told ws a) env S = match evE F a env S with
    | .ok r S => .ok r S
    | .exc c fs S => (match ws.lookup c, fs with
      | some w, [d] => .ok (.nl [.str w, d]) S
      | _, _ => .bad)
    | .bad => .bad := rfl
theorem evEs_nil : evEs F .nil env S = .ok [] S := rfl
theorem evEs_cons {e : E} {es : Es} : evEs F (.cons e es) env S = bk (evE F e env S) fun x S => bk (evEs F es env S) fun xs S => .ok (x :: xs) S := rfl
theorem evFz_nil : evFz F .nil env S = .ok [] S := rfl
theorem evFz_cons {e : E} {es : Es} : evFz F (.cons e es) env S = bk (evE F e env S) fun x S => bk (opt S (fz x)) fun d S => bk (evFz F es env S) fun ds S => .ok (d :: ds) S := rfl
theorem evAr_nil : evAr F .nil env S = .ok [] S := rfl
theorem evAr_cons {e : E} {es : Es} : evAr F (.cons e es) env S = bk (evE F e env S) fun x S => bk (opt S (argR x)) fun d S => bk (evAr F es env S) fun ds S => .ok (d :: ds) S := rfl
theorem evBop_one {an : Bool} {e : E} : evBop F an (.cons e .nil) env S = evE F e env S := rfl
theorem evBop_cons {an : Bool} {e e2 : E} {es : Es} : evBop F an (.cons e (.cons e2 es)) env S = bk (evE F e env S) fun x S => bk (opt S (truR S x)) fun t S => if t = an then evBop F an (.cons e2 es) env S else .ok x S := rfl
theorem evOe_no : evOe F .no env S = .ok none S := rfl
theorem evOe_so {e : E} : evOe F (.so e) env S = bk (evE F e env S) fun x S => match x with
    | .p (.int i) => .ok (some i) S
    | _ => .bad := rfl
theorem evOb_no : evOb F .no env S = .ok true S := rfl
theorem evOb_so {e : E} : evOb F (.so e) env S = bk (evE F e env S) fun x S => opt S (truR S x) := rfl
theorem evCs_one {x : R} {op : CmpOp} {e : E} : evCs F x (.cons op e .nil) env S = bk (evE F e env S) fun y S => bk (opt S (cmpR S op x y)) fun b S => .ok (.p (.bool b)) S := rfl
theorem evCs_cons {x : R} {op op2 : CmpOp} {e e2 : E} {cs : Cs} : evCs F x (.cons op e (.cons op2 e2 cs)) env S = bk (evE F e env S) fun y S => bk (opt S (cmpR S op x y)) fun b S => if b = true then evCs F y (.cons op2 e2 cs) env S else .ok (.p (.bool false)) S := rfl
end
/-! ### small meanings -/
section
variable {S : Sto} {a b d : D} {xs ys : List D} {i j : Int} {k : Nat}
theorem bk_ok {α β : Type} {x : α} {f : α → Sto → Res β} {d : Dep f} : bk (Res.ok x S) f d = f x S := rfl
theorem bk_exc {α β : Type} {c : Nat} {fs : List D} {f : α → Sto → Res β} {d : Dep f} : bk (Res.exc c fs S : Res α) f d = .exc c fs S := rfl
theorem stk_ok {α : Type} {x : α} {env : Ev} {f : α → Sto → Out} {d : Dep f} : stk env (Res.ok x S) f d = f x S := rfl
theorem stk_exc {α : Type} {c : Nat} {fs : List D} {env : Ev} {f : α → Sto → Out} {d : Dep f} : stk env (Res.exc c fs S : Res α) f d = .exc c fs env S := rfl
theorem opt_some {α : Type} {x : α} : opt S (some x) = .ok x S := rfl
theorem optK_some {α : Type} {x : α} {f : α → Out} {d : Dep f} : optK (some x) f d = f x := rfl
theorem noX_ok {α : Type} {x : α} : noX (Res.ok x S) = .ok x S := rfl
theorem binR_add : binR S .Add (.p a) (.p b) = binD .Add a b := rfl
theorem binR_sub : binR S .Sub (.p a) (.p b) = binD .Sub a b := rfl
theorem binR_div : binR S .FloorDiv (.p a) (.p b) = binD .FloorDiv a b := rfl
theorem binR_mod : binR S .Mod (.p a) (.p b) = binD .Mod a b := rfl
theorem binR_mul : binR S .Mult (.p (.int i)) (.p b) = binD .Mult (.int i) b := rfl
theorem binR_tm : binR S .Mult (.p (.tuple xs)) (.p (.int j)) = if xs ≠ [] ∧ 2 ≤ j ∧ j ≤ 1000 ∧ xs.length ≤ 1000 then some (.p (.tuple (List.replicate j.toNat xs).flatten)) else none := rfl
theorem revD_lst : revD (.list xs) = some (.nl xs.reverse) := rfl
theorem revD_tup : revD (.tuple xs) = some (.p (.tuple xs.reverse)) := rfl
theorem tzip_tl : tzipD (.tuple xs) (.list ys) = some (.p (.tuple (zipD xs ys))) := rfl
theorem tzip_tt : tzipD (.tuple xs) (.tuple ys) = some (.p (.tuple (zipD xs ys))) := rfl
theorem lrng1 : lrngD .rng1 [.int j] = (srcD .rng1 [.int j]).bind fun l => if l.length ≤ sizeLine then some (.nl l) else none := rfl
theorem objR_eq {c : Nat} {fs : List FV} : objR c (.obj c fs) = some (.obj c fs) := by unfold objR; simp
theorem attR_eq {c k : Nat} {fs : List FV} : attR S k (.obj c fs) = match fs[k]? with
    | some (.d d) => some (.p d)
    | some (.c k) => if k < S.length then some (.ref k) else none
    | none => none := rfl
theorem binR_nl : binR S .Add (.nl xs) (.nl ys) = binD .Add (.list xs) (.list ys) := rfl
theorem binR_nlp : binR S .Add (.nl xs) (.p b) = binD .Add (.list xs) b := rfl
theorem binR_pnl : binR S .Add (.p a) (.nl ys) = binD .Add a (.list ys) := rfl
theorem binR_rep : binR S .Mult (.nl xs) (.p (.int j)) = if xs.length * j.toNat ≤ sizeLine ∧ -(2 ^ 63) ≤ j ∧ j < 2 ^ 63 then some (.nl (List.replicate j.toNat xs).flatten) else none := rfl
theorem binD_add : binD .Add (.int i) (.int j) = some (.p (.int (i + j))) := rfl
theorem binD_sub : binD .Sub (.int i) (.int j) = some (.p (.int (i - j))) := rfl
theorem binD_mul : binD .Mult (.int i) (.int j) = if mulOk i j then some (.p (.int (i * j))) else none := rfl
theorem binD_div : binD .FloorDiv (.int i) (.int j) = if divOk j then some (.p (.int (i.fdiv j))) else none := rfl
theorem binD_mod0 : binD .Mod (.int i) (.int j) = if j ≠ 0 then some (.p (.int (i.fmod j))) else none := rfl
theorem binD_tup : binD .Add (.tuple xs) (.tuple ys) = if xs.length + ys.length ≤ sizeLine then some (.p (.tuple (xs ++ ys))) else none := rfl
theorem binD_lst : binD .Add (.list xs) (.list ys) = if xs.length + ys.length ≤ sizeLine then some (.nl (xs ++ ys)) else none := rfl
theorem dat_p : dat S (.p d) = some d := rfl
theorem dat_nl : dat S (.nl xs) = some (.list xs) := rfl
theorem dat_bw : dat S (.bw (.lst xs)) = some (.list xs) := rfl
theorem dat_bwd {kvs : List (Key × D)} : dat S (.bw (.dct kvs)) = none := rfl
theorem dat_nd {kvs : List (Key × D)} : dat S (.nd kvs) = none := rfl
theorem dat_ref : dat S (.ref k) = match S[k]? with
    | some (.lst ds) => some (.list ds)
    | _ => none := rfl
theorem dat_bwT {kvs : List (List Key × D)} : dat S (.bw (.dcT kvs)) = none := rfl
theorem dat_nT {kvs : List (List Key × D)} : dat S (.nT kvs) = none := rfl
theorem dic_bwT {kvs : List (List Key × D)} : dic S (.bw (.dcT kvs)) = none := rfl
theorem dic_nT {kvs : List (List Key × D)} : dic S (.nT kvs) = none := rfl
theorem dicT_bw {kvs : List (List Key × D)} : dicT S (.bw (.dcT kvs)) = some kvs := rfl
theorem dicT_nT {kvs : List (List Key × D)} : dicT S (.nT kvs) = some kvs := rfl
theorem dic_p : dic S (.p d) = none := rfl
theorem dic_nl : dic S (.nl xs) = none := rfl
theorem dic_bw : dic S (.bw (.lst xs)) = none := rfl
theorem dic_bwd {kvs : List (Key × D)} : dic S (.bw (.dct kvs)) = some kvs := rfl
theorem dic_nd {kvs : List (Key × D)} : dic S (.nd kvs) = some kvs := rfl
theorem dic_ref : dic S (.ref k) = match S[k]? with
    | some (.dct kvs) => some kvs
    | _ => none := rfl
theorem fz_p : fz (.p d) = some d := rfl
theorem fz_nl : fz (.nl xs) = some (.list xs) := rfl
theorem slot_p : slot (.p d) = some (.p d) := rfl
theorem slot_nl : slot (.nl xs) = some (.p (.list xs)) := rfl
theorem slot_ref : slot (.ref k) = some (.ref k) := rfl
theorem slot_obj {c : Nat} {fs : List FV} : slot (.obj c fs) = some (.obj c fs) := rfl
theorem slotOwn_nT {kvs : List (List Key × D)} : slotOwn (.nT kvs) = some (.own (.dcT kvs)) := rfl
theorem slotOwn_nl : slotOwn (.nl xs) = some (.own (.lst xs)) := rfl
theorem slotOwn_nd {kvs : List (Key × D)} : slotOwn (.nd kvs) = some (.own (.dct kvs)) := rfl
theorem slotB_t {r : R} : slotB true r = slotOwn r := rfl
theorem slotB_f {r : R} : slotB false r = slot r := rfl
theorem argR_p : argR (.p d) = some (.p d) := rfl
theorem argR_nl : argR (.nl xs) = some (.p (.list xs)) := rfl
theorem argR_ref : argR (.ref k) = some (.ref k) := rfl
theorem argR_obj {c : Nat} {fs : List FV} : argR (.obj c fs) = some (.obj c fs) := rfl
theorem retR_obj {c : Nat} {fs : List FV} : retR (.obj c fs) = some (.obj c fs) := rfl
theorem retR_p : retR (.p d) = some (.p d) := rfl
theorem retR_nl : retR (.nl xs) = some (.nl xs) := rfl
theorem retR_bw : retR (.bw (.lst xs)) = some (.nl xs) := rfl
theorem retR_bwd {kvs : List (Key × D)} : retR (.bw (.dct kvs)) = some (.nd kvs) := rfl
theorem retR_ref : retR (.ref k) = some (.ref k) := rfl
theorem cmpR_p (op : CmpOp) : cmpR S op (.p a) (.p b) = cmpD op a b := rfl
theorem cmpR_nl (op : CmpOp) : cmpR S op (.nl xs) (.nl ys) = cmpD op (.list xs) (.list ys) := rfl
theorem cmpR_nlp (op : CmpOp) : cmpR S op (.nl xs) (.p b) = cmpD op (.list xs) b := rfl
theorem cmpR_pnl (op : CmpOp) : cmpR S op (.p a) (.nl ys) = cmpD op a (.list ys) := rfl
theorem cmpR_bw (op : CmpOp) : cmpR S op (.p a) (.bw (.lst ys)) = cmpD op a (.list ys) := rfl
theorem cmpR_in {kvs : List (Key × D)} : cmpR S .In (.p d) (.bw (.dct kvs)) = (keyD d).map fun k => (kvGet kvs k).isSome := rfl
theorem cmpR_ni {kvs : List (Key × D)} : cmpR S .NotIn (.p d) (.bw (.dct kvs)) = (keyD d).map fun k => !(kvGet kvs k).isSome := rfl
theorem dicT_p : dicT S (.p d) = none := rfl
theorem dicT_nl : dicT S (.nl xs) = none := rfl
theorem dicT_bwl : dicT S (.bw (.lst xs)) = none := rfl
theorem dicT_bwd {kvs : List (Key × D)} : dicT S (.bw (.dct kvs)) = none := rfl
theorem dicT_ref : dicT S (.ref k) = match S[k]? with
    | some (.dcT kvs) => some kvs
    | _ => none := rfl
theorem idxR_ref : idxR S (.ref k) (.p b) = match S[k]? with
    | some (.lst ds) => (idxD (.list ds) b).map .p
    | some (.dct kvs) => ((keyD b).bind fun k => kvGet kvs k).map .p
    | some (.dcT kvs) => ((keyT b).bind fun k => kvGet kvs k).map .p
    | none => none := by
  cases h : S[k]? with
  | none => simp only [idxR, dic, dicT, dat, h]
  | some c => cases c <;> simp only [idxR, dic, dicT, dat, h]
theorem idxR_bwT {kvs : List (List Key × D)} : idxR S (.bw (.dcT kvs)) (.p b) = ((keyT b).bind fun k => kvGet kvs k).map .p := rfl
theorem cmpR_inref : cmpR S .In (.p d) (.ref k) = match S[k]? with
    | some (.lst ys) => cmpD .In d (.list ys)
    | some (.dct kvs) => (keyD d).map fun k => (kvGet kvs k).isSome
    | some (.dcT kvs) => (keyT d).map fun k => (kvGet kvs k).isSome
    | none => none := by
  cases h : S[k]? with
  | none => simp only [cmpR, dic, dicT, dat, h]
  | some c => cases c <;> simp only [cmpR, dic, dicT, dat, h]
theorem cmpR_niref : cmpR S .NotIn (.p d) (.ref k) = match S[k]? with
    | some (.lst ys) => cmpD .NotIn d (.list ys)
    | some (.dct kvs) => (keyD d).map fun k => !(kvGet kvs k).isSome
    | some (.dcT kvs) => (keyT d).map fun k => !(kvGet kvs k).isSome
    | none => none := by
  cases h : S[k]? with
  | none => simp only [cmpR, dic, dicT, dat, h]
  | some c => cases c <;> simp only [cmpR, dic, dicT, dat, h]
theorem cmpD_lt : cmpD .Lt (.int i) (.int j) = some (decide (i < j)) := rfl
theorem cmpD_le : cmpD .LtE (.int i) (.int j) = some (decide (i ≤ j)) := rfl
theorem cmpD_gt : cmpD .Gt (.int i) (.int j) = some (decide (j < i)) := rfl
theorem cmpD_ge : cmpD .GtE (.int i) (.int j) = some (decide (j ≤ i)) := rfl
theorem cmpD_eq : cmpD .Eq a b = if SeqAt.shaped a = true ∧ SeqAt.shaped b = true then some (PyData.eqv a b) else none := rfl
theorem cmpD_ne : cmpD .NotEq a b = if SeqAt.shaped a = true ∧ SeqAt.shaped b = true then some (!PyData.eqv a b) else none := rfl
theorem cmpD_is : cmpD .Is a .none = some (isNonD a) := rfl
theorem cmpD_isn : cmpD .IsNot a .none = some (!isNonD a) := rfl
theorem cmpD_int : cmpD .In d (.tuple ys) = if flatD d = true ∧ ys.all flatD = true then some (ys.any fun y => PyData.eqv y d) else none := rfl
theorem cmpD_inl : cmpD .In d (.list ys) = if flatD d = true ∧ ys.all flatD = true then some (ys.any fun y => PyData.eqv y d) else none := rfl
theorem cmpD_nit : cmpD .NotIn d (.tuple ys) = if flatD d = true ∧ ys.all flatD = true then some (!ys.any fun y => PyData.eqv y d) else none := rfl
theorem cmpD_nil : cmpD .NotIn d (.list ys) = if flatD d = true ∧ ys.all flatD = true then some (!ys.any fun y => PyData.eqv y d) else none := rfl
theorem truR_p : truR S (.p d) = truD d := by
  unfold truR dat
  rfl
theorem truR_nl : truR S (.nl xs) = some (!xs.isEmpty) := rfl
theorem truR_bw : truR S (.bw (.lst xs)) = some (!xs.isEmpty) := rfl
theorem truD_bool {b : Bool} : truD (.bool b) = some b := rfl
theorem truD_int0 : truD (.int i) = some (i != 0) := rfl
theorem truD_non : truD .none = some false := rfl
theorem truD_tup : truD (.tuple xs) = some (!xs.isEmpty) := rfl
theorem truD_lst : truD (.list xs) = some (!xs.isEmpty) := rfl
theorem idxR_p : idxR S (.p a) (.p b) = (idxD a b).map .p := rfl
theorem idxR_nl : idxR S (.nl xs) (.p b) = (idxD (.list xs) b).map .p := rfl
theorem idxR_bw : idxR S (.bw (.lst xs)) (.p b) = (idxD (.list xs) b).map .p := rfl
theorem idxR_bwd {kvs : List (Key × D)} : idxR S (.bw (.dct kvs)) (.p b) = ((keyD b).bind fun k => kvGet kvs k).map .p := rfl
theorem idxD_lst : idxD (.list xs) (.int i) = atI xs i := rfl
theorem idxD_tup : idxD (.tuple xs) (.int i) = atI xs i := rfl
theorem slcD_lst {lo hi : Option Int} : slcD (.list xs) lo hi = some (.nl (cutD xs lo hi)) := rfl
theorem slcD_tup {lo hi : Option Int} : slcD (.tuple xs) lo hi = some (.p (.tuple (cutD xs lo hi))) := rfl
theorem bi_len {r : R} : biR S .len [r] = match dat S r with
    | some (.list xs) => some (.p (.int xs.length))
    | some (.tuple xs) => some (.p (.int xs.length))
    | some (.str x) => if x.length ≤ sizeLine then some (.p (.int x.length)) else none
    | _ => match dic S r with
      | some kvs => some (.p (.int kvs.length))
      | none => (dicT S r).map fun kvs => .p (.int kvs.length) := rfl
theorem bi_int : biR S .int_ [.p (.int i)] = some (.p (.int i)) := rfl
theorem bi_intb {b : Bool} : biR S .int_ [.p (.bool b)] = some (.p (.int (if b = true then 1 else 0))) := rfl
theorem bi_tuple {r : R} : biR S .tuple_ [r] = match dat S r with
    | some (.list xs) => some (.p (.tuple xs))
    | some (.tuple xs) => some (.p (.tuple xs))
    | _ => none := rfl
theorem bi_list {r : R} : biR S .list_ [r] = match dat S r with
    | some (.list xs) => some (.nl xs)
    | some (.tuple xs) => some (.nl xs)
    | _ => none := rfl
theorem bi_max2 : biR S .max2 [.p (.int i), .p (.int j)] = some (.p (.int (if j > i then j else i))) := rfl
theorem bi_min2 : biR S .min2 [.p (.int i), .p (.int j)] = some (.p (.int (if j < i then j else i))) := rfl
theorem bi_max1 {r : R} : biR S .max1 [r] = match dat S r with
    | some (.list xs) => ((intsD xs).bind maxI).map fun i => .p (.int i)
    | _ => none := rfl
theorem bi_min1 {r : R} : biR S .min1 [r] = match dat S r with
    | some (.list xs) => ((intsD xs).bind minI).map fun i => .p (.int i)
    | _ => none := rfl
theorem bi_sorted {r : R} : biR S .sorted_ [r] = match dat S r with
    | some (.list xs) => (intsD xs).map fun l => .nl ((sortI l).map .int)
    | _ => (dic S r).bind fun kvs => (intsK kvs).bind fun l => if l.length < 64 then some (.nl ((sortI l).map .int)) else none := rfl
theorem bi_all {r : R} : biR S .all_ [r] = match dat S r with
    | some (.list xs) => (boolsD xs).map fun l => .p (.bool (l.all id))
    | _ => none := rfl
theorem bi_any {r : R} : biR S .any_ [r] = match dat S r with
    | some (.list xs) => (boolsD xs).map fun l => .p (.bool (l.any id))
    | _ => none := rfl
theorem bi_sum {r : R} : biR S .sum_ [r] = match dat S r with
    | some (.list xs) => (intsD xs).map fun l => .p (.int l.sum)
    | _ => none := rfl
theorem bi_abs : biR S .abs_ [.p (.int i)] = some (.p (.int (if i < 0 then -i else i))) := rfl
theorem bi_dict {r : R} : biR S .dict_ [r] = match dat S r with
    | some (.list xs) => match pairsD xs with
      | some l => some (.nd (kvMerge [] l))
      | none => (pairsT xs).map fun l => .nT (kvMerge [] l)
    | _ => none := rfl
theorem bi_repr {r : R} : biR S .repr_ [r] = match dat S r with
    | some d => if d.showable = true ∧ d.hasDict = false ∧ d.depth ≤ 60 ∧ d.shown.length ≤ sizeLine then some (.p (.str d.shown)) else none
    | none => none := rfl
theorem src_dat : srcD .dat [d] = seqOf d := rfl
theorem src_rng1 : srcD .rng1 [.int j] = if rngOk j then some (rangeD 0 j) else none := rfl
theorem src_rng2 : srcD .rng2 [.int i, .int j] = if rngOk i ∧ rngOk j then some (rangeD i j) else none := rfl
theorem src_enum : srcD .enum [d] = (seqOf d).map (enumD 0) := rfl
theorem seqOf_lst : seqOf (.list xs) = some xs := rfl
theorem seqOf_tup : seqOf (.tuple xs) = some xs := rfl
theorem lstR_nl : lstR S (.nl xs) = some xs := rfl
theorem putC_lst {d : D} : putC (.lst xs) (.int i) d = (ixN xs.length i).map fun j => .lst (xs.set j d) := rfl
theorem putC_dct {kvs : List (Key × D)} {d : D} : putC (.dct kvs) (.int i) d = if kvs.length < sizeLine then some (.dct (kvPut kvs (.inl i) d)) else none := rfl
theorem putC_dcT {kvs : List (List Key × D)} {a b : Int} {d : D} : putC (.dcT kvs) (.tuple [.int a, .int b]) d = if kvs.length < sizeLine then some (.dcT (kvPut kvs [.inl a, .inl b] d)) else none := rfl
theorem keyT_ii {a b : Int} : keyT (.tuple [.int a, .int b]) = some [.inl a, .inl b] := rfl
theorem keyD_int : keyD (.int i) = some (.inl i) := rfl
theorem binI_add : binI .Add (.int i) (.p (.int j)) = some (.int (i + j)) := rfl
theorem binI_sub : binI .Sub (.int i) (.p (.int j)) = some (.int (i - j)) := rfl
theorem setAll_nil {env : Ev} : setAll [] [] env = some env := rfl
theorem setAll_cons {env : Ev} {i : Nat} {is : List Nat} {d : D} {ds : List D} : setAll (i :: is) (d :: ds) env = setAll is ds (env.set i (some (.p d))) := rfl
theorem tgSet_nm {env : Ev} {i : Nat} {d : D} : tgSet (.nm i) d env = some (env.set i (some (.p d))) := rfl
theorem tgSet_tp {env : Ev} {is : List Nat} {ds : List D} : tgSet (.tp is) (.tuple ds) env = setAll is ds env := rfl
theorem wipe_nil {env : Ev} : wipeE env [] = env := rfl
theorem wipe_cons {env : Ev} {v : Nat} {vs : List Nat} : wipeE env (v :: vs) = (wipeE env vs).set v none := rfl
def isIB : D → Bool
  | .int _ => true
  | .bool _ => true
  | _ => false
def isBl : D → Bool
  | .bool _ => true
  | _ => false
def isTu : D → Bool
  | .tuple _ => true
  | _ => false
def isLs : D → Bool
  | .list _ => true
  | _ => false
def isSt : D → Bool
  | .str _ => true
  | _ => false
theorem isi_int : isiD d "int" = isIB d := by cases d <;> simp [isiD, tyD, isIB, isBl, isTu, isLs, isSt]
theorem isi_bool : isiD d "bool" = isBl d := by cases d <;> simp [isiD, tyD, isIB, isBl, isTu, isLs, isSt]
theorem isi_tuple : isiD d "tuple" = isTu d := by cases d <;> simp [isiD, tyD, isIB, isBl, isTu, isLs, isSt]
theorem isi_list : isiD d "list" = isLs d := by cases d <;> simp [isiD, tyD, isIB, isBl, isTu, isLs, isSt]
theorem isi_str : isiD d "str" = isSt d := by cases d <;> simp [isiD, tyD, isIB, isBl, isTu, isLs, isSt]
theorem cmpD_eqi : cmpD .Eq (.int i) (.int j) = some (decide (i = j)) := by
  rw [cmpD_eq, if_pos ⟨rfl, rfl⟩]
  rfl
theorem cmpD_nei : cmpD .NotEq (.int i) (.int j) = some (decide (i ≠ j)) := by
  rw [cmpD_ne, if_pos ⟨rfl, rfl⟩]
  show some (!decide (i = j)) = _
  simp
theorem ownL_eq {env : Ev} {i : Nat} : ownL env i = match env[i]? with
  | some (some (.own (.lst ds))) => some ds
  | _ => none := rfl
theorem refL_eq {k : Nat} : refL S k = match S[k]? with
  | some (.lst ds) => some ds
  | _ => none := rfl
end

/-! ### numbers -/
theorem fdivN (a b : Nat) : (a : Int).fdiv (b : Int) = ((a / b : Nat) : Int) := by
  rw [Int.fdiv_eq_ediv_of_nonneg _ (by omega)]
  rfl
theorem fmodN (a b : Nat) : (a : Int).fmod (b : Int) = ((a % b : Nat) : Int) := by
  rw [Int.fmod_eq_emod_of_nonneg _ (by omega)]
  rfl
theorem addN (a b : Nat) : (a : Int) + (b : Int) = ((a + b : Nat) : Int) := rfl
theorem mulN (a b : Nat) : (a : Int) * (b : Int) = ((a * b : Nat) : Int) := rfl
theorem subN {a b : Nat} (h : b ≤ a) : (a : Int) - (b : Int) = ((a - b : Nat) : Int) := by omega
theorem ltN (a b : Nat) : ((a : Int) < (b : Int)) = (a < b) := by simp
theorem leN (a b : Nat) : ((a : Int) ≤ (b : Int)) = (a ≤ b) := by simp
theorem eqN (a b : Nat) : ((a : Int) = (b : Int)) = (a = b) := propext Int.ofNat_inj
theorem atI_nat {α : Type} (xs : List α) (i : Nat) : atI xs (i : Int) = xs[i]? := by
  unfold atI ixN
  rw [if_pos (by omega)]
  by_cases h : i < xs.length
  · rw [if_pos (by omega)]
    simp
  · rw [if_neg (by omega)]
    simp [List.getElem?_eq_none_iff.mpr (Nat.le_of_not_lt h)]
theorem atI_0 {α : Type} (a : α) (xs : List α) : atI (a :: xs) ((0 : Nat) : Int) = some a := by rw [atI_nat]; rfl
theorem atI_1 {α : Type} (a b : α) (xs : List α) : atI (a :: b :: xs) ((1 : Nat) : Int) = some b := by rw [atI_nat]; rfl
theorem atI_2 {α : Type} (a b c : α) (xs : List α) : atI (a :: b :: c :: xs) ((2 : Nat) : Int) = some c := by rw [atI_nat]; rfl
theorem atI_3 {α : Type} (a b c d : α) (xs : List α) : atI (a :: b :: c :: d :: xs) ((3 : Nat) : Int) = some d := by rw [atI_nat]; rfl
theorem ixN_nat {n i : Nat} (h : i < n) : ixN n (i : Int) = some i := by
  unfold ixN
  rw [if_pos (by omega), if_pos (by omega)]
  simp
theorem mulOkN {a : Nat} {b : Int} (h : a < 18446744073709551616) : mulOk (a : Int) b = true := by
  unfold mulOk
  simp
  omega
theorem mulOkR {a : Int} {b : Nat} (h : b < 18446744073709551616) : mulOk a (b : Int) = true := by
  unfold mulOk
  simp
  omega
theorem divOkN {k : Nat} (h : 0 < k ∧ k < 1073741824) : divOk (k : Int) = true := by
  unfold divOk
  simp
  omega
theorem modN {i : Int} {k : Nat} (h : 0 < k) : binD .Mod (.int i) (.int (k : Int)) = some (.p (.int (i.fmod (k : Int)))) := if_pos (by omega)
theorem max2N (S : Sto) (a b : Nat) : biR S .max2 [.p (.int (a : Int)), .p (.int (b : Int))] = some (.p (.int ((max a b : Nat) : Int))) := by
  rw [bi_max2]
  by_cases h : (b : Int) > a
  · rw [if_pos h, Nat.max_eq_right (by omega)]
  · rw [if_neg h, Nat.max_eq_left (by omega)]
theorem min2N (S : Sto) (a b : Nat) : biR S .min2 [.p (.int (a : Int)), .p (.int (b : Int))] = some (.p (.int ((min a b : Nat) : Int))) := by
  rw [bi_min2]
  by_cases h : (b : Int) < a
  · rw [if_pos h, Nat.min_eq_right (by omega)]
  · rw [if_neg h, Nat.min_eq_left (by omega)]
theorem szLt {a : Nat} (h : a < 16777216) : (a < sizeLine) = True := eq_true h
theorem szLe {a : Nat} (h : a ≤ 16777216) : (a ≤ sizeLine) = True := eq_true h
theorem lenLt {S : List Cell} {a : Nat} (h : a < S.length) : (a < S.length) = True := eq_true h
theorem rngOkN {k : Nat} (h : k < 4611686018427387904) : rngOk (k : Int) = true := by
  unfold rngOk
  simp
  omega
theorem truD_nat {a : Nat} : truD (.int (a : Int)) = some (decide (a ≠ 0)) := by
  show some ((a : Int) != 0) = _
  congr 1
  rw [Bool.eq_iff_iff]
  simp
theorem sIx_no {n d : Nat} : HT.sIx n d none = d := rfl
/-! ### comprehensions -/
section
variable {turn : D → Sto → Res (List D)} {S : Sto} {α : Type}
theorem compL_flat (enc : α → D) (f : α → List D) : ∀ (l : List α), (∀ x ∈ l, turn (enc x) S = .ok (f x) S) → compL turn (l.map enc) S = .ok (l.flatMap f) S
  | [], _ => rfl
  | d :: r, h => by
    rw [List.map_cons]
    unfold compL
    rw [h d List.mem_cons_self]
    simp only [Res.bind]
    rw [compL_flat enc f r fun x hx => h x (List.mem_cons_of_mem _ hx)]
    rfl
theorem compX_flat {F : FT} {own : List Nat} {elt : E} {tg : Tg} {cond : Oe} {env : Ev} (enc : α → D) (f : α → List D) (l : List α) (h : ∀ x ∈ l, cturn F own elt tg cond env (enc x) S = .ok (f x) S) (hl : (l.flatMap f).length ≤ sizeLine) :
    compX F own elt tg cond env (l.map enc) S = .ok (.nl (l.flatMap f)) S := by
  unfold compX
  rw [compL_flat enc f l h]
  show (if _ then _ else _) = _
  rw [if_pos hl]
theorem compX_map {F : FT} {own : List Nat} {elt : E} {tg : Tg} {cond : Oe} {env : Ev} (enc : α → D) (f : α → D) (l : List α) (h : ∀ x ∈ l, cturn F own elt tg cond env (enc x) S = .ok [f x] S) (hl : l.length ≤ sizeLine) :
    compX F own elt tg cond env (l.map enc) S = .ok (.nl (l.map f)) S := by
  have e : ∀ l : List α, l.flatMap (fun x => [f x]) = l.map f := fun l => by
    induction l with
    | nil => rfl
    | cons a r ih => rw [List.flatMap_cons, ih]; rfl
  rw [compX_flat enc (fun x => [f x]) l h (by rw [e]; simpa using hl), e]
theorem compX_mapD {F : FT} {own : List Nat} {elt : E} {tg : Tg} {cond : Oe} {env : Ev} (f : D → D) (l : List D) (h : ∀ x ∈ l, cturn F own elt tg cond env x S = .ok [f x] S) (hl : l.length ≤ sizeLine) :
    compX F own elt tg cond env l S = .ok (.nl (l.map f)) S := by
  have := compX_map (F := F) (own := own) (elt := elt) (tg := tg) (cond := cond) (env := env) (S := S) id f l h hl
  rwa [List.map_id] at this
end
theorem boolsD_map {α : Type} (f : α → Bool) : ∀ l : List α, boolsD (l.map fun x => .bool (f x)) = some (l.map f)
  | [] => rfl
  | a :: r => by
    show (boolsD (r.map fun x => .bool (f x))).map (f a :: ·) = _
    rw [boolsD_map f r]
    rfl
theorem intsD_map {α : Type} (f : α → Int) : ∀ l : List α, intsD (l.map fun x => .int (f x)) = some (l.map f)
  | [] => rfl
  | a :: r => by
    show (intsD (r.map fun x => .int (f x))).map (f a :: ·) = _
    rw [intsD_map f r]
    rfl
/-! ### walks -/
section
variable {b : D → Ev → Sto → Out} {α σ : Type}
/-- a walk that goes to its end, its state told by a plain one -/
theorem forL_fold (enc : α → D) (E : σ → Ev) (T : σ → Sto) (step : σ → α → σ) : ∀ (l : List α) (P : List α → σ → Prop) (s : σ), P l s →
    (∀ x r s, P (x :: r) s → (b (enc x) (E s) (T s) = .next (E (step s x)) (T (step s x)) ∨ b (enc x) (E s) (T s) = .cnt (E (step s x)) (T (step s x))) ∧ P r (step s x)) →
    forL b (l.map enc) (E s) (T s) = .next (E (l.foldl step s)) (T (l.foldl step s)) ∧ P [] (l.foldl step s)
  | [], P, s, h, _ => ⟨rfl, h⟩
  | x :: r, P, s, h, k => by
    obtain ⟨h1, h2⟩ := k x r s h
    have ih := forL_fold enc E T step r P (step s x) h2 k
    refine ⟨?_, ih.2⟩
    rw [List.map_cons, List.foldl_cons, ← ih.1]
    conv => lhs; unfold forL
    rcases h1 with h1 | h1 <;> rw [h1]
/-- a walk with an invariant -/
theorem forL_inv (enc : α → D) : ∀ (l : List α) (P : List α → Ev → Sto → Prop) (env : Ev) (S : Sto), P l env S →
    (∀ x r env S, P (x :: r) env S → ∃ env' S', (b (enc x) env S = .next env' S' ∨ b (enc x) env S = .cnt env' S') ∧ P r env' S') →
    ∃ env' S', forL b (l.map enc) env S = .next env' S' ∧ P [] env' S'
  | [], P, env, S, h, _ => ⟨env, S, rfl, h⟩
  | x :: r, P, env, S, h, k => by
    obtain ⟨env', S', h1, h2⟩ := k x r env S h
    obtain ⟨env2, S2, h3, h4⟩ := forL_inv enc r P env' S' h2 k
    refine ⟨env2, S2, ?_, h4⟩
    rw [List.map_cons]
    unfold forL
    rcases h1 with h1 | h1 <;> rw [h1] <;> exact h3
end
/-- a loop's end known, the rest goes on -/
theorem then_of {F : FT} {lim n : Nat} {r : SS} {o o' : Out} {X : Res R} (h : o = o') (k : fin true n (thenS F lim r o') = X) : fin true n (thenS F lim r o) = X := by rw [h]; exact k
theorem then_of' {F : FT} {lim : Nat} {r : SS} {o o' X : Out} (h : o = o') (k : thenS F lim r o' = X) : thenS F lim r o = X := by rw [h]; exact k
abbrev dN (n : Nat) : D := .int n
abbrev dP (p : Nat × Nat) : D := .tuple [.int p.1, .int p.2]
theorem at_dN {bs : List Nat} {k : Nat} (h : k < bs.length) : atI (bs.map dN) (k : Int) = some (.int (bs.getD k 0 : Nat)) := by
  rw [atI_nat, List.getElem?_map, List.getElem?_eq_getElem h]
  simp [List.getD_eq_getElem?_getD, List.getElem?_eq_getElem h]
end Vz
set_option Elab.async false
set_option linter.all false
set_option maxRecDepth 100000
set_option maxHeartbeats 4000000
namespace Vz
open PySem PySem.Spec L2 Vy

/-! ### data that repr shows -/
structure SD (k w : Nat) (d : D) : Prop where
  sh : d.showable = true
  nd : d.hasDict = false
  dp : d.depth ≤ k
  ln : d.shown.length ≤ w
  la : d.canLay0 = true
  so : PyData.strOk d.shown = true
theorem strlen_append (x y : Str) : (x ++ y).length = x.length + y.length := strLen_append x y
theorem strOk_app {x y : Str} (hx : PyData.strOk x = true) (hy : PyData.strOk y = true) : PyData.strOk (x ++ y) = true := by
  show (x.cps ++ y.cps).all _ = true
  rw [Array.all_append]
  exact Bool.and_eq_true_iff.mpr ⟨hx, hy⟩
theorem strOk_of (s : String) : PyData.strOk (Str.ofString s) = true := by
  rw [Str.ofString_eq_toList]
  unfold PyData.strOk
  rw [List.all_toArray, List.all_map, List.all_eq_true]
  intro c _
  simp only [Function.comp, decide_eq_true_eq]
  have := c.valid
  unfold Char.toNat
  rcases this with h | ⟨_, h⟩ <;> omega
theorem strOk_join : ∀ (ts : List Str), (∀ t ∈ ts, PyData.strOk t = true) → PyData.strOk (Str.join ", " ts) = true
  | [], _ => by show PyData.strOk ⟨#[]⟩ = true; unfold PyData.strOk; simp
  | [x], h => h x (by simp)
  | x :: y :: r, h => by
    have ih := strOk_join (y :: r) fun t ht => h t (List.mem_cons_of_mem _ ht)
    exact strOk_app (strOk_app (h x (by simp)) (strOk_of ", ")) ih
theorem SD.int {n : Nat} (h : n < 1000000000) : SD 0 10 (.int (n : Int)) where
  sh := by
    have h2 : (n : Int).natAbs.log2 < 1920 := by
      rw [Int.natAbs_natCast]
      by_cases h0 : n = 0
      · subst h0; decide
      · exact Nat.lt_trans ((Nat.log2_lt h0).mpr (Nat.lt_trans h (by decide : 1000000000 < 2 ^ 30))) (by decide)
    simp only [PyData.showable, decide_eq_true_eq]
    exact h2
  nd := by simp only [PyData.hasDict]
  dp := by simp only [PyData.depth]; exact Nat.le_refl 0
  ln := by
    simp only [PyData.shown]
    have := int_text_length_le10 (a := (n : Int)) (k := 9) (by decide) (by rw [Int.natAbs_natCast]; exact h)
    rw [ofString_length]
    exact this
  la := by simp only [PyData.canLay0]
  so := by simp only [PyData.shown]; exact strOk_of _
theorem SD.mono {k k' w w' : Nat} {d : D} (h : SD k w d) (hk : k ≤ k') (hw : w ≤ w') : SD k' w' d := ⟨h.sh, h.nd, Nat.le_trans h.dp hk, Nat.le_trans h.ln hw, h.la, h.so⟩
theorem join_le : ∀ (w : Nat) (ts : List Str), (∀ t ∈ ts, t.length ≤ w) → (Str.join ", " ts).length ≤ ts.length * (w + 2)
  | w, [], _ => by show (0 : Nat) ≤ _; omega
  | w, [x], h => by
    have := h x (by simp)
    show x.length ≤ 1 * (w + 2)
    omega
  | w, x :: y :: r, h => by
    have ih := join_le w (y :: r) fun t ht => h t (List.mem_cons_of_mem _ ht)
    have := h x (by simp)
    show (x ++ ", " ++ Str.join ", " (y :: r)).length ≤ _
    rw [strlen_append, strlen_append, show ((", " : String) : Str).length = 2 from rfl]
    rw [List.length_cons, Nat.add_mul]
    omega
theorem shownAll_map : ∀ ds : List D, PyData.shownAll ds = ds.map PyData.shown
  | [] => rfl
  | d :: r => by
    show PyData.shown d :: PyData.shownAll r = _
    rw [shownAll_map r]
    rfl
theorem SD.tup {k w : Nat} {ds : List D} (h : ∀ d ∈ ds, SD k w d) : SD (k + 1) (ds.length * (w + 2) + 3) (.tuple ds) := by
  have h1 : PyData.showableAll ds = true ∧ PyData.hasDictAll ds = false ∧ PyData.depthAll ds ≤ k ∧ PyData.canLayAll0 ds = true := by
    induction ds with
    | nil => exact ⟨by simp [PyData.showableAll], by simp [PyData.hasDictAll], by simp [PyData.depthAll], by simp [PyData.canLayAll0]⟩
    | cons d r ih =>
      obtain ⟨a, b, c, e⟩ := ih fun x hx => h x (List.mem_cons_of_mem _ hx)
      have z := h d List.mem_cons_self
      refine ⟨by simp [PyData.showableAll, z.sh, a], by simp [PyData.hasDictAll, z.nd, b], ?_, by simp [PyData.canLayAll0, z.la, e]⟩
      simp only [PyData.depthAll]
      exact Nat.max_le.mpr ⟨z.dp, c⟩
  refine ⟨by simpa [PyData.showable] using h1.1, by simpa [PyData.hasDict] using h1.2.1, ?_, ?_, by simpa [PyData.canLay0] using h1.2.2.2, ?_⟩
  · simp only [PyData.depth]
    omega
  · simp only [PyData.shown]
    unfold tupleText
    rw [strlen_append, strlen_append, shownAll_map]
    have := join_le w (ds.map PyData.shown) (by
      intro t ht
      obtain ⟨d, hd, rfl⟩ := List.mem_map.mp ht
      exact (h d hd).ln)
    rw [List.length_map] at this
    have e1 : (("(" : String) : Str).length = 1 := rfl
    have e2 : ((if (ds.map PyData.shown).length == 1 then ",)" else ")" : String) : Str).length ≤ 2 := by
      split <;> decide
    omega
  · simp only [PyData.shown]
    unfold tupleText
    rw [shownAll_map]
    refine strOk_app (strOk_app (strOk_of _) (strOk_join _ ?_)) (strOk_of _)
    intro t ht
    obtain ⟨d, hd, rfl⟩ := List.mem_map.mp ht
    exact (h d hd).so
/-- repr of both, compared -/
theorem same_repr {S : Sto} {k w : Nat} {d : D} (h : SD k w d) (hk : k ≤ 60) (hw : w ≤ 16777216) : biR S .repr_ [.p d] = some (.p (.str d.shown)) := by
  rw [bi_repr]
  show (if _ then _ else _) = _
  rw [if_pos ⟨h.sh, h.nd, Nat.le_trans h.dp hk, Nat.le_trans h.ln hw⟩]
theorem SD.non : SD 0 4 .none := ⟨by simp [PyData.showable], by simp [PyData.hasDict], by simp [PyData.depth], by simp only [PyData.shown]; decide, by simp [PyData.canLay0], by simp only [PyData.shown]; exact strOk_of _⟩
theorem shaped_str (x : Str) (h : PyData.strOk x = true) : SeqAt.shaped (.str x) = true := by
  simp [SeqAt.shaped, PyData.canLay0, PyData.depth, h]
theorem SD.shaped {k w : Nat} {d : D} (h : SD k w d) (hk : k ≤ 64) : SeqAt.shaped d = true := by
  unfold SeqAt.shaped
  rw [h.la, Bool.true_and, decide_eq_true_eq]
  exact Nat.le_trans h.dp hk
end Vz
set_option Elab.async false
set_option linter.all false
set_option maxRecDepth 100000
set_option maxHeartbeats 4000000
namespace Vz
open PySem PySem.Spec L2 Vy

/-! ### while -/
theorem whilL_run {σ : Type} {c : Ev → Sto → Res Bool} {b : Ev → Sto → Out} (E : σ → Ev) (T : σ → Sto) (stop : σ → Bool) (step : σ → σ) (Inv : σ → Prop) (m : σ → Nat)
    (hc : ∀ s, Inv s → c (E s) (T s) = .ok (!stop s) (T s))
    (hb : ∀ s, Inv s → stop s = false → b (E s) (T s) = .next (E (step s)) (T (step s)) ∧ Inv (step s) ∧ m (step s) < m s) :
    ∀ (lim : Nat) (s : σ), Inv s → m s < lim → ∃ s', whilL c b lim (E s) (T s) = .next (E s') (T s') ∧ Inv s' ∧ stop s' = true
  | 0, s, _, h => absurd h (by omega)
  | k + 1, s, hi, h => by
    unfold whilL
    rw [hc s hi]
    simp only [Res.st]
    cases hs : stop s with
    | true => exact ⟨s, rfl, hi, hs⟩
    | false =>
      obtain ⟨h1, h2, h3⟩ := hb s hi hs
      obtain ⟨s', e, h4⟩ := whilL_run E T stop step Inv m hc hb k (step s) h2 (by omega)
      refine ⟨s', ?_, h4⟩
      simp only [Bool.not_false, if_true]
      rw [h1]
      exact e

/-! ### rows of numbers -/
theorem sorted_unique : ∀ {l1 l2 : List Int}, l1.Pairwise (· < ·) → l2.Pairwise (· < ·) → (∀ x, x ∈ l1 ↔ x ∈ l2) → l1 = l2
  | [], [], _, _, _ => rfl
  | [], b :: _, _, _, h => absurd ((h b).mpr List.mem_cons_self) (by simp)
  | a :: _, [], _, _, h => absurd ((h a).mp List.mem_cons_self) (by simp)
  | a :: r, b :: s, h1, h2, h => by
    rw [List.pairwise_cons] at h1 h2
    have e : a = b := by
      have ha := (h a).mp List.mem_cons_self
      have hb := (h b).mpr List.mem_cons_self
      rcases List.mem_cons.mp ha with e | ha
      · exact e
      · rcases List.mem_cons.mp hb with e | hb
        · exact e.symm
        · have := h2.1 a ha
          have := h1.1 b hb
          omega
    subst e
    rw [sorted_unique h1.2 h2.2 fun x => ⟨fun hx => ?_, fun hx => ?_⟩]
    · rcases List.mem_cons.mp ((h x).mp (List.mem_cons_of_mem _ hx)) with e | hx'
      · have := h1.1 x hx; omega
      · exact hx'
    · rcases List.mem_cons.mp ((h x).mpr (List.mem_cons_of_mem _ hx)) with e | hx'
      · have := h2.1 x hx; omega
      · exact hx'
theorem sortI_mem {l : List Int} {x : Int} : x ∈ sortI l ↔ x ∈ l := List.mem_mergeSort
theorem sortI_lt {l : List Int} (h : l.Nodup) : (sortI l).Pairwise (· < ·) := by
  have h1 : (sortI l).Pairwise (fun a b => decide (a ≤ b) = true) := List.pairwise_mergeSort (by intro a b c; simp; omega) (by intro a b; simp; omega) l
  have h2 : (sortI l).Nodup := (List.mergeSort_perm l _).nodup_iff.mpr h
  exact (List.pairwise_and_iff.mpr ⟨h1, h2⟩).imp fun ⟨a, b⟩ => by
    have := of_decide_eq_true a
    omega
theorem nodup_bound : ∀ (n : Nat) (l : List Nat), l.Nodup → (∀ x ∈ l, x < n) → l.length ≤ n
  | 0, [], _, _ => Nat.le_refl 0
  | 0, a :: r, _, h => absurd (h a List.mem_cons_self) (by omega)
  | n + 1, l, hd, h => by
    have ih := nodup_bound n (l.erase n) (hd.erase n) fun x hx => by
      have := (hd.mem_erase_iff).mp hx
      have := h x this.2
      omega
    by_cases hm : n ∈ l
    · rw [List.length_erase_of_mem hm] at ih
      omega
    · rw [List.erase_of_not_mem hm] at ih
      omega
theorem countP_lt {α : Type} {p q : α → Bool} : ∀ {l : List α}, (∀ x ∈ l, p x = true → q x = true) → (∃ x ∈ l, q x = true ∧ p x = false) → l.countP p < l.countP q
  | [], _, ⟨x, hx, _⟩ => absurd hx (by simp)
  | a :: r, h, ⟨x, hx, h1, h2⟩ => by
    have hle : r.countP p ≤ r.countP q := List.countP_mono_left fun x hx => h x (List.mem_cons_of_mem _ hx)
    rw [List.countP_cons, List.countP_cons]
    rcases List.mem_cons.mp hx with e | hx
    · subst e
      rw [h1, h2]
      simp
      omega
    · have ih := countP_lt (fun x hx => h x (List.mem_cons_of_mem _ hx)) ⟨x, hx, h1, h2⟩
      have := h a List.mem_cons_self
      cases hp : p a with
      | true => rw [this hp]; simp; omega
      | false => simp; split <;> omega
/-! ### dicts of numbers, all values alike -/
abbrev kvC (v : D) (l : List Nat) : List (Key × D) := l.map fun k : Nat => (.inl (k : Int), v)
theorem kvGet_C (v : D) : ∀ (l : List Nat) (k : Nat), (kvGet (kvC v l) (.inl (k : Int))).isSome = decide (k ∈ l)
  | [], k => rfl
  | a :: r, k => by
    have ih := kvGet_C v r k
    unfold kvGet at ih ⊢
    rw [kvC, List.map_cons, List.find?_cons]
    by_cases h : a = k
    · subst h; simp
    · have : ((Sum.inl (a : Int) : Key) = .inl (k : Int)) = False := by
        rw [eq_iff_iff, iff_false]
        intro e
        injection e with e
        exact h (by omega)
      simp only [this, decide_false]
      rw [Option.isSome_map] at ih ⊢
      rw [ih]
      have h' : ¬ k = a := fun e => h e.symm
      simp [h']
theorem kvAny_C (v : D) (l : List Nat) (k : Nat) : ((kvC v l).any fun q => decide (q.1 = .inl (k : Int))) = decide (k ∈ l) := by
  rw [List.any_map]
  induction l with
  | nil => rfl
  | cons a r ih =>
    rw [List.any_cons, ih]
    by_cases h : a = k
    · subst h; simp
    · have h' : ¬ k = a := fun e => h e.symm
      have : ((Sum.inl (a : Int) : Key) = .inl (k : Int)) = False := by
        rw [eq_iff_iff, iff_false]
        intro e
        injection e with e
        exact h (by omega)
      simp [h', this]
theorem kvPut_C (v : D) (l : List Nat) (k : Nat) : kvPut (kvC v l) (.inl (k : Int)) v = kvC v (if k ∈ l then l else l ++ [k]) := by
  unfold kvPut
  rw [kvAny_C]
  by_cases h : k ∈ l
  · simp only [h, decide_true, if_true]
    clear h
    induction l with
    | nil => rfl
    | cons a r ih =>
      rw [kvC, List.map_cons, List.map_cons]
      congr 1
      split <;> rfl
  · simp only [h, decide_false, Bool.false_eq_true, if_false]
    simp
/-- unlike ones, as they are met -/
def ddp (acc : List Nat) (k : Nat) : List Nat := if k ∈ acc then acc else acc ++ [k]
theorem kvMerge_C (v : D) : ∀ (l acc : List Nat), kvMerge (kvC v acc) (kvC v l) = kvC v (l.foldl ddp acc)
  | [], acc => rfl
  | k :: r, acc => by
    have ih := kvMerge_C v r (ddp acc k)
    unfold kvMerge at ih ⊢
    rw [List.foldl_cons, ← ih]
    show List.foldl _ (kvPut (kvC v acc) (.inl (k : Int)) v) _ = _
    rw [kvPut_C]
    rfl
theorem ddp_mem : ∀ (l acc : List Nat) (x : Nat), x ∈ l.foldl ddp acc ↔ x ∈ acc ∨ x ∈ l
  | [], acc, x => by simp
  | k :: r, acc, x => by
    rw [List.foldl_cons, ddp_mem r]
    unfold ddp
    by_cases h : k ∈ acc
    · rw [if_pos h, List.mem_cons]
      constructor
      · rintro (h1 | h1)
        · exact .inl h1
        · exact .inr (.inr h1)
      · rintro (h1 | h1 | h1)
        · exact .inl h1
        · subst h1; exact .inl h
        · exact .inr h1
    · rw [if_neg h, List.mem_append, List.mem_singleton, List.mem_cons]
      constructor
      · rintro ((h1 | h1) | h1)
        · exact .inl h1
        · exact .inr (.inl h1)
        · exact .inr (.inr h1)
      · rintro (h1 | h1 | h1)
        · exact .inl (.inl h1)
        · exact .inl (.inr h1)
        · exact .inr h1
theorem ddp_nodup : ∀ (l acc : List Nat), acc.Nodup → (l.foldl ddp acc).Nodup
  | [], acc, h => h
  | k :: r, acc, h => by
    rw [List.foldl_cons]
    refine ddp_nodup r _ ?_
    unfold ddp
    by_cases hk : k ∈ acc
    · rw [if_pos hk]; exact h
    · rw [if_neg hk, List.nodup_append]
      refine ⟨h, by simp, ?_⟩
      intro a ha b hb e
      rw [List.mem_singleton.mp hb] at e
      exact hk (e ▸ ha)
theorem intsK_C (v : D) : ∀ l : List Nat, intsK (kvC v l) = some (l.map fun k : Nat => (k : Int))
  | [] => rfl
  | a :: r => by
    show (intsK (kvC v r)).map ((a : Int) :: ·) = _
    rw [intsK_C v r]
    rfl
theorem pairsD_C (v : D) : ∀ l : List Nat, pairsD (l.map fun k : Nat => .tuple [.int (k : Int), v]) = some (kvC v l)
  | [] => rfl
  | a :: r => by
    show (match keyD (.int (a : Int)), pairsD (r.map fun k : Nat => .tuple [.int (k : Int), v]) with
      | some k, some l => some ((k, v) :: l)
      | _, _ => none) = _
    rw [pairsD_C v r]
    rfl
theorem nodup_int {l : List Nat} (h : l.Nodup) : (l.map fun k : Nat => (k : Int)).Nodup := by
  induction l with
  | nil => simp
  | cons a r ih =>
    rw [List.nodup_cons] at h
    rw [List.map_cons, List.nodup_cons]
    refine ⟨fun z => ?_, ih h.2⟩
    obtain ⟨b, hb, e⟩ := List.mem_map.mp z
    exact h.1 (by rw [← Int.ofNat.inj e]; exact hb)
end Vz
set_option Elab.async false
set_option linter.all false
set_option maxRecDepth 100000
set_option maxHeartbeats 4000000
namespace Vz.L
open PySem PySem.Spec L2 Vy
abbrev told_ws : List (Nat × Str) := [(1, "bad thing"), (3, "refused"), (2, "too many")]
def i_is_integer : FnI := { np := 1, ns := 1, tr := true, body := (.cons (.ret (.bop true (.cons (.isi "int" (.var 0)) (.cons (.nott (.isi "bool" (.var 0))) .nil)))) .nil) }
def i_is_bit : FnI := { np := 1, ns := 1, tr := true, body := (.cons (.ret (.bop true (.cons (.call 0 (.cons (.var 0) .nil)) (.cons (.cmp (.var 0) (.cons .In (.tup (.cons (.nat 0) (.cons (.nat 1) .nil))) .nil)) .nil)))) .nil) }
def i_graph_fault : FnI := { np := 1, ns := 9, tr := true, body := (.cons (.ifs (.bop false (.cons (.nott (.isi "tuple" (.var 0))) (.cons (.cmp (.bi .len (.cons (.var 0) .nil)) (.cons .NotEq (.nat 4) .nil)) (.cons (.nott (.bi .all_ (.cons (.comp [7] (.isi "tuple" (.var 7)) (.nm 7) .dat (.cons (.slc (.var 0) (.so (.nat 1)) .no) .nil) .no) .nil))) .nil)))) (.cons (.ret (.str "shape")) .nil) .nil) (.cons (.unp [3, 4, 5, 6] (.var 0)) (.cons (.ifs (.bop false (.cons (.nott (.call 0 (.cons (.var 3) .nil))) (.cons (.nott (.cmp (.nat 0) (.cons .LtE (.var 3) (.cons .LtE (.con 0) .nil)))) .nil))) (.cons (.ret (.str "ins")) .nil) .nil) (.cons (.asg 1 (.bin .Add (.bin .Add (.nat 1) (.var 3)) (.bi .len (.cons (.var 4) .nil)))) (.cons (.asg 2 (.bin .Mult (.nat 2) (.bin .Add (.var 1) (.bi .len (.cons (.var 5) .nil))))) (.cons (.ifs (.bop false (.cons (.cmp (.bi .len (.cons (.var 4) .nil)) (.cons .Gt (.con 0) .nil)) (.cons (.nott (.bi .all_ (.cons (.comp [7] (.call 3 (.cons (.var 7) (.cons (.var 2) .nil))) (.nm 7) .dat (.cons (.var 4) .nil) .no) .nil))) .nil))) (.cons (.ret (.str "latches")) .nil) .nil) (.cons (.ifs (.bop false (.cons (.cmp (.bi .len (.cons (.var 5) .nil)) (.cons .Gt (.con 1) .nil)) (.cons (.nott (.bi .all_ (.cons (.comp [7, 8] (.call 4 (.cons (.var 7) (.cons (.bin .Mult (.nat 2) (.bin .Add (.var 1) (.var 8))) .nil))) (.tp [8, 7]) .enum (.cons (.var 5) .nil) .no) .nil))) .nil))) (.cons (.ret (.str "gates")) .nil) .nil) (.cons (.ifs (.bop false (.cons (.nott (.cmp (.nat 1) (.cons .LtE (.bi .len (.cons (.var 6) .nil)) (.cons .LtE (.nat 40) .nil)))) (.cons (.nott (.bi .all_ (.cons (.comp [7] (.bop true (.cons (.call 0 (.cons (.var 7) .nil)) (.cons (.cmp (.nat 0) (.cons .LtE (.var 7) (.cons .Lt (.var 2) .nil))) .nil))) (.nm 7) .dat (.cons (.var 6) .nil) .no) .nil))) .nil))) (.cons (.ret (.str "outs")) .nil) .nil) (.cons (.ret .non) .nil))))))))) }
def i_is_latch : FnI := { np := 2, ns := 2, tr := true, body := (.cons (.ifs (.bop false (.cons (.nott (.isi "tuple" (.var 0))) (.cons (.cmp (.bi .len (.cons (.var 0) .nil)) (.cons .NotEq (.nat 2) .nil)) .nil))) (.cons (.ret (.bl false)) .nil) .nil) (.cons (.ret (.bop true (.cons (.call 1 (.cons (.idx (.var 0) (.nat 0)) .nil)) (.cons (.call 0 (.cons (.idx (.var 0) (.nat 1)) .nil)) (.cons (.cmp (.nat 0) (.cons .LtE (.idx (.var 0) (.nat 1)) (.cons .Lt (.var 1) .nil))) .nil))))) .nil)) }
def i_is_gate : FnI := { np := 2, ns := 3, tr := true, body := (.cons (.ifs (.bop false (.cons (.nott (.isi "tuple" (.var 0))) (.cons (.cmp (.bi .len (.cons (.var 0) .nil)) (.cons .NotEq (.nat 2) .nil)) (.cons (.nott (.bi .all_ (.cons (.comp [2] (.call 0 (.cons (.var 2) .nil)) (.nm 2) .dat (.cons (.var 0) .nil) .no) .nil))) .nil)))) (.cons (.ret (.bl false)) .nil) .nil) (.cons (.ret (.cmp (.nat 0) (.cons .LtE (.idx (.var 0) (.nat 1)) (.cons .LtE (.idx (.var 0) (.nat 0)) (.cons .Lt (.var 1) .nil))))) .nil)) }
def i_check_graph : FnI := { np := 1, ns := 1, tr := true, body := (.cons (.ifs (.cmp (.call 2 (.cons (.var 0) .nil)) (.cons .IsNot .non .nil)) (.cons (.rais 1 (.cons (.str "graph") .nil)) .nil) .nil) .nil) }
def i_first_gate : FnI := { np := 1, ns := 1, tr := true, body := (.cons (.ret (.bin .Add (.bin .Add (.nat 1) (.idx (.var 0) (.nat 0))) (.bi .len (.cons (.idx (.var 0) (.nat 1)) .nil)))) .nil) }
def i_opposite : FnI := { np := 1, ns := 1, tr := true, body := (.cons (.ret (.ite (.cmp (.bin .Mod (.var 0) (.nat 2)) (.cons .Eq (.nat 0) .nil)) (.bin .Add (.var 0) (.nat 1)) (.bin .Sub (.var 0) (.nat 1)))) .nil) }
def i_told_at_once : FnI := { np := 2, ns := 2, tr := true, body := (.cons (.ifs (.bop false (.cons (.cmp (.var 0) (.cons .Eq (.nat 0) .nil)) (.cons (.cmp (.var 1) (.cons .Eq (.nat 0) .nil)) (.cons (.cmp (.var 0) (.cons .Eq (.call 7 (.cons (.var 1) .nil)) .nil)) .nil)))) (.cons (.ret (.nat 0)) .nil) .nil) (.cons (.ifs (.bop false (.cons (.cmp (.var 0) (.cons .Eq (.nat 1) .nil)) (.cons (.cmp (.var 0) (.cons .Eq (.var 1) .nil)) .nil))) (.cons (.ret (.var 1)) .nil) .nil) (.cons (.ret (.ite (.cmp (.var 1) (.cons .Eq (.nat 1) .nil)) (.var 0) .non)) .nil))) }
abbrev b_taken_in_0 : SS := (.cons (.appr 3 (.mth 0 29 (.var 0) (.cons (.call 10 (.cons (.var 3) (.cons (.var 4) .nil))) (.cons (.call 10 (.cons (.var 3) (.cons (.var 5) .nil))) .nil)))) (.cons (.fgt [4, 5]) .nil))
def i_taken_in : FnI := { np := 3, ns := 6, tr := true, body := (.cons (.exprs (.call 5 (.cons (.var 1) .nil))) (.cons (.ifs (.cmp (.bi .len (.cons (.var 2) .nil)) (.cons .NotEq (.bin .Sub (.call 6 (.cons (.var 1) .nil)) (.nat 1)) .nil)) (.cons (.rais 3 (.cons (.str "literals") .nil)) .nil) .nil) (.cons (.nref 3 (.bin .Add (.lst (.cons (.nat 0) .nil)) (.bi .list_ (.cons (.var 2) .nil)))) (.cons (.forr (.tp [4, 5]) .dat (.cons (.idx (.var 1) (.nat 2)) .nil) b_taken_in_0) (.cons (.ret (.var 3)) .nil))))) }
def i_moved : FnI := { np := 2, ns := 3, tr := true, body := (.cons (.asg 2 (.idx (.var 0) (.bin .FloorDiv (.var 1) (.nat 2)))) (.cons (.ret (.ite (.cmp (.bin .Mod (.var 1) (.nat 2)) (.cons .Eq (.nat 0) .nil)) (.var 2) (.call 7 (.cons (.var 2) .nil)))) .nil)) }
abbrev b__law_digits_0 : SS := (.cons (.ifs (.cmp (.var 5) (.cons .Gt (.nat 0) .nil)) (.cons (.app 3 (.bin .Mod (.bi .int_ (.cons (.var 5) .nil)) (.nat 1009))) (.cons (.asg 5 (.bin .FloorDiv (.var 5) (.nat 1009))) .nil)) .nil) (.cons (.fgt [6]) .nil))
abbrev b__law_digits_1 : SS := (.cons (.asg 7 (.bin .Mod (.bi .int_ (.cons (.bin .Add (.bin .Add (.bin .Mult (.var 7) (.nat 40014)) (.bin .Mult (.nat 11) (.var 6))) (.nat 7)) .nil)) (.nat 2147483563))) (.cons (.app 3 (.bin .Mod (.bi .int_ (.cons (.bin .FloorDiv (.var 7) (.nat 1013)) .nil)) (.nat 1009))) (.cons (.fgt [6]) .nil)))
abbrev b__law_digits_2 : SS := (.cons (.asg 5 (.ite (.cmp (.var 4) (.cons .Lt (.bi .len (.cons (.var 0) .nil)) .nil)) (.idx (.var 0) (.var 4)) (.nat 0))) (.cons (.ifs (.cmp (.var 5) (.cons .Lt (.nat 0) .nil)) (.cons (.asg 5 (.bin .Sub (.nat 1) (.bin .Mult (.nat 2) (.var 5)))) .nil) .nil) (.cons (.ifs (.cmp (.var 5) (.cons .GtE (.nat 1000000000000000000) .nil)) (.cons (.forr (.nm 6) .rng1 (.cons (.nat 60) .nil) b__law_digits_0) .nil) (.cons (.asg 7 (.bin .Mod (.bi .int_ (.cons (.bin .Add (.bin .Add (.bin .Mult (.var 5) (.nat 40699)) (.bin .Mult (.var 4) (.nat 52769))) (.nat 31)) .nil)) (.nat 2147483399))) (.cons (.forr (.nm 6) .rng1 (.cons (.nat 12) .nil) b__law_digits_1) .nil))) (.cons (.fgt [4, 5, 7]) .nil))))
def i__law_digits : FnI := { np := 3, ns := 8, tr := true, body := (.cons (.own 3 (.lst .nil)) (.cons (.forr (.nm 4) .rng2 (.cons (.var 1) (.cons (.var 2) .nil)) b__law_digits_2) (.cons (.ret (.var 3)) .nil))) }
def i__law_draw : FnI := { np := 2, ns := 3, tr := true, body := (.cons (.asg 2 (.idx (.var 0) (.nat 1))) (.cons (.setr (.var 0) (.nat 1) (.bin .Add (.var 2) (.nat 1))) (.cons (.ifs (.cmp (.var 2) (.cons .Lt (.bi .len (.cons (.idx (.var 0) (.nat 0)) .nil)) .nil)) (.cons (.ret (.bin .Mod (.bi .int_ (.cons (.idx (.idx (.var 0) (.nat 0)) (.var 2)) .nil)) (.var 1))) .nil) .nil) (.cons (.ret (.bin .Mod (.bi .int_ (.cons (.bin .Add (.bin .Add (.bin .Add (.bin .Mult (.bin .Mult (.var 2) (.var 2)) (.nat 3)) (.bin .Mult (.var 2) (.nat 4))) (.bin .FloorDiv (.var 2) (.nat 3))) (.nat 1)) .nil)) (.var 1))) .nil)))) }
def i__law_pick : FnI := { np := 2, ns := 2, tr := true, body := (.cons (.ret (.idx (.var 1) (.call 12 (.cons (.var 0) (.cons (.bi .len (.cons (.var 1) .nil)) .nil))))) .nil) }
def i__law_same : FnI := { np := 2, ns := 2, tr := true, body := (.cons (.ret (.cmp (.bi .repr_ (.cons (.var 0) .nil)) (.cons .Eq (.bi .repr_ (.cons (.var 1) .nil)) .nil))) .nil) }
abbrev b__law_rows_0 : SS := (.cons (.asg 4 (.bin .Add (.var 4) (.comp [6] (.bin .Add (.var 5) (.tup (.cons (.bi .int_ (.cons (.var 6) .nil)) .nil))) (.nm 6) .rng1 (.cons (.bin .Add (.var 1) (.nat 1)) .nil) .no))) (.cons (.fgt [5]) .nil))
abbrev b__law_rows_1 : SS := (.cons (.asg 4 (.lst .nil)) (.cons (.forr (.nm 5) .dat (.cons (.var 2) .nil) b__law_rows_0) (.cons (.asg 2 (.var 4)) (.cons (.fgt [3, 4]) .nil))))
def i__law_rows : FnI := { np := 2, ns := 7, tr := true, body := (.cons (.asg 2 (.lst (.cons (.tup .nil) .nil))) (.cons (.forr (.nm 3) .rng1 (.cons (.var 0) .nil) b__law_rows_1) (.cons (.ret (.var 2)) .nil))) }
def i__law_lit : FnI := { np := 2, ns := 2, tr := true, body := (.cons (.ret (.bin .Mod (.bin .Add (.idx (.var 0) (.bin .FloorDiv (.var 1) (.nat 2))) (.var 1)) (.nat 2))) .nil) }
abbrev b__law_settled_0 : SS := (.cons (.appr 3 (.bin .Mult (.call 16 (.cons (.var 3) (.cons (.var 4) .nil))) (.call 16 (.cons (.var 3) (.cons (.var 5) .nil))))) (.cons (.fgt [4, 5]) .nil))
def i__law_settled : FnI := { np := 3, ns := 6, tr := true, body := (.cons (.nref 3 (.bin .Add (.bin .Add (.lst (.cons (.nat 0) .nil)) (.bi .list_ (.cons (.var 2) .nil))) (.bi .list_ (.cons (.var 1) .nil)))) (.cons (.forr (.tp [4, 5]) .dat (.cons (.idx (.var 0) (.nat 2)) .nil) b__law_settled_0) (.cons (.ret (.var 3)) .nil))) }
def i__law_ends : FnI := { np := 2, ns := 5, tr := true, body := (.cons (.asg 2 (.call 17 (.cons (.var 0) (.cons (.slc (.var 1) (.so (.idx (.var 0) (.nat 0))) .no) (.cons (.slc (.var 1) .no (.so (.idx (.var 0) (.nat 0)))) .nil))))) (.cons (.ret (.bi .tuple_ (.cons (.bin .Add (.comp [3, 4] (.call 16 (.cons (.var 2) (.cons (.var 3) .nil))) (.tp [4, 3]) .dat (.cons (.idx (.var 0) (.nat 1)) .nil) .no) (.comp [3] (.call 16 (.cons (.var 2) (.cons (.var 3) .nil))) (.nm 3) .dat (.cons (.idx (.var 0) (.nat 3)) .nil) .no)) .nil))) .nil)) }
def i__law_free : FnI := { np := 1, ns := 1, tr := true, body := (.cons (.ret (.bin .Add (.idx (.var 0) (.nat 0)) (.bi .len (.cons (.idx (.var 0) (.nat 1)) .nil)))) .nil) }
def i__law_bits_rows : FnI := { np := 1, ns := 2, tr := true, body := (.cons (.ret (.comp [1] (.bi .tuple_ (.cons (.var 1) .nil)) (.nm 1) .dat (.cons (.call 15 (.cons (.var 0) (.cons (.nat 1) .nil))) .nil) .no)) .nil) }
def i__law_drawn_bits : FnI := { np := 2, ns := 3, tr := true, body := (.cons (.ret (.bi .tuple_ (.cons (.comp [2] (.call 12 (.cons (.var 0) (.cons (.nat 2) .nil))) (.nm 2) .rng1 (.cons (.var 1) .nil) .no) .nil))) .nil) }
def i__law_at_once : FnI := { np := 2, ns := 2, tr := true, body := (.cons (.ifs (.bop false (.cons (.cmp (.nat 0) (.cons .In (.tup (.cons (.var 0) (.cons (.var 1) .nil))) .nil)) (.cons (.bop true (.cons (.cmp (.bin .FloorDiv (.var 0) (.nat 2)) (.cons .Eq (.bin .FloorDiv (.var 1) (.nat 2)) .nil)) (.cons (.cmp (.var 0) (.cons .NotEq (.var 1) .nil)) .nil))) .nil))) (.cons (.ret (.nat 0)) .nil) .nil) (.cons (.ret (.ite (.cmp (.var 0) (.cons .In (.tup (.cons (.nat 1) (.cons (.var 1) .nil))) .nil)) (.var 1) (.ite (.cmp (.var 1) (.cons .Eq (.nat 1) .nil)) (.var 0) .non))) .nil)) }
def i__law_made : FnI := { np := 6, ns := 13, tr := true, body := (.cons (.unp [7, 8, 9] (.tup (.cons (.idx (.var 1) (.var 3)) (.cons (.idx (.var 1) (.var 4)) (.cons (.idx (.var 1) (.var 5)) .nil))))) (.cons (.asg 6 (.lrng .rng1 (.cons (.bi .len (.cons (.var 7) .nil)) .nil))) (.cons (.ifs (.cmp (.var 2) (.cons .Eq (.nat 0) .nil)) (.cons (.par2 10 false 11 false (.mth 0 29 (.var 0) (.cons (.var 3) (.cons (.var 4) .nil))) (.bi .tuple_ (.cons (.comp [12] (.bin .Mult (.idx (.var 7) (.var 12)) (.idx (.var 8) (.var 12))) (.nm 12) .dat (.cons (.var 6) .nil) .no) .nil))) .nil) (.cons (.ifs (.cmp (.var 2) (.cons .Eq (.nat 1) .nil)) (.cons (.par2 10 false 11 false (.mth 0 30 (.var 0) (.cons (.var 3) (.cons (.var 4) .nil))) (.bi .tuple_ (.cons (.comp [12] (.bi .max2 (.cons (.idx (.var 7) (.var 12)) (.cons (.idx (.var 8) (.var 12)) .nil))) (.nm 12) .dat (.cons (.var 6) .nil) .no) .nil))) .nil) (.cons (.ifs (.cmp (.var 2) (.cons .Eq (.nat 2) .nil)) (.cons (.par2 10 false 11 false (.mth 0 31 (.var 0) (.cons (.var 3) (.cons (.var 4) .nil))) (.bi .tuple_ (.cons (.comp [12] (.bin .Mod (.bin .Add (.idx (.var 7) (.var 12)) (.idx (.var 8) (.var 12))) (.nat 2)) (.nm 12) .dat (.cons (.var 6) .nil) .no) .nil))) .nil) (.cons (.ifs (.cmp (.var 2) (.cons .Eq (.nat 3) .nil)) (.cons (.par2 10 false 11 false (.mth 0 32 (.var 0) (.cons (.var 3) (.cons (.var 4) (.cons (.var 5) .nil)))) (.bi .tuple_ (.cons (.comp [12] (.ite (.cmp (.idx (.var 7) (.var 12)) (.cons .Eq (.nat 1) .nil)) (.idx (.var 8) (.var 12)) (.idx (.var 9) (.var 12))) (.nm 12) .dat (.cons (.var 6) .nil) .no) .nil))) .nil) (.cons (.par2 10 false 11 false (.mth 0 33 (.var 0) (.cons (.lst (.cons (.var 3) (.cons (.var 4) (.cons (.var 5) .nil)))) .nil)) (.bi .tuple_ (.cons (.comp [12] (.bin .Mult (.bin .Mult (.idx (.var 7) (.var 12)) (.idx (.var 8) (.var 12))) (.idx (.var 9) (.var 12))) (.nm 12) .dat (.cons (.var 6) .nil) .no) .nil))) .nil)) .nil)) .nil)) .nil)) (.cons (.ret (.tup (.cons (.var 10) (.cons (.var 11) .nil)))) .nil)))) }
def i__law_taken : FnI := { np := 4, ns := 11, tr := true, body := (.cons (.asg 4 (.call 19 (.cons (.var 0) .nil))) (.cons (.asg 5 (.new 0 25 (.cons (.var 4) (.cons (.tup .nil) .nil)))) (.cons (.asg 6 (.call 9 (.cons (.var 5) (.cons (.var 0) (.cons (.comp [8] (.bin .Add (.nat 2) (.bin .Mult (.nat 2) (.bin .Sub (.bin .Sub (.var 4) (.nat 1)) (.var 8)))) (.nm 8) .rng1 (.cons (.var 4) .nil) .no) .nil))))) (.cons (.asg 7 (.mth 0 34 (.var 5) (.cons (.tup .nil) (.cons (.comp [9] (.call 10 (.cons (.var 6) (.cons (.var 9) .nil))) (.nm 9) .dat (.cons (.var 1) .nil) .no) .nil)))) (.cons (.ifs (.cmp (.comp [10] (.var 10) (.nm 10) .dat (.cons (.var 3) .nil) (.so (.cmp (.call 18 (.cons (.var 7) (.cons (.var 10) .nil))) (.cons .NotEq (.slc (.call 18 (.cons (.var 0) (.cons (.rev (.var 10)) .nil))) (.so (.var 2)) .no) .nil)))) (.cons .NotEq (.lst .nil) .nil)) (.cons (.ret (.bl false)) .nil) .nil) (.cons (.ret (.cmp (.call 10 (.cons (.var 6) (.cons (.bin .Sub (.bin .Add (.idx (.var 1) (.nat 0)) (.nat 1)) (.bin .Mult (.nat 2) (.bin .Mod (.idx (.var 1) (.nat 0)) (.nat 2)))) .nil))) (.cons .Eq (.call 7 (.cons (.call 10 (.cons (.var 6) (.cons (.idx (.var 1) (.nat 0)) .nil))) .nil)) .nil))) .nil)))))) }
def i_Maker___init__ : FnI := ⟨3, 4, false, .nil, some (0, [((.bop false (.cons (.nott (.call 0 (.cons (.var 1) .nil))) (.cons (.nott (.cmp (.nat 0) (.cons .LtE (.var 1) (.cons .LtE (.nat 16) .nil)))) .nil))), 1, (.cons (.str "ins") .nil)), ((.bop false (.cons (.nott (.isi "tuple" (.var 2))) (.cons (.cmp (.bi .len (.cons (.var 2) .nil)) (.cons .Gt (.nat 16) .nil)) (.cons (.nott (.bi .all_ (.cons (.comp [3] (.call 1 (.cons (.var 3) .nil)) (.nm 3) .dat (.cons (.var 2) .nil) .no) .nil))) .nil)))), 1, (.cons (.str "firsts") .nil))], [("ins", (.dat (.var 1))), ("firsts", (.dat (.var 2))), ("gates", (.lst (.lst .nil))), ("seen", .dcT)])⟩
def i_Maker_literal_in : FnI := { np := 2, ns := 2, tr := true, body := (.cons (.ifs (.bop false (.cons (.nott (.call 0 (.cons (.var 1) .nil))) (.cons (.nott (.cmp (.nat 0) (.cons .LtE (.var 1) (.cons .Lt (.att 0 (.var 0) 0) .nil)))) .nil))) (.cons (.rais 3 (.cons (.str "place") .nil)) .nil) .nil) (.cons (.ret (.bin .Mult (.nat 2) (.bin .Add (.nat 1) (.var 1)))) .nil)) }
def i_Maker_literal_kept : FnI := { np := 2, ns := 2, tr := true, body := (.cons (.ifs (.bop false (.cons (.nott (.call 0 (.cons (.var 1) .nil))) (.cons (.nott (.cmp (.nat 0) (.cons .LtE (.var 1) (.cons .Lt (.bi .len (.cons (.att 0 (.var 0) 1) .nil)) .nil)))) .nil))) (.cons (.rais 3 (.cons (.str "place") .nil)) .nil) .nil) (.cons (.ret (.bin .Mult (.nat 2) (.bin .Add (.bin .Add (.nat 1) (.att 0 (.var 0) 0)) (.var 1)))) .nil)) }
def i_Maker_check_literal : FnI := { np := 2, ns := 2, tr := true, body := (.cons (.ifs (.bop false (.cons (.nott (.call 0 (.cons (.var 1) .nil))) (.cons (.nott (.cmp (.nat 0) (.cons .LtE (.var 1) (.cons .Lt (.bin .Mult (.nat 2) (.bin .Add (.bin .Add (.bin .Add (.nat 1) (.att 0 (.var 0) 0)) (.bi .len (.cons (.att 0 (.var 0) 1) .nil))) (.bi .len (.cons (.att 0 (.var 0) 2) .nil)))) .nil)))) .nil))) (.cons (.rais 3 (.cons (.str "literal") .nil)) .nil) .nil) .nil) }
def i_Maker_both : FnI := { np := 3, ns := 5, tr := true, body := (.cons (.exprs (.mth 0 28 (.var 0) (.cons (.var 1) .nil))) (.cons (.exprs (.mth 0 28 (.var 0) (.cons (.var 2) .nil))) (.cons (.asg 3 (.call 8 (.cons (.var 1) (.cons (.var 2) .nil)))) (.cons (.ifs (.cmp (.var 3) (.cons .IsNot .non .nil)) (.cons (.ret (.var 3)) .nil) .nil) (.cons (.asg 4 (.tup (.cons (.bi .max2 (.cons (.var 1) (.cons (.var 2) .nil))) (.cons (.bi .min2 (.cons (.var 1) (.cons (.var 2) .nil))) .nil)))) (.cons (.ifs (.cmp (.var 4) (.cons .NotIn (.att 0 (.var 0) 3) .nil)) (.cons (.setr (.att 0 (.var 0) 3) (.var 4) (.bin .Mult (.nat 2) (.bin .Add (.bin .Add (.bin .Add (.nat 1) (.att 0 (.var 0) 0)) (.bi .len (.cons (.att 0 (.var 0) 1) .nil))) (.bi .len (.cons (.att 0 (.var 0) 2) .nil))))) (.cons (.appx (.att 0 (.var 0) 2) (.var 4)) .nil)) .nil) (.cons (.ret (.idx (.att 0 (.var 0) 3) (.var 4))) .nil))))))) }
def i_Maker_either : FnI := { np := 3, ns := 3, tr := true, body := (.cons (.exprs (.mth 0 28 (.var 0) (.cons (.var 1) .nil))) (.cons (.exprs (.mth 0 28 (.var 0) (.cons (.var 2) .nil))) (.cons (.ret (.call 7 (.cons (.mth 0 29 (.var 0) (.cons (.call 7 (.cons (.var 1) .nil)) (.cons (.call 7 (.cons (.var 2) .nil)) .nil))) .nil))) .nil))) }
def i_Maker_just_one : FnI := { np := 3, ns := 5, tr := true, body := (.cons (.asg 3 (.mth 0 29 (.var 0) (.cons (.var 1) (.cons (.var 2) .nil)))) (.cons (.asg 4 (.mth 0 29 (.var 0) (.cons (.call 7 (.cons (.var 1) .nil)) (.cons (.call 7 (.cons (.var 2) .nil)) .nil)))) (.cons (.ret (.mth 0 29 (.var 0) (.cons (.call 7 (.cons (.var 3) .nil)) (.cons (.call 7 (.cons (.var 4) .nil)) .nil)))) .nil))) }
def i_Maker_picked : FnI := { np := 4, ns := 5, tr := true, body := (.cons (.asg 4 (.mth 0 29 (.var 0) (.cons (.var 1) (.cons (.var 2) .nil)))) (.cons (.ret (.mth 0 30 (.var 0) (.cons (.var 4) (.cons (.mth 0 29 (.var 0) (.cons (.call 7 (.cons (.var 1) .nil)) (.cons (.var 3) .nil))) .nil)))) .nil)) }
abbrev b_Maker_all_of_0 : SS := (.cons (.asg 2 (.mth 0 29 (.var 0) (.cons (.var 2) (.cons (.var 3) .nil)))) (.cons (.fgt [3]) .nil))
def i_Maker_all_of : FnI := { np := 2, ns := 4, tr := true, body := (.cons (.asg 2 (.nat 1)) (.cons (.forr (.nm 3) .dat (.cons (.var 1) .nil) b_Maker_all_of_0) (.cons (.ret (.var 2)) .nil))) }
abbrev b_Maker_graph_0 : SS := (.cons (.exprs (.mth 0 28 (.var 0) (.cons (.var 3) .nil))) (.cons (.fgt [3]) .nil))
def i_Maker_graph : FnI := { np := 3, ns := 5, tr := true, body := (.cons (.forr (.nm 3) .dat (.cons (.bin .Add (.bi .tuple_ (.cons (.var 1) .nil)) (.bi .tuple_ (.cons (.var 2) .nil))) .nil) b_Maker_graph_0) (.cons (.ifs (.cmp (.bi .len (.cons (.var 1) .nil)) (.cons .NotEq (.bi .len (.cons (.att 0 (.var 0) 1) .nil)) .nil)) (.cons (.rais 1 (.cons (.str "graph") .nil)) .nil) .nil) (.cons (.asg 4 (.tup (.cons (.att 0 (.var 0) 0) (.cons (.tzip (.att 0 (.var 0) 1) (.var 1)) (.cons (.bi .tuple_ (.cons (.att 0 (.var 0) 2) .nil)) (.cons (.bi .tuple_ (.cons (.var 2) .nil)) .nil)))))) (.cons (.exprs (.call 5 (.cons (.var 4) .nil))) (.cons (.ret (.var 4)) .nil))))) }
abbrev b_law_0 : SS := (.cons (.ifs (.cmp (.ite (.cmp (.var 5) (.cons .Lt (.var 14) .nil)) (.mth 0 26 (.var 3) (.cons (.var 5) .nil)) (.mth 0 27 (.var 3) (.cons (.bin .Sub (.var 5) (.var 14)) .nil))) (.cons .NotEq (.bin .Add (.nat 2) (.bin .Mult (.nat 2) (.var 5))) .nil)) (.cons (.ret (.bl false)) .nil) .nil) (.cons (.fgt [5]) .nil))
abbrev b_law_1 : SS := (.cons (.sett [(.sr (.var 7) (.bin .Add (.nat 2) (.bin .Mult (.nat 2) (.var 5)))), (.sr (.var 7) (.bin .Add (.nat 3) (.bin .Mult (.nat 2) (.var 5))))] (.tup (.cons (.bi .tuple_ (.cons (.comp [23] (.idx (.var 23) (.var 5)) (.nm 23) .dat (.cons (.var 6) .nil) .no) .nil)) (.cons (.bi .tuple_ (.cons (.comp [23] (.bin .Sub (.nat 1) (.idx (.var 23) (.var 5))) (.nm 23) .dat (.cons (.var 6) .nil) .no) .nil)) .nil)))) (.cons (.fgt [5]) .nil))
abbrev b_law_2 : SS := (.cons (.par3 18 false 19 false 20 false (.call 13 (.cons (.var 1) (.cons (.bi .sorted_ (.cons (.var 7) .nil)) .nil))) (.call 13 (.cons (.var 1) (.cons (.bi .sorted_ (.cons (.var 7) .nil)) .nil))) (.call 13 (.cons (.var 1) (.cons (.bi .sorted_ (.cons (.var 7) .nil)) .nil)))) (.cons (.ifs (.bop false (.cons (.cmp (.call 7 (.cons (.var 18) .nil)) (.cons .NotEq (.idx (.lst (.cons (.bin .Add (.var 18) (.nat 1)) (.cons (.bin .Sub (.var 18) (.nat 1)) .nil))) (.bin .Mod (.var 18) (.nat 2))) .nil)) (.cons (.nott (.call 14 (.cons (.call 8 (.cons (.var 18) (.cons (.var 19) .nil))) (.cons (.call 22 (.cons (.var 18) (.cons (.var 19) .nil))) .nil)))) .nil))) (.cons (.ret (.bl false)) .nil) .nil) (.cons (.asg 16 (.call 12 (.cons (.var 1) (.cons (.nat 5) .nil)))) (.cons (.unp [21, 22] (.call 23 (.cons (.var 3) (.cons (.var 7) (.cons (.var 16) (.cons (.var 18) (.cons (.var 19) (.cons (.var 20) .nil)))))))) (.cons (.ifs (.bop true (.cons (.cmp (.var 21) (.cons .In (.var 7) .nil)) (.cons (.cmp (.idx (.var 7) (.var 21)) (.cons .NotEq (.var 22) .nil)) .nil))) (.cons (.ret (.bl false)) .nil) .nil) (.cons (.ifs (.bop true (.cons (.cmp (.var 16) (.cons .Eq (.nat 0) .nil)) (.cons (.cmp (.mth 0 29 (.var 3) (.cons (.var 19) (.cons (.var 18) .nil))) (.cons .NotEq (.var 21) .nil)) .nil))) (.cons (.ret (.bl false)) .nil) .nil) (.cons (.setr (.var 7) (.var 21) (.var 22)) (.cons (.asg 17 (.call 7 (.cons (.var 21) .nil))) (.cons (.setr (.var 7) (.var 17) (.bi .tuple_ (.cons (.comp [24] (.bin .Sub (.nat 1) (.var 24)) (.nm 24) .dat (.cons (.var 22) .nil) .no) .nil))) (.cons (.fgt [9, 16, 17, 18, 19, 20, 21, 22]) .nil))))))))))
abbrev b_law_3 : SS := (.cons (.ifs (.cmp (.slc (.call 18 (.cons (.var 11) (.cons (.idx (.var 6) (.var 5)) .nil))) (.so (.var 15)) .no) (.cons .NotEq (.bi .tuple_ (.cons (.comp [21] (.idx (.idx (.var 7) (.var 21)) (.var 5)) (.nm 21) .dat (.cons (.var 10) .nil) .no) .nil)) .nil)) (.cons (.ret (.bl false)) .nil) .nil) (.cons (.fgt [5]) .nil))
def t_law_26 : SS := (.cons (.ret (.cmp (.told told_ws (.new 0 25 (.cons (.nat 1) (.cons (.call 13 (.cons (.var 1) (.cons (.lst (.cons (.tup (.cons (.nat 2) .nil)) (.cons (.lst (.cons (.nat 0) .nil)) (.cons .non (.cons (.tup (.cons (.bl true) .nil)) (.cons (.bin .Mult (.tup (.cons (.nat 0) .nil)) (.nat 17)) .nil)))))) .nil))) .nil)))) (.cons .Eq (.lst (.cons (.str "bad thing") (.cons (.str "firsts") .nil))) .nil))) .nil)
def t_law_25 : SS := (.cons (.ifs (.cmp (.told told_ws (.new 0 25 (.cons (.call 13 (.cons (.var 1) (.cons (.lst (.cons (.nat 17) (.cons (.neg (.nat 1)) (.cons .non (.cons (.bl true) .nil))))) .nil))) (.cons (.tup .nil) .nil)))) (.cons .NotEq (.lst (.cons (.str "bad thing") (.cons (.str "ins") .nil))) .nil)) (.cons (.ret (.bl false)) .nil) .nil) t_law_26)
def t_law_24 : SS := (.cons (.ifs (.cmp (.told told_ws (.call 9 (.cons (.var 3) (.cons (.var 11) (.cons (.bin .Mult (.lst (.cons (.nat 0) .nil)) (.bin .Add (.var 4) (.nat 1))) .nil))))) (.cons .NotEq (.lst (.cons (.str "refused") (.cons (.str "literals") .nil))) .nil)) (.cons (.ret (.bl false)) .nil) .nil) t_law_25)
def t_law_23 : SS := (.cons (.ifs (.cmp (.told told_ws (.mth 0 34 (.var 3) (.cons (.bin .Mult (.lst (.cons (.nat 0) .nil)) (.var 15)) (.cons (.tup .nil) .nil)))) (.cons .NotEq (.lst (.cons (.str "bad thing") (.cons (.str "graph") .nil))) .nil)) (.cons (.ret (.bl false)) .nil) .nil) t_law_24)
def t_law_22 : SS := (.cons (.ifs (.cmp (.told told_ws (.mth 0 34 (.var 3) (.cons (.bin .Mult (.lst (.cons (.nat 0) .nil)) (.bin .Add (.var 15) (.nat 1))) (.cons (.var 10) .nil)))) (.cons .NotEq (.lst (.cons (.str "bad thing") (.cons (.str "graph") .nil))) .nil)) (.cons (.ret (.bl false)) .nil) .nil) t_law_23)
def t_law_21 : SS := (.cons (.ifs (.cmp (.told told_ws (.mth 0 26 (.var 3) (.cons (.call 13 (.cons (.var 1) (.cons (.lst (.cons (.var 14) (.cons (.neg (.nat 1)) (.cons .non .nil)))) .nil))) .nil))) (.cons .NotEq (.lst (.cons (.str "refused") (.cons (.str "place") .nil))) .nil)) (.cons (.ret (.bl false)) .nil) .nil) t_law_22)
def t_law_20 : SS := (.cons (.ifs (.cmp (.told told_ws (.mth 0 31 (.var 3) (.cons (.nat 0) (.cons (.var 13) .nil)))) (.cons .NotEq (.lst (.cons (.str "refused") (.cons (.str "literal") .nil))) .nil)) (.cons (.ret (.bl false)) .nil) .nil) t_law_21)
def t_law_19 : SS := (.cons (.ifs (.cmp (.told told_ws (.mth 0 29 (.var 3) (.cons (.var 13) (.cons (.nat 0) .nil)))) (.cons .NotEq (.lst (.cons (.str "refused") (.cons (.str "literal") .nil))) .nil)) (.cons (.ret (.bl false)) .nil) .nil) t_law_20)
def t_law_18 : SS := (.cons (.asg 13 (.call 13 (.cons (.var 1) (.cons (.lst (.cons (.neg (.nat 1)) (.cons (.bin .Add (.var 12) (.nat 40)) (.cons .non (.cons (.bl true) .nil))))) .nil)))) t_law_19)
def t_law_17 : SS := (.cons (.asg 12 (.bin .Mult (.nat 2) (.bin .Add (.bin .Add (.nat 1) (.var 4)) (.bi .len (.cons (.idx (.var 11) (.nat 2)) .nil))))) t_law_18)
def t_law_16 : SS := (.cons (.ifs (.nott (.call 24 (.cons (.var 11) (.cons (.var 10) (.cons (.var 15) (.cons (.var 6) .nil)))))) (.cons (.ret (.bl false)) .nil) .nil) t_law_17)
def t_law_15 : SS := (.cons (.forr (.nm 5) .rng1 (.cons (.bi .len (.cons (.var 6) .nil)) .nil) b_law_3) t_law_16)
def t_law_14 : SS := (.cons (.ifs (.bop false (.cons (.cmp (.bi .len (.cons (.bi .dict_ (.cons (.comp [25] (.tup (.cons (.var 25) (.cons (.nat 1) .nil))) (.nm 25) .dat (.cons (.idx (.var 11) (.nat 2)) .nil) .no) .nil)) .nil)) (.cons .NotEq (.bi .len (.cons (.idx (.var 11) (.nat 2)) .nil)) .nil)) (.cons (.cmp (.comp [25] (.var 25) (.nm 25) .dat (.cons (.idx (.var 11) (.nat 2)) .nil) (.so (.bop false (.cons (.cmp (.call 22 (.cons (.idx (.var 25) (.nat 0)) (.cons (.idx (.var 25) (.nat 1)) .nil))) (.cons .IsNot .non .nil)) (.cons (.cmp (.idx (.var 25) (.nat 0)) (.cons .Lt (.idx (.var 25) (.nat 1)) .nil)) .nil))))) (.cons .NotEq (.lst .nil) .nil)) .nil))) (.cons (.ret (.bl false)) .nil) .nil) t_law_15)
def t_law_13 : SS := (.cons (.ifs (.bop false (.cons (.cmp (.call 2 (.cons (.var 11) .nil)) (.cons .IsNot .non .nil)) (.cons (.cmp (.idx (.var 11) (.nat 0)) (.cons .NotEq (.var 14) .nil)) (.cons (.cmp (.comp [21, 24] (.var 24) (.tp [24, 21]) .dat (.cons (.idx (.var 11) (.nat 1)) .nil) .no) (.cons .NotEq (.bi .list_ (.cons (.var 2) .nil)) .nil)) (.cons (.cmp (.idx (.var 11) (.nat 3)) (.cons .NotEq (.bi .tuple_ (.cons (.var 10) .nil)) .nil)) .nil))))) (.cons (.ret (.bl false)) .nil) .nil) t_law_14)
def t_law_12 : SS := (.cons (.asg 11 (.mth 0 34 (.var 3) (.cons (.comp [5] (.call 13 (.cons (.var 1) (.cons (.bi .sorted_ (.cons (.var 7) .nil)) .nil))) (.nm 5) .rng1 (.cons (.var 15) .nil) .no) (.cons (.var 10) .nil)))) t_law_13)
def t_law_11 : SS := (.cons (.asg 10 (.comp [5] (.call 13 (.cons (.var 1) (.cons (.bi .sorted_ (.cons (.var 7) .nil)) .nil))) (.nm 5) .rng1 (.cons (.nat 2) .nil) .no)) t_law_12)
def t_law_10 : SS := (.cons (.forr (.nm 9) .rng1 (.cons (.bin .Add (.nat 3) (.call 12 (.cons (.var 1) (.cons (.nat 6) .nil)))) .nil) b_law_2) t_law_11)
def t_law_9 : SS := (.cons (.asg 8 (.lst .nil)) t_law_10)
def t_law_8 : SS := (.cons (.forr (.nm 5) .rng1 (.cons (.var 4) .nil) b_law_1) t_law_9)
def t_law_7 : SS := (.cons (.nref 7 (.ddisp [(.int 0), (.int 1)] (.cons (.bi .tuple_ (.cons (.comp [23] (.nat 0) (.nm 23) .dat (.cons (.var 6) .nil) .no) .nil)) (.cons (.bi .tuple_ (.cons (.comp [23] (.nat 1) (.nm 23) .dat (.cons (.var 6) .nil) .no) .nil)) .nil)))) t_law_8)
def t_law_6 : SS := (.cons (.asg 6 (.call 20 (.cons (.var 4) .nil))) t_law_7)
def t_law_5 : SS := (.cons (.forr (.nm 5) .rng1 (.cons (.var 4) .nil) b_law_0) t_law_6)
def t_law_4 : SS := (.cons (.asg 4 (.bin .Add (.var 14) (.var 15))) t_law_5)
def t_law_3 : SS := (.cons (.asg 3 (.new 0 25 (.cons (.var 14) (.cons (.var 2) .nil)))) t_law_4)
def t_law_2 : SS := (.cons (.asg 2 (.call 21 (.cons (.var 1) (.cons (.var 15) .nil)))) t_law_3)
def t_law_1 : SS := (.cons (.unp [14, 15] (.tup (.cons (.bin .Add (.nat 1) (.call 12 (.cons (.var 1) (.cons (.nat 2) .nil)))) (.cons (.call 12 (.cons (.var 1) (.cons (.nat 2) .nil))) .nil)))) t_law_2)
def t_law_0 : SS := (.cons (.nref 1 (.lst (.cons (.call 11 (.cons (.var 0) (.cons (.nat 0) (.cons (.nat 63) .nil)))) (.cons (.nat 0) .nil)))) t_law_1)
def i_law : FnI := { np := 1, ns := 26, tr := true, body := t_law_0 }
def FP : List FnI := [i_is_integer, i_is_bit, i_graph_fault, i_is_latch, i_is_gate, i_check_graph, i_first_gate, i_opposite, i_told_at_once, i_taken_in, i_moved, i__law_digits, i__law_draw, i__law_pick, i__law_same, i__law_rows, i__law_lit, i__law_settled, i__law_ends, i__law_free, i__law_bits_rows, i__law_drawn_bits, i__law_at_once, i__law_made, i__law_taken, i_Maker___init__, i_Maker_literal_in, i_Maker_literal_kept, i_Maker_check_literal, i_Maker_both, i_Maker_either, i_Maker_just_one, i_Maker_picked, i_Maker_all_of, i_Maker_graph, i_law]
abbrev CS : List D := [.int (16 : Nat), .int (400 : Nat)]
abbrev lim : Nat := 10000
abbrev run (n f : Nat) (args : List R) (S : Sto) : Res R := runF FP CS lim n f args S
end Vz.L
set_option Elab.async false
set_option linter.all false
set_option maxRecDepth 100000
set_option maxHeartbeats 4000000
local macro_rules
  | `(tactic| k_dat ($a:term, $as:term,*) "S") => `(tactic| simp -implicitDefEqProofs -dsimp (maxSteps := 2000000) (disch := first | omega | (simp only [List.length_cons, List.length_nil, List.length_map, List.length_append, List.length_take, List.length_drop, List.length_range, List.length_replicate, List.length_set, List.length_dropLast, List.length_reverse]; omega)) only [$a:term, $[$as:term],*, Vz.szLt, Vz.szLe, Vz.mulOkN, Vz.mulOkR, Vz.divOkN, Vz.modN, Vz.rngOkN, Vz.at_dN, Vz.subN, Vz.truD_nat, Vz.max2N, Vz.min2N, Vz.lenLt, Vz.exSS_nil, Vz.exSS_cons, Vz.then_next, Vz.then_cnt, Vz.then_brk, Vz.then_ret, Vz.then_exc, Vz.exS_asg, Vz.exS_own, Vz.exS_nref, Vz.exS_unp, Vz.exS_par2, Vz.exS_app, Vz.exS_appr, Vz.exS_appx, Vz.exS_sett, Vz.exS_par3, Vz.setTs_nil, Vz.setTs_nm, Vz.setTs_tp, Vz.setTs_sr, Vz.setTs_so, Vz.exS_seto, Vz.exS_setr, Vz.exS_augo, Vz.exS_augn, Vz.exS_ext, Vz.exS_pop, Vz.exS_ifs, Vz.exS_forr, Vz.exS_whil, Vz.exS_ret, Vz.exS_retn, Vz.exS_rais, Vz.exS_exprs, Vz.exS_frz, Vz.exS_fgt, Vz.exS_pass, Vz.exS_brk, Vz.exS_cont, Vz.evE_var, Vz.varR_p, Vz.varR_ref, Vz.varR_obj, Vz.varR_own, Vz.evE_non, Vz.evE_bl, Vz.evE_int, Vz.evE_nat, Vz.evE_str, Vz.evE_con, Vz.evE_tup, Vz.evE_lst, Vz.evE_edict, Vz.evE_bin, Vz.evE_neg, Vz.evE_cmp, Vz.evE_nott, Vz.evE_bop, Vz.evE_ite, Vz.evE_idx, Vz.evE_slc, Vz.evE_bi, Vz.evE_isi, Vz.evE_call, Vz.evE_att, Vz.evE_mth, Vz.evE_new, Vz.evE_rev, Vz.evE_tzip, Vz.evE_ddisp, Vz.evE_lrng, Vz.evE_comp, Vz.evE_comp2, Vz.compL_nil, Vz.compL_cons, Vz.evEs_nil, Vz.evEs_cons, Vz.evFz_nil, Vz.evFz_cons, Vz.evAr_nil, Vz.evAr_cons, Vz.evBop_one, Vz.evBop_cons, Vz.evOe_no, Vz.evOe_so, Vz.evOb_no, Vz.evOb_so, Vz.evCs_one, Vz.evCs_cons, Vz.bodyF_eq, Vz.condF_eq, Vz.blkF_eq, Vz.bk_ok, Vz.bk_exc, Vz.stk_ok, Vz.stk_exc, Vz.opt_some, Vz.optK_some, Vz.noX_ok, Vz.binR_add, Vz.binR_sub, Vz.binR_div, Vz.binR_mod, Vz.binR_mul, Vz.binR_tm, Vz.revD_lst, Vz.revD_tup, Vz.tzip_tl, Vz.tzip_tt, Vz.lrng1, Vz.objR_eq, Vz.binR_nl, Vz.binR_nlp, Vz.binR_pnl, Vz.binR_rep, Vz.binD_add, Vz.binD_sub, Vz.binD_mul, Vz.binD_div, Vz.binD_tup, Vz.binD_lst, Vz.dat_p, Vz.dat_nl, Vz.dat_bw, Vz.dat_bwd, Vz.dat_nd, Vz.dat_ref, Vz.dat_bwT, Vz.dat_nT, Vz.dic_bwT, Vz.dic_nT, Vz.dicT_bw, Vz.dicT_nT, Vz.dic_p, Vz.dic_nl, Vz.dic_bw, Vz.dic_bwd, Vz.dic_nd, Vz.dic_ref, Vz.fz_p, Vz.fz_nl, Vz.slot_p, Vz.slot_nl, Vz.slot_ref, Vz.slot_obj, Vz.slotOwn_nT, Vz.slotOwn_nl, Vz.slotOwn_nd, Vz.slotB_t, Vz.slotB_f, Vz.argR_p, Vz.argR_nl, Vz.argR_ref, Vz.argR_obj, Vz.retR_obj, Vz.retR_p, Vz.retR_nl, Vz.retR_bw, Vz.retR_bwd, Vz.retR_ref, Vz.cmpR_p, Vz.cmpR_nl, Vz.cmpR_nlp, Vz.cmpR_pnl, Vz.cmpR_bw, Vz.cmpR_in, Vz.cmpR_ni, Vz.dicT_p, Vz.dicT_nl, Vz.dicT_bwl, Vz.dicT_bwd, Vz.dicT_ref, Vz.idxR_ref, Vz.idxR_bwT, Vz.cmpR_inref, Vz.cmpR_niref, Vz.cmpD_lt, Vz.cmpD_le, Vz.cmpD_gt, Vz.cmpD_ge, Vz.cmpD_is, Vz.cmpD_isn, Vz.truR_p, Vz.truR_nl, Vz.truR_bw, Vz.truD_bool, Vz.truD_non, Vz.truD_tup, Vz.truD_lst, Vz.idxR_p, Vz.idxR_nl, Vz.idxR_bw, Vz.idxR_bwd, Vz.idxD_lst, Vz.idxD_tup, Vz.slcD_lst, Vz.slcD_tup, Vz.bi_len, Vz.bi_int, Vz.bi_intb, Vz.bi_tuple, Vz.bi_list, Vz.bi_max1, Vz.bi_min1, Vz.bi_sorted, Vz.bi_all, Vz.bi_any, Vz.bi_sum, Vz.bi_abs, Vz.bi_dict, Vz.bi_repr, Vz.src_dat, Vz.src_rng1, Vz.src_rng2, Vz.src_enum, Vz.seqOf_lst, Vz.seqOf_tup, Vz.lstR_nl, Vz.putC_lst, Vz.putC_dct, Vz.putC_dcT, Vz.keyT_ii, Vz.keyD_int, Vz.binI_add, Vz.binI_sub, Vz.setAll_nil, Vz.setAll_cons, Vz.tgSet_nm, Vz.tgSet_tp, Vz.wipe_nil, Vz.wipe_cons, Vz.isi_int, Vz.isi_bool, Vz.isi_tuple, Vz.isi_list, Vz.isi_str, Vz.cmpD_eqi, Vz.cmpD_nei, Vz.ownL_eq, Vz.refL_eq, List.getElem?_cons_zero, List.getElem?_cons_succ, List.set_cons_zero, List.set_cons_succ, List.cons_append, List.nil_append, List.append_nil, List.replicate_succ, List.replicate_zero, Option.map_some, Option.bind_some, List.length_cons, List.length_nil, Vz.argE_nil, Vz.argE_p, Vz.argE_ref, Vz.argE_obj, Vz.letGo_p, Vz.letGo_nl, Vz.letGo_nd, Vz.fin_ret, Vz.fin_next, Vz.fin_exc, List.getElem?_nil, Nat.sub_zero, Nat.reduceAdd, Nat.reduceSub, Nat.reduceMul, ↓reduceIte, Bool.false_eq_true, Bool.not_true, Bool.not_false, Vz.take_len, List.take_succ_cons, reduceCtorEq, eq_self, ne_eq, not_false_eq_true, not_true_eq_false, decide_true, decide_false, Nat.reduceLT, Nat.reduceLeDiff, and_self, and_true, true_and, Int.reduceEq, Int.reduceNe, Int.reduceLT, Int.reduceLE, Int.reduceAdd, Int.reduceSub, Int.reduceMul, Int.reduceNeg, Int.reduceToNat, Int.toNat_natCast, Vz.fdivN, Vz.fmodN, Vz.addN, Vz.mulN, Vz.ltN, Vz.leN, Vz.eqN, Vz.atI_0, Vz.atI_1, Vz.atI_2, Vz.atI_3])
  | `(tactic| k_dat ($a:term, $as:term,*) "E") => `(tactic| simp -implicitDefEqProofs -dsimp only [$a:term, $[$as:term],*, Vz.exSS_nil, Vz.exSS_cons, Vz.then_next, Vz.then_cnt, Vz.then_brk, Vz.then_ret, Vz.then_exc, Vz.exS_asg, Vz.exS_own, Vz.exS_nref, Vz.exS_unp, Vz.exS_par2, Vz.exS_app, Vz.exS_appr, Vz.exS_appx, Vz.exS_sett, Vz.exS_par3, Vz.setTs_nil, Vz.setTs_nm, Vz.setTs_tp, Vz.setTs_sr, Vz.setTs_so, Vz.exS_seto, Vz.exS_setr, Vz.exS_augo, Vz.exS_augn, Vz.exS_ext, Vz.exS_pop, Vz.exS_ifs, Vz.exS_forr, Vz.exS_whil, Vz.exS_ret, Vz.exS_retn, Vz.exS_rais, Vz.exS_exprs, Vz.exS_frz, Vz.exS_fgt, Vz.exS_pass, Vz.exS_brk, Vz.exS_cont, Vz.evE_var, Vz.varR_p, Vz.varR_ref, Vz.varR_obj, Vz.varR_own, Vz.evE_non, Vz.evE_bl, Vz.evE_int, Vz.evE_nat, Vz.evE_str, Vz.evE_con, Vz.evE_tup, Vz.evE_lst, Vz.evE_edict, Vz.evE_bin, Vz.evE_neg, Vz.evE_cmp, Vz.evE_nott, Vz.evE_bop, Vz.evE_ite, Vz.evE_idx, Vz.evE_slc, Vz.evE_bi, Vz.evE_isi, Vz.evE_call, Vz.evE_att, Vz.evE_mth, Vz.evE_new, Vz.evE_rev, Vz.evE_tzip, Vz.evE_ddisp, Vz.evE_lrng, Vz.evE_comp, Vz.evE_comp2, Vz.compL_nil, Vz.compL_cons, Vz.evEs_nil, Vz.evEs_cons, Vz.evFz_nil, Vz.evFz_cons, Vz.evAr_nil, Vz.evAr_cons, Vz.evBop_one, Vz.evBop_cons, Vz.evOe_no, Vz.evOe_so, Vz.evOb_no, Vz.evOb_so, Vz.evCs_one, Vz.evCs_cons, Vz.bodyF_eq, Vz.condF_eq, Vz.blkF_eq, Vz.bk_ok, Vz.bk_exc, Vz.stk_ok, Vz.stk_exc, Vz.opt_some, Vz.optK_some, Vz.noX_ok, Vz.binR_add, Vz.binR_sub, Vz.binR_div, Vz.binR_mod, Vz.binR_mul, Vz.binR_tm, Vz.revD_lst, Vz.revD_tup, Vz.tzip_tl, Vz.tzip_tt, Vz.lrng1, Vz.objR_eq, Vz.binR_nl, Vz.binR_nlp, Vz.binR_pnl, Vz.binR_rep, Vz.binD_add, Vz.binD_sub, Vz.binD_mul, Vz.binD_div, Vz.binD_tup, Vz.binD_lst, Vz.dat_p, Vz.dat_nl, Vz.dat_bw, Vz.dat_bwd, Vz.dat_nd, Vz.dat_ref, Vz.dat_bwT, Vz.dat_nT, Vz.dic_bwT, Vz.dic_nT, Vz.dicT_bw, Vz.dicT_nT, Vz.dic_p, Vz.dic_nl, Vz.dic_bw, Vz.dic_bwd, Vz.dic_nd, Vz.dic_ref, Vz.fz_p, Vz.fz_nl, Vz.slot_p, Vz.slot_nl, Vz.slot_ref, Vz.slot_obj, Vz.slotOwn_nT, Vz.slotOwn_nl, Vz.slotOwn_nd, Vz.slotB_t, Vz.slotB_f, Vz.argR_p, Vz.argR_nl, Vz.argR_ref, Vz.argR_obj, Vz.retR_obj, Vz.retR_p, Vz.retR_nl, Vz.retR_bw, Vz.retR_bwd, Vz.retR_ref, Vz.cmpR_p, Vz.cmpR_nl, Vz.cmpR_nlp, Vz.cmpR_pnl, Vz.cmpR_bw, Vz.cmpR_in, Vz.cmpR_ni, Vz.dicT_p, Vz.dicT_nl, Vz.dicT_bwl, Vz.dicT_bwd, Vz.dicT_ref, Vz.idxR_ref, Vz.idxR_bwT, Vz.cmpR_inref, Vz.cmpR_niref, Vz.cmpD_lt, Vz.cmpD_le, Vz.cmpD_gt, Vz.cmpD_ge, Vz.cmpD_is, Vz.cmpD_isn, Vz.truR_p, Vz.truR_nl, Vz.truR_bw, Vz.truD_bool, Vz.truD_non, Vz.truD_tup, Vz.truD_lst, Vz.idxR_p, Vz.idxR_nl, Vz.idxR_bw, Vz.idxR_bwd, Vz.idxD_lst, Vz.idxD_tup, Vz.slcD_lst, Vz.slcD_tup, Vz.bi_len, Vz.bi_int, Vz.bi_intb, Vz.bi_tuple, Vz.bi_list, Vz.bi_max1, Vz.bi_min1, Vz.bi_sorted, Vz.bi_all, Vz.bi_any, Vz.bi_sum, Vz.bi_abs, Vz.bi_dict, Vz.bi_repr, Vz.src_dat, Vz.src_rng1, Vz.src_rng2, Vz.src_enum, Vz.seqOf_lst, Vz.seqOf_tup, Vz.lstR_nl, Vz.putC_lst, Vz.putC_dct, Vz.putC_dcT, Vz.keyT_ii, Vz.keyD_int, Vz.binI_add, Vz.binI_sub, Vz.setAll_nil, Vz.setAll_cons, Vz.tgSet_nm, Vz.tgSet_tp, Vz.wipe_nil, Vz.wipe_cons, Vz.isi_int, Vz.isi_bool, Vz.isi_tuple, Vz.isi_list, Vz.isi_str, Vz.cmpD_eqi, Vz.cmpD_nei, Vz.ownL_eq, Vz.refL_eq, List.getElem?_cons_zero, List.getElem?_cons_succ, List.set_cons_zero, List.set_cons_succ, List.cons_append, List.nil_append, List.append_nil, List.replicate_succ, List.replicate_zero, Option.map_some, Option.bind_some, List.length_cons, List.length_nil, Vz.argE_nil, Vz.argE_p, Vz.argE_ref, Vz.argE_obj, Vz.letGo_p, Vz.letGo_nl, Vz.letGo_nd, Vz.fin_ret, Vz.fin_next, Vz.fin_exc, List.getElem?_nil, Nat.sub_zero, Nat.reduceAdd, Nat.reduceSub, Nat.reduceMul, ↓reduceIte, Bool.false_eq_true, Bool.not_true, Bool.not_false, Vz.take_len, List.take_succ_cons, reduceCtorEq, eq_self, ne_eq, not_false_eq_true, not_true_eq_false, decide_true, decide_false, Nat.reduceLT, Nat.reduceLeDiff, and_self, and_true, true_and, Int.reduceEq, Int.reduceNe, Int.reduceLT, Int.reduceLE, Int.reduceAdd, Int.reduceSub, Int.reduceMul, Int.reduceNeg, Int.reduceToNat, Int.toNat_natCast])
namespace Vz.L
open PySem PySem.Spec L2 Vy
def isIntD : D → Bool
  | .int _ => true
  | _ => false
def isBitD : D → Bool
  | .int i => decide (i = 0 ∨ i = 1)
  | _ => false
def isBitsD : D → Bool
  | .tuple ds => ds.all isBitD
  | _ => false
def inR (top : Int) : D → Bool
  | .int i => decide (0 ≤ i ∧ i < top)
  | _ => false
def isLatchD (top : Int) : D → Bool
  | .tuple [a, b] => isBitD a && inR top b
  | _ => false
def isGateD (top : Int) : D → Bool
  | .tuple [.int a, .int b] => decide (0 ≤ b ∧ b ≤ a ∧ a < top)
  | _ => false
def gatesOk (k : Int) : List D → Bool
  | [] => true
  | d :: r => isGateD (2 * k) d && gatesOk (k + 1) r
def gfD : D → D
  | .tuple [.int ins, .tuple l, .tuple g, .tuple o] =>
    if 0 ≤ ins ∧ ins ≤ 16 then
      if l.length ≤ 16 ∧ l.all (isLatchD (2 * (1 + ins + l.length + g.length))) = true then
        if g.length ≤ 400 ∧ gatesOk (1 + ins + l.length) g = true then
          if (1 ≤ o.length ∧ o.length ≤ 40) ∧ o.all (inR (2 * (1 + ins + l.length + g.length))) = true then .none else .str "outs"
        else .str "gates"
      else .str "latches"
    else .str "ins"
  | .tuple [_, .tuple _, .tuple _, .tuple _] => .str "ins"
  | _ => .str "shape"
theorem gfD_eq (ins : Int) (l g o : List D) : gfD (.tuple [.int ins, .tuple l, .tuple g, .tuple o]) = if 0 ≤ ins ∧ ins ≤ 16 then
      if l.length ≤ 16 ∧ l.all (isLatchD (2 * (1 + ins + l.length + g.length))) = true then
        if g.length ≤ 400 ∧ gatesOk (1 + ins + l.length) g = true then
          if (1 ≤ o.length ∧ o.length ≤ 40) ∧ o.all (inR (2 * (1 + ins + l.length + g.length))) = true then .none else .str "outs"
        else .str "gates"
      else .str "latches"
    else .str "ins" := rfl
theorem c0 : ((0 : Nat) : Int) = 0 := rfl
theorem c1 : ((1 : Nat) : Int) = 1 := rfl
theorem c2 : ((2 : Nat) : Int) = 2 := rfl
theorem c3 : ((3 : Nat) : Int) = 3 := rfl
theorem c4 : ((4 : Nat) : Int) = 4 := rfl
theorem c16 : ((16 : Nat) : Int) = 16 := rfl
theorem c40 : ((40 : Nat) : Int) = 40 := rfl
theorem c400 : ((400 : Nat) : Int) = 400 := rfl
theorem az0 {α : Type} (a : α) (xs : List α) : atI (a :: xs) 0 = some a := atI_0 a xs
theorem az1 {α : Type} (a b : α) (xs : List α) : atI (a :: b :: xs) 1 = some b := atI_1 a b xs
theorem mul2 (b : Int) : mulOk 2 b = true := mulOkN (a := 2) (by decide)
section
variable (n : Nat) (d : D) (S : Sto)
theorem r_is_integer : run (n + 1) 0 [.p d] S = .ok (.p (.bool (isIntD d))) S := by
  rw [run, runF_eq (fn := i_is_integer) rfl rfl rfl (by decide) rfl]
  cases d <;> k_dat (i_is_integer, isIB, isBl, isIntD, mul2, c0, c1, c2, c3, c4, c16, c40, c400, and_self, and_self) "E"
theorem r_is_bit : run (n + 2) 1 [.p d] S = .ok (.p (.bool (isBitD d))) S := by
  rw [run, runF_eq (fn := i_is_bit) rfl rfl rfl (by decide) rfl]
  cases d <;> k_dat (i_is_bit, cmpD_int, r_is_integer, isIntD, isBitD, flatD, List.all_cons, List.all_nil, List.any_cons, List.any_nil, PyData.eqv, Bool.and_true, Bool.and_self, and_self, Bool.or_false, mul2, c0, c1, c2, c3, c4, c16, c40, c400, and_self, and_self) "E"
  rename_i i
  congr 3
  rw [Bool.eq_iff_iff]
  simp
  omega
theorem r_is_latch (top : Int) : run (n + 3) 3 [.p d, .p (.int top)] S = .ok (.p (.bool (isLatchD top d))) S := by
  rw [run, runF_eq (fn := i_is_latch) rfl rfl rfl (by decide) rfl]
  cases d <;> try (k_dat (i_is_latch, isLatchD, isTu, mul2, c0, c1, c2, c3, c4, c16, c40, c400, and_self, and_self) "E"; done)
  rename_i ds
  match ds with
  | [] => k_dat (i_is_latch, isLatchD, isTu, mul2, c0, c1, c2, c3, c4, c16, c40, c400, and_self, and_self) "E"
  | [a] => k_dat (i_is_latch, isLatchD, isTu, mul2, c0, c1, c2, c3, c4, c16, c40, c400, and_self, and_self) "E"
  | a :: b :: c :: e => 
    have : ¬ ((e.length + 1 + 1 + 1 : Nat) : Int) = 2 := by omega
    k_dat (i_is_latch, isLatchD, isTu, this, mul2, c0, c1, c2, c3, c4, c16, c40, c400, and_self, and_self) "E"
  | [a, b] =>
    k_dat (i_is_latch, isLatchD, isTu, r_is_bit, r_is_integer, az0, az1, mul2, c0, c1, c2, c3, c4, c16, c40, c400, and_self, and_self) "E"
    cases ha : isBitD a <;> cases b <;> try (k_dat (isIntD, inR, Bool.false_and, Bool.and_false, mul2, c0, c1, c2, c3, c4, c16, c40, c400, and_self, and_self) "E"; done)
    rename_i b
    by_cases h1 : 0 ≤ b <;> by_cases h2 : b < top <;> k_dat (isIntD, inR, h1, h2, Bool.true_and, and_self, and_true, and_false, mul2, c0, c1, c2, c3, c4, c16, c40, c400, and_self, and_self) "E"
theorem r_is_gate (top : Int) : run (n + 2) 4 [.p d, .p (.int top)] S = .ok (.p (.bool (isGateD top d))) S := by
  rw [run, runF_eq (fn := i_is_gate) rfl rfl rfl (by decide) rfl]
  cases d <;> try (k_dat (i_is_gate, isGateD, isTu, mul2, c0, c1, c2, c3, c4, c16, c40, c400, and_self, and_self) "E"; done)
  rename_i ds
  match ds with
  | [] => k_dat (i_is_gate, isGateD, isTu, mul2, c0, c1, c2, c3, c4, c16, c40, c400, and_self, and_self) "E"
  | [a] => k_dat (i_is_gate, isGateD, isTu, mul2, c0, c1, c2, c3, c4, c16, c40, c400, and_self, and_self) "E"
  | a :: b :: c :: e => 
    have : ¬ ((e.length + 1 + 1 + 1 : Nat) : Int) = 2 := by omega
    k_dat (i_is_gate, isGateD, isTu, this, mul2, c0, c1, c2, c3, c4, c16, c40, c400, and_self, and_self) "E"
  | [a, b] =>
    k_dat (i_is_gate, isTu, mul2, c0, c1, c2, c3, c4, c16, c40, c400, and_self, and_self) "E"
    rw [compX_mapD (fun x => .bool (isIntD x)) [a, b] (fun x _ => by k_dat (cturn, r_is_integer, mul2, c0, c1, c2, c3, c4, c16, c40, c400, and_self, and_self) "E") (by rw [List.length_cons, List.length_cons]; decide)]
    k_dat (boolsD_map, List.map_cons, List.map_nil, boolsD, List.all_cons, List.all_nil, id, mul2, c0, c1, c2, c3, c4, c16, c40, c400, and_self, and_self) "E"
    cases a <;> cases b <;> try (k_dat (isIntD, isGateD, Bool.false_and, Bool.and_false, Bool.and_true, Bool.true_and, mul2, c0, c1, c2, c3, c4, c16, c40, c400, and_self, and_self) "E"; done)
    rename_i a b
    k_dat (isIntD, isGateD, Bool.and_self, az0, az1, mul2, c0, c1, c2, c3, c4, c16, c40, c400, and_self, and_self) "E"
    by_cases h1 : 0 ≤ b <;> by_cases h2 : b ≤ a <;> by_cases h3 : a < top <;> k_dat (h1, h2, h3, and_self, and_true, and_false, mul2, c0, c1, c2, c3, c4, c16, c40, c400, and_self, and_self) "E"
theorem gates_all : ∀ (g : List D) (k : Nat) (f : Int), (enumD k g).all (fun x => match x with | .tuple [.int i, d] => isGateD (2 * (f + i)) d | _ => false) = gatesOk (f + k) g
  | [], _, _ => rfl
  | d :: r, k, f => by
    show (isGateD (2 * (f + k)) d && (enumD (k + 1) r).all _) = (isGateD (2 * (f + k)) d && gatesOk (f + k + 1) r)
    rw [gates_all r (k + 1) f]
    congr 2
    omega
theorem enumD_len : ∀ (g : List D) (k : Nat), (enumD k g).length = g.length
  | [], _ => rfl
  | d :: r, k => by show (enumD (k + 1) r).length + 1 = r.length + 1; rw [enumD_len r]
theorem enumD_mem : ∀ (g : List D) (k : Nat) (x : D), x ∈ enumD k g → ∃ i d, x = .tuple [.int i, d]
  | [], _, _, h => by cases h
  | d :: r, k, x, h => by
    rcases List.mem_cons.mp h with h | h
    · exact ⟨_, _, h⟩
    · exact enumD_mem r (k + 1) x h
theorem r_graph_fault : run (n + 4) 2 [.p d] S = .ok (.p (gfD d)) S := by
  rw [run, runF_eq (fn := i_graph_fault) rfl rfl rfl (by decide) rfl]
  cases d <;> try (k_dat (i_graph_fault, gfD, isTu, mul2, c0, c1, c2, c3, c4, c16, c40, c400, and_self, and_self) "E"; done)
  rename_i ds
  match ds with
  | [] => k_dat (i_graph_fault, gfD, isTu, mul2, c0, c1, c2, c3, c4, c16, c40, c400, and_self, and_self) "E"
  | [a] => k_dat (i_graph_fault, gfD, isTu, mul2, c0, c1, c2, c3, c4, c16, c40, c400, and_self, and_self) "E"
  | [a, b] => k_dat (i_graph_fault, gfD, isTu, mul2, c0, c1, c2, c3, c4, c16, c40, c400, and_self, and_self) "E"
  | [a, b, c] => k_dat (i_graph_fault, gfD, isTu, mul2, c0, c1, c2, c3, c4, c16, c40, c400, and_self, and_self) "E"
  | a :: b :: c :: d :: e :: f => 
    have : ¬ ((f.length + 1 + 1 + 1 + 1 + 1 : Nat) : Int) = 4 := by omega
    k_dat (i_graph_fault, gfD, isTu, this, mul2, c0, c1, c2, c3, c4, c16, c40, c400, and_self, and_self) "E"
  | [a, l, g, o] =>
    k_dat (i_graph_fault, isTu, mul2, c0, c1, c2, c3, c4, c16, c40, c400, and_self, and_self) "E"
    rw [show cutD [a, l, g, o] (some 1) none = [l, g, o] from rfl, compX_mapD (fun x => .bool (isTu x)) [l, g, o] (fun x _ => by k_dat (cturn, mul2, c0, c1, c2, c3, c4, c16, c40, c400, and_self, and_self) "E") (by simp only [List.length_cons, List.length_nil]; decide)]
    k_dat (boolsD_map, List.all_cons, List.all_nil, List.map_cons, List.map_nil, boolsD, Bool.and_true, id, mul2, c0, c1, c2, c3, c4, c16, c40, c400, and_self, and_self) "E"
    cases l <;> try (k_dat (isTu, gfD, Bool.false_and, mul2, c0, c1, c2, c3, c4, c16, c40, c400, and_self, and_self) "E"; done)
    cases g <;> try (k_dat (isTu, gfD, Bool.false_and, Bool.and_false, mul2, c0, c1, c2, c3, c4, c16, c40, c400, and_self, and_self) "E"; done)
    cases o <;> try (k_dat (isTu, gfD, Bool.false_and, Bool.and_false, mul2, c0, c1, c2, c3, c4, c16, c40, c400, and_self, and_self) "E"; done)
    rename_i l g o
    k_dat (isTu, Bool.and_self, r_is_integer, mul2, c0, c1, c2, c3, c4, c16, c40, c400, and_self, and_self) "E"
    cases a <;> try (k_dat (isIntD, gfD, mul2, c0, c1, c2, c3, c4, c16, c40, c400, and_self, and_self) "E"; done)
    rename_i ins
    by_cases h1 : 0 ≤ ins <;> by_cases h2 : ins ≤ 16 <;> try (k_dat (isIntD, gfD, h1, h2, and_false, false_and, mul2, c0, c1, c2, c3, c4, c16, c40, c400, and_self, and_self) "E"; done)
    k_dat (isIntD, gfD, h1, h2, and_self, mul2, c0, c1, c2, c3, c4, c16, c40, c400, and_self, and_self) "E"
    have e1 : ((l.length : Int) ≤ 16) = (l.length ≤ 16) := leN _ 16
    have e2 : ((g.length : Int) ≤ 400) = (g.length ≤ 400) := leN _ 400
    have e3 : ((o.length : Int) ≤ 40) = (o.length ≤ 40) := leN _ 40
    have e4 : (1 ≤ (o.length : Int)) = (1 ≤ o.length) := leN 1 _
    by_cases h3 : l.length ≤ 16
    · have h3' : ¬ (16 : Int) < l.length := by omega
      k_dat (h3, h3', mul2, c0, c1, c2, c3, c4, c16, c40, c400, and_self, and_self) "E"
      rw [compX_mapD (fun x => .bool (isLatchD (2 * (1 + ins + l.length + g.length)) x)) l (fun x _ => by k_dat (cturn, r_is_latch, mul2, c0, c1, c2, c3, c4, c16, c40, c400, and_self, and_self) "E") (by unfold sizeLine; omega)]
      cases h4 : l.all (isLatchD (2 * (1 + ins + l.length + g.length))) with
      | false => k_dat (boolsD_map, List.all_map, Function.comp_def, id, h4, and_false, mul2, c0, c1, c2, c3, c4, c16, c40, c400, and_self, and_self) "E"
      | true =>
        k_dat (boolsD_map, List.all_map, Function.comp_def, id, h4, mul2, c0, c1, c2, c3, c4, c16, c40, c400, and_self, and_self) "E"
        by_cases h5 : g.length ≤ 400
        · have h5' : ¬ (400 : Int) < g.length := by omega
          k_dat (h5, h5', mul2, c0, c1, c2, c3, c4, c16, c40, c400, and_self, and_self) "E"
          rw [compX_mapD (fun x => .bool (match x with | .tuple [.int i, d] => isGateD (2 * (1 + ins + l.length + i)) d | _ => false)) (enumD 0 g) (fun x hx => by
            obtain ⟨i, d, rfl⟩ := enumD_mem g 0 x hx
            k_dat (cturn, r_is_gate, mul2, c0, c1, c2, c3, c4, c16, c40, c400, and_self, and_self) "E") (by rw [enumD_len]; unfold sizeLine; omega)]
          have h6 := gates_all g 0 (1 + ins + l.length)
          rw [show (1 + ins + l.length : Int) + ((0 : Nat) : Int) = 1 + ins + l.length by omega] at h6
          cases h7 : gatesOk (1 + ins + l.length) g with
          | false => k_dat (boolsD_map, List.all_map, Function.comp_def, id, h6, h7, and_false, mul2, c0, c1, c2, c3, c4, c16, c40, c400, and_self, and_self) "E"
          | true =>
            k_dat (boolsD_map, List.all_map, Function.comp_def, id, h6, h7, e3, e4, mul2, c0, c1, c2, c3, c4, c16, c40, c400, and_self, and_self) "E"
            by_cases h8 : 1 ≤ o.length <;> by_cases h9 : o.length ≤ 40 <;> try (k_dat (h8, h9, and_false, false_and, mul2, c0, c1, c2, c3, c4, c16, c40, c400, and_self, and_self) "E"; done)
            k_dat (h8, h9, mul2, c0, c1, c2, c3, c4, c16, c40, c400, and_self, and_self) "E"
            rw [compX_mapD (fun x => .bool (inR (2 * (1 + ins + l.length + g.length)) x)) o (fun x hx => by
              clear hx
              k_dat (cturn, r_is_integer, mul2, c0, c1, c2, c3, c4, c16, c40, c400, and_self, and_self) "E"
              cases x <;> try (k_dat (isIntD, inR, mul2, c0, c1, c2, c3, c4, c16, c40, c400, and_self, and_self) "E"; done)
              rename_i x
              by_cases k1 : 0 ≤ x <;> by_cases k2 : x < 2 * (1 + ins + l.length + g.length) <;> k_dat (isIntD, inR, k1, k2, and_false, mul2, c0, c1, c2, c3, c4, c16, c40, c400, and_self, and_self) "E") (by unfold sizeLine; omega)]
            cases h10 : o.all (inR (2 * (1 + ins + l.length + g.length))) <;> k_dat (boolsD_map, List.all_map, Function.comp_def, id, h10, and_false, mul2, c0, c1, c2, c3, c4, c16, c40, c400, and_self, and_self) "E"
        · have h5' : (400 : Int) < g.length := by omega
          k_dat (h5, h5', false_and, mul2, c0, c1, c2, c3, c4, c16, c40, c400, and_self, and_self) "E"
    · have h3' : (16 : Int) < l.length := by omega
      k_dat (h3, h3', false_and, mul2, c0, c1, c2, c3, c4, c16, c40, c400, and_self, and_self) "E"
theorem r_check_ok (h : gfD d = .none) : run (n + 5) 5 [.p d] S = .ok (.p .none) S := by
  rw [run, runF_eq (fn := i_check_graph) rfl rfl rfl (by decide) rfl]
  k_dat (i_check_graph, r_graph_fault, h, isNonD, and_self, and_self) "E"
theorem r_check_bad {w : Str} (h : gfD d = .str w) : run (n + 5) 5 [.p d] S = .exc 1 [.str "graph"] S := by
  rw [run, runF_eq (fn := i_check_graph) rfl rfl rfl (by decide) rfl]
  k_dat (i_check_graph, r_graph_fault, h, isNonD, and_self, and_self) "E"
end
/-! ### graphs that are right -/
structure Gr where
  ins : Nat
  lat : List (Nat × Nat)
  gates : List (Nat × Nat)
  outs : List Nat
def Gr.enc (g : Gr) : D := .tuple [.int g.ins, .tuple (g.lat.map dP), .tuple (g.gates.map dP), .tuple (g.outs.map dN)]
def Gr.first (g : Gr) : Nat := 1 + g.ins + g.lat.length
def Gr.top (g : Gr) : Nat := 2 * (g.first + g.gates.length)
def GOk (k : Nat) : List (Nat × Nat) → Prop
  | [] => True
  | p :: r => p.2 ≤ p.1 ∧ p.1 < 2 * k ∧ GOk (k + 1) r
structure Gr.Ok (g : Gr) : Prop where
  ins : g.ins ≤ 16
  latN : g.lat.length ≤ 16
  lat : ∀ p ∈ g.lat, p.1 < 2 ∧ p.2 < g.top
  gatN : g.gates.length ≤ 400
  gat : GOk g.first g.gates
  out1 : 1 ≤ g.outs.length
  outN : g.outs.length ≤ 40
  out : ∀ o ∈ g.outs, o < g.top
theorem gatesOk_of : ∀ (l : List (Nat × Nat)) (k : Nat), GOk k l → gatesOk (k : Int) (l.map dP) = true
  | [], _, _ => rfl
  | p :: r, k, h => by
    have ih := gatesOk_of r (k + 1) h.2.2
    show (isGateD (2 * (k : Int)) (dP p) && gatesOk ((k : Int) + 1) (r.map dP)) = true
    rw [show ((k : Int) + 1) = ((k + 1 : Nat) : Int) from rfl, ih, Bool.and_true]
    have := h.1
    have := h.2.1
    simp only [isGateD, decide_eq_true_eq]
    omega
theorem Gr.Ok.gf {g : Gr} (h : g.Ok) : gfD g.enc = .none := by
  have e : (2 * (1 + (g.ins : Int) + ((g.lat.map dP).length : Int) + ((g.gates.map dP).length : Int))) = (g.top : Int) := by
    simp only [List.length_map, Gr.top, Gr.first]
    omega
  have e2 : (1 + (g.ins : Int) + ((g.lat.map dP).length : Int)) = (g.first : Int) := by
    simp only [List.length_map, Gr.first]
    omega
  have := h.ins
  have h1 : (g.lat.map dP).all (isLatchD (g.top : Int)) = true := by
    rw [List.all_map, List.all_eq_true]
    intro p hp
    obtain ⟨a, b⟩ := h.lat p hp
    simp only [Function.comp, isLatchD, isBitD, inR, Bool.and_eq_true, decide_eq_true_eq]
    omega
  have h2 : (g.outs.map dN).all (inR (g.top : Int)) = true := by
    rw [List.all_map, List.all_eq_true]
    intro p hp
    have b := h.out p hp
    simp only [Function.comp, inR, decide_eq_true_eq]
    omega
  have h3 := gatesOk_of g.gates g.first h.gat
  unfold Gr.enc
  rw [gfD_eq, e, e2, h1, h2, h3]
  have := h.latN
  have := h.gatN
  have := h.out1
  have := h.outN
  simp only [List.length_map]
  rw [if_pos (by omega), if_pos ⟨by omega, trivial⟩, if_pos ⟨by omega, trivial⟩, if_pos ⟨by omega, trivial⟩]
section
variable (n : Nat) (g : Gr) (S : Sto)
theorem r_check (h : g.Ok) : run (n + 5) 5 [.p g.enc] S = .ok (.p .none) S := r_check_ok n g.enc S h.gf
theorem r_first_gate : run (n + 1) 6 [.p g.enc] S = .ok (.p (.int g.first)) S := by
  rw [run, runF_eq (fn := i_first_gate) rfl rfl rfl (by decide) rfl]
  k_dat (i_first_gate, Gr.enc, List.length_map, and_self, and_self) "S"
  rfl
end
end Vz.L
set_option Elab.async false
set_option linter.all false
set_option maxRecDepth 100000
set_option maxHeartbeats 4000000
namespace Vz.L
open PySem PySem.Spec L2 Vy
/-- the bit of a literal -/
def lit (bs : List Nat) (l : Nat) : Nat := (bs.getD (l / 2) 0 + l) % 2
def stepG (bs : List Nat) (p : Nat × Nat) : List Nat := bs ++ [lit bs p.1 * lit bs p.2]
def settledL (g : Gr) (state row : List Nat) : List Nat := g.gates.foldl stepG ([0] ++ row ++ state)
theorem lit_lt (bs : List Nat) (l : Nat) : lit bs l < 2 := Nat.mod_lt _ (by decide)
theorem stepG_len (bs : List Nat) (p : Nat × Nat) : (stepG bs p).length = bs.length + 1 := by simp [stepG]
theorem foldG_len : ∀ (l : List (Nat × Nat)) (bs : List Nat), (l.foldl stepG bs).length = bs.length + l.length
  | [], bs => rfl
  | p :: r, bs => by
    rw [List.foldl_cons, foldG_len r, stepG_len, List.length_cons]
    omega
theorem GOk.half {k a b : Nat} {r : List (Nat × Nat)} (h : GOk k ((a, b) :: r)) : a / 2 < k ∧ b / 2 < k := by
  obtain ⟨h1, h2, _⟩ := h
  have h1 : b ≤ a := h1
  have h2 : a < 2 * k := h2
  omega
theorem isBits_dN {bs : List Nat} (h : ∀ b ∈ bs, b < 2) : isBitsD (.tuple (bs.map dN)) = true := by
  show (bs.map dN).all isBitD = true
  rw [List.all_map, List.all_eq_true]
  intro b hb
  have := h b hb
  simp only [Function.comp, isBitD, decide_eq_true_eq]
  omega
theorem lit_at {bs : List Nat} {l : Nat} (h : l / 2 < bs.length) : atI (bs.map dN) ((l / 2 : Nat) : Int) = some (.int (bs.getD (l / 2) 0 : Nat)) := at_dN h
theorem litN (bs : List Nat) (l : Nat) : (bs.getD (l / 2) 0 + l) % 2 = lit bs l := rfl
theorem mulOk_lit (bs : List Nat) (l : Nat) (b : Int) : mulOk (lit bs l : Nat) b = true := mulOkN (Nat.lt_trans (lit_lt bs l) (by decide))
section
variable (n : Nat) (g : Gr) (S : Sto)
theorem settledL_len (state row : List Nat) : (settledL g state row).length = 1 + row.length + state.length + g.gates.length := by
  rw [settledL, foldG_len]
  simp
  omega
theorem r_lit {bs : List Nat} {l : Nat} (h : l / 2 < bs.length) : run (n + 1) 16 [.p (.list (bs.map dN)), .p (.int l)] S = .ok (.p (.int (lit bs l))) S := by
  rw [run, runF_eq (fn := i__law_lit) rfl rfl rfl (by decide) rfl]
  k_dat (i__law_lit, lit_at, litN, and_self, and_self) "S"
theorem r_litR {bs : List Nat} {l k : Nat} (h : l / 2 < bs.length) (hk : S[k]? = some (.lst (bs.map dN))) : run (n + 1) 16 [.ref k, .p (.int l)] S = .ok (.p (.int (lit bs l))) S := by
  rw [run, runF_eq (fn := i__law_lit) rfl rfl rfl (by decide) rfl]
  k_dat (i__law_lit, lit_at, litN, hk, and_self, and_self) "S"
/-- rows that fit a graph -/
structure Fits (g : Gr) (state row : List Nat) : Prop where
  ok : g.Ok
  hrow : row.length = g.ins
  hst : state.length = g.lat.length
  rowB : ∀ b ∈ row, b < 2
  stB : ∀ b ∈ state, b < 2
theorem Fits.len {g : Gr} {state row : List Nat} (f : Fits g state row) : (settledL g state row).length = g.first + g.gates.length := by
  rw [settledL_len, f.hrow, f.hst]
  rfl
theorem Fits.half {g : Gr} {state row : List Nat} (f : Fits g state row) {l : Nat} (h : l < g.top) : l / 2 < (settledL g state row).length := by
  rw [f.len]
  unfold Gr.top at h
  omega
end
end Vz.L
set_option Elab.async false
set_option linter.all false
set_option maxRecDepth 100000
set_option maxHeartbeats 4000000
namespace Vz.L
open PySem PySem.Spec L2 Vy
def dB (bs : List Nat) : D := .tuple (bs.map dN)
def outsL (g : Gr) (state row : List Nat) : List Nat := g.outs.map (lit (settledL g state row))
def laterL (g : Gr) (state row : List Nat) : List Nat := g.lat.map fun p => lit (settledL g state row) p.2
def endsL (g : Gr) : List Nat := g.lat.map (·.2) ++ g.outs
def stepLv (lv : List Nat) (p : Nat × Nat) : List Nat := lv ++ [1 + max (lv.getD (p.1 / 2) 0) (lv.getD (p.2 / 2) 0)]
def levelsL (g : Gr) : List Nat := g.gates.foldl stepLv (List.replicate g.first 0)
theorem Gr.Ok.sizes {g : Gr} (h : g.Ok) : g.first ≤ 33 ∧ g.top ≤ 866 := by
  have := h.ins
  have := h.latN
  have := h.gatN
  unfold Gr.top Gr.first
  omega
theorem Gr.Ok.half {g : Gr} {l : Nat} (h : l < g.top) : l / 2 < g.first + g.gates.length := by
  unfold Gr.top at h
  omega
section
variable (n : Nat) (g : Gr) (S : Sto)
theorem stepLv_len (lv : List Nat) (p : Nat × Nat) : (stepLv lv p).length = lv.length + 1 := by simp [stepLv]
theorem foldLv_len : ∀ (l : List (Nat × Nat)) (lv : List Nat), (l.foldl stepLv lv).length = lv.length + l.length
  | [], lv => rfl
  | p :: r, lv => by
    rw [List.foldl_cons, foldLv_len r, stepLv_len, List.length_cons]
    omega
theorem rep_flat (k : Nat) : (List.replicate k [(.int (0 : Nat) : D)]).flatten = (List.replicate k 0).map dN := by
  induction k with
  | zero => rfl
  | succ k ih => rw [List.replicate_succ, List.flatten_cons, ih]; rfl
end
end Vz.L
set_option Elab.async false
set_option linter.all false
set_option maxRecDepth 100000
set_option maxHeartbeats 4000000
namespace Vz.L
open PySem PySem.Spec L2 Vy
def mxI (l : List Nat) : Int := (maxI (l.map fun k : Nat => (k : Int))).getD 0
theorem max1N {l : List Nat} (h : l ≠ []) : (intsD (l.map dN)).bind maxI = some (mxI l) := by
  show (intsD (l.map fun k : Nat => .int (k : Int))).bind maxI = _
  rw [intsD_map]
  cases l with
  | nil => exact absurd rfl h
  | cons a r => rfl
def flatL (g : Gr) : List Nat := (g.gates.flatMap fun p => [p.1, p.2]) ++ endsL g
def cntStep (fd : List Nat) (l : Nat) : List Nat := fd.set (l / 2) (fd.getD (l / 2) 0 + 1)
def usesL (g : Gr) : List Nat := (flatL g).foldl cntStep (List.replicate (g.first + g.gates.length) 0)
theorem set_dN {fd : List Nat} {i v : Nat} : (fd.map dN).set i (.int (v : Int)) = (fd.set i v).map dN := by
  rw [List.map_set]
def opened (g : Gr) : Gr := ⟨g.ins + g.lat.length, [], g.gates, endsL g⟩
theorem flat_dN (g : List (Nat × Nat)) : (g.flatMap fun p => [dN p.1, dN p.2]) = (g.flatMap fun p => [p.1, p.2]).map dN := by
  induction g with
  | nil => rfl
  | cons p r ih => rw [List.flatMap_cons, List.flatMap_cons, List.map_append, ih]; rfl
theorem gok_lt : ∀ (l : List (Nat × Nat)) (k : Nat), GOk k l → ∀ p ∈ l, p.1 < 2 * (k + l.length) ∧ p.2 < 2 * (k + l.length)
  | [], _, _, p, hp => absurd hp (by simp)
  | q :: r, k, h, p, hp => by
    rw [List.length_cons]
    rcases List.mem_cons.mp hp with e | hp
    · subst e
      have := h.1
      have := h.2.1
      omega
    · have := gok_lt r (k + 1) h.2.2 p hp
      omega
theorem flat_len (l : List (Nat × Nat)) : (l.flatMap fun p => [p.1, p.2]).length = 2 * l.length := by
  induction l with
  | nil => rfl
  | cons p r ih => rw [List.flatMap_cons, List.length_append, ih]; simp; omega
theorem flatL_lt {g : Gr} (h : g.Ok) : ∀ l ∈ flatL g, l < g.top := by
  intro l hl
  unfold flatL endsL at hl
  rcases List.mem_append.mp hl with hl | hl
  · obtain ⟨p, hp, hl⟩ := List.mem_flatMap.mp hl
    have := gok_lt _ _ h.gat p hp
    unfold Gr.top
    simp at hl
    rcases hl with rfl | rfl <;> omega
  · rcases List.mem_append.mp hl with hl | hl
    · obtain ⟨p, hp, rfl⟩ := List.mem_map.mp hl
      exact (h.lat p hp).2
    · exact h.out l hl
theorem endsL_len (g : Gr) : (endsL g).length = g.lat.length + g.outs.length := by simp [endsL]
theorem levelsL_len (g : Gr) : (levelsL g).length = g.first + g.gates.length := by rw [levelsL, foldLv_len, List.length_replicate]
section
variable (n : Nat) (g : Gr) (S : Sto)
theorem cntFold_len : ∀ (l : List Nat) (fd : List Nat), (l.foldl cntStep fd).length = fd.length
  | [], _ => rfl
  | a :: r, fd => by rw [List.foldl_cons, cntFold_len r]; simp [cntStep]
end
end Vz.L
set_option Elab.async false
set_option linter.all false
set_option maxRecDepth 100000
set_option maxHeartbeats 4000000
namespace Vz.L
open PySem PySem.Spec L2 Vy
def kids (g : Gr) (h : Nat) : List Nat := match g.gates[h - g.first]? with
  | some p => [p.1 / 2, p.2 / 2]
  | none => []
/-- what is needed by some variables -/
inductive Reach (g : Gr) (st : List Nat) : Nat → Prop
  | base {k : Nat} : k ∈ st → Reach g st k
  | step {k j : Nat} : Reach g st k → g.first ≤ k → j ∈ kids g k → Reach g st j
def nbStep (g : Gr) (s : List Nat × List Nat) : List Nat × List Nat :=
  if s.2.getLastD 0 ∉ s.1 ∧ s.2.getLastD 0 ≠ 0 then (s.1 ++ [s.2.getLastD 0], if g.first ≤ s.2.getLastD 0 then s.2.dropLast ++ kids g (s.2.getLastD 0) else s.2.dropLast) else (s.1, s.2.dropLast)
structure NbInv (g : Gr) (st : List Nat) (s : List Nat × List Nat) : Prop where
  nd : s.1.Nodup
  lt1 : ∀ k ∈ s.1, k < g.first + g.gates.length
  lt2 : ∀ k ∈ s.2, k < g.first + g.gates.length
  r1 : ∀ k ∈ s.1, Reach g st k ∧ k ≠ 0
  r2 : ∀ k ∈ s.2, Reach g st k
  base : ∀ k ∈ st, k ∈ s.1 ∨ k ∈ s.2 ∨ k = 0
  cl : ∀ k ∈ s.1, g.first ≤ k → ∀ j ∈ kids g k, j ∈ s.1 ∨ j ∈ s.2 ∨ j = 0
theorem kids_lt {g : Gr} (h : g.Ok) {k j : Nat} (hj : j ∈ kids g k) : j < g.first + g.gates.length := by
  unfold kids at hj
  split at hj
  · rename_i p hp
    have := gok_lt _ _ h.gat p (List.mem_of_getElem? hp)
    simp at hj
    omega
  · cases hj
theorem kids_two {g : Gr} {k : Nat} : (kids g k).length ≤ 2 := by
  unfold kids
  split <;> simp
def nbM (g : Gr) (s : List Nat × List Nat) : Nat := s.2.length + 3 * (List.range (g.first + g.gates.length)).countP fun k => decide (k ∉ s.1)
theorem nb_step {g : Gr} {st : List Nat} (h : g.Ok) {f r : List Nat} {x : Nat} (i : NbInv g st (f, r ++ [x])) : NbInv g st (nbStep g (f, r ++ [x])) ∧ nbM g (nbStep g (f, r ++ [x])) < nbM g (f, r ++ [x]) := by
  have e1 : (r ++ [x]).getLastD 0 = x := by simp [List.getLastD_eq_getLast?]
  have e2 : (r ++ [x]).dropLast = r := by simp
  unfold nbStep
  simp only [e1, e2]
  have hx := i.lt2 x (by simp)
  have hr := i.r2 x (by simp)
  by_cases hc : x ∉ f ∧ x ≠ 0
  · rw [if_pos hc]
    have nd : (f ++ [x]).Nodup := by
      rw [List.nodup_append]
      refine ⟨i.nd, by simp, ?_⟩
      intro a ha b hb e
      rw [List.mem_singleton.mp hb] at e
      exact hc.1 (e ▸ ha)
    have cnt : ((List.range (g.first + g.gates.length)).countP fun k => decide (k ∉ f ++ [x])) < (List.range (g.first + g.gates.length)).countP fun k => decide (k ∉ f) := by
      refine countP_lt (fun k _ hk => ?_) ⟨x, List.mem_range.mpr hx, by simpa using hc.1, by simp⟩
      simp at hk ⊢
      exact hk.1
    by_cases hf : g.first ≤ x
    · rw [if_pos hf]
      refine ⟨⟨nd, ?_, ?_, ?_, ?_, ?_, ?_⟩, ?_⟩
      · intro k hk
        rcases List.mem_append.mp hk with hk | hk
        · exact i.lt1 k hk
        · rw [List.mem_singleton.mp hk]; exact hx
      · intro k hk
        rcases List.mem_append.mp hk with hk | hk
        · exact i.lt2 k (List.mem_append_left _ hk)
        · exact kids_lt h hk
      · intro k hk
        rcases List.mem_append.mp hk with hk | hk
        · exact i.r1 k hk
        · rw [List.mem_singleton.mp hk]; exact ⟨hr, hc.2⟩
      · intro k hk
        rcases List.mem_append.mp hk with hk | hk
        · exact i.r2 k (List.mem_append_left _ hk)
        · exact .step hr hf hk
      · intro k hk
        rcases i.base k hk with z | z | z
        · exact .inl (List.mem_append_left _ z)
        · rcases List.mem_append.mp z with z | z
          · exact .inr (.inl (List.mem_append_left _ z))
          · exact .inl (List.mem_append_right _ z)
        · exact .inr (.inr z)
      · intro k hk hfk j hj
        rcases List.mem_append.mp hk with hk | hk
        · rcases i.cl k hk hfk j hj with z | z | z
          · exact .inl (List.mem_append_left _ z)
          · rcases List.mem_append.mp z with z | z
            · exact .inr (.inl (List.mem_append_left _ z))
            · exact .inl (List.mem_append_right _ z)
          · exact .inr (.inr z)
        · rw [List.mem_singleton.mp hk] at hj
          exact .inr (.inl (List.mem_append_right _ hj))
      · unfold nbM
        have := kids_two (g := g) (k := x)
        simp only [List.length_append, List.length_singleton] at *
        omega
    · rw [if_neg hf]
      refine ⟨⟨nd, ?_, fun k hk => i.lt2 k (List.mem_append_left _ hk), ?_, fun k hk => i.r2 k (List.mem_append_left _ hk), ?_, ?_⟩, ?_⟩
      · intro k hk
        rcases List.mem_append.mp hk with hk | hk
        · exact i.lt1 k hk
        · rw [List.mem_singleton.mp hk]; exact hx
      · intro k hk
        rcases List.mem_append.mp hk with hk | hk
        · exact i.r1 k hk
        · rw [List.mem_singleton.mp hk]; exact ⟨hr, hc.2⟩
      · intro k hk
        rcases i.base k hk with z | z | z
        · exact .inl (List.mem_append_left _ z)
        · rcases List.mem_append.mp z with z | z
          · exact .inr (.inl z)
          · exact .inl (List.mem_append_right _ z)
        · exact .inr (.inr z)
      · intro k hk hfk j hj
        rcases List.mem_append.mp hk with hk | hk
        · rcases i.cl k hk hfk j hj with z | z | z
          · exact .inl (List.mem_append_left _ z)
          · rcases List.mem_append.mp z with z | z
            · exact .inr (.inl z)
            · exact .inl (List.mem_append_right _ z)
          · exact .inr (.inr z)
        · rw [List.mem_singleton.mp hk] at hfk
          exact absurd hfk hf
      · unfold nbM
        simp only [List.length_append, List.length_singleton] at *
        omega
  · rw [if_neg hc]
    have hx' : x ∈ f ∨ x = 0 := by
      by_cases hm : x ∈ f
      · exact .inl hm
      · by_cases h0 : x = 0
        · exact .inr h0
        · exact absurd ⟨hm, h0⟩ hc
    refine ⟨⟨i.nd, i.lt1, fun k hk => i.lt2 k (List.mem_append_left _ hk), i.r1, fun k hk => i.r2 k (List.mem_append_left _ hk), ?_, ?_⟩, ?_⟩
    · intro k hk
      rcases i.base k hk with z | z | z
      · exact .inl z
      · rcases List.mem_append.mp z with z | z
        · exact .inr (.inl z)
        · rw [List.mem_singleton.mp z]
          rcases hx' with z | z
          · exact .inl z
          · exact .inr (.inr z)
      · exact .inr (.inr z)
    · intro k hk hfk j hj
      rcases i.cl k hk hfk j hj with z | z | z
      · exact .inl z
      · rcases List.mem_append.mp z with z | z
        · exact .inr (.inl z)
        · rw [List.mem_singleton.mp z]
          rcases hx' with z | z
          · exact .inl z
          · exact .inr (.inr z)
      · exact .inr (.inr z)
    · unfold nbM
      simp only [List.length_append, List.length_singleton]
      omega
theorem nb_reach {g : Gr} {st f : List Nat} (i : NbInv g st (f, [])) {k : Nat} (h : Reach g st k) : k ∈ f ∨ k = 0 := by
  induction h with
  | base hk =>
    rcases i.base _ hk with z | z | z
    · exact .inl z
    · cases z
    · exact .inr z
  | step hr hf hj ih =>
    rcases ih with z | z
    · rcases i.cl _ z hf _ hj with z | z | z
      · exact .inl z
      · cases z
      · exact .inr z
    · subst z
      unfold Gr.first at hf
      omega
theorem nb_end {g : Gr} {st f : List Nat} (i : NbInv g st (f, [])) (k : Nat) : k ∈ f ↔ Reach g st k ∧ k ≠ 0 :=
  ⟨i.r1 k, fun ⟨h, h0⟩ => (nb_reach i h).elim id fun z => absurd z h0⟩
theorem kids_at {g : Gr} {k : Nat} (h : g.first ≤ k) (hk : k < g.first + g.gates.length) : ∃ p, atI (g.gates.map dP) ((k - g.first : Nat) : Int) = some (dP p) ∧ kids g k = [p.1 / 2, p.2 / 2] := by
  have hl : k - g.first < g.gates.length := by omega
  refine ⟨g.gates[k - g.first], ?_, ?_⟩
  · rw [atI_nat, List.getElem?_map, List.getElem?_eq_getElem hl]
    rfl
  · unfold kids
    rw [List.getElem?_eq_getElem hl]
theorem gi0 (g : Gr) : idxD g.enc (.int ((0 : Nat) : Int)) = some (.int g.ins) := rfl
theorem gi1 (g : Gr) : idxD g.enc (.int ((1 : Nat) : Int)) = some (.tuple (g.lat.map dP)) := rfl
theorem gi2 (g : Gr) : idxD g.enc (.int ((2 : Nat) : Int)) = some (.tuple (g.gates.map dP)) := rfl
theorem gi3 (g : Gr) : idxD g.enc (.int ((3 : Nat) : Int)) = some (.tuple (g.outs.map dN)) := rfl
section
variable (n : Nat) (g : Gr) (S : Sto)
end
end Vz.L
set_option Elab.async false
set_option linter.all false
set_option maxRecDepth 100000
set_option maxHeartbeats 4000000
namespace Vz.L
open PySem PySem.Spec L2 Vy
theorem cut_lo (xs : List D) (k : Nat) : cutD xs (some (k : Int)) none = xs.drop k := by
  unfold cutD
  rw [HT.sIx_nat, HT.sIx_none]
  by_cases h : k ≤ xs.length
  · rw [Nat.min_eq_left h, List.take_of_length_le (by rw [List.length_drop]; omega)]
  · rw [Nat.min_eq_right (by omega), List.drop_eq_nil_of_le (Nat.le_refl _), List.drop_eq_nil_of_le (by omega)]
    simp
theorem cut_hi (xs : List D) (k : Nat) : cutD xs none (some (k : Int)) = xs.take k := by
  unfold cutD
  rw [HT.sIx_nat, HT.sIx_none, List.drop_zero, Nat.sub_zero]
  by_cases h : k ≤ xs.length
  · rw [Nat.min_eq_left h]
  · rw [Nat.min_eq_right (by omega), List.take_of_length_le (Nat.le_refl _), List.take_of_length_le (by omega)]
theorem get_end {α : Type} (xs : List α) (a : α) : (xs ++ [a])[xs.length]? = some a := by simp
theorem set_end {α : Type} (xs : List α) (a b : α) : (xs ++ [a]).set xs.length b = xs ++ [b] := by simp
theorem take_end {α : Type} (xs ys : List α) : (xs ++ ys).take xs.length = xs := by simp
theorem letGo_new (S : Sto) (xs : List D) : letGo true S.length (.ref S.length) (S ++ [.lst xs]) = .ok (.nl xs) S := by
  unfold Vy.letGo
  rw [if_pos rfl]
  simp only
  rw [if_neg (by omega), get_end, take_end]
def runStep (g : Gr) (p : List Nat × List (List Nat)) (row : List Nat) : List Nat × List (List Nat) := (laterL g p.1 row, p.2 ++ [outsL g p.1 row])
def runL (g : Gr) (rows : List (List Nat)) : List (List Nat) := (rows.foldl (runStep g) (g.lat.map (·.1), [])).2
def RowsOk (g : Gr) (rows : List (List Nat)) : Prop := ∀ r ∈ rows, r.length = g.ins ∧ ∀ b ∈ r, b < 2
theorem laterL_ok {g : Gr} {state row : List Nat} : (laterL g state row).length = g.lat.length ∧ ∀ b ∈ laterL g state row, b < 2 := by
  refine ⟨by simp [laterL], fun b hb => ?_⟩
  obtain ⟨p, _, rfl⟩ := List.mem_map.mp hb
  exact lit_lt _ _
theorem outsL_len {g : Gr} {state row : List Nat} : (outsL g state row).length = g.outs.length := by simp [outsL]
section
variable (n : Nat) (g : Gr) (S : Sto)
theorem r_law_settled {state row : List Nat} (hg : GOk (1 + row.length + state.length) g.gates) (hs : 1 + row.length + state.length + g.gates.length < sizeLine) :
    run (n + 2) 17 [.p g.enc, .p (.tuple (state.map dN)), .p (.tuple (row.map dN))] S = .ok (.nl ((settledL g state row).map dN)) S := by
  rw [run, runF_eq (fn := i__law_settled) rfl rfl rfl (by decide) rfl]
  have e : (.int (0 : Nat) : D) :: (row.map dN ++ state.map dN) = ([0] ++ row ++ state).map dN := by simp
  have hz : sizeLine = 16777216 := rfl
  rw [hz] at hs
  k_dat (i__law_settled, binR_nl, and_self, and_self) "S"
  rw [e]
  k_dat (gi2, and_self, and_self) "S"
  refine then_of (forL_fold dP (fun _ => [some (.p g.enc), some (.p (.tuple (state.map dN))), some (.p (.tuple (row.map dN))), some (.ref S.length), none, none]) (fun bs => S ++ [.lst (bs.map dN)]) stepG g.gates (fun r bs => GOk bs.length r ∧ bs.length + r.length < 16777216) ([0] ++ row ++ state) ?_ ?_).1 ?_
  · constructor
    · simpa [Nat.add_assoc, Nat.add_comm, Nat.add_left_comm] using hg
    · simp; omega
  · rintro ⟨a, b⟩ r bs ⟨h1, h2⟩
    have h3 := h1.half
    have h4 : bs.length + (r.length + 1) < 16777216 := h2
    have e1 := r_litR n (S ++ [.lst (bs.map dN)]) h3.1 (get_end S (.lst (bs.map dN)))
    have e2 := r_litR n (S ++ [.lst (bs.map dN)]) h3.2 (get_end S (.lst (bs.map dN)))
    simp only [run] at e1 e2
    refine ⟨.inl ?_, ?_⟩
    · k_dat (get_end, e1, e2, mulOk_lit, set_end, and_self, and_self) "S"
      rw [stepG, List.map_append]
      rfl
    · rw [stepG_len]
      exact ⟨h1.2.2, by omega⟩
  · k_dat (letGo_new, settledL, and_self, and_self) "S"
theorem r_law_ends {state row : List Nat} (f : Fits g state row) : run (n + 3) 18 [.p g.enc, .p (.tuple ((row ++ state).map dN))] S = .ok (.p (dB (laterL g state row ++ outsL g state row))) S := by
  rw [run, runF_eq (fn := i__law_ends) rfl rfl rfl (by decide) rfl]
  have h1 := f.ok.ins
  have h2 := f.ok.latN
  have h3 := f.ok.gatN
  have h4 := f.hrow
  have h5 := f.hst
  have h6 := f.ok.outN
  have hz : sizeLine = 16777216 := rfl
  have e1 := r_law_settled n g S (state := state) (row := row) (by rw [f.hrow, f.hst]; exact f.ok.gat) (by omega)
  have e2 := fun l (hl : l < g.top) => r_lit (n + 1) S (f.half hl)
  simp only [run] at e1 e2
  have c1 : ((row ++ state).map dN).drop g.ins = state.map dN := by rw [← h4, List.map_append, List.drop_left' (by simp)]
  have c2 : ((row ++ state).map dN).take g.ins = row.map dN := by rw [← h4, List.map_append, List.take_left' (by simp)]
  k_dat (i__law_ends, gi0, cut_lo, cut_hi, c1, c2, e1, gi1, gi3, and_self, and_self) "S"
  rw [compX_map dP (fun p => dN (lit (settledL g state row) p.2)) g.lat (fun p hp => by
    have h := (f.ok.lat p hp).2
    k_dat (cturn, e2 p.2 h, and_self, and_self) "S") (by unfold sizeLine; omega)]
  k_dat (gi3, and_self, and_self) "S"
  rw [compX_map dN (fun l => dN (lit (settledL g state row) l)) g.outs (fun l hl => by
    have h := f.ok.out l hl
    k_dat (cturn, e2 l h, and_self, and_self) "S") (by unfold sizeLine; omega)]
  k_dat (dB, laterL, outsL, binR_nl, List.map_append, List.map_map, and_self, and_self) "S"
  rfl
end
end Vz.L
set_option Elab.async false
set_option linter.all false
set_option maxRecDepth 100000
set_option maxHeartbeats 4000000
namespace Vz
open PySem PySem.Spec L2 Vy
/-- a comprehension that changes what is beside -/
theorem compX_st {F : FT} {own : List Nat} {elt : E} {tg : Tg} {cond : Oe} {env : Ev} {α β : Type} (enc : α → D) (encB : β → D) (st : Nat → Sto) (w : Nat) (P : β → Prop) (l : List α) (a : Nat)
    (h : ∀ x ∈ l, ∀ a', a' ≤ a + w * l.length → ∃ z, P z ∧ cturn F own elt tg cond env (enc x) (st a') = .ok [encB z] (st (a' + w))) (hl : l.length ≤ sizeLine) :
    ∃ zs : List β, zs.length = l.length ∧ (∀ z ∈ zs, P z) ∧ compX F own elt tg cond env (l.map enc) (st a) = .ok (.nl (zs.map encB)) (st (a + w * l.length)) := by
  have main : ∀ (l : List α) (a M : Nat), a + w * l.length ≤ M → (∀ x ∈ l, ∀ a', a' ≤ M → ∃ z, P z ∧ cturn F own elt tg cond env (enc x) (st a') = .ok [encB z] (st (a' + w))) →
      ∃ zs : List β, zs.length = l.length ∧ (∀ z ∈ zs, P z) ∧ compL (cturn F own elt tg cond env) (l.map enc) (st a) = .ok (zs.map encB) (st (a + w * l.length)) := by
    intro l
    induction l with
    | nil => intro a M _ _; exact ⟨[], rfl, by simp, rfl⟩
    | cons x r ih =>
      intro a M hM h
      rw [List.length_cons, Nat.mul_add, Nat.mul_one] at hM
      obtain ⟨z, hz, e1⟩ := h x List.mem_cons_self a (by omega)
      obtain ⟨zs, h1, h2, h3⟩ := ih (a + w) M (by omega) fun y hy => h y (List.mem_cons_of_mem _ hy)
      refine ⟨z :: zs, by rw [List.length_cons, h1, List.length_cons], ?_, ?_⟩
      · intro y hy
        rcases List.mem_cons.mp hy with e | hy
        · rw [e]; exact hz
        · exact h2 y hy
      · rw [List.map_cons]
        unfold compL
        rw [e1]
        simp only [Res.bind]
        rw [h3]
        simp only [Res.bind, List.map_cons, List.length_cons, List.cons_append, List.nil_append]
        rw [show a + w + w * r.length = a + w * (r.length + 1) by rw [Nat.mul_add, Nat.mul_one]; omega]
  obtain ⟨zs, h1, h2, h3⟩ := main l a _ (Nat.le_refl _) h
  refine ⟨zs, h1, h2, ?_⟩
  unfold compX
  rw [h3]
  show (if _ then _ else _) = _
  rw [if_pos (by rw [List.length_map, h1]; exact hl)]
theorem range_dN (m : Nat) : rangeD 0 (m : Int) = (List.range m).map dN := by
  unfold rangeD
  rw [show ((m : Int) - 0).toNat = m by omega]
  refine List.map_congr_left fun i _ => ?_
  show PyData.int (0 + (i : Int)) = .int (i : Int)
  rw [Int.zero_add]
theorem range_dN0 (m : Nat) : rangeD ((0 : Nat) : Int) (m : Int) = (List.range m).map dN := range_dN m
end Vz
namespace Vz.L
open PySem PySem.Spec L2 Vy
/-- the box of digits, so many drawn -/
abbrev bx (ds : List Nat) (at_ : Nat) : Cell := .lst [.list (ds.map dN), .int (at_ : Int)]
def draw (ds : List Nat) (at_ many : Nat) : Nat := if at_ < ds.length then ds.getD at_ 0 % many else (at_ * at_ * 3 + at_ * 4 + at_ / 3 + 1) % many
theorem draw_lt (ds : List Nat) (a : Nat) {m : Nat} (h : 0 < m) : draw ds a m < m := by
  unfold draw
  split <;> exact Nat.mod_lt _ h
section
variable (n : Nat) (ds : List Nat) (S : Sto)
theorem r_draw {a m : Nat} (ha : a < 1000000) (hm : 0 < m) : run (n + 1) 12 [.ref 0, .p (.int m)] (bx ds a :: S) = .ok (.p (.int (draw ds a m))) (bx ds (a + 1) :: S) := by
  rw [run, runF_eq (fn := i__law_draw) rfl rfl rfl (by decide) rfl]
  have e0 : (bx ds a :: S).length = (bx ds (a + 1) :: S).length := rfl
  rw [e0]
  by_cases h : a < ds.length
  · have e1 : draw ds a m = ds.getD a 0 % m := if_pos h
    k_dat (i__law_draw, ixN_nat, h, e1, lit_at, List.length_map, and_self, and_self) "S"
  · have e1 : draw ds a m = (a * a * 3 + a * 4 + a / 3 + 1) % m := if_neg h
    k_dat (i__law_draw, ixN_nat, h, e1, lit_at, List.length_map, and_self, and_self) "S"
theorem r_pick {xs : List D} {a : Nat} (ha : a < 1000000) (hm : 0 < xs.length) : ∃ x ∈ xs, run (n + 2) 13 [.ref 0, .p (.list xs)] (bx ds a :: S) = .ok (.p x) (bx ds (a + 1) :: S) := by
  have h1 := draw_lt ds a hm
  refine ⟨xs[draw ds a xs.length], List.getElem_mem h1, ?_⟩
  rw [run, runF_eq (fn := i__law_pick) rfl rfl rfl (by decide) rfl]
  have e0 : (bx ds a :: S).length = (bx ds (a + 1) :: S).length := rfl
  rw [e0]
  have e1 := r_draw n ds S ha hm
  simp only [run] at e1
  k_dat (i__law_pick, e1, atI_nat, List.getElem?_eq_getElem h1, and_self, and_self) "S"
theorem r_same {S : Sto} {k w : Nat} {xs : List D} (h : SD k w (.tuple xs)) (hk : k ≤ 60) (hw : w ≤ 16777216) : run (n + 1) 14 [.p (.tuple xs), .p (.tuple xs)] S = .ok (.p (.bool true)) S := by
  rw [run, runF_eq (fn := i__law_same) rfl rfl rfl (by decide) rfl]
  have e1 := same_repr (S := S) h hk hw
  have e2 : cmpD .Eq (.str (PyData.tuple xs).shown) (.str (PyData.tuple xs).shown) = some true := by
    rw [cmpD_eq, if_pos ⟨shaped_str _ h.so, shaped_str _ h.so⟩]
    simp [PyData.eqv]
  simp only [i__law_same, exSS_cons, exS_ret, evE_cmp, evE_bi, evEs_cons, evEs_nil, evE_var, varR_p, List.getElem?_cons_zero, List.getElem?_cons_succ, bk_ok, evCs_one, e1, opt_some, cmpR_p, e2, stk_ok, retR_p, optK_some, then_ret, fin_ret, letGo_p, take_len, List.cons_append, List.nil_append]
theorem r_drawn_bits {a m : Nat} (ha : a + m < 1000000) : ∃ bs : List Nat, bs.length = m ∧ (∀ b ∈ bs, b < 2) ∧ run (n + 2) 21 [.ref 0, .p (.int m)] (bx ds a :: S) = .ok (.p (dB bs)) (bx ds (a + m) :: S) := by
  obtain ⟨bs, h1, h2, h3⟩ := compX_st (F := ⟨runF FP CS lim (n + 1), CS⟩) (own := [2]) (elt := .call 12 (.cons (.var 0) (.cons (.nat 2) .nil))) (tg := .nm 2) (cond := .no) (env := [some (.ref 0), some (.p (.int m)), none]) dN dN (fun a => bx ds a :: S) 1 (· < 2) (List.range m) a (fun x hx a' ha' => by
    rw [List.length_range] at ha'
    have e1 := r_draw n ds S (a := a') (m := 2) (by omega) (by decide)
    simp only [run] at e1
    refine ⟨draw ds a' 2, draw_lt ds a' (by decide), ?_⟩
    k_dat (cturn, e1, and_self, and_self) "S") (by rw [List.length_range]; unfold sizeLine; omega)
  rw [List.length_range] at h1 h3
  refine ⟨bs, h1, h2, ?_⟩
  rw [run, runF_eq (fn := i__law_drawn_bits) rfl rfl rfl (by decide) rfl]
  have e0 : (bx ds a :: S).length = (bx ds (a + m) :: S).length := rfl
  rw [e0]
  k_dat (i__law_drawn_bits, range_dN, h3, Nat.one_mul, dB, and_self, and_self) "S"
end
end Vz.L
set_option Elab.async false
set_option linter.all false
set_option maxRecDepth 100000
set_option maxHeartbeats 4000000
namespace Vz.L
open PySem PySem.Spec L2 Vy
abbrev digRest : SS := (.cons (.ifs (.cmp (.var 5) (.cons .GtE (.nat 1000000000000000000) .nil)) (.cons (.forr (.nm 6) .rng1 (.cons (.nat 60) .nil) (.cons (.ifs (.cmp (.var 5) (.cons .Gt (.nat 0) .nil)) (.cons (.app 3 (.bin .Mod (.bi .int_ (.cons (.var 5) .nil)) (.nat 1009))) (.cons (.asg 5 (.bin .FloorDiv (.var 5) (.nat 1009))) .nil)) .nil) (.cons (.fgt [6]) .nil))) .nil) (.cons (.asg 7 (.bin .Mod (.bi .int_ (.cons (.bin .Add (.bin .Add (.bin .Mult (.var 5) (.nat 40699)) (.bin .Mult (.var 4) (.nat 52769))) (.nat 31)) .nil)) (.nat 2147483399))) (.cons (.forr (.nm 6) .rng1 (.cons (.nat 12) .nil) (.cons (.asg 7 (.bin .Mod (.bi .int_ (.cons (.bin .Add (.bin .Add (.bin .Mult (.var 7) (.nat 40014)) (.bin .Mult (.nat 11) (.var 6))) (.nat 7)) .nil)) (.nat 2147483563))) (.cons (.app 3 (.bin .Mod (.bi .int_ (.cons (.bin .FloorDiv (.var 7) (.nat 1013)) .nil)) (.nat 1009))) (.cons (.fgt [6]) .nil)))) .nil))) (.cons (.fgt [4, 5, 7]) .nil))
section
variable (F : FT) (S : Sto)
theorem dig_rest (sc f l : D) (ds : List Nat) (k c : Nat) (hl : ds.length ≤ 10000) : ∃ ds' : List Nat, ds'.length ≤ ds.length + 60 ∧
    exSS F lim digRest [some (.p sc), some (.p f), some (.p l), some (.own (.lst (ds.map dN))), some (.p (.int k)), some (.p (.int c)), none, none] S = .next [some (.p sc), some (.p f), some (.p l), some (.own (.lst (ds'.map dN))), none, none, none, none] S := by
  by_cases hc : 1000000000000000000 ≤ c
  · k_dat (hc, range_dN, and_self, and_self) "S"
    obtain ⟨env', S', h1, ⟨ds', c', h2, h3, h4⟩⟩ := forL_inv (b := bodyF F lim (.nm 6) (.cons (.ifs (.cmp (.var 5) (.cons .Gt (.nat 0) .nil)) (.cons (.app 3 (.bin .Mod (.bi .int_ (.cons (.var 5) .nil)) (.nat 1009))) (.cons (.asg 5 (.bin .FloorDiv (.var 5) (.nat 1009))) .nil)) .nil) (.cons (.fgt [6]) .nil))) dN (List.range 60)
      (fun r env S' => ∃ (ds' : List Nat) (c' : Nat), ds'.length + r.length ≤ ds.length + 60 ∧ env = [some (.p sc), some (.p f), some (.p l), some (.own (.lst (ds'.map dN))), some (.p (.int k)), some (.p (.int c')), none, none] ∧ S' = S)
      [some (.p sc), some (.p f), some (.p l), some (.own (.lst (ds.map dN))), some (.p (.int k)), some (.p (.int c)), none, none] S ⟨ds, c, by rw [List.length_range]; exact Nat.le_refl _, rfl, rfl⟩ (by
      rintro x r env S' ⟨ds', c', k1, rfl, rfl⟩
      rw [List.length_cons] at k1
      by_cases h0 : 0 < c'
      · refine ⟨_, _, .inl ?_, ds' ++ [c' % 1009], c' / 1009, by simp only [List.length_append, List.length_singleton]; omega, rfl, rfl⟩
        k_dat (h0, List.map_append, and_self, and_self) "S"
        rfl
      · refine ⟨_, _, .inl ?_, ds', c', by omega, rfl, rfl⟩
        k_dat (h0, and_self, and_self) "S")
    subst h3 h4
    refine ⟨ds', by simpa using h2, ?_⟩
    refine then_of' (then_of' h1 rfl) ?_
    k_dat (hc, and_self, and_self) "S"
  · k_dat (hc, range_dN, and_self, and_self) "S"
    obtain ⟨env', S', h1, ⟨ds', c', h2, h3, h4⟩⟩ := forL_inv (b := bodyF F lim (.nm 6) (.cons (.asg 7 (.bin .Mod (.bi .int_ (.cons (.bin .Add (.bin .Add (.bin .Mult (.var 7) (.nat 40014)) (.bin .Mult (.nat 11) (.var 6))) (.nat 7)) .nil)) (.nat 2147483563))) (.cons (.app 3 (.bin .Mod (.bi .int_ (.cons (.bin .FloorDiv (.var 7) (.nat 1013)) .nil)) (.nat 1009))) (.cons (.fgt [6]) .nil)))) dN (List.range 12)
      (fun r env S' => ∃ (ds' : List Nat) (c' : Nat), ds'.length + r.length ≤ ds.length + 60 ∧ env = [some (.p sc), some (.p f), some (.p l), some (.own (.lst (ds'.map dN))), some (.p (.int k)), some (.p (.int c)), none, some (.p (.int c'))] ∧ S' = S)
      [some (.p sc), some (.p f), some (.p l), some (.own (.lst (ds.map dN))), some (.p (.int k)), some (.p (.int c)), none, some (.p (.int ((c * 40699 + k * 52769 + 31) % 2147483399 : Nat)))] S ⟨ds, _, by rw [List.length_range]; omega, rfl, rfl⟩ (by
      rintro x r env S' ⟨ds', c', k1, rfl, rfl⟩
      rw [List.length_cons] at k1
      refine ⟨_, _, .inl ?_, ds' ++ [(c' * 40014 + 11 * x + 7) % 2147483563 / 1013 % 1009], (c' * 40014 + 11 * x + 7) % 2147483563, by simp only [List.length_append, List.length_singleton]; omega, rfl, rfl⟩
      k_dat (List.map_append, and_self, and_self) "S"
      rfl)
    subst h3 h4
    refine ⟨ds', by simpa using h2, ?_⟩
    refine then_of' (then_of' h1 rfl) ?_
    k_dat (hc, and_self, and_self) "S"
end
section
variable (n : Nat) (S : Sto)
theorem int_at {xs : List Int} {k : Nat} (h : k < xs.length) : atI (xs.map PyData.int) (k : Int) = some (.int (xs.getD k 0)) := by
  rw [atI_nat, List.getElem?_map, List.getElem?_eq_getElem h]
  simp [List.getD_eq_getElem?_getD, List.getElem?_eq_getElem h]
theorem r_digits (xs : List Int) (hx : xs.length ≤ 63) : ∃ ds : List Nat, ds.length ≤ 3780 ∧ run (n + 1) 11 [.p (.list (xs.map .int)), .p (.int (0 : Nat)), .p (.int (63 : Nat))] S = .ok (.nl (ds.map dN)) S := by
  obtain ⟨env', S', h1, ⟨ds, h2, h3, h4⟩⟩ := forL_inv (b := bodyF ⟨runF FP CS lim n, CS⟩ lim (.nm 4) (.cons (.asg 5 (.ite (.cmp (.var 4) (.cons .Lt (.bi .len (.cons (.var 0) .nil)) .nil)) (.idx (.var 0) (.var 4)) (.nat 0))) (.cons (.ifs (.cmp (.var 5) (.cons .Lt (.nat 0) .nil)) (.cons (.asg 5 (.bin .Sub (.nat 1) (.bin .Mult (.nat 2) (.var 5)))) .nil) .nil) digRest))) dN (List.range 63)
    (fun r env S' => ∃ (ds : List Nat), ds.length + 60 * r.length ≤ 3780 ∧ env = [some (.p (.list (xs.map .int))), some (.p (.int (0 : Nat))), some (.p (.int (63 : Nat))), some (.own (.lst (ds.map dN))), none, none, none, none] ∧ S' = S)
    [some (.p (.list (xs.map .int))), some (.p (.int (0 : Nat))), some (.p (.int (63 : Nat))), some (.own (.lst [])), none, none, none, none] S ⟨[], by rw [List.length_range]; decide, rfl, rfl⟩ (by
    rintro k r env S' ⟨ds, k1, rfl, rfl⟩
    rw [List.length_cons] at k1
    have key : ∃ c : Nat, exSS ⟨runF FP CS lim n, CS⟩ lim (.cons (.asg 5 (.ite (.cmp (.var 4) (.cons .Lt (.bi .len (.cons (.var 0) .nil)) .nil)) (.idx (.var 0) (.var 4)) (.nat 0))) (.cons (.ifs (.cmp (.var 5) (.cons .Lt (.nat 0) .nil)) (.cons (.asg 5 (.bin .Sub (.nat 1) (.bin .Mult (.nat 2) (.var 5)))) .nil) .nil) digRest)) [some (.p (.list (xs.map .int))), some (.p (.int (0 : Nat))), some (.p (.int (63 : Nat))), some (.own (.lst (ds.map dN))), some (.p (.int k)), none, none, none] S' =
        exSS ⟨runF FP CS lim n, CS⟩ lim digRest [some (.p (.list (xs.map .int))), some (.p (.int (0 : Nat))), some (.p (.int (63 : Nat))), some (.own (.lst (ds.map dN))), some (.p (.int k)), some (.p (.int c)), none, none] S' := by
      have m2 : ∀ b : Int, mulOk ((2 : Nat) : Int) b = true := fun b => mulOkN (by decide)
      by_cases hk : k < xs.length
      · by_cases hn : xs.getD k 0 < ((0 : Nat) : Int)
        · refine ⟨(((1 : Nat) : Int) - ((2 : Nat) : Int) * xs.getD k 0).toNat, ?_⟩
          have e : (((((1 : Nat) : Int) - ((2 : Nat) : Int) * xs.getD k 0).toNat : Nat) : Int) = ((1 : Nat) : Int) - ((2 : Nat) : Int) * xs.getD k 0 := by omega
          simp -implicitDefEqProofs only [exSS_cons (s := .asg _ _), exSS_cons (s := .ifs _ _ _), exSS_nil, exS_asg, exS_ifs, evE_ite, evE_cmp, evE_var, evE_bi, evE_nat, evE_idx, evE_bin, evEs_cons, evEs_nil, evCs_one, varR_p, List.getElem?_cons_zero, List.getElem?_cons_succ, List.set_cons_zero, List.set_cons_succ, bk_ok, stk_ok, bi_len, dat_p, opt_some, cmpR_p, cmpD_lt, List.length_map, ltN, hk, hn, decide_true, truR_p, truD_bool, ↓reduceIte, idxR_p, idxD_lst, int_at hk, Option.map_some, slot_p, optK_some, then_next, binR_mul, binR_sub, binR_add, binD_mul, binD_sub, m2, e]
        · refine ⟨(xs.getD k 0).toNat, ?_⟩
          have e : (((xs.getD k 0).toNat : Nat) : Int) = xs.getD k 0 := by omega
          simp -implicitDefEqProofs only [exSS_cons (s := .asg _ _), exSS_cons (s := .ifs _ _ _), exSS_nil, exS_asg, exS_ifs, evE_ite, evE_cmp, evE_var, evE_bi, evE_nat, evE_idx, evE_bin, evEs_cons, evEs_nil, evCs_one, varR_p, List.getElem?_cons_zero, List.getElem?_cons_succ, List.set_cons_zero, List.set_cons_succ, bk_ok, stk_ok, bi_len, dat_p, opt_some, cmpR_p, cmpD_lt, List.length_map, ltN, hk, hn, decide_true, decide_false, Bool.false_eq_true, truR_p, truD_bool, ↓reduceIte, idxR_p, idxD_lst, int_at hk, Option.map_some, slot_p, optK_some, then_next, e]
      · refine ⟨0, ?_⟩
        simp -implicitDefEqProofs only [exSS_cons (s := .asg _ _), exSS_cons (s := .ifs _ _ _), exSS_nil, exS_asg, exS_ifs, evE_ite, evE_cmp, evE_var, evE_bi, evE_nat, evE_idx, evE_bin, evEs_cons, evEs_nil, evCs_one, varR_p, List.getElem?_cons_zero, List.getElem?_cons_succ, List.set_cons_zero, List.set_cons_succ, bk_ok, stk_ok, bi_len, dat_p, opt_some, cmpR_p, cmpD_lt, List.length_map, ltN, hk, Nat.lt_irrefl, decide_true, decide_false, Bool.false_eq_true, truR_p, truD_bool, ↓reduceIte, slot_p, optK_some, then_next]
    obtain ⟨c, hc⟩ := key
    obtain ⟨ds', h2, h3⟩ := dig_rest ⟨runF FP CS lim n, CS⟩ S' (.list (xs.map .int)) (.int (0 : Nat)) (.int (63 : Nat)) ds k c (by omega)
    refine ⟨_, _, .inl ?_, ds', by omega, rfl, rfl⟩
    rw [← h3, ← hc, bodyF_eq, tgSet_nm, optK_some, List.set_cons_succ, List.set_cons_succ, List.set_cons_succ, List.set_cons_succ, List.set_cons_zero])
  subst h3 h4
  refine ⟨ds, by simpa using h2, ?_⟩
  rw [run, runF_eq (fn := i__law_digits) rfl rfl rfl (by decide) rfl]
  have er : rangeD ((0 : Nat) : Int) ((63 : Nat) : Int) = (List.range 63).map dN := range_dN0 63
  k_dat (i__law_digits, er, and_self, and_self) "S"
  refine then_of h1 ?_
  k_dat (er, and_self, and_self) "S"
end
end Vz.L
set_option Elab.async false
set_option linter.all false
set_option maxRecDepth 100000
set_option maxHeartbeats 4000000
namespace Vz.L
open PySem PySem.Spec L2 Vy
theorem gok_app : ∀ (l : List (Nat × Nat)) (k : Nat) (p : Nat × Nat), GOk k l → p.2 ≤ p.1 → p.1 < 2 * (k + l.length) → GOk k (l ++ [p])
  | [], k, p, _, h1, h2 => ⟨h1, by simpa using h2, trivial⟩
  | q :: r, k, p, h, h1, h2 => ⟨h.1, h.2.1, gok_app r (k + 1) p h.2.2 h1 (by rw [List.length_cons] at h2; omega)⟩
section
variable (n : Nat) (ds : List Nat) (S : Sto)
end
end Vz.L
set_option Elab.async false
set_option linter.all false
set_option maxRecDepth 100000
set_option maxHeartbeats 4000000
namespace Vz.L
open PySem PySem.Spec L2 Vy
/-! ### makers: plain -/
def opp (l : Nat) : Nat := if l % 2 = 0 then l + 1 else l - 1
def once (a b : Nat) : Option Nat := if a = 0 ∨ b = 0 ∨ a = opp b then some 0 else if a = 1 ∨ a = b then some b else if b = 1 then some a else none
def dO : Option Nat → D
  | some l => dN l
  | none => .none
structure Mk where
  ins : Nat
  fst : List Nat
  gates : List (Nat × Nat)
def Mk.first (m : Mk) : Nat := 1 + m.ins + m.fst.length
def Mk.top (m : Mk) : Nat := 2 * (m.first + m.gates.length)
def fnd (p : Nat × Nat) : Nat → List (Nat × Nat) → Option Nat
  | _, [] => none
  | f, q :: r => if q = p then some (2 * f) else fnd p (f + 1) r
def Mk.both (m : Mk) (a b : Nat) : Nat × Mk := match once a b with
  | some l => (l, m)
  | none => match fnd (max a b, min a b) m.first m.gates with
    | some l => (l, m)
    | none => (m.top, { m with gates := m.gates ++ [(max a b, min a b)] })
def Mk.either (m : Mk) (a b : Nat) : Nat × Mk := (opp (m.both (opp a) (opp b)).1, (m.both (opp a) (opp b)).2)
def Mk.just (m : Mk) (a b : Nat) : Nat × Mk :=
  ((m.both a b).2.both (opp a) (opp b)).2.both (opp (m.both a b).1) (opp ((m.both a b).2.both (opp a) (opp b)).1)
def Mk.picked (m : Mk) (w a b : Nat) : Nat × Mk := ((m.both w a).2.both (opp w) b).2.either (m.both w a).1 ((m.both w a).2.both (opp w) b).1
def Mk.allStep (s : Nat × Mk) (l : Nat) : Nat × Mk := s.2.both s.1 l
def Mk.all (m : Mk) (ls : List Nat) : Nat × Mk := ls.foldl Mk.allStep (1, m)
structure Mk.Ok (m : Mk) : Prop where
  ins : m.ins ≤ 16
  fstN : m.fst.length ≤ 16
  fstB : ∀ b ∈ m.fst, b < 2
  gat : GOk m.first m.gates
  nd : m.gates.Nodup
  on : ∀ p ∈ m.gates, once p.1 p.2 = none
/-- grown -/
structure Mk.Le (m m' : Mk) : Prop where
  ins : m'.ins = m.ins
  fst : m'.fst = m.fst
  gat : ∃ t, m'.gates = m.gates ++ t
theorem Mk.Le.refl (m : Mk) : m.Le m := ⟨rfl, rfl, [], by simp⟩
theorem Mk.Le.trans {a b c : Mk} (h : a.Le b) (k : b.Le c) : a.Le c := by
  obtain ⟨h1, h2, t, h3⟩ := h
  obtain ⟨k1, k2, u, k3⟩ := k
  exact ⟨k1.trans h1, k2.trans h2, t ++ u, by rw [k3, h3, List.append_assoc]⟩
theorem Mk.Le.first {m m' : Mk} (h : m.Le m') : m'.first = m.first := by unfold Mk.first; rw [h.ins, h.fst]
theorem Mk.Le.len {m m' : Mk} (h : m.Le m') : m.gates.length ≤ m'.gates.length := by
  obtain ⟨t, e⟩ := h.gat
  rw [e, List.length_append]
  omega
theorem Mk.Le.top {m m' : Mk} (h : m.Le m') : m.top ≤ m'.top := by
  have := h.len
  unfold Mk.top
  rw [h.first]
  omega
/-- the bits of all variables -/
def Mk.vals (m : Mk) (row : List Nat) : List Nat := m.gates.foldl stepG (0 :: row)
theorem foldG_pre : ∀ (l : List (Nat × Nat)) (bs : List Nat), ∃ t, l.foldl stepG bs = bs ++ t
  | [], bs => ⟨[], by simp⟩
  | p :: r, bs => by
    obtain ⟨t, e⟩ := foldG_pre r (stepG bs p)
    exact ⟨[lit bs p.1 * lit bs p.2] ++ t, by rw [List.foldl_cons, e, stepG, List.append_assoc]⟩
theorem lit_pre {bs t : List Nat} {l : Nat} (h : l / 2 < bs.length) : lit (bs ++ t) l = lit bs l := by
  unfold lit
  rw [List.getD_eq_getElem?_getD, List.getElem?_append_left h, ← List.getD_eq_getElem?_getD]
theorem Mk.vals_len (m : Mk) (row : List Nat) : (m.vals row).length = 1 + row.length + m.gates.length := by
  rw [Mk.vals, foldG_len, List.length_cons]
  omega
theorem Mk.Le.vals {m m' : Mk} (h : m.Le m') (row : List Nat) : ∃ t, m'.vals row = m.vals row ++ t := by
  obtain ⟨t, e⟩ := h.gat
  unfold Mk.vals
  rw [e, List.foldl_append]
  exact foldG_pre t _
def Mk.lit (m : Mk) (row : List Nat) (l : Nat) : Nat := L.lit (m.vals row) l
theorem Mk.Le.lit {m m' : Mk} (h : m.Le m') {row : List Nat} (hr : row.length + 1 = m.first) {l : Nat} (hl : l < m.top) : m'.lit row l = m.lit row l := by
  obtain ⟨t, e⟩ := h.vals row
  unfold Mk.lit
  rw [e]
  refine lit_pre ?_
  rw [m.vals_len]
  unfold Mk.top at hl
  omega
theorem lit_two (bs : List Nat) (l : Nat) : lit bs l = 0 ∨ lit bs l = 1 := by
  have := lit_lt bs l
  omega
theorem opp_half (l : Nat) : opp l / 2 = l / 2 := by
  unfold opp
  split <;> omega
theorem opp_opp (l : Nat) : opp (opp l) = l := by
  unfold opp
  split
  · rw [if_neg (by omega)]; omega
  · rw [if_pos (by omega)]; omega
theorem opp_ne (l : Nat) : opp l ≠ l := by
  unfold opp
  split <;> omega
theorem opp_lt {l k : Nat} (h : l < 2 * k) : opp l < 2 * k := by
  unfold opp
  split <;> omega
theorem lit_opp (bs : List Nat) (l : Nat) : lit bs (opp l) = 1 - lit bs l := by
  unfold lit
  rw [opp_half]
  unfold opp
  split <;> omega
theorem Mk.vals_zero (m : Mk) (row : List Nat) : ∃ t, m.vals row = 0 :: t := by
  obtain ⟨t, e⟩ := foldG_pre m.gates (0 :: row)
  exact ⟨row ++ t, by unfold Mk.vals; rw [e]; rfl⟩
theorem Mk.lit_zero (m : Mk) (row : List Nat) : m.lit row 0 = 0 := by
  obtain ⟨t, e⟩ := m.vals_zero row
  unfold Mk.lit L.lit
  rw [e]
  simp
theorem Mk.lit_one (m : Mk) (row : List Nat) : m.lit row 1 = 1 := by
  have := m.lit_zero row
  have h := lit_opp (m.vals row) 0
  unfold Mk.lit at *
  rw [this] at h
  exact h
theorem Mk.lit_opp (m : Mk) (row : List Nat) (l : Nat) : m.lit row (opp l) = 1 - m.lit row l := L.lit_opp _ l
theorem Mk.once_ok (m : Mk) (row : List Nat) {a b l : Nat} (h : once a b = some l) : m.lit row l = m.lit row a * m.lit row b := by
  have h0 := m.lit_zero row
  have h1 := m.lit_one row
  have la := lit_two (m.vals row) a
  have lb := lit_two (m.vals row) b
  have ho := m.lit_opp row b
  unfold Mk.lit at *
  unfold once at h
  split at h
  · rename_i hc
    cases h
    rw [h0]
    rcases hc with rfl | rfl | rfl
    · rw [h0, Nat.zero_mul]
    · rw [h0, Nat.mul_zero]
    · rw [ho]
      rcases lb with e | e <;> rw [e]
  · split at h
    · rename_i hc
      cases h
      rcases hc with rfl | rfl
      · rw [h1, Nat.one_mul]
      · rcases la with e | e <;> rw [e]
    · split at h
      · rename_i hc
        cases h
        subst hc
        rw [h1, Nat.mul_one]
      · cases h
theorem once_lt {a b l k : Nat} (h : once a b = some l) (ha : a < 2 * k) (hb : b < 2 * k) : l < 2 * k := by
  unfold once at h
  split at h
  · cases h; omega
  · split at h
    · cases h; exact hb
    · split at h
      · cases h; exact ha
      · cases h
theorem once_comm (a b : Nat) (h : once a b = none) : once (max a b) (min a b) = none := by
  unfold once at h ⊢
  split at h
  · cases h
  · rename_i h1
    split at h
    · cases h
    · rename_i h2
      split at h
      · cases h
      · rename_i h3
        have e1 : ¬ (max a b = 0 ∨ min a b = 0 ∨ max a b = opp (min a b)) := by
          rintro (z | z | z)
          · omega
          · omega
          · by_cases hab : a ≤ b
            · rw [Nat.max_eq_right hab, Nat.min_eq_left hab] at z
              exact h1 (.inr (.inr (by rw [z, opp_opp])))
            · rw [Nat.max_eq_left (by omega), Nat.min_eq_right (by omega)] at z
              exact h1 (.inr (.inr z))
        rw [if_neg e1, if_neg (by omega), if_neg (by omega)]
theorem fnd_some {p : Nat × Nat} : ∀ {g : List (Nat × Nat)} {f l : Nat}, fnd p f g = some l → ∃ i, g[i]? = some p ∧ l = 2 * (f + i)
  | [], f, l, h => by cases h
  | q :: r, f, l, h => by
    unfold fnd at h
    split at h
    · rename_i e
      cases h
      exact ⟨0, by simp [e], rfl⟩
    · obtain ⟨i, e1, e2⟩ := fnd_some h
      exact ⟨i + 1, by simpa using e1, by omega⟩
theorem fnd_none {p : Nat × Nat} : ∀ {g : List (Nat × Nat)} {f : Nat}, fnd p f g = none → p ∉ g
  | [], f, h => by simp
  | q :: r, f, h => by
    unfold fnd at h
    split at h
    · cases h
    · rename_i e
      have := fnd_none h
      simp only [List.mem_cons, not_or]
      exact ⟨fun z => e z.symm, this⟩
theorem fnd_app {p : Nat × Nat} : ∀ {g : List (Nat × Nat)} {f : Nat}, fnd p f g = none → fnd p f (g ++ [p]) = some (2 * (f + g.length))
  | [], f, h => by simp [fnd]
  | q :: r, f, h => by
    unfold fnd at h
    split at h
    · cases h
    · rename_i e
      show fnd p f (q :: (r ++ [p])) = _
      unfold fnd
      rw [if_neg e, fnd_app h, List.length_cons]
      congr 1
      omega
/-- gates tell what their literals tell -/
theorem foldG_at : ∀ (l : List (Nat × Nat)) (bs : List Nat) (i : Nat) (p : Nat × Nat), GOk bs.length l → l[i]? = some p → lit (l.foldl stepG bs) (2 * (bs.length + i)) = lit (l.foldl stepG bs) p.1 * lit (l.foldl stepG bs) p.2
  | [], bs, i, p, _, h => by simp at h
  | q :: r, bs, 0, p, g, h => by
    simp at h
    subst h
    rw [List.foldl_cons]
    obtain ⟨t, e⟩ := foldG_pre r (stepG bs q)
    rw [e]
    have h1 := g.1
    have h2 := g.2.1
    have l0 := stepG_len bs q
    rw [lit_pre (by rw [l0]; omega), lit_pre (by rw [l0]; omega), lit_pre (by rw [l0]; omega)]
    unfold stepG
    rw [lit_pre (l := q.1) (by omega), lit_pre (l := q.2) (by omega)]
    have key : ∀ v : Nat, v = 0 ∨ v = 1 → lit (bs ++ [v]) (2 * (bs.length + 0)) = v := fun v hv => by
      unfold lit
      rw [show (2 * (bs.length + 0)) / 2 = bs.length by omega, show (bs ++ [v]).getD bs.length 0 = v by rw [List.getD_eq_getElem?_getD]; simp]
      omega
    refine key _ ?_
    rcases lit_two bs q.1 with a1 | a1 <;> rcases lit_two bs q.2 with a2 | a2 <;> rw [a1, a2] <;> simp
  | q :: r, bs, i + 1, p, g, h => by
    rw [List.foldl_cons]
    have l0 := stepG_len bs q
    have := foldG_at r (stepG bs q) i p (by rw [l0]; exact g.2.2) (by simpa using h)
    rw [l0] at this
    rw [show bs.length + (i + 1) = bs.length + 1 + i by omega]
    exact this
theorem Mk.Ok.sz {m : Mk} (h : m.Ok) : 1 ≤ m.first ∧ m.first ≤ 33 := by
  have := h.ins
  have := h.fstN
  unfold Mk.first
  omega
theorem Mk.Ok.gate {m : Mk} (h : m.Ok) {row : List Nat} (hr : row.length + 1 = m.first) {i : Nat} {p : Nat × Nat} (hp : m.gates[i]? = some p) : m.lit row (2 * (m.first + i)) = m.lit row p.1 * m.lit row p.2 := by
  have := foldG_at m.gates (0 :: row) i p (by rw [List.length_cons, hr]; exact h.gat) hp
  rw [List.length_cons, hr] at this
  exact this
/-- what both gives -/
structure BothOk (m : Mk) (a b : Nat) (r : Nat × Mk) : Prop where
  ok : r.2.Ok
  le : m.Le r.2
  lt : r.1 < r.2.top
  len : r.2.gates.length ≤ m.gates.length + 1
  sem : ∀ row : List Nat, row.length + 1 = m.first → r.2.lit row r.1 = m.lit row a * m.lit row b
theorem Mk.Ok.both {m : Mk} (h : m.Ok) {a b : Nat} (ha : a < m.top) (hb : b < m.top) : BothOk m a b (m.both a b) := by
  unfold Mk.both
  cases ho : once a b with
  | some l => exact ⟨h, .refl m, once_lt ho ha hb, Nat.le_succ _, fun row _ => m.once_ok row ho⟩
  | none =>
    simp only
    have hcm : ∀ row, m.lit row (max a b) * m.lit row (min a b) = m.lit row a * m.lit row b := fun row => by
      by_cases hab : a ≤ b
      · rw [Nat.max_eq_right hab, Nat.min_eq_left hab, Nat.mul_comm]
      · rw [Nat.max_eq_left (by omega), Nat.min_eq_right (by omega)]
    cases hf : fnd (max a b, min a b) m.first m.gates with
    | some l =>
      obtain ⟨i, e1, e2⟩ := fnd_some hf
      refine ⟨h, .refl m, ?_, Nat.le_succ _, fun row hr => ?_⟩
      · have := (List.getElem?_eq_some_iff.mp e1).1
        show l < m.top
        unfold Mk.top
        omega
      · show m.lit row l = _
        rw [e2, h.gate hr e1]
        exact hcm row
    | none =>
      have le : m.Le { m with gates := m.gates ++ [(max a b, min a b)] } := ⟨rfl, rfl, _, rfl⟩
      have gok : GOk m.first (m.gates ++ [(max a b, min a b)]) := gok_app _ _ _ h.gat (by simp only; omega) (by simp only; unfold Mk.top at ha hb; omega)
      have ok : Mk.Ok { m with gates := m.gates ++ [(max a b, min a b)] } := ⟨h.ins, h.fstN, h.fstB, gok, by
        rw [List.nodup_append]
        refine ⟨h.nd, by simp, fun x hx y hy => ?_⟩
        rw [List.mem_singleton.mp hy]
        rintro rfl
        exact fnd_none hf hx, fun p hp => by
        rcases List.mem_append.mp hp with hp | hp
        · exact h.on p hp
        · rw [List.mem_singleton.mp hp]
          exact once_comm a b ho⟩
      refine ⟨ok, le, ?_, by simp, fun row hr => ?_⟩
      · unfold Mk.top Mk.first
        simp
      · have e1 : ({ m with gates := m.gates ++ [(max a b, min a b)] } : Mk).gates[m.gates.length]? = some (max a b, min a b) := by simp
        have := ok.gate (row := row) hr e1
        refine Eq.trans ?_ (this.trans ?_)
        · rfl
        · have h1 := le.lit hr (l := max a b) (by omega)
          have h2 := le.lit hr (l := min a b) (by omega)
          rw [h1, h2]
          exact hcm row
end Vz.L
set_option Elab.async false
set_option linter.all false
set_option maxRecDepth 100000
set_option maxHeartbeats 4000000
namespace Vz.L
open PySem PySem.Spec L2 Vy
/-! ### makers: runs -/
/-- the dict of gates met -/
def seenL : Nat → List (Nat × Nat) → List (List Key × D)
  | _, [] => []
  | f, p :: r => ([.inl (p.1 : Int), .inl (p.2 : Int)], .int ((2 * f : Nat) : Int)) :: seenL (f + 1) r
theorem seenL_len : ∀ (g : List (Nat × Nat)) (f : Nat), (seenL f g).length = g.length
  | [], _ => rfl
  | p :: r, f => by rw [seenL, List.length_cons, seenL_len r, List.length_cons]
theorem key_eq (p q : Nat × Nat) : (([.inl (p.1 : Int), .inl (p.2 : Int)] : List Key) = [.inl (q.1 : Int), .inl (q.2 : Int)]) = (p = q) := by
  rw [eq_iff_iff]
  constructor
  · intro h
    simp only [List.cons.injEq, Sum.inl.injEq, Int.natCast_inj, and_true] at h
    exact Prod.ext h.1 h.2
  · rintro rfl; rfl
theorem seen_get (p : Nat × Nat) : ∀ (g : List (Nat × Nat)) (f : Nat), kvGet (seenL f g) [.inl (p.1 : Int), .inl (p.2 : Int)] = (fnd p f g).map dN
  | [], f => rfl
  | q :: r, f => by
    have ih := seen_get p r (f + 1)
    unfold kvGet at ih ⊢
    rw [seenL, List.find?_cons, fnd]
    by_cases h : q = p
    · subst h; simp
    · simp only [key_eq, h, decide_false, if_false]
      exact ih
theorem seen_any (p : Nat × Nat) : ∀ (g : List (Nat × Nat)) (f : Nat), ((seenL f g).any fun q => decide (q.1 = [.inl (p.1 : Int), .inl (p.2 : Int)])) = (fnd p f g).isSome
  | [], f => rfl
  | q :: r, f => by
    rw [seenL, List.any_cons, seen_any p r (f + 1), fnd]
    by_cases h : q = p
    · subst h; simp
    · simp only [key_eq, h, decide_false, if_false, Bool.false_or]
theorem seenL_app : ∀ (g : List (Nat × Nat)) (f : Nat) (p : Nat × Nat), seenL f (g ++ [p]) = seenL f g ++ [([.inl (p.1 : Int), .inl (p.2 : Int)], .int ((2 * (f + g.length) : Nat) : Int))]
  | [], f, p => rfl
  | q :: r, f, p => by
    show seenL f (q :: (r ++ [p])) = _
    rw [seenL, seenL_app r, seenL, List.cons_append, List.length_cons]
    rw [show f + 1 + r.length = f + (r.length + 1) by omega]
theorem seen_put {p : Nat × Nat} {g : List (Nat × Nat)} {f : Nat} (h : fnd p f g = none) : kvPut (seenL f g) [.inl (p.1 : Int), .inl (p.2 : Int)] (.int ((2 * (f + g.length) : Nat) : Int)) = seenL f (g ++ [p]) := by
  unfold kvPut
  rw [seen_any, h, seenL_app]
  rfl
def Mk.fs (m : Mk) (k : Nat) : List FV := [.d (.int m.ins), .d (dB m.fst), .c k, .c (k + 1)]
abbrev Mk.o (m : Mk) (k : Nat) : R := .obj 0 (m.fs k)
/-- the maker's cells -/
structure At (S : Sto) (k : Nat) (m : Mk) : Prop where
  g : S[k]? = some (.lst (m.gates.map dP))
  s : S[k + 1]? = some (.dcT (seenL m.first m.gates))
def put (S : Sto) (k : Nat) (m : Mk) : Sto := (S.set k (.lst (m.gates.map dP))).set (k + 1) (.dcT (seenL m.first m.gates))
theorem At.lt {S : Sto} {k : Nat} {m : Mk} (h : At S k m) : k + 1 < S.length := (List.getElem?_eq_some_iff.mp h.s).1
theorem put_len (S : Sto) (k : Nat) (m : Mk) : (put S k m).length = S.length := by simp [put]
theorem At.self {S : Sto} {k : Nat} {m : Mk} (h : At S k m) : put S k m = S := by
  unfold put
  obtain ⟨a1, a2⟩ := List.getElem?_eq_some_iff.mp h.g
  obtain ⟨b1, b2⟩ := List.getElem?_eq_some_iff.mp h.s
  rw [← a2, List.set_getElem_self, ← b2, List.set_getElem_self]
theorem At.put {S : Sto} {k : Nat} {m : Mk} (h : At S k m) (m' : Mk) : At (L.put S k m') k m' := by
  have := h.lt
  constructor
  · unfold L.put
    rw [List.getElem?_set_ne (by omega), List.getElem?_set_self (by omega)]
  · unfold L.put
    rw [List.getElem?_set_self (by simp; omega)]
theorem put_put (S : Sto) (k : Nat) (m m' : Mk) : put (put S k m) k m' = put S k m' := by
  unfold put
  rw [show ((S.set k (.lst (m.gates.map dP))).set (k + 1) (.dcT (seenL m.first m.gates))).set k (.lst (m'.gates.map dP)) = ((S.set k (.lst (m.gates.map dP))).set k (.lst (m'.gates.map dP))).set (k + 1) (.dcT (seenL m.first m.gates)) from List.set_comm _ _ (by omega)]
  rw [List.set_set, List.set_set]
/-- grown alike: the same instance -/
theorem Mk.Le.fs {m m' : Mk} (h : m.Le m') (k : Nat) : m'.fs k = m.fs k := by unfold Mk.fs; rw [h.ins, h.fst]
theorem fs0 (m : Mk) (k : Nat) (S : Sto) : attR S 0 (.obj 0 (m.fs k)) = some (.p (.int m.ins)) := rfl
theorem fs1 (m : Mk) (k : Nat) (S : Sto) : attR S 1 (.obj 0 (m.fs k)) = some (.p (.tuple (m.fst.map dN))) := rfl
theorem fs2 {m : Mk} {k : Nat} {S : Sto} (h : k < S.length) : attR S 2 (.obj 0 (m.fs k)) = some (.ref k) := if_pos h
theorem fs3 {m : Mk} {k : Nat} {S : Sto} (h : k + 1 < S.length) : attR S 3 (.obj 0 (m.fs k)) = some (.ref (k + 1)) := if_pos h
theorem lenB (bs : List Nat) (S : Sto) : biR S .len [.p (dB bs)] = some (.p (.int (bs.length : Nat))) := by
  show some (R.p (.int ((bs.map dN).length : Nat))) = _
  rw [List.length_map]
theorem opp_eq (l : Nat) : (if l % 2 = 0 then l + 1 else l - 1) = opp l := rfl
section
variable (n : Nat) (S : Sto)
theorem r_opp (l : Nat) : run (n + 1) 7 [.p (.int l)] S = .ok (.p (.int (opp l))) S := by
  rw [run, runF_eq (fn := i_opposite) rfl rfl rfl (by decide) rfl]
  by_cases h : l % 2 = 0
  · k_dat (i_opposite, h, opp, and_self, and_self) "S"
  · k_dat (i_opposite, h, opp, and_self, and_self) "S"
theorem r_once (a b : Nat) : run (n + 2) 8 [.p (.int a), .p (.int b)] S = .ok (.p (dO (once a b))) S := by
  rw [run, runF_eq (fn := i_told_at_once) rfl rfl rfl (by decide) rfl]
  have e1 := r_opp n S b
  simp only [run] at e1
  unfold once
  by_cases h1 : a = 0
  · k_dat (i_told_at_once, h1, true_or, dO, and_self, and_self) "S"
  · by_cases h2 : b = 0
    · k_dat (i_told_at_once, h1, h2, true_or, or_true, dO, and_self, and_self) "S"
    · by_cases h3 : a = opp b
      · subst h3
        k_dat (i_told_at_once, h1, h2, e1, or_true, dO, and_self, and_self) "S"
      · by_cases h4 : a = 1
        · subst h4
          k_dat (i_told_at_once, h2, e1, h3, true_or, or_false, dO, and_self, and_self) "S"
        · by_cases h5 : a = b
          · subst h5
            k_dat (i_told_at_once, h1, e1, h3, h4, or_true, or_false, or_self, dO, and_self, and_self) "S"
          · by_cases h6 : b = 1
            · subst h6
              k_dat (i_told_at_once, h1, e1, h3, h4, or_false, or_self, dO, and_self, and_self) "S"
            · k_dat (i_told_at_once, h1, h2, e1, h3, h4, h5, h6, or_false, or_self, dO, and_self, and_self) "S"
theorem r_check_literal {k : Nat} {m : Mk} (h : At S k m) (hs : m.top < 1000000) (d : D) : run (n + 2) 28 [m.o k, .p d] S = if inR m.top d = true then .ok (.p .none) S else .exc 3 [.str "literal"] S := by
  rw [run, runF_eq (fn := i_Maker_check_literal) rfl rfl rfl (by decide) rfl]
  have e1 := r_is_integer n d S
  have hl := h.lt
  have z1 := h.g
  have f2 := fs2 (m := m) (S := S) (k := k) (by omega)
  simp only [run] at e1
  have et : 2 * (1 + m.ins + m.fst.length + m.gates.length) = m.top := rfl
  cases d <;> try (k_dat (i_Maker_check_literal, e1, isIntD, inR, objR_eq, and_self, and_self) "S"; done)
  rename_i i
  by_cases h0 : (0 : Int) ≤ i
  · by_cases h1 : i < (m.top : Int)
    · k_dat (i_Maker_check_literal, e1, isIntD, inR, objR_eq, fs0, fs1, f2, z1, h0, h1, et, c0, List.length_map, and_self, and_self) "S"
    · k_dat (i_Maker_check_literal, e1, isIntD, inR, objR_eq, fs0, fs1, f2, z1, h0, h1, et, c0, List.length_map, and_false, and_self, and_self) "S"
  · k_dat (i_Maker_check_literal, e1, isIntD, inR, objR_eq, fs0, fs1, f2, z1, h0, et, c0, List.length_map, false_and, and_self, and_self) "S"
theorem r_cl {k : Nat} {m : Mk} (h : At S k m) (hs : m.top < 1000000) {l : Nat} (hl : l < m.top) : run (n + 2) 28 [m.o k, .p (.int l)] S = .ok (.p .none) S := by
  rw [r_check_literal n S h hs, if_pos (by simp [inR]; omega)]
theorem r_cl_bad {k : Nat} {m : Mk} (h : At S k m) (hs : m.top < 1000000) {d : D} (hd : inR m.top d = false) : run (n + 2) 28 [m.o k, .p d] S = .exc 3 [.str "literal"] S := by
  rw [r_check_literal n S h hs, if_neg (by rw [hd]; decide)]
theorem r_both {k : Nat} {m : Mk} (h : At S k m) (hs : m.top < 1000000) {a b : Nat} (ha : a < m.top) (hb : b < m.top) : run (n + 3) 29 [m.o k, .p (.int a), .p (.int b)] S = .ok (.p (.int (m.both a b).1)) (put S k (m.both a b).2) := by
  rw [run, runF_eq (fn := i_Maker_both) rfl rfl rfl (by decide) rfl]
  have e1 := r_cl n S h hs ha
  have e2 := r_cl n S h hs hb
  have e3 := r_once n S a b
  have hl := h.lt
  have z1 := h.g
  have z2 := h.s
  have f2 := fs2 (m := m) (S := S) (k := k) (by omega)
  have f3 := fs3 (m := m) (S := S) (k := k) (by omega)
  simp only [run] at e1 e2 e3
  unfold Mk.both
  have gl : m.gates.length < 1000000 := by unfold Mk.top at hs; omega
  cases ho : once a b with
  | some l =>
    rw [ho] at e3
    k_dat (i_Maker_both, e1, e2, e3, objR_eq, dO, isNonD, h.self, and_self, and_self) "S"
  | none =>
    rw [ho] at e3
    have g1 := seen_get (max a b, min a b) m.gates m.first
    simp only at g1
    simp only
    cases hf : fnd (max a b, min a b) m.first m.gates with
    | some l =>
      rw [hf] at g1
      k_dat (i_Maker_both, e1, e2, e3, objR_eq, dO, isNonD, h.self, f3, z2, keyT_ii, g1, Option.isSome_some, and_self, and_self) "S"
    | none =>
      rw [hf] at g1
      have g2 := seen_put hf
      simp only at g2
      have et : 2 * (1 + m.ins + m.fst.length + m.gates.length) = m.top := rfl
      have et' : 2 * (m.first + m.gates.length) = m.top := rfl
      have f2' := fs2 (m := m) (S := S.set (k + 1) (.dcT (seenL m.first (m.gates ++ [(max a b, min a b)])))) (k := k) (by simp; omega)
      have f3' := fs3 (m := m) (S := (S.set (k + 1) (.dcT (seenL m.first (m.gates ++ [(max a b, min a b)])))).set k (.lst (m.gates.map dP ++ [.tuple [.int ((max a b : Nat) : Int), .int ((min a b : Nat) : Int)]]))) (k := k) (by simp; omega)
      have w1 : (S.set (k + 1) (.dcT (seenL m.first (m.gates ++ [(max a b, min a b)]))))[k]? = some (.lst (m.gates.map dP)) := by rw [List.getElem?_set_ne (by omega)]; exact z1
      have w2 : ((S.set (k + 1) (.dcT (seenL m.first (m.gates ++ [(max a b, min a b)])))).set k (.lst (m.gates.map dP ++ [.tuple [.int ((max a b : Nat) : Int), .int ((min a b : Nat) : Int)]])))[k + 1]? = some (.dcT (seenL m.first (m.gates ++ [(max a b, min a b)]))) := by
        rw [List.getElem?_set_ne (by omega), List.getElem?_set_self (by omega)]
      have g3 := seen_get (max a b, min a b) (m.gates ++ [(max a b, min a b)]) m.first
      rw [fnd_app hf] at g3
      simp only [et'] at g2 g3
      k_dat (i_Maker_both, e1, e2, e3, objR_eq, dO, isNonD, fs0, fs1, f2, f3, z1, z2, keyT_ii, g1, Option.isSome_none, Option.map_none, List.length_map, et, putC_dcT, seenL_len, g2, f2', w1, f3', w2, g3, and_self, and_self) "S"
      rw [List.take_of_length_le (by simp)]
      unfold put
      rw [List.set_comm _ _ (show k + 1 ≠ k by omega), List.map_append]
      rfl
theorem put_At {k : Nat} {m m' m2 : Mk} (h : At S k m) (e : m.Le m') : (Mk.o m k : R) = m'.o k := by rw [Mk.o, Mk.o, e.fs]
end
end Vz.L
set_option Elab.async false
set_option linter.all false
set_option maxRecDepth 100000
set_option maxHeartbeats 4000000
namespace Vz.L
open PySem PySem.Spec L2 Vy
section
variable (n : Nat) (S : Sto)
/-- both, from a state that is already written -/
theorem r_both' {k : Nat} {m0 m : Mk} (h : At S k m0) (le : m0.Le m) (hs : m.top < 1000000) {a b : Nat} (ha : a < m.top) (hb : b < m.top) : run (n + 3) 29 [m0.o k, .p (.int a), .p (.int b)] (put S k m) = .ok (.p (.int (m.both a b).1)) (put S k (m.both a b).2) := by
  have := r_both n (put S k m) (h.put m) hs ha hb
  rw [put_put, Mk.o, le.fs] at this
  exact this
theorem r_cl' {k : Nat} {m0 m : Mk} (h : At S k m0) (le : m0.Le m) (hs : m.top < 1000000) {l : Nat} (hl : l < m.top) : run (n + 2) 28 [m0.o k, .p (.int l)] (put S k m) = .ok (.p .none) (put S k m) := by
  have := r_cl n (put S k m) (h.put m) hs hl
  rw [Mk.o, le.fs] at this
  exact this
theorem r_either' {k : Nat} {m0 m : Mk} (h : At S k m0) (le : m0.Le m) (hs : m.top < 1000000) {a b : Nat} (ha : a < m.top) (hb : b < m.top) : run (n + 4) 30 [m0.o k, .p (.int a), .p (.int b)] (put S k m) = .ok (.p (.int (m.either a b).1)) (put S k (m.either a b).2) := by
  rw [run, runF_eq (fn := i_Maker_either) rfl rfl rfl (by decide) rfl]
  have e1 := r_cl' (n + 1) S h le hs ha
  have e2 := r_cl' (n + 1) S h le hs hb
  have e3 := r_opp (n + 2) (put S k m) a
  have e4 := r_opp (n + 2) (put S k m) b
  have e5 := r_both' n S h le hs (opp_lt (k := m.first + m.gates.length) ha) (opp_lt (k := m.first + m.gates.length) hb)
  have e6 := r_opp (n + 2) (put S k (m.both (opp a) (opp b)).2) (m.both (opp a) (opp b)).1
  simp only [run, Mk.o] at e1 e2 e3 e4 e5 e6
  k_dat (i_Maker_either, e1, e2, objR_eq, e3, e4, e5, e6, Mk.either, put_len, and_self, and_self) "S"
  rw [List.take_of_length_le (by rw [put_len]; exact Nat.le_refl _)]
theorem Mk.Le.lt {m m' : Mk} (h : m.Le m') {l : Nat} (hl : l < m.top) : l < m'.top := Nat.lt_of_lt_of_le hl h.top
theorem BothOk.top {m : Mk} {a b : Nat} {r : Nat × Mk} (h : BothOk m a b r) : r.2.top ≤ m.top + 2 := by
  have := h.len
  unfold Mk.top
  rw [h.le.first]
  omega
theorem r_just' {k : Nat} {m0 m : Mk} (ok : m.Ok) (h : At S k m0) (le : m0.Le m) (hs : m.top < 999000) {a b : Nat} (ha : a < m.top) (hb : b < m.top) : run (n + 4) 31 [m0.o k, .p (.int a), .p (.int b)] (put S k m) = .ok (.p (.int (m.just a b).1)) (put S k (m.just a b).2) := by
  rw [run, runF_eq (fn := i_Maker_just_one) rfl rfl rfl (by decide) rfl]
  have e1 := r_both' n S h le (by omega) ha hb
  have b1 := ok.both ha hb
  have t1 := b1.top
  have e2 := r_opp (n + 2) (put S k (m.both a b).2) a
  have e3 := r_opp (n + 2) (put S k (m.both a b).2) b
  have oa := opp_lt (k := (m.both a b).2.first + (m.both a b).2.gates.length) (b1.le.lt ha)
  have ob := opp_lt (k := (m.both a b).2.first + (m.both a b).2.gates.length) (b1.le.lt hb)
  have b2 := b1.ok.both oa ob
  have t2 := b2.top
  have e4 := r_both' n S h (le.trans b1.le) (by omega) oa ob
  have o1 := opp_lt (k := ((m.both a b).2.both (opp a) (opp b)).2.first + ((m.both a b).2.both (opp a) (opp b)).2.gates.length) (b2.le.lt b1.lt)
  have o2 := opp_lt (k := ((m.both a b).2.both (opp a) (opp b)).2.first + ((m.both a b).2.both (opp a) (opp b)).2.gates.length) b2.lt
  have e5 := r_both' n S h ((le.trans b1.le).trans b2.le) (by omega) o1 o2
  have e6 := r_opp (n + 2) (put S k ((m.both a b).2.both (opp a) (opp b)).2) (m.both a b).1
  have e7 := r_opp (n + 2) (put S k ((m.both a b).2.both (opp a) (opp b)).2) ((m.both a b).2.both (opp a) (opp b)).1
  simp only [run, Mk.o] at e1 e2 e3 e4 e5 e6 e7
  k_dat (i_Maker_just_one, e1, objR_eq, e2, e3, e4, e6, e7, e5, Mk.just, put_len, and_self, and_self) "S"
  rw [List.take_of_length_le (by rw [put_len]; exact Nat.le_refl _)]
theorem r_picked' {k : Nat} {m0 m : Mk} (ok : m.Ok) (h : At S k m0) (le : m0.Le m) (hs : m.top < 999000) {w a b : Nat} (hw : w < m.top) (ha : a < m.top) (hb : b < m.top) : run (n + 5) 32 [m0.o k, .p (.int w), .p (.int a), .p (.int b)] (put S k m) = .ok (.p (.int (m.picked w a b).1)) (put S k (m.picked w a b).2) := by
  rw [run, runF_eq (fn := i_Maker_picked) rfl rfl rfl (by decide) rfl]
  have e1 := r_both' (n + 1) S h le (by omega) hw ha
  have b1 := ok.both hw ha
  have t1 := b1.top
  have e2 := r_opp (n + 3) (put S k (m.both w a).2) w
  have ow := opp_lt (k := (m.both w a).2.first + (m.both w a).2.gates.length) (b1.le.lt hw)
  have b2 := b1.ok.both ow (b1.le.lt hb)
  have t2 := b2.top
  have e3 := r_both' (n + 1) S h (le.trans b1.le) (by omega) ow (b1.le.lt hb)
  have e4 := r_either' n S h ((le.trans b1.le).trans b2.le) (by omega) (b2.le.lt b1.lt) b2.lt
  simp only [run, Mk.o] at e1 e2 e3 e4
  k_dat (i_Maker_picked, e1, objR_eq, e2, e3, e4, Mk.picked, put_len, and_self, and_self) "S"
  rw [List.take_of_length_le (by rw [put_len]; exact Nat.le_refl _)]
/-- all of: each step's state -/
theorem all_step {s : Nat × Mk} (ok : s.2.Ok) (h1 : s.1 < s.2.top) {l : Nat} (hl : l < s.2.top) : (Mk.allStep s l).2.Ok ∧ s.2.Le (Mk.allStep s l).2 ∧ (Mk.allStep s l).1 < (Mk.allStep s l).2.top ∧ (Mk.allStep s l).2.top ≤ s.2.top + 2 := by
  have b := ok.both h1 hl
  exact ⟨b.ok, b.le, b.lt, b.top⟩
theorem r_all' {k : Nat} {m0 m : Mk} (ok : m.Ok) (h : At S k m0) (le : m0.Le m) (hs : m.top < 900000) {ls : List Nat} (hl : ∀ l ∈ ls, l < m.top) (hn : ls.length < 1000) : run (n + 4) 33 [m0.o k, .p (.list (ls.map dN))] (put S k m) = .ok (.p (.int (m.all ls).1)) (put S k (m.all ls).2) := by
  rw [run, runF_eq (fn := i_Maker_all_of) rfl rfl rfl (by decide) rfl]
  k_dat (i_Maker_all_of, and_self, and_self) "S"
  have t0 : 1 < m.top := by have := ok.sz; unfold Mk.top; omega
  refine then_of (forL_fold dN (fun s : Nat × Mk => [some (.obj 0 (m0.fs k)), some (.p (.list (ls.map dN))), some (.p (.int (s.1 : Nat))), none]) (fun s => put S k s.2) Mk.allStep ls
    (fun r s => s.2.Ok ∧ m.Le s.2 ∧ s.1 < s.2.top ∧ s.2.top + 2 * r.length < 990000 ∧ ∀ l ∈ r, l < m.top) (1, m) ⟨ok, .refl m, t0, by simp only; omega, hl⟩ ?_).1 ?_
  · rintro l r ⟨f, m1⟩ ⟨k1, k2, k3, k4, k5⟩
    have k2 : m.Le m1 := k2
    have k3 : f < m1.top := k3
    rw [List.length_cons] at k4
    have k4 : m1.top + 2 * (r.length + 1) < 990000 := k4
    have q := all_step (s := (f, m1)) k1 k3 (k2.lt (k5 l List.mem_cons_self))
    have e1 := r_both' n S h (le.trans k2) (by omega) k3 (k2.lt (k5 l List.mem_cons_self))
    simp only [run, Mk.o] at e1
    refine ⟨.inl ?_, q.1, k2.trans q.2.1, q.2.2.1, by have := q.2.2.2; simp only at this; omega, fun x hx => k5 x (List.mem_cons_of_mem _ hx)⟩
    k_dat (objR_eq, e1, Mk.allStep, and_self, and_self) "S"
  · k_dat (put_len, Mk.all, and_self, and_self) "S"
    rw [List.take_of_length_le (by rw [put_len]; exact Nat.le_refl _)]
end
end Vz.L
set_option Elab.async false
set_option linter.all false
set_option maxRecDepth 100000
set_option maxHeartbeats 4000000
namespace Vz.L
open PySem PySem.Spec L2 Vy
structure OpOk (m : Mk) (r : Nat × Mk) (f : List Nat → Nat) : Prop where
  ok : r.2.Ok
  le : m.Le r.2
  lt : r.1 < r.2.top
  top : r.2.top ≤ m.top + 6
  sem : ∀ row : List Nat, row.length + 1 = m.first → r.2.lit row r.1 = f row
theorem Mk.lit_two (m : Mk) (row : List Nat) (l : Nat) : m.lit row l = 0 ∨ m.lit row l = 1 := L.lit_two _ l
theorem Mk.top_eq (m : Mk) : m.top = 2 * (m.first + m.gates.length) := rfl
theorem Mk.opp_lt (m : Mk) {l : Nat} (h : l < m.top) : opp l < m.top := L.opp_lt (k := m.first + m.gates.length) h
theorem Mk.Ok.bothO {m : Mk} (h : m.Ok) {a b : Nat} (ha : a < m.top) (hb : b < m.top) : OpOk m (m.both a b) fun row => m.lit row a * m.lit row b := by
  have b := h.both ha hb
  exact ⟨b.ok, b.le, b.lt, by have := b.top; omega, b.sem⟩
theorem Mk.Ok.eitherO {m : Mk} (h : m.Ok) {a b : Nat} (ha : a < m.top) (hb : b < m.top) : OpOk m (m.either a b) fun row => max (m.lit row a) (m.lit row b) := by
  have r := h.both (m.opp_lt ha) (m.opp_lt hb)
  refine ⟨r.ok, r.le, (m.both (opp a) (opp b)).2.opp_lt r.lt, by have := r.top; show (m.both (opp a) (opp b)).2.top ≤ _; omega, fun row hr => ?_⟩
  have := r.sem row hr
  show (m.both (opp a) (opp b)).2.lit row (opp _) = _
  rw [Mk.lit_opp, this, Mk.lit_opp, Mk.lit_opp]
  rcases m.lit_two row a with e | e <;> rcases m.lit_two row b with e' | e' <;> rw [e, e'] <;> rfl
theorem Mk.Ok.justO {m : Mk} (h : m.Ok) {a b : Nat} (ha : a < m.top) (hb : b < m.top) : OpOk m (m.just a b) fun row => (m.lit row a + m.lit row b) % 2 := by
  have b1 := h.both ha hb
  have b2 := b1.ok.both ((m.both a b).2.opp_lt (b1.le.lt ha)) ((m.both a b).2.opp_lt (b1.le.lt hb))
  have b3 := b2.ok.both (((m.both a b).2.both (opp a) (opp b)).2.opp_lt (b2.le.lt b1.lt)) (((m.both a b).2.both (opp a) (opp b)).2.opp_lt b2.lt)
  have t1 := b1.top
  have t2 := b2.top
  have t3 := b3.top
  refine ⟨b3.ok, (b1.le.trans b2.le).trans b3.le, b3.lt, ?_, fun row hr => ?_⟩
  · show (((m.both a b).2.both (opp a) (opp b)).2.both _ _).2.top ≤ _
    omega
  · have f1 : row.length + 1 = (m.both a b).2.first := by rw [b1.le.first]; exact hr
    have f2 : row.length + 1 = ((m.both a b).2.both (opp a) (opp b)).2.first := by rw [b2.le.first]; exact f1
    have s3 := b3.sem row f2
    have s2 := b2.sem row f1
    have s1 := b1.sem row hr
    refine Eq.trans (b := _) s3 ?_
    rw [Mk.lit_opp, Mk.lit_opp, b2.le.lit f1 b1.lt, s2, s1, Mk.lit_opp, Mk.lit_opp, b1.le.lit hr ha, b1.le.lit hr hb]
    rcases m.lit_two row a with e | e <;> rcases m.lit_two row b with e' | e' <;> rw [e, e']
theorem Mk.Ok.pickedO {m : Mk} (h : m.Ok) {w a b : Nat} (hw : w < m.top) (ha : a < m.top) (hb : b < m.top) : OpOk m (m.picked w a b) fun row => if m.lit row w = 1 then m.lit row a else m.lit row b := by
  have b1 := h.both hw ha
  have b2 := b1.ok.both ((m.both w a).2.opp_lt (b1.le.lt hw)) (b1.le.lt hb)
  have b3 := b2.ok.eitherO (b2.le.lt b1.lt) b2.lt
  have t1 := b1.top
  have t2 := b2.top
  have t3 : (((m.both w a).2.both (opp w) b).2.either (m.both w a).1 ((m.both w a).2.both (opp w) b).1).2.top ≤ ((m.both w a).2.both (opp w) b).2.top + 2 := (b2.ok.both (Mk.opp_lt _ (b2.le.lt b1.lt)) (Mk.opp_lt _ b2.lt)).top
  refine ⟨b3.ok, (b1.le.trans b2.le).trans b3.le, b3.lt, ?_, fun row hr => ?_⟩
  · show (((m.both w a).2.both (opp w) b).2.either _ _).2.top ≤ _
    omega
  · have f1 : row.length + 1 = (m.both w a).2.first := by rw [b1.le.first]; exact hr
    have f2 : row.length + 1 = ((m.both w a).2.both (opp w) b).2.first := by rw [b2.le.first]; exact f1
    have s3 := b3.sem row f2
    have s2 := b2.sem row f1
    have s1 := b1.sem row hr
    refine Eq.trans (b := _) s3 ?_
    rw [b2.le.lit f1 b1.lt, s2, s1, Mk.lit_opp, b1.le.lit hr hw, b1.le.lit hr hb]
    rcases m.lit_two row w with e | e <;> rcases m.lit_two row a with e' | e' <;> rcases m.lit_two row b with e2 | e2 <;> rw [e, e', e2] <;> rfl
theorem Mk.Ok.all3 {m : Mk} (h : m.Ok) {a b c : Nat} (ha : a < m.top) (hb : b < m.top) (hc : c < m.top) : OpOk m (m.all [a, b, c]) fun row => m.lit row a * m.lit row b * m.lit row c := by
  have t0 : 1 < m.top := by have := h.sz; unfold Mk.top; omega
  have b1 := h.both t0 ha
  have b2 := b1.ok.both b1.lt (b1.le.lt hb)
  have b3 := b2.ok.both b2.lt (b2.le.lt (b1.le.lt hc))
  have t1 := b1.top
  have t2 := b2.top
  have t3 := b3.top
  refine ⟨b3.ok, (b1.le.trans b2.le).trans b3.le, b3.lt, ?_, fun row hr => ?_⟩
  · show (((m.both 1 a).2.both (m.both 1 a).1 b).2.both ((m.both 1 a).2.both (m.both 1 a).1 b).1 c).2.top ≤ _
    omega
  · have f1 : row.length + 1 = (m.both 1 a).2.first := by rw [b1.le.first]; exact hr
    have f2 : row.length + 1 = ((m.both 1 a).2.both (m.both 1 a).1 b).2.first := by rw [b2.le.first]; exact f1
    refine Eq.trans (b := _) (b3.sem row f2) ?_
    rw [b2.sem row f1, b1.sem row hr, b2.le.lit f1 (b1.le.lt hc), b1.le.lit hr hb, b1.le.lit hr hc, m.lit_one row, Nat.one_mul]
/-! ### a maker's graph -/
def Mk.gr (m : Mk) (laters outs : List Nat) : Gr := ⟨m.ins, m.fst.zip laters, m.gates, outs⟩
structure GrOk (m : Mk) (laters outs : List Nat) : Prop where
  lat : ∀ l ∈ laters, l < m.top
  latN : laters.length = m.fst.length
  out : ∀ l ∈ outs, l < m.top
  out1 : 1 ≤ outs.length
  outN : outs.length ≤ 40
  gat : m.gates.length ≤ 400
theorem GrOk.first {m : Mk} {laters outs : List Nat} (h : GrOk m laters outs) : (m.gr laters outs).first = m.first := by
  show 1 + m.ins + (m.fst.zip laters).length = 1 + m.ins + m.fst.length
  rw [List.length_zip, h.latN, Nat.min_self]
theorem GrOk.top {m : Mk} {laters outs : List Nat} (h : GrOk m laters outs) : (m.gr laters outs).top = m.top := by
  show 2 * ((m.gr laters outs).first + m.gates.length) = _
  rw [h.first]
  rfl
theorem GrOk.ok {m : Mk} {laters outs : List Nat} (h : GrOk m laters outs) (k : m.Ok) : (m.gr laters outs).Ok where
  ins := k.ins
  latN := by show (m.fst.zip laters).length ≤ 16; rw [List.length_zip, h.latN, Nat.min_self]; exact k.fstN
  lat := fun p hp => by
    rw [h.top]
    have hp : (p.1, p.2) ∈ m.fst.zip laters := hp
    have := List.of_mem_zip hp
    exact ⟨k.fstB _ this.1, h.lat _ this.2⟩
  gatN := h.gat
  gat := by rw [h.first]; exact k.gat
  out1 := h.out1
  outN := h.outN
  out := by rw [h.top]; exact h.out
theorem zip_dP : ∀ (a b : List Nat), zipD (a.map dN) (b.map dN) = (a.zip b).map dP
  | [], b => by cases b <;> rfl
  | _ :: _, [] => rfl
  | x :: r, y :: s => by
    show PyData.tuple [dN x, dN y] :: zipD (r.map dN) (s.map dN) = _
    rw [zip_dP r s]
    rfl
section
variable (n : Nat) (S : Sto)
theorem check_loop {k : Nat} {m : Mk} (h : At S k m) (hs : m.top < 1000000) (a b : Option SV) : ∀ (ls : List Nat), (∀ l ∈ ls, l < m.top) →
    forL (bodyF ⟨runF FP CS lim (n + 2), CS⟩ lim (.nm 3) b_Maker_graph_0) (ls.map dN) [some (.obj 0 (m.fs k)), a, b, none, none] S = .next [some (.obj 0 (m.fs k)), a, b, none, none] S := by
  intro ls hl
  refine (forL_fold dN (fun _ : Unit => [some (.obj 0 (m.fs k)), a, b, none, none]) (fun _ => S) (fun u _ => u) ls (fun r _ => ∀ l ∈ r, l < m.top) () hl ?_).1
  rintro l r _ k1
  have e1 := r_cl n S h hs (k1 l List.mem_cons_self)
  simp only [run, Mk.o] at e1
  refine ⟨.inl ?_, fun x hx => k1 x (List.mem_cons_of_mem _ hx)⟩
  k_dat (objR_eq, e1, and_self, and_self) "S"
theorem r_mgraph {k : Nat} {m : Mk} (h : At S k m) (ok : m.Ok) {laters outs : List Nat} (g : GrOk m laters outs) : run (n + 6) 34 [m.o k, .p (.list (laters.map dN)), .p (.list (outs.map dN))] S = .ok (.p (m.gr laters outs).enc) S := by
  rw [run, runF_eq (fn := i_Maker_graph) rfl rfl rfl (by decide) rfl]
  have ts := ok.sz
  have g1 := g.gat
  have g2 := g.latN
  have g3 := g.outN
  have g4 := ok.fstN
  have mt := m.top_eq
  have hl := h.lt
  have z1 := h.g
  have f2 := fs2 (m := m) (S := S) (k := k) (by omega)
  have cl := check_loop (n + 3) S h (by omega) (some (.p (.list (laters.map dN)))) (some (.p (.list (outs.map dN)))) (laters ++ outs) (fun l hl => (List.mem_append.mp hl).elim (g.lat l) (g.out l))
  rw [List.map_append] at cl
  have e1 := r_check n (m.gr laters outs) S (g.ok ok)
  simp only [run, Gr.enc, Mk.gr, ← zip_dP] at e1
  k_dat (i_Maker_graph, cl, objR_eq, fs0, fs1, f2, z1, g2, List.length_map, e1, Gr.enc, Mk.gr, and_self, and_self) "S"
  rw [zip_dP]
end
end Vz.L
set_option Elab.async false
set_option linter.all false
set_option maxRecDepth 100000
set_option maxHeartbeats 4000000
namespace Vz.L
open PySem PySem.Spec L2 Vy
theorem At.app {S : Sto} {k : Nat} {m : Mk} (h : At S k m) (T : Sto) : At (S ++ T) k m := by
  have := h.lt
  exact ⟨by rw [List.getElem?_append_left (by omega)]; exact h.g, by rw [List.getElem?_append_left (by omega)]; exact h.s⟩
theorem put_app {S : Sto} {k : Nat} (h : k + 1 < S.length) (m : Mk) (T : Sto) : put (S ++ T) k m = put S k m ++ T := by
  unfold put
  rw [List.set_append_left _ _ (by omega), List.set_append_left _ _ (by simp; omega)]
def mv (fd : List Nat) (l : Nat) : Nat := if l % 2 = 0 then fd.getD (l / 2) 0 else opp (fd.getD (l / 2) 0)
section
variable (n : Nat) (S : Sto)
theorem r_moved {fd : List Nat} {l : Nat} (h : l / 2 < fd.length) : run (n + 2) 10 [.p (.list (fd.map dN)), .p (.int l)] S = .ok (.p (.int (mv fd l))) S := by
  rw [run, runF_eq (fn := i_moved) rfl rfl rfl (by decide) rfl]
  have e1 := r_opp n S (fd.getD (l / 2) 0)
  simp only [run] at e1
  by_cases hl : l % 2 = 0
  · k_dat (i_moved, lit_at, hl, mv, and_self, and_self) "S"
  · k_dat (i_moved, lit_at, hl, e1, mv, and_self, and_self) "S"
theorem r_movedR {k : Nat} {fd : List Nat} (hk : S[k]? = some (.lst (fd.map dN))) {l : Nat} (h : l / 2 < fd.length) : run (n + 2) 10 [.ref k, .p (.int l)] S = .ok (.p (.int (mv fd l))) S := by
  rw [run, runF_eq (fn := i_moved) rfl rfl rfl (by decide) rfl]
  have e1 := r_opp n S (fd.getD (l / 2) 0)
  simp only [run] at e1
  by_cases hl : l % 2 = 0
  · k_dat (i_moved, hk, lit_at, hl, mv, and_self, and_self) "S"
  · k_dat (i_moved, hk, lit_at, hl, e1, mv, and_self, and_self) "S"
theorem r_literal_in {k : Nat} {m : Mk} {i : Nat} (h : i < m.ins) : run (n + 2) 26 [m.o k, .p (.int i)] S = .ok (.p (.int (2 * (1 + i) : Nat))) S := by
  rw [run, runF_eq (fn := i_Maker_literal_in) rfl rfl rfl (by decide) rfl]
  have e1 := r_is_integer n (.int i) S
  simp only [run] at e1
  k_dat (i_Maker_literal_in, e1, isIntD, objR_eq, fs0, h, Nat.zero_le, and_self, and_self) "S"
theorem r_literal_kept {k : Nat} {m : Mk} {i : Nat} (h : i < m.fst.length) : run (n + 2) 27 [m.o k, .p (.int i)] S = .ok (.p (.int (2 * (1 + m.ins + i) : Nat))) S := by
  rw [run, runF_eq (fn := i_Maker_literal_kept) rfl rfl rfl (by decide) rfl]
  have e1 := r_is_integer n (.int i) S
  simp only [run] at e1
  k_dat (i_Maker_literal_kept, e1, isIntD, objR_eq, fs0, fs1, h, Nat.zero_le, List.length_map, and_self, and_self) "S"
theorem r_literal_in_bad {k : Nat} {m : Mk} {d : D} (h : inR m.ins d = false) : run (n + 2) 26 [m.o k, .p d] S = .exc 3 [.str "place"] S := by
  rw [run, runF_eq (fn := i_Maker_literal_in) rfl rfl rfl (by decide) rfl]
  have e1 := r_is_integer n d S
  simp only [run] at e1
  cases d <;> try (k_dat (i_Maker_literal_in, e1, isIntD, objR_eq, and_self, and_self) "S"; done)
  rename_i i
  simp only [inR, decide_eq_false_iff_not, not_and] at h
  by_cases h0 : (0 : Int) ≤ i
  · have h1 := h h0
    k_dat (i_Maker_literal_in, e1, isIntD, objR_eq, fs0, h0, h1, c0, and_self, and_self) "S"
  · k_dat (i_Maker_literal_in, e1, isIntD, objR_eq, fs0, h0, c0, and_self, and_self) "S"
def insOk : D → Bool
  | .int i => decide (0 ≤ i ∧ i ≤ 16)
  | _ => false
def fstOk : D → Bool
  | .tuple ds => decide (ds.length ≤ 16) && ds.all isBitD
  | _ => false
theorem r_newM (ins : Nat) (fst : List Nat) (h1 : ins ≤ 16) (h2 : fst.length ≤ 16) (h3 : ∀ b ∈ fst, b < 2) : run (n + 3) 25 [.p (.int ins), .p (.tuple (fst.map dN))] S = .ok (Mk.o ⟨ins, fst, []⟩ S.length) (S ++ [.lst [], .dcT []]) := by
  rw [run, runF_new (fn := i_Maker___init__) rfl rfl rfl (by decide) rfl rfl]
  have e1 := r_is_integer (n + 1) (.int ins) S
  have e2 := fun (d : D) => r_is_bit n d S
  simp only [run] at e1 e2
  have e3 : ¬ (16 < fst.length) := by omega
  have er : List.replicate (i_Maker___init__.ns - i_Maker___init__.np) (none : Option SV) = [none] := rfl
  rw [er]
  simp only [preF, iniF]
  k_dat (Res.bind, e1, isIntD, Nat.zero_le, h1, isTu, List.length_map, e3, opt, and_self, and_self) "S"
  rw [compX_map dN (fun _ => .bool true) fst (fun b hb => by
    have : isBitD (dN b) = true := by
      have := h3 b hb
      simp only [isBitD, decide_eq_true_eq]
      omega
    k_dat (cturn, e2, this, and_self, and_self) "S") (by unfold sizeLine; omega)]
  k_dat (Res.bind, opt, boolsD_map, List.append_assoc, and_self, and_self) "S"
  have : ((fst.map fun _ => true).all id) = true := by simp
  k_dat (this, Res.bind, opt, Mk.o, Mk.fs, dB, List.length_append, and_self, and_self) "S"
theorem r_newM_ins {d e : D} (h : insOk d = false) : run (n + 3) 25 [.p d, .p e] S = .exc 1 [.str "ins"] S := by
  rw [run, runF_new (fn := i_Maker___init__) rfl rfl rfl (by decide) rfl rfl]
  have e1 := r_is_integer (n + 1) d S
  simp only [run] at e1
  have er : List.replicate (i_Maker___init__.ns - i_Maker___init__.np) (none : Option SV) = [none] := rfl
  rw [er]
  simp only [preF, iniF]
  cases d <;> try (k_dat (Res.bind, e1, isIntD, opt, and_self, and_self) "S"; done)
  rename_i i
  simp only [insOk, decide_eq_false_iff_not, not_and] at h
  by_cases h0 : (0 : Int) ≤ i
  · have h1 := h h0
    k_dat (Res.bind, e1, isIntD, h0, c0, c16, h1, opt, and_self, and_self) "S"
  · k_dat (Res.bind, e1, isIntD, h0, c0, opt, and_self, and_self) "S"
theorem r_newM_fst {d : D} (h : fstOk d = false) : run (n + 3) 25 [.p (.int (1 : Nat)), .p d] S = .exc 1 [.str "firsts"] S := by
  rw [run, runF_new (fn := i_Maker___init__) rfl rfl rfl (by decide) rfl rfl]
  have e1 := r_is_integer (n + 1) (.int (1 : Nat)) S
  have e2 := fun (d : D) => r_is_bit n d S
  simp only [run] at e1 e2
  have er : List.replicate (i_Maker___init__.ns - i_Maker___init__.np) (none : Option SV) = [none] := rfl
  rw [er]
  simp only [preF, iniF]
  cases d <;> try (k_dat (Res.bind, e1, isIntD, isTu, opt, and_self, and_self) "S"; done)
  rename_i ds
  by_cases h0 : ds.length ≤ 16
  · have e3 : ¬ (16 < ds.length) := by omega
    k_dat (Res.bind, e1, isIntD, isTu, e3, opt, and_self, and_self) "S"
    rw [compX_mapD (fun d => .bool (isBitD d)) ds (fun b hb => by k_dat (cturn, e2, and_self, and_self) "S") (by unfold sizeLine; omega)]
    have : ds.all isBitD = false := by
      simp only [fstOk, h0, decide_true, Bool.true_and] at h
      exact h
    k_dat (Res.bind, opt, boolsD_map, List.all_map, Function.comp_def, id, this, and_self, and_self) "S"
  · have e3 : 16 < ds.length := by omega
    k_dat (Res.bind, e1, isIntD, isTu, e3, opt, and_self, and_self) "S"
end
end Vz.L
set_option Elab.async false
set_option linter.all false
set_option maxRecDepth 100000
set_option maxHeartbeats 4000000
namespace Vz.L
open PySem PySem.Spec L2 Vy
def tkStep (s : Mk × List Nat) (p : Nat × Nat) : Mk × List Nat := ((s.1.both (mv s.2 p.1) (mv s.2 p.2)).2, s.2 ++ [(s.1.both (mv s.2 p.1) (mv s.2 p.2)).1])
def taken (m : Mk) (g : Gr) (lits : List Nat) : Mk × List Nat := g.gates.foldl tkStep (m, 0 :: lits)
theorem getD_mem {l : List Nat} {i : Nat} (h : i < l.length) : l.getD i 0 ∈ l := by
  rw [List.getD_eq_getElem?_getD, List.getElem?_eq_getElem h]
  exact List.getElem_mem h
theorem getD_app_lt {a b : List Nat} {i : Nat} (h : i < a.length) : (a ++ b).getD i 0 = a.getD i 0 := by
  rw [List.getD_eq_getElem?_getD, List.getElem?_append_left h, ← List.getD_eq_getElem?_getD]
theorem getD_app_end (a : List Nat) (x : Nat) : (a ++ [x]).getD a.length 0 = x := by
  rw [List.getD_eq_getElem?_getD]
  simp
theorem mv_lt {m : Mk} {fd : List Nat} (h : ∀ l ∈ fd, l < m.top) {l : Nat} (hl : l / 2 < fd.length) : mv fd l < m.top := by
  unfold mv
  have := h _ (getD_mem hl)
  split
  · exact this
  · exact m.opp_lt this
structure TkInv (m : Mk) (r : List (Nat × Nat)) (s : Mk × List Nat) : Prop where
  ok : s.1.Ok
  le : m.Le s.1
  lt : ∀ l ∈ s.2, l < s.1.top
  gok : GOk s.2.length r
  top : s.1.top + 2 * r.length < 900000
  len : s.2.length + r.length < 900000
theorem TkInv.step {m : Mk} {p : Nat × Nat} {r : List (Nat × Nat)} {s : Mk × List Nat} (h : TkInv m (p :: r) s) : BothOk s.1 (mv s.2 p.1) (mv s.2 p.2) (s.1.both (mv s.2 p.1) (mv s.2 p.2)) ∧ TkInv m r (tkStep s p) := by
  have hp := h.gok.half
  have b := h.ok.both (mv_lt h.lt hp.1) (mv_lt h.lt hp.2)
  have t := b.top
  have h1 := h.top
  have h2 := h.len
  rw [List.length_cons] at h1 h2
  refine ⟨b, b.ok, h.le.trans b.le, fun l hl => ?_, ?_, ?_, ?_⟩
  · rcases List.mem_append.mp hl with hl | hl
    · exact b.le.lt (h.lt l hl)
    · rw [List.mem_singleton.mp hl]; exact b.lt
  · show GOk (s.2 ++ [_]).length r
    rw [List.length_append]
    exact h.gok.2.2
  · show (s.1.both (mv s.2 p.1) (mv s.2 p.2)).2.top + 2 * r.length < 900000
    omega
  · show (s.2 ++ [_]).length + r.length < 900000
    rw [List.length_append, List.length_singleton]
    omega
theorem tk_all {m : Mk} : ∀ {r : List (Nat × Nat)} {s : Mk × List Nat}, TkInv m r s → TkInv m [] (r.foldl tkStep s)
  | [], s, h => h
  | p :: r, s, h => by
    rw [List.foldl_cons]
    exact tk_all h.step.2
/-- what is taken in tells what the graph tells -/
theorem tk_sem {m : Mk} {row : List Nat} (hr : row.length + 1 = m.first) : ∀ {r : List (Nat × Nat)} {s : Mk × List Nat} {bs : List Nat}, TkInv m r s → s.2.length = bs.length → (∀ b ∈ bs, b < 2) → (∀ i, i < bs.length → s.1.lit row (s.2.getD i 0) = bs.getD i 0) →
    ∀ i, i < (r.foldl stepG bs).length → (r.foldl tkStep s).1.lit row ((r.foldl tkStep s).2.getD i 0) = (r.foldl stepG bs).getD i 0
  | [], s, bs, h, e, hb, k => k
  | p :: r, s, bs, h, e, hb, k => by
    have hp := h.gok.half
    obtain ⟨b, h'⟩ := h.step
    have f1 : row.length + 1 = s.1.first := by rw [h.le.first]; exact hr
    have mvl : ∀ l, l / 2 < s.2.length → s.1.lit row (mv s.2 l) = lit bs l := fun l hl => by
      have kl := k (l / 2) (by omega)
      have b2 := hb _ (getD_mem (l := bs) (i := l / 2) (by omega))
      unfold mv lit
      split
      · rw [kl]; omega
      · rw [Mk.lit_opp, kl]; omega
    refine tk_sem hr (s := tkStep s p) (bs := stepG bs p) h' ?_ ?_ ?_
    · show (s.2 ++ [_]).length = _
      rw [stepG_len, List.length_append, e]
      rfl
    · intro x hx
      rcases List.mem_append.mp hx with hx | hx
      · exact hb x hx
      · rw [List.mem_singleton.mp hx]
        rcases lit_two bs p.1 with a1 | a1 <;> rcases lit_two bs p.2 with a2 | a2 <;> rw [a1, a2] <;> decide
    · intro i hi
      rw [stepG_len] at hi
      show (s.1.both _ _).2.lit row ((s.2 ++ [_]).getD i 0) = (bs ++ [_]).getD i 0
      by_cases hi2 : i < bs.length
      · rw [getD_app_lt (by omega), getD_app_lt hi2, b.le.lit f1 (h.lt _ (getD_mem (by omega)))]
        exact k i hi2
      · have : i = bs.length := by omega
        subst this
        rw [getD_app_end, ← e, getD_app_end, b.sem row f1, mvl p.1 hp.1, mvl p.2 hp.2]
theorem put_get {S : Sto} {k : Nat} {m : Mk} {c : Cell} : (put S k m ++ [c])[S.length]? = some c := by
  rw [List.getElem?_append_right (by rw [put_len]; exact Nat.le_refl _), put_len]
  simp
theorem put_set {S : Sto} {k : Nat} {m : Mk} {c d : Cell} : (put S k m ++ [c]).set S.length d = put S k m ++ [d] := by
  rw [List.set_append_right _ _ (by rw [put_len]; exact Nat.le_refl _), put_len]
  simp
theorem letGo_put {S : Sto} {k : Nat} {m : Mk} {xs : List D} : letGo true S.length (.ref S.length) (put S k m ++ [.lst xs]) = .ok (.nl xs) (put S k m) := by
  rw [← put_len S k m]
  exact letGo_new _ _
section
variable (n : Nat) (S : Sto)
theorem r_taken {k : Nat} {m : Mk} {g : Gr} {lits : List Nat} (h : At S k m) (ok : m.Ok) (hg : g.Ok) (hl : lits.length + 1 = g.first) (hlt : ∀ l ∈ lits, l < m.top) (ht : m.top < 10000) :
    run (n + 6) 9 [m.o k, .p g.enc, .p (.list (lits.map dN))] S = .ok (.nl ((taken m g lits).2.map dN)) (put S k (taken m g lits).1) := by
  rw [run, runF_eq (fn := i_taken_in) rfl rfl rfl (by decide) rfl]
  have e1 := r_check n g S hg
  have e2 := r_first_gate (n + 4) g S
  simp only [run] at e1 e2
  have sz := hg.sizes
  have sk := h.lt
  have gn := hg.gatN
  have e3 : lits.length = g.first - 1 := by omega
  have t0 : 0 < m.top := by have := ok.sz; unfold Mk.top; omega
  have e5 : (dN 0 :: lits.map dN) = (0 :: lits).map dN := rfl
  have e6 : S ++ [Cell.lst ((0 :: lits).map dN)] = put S k m ++ [Cell.lst ((0 :: lits).map dN)] := by rw [h.self]
  k_dat (i_taken_in, e1, e2, e3, List.length_map, and_self, and_self) "S"
  rw [show (PyData.int ((0 : Nat) : Int)) = dN 0 from rfl, e5, e6]
  k_dat (gi2, and_self, and_self) "S"
  refine then_of (forL_fold dP (fun _ : Mk × List Nat => [some (.obj 0 (m.fs k)), some (.p g.enc), some (.p (.list (lits.map dN))), some (.ref S.length), none, none]) (fun s => put S k s.1 ++ [.lst (s.2.map dN)]) tkStep g.gates
    (fun r s => TkInv m r s) (m, 0 :: lits) ⟨ok, .refl m, fun l hl => ?_, by rw [List.length_cons, hl]; exact hg.gat, by simp only; omega, by simp only [List.length_cons]; omega⟩ ?_).1 ?_
  · rcases List.mem_cons.mp hl with e | hl
    · subst e; exact t0
    · exact hlt l hl
  · rintro ⟨a, b⟩ r ⟨m1, fd⟩ hi
    obtain ⟨bo, hi'⟩ := hi.step
    have hp := hi.gok.half
    have le := hi.le
    have ht := hi.top
    have hlen := hi.len
    rw [List.length_cons] at ht hlen
    have ht : m1.top + 2 * (r.length + 1) < 900000 := ht
    have hlen : fd.length + (r.length + 1) < 900000 := hlen
    have q1 := r_movedR (n + 3) (put S k m1 ++ [.lst (fd.map dN)]) (k := S.length) (fd := fd) put_get hp.1
    have q2 := r_movedR (n + 3) (put S k m1 ++ [.lst (fd.map dN)]) (k := S.length) (fd := fd) put_get hp.2
    have q3 := r_both (n + 2) (put S k m1 ++ [.lst (fd.map dN)]) ((h.put m1).app _) (by omega) (mv_lt hi.lt hp.1) (mv_lt hi.lt hp.2)
    rw [put_app (by rw [put_len]; exact sk), put_put, Mk.o, le.fs] at q3
    simp only [run] at q1 q2 q3
    refine ⟨.inl ?_, hi'⟩
    k_dat (put_get, objR_eq, q1, q2, q3, put_set, tkStep, List.map_append, List.map_cons, List.map_nil, and_self, and_self) "S"
  · k_dat (letGo_put, taken, and_self, and_self) "S"
theorem r_taken_bad {k : Nat} {m : Mk} {g : Gr} {ds : List D} (hg : g.Ok) (hl : ds.length + 1 ≠ g.first) : run (n + 6) 9 [m.o k, .p g.enc, .p (.list ds)] S = .exc 3 [.str "literals"] S := by
  rw [run, runF_eq (fn := i_taken_in) rfl rfl rfl (by decide) rfl]
  have e1 := r_check n g S hg
  have e2 := r_first_gate (n + 4) g S
  simp only [run] at e1 e2
  have : 1 ≤ g.first := by unfold Gr.first; omega
  have e3 : ¬ ds.length = g.first - 1 := by omega
  k_dat (i_taken_in, e1, e2, e3, and_self, and_self) "S"
end
end Vz.L
set_option Elab.async false
set_option linter.all false
set_option maxRecDepth 100000
set_option maxHeartbeats 4000000
namespace Vz.L
open PySem PySem.Spec L2 Vy
/-! ### helpers of the laws -/
def valsG (g : Gr) (r : List Nat) : List Nat := g.gates.foldl stepG (0 :: r)
def endsR (g : Gr) (r : List Nat) : List Nat := (g.lat.map (·.2) ++ g.outs).map (lit (valsG g r))
/-- a free row -/
structure FRow (k : Nat) (r : List Nat) : Prop where
  len : r.length = k
  b : ∀ x ∈ r, x < 2
theorem FRow.rev {k : Nat} {r : List Nat} (h : FRow k r) : FRow k r.reverse := ⟨by rw [List.length_reverse]; exact h.len, fun x hx => h.b x (List.mem_reverse.mp hx)⟩
theorem fits_of {g : Gr} {r : List Nat} (h : g.Ok) (f : FRow (g.ins + g.lat.length) r) : Fits g (r.drop g.ins) (r.take g.ins) := by
  have := f.len
  exact ⟨h, by rw [List.length_take]; omega, by rw [List.length_drop]; omega, fun b hb => f.b b (List.mem_of_mem_take hb), fun b hb => f.b b (List.mem_of_mem_drop hb)⟩
theorem settled_R (g : Gr) (r : List Nat) : settledL g (r.drop g.ins) (r.take g.ins) = valsG g r := by
  unfold settledL valsG
  rw [List.append_assoc, List.take_append_drop]
  rfl
theorem valsG_len (g : Gr) (r : List Nat) : (valsG g r).length = 1 + r.length + g.gates.length := by
  rw [valsG, foldG_len, List.length_cons]
  omega
/-- all rows, ascending -/
def rowStep (lim : Nat) (rows : List (List Nat)) : List (List Nat) := rows.flatMap fun r => (List.range (lim + 1)).map fun k => r ++ [k]
def rowsL (lim : Nat) : Nat → List (List Nat)
  | 0 => [[]]
  | n + 1 => rowStep lim (rowsL lim n)
theorem rowsL_ok (lim : Nat) : ∀ (n : Nat), ∀ r ∈ rowsL lim n, r.length = n ∧ ∀ x ∈ r, x ≤ lim
  | 0, r, h => by
    rw [rowsL, List.mem_singleton] at h
    subst h
    exact ⟨rfl, by simp⟩
  | n + 1, r, h => by
    rw [rowsL, rowStep, List.mem_flatMap] at h
    obtain ⟨q, h1, h2⟩ := h
    obtain ⟨k, h3, rfl⟩ := List.mem_map.mp h2
    obtain ⟨e1, e2⟩ := rowsL_ok lim n q h1
    have := List.mem_range.mp h3
    refine ⟨by simp [e1], fun x hx => ?_⟩
    rcases List.mem_append.mp hx with hx | hx
    · exact e2 x hx
    · rw [List.mem_singleton.mp hx]; omega
theorem rowsL_all (lim : Nat) : ∀ (n : Nat) (r : List Nat), r.length = n → (∀ x ∈ r, x ≤ lim) → r ∈ rowsL lim n
  | 0, r, h, _ => by rw [List.eq_nil_of_length_eq_zero h]; simp [rowsL]
  | n + 1, r, h, hb => by
    have hne : r ≠ [] := by intro e; rw [e] at h; simp at h
    rw [rowsL, rowStep, List.mem_flatMap]
    refine ⟨r.dropLast, rowsL_all lim n _ (by rw [List.length_dropLast, h]; omega) fun x hx => hb x ((List.dropLast_sublist r).subset hx), List.mem_map.mpr ⟨r.getLast hne, List.mem_range.mpr (by have := hb _ (List.getLast_mem hne); omega), List.dropLast_concat_getLast hne⟩⟩
theorem rowStep_len (lim : Nat) (rows : List (List Nat)) : (rowStep lim rows).length = rows.length * (lim + 1) := by
  unfold rowStep
  induction rows with
  | nil => simp
  | cons r rs ih => rw [List.flatMap_cons, List.length_append, ih, List.length_map, List.length_range, List.length_cons, Nat.add_mul]; omega
theorem rowsL_len (lim : Nat) : ∀ n, (rowsL lim n).length = (lim + 1) ^ n
  | 0 => rfl
  | n + 1 => by rw [rowsL, rowStep_len, rowsL_len lim n, Nat.pow_succ]
theorem rowsL_F {n : Nat} {r : List Nat} (h : r ∈ rowsL 1 n) : FRow n r := by
  obtain ⟨a, b⟩ := rowsL_ok 1 n r h
  exact ⟨a, fun x hx => by have := b x hx; omega⟩
theorem in_two (d : Nat) (a b : Nat) : cmpD .In (.int (d : Int)) (.tuple [.int (a : Int), .int (b : Int)]) = some (decide (d = a ∨ d = b)) := by
  rw [cmpD_int, if_pos ⟨rfl, rfl⟩]
  congr 1
  rw [Bool.eq_iff_iff]
  simp [PyData.eqv]
  omega
section
variable (n : Nat) (S : Sto)
theorem r_law_endsR {g : Gr} {r : List Nat} (h : g.Ok) (f : FRow (g.ins + g.lat.length) r) : run (n + 3) 18 [.p g.enc, .p (.tuple (r.map dN))] S = .ok (.p (dB (endsR g r))) S := by
  have := r_law_ends n g S (fits_of h f)
  rw [List.take_append_drop] at this
  rw [this, laterL, outsL, settled_R, endsR, List.map_append, List.map_map]
  rfl
theorem r_law_free {g : Gr} : run (n + 1) 19 [.p g.enc] S = .ok (.p (.int (g.ins + g.lat.length : Nat))) S := by
  rw [run, runF_eq (fn := i__law_free) rfl rfl rfl (by decide) rfl]
  k_dat (i__law_free, gi0, gi1, List.length_map, and_self, and_self) "S"
theorem r_at_once (a b : Nat) : run (n + 1) 22 [.p (.int a), .p (.int b)] S = .ok (.p (dO (once a b))) S := by
  rw [run, runF_eq (fn := i__law_at_once) rfl rfl rfl (by decide) rfl]
  have key : (a / 2 = b / 2 ∧ a ≠ b) ↔ a = opp b := by
    unfold opp
    split <;> omega
  unfold once
  by_cases h0 : 0 = a ∨ 0 = b
  · have h1 : a = 0 ∨ b = 0 ∨ a = opp b := by omega
    rw [if_pos h1]
    k_dat (i__law_at_once, in_two, h0, dO, and_self, and_self) "S"
  · by_cases h2 : a / 2 = b / 2
    · by_cases h3 : a = b
      · subst h3
        have h1 : ¬ (a = 0 ∨ a = 0 ∨ a = opp a) := by
          rintro (z | z | z)
          · omega
          · omega
          · exact opp_ne a z.symm
        rw [if_neg h1, if_pos (.inr rfl)]
        k_dat (i__law_at_once, in_two, h0, dO, or_true, and_self, and_self) "S"
      · have h1 : a = 0 ∨ b = 0 ∨ a = opp b := .inr (.inr (key.mp ⟨h2, h3⟩))
        rw [if_pos h1]
        k_dat (i__law_at_once, in_two, h0, h2, h3, dO, and_self, and_self) "S"
    · have h1 : ¬ (a = 0 ∨ b = 0 ∨ a = opp b) := by
        rintro (z | z | z)
        · omega
        · omega
        · exact h2 (key.mpr z).1
      rw [if_neg h1]
      by_cases h4 : a = 1 ∨ a = b
      · rw [if_pos h4]
        k_dat (i__law_at_once, in_two, h0, h2, h4, dO, and_self, and_self) "S"
      · rw [if_neg h4]
        by_cases h5 : b = 1
        · rw [if_pos h5]
          subst h5
          have h0' : ¬ 0 = a := by omega
          k_dat (i__law_at_once, in_two, h0', or_false, h2, h4, dO, and_self, and_self) "S"
        · rw [if_neg h5]
          k_dat (i__law_at_once, in_two, h0, h2, h4, h5, dO, and_self, and_self) "S"
theorem flat_rows (lim : Nat) (r : List Nat) : (List.range (lim + 1)).map (fun k => dB (r ++ [k])) = ((List.range (lim + 1)).map fun k => r ++ [k]).map dB := by rw [List.map_map]; rfl
theorem r_rows {many lim2 : Nat} (h : (lim2 + 1) ^ many < 100000) (hm : many < 1000) (hl : lim2 < 100000) : run (n + 1) 15 [.p (.int many), .p (.int lim2)] S = .ok (.p (.list ((rowsL lim2 many).map dB))) S := by
  rw [run, runF_eq (fn := i__law_rows) rfl rfl rfl (by decide) rfl]
  k_dat (i__law_rows, range_dN, and_self, and_self) "S"
  have step : ∀ (l : List Nat) (x : Nat), l.foldl (fun rs _ => rowStep lim2 rs) (rowsL lim2 x) = rowsL lim2 (x + l.length) := by
    intro l
    induction l with
    | nil => intro x; rfl
    | cons a r ih => intro x; rw [List.foldl_cons, show rowStep lim2 (rowsL lim2 x) = rowsL lim2 (x + 1) from rfl, ih, List.length_cons]; congr 1; omega
  refine then_of (forL_fold dN (fun rs : List (List Nat) => [some (.p (.int many)), some (.p (.int lim2)), some (.p (.list (rs.map dB))), none, none, none, none]) (fun _ => S) (fun rs _ => rowStep lim2 rs) (List.range many) (fun r rs => rs.length * (lim2 + 1) ^ r.length < 100000 ∧ ∀ q ∈ rs, q.length + r.length < 1000) [[]] ?_ ?_).1 ?_
  · rw [List.length_range]
    exact ⟨by simpa using h, fun q hq => by rw [List.mem_singleton.mp hq]; simpa using hm⟩
  · rintro x r rs ⟨k1, kl⟩
    rw [List.length_cons, Nat.pow_succ] at k1
    have k2 : rs.length * (lim2 + 1) < 100000 := by
      refine Nat.lt_of_le_of_lt ?_ k1
      rw [Nat.mul_comm ((lim2 + 1) ^ r.length), ← Nat.mul_assoc]
      exact Nat.le_mul_of_pos_right _ (Nat.pow_pos (by omega))
    refine ⟨.inl ?_, ?_⟩
    · k_dat (range_dN, and_self, and_self) "S"
      refine (congrArg (thenS _ _ _) (forL_fold dB (fun acc : List (List Nat) => [some (.p (.int many)), some (.p (.int lim2)), some (.p (.list (rs.map dB))), some (.p (dN x)), some (.p (.list (acc.map dB))), none, none]) (fun _ => S) (fun acc r => acc ++ (List.range (lim2 + 1)).map fun k => r ++ [k]) rs (fun r acc => acc.length + r.length * (lim2 + 1) < 100000 ∧ ∀ q ∈ r, q.length < 1000) [] ⟨by simpa using k2, fun q hq => by have := kl q hq; omega⟩ ?_).1).trans ?_
      · rintro row r' acc ⟨q1, q2⟩
        rw [List.length_cons, Nat.add_mul] at q1
        have q3 := q2 row List.mem_cons_self
        refine ⟨.inl ?_, by rw [List.length_append, List.length_map, List.length_range]; omega, fun q hq => q2 q (List.mem_cons_of_mem _ hq)⟩
        rw [show dB row = .tuple (row.map dN) from rfl]
        k_dat (range_dN, and_self, and_self) "S"
        rw [compX_map dN (fun k => dB (row ++ [k])) (List.range (lim2 + 1)) (fun k _ => by
          k_dat (cturn, dB, List.map_append, and_self, and_self) "S"
          rfl) (by rw [List.length_range]; unfold sizeLine; omega)]
        rw [flat_rows]
        k_dat (List.map_append, and_self, and_self) "S"
      · have : ∀ (l acc : List (List Nat)), l.foldl (fun acc r => acc ++ (List.range (lim2 + 1)).map fun k => r ++ [k]) acc = acc ++ rowStep lim2 l := by
          intro l
          induction l with
          | nil => intro acc; simp [rowStep]
          | cons a r ih => intro acc; rw [List.foldl_cons, ih, List.append_assoc]; rfl
        rw [this]
        k_dat (range_dN, and_self, and_self) "S"
    · refine ⟨by rw [rowStep_len, Nat.mul_assoc, Nat.mul_comm (lim2 + 1)]; exact k1, fun q hq => ?_⟩
      rw [rowStep, List.mem_flatMap] at hq
      obtain ⟨q0, h1, h2⟩ := hq
      obtain ⟨k, _, rfl⟩ := List.mem_map.mp h2
      have := kl q0 h1
      rw [List.length_cons] at this
      rw [List.length_append, List.length_singleton]
      omega
  · have := step (List.range many) 0
    rw [List.length_range, Nat.zero_add] at this
    rw [show ([[]] : List (List Nat)) = rowsL lim2 0 from rfl, this]
    k_dat (range_dN, and_self, and_self) "S"
theorem r_bits_rows {many : Nat} (h : many ≤ 16) : run (n + 2) 20 [.p (.int many)] S = .ok (.nl ((rowsL 1 many).map dB)) S := by
  rw [run, runF_eq (fn := i__law_bits_rows) rfl rfl rfl (by decide) rfl]
  have h2 : (1 + 1) ^ many ≤ 2 ^ 16 := Nat.pow_le_pow_right (by decide) h
  have e1 := r_rows n S (many := many) (lim2 := 1) (by omega) (by omega) (by omega)
  simp only [run] at e1
  k_dat (i__law_bits_rows, e1, and_self, and_self) "S"
  rw [compX_map dB dB (rowsL 1 many) (fun r _ => by
    rw [show dB r = .tuple (r.map dN) from rfl]
    k_dat (cturn, and_self, and_self) "S") (by rw [rowsL_len]; unfold sizeLine; omega)]
  k_dat (range_dN, and_self, and_self) "S"
end
end Vz.L
set_option Elab.async false
set_option linter.all false
set_option maxRecDepth 100000
set_option maxHeartbeats 4000000
namespace Vz.L
open PySem PySem.Spec L2 Vy
/-! ### both again, and the table of what is told -/
theorem once_swap (a b : Nat) : once b a = once a b := by
  have k : (a = opp b) ↔ (b = opp a) := ⟨fun h => by rw [h, opp_opp], fun h => by rw [h, opp_opp]⟩
  have o1 : opp 1 = 0 := rfl
  unfold once
  by_cases h1 : a = 0 ∨ b = 0 ∨ a = opp b
  · rw [if_pos h1, if_pos (by rcases h1 with h | h | h; exact .inr (.inl h); exact .inl h; exact .inr (.inr (k.mp h)))]
  · have h1' : ¬ (b = 0 ∨ a = 0 ∨ b = opp a) := by
      rintro (h | h | h)
      · exact h1 (.inr (.inl h))
      · exact h1 (.inl h)
      · exact h1 (.inr (.inr (k.mpr h)))
    rw [if_neg h1, if_neg h1']
    by_cases ha : a = 1
    · by_cases hb : b = 1
      · rw [if_pos (.inl hb), if_pos (.inl ha), ha, hb]
      · rw [if_neg (by omega), if_pos ha, if_pos (.inl ha)]
    · by_cases hab : a = b
      · rw [if_pos (.inr hab.symm), if_pos (.inr hab), hab]
      · by_cases hb : b = 1
        · rw [if_pos (.inl hb), if_neg (by omega), if_pos hb]
        · rw [if_neg (by omega), if_neg ha, if_neg (by omega), if_neg hb]
theorem Mk.both_again (m : Mk) (a b : Nat) : (m.both a b).2.both b a = m.both a b := by
  unfold Mk.both
  cases ho : once a b with
  | some l => simp only [once_swap a b, ho]
  | none =>
    simp only
    cases hf : fnd (max a b, min a b) m.first m.gates with
    | some l => simp only [once_swap a b, ho, Nat.max_comm b a, Nat.min_comm b a, hf]
    | none =>
      have e : fnd (max a b, min a b) (Mk.first { m with gates := m.gates ++ [(max a b, min a b)] }) (m.gates ++ [(max a b, min a b)]) = some m.top := fnd_app hf
      simp only [once_swap a b, ho, Nat.max_comm b a, Nat.min_comm b a, e]
def kvF (f : Nat → List Nat) (L : List Nat) : List (Key × D) := L.map fun l : Nat => (.inl (l : Int), dB (f l))
theorem inl_eq (a b : Nat) : ((Sum.inl (a : Int) : Key) = .inl (b : Int)) = (a = b) := by
  rw [eq_iff_iff]
  constructor
  · intro e
    injection e with e
    omega
  · rintro rfl; rfl
theorem kvF_get (f : Nat → List Nat) : ∀ (L : List Nat) (l : Nat), kvGet (kvF f L) (.inl (l : Int)) = if l ∈ L then some (dB (f l)) else none
  | [], l => rfl
  | a :: r, l => by
    have ih := kvF_get f r l
    unfold kvGet at ih ⊢
    rw [kvF, List.map_cons, List.find?_cons]
    by_cases h : a = l
    · subst h; simp
    · have h' : ¬ l = a := fun e => h e.symm
      simp only [inl_eq, h, decide_false, List.mem_cons, h', false_or]
      exact ih
theorem kvF_any (f : Nat → List Nat) (L : List Nat) (l : Nat) : ((kvF f L).any fun q => decide (q.1 = .inl (l : Int))) = decide (l ∈ L) := by
  unfold kvF
  rw [List.any_map]
  induction L with
  | nil => rfl
  | cons a r ih =>
    rw [List.any_cons, ih]
    by_cases h : a = l
    · subst h; simp
    · have h' : ¬ l = a := fun e => h e.symm
      simp only [Function.comp, inl_eq, h, decide_false, Bool.false_or, List.mem_cons, h', false_or]
theorem kvF_put (f : Nat → List Nat) (L : List Nat) (l : Nat) : kvPut (kvF f L) (.inl (l : Int)) (dB (f l)) = kvF f (ddp L l) := by
  unfold kvPut ddp
  rw [kvF_any]
  by_cases h : l ∈ L
  · simp only [h, decide_true, if_true]
    clear h
    unfold kvF
    induction L with
    | nil => rfl
    | cons a r ih =>
      rw [List.map_cons, List.map_cons, ih]
      congr 1
      by_cases e : a = l
      · subst e; simp
      · simp only [inl_eq, e, if_false]
  · simp only [h, decide_false, Bool.false_eq_true, if_false]
    simp [kvF]
theorem kvF_len (f : Nat → List Nat) (L : List Nat) : (kvF f L).length = L.length := List.length_map _
theorem kvF_congr {f g : Nat → List Nat} {L : List Nat} (h : ∀ l ∈ L, f l = g l) : kvF f L = kvF g L := List.map_congr_left fun l hl => by rw [h l hl]
theorem kvF_ints (f : Nat → List Nat) : ∀ L : List Nat, intsK (kvF f L) = some (L.map fun k : Nat => (k : Int))
  | [] => rfl
  | a :: r => by
    show (intsK (kvF f r)).map ((a : Int) :: ·) = _
    rw [kvF_ints f r]
    rfl
theorem ddp_len (L : List Nat) (l : Nat) : (ddp L l).length ≤ L.length + 1 := by
  unfold ddp
  split <;> simp
theorem mem_ddp {L : List Nat} {l x : Nat} : x ∈ ddp L l ↔ x ∈ L ∨ x = l := by
  unfold ddp
  split
  · rename_i h
    exact ⟨.inl, fun e => e.elim id fun e => e ▸ h⟩
  · simp
abbrev keysL (L : List Nat) : List D := (sortI (L.map fun k : Nat => (k : Int))).map .int
theorem keysL_len (L : List Nat) : (keysL L).length = L.length := by
  unfold keysL sortI
  rw [List.length_map, List.length_mergeSort, List.length_map]
theorem sortedF {S : Sto} {k : Nat} {f : Nat → List Nat} {L : List Nat} (h : S[k]? = some (.dct (kvF f L))) (hl : L.length < 64) : biR S .sorted_ [.ref k] = some (.nl (keysL L)) := by
  rw [bi_sorted, dat_ref, dic_ref, h]
  simp only [Option.bind_some]
  rw [kvF_ints]
  simp only [Option.bind_some]
  rw [if_pos (by rw [List.length_map]; exact hl)]
def val (rows : List (List Nat)) (m : Mk) (l : Nat) : List Nat := rows.map fun r => m.lit r l
theorem val_len (rows : List (List Nat)) (m : Mk) (l : Nat) : (val rows m l).length = rows.length := List.length_map _
theorem val_b {rows : List (List Nat)} {m : Mk} {l : Nat} : ∀ b ∈ val rows m l, b < 2 := by
  intro b hb
  obtain ⟨r, _, rfl⟩ := List.mem_map.mp hb
  exact lit_lt _ _
theorem Mk.Le.val {m m' : Mk} (h : m.Le m') {rows : List (List Nat)} (hr : ∀ r ∈ rows, r.length + 1 = m.first) {l : Nat} (hl : l < m.top) : val rows m' l = val rows m l := List.map_congr_left fun r h1 => h.lit (hr r h1) hl
theorem at_val {rows : List (List Nat)} {m : Mk} {l k : Nat} (h : k < rows.length) : (val rows m l).getD k 0 = m.lit (rows.getD k []) l := by
  rw [List.getD_eq_getElem?_getD, List.getD_eq_getElem?_getD, val, List.getElem?_map, List.getElem?_eq_getElem h]
  rfl
theorem range_rows (rows : List (List Nat)) (f : List Nat → Nat) : (List.range rows.length).map (fun k => dN (f (rows.getD k []))) = (rows.map f).map dN := by
  rw [List.map_map]
  refine List.ext_getElem (by simp) fun i h1 h2 => ?_
  have : i < rows.length := by simpa using h1
  simp [List.getD_eq_getElem?_getD, List.getElem?_eq_getElem this]
section
variable (n : Nat) (ds : List Nat) (S : Sto)
theorem r_pickL {a : Nat} (ha : a < 1000000) {L : List Nat} (hl : L ≠ []) : ∃ l ∈ L, run (n + 2) 13 [.ref 0, .p (.list (keysL L))] (bx ds a :: S) = .ok (.p (.int l)) (bx ds (a + 1) :: S) := by
  obtain ⟨x, hx, e⟩ := r_pick n ds S (xs := keysL L) ha (by rw [keysL_len]; exact List.length_pos_iff.mpr hl)
  obtain ⟨i, h1, rfl⟩ := List.mem_map.mp hx
  obtain ⟨l, h2, rfl⟩ := List.mem_map.mp (sortI_mem.mp h1)
  exact ⟨l, h2, e⟩
theorem r_sameO {d : D} {k w : Nat} (h : SD k w d) (hk : k ≤ 60) (hw : w ≤ 16777216) : run (n + 1) 14 [.p d, .p d] S = .ok (.p (.bool true)) S := by
  rw [run, runF_eq (fn := i__law_same) rfl rfl rfl (by decide) rfl]
  have e1 := same_repr (S := S) h hk hw
  have e2 : cmpD .Eq (.str d.shown) (.str d.shown) = some true := by
    rw [cmpD_eq, if_pos ⟨shaped_str _ h.so, shaped_str _ h.so⟩]
    simp [PyData.eqv]
  simp only [i__law_same, exSS_cons, exS_ret, evE_cmp, evE_bi, evEs_cons, evEs_nil, evE_var, varR_p, List.getElem?_cons_zero, List.getElem?_cons_succ, bk_ok, evCs_one, e1, opt_some, cmpR_p, e2, stk_ok, retR_p, optK_some, then_ret, fin_ret, letGo_p, take_len, List.cons_append, List.nil_append]
end
theorem sd_dO {o : Option Nat} (h : ∀ l, o = some l → l < 1000000000) : SD 0 10 (dO o) := by
  cases o with
  | none => exact SD.non.mono (Nat.le_refl _) (by decide)
  | some l => exact SD.int (h l rfl)
/-- what is made of a kind -/
def madeM (m : Mk) (kind a b c : Nat) : Nat × Mk := if kind = 0 then m.both a b else if kind = 1 then m.either a b else if kind = 2 then m.just a b else if kind = 3 then m.picked a b c else m.all [a, b, c]
def madeF (m : Mk) (kind a b c : Nat) (r : List Nat) : Nat := if kind = 0 then m.lit r a * m.lit r b else if kind = 1 then max (m.lit r a) (m.lit r b) else if kind = 2 then (m.lit r a + m.lit r b) % 2 else if kind = 3 then (if m.lit r a = 1 then m.lit r b else m.lit r c) else m.lit r a * m.lit r b * m.lit r c
theorem Mk.Ok.made {m : Mk} (h : m.Ok) (kind : Nat) {a b c : Nat} (ha : a < m.top) (hb : b < m.top) (hc : c < m.top) : OpOk m (madeM m kind a b c) (madeF m kind a b c) := by
  have e : madeF m kind a b c = fun r => madeF m kind a b c r := rfl
  unfold madeM
  by_cases k0 : kind = 0
  · rw [if_pos k0, e]; simp only [madeF, k0, if_true]; exact h.bothO ha hb
  · by_cases k1 : kind = 1
    · rw [if_neg k0, if_pos k1, e]; simp only [madeF, k0, k1, if_false, if_true]; exact h.eitherO ha hb
    · by_cases k2 : kind = 2
      · rw [if_neg k0, if_neg k1, if_pos k2, e]; simp only [madeF, k0, k1, k2, if_false, if_true]; exact h.justO ha hb
      · by_cases k3 : kind = 3
        · rw [if_neg k0, if_neg k1, if_neg k2, if_pos k3, e]; simp only [madeF, k0, k1, k2, k3, if_false, if_true]; exact h.pickedO ha hb hc
        · rw [if_neg k0, if_neg k1, if_neg k2, if_neg k3, e]; simp only [madeF, k0, k1, k2, k3, if_false]; exact h.all3 ha hb hc
end Vz.L
set_option Elab.async false
set_option linter.all false
set_option maxRecDepth 100000
set_option maxHeartbeats 4000000
namespace Vz.L
open PySem PySem.Spec L2 Vy
theorem getD_dN {rows : List (List Nat)} {m : Mk} {l k : Nat} (h : k < rows.length) : atI ((val rows m l).map dN) (k : Int) = some (.int (m.lit (rows.getD k []) l : Nat)) := by
  rw [at_dN (by rw [val_len]; exact h), at_val h]
theorem kvF_at {f : Nat → List Nat} {L : List Nat} {l : Nat} (h : l ∈ L) : kvGet (kvF f L) (.inl (l : Int)) = some (.tuple ((f l).map dN)) := by
  rw [kvF_get, if_pos h]
  rfl
theorem litOk (m : Mk) (r : List Nat) (l : Nat) (b : Int) : mulOk (m.lit r l : Nat) b = true := mulOkN (Nat.lt_trans (lit_lt _ _) (by decide))
theorem litOk2 (m : Mk) (r : List Nat) (l l2 : Nat) (b : Int) : mulOk ((m.lit r l * m.lit r l2 : Nat) : Int) b = true := by
  refine mulOkN ?_
  rcases m.lit_two r l with e | e <;> rcases m.lit_two r l2 with e2 | e2 <;> rw [e, e2] <;> decide
section
variable (n : Nat) (S : Sto)
theorem r_made {k t : Nat} {m0 m : Mk} (ok : m.Ok) (h : At S k m0) (le : m0.Le m) (hs : m.top < 900000) {rows : List (List Nat)} (hr : rows.length < 1000) {L : List Nat} (ht : (put S k m)[t]? = some (.dct (kvF (val rows m) L))) {a b c : Nat} (ha : a ∈ L) (hb : b ∈ L) (hc : c ∈ L) (hL : ∀ l ∈ L, l < m.top) (kind : Nat) :
    run (n + 6) 23 [m0.o k, .ref t, .p (.int kind), .p (.int a), .p (.int b), .p (.int c)] (put S k m) = .ok (.p (.tuple [.int (madeM m kind a b c).1, dB (rows.map (madeF m kind a b c))])) (put S k (madeM m kind a b c).2) := by
  rw [run, runF_eq (fn := i__law_made) rfl rfl rfl (by decide) rfl]
  have ka := kvF_at (f := val rows m) ha
  have kb := kvF_at (f := val rows m) hb
  have kc := kvF_at (f := val rows m) hc
  have la := hL a ha
  have lb := hL b hb
  have lc := hL c hc
  have ef : ∀ (m1 : Mk), List.take (put S k m).length (put S k m1) = put S k m1 := fun m1 => List.take_of_length_le (by rw [put_len, put_len]; exact Nat.le_refl _)
  have er : lrngD .rng1 [.int ((rows.length : Nat) : Int)] = some (.nl ((List.range rows.length).map dN)) := by
    unfold lrngD
    k_dat (range_dN, and_self, and_self) "S"
  have e1 := r_both' (n + 2) S h le (by omega) la lb
  have e2 := r_either' (n + 1) S h le (by omega) la lb
  have e3 := r_just' (n + 1) S ok h le (by omega) la lb
  have e4 := r_picked' n S ok h le (by omega) la lb lc
  have e5 := r_all' (n + 1) S ok h le (by omega) (ls := [a, b, c]) (fun l hl => by
    simp only [List.mem_cons, List.not_mem_nil, or_false] at hl
    rcases hl with rfl | rfl | rfl <;> assumption) (by simp)
  simp only [run, Mk.o, List.map_cons, List.map_nil] at e1 e2 e3 e4 e5
  by_cases k0 : kind = 0
  · subst k0
    k_dat (i__law_made, ht, ka, kb, kc, val_len, List.length_map, er, objR_eq, e1, and_self, and_self) "S"
    rw [compX_map dN (fun i => dN (m.lit (rows.getD i []) a * m.lit (rows.getD i []) b)) (List.range rows.length) (fun i hi => by
      have hi := List.mem_range.mp hi
      k_dat (cturn, getD_dN, litOk, and_self, and_self) "S") (by rw [List.length_range]; unfold sizeLine; omega)]
    rw [range_rows rows fun r => m.lit r a * m.lit r b]
    k_dat (ef, madeM, madeF, dB, and_self, and_self) "S"
    rfl
  · by_cases k1 : kind = 1
    · subst k1
      k_dat (i__law_made, k0, ht, ka, kb, kc, val_len, List.length_map, er, objR_eq, e2, and_self, and_self) "S"
      rw [compX_map dN (fun i => dN (max (m.lit (rows.getD i []) a) (m.lit (rows.getD i []) b))) (List.range rows.length) (fun i hi => by
        have hi := List.mem_range.mp hi
        k_dat (cturn, getD_dN, litOk, and_self, and_self) "S") (by rw [List.length_range]; unfold sizeLine; omega)]
      rw [range_rows rows fun r => max (m.lit r a) (m.lit r b)]
      k_dat (ef, madeM, madeF, dB, and_self, and_self) "S"
      rfl
    · by_cases k2 : kind = 2
      · subst k2
        k_dat (i__law_made, k0, k1, ht, ka, kb, kc, val_len, List.length_map, er, objR_eq, e3, and_self, and_self) "S"
        rw [compX_map dN (fun i => dN ((m.lit (rows.getD i []) a + m.lit (rows.getD i []) b) % 2)) (List.range rows.length) (fun i hi => by
          have hi := List.mem_range.mp hi
          k_dat (cturn, getD_dN, litOk, and_self, and_self) "S") (by rw [List.length_range]; unfold sizeLine; omega)]
        rw [range_rows rows fun r => (m.lit r a + m.lit r b) % 2]
        k_dat (ef, madeM, madeF, dB, and_self, and_self) "S"
        rfl
      · by_cases k3 : kind = 3
        · subst k3
          k_dat (i__law_made, k0, k1, k2, ht, ka, kb, kc, val_len, List.length_map, er, objR_eq, e4, and_self, and_self) "S"
          rw [compX_map dN (fun i => dN (if m.lit (rows.getD i []) a = 1 then m.lit (rows.getD i []) b else m.lit (rows.getD i []) c)) (List.range rows.length) (fun i hi => by
            have hi := List.mem_range.mp hi
            by_cases hq : m.lit (rows.getD i []) a = 1
            · k_dat (cturn, getD_dN, hq, and_self, and_self) "S"
            · k_dat (cturn, getD_dN, hq, and_self, and_self) "S") (by rw [List.length_range]; unfold sizeLine; omega)]
          rw [range_rows rows fun r => if m.lit r a = 1 then m.lit r b else m.lit r c]
          k_dat (ef, madeM, madeF, dB, and_self, and_self) "S"
          rfl
        · k_dat (i__law_made, k0, k1, k2, k3, ht, ka, kb, kc, val_len, List.length_map, er, objR_eq, e5, and_self, and_self) "S"
          rw [compX_map dN (fun i => dN (m.lit (rows.getD i []) a * m.lit (rows.getD i []) b * m.lit (rows.getD i []) c)) (List.range rows.length) (fun i hi => by
            have hi := List.mem_range.mp hi
            k_dat (cturn, getD_dN, litOk, litOk2, and_self, and_self) "S") (by rw [List.length_range]; unfold sizeLine; omega)]
          rw [range_rows rows fun r => m.lit r a * m.lit r b * m.lit r c]
          have fe : madeF m kind a b c = fun r => m.lit r a * m.lit r b * m.lit r c := by funext r; simp only [madeF, k0, k1, k2, k3, if_false]
          k_dat (k0, k1, k2, k3, ef, madeM, fe, dB, and_self, and_self) "S"
end
end Vz.L
set_option Elab.async false
set_option linter.all false
set_option maxRecDepth 100000
set_option maxHeartbeats 4000000
namespace Vz.L
open PySem PySem.Spec L2 Vy
/-! ### the law's pieces -/
def LawOk (F : FT) (ss : SS) (env : Ev) (S : Sto) : Prop := ∃ S', exSS F lim ss env S = .ret (.p (.bool true)) S'
theorem LawOk.of {F : FT} {ss ss' : SS} {env env' : Ev} {S S' : Sto} (e : exSS F lim ss env S = exSS F lim ss' env' S') (h : LawOk F ss' env' S') : LawOk F ss env S := by
  obtain ⟨S2, h⟩ := h
  exact ⟨S2, e.trans h⟩
theorem sd_dB {bs : List Nat} (h : ∀ b ∈ bs, b < 1000000000) (hl : bs.length ≤ 10000) : SD 1 120003 (dB bs) := by
  have z : SD 1 ((bs.map dN).length * (10 + 2) + 3) (.tuple (bs.map dN)) := SD.tup (k := 0) (w := 10) (ds := bs.map dN) fun d hd => by
    obtain ⟨b, hb, rfl⟩ := List.mem_map.mp hd
    exact SD.int (h b hb)
  exact z.mono (Nat.le_refl _) (by rw [List.length_map]; omega)
theorem shaped_dB {bs : List Nat} (h : ∀ b ∈ bs, b < 1000000000) (hl : bs.length ≤ 10000) : SeqAt.shaped (dB bs) = true := (sd_dB h hl).shaped (by decide)
theorem ne_self {k w : Nat} {d : D} (h : SD k w d) (hk : k ≤ 64) : cmpD .NotEq d d = some false := by
  rw [cmpD_ne, if_pos ⟨h.shaped hk, h.shaped hk⟩, SeqAt.eqv_refl d h.la]
  rfl
theorem ne_dB {bs : List Nat} (h : ∀ b ∈ bs, b < 1000000000) (hl : bs.length ≤ 10000) : cmpD .NotEq (.tuple (bs.map dN)) (.tuple (bs.map dN)) = some false := ne_self (sd_dB h hl) (by decide)
theorem ne_nil : cmpD .NotEq (.list []) (.list []) = some false := by
  rw [cmpD_ne, if_pos ⟨by simp [SeqAt.shaped, PyData.canLay0, PyData.canLayAll0, PyData.depth, PyData.depthAll], by simp [SeqAt.shaped, PyData.canLay0, PyData.canLayAll0, PyData.depth, PyData.depthAll]⟩]
  simp [PyData.eqv, PyData.eqvAll]
theorem ne_lN {bs : List Nat} (h : ∀ b ∈ bs, b < 1000000000) (hl : bs.length ≤ 10000) : cmpD .NotEq (.list (bs.map dN)) (.list (bs.map dN)) = some false := by
  have z : SD 1 ((bs.map dN).length * (10 + 2) + 3) (.tuple (bs.map dN)) := SD.tup (k := 0) (w := 10) (ds := bs.map dN) fun d hd => by
    obtain ⟨b, hb, rfl⟩ := List.mem_map.mp hd
    exact SD.int (h b hb)
  have la : PyData.canLay0 (.list (bs.map dN)) = true := by
    have := z.la
    simp only [PyData.canLay0] at this ⊢
    exact this
  have dp : PyData.depth (.list (bs.map dN)) ≤ 1 := by
    have := z.dp
    simp only [PyData.depth] at this ⊢
    exact this
  have sh : SeqAt.shaped (.list (bs.map dN)) = true := by
    unfold SeqAt.shaped
    rw [la, Bool.true_and, decide_eq_true_eq]
    omega
  rw [cmpD_ne, if_pos ⟨sh, sh⟩, SeqAt.eqv_refl _ la]
  rfl
def toldK (ws : List (Nat × Str)) : Res R → Res R
  | .ok r S => .ok r S
  | .exc c fs S => (match ws.lookup c, fs with
    | some w, [d] => .ok (.nl [.str w, d]) S
    | _, _ => .bad)
  | .bad => .bad
theorem evE_toldK {F : FT} {ws : List (Nat × Str)} {a : E} {env : Ev} {S : Sto} : evE F (.told ws a) env S = toldK ws (evE F a env S) := by
  rw [evE_told]
  cases evE F a env S <;> rfl
theorem toldK_1 {d : D} {S : Sto} : toldK told_ws (.exc 1 [d] S) = .ok (.nl [.str "bad thing", d]) S := rfl
theorem toldK_3 {d : D} {S : Sto} : toldK told_ws (.exc 3 [d] S) = .ok (.nl [.str "refused", d]) S := rfl
theorem ne_str (x : Str) (h : PyData.strOk x = true) : cmpD .NotEq (.str x) (.str x) = some false := by
  rw [cmpD_ne, if_pos ⟨shaped_str x h, shaped_str x h⟩]
  simp [PyData.eqv]
theorem shaped_2 (x y : Str) (h : PyData.strOk x = true) (h2 : PyData.strOk y = true) : SeqAt.shaped (.list [.str x, .str y]) = true := by
  simp [SeqAt.shaped, PyData.canLay0, PyData.canLayAll0, PyData.depth, PyData.depthAll, h, h2]
theorem ne_2 (x y : String) : cmpD .NotEq (.list [.str x, .str y]) (.list [.str x, .str y]) = some false := by
  have h := shaped_2 x y (strOk_of x) (strOk_of y)
  rw [cmpD_ne, if_pos ⟨h, h⟩]
  simp [PyData.eqv, PyData.eqvAll]
theorem eq_2 (x y : String) : cmpD .Eq (.list [.str x, .str y]) (.list [.str x, .str y]) = some true := by
  have h := shaped_2 x y (strOk_of x) (strOk_of y)
  rw [cmpD_eq, if_pos ⟨h, h⟩]
  simp [PyData.eqv, PyData.eqvAll]
theorem drop_dN (xs : List Nat) (k : Nat) : (xs.map dN).drop k = (xs.drop k).map dN := List.map_drop.symm
theorem flat_nil {α β : Type} (l : List α) : (l.flatMap fun _ => ([] : List β)) = [] := by induction l with
  | nil => rfl
  | cons a r ih => rw [List.flatMap_cons, ih]; rfl
end Vz.L
set_option Elab.async false
set_option linter.all false
set_option maxRecDepth 100000
set_option maxHeartbeats 4000000
namespace Vz.L
open PySem PySem.Spec L2 Vy
/-! ### graphs taken in: as the law asks -/
theorem tk_gat {m : Mk} : ∀ {r : List (Nat × Nat)} {s : Mk × List Nat}, TkInv m r s → (r.foldl tkStep s).1.gates.length ≤ s.1.gates.length + r.length
  | [], s, h => Nat.le_refl _
  | p :: r, s, h => by
    obtain ⟨b, h'⟩ := h.step
    rw [List.foldl_cons, List.length_cons]
    have := tk_gat h'
    have q := b.len
    have e : (tkStep s p).1 = (s.1.both (mv s.2 p.1) (mv s.2 p.2)).2 := rfl
    rw [e] at this
    omega
theorem endsR_drop (g : Gr) (r : List Nat) : (endsR g r).drop g.lat.length = g.outs.map (lit (valsG g r)) := by
  unfold endsR
  rw [List.map_append, List.drop_left' (by simp)]
theorem mv_opp (fd : List Nat) (l : Nat) : mv fd (opp l) = opp (mv fd l) := by
  unfold mv
  rw [opp_half]
  by_cases h : l % 2 = 0
  · rw [if_pos h, if_neg (by unfold opp; rw [if_pos h]; omega)]
  · rw [if_neg h, if_pos (by unfold opp; rw [if_neg h]; omega), opp_opp]
def revL (many : Nat) : List Nat := (List.range many).map fun k => 2 + 2 * (many - 1 - k)
theorem revL_len (many : Nat) : (revL many).length = many := by simp [revL]
def newM (many : Nat) : Mk := ⟨many, [], []⟩
theorem newM_ok {many : Nat} (h : many ≤ 16) : (newM many).Ok := ⟨h, by simp [newM], by simp [newM], trivial, by simp [newM], by simp [newM]⟩
theorem newM_top (many : Nat) : (newM many).top = 2 * (1 + many) := by
  show 2 * (1 + many + 0 + 0) = _
  omega
theorem revL_lt {many : Nat} : ∀ l ∈ revL many, l < (newM many).top := by
  intro l hl
  obtain ⟨k, hk, rfl⟩ := List.mem_map.mp hl
  have := List.mem_range.mp hk
  rw [newM_top]
  show 2 + 2 * (many - 1 - k) < _
  omega
theorem tk_new {g : Gr} (h : g.Ok) (hm : g.ins + g.lat.length ≤ 16) : TkInv (newM (g.ins + g.lat.length)) g.gates (newM (g.ins + g.lat.length), 0 :: revL (g.ins + g.lat.length)) := by
  have gn := h.gatN
  refine ⟨newM_ok hm, .refl _, fun l hl => ?_, ?_, ?_, ?_⟩
  · rcases List.mem_cons.mp hl with e | hl
    · subst e; rw [newM_top]; omega
    · exact revL_lt l hl
  · simp only [List.length_cons, revL_len]
    rw [show g.ins + g.lat.length + 1 = g.first by unfold Gr.first; omega]
    exact h.gat
  · simp only [newM_top]; omega
  · simp only [List.length_cons, revL_len]; omega
theorem tk_law {g : Gr} (h : g.Ok) (hm : g.ins + g.lat.length ≤ 16) {r : List Nat} (f : FRow (g.ins + g.lat.length) r) {l : Nat} (hl : l / 2 < g.first + g.gates.length) :
    (taken (newM (g.ins + g.lat.length)) g (revL (g.ins + g.lat.length))).1.lit r (mv (taken (newM (g.ins + g.lat.length)) g (revL (g.ins + g.lat.length))).2 l) = lit (valsG g r.reverse) l := by
  have hr : r.length + 1 = (newM (g.ins + g.lat.length)).first := by
    rw [f.len]
    show _ = 1 + (g.ins + g.lat.length) + 0
    omega
  have key := tk_sem (row := r) hr (tk_new h hm) (bs := 0 :: r.reverse) (by simp [revL_len, f.len]) (fun b hb => by
    rcases List.mem_cons.mp hb with e | hb
    · omega
    · exact f.b b (List.mem_reverse.mp hb)) (fun i hi => ?_)
  · have vl := valsG_len g r.reverse
    rw [List.length_reverse, f.len] at vl
    have hl' : l / 2 < (valsG g r.reverse).length := by
      rw [vl]
      unfold Gr.first at hl
      omega
    have k := key (l / 2) hl'
    have b2 : (valsG g r.reverse).getD (l / 2) 0 < 2 := by
      have := k
      unfold valsG
      rw [← this]
      exact lit_lt _ _
    show Mk.lit _ r (mv _ l) = lit (valsG g r.reverse) l
    unfold mv lit
    have k' : (taken (newM (g.ins + g.lat.length)) g (revL (g.ins + g.lat.length))).1.lit r ((taken (newM (g.ins + g.lat.length)) g (revL (g.ins + g.lat.length))).2.getD (l / 2) 0) = (valsG g r.reverse).getD (l / 2) 0 := k
    split
    · rw [k']; omega
    · rw [Mk.lit_opp, k']; omega
  · cases i with
    | zero => exact Mk.lit_zero _ _
    | succ k =>
      have hk : k < g.ins + g.lat.length := by simpa [f.len] using hi
      have hk2 : k < (revL (g.ins + g.lat.length)).length := by rw [revL_len]; exact hk
      have hk3 : k < r.reverse.length := by rw [List.length_reverse, f.len]; exact hk
      have hk4 : g.ins + g.lat.length - 1 - k < r.length := by rw [f.len]; omega
      have e1 : (0 :: revL (g.ins + g.lat.length)).getD (k + 1) 0 = 2 + 2 * (g.ins + g.lat.length - 1 - k) := by
        rw [List.getD_eq_getElem?_getD, List.getElem?_cons_succ, List.getElem?_eq_getElem hk2]
        simp [revL]
      have e2 : (0 :: r.reverse).getD (k + 1) 0 = r[g.ins + g.lat.length - 1 - k] := by
        rw [List.getD_eq_getElem?_getD, List.getElem?_cons_succ, List.getElem?_eq_getElem hk3]
        simp only [Option.getD_some, List.getElem_reverse, f.len]
      simp only
      rw [e1, e2]
      have b2 := f.b _ (List.getElem_mem hk4)
      show lit (0 :: r) _ = _
      unfold lit
      rw [show (2 + 2 * (g.ins + g.lat.length - 1 - k)) / 2 = (g.ins + g.lat.length - 1 - k) + 1 by omega, List.getD_eq_getElem?_getD, List.getElem?_cons_succ, List.getElem?_eq_getElem hk4]
      simp only [Option.getD_some]
      omega
end Vz.L
set_option Elab.async false
set_option linter.all false
set_option maxRecDepth 100000
set_option maxHeartbeats 4000000
namespace Vz.L
open PySem PySem.Spec L2 Vy
section
variable (n : Nat) (S : Sto)
theorem r_mgraph0 {k : Nat} {m : Mk} (h : At S k m) (ok : m.Ok) (h0 : m.fst = []) {outs : List Nat} (g : GrOk m [] outs) : run (n + 6) 34 [m.o k, .p (.tuple []), .p (.list (outs.map dN))] S = .ok (.p (m.gr [] outs).enc) S := by
  rw [run, runF_eq (fn := i_Maker_graph) rfl rfl rfl (by decide) rfl]
  have ts := ok.sz
  have g1 := g.gat
  have g3 := g.outN
  have mt := m.top_eq
  have hl := h.lt
  have z1 := h.g
  have f2 := fs2 (m := m) (S := S) (k := k) (by omega)
  have cl := check_loop (n + 3) S h (by omega) (some (.p (.tuple []))) (some (.p (.list (outs.map dN)))) outs (fun l hl => g.out l hl)
  have e1 := r_check n (m.gr [] outs) S (g.ok ok)
  have ez : m.fst.zip [] = ([] : List (Nat × Nat)) := by rw [h0]; rfl
  simp only [run, Gr.enc, Mk.gr, ez, List.map_nil] at e1
  have et : tzipD (.tuple (m.fst.map dN)) (.tuple []) = some (.p (.tuple [])) := by rw [h0]; rfl
  have el : m.fst.length = 0 := by rw [h0]; rfl
  k_dat (i_Maker_graph, cl, objR_eq, fs0, fs1, f2, z1, List.length_map, et, e1, Gr.enc, Mk.gr, ez, el, List.map_nil, and_self, and_self) "S"
theorem r_mgraph_len {k : Nat} {m : Mk} (h : At S k m) (ok : m.Ok) {laters outs : List Nat} (ht : m.top < 100000) (h1 : ∀ l ∈ laters, l < m.top) (h2 : ∀ l ∈ outs, l < m.top) (hn : laters.length ≠ m.fst.length) (hs : laters.length < 1000 ∧ outs.length < 1000) : run (n + 6) 34 [m.o k, .p (.list (laters.map dN)), .p (.list (outs.map dN))] S = .exc 1 [.str "graph"] S := by
  rw [run, runF_eq (fn := i_Maker_graph) rfl rfl rfl (by decide) rfl]
  have hl := h.lt
  have z1 := h.g
  have f2 := fs2 (m := m) (S := S) (k := k) (by omega)
  have cl := check_loop (n + 3) S h (by omega) (some (.p (.list (laters.map dN)))) (some (.p (.list (outs.map dN)))) (laters ++ outs) (fun l hl => (List.mem_append.mp hl).elim (h1 l) (h2 l))
  rw [List.map_append] at cl
  have hs1 := hs.1
  have hs2 := hs.2
  k_dat (i_Maker_graph, cl, objR_eq, fs0, fs1, f2, z1, List.length_map, hn, and_self, and_self) "S"
theorem r_mgraph_out {k : Nat} {m : Mk} (h : At S k m) (ok : m.Ok) {laters : List Nat} (ht : m.top < 800) (h1 : ∀ l ∈ laters, l < m.top) (hn : laters.length = m.fst.length) : run (n + 6) 34 [m.o k, .p (.list (laters.map dN)), .p (.tuple [])] S = .exc 1 [.str "graph"] S := by
  rw [run, runF_eq (fn := i_Maker_graph) rfl rfl rfl (by decide) rfl]
  have hl := h.lt
  have z1 := h.g
  have ts := ok.sz
  have g4 := ok.fstN
  have mt := m.top_eq
  have f2 := fs2 (m := m) (S := S) (k := k) (by omega)
  have cl := check_loop (n + 3) S h (by omega) (some (.p (.list (laters.map dN)))) (some (.p (.tuple []))) laters h1
  have gr : GrOk m laters [0] := ⟨h1, hn, by simp; omega, by simp, by simp, by omega⟩
  have go := gr.ok ok
  have e0 : gfD (.tuple [.int m.ins, .tuple ((m.fst.zip laters).map dP), .tuple (m.gates.map dP), .tuple []]) = .str "outs" := by
    have := go.gf
    rw [show (m.gr laters [0]).enc = .tuple [.int m.ins, .tuple ((m.fst.zip laters).map dP), .tuple (m.gates.map dP), .tuple ([0].map dN)] from rfl, gfD_eq] at this
    rw [gfD_eq]
    by_cases c1 : 0 ≤ (m.ins : Int) ∧ (m.ins : Int) ≤ 16
    · rw [if_pos c1] at this ⊢
      split at this
      · rename_i c2
        rw [if_pos c2]
        split at this
        · rename_i c3
          rw [if_pos c3]
          simp
        · cases this
      · cases this
    · rw [if_neg c1] at this
      cases this
  have e1 := r_check_bad n _ S e0
  simp only [run, ← zip_dP] at e1
  k_dat (i_Maker_graph, cl, objR_eq, fs0, fs1, f2, z1, List.length_map, hn, e1, and_self, and_self) "S"
end
end Vz.L
set_option Elab.async false
set_option linter.all false
set_option maxRecDepth 100000
set_option maxHeartbeats 4000000
namespace Vz.L
open PySem PySem.Spec L2 Vy
theorem revD_tup (xs : List D) : revD (.tuple xs) = some (.p (.tuple xs.reverse)) := rfl
theorem rev_dN (xs : List Nat) : (xs.map dN).reverse = xs.reverse.map dN := List.map_reverse.symm
theorem opp_arith (o : Nat) : o + 1 - 2 * (o % 2) = opp o := by
  unfold opp
  split <;> omega
theorem At_new (S : Sto) (many : Nat) : At (S ++ [.lst [], .dcT []]) S.length (newM many) := ⟨by simp [newM], by simp [newM, seenL]⟩
section
variable (n : Nat) (S : Sto)
theorem r_law_taken {g : Gr} (h : g.Ok) (hm : g.ins + g.lat.length ≤ 16) {rows : List (List Nat)} (hr : ∀ r ∈ rows, FRow (g.ins + g.lat.length) r) (hl : rows.length < 1000) : run (n + 7) 24 [.p g.enc, .p (.list (g.outs.map dN)), .p (.int (g.lat.length : Nat)), .p (.list (rows.map dB))] S = .ok (.p (.bool true)) S := by
  rw [run, runF_eq (fn := i__law_taken) rfl rfl rfl (by decide) rfl]
  have e1 := r_law_free (n + 5) S (g := g)
  have e2 : run (n + 3 + 3) 25 [.p (.int (g.ins + g.lat.length : Nat)), .p (.tuple [])] S = .ok (Mk.o (newM (g.ins + g.lat.length)) S.length) (S ++ [.lst [], .dcT []]) := r_newM (n + 3) S (g.ins + g.lat.length) [] hm (by simp) (by simp)
  have at0 := At_new S (g.ins + g.lat.length)
  have gn := h.gatN
  have go := h.outN
  have tz := newM_top (g.ins + g.lat.length)
  have e3 := r_taken n (S ++ [.lst [], .dcT []]) at0 (newM_ok hm) h (lits := revL (g.ins + g.lat.length)) (by rw [revL_len]; unfold Gr.first; omega) revL_lt (by omega)
  have ti := tk_all (tk_new h hm)
  have tg := tk_gat (tk_new h hm)
  have tl := fun (r : List Nat) (f : FRow (g.ins + g.lat.length) r) (l : Nat) (hl : l / 2 < g.first + g.gates.length) => tk_law h hm f hl
  have ie : (taken (newM (g.ins + g.lat.length)) g (revL (g.ins + g.lat.length))) = g.gates.foldl tkStep (newM (g.ins + g.lat.length), 0 :: revL (g.ins + g.lat.length)) := rfl
  rw [← ie] at ti tg
  have fl : (taken (newM (g.ins + g.lat.length)) g (revL (g.ins + g.lat.length))).2.length = g.first + g.gates.length := by
    rw [ie]
    have : ∀ (l : List (Nat × Nat)) (s : Mk × List Nat), (l.foldl tkStep s).2.length = s.2.length + l.length := by
      intro l
      induction l with
      | nil => intro s; rfl
      | cons p r ih => intro s; rw [List.foldl_cons, ih, List.length_cons]; show (s.2 ++ [_]).length + _ = _; rw [List.length_append, List.length_singleton]; omega
    rw [this]
    simp only [List.length_cons, revL_len]
    unfold Gr.first
    omega
  have mo : ((newM (g.ins + g.lat.length)).o S.length : R) = Mk.o (taken (newM (g.ins + g.lat.length)) g (revL (g.ins + g.lat.length))).1 S.length := by rw [Mk.o, Mk.o, ti.le.fs]
  have mf : (taken (newM (g.ins + g.lat.length)) g (revL (g.ins + g.lat.length))).1.fst = [] := ti.le.fst
  have mi : (taken (newM (g.ins + g.lat.length)) g (revL (g.ins + g.lat.length))).1.ins = g.ins + g.lat.length := ti.le.ins
  have at1 := at0.put (taken (newM (g.ins + g.lat.length)) g (revL (g.ins + g.lat.length))).1
  have tk0 : ∀ (m : Mk), List.take S.length (put (S ++ [.lst [], .dcT []]) S.length m) = S := by
    intro m
    unfold put
    rw [List.set_append_right _ _ (Nat.le_refl _), List.set_append_right _ _ (by omega), List.take_left']
    rfl
  have mvlt : ∀ l ∈ g.outs, mv (taken (newM (g.ins + g.lat.length)) g (revL (g.ins + g.lat.length))).2 l < (taken (newM (g.ins + g.lat.length)) g (revL (g.ins + g.lat.length))).1.top := fun l hl => mv_lt ti.lt (by rw [fl]; exact Gr.Ok.half (h.out l hl))
  have hfd : ∀ l, l < g.top → l / 2 < (taken (newM (g.ins + g.lat.length)) g (revL (g.ins + g.lat.length))).2.length := fun l hl => by rw [fl]; exact Gr.Ok.half hl
  generalize taken (newM (g.ins + g.lat.length)) g (revL (g.ins + g.lat.length)) = tk at *
  obtain ⟨m, fd⟩ := tk
  simp only at *
  have gr : GrOk m [] (g.outs.map (mv fd)) := ⟨by simp, by rw [mf], fun l hl => by
    obtain ⟨x, hx, rfl⟩ := List.mem_map.mp hl
    exact mvlt x hx, by rw [List.length_map]; exact h.out1, by rw [List.length_map]; exact h.outN, by
    have : (newM (g.ins + g.lat.length)).gates.length = 0 := rfl
    omega⟩
  have e4 := r_mgraph0 n (put (S ++ [.lst [], .dcT []]) S.length m) at1 ti.ok mf gr
  have ga := gr.ok ti.ok
  have gl : (m.gr [] (g.outs.map (mv fd))).lat = [] := by rw [Mk.gr, mf]; rfl
  have gi : (m.gr [] (g.outs.map (mv fd))).ins = g.ins + g.lat.length := mi
  have ea : ∀ r ∈ rows, endsR (m.gr [] (g.outs.map (mv fd))) r = (endsR g r.reverse).drop g.lat.length := by
    intro r h1
    rw [endsR_drop, endsR, gl]
    show (g.outs.map (mv fd)).map (lit (m.vals r)) = _
    rw [List.map_map]
    refine List.map_congr_left fun l h2 => ?_
    exact tl r (hr r h1) l (Gr.Ok.half (h.out l h2))
  have fa : ∀ r ∈ rows, FRow ((m.gr [] (g.outs.map (mv fd))).ins + (m.gr [] (g.outs.map (mv fd))).lat.length) r := fun r h1 => by rw [gl, gi]; exact hr r h1
  have e5 := fun r (h1 : r ∈ rows) => r_law_endsR (n + 3) (put (S ++ [.lst [], .dcT []]) S.length m) ga (fa r h1)
  have e6 := fun r (h1 : r ∈ rows) => r_law_endsR (n + 3) (put (S ++ [.lst [], .dcT []]) S.length m) h (hr r h1).rev
  have e7 := fun l (h1 : l < g.top) => r_moved (n + 4) (put (S ++ [.lst [], .dcT []]) S.length m) (hfd l h1)
  have e8 := fun l => r_opp (n + 5) (put (S ++ [.lst [], .dcT []]) S.length m) l
  simp only [run, mo, Mk.o, dB] at e1 e2 e3 e4 e5 e6 e7 e8
  have ol := h.out1
  obtain ⟨o, os, ho⟩ : ∃ o os, g.outs = o :: os := by
    cases hq : g.outs with
    | nil => rw [hq] at ol; simp at ol
    | cons o os => exact ⟨o, os, rfl⟩
  have oo := h.out o (by rw [ho]; exact List.mem_cons_self)
  have e9 := e7 o oo
  have e10 := e7 (opp o) (opp_lt (k := g.first + g.gates.length) oo)
  k_dat (i__law_taken, e1, e2, range_dN, and_self, and_self) "S"
  rw [compX_map dN (fun k => dN (2 + 2 * (g.ins + g.lat.length - 1 - k))) (List.range (g.ins + g.lat.length)) (fun k hk => by
    have hk := List.mem_range.mp hk
    k_dat (cturn, and_self, and_self) "S") (by rw [List.length_range]; unfold sizeLine; omega)]
  have rl : (List.range (g.ins + g.lat.length)).map (fun k => dN (2 + 2 * (g.ins + g.lat.length - 1 - k))) = (revL (g.ins + g.lat.length)).map dN := by rw [revL, List.map_map]; rfl
  rw [rl]
  k_dat (objR_eq, e3, and_self, and_self) "S"
  rw [compX_map dN (fun l => dN (mv fd l)) g.outs (fun l hl => by
    have hl := e7 l (h.out l hl)
    k_dat (cturn, hl, and_self, and_self) "S") (by unfold sizeLine; omega)]
  rw [show g.outs.map (fun l => dN (mv fd l)) = (g.outs.map (mv fd)).map dN by rw [List.map_map]; rfl]
  k_dat (objR_eq, e4, and_self, and_self) "S"
  rw [compX_flat dB (fun _ => []) rows (fun r hr1 => by
    have q5 := e5 r hr1
    have q6 := e6 r hr1
    have q7 := ne_dB (bs := (endsR g r.reverse).drop g.lat.length) (fun b hb => by
      have hb := List.mem_of_mem_drop hb
      unfold endsR at hb
      obtain ⟨x, _, rfl⟩ := List.mem_map.mp hb
      exact Nat.lt_trans (lit_lt _ _) (by decide)) (by
      rw [endsR_drop, List.length_map]
      omega)
    rw [show dB r = .tuple (r.map dN) from rfl]
    k_dat (cturn, q5, revD_tup, rev_dN, q6, cut_lo, drop_dN, ea r hr1, q7, and_self, and_self) "S") (by rw [flat_nil]; simp)]
  rw [flat_nil]
  rw [ho, List.map_cons]
  have oa := opp_arith o
  have mo2 := mv_opp fd o
  k_dat (ne_nil, e9, e10, oa, e8, mo2, tk0, and_self, and_self) "S"
end
end Vz.L
set_option Elab.async false
set_option linter.all false
set_option maxRecDepth 100000
set_option maxHeartbeats 4000000
namespace Vz.L
open PySem PySem.Spec L2 Vy
/-! ### the law, piece by piece -/
def Z17 : List D := (List.replicate 17 0).map dN
abbrev Fn (n : Nat) : FT := ⟨runF FP CS lim (n + 9), CS⟩
def Mk.many (m : Mk) : Nat := m.ins + m.fst.length
def Mk.rows (m : Mk) : List (List Nat) := rowsL 1 m.many
structure Cn (m0 m : Mk) : Prop where
  ok : m.Ok
  le : m0.Le m
  ins1 : 1 ≤ m0.ins
  ins : m0.ins ≤ 2
  fst : m0.fst.length ≤ 1
  gat : m.gates.length ≤ 100
def EV (sc : D) (m0 : Mk) (o10 o11 o12 o13 : Option SV) : Ev :=
  [some (.p sc), some (.ref 0), some (.p (dB m0.fst)), some (.obj 0 (m0.fs 1)), some (.p (.int (m0.many : Nat))), none, some (.p (.list (m0.rows.map dB))), some (.ref 3), some (.p (.list [])), none, o10, o11, o12, o13,
    some (.p (.int m0.ins)), some (.p (.int (m0.fst.length : Nat))), none, none, none, none, none, none, none, none, none, none]
abbrev st (ds : List Nat) (a : Nat) (m : Mk) (c : Cell) : Sto := [bx ds a, .lst (m.gates.map dP), .dcT (seenL m.first m.gates), c]
theorem st_at (ds : List Nat) (a : Nat) (m : Mk) (c : Cell) : At (st ds a m c) 1 m := ⟨rfl, rfl⟩
theorem st_put (ds : List Nat) (a : Nat) (m m' : Mk) (c : Cell) : put (st ds a m c) 1 m' = st ds a m' c := rfl
theorem Cn.sz {m0 m : Mk} (c : Cn m0 m) : m.first ≤ 4 ∧ m.top ≤ 208 ∧ 2 ≤ m.first ∧ m.ins = m0.ins ∧ m.fst = m0.fst ∧ m.first = 1 + m0.many ∧ m0.many ≤ 3 := by
  have h1 := c.le.ins
  have h2 := c.le.fst
  have := c.ins
  have := c.ins1
  have := c.fst
  have := c.gat
  have f : m.first = 1 + m0.many := by
    unfold Mk.first Mk.many
    rw [h1, h2]
    omega
  have t : m.top = 2 * (m.first + m.gates.length) := rfl
  have k : m0.many = m0.ins + m0.fst.length := rfl
  exact ⟨by omega, by omega, by omega, h1, h2, f, by omega⟩
theorem Cn.obj {m0 m : Mk} (c : Cn m0 m) : m.o 1 = .obj 0 (m0.fs 1) := by rw [Mk.o, c.le.fs]
section
variable {n : Nat} {m0 m : Mk} (c : Cn m0 m) {ds : List Nat} {a : Nat} {T : Cell} {sc : D} {o10 o11 o12 o13 : Option SV}
include c
theorem l26 (ha : a < 1000) : LawOk (Fn n) t_law_26 (EV sc m0 o10 o11 o12 o13) (st ds a m T) := by
  refine ⟨st ds (a + 1) m T, ?_⟩
  obtain ⟨d, hd, e1⟩ := r_pick (n + 7) ds [.lst (m.gates.map dP), .dcT (seenL m.first m.gates), T] (a := a) (xs := [.tuple [.int (2 : Nat)], .list [.int (0 : Nat)], .none, .tuple [.bool true], .tuple Z17]) (by omega) (by simp only [List.length_cons]; omega)
  have bad : fstOk d = false := by
    simp only [List.mem_cons, List.not_mem_nil, or_false] at hd
    rcases hd with rfl | rfl | rfl | rfl | rfl <;> rfl
  have e2 := r_newM_fst (n + 6) (st ds (a + 1) m T) bad
  have e3 := eq_2 "bad thing" "firsts"
  simp only [run] at e1 e2
  have er : (List.replicate 17 [(.int ((0 : Nat) : Int) : D)]).flatten = Z17 := rfl
  simp only [List.replicate_succ, List.replicate_zero] at er
  have ei : (2 ≤ ((17 : Nat) : Int) ∧ ((17 : Nat) : Int) ≤ 1000) = True := by simp
  k_dat (t_law_26, EV, evE_toldK, er, ei, if_true, e1, e2, toldK_1, e3, and_self, and_self) "S"
theorem l25 (ha : a < 900) (h : ∀ a', a' ≤ a + 1 → LawOk (Fn n) t_law_26 (EV sc m0 o10 o11 o12 o13) (st ds a' m T)) : LawOk (Fn n) t_law_25 (EV sc m0 o10 o11 o12 o13) (st ds a m T) := by
  refine LawOk.of ?_ (h (a + 1) (Nat.le_refl _))
  obtain ⟨d, hd, e1⟩ := r_pick (n + 7) ds [.lst (m.gates.map dP), .dcT (seenL m.first m.gates), T] (a := a) (xs := [.int (17 : Nat), .int (-((1 : Nat) : Int)), .none, .bool true]) (by omega) (by simp only [List.length_cons]; omega)
  have bad : insOk d = false := by
    simp only [List.mem_cons, List.not_mem_nil, or_false] at hd
    rcases hd with rfl | rfl | rfl | rfl <;> rfl
  have e2 := r_newM_ins (n + 6) (st ds (a + 1) m T) (e := .tuple []) bad
  have e3 := ne_2 "bad thing" "ins"
  simp only [run] at e1 e2
  k_dat (t_law_25, EV, evE_toldK, e1, e2, toldK_1, e3, and_self, and_self) "S"
end
end Vz.L
set_option Elab.async false
set_option linter.all false
set_option maxRecDepth 100000
set_option maxHeartbeats 4000000
namespace Vz.L
open PySem PySem.Spec L2 Vy
section
variable (n : Nat) (S : Sto)
theorem r_both_bad1 {k : Nat} {m : Mk} (h : At S k m) (hs : m.top < 1000000) {d e : D} (hd : inR m.top d = false) : run (n + 3) 29 [m.o k, .p d, .p e] S = .exc 3 [.str "literal"] S := by
  rw [run, runF_eq (fn := i_Maker_both) rfl rfl rfl (by decide) rfl]
  have e1 := r_cl_bad n S h hs hd
  simp only [run] at e1
  k_dat (i_Maker_both, objR_eq, e1, and_self, and_self) "S"
theorem r_both_bad2 {k : Nat} {m : Mk} (h : At S k m) (hs : m.top < 1000000) {l : Nat} (hl : l < m.top) {d : D} (hd : inR m.top d = false) : run (n + 3) 29 [m.o k, .p (.int l), .p d] S = .exc 3 [.str "literal"] S := by
  rw [run, runF_eq (fn := i_Maker_both) rfl rfl rfl (by decide) rfl]
  have e1 := r_cl n S h hs hl
  have e2 := r_cl_bad n S h hs hd
  simp only [run] at e1 e2
  k_dat (i_Maker_both, objR_eq, e1, e2, and_self, and_self) "S"
theorem r_just_bad {k : Nat} {m : Mk} (h : At S k m) (hs : m.top < 1000000) {l : Nat} (hl : l < m.top) {d : D} (hd : inR m.top d = false) : run (n + 4) 31 [m.o k, .p (.int l), .p d] S = .exc 3 [.str "literal"] S := by
  rw [run, runF_eq (fn := i_Maker_just_one) rfl rfl rfl (by decide) rfl]
  have e1 := r_both_bad2 n S h hs hl hd
  simp only [run, Mk.o] at e1
  k_dat (i_Maker_just_one, objR_eq, e1, and_self, and_self) "S"
end
theorem rep_dN (k : Nat) : (List.replicate k [(.int ((0 : Nat) : Int) : D)]).flatten = (List.replicate k 0).map dN := rep_flat k
theorem rep_dN1 (k : Nat) : ([(.int ((0 : Nat) : Int) : D)] :: List.replicate k [(.int ((0 : Nat) : Int) : D)]).flatten = (0 :: List.replicate k 0).map dN := rep_flat (k + 1)
theorem bigOk {k : Nat} (h : k < 100000) : (-2 ^ 63 ≤ (k : Int) ∧ (k : Int) < 2 ^ 63) = True := by
  rw [eq_iff_iff, iff_true]
  omega
theorem rep_lt {k t : Nat} (h : 0 < t) : ∀ l ∈ List.replicate k 0, l < t := by
  intro l hl
  rw [(List.mem_replicate.mp hl).2]
  exact h
section
variable {n : Nat} {m0 m : Mk} (c : Cn m0 m) {ds : List Nat} {a : Nat} {T : Cell} {sc : D} {o10 o11 o12 o13 : Option SV}
include c
theorem l24 {g : Gr} (hg : g.Ok) (hf : g.first = 1 + m0.many) (h : LawOk (Fn n) t_law_25 (EV sc m0 o10 (some (.p g.enc)) o12 o13) (st ds a m T)) : LawOk (Fn n) t_law_24 (EV sc m0 o10 (some (.p g.enc)) o12 o13) (st ds a m T) := by
  refine LawOk.of ?_ h
  have z := c.sz
  have e1 := r_taken_bad (n + 3) (st ds a m T) (k := 1) (m := m0) (g := g) (ds := (List.replicate (m0.many + 1) 0).map dN) hg (by simp; omega)
  have e3 := ne_2 "refused" "literals"
  simp only [run, Mk.o, List.replicate_succ] at e1
  k_dat (t_law_24, EV, evE_toldK, bigOk, if_true, rep_dN1, e1, toldK_3, e3, and_self, and_self) "S"
theorem l23 (h : LawOk (Fn n) t_law_24 (EV sc m0 o10 o11 o12 o13) (st ds a m T)) : LawOk (Fn n) t_law_23 (EV sc m0 o10 o11 o12 o13) (st ds a m T) := by
  refine LawOk.of ?_ h
  obtain ⟨z1, z2, z3, z4, z5, z6, z7⟩ := c.sz
  have tp : m.top = 2 * (m.first + m.gates.length) := rfl
  have e1 := r_mgraph_out (n + 3) (st ds a m T) (st_at ds a m T) c.ok (laters := List.replicate m0.fst.length 0) (by omega) (rep_lt (by omega)) (by rw [z5, List.length_replicate])
  have e3 := ne_2 "bad thing" "graph"
  have zf := c.fst
  simp only [run, c.obj] at e1
  k_dat (t_law_23, EV, evE_toldK, bigOk, if_true, rep_dN, objR_eq, e1, toldK_1, e3, and_self, and_self) "S"
theorem l22 {outs : List Nat} (ho : ∀ l ∈ outs, l < m.top) (hl : outs.length < 1000) (h : LawOk (Fn n) t_law_23 (EV sc m0 (some (.p (.list (outs.map dN)))) o11 o12 o13) (st ds a m T)) : LawOk (Fn n) t_law_22 (EV sc m0 (some (.p (.list (outs.map dN)))) o11 o12 o13) (st ds a m T) := by
  refine LawOk.of ?_ h
  obtain ⟨z1, z2, z3, z4, z5, z6, z7⟩ := c.sz
  have tp : m.top = 2 * (m.first + m.gates.length) := rfl
  have zf := c.fst
  have e1 := r_mgraph_len (n + 3) (st ds a m T) (st_at ds a m T) c.ok (laters := List.replicate (m0.fst.length + 1) 0) (outs := outs) (by omega) (rep_lt (by omega)) ho (by rw [z5, List.length_replicate]; omega) ⟨by rw [List.length_replicate]; omega, hl⟩
  have e3 := ne_2 "bad thing" "graph"
  simp only [run, c.obj, List.replicate_succ] at e1
  k_dat (t_law_22, EV, evE_toldK, bigOk, if_true, rep_dN1, objR_eq, e1, toldK_1, e3, and_self, and_self) "S"
theorem l21 (ha : a < 900) (h : LawOk (Fn n) t_law_22 (EV sc m0 o10 o11 o12 o13) (st ds (a + 1) m T)) : LawOk (Fn n) t_law_21 (EV sc m0 o10 o11 o12 o13) (st ds a m T) := by
  refine LawOk.of ?_ h
  obtain ⟨d, hd, e1⟩ := r_pick (n + 7) ds [.lst (m.gates.map dP), .dcT (seenL m.first m.gates), T] (a := a) (xs := [.int (m0.ins : Nat), .int (-((1 : Nat) : Int)), .none]) (by omega) (by simp only [List.length_cons]; omega)
  have z4 := c.le.ins
  have bad : inR m.ins d = false := by
    simp only [List.mem_cons, List.not_mem_nil, or_false] at hd
    rcases hd with rfl | rfl | rfl
    · simp [inR, z4]
    · simp [inR]
    · rfl
  have e2 := r_literal_in_bad (n + 7) (st ds (a + 1) m T) (k := 1) bad
  have e3 := ne_2 "refused" "place"
  simp only [run, c.obj] at e1 e2
  k_dat (t_law_21, EV, evE_toldK, objR_eq, e1, e2, toldK_3, e3, and_self, and_self) "S"
theorem l19 {d : D} (hd : inR m.top d = false) (h : LawOk (Fn n) t_law_21 (EV sc m0 o10 o11 o12 (some (.p d))) (st ds a m T)) : LawOk (Fn n) t_law_19 (EV sc m0 o10 o11 o12 (some (.p d))) (st ds a m T) := by
  refine LawOk.of ?_ h
  obtain ⟨z1, z2, z3, z4, z5, z6, z7⟩ := c.sz
  have tp : m.top = 2 * (m.first + m.gates.length) := rfl
  have e1 := r_both_bad1 (n + 6) (st ds a m T) (st_at ds a m T) (e := .int (0 : Nat)) (by omega) hd
  have e2 := r_just_bad (n + 5) (st ds a m T) (st_at ds a m T) (l := 0) (by omega) (by omega) hd
  have e3 := ne_2 "refused" "literal"
  simp only [run, c.obj] at e1 e2
  k_dat (t_law_19, EV, evE_toldK, objR_eq, e1, t_law_20, e2, toldK_3, e3, and_self, and_self) "S"
theorem l17 {g : Gr} (hg : g.gates.length = m.gates.length) (ha : a < 900) (h : ∀ d, inR m.top d = false → LawOk (Fn n) t_law_19 (EV sc m0 o10 (some (.p g.enc)) (some (.p (.int (m.top : Nat)))) (some (.p d))) (st ds (a + 1) m T)) : LawOk (Fn n) t_law_17 (EV sc m0 o10 (some (.p g.enc)) none none) (st ds a m T) := by
  obtain ⟨z1, z2, z3, z4, z5, z6, z7⟩ := c.sz
  have tp : 2 * (1 + m0.many + m.gates.length) = m.top := by rw [← z6]; rfl
  obtain ⟨d, hd, e1⟩ := r_pick (n + 7) ds [.lst (m.gates.map dP), .dcT (seenL m.first m.gates), T] (a := a) (xs := [.int (-((1 : Nat) : Int)), .int (m.top + 40 : Nat), .none, .bool true]) (by omega) (by simp only [List.length_cons]; omega)
  have bad : inR m.top d = false := by
    simp only [List.mem_cons, List.not_mem_nil, or_false] at hd
    rcases hd with rfl | rfl | rfl | rfl
    · simp [inR]
    · simp [inR]; omega
    · rfl
    · rfl
  refine LawOk.of ?_ (h d bad)
  simp only [run] at e1
  k_dat (t_law_17, EV, gi2, List.length_map, hg, tp, t_law_18, e1, and_self, and_self) "S"
end
end Vz.L
set_option Elab.async false
set_option linter.all false
set_option maxRecDepth 100000
set_option maxHeartbeats 4000000
namespace Vz.L
open PySem PySem.Spec L2 Vy
def plT (l : List (Nat × Nat)) : List (List Key × D) := l.map fun p => ([.inl (p.1 : Int), .inl (p.2 : Int)], .int ((1 : Nat) : Int))
theorem kvMerge_T : ∀ (l : List (Nat × Nat)) (acc : List (List Key × D)), (∀ p ∈ l, ∀ q ∈ acc, q.1 ≠ [.inl (p.1 : Int), .inl (p.2 : Int)]) → l.Nodup → kvMerge acc (plT l) = acc ++ plT l
  | [], acc, _, _ => by simp [kvMerge, plT]
  | p :: r, acc, h, nd => by
    rw [List.nodup_cons] at nd
    have e : kvPut acc [.inl (p.1 : Int), .inl (p.2 : Int)] (.int ((1 : Nat) : Int)) = acc ++ [([.inl (p.1 : Int), .inl (p.2 : Int)], .int ((1 : Nat) : Int))] := by
      unfold kvPut
      rw [if_neg]
      rw [List.any_eq_true]
      rintro ⟨q, hq, hk⟩
      exact h p List.mem_cons_self q hq (of_decide_eq_true hk)
    have ih := kvMerge_T r (acc ++ [([.inl (p.1 : Int), .inl (p.2 : Int)], .int ((1 : Nat) : Int))]) (fun x hx q hq => by
      rcases List.mem_append.mp hq with hq | hq
      · exact h x (List.mem_cons_of_mem _ hx) q hq
      · rw [List.mem_singleton.mp hq]
        intro e
        rw [key_eq] at e
        rw [e] at nd
        exact nd.1 hx) nd.2
    unfold kvMerge at ih ⊢
    unfold plT at ih ⊢
    rw [List.map_cons, List.foldl_cons]
    simp only
    rw [e, ih, List.append_assoc]
    rfl
theorem pairs_T : ∀ l : List (Nat × Nat), pairsT (l.map fun p => .tuple [dP p, .int ((1 : Nat) : Int)]) = some (plT l)
  | [] => rfl
  | p :: r => by
    show (match keyT (dP p), pairsT (r.map fun p => .tuple [dP p, .int ((1 : Nat) : Int)]) with
      | some k, some l => some ((k, PyData.int ((1 : Nat) : Int)) :: l)
      | _, _ => none) = _
    rw [pairs_T r]
    rfl
theorem pairs_N (p : Nat × Nat) (r : List (Nat × Nat)) : pairsD ((p :: r).map fun p => .tuple [dP p, .int ((1 : Nat) : Int)]) = none := rfl
theorem at_rows {rows : List (List Nat)} {k : Nat} (h : k < rows.length) : atI (rows.map dB) (k : Int) = some (dB (rows.getD k [])) := by
  rw [atI_nat, List.getElem?_map, List.getElem?_eq_getElem h]
  simp [List.getD_eq_getElem?_getD, List.getElem?_eq_getElem h]
theorem getD_rows {rows : List (List Nat)} {k : Nat} (h : k < rows.length) : rows.getD k [] ∈ rows := by
  rw [List.getD_eq_getElem?_getD, List.getElem?_eq_getElem h]
  exact List.getElem_mem h
structure Gn (m0 m : Mk) (laters outs : List Nat) : Prop where
  c : Cn m0 m
  g : GrOk m laters outs
  o2 : outs.length = 2
section
variable {m0 m : Mk} {laters outs : List Nat} (c : Gn m0 m laters outs)
include c
theorem Gn.ok : (m.gr laters outs).Ok := c.g.ok c.c.ok
theorem Gn.lat : (m.gr laters outs).lat.length = m0.fst.length := by
  show (m.fst.zip laters).length = _
  rw [List.length_zip, c.g.latN, Nat.min_self, c.c.le.fst]
theorem Gn.ins : (m.gr laters outs).ins = m0.ins := c.c.le.ins
theorem Gn.free : (m.gr laters outs).ins + (m.gr laters outs).lat.length = m0.many := by rw [c.ins, c.lat]; rfl
theorem Gn.first : (m.gr laters outs).first = 1 + m0.many := by rw [c.g.first]; exact c.c.sz.2.2.2.2.2.1
theorem Gn.bits : (m.gr laters outs).lat.map (·.1) = m0.fst := by
  show (m.fst.zip laters).map Prod.fst = _
  rw [List.map_fst_zip (by rw [c.g.latN]; exact Nat.le_refl _), c.c.le.fst]
theorem Gn.rows : ∀ r ∈ m0.rows, FRow ((m.gr laters outs).ins + (m.gr laters outs).lat.length) r := by
  intro r hr
  rw [c.free]
  exact rowsL_F hr
theorem Gn.rowN : m0.rows.length ≤ 8 := by
  have := c.c.sz
  unfold Mk.rows
  rw [rowsL_len]
  have h : m0.many ≤ 3 := this.2.2.2.2.2.2
  have := Nat.pow_le_pow_right (n := 2) (by decide) h
  omega
theorem Gn.ends (r : List Nat) : (endsR (m.gr laters outs) r).drop m0.fst.length = outs.map (m.lit r) := by
  rw [← c.lat, endsR_drop]
  rfl
end
section
variable {n : Nat} {m0 m : Mk} {laters outs : List Nat} (c : Gn m0 m laters outs) {ds : List Nat} {a : Nat} {T : Cell} {sc : D}
include c
theorem l16 (h : LawOk (Fn n) t_law_17 (EV sc m0 (some (.p (.list (outs.map dN)))) (some (.p (m.gr laters outs).enc)) none none) (st ds a m T)) : LawOk (Fn n) t_law_16 (EV sc m0 (some (.p (.list (outs.map dN)))) (some (.p (m.gr laters outs).enc)) none none) (st ds a m T) := by
  refine LawOk.of ?_ h
  have z := c.c.sz
  have zr := c.rowN
  have e1 := r_law_taken (n + 2) (st ds a m T) c.ok (by rw [c.free]; omega) c.rows (by omega)
  rw [c.lat, show (m.gr laters outs).outs = outs from rfl] at e1
  simp only [run] at e1
  k_dat (t_law_16, EV, e1, and_self, and_self) "S"
theorem l15 {L : List Nat} (hL : ∀ l ∈ outs, l ∈ L) (h : LawOk (Fn n) t_law_16 (EV sc m0 (some (.p (.list (outs.map dN)))) (some (.p (m.gr laters outs).enc)) none none) (st ds a m (.dct (kvF (val m0.rows m) L)))) : LawOk (Fn n) t_law_15 (EV sc m0 (some (.p (.list (outs.map dN)))) (some (.p (m.gr laters outs).enc)) none none) (st ds a m (.dct (kvF (val m0.rows m) L))) := by
  refine LawOk.of ?_ h
  have zr := c.rowN
  have zo := c.o2
  have key := (forL_fold (b := bodyF (Fn n) lim (.nm 5) b_law_3) dN (fun _ : Unit => EV sc m0 (some (.p (.list (outs.map dN)))) (some (.p (m.gr laters outs).enc)) none none) (fun _ => st ds a m (.dct (kvF (val m0.rows m) L))) (fun u _ => u) (List.range m0.rows.length) (fun r _ => ∀ k ∈ r, k < m0.rows.length) () (fun k hk => List.mem_range.mp hk) ?_).1
  · simp only [EV] at key
    k_dat (t_law_15, EV, List.length_map, range_dN, key, and_self, and_self) "S"
  · intro k r _ hk
    have hk1 := hk k List.mem_cons_self
    refine ⟨.inl ?_, fun x hx => hk x (List.mem_cons_of_mem _ hx)⟩
    have e0 := at_rows hk1
    have e1 := r_law_endsR (n + 6) (st ds a m (.dct (kvF (val m0.rows m) L))) c.ok (c.rows _ (getD_rows hk1))
    have e3 := c.ends (m0.rows.getD k [])
    have e4 := ne_dB (bs := outs.map (m.lit (m0.rows.getD k []))) (fun b hb => by
      obtain ⟨x, _, rfl⟩ := List.mem_map.mp hb
      exact Nat.lt_trans (lit_lt _ _) (by decide)) (by rw [List.length_map]; omega)
    simp only [run, dB] at e0 e1
    k_dat (EV, e0, e1, cut_lo, drop_dN, e3, and_self, and_self) "S"
    rw [compX_map dN (fun l => dN (m.lit (m0.rows.getD k []) l)) outs (fun l hl => by
      have e5 := kvF_at (f := val m0.rows m) (hL l hl)
      have e6 := getD_dN (m := m) (l := l) hk1
      k_dat (cturn, e5, e6, and_self, and_self) "S") (by unfold sizeLine; omega)]
    rw [show outs.map (fun l => dN (m.lit (m0.rows.getD k []) l)) = (outs.map (m.lit (m0.rows.getD k []))).map dN by rw [List.map_map]; rfl]
    k_dat (e4, and_self, and_self) "S"
end
end Vz.L
set_option Elab.async false
set_option linter.all false
set_option maxRecDepth 100000
set_option maxHeartbeats 4000000
namespace Vz.L
open PySem PySem.Spec L2 Vy
section
variable {n : Nat} {m0 m : Mk} {laters outs : List Nat} (c : Gn m0 m laters outs) {ds : List Nat} {a : Nat} {T : Cell} {sc : D}
include c
theorem Gn.gate {p : Nat × Nat} (hp : p ∈ m.gates) : once p.1 p.2 = none ∧ ¬ p.1 < p.2 := by
  refine ⟨c.c.ok.on p hp, ?_⟩
  have main : ∀ (l : List (Nat × Nat)) (k : Nat), GOk k l → ∀ p ∈ l, p.2 ≤ p.1 := by
    intro l
    induction l with
    | nil => intro k _ p hp; cases hp
    | cons q r ih =>
      intro k h p hp
      rcases List.mem_cons.mp hp with e | hp
      · subst e; exact h.1
      · exact ih _ h.2.2 p hp
  have := main _ _ c.c.ok.gat p hp
  omega
theorem l14 (h : LawOk (Fn n) t_law_15 (EV sc m0 (some (.p (.list (outs.map dN)))) (some (.p (m.gr laters outs).enc)) none none) (st ds a m T)) : LawOk (Fn n) t_law_14 (EV sc m0 (some (.p (.list (outs.map dN)))) (some (.p (m.gr laters outs).enc)) none none) (st ds a m T) := by
  refine LawOk.of ?_ h
  have gn := c.g.gat
  have eg : (m.gr laters outs).gates = m.gates := rfl
  have cx : ∀ (F : FT), compX F [25] (.tup (.cons (.var 25) (.cons (.nat 1) .nil))) (.nm 25) .no [some (.p sc), some (.ref 0), some (.p (dB m0.fst)), some (.obj 0 (m0.fs 1)), some (.p (.int (m0.many : Nat))), none, some (.p (.list (m0.rows.map dB))), some (.ref 3), some (.p (.list [])), none, some (.p (.list (outs.map dN))), some (.p (m.gr laters outs).enc), none, none,
    some (.p (.int m0.ins)), some (.p (.int (m0.fst.length : Nat))), none, none, none, none, none, none, none, none, none, none] (m.gates.map dP) (st ds a m T) = .ok (.nl (m.gates.map fun p => .tuple [dP p, .int ((1 : Nat) : Int)])) (st ds a m T) := fun F => compX_map dP (fun p => .tuple [dP p, .int ((1 : Nat) : Int)]) m.gates (fun p _ => by k_dat (cturn, and_self, and_self) "S") (by unfold sizeLine; omega)
  have cy : ∀ (env : Ev), env = [some (.p sc), some (.ref 0), some (.p (dB m0.fst)), some (.obj 0 (m0.fs 1)), some (.p (.int (m0.many : Nat))), none, some (.p (.list (m0.rows.map dB))), some (.ref 3), some (.p (.list [])), none, some (.p (.list (outs.map dN))), some (.p (m.gr laters outs).enc), none, none,
    some (.p (.int m0.ins)), some (.p (.int (m0.fst.length : Nat))), none, none, none, none, none, none, none, none, none, none] → compX (Fn n) [25] (.var 25) (.nm 25) (.so (.bop false (.cons (.cmp (.call 22 (.cons (.idx (.var 25) (.nat 0)) (.cons (.idx (.var 25) (.nat 1)) .nil))) (.cons .IsNot .non .nil)) (.cons (.cmp (.idx (.var 25) (.nat 0)) (.cons .Lt (.idx (.var 25) (.nat 1)) .nil)) .nil)))) env (m.gates.map dP) (st ds a m T) = .ok (.nl []) (st ds a m T) := by
    intro env he
    subst he
    have := compX_flat (F := Fn n) (own := [25]) (elt := .var 25) (tg := .nm 25) (cond := .so (.bop false (.cons (.cmp (.call 22 (.cons (.idx (.var 25) (.nat 0)) (.cons (.idx (.var 25) (.nat 1)) .nil))) (.cons .IsNot .non .nil)) (.cons (.cmp (.idx (.var 25) (.nat 0)) (.cons .Lt (.idx (.var 25) (.nat 1)) .nil)) .nil)))) (env := [some (.p sc), some (.ref 0), some (.p (dB m0.fst)), some (.obj 0 (m0.fs 1)), some (.p (.int (m0.many : Nat))), none, some (.p (.list (m0.rows.map dB))), some (.ref 3), some (.p (.list [])), none, some (.p (.list (outs.map dN))), some (.p (m.gr laters outs).enc), none, none,
    some (.p (.int m0.ins)), some (.p (.int (m0.fst.length : Nat))), none, none, none, none, none, none, none, none, none, none]) (S := st ds a m T) dP (fun _ => []) m.gates (fun p hp => by
      obtain ⟨a1, b1⟩ := p
      have hq := c.gate hp
      simp only at hq
      have e1 := r_at_once (n + 8) (st ds a m T) a1 b1
      rw [hq.1] at e1
      have h2 := hq.2
      simp only [run] at e1
      k_dat (cturn, e1, dO, isNonD, h2, and_self, and_self) "S") (by rw [flat_nil]; simp)
    rw [flat_nil] at this
    exact this
  cases hg : m.gates with
  | nil =>
    rw [hg] at cx cy
    have cy := cy _ rfl
    simp only [List.map_nil] at cx cy
    have p0 : pairsD ([] : List D) = some [] := rfl
    have k0 : kvMerge ([] : List (Key × D)) [] = [] := rfl
    k_dat (t_law_14, EV, gi2, eg, hg, List.map_nil, cx, cy, p0, k0, ne_nil, and_self, and_self) "S"
  | cons p r =>
    rw [hg] at cx cy
    have cy := cy _ rfl
    have p0 := pairs_N p r
    have p1 := pairs_T (p :: r)
    have k1 := kvMerge_T (p :: r) [] (fun _ _ q hq => by cases hq) (by rw [← hg]; exact c.c.ok.nd)
    have k2 : (plT (p :: r)).length = r.length + 1 := by unfold plT; rw [List.length_map, List.length_cons]
    simp only [List.map_cons] at cx cy p0 p1
    k_dat (t_law_14, EV, gi2, eg, hg, List.map_cons, cx, cy, p0, p1, k1, k2, List.length_map, ne_nil, and_self, and_self) "S"
theorem l13 (h : LawOk (Fn n) t_law_14 (EV sc m0 (some (.p (.list (outs.map dN)))) (some (.p (m.gr laters outs).enc)) none none) (st ds a m T)) : LawOk (Fn n) t_law_13 (EV sc m0 (some (.p (.list (outs.map dN)))) (some (.p (m.gr laters outs).enc)) none none) (st ds a m T) := by
  refine LawOk.of ?_ h
  have z := c.c.sz
  have zf := c.c.fst
  have zo := c.o2
  have ht := c.c.sz.2.1
  have e1 := r_graph_fault (n + 5) (m.gr laters outs).enc (st ds a m T)
  rw [c.ok.gf] at e1
  have e2 := c.ins
  have e3 : (m.gr laters outs).lat.map (fun p => dN p.1) = m0.fst.map dN := by rw [← c.bits, List.map_map]; rfl
  have e4 := ne_lN (bs := m0.fst) (fun b hb => by
    have := c.c.ok.fstB b (by rw [c.c.le.fst]; exact hb)
    omega) (by omega)
  have e5 : (m.gr laters outs).outs = outs := rfl
  have e6 := ne_dB (bs := outs) (fun b hb => by have := c.g.out b hb; omega) (by omega)
  have hl : (m.gr laters outs).lat.length ≤ 1 := by rw [c.lat]; exact zf
  simp only [run] at e1
  k_dat (t_law_13, EV, e1, isNonD, gi0, gi1, gi3, e2, and_self, and_self) "S"
  rw [compX_map dP (fun p => dN p.1) (m.gr laters outs).lat (fun p _ => by k_dat (cturn, and_self, and_self) "S") (by unfold sizeLine; omega)]
  rw [e3]
  k_dat (dB, e4, gi3, e5, e6, and_self, and_self) "S"
end
section
variable {n : Nat} {m0 m : Mk} (c : Cn m0 m) {ds : List Nat} {a : Nat} {sc : D} {f : Nat → List Nat} {L : List Nat} (hL : L ≠ []) (hl : L.length < 64)
include hL hl
theorem picks (o10 : Option SV) (k : Nat) (hk : k < 100) (ha : a < 1000) : ∃ zs : List Nat, zs.length = k ∧ (∀ z ∈ zs, z ∈ L) ∧ compX (Fn n) [5] (.call 13 (.cons (.var 1) (.cons (.bi .sorted_ (.cons (.var 7) .nil)) .nil))) (.nm 5) .no (EV sc m0 o10 none none none) ((List.range k).map dN) (st ds a m (.dct (kvF f L))) = .ok (.nl (zs.map dN)) (st ds (a + k) m (.dct (kvF f L))) := by
  obtain ⟨zs, h1, h2, h3⟩ := compX_st (F := Fn n) (own := [5]) (elt := .call 13 (.cons (.var 1) (.cons (.bi .sorted_ (.cons (.var 7) .nil)) .nil))) (tg := .nm 5) (cond := .no) (env := EV sc m0 o10 none none none) dN dN (fun a => st ds a m (.dct (kvF f L))) 1 (· ∈ L) (List.range k) a (fun x hx a' ha' => by
    rw [List.length_range] at ha'
    obtain ⟨l, q1, q2⟩ := r_pickL (n + 7) ds [.lst (m.gates.map dP), .dcT (seenL m.first m.gates), .dct (kvF f L)] (a := a') (by omega) hL
    refine ⟨l, q1, ?_⟩
    have q3 := sortedF (S := st ds a' m (.dct (kvF f L))) (k := 3) rfl hl
    simp only [run] at q2
    simp only [cturn, EV]
    k_dat (q3, q2, and_self, and_self) "S") (by rw [List.length_range]; unfold sizeLine; omega)
  rw [List.length_range] at h1 h3
  rw [Nat.one_mul] at h3
  exact ⟨zs, h1, h2, h3⟩
end
end Vz.L
set_option Elab.async false
set_option linter.all false
set_option maxRecDepth 100000
set_option maxHeartbeats 4000000
namespace Vz.L
open PySem PySem.Spec L2 Vy
/-- what is told so far -/
structure Tn (m0 m : Mk) (L : List Nat) : Prop where
  c : Cn m0 m
  ne : L ≠ []
  lt : ∀ l ∈ L, l < m.top
theorem made_val {m0 m : Mk} (c : Cn m0 m) {kind a b d : Nat} (ha : a < m.top) (hb : b < m.top) (hd : d < m.top) : m0.rows.map (madeF m kind a b d) = val m0.rows (madeM m kind a b d).2 (madeM m kind a b d).1 := by
  have o := c.ok.made kind ha hb hd
  refine List.map_congr_left fun r hr => (o.sem r ?_).symm
  have := (rowsL_F hr).len
  rw [c.sz.2.2.2.2.2.1, this]
  omega
theorem rows_first {m0 m : Mk} (c : Cn m0 m) : ∀ r ∈ m0.rows, r.length + 1 = m.first := fun r hr => by
  have := (rowsL_F hr).len
  rw [c.sz.2.2.2.2.2.1, this]
  omega
theorem val_opp (rows : List (List Nat)) (m : Mk) (l : Nat) : (val rows m l).map (fun b => dN (1 - b)) = (val rows m (opp l)).map dN := by
  unfold val
  rw [List.map_map, List.map_map]
  refine List.map_congr_left fun r _ => ?_
  show dN (1 - m.lit r l) = dN (m.lit r (opp l))
  rw [m.lit_opp]
theorem rowN {m0 m : Mk} (c : Cn m0 m) : m0.rows.length ≤ 8 := by
  have := c.sz
  unfold Mk.rows
  rw [rowsL_len]
  have h : m0.many ≤ 3 := this.2.2.2.2.2.2
  have := Nat.pow_le_pow_right (n := 2) (by decide) h
  omega
section
variable {n : Nat} {m0 m : Mk} {L : List Nat} (t : Tn m0 m L) {ds : List Nat} {a : Nat} {sc : D}
include t
theorem turn (v : SV) (hl : L.length < 60) (hg : m.gates.length ≤ 90) (ha : a < 500) : ∃ (m' : Mk) (L' : List Nat), Tn m0 m' L' ∧ L'.length ≤ L.length + 2 ∧ m'.gates.length ≤ m.gates.length + 3 ∧
    exSS (Fn n) lim b_law_2 ((EV sc m0 none none none none).set 9 (some v)) (st ds a m (.dct (kvF (val m0.rows m) L))) = .next (EV sc m0 none none none none) (st ds (a + 4) m' (.dct (kvF (val m0.rows m') L'))) := by
  obtain ⟨l1, q1, e1⟩ := r_pickL (n + 7) ds [.lst (m.gates.map dP), .dcT (seenL m.first m.gates), .dct (kvF (val m0.rows m) L)] (a := a) (by omega) t.ne
  obtain ⟨l2, q2, e2⟩ := r_pickL (n + 7) ds [.lst (m.gates.map dP), .dcT (seenL m.first m.gates), .dct (kvF (val m0.rows m) L)] (a := a + 1) (by omega) t.ne
  obtain ⟨l3, q3, e3⟩ := r_pickL (n + 7) ds [.lst (m.gates.map dP), .dcT (seenL m.first m.gates), .dct (kvF (val m0.rows m) L)] (a := a + 1 + 1) (by omega) t.ne
  have s0 := fun a => sortedF (S := st ds a m (.dct (kvF (val m0.rows m) L))) (k := 3) rfl (by omega)
  have sz := t.c.sz
  have t1 := t.lt l1 q1
  have t2 := t.lt l2 q2
  have t3 := t.lt l3 q3
  have e4 := r_opp (n + 8) (st ds (a + 1 + 1 + 1) m (.dct (kvF (val m0.rows m) L))) l1
  have e5 := r_once (n + 7) (st ds (a + 1 + 1 + 1) m (.dct (kvF (val m0.rows m) L))) l1 l2
  have e6 := r_at_once (n + 8) (st ds (a + 1 + 1 + 1) m (.dct (kvF (val m0.rows m) L))) l1 l2
  have e7 := r_sameO (n + 8) (st ds (a + 1 + 1 + 1) m (.dct (kvF (val m0.rows m) L))) (sd_dO (o := once l1 l2) (fun l h => by have := once_lt (k := m.first + m.gates.length) h t1 t2; have : 2 * (m.first + m.gates.length) = m.top := rfl; omega)) (by decide) (by decide)
  have e8 := r_draw (n + 8) ds [.lst (m.gates.map dP), .dcT (seenL m.first m.gates), .dct (kvF (val m0.rows m) L)] (a := a + 1 + 1 + 1) (m := 5) (by omega) (by decide)
  generalize draw ds (a + 1 + 1 + 1) 5 = kind at e8
  have rn := rowN t.c
  have e9 := r_made (n + 3) (st ds (a + 1 + 1 + 1 + 1) m (.dct (kvF (val m0.rows m) L))) (k := 1) (t := 3) (m0 := m) t.c.ok (st_at ..) (.refl m) (by omega) (rows := m0.rows) (by omega) (L := L) rfl q1 q2 q3 t.lt kind
  have o := t.c.ok.made kind t1 t2 t3
  rw [made_val t.c t1 t2 t3, st_put, st_put] at e9
  have mk0 : kind = 0 → madeM m kind l1 l2 l3 = m.both l1 l2 := fun h => if_pos h
  have hlt := o.lt
  have htop := o.top
  have hle := o.le
  have hok := o.ok
  have hgl : (madeM m kind l1 l2 l3).2.gates.length ≤ m.gates.length + 3 := by
    have f := hle.first
    have k1 : (madeM m kind l1 l2 l3).2.top = 2 * ((madeM m kind l1 l2 l3).2.first + (madeM m kind l1 l2 l3).2.gates.length) := rfl
    have k2 : m.top = 2 * (m.first + m.gates.length) := rfl
    omega
  generalize madeM m kind l1 l2 l3 = mm at e9 mk0 hlt htop hle hok hgl
  obtain ⟨lit, m'⟩ := mm
  simp only at e9 hlt htop hle hok hgl
  have c' : Cn m0 m' := ⟨hok, t.c.le.trans hle, t.c.ins1, t.c.ins, t.c.fst, by omega⟩
  have sz' := c'.sz
  have fsE : m'.fs 1 = m0.fs 1 := c'.le.fs 1
  have fsE0 : m.fs 1 = m0.fs 1 := t.c.le.fs 1
  have vE : kvF (val m0.rows m) L = kvF (val m0.rows m') L := kvF_congr fun l h => (hle.val (rows_first t.c) (t.lt l h)).symm
  have ea := r_both (n + 6) (st ds (a + 1 + 1 + 1 + 1) m' (.dct (kvF (val m0.rows m) L))) (st_at ..) (by omega) (hle.lt t2) (hle.lt t1)
  have eb := r_opp (n + 8) (st ds (a + 1 + 1 + 1 + 1) m' (.dct (kvF (val m0.rows m') (ddp L lit)))) lit
  have p1 := kvF_put (val m0.rows m') L lit
  have p2 := kvF_put (val m0.rows m') (ddp L lit) (opp lit)
  refine ⟨m', ddp (ddp L lit) (opp lit), ⟨c', ?_, ?_⟩, ?_, hgl, ?_⟩
  · intro h
    have : opp lit ∈ ddp (ddp L lit) (opp lit) := mem_ddp.mpr (.inr rfl)
    rw [h] at this
    cases this
  · intro l h
    rcases mem_ddp.mp h with h | h
    · rcases mem_ddp.mp h with h | h
      · exact hle.lt (t.lt l h)
      · rw [h]; exact hlt
    · rw [h]; exact m'.opp_lt hlt
  · have := ddp_len (ddp L lit) (opp lit)
    have := ddp_len L lit
    omega
  · have er : m0.rows.length < 10000 := by omega
    have nd := ne_dB (bs := val m0.rows m' lit) (fun b hb => by have := val_b b hb; omega) (by rw [val_len]; omega)
    have lv : (val m0.rows m' lit).length ≤ 10000 := by rw [val_len]; omega
    have st1 : kvGet (kvF (val m0.rows m) L) (.inl (lit : Int)) = if lit ∈ L then some (.tuple ((val m0.rows m' lit).map dN)) else none := by rw [vE, kvF_get]; rfl
    simp only [run, Mk.o, fsE, fsE0, dB, st_put] at e1 e2 e3 e4 e5 e6 e7 e8 e9 ea eb p1 p2
    rw [← vE] at p1
    have par : (opp l1 = l1 + 1 ∧ l1 % 2 = 0) ∨ (opp l1 = l1 - 1 ∧ l1 % 2 = 1 ∧ 1 ≤ l1) := by
      unfold opp
      split <;> omega
    have fin : ∀ (X : Out), X = .next (EV sc m0 none none none none) (st ds (a + 4) m' (.dct (kvF (val m0.rows m') (ddp (ddp L lit) (opp lit))))) → X = .next (EV sc m0 none none none none) (st ds (a + 4) m' (.dct (kvF (val m0.rows m') (ddp (ddp L lit) (opp lit))))) := fun _ h => h
    have dl1 := ddp_len L lit
    have kl := fun (f : Nat → List Nat) (L : List Nat) => kvF_len f L
    have ci : ∀ (env : Ev) (S : Sto), 24 < env.length → compX (Fn n) [24] (.bin .Sub (.nat 1) (.var 24)) (.nm 24) .no env ((val m0.rows m' lit).map dN) S = .ok (.nl ((val m0.rows m' (opp lit)).map dN)) S := by
      intro env S he
      rw [compX_map dN (fun b => dN (1 - b)) (val m0.rows m' lit) (fun b hb => by
        have hb := val_b b hb
        have hv : ((env.set 24 none).set 24 (some (.p (dN b))))[24]? = some (some (.p (dN b))) := by rw [List.getElem?_set_self (by rw [List.length_set]; exact he)]
        k_dat (cturn, hv, and_self, and_self) "S") (by rw [val_len]; unfold sizeLine; omega), val_opp]
    rcases par with ⟨o1, o2⟩ | ⟨o1, o2, o3⟩
    · by_cases hm : lit ∈ L
      · rw [if_pos hm] at st1
        by_cases hk : kind = 0
        · have hb := mk0 hk
          have hb2 := m.both_again l1 l2
          rw [← hb] at hb2
          simp only at hb2
          rw [hb2] at ea
          subst hk
          k_dat (EV, e1, e2, e3, s0, e4, o1, o2, e5, e6, e7, e8, e9, st1, nd, Option.isSome_some, ea, objR_eq, putC_dct, kl, p1, p2, eb, ci, dB, and_self, and_self) "S"
        · k_dat (EV, e1, e2, e3, s0, e4, o1, o2, e5, e6, e7, e8, e9, st1, nd, Option.isSome_some, hk, ea, objR_eq, putC_dct, kl, p1, p2, eb, ci, dB, and_self, and_self) "S"
      · rw [if_neg hm] at st1
        by_cases hk : kind = 0
        · have hb := mk0 hk
          have hb2 := m.both_again l1 l2
          rw [← hb] at hb2
          simp only at hb2
          rw [hb2] at ea
          subst hk
          k_dat (EV, e1, e2, e3, s0, e4, o1, o2, e5, e6, e7, e8, e9, st1, nd, Option.isSome_none, ea, objR_eq, putC_dct, kl, p1, p2, eb, ci, dB, and_self, and_self) "S"
        · k_dat (EV, e1, e2, e3, s0, e4, o1, o2, e5, e6, e7, e8, e9, st1, nd, Option.isSome_none, hk, ea, objR_eq, putC_dct, kl, p1, p2, eb, ci, dB, and_self, and_self) "S"
    · by_cases hm : lit ∈ L
      · rw [if_pos hm] at st1
        by_cases hk : kind = 0
        · have hb := mk0 hk
          have hb2 := m.both_again l1 l2
          rw [← hb] at hb2
          simp only at hb2
          rw [hb2] at ea
          subst hk
          k_dat (EV, e1, e2, e3, s0, e4, o1, o2, e5, e6, e7, e8, e9, st1, nd, Option.isSome_some, ea, objR_eq, putC_dct, kl, p1, p2, eb, ci, dB, and_self, and_self) "S"
        · k_dat (EV, e1, e2, e3, s0, e4, o1, o2, e5, e6, e7, e8, e9, st1, nd, Option.isSome_some, hk, ea, objR_eq, putC_dct, kl, p1, p2, eb, ci, dB, and_self, and_self) "S"
      · rw [if_neg hm] at st1
        by_cases hk : kind = 0
        · have hb := mk0 hk
          have hb2 := m.both_again l1 l2
          rw [← hb] at hb2
          simp only at hb2
          rw [hb2] at ea
          subst hk
          k_dat (EV, e1, e2, e3, s0, e4, o1, o2, e5, e6, e7, e8, e9, st1, nd, Option.isSome_none, ea, objR_eq, putC_dct, kl, p1, p2, eb, ci, dB, and_self, and_self) "S"
        · k_dat (EV, e1, e2, e3, s0, e4, o1, o2, e5, e6, e7, e8, e9, st1, nd, Option.isSome_none, hk, ea, objR_eq, putC_dct, kl, p1, p2, eb, ci, dB, and_self, and_self) "S"
end
end Vz.L
set_option Elab.async false
set_option linter.all false
set_option maxRecDepth 100000
set_option maxHeartbeats 4000000
namespace Vz.L
open PySem PySem.Spec L2 Vy
section
variable {n : Nat} {m0 m : Mk} {L : List Nat} (t : Tn m0 m L) {ds : List Nat} {a : Nat} {sc : D}
include t
theorem l12 (hl : L.length < 64) (hg : m.gates.length ≤ 100) (ha : a < 800) {outs : List Nat} (ho : ∀ l ∈ outs, l ∈ L) (o2 : outs.length = 2)
    (h : ∀ laters a', a' ≤ a + 1 → Gn m0 m laters outs → LawOk (Fn n) t_law_13 (EV sc m0 (some (.p (.list (outs.map dN)))) (some (.p (m.gr laters outs).enc)) none none) (st ds a' m (.dct (kvF (val m0.rows m) L)))) :
    LawOk (Fn n) t_law_12 (EV sc m0 (some (.p (.list (outs.map dN)))) none none none) (st ds a m (.dct (kvF (val m0.rows m) L))) := by
  have zf := t.c.fst
  obtain ⟨laters, h1, h2, h3⟩ := picks (n := n) (m0 := m0) (m := m) (ds := ds) (a := a) (sc := sc) (f := val m0.rows m) t.ne hl (some (.p (.list (outs.map dN)))) m0.fst.length (by omega) (by omega)
  have g : GrOk m laters outs := ⟨fun l hl => t.lt l (h2 l hl), by rw [h1, t.c.le.fst], fun l hl => t.lt l (ho l hl), by omega, by omega, by omega⟩
  refine LawOk.of ?_ (h laters (a + m0.fst.length) (by omega) ⟨t.c, g, o2⟩)
  have e1 := r_mgraph (n + 3) (st ds (a + m0.fst.length) m (.dct (kvF (val m0.rows m) L))) (st_at ..) t.c.ok g
  simp only [run, t.c.obj] at e1
  simp only [EV] at h3
  k_dat (t_law_12, EV, range_dN, objR_eq, h3, e1, and_self, and_self) "S"
theorem l11 (hl : L.length < 64) (hg : m.gates.length ≤ 100) (ha : a < 700)
    (h : ∀ laters outs a', a' ≤ a + 3 → Gn m0 m laters outs → (∀ l ∈ outs, l ∈ L) → LawOk (Fn n) t_law_13 (EV sc m0 (some (.p (.list (outs.map dN)))) (some (.p (m.gr laters outs).enc)) none none) (st ds a' m (.dct (kvF (val m0.rows m) L)))) :
    LawOk (Fn n) t_law_11 (EV sc m0 none none none none) (st ds a m (.dct (kvF (val m0.rows m) L))) := by
  obtain ⟨outs, h1, h2, h3⟩ := picks (n := n) (m0 := m0) (m := m) (ds := ds) (a := a) (sc := sc) (f := val m0.rows m) t.ne hl none 2 (by omega) (by omega)
  refine LawOk.of ?_ (l12 t hl hg (a := a + 2) (by omega) h2 h1 fun laters a' ha' g => h laters outs a' (by omega) g h2)
  simp only [EV] at h3
  k_dat (t_law_11, EV, range_dN, h3, and_self, and_self) "S"
theorem law_11 (hl : L.length < 64) (hg : m.gates.length ≤ 90) (ha : a < 700) : LawOk (Fn n) t_law_11 (EV sc m0 none none none none) (st ds a m (.dct (kvF (val m0.rows m) L))) := by
  refine l11 t hl (by omega) ha fun laters outs a' ha' g ho => l13 g (l14 g (l15 g ho (l16 g (l17 g.c rfl (by omega) fun d hd => l19 g.c hd (l21 g.c (by omega) (l22 g.c g.g.out (by rw [g.o2]; omega) (l23 g.c (l24 g.c g.ok g.first (l25 g.c (by omega) fun a2 h2 => l26 g.c (by omega))))))))))
theorem l10 (hl : L.length ≤ 8) (hg : m.gates.length = 0) (ha : a < 300) : LawOk (Fn n) t_law_10 (EV sc m0 none none none none) (st ds a m (.dct (kvF (val m0.rows m) L))) := by
  have e1 := r_draw (n + 8) ds [.lst (m.gates.map dP), .dcT (seenL m.first m.gates), .dct (kvF (val m0.rows m) L)] (a := a) (m := 6) (by omega) (by decide)
  have d1 := draw_lt ds a (m := 6) (by decide)
  generalize draw ds a 6 = k at e1 d1
  obtain ⟨env', S', h1, ⟨m', L', a', t', h2, h3, h4, h5, h6⟩⟩ := forL_inv (b := bodyF (Fn n) lim (.nm 9) b_law_2) dN (List.range (3 + k))
    (fun r env S' => ∃ (m' : Mk) (L' : List Nat) (a' : Nat), Tn m0 m' L' ∧ L'.length + 2 * r.length ≤ 24 ∧ m'.gates.length + 3 * r.length ≤ 24 ∧ a' + 4 * r.length = a + 1 + 4 * (3 + k) ∧ env = EV sc m0 none none none none ∧ S' = st ds a' m' (.dct (kvF (val m0.rows m') L')))
    (EV sc m0 none none none none) (st ds (a + 1) m (.dct (kvF (val m0.rows m) L))) ⟨m, L, a + 1, t, by rw [List.length_range]; omega, by rw [List.length_range]; omega, by rw [List.length_range], rfl, rfl⟩ (by
    rintro x r env S' ⟨m', L', a', t', k1, k2, k3, rfl, rfl⟩
    rw [List.length_cons] at k1 k2 k3
    obtain ⟨m2, L2, t2, k4, k5, k6⟩ := turn (n := n) t' (ds := ds) (a := a') (sc := sc) (.p (dN x)) (by omega) (by omega) (by omega)
    refine ⟨_, _, .inl ?_, m2, L2, a' + 4, t2, by omega, by omega, by omega, rfl, rfl⟩
    rw [bodyF_eq, tgSet_nm, optK_some]
    exact k6)
  subst h5 h6
  simp only [List.length_nil] at h2 h3 h4
  refine LawOk.of ?_ (law_11 (n := n) t' (by omega) (by omega) (ds := ds) (sc := sc) (a := a') (by omega))
  simp only [run] at e1
  simp only [EV] at h1
  k_dat (t_law_10, EV, e1, range_dN, h1, and_self, and_self) "S"
end
end Vz.L
set_option Elab.async false
set_option linter.all false
set_option maxRecDepth 100000
set_option maxHeartbeats 4000000
namespace Vz.L
open PySem PySem.Spec L2 Vy
abbrev mk0 (ins : Nat) (fst : List Nat) : Mk := ⟨ins, fst, []⟩
def EW (sc : D) (m0 : Mk) (o6 o7 : Option SV) : Ev :=
  [some (.p sc), some (.ref 0), some (.p (dB m0.fst)), some (.obj 0 (m0.fs 1)), some (.p (.int (m0.many : Nat))), none, o6, o7, none, none, none, none, none, none,
    some (.p (.int m0.ins)), some (.p (.int (m0.fst.length : Nat))), none, none, none, none, none, none, none, none, none, none]
theorem ddisp_2 (a b : List Nat) : ddispD [.int 0, .int 1] [.tuple (a.map dN), .tuple (b.map dN)] = some (.nd [(.inl ((0 : Nat) : Int), dB a), (.inl ((1 : Nat) : Int), dB b)]) := rfl
section
variable {n : Nat} {m0 : Mk} (c : Cn m0 m0) (hg : m0.gates = []) {ds : List Nat} {a : Nat} {sc : D}
include c hg
theorem free_lit {r : List Nat} (hr : r ∈ m0.rows) {k : Nat} (hk : k < m0.many) : m0.lit r (2 + 2 * k) = r.getD k 0 := by
  have f := rowsL_F hr
  have hl : k < r.length := by rw [f.len]; exact hk
  have b2 := f.b _ (List.getElem_mem hl)
  unfold Mk.lit Mk.vals
  rw [hg]
  show lit (0 :: r) _ = _
  unfold lit
  rw [show (2 + 2 * k) / 2 = k + 1 by omega, List.getD_eq_getElem?_getD, List.getElem?_cons_succ, List.getElem?_eq_getElem hl, List.getD_eq_getElem?_getD, List.getElem?_eq_getElem hl]
  simp only [Option.getD_some]
  omega
theorem l9 {L : List Nat} (ne : L ≠ []) (lt : ∀ l ∈ L, l < m0.top) (hl : L.length ≤ 8) (ha : a < 300) : LawOk (Fn n) t_law_9 (EW sc m0 (some (.p (.list (m0.rows.map dB)))) (some (.ref 3))) (st ds a m0 (.dct (kvF (val m0.rows m0) L))) := by
  refine LawOk.of ?_ (l10 (n := n) (sc := sc) (ds := ds) (a := a) ⟨c, ne, lt⟩ hl (by rw [hg]; rfl) ha)
  k_dat (t_law_9, EW, EV, and_self, and_self) "S"
theorem l8 (ha : a < 300) : LawOk (Fn n) t_law_8 (EW sc m0 (some (.p (.list (m0.rows.map dB)))) (some (.ref 3))) (st ds a m0 (.dct (kvF (val m0.rows m0) [0, 1]))) := by
  have sz := c.sz
  have rn := rowN c
  have tp : m0.top = 2 * (1 + m0.many) := by
    have : m0.top = 2 * (m0.first + m0.gates.length) := rfl
    rw [hg] at this
    have := sz.2.2.2.2.2.1
    simp only [List.length_nil] at *
    omega
  obtain ⟨env', S', h1, ⟨L, h2, h3, h4, h5, h6⟩⟩ := forL_inv (b := bodyF (Fn n) lim (.nm 5) b_law_1) dN (List.range m0.many)
    (fun r env S' => ∃ (L : List Nat), L ≠ [] ∧ (∀ l ∈ L, l < m0.top) ∧ (L.length + 2 * r.length ≤ 2 + 2 * m0.many ∧ ∀ x ∈ r, x < m0.many) ∧ env = EW sc m0 (some (.p (.list (m0.rows.map dB)))) (some (.ref 3)) ∧ S' = st ds a m0 (.dct (kvF (val m0.rows m0) L)))
    (EW sc m0 (some (.p (.list (m0.rows.map dB)))) (some (.ref 3))) (st ds a m0 (.dct (kvF (val m0.rows m0) [0, 1]))) ⟨[0, 1], by simp, by intro l hl; simp only [List.mem_cons, List.not_mem_nil, or_false] at hl; omega, ⟨by rw [List.length_range]; simp, fun x hx => List.mem_range.mp hx⟩, rfl, rfl⟩ (by
    rintro k r env S' ⟨L, k1, k2, ⟨k3, k4⟩, rfl, rfl⟩
    rw [List.length_cons] at k3
    have hk := k4 k List.mem_cons_self
    refine ⟨_, _, .inl ?_, ddp (ddp L (2 + 2 * k)) (3 + 2 * k), ?_, ?_, ⟨?_, fun x hx => k4 x (List.mem_cons_of_mem _ hx)⟩, rfl, rfl⟩
    · have p1 := kvF_put (val m0.rows m0) L (2 + 2 * k)
      have p2 := kvF_put (val m0.rows m0) (ddp L (2 + 2 * k)) (3 + 2 * k)
      have v1 : m0.rows.map (fun r => dN (r.getD k 0)) = (val m0.rows m0 (2 + 2 * k)).map dN := by
        unfold val
        rw [List.map_map]
        refine List.map_congr_left fun r hr => ?_
        show _ = dN (m0.lit r (2 + 2 * k))
        rw [free_lit c hg hr hk]
      have v2 : m0.rows.map (fun r => dN (1 - r.getD k 0)) = (val m0.rows m0 (3 + 2 * k)).map dN := by
        unfold val
        rw [List.map_map]
        refine List.map_congr_left fun r hr => ?_
        show _ = dN (m0.lit r (3 + 2 * k))
        have : 3 + 2 * k = opp (2 + 2 * k) := by unfold opp; rw [if_pos (by omega)]; omega
        rw [this, Mk.lit_opp, free_lit c hg hr hk]
      have dl1 := ddp_len L (2 + 2 * k)
      have kl := fun (f : Nat → List Nat) (L : List Nat) => kvF_len f L
      simp only [dB] at p1 p2
      k_dat (EW, and_self, and_self) "S"
      rw [compX_map dB (fun r => dN (r.getD k 0)) m0.rows (fun r hr => by
        have hl : k < r.length := by rw [(rowsL_F hr).len]; exact hk
        rw [show dB r = .tuple (r.map dN) from rfl]
        k_dat (cturn, at_dN, and_self, and_self) "S") (by unfold sizeLine; omega), v1]
      k_dat (EW, and_self, and_self) "S"
      rw [compX_map dB (fun r => dN (1 - r.getD k 0)) m0.rows (fun r hr => by
        have hl : k < r.length := by rw [(rowsL_F hr).len]; exact hk
        have b2 : r.getD k 0 < 2 := (rowsL_F hr).b _ (getD_mem hl)
        rw [show dB r = .tuple (r.map dN) from rfl]
        k_dat (cturn, at_dN, and_self, and_self) "S") (by unfold sizeLine; omega), v2]
      k_dat (EW, setTs_sr, setTs_nil, putC_dct, kl, p1, p2, and_self, and_self) "S"
    · intro h
      have : 3 + 2 * k ∈ ddp (ddp L (2 + 2 * k)) (3 + 2 * k) := mem_ddp.mpr (.inr rfl)
      rw [h] at this
      cases this
    · intro l h
      rcases mem_ddp.mp h with h | h
      · rcases mem_ddp.mp h with h | h
        · exact k2 l h
        · omega
      · omega
    · have := ddp_len (ddp L (2 + 2 * k)) (3 + 2 * k)
      have := ddp_len L (2 + 2 * k)
      omega)
  subst h5 h6
  refine LawOk.of ?_ (l9 (n := n) (sc := sc) (ds := ds) (a := a) c hg (L := L) h2 h3 (by have := h4.1; simp only [List.length_nil] at this; omega) ha)
  simp only [EW] at h1
  k_dat (t_law_8, EW, range_dN, h1, and_self, and_self) "S"
end
end Vz.L
set_option Elab.async false
set_option linter.all false
set_option maxRecDepth 100000
set_option maxHeartbeats 4000000
namespace Vz.L
open PySem PySem.Spec L2 Vy
section
variable {n : Nat} {m0 : Mk} (c : Cn m0 m0) (hg : m0.gates = []) {ds : List Nat} {a : Nat} {sc : D}
include c hg
abbrev st3 (ds : List Nat) (a : Nat) (m : Mk) : Sto := [bx ds a, .lst (m.gates.map dP), .dcT (seenL m.first m.gates)]
theorem l6 (ha : a < 300) : LawOk (Fn n) t_law_6 (EW sc m0 none none) (st3 ds a m0) := by
  refine LawOk.of ?_ (l8 (n := n) (sc := sc) (ds := ds) (a := a) c hg ha)
  have sz := c.sz
  have rn := rowN c
  have e1 := r_bits_rows (n + 7) (st3 ds a m0) (many := m0.many) (by omega)
  have v0 : m0.rows.map (fun _ => dN 0) = (val m0.rows m0 0).map dN := by
    unfold val
    rw [List.map_map]
    refine List.map_congr_left fun r hr => ?_
    show _ = dN (m0.lit r 0)
    rw [m0.lit_zero]
  have v1 : m0.rows.map (fun _ => dN 1) = (val m0.rows m0 1).map dN := by
    unfold val
    rw [List.map_map]
    refine List.map_congr_left fun r hr => ?_
    show _ = dN (m0.lit r 1)
    rw [m0.lit_one]
  have er : rowsL 1 m0.many = m0.rows := rfl
  simp only [run, er] at e1
  k_dat (t_law_6, EW, e1, t_law_7, and_self, and_self) "S"
  rw [compX_map dB (fun _ => dN 0) m0.rows (fun r hr => by
    rw [show dB r = .tuple (r.map dN) from rfl]
    k_dat (cturn, and_self, and_self) "S") (by unfold sizeLine; omega), v0]
  k_dat (EW, and_self, and_self) "S"
  rw [compX_map dB (fun _ => dN 1) m0.rows (fun r hr => by
    rw [show dB r = .tuple (r.map dN) from rfl]
    k_dat (cturn, and_self, and_self) "S") (by unfold sizeLine; omega), v1]
  have e3 : [(.inl ((0 : Nat) : Int), dB (val m0.rows m0 0)), (.inl ((1 : Nat) : Int), dB (val m0.rows m0 1))] = kvF (val m0.rows m0) [0, 1] := rfl
  k_dat (ddisp_2, e3, and_self, and_self) "S"
theorem l5 (ha : a < 300) : LawOk (Fn n) t_law_5 (EW sc m0 none none) (st3 ds a m0) := by
  refine LawOk.of ?_ (l6 (n := n) (sc := sc) (ds := ds) (a := a) c hg ha)
  have sz := c.sz
  have hm : m0.many = m0.ins + m0.fst.length := rfl
  have key := (forL_fold (b := bodyF (Fn n) lim (.nm 5) b_law_0) dN (fun _ : Unit => EW sc m0 none none) (fun _ => st3 ds a m0) (fun u _ => u) (List.range m0.many) (fun r _ => ∀ k ∈ r, k < m0.many) () (fun k hk => List.mem_range.mp hk) ?_).1
  · simp only [EW] at key
    k_dat (t_law_5, EW, range_dN, key, and_self, and_self) "S"
  · intro k r _ hk
    have hk1 := hk k List.mem_cons_self
    refine ⟨.inl ?_, fun x hx => hk x (List.mem_cons_of_mem _ hx)⟩
    by_cases h : k < m0.ins
    · have e1 := r_literal_in (n + 7) (st3 ds a m0) (k := 1) h
      have e2 : 2 * (1 + k) = 2 + 2 * k := by omega
      simp only [run, Mk.o, e2] at e1
      k_dat (EW, h, objR_eq, e1, and_self, and_self) "S"
    · have e1 := r_literal_kept (n + 7) (st3 ds a m0) (k := 1) (m := m0) (i := k - m0.ins) (by omega)
      have e2 : 2 * (1 + m0.ins + (k - m0.ins)) = 2 + 2 * k := by omega
      simp only [run, Mk.o, e2] at e1
      k_dat (EW, h, objR_eq, e1, and_self, and_self) "S"
end
theorem law_true (n : Nat) (xs : List Int) (hx : xs.length ≤ 63) : run (n + 10) 35 [.p (.list (xs.map .int))] [] = .ok (.p (.bool true)) [] := by
  obtain ⟨ds, d1, d2⟩ := r_digits (n + 8) [] xs hx
  have dr := fun a' m (h : a' < 1000000) (hm : 0 < m) => r_draw (n + 8) ds [] (a := a') (m := m) h hm
  have e1 := dr 0 2 (by decide) (by decide)
  have e2 := dr 1 2 (by decide) (by decide)
  have l1 := draw_lt ds 0 (m := 2) (by decide)
  have l2 := draw_lt ds 1 (m := 2) (by decide)
  generalize draw ds 0 2 = v1 at e1 l1
  generalize draw ds 1 2 = v2 at e2 l2
  obtain ⟨fst, w1, w2, w3⟩ := r_drawn_bits (n + 7) ds [] (a := 2) (m := v2) (by omega)
  have e3 := r_newM (n + 6) [bx ds (2 + v2)] (1 + v1) fst (by omega) (by omega) w2
  have ok : (mk0 (1 + v1) fst).Ok := ⟨by simp only; omega, by simp only; omega, w2, trivial, by simp, by simp⟩
  have c : Cn (mk0 (1 + v1) fst) (mk0 (1 + v1) fst) := ⟨ok, .refl _, by simp only; omega, by simp only; omega, by simp only; omega, by simp⟩
  obtain ⟨S', h⟩ := l5 (n := n) c rfl (sc := .list (xs.map .int)) (ds := ds) (a := 2 + v2) (by omega)
  have em : (mk0 (1 + v1) fst).many = 1 + v1 + v2 := by
    show 1 + v1 + fst.length = _
    rw [w1]
  simp only [EW, em, w1, st3, List.map_nil, seenL, dB] at h
  simp only [run, Mk.o, List.length_cons, List.length_nil, Nat.zero_add, List.cons_append, List.nil_append] at d2 e1 e2 e3
  simp only [run, dB] at w3
  rw [run, runF_eq (fn := i_law) rfl rfl rfl (by decide) rfl]
  k_dat (i_law, t_law_0, d2, t_law_1, e1, e2, t_law_2, w3, t_law_3, objR_eq, e3, t_law_4, h, List.take_zero, and_self, and_self) "S"
end Vz.L
set_option Elab.async false
set_option linter.all false
set_option maxRecDepth 100000
set_option maxHeartbeats 0
namespace Vz.L
open PySem PySem.Spec L2 Vy He
/-! ### the head -/
abbrev LW : PySem.W.OpenLaw := PySem.Challenge.rw_gateforge_k05_gates_made
abbrev R0 : PySem.W.OpenRow := PySem.W.OpenLaw.row PySem.Challenge.rw_gateforge_k05_gates_made
def top (i : Nat) : Stmt := PySem.Challenge.pw_gateforge_k05_gates_made.main.body.getD i (.Pass ⟨0, 0, 0, 0⟩)
def clsFn : Stmt → Stmt
  | .ClassDef (body := b) .. => b.headD (.Pass ⟨0, 0, 0, 0⟩)
  | s => s
def clsB (st : Stmt) (i : Nat) : Stmt := match st with
  | .ClassDef (body := b) .. => b.getD i (.Pass ⟨0, 0, 0, 0⟩)
  | s => s
def xd (x q : Str) (i : Nat) (fs : List Str) : XD := ⟨x, q, defArgs (clsFn (top i)), defBody (clsFn (top i)), defScope (clsFn (top i)), ("self" : Str) :: (fs ++ [("__class__" : Str)]), fs⟩
def rw_is_integer : Vy.Row := ⟨"is_integer", false, top 6, i_is_integer, (["thing"] : List Str), (["thing"] : List Str), .fn, "is_integer"⟩
def rw_is_bit : Vy.Row := ⟨"is_bit", false, top 7, i_is_bit, (["thing"] : List Str), (["thing"] : List Str), .fn, "is_bit"⟩
def rw_graph_fault : Vy.Row := ⟨"graph_fault", false, top 11, i_graph_fault, (["thing", "first", "top", "ins", "latches", "gates", "outs", "one", "at"] : List Str), (["thing"] : List Str), .fn, "graph_fault"⟩
def rw_is_latch : Vy.Row := ⟨"is_latch", false, top 12, i_is_latch, (["thing", "top"] : List Str), (["thing", "top"] : List Str), .fn, "is_latch"⟩
def rw_is_gate : Vy.Row := ⟨"is_gate", false, top 13, i_is_gate, (["thing", "top", "one"] : List Str), (["thing", "top"] : List Str), .fn, "is_gate"⟩
def rw_check_graph : Vy.Row := ⟨"check_graph", false, top 14, i_check_graph, (["graph"] : List Str), (["graph"] : List Str), .fn, "check_graph"⟩
def rw_first_gate : Vy.Row := ⟨"first_gate", false, top 15, i_first_gate, (["graph"] : List Str), (["graph"] : List Str), .fn, "first_gate"⟩
def rw_opposite : Vy.Row := ⟨"opposite", false, top 17, i_opposite, (["literal"] : List Str), (["literal"] : List Str), .fn, "opposite"⟩
def rw_told_at_once : Vy.Row := ⟨"told_at_once", false, top 18, i_told_at_once, (["one", "other"] : List Str), (["one", "other"] : List Str), .fn, "told_at_once"⟩
def rw_taken_in : Vy.Row := ⟨"taken_in", false, top 20, i_taken_in, (["maker", "graph", "literals", "found", "one", "other"] : List Str), (["maker", "graph", "literals"] : List Str), .fn, "taken_in"⟩
def rw_moved : Vy.Row := ⟨"moved", false, top 21, i_moved, (["found", "literal", "told"] : List Str), (["found", "literal"] : List Str), .fn, "moved"⟩
def rw__law_digits : Vy.Row := ⟨"_law_digits", false, top 23, i__law_digits, (["script", "first", "last", "digits", "k", "cell", "turn", "seed"] : List Str), (["script", "first", "last"] : List Str), .fn, "_law_digits"⟩
def rw__law_draw : Vy.Row := ⟨"_law_draw", false, top 24, i__law_draw, (["box", "many", "at"] : List Str), (["box", "many"] : List Str), .fn, "_law_draw"⟩
def rw__law_pick : Vy.Row := ⟨"_law_pick", false, top 25, i__law_pick, (["box", "things"] : List Str), (["box", "things"] : List Str), .fn, "_law_pick"⟩
def rw__law_same : Vy.Row := ⟨"_law_same", true, top 26, i__law_same, (["a", "b"] : List Str), (["a", "b"] : List Str), .fn, "_law_same"⟩
def rw__law_rows : Vy.Row := ⟨"_law_rows", false, top 28, i__law_rows, (["many", "limit", "found", "turn", "later", "row", "k"] : List Str), (["many", "limit"] : List Str), .fn, "_law_rows"⟩
def rw__law_lit : Vy.Row := ⟨"_law_lit", false, top 29, i__law_lit, (["bits", "literal"] : List Str), (["bits", "literal"] : List Str), .fn, "_law_lit"⟩
def rw__law_settled : Vy.Row := ⟨"_law_settled", false, top 30, i__law_settled, (["graph", "state", "row", "bits", "one", "other"] : List Str), (["graph", "state", "row"] : List Str), .fn, "_law_settled"⟩
def rw__law_ends : Vy.Row := ⟨"_law_ends", false, top 31, i__law_ends, (["graph", "row", "bits", "literal", "first"] : List Str), (["graph", "row"] : List Str), .fn, "_law_ends"⟩
def rw__law_free : Vy.Row := ⟨"_law_free", false, top 32, i__law_free, (["graph"] : List Str), (["graph"] : List Str), .fn, "_law_free"⟩
def rw__law_bits_rows : Vy.Row := ⟨"_law_bits_rows", false, top 33, i__law_bits_rows, (["many", "row"] : List Str), (["many"] : List Str), .fn, "_law_bits_rows"⟩
def rw__law_drawn_bits : Vy.Row := ⟨"_law_drawn_bits", false, top 34, i__law_drawn_bits, (["box", "many", "k"] : List Str), (["box", "many"] : List Str), .fn, "_law_drawn_bits"⟩
def rw__law_at_once : Vy.Row := ⟨"_law_at_once", false, top 35, i__law_at_once, (["one", "other"] : List Str), (["one", "other"] : List Str), .fn, "_law_at_once"⟩
def rw__law_made : Vy.Row := ⟨"_law_made", false, top 36, i__law_made, (["maker", "told", "kind", "one", "other", "third", "rows", "a", "b", "c", "literal", "due", "k"] : List Str), (["maker", "told", "kind", "one", "other", "third"] : List Str), .fn, "_law_made"⟩
def rw__law_taken : Vy.Row := ⟨"_law_taken", false, top 37, i__law_taken, (["graph", "outs", "kept", "every", "many", "other", "found", "again", "k", "literal", "row"] : List Str), (["graph", "outs", "kept", "every"] : List Str), .fn, "_law_taken"⟩
def rw_law : Vy.Row := ⟨"law", true, top 38, i_law, (["script", "box", "firsts", "maker", "many", "k", "every", "told", "gates", "turn", "outs", "graph", "top", "bad", "ins", "kept", "kind", "turned", "one", "other", "third", "literal", "due", "row", "bit", "gate"] : List Str), (["script"] : List Str), .fn, "law"⟩
def rw_Maker___init__ : Vy.Row := ⟨"__init__", false, clsB (top 19) 0, i_Maker___init__, (["self", "ins", "firsts", "one"] : List Str), (["self", "ins", "firsts"] : List Str), .mk 0 "Maker", "Maker.__init__"⟩
def rw_Maker_literal_in : Vy.Row := ⟨"literal_in", false, clsB (top 19) 1, i_Maker_literal_in, (["self", "at"] : List Str), (["self", "at"] : List Str), .mth 0 "Maker", "Maker.literal_in"⟩
def rw_Maker_literal_kept : Vy.Row := ⟨"literal_kept", false, clsB (top 19) 2, i_Maker_literal_kept, (["self", "at"] : List Str), (["self", "at"] : List Str), .mth 0 "Maker", "Maker.literal_kept"⟩
def rw_Maker_check_literal : Vy.Row := ⟨"check_literal", false, clsB (top 19) 3, i_Maker_check_literal, (["self", "literal"] : List Str), (["self", "literal"] : List Str), .mth 0 "Maker", "Maker.check_literal"⟩
def rw_Maker_both : Vy.Row := ⟨"both", false, clsB (top 19) 4, i_Maker_both, (["self", "one", "other", "told", "pair"] : List Str), (["self", "one", "other"] : List Str), .mth 0 "Maker", "Maker.both"⟩
def rw_Maker_either : Vy.Row := ⟨"either", false, clsB (top 19) 5, i_Maker_either, (["self", "one", "other"] : List Str), (["self", "one", "other"] : List Str), .mth 0 "Maker", "Maker.either"⟩
def rw_Maker_just_one : Vy.Row := ⟨"just_one", false, clsB (top 19) 6, i_Maker_just_one, (["self", "one", "other", "first", "second"] : List Str), (["self", "one", "other"] : List Str), .mth 0 "Maker", "Maker.just_one"⟩
def rw_Maker_picked : Vy.Row := ⟨"picked", false, clsB (top 19) 7, i_Maker_picked, (["self", "which", "one", "other", "first"] : List Str), (["self", "which", "one", "other"] : List Str), .mth 0 "Maker", "Maker.picked"⟩
def rw_Maker_all_of : Vy.Row := ⟨"all_of", false, clsB (top 19) 8, i_Maker_all_of, (["self", "literals", "found", "one"] : List Str), (["self", "literals"] : List Str), .mth 0 "Maker", "Maker.all_of"⟩
def rw_Maker_graph : Vy.Row := ⟨"graph", false, clsB (top 19) 9, i_Maker_graph, (["self", "laters", "outs", "literal", "found"] : List Str), (["self", "laters", "outs"] : List Str), .mth 0 "Maker", "Maker.graph"⟩
def rowsT : List Vy.Row := [rw_is_integer, rw_is_bit, rw_graph_fault, rw_is_latch, rw_is_gate, rw_check_graph, rw_first_gate, rw_opposite, rw_told_at_once, rw_taken_in, rw_moved, rw__law_digits, rw__law_draw, rw__law_pick, rw__law_same, rw__law_rows, rw__law_lit, rw__law_settled, rw__law_ends, rw__law_free, rw__law_bits_rows, rw__law_drawn_bits, rw__law_at_once, rw__law_made, rw__law_taken]
def msT : List Vy.Row := [rw_Maker___init__, rw_Maker_literal_in, rw_Maker_literal_kept, rw_Maker_check_literal, rw_Maker_both, rw_Maker_either, rw_Maker_just_one, rw_Maker_picked, rw_Maker_all_of, rw_Maker_graph]
def ocD : OC := [("Maker", (["ins", "firsts", "gates", "seen"] : List Str))]
def tdD : DefD := ⟨("_law_told", none), "_law_told", "_law_told", defArgs (top 27), defBody (top 27), defScope (top 27), [], []⟩
def x_BadThing : XD := xd "BadThing" "BadThing.__init__" 2 (["reason"] : List Str)
def x_TooMany : XD := xd "TooMany" "TooMany.__init__" 3 (["what"] : List Str)
def x_Refused : XD := xd "Refused" "Refused.__init__" 4 (["reason"] : List Str)
def xsD : List XD := [x_BadThing, x_TooMany, x_Refused]
def consD : List (Str × Int) := [("MOST_INS", 16), ("MOST_GATES", 400)]
def tblD : List (Nat × Str × Str × Str) := [(1, "BadThing", "bad thing", "reason"), (3, "Refused", "refused", "reason"), (2, "TooMany", "too many", "what")]
abbrev file0 : Str := PySem.Challenge.pw_gateforge_k05_gates_made.main.file
abbrev hk : PySem.W.Hook := hookY file0 6 (faA rowsT tdD rw_law xsD consD ocD msT) (fnG rowsT tdD rw_law msT) [(rw_law.x, none)] xsD
def ob (s : PySem.W.SharedT) : AlY := obsY file0 6 (faA rowsT tdD rw_law xsD consD ocD msT) (fnG rowsT tdD rw_law msT) [(rw_law.x, none)] xsD (HandSHeadRun.getT s)
theorem ob_eq (s : PySem.W.SharedT) : ob s = hk.obs s.abs := obsY_eq (HandSHeadRun.getT_eq s)
def loose : List Str := (["ForgeError", "BadThing", "TooMany", "Refused", "is_integer", "is_bit", "MOST_INS", "MOST_GATES", "graph_fault", "is_latch", "is_gate", "check_graph", "first_gate", "opposite", "told_at_once", "Maker", "taken_in", "moved", "_law_digits", "_law_draw"] : List Str) ++ (["_law_pick", "_law_same", "_law_told", "_law_rows", "_law_lit", "_law_settled", "_law_ends", "_law_free", "_law_bits_rows", "_law_drawn_bits", "_law_at_once", "_law_made", "_law_taken"] : List Str)
theorem run0 (w : World) : HandSHeadRun.RunEq R0 (PySem.W.view R0.prog [38]) hk ob 4000 loose w := by
  intro os
  kernel_rfl
theorem rows_ok : (rowsT.all fun r => r.ok (gtG rowsT tdD xsD consD (tblD.map fun t => (t.1, t.2.2.1)) ocD msT) 0) = true := by decide +kernel
theorem ms_ok : (msT.all fun r => r.okM (gtG rowsT tdD xsD consD (tblD.map fun t => (t.1, t.2.2.1)) ocD msT) ocD) = true := by decide +kernel
theorem law_ok : rw_law.ok (gtG rowsT tdD xsD consD (tblD.map fun t => (t.1, t.2.2.1)) ocD msT) 2 = true := by decide +kernel
theorem rows_b : BindAll rowsT := ⟨fun _ _ _ _ _ _ us hl => match us, hl with | [_], _ => rfl, fun _ _ _ _ _ _ us hl => match us, hl with | [_], _ => rfl, fun _ _ _ _ _ _ us hl => match us, hl with | [_], _ => rfl, fun _ _ _ _ _ _ us hl => match us, hl with | [_, _], _ => rfl, fun _ _ _ _ _ _ us hl => match us, hl with | [_, _], _ => rfl, fun _ _ _ _ _ _ us hl => match us, hl with | [_], _ => rfl, fun _ _ _ _ _ _ us hl => match us, hl with | [_], _ => rfl, fun _ _ _ _ _ _ us hl => match us, hl with | [_], _ => rfl, fun _ _ _ _ _ _ us hl => match us, hl with | [_, _], _ => rfl, fun _ _ _ _ _ _ us hl => match us, hl with | [_, _, _], _ => rfl, fun _ _ _ _ _ _ us hl => match us, hl with | [_, _], _ => rfl, fun _ _ _ _ _ _ us hl => match us, hl with | [_, _, _], _ => rfl, fun _ _ _ _ _ _ us hl => match us, hl with | [_, _], _ => rfl, fun _ _ _ _ _ _ us hl => match us, hl with | [_, _], _ => rfl, fun _ _ _ _ _ _ us hl => match us, hl with | [_, _], _ => rfl, fun _ _ _ _ _ _ us hl => match us, hl with | [_, _], _ => rfl, fun _ _ _ _ _ _ us hl => match us, hl with | [_, _], _ => rfl, fun _ _ _ _ _ _ us hl => match us, hl with | [_, _, _], _ => rfl, fun _ _ _ _ _ _ us hl => match us, hl with | [_, _], _ => rfl, fun _ _ _ _ _ _ us hl => match us, hl with | [_], _ => rfl, fun _ _ _ _ _ _ us hl => match us, hl with | [_], _ => rfl, fun _ _ _ _ _ _ us hl => match us, hl with | [_, _], _ => rfl, fun _ _ _ _ _ _ us hl => match us, hl with | [_, _], _ => rfl, fun _ _ _ _ _ _ us hl => match us, hl with | [_, _, _, _, _, _], _ => rfl, fun _ _ _ _ _ _ us hl => match us, hl with | [_, _, _, _], _ => rfl, trivial⟩
theorem ms_b : BindAll msT := ⟨fun _ _ _ _ _ _ us hl => match us, hl with | [_, _, _], _ => rfl, fun _ _ _ _ _ _ us hl => match us, hl with | [_, _], _ => rfl, fun _ _ _ _ _ _ us hl => match us, hl with | [_, _], _ => rfl, fun _ _ _ _ _ _ us hl => match us, hl with | [_, _], _ => rfl, fun _ _ _ _ _ _ us hl => match us, hl with | [_, _, _], _ => rfl, fun _ _ _ _ _ _ us hl => match us, hl with | [_, _, _], _ => rfl, fun _ _ _ _ _ _ us hl => match us, hl with | [_, _, _], _ => rfl, fun _ _ _ _ _ _ us hl => match us, hl with | [_, _, _, _], _ => rfl, fun _ _ _ _ _ _ us hl => match us, hl with | [_, _], _ => rfl, fun _ _ _ _ _ _ us hl => match us, hl with | [_, _, _], _ => rfl, trivial⟩
theorem oc_nd : ∀ p ∈ ocD, p.2.Nodup := by decide +kernel
theorem tellD : TellD tdD xsD tblD where
  parts := ⟨"call", ["call", "e"], _, _, _, _, _, _, rfl, rfl, ⟨rfl, rfl, rfl, by decide +kernel, rfl, by decide +kernel, by decide +kernel⟩, .inl (by decide +kernel), by decide +kernel, by decide +kernel, by decide +kernel, fun _ _ _ _ _ _ us hl => match us, hl with | [_], _ => rfl⟩
  e := by decide +kernel
  glo := by decide +kernel
  dbg := by decide +kernel
  xs := by
    intro t ht
    simp only [tblD, List.mem_cons, List.not_mem_nil, or_false] at ht
    rcases ht with rfl | rfl | rfl
    · exact ⟨x_BadThing, by simp [xsD], rfl, rfl, rfl⟩
    · exact ⟨x_Refused, by simp [xsD], rfl, rfl, rfl⟩
    · exact ⟨x_TooMany, by simp [xsD], rfl, rfl, rfl⟩
  nm := by decide +kernel
  eq := ⟨rfl, rfl, rfl, rfl⟩
theorem xs_ok : ∀ y ∈ xsD, y.ok = true := fun y hy => List.all_eq_true.mp (show (xsD.all fun y => y.ok) = true by decide +kernel) y hy
theorem xs_b : ∀ y ∈ xsD, BindX y := by
  intro y hy
  simp only [xsD, List.mem_cons, List.not_mem_nil, or_false] at hy
  rcases hy with rfl | rfl | rfl
  · exact fun _ _ _ _ _ us hl => match us, hl with | [_, _], _ => rfl
  · exact fun _ _ _ _ _ us hl => match us, hl with | [_, _], _ => rfl
  · exact fun _ _ _ _ _ us hl => match us, hl with | [_, _], _ => rfl
theorem law_run (is : List Int) (h : is.length ≤ 63) : runF (rowsT.map Vy.Row.fn ++ (msT.map Vy.Row.fn ++ [rw_law.fn])) (consD.map fun q => .int q.2) lim (9 + 1) (rowsT.length + msT.length) [.p (.list (is.map .int))] [] = .ok (.p (.bool true)) [] := law_true 0 is h
end Vz.L
open PySem PySem.W PySem.Calls PyProof.Rows
theorem PySem.Challenge.cw_gateforge_k05_gates_made_holds : PySem.Challenge.rw_gateforge_k05_gates_made.Holds := by
  w_on; o_law
  refine HandSHeadRun.head_any (r := OpenLaw.row PySem.Challenge.rw_gateforge_k05_gates_made) (q := view (OpenLaw.row PySem.Challenge.rw_gateforge_k05_gates_made).prog [38]) (H := Vz.L.hk) (ob := Vz.L.ob) (M := 4000) (loose := Vz.L.loose) (d := HandSHeadRun.topDef (OpenLaw.row PySem.Challenge.rw_gateforge_k05_gates_made).prog 38) (kwd := []) Vz.L.ob_eq
    (by kernel_rfl) (fun s => by kernel_rfl) Vz.L.run0 (by kernel_rfl) (by kernel_rfl) (by kernel_rfl) (by rfl) (by first | assumption | decide +kernel) (by decide +kernel) ⟨rfl, rfl, rfl, rfl, rfl, by decide +kernel⟩ ?hw ?hc
  case hw => w_witness2
  case hc =>
    letI : Vy.Tb := ⟨[], fun _ => default, fun _ => []⟩
    refine Vy.walk_ofG (l := PySem.Challenge.rw_gateforge_k05_gates_made) (n := 63) (k := 2 * 9 + 5) (x := "script") rfl (by decide) (by kernel_rfl) ⟨rfl, by decide, by decide⟩ ?F
    intro w mg fa h Y G hmg0
    obtain ⟨K, KX, c⟩ := Y
    have hmg : mg ("law" : PySem.Str) = some (.ref fa) := by
      have e : (HandSHeadRun.topDef (OpenLaw.row PySem.Challenge.rw_gateforge_k05_gates_made).prog 38).name = ("law" : PySem.Str) := by kernel_rfl
      rw [← e]
      exact hmg0
    exact ⟨K, KX, Vy.law_at (l := PySem.Challenge.rw_gateforge_k05_gates_made) (o := Vz.L.ocD) (ms := Vz.L.msT) (rows := Vz.L.rowsT) (td := Vz.L.tdD) (rl := Vz.L.rw_law) (xs := Vz.L.xsD) (cons := Vz.L.consD) (tbl := Vz.L.tblD) (x := "script") (lim := Vz.L.lim) (dp := 9) KX c G hmg rfl (by decide +kernel) (List.all_eq_true.mp Vz.L.rows_ok) Vz.L.rows_b (List.all_eq_true.mp Vz.L.ms_ok) Vz.L.ms_b Vz.L.oc_nd Vz.L.law_ok (fun _ _ _ _ _ _ us hl => match us, hl with | [_], _ => rfl) rfl rfl Vz.L.tellD (by decide +kernel) (by decide +kernel) Vz.L.xs_ok Vz.L.xs_b Vz.L.law_run⟩
