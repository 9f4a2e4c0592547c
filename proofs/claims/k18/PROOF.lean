import PyProof.Rows.All
import Wide.All
import OpenK.AllK
import Wide.FinOn
import HandS.ForMost
import HandS.ForExc
import HandS.Flow
import HandS.TupAny
import HandS.TupMul
import HandS.Wide
import HandS.Deep
import KE.KTupSum
import KE.GoesNew
import HandS.Zip
import HandS.Iter
import KE.GoesMore
import KE.GoesEnum
import PyProof.ReprRoads
import PyProof.CallFns
import HandS.IsInst
import HandS.Style
import HandS.SortInts
import HandS.Text
import HandS.RaiseMore
import HandS.TupLe
import HandS.RevTup
import HandS.List
import KE.KRevSl
import PyProof.ReprLen
import PyProof.FitsInt
import PyProof.StrLawsRepr
import HandS.TupSets
import HandS.SetFor
import HandS.Strs
import HandS.ExcInit
import HandS.ExcField
import HandS.Conv
import HandS.ExcIs
import HandS.Dict
import KE.KDictPairs
import PyProof.StrOps2
import HandS.Steps
import KE.SortData
import HandS.TupLen
import KE.KDictSum
import KE.KDictCopyH
import HandS.Small
import HandS.ExcValue
import KE.KExcIs
import PySem.Challenge.RW_passersby_k18_refusals_apart
set_option Elab.async false
set_option linter.all false
set_option maxRecDepth 100000
set_option maxHeartbeats 4000000
set_option autoImplicit false
/-! L3A: values as trees (PyData) over the hand layer's abstract heap: what represents what, slots with their owners, what a step keeps. -/
namespace L3
open PySem PySem.Spec L2

abbrev D := PyData
abbrev Fg := PySem.W.Frag
/-- addresses that one slot (or one passing value) alone holds -/
abbrev Ow := Addr → Prop

def kD : Key → D
  | .inl i => .int i
  | .inr x => .str x

/-- a list that is read alone: locked, or the module's own -/
def SqR (K : Fg) (H : Hp) (a : Addr) (xs : List V) : Prop := (∃ o, H a = some (.frz o (.lst xs))) ∨ SqL K (fun _ => none) a xs
theorem SqR.sq {K : Fg} {H : Hp} {a : Addr} {xs : List V} (h : SqR K H a xs) : SqL K H a xs := by
  rcases h with h | (h | ⟨o, h⟩) | h
  · exact .inl (.inr h)
  · cases h
  · cases h
  · exact .inr h
/-- how it is written among the trees: no dict has such a key -/
abbrev ro (l : List D) : D := .dict [(.none, .list l)]
/-- an instance of the class at C: its fields' names and what they hold -/
abbrev objD (C : Addr) (ks : List Str) (ds : List D) : D := .dict [(.none, .int (C : Nat)), (.list (ks.map .str), .list ds)]
/-- a caught exception that is kept: what stands at a -/
def excH (a : Addr) (cls : Value) (d : Option Addr) : HO := .ext fun h => ∃ (oe : Obj) (vs : Array Value), h.get? a = some oe ∧ Zc cls d oe ∧ oe.data = .fields vs
/-- .. as a tree: i: its class's number, C: where that stands; its fields -/
abbrev excD (i : Nat) (C : Addr) (ks : List Str) (ds : List D) : D := .dict [(.none, .bool true), (.int (i : Nat), .int (C : Nat)), (.list (ks.map .str), .list ds)]
mutual
inductive Rp (K : Fg) (H : Hp) (O : Ow) : V → D → Prop
  | non : Rp K H O .non .none
  | bl (b : Bool) : Rp K H O (.bl b) (.bool b)
  | int (i : Int) : Rp K H O (.int i) (.int i)
  | str (x : Str) : Rp K H O (.str x) (.str x)
  | lst {a : Addr} {xs : List V} {ds : List D} : H a = some (.lst xs) → ¬ O a → RpAll K H O xs ds → Rp K H O (.ref a) (.list ds)
  | ro {a : Addr} {xs : List V} {ds : List D} : SqR K H a xs → RpAll K H O xs ds → Rp K H O (.ref a) (.dict [(.none, .list ds)])
  | tup {a : Addr} {xs : List V} {ds : List D} : H a = some (.tup xs) → RpAll K H O xs ds → Rp K H O (.ref a) (.tuple ds)
  | dK {a : Addr} {l : List (Key × V)} {kvs : List (D × D)} : H a = some (.dK l) → ¬ O a → RpK K H O l kvs → Rp K H O (.ref a) (.dict ((.none, .none) :: kvs))
  | dT {a : Addr} {l : List (List Key × V)} {kvs : List (D × D)} : H a = some (.dT l) → ¬ O a → RpT K H O l kvs → Rp K H O (.ref a) (.dict kvs)
  | ins {a C dx : Addr} {ks : List Str} {vs : List V} {ds : List D} : H a = some (.ins C dx (ks.zip vs)) → ks.length = vs.length → ¬ O a → RpAll K H O vs ds → Rp K H O (.ref a) (objD C ks ds)
  | exc {a C : Addr} {d : Option Addr} {i : Nat} {ks : List Str} {vs : List V} {ds : List D} : H a = some (excH a (.ref C) d) → ¬ O a → (d = none ∨ ∃ dd fs, d = some dd ∧ H dd = some (.xd fs) ∧ ¬ O dd) → (vs ≠ [] → ∃ dd, d = some dd ∧ H dd = some (.xd (ks.zip vs)) ∧ ¬ O dd) → ks.length = vs.length → RpAll K H O vs ds → Rp K H O (.ref a) (excD i C ks ds)
inductive RpAll (K : Fg) (H : Hp) (O : Ow) : List V → List D → Prop
  | nil : RpAll K H O [] []
  | cons {v : V} {vs : List V} {d : D} {ds : List D} : Rp K H O v d → RpAll K H O vs ds → RpAll K H O (v :: vs) (d :: ds)
inductive RpK (K : Fg) (H : Hp) (O : Ow) : List (Key × V) → List (D × D) → Prop
  | nil : RpK K H O [] []
  | cons {k : Key} {v : V} {l : List (Key × V)} {d : D} {kvs : List (D × D)} : Rp K H O v d → RpK K H O l kvs → RpK K H O ((k, v) :: l) ((kD k, d) :: kvs)
inductive RpT (K : Fg) (H : Hp) (O : Ow) : List (List Key × V) → List (D × D) → Prop
  | nil : RpT K H O [] []
  | cons {k : List Key} {v : V} {l : List (List Key × V)} {d : D} {kvs : List (D × D)} : Rp K H O v d → RpT K H O l kvs → RpT K H O ((k, v) :: l) ((.tuple (k.map kD), d) :: kvs)
end

theorem RpK.noNone {K : Fg} {H : Hp} {O : Ow} : ∀ {l : List (Key × V)} {kvs : List (D × D)}, RpK K H O l kvs → ∀ p ∈ kvs, p.1 ≠ .none
  | _, _, .nil, p, h => by cases h
  | _, _, .cons (k := k) h r, p, hp => by
    rcases List.mem_cons.mp hp with rfl | hp
    · cases k <;> (intro z; cases z)
    · exact RpK.noNone r p hp
theorem RpT.noNone {K : Fg} {H : Hp} {O : Ow} : ∀ {l : List (List Key × V)} {kvs : List (D × D)}, RpT K H O l kvs → ∀ p ∈ kvs, p.1 ≠ .none
  | _, _, .nil, p, h => by cases h
  | _, _, .cons h r, p, hp => by
    rcases List.mem_cons.mp hp with rfl | hp
    · intro z; cases z
    · exact RpT.noNone r p hp
/-- what a step keeps of what no one owns -/
structure Kp (H : Hp) (O : Ow) (H' : Hp) (O' : Ow) : Prop where
  keep : ∀ a o, H a = some o → ¬ O a → H' a = some o ∧ ¬ O' a
  tups : ∀ a xs, H a = some (.tup xs) → H' a = some (.tup xs)
  frzs : ∀ a o u, H a = some (.frz o u) → H' a = some (.frz o u)
theorem Kp.seqT {K : Fg} {H H' : Hp} {O O' : Ow} (k : Kp H O H' O') {a : Addr} {xs : List V} (h : SqT K H a xs) : SqT K H' a xs := by
  rcases h with (h | ⟨o, h⟩) | h
  · exact .inl (.inl (k.tups _ _ h))
  · exact .inl (.inr ⟨o, k.frzs _ _ _ h⟩)
  · exact .inr h
theorem Kp.sqR {K : Fg} {H H' : Hp} {O O' : Ow} (k : Kp H O H' O') {a : Addr} {xs : List V} (h : SqR K H a xs) : SqR K H' a xs := by
  rcases h with ⟨o, h⟩ | h
  · exact .inl ⟨o, k.frzs _ _ _ h⟩
  · exact .inr h
section
variable {K : Fg} {H H' : Hp} {O O' : Ow}
mutual
theorem Rp.keep (k : Kp H O H' O') : ∀ {v : V} {d : D}, Rp K H O v d → Rp K H' O' v d
  | _, _, .non => .non
  | _, _, .bl b => .bl b
  | _, _, .int i => .int i
  | _, _, .str x => .str x
  | _, _, .lst h n r => .lst (k.keep _ _ h n).1 (k.keep _ _ h n).2 (RpAll.keep k r)
  | _, _, .ro h r => .ro (k.sqR h) (RpAll.keep k r)
  | _, _, .tup h r => .tup (k.tups _ _ h) (RpAll.keep k r)
  | _, _, .dK h n r => .dK (k.keep _ _ h n).1 (k.keep _ _ h n).2 (RpK.keep k r)
  | _, _, .dT h n r => .dT (k.keep _ _ h n).1 (k.keep _ _ h n).2 (RpT.keep k r)
  | _, _, .ins h l n r => .ins (k.keep _ _ h n).1 l (k.keep _ _ h n).2 (RpAll.keep k r)
  | _, _, .exc h n p p2 l r => .exc (k.keep _ _ h n).1 (k.keep _ _ h n).2 (p.imp id fun ⟨dd, fs, e, hd, nd⟩ => ⟨dd, fs, e, (k.keep _ _ hd nd).1, (k.keep _ _ hd nd).2⟩) (fun z => let ⟨dd, e, hd, nd⟩ := p2 z; ⟨dd, e, (k.keep _ _ hd nd).1, (k.keep _ _ hd nd).2⟩) l (RpAll.keep k r)
theorem RpAll.keep (k : Kp H O H' O') : ∀ {vs : List V} {ds : List D}, RpAll K H O vs ds → RpAll K H' O' vs ds
  | _, _, .nil => .nil
  | _, _, .cons h r => .cons (Rp.keep k h) (RpAll.keep k r)
theorem RpK.keep (k : Kp H O H' O') : ∀ {vs : List (Key × V)} {ds : List (D × D)}, RpK K H O vs ds → RpK K H' O' vs ds
  | _, _, .nil => .nil
  | _, _, .cons h r => .cons (Rp.keep k h) (RpK.keep k r)
theorem RpT.keep (k : Kp H O H' O') : ∀ {vs : List (List Key × V)} {ds : List (D × D)}, RpT K H O vs ds → RpT K H' O' vs ds
  | _, _, .nil => .nil
  | _, _, .cons h r => .cons (Rp.keep k h) (RpT.keep k r)
end
end

/-! ### slots -/
inductive Slot where
  | no
  /-- a value that nobody writes any more -/
  | val (d : D)
  /-- a list or dict that this slot alone holds -/
  | own (d : D)
abbrev Fr := List Slot

def OwnRp (K : Fg) (H : Hp) (O : Ow) (a : Addr) : D → Prop
  | .list ds => ∃ xs, H a = some (.lst xs) ∧ RpAll K H O xs ds
  | .dict kvs => (∃ l kvs', kvs = (.none, .none) :: kvs' ∧ H a = some (.dK l) ∧ RpK K H O l kvs') ∨ (∃ l, H a = some (.dT l) ∧ RpT K H O l kvs) ∨ ∃ C dx ks vs ds, PyData.dict kvs = objD C ks ds ∧ H a = some (.ins C dx (ks.zip vs)) ∧ ks.length = vs.length ∧ RpAll K H O vs ds
  | _ => False
theorem OwnRp.keep {K : Fg} {H H' : Hp} {O O' : Ow} {a : Addr} (k : Kp H O H' O') (ka : ∀ o, H a = some o → H' a = some o) : ∀ {d : D}, OwnRp K H O a d → OwnRp K H' O' a d
  | .list ds, ⟨xs, h, r⟩ => ⟨xs, ka _ h, r.keep k⟩
  | .dict _, .inl ⟨l, kvs', e, h, r⟩ => .inl ⟨l, kvs', e, ka _ h, r.keep k⟩
  | .dict kvs, .inr (.inl ⟨l, h, r⟩) => .inr (.inl ⟨l, ka _ h, r.keep k⟩)
  | .dict kvs, .inr (.inr ⟨C, dx, ks, vs, ds, e, h, l, r⟩) => .inr (.inr ⟨C, dx, ks, vs, ds, e, ka _ h, l, r.keep k⟩)
theorem OwnRp.there {K : Fg} {H : Hp} {O : Ow} {a : Addr} {d : D} (h : OwnRp K H O a d) : ∃ o, H a = some o ∧ (∀ xs, o ≠ .tup xs) ∧ ∀ ob u, o ≠ .frz ob u := by
  cases d with
  | list ds => obtain ⟨xs, h, _⟩ := h; exact ⟨_, h, (by intro _ q; cases q), (by intro _ _ q; cases q)⟩
  | dict kvs =>
    rcases h with ⟨l, _, _, h, _⟩ | ⟨l, h, _⟩ | ⟨_, _, _, _, _, _, h, _⟩
    · exact ⟨_, h, (by intro _ q; cases q), (by intro _ _ q; cases q)⟩
    · exact ⟨_, h, (by intro _ q; cases q), (by intro _ _ q; cases q)⟩
    · exact ⟨_, h, (by intro _ q; cases q), (by intro _ _ q; cases q)⟩
  | _ => exact h.elim
/-- no longer owned: a value -/
theorem OwnRp.toRp {K : Fg} {H : Hp} {O : Ow} {a : Addr} (n : ¬ O a) : ∀ {d : D}, OwnRp K H O a d → Rp K H O (.ref a) d
  | .list ds, ⟨xs, h, r⟩ => .lst h n r
  | .dict _, .inl ⟨l, kvs', e, h, r⟩ => e ▸ .dK h n r
  | .dict kvs, .inr (.inl ⟨l, h, r⟩) => .dT h n r
  | .dict kvs, .inr (.inr ⟨C, dx, ks, vs, ds, e, h, l, r⟩) => e ▸ .ins h l n r

def SlotOk (K : Fg) (H : Hp) (O : Ow) : Slot → Option (Option V) → Prop
  | .no, _ => True
  | .val d, o => ∃ v, o = some (some v) ∧ Rp K H O v d
  | .own d, o => ∃ a, o = some (some (.ref a)) ∧ O a ∧ OwnRp K H O a d
/-- the addresses that the slots own -/
def SlotOwn (ρ : Fr) (σ : St) (a : Addr) : Prop := ∃ (i : Nat) (d : D), ρ[i]? = some (.own d) ∧ σ[i]? = some (some (.ref a))

structure Rel (K : Fg) (ρ : Fr) (σ : St) (H : Hp) (O : Ow) : Prop where
  len : ρ.length = σ.length
  slot : ∀ (i : Nat) s, ρ[i]? = some s → SlotOk K H O s σ[i]?
  uniq : ∀ (i j : Nat) a d e, ρ[i]? = some (.own d) → ρ[j]? = some (.own e) → σ[i]? = some (some (.ref a)) → σ[j]? = some (some (.ref a)) → i = j
  dom : ∀ a, O a → H a ≠ none

/-- what an expression keeps: all but the slots' own -/
structure Frm (ρ : Fr) (σ : St) (H : Hp) (O : Ow) (ρ' : Fr) (H' : Hp) (O' : Ow) : Prop where
  keep : ∀ a o, H a = some o → ¬ SlotOwn ρ σ a → H' a = some o ∧ (O' a ↔ O a)
  dom : ∀ a, H a ≠ none → H' a ≠ none
  sub : ∀ (i : Nat) d, ρ'[i]? = some (.own d) → ∃ e, ρ[i]? = some (.own e)
  tups : ∀ a xs, H a = some (.tup xs) → H' a = some (.tup xs)
  frzs : ∀ a o u, H a = some (.frz o u) → H' a = some (.frz o u)
section
variable {K : Fg} {ρ ρ1 ρ2 : Fr} {σ : St} {H H1 H2 : Hp} {O O1 O2 : Ow}
theorem Frm.subO (F : Frm ρ σ H O ρ1 H1 O1) (a : Addr) (h : SlotOwn ρ1 σ a) : SlotOwn ρ σ a :=
  let ⟨i, d, h1, h2⟩ := h; let ⟨e, h3⟩ := F.sub i d h1; ⟨i, e, h3, h2⟩
theorem Frm.refl : Frm ρ σ H O ρ H O := ⟨fun _ _ h _ => ⟨h, .rfl⟩, fun _ h => h, fun _ d h => ⟨d, h⟩, fun _ _ h => h, fun _ _ _ h => h⟩
theorem Frm.trans (a : Frm ρ σ H O ρ1 H1 O1) (b : Frm ρ1 σ H1 O1 ρ2 H2 O2) : Frm ρ σ H O ρ2 H2 O2 where
  keep := fun c o h n => by
    obtain ⟨h1, i1⟩ := a.keep c o h n
    obtain ⟨h2, i2⟩ := b.keep c o h1 fun q => n (a.subO c q)
    exact ⟨h2, i2.trans i1⟩
  dom := fun c h => b.dom c (a.dom c h)
  sub := fun i d h => let ⟨e, h1⟩ := b.sub i d h; a.sub i e h1
  tups := fun c xs h => b.tups c xs (a.tups c xs h)
  frzs := fun c o u h => b.frzs c o u (a.frzs c o u h)
theorem Rel.owned (R : Rel K ρ σ H O) {a : Addr} (h : SlotOwn ρ σ a) : O a ∧ ∃ o, H a = some o ∧ (∀ xs, o ≠ .tup xs) ∧ ∀ ob u, o ≠ .frz ob u := by
  obtain ⟨i, d, h1, h2⟩ := h
  obtain ⟨b, e, oa, w⟩ := R.slot i _ h1
  rw [h2] at e
  cases e
  exact ⟨oa, w.there⟩
theorem Frm.kp (F : Frm ρ σ H O ρ1 H1 O1) (R : Rel K ρ σ H O) : Kp H O H1 O1 :=
  ⟨fun a o h n => let ⟨h1, i1⟩ := F.keep a o h fun q => n (R.owned q).1; ⟨h1, fun q => n (i1.mp q)⟩, F.tups, F.frzs⟩
/-- the slots stand where all that is there stands and ownership of what is there stays -/
theorem Rel.grow (R : Rel K ρ σ H O) (k : ∀ a o, H a = some o → H1 a = some o ∧ (O1 a ↔ O a)) (d : ∀ a, O1 a → H1 a ≠ none) : Rel K ρ σ H1 O1 := by
  have kp : Kp H O H1 O1 := ⟨fun a o h n => ⟨(k a o h).1, fun q => n ((k a o h).2.mp q)⟩, fun a xs h => (k a _ h).1, fun a o u h => (k a _ h).1⟩
  refine ⟨R.len, fun i s e => ?_, R.uniq, d⟩
  have q := R.slot i s e
  cases s with
  | no => trivial
  | val x => obtain ⟨v, e, r⟩ := q; exact ⟨v, e, r.keep kp⟩
  | own x =>
    obtain ⟨a, e, oa, w⟩ := q
    obtain ⟨o, ho, _⟩ := w.there
    exact ⟨a, e, (k a o ho).2.mpr oa, w.keep kp fun o' h => (k a o' h).1⟩
theorem Frm.grow (k : ∀ a o, H a = some o → H1 a = some o ∧ (O1 a ↔ O a)) : Frm ρ σ H O ρ H1 O1 :=
  ⟨fun a o h _ => k a o h, fun a h => by
    cases e : H a with
    | none => exact absurd e h
    | some o => rw [(k a o e).1]; (intro z; cases z), fun _ d h => ⟨d, h⟩, fun a xs h => (k a _ h).1, fun a o u h => (k a _ h).1⟩
/-- a new object that nobody owns -/
theorem new_keep {p : Addr} {o : HO} (hp : H p = none) : ∀ a u, H a = some u → upd H p o a = some u ∧ (O a ↔ O a) := fun a u h =>
  ⟨by rw [upd_ne (ne_of_none h hp)]; exact h, .rfl⟩
theorem Rel.new {p : Addr} {o : HO} (R : Rel K ρ σ H O) (hp : H p = none) : Rel K ρ σ (upd H p o) O :=
  R.grow (new_keep hp) fun a h => by
    by_cases e : a = p
    · subst e; rw [upd_same]; intro z; cases z
    · rw [upd_ne e]; exact R.dom a h
theorem Frm.new {p : Addr} {o : HO} (hp : H p = none) : Frm ρ σ H O ρ (upd H p o) O := Frm.grow (new_keep hp)
/-- a new object that a passing value owns -/
abbrev Own1 (O : Ow) (p : Addr) : Ow := fun a => O a ∨ a = p
theorem own_keep {p : Addr} {o : HO} (hp : H p = none) : ∀ a u, H a = some u → upd H p o a = some u ∧ (Own1 O p a ↔ O a) := fun a u h =>
  ⟨by rw [upd_ne (ne_of_none h hp)]; exact h, ⟨fun q => q.elim id fun z => absurd z (ne_of_none h hp), .inl⟩⟩
theorem Rel.newOwn {p : Addr} {o : HO} (R : Rel K ρ σ H O) (hp : H p = none) : Rel K ρ σ (upd H p o) (Own1 O p) :=
  R.grow (own_keep hp) fun a h => by
    by_cases e : a = p
    · subst e; rw [upd_same]; intro z; cases z
    · rw [upd_ne e]; exact R.dom a (h.elim id fun z => absurd z e)
theorem Frm.newOwn {p : Addr} {o : HO} (hp : H p = none) : Frm ρ σ H O ρ (upd H p o) (Own1 O p) := Frm.grow (own_keep hp)
end
end L3
set_option Elab.async false
set_option linter.all false
set_option maxRecDepth 100000
set_option maxHeartbeats 4000000
set_option autoImplicit false
/-! L3B: what an expression evaluates to, as a function of the slots; names, constants, operators, displays, tests. -/
namespace L3
open PySem PySem.Spec L2

inductive Opd where
  | val (d : D)
  | fresh (d : D)
  | place (i : Nat)
structure Xc where
  c : Str
  fl : List (Str × D)
inductive RE (α : Type) where
  | ok (r : α) (ρ : Fr)
  | exc (x : Xc) (ρ : Fr)
  | bad
def RE.bind {α β : Type} : RE α → (α → Fr → RE β) → RE β
  | .ok r ρ, k => k r ρ
  | .exc x ρ, _ => .exc x ρ
  | .bad, _ => .bad
def RE.opt {α β : Type} : Option α → (α → RE β) → RE β
  | some a, k => k a
  | none, _ => .bad
abbrev ME := Fr → RE Opd
abbrev MB := Fr → RE Bool
abbrev MA := Fr → RE (List D)

def look : Opd → Fr → Option D
  | .val d, _ => some d
  | .fresh d, _ => some d
  | .place i, ρ => match ρ[i]? with
    | some (.val d) => some d
    | some (.own d) => some d
    | _ => none
/-- the operand as a value that is kept: what a slot owned is a value from now on -/
def keepV : Opd → Fr → Option (D × Fr)
  | .val d, ρ => some (d, ρ)
  | .fresh d, ρ => some (d, ρ)
  | .place i, ρ => match ρ[i]? with
    | some (.val d) => some (d, ρ)
    | some (.own d) => some (d, ρ.set i (.val d))
    | _ => none

/-! ### what is wanted of a result -/
structure ORs (α β : Type) where
  r : Fg → Fr → St → Hp → Hp → Ow → α → β → Prop
  mono : ∀ {K : Fg} {ρ : Fr} {σ : St} {H H1 H' : Hp} {O : Ow} {a : α} {b : β}, (∀ x, H x ≠ none → H1 x ≠ none) → r K ρ σ H1 H' O a b → r K ρ σ H H' O a b
def ORel (K : Fg) (ρ : Fr) (σ : St) (H0 H : Hp) (O : Ow) : Opd → V → Prop
  | .val d, v => Rp K H O v d
  | .fresh d, v => ∃ a, v = .ref a ∧ H0 a = none ∧ O a ∧ OwnRp K H O a d
  | .place i, v => σ[i]? = some (some v) ∧ ∃ d, ρ[i]? = some (.own d)
def orE : ORs Opd V where
  r := ORel
  mono := fun {K ρ σ H H1 H' O a b} m h => by
    cases a with
    | val d => exact h
    | fresh d =>
      obtain ⟨a, e, h0, h1⟩ := h
      refine ⟨a, e, ?_, h1⟩
      cases q : H a with
      | none => rfl
      | some o => exact absurd h0 (m a (by rw [q]; intro z; cases z))
    | place i => exact h
def orB : ORs Bool Bool := ⟨fun _ _ _ _ _ _ a b => a = b, fun _ h => h⟩
def orA : ORs (List D) (List V) := ⟨fun K _ _ _ H O a b => RpAll K H O b a, fun _ h => h⟩

/-- an exception's class and fields -/
def XRel (K : Fg) (mg : Str → Option Value) (H : Hp) (O : Ow) (x : Xc) (cls : Value) (d : Option Addr) : Prop :=
  ∃ C, mg x.c = some (.ref C) ∧ cls = .ref C ∧ (x.fl ≠ [] → ∃ dd fs, d = some dd ∧ H dd = some (.xd fs) ∧ ¬ O dd ∧ fs.map (·.1) = x.fl.map (·.1) ∧ RpAll K H O (fs.map (·.2)) (x.fl.map (·.2))) ∧ (d = none ∨ ∃ dd fs, d = some dd ∧ H dd = some (.xd fs) ∧ ¬ O dd)

def Want {α β : Type} (R : ORs α β) (K : Fg) (mg : Str → Option Value) (W : WX) (res : RE α) (ρ : Fr) (σ : St) (H : Hp) (O : Ow) (Q : β → Hp → Prop) : Prop :=
  match res with
  | .ok r ρ' => ∀ v H' O', Rel K ρ' σ H' O' → Frm ρ σ H O ρ' H' O' → R.r K ρ' σ H H' O' r v → Q v H'
  | .exc x ρ' => ∀ cls d H' O', Rel K ρ' σ H' O' → Frm ρ σ H O ρ' H' O' → XRel K mg H' O' x cls d → W cls d σ H'
  | .bad => False
section
variable {α β γ δ : Type} {R : ORs α β} {R' : ORs γ δ} {K : Fg} {mg : Str → Option Value} {W : WX} {ρ ρ1 : Fr} {σ : St} {H H1 : Hp} {O O1 : Ow} {Q : δ → Hp → Prop} {S : β → Hp → Prop}
theorem Want.from {res : RE γ} (h : Want R' K mg W res ρ σ H O Q) (F : Frm ρ σ H O ρ1 H1 O1) : Want R' K mg W res ρ1 σ H1 O1 Q := by
  cases res with
  | ok r ρ' => exact fun v H' O' a b c => h v H' O' a (F.trans b) (R'.mono F.dom c)
  | exc x ρ' => exact fun cls d H' O' a b c => h cls d H' O' a (F.trans b) c
  | bad => exact h
theorem Want.bind {fa : RE α} {k : α → Fr → RE γ} (h : Want R' K mg W (fa.bind k) ρ σ H O Q)
    (f : ∀ r ρ1 v H1 O1, fa = .ok r ρ1 → Rel K ρ1 σ H1 O1 → Frm ρ σ H O ρ1 H1 O1 → R.r K ρ1 σ H H1 O1 r v → Want R' K mg W (k r ρ1) ρ1 σ H1 O1 Q → S v H1) : Want R K mg W fa ρ σ H O S := by
  cases fa with
  | ok r ρ' => exact fun v H' O' a b c => f r ρ' v H' O' rfl a b c (Want.from h b)
  | exc x ρ' => exact h
  | bad => exact h
theorem Want.opt {x : Option α} {k : α → RE γ} (h : Want R' K mg W (RE.opt x k) ρ σ H O Q) : ∃ a, x = some a ∧ Want R' K mg W (k a) ρ σ H O Q := by
  cases x with
  | none => exact False.elim h
  | some a => exact ⟨a, rfl, h⟩
end

/-- a reading that does as the function says -/
def TEs (K : Fg) (mg : Str → Option Value) (W : WX) (t : TE) (f : ME) : Prop := ∀ ρ σ H O Q, Rel K ρ σ H O → Want orE K mg W (f ρ) ρ σ H O Q → t σ H Q
def TBs (K : Fg) (mg : Str → Option Value) (W : WX) (t : TT) (f : MB) : Prop := ∀ ρ σ H O Q, Rel K ρ σ H O → Want orB K mg W (f ρ) ρ σ H O Q → t σ H Q
def TAs (K : Fg) (mg : Str → Option Value) (W : WX) (t : TA) (f : MA) : Prop := ∀ ρ σ H O Q, Rel K ρ σ H O → Want orA K mg W (f ρ) ρ σ H O Q → t σ H Q
structure SE (X : Cx) (W : WX) (e : Expr) (t : TE) (f : ME) : Prop where
  p : PE X e t
  s : TEs X.K X.mg W t f
structure SB (X : Cx) (W : WX) (e : Expr) (t : TT) (f : MB) : Prop where
  p : PT X e t
  s : TBs X.K X.mg W t f
structure SA (X : Cx) (W : WX) (es : List Expr) (t : TA) (f : MA) : Prop where
  p : PA X es t
  s : TAs X.K X.mg W t f

/-! ### what a value shows -/
def See (K : Fg) (H : Hp) (O : Ow) (v : V) (d : D) : Prop := Rp K H O v d ∨ ∃ a, v = .ref a ∧ O a ∧ OwnRp K H O a d
section
variable {K : Fg} {H : Hp} {O : Ow} {v : V}
theorem See.int {i : Int} (h : See K H O v (.int i)) : v = .int i := by
  rcases h with h | ⟨a, _, _, h⟩
  · cases h; rfl
  · exact h.elim
theorem See.bl {i : Bool} (h : See K H O v (.bool i)) : v = .bl i := by
  rcases h with h | ⟨a, _, _, h⟩
  · cases h; rfl
  · exact h.elim
theorem See.non (h : See K H O v .none) : v = .non := by
  rcases h with h | ⟨a, _, _, h⟩
  · cases h; rfl
  · exact h.elim
theorem See.str {i : Str} (h : See K H O v (.str i)) : v = .str i := by
  rcases h with h | ⟨a, _, _, h⟩
  · cases h; rfl
  · exact h.elim
theorem See.ro {ds : List D} (h : Rp K H O v (.dict [(.none, .list ds)])) : ∃ a xs, v = .ref a ∧ SqR K H a xs ∧ RpAll K H O xs ds := by
  generalize e : (PyData.dict [(.none, .list ds)]) = d at h
  cases h with
  | ro h r => cases e; exact ⟨_, _, rfl, h, r⟩
  | dK h n r => cases e
  | dT h n r => cases e; exact absurd rfl (r.noNone _ (List.mem_cons_self ..))
  | _ => cases e
theorem See.tup {ds : List D} (h : See K H O v (.tuple ds)) : ∃ a xs, v = .ref a ∧ SqT K H a xs ∧ RpAll K H O xs ds := by
  rcases h with h | ⟨a, _, _, h⟩
  · cases h with
    | tup h r => exact ⟨_, _, rfl, .inl (.inl h), r⟩
  · exact h.elim
theorem See.tupT {ds : List D} (h : See K H O v (.tuple ds)) : ∃ a xs, v = .ref a ∧ H a = some (.tup xs) ∧ RpAll K H O xs ds := by
  rcases h with h | ⟨a, _, _, h⟩
  · cases h with
    | tup h r => exact ⟨_, _, rfl, h, r⟩
  · exact h.elim
theorem See.lst {ds : List D} (h : See K H O v (.list ds)) : ∃ a xs, v = .ref a ∧ H a = some (.lst xs) ∧ RpAll K H O xs ds := by
  rcases h with h | ⟨a, e, _, xs, h, r⟩
  · cases h with
    | lst h n r => exact ⟨_, _, rfl, h, r⟩
  · exact ⟨a, xs, e, h, r⟩
mutual
theorem Rp.dp : ∀ {v : V} {d : D}, d.canLay0 = true → Rp K H O v d → Dp K H v d
  | _, _, _, .non => .non
  | _, _, _, .bl b => .bl b
  | _, _, _, .int i => .int i
  | _, _, _, .str x => .str x
  | _, _, f, .lst h n r => .lst (.inl (.inl h)) (RpAll.dp (by simpa only [PyData.canLay0] using f) r)
  | _, _, f, .tup h r => .tup (.inl (.inl h)) (RpAll.dp (by simpa only [PyData.canLay0] using f) r)
  | _, _, f, .ro h r => by simp [PyData.canLay0] at f
  | _, _, f, .dK h n r => by simp [PyData.canLay0] at f
  | _, _, f, .dT h n r => by simp [PyData.canLay0] at f
  | _, _, f, .ins h l n r => by simp [PyData.canLay0] at f
  | _, _, f, .exc h n p p2 l r => by simp [PyData.canLay0] at f
theorem RpAll.dp : ∀ {vs : List V} {ds : List D}, PyData.canLayAll0 ds = true → RpAll K H O vs ds → DpAll K H vs ds
  | _, _, _, .nil => .nil
  | _, _, f, .cons h r => by
    simp only [PyData.canLayAll0, Bool.and_eq_true] at f
    exact .cons (Rp.dp f.1 h) (RpAll.dp f.2 r)
end
theorem See.dp {d : D} (f : d.canLay0 = true) (h : See K H O v d) : Dp K H v d := by
  rcases h with h | ⟨a, e, _, h⟩
  · exact h.dp f
  · subst e
    cases d with
    | list ds =>
      obtain ⟨xs, h, r⟩ := h
      exact .lst (.inl (.inl h)) (r.dp (by simpa only [PyData.canLay0] using f))
    | dict _ => simp [PyData.canLay0] at f
    | _ => exact h.elim
theorem RpAll.length : ∀ {vs : List V} {ds : List D}, RpAll K H O vs ds → vs.length = ds.length
  | _, _, .nil => rfl
  | _, _, .cons _ r => by simp [RpAll.length r]
theorem RpAll.get : ∀ {vs : List V} {ds : List D}, RpAll K H O vs ds → ∀ {i : Nat} {d : D}, ds[i]? = some d → ∃ v, vs[i]? = some v ∧ Rp K H O v d
  | _, _, .nil, i, d, e => by simp at e
  | _, _, .cons h r, 0, d, e => by
    simp at e
    subst e
    exact ⟨_, rfl, h⟩
  | _, _, .cons h r, i + 1, d, e => by
    obtain ⟨v, h1, h2⟩ := RpAll.get r (i := i) (d := d) (by simpa using e)
    exact ⟨v, by simpa using h1, h2⟩
theorem RpAll.append : ∀ {vs us : List V} {ds es : List D}, RpAll K H O vs ds → RpAll K H O us es → RpAll K H O (vs ++ us) (ds ++ es)
  | _, _, _, _, .nil, s => s
  | _, _, _, _, .cons h r, s => .cons h (RpAll.append r s)
theorem RpAll.set {v : V} {d : D} (q : Rp K H O v d) : ∀ {vs : List V} {ds : List D} (i : Nat), RpAll K H O vs ds → RpAll K H O (vs.set i v) (ds.set i d)
  | _, _, _, .nil => .nil
  | _, _, 0, .cons h r => .cons q r
  | _, _, i + 1, .cons h r => .cons h (RpAll.set q i r)
theorem RpAll.take : ∀ {vs : List V} {ds : List D} (n : Nat), RpAll K H O vs ds → RpAll K H O (vs.take n) (ds.take n)
  | _, _, 0, _ => .nil
  | _, _, _ + 1, .nil => .nil
  | _, _, n + 1, .cons h r => .cons h (RpAll.take n r)
theorem RpAll.drop : ∀ {vs : List V} {ds : List D} (n : Nat), RpAll K H O vs ds → RpAll K H O (vs.drop n) (ds.drop n)
  | _, _, 0, r => r
  | _, _, _ + 1, .nil => .nil
  | _, _, n + 1, .cons h r => RpAll.drop n r
theorem RpAll.reverse : ∀ {vs : List V} {ds : List D}, RpAll K H O vs ds → RpAll K H O vs.reverse ds.reverse
  | _, _, .nil => .nil
  | _, _, .cons h r => by
    rw [List.reverse_cons, List.reverse_cons]
    exact (RpAll.reverse r).append (.cons h .nil)
end
section
variable {K : Fg} {ρ ρ1 ρ2 : Fr} {σ : St} {H H1 H2 : Hp} {O O1 O2 : Ow} {r : Opd} {v : V} {d : D}
theorem ORel.see (o : ORel K ρ1 σ H H1 O1 r v) (R : Rel K ρ σ H O) (F : Frm ρ σ H O ρ1 H1 O1) (R1 : Rel K ρ1 σ H1 O1) (F2 : Frm ρ1 σ H1 O1 ρ2 H2 O2) (R2 : Rel K ρ2 σ H2 O2) (e : look r ρ2 = some d) : See K H2 O2 v d := by
  cases r with
  | val d' =>
    cases e
    exact .inl (Rp.keep (F2.kp R1) o)
  | fresh d' =>
    cases e
    obtain ⟨a, rfl, h0, oa, w⟩ := o
    have ns : ¬ SlotOwn ρ1 σ a := fun q => by
      obtain ⟨_, o, ho, _⟩ := R.owned (F.subO a q)
      rw [h0] at ho; cases ho
    obtain ⟨o, ho, _⟩ := w.there
    refine .inr ⟨a, rfl, ((F2.keep a o ho ns).2).mpr oa, w.keep (F2.kp R1) fun o' h' => (F2.keep a o' h' ns).1⟩
  | place i =>
    obtain ⟨e1, _⟩ := o
    have q := R2.slot i
    cases es : ρ2[i]? with
    | none => simp [look, es] at e
    | some s =>
      have q := q s es
      cases s with
      | no => simp [look, es] at e
      | val x =>
        simp [look, es] at e
        subst e
        obtain ⟨v', e2, h⟩ := q
        rw [e1] at e2; cases e2
        exact .inl h
      | own x =>
        simp [look, es] at e
        subst e
        obtain ⟨a, e2, oa, w⟩ := q
        rw [e1] at e2; cases e2
        exact .inr ⟨a, rfl, oa, w⟩
theorem ORel.see1 (o : ORel K ρ1 σ H H1 O1 r v) (R : Rel K ρ σ H O) (F : Frm ρ σ H O ρ1 H1 O1) (R1 : Rel K ρ1 σ H1 O1) (e : look r ρ1 = some d) : See K H1 O1 v d := o.see R F R1 Frm.refl R1 e
end

/-! ### growing -/
structure Gr (H : Hp) (O : Ow) (H' : Hp) (O' : Ow) : Prop where
  keep : ∀ a o, H a = some o → H' a = some o ∧ (O' a ↔ O a)
  dom : (∀ a, O a → H a ≠ none) → ∀ a, O' a → H' a ≠ none
section
variable {K : Fg} {ρ : Fr} {σ : St} {H H1 : Hp} {O O1 : Ow}
theorem Gr.refl : Gr H O H O := ⟨fun _ _ h => ⟨h, .rfl⟩, fun d => d⟩
theorem Gr.rel (g : Gr H O H1 O1) (R : Rel K ρ σ H O) : Rel K ρ σ H1 O1 := R.grow g.keep (g.dom R.dom)
theorem Gr.frm (g : Gr H O H1 O1) : Frm ρ σ H O ρ H1 O1 := Frm.grow g.keep
theorem Gr.kp (g : Gr H O H1 O1) : Kp H O H1 O1 := ⟨fun a o h n => ⟨(g.keep a o h).1, fun q => n ((g.keep a o h).2.mp q)⟩, fun a xs h => (g.keep a _ h).1, fun a o u h => (g.keep a _ h).1⟩
theorem Gr.new {p : Addr} {o : HO} (hp : H p = none) : Gr H O (upd H p o) O := ⟨new_keep hp, fun d a h => by
  by_cases e : a = p
  · subst e; rw [upd_same]; intro z; cases z
  · rw [upd_ne e]; exact d a h⟩
theorem Gr.newOwn {p : Addr} {o : HO} (hp : H p = none) : Gr H O (upd H p o) (Own1 O p) := ⟨own_keep hp, fun d a h => by
  by_cases e : a = p
  · subst e; rw [upd_same]; intro z; cases z
  · rw [upd_ne e]; exact d a (h.elim id fun z => absurd z e)⟩
end
/-- the continuation of an operation whose result is z -/
def Cv (K : Fg) (H : Hp) (O : Ow) (z : D) (Q : VK) : Prop := ∀ v H' O', Gr H O H' O' → Rp K H' O' v z → Q v H'
def Cf (K : Fg) (H : Hp) (O : Ow) (z : D) (Q : VK) : Prop := ∀ v H' O', Gr H O H' O' → (∃ a, v = .ref a ∧ H a = none ∧ O' a ∧ OwnRp K H' O' a z) → Q v H'
section
variable {K : Fg} {H : Hp} {O : Ow} {Q : VK}
theorem Cv.int {i : Int} (c : Cv K H O (.int i) Q) : Q (.int i) H := c _ _ _ .refl (.int i)
theorem Cv.bl {i : Bool} (c : Cv K H O (.bool i) Q) : Q (.bl i) H := c _ _ _ .refl (.bl i)
theorem Cv.str {i : Str} (c : Cv K H O (.str i) Q) : Q (.str i) H := c _ _ _ .refl (.str i)
theorem Cv.non (c : Cv K H O .none Q) : Q .non H := c _ _ _ .refl .non
theorem Cv.tup {xs : List V} {ds : List D} (c : Cv K H O (.tuple ds) Q) (r : RpAll K H O xs ds) (p : Addr) (hp : H p = none) : Q (.ref p) (upd H p (.tup xs)) :=
  c _ _ _ (.new hp) (.tup upd_same (r.keep (Gr.new hp).kp))
theorem Cf.lst {xs : List V} {ds : List D} (c : Cf K H O (.list ds) Q) (r : RpAll K H O xs ds) (p : Addr) (hp : H p = none) : Q (.ref p) (upd H p (.lst xs)) :=
  c _ _ (Own1 O p) (.newOwn hp) ⟨p, rfl, hp, .inr rfl, xs, upd_same, r.keep (Gr.newOwn hp).kp⟩
end
inductive Kd | v | f
def Kd.mk : Kd → D → Opd
  | .v => .val
  | .f => .fresh
def Ck : Kd → Fg → Hp → Ow → D → VK → Prop
  | .v => Cv
  | .f => Cf
theorem Want.ck {K : Fg} {mg : Str → Option Value} {W : WX} {ρ : Fr} {σ : St} {H : Hp} {O : Ow} {z : D} {Q : VK} (k : Kd) (R : Rel K ρ σ H O) (h : Want orE K mg W (.ok (k.mk z) ρ) ρ σ H O Q) : Ck k K H O z Q := by
  cases k with
  | v => exact fun v H' O' g r => h v H' O' (g.rel R) g.frm r
  | f => exact fun v H' O' g r => h v H' O' (g.rel R) g.frm r

/-! ### names, constants -/
def mVar (i : Nat) : ME := fun ρ => match ρ[i]? with
  | some (.val d) => .ok (.val d) ρ
  | some (.own _) => .ok (.place i) ρ
  | _ => .bad
def mC (d : D) : ME := fun ρ => .ok (.val d) ρ
section
variable {X : Cx} {W : WX} {pos : Pos}
theorem se_var {i : Nat} {x : Str} (hN : X.N[i]? = some x) (hv : Vis X.env.scope x) (hd : (x == ("__debug__" : Str)) = false) (hcd : (x == ("__classdict__" : Str)) = false) : SE X W (.Name x pos) (tVar i) (mVar i) := by
  refine ⟨pe_var hN hv hd hcd, fun ρ σ H O Q R h => ?_⟩
  unfold mVar at h
  cases e : ρ[i]? with
  | none => simp only [e] at h; exact False.elim h
  | some s =>
    have q := R.slot i s e
    cases s with
    | no => simp only [e] at h; exact False.elim h
    | val d =>
      simp only [e] at h
      obtain ⟨v, e1, r⟩ := q
      exact ⟨v, e1, h v H O R .refl r⟩
    | own d =>
      simp only [e] at h
      obtain ⟨a, e1, r⟩ := q
      exact ⟨_, e1, h _ H O R .refl ⟨e1, d, e⟩⟩
theorem se_c {e : Expr} {v : V} {d : D} (he : PE X e (tC v)) (r : ∀ K H O, Rp K H O v d) : SE X W e (tC v) (mC d) := ⟨he, fun ρ σ H O Q R h => h v H O R .refl (r _ _ _)⟩
theorem se_int {i j} : SE X W (.Constant (.int i) j pos) (tC (.int i)) (mC (.int i)) := se_c pe_int fun _ _ _ => .int i
theorem se_bl {b j} : SE X W (.Constant (.bool b) j pos) (tC (.bl b)) (mC (.bool b)) := se_c pe_bl fun _ _ _ => .bl b
theorem se_non {j} : SE X W (.Constant .none j pos) (tC .non) (mC .none) := se_c pe_non fun _ _ _ => .non
theorem se_str {x j} : SE X W (.Constant (.str x) j pos) (tC (.str x)) (mC (.str x)) := se_c pe_str fun _ _ _ => .str x
theorem se_gint {x : Str} {i : Int} {u : Value} (hg : Gl X x) (hm : X.mg x = some u) (r : RelV (.int i) u) (hd : (x == ("__debug__" : Str)) = false) : SE X W (.Name x pos) (tC (.int i)) (mC (.int i)) := se_c (pe_glob hg hm r hd) fun _ _ _ => .int i
theorem se_gstr {x : Str} {i : Str} {u : Value} (hg : Gl X x) (hm : X.mg x = some u) (r : RelV (.str i) u) (hd : (x == ("__debug__" : Str)) = false) : SE X W (.Name x pos) (tC (.str i)) (mC (.str i)) := se_c (pe_glob hg hm r hd) fun _ _ _ => .str i
end

/-! ### operators -/
def mOp2 (g : D → D → Option (Kd × D)) (fa fb : ME) : ME := fun ρ => (fa ρ).bind fun a ρ1 => (fb ρ1).bind fun b ρ2 =>
  RE.opt (look a ρ2) fun x => RE.opt (look b ρ2) fun y => RE.opt (g x y) fun z => .ok (z.1.mk z.2) ρ2
def mOp1 (g : D → Option (Kd × D)) (fa : ME) : ME := fun ρ => (fa ρ).bind fun a ρ1 => RE.opt (look a ρ1) fun x => RE.opt (g x) fun z => .ok (z.1.mk z.2) ρ1
def mCmp (c : D → D → Option Bool) (fa fb : ME) : ME := fun ρ => (fa ρ).bind fun a ρ1 => (fb ρ1).bind fun b ρ2 =>
  RE.opt (look a ρ2) fun x => RE.opt (look b ρ2) fun y => RE.opt (c x y) fun z => .ok (.val (.bool z)) ρ2
def mCmpB (c : D → D → Option Bool) (fa fb : ME) : MB := fun ρ => (fa ρ).bind fun a ρ1 => (fb ρ1).bind fun b ρ2 =>
  RE.opt (look a ρ2) fun x => RE.opt (look b ρ2) fun y => RE.opt (c x y) fun z => .ok z ρ2
def mChain (c c' : D → D → Option Bool) (fa fb fc : ME) : ME := fun ρ => (fa ρ).bind fun a ρ1 => (fb ρ1).bind fun b ρ2 =>
  RE.opt (look a ρ2) fun x => RE.opt (look b ρ2) fun y => RE.opt (c x y) fun z => if z = true then (fc ρ2).bind fun e ρ3 => RE.opt (look b ρ3) fun y' => RE.opt (look e ρ3) fun w => RE.opt (c' y' w) fun z' => .ok (.val (.bool z')) ρ3 else .ok (.val (.bool false)) ρ2
def mChainB (c c' : D → D → Option Bool) (fa fb fc : ME) : MB := fun ρ => (fa ρ).bind fun a ρ1 => (fb ρ1).bind fun b ρ2 =>
  RE.opt (look a ρ2) fun x => RE.opt (look b ρ2) fun y => RE.opt (c x y) fun z => if z = true then (fc ρ2).bind fun e ρ3 => RE.opt (look b ρ3) fun y' => RE.opt (look e ρ3) fun w => RE.opt (c' y' w) fun z' => .ok z' ρ3 else .ok false ρ2
def Op2 (K : Fg) (r : R2) (g : D → D → Option (Kd × D)) : Prop := ∀ H O x y d e k z Q, See K H O x d → See K H O y e → g d e = some (k, z) → Ck k K H O z Q → r x y H Q
def Op1 (K : Fg) (r : V → Hp → VK → Prop) (g : D → Option (Kd × D)) : Prop := ∀ H O x d k z Q, See K H O x d → g d = some (k, z) → Ck k K H O z Q → r x H Q
def CmpOk (K : Fg) (r : R2) (c : D → D → Option Bool) : Prop := ∀ H O x y d e b Q, See K H O x d → See K H O y e → c d e = some b → Q (.bl b) H → r x y H Q
section
variable {X : Cx} {W : WX} {pos : Pos} {a b c : Expr} {fa fb fc : ME} {ta tb tc : TE} {r r' : R2} {g : D → D → Option (Kd × D)} {q q' : D → D → Option Bool}
/-- two operands, one after the other -/
theorem two (ha : TEs X.K X.mg W ta fa) (hb : TEs X.K X.mg W tb fb)
    {ρ : Fr} {σ : St} {H : Hp} {O : Ow} {α β : Type} {R' : ORs α β} {Q : β → Hp → Prop} {S : V → V → Hp → Prop} {k : D → D → Opd → Fr → RE α} (R : Rel X.K ρ σ H O)
    (h : Want R' X.K X.mg W ((fa ρ).bind fun a ρ1 => (fb ρ1).bind fun b ρ2 => RE.opt (look a ρ2) fun x => RE.opt (look b ρ2) fun y => k x y b ρ2) ρ σ H O Q)
    (f : ∀ x y v u ρ2 H2 O2 rb, Rel X.K ρ2 σ H2 O2 → Frm ρ σ H O ρ2 H2 O2 → See X.K H2 O2 v x → See X.K H2 O2 u y → (∀ ρ3 H3 O3 y', Rel X.K ρ3 σ H3 O3 → Frm ρ2 σ H2 O2 ρ3 H3 O3 → look rb ρ3 = some y' → See X.K H3 O3 u y') → Want R' X.K X.mg W (k x y rb ρ2) ρ2 σ H2 O2 Q → S v u H2) :
    ta σ H fun x H1 => tb σ H1 fun y H2 => S x y H2 := by
  refine ha ρ σ H O _ R (h.bind fun r1 ρ1 v H1 O1 e1 R1 F1 o1 h1 => ?_)
  refine hb ρ1 σ H1 O1 _ R1 (h1.bind fun r2 ρ2 u H2 O2 e2 R2 F2 o2 h2 => ?_)
  obtain ⟨x, ex, h2⟩ := h2.opt
  obtain ⟨y, ey, h2⟩ := h2.opt
  exact f x y v u ρ2 H2 O2 r2 R2 (F1.trans F2) (ORel.see o1 R F1 R1 F2 R2 ex) (ORel.see1 o2 R1 F2 R2 ey) (fun ρ3 H3 O3 y' R3 F3 e3 => ORel.see o2 R1 F2 R2 F3 R3 e3) h2
theorem se_op {op : Operator} (ho : OpR X (binaryOp op) r) (hg : Op2 X.K r g) (ha : SE X W a ta fa) (hb : SE X W b tb fb) : SE X W (.BinOp a op b pos) (tOp r ta tb) (mOp2 g fa fb) := by
  obtain ⟨pa, ha⟩ := ha
  obtain ⟨pb, hb⟩ := hb
  refine ⟨pe_op ho pa pb, fun ρ σ H O Q R h => two ha hb R h fun x y v u ρ2 H2 O2 rb R2 F2 sx sy _ h2 => ?_⟩
  obtain ⟨⟨k, z⟩, ez, h2⟩ := h2.opt
  exact hg H2 O2 v u x y k z Q sx sy ez (h2.ck k R2)
theorem se_un {op : UnaryOp} {r : V → Hp → VK → Prop} {g : D → Option (Kd × D)} (ho : UnR X (unaryOp op) r) (hg : Op1 X.K r g) (ha : SE X W a ta fa) : SE X W (.UnaryOp op a pos) (tUn r ta) (mOp1 g fa) := by
  obtain ⟨pa, ha⟩ := ha
  refine ⟨pe_un ho pa, fun ρ σ H O Q R h => ha ρ σ H O _ R (h.bind fun r1 ρ1 v H1 O1 e1 R1 F1 o1 h1 => ?_)⟩
  obtain ⟨x, ex, h1⟩ := h1.opt
  obtain ⟨⟨k, z⟩, ez, h1⟩ := h1.opt
  exact hg H1 O1 v x k z Q (o1.see1 R F1 R1 ex) ez (h1.ck k R1)
theorem se_cmp {op : CmpOp} (ho : OpR X (compareOp op) r) (hg : CmpOk X.K r q) (hm : behindInMarks op b = false) (ha : SE X W a ta fa) (hb : SE X W b tb fb) : SE X W (.Compare a [op] [b] pos) (tOp r ta tb) (mCmp q fa fb) := by
  obtain ⟨pa, ha⟩ := ha
  obtain ⟨pb, hb⟩ := hb
  refine ⟨pe_cmpR ho pa pb hm, fun ρ σ H O Q R h => two ha hb R h fun x y v u ρ2 H2 O2 rb R2 F2 sx sy _ h2 => ?_⟩
  obtain ⟨z, ez, h2⟩ := h2.opt
  exact hg H2 O2 v u x y z Q sx sy ez (h2 _ H2 O2 R2 .refl (.bl z))
theorem sb_cmp {op : CmpOp} (ho : OpR X (compareOp op) r) (hg : CmpOk X.K r q) (hm : behindInMarks op b = false) (ha : SE X W a ta fa) (hb : SE X W b tb fb) : SB X W (.Compare a [op] [b] pos) (tTest (tOp r ta tb)) (mCmpB q fa fb) := by
  obtain ⟨pa, ha⟩ := ha
  obtain ⟨pb, hb⟩ := hb
  refine ⟨pt_cmpR ho pa pb hm, fun ρ σ H O Q R h => two ha hb R h fun x y v u ρ2 H2 O2 rb R2 F2 sx sy _ h2 => ?_⟩
  obtain ⟨z, ez, h2⟩ := h2.opt
  exact hg H2 O2 v u x y z _ sx sy ez ⟨z, rfl, h2 z H2 O2 R2 .refl rfl⟩
theorem se_chain {op op' : CmpOp} (ho : OpR X (compareOp op) r) (ho' : OpR X (compareOp op') r') (hg : CmpOk X.K r q) (hg' : CmpOk X.K r' q') (hm : lastMarks [op, op'] [b, c] = false) (ha : SE X W a ta fa) (hb : SE X W b tb fb) (hc : SE X W c tc fc) :
    SE X W (.Compare a [op, op'] [b, c] pos) (tChain r r' ta tb tc) (mChain q q' fa fb fc) := by
  obtain ⟨pa, ha⟩ := ha
  obtain ⟨pb, hb⟩ := hb
  obtain ⟨pc, hc⟩ := hc
  refine ⟨pe_chain ho ho' pa pb pc hm, fun ρ σ H O Q R h => two ha hb R h fun x y v u ρ2 H2 O2 rb R2 F2 sx sy later h2 => ?_⟩
  obtain ⟨z, ez, h2⟩ := h2.opt
  refine hg H2 O2 v u x y z _ sx sy ez ⟨z, rfl, ?_⟩
  cases z with
  | false => rw [if_neg (by decide)] at h2 ⊢; exact h2 _ H2 O2 R2 .refl (.bl false)
  | true =>
    rw [if_pos rfl] at h2 ⊢
    refine hc ρ2 σ H2 O2 _ R2 (Want.bind h2 fun r3 ρ3 w H3 O3 e3 R3 F3 o3 h3 => ?_)
    obtain ⟨y', ey, h3⟩ := h3.opt
    obtain ⟨w', ew, h3⟩ := h3.opt
    obtain ⟨z', ez', h3⟩ := h3.opt
    exact hg' H3 O3 u w y' w' z' Q (later ρ3 H3 O3 y' R3 F3 ey) (ORel.see1 o3 R2 F3 R3 ew) ez' (h3 _ H3 O3 R3 .refl (.bl z'))
theorem sb_chain {op op' : CmpOp} (ho : OpR X (compareOp op) r) (ho' : OpR X (compareOp op') r') (hg : CmpOk X.K r q) (hg' : CmpOk X.K r' q') (hm : lastMarks [op, op'] [b, c] = false) (ha : SE X W a ta fa) (hb : SE X W b tb fb) (hc : SE X W c tc fc) :
    SB X W (.Compare a [op, op'] [b, c] pos) (tTest (tChain r r' ta tb tc)) (mChainB q q' fa fb fc) := by
  obtain ⟨pa, ha⟩ := ha
  obtain ⟨pb, hb⟩ := hb
  obtain ⟨pc, hc⟩ := hc
  refine ⟨pt_chain ho ho' pa pb pc hm, fun ρ σ H O Q R h => two ha hb R h fun x y v u ρ2 H2 O2 rb R2 F2 sx sy later h2 => ?_⟩
  obtain ⟨z, ez, h2⟩ := h2.opt
  refine hg H2 O2 v u x y z _ sx sy ez ⟨z, rfl, ?_⟩
  cases z with
  | false => rw [if_neg (by decide)] at h2 ⊢; exact ⟨false, rfl, h2 _ H2 O2 R2 .refl rfl⟩
  | true =>
    rw [if_pos rfl] at h2 ⊢
    refine hc ρ2 σ H2 O2 _ R2 (Want.bind h2 fun r3 ρ3 w H3 O3 e3 R3 F3 o3 h3 => ?_)
    obtain ⟨y', ey, h3⟩ := h3.opt
    obtain ⟨w', ew, h3⟩ := h3.opt
    obtain ⟨z', ez', h3⟩ := h3.opt
    exact hg' H3 O3 u w y' w' z' _ (later ρ3 H3 O3 y' R3 F3 ey) (ORel.see1 o3 R2 F3 R3 ew) ez' ⟨z', rfl, h3 z' H3 O3 R3 .refl rfl⟩
end
end L3
set_option Elab.async false
set_option linter.all false
set_option maxRecDepth 100000
set_option maxHeartbeats 4000000
set_option autoImplicit false
/-! L3C: tests, and / or, displays, places, slices. -/
namespace L3
open PySem PySem.Spec L2

/-! ### truth -/
def truth : D → Option Bool
  | .none => some false
  | .bool b => some b
  | .int i => some (i != 0)
  | .str x => if x.length ≤ sizeLine then some ((x.length : Int) != 0) else none
  | .list l => some (!l.isEmpty)
  | .tuple l => some (!l.isEmpty)
  | .dict _ => none
theorem RpAll.isEmpty {K : Fg} {H : Hp} {O : Ow} {vs : List V} {ds : List D} (h : RpAll K H O vs ds) : vs.isEmpty = ds.isEmpty := by
  cases h <;> rfl
theorem See.tru {K : Fg} {H : Hp} {O : Ow} {v : V} {d : D} {k : Bool} (h : See K H O v d) (e : truth d = some k) : TruV K v H k := by
  cases d with
  | none => rw [h.non]; cases e; rfl
  | bool b => rw [h.bl]; cases e; rfl
  | int i => rw [h.int]; cases e; rfl
  | str x =>
    rw [h.str]
    have e : (if x.length ≤ sizeLine then some ((x.length : Int) != 0) else none) = some k := e
    by_cases hz : x.length ≤ sizeLine
    · rw [if_pos hz] at e
      cases e
      exact ⟨hz, rfl⟩
    · rw [if_neg hz] at e; cases e
  | list l =>
    obtain ⟨a, xs, rfl, q, r⟩ := h.lst
    cases e
    exact .inl ⟨xs, .inl (.inl q), by rw [r.isEmpty]⟩
  | tuple l =>
    obtain ⟨a, xs, rfl, q, r⟩ := h.tup
    cases e
    exact .inr (.inl ⟨xs, q, by rw [r.isEmpty]⟩)
  | dict l => cases e

def mTest (f : ME) : MB := fun ρ => (f ρ).bind fun r ρ1 => RE.opt (look r ρ1) fun d => RE.opt (truth d) fun k => .ok k ρ1
def mAndB (f g : MB) : MB := fun ρ => (f ρ).bind fun c ρ1 => if c = true then g ρ1 else .ok false ρ1
def mOrB (f g : MB) : MB := fun ρ => (f ρ).bind fun c ρ1 => if c = true then .ok true ρ1 else g ρ1
def mNotB (f : MB) : MB := fun ρ => (f ρ).bind fun c ρ1 => .ok (!c) ρ1
structure SW (X : Cx) (W : WX) (e : Expr) (t : TT) (f : MB) : Prop where
  p : PW X e t
  s : TBs X.K X.mg W t f
def tTruth (K : Fg) (ta : TE) : TT := fun σ H Q => ta σ H fun x H' => ∃ k, TruV K x H' k ∧ Q k H'
section
variable {X : Cx} {W : WX} {pos : Pos} {a b c : Expr} {rest : List Expr} {fa fb fc : ME} {ga gb : MB} {ta tb : TE} {ua ub : TT}
theorem test_core (ha : TEs X.K X.mg W ta fa) {ρ : Fr} {σ : St} {H : Hp} {O : Ow} {Q : Bool → Hp → Prop} {S : V → Hp → Prop} (R : Rel X.K ρ σ H O)
    (h : Want orB X.K X.mg W (mTest fa ρ) ρ σ H O Q) (f : ∀ v k H1, TruV X.K v H1 k → (∀ b, v = .bl b → b = k) → Q k H1 → S v H1) : ta σ H S := by
  refine ha ρ σ H O _ R (Want.bind h fun r1 ρ1 v H1 O1 e1 R1 F1 o1 h1 => ?_)
  obtain ⟨d, ed, h1⟩ := h1.opt
  obtain ⟨k, ek, h1⟩ := h1.opt
  have s := o1.see1 R F1 R1 ed
  refine f v k H1 (s.tru ek) (fun b e => ?_) (h1 k H1 O1 R1 .refl rfl)
  have t := s.tru ek
  subst e
  exact t.symm
/-- a name, a call, a subscript .. as a test -/
theorem sb_truth (he : ∀ whole, isTrue a X.env whole = (do let v ← whole; standAt a.pos; holding [v] (truthy v))) (ha : SE X W a ta fa) : SB X W a (tTruth X.K ta) (mTest fa) := by
  obtain ⟨pa, ha⟩ := ha
  exact ⟨pt_truth pa he, fun ρ σ H O Q R h => test_core ha R h fun v k H1 t _ q => ⟨k, t, q⟩⟩
theorem sw_and1 (ha : SB X W a ua ga) : SW X W (.BoolOp .And [a] pos) ua ga := ⟨pw_and1 ha.p, ha.s⟩
theorem sw_or1 (ha : SB X W a ua ga) : SW X W (.BoolOp .Or [a] pos) ua ga := ⟨pw_or1 ha.p, ha.s⟩
theorem sw_and (ha : SB X W a ua ga) (hb : SW X W (.BoolOp .And (b :: rest) pos) ub gb) : SW X W (.BoolOp .And (a :: b :: rest) pos) (tAnd ua ub) (mAndB ga gb) := by
  obtain ⟨pa, ha⟩ := ha
  obtain ⟨pb, hb⟩ := hb
  refine ⟨pw_and pa pb, fun ρ σ H O Q R h => ha ρ σ H O _ R (Want.bind h fun c ρ1 v H1 O1 e1 R1 F1 o1 h1 => ?_)⟩
  have o1 : c = v := o1
  subst o1
  cases c with
  | true => rw [if_pos rfl] at h1 ⊢; exact hb ρ1 σ H1 O1 Q R1 h1
  | false =>
    rw [if_neg (by decide)] at h1 ⊢
    exact h1 false H1 O1 R1 .refl rfl
theorem sw_or (ha : SB X W a ua ga) (hb : SW X W (.BoolOp .Or (b :: rest) pos) ub gb) : SW X W (.BoolOp .Or (a :: b :: rest) pos) (tOr ua ub) (mOrB ga gb) := by
  obtain ⟨pa, ha⟩ := ha
  obtain ⟨pb, hb⟩ := hb
  refine ⟨pw_or pa pb, fun ρ σ H O Q R h => ha ρ σ H O _ R (Want.bind h fun c ρ1 v H1 O1 e1 R1 F1 o1 h1 => ?_)⟩
  have o1 : c = v := o1
  subst o1
  cases c with
  | false => rw [if_neg (by decide)] at h1 ⊢; exact hb ρ1 σ H1 O1 Q R1 h1
  | true =>
    rw [if_pos rfl] at h1 ⊢
    exact h1 true H1 O1 R1 .refl rfl
theorem sb_w (h : SW X W a ua ga) : SB X W a ua ga := ⟨h.p.pt, h.s⟩
theorem sb_not (ha : SB X W a ua ga) : SB X W (.UnaryOp .Not a pos) (tNot ua) (mNotB ga) := by
  obtain ⟨pa, ha⟩ := ha
  refine ⟨pt_not pa, fun ρ σ H O Q R h => ha ρ σ H O _ R (Want.bind h fun c ρ1 v H1 O1 e1 R1 F1 o1 h1 => ?_)⟩
  have o1 : c = v := o1
  subst o1
  exact h1 (!c) H1 O1 R1 .refl rfl

/-! ### as values -/
def mAndV (f g : ME) : ME := fun ρ => (f ρ).bind fun r ρ1 => RE.opt (look r ρ1) fun d => RE.opt (truth d) fun k => if k = true then g ρ1 else .ok r ρ1
def mOrV (f g : ME) : ME := fun ρ => (f ρ).bind fun r ρ1 => RE.opt (look r ρ1) fun d => RE.opt (truth d) fun k => if k = true then .ok r ρ1 else g ρ1
def mNotV (f : ME) : ME := fun ρ => (f ρ).bind fun r ρ1 => RE.opt (look r ρ1) fun d => RE.opt (truth d) fun k => .ok (.val (.bool (!k))) ρ1
def mIf (c : MB) (f g : ME) : ME := fun ρ => (c ρ).bind fun k ρ1 => if k = true then f ρ1 else g ρ1
theorem se_one {op} (ha : SE X W a ta fa) : SE X W (.BoolOp op [a] pos) ta fa := ⟨pe_one ha.p, ha.s⟩
/-- an operand handed on as the result -/
theorem Want.hand {K : Fg} {mg : Str → Option Value} {ρ ρ1 : Fr} {σ : St} {H H1 : Hp} {O O1 : Ow} {r : Opd} {v : V} {Q : VK} (R1 : Rel K ρ1 σ H1 O1) (o : ORel K ρ1 σ H H1 O1 r v) (h : Want orE K mg W (.ok r ρ1) ρ σ H O Q) (F : Frm ρ σ H O ρ1 H1 O1) : Q v H1 :=
  h v H1 O1 R1 F o
theorem se_and (ha : SE X W a ta fa) (hb : SE X W (.BoolOp .And (b :: rest) pos) tb fb) : SE X W (.BoolOp .And (a :: b :: rest) pos) (tAndT X.K ta tb) (mAndV fa fb) := by
  obtain ⟨pa, ha⟩ := ha
  obtain ⟨pb, hb⟩ := hb
  refine ⟨pe_andT pa pb, fun ρ σ H O Q R h => ?_⟩
  have key : Want orE X.K X.mg W (fa ρ) ρ σ H O (fun x H1 => ∃ k, TruV X.K x H1 k ∧ if k = true then tb σ H1 Q else Q x H1) := by
    unfold mAndV at h
    cases e : fa ρ with
    | ok r ρ1 =>
      rw [e] at h
      simp only [RE.bind] at h
      obtain ⟨d, ed, h⟩ := h.opt
      obtain ⟨k, ek, h⟩ := h.opt
      intro v H1 O1 R1 F1 o1
      refine ⟨k, (ORel.see1 o1 R F1 R1 ed).tru ek, ?_⟩
      cases k with
      | true => rw [if_pos rfl] at h ⊢; exact hb ρ1 σ H1 O1 Q R1 (h.from F1)
      | false => rw [if_neg (by decide)] at h ⊢; exact h v H1 O1 R1 F1 o1
    | exc x ρ1 => rw [e] at h; exact h
    | bad => rw [e] at h; exact h
  exact ha ρ σ H O _ R key
theorem se_or (ha : SE X W a ta fa) (hb : SE X W (.BoolOp .Or (b :: rest) pos) tb fb) : SE X W (.BoolOp .Or (a :: b :: rest) pos) (tOrT X.K ta tb) (mOrV fa fb) := by
  obtain ⟨pa, ha⟩ := ha
  obtain ⟨pb, hb⟩ := hb
  refine ⟨pe_orT pa pb, fun ρ σ H O Q R h => ?_⟩
  have key : Want orE X.K X.mg W (fa ρ) ρ σ H O (fun x H1 => ∃ k, TruV X.K x H1 k ∧ if k = true then Q x H1 else tb σ H1 Q) := by
    unfold mOrV at h
    cases e : fa ρ with
    | ok r ρ1 =>
      rw [e] at h
      simp only [RE.bind] at h
      obtain ⟨d, ed, h⟩ := h.opt
      obtain ⟨k, ek, h⟩ := h.opt
      intro v H1 O1 R1 F1 o1
      refine ⟨k, (ORel.see1 o1 R F1 R1 ed).tru ek, ?_⟩
      cases k with
      | false => rw [if_neg (by decide)] at h ⊢; exact hb ρ1 σ H1 O1 Q R1 (h.from F1)
      | true => rw [if_pos rfl] at h ⊢; exact h v H1 O1 R1 F1 o1
    | exc x ρ1 => rw [e] at h; exact h
    | bad => rw [e] at h; exact h
  exact ha ρ σ H O _ R key
theorem se_not (ha : SE X W a ta fa) : SE X W (.UnaryOp .Not a pos) (tNotT X.K ta) (mNotV fa) := by
  obtain ⟨pa, ha⟩ := ha
  refine ⟨pe_notT pa, fun ρ σ H O Q R h => ha ρ σ H O _ R (Want.bind h fun r ρ1 v H1 O1 e1 R1 F1 o1 h1 => ?_)⟩
  obtain ⟨d, ed, h1⟩ := h1.opt
  obtain ⟨k, ek, h1⟩ := h1.opt
  exact ⟨k, (ORel.see1 o1 R F1 R1 ed).tru ek, h1 _ H1 O1 R1 .refl (.bl _)⟩
theorem se_if (hc : SB X W c ua ga) (ha : SE X W a ta fa) (hb : SE X W b tb fb) : SE X W (.IfExp c a b pos) (tIf ua ta tb) (mIf ga fa fb) := by
  obtain ⟨pc, hc⟩ := hc
  obtain ⟨pa, ha⟩ := ha
  obtain ⟨pb, hb⟩ := hb
  refine ⟨pe_ifExp pc pa pb, fun ρ σ H O Q R h => hc ρ σ H O _ R (Want.bind h fun k ρ1 v H1 O1 e1 R1 F1 o1 h1 => ?_)⟩
  have o1 : k = v := o1
  subst o1
  cases k with
  | true => rw [if_pos rfl] at h1 ⊢; exact ha ρ1 σ H1 O1 Q R1 h1
  | false => rw [if_neg (by decide)] at h1 ⊢; exact hb ρ1 σ H1 O1 Q R1 h1
end

/-! ### values that are kept: displays, arguments -/
/-- the frame without what a passing value owned -/
abbrev Less (O : Ow) (a : Addr) : Ow := fun b => O b ∧ b ≠ a
section
variable {K : Fg} {ρ ρ1 : Fr} {σ : St} {H H1 : Hp} {O O1 : Ow}
theorem Rel.less {a : Addr} (R : Rel K ρ σ H O) (ns : ¬ SlotOwn ρ σ a) : Rel K ρ σ H (Less O a) := by
  have kp : Kp H O H (Less O a) := ⟨fun b o h n => ⟨h, fun q => n q.1⟩, fun _ _ h => h, fun _ _ _ h => h⟩
  refine ⟨R.len, fun i s e => ?_, R.uniq, fun b h => R.dom b h.1⟩
  have q := R.slot i s e
  cases s with
  | no => trivial
  | val x => obtain ⟨v, e1, r⟩ := q; exact ⟨v, e1, r.keep kp⟩
  | own x =>
    obtain ⟨b, e1, oa, w⟩ := q
    exact ⟨b, e1, ⟨oa, fun z => ns (by subst z; exact ⟨i, x, e, e1⟩)⟩, w.keep kp fun _ h => h⟩
theorem getElem?_set_cases {ρ : Fr} {i j : Nat} {s s' : Slot} (h : (ρ.set i s)[j]? = some s') : (i = j ∧ i < ρ.length ∧ s' = s) ∨ (i ≠ j ∧ ρ[j]? = some s') := by
  by_cases e : i = j
  · subst e
    by_cases l : i < ρ.length
    · rw [List.getElem?_set_self l] at h; cases h; exact .inl ⟨rfl, l, rfl⟩
    · rw [List.getElem?_eq_none (by simpa using l)] at h; cases h
  · rw [List.getElem?_set_ne e] at h; exact .inr ⟨e, h⟩
/-- a slot's own list becomes a value -/
theorem Rel.freeze {i : Nat} {a : Addr} {d : D} (R : Rel K ρ σ H O) (e : ρ[i]? = some (.own d)) (es : σ[i]? = some (some (.ref a))) : Rel K (ρ.set i (.val d)) σ H (Less O a) ∧ Rp K H (Less O a) (.ref a) d ∧ Frm ρ σ H O (ρ.set i (.val d)) H (Less O a) := by
  have kp : Kp H O H (Less O a) := ⟨fun b o h n => ⟨h, fun q => n q.1⟩, fun _ _ h => h, fun _ _ _ h => h⟩
  have rp : Rp K H (Less O a) (.ref a) d := by
    obtain ⟨b, e1, oa, w⟩ := R.slot i _ e
    rw [es] at e1
    cases e1
    exact (w.keep kp fun _ h => h).toRp fun q => q.2 rfl
  refine ⟨⟨by rw [List.length_set]; exact R.len, fun j s ej => ?_, fun j k b d1 d2 h1 h2 h3 h4 => ?_, fun b h => R.dom b h.1⟩, rp, ⟨fun b o h n => ⟨h, ?_⟩, fun _ h => h, fun j x h1 => ?_, fun _ _ h => h, fun _ _ _ h => h⟩⟩
  · rcases getElem?_set_cases ej with ⟨rfl, _, rfl⟩ | ⟨ne, ej⟩
    · exact ⟨_, es, rp⟩
    · have q := R.slot j s ej
      cases s with
      | no => trivial
      | val x => obtain ⟨v, e1, r⟩ := q; exact ⟨v, e1, r.keep kp⟩
      | own x =>
        obtain ⟨b, e1, oa, w⟩ := q
        exact ⟨b, e1, ⟨oa, fun z => ne (R.uniq i j a _ _ e ej es (by rw [e1, z]))⟩, w.keep kp fun _ h => h⟩
  · rcases getElem?_set_cases h1 with ⟨rfl, _, z⟩ | ⟨_, h1⟩
    · cases z
    · rcases getElem?_set_cases h2 with ⟨rfl, _, z⟩ | ⟨_, h2⟩
      · cases z
      · exact R.uniq j k b d1 d2 h1 h2 h3 h4
  · exact ⟨fun q => q.1, fun q => ⟨q, fun z => n (by subst z; exact ⟨i, d, e, es⟩)⟩⟩
  · rcases getElem?_set_cases h1 with ⟨rfl, _, z⟩ | ⟨_, h1⟩
    · cases z
    · exact ⟨x, h1⟩
/-- an operand is kept as a value -/
theorem ORel.kept {r : Opd} {v : V} {d : D} {ρ2 : Fr} (o : ORel K ρ1 σ H H1 O1 r v) (R : Rel K ρ σ H O) (F : Frm ρ σ H O ρ1 H1 O1) (R1 : Rel K ρ1 σ H1 O1) (e : keepV r ρ1 = some (d, ρ2)) :
    ∃ O2, Rel K ρ2 σ H1 O2 ∧ Frm ρ σ H O ρ2 H1 O2 ∧ Rp K H1 O2 v d := by
  cases r with
  | val d' => cases e; exact ⟨O1, R1, F, o⟩
  | fresh d' =>
    cases e
    obtain ⟨a, rfl, h0, oa, w⟩ := o
    have ns : ¬ SlotOwn ρ1 σ a := fun q => by
      obtain ⟨_, o, ho, _⟩ := R.owned (F.subO a q)
      rw [h0] at ho; cases ho
    refine ⟨Less O1 a, R1.less ns, ⟨fun b o h n => ⟨(F.keep b o h n).1, ?_⟩, F.dom, F.sub, F.tups, F.frzs⟩, (w.keep ⟨fun b o h n => ⟨h, fun q => n q.1⟩, fun _ _ h => h, fun _ _ _ h => h⟩ fun _ h => h).toRp fun q => q.2 rfl⟩
    have ne : b ≠ a := ne_of_none h h0
    exact ⟨fun q => (F.keep b o h n).2.mp q.1, fun q => ⟨(F.keep b o h n).2.mpr q, ne⟩⟩
  | place i =>
    obtain ⟨e1, _⟩ := o
    have q := R1.slot i
    unfold keepV at e
    cases es : ρ1[i]? with
    | none => simp [es] at e
    | some s =>
      have q := q s es
      cases s with
      | no => simp [es] at e
      | val x =>
        simp [es] at e
        obtain ⟨rfl, rfl⟩ := e
        obtain ⟨v', e2, h⟩ := q
        rw [e1] at e2; cases e2
        exact ⟨O1, R1, F, h⟩
      | own x =>
        simp [es] at e
        obtain ⟨rfl, rfl⟩ := e
        obtain ⟨a, e2, oa, w⟩ := q
        have e2' := e2
        rw [e1] at e2; cases e2
        obtain ⟨R2, rp, F2⟩ := R1.freeze es e2'
        exact ⟨_, R2, F.trans F2, rp⟩
end
def mNil : MA := fun ρ => .ok [] ρ
def mCons (f : ME) (g : MA) : MA := fun ρ => (f ρ).bind fun r ρ1 => RE.opt (keepV r ρ1) fun p => (g p.2).bind fun ds ρ2 => .ok (p.1 :: ds) ρ2
def mTup (g : MA) : ME := fun ρ => (g ρ).bind fun ds ρ1 => if ds.length ≤ sizeLine then .ok (.val (.tuple ds)) ρ1 else .bad
def mLst (g : MA) : ME := fun ρ => (g ρ).bind fun ds ρ1 => if ds.length ≤ sizeLine then .ok (.fresh (.list ds)) ρ1 else .bad
section
variable {X : Cx} {W : WX} {pos : Pos} {e : Expr} {es : List Expr} {f : ME} {g : MA} {te : TE} {ta : TA}
theorem sa_nil : SA X W [] tNil mNil := ⟨pa_nil, fun ρ σ H O Q R h => h [] H O R .refl .nil⟩
theorem sa_cons (he : SE X W e te f) (hr : SA X W es ta g) (hs : starEach (e :: es) X.env = (false, eval e X.env) :: starEach es X.env) : SA X W (e :: es) (tCons te ta) (mCons f g) := by
  obtain ⟨pe, he⟩ := he
  obtain ⟨pr, hr⟩ := hr
  refine ⟨pa_cons pe pr hs, fun ρ σ H O Q R h => he ρ σ H O _ R (Want.bind h fun r ρ1 v H1 O1 e1 R1 F1 o1 h1 => ?_)⟩
  obtain ⟨⟨d, ρ2⟩, ek, h1⟩ := h1.opt
  obtain ⟨O2, R2, F2, rp⟩ := ORel.kept o1 R F1 R1 ek
  -- the wish from the start
  have h2 : Want orA X.K X.mg W ((g ρ2).bind fun ds ρ2 => .ok (d :: ds) ρ2) ρ σ H O Q := by
    unfold mCons at h
    rw [e1] at h
    simp only [RE.bind] at h
    rw [ek] at h
    exact h
  refine hr ρ2 σ H1 O2 _ R2 (Want.bind (h2.from F2) fun ds ρ3 vs H3 O3 e3 R3 F3 o3 h3 => ?_)
  exact h3 _ H3 O3 R3 .refl (.cons (rp.keep (F3.kp R2)) o3)
theorem se_tup {k} (h : SA X W es ta g) : SE X W (.Tuple es k pos) (tTup ta) (mTup g) := by
  obtain ⟨p, h⟩ := h
  refine ⟨pe_tup p, fun ρ σ H O Q R hw => h ρ σ H O _ R (Want.bind hw fun ds ρ1 vs H1 O1 e1 R1 F1 o1 h1 => ?_)⟩
  have o1 : RpAll X.K H1 O1 vs ds := o1
  by_cases z : ds.length ≤ sizeLine
  · rw [if_pos z] at h1
    exact ⟨by rw [o1.length]; exact z, fun q hq => (h1.ck .v R1).tup o1 q hq⟩
  · rw [if_neg z] at h1; exact h1.elim
theorem se_lst (h : SA X W es ta g) : SE X W (.List es pos) (tLst ta) (mLst g) := by
  obtain ⟨p, h⟩ := h
  refine ⟨pe_lst p, fun ρ σ H O Q R hw => h ρ σ H O _ R (Want.bind hw fun ds ρ1 vs H1 O1 e1 R1 F1 o1 h1 => ?_)⟩
  have o1 : RpAll X.K H1 O1 vs ds := o1
  by_cases z : ds.length ≤ sizeLine
  · rw [if_pos z] at h1
    exact ⟨by rw [o1.length]; exact z, fun q hq => (h1.ck .f R1).lst o1 q hq⟩
  · rw [if_neg z] at h1; exact h1.elim
end
end L3
set_option Elab.async false
set_option linter.all false
set_option maxRecDepth 100000
set_option maxHeartbeats 4000000
set_option autoImplicit false
/-! L3D: statements as functions of the slots. -/
namespace L3
open PySem PySem.Spec L2

inductive Out where
  | nx (ρ : Fr)
  | rt (f : Bool) (d : D) (ρ : Fr)
  | bk (ρ : Fr)
  | ct (ρ : Fr)
  | exc (x : Xc) (ρ : Fr)
  | bad
abbrev MS := Fr → Out
/-- a def's entry: the parameters that stay in their slots; those of them that own (with the addresses); the heap -/
structure En where
  P : List Nat
  E : List (Nat × Addr)
  H0 : Hp
  O0 : Ow
structure Bs (n : En) (ρ : Fr) (σ : L2.St) (H : Hp) (O : Ow) : Prop where
  keep : ∀ a o, n.H0 a = some o → (∀ j, (j, a) ∉ n.E) → H a = some o ∧ (O a ↔ n.O0 a)
  dom : ∀ a, n.H0 a ≠ none → H a ≠ none
  tups : ∀ a xs, n.H0 a = some (.tup xs) → H a = some (.tup xs)
  frzs : ∀ a o u, n.H0 a = some (.frz o u) → H a = some (.frz o u)
  own : ∀ (i : Nat) d a, ρ[i]? = some (.own d) → σ[i]? = some (some (.ref a)) → (i, a) ∈ n.E ∨ n.H0 a = none
  pin : ∀ j a, (j, a) ∈ n.E → σ[j]? = some (some (.ref a)) ∧ j ∈ n.P
theorem Kp.refl {H : Hp} {O : Ow} : Kp H O H O := ⟨fun _ _ h n => ⟨h, n⟩, fun _ _ h => h, fun _ _ _ h => h⟩
theorem Kp.trans {H H1 H2 : Hp} {O O1 O2 : Ow} (a : Kp H O H1 O1) (b : Kp H1 O1 H2 O2) : Kp H O H2 O2 :=
  ⟨fun c o h n => let ⟨h1, n1⟩ := a.keep c o h n; b.keep c o h1 n1, fun c xs h => b.tups c xs (a.tups c xs h), fun c o u h => b.frzs c o u (a.frzs c o u h)⟩
section
variable {K : Fg} {mg : Str → Option Value} {W : WX} {n : En} {ρ ρ1 : Fr} {σ : L2.St} {H H1 H2 : Hp} {O O1 O2 : Ow} {D : Ends}
theorem Bs.frm (B : Bs n ρ σ H O) (F : Frm ρ σ H O ρ1 H1 O1) : Bs n ρ1 σ H1 O1 := by
  refine ⟨fun a o h hn => ?_, fun a h => F.dom a (B.dom a h), fun a xs h => F.tups a xs (B.tups a xs h), fun a o u h => F.frzs a o u (B.frzs a o u h), fun i d a h1 h2 => ?_, B.pin⟩
  · obtain ⟨h1, i1⟩ := B.keep a o h hn
    obtain ⟨h2, i2⟩ := F.keep a o h1 fun ⟨i, d, q1, q2⟩ => by
      rcases B.own i d a q1 q2 with z | z
      · exact hn i z
      · rw [h] at z; cases z
    exact ⟨h2, i2.trans i1⟩
  · obtain ⟨e, q1⟩ := F.sub i d h1
    exact B.own i e a q1 h2
def RetRel (K : Fg) (n : En) (H : Hp) (O : Ow) : Bool → PyData → V → Prop
  | true, d, v => ∃ a, v = .ref a ∧ n.H0 a = none ∧ O a ∧ OwnRp K H O a d
  | false, d, v => Rp K H O v d
def WantS (K : Fg) (mg : Str → Option Value) (W : WX) (n : En) (H : Hp) (O : Ow) (r : Out) (D : Ends) : Prop :=
  match r with
  | .nx ρ' => ∀ σ' H' O', Rel K ρ' σ' H' O' → Bs n ρ' σ' H' O' → Kp H O H' O' → D.nx σ' H'
  | .rt f d ρ' => ∀ v σ' H' O', Rel K ρ' σ' H' O' → Bs n ρ' σ' H' O' → RetRel K n H' O' f d v → D.rt v H'
  | .bk ρ' => ∀ σ' H' O', Rel K ρ' σ' H' O' → Bs n ρ' σ' H' O' → Kp H O H' O' → D.bk σ' H'
  | .ct ρ' => ∀ σ' H' O', Rel K ρ' σ' H' O' → Bs n ρ' σ' H' O' → Kp H O H' O' → D.ct σ' H'
  | .exc x ρ' => ∀ cls d σ' H' O', Rel K ρ' σ' H' O' → Bs n ρ' σ' H' O' → Kp H O H' O' → XRel K mg H' O' x cls d → W cls d σ' H'
  | .bad => False
theorem WantS.from {r : Out} (h : WantS K mg W n H O r D) (k : Kp H O H1 O1) : WantS K mg W n H1 O1 r D := by
  cases r with
  | nx ρ' => exact fun σ' H' O' a b c => h σ' H' O' a b (k.trans c)
  | rt f d ρ' => exact h
  | bk ρ' => exact fun σ' H' O' a b c => h σ' H' O' a b (k.trans c)
  | ct ρ' => exact fun σ' H' O' a b c => h σ' H' O' a b (k.trans c)
  | exc x ρ' => exact fun cls d σ' H' O' a b c => h cls d σ' H' O' a b (k.trans c)
  | bad => exact h
def RE.out {α : Type} (r : RE α) (k : α → Fr → Out) : Out :=
  match r with
  | .ok a ρ => k a ρ
  | .exc x ρ => .exc x ρ
  | .bad => .bad
def Out.opt {α : Type} : Option α → (α → Out) → Out
  | some a, k => k a
  | none, _ => .bad
theorem WantS.opt {α : Type} {x : Option α} {k : α → Out} (h : WantS K mg W n H O (Out.opt x k) D) : ∃ a, x = some a ∧ WantS K mg W n H O (k a) D := by
  cases x with
  | none => exact False.elim h
  | some a => exact ⟨a, rfl, h⟩
/-- a part is evaluated, then the rest -/
theorem WantS.ev {α β : Type} {R' : ORs α β} {r : RE α} {k : α → Fr → Out} {S : β → Hp → Prop} (h : WantS K mg W n H O (RE.out r k) D) (R : Rel K ρ σ H O) (B : Bs n ρ σ H O)
    (g : ∀ a ρ1 v H1 O1, r = .ok a ρ1 → Rel K ρ1 σ H1 O1 → Bs n ρ1 σ H1 O1 → Frm ρ σ H O ρ1 H1 O1 → R'.r K ρ1 σ H H1 O1 a v → WantS K mg W n H1 O1 (k a ρ1) D → S v H1) : Want R' K mg W r ρ σ H O S := by
  cases r with
  | ok a ρ1 => exact fun v H1 O1 R1 F1 o1 => g a ρ1 v H1 O1 rfl R1 (B.frm F1) F1 o1 (h.from (F1.kp R))
  | exc x ρ1 => exact fun cls d H' O' R1 F1 xr => h cls d σ H' O' R1 (B.frm F1) (F1.kp R) xr
  | bad => exact h
end
/-- a statement's reading does as the function says -/
def TSs (K : Fg) (mg : Str → Option Value) (W : WX) (P : List Nat) (t : TS) (g : MS) : Prop :=
  ∀ n : En, n.P = P → ∀ ρ σ H O D, Rel K ρ σ H O → Bs n ρ σ H O → WantS K mg W n H O (g ρ) D → t D σ H
structure SS (X : Cx) (W : WX) (P : List Nat) (st : Stmt) (t : TS) (g : MS) : Prop where
  p : PS X st t
  s : TSs X.K X.mg W P t g
structure SSs (X : Cx) (W : WX) (P : List Nat) (st : List Stmt) (t : TS) (g : MS) : Prop where
  p : PSs X st t
  s : TSs X.K X.mg W P t g

def mNx : MS := fun ρ => .nx ρ
def mSeq (g h : MS) : MS := fun ρ => match g ρ with
  | .nx ρ1 => h ρ1
  | o => o
def mDrop (f : ME) : MS := fun ρ => RE.out (f ρ) fun _ ρ1 => .nx ρ1
def mIfS (c : MB) (g h : MS) : MS := fun ρ => RE.out (c ρ) fun k ρ1 => if k = true then g ρ1 else h ρ1
def mBk : MS := fun ρ => .bk ρ
def mCt : MS := fun ρ => .ct ρ
/-- what a return hands out: a list that a slot of this def's own holds is handed out with it -/
def retOf (P : List Nat) : Opd → Fr → Option (Bool × D × Fr)
  | .val d, ρ => some (false, d, ρ)
  | .fresh d, ρ => some (true, d, ρ)
  | .place i, ρ => match ρ[i]? with
    | some (.val d) => some (false, d, ρ)
    | some (.own d) => if i ∈ P then some (false, d, ρ.set i (.val d)) else some (true, d, ρ)
    | _ => none
def mRet (P : List Nat) (f : ME) : MS := fun ρ => RE.out (f ρ) fun r ρ1 => Out.opt (retOf P r ρ1) fun q => .rt q.1 q.2.1 q.2.2
def mRetN : MS := fun ρ => .rt false .none ρ
/-- what a slot takes -/
def slotOf : Opd → Fr → Option (Slot × Fr)
  | .val d, ρ => some (.val d, ρ)
  | .fresh d, ρ => some (.own d, ρ)
  | .place i, ρ => match ρ[i]? with
    | some (.val d) => some (.val d, ρ)
    | some (.own d) => some (.val d, ρ.set i (.val d))
    | _ => none
def mSet (i : Nat) (f : ME) : MS := fun ρ => RE.out (f ρ) fun r ρ1 => Out.opt (slotOf r ρ1) fun q => .nx (q.2.set i q.1)
section
variable {X : Cx} {W : WX} {P : List Nat} {st : Stmt} {rest : List Stmt} {t u : TS} {g h : MS} {e : Expr} {te : TE} {f : ME} {pos : Pos} {c : Expr} {tc : TT} {fc : MB} {a b : List Stmt}
theorem sss_nil : SSs X W P [] tNext mNx := ⟨pss_nil, fun n hn ρ σ H O D R B w => w σ H O R B .refl⟩
theorem sss_one (h1 : SS X W P st t g) : SSs X W P [st] t g := ⟨pss_one h1.p, h1.s⟩
theorem sss_cons (h1 : SS X W P st t g) (h2 : SSs X W P rest u h) : SSs X W P (st :: rest) (tSeq t u) (mSeq g h) := by
  refine ⟨pss_cons h1.p h2.p, fun n hn ρ σ H O D R B w => h1.s n hn ρ σ H O _ R B ?_⟩
  unfold mSeq at w
  cases eg : g ρ with
  | nx ρ1 => rw [eg] at w; exact fun σ' H' O' R' B' k => h2.s n hn ρ1 σ' H' O' D R' B' (WantS.from w k)
  | rt f d ρ1 => rw [eg] at w; exact w
  | bk ρ1 => rw [eg] at w; exact w
  | ct ρ1 => rw [eg] at w; exact w
  | exc x ρ1 => rw [eg] at w; exact w
  | bad => rw [eg] at w; exact w
theorem ss_pass : SS X W P (.Pass pos) tNext mNx := ⟨ps_pass, fun n hn ρ σ H O D R B w => w σ H O R B .refl⟩
theorem ss_break : SS X W P (.Break pos) tBreak mBk := ⟨ps_break, fun n hn ρ σ H O D R B w => w σ H O R B .refl⟩
theorem ss_continue : SS X W P (.Continue pos) tCont mCt := ⟨ps_continue, fun n hn ρ σ H O D R B w => w σ H O R B .refl⟩
theorem ss_expr (he : SE X W e te f) (hs : swapsWith e none pos.line X.env = pure false) : SS X W P (.Expr e pos) (tDrop te) (mDrop f) :=
  ⟨ps_expr he.p hs, fun n hn ρ σ H O D R B w => he.s ρ σ H O _ R (w.ev R B fun a ρ1 v H1 O1 e1 R1 B1 F1 o1 w1 => w1 σ H1 O1 R1 B1 .refl)⟩
theorem ss_if (hc : SB X W c tc fc) (ha : SSs X W P a t g) (hb : SSs X W P b u h) : SS X W P (.If c a b pos) (tIfS tc t u) (mIfS fc g h) := by
  refine ⟨ps_if hc.p ha.p hb.p, fun n hn ρ σ H O D R B w => hc.s ρ σ H O _ R (w.ev R B fun k ρ1 v H1 O1 e1 R1 B1 F1 o1 w1 => ?_)⟩
  have o1 : k = v := o1
  subst o1
  cases k with
  | true => rw [if_pos rfl] at w1 ⊢; exact ha.s n hn ρ1 σ H1 O1 D R1 B1 w1
  | false => rw [if_neg (by decide)] at w1 ⊢; exact hb.s n hn ρ1 σ H1 O1 D R1 B1 w1
theorem ss_retN : SS X W P (.Return none pos) tRetN mRetN := ⟨ps_retN, fun n hn ρ σ H O D R B w => w .non σ H O R B .non⟩
theorem ss_ret (he : SE X W e te f) : SS X W P (.Return (some e) pos) (tRet te) (mRet P f) := by
  refine ⟨ps_ret he.p, fun n hn ρ σ H O D R B w => he.s ρ σ H O _ R (w.ev R B fun r ρ1 v H1 O1 e1 R1 B1 F1 o1 w1 => ?_)⟩
  obtain ⟨⟨fr, d, ρ2⟩, eq, w1⟩ := w1.opt
  cases r with
  | val d' => cases eq; exact w1 v σ H1 O1 R1 B1 o1
  | fresh d' =>
    cases eq
    obtain ⟨q, rfl, h0, oq, wq⟩ := o1
    refine w1 _ σ H1 O1 R1 B1 ⟨q, rfl, ?_, oq, wq⟩
    cases z : n.H0 q with
    | none => rfl
    | some o => exact absurd h0 (B.dom q (by rw [z]; intro y; cases y))
  | place i =>
    obtain ⟨es, d0, e0⟩ := o1
    simp only [retOf, e0] at eq
    obtain ⟨q, e2, oq, wq⟩ := R1.slot i _ e0
    rw [es] at e2
    cases e2
    by_cases ip : i ∈ P
    · rw [if_pos ip] at eq
      cases eq
      obtain ⟨R2, rp, F2⟩ := R1.freeze e0 es
      exact w1 _ σ H1 _ R2 (B1.frm F2) rp
    · rw [if_neg ip] at eq
      cases eq
      refine w1 _ σ H1 O1 R1 B1 ⟨q, rfl, ?_, oq, wq⟩
      rcases B1.own i _ q e0 es with z | z
      · exact absurd (by rw [← hn]; exact (B1.pin i q z).2) ip
      · exact z
/-- a slot is stored -/
theorem store {K : Fg} {n : En} {i : Nat} {ρ ρ1 ρ2 : Fr} {σ : L2.St} {H H1 : Hp} {O O1 : Ow} {r : Opd} {v : V} {s : Slot} (ip : i ∉ n.P) (o : ORel K ρ1 σ H H1 O1 r v) (R : Rel K ρ σ H O) (F : Frm ρ σ H O ρ1 H1 O1) (B : Bs n ρ σ H O) (R1 : Rel K ρ1 σ H1 O1)
    (e : slotOf r ρ1 = some (s, ρ2)) : ∃ O2, Rel K (ρ2.set i s) (σ.set i (some v)) H1 O2 ∧ Bs n (ρ2.set i s) (σ.set i (some v)) H1 O2 ∧ Kp H O H1 O2 := by
  -- a value at i
  have fin : ∀ {ρ2 : Fr} {O2 : Ow} {s : Slot}, Rel K ρ2 σ H1 O2 → Bs n ρ2 σ H1 O2 → Kp H O H1 O2 → SlotOk K H1 O2 s (some (some v)) → (∀ d a, s = .own d → v = .ref a → ¬ SlotOwn ρ2 σ a ∧ n.H0 a = none) →
      ∃ O2, Rel K (ρ2.set i s) (σ.set i (some v)) H1 O2 ∧ Bs n (ρ2.set i s) (σ.set i (some v)) H1 O2 ∧ Kp H O H1 O2 := fun {ρ2 O2 s} R2 B2 k so fr => by
    refine ⟨O2, ⟨by rw [List.length_set, List.length_set]; exact R2.len, fun j s' ej => ?_, fun j k a d1 d2 h1 h2 h3 h4 => ?_, R2.dom⟩, ⟨B2.keep, B2.dom, B2.tups, B2.frzs, fun j d a h1 h2 => ?_, fun j a h1 => ?_⟩, k⟩
    · rcases getElem?_set_cases ej with ⟨rfl, l, rfl⟩ | ⟨ne, ej⟩
      · rw [List.getElem?_set_self (by rw [← R2.len]; exact l)]; exact so
      · rw [List.getElem?_set_ne ne]; exact R2.slot j s' ej
    · rcases getElem?_set_cases h1 with ⟨rfl, l, e1⟩ | ⟨ne, h1⟩
      · rw [List.getElem?_set_self (by rw [← R2.len]; exact l)] at h3
        rcases getElem?_set_cases h2 with ⟨rfl, _, e2⟩ | ⟨ne2, h2⟩
        · rfl
        · rw [List.getElem?_set_ne ne2] at h4
          exact absurd ⟨_, _, h2, h4⟩ (fr d1 a e1.symm (by cases h3; rfl)).1
      · rw [List.getElem?_set_ne ne] at h3
        rcases getElem?_set_cases h2 with ⟨rfl, l, e2⟩ | ⟨ne2, h2⟩
        · rw [List.getElem?_set_self (by rw [← R2.len]; exact l)] at h4
          exact absurd ⟨_, _, h1, h3⟩ (fr d2 a e2.symm (by cases h4; rfl)).1
        · rw [List.getElem?_set_ne ne2] at h4
          exact R2.uniq j k a d1 d2 h1 h2 h3 h4
    · rcases getElem?_set_cases h1 with ⟨rfl, l, e1⟩ | ⟨ne, h1⟩
      · rw [List.getElem?_set_self (by rw [← R2.len]; exact l)] at h2
        exact .inr (fr d a e1.symm (by cases h2; rfl)).2
      · rw [List.getElem?_set_ne ne] at h2
        exact B2.own j d a h1 h2
    · obtain ⟨q1, q2⟩ := B2.pin j a h1
      have ne : i ≠ j := fun z => ip (by rw [z]; exact q2)
      exact ⟨by rw [List.getElem?_set_ne ne]; exact q1, q2⟩
  cases r with
  | val d => cases e; exact fin R1 (B.frm F) (F.kp R) ⟨v, rfl, o⟩ fun _ _ z => nomatch z
  | fresh d =>
    cases e
    obtain ⟨a, rfl, h0, oa, w⟩ := o
    refine fin R1 (B.frm F) (F.kp R) ⟨a, rfl, oa, w⟩ fun d' a' e1 e2 => ?_
    cases e2
    refine ⟨fun q => ?_, ?_⟩
    · obtain ⟨_, o, ho, _⟩ := R.owned (F.subO a q)
      rw [h0] at ho; cases ho
    · cases z : n.H0 a with
      | none => rfl
      | some o => exact absurd h0 (B.dom a (by rw [z]; intro y; cases y))
  | place j =>
    obtain ⟨es, d0, e0⟩ := o
    simp only [slotOf, e0] at e
    cases e
    obtain ⟨q, e2, oq, wq⟩ := R1.slot j _ e0
    have e3 := e2
    rw [es] at e2
    cases e2
    obtain ⟨R2, rp, F2⟩ := R1.freeze e0 e3
    exact fin R2 ((B.frm F).frm F2) ((F.kp R).trans (F2.kp R1)) ⟨_, rfl, rp⟩ fun _ _ z => nomatch z
/-- the store of a reading's value -/
theorem set_core {i : Nat} {K : Fg} {mg : Str → Option Value} (ip : i ∉ P) (he : TEs K mg W te f) : TSs K mg W P (tAsg te (gName i)) (mSet i f) := fun n hn ρ σ H O D R B w =>
  he ρ σ H O _ R (w.ev R B fun r ρ1 v H1 O1 e1 R1 B1 F1 o1 w1 => by
    obtain ⟨⟨s, ρ2⟩, eq, w1⟩ := w1.opt
    obtain ⟨O2, R2, B2, k2⟩ := store (by rw [hn]; exact ip) o1 R F1 B R1 eq
    -- the wish stands from the start
    have w2 : WantS K mg W n H O (.nx (ρ2.set i s)) D := by
      unfold mSet at w
      rw [e1] at w
      simp only [RE.out, eq, Out.opt] at w
      exact w
    exact w2 _ H1 O2 R2 B2 k2)
theorem ss_set {i : Nat} {x : Str} {pos' : Pos} (ip : i ∉ P) (hN : X.N.Nodup) (hi : X.N[i]? = some x) (hx : Loc X.env.scope x) (hs : swapsWith e (some (.Name x pos')) pos.line X.env = pure false) (hf : X.fn x = true ∨ X.env.scope.names.lookup x = some .local) (he : SE X W e te f) :
    SS X W P (.Assign [.Name x pos'] e pos) (tAsg te (gName i)) (mSet i f) := ⟨ps_set hN hi hx he.p hs hf, set_core ip he.s⟩
end
end L3
set_option Elab.async false
set_option linter.all false
set_option maxRecDepth 100000
set_option maxHeartbeats 4000000
set_option autoImplicit false
/-! L3E: what is walked; targets; for, while; comprehensions. -/
namespace L3
open PySem PySem.Spec L2

/-! ### slots forgotten -/
def kill (ρ : Fr) : List Nat → Fr
  | [] => ρ
  | v :: vs => (kill ρ vs).set v .no
theorem kill_length (ρ : Fr) : ∀ vs : List Nat, (kill ρ vs).length = ρ.length
  | [] => rfl
  | v :: vs => by unfold kill; rw [List.length_set, kill_length ρ vs]
theorem kill_get {ρ : Fr} {i : Nat} {s : Slot} : ∀ {vs : List Nat}, (kill ρ vs)[i]? = some s → s = .no ∨ (ρ[i]? = some s ∧ i ∉ vs)
  | [], h => .inr ⟨h, by simp⟩
  | v :: vs, h => by
    unfold kill at h
    rcases getElem?_set_cases h with ⟨rfl, _, rfl⟩ | ⟨ne, h⟩
    · exact .inl rfl
    · rcases kill_get h with h | ⟨h1, h2⟩
      · exact .inl h
      · exact .inr ⟨h1, by simp only [List.mem_cons, not_or]; exact ⟨fun e => ne e.symm, h2⟩⟩
theorem wipe_out' {σ : L2.St} {i : Nat} : ∀ {vs : List Nat}, i ∉ vs → (wipe σ vs)[i]? = σ[i]?
  | [], _ => rfl
  | v :: vs, h => by
    simp only [List.mem_cons, not_or] at h
    unfold wipe
    rw [List.getElem?_set_ne (fun e => h.1 e.symm)]
    exact wipe_out' h.2
theorem wipe_set {σ : L2.St} {i : Nat} {x : Option V} : ∀ {vs : List Nat}, i ∈ vs → wipe (σ.set i x) vs = wipe σ vs := by
  have comm : ∀ (vs : List Nat) (σ : L2.St), i ∉ vs → wipe (σ.set i x) vs = (wipe σ vs).set i x := by
    intro vs
    induction vs with
    | nil => intro σ _; rfl
    | cons v vs ih =>
      intro σ h
      simp only [List.mem_cons, not_or] at h
      unfold wipe
      rw [ih σ h.2, List.set_comm _ _ h.1]
  intro vs
  induction vs with
  | nil => intro h; cases h
  | cons v vs ih =>
    intro h
    unfold wipe
    by_cases e : i ∈ vs
    · rw [ih e]
    · have z : i = v := by
        rcases List.mem_cons.mp h with z | z
        · exact z
        · exact absurd z e
      subst z
      rw [comm vs σ e, List.set_set]
theorem wipe_wipe {σ : L2.St} {vs : List Nat} : wipe (wipe σ vs) vs = wipe σ vs := by
  have : ∀ us : List Nat, (∀ u ∈ us, u ∈ vs) → wipe (wipe σ us) vs = wipe σ vs := by
    intro us
    induction us with
    | nil => intro _; rfl
    | cons u us ih =>
      intro h
      show wipe ((wipe σ us).set u none) vs = wipe σ vs
      rw [wipe_set (h u (by simp))]
      exact ih fun w hw => h w (by simp [hw])
  exact this vs fun _ h => h
section
variable {K : Fg} {n : En} {ρ ρ1 : Fr} {σ : L2.St} {H H1 : Hp} {O O1 : Ow}
theorem Rel.kill (vs : List Nat) (R : Rel K ρ σ H O) : Rel K (L3.kill ρ vs) σ H O := by
  refine ⟨by rw [kill_length]; exact R.len, fun i s e => ?_, fun i j a d e h1 h2 h3 h4 => ?_, R.dom⟩
  · rcases kill_get e with rfl | ⟨h, _⟩
    · trivial
    · exact R.slot i s h
  · rcases kill_get h1 with z | ⟨h1, _⟩
    · cases z
    · rcases kill_get h2 with z | ⟨h2, _⟩
      · cases z
      · exact R.uniq i j a d e h1 h2 h3 h4
theorem Rel.killW (vs : List Nat) (R : Rel K ρ σ H O) : Rel K (L3.kill ρ vs) (wipe σ vs) H O := by
  refine ⟨by rw [kill_length, wipe_length]; exact R.len, fun i s e => ?_, fun i j a d e h1 h2 h3 h4 => ?_, R.dom⟩
  · rcases kill_get e with rfl | ⟨h, hi⟩
    · trivial
    · rw [wipe_out' hi]; exact R.slot i s h
  · rcases kill_get h1 with z | ⟨h1, n1⟩
    · cases z
    · rcases kill_get h2 with z | ⟨h2, n2⟩
      · cases z
      · rw [wipe_out' n1] at h3
        rw [wipe_out' n2] at h4
        exact R.uniq i j a d e h1 h2 h3 h4
/-- back from a block -/
theorem Rel.unwipe {vs : List Nat} (R : Rel K ρ (wipe σ vs) H O) (hk : L3.kill ρ vs = ρ) : Rel K ρ σ H O := by
  have len : ρ.length = σ.length := by rw [R.len, wipe_length]
  refine ⟨len, fun i s e => ?_, fun i j a d e h1 h2 h3 h4 => ?_, R.dom⟩
  · have e' := e
    rw [← hk] at e'
    rcases kill_get e' with rfl | ⟨_, hi⟩
    · trivial
    · have q := R.slot i s e
      rw [wipe_out' hi] at q
      exact q
  · have h1' := h1
    have h2' := h2
    rw [← hk] at h1' h2'
    rcases kill_get h1' with z | ⟨_, n1⟩
    · cases z
    · rcases kill_get h2' with z | ⟨_, n2⟩
      · cases z
      · exact R.uniq i j a d e h1 h2 (by rw [wipe_out' n1]; exact h3) (by rw [wipe_out' n2]; exact h4)
theorem Bs.kill (vs : List Nat) (B : Bs n ρ σ H O) : Bs n (L3.kill ρ vs) σ H O :=
  ⟨B.keep, B.dom, B.tups, B.frzs, fun i d a h1 h2 => by
    rcases kill_get h1 with z | ⟨h1, _⟩
    · cases z
    · exact B.own i d a h1 h2, B.pin⟩
theorem kill_kill (ρ : Fr) (vs : List Nat) : kill (kill ρ vs) vs = kill ρ vs := by
  have get : ∀ (us : List Nat) (ρ : Fr) (i : Nat), (kill ρ us)[i]? = if i ∈ us then (ρ[i]?).map (fun _ => Slot.no) else ρ[i]? := by
    intro us
    induction us with
    | nil => intro ρ i; simp [kill]
    | cons u us ih =>
      intro ρ i
      unfold kill
      by_cases e : u = i
      · subst e
        rw [List.getElem?_set, if_pos rfl, kill_length]
        simp only [List.mem_cons, true_or, if_true]
        by_cases l : u < ρ.length
        · rw [if_pos l, List.getElem?_eq_getElem l]; rfl
        · rw [if_neg l, List.getElem?_eq_none (by omega)]; rfl
      · rw [List.getElem?_set_ne e, ih ρ i]
        have : i ∈ u :: us ↔ i ∈ us := by simp only [List.mem_cons]; exact ⟨fun h => h.resolve_left fun z => e z.symm, .inr⟩
        simp only [this]
  apply List.ext_getElem?
  intro i
  rw [get vs (kill ρ vs) i, get vs ρ i]
  by_cases h : i ∈ vs
  · simp only [h, if_true]; cases ρ[i]? <;> rfl
  · simp only [h, if_false]
end

/-! ### what is walked -/
structure Walk (K : Fg) (J : It) (ds : List PyData) (H0 : Hp) (O0 : Ow) : Prop where
  go : ∀ i H O, Kp H0 O0 H O → i < ds.length → J.go i H
  stop : ∀ i H O, Kp H0 O0 H O → ds.length ≤ i → J.stop i H
  yld : ∀ i H O x H', Kp H0 O0 H O → (∀ a, O a → H a ≠ none) → i < ds.length → J.yld i H x H' → ∃ d, ds[i]? = some d ∧ Gr H O H' O ∧ Rp K H' O x d
def orI : ORs (List PyData) It := ⟨fun K _ _ _ H O ds J => Walk K J ds H O, fun _ h => h⟩
def TIs (K : Fg) (mg : Str → Option Value) (W : WX) (t : TI) (f : Fr → RE (List PyData)) : Prop := ∀ ρ σ H O (R : It → Hp → Prop), Rel K ρ σ H O → Want orI K mg W (f ρ) ρ σ H O R → t σ H R
structure SI (X : Cx) (W : WX) (tg iter : Expr) (t : TI) (f : Fr → RE (List PyData)) : Prop where
  p : PI X tg iter t
  s : TIs X.K X.mg W t f
/-- a list or a tuple -/
def iSeq (K : Fg) (tl : TE) : TI := fun σ H R => tl σ H fun x H1 => ∃ a, x = .ref a ∧ (((∃ xs, SqL K H1 a xs) ∧ R (Itl K a) H1) ∨ ((∃ xs, SqT K H1 a xs) ∧ R (Itt K a) H1))
/-- a new iterator stands apart -/
theorem it_apart {X : Cx} {pins : List (Addr × Obj)} {σ : L2.St} {H : Hp} {s : Shared} (I : Inv X pins σ H s) : ∀ b ∈ [s.heap.objs.size], FpOk X pins H b := fun b hb => by
  obtain rfl := List.mem_singleton.mp hb
  exact I.fpOk (Nat.le_refl _) (I.hok.fresh (Nat.le_refl _))
theorem pi_seq {X : Cx} {tg l : Expr} {tl : TE} (hl : PE X l tl) : PI X tg l (iSeq X.K tl) := by
  refine ⟨fun pins s σ H R I h => thn (hl.run pins s σ H _ I h) ?_⟩
  rintro v s1 ⟨x, H1, I1, r1, a, rfl, q⟩
  obtain rfl : v = Value.ref a := r1
  rcases q with ⟨⟨xs, hq⟩, q⟩ | ⟨⟨xs, hq⟩, q⟩
  · obtain ⟨its, rv, p, hz⟩ := I1.list hq
    exact PySem.wpAny_pyIter_list p.isList ⟨_, _, _, _, H1, rfl, I1.kept (t' := s1.toks) fun b o e => Heap.get?_push_of_some _ e, turn_list a s1.heap.objs.size, ⟨_, Heap.get?_push_size _ rfl, rfl, rfl⟩, it_apart I1, q⟩
  · obtain ⟨its, rv, p, hz⟩ := I1.tuple hq
    exact PySem.wpAny_pyIter_tuple (show s1.heap.IsTuple a its.toArray from p) ⟨_, _, _, _, H1, rfl, I1.kept (t' := s1.toks) fun b o e => Heap.get?_push_of_some _ e, turn_tuple a s1.heap.objs.size, ⟨_, Heap.get?_push_size _ rfl, rfl, rfl⟩, it_apart I1, q⟩
def items : PyData → Option (List PyData)
  | .list l => some l
  | .tuple l => some l
  | _ => none
def mSeqI (f : ME) : Fr → RE (List PyData) := fun ρ => (f ρ).bind fun r ρ1 => RE.opt (keepV r ρ1) fun q => RE.opt (items q.1) fun l => .ok l q.2
section
variable {K : Fg} {H : Hp} {O : Ow} {a : Addr} {xs : List V} {ds : List PyData}
theorem walk_list (h : H a = some (.lst xs)) (n : ¬ O a) (r : RpAll K H O xs ds) : Walk K (Itl K a) ds H O where
  go := fun i H1 O1 k hi => by
    obtain ⟨d, hd⟩ : ∃ d, ds[i]? = some d := ⟨ds[i], List.getElem?_eq_getElem hi⟩
    obtain ⟨x, hx, _⟩ := r.get hd
    exact ⟨xs, x, .inl (.inl (k.keep _ _ h n).1), hx⟩
  stop := fun i H1 O1 k hi => ⟨xs, .inl (.inl (k.keep _ _ h n).1), by rw [r.length]; exact hi⟩
  yld := fun i H1 O1 x H' k dm hi y => by
    obtain ⟨e, y⟩ := y
    subst e
    obtain ⟨d, hd⟩ : ∃ d, ds[i]? = some d := ⟨ds[i], List.getElem?_eq_getElem hi⟩
    obtain ⟨x', hx, rp⟩ := r.get hd
    have := y xs (.inl (.inl (k.keep _ _ h n).1))
    rw [hx] at this
    cases this
    exact ⟨d, hd, .refl, rp.keep k⟩
theorem walk_tup (h : SqT K H a xs) (r : RpAll K H O xs ds) : Walk K (Itt K a) ds H O where
  go := fun i H1 O1 k hi => by
    obtain ⟨d, hd⟩ : ∃ d, ds[i]? = some d := ⟨ds[i], List.getElem?_eq_getElem hi⟩
    obtain ⟨x, hx, _⟩ := r.get hd
    exact ⟨xs, x, k.seqT h, hx⟩
  stop := fun i H1 O1 k hi => ⟨xs, k.seqT h, by rw [r.length]; exact hi⟩
  yld := fun i H1 O1 x H' k dm hi y => by
    obtain ⟨e, y⟩ := y
    subst e
    obtain ⟨d, hd⟩ : ∃ d, ds[i]? = some d := ⟨ds[i], List.getElem?_eq_getElem hi⟩
    obtain ⟨x', hx, rp⟩ := r.get hd
    have := y xs (k.seqT h)
    rw [hx] at this
    cases this
    exact ⟨d, hd, .refl, rp.keep k⟩
end
theorem si_seq {X : Cx} {W : WX} {tg l : Expr} {tl : TE} {f : ME} (hl : SE X W l tl f) : SI X W tg l (iSeq X.K tl) (mSeqI f) := by
  refine ⟨pi_seq hl.p, fun ρ σ H O R Rl h => hl.s ρ σ H O _ Rl ?_⟩
  unfold mSeqI at h
  cases e : f ρ with
  | exc x ρ1 => rw [e] at h; exact h
  | bad => rw [e] at h; exact h
  | ok r ρ1 =>
    rw [e] at h
    simp only [RE.bind] at h
    obtain ⟨⟨d, ρ2⟩, ek, h⟩ := h.opt
    obtain ⟨l, el, h⟩ := h.opt
    intro v H1 O1 R1 F1 o1
    obtain ⟨O2, R2, F2, rp⟩ := ORel.kept o1 Rl F1 R1 ek
    cases d with
    | list ds =>
      cases el
      cases rp with
      | lst q n r => exact ⟨_, rfl, .inl ⟨⟨_, .inl (.inl q)⟩, h _ H1 O2 R2 F2 (walk_list q n r)⟩⟩
    | tuple ds =>
      cases el
      cases rp with
      | tup q r => exact ⟨_, rfl, .inr ⟨⟨_, .inl (.inl q)⟩, h _ H1 O2 R2 F2 (walk_tup (.inl (.inl q)) r)⟩⟩
    | _ => cases el
/-- lo, lo + 1, .. -/
def upto (lo : Int) (n : Nat) : List PyData := (List.range n).map fun i => .int (lo + (i : Nat))
theorem walk_range {K : Fg} {H : Hp} {O : Ow} (lo : Int) (n : Nat) : Walk K (Itr lo n) (upto lo n) H O where
  go := fun i H1 O1 k hi => by
    have : i < n := by simpa [upto] using hi
    exact this
  stop := fun i H1 O1 k hi => by
    have : n ≤ i := by simpa [upto] using hi
    exact this
  yld := fun i H1 O1 x H' k dm hi y => by
    have : i < n := by simpa [upto] using hi
    obtain ⟨e, rfl⟩ := y
    subst e
    exact ⟨.int (lo + (i : Nat)), by simp [upto, this], .refl, .int _⟩
def mRng1 (g : MA) : Fr → RE (List PyData) := fun ρ => (g ρ).bind fun ds ρ1 => match ds with
  | [.int j] => if -(2 ^ 62) ≤ j ∧ j < 2 ^ 62 then .ok (upto 0 j.toNat) ρ1 else .bad
  | _ => .bad
def mRng2 (g : MA) : Fr → RE (List PyData) := fun ρ => (g ρ).bind fun ds ρ1 => match ds with
  | [.int i, .int j] => if -(2 ^ 62) ≤ i ∧ i < 2 ^ 62 ∧ -(2 ^ 62) ≤ j ∧ j < 2 ^ 62 then .ok (upto i (j - i).toNat) ρ1 else .bad
  | _ => .bad
section
variable {X : Cx} {W : WX} {tg a b : Expr} {ta : TA} {g : MA} {p pos : Pos}
theorem si_range1 (hg : Gl X "range") (hm : X.mg "range" = none) (hs : starEach [a] X.env = [(false, eval a X.env)]) (ha : SA X W [a] ta g) : SI X W tg (.Call (.Name "range" p) [a] [] pos) (iRng1 ta) (mRng1 g) := by
  refine ⟨pi_range1 hg hm ha.p hs, fun ρ σ H O R Rl h => ha.s ρ σ H O _ Rl (Want.bind h fun ds ρ1 vs H1 O1 e1 R1 F1 o1 h1 => ?_)⟩
  have o1 : RpAll X.K H1 O1 vs ds := o1
  cases o1 with
  | nil => exact h1.elim
  | cons r q =>
    cases q with
    | cons _ _ => cases r <;> exact h1.elim
    | nil =>
      cases r with
      | int j =>
        have h1 : Want orI X.K X.mg W (if -(2 ^ 62) ≤ j ∧ j < 2 ^ 62 then .ok (upto 0 j.toNat) ρ1 else .bad) ρ1 σ H1 O1 R := h1
        by_cases hb : -(2 ^ 62) ≤ j ∧ j < 2 ^ 62
        · rw [if_pos hb] at h1
          exact ⟨j, rfl, hb.1, hb.2, h1 _ H1 O1 R1 .refl (walk_range _ _)⟩
        · rw [if_neg hb] at h1; exact h1.elim
      | _ => exact h1.elim
theorem si_range2 (hg : Gl X "range") (hm : X.mg "range" = none) (hs : starEach [a, b] X.env = [(false, eval a X.env), (false, eval b X.env)]) (hs2 : starEach [b] X.env = [(false, eval b X.env)]) (ha : SA X W [a, b] ta g) :
    SI X W tg (.Call (.Name "range" p) [a, b] [] pos) (iRng2 ta) (mRng2 g) := by
  refine ⟨pi_range2 hg hm ha.p hs hs2, fun ρ σ H O R Rl h => ha.s ρ σ H O _ Rl (Want.bind h fun ds ρ1 vs H1 O1 e1 R1 F1 o1 h1 => ?_)⟩
  have o1 : RpAll X.K H1 O1 vs ds := o1
  cases o1 with
  | nil => exact h1.elim
  | cons r q =>
    cases q with
    | nil => cases r <;> exact h1.elim
    | cons r2 q =>
      cases q with
      | cons _ _ => cases r <;> first | exact h1.elim | (cases r2 <;> exact h1.elim)
      | nil =>
        cases r with
        | int i =>
          cases r2 with
          | int j =>
            have h1 : Want orI X.K X.mg W (if -(2 ^ 62) ≤ i ∧ i < 2 ^ 62 ∧ -(2 ^ 62) ≤ j ∧ j < 2 ^ 62 then .ok (upto i (j - i).toNat) ρ1 else .bad) ρ1 σ H1 O1 R := h1
            by_cases hb : -(2 ^ 62) ≤ i ∧ i < 2 ^ 62 ∧ -(2 ^ 62) ≤ j ∧ j < 2 ^ 62
            · rw [if_pos hb] at h1
              exact ⟨i, j, rfl, hb, h1 _ H1 O1 R1 .refl (walk_range _ _)⟩
            · rw [if_neg hb] at h1; exact h1.elim
          | _ => exact h1.elim
        | _ => exact h1.elim
end

/-! ### targets -/
/-- is: the slots that it stores -/
def TGts (K : Fg) (is : List Nat) (t : TG) (g : PyData → Fr → Option Fr) : Prop := ∀ (n : En) (v : V) d ρ ρ' σ H O (Q : L2.St → Hp → Prop), (∀ i ∈ is, i ∉ n.P) → Rel K ρ σ H O → Bs n ρ σ H O → Rp K H O v d → g d ρ = some ρ' →
  (∀ σ', Rel K ρ' σ' H O → Bs n ρ' σ' H O → (∀ vs : List Nat, (∀ i ∈ is, i ∈ vs) → wipe σ' vs = wipe σ vs) → (∀ (i : Nat) d, ρ'[i]? = some (.own d) → ρ[i]? = some (.own d) ∧ σ'[i]? = σ[i]?) → Q σ' H) → t v σ H Q
structure SG (X : Cx) (tg : Expr) (is : List Nat) (t : TG) (g : PyData → Fr → Option Fr) : Prop where
  p : PG X tg t
  s : TGts X.K is t g
def TGss (K : Fg) (is : List Nat) (t : TGs) (g : List PyData → Fr → Option Fr) : Prop := ∀ (n : En) (vs : List V) ds ρ ρ' σ H O (Q : L2.St → Hp → Prop), (∀ i ∈ is, i ∉ n.P) → Rel K ρ σ H O → Bs n ρ σ H O → RpAll K H O vs ds → g ds ρ = some ρ' →
  (∀ σ', Rel K ρ' σ' H O → Bs n ρ' σ' H O → (∀ vs : List Nat, (∀ i ∈ is, i ∈ vs) → wipe σ' vs = wipe σ vs) → (∀ (i : Nat) d, ρ'[i]? = some (.own d) → ρ[i]? = some (.own d) ∧ σ'[i]? = σ[i]?) → Q σ' H) → t vs σ H Q
structure SGs (X : Cx) (tgs : List Expr) (is : List Nat) (t : TGs) (g : List PyData → Fr → Option Fr) : Prop where
  p : PGs X tgs t
  s : TGss X.K is t g
def gtName (i : Nat) : PyData → Fr → Option Fr := fun d ρ => some (ρ.set i (.val d))
def gtNil : List PyData → Fr → Option Fr
  | [], ρ => some ρ
  | _ :: _, _ => none
def gtCons (g : PyData → Fr → Option Fr) (h : List PyData → Fr → Option Fr) : List PyData → Fr → Option Fr
  | [], _ => none
  | d :: ds, ρ => (g d ρ).bind fun ρ1 => h ds ρ1
def gtTup (k : Nat) (h : List PyData → Fr → Option Fr) : PyData → Fr → Option Fr
  | .tuple ds, ρ => if ds.length = k then h ds ρ else none
  | _, _ => none
section
variable {X : Cx} {pos : Pos}
theorem set_val {K : Fg} {n : En} {i : Nat} {v : V} {d : PyData} {ρ : Fr} {σ : L2.St} {H : Hp} {O : Ow} (ip : i ∉ n.P) (R : Rel K ρ σ H O) (B : Bs n ρ σ H O) (r : Rp K H O v d) :
    Rel K (ρ.set i (.val d)) (σ.set i (some v)) H O ∧ Bs n (ρ.set i (.val d)) (σ.set i (some v)) H O ∧ ∀ (j : Nat) x, (ρ.set i (.val d))[j]? = some (.own x) → ρ[j]? = some (.own x) ∧ (σ.set i (some v))[j]? = σ[j]? := by
  have own : ∀ (j : Nat) x, (ρ.set i (.val d))[j]? = some (.own x) → ρ[j]? = some (.own x) ∧ (σ.set i (some v))[j]? = σ[j]? := fun j x h => by
    rcases getElem?_set_cases h with ⟨_, _, z⟩ | ⟨ne, h⟩
    · cases z
    · exact ⟨h, List.getElem?_set_ne ne⟩
  refine ⟨⟨by rw [List.length_set, List.length_set]; exact R.len, fun j s e => ?_, fun j k a d1 d2 h1 h2 h3 h4 => ?_, R.dom⟩, ⟨B.keep, B.dom, B.tups, B.frzs, fun j x a h1 h2 => ?_, fun j a h => ?_⟩, own⟩
  · rcases getElem?_set_cases e with ⟨rfl, l, rfl⟩ | ⟨ne, e⟩
    · rw [List.getElem?_set_self (by rw [← R.len]; exact l)]; exact ⟨v, rfl, r⟩
    · rw [List.getElem?_set_ne ne]; exact R.slot j s e
  · obtain ⟨q1, q2⟩ := own j d1 h1
    obtain ⟨q3, q4⟩ := own k d2 h2
    rw [q2] at h3
    rw [q4] at h4
    exact R.uniq j k a d1 d2 q1 q3 h3 h4
  · obtain ⟨q1, q2⟩ := own j x h1
    rw [q2] at h2
    exact B.own j x a q1 h2
  · obtain ⟨q1, q2⟩ := B.pin j a h
    have ne : i ≠ j := fun z => ip (by rw [z]; exact q2)
    exact ⟨by rw [List.getElem?_set_ne ne]; exact q1, q2⟩
theorem sg_name {i : Nat} {x : Str} (hN : X.N.Nodup) (hi : X.N[i]? = some x) (hx : Loc X.env.scope x) (hf : X.fn x = true ∨ X.env.scope.names.lookup x = some .local) : SG X (.Name x pos) [i] (gName i) (gtName i) := by
  refine ⟨pg_name hN hi hx hf, fun n v d ρ ρ' σ H O Q ip R B r e q => ?_⟩
  cases e
  obtain ⟨R', B', own⟩ := set_val (ip i (by simp)) R B r
  exact q _ R' B' (fun vs hv => wipe_set (hv i (by simp))) own
theorem sgs_nil : SGs X [] [] gNil gtNil := by
  refine ⟨pgs_nil, fun n vs ds ρ ρ' σ H O Q ip R B r e q => ?_⟩
  cases r with
  | nil => cases e; exact ⟨rfl, q σ R B (fun _ _ => rfl) fun _ _ h => ⟨h, rfl⟩⟩
  | cons _ _ => cases e
theorem sgs_cons {e : Expr} {es : List Expr} {is js : List Nat} {t : TG} {u : TGs} {g : PyData → Fr → Option Fr} {h : List PyData → Fr → Option Fr} (hs : (assignEach (e :: es) X.env).map (·.2) = assign e X.env :: (assignEach es X.env).map (·.2)) (h1 : SG X e is t g) (h2 : SGs X es js u h) :
    SGs X (e :: es) (is ++ js) (gCons t u) (gtCons g h) := by
  refine ⟨pgs_cons h1.p h2.p hs, fun n vs ds ρ ρ' σ H O Q ip R B r e q => ?_⟩
  cases r with
  | nil => cases e
  | cons r1 r2 =>
    have e' : ((g _ ρ).bind fun ρ1 => h _ ρ1) = some ρ' := e
    cases e1 : g _ ρ with
    | none => rw [e1] at e'; cases e'
    | some ρ1 =>
      rw [e1] at e'
      refine ⟨_, _, rfl, h1.s n _ _ ρ ρ1 σ H O _ (fun i hi => ip i (by simp [hi])) R B r1 e1 fun σ1 R1 B1 w1 o1 => ?_⟩
      refine h2.s n _ _ ρ1 ρ' σ1 H O Q (fun i hi => ip i (by simp [hi])) R1 B1 r2 e' fun σ2 R2 B2 w2 o2 => q σ2 R2 B2 (fun vs hv => ?_) fun i d hd => ?_
      · rw [w2 vs fun i hi => hv i (by simp [hi]), w1 vs fun i hi => hv i (by simp [hi])]
      · obtain ⟨z1, z2⟩ := o2 i d hd
        obtain ⟨z3, z4⟩ := o1 i d z1
        exact ⟨z3, z2.trans z4⟩
theorem sg_tup {es : List Expr} {k : Nat} {is : List Nat} {t : TGs} {m : Nat} {g : List PyData → Fr → Option Fr} (hc : X.calm = true) (hn : (assignEach es X.env).length = m) (hst : (assignEach es X.env).findIdx? (·.1) = none) (h : SGs X es is t g) : SG X (.Tuple es k pos) is (gTup X.K m t) (gtTup m g) := by
  refine ⟨pg_tup hc h.p hn hst, fun n v d ρ ρ' σ H O Q ip R B r e q => ?_⟩
  cases r with
  | @tup a xs ds hq ra =>
    have e : (if ds.length = m then g ds ρ else none) = some ρ' := e
    by_cases hl : ds.length = m
    · rw [if_pos hl] at e
      exact ⟨_, _, rfl, (.inl (.inl hq)), by rw [ra.length]; exact hl, h.s n _ _ ρ ρ' σ H O Q ip R B ra e q⟩
    · rw [if_neg hl] at e; cases e
  | _ => cases e
end

/-! ### for -/
def forL (gt : PyData → Fr → Option Fr) (body : MS) (kl : List Nat) : List PyData → Fr → Out
  | [], ρ => .nx ρ
  | d :: ds, ρ => match gt d ρ with
    | none => .bad
    | some ρ1 => match body ρ1 with
      | .nx ρ2 => forL gt body kl ds (kill ρ2 kl)
      | .ct ρ2 => forL gt body kl ds (kill ρ2 kl)
      | .bk ρ2 => .nx (kill ρ2 kl)
      | .rt f d ρ2 => .rt f d ρ2
      | .exc x ρ2 => .exc x ρ2
      | .bad => .bad
def mFor (fi : Fr → RE (List PyData)) (gt : PyData → Fr → Option Fr) (body : MS) (kl : List Nat) : MS := fun ρ => RE.out (fi ρ) fun ds ρ1 => forL gt body kl ds (kill ρ1 kl)
section
variable {X : Cx} {W : WX} {P : List Nat} {tg iter : Expr} {body : List Stmt} {wi : TI} {g : TG} {tb : TS} {pos : Pos} {fi : Fr → RE (List PyData)} {gt : PyData → Fr → Option Fr} {fb : MS} {is : List Nat}
theorem ss_for (kl : List Nat) (hp : PassesOwn (model X.prog X.w) X.A X.env X.xe) (hc : X.calm = true) (hs : ∀ x, foldedSetIterable iter X.env x = pure x) (ip : ∀ i ∈ is, i ∉ P) (hi : SI X W tg iter wi fi) (hg : SG X tg is g gt) (hb : SSs X W P body tb fb) :
    SS X W P (.For tg iter body [] pos) (tFor wi g tb) (mFor fi gt fb kl) := by
  refine ⟨ps_for hp hc hi.p hg.p hb.p hs, fun n hn ρ σ H O D R B w => hi.s ρ σ H O _ R (w.ev R B fun ds ρ1 J H1 O1 e1 R1 B1 F1 o1 w1 => ?_)⟩
  have o1 : Walk X.K J ds H1 O1 := o1
  refine ⟨fun i m σ H => m = ds.length - i ∧ i ≤ ds.length ∧ ∃ ρ O, Rel X.K ρ σ H O ∧ Bs n ρ σ H O ∧ Kp H1 O1 H O ∧ WantS X.K X.mg W n H O (forL gt fb kl (ds.drop i) ρ) D,
    ⟨ds.length, rfl, Nat.zero_le _, kill ρ1 kl, O1, R1.kill kl, B1.kill kl, .refl, w1⟩, ?_⟩
  rintro i m σ2 H2 ⟨rfl, hi2, ρ2, O2, R2, B2, k2, w2⟩
  by_cases hlt : i < ds.length
  · refine .inr ⟨o1.go i H2 O2 k2 hlt, fun σ' H' => ∃ ρ' O', Rel X.K ρ' σ' H' O' ∧ Bs n ρ' σ' H' O' ∧ Kp H1 O1 H' O' ∧ WantS X.K X.mg W n H' O' (forL gt fb kl (ds.drop (i + 1)) ρ') D,
      fun σ' H' q => ⟨ds.length - (i + 1), by omega, rfl, hlt, q⟩, fun x H' y => ?_⟩
    obtain ⟨d, ed, gr, rp⟩ := o1.yld i H2 O2 x H' k2 R2.dom hlt y
    have edr : ds.drop i = d :: ds.drop (i + 1) := by
      rw [List.drop_eq_getElem_cons hlt]
      rw [List.getElem?_eq_getElem hlt] at ed
      cases ed; rfl
    rw [edr] at w2
    unfold forL at w2
    cases eg : gt d ρ2 with
    | none => simp only [eg] at w2; exact w2.elim
    | some ρ3 =>
      simp only [eg] at w2
      refine hg.s n x d ρ2 ρ3 σ2 H' O2 _ (fun i hi => by rw [hn]; exact ip i hi) (gr.rel R2) (B2.frm gr.frm) rp eg fun σ3 R3 B3 _ _ => ?_
      have k3 := k2.trans gr.kp
      refine hb.s n hn ρ3 σ3 H' O2 _ R3 B3 ?_
      have w3 := w2.from gr.kp
      cases eb : fb ρ3 with
      | nx ρ4 => rw [eb] at w3; exact fun σ4 H4 O4 R4 B4 k4 => ⟨kill ρ4 kl, O4, R4.kill kl, B4.kill kl, k3.trans k4, w3.from k4⟩
      | ct ρ4 => rw [eb] at w3; exact fun σ4 H4 O4 R4 B4 k4 => ⟨kill ρ4 kl, O4, R4.kill kl, B4.kill kl, k3.trans k4, w3.from k4⟩
      | bk ρ4 => rw [eb] at w3; exact fun σ4 H4 O4 R4 B4 k4 => w3 σ4 H4 O4 (R4.kill kl) (B4.kill kl) k4
      | rt f d ρ4 => rw [eb] at w3; exact w3
      | exc x ρ4 => rw [eb] at w3; exact w3
      | bad => rw [eb] at w3; exact w3
  · have e : i = ds.length := by omega
    subst e
    rw [List.drop_length] at w2
    exact .inl ⟨o1.stop _ H2 O2 k2 (Nat.le_refl _), w2 σ2 H2 O2 R2 B2 .refl⟩

/-! ### while -/
def whileN (c : MB) (body : MS) (kl : List Nat) : Nat → MS
  | 0 => fun _ => .bad
  | m + 1 => fun ρ => RE.out (c ρ) fun k ρ1 => if k = true then (match body ρ1 with
      | .nx ρ2 => whileN c body kl m (kill ρ2 kl)
      | .ct ρ2 => whileN c body kl m (kill ρ2 kl)
      | .bk ρ2 => .nx (kill ρ2 kl)
      | .rt f d ρ2 => .rt f d ρ2
      | .exc x ρ2 => .exc x ρ2
      | .bad => .bad) else .nx ρ1
theorem ss_while {c : Expr} {tc : TT} {fc : MB} (fuel : Nat) (kl : List Nat) (hp : PassesOwn (model X.prog X.w) X.A X.env X.xe) (hc : SB X W c tc fc) (hb : SSs X W P body tb fb) : SS X W P (.While c body [] pos) (tWhile tc tb) (whileN fc fb kl fuel) := by
  refine ⟨ps_while hp hc.p hb.p, fun n hn ρ σ H O D R B w => ?_⟩
  refine ⟨fun m σ H => ∃ ρ O, Rel X.K ρ σ H O ∧ Bs n ρ σ H O ∧ WantS X.K X.mg W n H O (whileN fc fb kl m ρ) D, ⟨fuel, ρ, O, R, B, w⟩, ?_⟩
  rintro m σ1 H1 ⟨ρ1, O1, R1, B1, w1⟩
  cases m with
  | zero => exact w1.elim
  | succ m =>
    unfold whileN at w1
    refine hc.s ρ1 σ1 H1 O1 _ R1 (w1.ev R1 B1 fun k ρ2 v H2 O2 e2 R2 B2 F2 o2 w2 => ?_)
    have o2 : k = v := o2
    subst o2
    cases k with
    | false => rw [if_neg (by decide)] at w2 ⊢; exact w2 σ1 H2 O2 R2 B2 .refl
    | true =>
      rw [if_pos rfl] at w2 ⊢
      refine ⟨fun σ' H' => ∃ ρ' O', Rel X.K ρ' σ' H' O' ∧ Bs n ρ' σ' H' O' ∧ WantS X.K X.mg W n H' O' (whileN fc fb kl m ρ') D, fun σ' H' q => ⟨m, Nat.lt_succ_self m, q⟩, hb.s n hn ρ2 σ1 H2 O2 _ R2 B2 ?_⟩
      cases eb : fb ρ2 with
      | nx ρ4 => rw [eb] at w2; exact fun σ4 H4 O4 R4 B4 k4 => ⟨kill ρ4 kl, O4, R4.kill kl, B4.kill kl, w2.from k4⟩
      | ct ρ4 => rw [eb] at w2; exact fun σ4 H4 O4 R4 B4 k4 => ⟨kill ρ4 kl, O4, R4.kill kl, B4.kill kl, w2.from k4⟩
      | bk ρ4 => rw [eb] at w2; exact fun σ4 H4 O4 R4 B4 k4 => w2 σ4 H4 O4 (R4.kill kl) (B4.kill kl) k4
      | rt f d ρ4 => rw [eb] at w2; exact w2
      | exc x ρ4 => rw [eb] at w2; exact w2
      | bad => rw [eb] at w2; exact w2
end
end L3
set_option Elab.async false
set_option linter.all false
set_option maxRecDepth 100000
set_option maxHeartbeats 4000000
set_option autoImplicit false
/-! L3F: list comprehensions. -/
namespace L3
open PySem PySem.Spec L2

def bare : En := ⟨[], [], fun _ => none, fun _ => False⟩
theorem bare_ok {ρ : Fr} {σ : L2.St} {H : Hp} {O : Ow} : Bs bare ρ σ H O :=
  ⟨(by intro a o h; cases h), fun a h => absurd rfl h, (by intro a xs h; cases h), (by intro a o u h; cases h), fun i d a _ _ => Or.inr rfl, (by intro j a h; cases h)⟩
/-- the wish in a block: no exception -/
abbrev W0 : WX := fun _ _ _ _ => False
def lcL (gt : PyData → Fr → Option Fr) (ft : MB) (fe : ME) (vs : List Nat) : List PyData → Fr → RE (List PyData)
  | [], ρ => .ok [] ρ
  | d :: ds, ρ => RE.opt (gt d ρ) fun ρ1 => (ft ρ1).bind fun k ρ2 => if k = true then (fe ρ2).bind fun r ρ3 => RE.opt (keepV r ρ3) fun q => (lcL gt ft fe vs ds (kill q.2 vs)).bind fun es ρ5 => .ok (q.1 :: es) ρ5
      else lcL gt ft fe vs ds (kill ρ2 vs)
def mLC (fi : Fr → RE (List PyData)) (gt : PyData → Fr → Option Fr) (ft : MB) (fe : ME) (vs : List Nat) : ME := fun ρ => (fi ρ).bind fun ds ρ1 => if ds.length ≤ sizeLine then (match lcL gt ft fe vs ds (kill ρ1 vs) with
  | .ok es ρ2 => .ok (.fresh (.list es)) ρ2
  | _ => .bad) else .bad
structure SPt (X : Cx) (W : WX) (ifs : List Expr) (t : TT) (f : MB) : Prop where
  p : PTs X ifs t
  s : TBs X.K X.mg W t f
def mYes : MB := fun ρ => .ok true ρ
theorem spt_nil {X : Cx} {W : WX} : SPt X W [] tYes mYes := ⟨pts_nil, fun ρ σ H O Q R h => h true H O R .refl rfl⟩
theorem spt_one {X : Cx} {W : WX} {c : Expr} {t : TT} {f : MB} (h : SB X W c t f) : SPt X W [c] t f := ⟨pts_one h.p, h.s⟩
section
variable {K : Fg} {ρ ρ1 : Fr} {σ : L2.St} {H H1 : Hp} {O O1 : Ow}
/-- an object that nobody but a passing value owns is changed -/
theorem Rel.updOwn {a : Addr} {o o' : HO} (R : Rel K ρ σ H O) (oa : O a) (ha : H a = some o) (nt : ∀ xs, o ≠ .tup xs) (nf : ∀ ob u, o ≠ .frz ob u) (ns : ¬ SlotOwn ρ σ a) : Rel K ρ σ (upd H a o') O ∧ Kp H O (upd H a o') O := by
  have kp : Kp H O (upd H a o') O := ⟨fun b u h n => ⟨by rw [upd_ne (fun z => n (by rw [z]; exact oa))]; exact h, n⟩,
    fun b xs h => by rw [upd_ne (fun z => nt xs (by rw [z, ha] at h; cases h; rfl))]; exact h, fun b ob u h => by rw [upd_ne (fun z => nf ob u (by rw [z, ha] at h; cases h; rfl))]; exact h⟩
  refine ⟨⟨R.len, fun i s e => ?_, R.uniq, fun b h => ?_⟩, kp⟩
  · have q := R.slot i s e
    cases s with
    | no => trivial
    | val x => obtain ⟨v, e1, r⟩ := q; exact ⟨v, e1, r.keep kp⟩
    | own x =>
      obtain ⟨b, e1, ob, w⟩ := q
      have ne : b ≠ a := fun z => ns ⟨i, x, e, by rw [e1, z]⟩
      exact ⟨b, e1, ob, w.keep kp fun o h => by rw [upd_ne ne]; exact h⟩
  · by_cases z : b = a
    · subst z; rw [upd_same]; intro y; cases y
    · rw [upd_ne z]; exact R.dom b h
end
/-- the reading of a comprehension -/
theorem lc_core' {K : Fg} {mg : Str → Option Value} {W : WX} {wi : TI} {g : TG} {tt : TT} {te : TE} {vs is : List Nat} {fi : Fr → RE (List PyData)} {gt : PyData → Fr → Option Fr} {ft : MB} {fe : ME}
    (hi : TIs K mg W wi fi) (hg : TGts K is g gt) (hv : ∀ i ∈ is, i ∈ vs) (ht : TBs K mg W0 tt ft) (he : TEs K mg W0 te fe) : TEs K mg W (tLc wi g tt te vs) (mLC fi gt ft fe vs) := by
  intro ρ σ H O Q R h
  refine hi ρ σ H O _ R (Want.bind h fun ds ρ1 J H1 O1 e1 R1 F1 o1 h1 => ?_)
  have o1 : Walk K J ds H1 O1 := o1
  by_cases hz : ds.length ≤ sizeLine
  · rw [if_pos hz] at h1
    cases el : lcL gt ft fe vs ds (kill ρ1 vs) with
    | exc x ρ2 => rw [el] at h1; exact h1.elim
    | bad => rw [el] at h1; exact h1.elim
    | ok es ρe =>
      rw [el] at h1
      intro Dd hD
      refine ⟨fun i m H => m = ds.length - i ∧ i ≤ ds.length ∧ ∃ ρ O acc done left, Rel K ρ (wipe σ vs) H O ∧ Frm (kill ρ1 vs) (wipe σ vs) H1 O1 ρ H O ∧ H Dd = some (.lst acc) ∧ RpAll K H O acc done ∧ O Dd ∧
        lcL gt ft fe vs (ds.drop i) ρ = .ok left ρe ∧ done ++ left = es ∧ acc.length ≤ i ∧ kill ρ vs = ρ,
        ⟨ds.length, rfl, Nat.zero_le _, kill ρ1 vs, Own1 O1 Dd, [], [], es, (R1.killW vs).newOwn hD, Frm.newOwn hD, upd_same, .nil, .inr rfl, el, rfl, Nat.le_refl _, kill_kill _ _⟩, ?_⟩
      rintro i m H2 ⟨rfl, hi2, ρ2, O2, acc, done, left, R2, F2, hDd, ra, oD, e2, ed, la, hk⟩
      have notSl : ∀ {ρ' : Fr} {σ' : L2.St}, (∀ (i : Nat) d, ρ'[i]? = some (.own d) → (∃ e, (kill ρ1 vs)[i]? = some (.own e)) ∧ σ'[i]? = (wipe σ vs)[i]?) → ¬ SlotOwn ρ' σ' Dd := fun {ρ' σ'} hs ⟨j, d, q1, q2⟩ => by
        obtain ⟨⟨e, q3⟩, q4⟩ := hs j d q1
        rw [q4] at q2
        obtain ⟨_, o, ho, _⟩ := (R1.killW vs).owned ⟨j, e, q3, q2⟩
        rw [hD] at ho; cases ho
      by_cases hlt : i < ds.length
      · refine .inr ⟨o1.go i H2 O2 (F2.kp (R1.killW vs)) hlt, fun H' => ∃ ρ O acc done left, Rel K ρ (wipe σ vs) H' O ∧ Frm (kill ρ1 vs) (wipe σ vs) H1 O1 ρ H' O ∧ H' Dd = some (.lst acc) ∧ RpAll K H' O acc done ∧ O Dd ∧
          lcL gt ft fe vs (ds.drop (i + 1)) ρ = .ok left ρe ∧ done ++ left = es ∧ acc.length ≤ i + 1 ∧ kill ρ vs = ρ, fun H' q => ⟨ds.length - (i + 1), by omega, rfl, hlt, q⟩, fun x H' y => ?_⟩
        obtain ⟨d, edd, gr, rp⟩ := o1.yld i H2 O2 x H' (F2.kp (R1.killW vs)) R2.dom hlt y
        have edr : ds.drop i = d :: ds.drop (i + 1) := by
          rw [List.drop_eq_getElem_cons hlt]
          rw [List.getElem?_eq_getElem hlt] at edd
          cases edd; rfl
        rw [edr] at e2
        unfold lcL at e2
        cases eg : gt d ρ2 with
        | none => rw [eg] at e2; cases e2
        | some ρ3 =>
          rw [eg] at e2
          simp only [RE.opt] at e2
          refine hg bare x d ρ2 ρ3 (wipe σ vs) H' O2 _ (fun i _ q => nomatch q) (gr.rel R2) bare_ok rp eg fun σ3 R3 _ w3 own3 => ⟨(w3 vs hv).trans wipe_wipe, ?_⟩
          -- the frame as from the start, along the slots that own
          have own3' : ∀ (i : Nat) d, ρ3[i]? = some (.own d) → (∃ e, (kill ρ1 vs)[i]? = some (.own e)) ∧ σ3[i]? = (wipe σ vs)[i]? := fun j x h => by
            obtain ⟨q1, q2⟩ := own3 j x h
            exact ⟨F2.sub j x q1, q2⟩
          have FH : Frm (kill ρ1 vs) (wipe σ vs) H1 O1 ρ2 H' O2 := F2.trans gr.frm
          cases et : ft ρ3 with
          | exc x ρ4 => rw [et] at e2; cases e2
          | bad => rw [et] at e2; cases e2
          | ok k ρ4 =>
            rw [et] at e2
            simp only [RE.bind] at e2
            refine ht ρ3 σ3 H' O2 _ R3 ?_
            rw [et]
            intro b H4 O4 R4 F4 ob
            have ob : k = b := ob
            subst ob
            -- what a frame along σ3 keeps
            have lift : ∀ {ρ5 : Fr} {H5 : Hp} {O5 : Ow}, Frm ρ3 σ3 H' O2 ρ5 H5 O5 → Frm (kill ρ1 vs) (wipe σ vs) H1 O1 (kill ρ5 vs) H5 O5 := fun {ρ5 H5 O5} F => by
              refine ⟨fun a o h hn => ?_, fun a h => F.dom a (FH.dom a h), fun j x h => ?_, fun a xs h => F.tups a xs (FH.tups a xs h), fun a o u h => F.frzs a o u (FH.frzs a o u h)⟩
              · obtain ⟨h2, i2⟩ := FH.keep a o h hn
                obtain ⟨h3, i3⟩ := F.keep a o h2 fun ⟨j, x, q1, q2⟩ => by
                  obtain ⟨⟨e, q3⟩, q4⟩ := own3' j x q1
                  exact hn ⟨j, e, q3, by rw [← q4]; exact q2⟩
                exact ⟨h3, i3.trans i2⟩
              · rcases kill_get h with z | ⟨h, _⟩
                · cases z
                · obtain ⟨e, q⟩ := F.sub j x h
                  exact (own3' j e q).1
            have hD2 : H' Dd = some (.lst acc) := (gr.keep _ _ hDd).1
            have nsl3 : ¬ SlotOwn ρ3 σ3 Dd := notSl own3'
            have ra2 : RpAll K H' O2 acc done := ra.keep gr.kp
            cases k with
            | false =>
              rw [if_neg (by decide)] at e2 ⊢
              have kp4 : Kp H' O2 H4 O4 := F4.kp R3
              refine ⟨kill ρ4 vs, O4, acc, done, left, ?_, lift F4, (F4.keep _ _ hD2 nsl3).1, ra2.keep kp4, ((F4.keep _ _ hD2 nsl3).2).mpr oD, e2, ed, Nat.le_succ_of_le la, kill_kill _ _⟩
              have := R4.killW vs
              rw [w3 vs hv, wipe_wipe] at this
              exact this
            | true =>
              rw [if_pos rfl] at e2 ⊢
              cases ee : fe ρ4 with
              | exc x ρ5 => rw [ee] at e2; cases e2
              | bad => rw [ee] at e2; cases e2
              | ok r ρ5 =>
                rw [ee] at e2
                simp only at e2
                cases ek : keepV r ρ5 with
                | none => rw [ek] at e2; cases e2
                | some q =>
                  obtain ⟨ev, ρ6⟩ := q
                  rw [ek] at e2
                  simp only at e2
                  cases el2 : lcL gt ft fe vs (ds.drop (i + 1)) (kill ρ6 vs) with
                  | exc x ρ7 => rw [el2] at e2; cases e2
                  | bad => rw [el2] at e2; cases e2
                  | ok es2 ρ7 =>
                    rw [el2] at e2
                    simp only at e2
                    cases e2
                    refine he ρ4 σ3 H4 O4 _ R4 ?_
                    rw [ee]
                    intro yv H5 O5 R5 F5 o5
                    obtain ⟨O6, R6, F6, rp6⟩ := ORel.kept o5 R4 F5 R5 ek
                    have F46 := F4.trans F6
                    have hD6 : H5 Dd = some (.lst acc) ∧ (O6 Dd ↔ O2 Dd) := F46.keep _ _ hD2 nsl3
                    have oD6 := hD6.2.mpr oD
                    have nsl6 : ¬ SlotOwn (kill ρ6 vs) (wipe σ vs) Dd := fun ⟨j, x, q1, q2⟩ => by
                      obtain ⟨e, q3⟩ := (lift F46).sub j x q1
                      obtain ⟨_, o, ho, _⟩ := (R1.killW vs).owned ⟨j, e, q3, q2⟩
                      rw [hD] at ho; cases ho
                    have R6k : Rel K (kill ρ6 vs) (wipe σ vs) H5 O6 := by
                      have := R6.killW vs
                      rw [w3 vs hv, wipe_wipe] at this
                      exact this
                    have hw : acc.length < sizeLine := Nat.lt_of_le_of_lt la (Nat.lt_of_lt_of_le hlt hz)
                    refine ⟨acc, hD6.1, hw, ?_⟩
                    obtain ⟨R7, k7⟩ := R6k.updOwn (o' := .lst (acc ++ [yv])) oD6 hD6.1 (fun _ z => nomatch z) (fun _ _ z => nomatch z) nsl6
                    have ra6 : RpAll K H5 O6 acc done := ra2.keep (F46.kp R3)
                    refine ⟨kill ρ6 vs, O6, acc ++ [yv], done ++ [ev], es2, R7, ?_, upd_same, (ra6.keep k7).append (.cons (rp6.keep k7) .nil), oD6, el2, by rw [← ed]; simp, by rw [List.length_append]; exact Nat.add_le_add_right la 1, kill_kill _ _⟩
                    have FL := lift F46
                    refine ⟨fun a o h hn => ?_, fun a h => ?_, FL.sub, fun a xs h => ?_, fun a o u h => ?_⟩
                    · rw [upd_ne (ne_of_none h hD)]; exact FL.keep a o h hn
                    · by_cases z : a = Dd
                      · subst z; rw [upd_same]; intro y; cases y
                      · rw [upd_ne z]; exact FL.dom a h
                    · rw [upd_ne (ne_of_none h hD)]; exact FL.tups a xs h
                    · rw [upd_ne (ne_of_none h hD)]; exact FL.frzs a o u h
      · have e : i = ds.length := by omega
        subst e
        rw [List.drop_length] at e2
        unfold lcL at e2
        cases e2
        rw [List.append_nil] at ed
        subst ed
        refine .inl ⟨o1.stop _ H2 O2 (F2.kp (R1.killW vs)) (Nat.le_refl _), ?_⟩
        refine h1 _ H2 O2 (R2.unwipe hk) ⟨fun a o q hn => F2.keep a o q fun ⟨j, d, q1, q2⟩ => ?_, F2.dom, fun j d q => ?_, F2.tups, F2.frzs⟩ ⟨Dd, rfl, hD, oD, acc, hDd, ra⟩
        · rcases kill_get q1 with z | ⟨q1, nj⟩
          · cases z
          · rw [wipe_out' nj] at q2
            exact hn ⟨j, d, q1, q2⟩
        · obtain ⟨e, q1⟩ := F2.sub j d q
          rcases kill_get q1 with z | ⟨q1, _⟩
          · cases z
          · exact ⟨e, q1⟩
  · rw [if_neg hz] at h1; exact h1.elim
section
variable {X : Cx} {W : WX} {P : List Nat} {elt tg iter : Expr} {ifs : List Expr} {scope : Scope} {own : List (Str × Nat)} {pos spos py : Pos} {wi : TI} {g : TG} {tt : TT} {te : TE} {is : List Nat} {fi : Fr → RE (List PyData)} {gt : PyData → Fr → Option Fr} {ft : MB} {fe : ME}
theorem se_lc (own : List (Str × Nat)) (hc : X.calm = true) (hN : X.N.Nodup) (hs : ∀ x, foldedSetIterable iter X.env x = pure x) (ok : BlkOk X.N X.env.scope scope own) (hv : ∀ i ∈ is, i ∈ own.map (·.2)) (hi : SI X W tg iter wi fi)
    (hg : ∀ (s : Shared) (H : Hp) (C : Addr) (cl : List (Str × Addr)) (fp : List Addr), SG (X.blk s H scope (compEnvC scope cl C X.env) fp) tg is g gt)
    (ht : ∀ (s : Shared) (H : Hp) (C : Addr) (cl : List (Str × Addr)) (fp : List Addr), SPt (X.blk s H scope (compEnvC scope cl C X.env) fp) W0 ifs tt ft)
    (he : ∀ (s : Shared) (H : Hp) (C : Addr) (cl : List (Str × Addr)) (fp : List Addr), SE (X.blk s H scope (compEnvC scope cl C X.env) fp) W0 elt te fe) :
    SE X W (.ListComp elt [⟨tg, iter, ifs, 0⟩] scope pos) (tLc wi g tt te (own.map (·.2))) (mLC fi gt ft fe (own.map (·.2))) :=
  ⟨pe_lc hc hN hi.p ok (fun s H C cl fp => (hg s H C cl fp).p) (fun s H C cl fp => (ht s H C cl fp).p) (fun s H C cl fp => (he s H C cl fp).p) hs,
    lc_core' hi.s (hg X.s_0 X.H_0 0 [] []).s hv (ht X.s_0 X.H_0 0 [] []).s (he X.s_0 X.H_0 0 [] []).s⟩
theorem ss_setLc {i : Nat} {y : Str} (own : List (Str × Nat)) (ip : i ∉ P) (hc : X.calm = true) (hN : X.N.Nodup) (hy : X.N[i]? = some y) (hyl : X.env.scope.names.lookup y = some .local)
    (hsw : swapsWith (.ListComp elt [⟨tg, iter, ifs, 0⟩] scope pos) (some (.Name y py)) spos.line X.env = pure true) (hs : ∀ x, foldedSetIterable iter X.env x = pure x) (ok : BlkOk X.N X.env.scope scope own) (hv : ∀ i ∈ is, i ∈ own.map (·.2)) (hi : SI X W tg iter wi fi)
    (hg : ∀ (s : Shared) (H : Hp) (C : Addr) (cl : List (Str × Addr)) (fp : List Addr), SG (X.blk s H scope (compEnvC scope cl C X.env) fp) tg is g gt)
    (ht : ∀ (s : Shared) (H : Hp) (C : Addr) (cl : List (Str × Addr)) (fp : List Addr), SPt (X.blk s H scope (compEnvC scope cl C X.env) fp) W0 ifs tt ft)
    (he : ∀ (s : Shared) (H : Hp) (C : Addr) (cl : List (Str × Addr)) (fp : List Addr), SE (X.blk s H scope (compEnvC scope cl C X.env) fp) W0 elt te fe) :
    SS X W P (.Assign [.Name y py] (.ListComp elt [⟨tg, iter, ifs, 0⟩] scope pos) spos) (tAsg (tLc wi g tt te (own.map (·.2))) (gName i)) (mSet i (mLC fi gt ft fe (own.map (·.2)))) :=
  ⟨ps_setLc hc hN hy hyl hsw hi.p ok (fun s H C cl fp => (hg s H C cl fp).p) (fun s H C cl fp => (ht s H C cl fp).p) (fun s H C cl fp => (he s H C cl fp).p) hs,
    set_core ip (lc_core' hi.s (hg X.s_0 X.H_0 0 [] []).s hv (ht X.s_0 X.H_0 0 [] []).s (he X.s_0 X.H_0 0 [] []).s)⟩
end
end L3
set_option Elab.async false
set_option linter.all false
set_option maxRecDepth 100000
set_option maxHeartbeats 4000000
set_option autoImplicit false
/-! L3G: defs as functions of their arguments; calls. -/
namespace L3
open PySem PySem.Spec L2

/-! ### arguments -/
inductive Arg where
  | val (d : PyData)
  | place (i : Nat)
abbrev MAr := Fr → RE (List Arg)
def places : List Arg → List Nat
  | [] => []
  | .val _ :: r => places r
  | .place i :: r => i :: places r
def orAr : ORs (List Arg) (List V) where
  r := fun K ρ σ H0 H O as vs => as.length = vs.length ∧ ∀ (j : Nat) a v, as[j]? = some a → vs[j]? = some v → match a with
    | .val d => Rp K H O v d
    | .place i => σ[i]? = some (some v)
  mono := fun _ h => h
def TArs (K : Fg) (mg : Str → Option Value) (W : WX) (t : TA) (f : MAr) : Prop := ∀ ρ σ H O Q, Rel K ρ σ H O → Want orAr K mg W (f ρ) ρ σ H O Q → t σ H Q
structure SAr (X : Cx) (W : WX) (es : List Expr) (t : TA) (f : MAr) : Prop where
  p : PA X es t
  s : TArs X.K X.mg W t f
  l : ∀ ρ args ρ1, f ρ = .ok args ρ1 → args.length = es.length
def argOf : Opd → Fr → Option (Arg × Fr)
  | .place i, ρ => some (.place i, ρ)
  | .val d, ρ => some (.val d, ρ)
  | .fresh d, ρ => some (.val d, ρ)
def mrNil : MAr := fun ρ => .ok [] ρ
def mrCons (f : ME) (g : MAr) : MAr := fun ρ => (f ρ).bind fun r ρ1 => RE.opt (argOf r ρ1) fun p => (g p.2).bind fun ds ρ2 => .ok (p.1 :: ds) ρ2
section
variable {X : Cx} {W : WX} {pos : Pos} {e : Expr} {es : List Expr} {f : ME} {g : MAr} {te : TE} {ta : TA}
theorem sar_nil : SAr X W [] tNil mrNil := ⟨pa_nil, fun ρ σ H O Q R h => h [] H O R .refl ⟨rfl, fun j a v h => by simp at h⟩, fun ρ args ρ1 h => by cases h; rfl⟩
theorem sar_cons (hs : starEach (e :: es) X.env = (false, eval e X.env) :: starEach es X.env) (he : SE X W e te f) (hr : SAr X W es ta g) : SAr X W (e :: es) (tCons te ta) (mrCons f g) := by
  obtain ⟨pe, he⟩ := he
  obtain ⟨pr, hr, hl⟩ := hr
  refine ⟨pa_cons pe pr hs, fun ρ σ H O Q R h => he ρ σ H O _ R (Want.bind h fun r ρ1 v H1 O1 e1 R1 F1 o1 h1 => ?_), fun ρ args ρ1 h => ?_⟩
  rotate_left
  · unfold mrCons at h
    cases e1 : f ρ with
    | exc x ρ2 => rw [e1] at h; cases h
    | bad => rw [e1] at h; cases h
    | ok r ρ2 =>
      rw [e1] at h
      simp only [RE.bind] at h
      cases e2 : argOf r ρ2 with
      | none => rw [e2] at h; cases h
      | some q =>
        rw [e2] at h
        simp only [RE.opt] at h
        cases e3 : g q.2 with
        | exc x ρ3 => rw [e3] at h; cases h
        | bad => rw [e3] at h; cases h
        | ok ds ρ3 => rw [e3] at h; cases h; simp [hl _ _ _ e3]
  -- the rest, from a state in which the argument stands
  have rest : ∀ {a : Arg} {O2 : Ow}, argOf r ρ1 = some (a, ρ1) → Rel X.K ρ1 σ H1 O2 → Frm ρ σ H O ρ1 H1 O2 → (match a with | .val d => Rp X.K H1 O2 v d | .place i => σ[i]? = some (some v)) → ta σ H1 fun vs H2 => Q (v :: vs) H2 := fun {a O2} ea R2 F2 oa => by
    have h2 : Want orAr X.K X.mg W ((g ρ1).bind fun ds ρ2 => .ok (a :: ds) ρ2) ρ σ H O Q := by
      unfold mrCons at h
      rw [e1] at h
      simp only [RE.bind, ea, RE.opt] at h
      exact h
    refine hr ρ1 σ H1 O2 _ R2 (Want.bind (h2.from F2) fun ds ρ3 vs H3 O3 e3 R3 F3 o3 h3 => ?_)
    obtain ⟨l3, q3⟩ := o3
    refine h3 _ H3 O3 R3 .refl ⟨by simp [l3], fun j b w hj hw => ?_⟩
    cases j with
    | zero =>
      simp at hj hw
      subst hj hw
      cases a with
      | val d => exact Rp.keep (F3.kp R2) oa
      | place i => exact oa
    | succ j => exact q3 j b w (by simpa using hj) (by simpa using hw)
  cases r with
  | val d => exact rest rfl R1 F1 o1
  | fresh d =>
    have o1 : ORel X.K ρ1 σ H H1 O1 (.fresh d) v := o1
    obtain ⟨O2, R2, F2, rp⟩ := ORel.kept (d := d) (ρ2 := ρ1) o1 R F1 R1 rfl
    exact rest rfl R2 F2 rp
  | place i => exact rest rfl R1 F1 o1.1
end

/-! ### the slots that a call hands over -/
def mkAs (P : List Nat) : Nat → List Arg → Fr → Option (Fr × Fr)
  | _, [], ρ => some ([], ρ)
  | j, .val d :: r, ρ => (mkAs P (j + 1) r ρ).map fun q => (.val d :: q.1, q.2)
  | j, .place i :: r, ρ => match ρ[i]? with
    | some (.val d) => (mkAs P (j + 1) r ρ).map fun q => (.val d :: q.1, q.2)
    | some (.own d) => if j ∈ P then (mkAs P (j + 1) r ρ).map fun q => (.own d :: q.1, q.2) else (mkAs P (j + 1) r (ρ.set i (.val d))).map fun q => (.val d :: q.1, q.2)
    | _ => none
/-- .. and takes back -/
def wb : List Arg → Fr → Fr → Fr → Fr
  | .place i :: r, .own _ :: as, o :: os, ρ => wb r as os (ρ.set i o)
  | _ :: r, _ :: as, _ :: os, ρ => wb r as os ρ
  | _, _, _, ρ => ρ
def mCall (P : List Nat) (F : ME) (dfs : List PyData) (fa : MAr) : ME := fun ρ => (fa ρ).bind fun args ρ1 => if (places args).Nodup then RE.opt (mkAs P 0 (args ++ dfs.map Arg.val) ρ1) fun q => (match F q.1 with
  | .ok r outs => .ok r (wb (args ++ dfs.map Arg.val) q.1 outs q.2)
  | .exc x outs => .exc x (wb (args ++ dfs.map Arg.val) q.1 outs q.2)
  | .bad => .bad) else .bad
theorem places_append (a : List Arg) (dfs : List PyData) : places (a ++ dfs.map Arg.val) = places a := by
  induction a with
  | nil =>
    show places (dfs.map Arg.val) = []
    induction dfs with
    | nil => rfl
    | cons d r ih => exact ih
  | cons x r ih => cases x <;> simp [places, ih]
def AsOk (K : Fg) (P : List Nat) (off : Nat) (ρ : Fr) (σ : L2.St) (H : Hp) (O : Ow) (args : List Arg) (as : Fr) (vs : List V) : Prop :=
  as.length = args.length ∧ vs.length = args.length ∧ ∀ (j : Nat) a, args[j]? = some a → ∃ s v, as[j]? = some s ∧ vs[j]? = some v ∧ match a with
    | .val d => s = .val d ∧ Rp K H O v d
    | .place i => σ[i]? = some (some v) ∧ ((∃ d, s = .own d ∧ ρ[i]? = some (.own d) ∧ off + j ∈ P) ∨ ∃ d, s = .val d ∧ Rp K H O v d)
theorem mem_places {args : List Arg} {i : Nat} : i ∈ places args ↔ ∃ j : Nat, args[j]? = some (.place i) := by
  induction args with
  | nil => simp [places]
  | cons a r ih =>
    cases a with
    | val d =>
      simp only [places, ih]
      exact ⟨fun ⟨j, h⟩ => ⟨j + 1, by simpa using h⟩, fun ⟨j, h⟩ => by
        cases j with
        | zero => simp at h
        | succ j => exact ⟨j, by simpa using h⟩⟩
    | place k =>
      simp only [places, List.mem_cons, ih]
      constructor
      · rintro (rfl | ⟨j, h⟩)
        · exact ⟨0, by simp⟩
        · exact ⟨j + 1, by simpa using h⟩
      · rintro ⟨j, h⟩
        cases j with
        | zero => simp at h; exact .inl h.symm
        | succ j => exact .inr ⟨j, by simpa using h⟩
theorem places_inj {args : List Arg} (nd : (places args).Nodup) {i j k : Nat} (h1 : args[j]? = some (.place i)) (h2 : args[k]? = some (.place i)) : j = k := by
  induction args generalizing j k with
  | nil => simp at h1
  | cons a r ih =>
    have ndr : (places r).Nodup := by
      cases a with
      | val d => exact nd
      | place q => exact (List.nodup_cons.mp nd).2
    cases j with
    | zero =>
      cases k with
      | zero => rfl
      | succ k =>
        simp at h1 h2
        subst h1
        exact absurd (mem_places.mpr ⟨k, h2⟩) (List.nodup_cons.mp nd).1
    | succ j =>
      cases k with
      | zero =>
        simp at h1 h2
        subst h2
        exact absurd (mem_places.mpr ⟨j, h1⟩) (List.nodup_cons.mp nd).1
      | succ k =>
        have := ih ndr (j := j) (k := k) (by simpa using h1) (by simpa using h2)
        omega
section
variable {K : Fg} {mg : Str → Option Value} {W : WX} {P : List Nat} {σ : L2.St} {H : Hp}
theorem mkAs_ok : ∀ {args : List Arg} {off : Nat} {vs : List V} {ρ ρ' as : Fr} {O : Ow}, (places args).Nodup → Rel K ρ σ H O → args.length = vs.length →
    (∀ (j : Nat) a v, args[j]? = some a → vs[j]? = some v → match a with | .val d => Rp K H O v d | .place i => σ[i]? = some (some v)) → mkAs P off args ρ = some (as, ρ') →
    ∃ O', Rel K ρ' σ H O' ∧ Frm ρ σ H O ρ' H O' ∧ AsOk K P off ρ' σ H O' args as vs ∧ ∀ i, i ∉ places args → ρ'[i]? = ρ[i]?
  | [], off, vs, ρ, ρ', as, O, nd, R, hl, hq, e => by
    cases e
    exact ⟨O, R, .refl, ⟨rfl, hl.symm, fun j a h => by simp at h⟩, fun _ _ => rfl⟩
  | .val d :: r, off, vs, ρ, ρ', as, O, nd, R, hl, hq, e => by
    cases vs with
    | nil => simp at hl
    | cons v vs =>
      have e : (mkAs P (off + 1) r ρ).map (fun q => (Slot.val d :: q.1, q.2)) = some (as, ρ') := e
      cases em : mkAs P (off + 1) r ρ with
      | none => rw [em] at e; cases e
      | some q =>
        rw [em] at e
        cases e
        obtain ⟨O', R', F', ⟨l1, l2, q'⟩, un⟩ := mkAs_ok (args := r) (off := off + 1) (vs := vs) nd R (by simpa using hl) (fun j a v h1 h2 => hq (j + 1) a v (by simpa using h1) (by simpa using h2)) em
        refine ⟨O', R', F', ⟨by simp [l1], by simp [l2], fun j a h => ?_⟩, un⟩
        cases j with
        | zero =>
          simp at h
          subst h
          exact ⟨_, v, rfl, rfl, rfl, Rp.keep (F'.kp R) (hq 0 (.val d) v (by simp) (by simp))⟩
        | succ j =>
          obtain ⟨s, w, h1, h2, h3⟩ := q' j a (by simpa using h)
          refine ⟨s, w, by simpa using h1, by simpa using h2, ?_⟩
          cases a with
          | val d => exact h3
          | place i => rw [show off + (j + 1) = off + 1 + j by omega]; exact h3
  | .place i :: r, off, vs, ρ, ρ', as, O, nd, R, hl, hq, e => by
    cases vs with
    | nil => simp at hl
    | cons v vs =>
      have ndr : (places r).Nodup := (List.nodup_cons.mp nd).2
      have ni : i ∉ places r := (List.nodup_cons.mp nd).1
      have hv : σ[i]? = some (some v) := hq 0 (.place i) v (by simp) (by simp)
      -- the tail, from a state
      have tail : ∀ {ρ0 : Fr} {O0 : Ow} {q : Fr × Fr} {s : Slot}, Rel K ρ0 σ H O0 → Frm ρ σ H O ρ0 H O0 → Kp H O H O0 → mkAs P (off + 1) r ρ0 = some q → (∀ j, j ≠ i → ρ0[j]? = ρ[j]?) →
          (∀ ρ1 O1, Rel K ρ1 σ H O1 → Kp H O0 H O1 → ρ1[i]? = ρ0[i]? → ((∃ d, s = .own d ∧ ρ1[i]? = some (.own d) ∧ off + 0 ∈ P) ∨ ∃ d, s = .val d ∧ Rp K H O1 v d)) →
          ∃ O', Rel K q.2 σ H O' ∧ Frm ρ σ H O q.2 H O' ∧ AsOk K P off q.2 σ H O' (.place i :: r) (s :: q.1) (v :: vs) ∧ ∀ j, j ∉ places (.place i :: r) → q.2[j]? = ρ[j]? := fun {ρ0 O0 q s} R0 F0 k0 em un0 hs => by
        obtain ⟨O', R', F', ⟨l1, l2, q'⟩, un⟩ := mkAs_ok (args := r) (off := off + 1) (vs := vs) (as := q.1) (ρ' := q.2) ndr R0 (by simpa using hl) (fun j a w h1 h2 => by
          have := hq (j + 1) a w (by simpa using h1) (by simpa using h2)
          cases a with
          | val d => exact Rp.keep k0 this
          | place k => exact this) em
        refine ⟨O', R', F0.trans F', ⟨by simp [l1], by simp [l2], fun j a h => ?_⟩, fun j hj => ?_⟩
        · cases j with
          | zero =>
            simp at h
            subst h
            exact ⟨s, v, rfl, rfl, hv, hs q.2 O' R' (F'.kp R0) (un i ni)⟩
          | succ j =>
            obtain ⟨s', w, h1, h2, h3⟩ := q' j a (by simpa using h)
            refine ⟨s', w, by simpa using h1, by simpa using h2, ?_⟩
            cases a with
            | val d => exact h3
            | place i => rw [show off + (j + 1) = off + 1 + j by omega]; exact h3
        · simp only [places, List.mem_cons, not_or] at hj
          rw [un j hj.2, un0 j hj.1]
      cases es : ρ[i]? with
      | none => simp only [mkAs, es] at e; cases e
      | some s0 =>
        have sl := R.slot i s0 es
        cases s0 with
        | no => simp only [mkAs, es] at e; cases e
        | val d =>
          simp only [mkAs, es] at e
          cases em : mkAs P (off + 1) r ρ with
          | none => rw [em] at e; cases e
          | some q =>
            rw [em] at e
            cases e
            obtain ⟨v', e1, rp⟩ := sl
            rw [hv] at e1; cases e1
            exact tail R .refl .refl em (fun _ _ => rfl) fun ρ1 O1 R1 k1 _ => .inr ⟨d, rfl, rp.keep k1⟩
        | own d =>
          simp only [mkAs, es] at e
          obtain ⟨a, e1, oa, w⟩ := sl
          have e1' := e1
          rw [hv] at e1; cases e1
          by_cases hp : off ∈ P
          · rw [if_pos hp] at e
            cases em : mkAs P (off + 1) r ρ with
            | none => rw [em] at e; cases e
            | some q =>
              rw [em] at e
              cases e
              exact tail R .refl .refl em (fun _ _ => rfl) fun ρ1 O1 R1 k1 eq => .inl ⟨d, rfl, by rw [eq, es], hp⟩
          · rw [if_neg hp] at e
            cases em : mkAs P (off + 1) r (ρ.set i (.val d)) with
            | none => rw [em] at e; cases e
            | some q =>
              rw [em] at e
              cases e
              obtain ⟨R2, rp, F2⟩ := R.freeze es e1'
              exact tail R2 F2 (F2.kp R) em (fun j hj => List.getElem?_set_ne (Ne.symm hj)) fun ρ1 O1 R1 k1 _ => .inr ⟨d, rfl, rp.keep k1⟩
theorem AsOk.rel {ρ as : Fr} {O : Ow} {args : List Arg} {vs : List V} (nd : (places args).Nodup) (A : AsOk K P 0 ρ σ H O args as vs) (R : Rel K ρ σ H O) : Rel K as (vs.map some) H O ∧ (∀ (j : Nat) d, as[j]? = some (.own d) → j ∈ P) ∧
    (∀ a, SlotOwn as (vs.map some) a → SlotOwn ρ σ a) ∧ ∀ (j : Nat) d, as[j]? = some (.own d) → ∃ i, args[j]? = some (.place i) ∧ ρ[i]? = some (.own d) ∧ ∃ v, vs[j]? = some v ∧ σ[i]? = some (some v) := by
  obtain ⟨l1, l2, q⟩ := A
  have at' : ∀ (j : Nat) s, as[j]? = some s → ∃ a, args[j]? = some a := fun j s h => by
    have : j < as.length := (List.getElem?_eq_some_iff.mp h).1
    exact ⟨args[j], List.getElem?_eq_getElem (by omega)⟩
  have own : ∀ (j : Nat) d, as[j]? = some (.own d) → j ∈ P ∧ ∃ i, args[j]? = some (.place i) ∧ ρ[i]? = some (.own d) ∧ ∃ v, vs[j]? = some v ∧ σ[i]? = some (some v) := fun j d h => by
    obtain ⟨a, ha⟩ := at' j _ h
    obtain ⟨s, v, h1, h2, h3⟩ := q j a ha
    rw [h] at h1; cases h1
    cases a with
    | val x => exact nomatch h3.1
    | place i =>
      obtain ⟨h4, h5⟩ := h3
      rcases h5 with ⟨d', z, h6, h7⟩ | ⟨d', z, _⟩
      · cases z; exact ⟨by simpa using h7, i, ha, h6, v, h2, h4⟩
      · cases z
  have val : ∀ (j : Nat) v, vs[j]? = some v → (vs.map some)[j]? = some (some v) := fun j v h => by rw [List.getElem?_map, h]; rfl
  refine ⟨⟨by rw [List.length_map, l1, l2], fun j s h => ?_, fun i j a d e h1 h2 h3 h4 => ?_, R.dom⟩, fun j d h => (own j d h).1, fun a ⟨j, d, h1, h2⟩ => ?_, fun j d h => (own j d h).2⟩
  · obtain ⟨a, ha⟩ := at' j _ h
    obtain ⟨s', v, h1, h2, h3⟩ := q j a ha
    rw [h] at h1; cases h1
    rw [val j v h2]
    cases a with
    | val d =>
      obtain ⟨rfl, rp⟩ := h3
      exact ⟨v, rfl, rp⟩
    | place i =>
      obtain ⟨h4, h5⟩ := h3
      rcases h5 with ⟨d, rfl, h6, _⟩ | ⟨d, rfl, rp⟩
      · obtain ⟨b, e1, ob, w⟩ := R.slot i _ h6
        rw [h4] at e1
        cases e1
        exact ⟨b, rfl, ob, w⟩
      · exact ⟨v, rfl, rp⟩
  · obtain ⟨_, i1, a1, r1, v1, w1, s1⟩ := own i d h1
    obtain ⟨_, i2, a2, r2, v2, w2, s2⟩ := own j e h2
    rw [val i v1 w1] at h3
    rw [val j v2 w2] at h4
    cases h3
    cases h4
    have z : i1 = i2 := R.uniq i1 i2 a _ _ r1 r2 s1 s2
    subst z
    exact places_inj nd a1 a2
  · obtain ⟨_, i, _, r, v, w, s⟩ := own j d h1
    rw [val j v w] at h2
    cases h2
    exact ⟨i, d, r, s⟩
theorem wb_get : ∀ {args : List Arg} {as outs ρ : Fr} {k : Nat} {s : Slot}, (places args).Nodup → as.length = args.length → outs.length = args.length → (wb args as outs ρ)[k]? = some s →
    (∃ (j : Nat) (d : PyData), args[j]? = some (.place k) ∧ as[j]? = some (.own d) ∧ outs[j]? = some s) ∨ ((∀ (j : Nat) (d : PyData), args[j]? = some (.place k) → as[j]? ≠ some (.own d)) ∧ ρ[k]? = some s)
  | [], as, outs, ρ, k, s, nd, l1, l2, h => .inr ⟨fun j d q => by simp at q, by cases as <;> cases outs <;> first | exact h | simp at l1 | simp at l2⟩
  | a :: r, [], outs, ρ, k, s, nd, l1, l2, h => by simp at l1
  | a :: r, b :: as, [], ρ, k, s, nd, l1, l2, h => by simp at l2
  | a :: r, b :: as, o :: outs, ρ, k, s, nd, l1, l2, h => by
    have ndr : (places r).Nodup := by
      cases a with
      | val d => exact nd
      | place q => exact (List.nodup_cons.mp nd).2
    have l1' : as.length = r.length := by simpa using l1
    have l2' : outs.length = r.length := by simpa using l2
    -- nothing of the head
    have plain : (∀ d, a = .place k → b ≠ .own d) → (wb r as outs ρ)[k]? = some s → (∃ (j : Nat) (d : PyData), (a :: r)[j]? = some (.place k) ∧ (b :: as)[j]? = some (.own d) ∧ (o :: outs)[j]? = some s) ∨ ((∀ (j : Nat) d, (a :: r)[j]? = some (.place k) → (b :: as)[j]? ≠ some (.own d)) ∧ ρ[k]? = some s) := fun hb h => by
      rcases wb_get ndr l1' l2' h with ⟨j, d, q1, q2, q3⟩ | ⟨q1, q2⟩
      · exact .inl ⟨j + 1, d, by simpa using q1, by simpa using q2, by simpa using q3⟩
      · refine .inr ⟨fun j d z1 z2 => ?_, q2⟩
        cases j with
        | zero =>
          simp at z1 z2
          exact hb d z1 z2
        | succ j => exact q1 j d (by simpa using z1) (by simpa using z2)
    cases a with
    | val d => exact plain (by intro _ z; cases z) (by cases b <;> exact h)
    | place i =>
      cases b with
      | no => exact plain (by intro _ _ z; cases z) h
      | val d => exact plain (by intro _ _ z; cases z) h
      | own d =>
        have h : (wb r as outs (ρ.set i o))[k]? = some s := h
        rcases wb_get ndr l1' l2' h with ⟨j, d, q1, q2, q3⟩ | ⟨q1, q2⟩
        · exact .inl ⟨j + 1, d, by simpa using q1, by simpa using q2, by simpa using q3⟩
        · rcases getElem?_set_cases q2 with ⟨rfl, _, rfl⟩ | ⟨ne, q2⟩
          · exact .inl ⟨0, d, by simp, by simp, by simp⟩
          · refine .inr ⟨fun j d z1 z2 => ?_, q2⟩
            cases j with
            | zero => simp at z1; exact ne z1
            | succ j => exact q1 j d (by simpa using z1) (by simpa using z2)
theorem wb_length : ∀ {args : List Arg} {as outs ρ : Fr}, (wb args as outs ρ).length = ρ.length
  | [], as, outs, ρ => by cases as <;> cases outs <;> rfl
  | a :: r, [], outs, ρ => by cases a <;> rfl
  | a :: r, b :: as, [], ρ => by cases a <;> cases b <;> rfl
  | a :: r, b :: as, o :: outs, ρ => by
    cases a with
    | val d => cases b <;> exact wb_length (args := r) (as := as) (outs := outs) (ρ := ρ)
    | place i =>
      cases b with
      | own d =>
        show (wb r as outs (ρ.set i o)).length = ρ.length
        rw [wb_length, List.length_set]
      | _ => exact wb_length (args := r) (as := as) (outs := outs) (ρ := ρ)
/-- behind the call -/
theorem AsOk.back {ρ as outs : Fr} {O O' : Ow} {H' : Hp} {args : List Arg} {vs : List V} (nd : (places args).Nodup) (A : AsOk K P 0 ρ σ H O args as vs) (R : Rel K ρ σ H O) (ol : outs.length = as.length)
    (R' : Rel K outs (vs.map some) H' O') (F : Frm as (vs.map some) H O outs H' O') : Rel K (wb args as outs ρ) σ H' O' ∧ Frm ρ σ H O (wb args as outs ρ) H' O' := by
  obtain ⟨Ra, _, sub, own⟩ := A.rel nd R
  have l1 := A.1
  have kp : Kp H O H' O' := F.kp Ra
  have keepOwn : ∀ (k : Nat) x, (wb args as outs ρ)[k]? = some (.own x) → ∃ e, ρ[k]? = some (.own e) := fun k x h => by
    rcases wb_get nd l1 (by rw [ol, l1]) h with ⟨j, d, q1, q2, q3⟩ | ⟨_, q2⟩
    · obtain ⟨i, z1, z2, _⟩ := own j d q2
      rw [q1] at z1; cases z1
      exact ⟨d, z2⟩
    · exact ⟨x, q2⟩
  refine ⟨⟨by rw [wb_length]; exact R.len, fun k s h => ?_, fun i j a d e h1 h2 h3 h4 => ?_, R'.dom⟩, ⟨fun a o h hn => F.keep a o h fun q => hn (sub a q), F.dom, keepOwn, F.tups, F.frzs⟩⟩
  · rcases wb_get nd l1 (by rw [ol, l1]) h with ⟨j, d, q1, q2, q3⟩ | ⟨q1, q2⟩
    · obtain ⟨i, z1, z2, v, w1, w2⟩ := own j d q2
      rw [q1] at z1; cases z1
      have := R'.slot j s q3
      rw [List.getElem?_map, w1] at this
      rw [w2]; exact this
    · have sl := R.slot k s q2
      cases s with
      | no => trivial
      | val x => obtain ⟨v, e1, rp⟩ := sl; exact ⟨v, e1, rp.keep kp⟩
      | own x =>
        obtain ⟨b, e1, ob, w⟩ := sl
        -- not handed over
        have nh : ¬ SlotOwn as (vs.map some) b := fun ⟨j, d, h1, h2⟩ => by
          obtain ⟨i, z1, z2, v, w1, w2⟩ := own j d h1
          rw [List.getElem?_map, w1] at h2
          cases h2
          have e : i = k := R.uniq i k b _ _ z2 q2 w2 e1
          subst e
          exact q1 j d z1 h1
        obtain ⟨o, ho, _⟩ := w.there
        exact ⟨b, e1, ((F.keep b o ho nh).2).mpr ob, w.keep kp fun o' h' => (F.keep b o' h' nh).1⟩
  · obtain ⟨e1, z1⟩ := keepOwn i d h1
    obtain ⟨e2, z2⟩ := keepOwn j e h2
    exact R.uniq i j a _ _ z1 z2 h3 h4
end

/-! ### a def's promise -/
/-- the wish of a def -/
abbrev WD (E : XK) : WX := fun cls d _ H => E cls d H
def spF (mg : Str → Option Value) (np : Nat) (P : List Nat) (F : ME) (K : Fg) : Sp := fun vs H Q E => ∃ (as : Fr) (O : Ow), as.length = np ∧ vs.length = np ∧ Rel K as (vs.map some) H O ∧ (∀ (j : Nat) d, as[j]? = some (.own d) → j ∈ P) ∧
  Want orE K mg (WD E) (F as) as (vs.map some) H O Q
/-- the same number of slots comes back, and no place -/
def Keeps (F : ME) : Prop := (∀ as r outs, F as = .ok r outs → outs.length = as.length ∧ ∀ i, r ≠ .place i) ∧ ∀ as r outs, F as = .exc r outs → outs.length = as.length
def tCallG (sp : Sp) (dvs : List V) (W : WX) (t : TA) : TE := fun σ H Q => t σ H fun vs H1 => sp (vs ++ dvs) H1 Q (WE W σ)
/-- default values: scalars -/
def Dfs (dvs : List V) (dfs : List PyData) : Prop := ∀ (K : Fg) (H : Hp) (O : Ow), RpAll K H O dvs dfs
theorem call_core {K : Fg} {mg : Str → Option Value} {W : WX} {P : List Nat} {np : Nat} {ta : TA} {fa : MAr} {F : ME} {dvs : List V} {dfs : List PyData} (hk : Keeps F) (hd : Dfs dvs dfs) (ha : TArs K mg W ta fa) (hn : ∀ ρ args ρ1, fa ρ = .ok args ρ1 → args.length + dfs.length = np) :
    TEs K mg W (tCallG (spF mg np P F K) dvs W ta) (mCall P F dfs fa) := by
  intro ρ σ H O Q R h
  refine ha ρ σ H O _ R (Want.bind h fun args ρ1 vs H1 O1 e1 R1 F1 o1 h1 => ?_)
  obtain ⟨al, aq⟩ := o1
  have dl : dvs.length = dfs.length := (hd K H1 O1).length
  by_cases nd : (places args).Nodup
  · rw [if_pos nd] at h1
    have nd' : (places (args ++ dfs.map Arg.val)).Nodup := by rw [places_append]; exact nd
    obtain ⟨⟨as, ρ2⟩, em, h1⟩ := h1.opt
    obtain ⟨O2, R2, F2, A, _⟩ := mkAs_ok (vs := vs ++ dvs) nd' R1 (by simp [al, dl]) (fun j a v ja jv => by
      by_cases l : j < args.length
      · rw [List.getElem?_append_left l] at ja
        rw [List.getElem?_append_left (by omega)] at jv
        exact aq j a v ja jv
      · rw [List.getElem?_append_right (by omega), List.getElem?_map] at ja
        rw [List.getElem?_append_right (by omega)] at jv
        rw [al] at ja
        cases q : dfs[j - vs.length]? with
        | none => rw [q] at ja; cases ja
        | some d =>
          rw [q] at ja
          cases ja
          obtain ⟨v', h2, rp⟩ := (hd K H1 O1).get q
          rw [jv] at h2; cases h2
          exact rp) em
    obtain ⟨Ra, ap, _, _⟩ := A.rel nd' R2
    have ln : (args ++ dfs.map Arg.val).length = np := by simp [hn ρ args ρ1 e1]
    refine ⟨as, O2, by rw [A.1]; exact ln, by rw [A.2.1]; exact ln, Ra, ap, ?_⟩
    have h2 := h1.from F2
    cases ef : F as with
    | ok r outs =>
      simp only [ef] at h2
      intro v H3 O3 R3 F3 o3
      obtain ⟨R4, F4⟩ := A.back nd' R2 (hk.1 as r outs ef).1 R3 F3
      cases r with
      | val d => exact h2 v H3 O3 R4 F4 o3
      | fresh d => exact h2 v H3 O3 R4 F4 o3
      | place i => exact absurd rfl ((hk.1 as _ outs ef).2 i)
    | exc x outs =>
      simp only [ef] at h2
      intro cls d H3 O3 R3 F3 xr
      obtain ⟨R4, F4⟩ := A.back nd' R2 (hk.2 as x outs ef) R3 F3
      exact h2 cls d H3 O3 R4 F4 xr
    | bad => simp only [ef] at h2; exact h2.elim
  · rw [if_neg nd] at h1; exact h1.elim
end L3
set_option Elab.async false
set_option linter.all false
set_option maxRecDepth 100000
set_option maxHeartbeats 4000000
set_option autoImplicit false
/-! L3H: the rules for a call and for a def. -/
namespace L3
open PySem PySem.Spec L2

/-- a def keeps its promise wherever no repr is running around it -/
structure FnG (P : Program) (w : World) (K : Fg) (mg : Str → Option Value) (base : Heap) (k : Nat) (f : Addr) (fd : FuncData) (ps : List Str) (sp : Sp) : Prop where
  len : ∀ vs H Q E, sp vs H Q E → vs.length = ps.length
  run : ∀ (A : Around) (outer : List Env) (s : Shared) (H : Hp) (args : Args) (us : List Value) (vs : List V) (Q : VK) (E : XK), Room k A → A.guards = some [] → Env0 P w K mg base A outer s H → BindsTo s fd args (ps.zip us) → Vals vs us →
    sp vs H Q E → codeAny (model P w) A (.call (.ref f) args) (CR (L2.CX P w) outer P w H s Q E) s
theorem FnG.mono {P : Program} {w : World} {K : Fg} {mg : Str → Option Value} {base : Heap} {j k : Nat} {f : Addr} {fd : FuncData} {ps : List Str} {sp : Sp} (F : FnG P w K mg base j f fd ps sp) (h : j ≤ k) : FnG P w K mg base k f fd ps sp :=
  ⟨F.len, fun A outer s H args us vs Q E hr => F.run A outer s H args us vs Q E (hr.mono h)⟩
section
variable {X : Cx} {W : WX} {P : List Nat} {k np : Nat} {f : Addr} {fd : FuncData} {ps : List Str} {x : Str} {p pos : Pos} {e : Expr} {es : List Expr} {ta : TA} {fa : MAr} {F : ME} {sp : Sp} {dvs : List V} {ds : List Value} {dfs : List PyData}
theorem run_g {pins : List (Addr × Obj)} {σ : L2.St} {H : Hp} {s : Shared} {Q : VK} {us : List Value} {vs : List V} (G : FnG X.prog X.w X.K X.mg X.base k f fd ps sp) (hr : Room k X.A) (hg : X.A.guards = some []) (hb : Binds X.K fd ps ds) (hd : Vals dvs ds) (tk : Takes X W)
    (I : Inv X pins σ H s) (rv : Vals vs us) (h : sp (vs ++ dvs) H Q (WE W σ)) : wpAny (model X.prog X.w) X.A (call (.ref f) us) (EP X pins σ Q) X.xe s := by
  have all : Vals (vs ++ dvs) (us ++ ds) := rv.append hd
  have bound := hb s us I.kIn (all.length.symm.trans (G.len _ _ _ _ h))
  refine wpAny_call (codeAny_mono (G.run X.A X.stack s H _ _ _ Q _ hr hg I.env0 bound all h) ?_)
  rintro (e | (u | _ | _ | _)) s' hq
  · exact passAt tk σ pins H s e s' I hq
  all_goals first | exact I.after hq | exact hq.elim
theorem pe_callG (G : FnG X.prog X.w X.K X.mg X.base k f fd ps sp) (hr : Room k X.A) (hG : X.A.guards = some []) (hg : Gl X x) (hm : X.mg x = some (.ref f)) (kp : PySem.W.keepIn X.K (.ref f) = true) (hb : Binds X.K fd ps ds) (hd : Vals dvs ds) (tk : Takes X W)
    (hdb : (x == ("__debug__" : Str)) = false) (he : starEach (e :: es) X.env = (false, eval e X.env) :: starEach es X.env) (hpl : (backTo pos (starEach es X.env)).any (·.1) = false) (ha : PA X (e :: es) ta) : PE X (.Call (.Name x p) (e :: es) [] pos) (tCallG sp dvs W ta) := by
  constructor
  intro pins s σ H Q I h
  refine wpAny_Call_Name_kw (ld_glob I hg hm (PySem.W.callWith_K (h₀ := X.base) I.ok.mod.kin kp (thn (ha.run pos pins s σ H _ I h) ?_) he hpl) hdb)
  rintro us s1 ⟨vs, H1, I1, rv, q⟩
  exact ⟨I1.kIn, run_g G hr hG hb hd tk I1 rv q⟩
theorem se_call (G : FnG X.prog X.w X.K X.mg X.base k f fd ps (spF X.mg np P F X.K)) (hk : Keeps F) (hr : Room k X.A) (hG : X.A.guards = some []) (hg : Gl X x) (hm : X.mg x = some (.ref f)) (kp : PySem.W.keepIn X.K (.ref f) = true) (hb : Binds X.K fd ps ds) (hd : Vals dvs ds) (hdf : Dfs dvs dfs) (tk : Takes X W)
    (hdb : (x == ("__debug__" : Str)) = false) (he : starEach (e :: es) X.env = (false, eval e X.env) :: starEach es X.env) (hpl : (backTo pos (starEach es X.env)).any (·.1) = false) (hn : (e :: es).length + dfs.length = np) (ha : SAr X W (e :: es) ta fa) :
    SE X W (.Call (.Name x p) (e :: es) [] pos) (tCallG (spF X.mg np P F X.K) dvs W ta) (mCall P F dfs fa) :=
  ⟨pe_callG G hr hG hg hm kp hb hd tk hdb he hpl ha.p, call_core hk hdf ha.s fun ρ args ρ1 h => by rw [ha.l ρ args ρ1 h]; exact hn⟩
end

def outsOf : Fr → Fr → Fr
  | [], _ => []
  | .own _ :: as, r :: ρ => r :: outsOf as ρ
  | _ :: as, _ :: ρ => .no :: outsOf as ρ
  | _ :: as, [] => .no :: outsOf as []
theorem outsOf_length : ∀ (as ρ : Fr), (outsOf as ρ).length = as.length
  | [], _ => rfl
  | a :: as, [] => by cases a <;> simp [outsOf, outsOf_length as []]
  | a :: as, r :: ρ => by cases a <;> simp [outsOf, outsOf_length as ρ]
theorem outsOf_get : ∀ (as ρ : Fr) (j : Nat) (s : Slot), (outsOf as ρ)[j]? = some s → s = .no ∨ (∃ d, as[j]? = some (.own d)) ∧ ρ[j]? = some s
  | [], ρ, j, s, h => by simp [outsOf] at h
  | a :: as, [], j, s, h => by
    have h : (Slot.no :: outsOf as [])[j]? = some s := by cases a <;> exact h
    cases j with
    | zero => simp at h; exact .inl h.symm
    | succ j =>
      rcases outsOf_get as [] j s (by simpa using h) with z | ⟨z, y⟩
      · exact .inl z
      · simp at y
  | a :: as, r :: ρ, j, s, h => by
    cases j with
    | zero =>
      cases a with
      | own d => simp [outsOf] at h; exact .inr ⟨⟨d, by simp⟩, by simp [h]⟩
      | no => simp [outsOf] at h; exact .inl h.symm
      | val d => simp [outsOf] at h; exact .inl h.symm
    | succ j =>
      have h : (outsOf as ρ)[j]? = some s := by cases a <;> simpa [outsOf] using h
      rcases outsOf_get as ρ j s h with z | ⟨z, y⟩
      · exact .inl z
      · exact .inr ⟨by simpa using z, by simpa using y⟩
/-- a def: m slots in all -/
def runDef (m : Nat) (g : MS) : ME := fun as => match g (as ++ List.replicate (m - as.length) .no) with
  | .nx ρ => .ok (.val .none) (outsOf as ρ)
  | .rt true d ρ => .ok (.fresh d) (outsOf as ρ)
  | .rt false d ρ => .ok (.val d) (outsOf as ρ)
  | .exc x ρ => .exc x (outsOf as ρ)
  | _ => .bad
theorem keeps_run (m : Nat) (g : MS) : Keeps (runDef m g) := by
  refine ⟨fun as r outs h => ?_, fun as r outs h => ?_⟩
  · unfold runDef at h
    cases e : g (as ++ List.replicate (m - as.length) .no) with
    | nx ρ => rw [e] at h; cases h; exact ⟨outsOf_length _ _, by intro i z; cases z⟩
    | rt f d ρ =>
      rw [e] at h
      cases f with
      | true => cases h; exact ⟨outsOf_length _ _, by intro i z; cases z⟩
      | false => cases h; exact ⟨outsOf_length _ _, by intro i z; cases z⟩
    | exc x ρ => rw [e] at h; cases h
    | bk ρ => rw [e] at h; cases h
    | ct ρ => rw [e] at h; cases h
    | bad => rw [e] at h; cases h
  · unfold runDef at h
    cases e : g (as ++ List.replicate (m - as.length) .no) with
    | nx ρ => rw [e] at h; cases h
    | rt f d ρ => rw [e] at h; cases f <;> cases h
    | exc x ρ => rw [e] at h; cases h; exact outsOf_length _ _
    | bk ρ => rw [e] at h; cases h
    | ct ρ => rw [e] at h; cases h
    | bad => rw [e] at h; cases h
/-- the arguments that own, with their addresses -/
def ownArgs : Nat → Fr → List V → List (Nat × Addr)
  | j, .own _ :: as, .ref a :: vs => (j, a) :: ownArgs (j + 1) as vs
  | j, _ :: as, _ :: vs => ownArgs (j + 1) as vs
  | _, _, _ => []
theorem ownArgs_mem : ∀ (as : Fr) (vs : List V) (off j : Nat) (a : Addr), (j, a) ∈ ownArgs off as vs ↔ ∃ i d, j = off + i ∧ as[i]? = some (.own d) ∧ vs[i]? = some (.ref a)
  | [], vs, off, j, a => by simp [ownArgs]
  | s :: as, [], off, j, a => by cases s <;> simp [ownArgs]
  | s :: as, v :: vs, off, j, a => by
    have ih := ownArgs_mem as vs (off + 1) j a
    have tail : (∃ i d, j = off + 1 + i ∧ as[i]? = some (.own d) ∧ vs[i]? = some (.ref a)) ↔ ∃ i d, j = off + (i + 1) ∧ (s :: as)[i + 1]? = some (.own d) ∧ (v :: vs)[i + 1]? = some (.ref a) := by
      constructor
      · rintro ⟨i, d, h1, h2, h3⟩; exact ⟨i, d, by omega, by simpa using h2, by simpa using h3⟩
      · rintro ⟨i, d, h1, h2, h3⟩; exact ⟨i, d, by omega, by simpa using h2, by simpa using h3⟩
    -- the head adds nothing
    have skip : (¬ ∃ d, s = .own d ∧ v = .ref a) → ((∃ i d, j = off + 1 + i ∧ as[i]? = some (.own d) ∧ vs[i]? = some (.ref a)) ↔ ∃ i d, j = off + i ∧ (s :: as)[i]? = some (.own d) ∧ (v :: vs)[i]? = some (.ref a)) := fun hn => by
      rw [tail]
      constructor
      · rintro ⟨i, d, h⟩; exact ⟨i + 1, d, h⟩
      · rintro ⟨i, d, h1, h2, h3⟩
        cases i with
        | zero => simp at h2 h3; exact absurd ⟨d, h2, h3⟩ hn
        | succ i => exact ⟨i, d, h1, h2, h3⟩
    cases s with
    | no => rw [show ownArgs off (.no :: as) (v :: vs) = ownArgs (off + 1) as vs by cases v <;> rfl, ih]; exact skip fun ⟨d, z, _⟩ => nomatch z
    | val x => rw [show ownArgs off (.val x :: as) (v :: vs) = ownArgs (off + 1) as vs by cases v <;> rfl, ih]; exact skip fun ⟨d, z, _⟩ => nomatch z
    | own x =>
      cases v with
      | ref b =>
        rw [show ownArgs off (.own x :: as) (.ref b :: vs) = (off, b) :: ownArgs (off + 1) as vs from rfl, List.mem_cons, ih, tail]
        constructor
        · rintro (h | ⟨i, d, h⟩)
          · cases h; exact ⟨0, x, by simp, by simp, by simp⟩
          · exact ⟨i + 1, d, h⟩
        · rintro ⟨i, d, h1, h2, h3⟩
          cases i with
          | zero => simp at h2 h3; exact .inl (by rw [h1, h3]; rfl)
          | succ i => exact .inr ⟨i, d, h1, h2, h3⟩
      | _ => rw [show ownArgs off (.own x :: as) _ = ownArgs (off + 1) as vs from rfl, ih]; exact skip fun ⟨d, _, z⟩ => nomatch z
section
variable {Pr : Program} {w : World} {K : PySem.W.Frag} {mg : Str → Option Value} {base : Heap}
/-- a def of the text keeps the promise that its body's reading keeps -/
theorem fnG_of {x qual : Str} {st : Stmt} {f : Addr} {fd : FuncData} {N ps : List Str} {k : Nat} {sp : Sp} (F : Fun K x qual st f fd) (S : FnScope N ps (defScope st)) (len : ∀ vs H Q E, sp vs H Q E → vs.length = ps.length)
    (hbody : ∀ (cdv : Value) (A : Around) (outer : List Env) (s : Shared) (H : Hp) (vs : List V) (Q : VK) (E : XK), Room k (A.deeper (PyProof.Rows.envOfC qual (defScope st) s.heap.objs.size f cdv)) → A.guards = some [] → sp vs H Q E →
      ∃ t, PSs (cxOf (L2.CX Pr w) Pr w K mg base N qual (defScope st) f cdv A outer s H E) (defBody st) t ∧ t { nx := fun _ H' => Q .non H', rt := Q } (L2.start N vs) H) : FnG Pr w K mg base (k + 1) f fd ps sp := by
  obtain ⟨oc, od, kV, doc, pm, an, cdv, ct, osl, rfl, lk, hcd⟩ := F.ex
  constructor
  · exact len
  intro A outer s H args us vs Q E hr hG e0 hb rv hsp
  have kept : ∀ b o, base.get? b = some o → s.heap.get? b = some o := fun b o e => (e0.bs b o e).1
  have KX := e0.mod.kin.keeps kept
  have hl := len _ _ _ _ hsp
  refine PySem.codeAny_call_function hr.depth (KX _ _ lk) rfl S.co S.gen rfl (PySem.W.codeRec_of KX hcd) (hb _ _ _ _ (PySem.wpAny_newFunctionEnv_cells S.kind ?_ ?_))
  · rintro ⟨nm, v⟩ hy
    rcases S.par nm (List.of_mem_zip hy).1 with q | q
    · exact .inl q
    · exact .inr ⟨q, PySem.W.cellsFrom_some _ _ _ (.inl q)⟩
  · rintro env rfl s1 hx
    refine ⟨(e0.mod.nolimit.keeps kept).keeps hx.toInCall.keep, PySem.codeAny_func ?_⟩
    obtain ⟨t, ht, hq⟩ := hbody cdv A outer s H vs Q E (hr.deeper _) hG hsp
    have I := inv_start (CX := L2.CX Pr w) (E := E) S hr.hd e0 hl rv hx
    refine wpAny_mono (ht.run [] s1 _ H _ I hq) ?_ fun e s' hs => hs
    intro fl s' hs
    cases fl with
    | ret u =>
      obtain ⟨v, σ', H', J, rv', q⟩ := hs
      exact ⟨v, H', J.os, J.bare, J.base, J.hok, rv', q⟩
    | next =>
      obtain ⟨σ', H', J, q⟩ := hs
      exact ⟨.non, H', J.os, J.bare, J.base, J.hok, rfl, q⟩
    | _ => obtain ⟨_, _, _, q⟩ := hs; exact q.elim
theorem def_ok {x qual : Str} {st : Stmt} {f : Addr} {fd : FuncData} {N ps : List Str} {k : Nat} {g : MS} (P : List Nat) (F : Fun K x qual st f fd) (S : FnScope N ps (defScope st))
    (hbody : ∀ (cdv : Value) (A : Around) (outer : List Env) (s : Shared) (H : Hp) (E : XK), Room k (A.deeper (PyProof.Rows.envOfC qual (defScope st) s.heap.objs.size f cdv)) → A.guards = some [] →
      ∃ t, SSs (cxOf (L2.CX Pr w) Pr w K mg base N qual (defScope st) f cdv A outer s H E) (WD E) P (defBody st) t g) : FnG Pr w K mg base (k + 1) f fd ps (spF mg ps.length P (runDef N.length g) K) := by
  refine fnG_of F S (fun vs H Q E h => ?_) fun cdv A outer s H vs Q E hr hG h => ?_
  · obtain ⟨_, _, _, h, _⟩ := h; exact h
  · obtain ⟨t, ht⟩ := hbody cdv A outer s H E hr hG
    refine ⟨t, ht.p, ?_⟩
    obtain ⟨as, O, la, lv, R, ap, hw⟩ := h
    have lN : as.length ≤ N.length := by
      have := congrArg List.length S.pre
      rw [List.length_take] at this
      omega
    have own0 : ∀ (i : Nat) d, (as ++ List.replicate (N.length - as.length) Slot.no)[i]? = some (.own d) → as[i]? = some (.own d) := fun i d h => by
      by_cases l : i < as.length
      · rw [List.getElem?_append_left l] at h; exact h
      · rw [List.getElem?_append_right (by omega), List.getElem?_replicate] at h
        split at h <;> cases h
    have st0 : ∀ i : Nat, i < as.length → (L2.start N vs)[i]? = (vs.map some)[i]? := fun i l => by
      unfold L2.start
      rw [List.getElem?_append_left (by rw [List.length_map]; omega)]
    have R0 : Rel K (as ++ List.replicate (N.length - as.length) .no) (L2.start N vs) H O := by
      refine ⟨by unfold L2.start; simp; omega, fun i s e => ?_, fun i j a d e h1 h2 h3 h4 => ?_, R.dom⟩
      · by_cases l : i < as.length
        · rw [List.getElem?_append_left l] at e
          rw [st0 i l]
          exact R.slot i s e
        · rw [List.getElem?_append_right (by omega), List.getElem?_replicate] at e
          split at e
          · cases e; trivial
          · cases e
      · have q1 := own0 i d h1
        have q2 := own0 j e h2
        rw [st0 i (List.getElem?_eq_some_iff.mp q1).1] at h3
        rw [st0 j (List.getElem?_eq_some_iff.mp q2).1] at h4
        exact R.uniq i j a d e q1 q2 h3 h4
    have memE : ∀ j a, (j, a) ∈ ownArgs 0 as vs ↔ ∃ d, as[j]? = some (.own d) ∧ vs[j]? = some (.ref a) := fun j a => by
      rw [ownArgs_mem]
      constructor
      · rintro ⟨i, d, h1, h2, h3⟩
        have : j = i := by omega
        subst this
        exact ⟨d, h2, h3⟩
      · rintro ⟨d, h2, h3⟩; exact ⟨j, d, by omega, h2, h3⟩
    have vref : ∀ (j : Nat) a, (vs.map some)[j]? = some (some (.ref a)) ↔ vs[j]? = some (.ref a) := fun j a => by
      rw [List.getElem?_map]
      cases vs[j]? with
      | none => simp
      | some v => simp
    have B0 : Bs ⟨P, ownArgs 0 as vs, H, O⟩ (as ++ List.replicate (N.length - as.length) .no) (L2.start N vs) H O := by
      refine ⟨fun a o h _ => ⟨h, .rfl⟩, fun a h => h, fun a xs h => h, fun a o u h => h, fun i d a h1 h2 => .inl ?_, fun j a h => ?_⟩
      · have q := own0 i d h1
        rw [st0 i (List.getElem?_eq_some_iff.mp q).1] at h2
        exact (memE i a).mpr ⟨d, q, (vref i a).mp h2⟩
      · obtain ⟨d, h1, h2⟩ := (memE j a).mp h
        refine ⟨?_, ap j d h1⟩
        rw [st0 j (List.getElem?_eq_some_iff.mp h1).1]
        exact (vref j a).mpr h2
    -- the end
    have fin : ∀ {ρ' : Fr} {σ' : L2.St} {H' : Hp} {O' : Ow}, Rel K ρ' σ' H' O' → Bs ⟨P, ownArgs 0 as vs, H, O⟩ ρ' σ' H' O' → Rel K (outsOf as ρ') (vs.map some) H' O' ∧ Frm as (vs.map some) H O (outsOf as ρ') H' O' := fun {ρ' σ' H' O'} R' B' => by
      have back : ∀ (j : Nat) s, (outsOf as ρ')[j]? = some s → s = .no ∨ (ρ'[j]? = some s ∧ σ'[j]? = (vs.map some)[j]? ∧ ∃ d, as[j]? = some (.own d)) := fun j s h => by
        rcases outsOf_get as ρ' j s h with z | ⟨⟨d, z⟩, y⟩
        · exact .inl z
        · obtain ⟨a, e1, _⟩ := R.slot j _ z
          exact .inr ⟨y, by rw [(B'.pin j a ((memE j a).mpr ⟨d, z, (vref j a).mp e1⟩)).1, e1], d, z⟩
      refine ⟨⟨by rw [outsOf_length, List.length_map, la, lv], fun j s h => ?_, fun i j a d e h1 h2 h3 h4 => ?_, R'.dom⟩, ⟨fun a o h hn => B'.keep a o h fun j q => ?_, B'.dom, fun i d h => ?_, B'.tups, B'.frzs⟩⟩
      · rcases back j s h with rfl | ⟨h1, h2, _⟩
        · trivial
        · rw [← h2]; exact R'.slot j s h1
      · rcases back i _ h1 with z | ⟨q1, q2, _⟩
        · cases z
        · rcases back j _ h2 with z | ⟨q3, q4, _⟩
          · cases z
          · exact R'.uniq i j a d e q1 q3 (by rw [q2]; exact h3) (by rw [q4]; exact h4)
      · obtain ⟨d, h1, h2⟩ := (memE j a).mp q
        exact hn ⟨j, d, h1, (vref j a).mpr h2⟩
      · rcases back i _ h with z | ⟨_, _, d', q⟩
        · cases z
        · exact ⟨d', q⟩
    refine ht.s ⟨P, ownArgs 0 as vs, H, O⟩ rfl _ _ H O _ R0 B0 ?_
    unfold runDef at hw
    cases eg : g (as ++ List.replicate (N.length - as.length) .no) with
    | nx ρ' =>
      rw [eg] at hw
      intro σ' H' O' R' B' k'
      obtain ⟨R2, F2⟩ := fin R' B'
      exact hw _ H' O' R2 F2 .non
    | rt fr d ρ' =>
      rw [eg] at hw
      intro v σ' H' O' R' B' rr
      obtain ⟨R2, F2⟩ := fin R' B'
      cases fr with
      | true => exact hw v H' O' R2 F2 rr
      | false => exact hw v H' O' R2 F2 rr
    | exc x ρ' =>
      rw [eg] at hw
      intro cls d σ' H' O' R' B' k' xr
      obtain ⟨R2, F2⟩ := fin R' B'
      exact hw cls d H' O' R2 F2 xr
    | bk ρ' => rw [eg] at hw; exact hw.elim
    | ct ρ' => rw [eg] at hw; exact hw.elim
    | bad => rw [eg] at hw; exact hw.elim
end
end L3
set_option Elab.async false
set_option linter.all false
set_option maxRecDepth 100000
set_option maxHeartbeats 4000000
set_option autoImplicit false
/-! L3I: the operators and built-ins by values. -/
namespace L3
open PySem PySem.Spec L2

/-! ### arithmetic -/
def dAdd : D → D → Option (Kd × D)
  | .int i, .int j => some (.v, .int (i + j))
  | .str x, .str y => if x.length + y.length ≤ sizeLine then some (.v, .str (x ++ y)) else none
  | .tuple xs, .tuple ys => if xs.length + ys.length ≤ sizeLine then some (.v, .tuple (xs ++ ys)) else none
  | .list xs, .list ys => if xs.length + ys.length ≤ sizeLine then some (.f, .list (xs ++ ys)) else none
  | _, _ => none
def rAddS : R2 := fun x y H Q => ∃ i j, x = .str i ∧ y = .str j ∧ i.length + j.length ≤ sizeLine ∧ Q (.str (i ++ j)) H
def rAddA (K : Fg) : R2 := fun x y H Q => rI0 (fun i j => .int (i + j)) x y H Q ∨ rAddS x y H Q ∨ rCatA K x y H Q ∨ rCat x y H Q
section
variable {X : Cx} {K : Fg}
theorem op_addA : OpR X (binaryOp .Add) (rAddA X.K) := OpR.or op_add (OpR.or op_add_str (OpR.or op_catA op_cat))
theorem g_add : Op2 K (rAddA K) dAdd := by
  intro H O x y d e k z Q sx sy h c
  cases d <;> cases e <;> simp only [dAdd] at h <;> try (cases h; done)
  · cases h; exact .inl ⟨_, _, sx.int, sy.int, Cv.int c⟩
  · split at h
    · rename_i hz; cases h; exact .inr (.inl ⟨_, _, sx.str, sy.str, hz, Cv.str c⟩)
    · cases h
  · split at h
    · rename_i hz
      cases h
      obtain ⟨a, xs, rfl, h1, r1⟩ := sx.lst
      obtain ⟨b, ys, rfl, h2, r2⟩ := sy.lst
      exact .inr (.inr (.inr ⟨a, b, xs, ys, rfl, rfl, h1, h2, by rw [r1.length, r2.length]; exact hz, fun p hp => Cf.lst c (r1.append r2) p hp⟩))
    · cases h
  · split at h
    · rename_i hz
      cases h
      obtain ⟨a, xs, rfl, h1, r1⟩ := sx.tupT
      obtain ⟨b, ys, rfl, h2, r2⟩ := sy.tupT
      refine .inr (.inr (.inl ⟨a, b, xs, ys, rfl, rfl, .inl (.inl h1), .inl (.inl h2), by rw [r1.length, r2.length]; exact hz, fun e => ?_, fun _ e => ?_, fun _ _ p hp => Cv.tup c (r1.append r2) p hp⟩))
      · subst e
        cases r1
        exact c _ _ _ .refl (.tup h2 r2)
      · subst e
        cases r2
        rw [List.append_nil] at c
        exact c _ _ _ .refl (.tup h1 r1)
    · cases h
def dSub : D → D → Option (Kd × D)
  | .int i, .int j => some (.v, .int (i - j))
  | _, _ => none
theorem g_sub : Op2 K (rI0 fun i j => .int (i - j)) dSub := by
  intro H O x y d e k z Q sx sy h c
  cases d <;> cases e <;> simp only [dSub] at h <;> try (cases h; done)
  cases h; exact ⟨_, _, sx.int, sy.int, Cv.int c⟩
def dMod : D → D → Option (Kd × D)
  | .int i, .int j => if j ≠ 0 then some (.v, .int (i.fmod j)) else none
  | _, _ => none
theorem g_mod : Op2 K (rI (fun _ j => j ≠ 0) fun i j => .int (i.fmod j)) dMod := by
  intro H O x y d e k z Q sx sy h c
  cases d <;> cases e <;> simp only [dMod] at h <;> try (cases h; done)
  split at h
  · rename_i hz; cases h; exact ⟨_, _, sx.int, sy.int, hz, Cv.int c⟩
  · cases h
def dDiv : D → D → Option (Kd × D)
  | .int i, .int j => if j ≠ 0 ∧ j.natAbs < 1073741824 then some (.v, .int (i.fdiv j)) else none
  | _, _ => none
theorem g_div : Op2 K (rI CDivN fun i j => .int (i.fdiv j)) dDiv := by
  intro H O x y d e k z Q sx sy h c
  cases d <;> cases e <;> simp only [dDiv] at h <;> try (cases h; done)
  split at h
  · rename_i hz; cases h; exact ⟨_, _, sx.int, sy.int, hz, Cv.int c⟩
  · cases h
def dPow : D → D → Option (Kd × D)
  | .int i, .int j => if 0 ≤ j ∧ j ≤ 1000000 ∧ i.natAbs < 2 ^ 64 then some (.v, .int (i ^ j.toNat)) else none
  | _, _ => none
theorem g_pow : Op2 K (rI CPow fun i j => .int (i ^ j.toNat)) dPow := by
  intro H O x y d e k z Q sx sy h c
  cases d <;> cases e <;> simp only [dPow] at h <;> try (cases h; done)
  split at h
  · rename_i hz; cases h; exact ⟨_, _, sx.int, sy.int, hz, Cv.int c⟩
  · cases h
theorem tuple_mul0 (l : Addr) (items : Array Value) (n : Nat) (dd : Option Addr) (sl : Array (Option Value)) (x : Int) (u : Tok) (c0 : (decide (x < -(2 ^ 63)) || decide (x ≥ 2 ^ 63)) = false) (c1 : (items.isEmpty || x == 1) = false) (c2 : (decide (x ≤ 0) || items.isEmpty) = true) :
    Meets (Builtin.«tuple.__mul__» ⟨[.ref l, .int x u], []⟩) (fun _ R s => s.heap.get? l = some { cls := .type "tuple", dict := dd, data := .seq items n, slots := sl } ∧
      R (.ok (.ret (Value.ref s.heap.objs.size))) { s with heap := s.heap.push { cls := Value.type "tuple", data := Data.seq #[] }, toks := s.toks }) :=
  .of_wp fun prog w A R s h => by
    obtain ⟨hp, g, d, tk, os⟩ := s
    obtain ⟨hl, h⟩ := h
    have f1 := AutoSeq1.idx_int
    wp_walk using wpAny_loadPart' hl
    repeat (first
      | (refine wpAny_ite_false (decide_eq_false (by rw [c0]; exact Bool.false_ne_true)) ?_; wp_walk using wpAny_loadPart' hl)
      | (refine wpAny_ite_false (decide_eq_false (by rw [c1]; exact Bool.false_ne_true)) ?_; wp_walk using wpAny_loadPart' hl)
      | (refine wpAny_ite_true (decide_eq_true c2) ?_; wp_walk using wpAny_loadPart' hl))
    exact ⟨_, rfl, h⟩
theorem tuple_mul1 (l : Addr) (items : Array Value) (n : Nat) (dd : Option Addr) (sl : Array (Option Value)) (u : Tok) :
    Meets (Builtin.«tuple.__mul__» ⟨[.ref l, .int 1 u], []⟩) (fun _ R s => s.heap.get? l = some { cls := .type "tuple", dict := dd, data := .seq items n, slots := sl } ∧
      R (.ok (.ret (Value.ref l))) s) :=
  .of_wp fun prog w A R s h => by
    obtain ⟨hp, g, d, tk, os⟩ := s
    obtain ⟨hl, h⟩ := h
    have f1 := AutoSeq1.idx_int
    have c0 : (decide ((1 : Int) < -(2 ^ 63)) || decide ((1 : Int) ≥ 2 ^ 63)) = false := by decide
    have c1 : (items.isEmpty || (1 : Int) == 1) = true := by simp
    wp_walk using wpAny_loadPart' hl
    repeat (first
      | (refine wpAny_ite_false (decide_eq_false (by rw [c0]; exact Bool.false_ne_true)) ?_; wp_walk using wpAny_loadPart' hl)
      | (refine wpAny_ite_true (decide_eq_true c1) ?_; wp_walk using wpAny_loadPart' hl))
    exact ⟨_, rfl, h⟩
def rRepS (K : PySem.W.Frag) : R2 := fun x y H Q => ∃ l k xs, x = .ref l ∧ y = .int k ∧ SqT K H l xs ∧ xs ≠ [] ∧ -(2 ^ 63) ≤ k ∧ k ≤ 1 ∧ (k = 1 → Q (.ref l) H) ∧ ∀ p, H p = none → k ≠ 1 → Q (.ref p) (upd H p (.tup []))
theorem op_repS {X : Cx} : OpR X (binaryOp .Mult) (rRepS X.K) := by
  intro pins s σ H x y v u Q I rx ry h
  obtain ⟨l, k, xs, rfl, rfl, hT, hne, h1, h2, q1, q⟩ := h
  cases rx
  obtain ⟨t, rfl⟩ := ry
  obtain ⟨its, r, ⟨⟨cls, dd, data, sl⟩, ho, hc, n, hd⟩, hs⟩ := I.tuple hT
  simp only at hc hd
  subst hc hd
  have hle : its.length = xs.length := r.length.symm
  have hn : its ≠ [] := fun e => hne (by
    rw [e] at hle
    exact List.eq_nil_of_length_eq_zero hle.symm)
  have hi : its.toArray.isEmpty = false := by
    cases its with
    | nil => exact absurd rfl hn
    | cons a b => rfl
  by_cases hk : k = 1
  · subst hk
    refine wpAny_binaryOp_repeat_ref (T := "tuple") (U := "int") (by decide) ⟨_, ho, rfl⟩ (fun s' => typeIs_int s' 1 t) noFill_tuple_mul F.fills_int_mul F.slot_int_rmul repeat_tuple F.slot_int_index.lookup
      (call_meets F.slot_int_rmul (typeIs_int s 1 t) F.entry_int_rmul (F.args_int_rmul_2 _ _) (int_rmul_tuple 1 t l its.toArray n dd sl)
        ⟨ho, rfl, ⟨_, ho, rfl⟩, call_meets F.slot_tuple_mul ⟨_, ho, rfl⟩ F.entry_tuple_mul (F.args_tuple_mul_2 _ _) (tuple_mul1 l its.toArray n dd sl t) ⟨ho, ?_⟩⟩)
    exact ⟨.ref l, _, I, rfl, q1 rfl⟩
  have c0 : (decide (k < -(2 ^ 63)) || decide (k ≥ 2 ^ 63)) = false := by
    rw [decide_eq_false (by omega), decide_eq_false (by omega)] <;> rfl
  have c1 : (its.toArray.isEmpty || k == 1) = false := by
    rw [hi, Bool.false_or]
    exact beq_eq_false_iff_ne.mpr (by omega)
  have c2 : (decide (k ≤ 0) || its.toArray.isEmpty) = true := by
    rw [decide_eq_true (by omega)]; rfl
  refine wpAny_binaryOp_repeat_ref (T := "tuple") (U := "int") (by decide) ⟨_, ho, rfl⟩ (fun s' => typeIs_int s' k t) noFill_tuple_mul F.fills_int_mul F.slot_int_rmul repeat_tuple F.slot_int_index.lookup
    (call_meets F.slot_int_rmul (typeIs_int s k t) F.entry_int_rmul (F.args_int_rmul_2 _ _) (int_rmul_tuple k t l its.toArray n dd sl)
      ⟨ho, rfl, ⟨_, ho, rfl⟩, call_meets F.slot_tuple_mul ⟨_, ho, rfl⟩ F.entry_tuple_mul (F.args_tuple_mul_2 _ _) (tuple_mul0 l its.toArray n dd sl k t c0 c1 c2) ⟨ho, ?_⟩⟩)
  refine ⟨.ref s.heap.objs.size, _, I.laid (t' := s.toks) (o := .tup []) (fun b ob q => Heap.get?_push_of_some _ q) (Nat.le_refl _) ?_, rfl, q _ (I.hok.fresh (Nat.le_refl _)) hk⟩
  exact ⟨by simp, _, .nil, ⟨_, Heap.get?_push_size _ rfl, rfl, _, rfl⟩⟩
def dMul : D → D → Option (Kd × D)
  | .int i, .int j => if (-(2 ^ 64) < i ∧ i < 2 ^ 64) ∨ (-(2 ^ 64) < j ∧ j < 2 ^ 64) then some (.v, .int (i * j)) else none
  | .list xs, .int j => if -(2 ^ 63) ≤ j ∧ j < 2 ^ 63 ∧ xs.length * j.toNat ≤ sizeLine then some (.f, .list (List.replicate j.toNat xs).flatten) else none
  | .tuple xs, .int j => if xs ≠ [] ∧ -(2 ^ 63) ≤ j ∧ j ≤ 1000 ∧ xs.length ≤ 1000 then some (.v, .tuple (List.replicate j.toNat xs).flatten) else none
  | _, _ => none
def rMulA (K : Fg) : R2 := fun x y H Q => rI CMul (fun i j => .int (i * j)) x y H Q ∨ rRep x y H Q ∨ rRepT K x y H Q ∨ rRepS K x y H Q
theorem op_mulA : OpR X (binaryOp .Mult) (rMulA X.K) := OpR.or op_mul (OpR.or op_rep (OpR.or op_repT op_repS))
theorem RpAll.rep {H : Hp} {O : Ow} {xs : List V} {ds : List D} (r : RpAll K H O xs ds) : ∀ n : Nat, RpAll K H O (List.replicate n xs).flatten (List.replicate n ds).flatten
  | 0 => .nil
  | n + 1 => by
    have e : ∀ {α : Type} (l : List α), (List.replicate (n + 1) l).flatten = l ++ (List.replicate n l).flatten := fun l => by simp [List.replicate_succ]
    rw [e, e]
    exact r.append (RpAll.rep r n)
theorem g_mul : Op2 K (rMulA K) dMul := by
  intro H O x y d e k z Q sx sy h c
  cases d <;> cases e <;> simp only [dMul] at h <;> try (cases h; done)
  · split at h
    · rename_i hz; cases h; exact .inl ⟨_, _, sx.int, sy.int, hz, Cv.int c⟩
    · cases h
  · split at h
    · rename_i hz
      cases h
      obtain ⟨a, xs, rfl, h1, r1⟩ := sx.lst
      exact .inr (.inl ⟨a, _, xs, rfl, sy.int, h1, hz.1, hz.2.1, by rw [r1.length]; exact hz.2.2, fun p hp => Cf.lst c (r1.rep _) p hp⟩)
    · cases h
  · split at h
    · rename_i i0 hz
      cases h
      obtain ⟨a, xs, rfl, h1, r1⟩ := sx.tupT
      have hne : xs ≠ [] := fun e => hz.1 (by subst e; cases r1; rfl)
      by_cases hk : 2 ≤ i0
      · exact .inr (.inr (.inl ⟨a, _, xs, rfl, sy.int, .inl (.inl h1), hne, hk, hz.2.2.1, by rw [r1.length]; exact hz.2.2.2, fun p hp => Cv.tup c (r1.rep _) p hp⟩))
      · refine .inr (.inr (.inr ⟨a, _, xs, rfl, sy.int, .inl (.inl h1), hne, hz.2.1, by omega, fun e => ?_, fun p hp e => ?_⟩))
        · subst e
          have c' := c
          simp only [Int.toNat_one, List.replicate_succ, List.replicate_zero, List.flatten_cons, List.flatten_nil, List.append_nil] at c'
          exact c' _ _ _ .refl (.tup h1 r1)
        · have e0 : i0.toNat = 0 := by omega
          rw [e0] at c
          exact Cv.tup c .nil p hp
    · cases h
def dNeg : D → Option (Kd × D)
  | .int i => some (.v, .int (-i))
  | _ => none
theorem g_neg : Op1 K (rU fun i => .int (-i)) dNeg := by
  intro H O x d k z Q sx h c
  cases d <;> simp only [dNeg] at h <;> try (cases h; done)
  cases h; exact ⟨_, sx.int, Cv.int c⟩

/-! ### comparisons -/
def cEq : D → D → Option Bool
  | .int i, .int j => some (decide (i = j))
  | .str x, .str y => some (decide (x = y))
  | .bool x, .bool y => some (decide (x = y))
  | .none, .none => some true
  | x, y => if (SeqAt.shaped x && SeqAt.shaped y) = true then some (PyData.eqv x y) else none
def cNe (x y : D) : Option Bool := (cEq x y).map not
def rEqA (K : Fg) : R2 := fun x y H Q => rEq x y H Q ∨ rEqD K x y H Q
def rNeA (K : Fg) : R2 := fun x y H Q => rNe x y H Q ∨ rNeD K x y H Q
theorem op_eqA (hu : X.A.units + 64 < cLine) : OpR X (compareOp .Eq) (rEqA X.K) := OpR.or op_eq (op_eqD hu)
theorem op_neA (hu : X.A.units + 64 < cLine) : OpR X (compareOp .NotEq) (rNeA X.K) := OpR.or op_ne (op_neD hu)
theorem eq_core {H : Hp} {O : Ow} {x y : V} {d e : D} {b : Bool} (sx : See K H O x d) (sy : See K H O y e) (h : cEq d e = some b) :
    (scal x y = true ∧ decide (x = y) = b) ∨ ∃ d e, Dp K H x d ∧ Dp K H y e ∧ SeqAt.shaped d = true ∧ SeqAt.shaped e = true ∧ PyData.eqv d e = b := by
  unfold cEq at h
  split at h
  · cases h; rw [sx.int, sy.int]; exact .inl ⟨rfl, by simp⟩
  · cases h; rw [sx.str, sy.str]; exact .inl ⟨rfl, by simp⟩
  · cases h; rw [sx.bl, sy.bl]; exact .inl ⟨rfl, by simp⟩
  · cases h; rw [sx.non, sy.non]; exact .inl ⟨rfl, by simp⟩
  · split at h
    · rename_i hz
      rw [Bool.and_eq_true] at hz
      cases h
      exact .inr ⟨_, _, sx.dp (SeqAt.canLay_of_shaped hz.1), sy.dp (SeqAt.canLay_of_shaped hz.2), hz.1, hz.2, rfl⟩
    · cases h
theorem g_eq : CmpOk K (rEqA K) cEq := by
  intro H O x y d e b Q sx sy h c
  rcases eq_core sx sy h with ⟨q, rfl⟩ | ⟨d', e', q1, q2, q3, q4, rfl⟩
  · exact .inl ⟨q, c⟩
  · exact .inr ⟨d', e', q1, q2, q3, q4, c⟩
theorem g_ne : CmpOk K (rNeA K) cNe := by
  intro H O x y d e b Q sx sy h c
  unfold cNe at h
  cases q : cEq d e with
  | none => rw [q] at h; cases h
  | some b' =>
    rw [q] at h
    cases h
    rcases eq_core sx sy q with ⟨q', rfl⟩ | ⟨d', e', q1, q2, q3, q4, rfl⟩
    · exact .inl ⟨q', c⟩
    · exact .inr ⟨d', e', q1, q2, q3, q4, c⟩
def cI (p : Int → Int → Bool) : D → D → Option Bool
  | .int i, .int j => some (p i j)
  | _, _ => none
theorem g_cI (p : Int → Int → Bool) : CmpOk K (rI0 fun i j => .bl (p i j)) (cI p) := by
  intro H O x y d e b Q sx sy h c
  cases d <;> cases e <;> simp only [cI] at h <;> try (cases h; done)
  cases h; exact ⟨_, _, sx.int, sy.int, c⟩
abbrev cLt := cI fun i j => decide (i < j)
abbrev cLe := cI fun i j => decide (i ≤ j)
abbrev cGt := cI fun i j => decide (j < i)
abbrev cGe := cI fun i j => decide (j ≤ i)
/-- is None -/
def isNone : D → Bool
  | .none => true
  | _ => false
def cIs (x y : D) : Option Bool := match y with
  | .none => some (isNone x)
  | _ => none
def cIsN (x y : D) : Option Bool := match y with
  | .none => some (!isNone x)
  | _ => none
theorem See.isNon {H : Hp} {O : Ow} {v : V} {d : D} (h : See K H O v d) : decide (v = .non) = isNone d := by
  rcases h with h | ⟨a, e, _, h⟩
  · cases h <;> simp [isNone]
  · subst e
    cases d with
    | list _ => simp [isNone]
    | dict _ => simp [isNone]
    | _ => exact h.elim
theorem g_is : CmpOk K (fun x y H Q => y = .non ∧ Q (.bl (decide (x = .non))) H) cIs := by
  intro H O x y d e b Q sx sy h c
  cases e <;> simp only [cIs] at h <;> try (cases h; done)
  cases h
  exact ⟨sy.non, by rw [sx.isNon]; exact c⟩
theorem g_isN : CmpOk K (fun x y H Q => y = .non ∧ Q (.bl (!decide (x = .non))) H) cIsN := by
  intro H O x y d e b Q sx sy h c
  cases e <;> simp only [cIsN] at h <;> try (cases h; done)
  cases h
  refine ⟨sy.non, ?_⟩
  rw [sx.isNon]
  exact c
/-- in, of a list or a tuple -/
def cIn (x y : D) : Option Bool := match y with
  | .list ds => if (SeqAt.shaped x && SeqAt.shaped (.list ds)) = true then some (ds.any fun z => PyData.eqv z x) else none
  | .tuple ds => if (SeqAt.shaped x && SeqAt.shaped (.tuple ds)) = true then some (ds.any fun z => PyData.eqv z x) else none
  | _ => none
def cNotIn (x y : D) : Option Bool := match y with
  | .list ds => if (SeqAt.shaped x && SeqAt.shaped (.list ds)) = true then some (!ds.any fun z => PyData.eqv z x) else none
  | .tuple ds => if (SeqAt.shaped x && SeqAt.shaped (.tuple ds)) = true then some (!ds.any fun z => PyData.eqv z x) else none
  | _ => none
def rInT (K : Fg) : R2 := fun x y H Q => ∃ d ds, Dp K H x d ∧ Dp K H y (.tuple ds) ∧ SeqAt.shaped d = true ∧ SeqAt.shaped (.tuple ds) = true ∧ Q (.bl (ds.any fun z => PyData.eqv z d)) H
def rNotInT (K : Fg) : R2 := fun x y H Q => ∃ d ds, Dp K H x d ∧ Dp K H y (.tuple ds) ∧ SeqAt.shaped d = true ∧ SeqAt.shaped (.tuple ds) = true ∧ Q (.bl (!ds.any fun z => PyData.eqv z d)) H
theorem op_inT (hu : X.A.units + 65 < cLine) : OpR X (compareOp .In) (rInT X.K) := by
  intro pins s σ H x y v u Q I rx ry h
  obtain ⟨d, ds, hd, he, sd, se, q⟩ := h
  obtain ⟨as, r1⟩ := Dp.reads I d x v hd rx
  obtain ⟨bs, r2⟩ := Dp.reads I (.tuple ds) y u he ry
  exact SeqAt.in_tuple_reads r2 r1 (SeqAt.canLay_of_shaped se) (SeqAt.canLay_of_shaped sd) (PyProof.Rows.room_in_shaped sd hu) ⟨.bl _, H, I, rfl, q⟩
theorem op_notInT (hu : X.A.units + 65 < cLine) : OpR X (compareOp .NotIn) (rNotInT X.K) := by
  intro pins s σ H x y v u Q I rx ry h
  obtain ⟨d, ds, hd, he, sd, se, q⟩ := h
  obtain ⟨as, r1⟩ := Dp.reads I d x v hd rx
  obtain ⟨bs, r2⟩ := Dp.reads I (.tuple ds) y u he ry
  exact SeqAt.notIn_tuple_reads r2 r1 (SeqAt.canLay_of_shaped se) (SeqAt.canLay_of_shaped sd) (PyProof.Rows.room_in_shaped sd hu) ⟨.bl _, H, I, rfl, q⟩
def rInA (K : Fg) : R2 := fun x y H Q => rInD K x y H Q ∨ rInT K x y H Q
def rNotInA (K : Fg) : R2 := fun x y H Q => rNotInD K x y H Q ∨ rNotInT K x y H Q
theorem op_inA (hu : X.A.units + 65 < cLine) : OpR X (compareOp .In) (rInA X.K) := OpR.or (op_inD hu) (op_inT hu)
theorem op_notInA (hu : X.A.units + 65 < cLine) : OpR X (compareOp .NotIn) (rNotInA X.K) := OpR.or (op_notInD hu) (op_notInT hu)
theorem g_in : CmpOk K (rInA K) cIn := by
  intro H O x y d e b Q sx sy h c
  cases e <;> simp only [cIn] at h <;> try (cases h; done)
  · split at h
    · rename_i hz
      rw [Bool.and_eq_true] at hz
      cases h
      exact .inl ⟨d, _, sx.dp (SeqAt.canLay_of_shaped hz.1), sy.dp (SeqAt.canLay_of_shaped hz.2), hz.1, hz.2, c⟩
    · cases h
  · split at h
    · rename_i hz
      rw [Bool.and_eq_true] at hz
      cases h
      exact .inr ⟨d, _, sx.dp (SeqAt.canLay_of_shaped hz.1), sy.dp (SeqAt.canLay_of_shaped hz.2), hz.1, hz.2, c⟩
    · cases h
theorem g_notIn : CmpOk K (rNotInA K) cNotIn := by
  intro H O x y d e b Q sx sy h c
  cases e <;> simp only [cNotIn] at h <;> try (cases h; done)
  · split at h
    · rename_i hz
      rw [Bool.and_eq_true] at hz
      cases h
      exact .inl ⟨d, _, sx.dp (SeqAt.canLay_of_shaped hz.1), sy.dp (SeqAt.canLay_of_shaped hz.2), hz.1, hz.2, c⟩
    · cases h
  · split at h
    · rename_i hz
      rw [Bool.and_eq_true] at hz
      cases h
      exact .inr ⟨d, _, sx.dp (SeqAt.canLay_of_shaped hz.1), sy.dp (SeqAt.canLay_of_shaped hz.2), hz.1, hz.2, c⟩
    · cases h
end

/-! ### places, slices -/
def oneSign (c : Nat) : D := .str ⟨#[c]⟩
def dIx : D → D → Option (Kd × D)
  | .list ds, .int i => (atI ds i).map fun d => (.v, d)
  | .tuple ds, .int i => (atI ds i).map fun d => (.v, d)
  | .dict [(.none, .list ds)], .int i => (atI ds i).map fun d => (.v, d)
  | .str x, .int i => if x.length ≤ sizeLine then (atI x.cps.toList i).map fun c => (.v, oneSign c) else none
  | _, _ => none
theorem RpAll.atI {K : Fg} {H : Hp} {O : Ow} {vs : List V} {ds : List D} {i : Int} {d : D} (r : RpAll K H O vs ds) (h : atI ds i = some d) : ∃ v, L2.atI vs i = some v ∧ Rp K H O v d := by
  unfold L2.atI at h ⊢
  rw [r.length]
  cases e : ixN ds.length i with
  | none => rw [e] at h; cases h
  | some j =>
    rw [e] at h
    exact r.get h
section
variable {X : Cx} {K : Fg} {W : WX} {pos p2 : Pos} {a b e : Expr} {fa fb fe : ME} {ta tb te : TE}
theorem g_ix : Op2 K (rIx K) dIx := by
  intro H O x y d e k z Q sx sy h c
  cases e with
  | int i =>
    cases d with
    | list ds =>
      simp only [dIx] at h
      cases q : atI ds i with
      | none => rw [q] at h; cases h
      | some d =>
        rw [q] at h
        cases h
        obtain ⟨a, xs, rfl, h1, r1⟩ := sx.lst
        obtain ⟨v, h2, rp⟩ := r1.atI q
        exact .inl ⟨a, xs, i, v, rfl, sy.int, .of h1, h2, c _ _ _ .refl rp⟩
    | tuple ds =>
      simp only [dIx] at h
      cases q : atI ds i with
      | none => rw [q] at h; cases h
      | some d =>
        rw [q] at h
        cases h
        obtain ⟨a, xs, rfl, h1, r1⟩ := sx.tup
        obtain ⟨v, h2, rp⟩ := r1.atI q
        exact .inr (.inl ⟨a, xs, i, v, rfl, sy.int, h1, h2, c _ _ _ .refl rp⟩)
    | str x =>
      simp only [dIx] at h
      split at h
      · rename_i hz
        cases q : atI x.cps.toList i with
        | none => rw [q] at h; cases h
        | some n =>
          rw [q] at h
          cases h
          exact .inr (.inr ⟨x, i, n, sx.str, sy.int, hz, q, c _ _ _ .refl (.str _)⟩)
      · cases h
    | dict kvs =>
      unfold dIx at h
      split at h
      · rename_i e1 e2; cases e1
      · rename_i e1 e2; cases e1
      · rename_i ds i' e1 e2
        cases e1
        cases e2
        rcases sx with sx | ⟨a, _, _, w⟩
        · obtain ⟨a, xs, rfl, h1, r1⟩ := See.ro sx
          cases q : atI ds i with
          | none => rw [q] at h; cases h
          | some d =>
            rw [q] at h
            cases h
            obtain ⟨v, h2, rp⟩ := r1.atI q
            exact .inl ⟨a, xs, i, v, rfl, sy.int, h1.sq, h2, c _ _ _ .refl rp⟩
        · rcases w with ⟨l, _, e, _, _⟩ | ⟨l, _, w⟩ | ⟨_, _, _, _, _, e, _⟩
          · cases e
          · exact absurd rfl (w.noNone _ (List.mem_cons_self ..))
          · cases e
      · rename_i e1 e2; cases e1
      · cases h
    | _ => simp only [dIx] at h; cases h
  | _ => exfalso; unfold dIx at h; split at h <;> (first | cases h | (rename_i e1; cases e1))
theorem ix_any : IxR X (rIx X.K) := ix_seq
theorem se_ix (hs : PlainIx b) (ha : SE X W a ta fa) (hb : SE X W b tb fb) : SE X W (.Subscript a b pos) (tOp (rIx X.K) ta tb) (mOp2 dIx fa fb) := by
  obtain ⟨pa, ha⟩ := ha
  obtain ⟨pb, hb⟩ := hb
  refine ⟨pe_ix ix_any pa pb hs, fun ρ σ H O Q R h => two ha hb R h fun x y v u ρ2 H2 O2 rb R2 F2 sx sy _ h2 => ?_⟩
  obtain ⟨⟨k, z⟩, ez, h2⟩ := h2.opt
  exact g_ix H2 O2 v u x y k z Q sx sy ez (h2.ck k R2)
end
end L3
set_option Elab.async false
set_option linter.all false
set_option maxRecDepth 100000
set_option maxHeartbeats 4000000
set_option autoImplicit false
/-! L3J: slices, calls of built-ins, stores, methods of lists. -/
namespace L3
open PySem PySem.Spec L2

/-! ### slices -/
abbrev MO := Fr → RE (Option Int)
def orO : ORs (Option Int) (Option Int) := ⟨fun _ _ _ _ _ _ a b => a = b, fun _ h => h⟩
structure SO (X : Cx) (W : WX) (e : Option Expr) (t : TO) (f : MO) : Prop where
  p : PO X e t
  s : ∀ ρ σ H O Q, Rel X.K ρ σ H O → Want orO X.K X.mg W (f ρ) ρ σ H O Q → t σ H Q
def intOf : D → Option Int
  | .int i => some i
  | _ => none
def mNoPart : MO := fun ρ => .ok none ρ
def mPart (f : ME) : MO := fun ρ => (f ρ).bind fun r ρ1 => RE.opt (look r ρ1) fun d => RE.opt (intOf d) fun i => .ok (some i) ρ1
def cutL {α : Type} (xs : List α) (lo hi : Option Int) : List α := (xs.drop (HT.sIx xs.length 0 lo)).take (HT.sIx xs.length xs.length hi - HT.sIx xs.length 0 lo)
def dSl : D → Option Int → Option Int → Option (Kd × D)
  | .list ds, lo, hi => some (.f, .list (cutL ds lo hi))
  | .tuple ds, lo, hi => some (.v, .tuple (cutL ds lo hi))
  | .str x, lo, hi => if x.length ≤ sizeLine then some (.v, .str (cutS x lo hi)) else none
  | _, _, _ => none
def mSl (g : D → Option Int → Option Int → Option (Kd × D)) (f : ME) (l u : MO) : ME := fun ρ => (f ρ).bind fun r ρ1 => (l ρ1).bind fun i ρ2 => (u ρ2).bind fun j ρ3 => RE.opt (look r ρ3) fun d => RE.opt (g d i j) fun z => .ok (z.1.mk z.2) ρ3
def rSlAny (K : Fg) : V → Option Int → Option Int → Hp → VK → Prop := fun x lo hi H Q => rSlL K x lo hi H Q ∨ rSlA K x lo hi H Q ∨ rSlS x lo hi H Q
section
variable {X : Cx} {W : WX} {pos p2 : Pos} {e : Expr} {lo hi : Option Expr} {fe : ME} {te : TE} {tl th : TO} {fl fh : MO} {K : Fg}
theorem so_none : SO X W none tNoPart mNoPart := ⟨po_none, fun ρ σ H O Q R h => h none H O R .refl rfl⟩
theorem so_some (he : SE X W e te fe) : SO X W (some e) (tPart te) (mPart fe) := by
  refine ⟨po_some he.p, fun ρ σ H O Q R h => he.s ρ σ H O _ R (Want.bind h fun r ρ1 v H1 O1 e1 R1 F1 o1 h1 => ?_)⟩
  obtain ⟨d, ed, h1⟩ := h1.opt
  obtain ⟨i, ei, h1⟩ := h1.opt
  cases d with
  | int j =>
    cases ei
    exact ⟨_, (ORel.see1 o1 R F1 R1 ed).int, h1 _ H1 O1 R1 .refl rfl⟩
  | _ => cases ei
theorem RpAll.cut {H : Hp} {O : Ow} {xs : List V} {ds : List D} (r : RpAll K H O xs ds) (lo hi : Option Int) : RpAll K H O (cutV xs lo hi) (cutL ds lo hi) := by
  unfold cutV cutL
  rw [r.length]
  exact (r.drop _).take _
theorem cut_whole {α : Type} (xs : List α) (lo hi : Option Int) (h : HT.sIx xs.length 0 lo = 0 ∧ HT.sIx xs.length xs.length hi = xs.length) : cutL xs lo hi = xs := by
  unfold cutL
  rw [h.1, h.2]
  simp
theorem se_sl (he : SE X W e te fe) (hl : SO X W lo tl fl) (hh : SO X W hi th fh) : SE X W (.Subscript e (.Slice lo hi none p2) pos) (tSl (rSlAny X.K) te tl th) (mSl dSl fe fl fh) := by
  refine ⟨pe_slice (SlR.or sl_list (SlR.or sl_tupA sl_str)) he.p hl.p hh.p, fun ρ σ H O Q R h => he.s ρ σ H O _ R (Want.bind h fun r ρ1 v H1 O1 e1 R1 F1 o1 h1 => ?_)⟩
  refine hl.s ρ1 σ H1 O1 _ R1 (Want.bind h1 fun i ρ2 i' H2 O2 e2 R2 F2 o2 h2 => ?_)
  refine hh.s ρ2 σ H2 O2 _ R2 (Want.bind h2 fun j ρ3 j' H3 O3 e3 R3 F3 o3 h3 => ?_)
  have o2 : i = i' := o2
  have o3 : j = j' := o3
  subst o2 o3
  obtain ⟨d, ed, h3⟩ := h3.opt
  obtain ⟨⟨k, z⟩, ez, h3⟩ := h3.opt
  have sx := ORel.see o1 R F1 R1 (F2.trans F3) R3 ed
  have c := h3.ck k R3
  cases d with
  | list ds =>
    cases ez
    obtain ⟨a, xs, rfl, h1, r1⟩ := sx.lst
    exact .inl ⟨a, xs, rfl, .of h1, fun p hp => Cf.lst c (r1.cut i j) p hp⟩
  | tuple ds =>
    cases ez
    obtain ⟨a, xs, rfl, h1, r1⟩ := sx.tupT
    refine .inr (.inl ⟨a, xs, rfl, .inl (.inl h1), fun hw => ?_, fun _ p hp => Cv.tup c (r1.cut i j) p hp⟩)
    rw [cut_whole ds i j (by rw [← r1.length]; exact hw)] at c
    exact c _ _ _ .refl (.tup h1 r1)
  | str x =>
    have ez : (if x.length ≤ sizeLine then some (Kd.v, PyData.str (cutS x i j)) else none) = some (k, z) := ez
    by_cases hz : x.length ≤ sizeLine
    · rw [if_pos hz] at ez
      cases ez
      exact .inr (.inr ⟨x, sx.str, hz, Cv.str c⟩)
    · rw [if_neg hz] at ez; cases ez
  | _ => cases ez
end

/-! ### built-ins called with values -/
def lookAll : List Arg → Fr → Option (List D)
  | [], _ => some []
  | .val d :: r, ρ => (lookAll r ρ).map (d :: ·)
  | .place i :: r, ρ => (look (.place i) ρ).bind fun d => (lookAll r ρ).map (d :: ·)
inductive SeeAll (K : Fg) (H : Hp) (O : Ow) : List V → List D → Prop
  | nil : SeeAll K H O [] []
  | cons {v : V} {vs : List V} {d : D} {ds : List D} : See K H O v d → SeeAll K H O vs ds → SeeAll K H O (v :: vs) (d :: ds)
def mBi (g : List D → Option (Kd × D)) (fa : MAr) : ME := fun ρ => (fa ρ).bind fun args ρ1 => RE.opt (lookAll args ρ1) fun ds => RE.opt (g ds) fun z => .ok (z.1.mk z.2) ρ1
def CallOk (K : Fg) (r : List V → Hp → VK → Prop) (g : List D → Option (Kd × D)) : Prop := ∀ H O vs ds k z Q, SeeAll K H O vs ds → g ds = some (k, z) → Ck k K H O z Q → r vs H Q
theorem place_see {K : Fg} {ρ : Fr} {σ : L2.St} {H : Hp} {O : Ow} {i : Nat} {v : V} {d : D} (R : Rel K ρ σ H O) (h : σ[i]? = some (some v)) (e : look (.place i) ρ = some d) : See K H O v d := by
  have q := R.slot i
  cases es : ρ[i]? with
  | none => simp [look, es] at e
  | some s =>
    have q := q s es
    cases s with
    | no => simp [look, es] at e
    | val x =>
      simp [look, es] at e
      subst e
      obtain ⟨v', e2, h'⟩ := q
      rw [h] at e2; cases e2
      exact .inl h'
    | own x =>
      simp [look, es] at e
      subst e
      obtain ⟨a, e2, oa, w⟩ := q
      rw [h] at e2; cases e2
      exact .inr ⟨a, rfl, oa, w⟩
theorem lookAll_see {K : Fg} {ρ : Fr} {σ : L2.St} {H : Hp} {O : Ow} (R : Rel K ρ σ H O) : ∀ {args : List Arg} {vs : List V} {ds : List D}, args.length = vs.length →
    (∀ (j : Nat) a v, args[j]? = some a → vs[j]? = some v → match a with | .val d => Rp K H O v d | .place i => σ[i]? = some (some v)) → lookAll args ρ = some ds → SeeAll K H O vs ds
  | [], vs, ds, hl, hq, e => by
    cases vs with
    | nil => cases e; exact .nil
    | cons _ _ => simp at hl
  | .val d :: r, vs, ds, hl, hq, e => by
    cases vs with
    | nil => simp at hl
    | cons v vs =>
      have e : (lookAll r ρ).map (d :: ·) = some ds := e
      cases q : lookAll r ρ with
      | none => rw [q] at e; cases e
      | some l =>
        rw [q] at e
        cases e
        exact .cons (.inl (hq 0 (.val d) v (by simp) (by simp))) (lookAll_see R (by simpa using hl) (fun j a w h1 h2 => hq (j + 1) a w (by simpa using h1) (by simpa using h2)) q)
  | .place i :: r, vs, ds, hl, hq, e => by
    cases vs with
    | nil => simp at hl
    | cons v vs =>
      have e : ((look (.place i) ρ).bind fun d => (lookAll r ρ).map (d :: ·)) = some ds := e
      cases q0 : look (.place i) ρ with
      | none => rw [q0] at e; cases e
      | some d =>
        rw [q0] at e
        have e : (lookAll r ρ).map (d :: ·) = some ds := e
        cases q : lookAll r ρ with
        | none => rw [q] at e; cases e
        | some l =>
          rw [q] at e
          cases e
          exact .cons (place_see R (hq 0 (.place i) v (by simp) (by simp)) q0) (lookAll_see R (by simpa using hl) (fun j a w h1 h2 => hq (j + 1) a w (by simpa using h1) (by simpa using h2)) q)
section
variable {X : Cx} {W : WX} {p pos : Pos} {x : Str} {id T : String} {e : Expr} {es : List Expr} {ta : TA} {fa : MAr} {r : List V → Hp → VK → Prop} {g : List D → Option (Kd × D)} {K : Fg}
theorem bi_core {mg : Str → Option Value} (hg : CallOk K r g) (ha : TArs K mg W ta fa) : TEs K mg W (tCB r ta) (mBi g fa) := by
  intro ρ σ H O Q R h
  refine ha ρ σ H O _ R (Want.bind h fun args ρ1 vs H1 O1 e1 R1 F1 o1 h1 => ?_)
  obtain ⟨al, aq⟩ := o1
  obtain ⟨ds, ed, h1⟩ := h1.opt
  obtain ⟨⟨k, z⟩, ez, h1⟩ := h1.opt
  exact hg H1 O1 vs ds k z Q (lookAll_see R1 al aq ed) ez (h1.ck k R1)
theorem se_biB (hc : CallR X (.builtin id) r) (hG : CallOk X.K r g) (hg : Gl X x) (hm : X.mg x = none) (hv : bootBuiltins x = some (.builtin id)) (hn : x ≠ "__name__") (hdb : (x == ("__debug__" : Str)) = false) (he : starEach (e :: es) X.env = (false, eval e X.env) :: starEach es X.env) (hpl : (backTo pos (starEach es X.env)).any (·.1) = false)
    (ha : SAr X W (e :: es) ta fa) : SE X W (.Call (.Name x p) (e :: es) [] pos) (tCB r ta) (mBi g fa) := ⟨pe_callB hc hg hm hv ha.p hn hdb he hpl, bi_core hG ha.s⟩
theorem se_biT (hc : CallR X (.type T) r) (hG : CallOk X.K r g) (hg : Gl X x) (hm : X.mg x = none) (hv : bootBuiltins x = some (.type T)) (hn : x ≠ "__name__") (hdb : (x == ("__debug__" : Str)) = false) (he : starEach (e :: es) X.env = (false, eval e X.env) :: starEach es X.env) (hpl : (backTo pos (starEach es X.env)).any (·.1) = false)
    (ha : SAr X W (e :: es) ta fa) : SE X W (.Call (.Name x p) (e :: es) [] pos) (tCB r ta) (mBi g fa) := ⟨pe_callTy hc hg hm hv ha.p hn hdb he hpl, bi_core hG ha.s⟩
end
section
variable {X : Cx} {K : Fg}
/-- one argument -/
theorem SeeAll.one {H : Hp} {O : Ow} {vs : List V} {d : D} (h : SeeAll K H O vs [d]) : ∃ v, vs = [v] ∧ See K H O v d := by
  cases h with
  | cons a b => cases b; exact ⟨_, rfl, a⟩
theorem SeeAll.two {H : Hp} {O : Ow} {vs : List V} {d e : D} (h : SeeAll K H O vs [d, e]) : ∃ v u, vs = [v, u] ∧ See K H O v d ∧ See K H O u e := by
  cases h with
  | cons a b =>
    cases b with
    | cons b c => cases c; exact ⟨_, _, rfl, a, b⟩
def bAbs : List D → Option (Kd × D)
  | [.int i] => some (.v, .int (if i < 0 then -i else i))
  | _ => none
theorem g_abs : CallOk K (fun xs H Q => ∃ i, xs = [.int i] ∧ Q (.int (if i < 0 then -i else i)) H) bAbs := by
  intro H O vs ds k z Q s h c
  unfold bAbs at h
  split at h
  · cases h
    obtain ⟨v, rfl, s1⟩ := s.one
    exact ⟨_, by rw [s1.int], Cv.int c⟩
  · cases h
def bLen : List D → Option (Kd × D)
  | [.list l] => some (.v, .int l.length)
  | [.tuple l] => some (.v, .int l.length)
  | [.dict [(.none, .list l)]] => some (.v, .int l.length)
  | [.str x] => if x.length ≤ sizeLine then some (.v, .int x.length) else none
  | _ => none
theorem g_len : CallOk K (fun xs H Q => ∃ x n, xs = [x] ∧ LenV K x H n ∧ Q (.int n) H) bLen := by
  intro H O vs ds k z Q s h c
  unfold bLen at h
  split at h
  · cases h
    obtain ⟨v, rfl, s1⟩ := s.one
    obtain ⟨a, xs, rfl, h1, r1⟩ := s1.lst
    exact ⟨_, _, rfl, .inl ⟨xs, .of h1, r1.length.symm⟩, Cv.int c⟩
  · cases h
    obtain ⟨v, rfl, s1⟩ := s.one
    obtain ⟨a, xs, rfl, h1, r1⟩ := s1.tup
    exact ⟨_, _, rfl, .inr ⟨xs, h1, r1.length.symm⟩, Cv.int c⟩
  · cases h
    obtain ⟨v, rfl, s1⟩ := s.one
    rcases s1 with s1 | ⟨a, _, _, w⟩
    · obtain ⟨a, xs, rfl, h1, r1⟩ := See.ro s1
      exact ⟨_, _, rfl, .inl ⟨xs, h1.sq, r1.length.symm⟩, Cv.int c⟩
    · rcases w with ⟨l, _, e, _, _⟩ | ⟨l, _, w⟩ | ⟨_, _, _, _, _, e, _⟩
      · cases e
      · exact absurd rfl (w.noNone _ (List.mem_cons_self ..))
      · cases e
  · split at h
    · rename_i hz
      cases h
      obtain ⟨v, rfl, s1⟩ := s.one
      exact ⟨_, _, rfl, by rw [s1.str]; exact ⟨hz, rfl⟩, Cv.int c⟩
    · cases h
  · cases h
/-- a list's ints -/
def intsOf : List D → Option (List Int)
  | [] => some []
  | .int i :: r => (intsOf r).map (i :: ·)
  | _ :: _ => none
theorem intsOf_eq : ∀ {l : List D} {ns : List Int}, intsOf l = some ns → l = ns.map .int
  | [], ns, h => by cases h; rfl
  | .int i :: r, ns, h => by
    have h : (intsOf r).map (i :: ·) = some ns := h
    cases q : intsOf r with
    | none => rw [q] at h; cases h
    | some l => rw [q] at h; cases h; rw [intsOf_eq q]; rfl
  | .none :: _, _, h => by cases h
  | .bool _ :: _, _, h => by cases h
  | .str _ :: _, _, h => by cases h
  | .list _ :: _, _, h => by cases h
  | .tuple _ :: _, _, h => by cases h
  | .dict _ :: _, _, h => by cases h
theorem intsOf_map : ∀ ns : List Int, intsOf (ns.map .int) = some ns
  | [] => rfl
  | n :: r => by show (intsOf (r.map .int)).map (n :: ·) = _; rw [intsOf_map r]; rfl
theorem RpAll.ints {H : Hp} {O : Ow} : ∀ {xs : List V} {ns : List Int}, RpAll K H O xs (ns.map .int) → xs = ns.map V.int
  | _, [], .nil => rfl
  | _, n :: r, .cons a b => by cases a; rw [RpAll.ints b]; rfl
section
open PyProof.Rows
variable {prog : Program} {w : World} {A : Around} {E : Value → Shared → Prop} {s : Shared} {l : Addr} {its : List Value} {ns : List Int} {Q : Value → Shared → Prop}
theorem iter_intTup {xs : Array (Int × Tok)} (hl : s.heap.IsTuple l (intItems xs))
    (h : ∀ s₂ : Shared, s₂ = { s with heap := s.heap.push { cls := .type "tuple_iterator", data := .fields #[.ref l, .int 0 0] } } →
      (s₂.heap.IsTupleIter s.heap.objs.size l 0 ∧ s₂.heap.IsTuple l (intItems xs)) → (∀ b ∈ [s.heap.objs.size, l], b < s₂.heap.objs.size) → l ≠ s.heap.objs.size → Q (.ref s.heap.objs.size) s₂) :
    wpAny (model prog w) A (pyIter (.ref l)) Q E s := by
  have hlt : l < s.heap.objs.size := by obtain ⟨_, e, _⟩ := hl; exact Heap.lt_size e
  refine wpAny_pyIter_tuple hl (h _ rfl ⟨⟨_, Heap.get?_push_size _ rfl, rfl, rfl⟩, hl.push _⟩ (fun b hb => ?_) (Nat.ne_of_lt hlt))
  show b < (s.heap.push _).objs.size
  rw [Heap.size_push]
  rcases List.mem_cons.mp hb with rfl | hb
  · exact Nat.lt_succ_self _
  · rcases List.mem_cons.mp hb with rfl | hb
    · exact Nat.lt_succ_of_lt hlt
    · cases hb
theorem max_intTup {xs : Array (Int × Tok)} (hh : A.handled = none) (hl : s.heap.IsTuple l (intItems xs)) (hne : 0 < xs.size)
    (h : ∀ v h' tk, (intItems xs)[argBest (fun i j => decide (numAt xs i > numAt xs j)) (xs.size - 1)]? = some v → (∀ b o, s.heap.get? b = some o → h'.get? b = some o) → Q v { s with heap := h', toks := tk }) :
    wpAny (model prog w) A (call (.builtin "max") [.ref l]) Q E s := by
  refine call_max_walk (iter_intTup hl fun s₂ e st hfp hlI => ?_)
  subst e
  refine ⟨_, _, _, _, _, _, _, rfl, Walks.tuple (A := A.in1) hh _ l hlI (intItems xs), st, hfp, by simpa [intItems] using hne, CmpOf.ints_gt (numAt xs) (fun _ _ => intItems_at), fun v h' tk hP hk => ?_⟩
  exact h v h' tk (by simpa [intItems] using hP) fun b o e => hk b o (fun hb => absurd (Heap.lt_size e) ((List.mem_singleton.mp hb) ▸ Nat.lt_irrefl _)) (Heap.get?_push_of_some _ e)
theorem min_intTup {xs : Array (Int × Tok)} (hh : A.handled = none) (hl : s.heap.IsTuple l (intItems xs)) (hne : 0 < xs.size)
    (h : ∀ v h' tk, (intItems xs)[argBest (fun i j => decide (numAt xs i < numAt xs j)) (xs.size - 1)]? = some v → (∀ b o, s.heap.get? b = some o → h'.get? b = some o) → Q v { s with heap := h', toks := tk }) :
    wpAny (model prog w) A (call (.builtin "min") [.ref l]) Q E s := by
  refine call_min_walk (iter_intTup hl fun s₂ e st hfp hlI => ?_)
  subst e
  refine ⟨_, _, _, _, _, _, _, rfl, Walks.tuple (A := A.in1) hh _ l hlI (intItems xs), st, hfp, by simpa [intItems] using hne, CmpOf.ints_lt (numAt xs) (fun _ _ => intItems_at), fun v h' tk hP hk => ?_⟩
  exact h v h' tk (by simpa [intItems] using hP) fun b o e => hk b o (fun hb => absurd (Heap.lt_size e) ((List.mem_singleton.mp hb) ▸ Nat.lt_irrefl _)) (Heap.get?_push_of_some _ e)
theorem sum_tupRaw (hh : A.handled = none) (hl : s.heap.IsTuple l its.toArray) (hi : IntsAre its ns)
    (h : ∀ h' tk t', (∀ b o, s.heap.get? b = some o → h'.get? b = some o) → Q (.int ns.sum t') { s with heap := h', toks := tk }) : wpAny (model prog w) A (call (.builtin "sum") [.ref l]) Q E s := by
  obtain ⟨xs, e⟩ := hi.allInts.items
  have hn : numsOf (intItems xs).toList = ns := by rw [← e]; exact hi.numsOf
  rw [nums_intItems] at hn
  rw [e] at hl
  refine PySem.W.ktm_sumG hh hl fun h' tk t' hk => ?_
  have := h h' tk t' hk
  rw [preSum_eq, List.take_of_length_le (by simp), hn]; exact this
theorem max_tupRaw (hh : A.handled = none) (hl : s.heap.IsTuple l its.toArray) (hi : IntsAre its ns) (hne : 0 < ns.length)
    (h : ∀ h' tk M t', (∀ b o, s.heap.get? b = some o → h'.get? b = some o) → M ∈ ns → (∀ a, a ∈ ns → a ≤ M) → Q (.int M t') { s with heap := h', toks := tk }) : wpAny (model prog w) A (call (.builtin "max") [.ref l]) Q E s := by
  obtain ⟨xs, e⟩ := hi.allInts.items
  have hn : numsOf (intItems xs).toList = ns := by rw [← e]; exact hi.numsOf
  rw [nums_intItems] at hn
  subst hn
  rw [e] at hl
  have hsz : 0 < xs.size := by simpa using hne
  refine max_intTup hh hl hsz fun v h' tk hv hk => ?_
  obtain ⟨t, rfl⟩ := intItems_at hv
  obtain ⟨h1, h2⟩ := argBest_gt (numAt xs) (xs.size - 1)
  refine h h' tk _ t hk ?_ fun a ha => ?_
  · rw [numAt_eq]; exact PySem.getD_mem (by rw [List.length_map, Array.length_toList]; omega)
  · obtain ⟨j, hj, rfl⟩ := mem_getD ha
    rw [List.length_map, Array.length_toList] at hj
    rw [← numAt_eq]; exact h2 j (by omega)
theorem min_tupRaw (hh : A.handled = none) (hl : s.heap.IsTuple l its.toArray) (hi : IntsAre its ns) (hne : 0 < ns.length)
    (h : ∀ h' tk M t', (∀ b o, s.heap.get? b = some o → h'.get? b = some o) → M ∈ ns → (∀ a, a ∈ ns → M ≤ a) → Q (.int M t') { s with heap := h', toks := tk }) : wpAny (model prog w) A (call (.builtin "min") [.ref l]) Q E s := by
  obtain ⟨xs, e⟩ := hi.allInts.items
  have hn : numsOf (intItems xs).toList = ns := by rw [← e]; exact hi.numsOf
  rw [nums_intItems] at hn
  subst hn
  rw [e] at hl
  have hsz : 0 < xs.size := by simpa using hne
  refine min_intTup hh hl hsz fun v h' tk hv hk => ?_
  obtain ⟨t, rfl⟩ := intItems_at hv
  obtain ⟨h1, h2⟩ := argBest_lt (numAt xs) (xs.size - 1)
  refine h h' tk _ t hk ?_ fun a ha => ?_
  · rw [numAt_eq]; exact PySem.getD_mem (by rw [List.length_map, Array.length_toList]; omega)
  · obtain ⟨j, hj, rfl⟩ := mem_getD ha
    rw [List.length_map, Array.length_toList] at hj
    rw [← numAt_eq]; exact h2 j (by omega)
end
def rSumT (K : Fg) : List V → Hp → VK → Prop := fun vs H Q => ∃ (a : Addr) (ns : List Int), vs = [V.ref a] ∧ SqT K H a (ns.map V.int) ∧ Q (.int ns.sum) H
def rMaxT (K : Fg) : List V → Hp → VK → Prop := fun vs H Q => ∃ (a : Addr) (ns : List Int), vs = [V.ref a] ∧ SqT K H a (ns.map V.int) ∧ 0 < ns.length ∧ ∀ m, m ∈ ns → (∀ y, y ∈ ns → y ≤ m) → Q (.int m) H
def rMinT (K : Fg) : List V → Hp → VK → Prop := fun vs H Q => ∃ (a : Addr) (ns : List Int), vs = [V.ref a] ∧ SqT K H a (ns.map V.int) ∧ 0 < ns.length ∧ ∀ m, m ∈ ns → (∀ y, y ∈ ns → m ≤ y) → Q (.int m) H
section
variable {X : Cx}
theorem cr_sumT (hc : X.calm = true) : CallR X (.builtin "sum") (rSumT X.K) := by
  intro pins s σ H vs us Q I r h
  obtain ⟨a, ns, rfl, hs, q⟩ := h
  obtain ⟨its, rv, hl, _⟩ := I.tuple hs
  rw [Vals.ref1 r]
  exact sum_tupRaw (I.ok.hd hc) hl rv.ints fun h' tk t' hk => ⟨.int _, H, I.kept hk, ⟨_, rfl⟩, q⟩
theorem cr_maxT (hc : X.calm = true) : CallR X (.builtin "max") (rMaxT X.K) := by
  intro pins s σ H vs us Q I r h
  obtain ⟨a, ns, rfl, hs, hne, q⟩ := h
  obtain ⟨its, rv, hl, _⟩ := I.tuple hs
  rw [Vals.ref1 r]
  exact max_tupRaw (I.ok.hd hc) hl rv.ints hne fun h' tk m t' hk h1 h2 => ⟨.int _, H, I.kept hk, ⟨_, rfl⟩, q m h1 h2⟩
theorem cr_minT (hc : X.calm = true) : CallR X (.builtin "min") (rMinT X.K) := by
  intro pins s σ H vs us Q I r h
  obtain ⟨a, ns, rfl, hs, hne, q⟩ := h
  obtain ⟨its, rv, hl, _⟩ := I.tuple hs
  rw [Vals.ref1 r]
  exact min_tupRaw (I.ok.hd hc) hl rv.ints hne fun h' tk m t' hk h1 h2 => ⟨.int _, H, I.kept hk, ⟨_, rfl⟩, q m h1 h2⟩
end
def rSumA (K : Fg) : List V → Hp → VK → Prop := fun vs H Q => rSum K vs H Q ∨ rSumT K vs H Q
def rMaxA (K : Fg) : List V → Hp → VK → Prop := fun xs H Q => (rMax K xs H Q ∨ ∃ i j, xs = [.int i, .int j] ∧ Q (.int (if j > i then j else i)) H) ∨ rMaxT K xs H Q
def rMinA (K : Fg) : List V → Hp → VK → Prop := fun xs H Q => (rMin K xs H Q ∨ ∃ i j, xs = [.int i, .int j] ∧ Q (.int (if j < i then j else i)) H) ∨ rMinT K xs H Q
def bSum : List D → Option (Kd × D)
  | [.list l] => (intsOf l).map fun ns => (.v, .int ns.sum)
  | [.tuple l] => (intsOf l).map fun ns => (.v, .int ns.sum)
  | _ => none
theorem g_sum : CallOk K (rSumA K) bSum := by
  intro H O vs ds k z Q s h c
  unfold bSum at h
  split at h
  · rename_i l
    cases q : intsOf l with
    | none => rw [q] at h; cases h
    | some ns =>
      rw [q] at h
      cases h
      obtain ⟨v, rfl, s1⟩ := s.one
      obtain ⟨a, xs, rfl, h1, r1⟩ := s1.lst
      have e := intsOf_eq q
      subst e
      rw [RpAll.ints r1] at h1
      exact .inl ⟨a, ns, rfl, .of h1, Cv.int c⟩
  · rename_i l
    cases q : intsOf l with
    | none => rw [q] at h; cases h
    | some ns =>
      rw [q] at h
      cases h
      obtain ⟨v, rfl, s1⟩ := s.one
      obtain ⟨a, xs, rfl, h1, r1⟩ := s1.tup
      have e := intsOf_eq q
      subst e
      rw [RpAll.ints r1] at h1
      exact .inr ⟨a, ns, rfl, h1, Cv.int c⟩
  · cases h
def maxI : List Int → Int
  | [] => 0
  | n :: r => r.foldl (fun m k => if k > m then k else m) n
def minI : List Int → Int
  | [] => 0
  | n :: r => r.foldl (fun m k => if k < m then k else m) n
theorem maxI_mem : ∀ {ns : List Int}, ns ≠ [] → maxI ns ∈ ns ∧ ∀ y ∈ ns, y ≤ maxI ns := by
  have gen : ∀ (r : List Int) (n : Int), (r.foldl (fun m k => if k > m then k else m) n = n ∨ r.foldl (fun m k => if k > m then k else m) n ∈ r) ∧ n ≤ r.foldl (fun m k => if k > m then k else m) n ∧ ∀ y ∈ r, y ≤ r.foldl (fun m k => if k > m then k else m) n := by
    intro r
    induction r with
    | nil => intro n; exact ⟨.inl rfl, Int.le_refl _, fun y h => by cases h⟩
    | cons k r ih =>
      intro n
      simp only [List.foldl_cons]
      obtain ⟨h1, h2, h3⟩ := ih (if k > n then k else n)
      by_cases q : k > n
      · simp only [q, if_true] at h1 h2 h3 ⊢
        refine ⟨h1.elim (fun e => .inr (by rw [e]; simp)) (fun e => .inr (by simp [e])), by omega, fun y hy => ?_⟩
        rcases List.mem_cons.mp hy with rfl | hy
        · exact h2
        · exact h3 y hy
      · simp only [q, if_false] at h1 h2 h3 ⊢
        refine ⟨h1.elim .inl (fun e => .inr (by simp [e])), h2, fun y hy => ?_⟩
        rcases List.mem_cons.mp hy with rfl | hy
        · omega
        · exact h3 y hy
  intro ns h
  cases ns with
  | nil => exact absurd rfl h
  | cons n r =>
    obtain ⟨h1, h2, h3⟩ := gen r n
    refine ⟨h1.elim (fun e => by show r.foldl _ n ∈ n :: r; rw [e]; simp) (fun e => by show r.foldl _ n ∈ n :: r; simp [e]), fun y hy => ?_⟩
    rcases List.mem_cons.mp hy with rfl | hy
    · exact h2
    · exact h3 y hy
theorem minI_mem : ∀ {ns : List Int}, ns ≠ [] → minI ns ∈ ns ∧ ∀ y ∈ ns, minI ns ≤ y := by
  have gen : ∀ (r : List Int) (n : Int), (r.foldl (fun m k => if k < m then k else m) n = n ∨ r.foldl (fun m k => if k < m then k else m) n ∈ r) ∧ r.foldl (fun m k => if k < m then k else m) n ≤ n ∧ ∀ y ∈ r, r.foldl (fun m k => if k < m then k else m) n ≤ y := by
    intro r
    induction r with
    | nil => intro n; exact ⟨.inl rfl, Int.le_refl _, fun y h => by cases h⟩
    | cons k r ih =>
      intro n
      simp only [List.foldl_cons]
      obtain ⟨h1, h2, h3⟩ := ih (if k < n then k else n)
      by_cases q : k < n
      · simp only [q, if_true] at h1 h2 h3 ⊢
        refine ⟨h1.elim (fun e => .inr (by rw [e]; simp)) (fun e => .inr (by simp [e])), by omega, fun y hy => ?_⟩
        rcases List.mem_cons.mp hy with rfl | hy
        · exact h2
        · exact h3 y hy
      · simp only [q, if_false] at h1 h2 h3 ⊢
        refine ⟨h1.elim .inl (fun e => .inr (by simp [e])), h2, fun y hy => ?_⟩
        rcases List.mem_cons.mp hy with rfl | hy
        · omega
        · exact h3 y hy
  intro ns h
  cases ns with
  | nil => exact absurd rfl h
  | cons n r =>
    obtain ⟨h1, h2, h3⟩ := gen r n
    refine ⟨h1.elim (fun e => by show r.foldl _ n ∈ n :: r; rw [e]; simp) (fun e => by show r.foldl _ n ∈ n :: r; simp [e]), fun y hy => ?_⟩
    rcases List.mem_cons.mp hy with rfl | hy
    · exact h2
    · exact h3 y hy
def bMax : List D → Option (Kd × D)
  | [.list l] => (intsOf l).bind fun ns => if ns = [] then none else some (.v, .int (maxI ns))
  | [.tuple l] => (intsOf l).bind fun ns => if ns = [] then none else some (.v, .int (maxI ns))
  | [.int i, .int j] => some (.v, .int (if j > i then j else i))
  | _ => none
def bMin : List D → Option (Kd × D)
  | [.list l] => (intsOf l).bind fun ns => if ns = [] then none else some (.v, .int (minI ns))
  | [.tuple l] => (intsOf l).bind fun ns => if ns = [] then none else some (.v, .int (minI ns))
  | [.int i, .int j] => some (.v, .int (if j < i then j else i))
  | _ => none
theorem g_max : CallOk K (rMaxA K) bMax := by
  intro H O vs ds k z Q s h c
  unfold bMax at h
  split at h
  · rename_i l
    cases q : intsOf l with
    | none => rw [q] at h; cases h
    | some ns =>
      rw [q] at h
      have h : (if ns = [] then none else some (Kd.v, PyData.int (maxI ns))) = some (k, z) := h
      by_cases hn : ns = []
      · rw [if_pos hn] at h; cases h
      · rw [if_neg hn] at h
        cases h
        obtain ⟨v, rfl, s1⟩ := s.one
        obtain ⟨a, xs, rfl, h1, r1⟩ := s1.lst
        have e := intsOf_eq q
        subst e
        rw [RpAll.ints r1] at h1
        refine .inl (.inl ⟨a, ns, rfl, .of h1, List.length_pos_iff.mpr hn, fun m hm hall => ?_⟩)
        obtain ⟨g1, g2⟩ := maxI_mem hn
        have : m = maxI ns := Int.le_antisymm (g2 m hm) (hall _ g1)
        rw [this]
        exact Cv.int c
  · rename_i l
    cases q : intsOf l with
    | none => rw [q] at h; cases h
    | some ns =>
      rw [q] at h
      have h : (if ns = [] then none else some (Kd.v, PyData.int (maxI ns))) = some (k, z) := h
      by_cases hn : ns = []
      · rw [if_pos hn] at h; cases h
      · rw [if_neg hn] at h
        cases h
        obtain ⟨v, rfl, s1⟩ := s.one
        obtain ⟨a, xs, rfl, h1, r1⟩ := s1.tup
        have e := intsOf_eq q
        subst e
        rw [RpAll.ints r1] at h1
        refine .inr (⟨a, ns, rfl, h1, List.length_pos_iff.mpr hn, fun m hm hall => ?_⟩)
        obtain ⟨g1, g2⟩ := maxI_mem hn
        have : m = maxI ns := Int.le_antisymm (g2 m hm) (hall _ g1)
        rw [this]
        exact Cv.int c
  · cases h
    obtain ⟨v, u, rfl, s1, s2⟩ := s.two
    exact .inl (.inr ⟨_, _, by rw [s1.int, s2.int], Cv.int c⟩)
  · cases h
theorem g_min : CallOk K (rMinA K) bMin := by
  intro H O vs ds k z Q s h c
  unfold bMin at h
  split at h
  · rename_i l
    cases q : intsOf l with
    | none => rw [q] at h; cases h
    | some ns =>
      rw [q] at h
      have h : (if ns = [] then none else some (Kd.v, PyData.int (minI ns))) = some (k, z) := h
      by_cases hn : ns = []
      · rw [if_pos hn] at h; cases h
      · rw [if_neg hn] at h
        cases h
        obtain ⟨v, rfl, s1⟩ := s.one
        obtain ⟨a, xs, rfl, h1, r1⟩ := s1.lst
        have e := intsOf_eq q
        subst e
        rw [RpAll.ints r1] at h1
        refine .inl (.inl ⟨a, ns, rfl, .of h1, List.length_pos_iff.mpr hn, fun m hm hall => ?_⟩)
        obtain ⟨g1, g2⟩ := minI_mem hn
        have : m = minI ns := Int.le_antisymm (hall _ g1) (g2 m hm)
        rw [this]
        exact Cv.int c
  · rename_i l
    cases q : intsOf l with
    | none => rw [q] at h; cases h
    | some ns =>
      rw [q] at h
      have h : (if ns = [] then none else some (Kd.v, PyData.int (minI ns))) = some (k, z) := h
      by_cases hn : ns = []
      · rw [if_pos hn] at h; cases h
      · rw [if_neg hn] at h
        cases h
        obtain ⟨v, rfl, s1⟩ := s.one
        obtain ⟨a, xs, rfl, h1, r1⟩ := s1.tup
        have e := intsOf_eq q
        subst e
        rw [RpAll.ints r1] at h1
        refine .inr (⟨a, ns, rfl, h1, List.length_pos_iff.mpr hn, fun m hm hall => ?_⟩)
        obtain ⟨g1, g2⟩ := minI_mem hn
        have : m = minI ns := Int.le_antisymm (hall _ g1) (g2 m hm)
        rw [this]
        exact Cv.int c
  · cases h
    obtain ⟨v, u, rfl, s1, s2⟩ := s.two
    exact .inl (.inr ⟨_, _, by rw [s1.int, s2.int], Cv.int c⟩)
  · cases h
def bTuple : List D → Option (Kd × D)
  | [.list l] => some (.v, .tuple l)
  | [.tuple l] => some (.v, .tuple l)
  | _ => none
theorem g_tuple : CallOk K (fun xs H Q => ∃ p ys, xs = [.ref p] ∧ ((SqL K H p ys ∧ ∀ l, H l = none → Q (.ref l) (upd H l (.tup ys))) ∨ (SqT K H p ys ∧ Q (.ref p) H))) bTuple := by
  intro H O vs ds k z Q s h c
  unfold bTuple at h
  split at h
  · cases h
    obtain ⟨v, rfl, s1⟩ := s.one
    obtain ⟨a, xs, rfl, h1, r1⟩ := s1.lst
    exact ⟨a, xs, rfl, .inl ⟨.of h1, fun p hp => Cv.tup c r1 p hp⟩⟩
  · cases h
    obtain ⟨v, rfl, s1⟩ := s.one
    obtain ⟨a, xs, rfl, h1, r1⟩ := s1.tupT
    exact ⟨a, xs, rfl, .inr ⟨.inl (.inl h1), c _ _ _ .refl (.tup h1 r1)⟩⟩
  · cases h
def bList : List D → Option (Kd × D)
  | [.list l] => some (.f, .list l)
  | [.tuple l] => some (.f, .list l)
  | _ => none
theorem g_list : CallOk K (fun xs H Q => ∃ p ys, xs = [.ref p] ∧ (SqL K H p ys ∨ SqT K H p ys) ∧ ∀ l, H l = none → Q (.ref l) (upd H l (.lst ys))) bList := by
  intro H O vs ds k z Q s h c
  unfold bList at h
  split at h
  · cases h
    obtain ⟨v, rfl, s1⟩ := s.one
    obtain ⟨a, xs, rfl, h1, r1⟩ := s1.lst
    exact ⟨a, xs, rfl, .inl (.of h1), fun p hp => Cf.lst c r1 p hp⟩
  · cases h
    obtain ⟨v, rfl, s1⟩ := s.one
    obtain ⟨a, xs, rfl, h1, r1⟩ := s1.tup
    exact ⟨a, xs, rfl, .inr h1, fun p hp => Cf.lst c r1 p hp⟩
  · cases h
/-- repr of data -/
def bRepr : List D → Option (Kd × D)
  | [d] => if (SeqAt.shaped d && d.showable && decide (d.shown.length ≤ sizeLine)) = true then some (.v, .str d.shown) else none
  | _ => none
def rRepr (K : Fg) : List V → Hp → VK → Prop := fun xs H Q => ∃ v d, xs = [v] ∧ Dp K H v d ∧ SeqAt.shaped d = true ∧ d.showable = true ∧ d.shown.length ≤ sizeLine ∧ Q (.str d.shown) H
theorem g_repr : CallOk K (rRepr K) bRepr := by
  intro H O vs ds k z Q s h c
  unfold bRepr at h
  split at h
  · rename_i d
    split at h
    · rename_i hz
      simp only [Bool.and_eq_true, decide_eq_true_eq] at hz
      cases h
      obtain ⟨v, rfl, s1⟩ := s.one
      exact ⟨v, d, rfl, s1.dp (SeqAt.canLay_of_shaped hz.1.1), hz.1.1, hz.1.2, hz.2, Cv.str c⟩
    · cases h
  · cases h
end
end L3
set_option Elab.async false
set_option linter.all false
set_option maxRecDepth 100000
set_option maxHeartbeats 4000000
set_option autoImplicit false
/-! L3K: the end of a law: its def as a function of the script. -/
namespace L3
open PySem PySem.Spec L2
open PyProof.Rows (AllBare)

abbrev scriptOf (ns : List Int) : PyData := .dict [(.none, .list (ns.map .int))]
theorem rpAll_ints {K : Fg} {H : Hp} {O : Ow} : ∀ ns : List Int, RpAll K H O (ns.map V.int) (ns.map PyData.int)
  | [] => .nil
  | n :: r => .cons (.int n) (rpAll_ints r)
section
variable {P : Program} {w : World} {K : Fg} {mg mb : Str → Option Value} {k : Nat} {fa a : Addr} {fd : FuncData} {x : Str} {F : ME} {s : Shared} {vs : List Value} {ns : List Int}
/-- nothing is tracked but the script (and not that, where it is one of the module's own) -/
def scriptHp (K : Fg) (a : Addr) (o : Obj) (xs : List V) : Hp := fun b => if b = a ∧ K.lookup a = none then some (.frz o (.lst xs)) else none
theorem law_run (KX : K.In s.heap) (hns : s.heap.Ns mainGlobals mg) (hb : s.heap.Ns builtinsNs mb) (hbb : ∀ x : Str, x ≠ "__name__" → mb x = bootBuiltins x) (hlim : s.heap.NoLimit) (hg : s.gens = #[])
    (ha : s.heap.get? a = some { cls := .type "list", data := .seq vs.toArray }) (hi : PyProof.Rows.IntsAre vs ns) (hl : ns.length ≤ sizeLine) (hr : Room k callerA)
    (G : ∀ base : Heap, K.In base → base.Ns mainGlobals mg → FnG P w K mg base k fa fd [x] (spF mg 1 [] F K)) (hbind : ∀ (s : Shared) (u : Value), BindsTo s fd ⟨[u], []⟩ [(x, u)])
    (hF : ∃ outs, F [.val (scriptOf ns)] = .ok (.val (.bool true)) outs) :
    codeAny (model P w) callerA (.call (.ref fa) ⟨[.ref a], []⟩) (fun r s' => r = .ok (.ret (.bool true)) ∧ OldK s.heap s'.heap ∧ s'.os = s.os ∧ AllBare s'.gens) s := by
  obtain ⟨H, eH⟩ : ∃ H, H = scriptHp K a { cls := .type "list", data := .seq vs.toArray } (ns.map V.int) := ⟨_, rfl⟩
  have rv := vals_ints hi
  have at' : ∀ b u, H b = some u → b = a ∧ K.lookup a = none ∧ u = .frz { cls := .type "list", data := .seq vs.toArray } (.lst (ns.map V.int)) := fun b u e => by
    rw [eH] at e
    unfold scriptHp at e
    split at e
    · rename_i h; cases e; exact ⟨h.1, h.2, rfl⟩
    · cases e
  have hok : HOk P w H s.heap := fun b u e => by
    obtain ⟨rfl, _, rfl⟩ := at' b u e
    exact ⟨ha, by rw [List.length_map]; exact hl, vs, _, rv, ha⟩
  have seen : SqR K H a (ns.map V.int) := by
    cases hk : K.lookup a with
    | none => exact .inl ⟨_, by rw [eH]; exact if_pos ⟨rfl, hk⟩⟩
    | some o =>
      have e := KX a o hk
      rw [ha] at e
      cases e
      exact .inr (.inr ⟨_, vs.toArray, _, hk, rfl, rfl, rfl, by rw [List.size_toArray, hi.length]; exact hl, by simpa using rv⟩)
  have free : ∀ b o, s.heap.get? b = some o → (b = a → K.lookup a ≠ none) → H b = none := fun b o e h => by
    cases q : H b with
    | none => rfl
    | some u => obtain ⟨z, y, _⟩ := at' b u q; exact absurd y (h z)
  have nsK : ∀ {b : Addr} {m : Str → Option Value}, s.heap.Ns b m → (hidT s.heap H).Ns b m := fun {b m} ⟨o, es, ep, e, d, r⟩ => ⟨o, es, ep, hidT_get e (free b o e fun z => by
    subst z
    rw [ha] at e; cases e
    cases d), d, r⟩
  have KB : K.In (hidT s.heap H) := fun b o e => hidT_get (KX b o e) (free b o (KX b o e) fun z => by subst z; rw [e]; intro y; cases y)
  have nof : ∀ b : Addr, b ∉ frs ([] : List Env) := fun b hb => by simp [frs] at hb
  have e0 : Env0 P w K mg (hidT s.heap H) callerA [] s H := ⟨rfl, ⟨KB, nsK hns, ⟨mb, nsK hb, hbb⟩, let ⟨mc, h1, h2⟩ := hlim; ⟨mc, nsK h1, h2⟩⟩, fun b o e => of_hidT e, Nat.le_of_eq (hidT_size _ _), trivial, fun b hb => absurd hb (nof b), hok, .of_eq hg⟩
  obtain ⟨outs, eF⟩ := hF
  have hsp : spF mg 1 [] F K [.ref a] H (fun v _ => v = .bl true) fun _ _ _ => False := by
    refine ⟨[.val (scriptOf ns)], fun _ => False, rfl, rfl, ⟨rfl, fun i t e => ?_, fun i j b d e h1 => ?_, fun _ h => h.elim⟩, fun j d h => ?_, ?_⟩
    · cases i with
      | zero => simp at e; subst e; exact ⟨_, rfl, .ro seen (rpAll_ints ns)⟩
      | succ i => simp at e
    · cases i with
      | zero => simp at h1
      | succ i => simp at h1
    · cases j with
      | zero => simp at h
      | succ j => simp at h
    · rw [eF]
      intro v H' O' R' F' o
      have o : Rp K H' O' v (.bool true) := o
      cases o
      rfl
  refine codeAny_mono ((G _ KB (nsK hns)).run callerA [] s H ⟨[.ref a], []⟩ [.ref a] [.ref a] _ _ hr rfl e0 (hbind s (.ref a)) (.cons rfl .nil) hsp) ?_
  rintro (e | fl) s' h
  · obtain ⟨_, _, _, _, _, _, _, _, _, _, _, _, z⟩ := h
    exact z.elim
  · cases fl with
    | ret u =>
      obtain ⟨v, H', os, bare, un, hok', r', q⟩ := h
      have q' : v = .bl true := q
      subst q'
      obtain rfl : u = Value.bool true := r'
      refine ⟨rfl, OldK.of_keep fun b o e => ?_, os, bare⟩
      cases q : H b with
      | none => exact un.keep b o e q (nof b) (by simp)
      | some t =>
        obtain ⟨rfl, _, rfl⟩ := at' b t q
        obtain ⟨e2, _⟩ := hok' _ _ (un.frzs _ _ _ q)
        rw [ha] at e; cases e
        exact e2
    | _ => exact h.elim
end
theorem law_end {l : PySem.W.OpenLaw} {n k : Nat} {q : Program} {loose : List Str} {XP : (Str → Option Value) → Heap → Prop} {YP : World → Heap → Prop} {d : DefRec} {K : Params → Fg} {F : ME} {x : Str}
    (hn : l.most = some n) (hn2 : n ≤ sizeLine) (hdf : d.params.defaults = []) (hr : Room k callerA) (hY : ∀ (w : World) (h : Heap), YP w h → (K w.params).In h)
    (hG : ∀ (w : World) (mg : Str → Option Value) (fa : Addr) (h : Heap), (K w.params).In h → h.Ns mainGlobals mg → mg d.name = some (.ref fa) →
      ∃ fd : FuncData, (∀ (s : Shared) (u : Value), BindsTo s fd ⟨[u], []⟩ [(x, u)]) ∧ ∀ base : Heap, (K w.params).In base → base.Ns mainGlobals mg → FnG l.prog w (K w.params) mg base k fa fd [x] (spF mg 1 [] F (K w.params)))
    (hF : ∀ ns : List Int, ns.length ≤ n → ∃ outs, F [.val (scriptOf ns)] = .ok (.val (.bool true)) outs) :
    PySem.W.WalkO q loose XP YP l.row.toRowW d [] (fun f vs => PySem.call f vs) := by
  refine Att.attach_call hn hdf fun w s₀ s mg mb fa o pm cd doc a vs ns G Y ho hd hcd hmg hobj hints hlen hg => ?_
  obtain ⟨fd, hb, hH⟩ := hG w mg fa _ (hY w _ Y) G.T.g hmg
  exact law_run (hY w _ Y) G.T.g G.T.b G.T.builtins G.T.nolimit hg hobj hints (Nat.le_trans hlen hn2) hr hH hb (hF ns hlen)
end L3
set_option Elab.async false
set_option linter.all false
set_option maxRecDepth 100000
set_option maxHeartbeats 4000000
set_option autoImplicit false
/-! L3L: repr; enumerate, zip; stores into lists, methods of lists; targets. -/
namespace L3
open PySem PySem.Spec L2

/-! ### repr -/
theorem cr_repr {X : Cx} (hu : X.A.units + 66 < cLine) (hG : X.A.guards = some []) : CallR X (.builtin "repr") (rRepr X.K) := by
  intro pins s σ H xs us Q I rv h
  obtain ⟨v, d, rfl, hd, hsh, hs, hz, q⟩ := h
  obtain ⟨u, rfl, ru⟩ := rv.one
  have cl := SeqAt.canLay_of_shaped hsh
  have dep := SeqAt.depth_of_shaped hsh
  obtain ⟨as, r⟩ := Dp.reads I d v u hd ru
  have fin : ∀ (h' : Heap) (t : Tok) (tk : Nat), (∀ b o, s.heap.get? b = some o → h'.get? b = some o) → EP X pins σ Q (.str d.shown t) { s with heap := h', toks := tk } := fun h' t tk hk => ⟨.str d.shown, H, I.kept hk, ⟨_, rfl⟩, q⟩
  cases d with
  | none =>
    cases hd
    cases ru
    exact P.repr_of_none (fin _ _ _ fun _ _ e => e)
  | bool b =>
    cases hd
    cases ru
    refine P.repr_of_bool ?_
    have := fin s.heap s.toks (s.toks + 1) fun _ _ e => e
    cases b <;> exact this
  | int i =>
    cases hd
    obtain ⟨t, rfl⟩ := ru
    exact P.repr_of_int (by simpa [PyData.showable] using hs) (fin _ _ _ fun _ _ e => e)
  | str x =>
    cases hd
    obtain ⟨t, rfl⟩ := ru
    exact P.repr_of_str (fin _ _ _ fun _ _ e => e) (by simpa [PyData.shown] using hz)
  | list ds =>
    cases hd
    cases ru
    exact repr_of_reads' r hs (PyData.noDict_hsm (PyData.hasDict_of_canLay _ cl)) hG (by omega) (fun _ _ e => e) fin hz
  | tuple ds =>
    cases hd
    cases ru
    exact repr_of_reads' r hs (PyData.noDict_hsm (PyData.hasDict_of_canLay _ cl)) hG (by omega) (fun _ _ e => e) fin hz
  | dict kvs => simp [PyData.canLay0] at cl

/-! ### enumerate -/
theorem meets_enumT (t : Addr) (items : Array Value) :
    Meets (Builtin.«enumerate.__new__» ⟨[.type "enumerate", .ref t], []⟩) (fun _ R s => s.heap.IsTuple t items ∧
      R (.ok (.ret (.ref (s.heap.push { cls := .type "tuple_iterator", data := .fields #[.ref t, .int 0 0] }).objs.size)))
        { s with heap := (s.heap.push { cls := .type "tuple_iterator", data := .fields #[.ref t, .int 0 0] }).push { cls := .type "enumerate", data := .fields #[.none, .bool false, .ref s.heap.objs.size, rawInt 0, .none, .none] } }) :=
  .of_wp fun prog w A R s h => by
    obtain ⟨hp, gs, dr, tk, ot⟩ := s
    obtain ⟨ht, h⟩ := h
    have hsub := sub_enumerate
    have hL : Heap.IsTuple (Shared.heap ⟨hp, gs, dr, tk, ot⟩) t items := ht
    wp_walk
    refine wpAny_stack_any fun st => wpAny_pure ?_
    split
    · rename_i c _ _ _ _ _
      cases (c == Value.type "enumerate")
      · wp_walk using wpAny_pyIter_tuple hL
        exact ⟨_, rfl, h⟩
      · wp_walk using wpAny_pyIter_tuple hL
        exact ⟨_, rfl, h⟩
    · wp_walk using wpAny_pyIter_tuple hL
      exact ⟨_, rfl, h⟩
theorem call_enumT {prog : Program} {w : World} {A : Around} {E : Value → Shared → Prop} {s : Shared} {t : Addr} {items : Array Value} {Q : Value → Shared → Prop} (ht : s.heap.IsTuple t items)
    (h : ∀ h', IsEnum h' (s.heap.objs.size + 1) s.heap.objs.size 0 .none → h'.IsTupleIter s.heap.objs.size t 0 → h'.objs.size = s.heap.objs.size + 2 → (∀ b o, s.heap.get? b = some o → h'.get? b = some o) → Q (.ref (s.heap.objs.size + 1)) { s with heap := h' }) :
    wpAny (model prog w) A (call (.type "enumerate") [.ref t]) Q E s := by
  refine callType_new F.called_enumerate (by decide) (F.typeCall_enumerate_1 _) (F.newCall_enumerate_1 _) (fun ob => F.args_object_init_2 ob _) F.entry_enumerate_new (meets_enumT t items) ⟨ht, ?_⟩
  generalize eo : ({ cls := .type "tuple_iterator", data := .fields #[.ref t, .int 0 0] } : Obj) = oi
  have fr : oi.isFreed = false := by subst eo; rfl
  have z1 : (s.heap.push oi).objs.size = s.heap.objs.size + 1 := Heap.size_push ..
  generalize ee : ({ cls := .type "enumerate", data := .fields #[.none, .bool false, .ref s.heap.objs.size, rawInt 0, .none, .none] } : Obj) = oe
  have fe : oe.isFreed = false := by subst ee; rfl
  show _ ∧ _
  rw [z1]
  have g1 : ((s.heap.push oi).push oe).get? (s.heap.objs.size + 1) = some oe := by
    have := Heap.get?_push_size (s.heap.push oi) (o := oe) fe
    rw [z1] at this
    exact this
  have he : IsEnum ((s.heap.push oi).push oe) (s.heap.objs.size + 1) s.heap.objs.size 0 .none := by
    subst ee
    exact g1
  refine ⟨⟨_, g1, by subst ee; rfl⟩, h _ he ⟨oi, Heap.get?_push_of_some _ (Heap.get?_push_size _ fr), by subst eo; rfl, by subst eo; rfl⟩ (by rw [Heap.size_push, z1]) fun b o q => Heap.get?_push_of_some _ (Heap.get?_push_of_some _ q)⟩
def IteT (K : Fg) (a : Addr) : It where
  go := fun i H => ∃ (xs : List V) (x : V), SqT K H a xs ∧ xs[i]? = some x
  yld := fun i H v H' => ∃ T x, v = .ref T ∧ H T = none ∧ H' = upd H T (.tup [.int (i : Nat), x]) ∧ ∀ xs, SqT K H a xs → xs[i]? = some x
  stop := fun i H => ∃ xs : List V, SqT K H a xs ∧ xs.length ≤ i
theorem turn_enumT {P : Program} {w : World} {K : Fg} {elts : List Expr} {kk : Nat} {tpos : Pos} (a e it : Addr) :
    Turn P w K (.Tuple elts kk tpos) (IteT K a) [e, it] e (fun i h => (∃ old, IsEnum h e it ((i : Nat) : Int) old) ∧ h.IsTupleIter it a i ∧ e ≠ it) where
  mem := List.mem_cons_self ..
  obj := fun i h st b hb => by
    obtain ⟨⟨old, he⟩, ⟨o, ho, hc, hd⟩, _⟩ := st
    rcases List.mem_cons.mp hb with z | hb
    · subst z; exact ⟨_, he, fun v q => nomatch q⟩
    · obtain rfl := List.mem_singleton.mp hb
      exact ⟨o, ho, fun v q => by rw [hd] at q; cases q⟩
  keep := fun i h h' st k => by
    obtain ⟨⟨old, he⟩, hi, hne⟩ := st
    exact ⟨⟨old, k e (List.mem_cons_self ..) _ he⟩, hi.at fun o q => k it (List.mem_cons_of_mem _ (List.mem_singleton.mpr rfl)) o q, hne⟩
  item := by
    intro X hP hw hK hc i pins s σ H E I hf st hg
    subst hP hw hK
    obtain ⟨⟨old, he⟩, hit, hne⟩ := st
    obtain ⟨xs, x, hq, hx⟩ := hg
    obtain ⟨its, rv, p, hz⟩ := I.tuple hq
    obtain ⟨u, hu, ru⟩ := rv.get hx
    have p : s.heap.IsTuple a its.toArray := p
    have le : e < s.heap.objs.size := Heap.lt_size he
    have li : it < s.heap.objs.size := by obtain ⟨_, q, _⟩ := hit; exact Heap.lt_size q
    have nea : e ≠ a := fun z => by
      obtain ⟨o, ho, hc2, _⟩ := p
      have he2 : s.heap.get? e = some _ := he
      rw [z, ho] at he2
      cases he2
      exact absurd hc2 (by simp)
    have nia : a ≠ it := fun z => by
      obtain ⟨o, ho, hc2, _⟩ := p
      obtain ⟨o', ho', hc', _⟩ := hit
      rw [z, ho'] at ho
      cases ho
      rw [hc'] at hc2
      exact absurd hc2 (by simp)
    have hh : X.A.in1.handled = none := I.ok.hd hc
    have hlt : i < its.toArray.size := by
      have := (List.getElem?_eq_some_iff.mp hu).1
      simpa using this
    refine wpAny_pyNext_enum_itemD (Draws.tuple hh it a nia its.toArray) he ⟨hit, p⟩ hlt hne (fun z => ?_) fun y h' tk hy ho hst hT hsz hk => ?_
    · rcases List.mem_cons.mp z with z | z
      · exact hne z
      · exact nea (List.mem_singleton.mp z)
    have ey : y = u := by
      have hy' : its.toArray[i]? = some y := hy
      have e2 : its.toArray[i]? = some u := by simpa using hu
      rw [e2] at hy'; cases hy'; rfl
    subst ey
    refine ⟨_, rfl, wpAny_letOwnedTupleGo_enum (s := { s with heap := h', toks := tk + 1 }) ho fun h2 he' sb => ?_⟩
    have hT2 : h2.get? s.heap.objs.size = some { cls := .type "tuple", data := .seq #[.int i tk, y] } := (sb.2 _ (Nat.ne_of_gt le)).trans hT
    have I1 : Inv X pins σ (upd H s.heap.objs.size (.tup [.int (i : Nat), x])) { s with heap := h2, toks := tk + 1 } :=
      I.turnedNew (ch := [e, it]) (fun b ob hb q => (sb.2 b (fun z => hb (by simp [z]))).trans (hk b ob (fun z => hb (by simp [z])) (fun z => hb (by simp [z])) q)) hf (Nat.le_refl _)
        ⟨by show 2 ≤ sizeLine; decide, [.int i tk, y], .cons ⟨_, rfl⟩ (.cons ru .nil), ⟨_, hT2, rfl, _, rfl⟩⟩
    refine ⟨.ref s.heap.objs.size, _, I1, rfl, ⟨_, x, rfl, I.hok.fresh (Nat.le_refl _), rfl, fun ys hy => by rw [I.tuple_inj hy hq]; exact hx⟩, ⟨⟨y, ?_⟩, hst.1.at fun o q => (sb.2 it (Ne.symm hne)).trans q, hne⟩, fun b hb => ?_⟩
    · rw [show ((i + 1 : Nat) : Int) = (i : Int) + 1 by omega]; exact he'
    · have : b < s.heap.objs.size := by
        rcases List.mem_cons.mp hb with z | hb
        · subst z; exact le
        · obtain rfl := List.mem_singleton.mp hb; exact li
      rw [upd_ne (Nat.ne_of_lt this)]
      exact (hf b hb).1
  done := by
    intro X hP hw hK hc i pins s σ H E I hf st hg
    subst hP hw hK
    obtain ⟨⟨old, he⟩, hit, hne⟩ := st
    obtain ⟨xs, hq, hx⟩ := hg
    obtain ⟨its, rv, p, hz⟩ := I.tuple hq
    have p : s.heap.IsTuple a its.toArray := p
    have nia : a ≠ it := fun z => by
      obtain ⟨o, ho, hc2, _⟩ := p
      obtain ⟨o', ho', hc', _⟩ := hit
      rw [z, ho'] at ho
      cases ho
      rw [hc'] at hc2
      exact absurd hc2 (by simp)
    obtain ⟨f0, f1, f2, f3, f4, f5⟩ := hf it (List.mem_cons_of_mem _ (List.mem_singleton.mpr rfl))
    have hl := rv.length
    have hh : X.A.in1.handled = none := I.ok.hd hc
    have D : Draws X.prog X.w X.A.in1 it [it, a] i (fun _ _ => True) (fun j h => j = i ∧ h.IsTupleIter it a i ∧ h.IsTuple a its.toArray) :=
      ⟨fun _ _ st => let ⟨o, ho, _⟩ := st.2.1; ⟨o, ho⟩, fun j h h' st hk => ⟨st.1, st.2.1.at fun o e => hk it (by simp) o e, st.2.2.at fun o e => hk a (by simp) o e⟩,
        fun j s Q E hj st hQ => absurd st.1 (Nat.ne_of_lt hj), fun s Q E st hE => wpAny_nextOf_tuple_end hh st.2.1 st.2.2 (by simp; omega) hE⟩
    exact wpAny_pyNext_enum_endD D he ⟨rfl, hit, p⟩ fun h' eb => ⟨rfl, I.turned (t' := s.toks) (fun b o hb q => eb b o hb q) f0 f1 f3 f4 f5⟩
  self := fun A i s Q E st h => let ⟨⟨_, he⟩, _⟩ := st; wpAny_pyIter_enum he h

def iEnumA (K : Fg) (ta : TA) : TI := fun σ H R => ta σ H fun vs H1 => ∃ a, vs = [.ref a] ∧ ((∃ xs, SqL K H1 a xs ∧ R (Ite K a) H1) ∨ ∃ xs, SqT K H1 a xs ∧ R (IteT K a) H1)
theorem pi_enumA {X : Cx} {e : Expr} {ta : TA} {p pos tpos : Pos} {elts : List Expr} {kk : Nat} (hg : Gl X "enumerate") (hm : X.mg "enumerate" = none) (hs : starEach [e] X.env = [(false, eval e X.env)]) (ha : PA X [e] ta) :
    PI X (.Tuple elts kk tpos) (.Call (.Name "enumerate" p) [e] [] pos) (iEnumA X.K ta) := by
  refine ⟨fun pins s σ H R I h => ?_⟩
  refine PyProof.Rows.Call_ (ld_blt I hg hm PyProof.Rows.boot_enumerate (PyProof.Rows.callWith_type1 (thn (ha.run pos pins s σ H _ I h) fun us s1 hz => ?_) hs rfl))
  obtain ⟨vs, H1, I1, r1, a, rfl, q1⟩ := hz
  obtain ⟨u, rfl, ru⟩ := r1.one
  cases ru
  have new2 : ∀ b, b ∈ [s1.heap.objs.size + 1, s1.heap.objs.size] → FpOk X pins H1 b := fun b hb => by
    have hle : s1.heap.objs.size ≤ b := by
      rcases List.mem_cons.mp hb with z | hb
      · omega
      · obtain rfl := List.mem_singleton.mp hb; exact Nat.le_refl _
    exact I1.fpOk hle (I1.hok.fresh hle)
  rcases q1 with ⟨xs, hq, q⟩ | ⟨xs, hq, q⟩
  · obtain ⟨its, rv, pl, hz⟩ := I1.list hq
    refine call_enumerate_list pl.isList fun h' he hit hsz hk => wpAny_pyIter_enum he ?_
    exact ⟨s1.heap.objs.size + 1, _, _, _, H1, rfl, I1.kept (t' := s1.toks) hk, turn_enum a (s1.heap.objs.size + 1) s1.heap.objs.size, ⟨⟨.none, he⟩, hit, Nat.succ_ne_self _⟩, new2, q⟩
  · obtain ⟨its, rv, pl, hz⟩ := I1.tuple hq
    refine call_enumT (show s1.heap.IsTuple a its.toArray from pl) fun h' he hit hsz hk => wpAny_pyIter_enum he ?_
    exact ⟨s1.heap.objs.size + 1, _, _, _, H1, rfl, I1.kept (t' := s1.toks) hk, turn_enumT a (s1.heap.objs.size + 1) s1.heap.objs.size, ⟨⟨.none, he⟩, hit, Nat.succ_ne_self _⟩, new2, q⟩
def numb : Nat → List D → List D
  | _, [] => []
  | k, d :: r => .tuple [.int (k : Nat), d] :: numb (k + 1) r
theorem numb_length : ∀ (l : List D) (k : Nat), (numb k l).length = l.length
  | [], _ => rfl
  | _ :: r, k => by unfold numb; rw [List.length_cons, List.length_cons, numb_length r]
theorem numb_get : ∀ (l : List D) (k i : Nat), (numb k l)[i]? = (l[i]?).map fun d => .tuple [.int ((k + i : Nat) : Int), d]
  | [], _, _ => by simp [numb]
  | d :: r, k, 0 => by simp [numb]
  | d :: r, k, i + 1 => by
    unfold numb
    rw [List.getElem?_cons_succ, List.getElem?_cons_succ, numb_get r (k + 1) i, show k + 1 + i = k + (i + 1) by omega]
section
variable {K : Fg} {H : Hp} {O : Ow} {a b : Addr} {xs ys : List V} {ds es : List D}
theorem pair_new {T : Addr} {x y : V} {d e : D} (hT : H T = none) (rx : Rp K H O x d) (ry : Rp K H O y e) : Gr H O (upd H T (.tup [x, y])) O ∧ Rp K (upd H T (.tup [x, y])) O (.ref T) (.tuple [d, e]) := by
  have g : Gr H O (upd H T (.tup [x, y])) O := Gr.new hT
  exact ⟨g, .tup upd_same (.cons (rx.keep g.kp) (.cons (ry.keep g.kp) .nil))⟩
theorem walk_enumL (h : H a = some (.lst xs)) (n : ¬ O a) (r : RpAll K H O xs ds) : Walk K (Ite K a) (numb 0 ds) H O where
  go := fun i H1 O1 k hi => by
    rw [numb_length] at hi
    obtain ⟨x, hx, _⟩ := r.get (List.getElem?_eq_getElem hi)
    exact ⟨xs, x, .of (k.keep _ _ h n).1, hx⟩
  stop := fun i H1 O1 k hi => ⟨xs, .of (k.keep _ _ h n).1, by rw [numb_length] at hi; rw [r.length]; exact hi⟩
  yld := fun i H1 O1 v H' k dm hi y => by
    rw [numb_length] at hi
    obtain ⟨T, x, rfl, hT, rfl, hx⟩ := y
    obtain ⟨x', hx', rp⟩ := r.get (List.getElem?_eq_getElem hi)
    have := hx xs (.of (k.keep _ _ h n).1)
    rw [hx'] at this
    cases this
    obtain ⟨g, rt⟩ := pair_new hT (.int (i : Nat)) (rp.keep k)
    exact ⟨_, by rw [numb_get, List.getElem?_eq_getElem hi]; rfl, g, by simpa using rt⟩
theorem walk_enumT (h : SqT K H a xs) (r : RpAll K H O xs ds) : Walk K (IteT K a) (numb 0 ds) H O where
  go := fun i H1 O1 k hi => by
    rw [numb_length] at hi
    obtain ⟨x, hx, _⟩ := r.get (List.getElem?_eq_getElem hi)
    exact ⟨xs, x, k.seqT h, hx⟩
  stop := fun i H1 O1 k hi => ⟨xs, k.seqT h, by rw [numb_length] at hi; rw [r.length]; exact hi⟩
  yld := fun i H1 O1 v H' k dm hi y => by
    rw [numb_length] at hi
    obtain ⟨T, x, rfl, hT, rfl, hx⟩ := y
    obtain ⟨x', hx', rp⟩ := r.get (List.getElem?_eq_getElem hi)
    have := hx xs (k.seqT h)
    rw [hx'] at this
    cases this
    obtain ⟨g, rt⟩ := pair_new hT (.int (i : Nat)) (rp.keep k)
    exact ⟨_, by rw [numb_get, List.getElem?_eq_getElem hi]; rfl, g, by simpa using rt⟩
def zipD : List D → List D → List D
  | x :: xs, y :: ys => .tuple [x, y] :: zipD xs ys
  | _, _ => []
theorem zipD_length : ∀ l m : List D, (zipD l m).length = min l.length m.length
  | [], m => by simp [zipD]
  | _ :: _, [] => by simp [zipD]
  | _ :: l, _ :: m => by simp only [zipD, List.length_cons, zipD_length l m]; omega
theorem zipD_get : ∀ (l m : List D) (i : Nat) (h : i < (zipD l m).length), ∃ x y, l[i]? = some x ∧ m[i]? = some y ∧ (zipD l m)[i]? = some (.tuple [x, y])
  | [], m, i, h => by simp [zipD] at h
  | _ :: _, [], i, h => by simp [zipD] at h
  | x :: l, y :: m, 0, h => ⟨x, y, rfl, rfl, rfl⟩
  | x :: l, y :: m, i + 1, h => by
    obtain ⟨u, v, h1, h2, h3⟩ := zipD_get l m i (by simpa [zipD] using h)
    exact ⟨u, v, by simpa using h1, by simpa using h2, by simpa [zipD] using h3⟩
theorem walk_zipL (h : H a = some (.lst xs)) (n : ¬ O a) (r : RpAll K H O xs ds) (h2 : H b = some (.lst ys)) (n2 : ¬ O b) (r2 : RpAll K H O ys es) : Walk K (Itz K a b) (zipD ds es) H O where
  go := fun i H1 O1 k hi => by
    obtain ⟨d, e, hd, he, _⟩ := zipD_get ds es i hi
    obtain ⟨x, hx, _⟩ := r.get hd
    obtain ⟨y, hy, _⟩ := r2.get he
    exact ⟨xs, ys, x, y, .of (k.keep _ _ h n).1, .of (k.keep _ _ h2 n2).1, hx, hy⟩
  stop := fun i H1 O1 k hi => ⟨xs, ys, .of (k.keep _ _ h n).1, .of (k.keep _ _ h2 n2).1, by rw [zipD_length] at hi; rw [r.length, r2.length]; omega⟩
  yld := fun i H1 O1 v H' k dm hi yy => by
    obtain ⟨d, e, hd, he, hz⟩ := zipD_get ds es i hi
    obtain ⟨T, x, y, rfl, hT, rfl, hx, hy⟩ := yy
    obtain ⟨x', hx', rp⟩ := r.get hd
    obtain ⟨y', hy', rp2⟩ := r2.get he
    have e1 := hx xs (.of (k.keep _ _ h n).1)
    have e2 := hy ys (.of (k.keep _ _ h2 n2).1)
    rw [hx'] at e1; cases e1
    rw [hy'] at e2; cases e2
    obtain ⟨g, rt⟩ := pair_new hT (rp.keep k) (rp2.keep k)
    exact ⟨_, hz, g, rt⟩
theorem walk_zipT (h : SqT K H a xs) (r : RpAll K H O xs ds) (h2 : SqT K H b ys) (r2 : RpAll K H O ys es) : Walk K (RZ.ItzT K a b) (zipD ds es) H O where
  go := fun i H1 O1 k hi => by
    obtain ⟨d, e, hd, he, _⟩ := zipD_get ds es i hi
    obtain ⟨x, hx, _⟩ := r.get hd
    obtain ⟨y, hy, _⟩ := r2.get he
    exact ⟨xs, ys, x, y, k.seqT h, k.seqT h2, hx, hy⟩
  stop := fun i H1 O1 k hi => ⟨xs, ys, k.seqT h, k.seqT h2, by rw [zipD_length] at hi; rw [r.length, r2.length]; omega⟩
  yld := fun i H1 O1 v H' k dm hi yy => by
    obtain ⟨d, e, hd, he, hz⟩ := zipD_get ds es i hi
    obtain ⟨T, x, y, rfl, hT, rfl, hx, hy⟩ := yy
    obtain ⟨x', hx', rp⟩ := r.get hd
    obtain ⟨y', hy', rp2⟩ := r2.get he
    have e1 := hx xs (k.seqT h)
    have e2 := hy ys (k.seqT h2)
    rw [hx'] at e1; cases e1
    rw [hy'] at e2; cases e2
    obtain ⟨g, rt⟩ := pair_new hT (rp.keep k) (rp2.keep k)
    exact ⟨_, hz, g, rt⟩
end
def mEnum (g : MA) : Fr → RE (List D) := fun ρ => (g ρ).bind fun ds ρ1 => match ds with
  | [d] => RE.opt (items d) fun l => .ok (numb 0 l) ρ1
  | _ => .bad
def mZip (g : MA) : Fr → RE (List D) := fun ρ => (g ρ).bind fun ds ρ1 => match ds with
  | [.list l, .list m] => .ok (zipD l m) ρ1
  | [.tuple l, .tuple m] => .ok (zipD l m) ρ1
  | _ => .bad
section
variable {X : Cx} {W : WX} {e e2 : Expr} {ta : TA} {g : MA} {p pos tpos : Pos} {elts : List Expr} {kk : Nat}
theorem RpAll.one {K : Fg} {H : Hp} {O : Ow} {vs : List V} {d : D} (h : RpAll K H O vs [d]) : ∃ v, vs = [v] ∧ Rp K H O v d := by
  cases h with
  | cons a b => cases b; exact ⟨_, rfl, a⟩
theorem RpAll.two {K : Fg} {H : Hp} {O : Ow} {vs : List V} {d e : D} (h : RpAll K H O vs [d, e]) : ∃ v u, vs = [v, u] ∧ Rp K H O v d ∧ Rp K H O u e := by
  cases h with
  | cons a b =>
    obtain ⟨u, rfl, r⟩ := b.one
    exact ⟨_, _, rfl, a, r⟩
theorem si_enum (hg : Gl X "enumerate") (hm : X.mg "enumerate" = none) (hs : starEach [e] X.env = [(false, eval e X.env)]) (ha : SA X W [e] ta g) : SI X W (.Tuple elts kk tpos) (.Call (.Name "enumerate" p) [e] [] pos) (iEnumA X.K ta) (mEnum g) := by
  refine ⟨pi_enumA hg hm hs ha.p, fun ρ σ H O R Rl h => ha.s ρ σ H O _ Rl (Want.bind h fun ds ρ1 vs H1 O1 e1 R1 F1 o1 h1 => ?_)⟩
  have o1 : RpAll X.K H1 O1 vs ds := o1
  cases ds with
  | nil => exact h1.elim
  | cons d dr =>
    cases dr with
    | cons _ _ => exact h1.elim
    | nil =>
      obtain ⟨v, rfl, r⟩ := o1.one
      obtain ⟨l, el, h1⟩ := Want.opt h1
      cases d with
      | list ds =>
        cases el
        cases r with
        | lst q n r => exact ⟨_, rfl, .inl ⟨_, .of q, h1 _ H1 O1 R1 .refl (walk_enumL q n r)⟩⟩
      | tuple ds =>
        cases el
        cases r with
        | tup q r => exact ⟨_, rfl, .inr ⟨_, .inl (.inl q), h1 _ H1 O1 R1 .refl (walk_enumT (.inl (.inl q)) r)⟩⟩
      | _ => cases el
theorem si_zip (hg : Gl X "zip") (hm : X.mg "zip" = none) (hs : starEach [e, e2] X.env = (false, eval e X.env) :: starEach [e2] X.env) (hpl : (backTo pos (starEach [e2] X.env)).any (·.1) = false) (ha : SA X W [e, e2] ta g) :
    SI X W (.Tuple elts kk tpos) (.Call (.Name "zip" p) [e, e2] [] pos) (RZ.iZipA X.K ta) (mZip g) := by
  refine ⟨RZ.pi_zipA hg hm ha.p hs hpl, fun ρ σ H O R Rl h => ha.s ρ σ H O _ Rl (Want.bind h fun ds ρ1 vs H1 O1 e1 R1 F1 o1 h1 => ?_)⟩
  have o1 : RpAll X.K H1 O1 vs ds := o1
  split at h1
  · obtain ⟨v, u, rfl, r, r2⟩ := o1.two
    cases r with
    | lst q n r => cases r2 with
      | lst q2 n2 r2 => exact ⟨_, _, _, _, rfl, .inl ⟨.of q, .of q2, h1 _ H1 O1 R1 .refl (walk_zipL q n r q2 n2 r2)⟩⟩
  · obtain ⟨v, u, rfl, r, r2⟩ := o1.two
    cases r with
    | tup q r => cases r2 with
      | tup q2 r2 => exact ⟨_, _, _, _, rfl, .inr ⟨.inl (.inl q), .inl (.inl q2), h1 _ H1 O1 R1 .refl (walk_zipT (.inl (.inl q)) r (.inl (.inl q2)) r2)⟩⟩
  · exact h1.elim
end

/-! ### a slot's own list is changed -/
section
variable {K : Fg} {ρ : Fr} {σ : L2.St} {H : Hp} {O : Ow}
theorem Rel.updSlot {j : Nat} {a : Addr} {d d' : D} {o' : HO} (R : Rel K ρ σ H O) (e : ρ[j]? = some (.own d)) (es : σ[j]? = some (some (.ref a))) (w : Kp H O (upd H a o') O → OwnRp K (upd H a o') O a d') :
    Rel K (ρ.set j (.own d')) σ (upd H a o') O ∧ Frm ρ σ H O (ρ.set j (.own d')) (upd H a o') O := by
  obtain ⟨oa, o, ho, nt, nf⟩ := R.owned ⟨j, d, e, es⟩
  have kp : Kp H O (upd H a o') O := ⟨fun b u h n => ⟨by rw [upd_ne (fun z => n (by rw [z]; exact oa))]; exact h, n⟩,
    fun b xs h => by rw [upd_ne (fun z => nt xs (by rw [z, ho] at h; cases h; rfl))]; exact h, fun b ob u h => by rw [upd_ne (fun z => nf ob u (by rw [z, ho] at h; cases h; rfl))]; exact h⟩
  have lj : j < ρ.length := (List.getElem?_eq_some_iff.mp e).1
  have own : ∀ (i : Nat) x, (ρ.set j (.own d'))[i]? = some (.own x) → ∃ y, ρ[i]? = some (.own y) := fun i x h => by
    rcases getElem?_set_cases h with ⟨rfl, _, _⟩ | ⟨_, h⟩
    · exact ⟨d, e⟩
    · exact ⟨x, h⟩
  refine ⟨⟨by rw [List.length_set]; exact R.len, fun i s h => ?_, fun i k b d1 d2 h1 h2 h3 h4 => ?_, fun b h => ?_⟩, ⟨fun b u h n => ⟨?_, .rfl⟩, fun b h => ?_, own, kp.tups, kp.frzs⟩⟩
  · rcases getElem?_set_cases h with ⟨rfl, _, rfl⟩ | ⟨ne, h⟩
    · exact ⟨a, es, oa, w kp⟩
    · have q := R.slot i s h
      cases s with
      | no => trivial
      | val x => obtain ⟨v, e1, r⟩ := q; exact ⟨v, e1, r.keep kp⟩
      | own x =>
        obtain ⟨b, e1, ob, w⟩ := q
        have nb : b ≠ a := fun z => ne (R.uniq j i a _ _ e h es (by rw [e1, z]))
        exact ⟨b, e1, ob, w.keep kp fun o h => by rw [upd_ne nb]; exact h⟩
  · obtain ⟨_, q1⟩ := own i d1 h1
    obtain ⟨_, q2⟩ := own k d2 h2
    exact R.uniq i k b _ _ q1 q2 h3 h4
  · by_cases z : b = a
    · subst z; rw [upd_same]; intro y; cases y
    · rw [upd_ne z]; exact R.dom b h
  · rw [upd_ne (fun z => n (by rw [z]; exact ⟨j, d, e, es⟩))]; exact h
  · by_cases z : b = a
    · subst z; rw [upd_same]; intro y; cases y
    · rw [upd_ne z]; exact h
end
/-- a method of a list that a slot owns: the list behind it, what it tells -/
abbrev LM := List D → List D → Option (List D × D)
def ownL (j : Nat) (ρ : Fr) : Option (List D) := match ρ[j]? with
  | some (.own (.list l)) => some l
  | _ => none
theorem ownL_some {j : Nat} {ρ : Fr} {l : List D} (h : ownL j ρ = some l) : ρ[j]? = some (.own (.list l)) := by
  unfold ownL at h
  split at h
  · rename_i q e; cases h; exact e
  · cases h
def mMeth (j : Nat) (g : LM) (fa : MA) : ME := fun ρ => RE.opt (ownL j ρ) fun _ => (fa ρ).bind fun args ρ1 => RE.opt (ownL j ρ1) fun l => RE.opt (g l args) fun z => .ok (.val z.2) (ρ1.set j (.own (.list z.1)))
/-- r does to lists of values what g does to lists of data -/
def MethOk (K : Fg) (r : V → List V → Hp → VK → Prop) (g : LM) : Prop := ∀ (a : Addr) (H : Hp) (O : Ow) (xs vs : List V) (l args l' : List D) (z : D) (Q : VK), H a = some (.lst xs) → RpAll K H O xs l → RpAll K H O vs args → g l args = some (l', z) →
  (∀ xs' v, RpAll K H O xs' l' → Rp K H O v z → Q v (upd H a (.lst xs'))) → r (.ref a) vs H Q
theorem own_list {K : Fg} {ρ : Fr} {σ : L2.St} {H : Hp} {O : Ow} {j : Nat} {l : List D} (R : Rel K ρ σ H O) (h : ownL j ρ = some l) : ∃ a xs, σ[j]? = some (some (.ref a)) ∧ O a ∧ H a = some (.lst xs) ∧ RpAll K H O xs l := by
  obtain ⟨a, e1, oa, xs, hx, r⟩ := R.slot j _ (ownL_some h)
  exact ⟨a, xs, e1, oa, hx, r⟩
section
variable {X : Cx} {W : WX} {e : Expr} {es : List Expr} {x : Str} {ta : TA} {fa : MA} {p apos cpos : Pos} {name : Str} {id : String} {r : V → List V → Hp → VK → Prop} {g : LM} {j : Nat}
theorem meth_core {K : Fg} {mg : Str → Option Value} (hG : MethOk K r g) (ha : TAs K mg W ta fa) : TEs K mg W (tBM K "list" r (tVar j) ta) (mMeth j g fa) := by
  intro ρ σ H O Q R h
  obtain ⟨l0, el0, h⟩ := h.opt
  obtain ⟨a, xs0, es0, _, hx0, _⟩ := own_list R el0
  refine ⟨_, es0, .inl ⟨rfl, xs0, .of hx0⟩, ha ρ σ H O _ R (Want.bind h fun args ρ1 vs H1 O1 e1 R1 F1 o1 h1 => ?_)⟩
  have o1 : RpAll K H1 O1 vs args := o1
  obtain ⟨l, el, h1⟩ := h1.opt
  obtain ⟨⟨l', z⟩, ez, h1⟩ := h1.opt
  obtain ⟨a', xs, es1, oa, hx, rx⟩ := own_list R1 el
  rw [es0] at es1
  cases es1
  refine hG a H1 O1 xs vs l args l' z Q hx rx o1 ez fun xs' v r' rv => ?_
  obtain ⟨R2, F2⟩ := R1.updSlot (d' := .list l') (o' := .lst xs') (ownL_some el) es0 fun kp => ⟨xs', upd_same, r'.keep kp⟩
  exact h1 v _ O1 R2 F2 (rv.keep (F2.kp R1))
theorem meth_core0 {K : Fg} {mg : Str → Option Value} (hG : MethOk K r g) : TEs K mg W (tBM0 K "list" r (tVar j)) (mMeth j g mNil) := by
  intro ρ σ H O Q R h
  have := meth_core (W := W) (mg := mg) (ta := tNil) (fa := mNil) (j := j) hG (fun ρ σ H O Q R h => h [] H O R .refl .nil) ρ σ H O Q R h
  obtain ⟨v, e1, ty, q⟩ := this
  exact ⟨v, e1, ty, q⟩
theorem se_meth (slot : PySem.Slot "list" name id) (hty : typeOf (.builtin id) = pure (.type "method_descriptor")) (hm : MtR X id r) (hG : MethOk X.K r g) (hN : X.N[j]? = some x) (hv : Vis X.env.scope x) (hd : (x == ("__debug__" : Str)) = false) (hcd : (x == ("__classdict__" : Str)) = false)
    (hbase : attributeBase (.Name x p) name X.env (eval (.Name x p) X.env) = eval (.Name x p) X.env)
    (hfew : ((backTo cpos (starEach (e :: es) X.env)).all (fun x => !x.1) && (backToKw cpos (keywordEach [] X.env)).all (fun x => x.1.isSome) && decide ((e :: es).length + ([] : List Keyword).length + (if ([] : List Keyword).isEmpty then 0 else 1) < 30)) = true)
    (hline : (apos.endLine == cpos.line) = true) (hs : starEach (e :: es) X.env = (false, eval e X.env) :: starEach es X.env) (hplain : (backTo cpos (starEach es X.env)).any (·.1) = false) (ha : SA X W (e :: es) ta fa) :
    SE X W (.Call (.Attribute (.Name x p) name apos) (e :: es) [] cpos) (tBM X.K "list" r (tVar j) ta) (mMeth j g fa) :=
  ⟨pe_bm F.plainAttrs_list slot hty hm (pe_var hN hv hd hcd) ha.p hbase hfew hline hs hplain, meth_core hG ha.s⟩
theorem se_meth0 (slot : PySem.Slot "list" name id) (hty : typeOf (.builtin id) = pure (.type "method_descriptor")) (hm : MtR X id r) (hG : MethOk X.K r g) (hN : X.N[j]? = some x) (hv : Vis X.env.scope x) (hd : (x == ("__debug__" : Str)) = false) (hcd : (x == ("__classdict__" : Str)) = false)
    (hbase : attributeBase (.Name x p) name X.env (eval (.Name x p) X.env) = eval (.Name x p) X.env) (hline : (apos.endLine == cpos.line) = true) :
    SE X W (.Call (.Attribute (.Name x p) name apos) [] [] cpos) (tBM0 X.K "list" r (tVar j)) (mMeth j g mNil) :=
  ⟨pe_bm0 F.plainAttrs_list slot hty hm (pe_var hN hv hd hcd) hbase hline, meth_core0 hG⟩
end
section
variable {K : Fg}
def lmAppend : LM
  | l, [d] => if l.length < sizeLine then some (l ++ [d], .none) else none
  | _, _ => none
theorem m_append : MethOk K rAppend lmAppend := by
  intro a H O xs vs l args l' z Q hx rx rv h c
  unfold lmAppend at h
  split at h
  · split at h
    · rename_i hz
      cases h
      obtain ⟨v, rfl, r⟩ := rv.one
      exact ⟨a, xs, v, rfl, rfl, hx, by rw [rx.length]; exact hz, c _ _ (rx.append (.cons r .nil)) .non⟩
    · cases h
  · cases h
def lmExtend : LM
  | l, [.list m] => if l.length + m.length ≤ sizeLine then some (l ++ m, .none) else none
  | _, _ => none
theorem m_extend : MethOk K rExtend lmExtend := by
  intro a H O xs vs l args l' z Q hx rx rv h c
  unfold lmExtend at h
  split at h
  · split at h
    · rename_i hz
      cases h
      obtain ⟨v, rfl, r⟩ := rv.one
      cases r with
      | lst q n r => exact ⟨a, _, xs, _, rfl, rfl, hx, q, by rw [rx.length, r.length]; exact hz, c _ _ (rx.append r) .non⟩
    · cases h
  · cases h
def lmPop : LM
  | l, [] => (l[l.length - 1]?).map fun d => (l.dropLast, d)
  | _, _ => none
theorem RpAll.dropLast {H : Hp} {O : Ow} {xs : List V} {l : List D} (r : RpAll K H O xs l) : RpAll K H O xs.dropLast l.dropLast := by
  rw [List.dropLast_eq_take, List.dropLast_eq_take, r.length]
  exact r.take _
theorem m_pop : MethOk K rPop lmPop := by
  intro a H O xs vs l args l' z Q hx rx rv h c
  unfold lmPop at h
  split at h
  · rename_i l2
    cases e : l[l.length - 1]? with
    | none => rw [e] at h; cases h
    | some d =>
      rw [e] at h
      cases h
      cases rv
      obtain ⟨v, hv, r⟩ := rx.get e
      exact ⟨a, xs, v, rfl, rfl, hx, by rw [rx.length]; exact hv, c _ _ rx.dropLast r⟩
  · cases h
def lmReverse : LM
  | l, [] => some (l.reverse, .none)
  | _, _ => none
theorem m_reverse : MethOk K rReverse lmReverse := by
  intro a H O xs vs l args l' z Q hx rx rv h c
  unfold lmReverse at h
  split at h
  · cases h
    cases rv
    exact ⟨a, xs, rfl, rfl, hx, c _ _ rx.reverse .non⟩
  · cases h
def lmClear : LM
  | l, [] => some ([], .none)
  | _, _ => none
theorem m_clear : MethOk K rClear lmClear := by
  intro a H O xs vs l args l' z Q hx rx rv h c
  unfold lmClear at h
  split at h
  · cases h
    cases rv
    exact ⟨a, xs, rfl, rfl, hx, c _ _ .nil .non⟩
  · cases h
end
/-! ### x[i] = e -/
def mPut (j : Nat) (fe fi : ME) : MS := fun ρ => RE.out (fe ρ) fun r ρ1 => Out.opt (keepV r ρ1) fun p => Out.opt (ownL j p.2) fun _ => RE.out (fi p.2) fun ri ρ2 => Out.opt (look ri ρ2) fun di => Out.opt (intOf di) fun k =>
  Out.opt (ownL j ρ2) fun l => Out.opt (ixN l.length k) fun n => .nx (ρ2.set j (.own (.list (l.set n p.1))))
section
variable {X : Cx} {W : WX} {P : List Nat} {e i : Expr} {x : Str} {te ti : TE} {fe fi : ME} {p pos spos : Pos} {j : Nat}
theorem ss_put (hN : X.N[j]? = some x) (hv : Vis X.env.scope x) (hd : (x == ("__debug__" : Str)) = false) (hcd : (x == ("__classdict__" : Str)) = false)
    (hs : swapsWithSole [.Subscript (.Name x p) i spos] e pos.line X.env = pure false) (hw : swappedStores [.Subscript (.Name x p) i spos] e X.env = pure none) (h1 : (assignEach [.Subscript (.Name x p) i spos] X.env).map (·.2) = [assign (.Subscript (.Name x p) i spos) X.env])
    (ha : ∀ v, assign (.Subscript (.Name x p) i spos) X.env v = (do
      let ov ← holding [v] (eval (.Name x p) X.env)
      let iv ← holding [v, ov] (eval i X.env)
      standAt spos
      holding [v, ov, iv] (setItem ov iv v)
      release [v, ov, iv] []))
    (he : SE X W e te fe) (hi : SE X W i ti fi) : SS X W P (.Assign [.Subscript (.Name x p) i spos] e pos) (tAsg te (gSub (tVar j) ti rSetL)) (mPut j fe fi) := by
  refine ⟨ps_asg he.p (pg_sub (pe_var hN hv hd hcd) hi.p set_list ha) hs hw h1, fun n hn ρ σ H O D R B w => he.s ρ σ H O _ R (w.ev R B fun r ρ1 v H1 O1 e1 R1 B1 F1 o1 w1 => ?_)⟩
  obtain ⟨⟨d, ρ2⟩, ek, w1⟩ := w1.opt
  obtain ⟨O2, R2, F2, rp⟩ := ORel.kept o1 R F1 R1 ek
  have w2 : WantS X.K X.mg W n H O (Out.opt (ownL j ρ2) fun _ => RE.out (fi ρ2) fun ri ρ2 => Out.opt (look ri ρ2) fun di => Out.opt (intOf di) fun k =>
      Out.opt (ownL j ρ2) fun l => Out.opt (ixN l.length k) fun n => .nx (ρ2.set j (.own (.list (l.set n d))))) D := by
    unfold mPut at w
    rw [e1] at w
    simp only [RE.out, ek, Out.opt] at w
    exact w
  have w2 := w2.from (F2.kp R)
  obtain ⟨l0, el0, w2⟩ := w2.opt
  obtain ⟨a, xs0, es0, _, hx0, _⟩ := own_list R2 el0
  refine ⟨_, es0, hi.s ρ2 σ H1 O2 _ R2 (w2.ev R2 (B.frm F2) fun ri ρ3 iv H3 O3 e3 R3 B3 F3 o3 w3 => ?_)⟩
  obtain ⟨di, edi, w3⟩ := w3.opt
  obtain ⟨k, ek2, w3⟩ := w3.opt
  obtain ⟨l, el, w3⟩ := w3.opt
  obtain ⟨m, em, w3⟩ := w3.opt
  obtain ⟨a', xs, es1, oa, hx, rx⟩ := own_list R3 el
  rw [es0] at es1
  cases es1
  have ei : iv = .int k := by
    cases di with
    | int k' => cases ek2; exact (ORel.see1 o3 R2 F3 R3 edi).int
    | _ => cases ek2
  obtain ⟨R4, F4⟩ := R3.updSlot (d' := .list (l.set m d)) (o' := .lst (xs.set m v)) (ownL_some el) es0 fun kp => ⟨_, upd_same, RpAll.set ((rp.keep (F3.kp R2)).keep kp) m (rx.keep kp)⟩
  exact ⟨a, xs, k, m, rfl, ei, hx, by rw [rx.length]; exact em, w3 σ _ O3 R4 (B3.frm F4) (F4.kp R3)⟩
end

/-! ### several targets -/
def mAsgT (gt : D → Fr → Option Fr) (fe : ME) : MS := fun ρ => RE.out (fe ρ) fun r ρ1 => Out.opt (keepV r ρ1) fun p => Out.opt (gt p.1 p.2) fun ρ2 => .nx ρ2
def mPar (i j : Nat) (fa : MA) : MS := fun ρ => RE.out (fa ρ) fun ds ρ1 => match ds with
  | [d, e] => .nx ((ρ1.set i (.val d)).set j (.val e))
  | _ => .bad
section
variable {X : Cx} {W : WX} {P : List Nat} {e tg : Expr} {te : TE} {g : TG} {is : List Nat} {gt : D → Fr → Option Fr} {fe : ME} {pos : Pos}
theorem ss_asgT (ip : ∀ i ∈ is, i ∉ P) (hs : swapsWithSole [tg] e pos.line X.env = pure false) (hw : swappedStores [tg] e X.env = pure none) (h1 : (assignEach [tg] X.env).map (·.2) = [assign tg X.env])
    (he : SE X W e te fe) (hg : SG X tg is g gt) : SS X W P (.Assign [tg] e pos) (tAsg te g) (mAsgT gt fe) := by
  refine ⟨ps_asg he.p hg.p hs hw h1, fun n hn ρ σ H O D R B w => he.s ρ σ H O _ R (w.ev R B fun r ρ1 v H1 O1 e1 R1 B1 F1 o1 w1 => ?_)⟩
  obtain ⟨⟨d, ρ2⟩, ek, w1⟩ := w1.opt
  obtain ⟨O2, R2, F2, rp⟩ := ORel.kept o1 R F1 R1 ek
  have w2 : WantS X.K X.mg W n H O (Out.opt (gt d ρ2) fun ρ2 => .nx ρ2) D := by
    unfold mAsgT at w
    rw [e1] at w
    simp only [RE.out, ek, Out.opt] at w
    exact w
  obtain ⟨ρ3, eg, w2⟩ := (w2.from (F2.kp R)).opt
  exact hg.s n v d ρ2 ρ3 σ H1 O2 _ (fun i hi => by rw [hn]; exact ip i hi) R2 (B.frm F2) rp eg fun σ' R' B' _ _ => w2 σ' H1 O2 R' B' .refl
theorem ss_par {i j : Nat} {x y : Str} {a b : Expr} {ta : TA} {fa : MA} {px py pt : Pos} {kt k2 pt2} (ip : i ∉ P) (jp : j ∉ P) (hc : X.calm = true) (hN : X.N.Nodup) (hi : X.N[i]? = some x) (hj : X.N[j]? = some y) (hij : i ≠ j)
    (hx : X.env.scope.names.lookup x = some .local) (hy : X.env.scope.names.lookup y = some .local)
    (hw : swappedStores [.Tuple [.Name x px, .Name y py] kt pt] (.Tuple [a, b] k2 pt2) X.env = pure (some [x, y]))
    (hs : swapsWithSole [.Tuple [.Name x px, .Name y py] kt pt] (.Tuple [a, b] k2 pt2) pos.line X.env = pure false) (ha : SA X W [a, b] ta fa) :
    SS X W P (.Assign [.Tuple [.Name x px, .Name y py] kt pt] (.Tuple [a, b] k2 pt2) pos) (tPar i j ta) (mPar i j fa) := by
  refine ⟨ps_par hc hN hi hj hij hx hy ha.p hw hs, fun n hn ρ σ H O D R B w => ha.s ρ σ H O _ R (w.ev R B fun ds ρ1 vs H1 O1 e1 R1 B1 F1 o1 w1 => ?_)⟩
  have o1 : RpAll X.K H1 O1 vs ds := o1
  split at w1
  · obtain ⟨v, u, rfl, r1, r2⟩ := o1.two
    obtain ⟨R2, B2, _⟩ := set_val (by rw [hn]; exact ip) R1 B1 r1
    obtain ⟨R3, B3, _⟩ := set_val (by rw [hn]; exact jp) R2 B2 r2
    exact ⟨v, u, rfl, w1 _ H1 O1 R3 B3 .refl⟩
  · exact w1.elim
end
end L3
set_option Elab.async false
set_option linter.all false
set_option maxRecDepth 100000
set_option maxHeartbeats 4000000
set_option autoImplicit false
/-! L3M: what the printed derivations name. -/
namespace L3
open PySem PySem.Spec L2
theorem hu64 {k : Nat} {A : Around} (hr : Room k A) : A.units + 64 < cLine := by have := hr.un; omega
theorem hu65 {k : Nat} {A : Around} (hr : Room k A) : A.units + 65 < cLine := by have := hr.un; omega
theorem hu66 {k : Nat} {A : Around} (hr : Room k A) : A.units + 66 < cLine := by have := hr.un; omega
theorem bb_len : bootBuiltins "len" = some (.builtin "len") := by decide +kernel
theorem bb_abs : bootBuiltins "abs" = some (.builtin "abs") := by decide +kernel
theorem bb_sum : bootBuiltins "sum" = some (.builtin "sum") := by decide +kernel
theorem bb_max : bootBuiltins "max" = some (.builtin "max") := by decide +kernel
theorem bb_min : bootBuiltins "min" = some (.builtin "min") := by decide +kernel
theorem bb_repr : bootBuiltins "repr" = some (.builtin "repr") := by decide +kernel
theorem bb_tuple : bootBuiltins "tuple" = some (.type "tuple") := by decide +kernel
theorem bb_list : bootBuiltins "list" = some (.type "list") := by decide +kernel
theorem fnG_bad {Pr : Program} {w : World} {K : Fg} {mg : Str → Option Value} {base : Heap} {f : Addr} {fd : FuncData} {ps : List Str} {np m k : Nat} {P : List Nat} (h : ps.length = np) : FnG Pr w K mg base k f fd ps (spF mg np P (runDef m fun _ => .bad) K) := by
  refine ⟨fun vs H Q E q => ?_, fun A outer s H args us vs Q E hr hG e0 hb rv q => ?_⟩
  · obtain ⟨as, O, la, lv, R, ap, hw⟩ := q
    exact lv.trans h.symm
  · obtain ⟨as, O, la, lv, R, ap, hw⟩ := q
    exact hw.elim

/-! the rules, with the written part by name -/
def rLenA (K : Fg) : List V → Hp → VK → Prop := fun xs H Q => ∃ x n, xs = [x] ∧ LenV K x H n ∧ Q (.int n) H
def rAbsA : List V → Hp → VK → Prop := fun xs H Q => ∃ i, xs = [.int i] ∧ Q (.int (if i < 0 then -i else i)) H
def rTupA (K : Fg) : List V → Hp → VK → Prop := fun xs H Q => ∃ p ys, xs = [.ref p] ∧ ((SqL K H p ys ∧ ∀ l, H l = none → Q (.ref l) (upd H l (.tup ys))) ∨ (SqT K H p ys ∧ Q (.ref p) H))
def rListA (K : Fg) : List V → Hp → VK → Prop := fun xs H Q => ∃ p ys, xs = [.ref p] ∧ (SqL K H p ys ∨ SqT K H p ys) ∧ ∀ l, H l = none → Q (.ref l) (upd H l (.lst ys))
section
variable {X : Cx} {W : WX} {pos p2 p apos cpos tpos : Pos} {a b e e2 : Expr} {rest es elts : List Expr} {fa fb fe : ME} {ta tb te : TE} {kk : Nat}
theorem se_ixK (K : Fg) (hK : X.K = K) (hs : PlainIx b) (ha : SE X W a ta fa) (hb : SE X W b tb fb) : SE X W (.Subscript a b pos) (tOp (rIx K) ta tb) (mOp2 dIx fa fb) := by
  subst hK; exact se_ix hs ha hb
theorem se_slK (K : Fg) (hK : X.K = K) {lo hi : Option Expr} {tl th : TO} {fl fh : MO} (he : SE X W e te fe) (hl : SO X W lo tl fl) (hh : SO X W hi th fh) : SE X W (.Subscript e (.Slice lo hi none p2) pos) (tSl (rSlAny K) te tl th) (mSl dSl fe fl fh) := by
  subst hK; exact se_sl he hl hh
theorem sb_truthK (K : Fg) (hK : X.K = K) (he : ∀ whole, isTrue a X.env whole = (do let v ← whole; standAt a.pos; holding [v] (truthy v))) (ha : SE X W a ta fa) : SB X W a (tTruth K ta) (mTest fa) := by
  subst hK; exact sb_truth he ha
theorem se_andK (K : Fg) (hK : X.K = K) (ha : SE X W a ta fa) (hb : SE X W (.BoolOp .And (b :: rest) pos) tb fb) : SE X W (.BoolOp .And (a :: b :: rest) pos) (tAndT K ta tb) (mAndV fa fb) := by
  subst hK; exact se_and ha hb
theorem se_orK (K : Fg) (hK : X.K = K) (ha : SE X W a ta fa) (hb : SE X W (.BoolOp .Or (b :: rest) pos) tb fb) : SE X W (.BoolOp .Or (a :: b :: rest) pos) (tOrT K ta tb) (mOrV fa fb) := by
  subst hK; exact se_or ha hb
theorem se_notK (K : Fg) (hK : X.K = K) (ha : SE X W a ta fa) : SE X W (.UnaryOp .Not a pos) (tNotT K ta) (mNotV fa) := by
  subst hK; exact se_not ha
theorem se_callK {P : List Nat} {F : ME} {np k : Nat} {f : Addr} {fd : FuncData} {ps : List Str} {ds : List Value} {dvs : List V} {dfs : List PyData} {x : Str} {tar : TA} {far : MAr} (K : Fg) (mg : Str → Option Value) (hK : X.K = K) (hmg : X.mg = mg)
    (G : FnG X.prog X.w K mg X.base k f fd ps (spF mg np P F K)) (hk : Keeps F) (hr : Room k X.A) (hG : X.A.guards = some []) (hg : Gl X x) (hm : mg x = some (.ref f)) (kp : PySem.W.keepIn K (.ref f) = true) (hb : Binds K fd ps ds) (hd : Vals dvs ds) (hdf : Dfs dvs dfs) (tk : Takes X W)
    (hdb : (x == ("__debug__" : Str)) = false) (he : starEach (e :: es) X.env = (false, eval e X.env) :: starEach es X.env) (hpl : (backTo pos (starEach es X.env)).any (·.1) = false) (hn : (e :: es).length + dfs.length = np) (ha : SAr X W (e :: es) tar far) :
    SE X W (.Call (.Name x p) (e :: es) [] pos) (tCallG (spF mg np P F K) dvs W tar) (mCall P F dfs far) := by
  subst hK hmg; exact se_call G hk hr hG hg hm kp hb hd hdf tk hdb he hpl hn ha
theorem si_seqK (K : Fg) (hK : X.K = K) {tg l : Expr} {tl : TE} {f : ME} (hl : SE X W l tl f) : SI X W tg l (iSeq K tl) (mSeqI f) := by
  subst hK; exact si_seq hl
theorem si_enumK (K : Fg) (hK : X.K = K) {tar : TA} {g : MA} (hg : Gl X "enumerate") (hm : X.mg "enumerate" = none) (hs : starEach [e] X.env = [(false, eval e X.env)]) (ha : SA X W [e] tar g) : SI X W (.Tuple elts kk tpos) (.Call (.Name "enumerate" p) [e] [] pos) (iEnumA K tar) (mEnum g) := by
  subst hK; exact si_enum hg hm hs ha
theorem si_zipK (K : Fg) (hK : X.K = K) {tar : TA} {g : MA} (hg : Gl X "zip") (hm : X.mg "zip" = none) (hs : starEach [e, e2] X.env = (false, eval e X.env) :: starEach [e2] X.env) (hpl : (backTo pos (starEach [e2] X.env)).any (·.1) = false) (ha : SA X W [e, e2] tar g) :
    SI X W (.Tuple elts kk tpos) (.Call (.Name "zip" p) [e, e2] [] pos) (RZ.iZipA K tar) (mZip g) := by
  subst hK; exact si_zip hg hm hs hpl ha
theorem sg_tupK (K : Fg) (hK : X.K = K) {k : Nat} {is : List Nat} {t : TGs} {m : Nat} {g : List PyData → Fr → Option Fr} (hc : X.calm = true) (hn : (assignEach es X.env).length = m) (hst : (assignEach es X.env).findIdx? (·.1) = none) (h : SGs X es is t g) : SG X (.Tuple es k pos) is (gTup K m t) (gtTup m g) := by
  subst hK; exact sg_tup hc hn hst h
theorem se_methK (K : Fg) (hK : X.K = K) {x : Str} {tar : TA} {far : MA} {name : Str} {id : String} {r : V → List V → Hp → VK → Prop} {g : LM} {j : Nat} (slot : PySem.Slot "list" name id) (hty : typeOf (.builtin id) = pure (.type "method_descriptor")) (hm : MtR X id r) (hG : MethOk K r g) (hN : X.N[j]? = some x) (hv : Vis X.env.scope x) (hd : (x == ("__debug__" : Str)) = false) (hcd : (x == ("__classdict__" : Str)) = false)
    (hbase : attributeBase (.Name x p) name X.env (eval (.Name x p) X.env) = eval (.Name x p) X.env)
    (hfew : ((backTo cpos (starEach (e :: es) X.env)).all (fun x => !x.1) && (backToKw cpos (keywordEach [] X.env)).all (fun x => x.1.isSome) && decide ((e :: es).length + ([] : List Keyword).length + (if ([] : List Keyword).isEmpty then 0 else 1) < 30)) = true)
    (hline : (apos.endLine == cpos.line) = true) (hs : starEach (e :: es) X.env = (false, eval e X.env) :: starEach es X.env) (hplain : (backTo cpos (starEach es X.env)).any (·.1) = false) (ha : SA X W (e :: es) tar far) :
    SE X W (.Call (.Attribute (.Name x p) name apos) (e :: es) [] cpos) (tBM K "list" r (tVar j) tar) (mMeth j g far) := by
  subst hK; exact se_meth slot hty hm hG hN hv hd hcd hbase hfew hline hs hplain ha
theorem se_meth0K (K : Fg) (hK : X.K = K) {x : Str} {name : Str} {id : String} {r : V → List V → Hp → VK → Prop} {g : LM} {j : Nat} (slot : PySem.Slot "list" name id) (hty : typeOf (.builtin id) = pure (.type "method_descriptor")) (hm : MtR X id r) (hG : MethOk K r g) (hN : X.N[j]? = some x) (hv : Vis X.env.scope x) (hd : (x == ("__debug__" : Str)) = false) (hcd : (x == ("__classdict__" : Str)) = false)
    (hbase : attributeBase (.Name x p) name X.env (eval (.Name x p) X.env) = eval (.Name x p) X.env) (hline : (apos.endLine == cpos.line) = true) :
    SE X W (.Call (.Attribute (.Name x p) name apos) [] [] cpos) (tBM0 K "list" r (tVar j)) (mMeth j g mNil) := by
  subst hK; exact se_meth0 slot hty hm hG hN hv hd hcd hbase hline
end
end L3
set_option Elab.async false
set_option linter.all false
set_option maxRecDepth 100000
set_option maxHeartbeats 4000000
set_option autoImplicit false
/-! L3N: the functions of the derivations, run step by step: what a run ends in (Ev, EvO), one row for each construct. -/
namespace L3
open PySem PySem.Spec L2

/-- keeps simp out of what it names -/
inductive Tag {α : Type} (q : α) : Type
  | mk
/-- what is wanted of a run: of its value, of its exception -/
structure Co (α : Type) where
  ok : α → Fr → Prop
  ex : Xc → Fr → Prop
/-- (no function, so that nothing runs it unasked) -/
inductive Ev {α : Type} : RE α → (K : Co α) → Tag K → Prop
  | ok {a : α} {ρ : Fr} {K : Co α} {u : Tag K} : K.ok a ρ → Ev (.ok a ρ) K u
  | ex {x : Xc} {ρ : Fr} {K : Co α} {u : Tag K} : K.ex x ρ → Ev (.exc x ρ) K u
structure CoO where
  go : Out → Prop
inductive EvO : Out → (K : CoO) → Tag K → Prop
  | mk {o : Out} {K : CoO} {u : Tag K} : o ≠ .bad → K.go o → EvO o K u
theorem evo_un {o : Out} {K : CoO} {u : Tag K} : EvO o K u = (o ≠ .bad ∧ K.go o) := propext ⟨fun h => by
  cases h with
  | mk h1 h2 => exact ⟨h1, h2⟩, fun h => .mk h.1 h.2⟩
def EvP {α : Type} (x : Option α) (k : α → Prop) (u : Tag k := .mk) : Prop := ∃ a, x = some a ∧ k a
/-- the same, open to simp -/
def EuP {α : Type} (x : Option α) (k : α → Prop) : Prop := ∃ a, x = some a ∧ k a
theorem evP_un {α : Type} {x : Option α} {k : α → Prop} {u : Tag k} : EvP x k u = EuP x k := rfl
theorem euP_some {α : Type} {y : α} {k : α → Prop} : EuP (some y) k = k y := propext ⟨fun ⟨_, h, q⟩ => by cases h; exact q, fun h => ⟨y, rfl, h⟩⟩
theorem euP_none {α : Type} {k : α → Prop} : EuP none k = False := propext ⟨fun h => (by obtain ⟨_, h, _⟩ := h; cases h), fun h => False.elim h⟩
def Eu {α : Type} (r : RE α) (f : α → Fr → Prop) (g : Xc → Fr → Prop) : Prop := match r with
  | .ok a ρ => f a ρ
  | .exc x ρ => g x ρ
  | .bad => False
section
variable {α β : Type} {f : α → Fr → Prop} {g : Xc → Fr → Prop} {a : α} {ρ : Fr} {x : Xc}
theorem ev_un {K : Co α} {u : Tag K} {r : RE α} : Ev r K u = Eu r K.ok K.ex := by
  cases r with
  | ok a ρ => exact propext ⟨fun h => (by cases h; assumption), fun h => .ok h⟩
  | exc x ρ => exact propext ⟨fun h => (by cases h; assumption), fun h => .ex h⟩
  | bad => exact propext ⟨fun h => (by cases h), fun h => False.elim h⟩
theorem eu_ok : Eu (.ok a ρ) f g = f a ρ := rfl
theorem eu_bind {r : RE β} {k : β → Fr → RE α} : Eu (r.bind k) f g = Eu r (fun b ρ => Eu (k b ρ) f g) g := by cases r <;> rfl
theorem eu_opt {y : Option β} {k : β → RE α} : Eu (RE.opt y k) f g = EvP y fun b => Eu (k b) f g := by
  cases y with
  | none => exact propext ⟨fun h => False.elim h, fun ⟨_, h, _⟩ => nomatch h⟩
  | some b => exact propext ⟨fun h => ⟨b, rfl, h⟩, fun ⟨_, h, q⟩ => by cases h; exact q⟩
theorem eu_if {c : Prop} [Decidable c] : Eu (if c then .ok a ρ else .bad) f g = (c ∧ f a ρ) := by
  by_cases h : c
  · rw [if_pos h]; exact propext ⟨fun q => ⟨h, q⟩, fun q => q.2⟩
  · rw [if_neg h]; exact propext ⟨fun q => False.elim q, fun q => h q.1⟩
theorem eu_ite {c : Prop} [Decidable c] {r r' : RE α} : Eu (if c then r else r') f g = if c then Eu r f g else Eu r' f g := by
  by_cases h : c
  · rw [if_pos h, if_pos h]
  · rw [if_neg h, if_neg h]
end
section
variable {α β : Type} {K : Co α} {u : Tag K} {a : α} {ρ : Fr} {x : Xc}
theorem ev_ok : Ev (.ok a ρ) K u = K.ok a ρ := ev_un
theorem ev_exc : Ev (.exc x ρ) K u = K.ex x ρ := ev_un
theorem ev_bad : Ev .bad K u = False := ev_un
theorem ev_bind {r : RE β} {k : β → Fr → RE α} : Ev (r.bind k) K u = Ev r ⟨fun b ρ => Ev (k b ρ) K .mk, K.ex⟩ .mk := by simp only [ev_un, eu_bind]
theorem ev_opt {y : Option β} {k : β → RE α} : Ev (RE.opt y k) K u = EvP y fun b => Ev (k b) K .mk := by simp only [ev_un, eu_opt, evP_un]
theorem evP_some {y : β} {k : β → Prop} : EvP (some y) k = k y := propext ⟨fun ⟨_, h, q⟩ => by cases h; exact q, fun h => ⟨y, rfl, h⟩⟩
theorem evP_none {k : β → Prop} : EvP none k = False := propext ⟨fun h => (by obtain ⟨_, h, _⟩ := h; cases h), fun h => False.elim h⟩
theorem evP_if {c : Prop} [Decidable c] {y : β} {k : β → Prop} : EvP (if c then some y else none) k = (c ∧ k y) := by
  by_cases h : c
  · rw [if_pos h, evP_some]; exact propext ⟨fun q => ⟨h, q⟩, fun q => q.2⟩
  · rw [if_neg h, evP_none]; exact propext ⟨fun q => False.elim q, fun q => absurd q.1 h⟩
theorem evP_ifn {c : Prop} [Decidable c] {y : β} {k : β → Prop} : EvP (if c then none else some y) k = (¬ c ∧ k y) := by
  by_cases h : c
  · rw [if_pos h, evP_none]; exact propext ⟨fun q => False.elim q, fun q => absurd h q.1⟩
  · rw [if_neg h, evP_some]; exact propext ⟨fun q => ⟨h, q⟩, fun q => q.2⟩
theorem evP_map {γ : Type} {y : Option β} {f : β → γ} {k : γ → Prop} : EvP (y.map f) k = EvP y fun b => k (f b) := by
  cases y with
  | none => rw [Option.map_none, evP_none, evP_none]
  | some b => rw [Option.map_some, evP_some, evP_some]
theorem Ev.imp {r : RE α} {K' : Co α} {u' : Tag K'} (h : Ev r K u) (ho : ∀ a ρ, K.ok a ρ → K'.ok a ρ) (hx : ∀ x ρ, K.ex x ρ → K'.ex x ρ) : Ev r K' u' := by
  cases h with
  | ok h => exact .ok (ho _ _ h)
  | ex h => exact .ex (hx _ _ h)
theorem Ev.of {r : RE α} (h : Ev r K u) {K' : Co α} {u' : Tag K'} (ho : ∀ a ρ, r = .ok a ρ → K.ok a ρ → K'.ok a ρ) (hx : ∀ x ρ, K.ex x ρ → K'.ex x ρ) : Ev r K' u' := by
  cases h with
  | ok h => exact .ok (ho _ _ rfl h)
  | ex h => exact .ex (hx _ _ h)
end
section
variable {K : Co Opd} {KB : Co Bool} {KA : Co (List D)} {KR : Co (List Arg)} {KO : Co (Option Int)} {u : Tag K} {ub : Tag KB} {ua : Tag KA} {ur : Tag KR} {uo : Tag KO} {ρ : Fr} {fa fb fc : ME} {ga gb : MB} {sa : MA} {ra : MAr}
theorem ap_var {i : Nat} : mVar i ρ = match ρ[i]? with
  | some (.val d) => .ok (.val d) ρ
  | some (.own _) => .ok (.place i) ρ
  | _ => .bad := rfl
theorem ap_c {d : D} : mC d ρ = .ok (.val d) ρ := rfl
theorem ap_nil : mNil ρ = .ok [] ρ := rfl
theorem ap_rnil : mrNil ρ = .ok [] ρ := rfl
theorem ap_yes : mYes ρ = .ok true ρ := rfl
theorem ap_nopart : mNoPart ρ = .ok none ρ := rfl
theorem ev_op2 {g : D → D → Option (Kd × D)} : Ev (mOp2 g fa fb ρ) K u = Ev (fa ρ) ⟨fun a ρ1 => Ev (fb ρ1) ⟨fun b ρ2 => EvP (look a ρ2) fun x => EvP (look b ρ2) fun y => EvP (g x y) fun z => K.ok (z.1.mk z.2) ρ2, K.ex⟩ .mk, K.ex⟩ .mk := by
  unfold mOp2; simp only [ev_un, evP_un, eu_bind, eu_opt, eu_ok, eu_ite]
theorem ev_op1 {g : D → Option (Kd × D)} : Ev (mOp1 g fa ρ) K u = Ev (fa ρ) ⟨fun a ρ1 => EvP (look a ρ1) fun x => EvP (g x) fun z => K.ok (z.1.mk z.2) ρ1, K.ex⟩ .mk := by
  unfold mOp1; simp only [ev_un, evP_un, eu_bind, eu_opt, eu_ok, eu_ite]
theorem ev_cmp {c : D → D → Option Bool} : Ev (mCmp c fa fb ρ) K u = Ev (fa ρ) ⟨fun a ρ1 => Ev (fb ρ1) ⟨fun b ρ2 => EvP (look a ρ2) fun x => EvP (look b ρ2) fun y => EvP (c x y) fun z => K.ok (.val (.bool z)) ρ2, K.ex⟩ .mk, K.ex⟩ .mk := by
  unfold mCmp; simp only [ev_un, evP_un, eu_bind, eu_opt, eu_ok, eu_ite]
theorem ev_cmpB {c : D → D → Option Bool} : Ev (mCmpB c fa fb ρ) KB ub = Ev (fa ρ) ⟨fun a ρ1 => Ev (fb ρ1) ⟨fun b ρ2 => EvP (look a ρ2) fun x => EvP (look b ρ2) fun y => EvP (c x y) fun z => KB.ok z ρ2, KB.ex⟩ .mk, KB.ex⟩ .mk := by
  unfold mCmpB; simp only [ev_un, evP_un, eu_bind, eu_opt, eu_ok, eu_ite]
theorem ite_ev {α : Type} {K : Co α} {u : Tag K} {c : Prop} [Decidable c] {r r' : RE α} : Ev (if c then r else r') K u = if c then Ev r K u else Ev r' K u := by
  by_cases h : c
  · rw [if_pos h, if_pos h]
  · rw [if_neg h, if_neg h]
theorem ev_chain {c c' : D → D → Option Bool} : Ev (mChain c c' fa fb fc ρ) K u = Ev (fa ρ) ⟨fun a ρ1 => Ev (fb ρ1) ⟨fun b ρ2 => EvP (look a ρ2) fun x => EvP (look b ρ2) fun y => EvP (c x y) fun z =>
    if z = true then Ev (fc ρ2) ⟨fun e ρ3 => EvP (look b ρ3) fun y' => EvP (look e ρ3) fun w => EvP (c' y' w) fun z' => K.ok (.val (.bool z')) ρ3, K.ex⟩ .mk else K.ok (.val (.bool false)) ρ2, K.ex⟩ .mk, K.ex⟩ .mk := by
  unfold mChain; simp only [ev_un, evP_un, eu_bind, eu_opt, eu_ok, eu_ite]
theorem ev_chainB {c c' : D → D → Option Bool} : Ev (mChainB c c' fa fb fc ρ) KB ub = Ev (fa ρ) ⟨fun a ρ1 => Ev (fb ρ1) ⟨fun b ρ2 => EvP (look a ρ2) fun x => EvP (look b ρ2) fun y => EvP (c x y) fun z =>
    if z = true then Ev (fc ρ2) ⟨fun e ρ3 => EvP (look b ρ3) fun y' => EvP (look e ρ3) fun w => EvP (c' y' w) fun z' => KB.ok z' ρ3, KB.ex⟩ .mk else KB.ok false ρ2, KB.ex⟩ .mk, KB.ex⟩ .mk := by
  unfold mChainB; simp only [ev_un, evP_un, eu_bind, eu_opt, eu_ok, eu_ite]
theorem ev_test : Ev (mTest fa ρ) KB ub = Ev (fa ρ) ⟨fun r ρ1 => EvP (look r ρ1) fun d => EvP (truth d) fun k => KB.ok k ρ1, KB.ex⟩ .mk := by
  unfold mTest; simp only [ev_un, evP_un, eu_bind, eu_opt, eu_ok, eu_ite]
theorem ev_andB : Ev (mAndB ga gb ρ) KB ub = Ev (ga ρ) ⟨fun c ρ1 => if c = true then Ev (gb ρ1) KB .mk else KB.ok false ρ1, KB.ex⟩ .mk := by
  unfold mAndB; simp only [ev_un, evP_un, eu_bind, eu_opt, eu_ok, eu_ite]
theorem ev_orB : Ev (mOrB ga gb ρ) KB ub = Ev (ga ρ) ⟨fun c ρ1 => if c = true then KB.ok true ρ1 else Ev (gb ρ1) KB .mk, KB.ex⟩ .mk := by
  unfold mOrB; simp only [ev_un, evP_un, eu_bind, eu_opt, eu_ok, eu_ite]
theorem ev_notB : Ev (mNotB ga ρ) KB ub = Ev (ga ρ) ⟨fun c ρ1 => KB.ok (!c) ρ1, KB.ex⟩ .mk := by
  unfold mNotB; simp only [ev_un, evP_un, eu_bind, eu_opt, eu_ok, eu_ite]
theorem ev_andV : Ev (mAndV fa fb ρ) K u = Ev (fa ρ) ⟨fun r ρ1 => EvP (look r ρ1) fun d => EvP (truth d) fun k => if k = true then Ev (fb ρ1) K .mk else K.ok r ρ1, K.ex⟩ .mk := by
  unfold mAndV; simp only [ev_un, evP_un, eu_bind, eu_opt, eu_ok, eu_ite]
theorem ev_orV : Ev (mOrV fa fb ρ) K u = Ev (fa ρ) ⟨fun r ρ1 => EvP (look r ρ1) fun d => EvP (truth d) fun k => if k = true then K.ok r ρ1 else Ev (fb ρ1) K .mk, K.ex⟩ .mk := by
  unfold mOrV; simp only [ev_un, evP_un, eu_bind, eu_opt, eu_ok, eu_ite]
theorem ev_notV : Ev (mNotV fa ρ) K u = Ev (fa ρ) ⟨fun r ρ1 => EvP (look r ρ1) fun d => EvP (truth d) fun k => K.ok (.val (.bool (!k))) ρ1, K.ex⟩ .mk := by
  unfold mNotV; simp only [ev_un, evP_un, eu_bind, eu_opt, eu_ok, eu_ite]
theorem ev_if : Ev (mIf ga fa fb ρ) K u = Ev (ga ρ) ⟨fun k ρ1 => if k = true then Ev (fa ρ1) K .mk else Ev (fb ρ1) K .mk, K.ex⟩ .mk := by
  unfold mIf; simp only [ev_un, evP_un, eu_bind, eu_opt, eu_ok, eu_ite]
theorem ev_cons : Ev (mCons fa sa ρ) KA ua = Ev (fa ρ) ⟨fun r ρ1 => EvP (keepV r ρ1) fun p => Ev (sa p.2) ⟨fun ds ρ2 => KA.ok (p.1 :: ds) ρ2, KA.ex⟩ .mk, KA.ex⟩ .mk := by
  unfold mCons; simp only [ev_un, evP_un, eu_bind, eu_opt, eu_ok, eu_ite]
theorem ev_rcons : Ev (mrCons fa ra ρ) KR ur = Ev (fa ρ) ⟨fun r ρ1 => EvP (argOf r ρ1) fun p => Ev (ra p.2) ⟨fun ds ρ2 => KR.ok (p.1 :: ds) ρ2, KR.ex⟩ .mk, KR.ex⟩ .mk := by
  unfold mrCons; simp only [ev_un, evP_un, eu_bind, eu_opt, eu_ok, eu_ite]
theorem ev_tup : Ev (mTup sa ρ) K u = Ev (sa ρ) ⟨fun ds ρ1 => ds.length ≤ sizeLine ∧ K.ok (.val (.tuple ds)) ρ1, K.ex⟩ .mk := by
  unfold mTup; simp only [ev_un, evP_un, eu_bind, eu_if]
theorem ev_lst : Ev (mLst sa ρ) K u = Ev (sa ρ) ⟨fun ds ρ1 => ds.length ≤ sizeLine ∧ K.ok (.fresh (.list ds)) ρ1, K.ex⟩ .mk := by
  unfold mLst; simp only [ev_un, evP_un, eu_bind, eu_if]
theorem ev_call {P : List Nat} {F : ME} {dfs : List D} : Ev (mCall P F dfs ra ρ) K u = Ev (ra ρ) ⟨fun args ρ1 => (places args).Nodup ∧ EvP (mkAs P 0 (args ++ dfs.map Arg.val) ρ1) fun q =>
    Ev (F q.1) ⟨fun r outs => K.ok r (wb (args ++ dfs.map Arg.val) q.1 outs q.2), fun x outs => K.ex x (wb (args ++ dfs.map Arg.val) q.1 outs q.2)⟩ .mk, K.ex⟩ .mk := by
  unfold mCall; simp only [ev_un, eu_bind]
  congr
  funext args ρ1
  by_cases h : (places args).Nodup
  · simp only [h, if_true, eu_opt, true_and, evP_un]
    congr
    funext q
    rw [ev_un]
    cases F q.1 <;> rfl
  · rw [if_neg h]
    exact propext ⟨fun q => False.elim q, fun q => absurd q.1 h⟩
theorem ev_bi {g : List D → Option (Kd × D)} : Ev (mBi g ra ρ) K u = Ev (ra ρ) ⟨fun args ρ1 => EvP (lookAll args ρ1) fun ds => EvP (g ds) fun z => K.ok (z.1.mk z.2) ρ1, K.ex⟩ .mk := by
  unfold mBi; simp only [ev_un, evP_un, eu_bind, eu_opt, eu_ok, eu_ite]
theorem ev_sl {g : D → Option Int → Option Int → Option (Kd × D)} {l h : MO} : Ev (mSl g fa l h ρ) K u = Ev (fa ρ) ⟨fun r ρ1 => Ev (l ρ1) ⟨fun i ρ2 => Ev (h ρ2) ⟨fun j ρ3 => EvP (look r ρ3) fun d => EvP (g d i j) fun z => K.ok (z.1.mk z.2) ρ3, K.ex⟩ .mk, K.ex⟩ .mk, K.ex⟩ .mk := by
  unfold mSl; simp only [ev_un, evP_un, eu_bind, eu_opt, eu_ok, eu_ite]
theorem ev_part : Ev (mPart fa ρ) KO uo = Ev (fa ρ) ⟨fun r ρ1 => EvP (look r ρ1) fun d => EvP (intOf d) fun i => KO.ok (some i) ρ1, KO.ex⟩ .mk := by
  unfold mPart; simp only [ev_un, evP_un, eu_bind, eu_opt, eu_ok, eu_ite]
theorem ev_meth {j : Nat} {g : LM} : Ev (mMeth j g sa ρ) K u = EvP (ownL j ρ) fun _ => Ev (sa ρ) ⟨fun args ρ1 => EvP (ownL j ρ1) fun l => EvP (g l args) fun z => K.ok (.val z.2) (ρ1.set j (.own (.list z.1))), K.ex⟩ .mk := by
  unfold mMeth; simp only [ev_un, evP_un, eu_bind, eu_opt, eu_ok, eu_ite]
theorem ev_rng1 : Ev (mRng1 sa ρ) KA ua = Ev (sa ρ) ⟨fun ds ρ1 => ∃ j : Int, ds = [.int j] ∧ (-(2 ^ 62) ≤ j ∧ j < 2 ^ 62) ∧ KA.ok (upto 0 j.toNat) ρ1, KA.ex⟩ .mk := by
  unfold mRng1; simp only [ev_un, eu_bind]
  congr
  funext ds ρ1
  split
  · rename_i j
    rw [eu_if]
    exact propext ⟨fun h => ⟨j, rfl, h⟩, fun ⟨j', e, h⟩ => by cases e; exact h⟩
  · rename_i hn
    exact propext ⟨fun h => False.elim h, fun ⟨j, h, _⟩ => (hn j h).elim⟩
theorem ev_rng2 : Ev (mRng2 sa ρ) KA ua = Ev (sa ρ) ⟨fun ds ρ1 => ∃ i j : Int, ds = [.int i, .int j] ∧ (-(2 ^ 62) ≤ i ∧ i < 2 ^ 62 ∧ -(2 ^ 62) ≤ j ∧ j < 2 ^ 62) ∧ KA.ok (upto i (j - i).toNat) ρ1, KA.ex⟩ .mk := by
  unfold mRng2; simp only [ev_un, eu_bind]
  congr
  funext ds ρ1
  split
  · rename_i i j
    rw [eu_if]
    exact propext ⟨fun h => ⟨i, j, rfl, h⟩, fun ⟨i', j', e, h⟩ => by cases e; exact h⟩
  · rename_i hn
    exact propext ⟨fun h => False.elim h, fun ⟨i, j, h, _⟩ => (hn i j h).elim⟩
theorem ev_seqI : Ev (mSeqI fa ρ) KA ua = Ev (fa ρ) ⟨fun r ρ1 => EvP (keepV r ρ1) fun q => EvP (items q.1) fun l => KA.ok l q.2, KA.ex⟩ .mk := by
  unfold mSeqI; simp only [ev_un, evP_un, eu_bind, eu_opt, eu_ok, eu_ite]
theorem ev_enum : Ev (mEnum sa ρ) KA ua = Ev (sa ρ) ⟨fun ds ρ1 => ∃ d, ds = [d] ∧ EvP (items d) fun l => KA.ok (numb 0 l) ρ1, KA.ex⟩ .mk := by
  unfold mEnum; simp only [ev_un, eu_bind]
  congr
  funext ds ρ1
  split
  · rename_i d
    rw [eu_opt]
    exact propext ⟨fun h => ⟨d, rfl, h⟩, fun ⟨d', e, h⟩ => by cases e; exact h⟩
  · rename_i hn
    exact propext ⟨fun h => False.elim h, fun ⟨d, h, _⟩ => (hn d h).elim⟩
def zipOk : List D → Option (List D)
  | [.list l, .list m] => some (zipD l m)
  | [.tuple l, .tuple m] => some (zipD l m)
  | _ => none
theorem ev_zip : Ev (mZip sa ρ) KA ua = Ev (sa ρ) ⟨fun ds ρ1 => EvP (zipOk ds) fun l => KA.ok l ρ1, KA.ex⟩ .mk := by
  unfold mZip; simp only [ev_un, eu_bind]
  congr
  funext ds ρ1
  unfold zipOk
  split
  · rw [evP_some]; rfl
  · rw [evP_some]; rfl
  · rename_i h1 h2
    first
      | (rw [evP_none]; rfl)
      | (split
         · rename_i l m; exact absurd rfl (h1 l m)
         · rename_i l m; exact absurd rfl (h2 l m)
         · rw [evP_none]; rfl)
theorem ev_lc {fi : Fr → RE (List D)} {gt : D → Fr → Option Fr} {ft : MB} {vs : List Nat} : Ev (mLC fi gt ft fa vs ρ) K u = Ev (fi ρ) ⟨fun ds ρ1 => ds.length ≤ sizeLine ∧ Ev (lcL gt ft fa vs ds (kill ρ1 vs)) ⟨fun es ρ2 => K.ok (.fresh (.list es)) ρ2, fun _ _ => False⟩ .mk, K.ex⟩ .mk := by
  unfold mLC; simp only [ev_un, eu_bind]
  congr
  funext ds ρ1
  by_cases h : ds.length ≤ sizeLine
  · simp only [h, if_true, true_and, ev_un]
    cases lcL gt ft fa vs ds (kill ρ1 vs) <;> rfl
  · rw [if_neg h]
    exact propext ⟨fun q => False.elim q, fun q => absurd q.1 h⟩
end

/-! ### statements -/
def seqK (h : MS) (K : CoO) : CoO := ⟨fun o => match o with
  | .nx ρ => EvO (h ρ) K .mk
  | o => K.go o⟩
section
variable {K : CoO} {u : Tag K} {ρ : Fr} {g h : MS} {f fi : ME} {c : MB} {x : Xc} {d : D} {b : Bool} {P : List Nat}
theorem evo_nx : EvO (.nx ρ) K u = K.go (.nx ρ) := by rw [evo_un]; exact propext ⟨fun h => h.2, fun h => ⟨(by intro z; cases z), h⟩⟩
theorem evo_rt : EvO (.rt b d ρ) K u = K.go (.rt b d ρ) := by rw [evo_un]; exact propext ⟨fun h => h.2, fun h => ⟨(by intro z; cases z), h⟩⟩
theorem evo_bk : EvO (.bk ρ) K u = K.go (.bk ρ) := by rw [evo_un]; exact propext ⟨fun h => h.2, fun h => ⟨(by intro z; cases z), h⟩⟩
theorem evo_ct : EvO (.ct ρ) K u = K.go (.ct ρ) := by rw [evo_un]; exact propext ⟨fun h => h.2, fun h => ⟨(by intro z; cases z), h⟩⟩
theorem evo_exc : EvO (.exc x ρ) K u = K.go (.exc x ρ) := by rw [evo_un]; exact propext ⟨fun h => h.2, fun h => ⟨(by intro z; cases z), h⟩⟩
theorem evo_bad : EvO .bad K u = False := by rw [evo_un]; exact propext ⟨fun h => h.1 rfl, fun h => False.elim h⟩
theorem sq_nx : (seqK h K).go (.nx ρ) = EvO (h ρ) K .mk := rfl
theorem sq_rt : (seqK h K).go (.rt b d ρ) = K.go (.rt b d ρ) := rfl
theorem sq_bk : (seqK h K).go (.bk ρ) = K.go (.bk ρ) := rfl
theorem sq_ct : (seqK h K).go (.ct ρ) = K.go (.ct ρ) := rfl
theorem sq_exc : (seqK h K).go (.exc x ρ) = K.go (.exc x ρ) := rfl
theorem ao_nx : mNx ρ = .nx ρ := rfl
theorem ao_bk : mBk ρ = .bk ρ := rfl
theorem ao_ct : mCt ρ = .ct ρ := rfl
theorem ao_retN : mRetN ρ = .rt false .none ρ := rfl
theorem evo_seq : EvO (mSeq g h ρ) K u = EvO (g ρ) (seqK h K) .mk := by
  unfold mSeq
  cases e : g ρ with
  | nx ρ1 => rw [evo_nx]; rfl
  | rt f d ρ1 => rw [evo_rt, evo_rt]; rfl
  | bk ρ1 => rw [evo_bk, evo_bk]; rfl
  | ct ρ1 => rw [evo_ct, evo_ct]; rfl
  | exc x ρ1 => rw [evo_exc, evo_exc]; rfl
  | bad => rw [evo_bad, evo_bad]
theorem evo_out {α : Type} {r : RE α} {k : α → Fr → Out} : EvO (RE.out r k) K u = Ev r ⟨fun a ρ => EvO (k a ρ) K .mk, fun x ρ => K.go (.exc x ρ)⟩ .mk := by
  cases r with
  | ok a ρ => rw [ev_ok]; rfl
  | exc x ρ => rw [ev_exc]; exact evo_exc
  | bad => rw [ev_bad]; exact evo_bad
theorem evo_opt {α : Type} {y : Option α} {k : α → Out} : EvO (Out.opt y k) K u = EvP y fun a => EvO (k a) K .mk := by
  cases y with
  | none => rw [evP_none]; exact evo_bad
  | some a => rw [evP_some]; rfl
theorem ite_evo {q : Prop} [Decidable q] {o o' : Out} : EvO (if q then o else o') K u = if q then EvO o K u else EvO o' K u := by
  by_cases h : q
  · rw [if_pos h, if_pos h]
  · rw [if_neg h, if_neg h]
theorem evo_set {i : Nat} : EvO (mSet i f ρ) K u = Ev (f ρ) ⟨fun r ρ1 => EvP (slotOf r ρ1) fun q => K.go (.nx (q.2.set i q.1)), fun x ρ => K.go (.exc x ρ)⟩ .mk := by
  unfold mSet; simp only [evo_out, ev_un, evo_opt, evP_un, evo_nx, evo_rt, ite_evo]
theorem evo_drop : EvO (mDrop f ρ) K u = Ev (f ρ) ⟨fun _ ρ1 => K.go (.nx ρ1), fun x ρ => K.go (.exc x ρ)⟩ .mk := by
  unfold mDrop; simp only [evo_out, ev_un, evo_opt, evP_un, evo_nx, evo_rt, ite_evo]
theorem evo_if : EvO (mIfS c g h ρ) K u = Ev (c ρ) ⟨fun k ρ1 => if k = true then EvO (g ρ1) K .mk else EvO (h ρ1) K .mk, fun x ρ => K.go (.exc x ρ)⟩ .mk := by
  unfold mIfS; simp only [evo_out, ev_un, evo_opt, evP_un, evo_nx, evo_rt, ite_evo]
theorem evo_ret : EvO (mRet P f ρ) K u = Ev (f ρ) ⟨fun r ρ1 => EvP (retOf P r ρ1) fun q => K.go (.rt q.1 q.2.1 q.2.2), fun x ρ => K.go (.exc x ρ)⟩ .mk := by
  unfold mRet; simp only [evo_out, ev_un, evo_opt, evP_un, evo_nx, evo_rt, ite_evo]
theorem evo_put {j : Nat} : EvO (mPut j f fi ρ) K u = Ev (f ρ) ⟨fun r ρ1 => EvP (keepV r ρ1) fun p => EvP (ownL j p.2) fun _ => Ev (fi p.2) ⟨fun ri ρ2 => EvP (look ri ρ2) fun di => EvP (intOf di) fun k => EvP (ownL j ρ2) fun l => EvP (ixN l.length k) fun n =>
    K.go (.nx (ρ2.set j (.own (.list (l.set n p.1))))), fun x ρ => K.go (.exc x ρ)⟩ .mk, fun x ρ => K.go (.exc x ρ)⟩ .mk := by
  unfold mPut; simp only [evo_out, ev_un, evo_opt, evP_un, evo_nx, evo_rt, ite_evo]
theorem evo_asgT {gt : D → Fr → Option Fr} : EvO (mAsgT gt f ρ) K u = Ev (f ρ) ⟨fun r ρ1 => EvP (keepV r ρ1) fun p => EvP (gt p.1 p.2) fun ρ2 => K.go (.nx ρ2), fun x ρ => K.go (.exc x ρ)⟩ .mk := by
  unfold mAsgT; simp only [evo_out, ev_un, evo_opt, evP_un, evo_nx, evo_rt, ite_evo]
theorem evo_par {i j : Nat} {sa : MA} : EvO (mPar i j sa ρ) K u = Ev (sa ρ) ⟨fun ds ρ1 => ∃ d e, ds = [d, e] ∧ K.go (.nx ((ρ1.set i (.val d)).set j (.val e))), fun x ρ => K.go (.exc x ρ)⟩ .mk := by
  unfold mPar; simp only [evo_out, ev_un]
  congr
  funext ds ρ1
  split
  · rename_i d e
    rw [evo_nx]
    exact propext ⟨fun h => ⟨d, e, rfl, h⟩, fun ⟨d', e', z, h⟩ => by cases z; exact h⟩
  · rename_i hn
    rw [evo_bad]
    exact propext ⟨fun h => False.elim h, fun ⟨d, e, h, _⟩ => (hn d e h).elim⟩
theorem evo_for {fl : Fr → RE (List D)} {gt : D → Fr → Option Fr} {kl : List Nat} : EvO (mFor fl gt g kl ρ) K u = Ev (fl ρ) ⟨fun ds ρ1 => EvO (forL gt g kl ds (kill ρ1 kl)) K .mk, fun x ρ => K.go (.exc x ρ)⟩ .mk := by
  unfold mFor; simp only [evo_out, ev_un, evo_opt, evP_un, evo_nx, evo_rt, ite_evo]
end

/-! ### defs -/
def runK (as : Fr) (K : Co Opd) : CoO := ⟨fun o => match o with
  | .nx ρ => K.ok (.val .none) (outsOf as ρ)
  | .rt true d ρ => K.ok (.fresh d) (outsOf as ρ)
  | .rt false d ρ => K.ok (.val d) (outsOf as ρ)
  | .exc x ρ => K.ex x (outsOf as ρ)
  | _ => False⟩
section
variable {K : Co Opd} {u : Tag K} {as ρ : Fr} {m : Nat} {g : MS} {d : D} {x : Xc}
theorem rk_nx : (runK as K).go (.nx ρ) = K.ok (.val .none) (outsOf as ρ) := rfl
theorem rk_rtt : (runK as K).go (.rt true d ρ) = K.ok (.fresh d) (outsOf as ρ) := rfl
theorem rk_rtf : (runK as K).go (.rt false d ρ) = K.ok (.val d) (outsOf as ρ) := rfl
theorem rk_exc : (runK as K).go (.exc x ρ) = K.ex x (outsOf as ρ) := rfl
theorem rk_bk : (runK as K).go (.bk ρ) = False := rfl
theorem rk_ct : (runK as K).go (.ct ρ) = False := rfl
theorem ev_run : Ev (runDef m g as) K u = EvO (g (as ++ List.replicate (m - as.length) .no)) (runK as K) .mk := by
  unfold runDef
  cases e : g (as ++ List.replicate (m - as.length) .no) with
  | nx ρ => rw [ev_ok, evo_nx]; rfl
  | rt f d ρ => cases f <;> (rw [ev_ok, evo_rt]; rfl)
  | bk ρ => rw [ev_bad, evo_bk]; rfl
  | ct ρ => rw [ev_bad, evo_ct]; rfl
  | exc x ρ => rw [ev_exc, evo_exc]; rfl
  | bad => rw [ev_bad, evo_bad]
end

/-! ### loops -/
section
variable {gt : D → Fr → Option Fr} {ft : MB} {fe : ME} {vs kl : List Nat} {K : Co (List D)} {u : Tag K} {body : MS} {KO : CoO} {uo : Tag KO}
theorem ev_lnil {ρ : Fr} : Ev (lcL gt ft fe vs [] ρ) K u = K.ok [] ρ := ev_ok
theorem ev_lcons {d : D} {ds : List D} {ρ : Fr} : Ev (lcL gt ft fe vs (d :: ds) ρ) K u = EvP (gt d ρ) fun ρ1 => Ev (ft ρ1) ⟨fun k ρ2 => if k = true then Ev (fe ρ2) ⟨fun r ρ3 => EvP (keepV r ρ3) fun q => Ev (lcL gt ft fe vs ds (kill q.2 vs)) ⟨fun es ρ5 => K.ok (q.1 :: es) ρ5, K.ex⟩ .mk, K.ex⟩ .mk
    else Ev (lcL gt ft fe vs ds (kill ρ2 vs)) K .mk, K.ex⟩ .mk := by
  conv => lhs; unfold lcL
  simp only [ev_un, evP_un, eu_bind, eu_opt, eu_ok, eu_ite]
theorem evo_fnil {ρ : Fr} : EvO (forL gt body kl [] ρ) KO uo = KO.go (.nx ρ) := evo_nx
/-- a comprehension, by what stands behind i items -/
theorem lc_inv {ds : List D} {ρ : Fr} (I : Nat → List D → Fr → Prop) (h0 : I 0 [] ρ)
    (step : ∀ i d es ρ, ds[i]? = some d → I i es ρ → EvP (gt d ρ) fun ρ1 => Ev (ft ρ1) ⟨fun k ρ2 => if k = true then Ev (fe ρ2) ⟨fun r ρ3 => EvP (keepV r ρ3) fun q => I (i + 1) (es ++ [q.1]) (kill q.2 vs), fun _ _ => False⟩ .mk else I (i + 1) es (kill ρ2 vs), fun _ _ => False⟩ .mk)
    (fin : ∀ es ρ, I ds.length es ρ → K.ok es ρ) : Ev (lcL gt ft fe vs ds ρ) K u := by
  have gen : ∀ (l : List D) (i : Nat) (es : List D) (ρ : Fr), l = ds.drop i → i ≤ ds.length → I i es ρ → Ev (lcL gt ft fe vs l ρ) ⟨fun es' ρ' => K.ok (es ++ es') ρ', K.ex⟩ .mk := by
    intro l
    induction l with
    | nil =>
      intro i es ρ e hi h
      have : i = ds.length := by
        have := congrArg List.length e
        simp at this
        omega
      subst this
      rw [ev_lnil]
      show K.ok (es ++ []) ρ
      rw [List.append_nil]
      exact fin es ρ h
    | cons d l ih =>
      intro i es ρ e hi h
      have hlt : i < ds.length := by
        have := congrArg List.length e
        simp at this
        omega
      have ed : ds[i]? = some d ∧ l = ds.drop (i + 1) := by
        rw [List.drop_eq_getElem_cons hlt] at e
        cases e
        exact ⟨List.getElem?_eq_getElem hlt, rfl⟩
      have st := step i d es ρ ed.1 h
      unfold lcL
      rw [ev_opt]
      obtain ⟨ρ1, e1, st⟩ := st
      refine ⟨ρ1, e1, ?_⟩
      show Ev (RE.bind _ _) _ .mk
      rw [ev_bind]
      refine st.imp (u' := .mk) (fun k ρ2 q => ?_) fun _ _ q => q.elim
      cases k with
      | false => exact ih (i + 1) es _ ed.2 hlt q
      | true =>
        show Ev (RE.bind _ _) _ .mk
        rw [ev_bind]
        have q : Ev (fe ρ2) ⟨fun r ρ3 => EvP (keepV r ρ3) fun q => I (i + 1) (es ++ [q.1]) (kill q.2 vs), fun _ _ => False⟩ .mk := q
        refine q.imp (u' := .mk) (fun r ρ3 q => ?_) fun _ _ q => q.elim
        show Ev (RE.opt _ _) _ .mk
        rw [ev_opt]
        obtain ⟨p, ep, q⟩ := q
        refine ⟨p, ep, ?_⟩
        show Ev (RE.bind _ _) _ .mk
        rw [ev_bind]
        refine (ih (i + 1) _ _ ed.2 hlt q).imp (fun es' ρ' z => ?_) fun _ _ q => q
        show Ev (RE.ok _ _) _ .mk
        rw [ev_ok]
        show K.ok _ _
        have z : K.ok ((es ++ [p.1]) ++ es') ρ' := z
        rw [List.append_assoc] at z
        exact z
  exact (gen ds 0 [] ρ rfl (Nat.zero_le _) h0).imp (fun es ρ q => q) fun _ _ q => q
/-- a for, by what stands ahead of item i -/
def forK (I : Fr → Prop) (kl : List Nat) (K : CoO) : CoO := ⟨fun o => match o with
  | .nx ρ => I (kill ρ kl)
  | .ct ρ => I (kill ρ kl)
  | .bk ρ => K.go (.nx (kill ρ kl))
  | .rt f d ρ => K.go (.rt f d ρ)
  | .exc x ρ => K.go (.exc x ρ)
  | .bad => False⟩
section
variable {I : Fr → Prop} {ρ : Fr} {f : Bool} {d : D} {x : Xc}
theorem fk_nx : (forK I kl KO).go (.nx ρ) = I (kill ρ kl) := rfl
theorem fk_ct : (forK I kl KO).go (.ct ρ) = I (kill ρ kl) := rfl
theorem fk_bk : (forK I kl KO).go (.bk ρ) = KO.go (.nx (kill ρ kl)) := rfl
theorem fk_rt : (forK I kl KO).go (.rt f d ρ) = KO.go (.rt f d ρ) := rfl
theorem fk_exc : (forK I kl KO).go (.exc x ρ) = KO.go (.exc x ρ) := rfl
end
theorem for_inv {ds : List D} {ρ : Fr} (I : Nat → Fr → Prop) (h0 : I 0 ρ) (step : ∀ i d ρ, ds[i]? = some d → I i ρ → EvP (gt d ρ) fun ρ1 => EvO (body ρ1) (forK (I (i + 1)) kl KO) .mk)
    (fin : ∀ ρ, I ds.length ρ → KO.go (.nx ρ)) : EvO (forL gt body kl ds ρ) KO uo := by
  have gen : ∀ (l : List D) (i : Nat) (ρ : Fr), l = ds.drop i → i ≤ ds.length → I i ρ → EvO (forL gt body kl l ρ) KO .mk := by
    intro l
    induction l with
    | nil =>
      intro i ρ e hi h
      have : i = ds.length := by
        have := congrArg List.length e
        simp at this
        omega
      subst this
      rw [evo_fnil]
      exact fin ρ h
    | cons d l ih =>
      intro i ρ e hi h
      have hlt : i < ds.length := by
        have := congrArg List.length e
        simp at this
        omega
      have ed : ds[i]? = some d ∧ l = ds.drop (i + 1) := by
        rw [List.drop_eq_getElem_cons hlt] at e
        cases e
        exact ⟨List.getElem?_eq_getElem hlt, rfl⟩
      obtain ⟨ρ1, e1, st⟩ := step i d ρ ed.1 h
      unfold forL
      simp only [e1]
      cases eb : body ρ1 with
      | bad => rw [eb, evo_bad] at st; exact st.elim
      | nx ρ2 => rw [eb, evo_nx] at st; exact ih (i + 1) _ ed.2 hlt st
      | ct ρ2 => rw [eb, evo_ct] at st; exact ih (i + 1) _ ed.2 hlt st
      | bk ρ2 => rw [eb, evo_bk] at st; rw [evo_nx]; exact st
      | rt f d ρ2 => rw [eb, evo_rt] at st; rw [evo_rt]; exact st
      | exc x ρ2 => rw [eb, evo_exc] at st; rw [evo_exc]; exact st
  exact gen ds 0 ρ rfl (Nat.zero_le _) h0
end
theorem itep {c : Prop} [Decidable c] {A B : Prop} (h1 : c → A) (h2 : ¬ c → B) : if c then A else B := by
  by_cases h : c
  · rw [if_pos h]; exact h1 h
  · rw [if_neg h]; exact h2 h
theorem upto_get {lo : Int} {n i : Nat} {d : D} (h : (upto lo n)[i]? = some d) : i < n ∧ d = .int (lo + (i : Nat)) := by
  unfold upto at h
  rw [List.getElem?_map] at h
  by_cases hi : i < n
  · rw [List.getElem?_range hi] at h
    cases h
    exact ⟨hi, rfl⟩
  · rw [List.getElem?_eq_none (by simpa using hi)] at h
    cases h
theorem upto_get0 {n i : Nat} {d : D} (h : (upto 0 n)[i]? = some d) : i < n ∧ d = .int (i : Nat) := by
  obtain ⟨h1, h2⟩ := upto_get h
  exact ⟨h1, by rw [h2, Int.zero_add]⟩
theorem upto_length {lo : Int} {n : Nat} : (upto lo n).length = n := by unfold upto; simp
theorem ofStr_inj {s t : String} : (Str.ofString s = Str.ofString t) = (s = t) := by
  refine propext ⟨fun h => ?_, fun h => by rw [h]⟩
  rw [Str.ofString_eq_toList, Str.ofString_eq_toList] at h
  have h1 : s.toList.map Char.toNat = t.toList.map Char.toNat := by simpa using h
  have h2 : s.toList = t.toList := (List.map_inj_right fun a b e => Char.toNat_inj.mp e).mp h1
  exact String.toList_inj.mp h2
end L3
set_option Elab.async false
set_option linter.all false
set_option maxRecDepth 100000
set_option maxHeartbeats 4000000
set_option autoImplicit false
/-! L3O: plain facts for the runs. -/
namespace L3
open PySem PySem.Spec L2
section
variable {α : Type} {l : List α}
theorem ixN_lit {n k : Nat} : ixN n (OfNat.ofNat k : Int) = if k < n then some k else none := by
  unfold ixN
  have e : (OfNat.ofNat k : Int) = (k : Int) := rfl
  rw [e, if_pos (by omega)]
  by_cases h : k < n
  · rw [if_pos (by omega), if_pos h]; simp
  · rw [if_neg (by omega), if_neg h]
theorem ixN_0 {n : Nat} : ixN n (0 : Int) = if 0 < n then some 0 else none := ixN_lit
theorem ixN_1 {n : Nat} : ixN n (1 : Int) = if 1 < n then some 1 else none := ixN_lit
theorem ixN_2 {n : Nat} : ixN n (2 : Int) = if 2 < n then some 2 else none := ixN_lit
theorem ixN_3 {n : Nat} : ixN n (3 : Int) = if 3 < n then some 3 else none := ixN_lit
theorem ixN_4 {n : Nat} : ixN n (4 : Int) = if 4 < n then some 4 else none := ixN_lit
theorem ixN_5 {n : Nat} : ixN n (5 : Int) = if 5 < n then some 5 else none := ixN_lit
theorem ixN_6 {n : Nat} : ixN n (6 : Int) = if 6 < n then some 6 else none := ixN_lit
theorem ixN_7 {n : Nat} : ixN n (7 : Int) = if 7 < n then some 7 else none := ixN_lit
theorem ixN_8 {n : Nat} : ixN n (8 : Int) = if 8 < n then some 8 else none := ixN_lit
theorem ixN_9 {n : Nat} : ixN n (9 : Int) = if 9 < n then some 9 else none := ixN_lit
theorem ixN_in {n : Nat} {i : Int} (h0 : 0 ≤ i) (h1 : i < n) : ixN n i = some i.toNat := by
  unfold ixN
  rw [if_pos h0, if_pos h1]
theorem atI_lit {k : Nat} : atI l (OfNat.ofNat k : Int) = l[k]? := by
  unfold atI
  rw [ixN_lit]
  by_cases h : k < l.length
  · rw [if_pos h]; rfl
  · rw [if_neg h, List.getElem?_eq_none (by omega)]; rfl
theorem atI_0 : atI l (0 : Int) = l[0]? := atI_lit
theorem atI_1 : atI l (1 : Int) = l[1]? := atI_lit
theorem atI_2 : atI l (2 : Int) = l[2]? := atI_lit
theorem atI_3 : atI l (3 : Int) = l[3]? := atI_lit
theorem atI_4 : atI l (4 : Int) = l[4]? := atI_lit
theorem atI_5 : atI l (5 : Int) = l[5]? := atI_lit
theorem atI_6 : atI l (6 : Int) = l[6]? := atI_lit
theorem atI_7 : atI l (7 : Int) = l[7]? := atI_lit
theorem atI_8 : atI l (8 : Int) = l[8]? := atI_lit
theorem atI_9 : atI l (9 : Int) = l[9]? := atI_lit
theorem atI_in {i : Int} (h0 : 0 ≤ i) (h1 : i < l.length) : atI l i = l[i.toNat]? := by
  unfold atI
  rw [ixN_in h0 h1]
  rfl
theorem atI_m1 : atI l (-1) = l[l.length - 1]? := by
  unfold atI ixN
  rw [if_neg (by decide)]
  by_cases h : 0 < l.length
  · rw [if_pos (by omega)]
    show l[((-1 : Int) + (l.length : Int)).toNat]? = _
    rw [show ((-1 : Int) + (l.length : Int)).toNat = l.length - 1 by omega]
  · rw [if_neg (by omega), List.getElem?_eq_none (by omega)]
    rfl
theorem atI_map {β : Type} {f : α → β} {i : Int} : atI (l.map f) i = (atI l i).map f := by
  unfold atI
  rw [List.length_map]
  cases ixN l.length i with
  | none => rfl
  | some j => simp
end
/-! cuts -/
theorem sIx_lit {n k : Nat} {d : Nat} : HT.sIx n d (some (OfNat.ofNat k : Int)) = min k n := by
  unfold HT.sIx
  have e : (OfNat.ofNat k : Int) = (k : Int) := rfl
  simp only [e]
  first | omega | (split <;> omega) | (simp; omega)
theorem cutL_lo {α : Type} {xs : List α} {k : Nat} : cutL xs (some (OfNat.ofNat k : Int)) none = xs.drop k := by
  unfold cutL
  rw [sIx_lit]
  have e : HT.sIx xs.length xs.length none = xs.length := rfl
  rw [e]
  by_cases h : k ≤ xs.length
  · rw [Nat.min_eq_left h, List.take_of_length_le (by simp)]
  · rw [Nat.min_eq_right (by omega), List.drop_eq_nil_of_le (Nat.le_refl _), List.drop_eq_nil_of_le (by omega)]
    simp
theorem cutL_hi {α : Type} {xs : List α} {k : Nat} : cutL xs none (some (OfNat.ofNat k : Int)) = xs.take k := by
  unfold cutL
  rw [sIx_lit]
  have e : HT.sIx xs.length 0 none = 0 := rfl
  rw [e, List.drop_zero, Nat.sub_zero]
  by_cases h : k ≤ xs.length
  · rw [Nat.min_eq_left h]
  · rw [Nat.min_eq_right (by omega), List.take_of_length_le (Nat.le_refl _), List.take_of_length_le (by omega)]
theorem cutL_lo0 {α : Type} {xs : List α} : cutL xs (some (0 : Int)) none = xs.drop 0 := cutL_lo
theorem cutL_hi0 {α : Type} {xs : List α} : cutL xs none (some (0 : Int)) = xs.take 0 := cutL_hi
theorem cutL_lo1 {α : Type} {xs : List α} : cutL xs (some (1 : Int)) none = xs.drop 1 := cutL_lo
theorem cutL_hi1 {α : Type} {xs : List α} : cutL xs none (some (1 : Int)) = xs.take 1 := cutL_hi
theorem cutL_lo2 {α : Type} {xs : List α} : cutL xs (some (2 : Int)) none = xs.drop 2 := cutL_lo
theorem cutL_hi2 {α : Type} {xs : List α} : cutL xs none (some (2 : Int)) = xs.take 2 := cutL_hi
theorem cutL_lo3 {α : Type} {xs : List α} : cutL xs (some (3 : Int)) none = xs.drop 3 := cutL_lo
theorem cutL_hi3 {α : Type} {xs : List α} : cutL xs none (some (3 : Int)) = xs.take 3 := cutL_hi
theorem cutL_lo4 {α : Type} {xs : List α} : cutL xs (some (4 : Int)) none = xs.drop 4 := cutL_lo
theorem cutL_hi4 {α : Type} {xs : List α} : cutL xs none (some (4 : Int)) = xs.take 4 := cutL_hi
theorem cutL_lo5 {α : Type} {xs : List α} : cutL xs (some (5 : Int)) none = xs.drop 5 := cutL_lo
theorem cutL_hi5 {α : Type} {xs : List α} : cutL xs none (some (5 : Int)) = xs.take 5 := cutL_hi
theorem cutL_lo6 {α : Type} {xs : List α} : cutL xs (some (6 : Int)) none = xs.drop 6 := cutL_lo
theorem cutL_hi6 {α : Type} {xs : List α} : cutL xs none (some (6 : Int)) = xs.take 6 := cutL_hi
theorem cutL_lo7 {α : Type} {xs : List α} : cutL xs (some (7 : Int)) none = xs.drop 7 := cutL_lo
theorem cutL_hi7 {α : Type} {xs : List α} : cutL xs none (some (7 : Int)) = xs.take 7 := cutL_hi
theorem cutL_lo8 {α : Type} {xs : List α} : cutL xs (some (8 : Int)) none = xs.drop 8 := cutL_lo
theorem cutL_hi8 {α : Type} {xs : List α} : cutL xs none (some (8 : Int)) = xs.take 8 := cutL_hi
theorem cutL_lo9 {α : Type} {xs : List α} : cutL xs (some (9 : Int)) none = xs.drop 9 := cutL_lo
theorem cutL_hi9 {α : Type} {xs : List α} : cutL xs none (some (9 : Int)) = xs.take 9 := cutL_hi
/-! ints -/
theorem canLay_ints : ∀ ns : List Int, PyData.canLayAll0 (ns.map PyData.int) = true
  | [] => rfl
  | n :: r => by simp only [List.map_cons, PyData.canLayAll0, PyData.canLay0, canLay_ints r, Bool.and_self]
theorem depth_ints : ∀ ns : List Int, PyData.depthAll (ns.map PyData.int) ≤ 1
  | [] => by simp [PyData.depthAll]
  | n :: r => by
    have := depth_ints r
    simp only [List.map_cons, PyData.depthAll, PyData.depth]
    omega
theorem shaped_int {i : Int} : SeqAt.shaped (.int i) = true := by simp [SeqAt.shaped, PyData.canLay0, PyData.depth]
theorem shaped_bool {b : Bool} : SeqAt.shaped (.bool b) = true := by simp [SeqAt.shaped, PyData.canLay0, PyData.depth]
theorem shaped_none : SeqAt.shaped .none = true := by simp [SeqAt.shaped, PyData.canLay0, PyData.depth]
theorem shaped_tints (ns : List Int) : SeqAt.shaped (.tuple (ns.map PyData.int)) = true := by
  have h1 := canLay_ints ns
  have h2 := depth_ints ns
  have h3 : PyData.depth (.tuple (ns.map PyData.int)) ≤ 64 := by
    simp only [PyData.depth]
    omega
  simp only [SeqAt.shaped, PyData.canLay0, h1, Bool.true_and, h3, decide_true]
theorem shaped_lints (ns : List Int) : SeqAt.shaped (.list (ns.map PyData.int)) = true := by
  have h1 := canLay_ints ns
  have h2 := depth_ints ns
  have h3 : PyData.depth (.list (ns.map PyData.int)) ≤ 64 := by
    simp only [PyData.depth]
    omega
  simp only [SeqAt.shaped, PyData.canLay0, h1, Bool.true_and, h3, decide_true]
theorem any_ints (i : Int) : ∀ ns : List Int, ((ns.map PyData.int).any fun z => PyData.eqv z (.int i)) = decide (i ∈ ns)
  | [] => by simp
  | n :: r => by
    simp only [List.map_cons, List.any_cons, any_ints i r, PyData.eqv, List.mem_cons]
    by_cases h : n = i
    · simp [h]
    · have h2 : ¬ i = n := fun e => h e.symm
      simp [h, h2]
theorem cIn_tints {i : Int} {ns : List Int} : cIn (.int i) (.tuple (ns.map PyData.int)) = some (decide (i ∈ ns)) := by
  unfold cIn
  simp only [shaped_int, shaped_tints, Bool.and_self, if_true, any_ints]
theorem cIn_lints {i : Int} {ns : List Int} : cIn (.int i) (.list (ns.map PyData.int)) = some (decide (i ∈ ns)) := by
  unfold cIn
  simp only [shaped_int, shaped_lints, Bool.and_self, if_true, any_ints]
theorem cNotIn_tints {i : Int} {ns : List Int} : cNotIn (.int i) (.tuple (ns.map PyData.int)) = some (!decide (i ∈ ns)) := by
  unfold cNotIn
  simp only [shaped_int, shaped_tints, Bool.and_self, if_true, any_ints]
theorem cNotIn_lints {i : Int} {ns : List Int} : cNotIn (.int i) (.list (ns.map PyData.int)) = some (!decide (i ∈ ns)) := by
  unfold cNotIn
  simp only [shaped_int, shaped_lints, Bool.and_self, if_true, any_ints]
/-! texts -/
theorem any_strs (x : Str) : ∀ ns : List Str, ((ns.map PyData.str).any fun z => PyData.eqv z (.str x)) = decide (x ∈ ns)
  | [] => by simp
  | n :: r => by
    simp only [List.map_cons, List.any_cons, any_strs x r, PyData.eqv, List.mem_cons]
    by_cases h : n = x
    · simp [h]
    · have h2 : ¬ x = n := fun e => h e.symm
      simp [h, h2]
theorem strOk_of (s : String) : PyData.strOk (Str.ofString s) = true := by
  rw [Str.ofString_eq_toList]
  unfold PyData.strOk
  rw [← Array.all_toList]
  simp only [List.all_map, List.all_eq_true, Function.comp]
  intro c _
  have := c.valid
  simp only [UInt32.isValidChar, Nat.isValidChar] at this
  have e : c.toNat = c.val.toNat := rfl
  rw [e]
  simp only [decide_eq_true_eq]
  omega
theorem shaped_str {x : Str} : SeqAt.shaped (.str x) = PyData.strOk x := by simp [SeqAt.shaped, PyData.canLay0, PyData.depth]
theorem shaped_tstrs : ∀ l : List Str, (∀ x ∈ l, PyData.strOk x = true) → SeqAt.shaped (.tuple (l.map PyData.str)) = true ∧ SeqAt.shaped (.list (l.map PyData.str)) = true := by
  intro l h
  have h1 : ∀ l : List Str, (∀ x ∈ l, PyData.strOk x = true) → PyData.canLayAll0 (l.map PyData.str) = true := by
    intro l
    induction l with
    | nil => intro _; rfl
    | cons x r ih => intro h; simp only [List.map_cons, PyData.canLayAll0, PyData.canLay0, h x (by simp), ih (fun y hy => h y (by simp [hy])), Bool.and_self]
  have h2 : ∀ l : List Str, PyData.depthAll (l.map PyData.str) ≤ 1 := by
    intro l
    induction l with
    | nil => simp [PyData.depthAll]
    | cons x r ih => simp only [List.map_cons, PyData.depthAll, PyData.depth]; omega
  have h3 := h2 l
  have h4 : PyData.depth (.tuple (l.map PyData.str)) ≤ 64 := by simp only [PyData.depth]; omega
  have h5 : PyData.depth (.list (l.map PyData.str)) ≤ 64 := by simp only [PyData.depth]; omega
  constructor
  · simp only [SeqAt.shaped, PyData.canLay0, h1 l h, Bool.true_and, h4, decide_true]
  · simp only [SeqAt.shaped, PyData.canLay0, h1 l h, Bool.true_and, h5, decide_true]
theorem cIn_strs {x : Str} {l : List Str} (hx : PyData.strOk x = true) (h : ∀ y ∈ l, PyData.strOk y = true) : cIn (.str x) (.tuple (l.map PyData.str)) = some (decide (x ∈ l)) ∧ cIn (.str x) (.list (l.map PyData.str)) = some (decide (x ∈ l)) ∧
    cNotIn (.str x) (.tuple (l.map PyData.str)) = some (!decide (x ∈ l)) ∧ cNotIn (.str x) (.list (l.map PyData.str)) = some (!decide (x ∈ l)) := by
  obtain ⟨h1, h2⟩ := shaped_tstrs l h
  unfold cIn cNotIn
  simp only [shaped_str, hx, h1, h2, Bool.and_self, if_true, any_strs, and_self]
theorem cIn_ts1 {x : Str} {a0 : String} (hx : PyData.strOk x = true) : cIn (.str x) (.tuple [.str (Str.ofString a0)]) = some (decide (x = Str.ofString a0)) := by
  have h := (cIn_strs (l := [Str.ofString a0]) hx (by simp [strOk_of])).1
  simpa only [List.map_cons, List.map_nil, List.mem_cons, List.not_mem_nil, or_false] using h
theorem cIn_ls1 {x : Str} {a0 : String} (hx : PyData.strOk x = true) : cIn (.str x) (.list [.str (Str.ofString a0)]) = some (decide (x = Str.ofString a0)) := by
  have h := (cIn_strs (l := [Str.ofString a0]) hx (by simp [strOk_of])).2.1
  simpa only [List.map_cons, List.map_nil, List.mem_cons, List.not_mem_nil, or_false] using h
theorem cNotIn_ts1 {x : Str} {a0 : String} (hx : PyData.strOk x = true) : cNotIn (.str x) (.tuple [.str (Str.ofString a0)]) = some (!decide (x = Str.ofString a0)) := by
  have h := (cIn_strs (l := [Str.ofString a0]) hx (by simp [strOk_of])).2.2.1
  simpa only [List.map_cons, List.map_nil, List.mem_cons, List.not_mem_nil, or_false] using h
theorem cNotIn_ls1 {x : Str} {a0 : String} (hx : PyData.strOk x = true) : cNotIn (.str x) (.list [.str (Str.ofString a0)]) = some (!decide (x = Str.ofString a0)) := by
  have h := (cIn_strs (l := [Str.ofString a0]) hx (by simp [strOk_of])).2.2.2
  simpa only [List.map_cons, List.map_nil, List.mem_cons, List.not_mem_nil, or_false] using h
theorem cIn_ts2 {x : Str} {a0 a1 : String} (hx : PyData.strOk x = true) : cIn (.str x) (.tuple [.str (Str.ofString a0), .str (Str.ofString a1)]) = some (decide (x = Str.ofString a0 ∨ x = Str.ofString a1)) := by
  have h := (cIn_strs (l := [Str.ofString a0, Str.ofString a1]) hx (by simp [strOk_of])).1
  simpa only [List.map_cons, List.map_nil, List.mem_cons, List.not_mem_nil, or_false] using h
theorem cIn_ls2 {x : Str} {a0 a1 : String} (hx : PyData.strOk x = true) : cIn (.str x) (.list [.str (Str.ofString a0), .str (Str.ofString a1)]) = some (decide (x = Str.ofString a0 ∨ x = Str.ofString a1)) := by
  have h := (cIn_strs (l := [Str.ofString a0, Str.ofString a1]) hx (by simp [strOk_of])).2.1
  simpa only [List.map_cons, List.map_nil, List.mem_cons, List.not_mem_nil, or_false] using h
theorem cNotIn_ts2 {x : Str} {a0 a1 : String} (hx : PyData.strOk x = true) : cNotIn (.str x) (.tuple [.str (Str.ofString a0), .str (Str.ofString a1)]) = some (!decide (x = Str.ofString a0 ∨ x = Str.ofString a1)) := by
  have h := (cIn_strs (l := [Str.ofString a0, Str.ofString a1]) hx (by simp [strOk_of])).2.2.1
  simpa only [List.map_cons, List.map_nil, List.mem_cons, List.not_mem_nil, or_false] using h
theorem cNotIn_ls2 {x : Str} {a0 a1 : String} (hx : PyData.strOk x = true) : cNotIn (.str x) (.list [.str (Str.ofString a0), .str (Str.ofString a1)]) = some (!decide (x = Str.ofString a0 ∨ x = Str.ofString a1)) := by
  have h := (cIn_strs (l := [Str.ofString a0, Str.ofString a1]) hx (by simp [strOk_of])).2.2.2
  simpa only [List.map_cons, List.map_nil, List.mem_cons, List.not_mem_nil, or_false] using h
theorem cIn_ts3 {x : Str} {a0 a1 a2 : String} (hx : PyData.strOk x = true) : cIn (.str x) (.tuple [.str (Str.ofString a0), .str (Str.ofString a1), .str (Str.ofString a2)]) = some (decide (x = Str.ofString a0 ∨ x = Str.ofString a1 ∨ x = Str.ofString a2)) := by
  have h := (cIn_strs (l := [Str.ofString a0, Str.ofString a1, Str.ofString a2]) hx (by simp [strOk_of])).1
  simpa only [List.map_cons, List.map_nil, List.mem_cons, List.not_mem_nil, or_false] using h
theorem cIn_ls3 {x : Str} {a0 a1 a2 : String} (hx : PyData.strOk x = true) : cIn (.str x) (.list [.str (Str.ofString a0), .str (Str.ofString a1), .str (Str.ofString a2)]) = some (decide (x = Str.ofString a0 ∨ x = Str.ofString a1 ∨ x = Str.ofString a2)) := by
  have h := (cIn_strs (l := [Str.ofString a0, Str.ofString a1, Str.ofString a2]) hx (by simp [strOk_of])).2.1
  simpa only [List.map_cons, List.map_nil, List.mem_cons, List.not_mem_nil, or_false] using h
theorem cNotIn_ts3 {x : Str} {a0 a1 a2 : String} (hx : PyData.strOk x = true) : cNotIn (.str x) (.tuple [.str (Str.ofString a0), .str (Str.ofString a1), .str (Str.ofString a2)]) = some (!decide (x = Str.ofString a0 ∨ x = Str.ofString a1 ∨ x = Str.ofString a2)) := by
  have h := (cIn_strs (l := [Str.ofString a0, Str.ofString a1, Str.ofString a2]) hx (by simp [strOk_of])).2.2.1
  simpa only [List.map_cons, List.map_nil, List.mem_cons, List.not_mem_nil, or_false] using h
theorem cNotIn_ls3 {x : Str} {a0 a1 a2 : String} (hx : PyData.strOk x = true) : cNotIn (.str x) (.list [.str (Str.ofString a0), .str (Str.ofString a1), .str (Str.ofString a2)]) = some (!decide (x = Str.ofString a0 ∨ x = Str.ofString a1 ∨ x = Str.ofString a2)) := by
  have h := (cIn_strs (l := [Str.ofString a0, Str.ofString a1, Str.ofString a2]) hx (by simp [strOk_of])).2.2.2
  simpa only [List.map_cons, List.map_nil, List.mem_cons, List.not_mem_nil, or_false] using h
theorem cIn_ts4 {x : Str} {a0 a1 a2 a3 : String} (hx : PyData.strOk x = true) : cIn (.str x) (.tuple [.str (Str.ofString a0), .str (Str.ofString a1), .str (Str.ofString a2), .str (Str.ofString a3)]) = some (decide (x = Str.ofString a0 ∨ x = Str.ofString a1 ∨ x = Str.ofString a2 ∨ x = Str.ofString a3)) := by
  have h := (cIn_strs (l := [Str.ofString a0, Str.ofString a1, Str.ofString a2, Str.ofString a3]) hx (by simp [strOk_of])).1
  simpa only [List.map_cons, List.map_nil, List.mem_cons, List.not_mem_nil, or_false] using h
theorem cIn_ls4 {x : Str} {a0 a1 a2 a3 : String} (hx : PyData.strOk x = true) : cIn (.str x) (.list [.str (Str.ofString a0), .str (Str.ofString a1), .str (Str.ofString a2), .str (Str.ofString a3)]) = some (decide (x = Str.ofString a0 ∨ x = Str.ofString a1 ∨ x = Str.ofString a2 ∨ x = Str.ofString a3)) := by
  have h := (cIn_strs (l := [Str.ofString a0, Str.ofString a1, Str.ofString a2, Str.ofString a3]) hx (by simp [strOk_of])).2.1
  simpa only [List.map_cons, List.map_nil, List.mem_cons, List.not_mem_nil, or_false] using h
theorem cNotIn_ts4 {x : Str} {a0 a1 a2 a3 : String} (hx : PyData.strOk x = true) : cNotIn (.str x) (.tuple [.str (Str.ofString a0), .str (Str.ofString a1), .str (Str.ofString a2), .str (Str.ofString a3)]) = some (!decide (x = Str.ofString a0 ∨ x = Str.ofString a1 ∨ x = Str.ofString a2 ∨ x = Str.ofString a3)) := by
  have h := (cIn_strs (l := [Str.ofString a0, Str.ofString a1, Str.ofString a2, Str.ofString a3]) hx (by simp [strOk_of])).2.2.1
  simpa only [List.map_cons, List.map_nil, List.mem_cons, List.not_mem_nil, or_false] using h
theorem cNotIn_ls4 {x : Str} {a0 a1 a2 a3 : String} (hx : PyData.strOk x = true) : cNotIn (.str x) (.list [.str (Str.ofString a0), .str (Str.ofString a1), .str (Str.ofString a2), .str (Str.ofString a3)]) = some (!decide (x = Str.ofString a0 ∨ x = Str.ofString a1 ∨ x = Str.ofString a2 ∨ x = Str.ofString a3)) := by
  have h := (cIn_strs (l := [Str.ofString a0, Str.ofString a1, Str.ofString a2, Str.ofString a3]) hx (by simp [strOk_of])).2.2.2
  simpa only [List.map_cons, List.map_nil, List.mem_cons, List.not_mem_nil, or_false] using h
theorem cIn_ts5 {x : Str} {a0 a1 a2 a3 a4 : String} (hx : PyData.strOk x = true) : cIn (.str x) (.tuple [.str (Str.ofString a0), .str (Str.ofString a1), .str (Str.ofString a2), .str (Str.ofString a3), .str (Str.ofString a4)]) = some (decide (x = Str.ofString a0 ∨ x = Str.ofString a1 ∨ x = Str.ofString a2 ∨ x = Str.ofString a3 ∨ x = Str.ofString a4)) := by
  have h := (cIn_strs (l := [Str.ofString a0, Str.ofString a1, Str.ofString a2, Str.ofString a3, Str.ofString a4]) hx (by simp [strOk_of])).1
  simpa only [List.map_cons, List.map_nil, List.mem_cons, List.not_mem_nil, or_false] using h
theorem cIn_ls5 {x : Str} {a0 a1 a2 a3 a4 : String} (hx : PyData.strOk x = true) : cIn (.str x) (.list [.str (Str.ofString a0), .str (Str.ofString a1), .str (Str.ofString a2), .str (Str.ofString a3), .str (Str.ofString a4)]) = some (decide (x = Str.ofString a0 ∨ x = Str.ofString a1 ∨ x = Str.ofString a2 ∨ x = Str.ofString a3 ∨ x = Str.ofString a4)) := by
  have h := (cIn_strs (l := [Str.ofString a0, Str.ofString a1, Str.ofString a2, Str.ofString a3, Str.ofString a4]) hx (by simp [strOk_of])).2.1
  simpa only [List.map_cons, List.map_nil, List.mem_cons, List.not_mem_nil, or_false] using h
theorem cNotIn_ts5 {x : Str} {a0 a1 a2 a3 a4 : String} (hx : PyData.strOk x = true) : cNotIn (.str x) (.tuple [.str (Str.ofString a0), .str (Str.ofString a1), .str (Str.ofString a2), .str (Str.ofString a3), .str (Str.ofString a4)]) = some (!decide (x = Str.ofString a0 ∨ x = Str.ofString a1 ∨ x = Str.ofString a2 ∨ x = Str.ofString a3 ∨ x = Str.ofString a4)) := by
  have h := (cIn_strs (l := [Str.ofString a0, Str.ofString a1, Str.ofString a2, Str.ofString a3, Str.ofString a4]) hx (by simp [strOk_of])).2.2.1
  simpa only [List.map_cons, List.map_nil, List.mem_cons, List.not_mem_nil, or_false] using h
theorem cNotIn_ls5 {x : Str} {a0 a1 a2 a3 a4 : String} (hx : PyData.strOk x = true) : cNotIn (.str x) (.list [.str (Str.ofString a0), .str (Str.ofString a1), .str (Str.ofString a2), .str (Str.ofString a3), .str (Str.ofString a4)]) = some (!decide (x = Str.ofString a0 ∨ x = Str.ofString a1 ∨ x = Str.ofString a2 ∨ x = Str.ofString a3 ∨ x = Str.ofString a4)) := by
  have h := (cIn_strs (l := [Str.ofString a0, Str.ofString a1, Str.ofString a2, Str.ofString a3, Str.ofString a4]) hx (by simp [strOk_of])).2.2.2
  simpa only [List.map_cons, List.map_nil, List.mem_cons, List.not_mem_nil, or_false] using h
/-- the two ends -/
theorem fmod_lt {a b : Int} (h : 0 < b) : 0 ≤ a.fmod b ∧ a.fmod b < b := ⟨Int.fmod_nonneg_of_pos a h, Int.fmod_lt_of_pos a h⟩
theorem fmod_emod {a b : Int} (h : 0 < b) : a.fmod b = a % b := Int.fmod_eq_emod_of_nonneg a (Int.le_of_lt h)
theorem fdiv_ediv {a b : Int} (h : 0 < b) : a.fdiv b = a / b := Int.fdiv_eq_ediv_of_nonneg a (Int.le_of_lt h)
theorem fdiv_nonneg {a b : Int} (h : 0 ≤ a) (hb : 0 < b) : 0 ≤ a.fdiv b := by rw [fdiv_ediv hb]; exact Int.ediv_nonneg h (Int.le_of_lt hb)
theorem small_line {n : Nat} (h : n ≤ 1000000) : n ≤ sizeLine := Nat.le_trans h (by rw [sizeLine_eq]; decide)
theorem bRepr_ok {d : D} (h1 : SeqAt.shaped d = true) (h2 : d.showable = true) (h3 : d.shown.length ≤ sizeLine) : bRepr [d] = some (.v, .str d.shown) := by
  unfold bRepr
  simp [h1, h2, h3]
theorem flat_one {α : Type} (n : Nat) (a : α) : (List.replicate n [a]).flatten = List.replicate n a := by
  induction n with
  | zero => rfl
  | succ n ih => rw [List.replicate_succ, List.flatten_cons, ih, List.replicate_succ]; rfl
theorem map_rep {α β : Type} (n : Nat) (a : α) (f : α → β) : List.replicate n (f a) = (List.replicate n a).map f := by simp
theorem sl_0 : (0 ≤ sizeLine) = True := eq_true (small_line (by decide))
theorem sl_1 : (1 ≤ sizeLine) = True := eq_true (small_line (by decide))
theorem sl_2 : (2 ≤ sizeLine) = True := eq_true (small_line (by decide))
theorem sl_3 : (3 ≤ sizeLine) = True := eq_true (small_line (by decide))
theorem sl_4 : (4 ≤ sizeLine) = True := eq_true (small_line (by decide))
theorem sl_5 : (5 ≤ sizeLine) = True := eq_true (small_line (by decide))
theorem sl_6 : (6 ≤ sizeLine) = True := eq_true (small_line (by decide))
theorem sl_7 : (7 ≤ sizeLine) = True := eq_true (small_line (by decide))
theorem sl_8 : (8 ≤ sizeLine) = True := eq_true (small_line (by decide))
theorem sl_9 : (9 ≤ sizeLine) = True := eq_true (small_line (by decide))
theorem sl_10 : (10 ≤ sizeLine) = True := eq_true (small_line (by decide))
theorem sl_11 : (11 ≤ sizeLine) = True := eq_true (small_line (by decide))
theorem sl_12 : (12 ≤ sizeLine) = True := eq_true (small_line (by decide))
/-- a value comes, whatever it is -/
theorem ev_end {r : RE Opd} {d : D} (h : Ev r ⟨fun a _ => a = .val d, fun _ _ => False⟩ .mk) : ∃ outs, r = .ok (.val d) outs := by
  cases r with
  | ok a ρ =>
    rw [ev_ok] at h
    have h : a = .val d := h
    exact ⟨ρ, by rw [h]⟩
  | exc x ρ => rw [ev_exc] at h; exact h.elim
  | bad => rw [ev_bad] at h; exact h.elim
end L3
set_option Elab.async false
set_option linter.all false
set_option maxRecDepth 100000
set_option maxHeartbeats 4000000
set_option autoImplicit false
/-! L3Q: isinstance, is, int, str, all, any, cuts backwards, sorted ints, += . -/
namespace L3
open PySem PySem.Spec L2

/-! ### isinstance -/
inductive BT | int | bool | str | list | tuple
def BT.nm : BT → String
  | .int => "int"
  | .bool => "bool"
  | .str => "str"
  | .list => "list"
  | .tuple => "tuple"
def isa : BT → D → Option Bool
  | .int, .int _ => some true
  | .int, .bool _ => some true
  | .bool, .bool _ => some true
  | .str, .str _ => some true
  | .list, .list _ => some true
  | .tuple, .tuple _ => some true
  | _, .dict _ => none
  | _, _ => some false
def mIsa (T : BT) (f : ME) : ME := fun ρ => (f ρ).bind fun r ρ1 => RE.opt (look r ρ1) fun d => RE.opt (isa T d) fun b => .ok (.val (.bool b)) ρ1
theorem See.tyx {K : Fg} {H : Hp} {O : Ow} {v : V} {d : D} (h : See K H O v d) (T : BT) {b : Bool} (e : isa T d = some b) : ∃ a, TyX K H v (.type a) ∧ kitB a T.nm = some b := by
  cases d with
  | none => rw [h.non]; refine ⟨_, .base .non, ?_⟩; cases T <;> cases e <;> decide +kernel
  | bool y => rw [h.bl]; refine ⟨_, .base (.bl y), ?_⟩; cases T <;> cases e <;> decide +kernel
  | int y => rw [h.int]; refine ⟨_, .base (.int y), ?_⟩; cases T <;> cases e <;> decide +kernel
  | str y => rw [h.str]; refine ⟨_, .base (.str y), ?_⟩; cases T <;> cases e <;> decide +kernel
  | list l =>
    obtain ⟨a, xs, rfl, h1, _⟩ := h.lst
    refine ⟨_, .base (.lst h1), ?_⟩
    cases T <;> cases e <;> decide +kernel
  | tuple l =>
    obtain ⟨a, xs, rfl, h1, _⟩ := h.tup
    refine ⟨"tuple", ?_, ?_⟩
    · rcases h1 with (h1 | ⟨o, h1⟩) | ⟨o, its, n, e1, e2, _⟩
      · exact .base (.tup h1)
      · exact .fTuple h1
      · exact .kTuple e1 e2
    · cases T <;> cases e <;> decide +kernel
  | dict l => cases T <;> cases e
section
variable {X : Cx} {W : WX} {p p2 pos : Pos} {e : Expr} {te : TE} {fe : ME}
theorem se_isa (K : Fg) (hK : X.K = K) (T : BT) {x : Str} (hg : Gl X "isinstance") (hm : X.mg "isinstance" = none) (hg2 : Gl X x) (hm2 : X.mg x = none) (hv2 : bootBuiltins x = some (.type T.nm)) (hn2 : x ≠ "__name__") (hd2 : (x == ("__debug__" : Str)) = false)
    (he : starEach (e :: [.Name x p2]) X.env = (false, eval e X.env) :: starEach [.Name x p2] X.env) (he2 : starEach (.Name x p2 :: []) X.env = (false, eval (.Name x p2) X.env) :: starEach [] X.env) (hpl : (backTo pos (starEach [.Name x p2] X.env)).any (·.1) = false) (ha : SE X W e te fe) :
    SE X W (.Call (.Name "isinstance" p) [e, .Name x p2] [] pos) (tCB (rIsi K) (tCons te (tCons (tC (.ty T.nm)) tNil))) (mIsa T fe) := by
  subst hK
  have hv : bootBuiltins "isinstance" = some (.builtin "isinstance") := by decide +kernel
  refine ⟨pe_callB call_isi hg hm hv (pa_cons ha.p (pa_cons (pe_bltn hg2 hm2 hv2 (v := .ty T.nm) rfl hn2 hd2) pa_nil he2) he) (by decide) rfl he hpl, fun ρ σ H O Q R h => ha.s ρ σ H O _ R (Want.bind h fun r ρ1 v H1 O1 e1 R1 F1 o1 h1 => ?_)⟩
  obtain ⟨d, ed, h1⟩ := h1.opt
  obtain ⟨b, eb, h1⟩ := h1.opt
  obtain ⟨a, ty, kb⟩ := (ORel.see1 o1 R F1 R1 ed).tyx T eb
  exact ⟨v, .ty T.nm, _, _, b, rfl, .ty _, ty, kit_ty kb, h1 _ H1 O1 R1 .refl (.bl b)⟩
end
theorem bb_int : bootBuiltins "int" = some (.type "int") := by decide +kernel
theorem bb_bool : bootBuiltins "bool" = some (.type "bool") := by decide +kernel
theorem bb_str : bootBuiltins "str" = some (.type "str") := by decide +kernel
theorem bb_all : bootBuiltins "all" = some (.builtin "all") := by decide +kernel
theorem bb_any : bootBuiltins "any" = some (.builtin "any") := by decide +kernel
theorem bb_sorted : bootBuiltins "sorted" = some (.builtin "sorted") := by decide +kernel

/-! ### is, of truths and None -/
def cIsA (x y : D) : Option Bool := match x, y with
  | .bool a, .bool b => some (decide (a = b))
  | x, .none => some (isNone x)
  | _, _ => none
def cIsNA (x y : D) : Option Bool := (cIsA x y).map not
def rIsA : R2 := fun x y H Q => (y = .non ∧ Q (.bl (decide (x = .non))) H) ∨ ∃ a b : Bool, x = .bl a ∧ y = .bl b ∧ Q (.bl (decide (a = b))) H
def rIsNA : R2 := fun x y H Q => (y = .non ∧ Q (.bl (!decide (x = .non))) H) ∨ ∃ a b : Bool, x = .bl a ∧ y = .bl b ∧ Q (.bl (!decide (a = b))) H
section
variable {X : Cx} {K : Fg}
theorem op_isA : OpR X (compareOp .Is) rIsA := OpR.or op_isN op_is_bl
theorem op_isNA : OpR X (compareOp .IsNot) rIsNA := OpR.or op_notN op_isnot_bl
theorem isA_core {H : Hp} {O : Ow} {x y : V} {d e : D} {b : Bool} (sx : See K H O x d) (sy : See K H O y e) (h : cIsA d e = some b) : (y = .non ∧ decide (x = .non) = b) ∨ ∃ a c : Bool, x = .bl a ∧ y = .bl c ∧ decide (a = c) = b := by
  unfold cIsA at h
  split at h
  · cases h; exact .inr ⟨_, _, sx.bl, sy.bl, rfl⟩
  · cases h; exact .inl ⟨sy.non, sx.isNon⟩
  · cases h
theorem g_isA : CmpOk K rIsA cIsA := by
  intro H O x y d e b Q sx sy h c
  rcases isA_core sx sy h with ⟨q, rfl⟩ | ⟨a, c', q1, q2, rfl⟩
  · exact .inl ⟨q, c⟩
  · exact .inr ⟨a, c', q1, q2, c⟩
theorem g_isNA : CmpOk K rIsNA cIsNA := by
  intro H O x y d e b Q sx sy h c
  unfold cIsNA at h
  cases q : cIsA d e with
  | none => rw [q] at h; cases h
  | some b' =>
    rw [q] at h
    cases h
    rcases isA_core sx sy q with ⟨qy, rfl⟩ | ⟨a, c', q1, q2, rfl⟩
    · exact .inl ⟨qy, c⟩
    · exact .inr ⟨a, c', q1, q2, c⟩

/-! ### int, str, bool, all, any, sorted -/
def bInt : List D → Option (Kd × D)
  | [.int i] => some (.v, .int i)
  | [.bool k] => some (.v, .int (if k then 1 else 0))
  | [.str a] => if a.length ≤ 640 then (PySem.intText? a).map fun n => (.v, .int n) else none
  | _ => none
def rIntA : List V → Hp → VK → Prop := fun xs H Q => ((∃ i, xs = [.int i] ∧ Q (.int i) H) ∨ ∃ k, xs = [.bl k] ∧ Q (.int (if k then 1 else 0)) H) ∨ ∃ a n, xs = [.str a] ∧ PySem.intText? a = some n ∧ a.length ≤ 640 ∧ Q (.int n) H
theorem cr_intA : CallR X (.type "int") rIntA := CallR.or call_int1 call_int_str
theorem g_int : CallOk K rIntA bInt := by
  intro H O vs ds k z Q s h c
  unfold bInt at h
  split at h
  · cases h
    obtain ⟨v, rfl, s1⟩ := s.one
    exact .inl (.inl ⟨_, by rw [s1.int], Cv.int c⟩)
  · cases h
    obtain ⟨v, rfl, s1⟩ := s.one
    exact .inl (.inr ⟨_, by rw [s1.bl], Cv.int c⟩)
  · rename_i a
    split at h
    · rename_i hz
      cases e : PySem.intText? a with
      | none => rw [e] at h; cases h
      | some n =>
        rw [e] at h
        cases h
        obtain ⟨v, rfl, s1⟩ := s.one
        exact .inr ⟨a, n, by rw [s1.str], e, hz, Cv.int c⟩
    · cases h
  · cases h
def bStr : List D → Option (Kd × D)
  | [.int i] => if i.natAbs.log2 < 1920 then some (.v, .str (toString i)) else none
  | [.str a] => some (.v, .str a)
  | _ => none
def rStrA : List V → Hp → VK → Prop := fun xs H Q => (∃ i, xs = [.int i] ∧ i.natAbs.log2 < 1920 ∧ Q (.str (toString i)) H) ∨ ∃ a, xs = [.str a] ∧ Q (.str a) H
theorem cr_strA : CallR X (.type "str") rStrA := CallR.or call_str_int SkE.call_str_str
theorem g_str : CallOk K rStrA bStr := by
  intro H O vs ds k z Q s h c
  unfold bStr at h
  split at h
  · split at h
    · rename_i hz
      cases h
      obtain ⟨v, rfl, s1⟩ := s.one
      exact .inl ⟨_, by rw [s1.int], hz, Cv.str c⟩
    · cases h
  · cases h
    obtain ⟨v, rfl, s1⟩ := s.one
    exact .inr ⟨_, by rw [s1.str], Cv.str c⟩
  · cases h
def boolsOf : List D → Option (List Bool)
  | [] => some []
  | .bool i :: r => (boolsOf r).map (i :: ·)
  | _ :: _ => none
theorem boolsOf_eq : ∀ {l : List D} {bs : List Bool}, boolsOf l = some bs → l = bs.map .bool
  | [], ns, h => by cases h; rfl
  | .bool i :: r, ns, h => by
    have h : (boolsOf r).map (i :: ·) = some ns := h
    cases q : boolsOf r with
    | none => rw [q] at h; cases h
    | some l => rw [q] at h; cases h; rw [boolsOf_eq q]; rfl
  | .none :: _, _, h => by cases h
  | .int _ :: _, _, h => by cases h
  | .str _ :: _, _, h => by cases h
  | .list _ :: _, _, h => by cases h
  | .tuple _ :: _, _, h => by cases h
  | .dict _ :: _, _, h => by cases h
theorem boolsOf_map : ∀ bs : List Bool, boolsOf (bs.map .bool) = some bs
  | [] => rfl
  | n :: r => by show (boolsOf (r.map .bool)).map (n :: ·) = _; rw [boolsOf_map r]; rfl
theorem RpAll.bls {H : Hp} {O : Ow} : ∀ {xs : List V} {bs : List Bool}, RpAll K H O xs (bs.map .bool) → xs = bs.map V.bl
  | _, [], .nil => rfl
  | _, n :: r, .cons a b => by cases a; rw [RpAll.bls b]; rfl
def bAll : List D → Option (Kd × D)
  | [.list l] => (boolsOf l).map fun bs => (.v, .bool (bs.all id))
  | _ => none
def bAny : List D → Option (Kd × D)
  | [.list l] => (boolsOf l).map fun bs => (.v, .bool (bs.any id))
  | _ => none
theorem g_all : CallOk K (rAll K) bAll := by
  intro H O vs ds k z Q s h c
  unfold bAll at h
  split at h
  · rename_i l
    cases q : boolsOf l with
    | none => rw [q] at h; cases h
    | some bs =>
      rw [q] at h
      cases h
      obtain ⟨v, rfl, s1⟩ := s.one
      obtain ⟨a, xs, rfl, h1, r1⟩ := s1.lst
      have e := boolsOf_eq q
      subst e
      rw [RpAll.bls r1] at h1
      exact ⟨a, bs, rfl, .of h1, Cv.bl c⟩
  · cases h
theorem g_any : CallOk K (rAny K) bAny := by
  intro H O vs ds k z Q s h c
  unfold bAny at h
  split at h
  · rename_i l
    cases q : boolsOf l with
    | none => rw [q] at h; cases h
    | some bs =>
      rw [q] at h
      cases h
      obtain ⟨v, rfl, s1⟩ := s.one
      obtain ⟨a, xs, rfl, h1, r1⟩ := s1.lst
      have e := boolsOf_eq q
      subst e
      rw [RpAll.bls r1] at h1
      exact ⟨a, bs, rfl, .of h1, Cv.bl c⟩
  · cases h
/-- the ints of a list, rising -/
def sortI (ns : List Int) : List Int := ns.mergeSort (fun a b => decide (a ≤ b))
theorem sortI_perm (ns : List Int) : (sortI ns).Perm ns := List.mergeSort_perm ns _
theorem sortI_sorted (ns : List Int) : (sortI ns).Pairwise (· ≤ ·) := by
  have := List.pairwise_mergeSort (le := fun a b : Int => decide (a ≤ b)) (fun a b c => by simp; omega) (fun a b => by simp; omega) ns
  exact this.imp (by simp)
theorem rise_eq : ∀ {xs ys : List Int}, xs.Pairwise (· ≤ ·) → ys.Pairwise (· ≤ ·) → xs.Perm ys → xs = ys := by
  intro xs
  induction xs with
  | nil => intro ys _ _ h; exact (List.Perm.nil_eq h)
  | cons x r ih =>
    intro ys h1 h2 h
    cases ys with
    | nil => exact absurd h.length_eq (by simp)
    | cons y s =>
      have hx := List.pairwise_cons.mp h1
      have hy := List.pairwise_cons.mp h2
      have e : x = y := by
        have m1 : x ∈ y :: s := h.mem_iff.mp (by simp)
        have m2 : y ∈ x :: r := h.mem_iff.mpr (by simp)
        rcases List.mem_cons.mp m1 with e | m1
        · exact e
        · rcases List.mem_cons.mp m2 with e | m2
          · exact e.symm
          · have := hy.1 x m1
            have := hx.1 y m2
            omega
      subst e
      rw [ih hx.2 hy.2 ((List.perm_cons x).mp h)]
def bSorted : List D → Option (Kd × D)
  | [.list l] => (intsOf l).map fun ns => (.f, .list ((sortI ns).map .int))
  | _ => none
theorem g_sortedI : CallOk K (rSortedI K) bSorted := by
  intro H O vs ds k z Q s h c
  unfold bSorted at h
  split at h
  · rename_i l
    cases q : intsOf l with
    | none => rw [q] at h; cases h
    | some ns =>
      rw [q] at h
      cases h
      obtain ⟨v, rfl, s1⟩ := s.one
      obtain ⟨a, xs, rfl, h1, r1⟩ := s1.lst
      have e := intsOf_eq q
      subst e
      rw [RpAll.ints r1] at h1
      refine ⟨a, ns, rfl, .of h1, fun ns' p hp hs hn => ?_⟩
      have : ns' = sortI ns := rise_eq hs (sortI_sorted ns) (hp.trans (sortI_perm ns).symm)
      subst this
      exact Cf.lst c (rpAll_of _) p hn
  · cases h
where rpAll_of {H : Hp} {O : Ow} : ∀ ns : List Int, RpAll K H O (ns.map V.int) (ns.map PyData.int)
  | [] => .nil
  | n :: r => .cons (.int n) (rpAll_of r)
end

/-! ### [::-1] of lists -/
def mRevL (f : ME) : ME := fun ρ => (f ρ).bind fun r ρ1 => RE.opt (look r ρ1) fun d => match d with
  | .list l => .ok (.fresh (.list l.reverse)) ρ1
  | _ => .bad
/-! ### x += e, of numbers -/
def mAug (i : Nat) (g : D → D → Option (Kd × D)) (fe : ME) : MS := fun ρ => Out.opt (look (.place i) ρ) fun x => RE.out (fe ρ) fun r ρ1 => Out.opt (look r ρ1) fun y => Out.opt (g x y) fun z => match x, z with
  | .int _, (.v, d) => .nx (ρ1.set i (.val d))
  | _, _ => .bad
section
variable {X : Cx} {W : WX} {P : List Nat} {e : Expr} {te : TE} {fe : ME} {pos : Pos} {r : R2} {g : D → D → Option (Kd × D)}
theorem aug_core {K : Fg} {mg : Str → Option Value} {i : Nat} (ip : i ∉ P) (hG : Op2 K r g) (he : TEs K mg W te fe) : TSs K mg W P (tAug i te r) (mAug i g fe) := by
  intro n hn ρ σ H O D R B w
  obtain ⟨x, ex, w⟩ := WantS.opt w
  have sl : ∃ v, σ[i]? = some (some v) ∧ See K H O v x := by
    have q := R.slot i
    cases es : ρ[i]? with
    | none => simp [look, es] at ex
    | some s =>
      have q := q s es
      cases s with
      | no => simp [look, es] at ex
      | val d =>
        simp [look, es] at ex
        subst ex
        obtain ⟨v, e1, rp⟩ := q
        exact ⟨v, e1, .inl rp⟩
      | own d =>
        simp [look, es] at ex
        subst ex
        obtain ⟨a, e1, oa, w⟩ := q
        exact ⟨_, e1, .inr ⟨a, rfl, oa, w⟩⟩
  obtain ⟨v, e1, sx⟩ := sl
  refine ⟨v, e1, he ρ σ H O _ R (w.ev R B fun r1 ρ1 u H1 O1 e2 R1 B1 F1 o1 w1 => ?_)⟩
  obtain ⟨y, ey, w1⟩ := w1.opt
  obtain ⟨⟨k, z⟩, ez, w1⟩ := w1.opt
  cases x with
  | int j =>
    cases k with
    | f => exact w1.elim
    | v =>
      have w1 : WantS K mg W n H1 O1 (.nx (ρ1.set i (.val z))) D := w1
      have sx1 : See K H1 O1 v (.int j) := by rw [sx.int]; exact .inl (.int j)
      refine hG H1 O1 v u (.int j) y .v z _ sx1 (ORel.see1 o1 R F1 R1 ey) ez fun v' H' O' gr rp => ?_
      obtain ⟨R2, B2, _⟩ := set_val (by rw [hn]; exact ip) (gr.rel R1) (B1.frm gr.frm) rp
      exact w1 _ H' O' R2 B2 gr.kp
  | _ => exact w1.elim
theorem ss_aug {i : Nat} {x : Str} {op : Operator} {p : Pos} (ip : i ∉ P) (hN : X.N.Nodup) (hi : X.N[i]? = some x) (hx : Loc X.env.scope x) (hf : X.fn x = true ∨ X.env.scope.names.lookup x = some .local) (ho : OpR X (inplaceOp op) r) (hG : Op2 X.K r g) (he : SE X W e te fe) :
    SS X W P (.AugAssign (.Name x p) op e pos) (tAug i te r) (mAug i g fe) :=
  ⟨ps_aug hN hi hx he.p (fun pins s σ H x y v u Q I rx ry q => ho pins s σ H x y v u Q I rx ry q) hf, aug_core ip hG he.s⟩
theorem se_revL (K : Fg) (hK : X.K = K) {k : Nat} {p1 p2 p3 : Pos} (he : SE X W e te fe) : SE X W (.Subscript e (.Slice none none (some (.UnaryOp .USub (.Constant (.int 1) k p1) p2)) p3) pos) (tRevL K te) (mRevL fe) := by
  subst hK
  refine ⟨pe_revL he.p, fun ρ σ H O Q R h => he.s ρ σ H O _ R (Want.bind h fun r ρ1 v H1 O1 e1 R1 F1 o1 h1 => ?_)⟩
  obtain ⟨d, ed, h1⟩ := h1.opt
  have sx := ORel.see1 o1 R F1 R1 ed
  cases d with
  | list l =>
    obtain ⟨a, xs, rfl, hx, rx⟩ := sx.lst
    exact ⟨a, xs, rfl, .of hx, fun p hp => Cf.lst (h1.ck .f R1) rx.reverse p hp⟩
  | _ => exact h1.elim
end
/-! runs -/
section
variable {K : Co Opd} {u : Tag K} {ρ : Fr} {fa : ME} {KO : CoO} {uo : Tag KO}
theorem ev_isa {T : BT} : Ev (mIsa T fa ρ) K u = Ev (fa ρ) ⟨fun r ρ1 => EvP (look r ρ1) fun d => EvP (isa T d) fun b => K.ok (.val (.bool b)) ρ1, K.ex⟩ .mk := by
  unfold mIsa; simp only [ev_un, evP_un, eu_bind, eu_opt, eu_ok]
def revOf : D → Option D
  | .list l => some (.list l.reverse)
  | _ => none
theorem ev_revL : Ev (mRevL fa ρ) K u = Ev (fa ρ) ⟨fun r ρ1 => EvP (look r ρ1) fun d => EvP (revOf d) fun l => K.ok (.fresh l) ρ1, K.ex⟩ .mk := by
  unfold mRevL; simp only [ev_un, evP_un, eu_bind, eu_opt]
  congr
  funext r ρ1
  congr
  funext d
  cases d with
  | list l => simp only [revOf, euP_some, eu_ok]
  | _ => simp only [revOf, euP_none]; rfl
def augOf (x : D) (z : Kd × D) : Option D := match x, z with
  | .int _, (.v, d) => some d
  | _, _ => none
theorem evo_aug {i : Nat} {g : D → D → Option (Kd × D)} : EvO (mAug i g fa ρ) KO uo = EvP (look (.place i) ρ) fun x => Ev (fa ρ) ⟨fun r ρ1 => EvP (look r ρ1) fun y => EvP (g x y) fun z => EvP (augOf x z) fun d => KO.go (.nx (ρ1.set i (.val d))), fun x ρ => KO.go (.exc x ρ)⟩ .mk := by
  unfold mAug
  simp only [evo_opt, evP_un, evo_out, ev_un]
  congr
  funext x
  congr
  funext r ρ1
  congr
  funext y
  congr
  funext z
  obtain ⟨k, d⟩ := z
  cases x <;> cases k <;> simp [augOf, euP_some, euP_none, evo_nx, evo_bad]
end
end L3
set_option Elab.async false
set_option linter.all false
set_option maxRecDepth 100000
set_option maxHeartbeats 4000000
set_option autoImplicit false
/-! L3R: x[::-1] of tuples and lists. -/
namespace L3R
open PySem PySem.Spec PyProof.Rows HT
section
variable {prog : Program} {w : World} {A : Around} {E : Value → Shared → Prop} {s : Shared}
theorem back_adjust (n : Nat) : Builtin.Slice.sliceAdjust none none (-1) (n : Int) = ((n : Int) - 1, -1) := by
  unfold Builtin.Slice.sliceAdjust
  simp
theorem back_places (n : Nat) : Builtin.Slice.slicePlaces ((n : Int) - 1) (-1) (-1) = n := by
  unfold Builtin.Slice.slicePlaces
  have h1 : ¬ ((-1 : Int) > 0) := by omega
  simp only [h1, if_false]
  split <;> (try simp) <;> omega
theorem back_applied {sl : Addr} {vl vu vs : Value} {n : Nat} {Q : Int × Int × Nat → Shared → Prop} (hs : s.heap.IsSliceOf sl vl vu vs) (pl : IsPart vl none) (pu : IsPart vu none) (ps : IsPart vs (some (-1)))
    (h : Q ((n : Int) - 1, -1, n) s) : wpAny (model prog w) A (Builtin.Slice.sliceApplied (.ref sl) (pure (n : Int))) Q E s := by
  obtain ⟨ob, ho, hc, hd⟩ := id hs
  unfold Builtin.Slice.sliceApplied Builtin.Slice.sliceFields
  refine wpAny_bind (wpAny_bind (wpAny_field ho hd (x := vl) rfl (wpAny_bind (wpAny_field ho hd (x := vu) rfl (wpAny_bind (wpAny_field ho hd (x := vs) rfl (wpAny_pure ?_)))))))
  refine wpAny_bind (slicePart_ ps ?_)
  show wpAny _ _ (if ((-1 : Int) == 0) = true then _ else _) _ _ s
  rw [if_neg (by decide)]
  refine wpAny_bind (slicePart_ pl (wpAny_bind (slicePart_ pu (wpAny_bind (wpAny_pure ?_)))))
  show wpAny _ _ (match Builtin.Slice.sliceAdjust none none (-1) (n : Int) with | (lo, hi) => pure (lo, (-1 : Int), Builtin.Slice.slicePlaces lo hi (-1))) _ _ s
  rw [back_adjust n]
  show wpAny _ _ (pure ((n : Int) - 1, (-1 : Int), Builtin.Slice.slicePlaces ((n : Int) - 1) (-1) (-1))) _ _ s
  rw [back_places]
  exact wpAny_pure h
theorem back_pick (xs : Array Value) : ((List.range xs.size).filterMap fun (m : Nat) => xs[(((xs.size : Int) - 1) + (m : Int) * (-1)).toNat]?).toArray = xs.toList.reverse.toArray := by
  have e : ∀ m ∈ List.range xs.size, xs[(((xs.size : Int) - 1) + (m : Int) * (-1)).toNat]? = (fun k => xs[xs.size - 1 - k]?) m := by
    intro m hm
    have := List.mem_range.mp hm
    show _ = xs[xs.size - 1 - m]?
    rw [show (((xs.size : Int) - 1) + (m : Int) * (-1)).toNat = xs.size - 1 - m by omega]
  have e0 : (List.range xs.size).filterMap (fun (m : Nat) => xs[(((xs.size : Int) - 1) + (m : Int) * (-1)).toNat]?) = (List.range xs.size).filterMap (fun k => xs[xs.size - 1 - k]?) := by
    have gen : ∀ l : List Nat, (∀ m ∈ l, m < xs.size) → l.filterMap (fun (m : Nat) => xs[(((xs.size : Int) - 1) + (m : Int) * (-1)).toNat]?) = l.filterMap (fun k => xs[xs.size - 1 - k]?) := by
      intro l
      induction l with
      | nil => intro _; rfl
      | cons m r ih =>
        intro hm
        rw [List.filterMap_cons, List.filterMap_cons, e m (List.mem_range.mpr (hm m (by simp))), ih fun k hk => hm k (by simp [hk])]
    exact gen _ fun m hm => List.mem_range.mp hm
  rw [e0]
  have e2 : (List.range xs.size).filterMap (fun k => xs[xs.size - 1 - k]?) = ((List.range xs.size).map fun k => xs.size - 1 - k).filterMap (xs[·]?) := by
    rw [List.filterMap_map]; rfl
  rw [e2, PySem.W.krv_range, List.filterMap_reverse, PySem.W.krv_all]
theorem tuple_back {t sl : Addr} {items : Array Value} {vl vu vs : Value} {Q : Value → Shared → Prop} (ht : IsTup s.heap t items) (hs : s.heap.IsSliceOf sl vl vu vs) (pl : IsPart vl none) (pu : IsPart vu none) (ps : IsPart vs (some (-1)))
    (h : Q (.ref s.heap.objs.size) { s with heap := s.heap.push { cls := .type "tuple", data := .seq items.toList.reverse.toArray } }) (hsz : items.size ≤ sizeLine) : wpAny (model prog w) A (getItem (.ref t) (.ref sl)) Q E s := by
  have hz : sizeOk (.seq items.toList.reverse.toArray) := by
    show items.toList.reverse.toArray.size ≤ sizeLine
    rw [List.size_toArray, List.length_reverse, Array.length_toList]
    exact hsz
  obtain ⟨ob, ho, hc, hd⟩ := id hs
  have hT : s.TypeIs (.ref sl) "slice" := ⟨ob, ho, hc⟩
  unfold getItem
  try with_reducible refine wpAny_holding ?_
  first | refine wpAny_bind (wpAny_pure ?_) | skip
  refine wpAny_bind (wpAny_sequenceKey ht.typeIs (by decide) ?_)
  refine wpAny_bind (wpAny_callSpecial?_slot (name := Str.ofString "__getitem__") ht.typeIs PyProof.Rows.slot_tuple_getitem (wpAny_call_entry PyProof.Rows.slot_tuple_getitem ht.typeIs entry_tuple_getitem ?_ (args_tuple_getitem _ _)))
  show wpAny _ _ (Builtin.Tuple.tupleItemsOf (.ref t) >>= _) _ _ s
  refine wpAny_bind (tupleItemsOf_ ht ?_)
  refine wpAny_bind (wpAny_typeOf hT ?_)
  rw [if_pos (by decide)]
  refine wpAny_bind (back_applied hs pl pu ps ?_)
  have hno : ¬ ((((items.size : Int) - 1) == 0 && (-1 : Int) == 1 && items.size == items.size) = true) := by
    rw [Bool.and_eq_true, Bool.and_eq_true]
    rintro ⟨⟨_, q⟩, _⟩
    exact absurd (eq_of_beq q) (by decide)
  show wpAny _ _ (if (((items.size : Int) - 1) == 0 && (-1 : Int) == 1 && items.size == items.size) = true then _ else _) _ _ s
  rw [if_neg hno, back_pick]
  first
    | exact wpAny_bind (m := Builtin.Tuple.tupleExact _) (wpAny_newObj_type (wpAny_pure ⟨_, rfl, wpAny_pure h⟩) hz)
    | exact wpAny_bind (m := Builtin.Tuple.tupleExact _) (wpAny_newObj_type (wpAny_bind (wpAny_pure (wpAny_pure ⟨_, rfl, wpAny_pure h⟩))) hz)
    | exact wpAny_bind (wpAny_bind (m := Builtin.Tuple.tupleExact _) (wpAny_newObj_type (wpAny_pure (wpAny_pure ⟨_, rfl, wpAny_pure h⟩)) hz))
    | exact wpAny_bind (wpAny_bind (m := Builtin.Tuple.tupleExact _) (wpAny_newObj_type (wpAny_pure ⟨_, rfl, wpAny_pure h⟩) hz))
end
end L3R
namespace L3
open PySem PySem.Spec L2
def tRevA (K : Fg) (te : TE) : TE := fun σ H Q => te σ H fun x H1 => ∃ a xs, x = .ref a ∧ ((SqL K H1 a xs ∧ ∀ p, H1 p = none → Q (.ref p) (upd H1 p (.lst xs.reverse))) ∨ (SqT K H1 a xs ∧ ∀ p, H1 p = none → Q (.ref p) (upd H1 p (.tup xs.reverse))))
theorem pe_revA {X : Cx} {pos : Pos} {e : Expr} {te : TE} {k : Nat} {p1 p2 p3 : Pos} (he : PE X e te) : PE X (.Subscript e (.Slice none none (some (.UnaryOp .USub (.Constant (.int 1) k p1) p2)) p3) pos) (tRevA X.K te) := by
  refine ⟨fun pins s σ H Q I h => ?_⟩
  refine PyProof.Rows.Subscript_ (thn (he.run pins s σ H _ I h) fun v s1 hz => ?_)
  obtain ⟨x, H1, I1, r1, a, xs, rfl, q⟩ := hz
  cases r1
  have hst : PO X (some (.UnaryOp .USub (.Constant (.int 1) k p1) p2)) (tPart (tUn (rU fun i => .int (-i)) (tC (.int 1)))) := po_some (pe_un un_neg pe_int)
  refine wpAny_Slice (thn (po_none.run pins s1 σ H1 (fun o H2 => o = none ∧ H2 = H1) I1 ⟨rfl, rfl⟩) fun vl s2 hz => ?_)
  obtain ⟨l, H2, I2, pl, rfl, rfl⟩ := hz
  refine thn (po_none.run pins s2 σ H2 (fun o H3 => o = none ∧ H3 = H2) I2 ⟨rfl, rfl⟩) fun vu s3 hz => ?_
  obtain ⟨u, H3, I3, pu, rfl, rfl⟩ := hz
  refine thn (hst.run pins s3 σ H3 (fun o H4 => o = some (-1) ∧ H4 = H3) I3 ⟨1, rfl, -1, rfl, rfl, rfl⟩) fun vs s4 hz => ?_
  obtain ⟨o, H4, I4, ps, rfl, rfl⟩ := hz
  have I5 : Inv X pins σ H4 { s4 with heap := s4.heap.push { cls := .type "slice", data := .fields #[vl, vu, vs] } } := I4.kept (t' := s4.toks) fun b ob q => Heap.get?_push_of_some _ q
  show wpAny (model X.prog X.w) X.A (PyProof.Rows.subscriptTail e (.Slice none none (some (.UnaryOp .USub (.Constant (.int 1) k p1) p2)) p3) (.ref a) (.ref s4.heap.objs.size)) (EP X pins σ Q) X.xe { s4 with heap := s4.heap.push { cls := .type "slice", data := .fields #[vl, vu, vs] } }
  rcases q with ⟨hx, q⟩ | ⟨hx, q⟩
  · obtain ⟨its, r, ht, hz⟩ := I5.list hx
    have hlen := r.length
    refine PyProof.Rows.tail_any (ops := [.ref a, .ref s4.heap.objs.size]) ht.isList.typeIs (PySem.slot_list_getitem.lookup) ?_ (by with_unfolding_all rfl)
    refine wpAny_getItem_list_slice ht.isList (Heap.IsSliceOf.new _ vl vu vs) pl pu ps (by decide) ?_ (by rw [List.size_toArray]; omega)
    rw [PySem.W.krv_pick]
    exact ⟨.ref _, _, I5.laid (t' := s4.toks) (o := .lst xs.reverse) (fun b ob q => Heap.get?_push_of_some _ q) (Nat.le_refl _) ⟨by rw [List.length_reverse]; exact hz, _, 0, r.reverse, Heap.get?_push_size _ rfl⟩, rfl, q _ (I5.hok.fresh (Nat.le_refl _))⟩
  · obtain ⟨its, r, ht, hz⟩ := I5.tuple hx
    have hlen := r.length
    refine PyProof.Rows.tail_any (ops := [.ref a, .ref s4.heap.objs.size]) ht.typeIs (PyProof.Rows.slot_tuple_getitem.lookup) ?_ (by with_unfolding_all rfl)
    refine L3R.tuple_back ht (Heap.IsSliceOf.new _ vl vu vs) pl pu ps ?_ (by rw [List.size_toArray]; omega)
    exact ⟨.ref _, _, I5.laid (t' := s4.toks) (o := .tup xs.reverse) (fun b ob q => Heap.get?_push_of_some _ q) (Nat.le_refl _) ⟨by rw [List.length_reverse]; exact hz, _, r.reverse, PyProof.Rows.IsTup.new _ _⟩, rfl, q _ (I5.hok.fresh (Nat.le_refl _))⟩
def revAll : D → Option (Kd × D)
  | .list l => some (.f, .list l.reverse)
  | .tuple l => some (.v, .tuple l.reverse)
  | _ => none
theorem se_revA {X : Cx} {W : WX} {pos : Pos} {e : Expr} {te : TE} {fe : ME} (K : Fg) (hK : X.K = K) {k : Nat} {p1 p2 p3 : Pos} (he : SE X W e te fe) : SE X W (.Subscript e (.Slice none none (some (.UnaryOp .USub (.Constant (.int 1) k p1) p2)) p3) pos) (tRevA K te) (mOp1 revAll fe) := by
  subst hK
  refine ⟨pe_revA he.p, fun ρ σ H O Q R h => he.s ρ σ H O _ R (Want.bind h fun r ρ1 v H1 O1 e1 R1 F1 o1 h1 => ?_)⟩
  obtain ⟨d, ed, h1⟩ := h1.opt
  obtain ⟨⟨kd, z⟩, ez, h1⟩ := h1.opt
  have sx := ORel.see1 o1 R F1 R1 ed
  have c := h1.ck kd R1
  cases d with
  | list l =>
    cases ez
    obtain ⟨a, xs, rfl, hx, rx⟩ := sx.lst
    exact ⟨a, xs, rfl, .inl ⟨.of hx, fun p hp => Cf.lst c rx.reverse p hp⟩⟩
  | tuple l =>
    cases ez
    obtain ⟨a, xs, rfl, hx, rx⟩ := sx.tup
    exact ⟨a, xs, rfl, .inr ⟨hx, fun p hp => Cv.tup c rx.reverse p hp⟩⟩
  | _ => cases ez
end L3
set_option Elab.async false
set_option linter.all false
set_option maxRecDepth 100000
set_option maxHeartbeats 4000000
set_option autoImplicit false
/-! L3S: more that the printed derivations name. -/
namespace L3
open PySem PySem.Spec L2
def dAddI : D → D → Option (Kd × D)
  | .int i, .int j => some (.v, .int (i + j))
  | _, _ => none
theorem g_addI {K : Fg} : Op2 K (rI0 fun i j => .int (i + j)) dAddI := by
  intro H O x y d e k z Q sx sy h c
  cases d <;> cases e <;> simp only [dAddI] at h <;> try (cases h; done)
  cases h; exact ⟨_, _, sx.int, sy.int, Cv.int c⟩
end L3
set_option Elab.async false
set_option linter.all false
set_option maxRecDepth 100000
set_option maxHeartbeats 4000000
set_option autoImplicit false
/-! L3T: data of bounded size: what repr asks. -/
namespace L3
open PySem PySem.Spec L2
mutual
def cost : D → Nat
  | .none => 8
  | .bool _ => 8
  | .int i => i.natAbs.log2 + 3
  | .str x => 10 * x.length + 2
  | .list l => costs l + 8
  | .tuple l => costs l + 8
  | .dict _ => 0
def costs : List D → Nat
  | [] => 0
  | d :: r => cost d + 4 + costs r
end
mutual
def bitsOk (b : Nat) : D → Bool
  | .int i => decide (i.natAbs < 2 ^ b)
  | .list l => bitsOkAll b l
  | .tuple l => bitsOkAll b l
  | _ => true
def bitsOkAll (b : Nat) : List D → Bool
  | [] => true
  | d :: r => bitsOk b d && bitsOkAll b r
end
structure Dat (b c p : Nat) (d : D) : Prop where
  lay : d.canLay0 = true
  bits : bitsOk b d = true
  cost : cost d ≤ c
  dep : d.depth ≤ p
structure DatL (b c p : Nat) (l : List D) : Prop where
  lay : PyData.canLayAll0 l = true
  bits : bitsOkAll b l = true
  cost : costs l ≤ c
  dep : PyData.depthAll l ≤ p
section
variable {b c p c2 p2 : Nat} {d : D} {l m : List D}
theorem Dat.mono (h : Dat b c p d) (hc : c ≤ c2) (hp : p ≤ p2) : Dat b c2 p2 d := ⟨h.lay, h.bits, Nat.le_trans h.cost hc, Nat.le_trans h.dep hp⟩
theorem DatL.mono (h : DatL b c p l) (hc : c ≤ c2) (hp : p ≤ p2) : DatL b c2 p2 l := ⟨h.lay, h.bits, Nat.le_trans h.cost hc, Nat.le_trans h.dep hp⟩
mutual
theorem bitsOk.mono {b e : Nat} (hb : b ≤ e) : ∀ d : D, bitsOk b d = true → bitsOk e d = true
  | .none, _ => rfl
  | .bool _, _ => rfl
  | .str _, _ => rfl
  | .dict _, _ => rfl
  | .int i, h => by
    simp only [bitsOk, decide_eq_true_eq] at h ⊢
    exact Nat.lt_of_lt_of_le h (Nat.pow_le_pow_right (by decide) hb)
  | .list l, h => by simp only [bitsOk] at h ⊢; exact bitsOkAll.mono hb l h
  | .tuple l, h => by simp only [bitsOk] at h ⊢; exact bitsOkAll.mono hb l h
theorem bitsOkAll.mono {b e : Nat} (hb : b ≤ e) : ∀ l : List D, bitsOkAll b l = true → bitsOkAll e l = true
  | [], _ => rfl
  | d :: r, h => by
    simp only [bitsOkAll, Bool.and_eq_true] at h ⊢
    exact ⟨bitsOk.mono hb d h.1, bitsOkAll.mono hb r h.2⟩
end
theorem Dat.up {e : Nat} (h : Dat b c p d) (hb : b ≤ e) : Dat e c p d := ⟨h.lay, bitsOk.mono hb _ h.bits, h.cost, h.dep⟩
theorem DatL.up {e : Nat} (h : DatL b c p l) (hb : b ≤ e) : DatL e c p l := ⟨h.lay, bitsOkAll.mono hb _ h.bits, h.cost, h.dep⟩
theorem log2_le {n b : Nat} (h : n < 2 ^ b) : n.log2 ≤ b := by
  by_cases h0 : n = 0
  · subst h0; simp
  · exact Nat.le_of_lt ((Nat.log2_lt h0).mpr h)
theorem Dat.int {i : Int} (h : i.natAbs < 2 ^ b) : Dat b (b + 3) 0 (.int i) := ⟨rfl, by simp [bitsOk, h], by have := log2_le h; simp only [L3.cost]; omega, by simp [PyData.depth]⟩
theorem Dat.bool {x : Bool} : Dat b 8 0 (.bool x) := ⟨rfl, rfl, by simp [L3.cost], by simp [PyData.depth]⟩
theorem Dat.none : Dat b 8 0 .none := ⟨rfl, rfl, by simp [L3.cost], by simp [PyData.depth]⟩
theorem Dat.str {s : String} : Dat b (10 * s.length + 2) 0 (.str (Str.ofString s)) := ⟨by simp only [PyData.canLay0]; exact strOk_of s, rfl, by simp only [L3.cost, ofString_length]; omega, by simp [PyData.depth]⟩
theorem Dat.tup (h : DatL b c p l) : Dat b (c + 8) (p + 1) (.tuple l) := ⟨by simp only [PyData.canLay0]; exact h.lay, by simp only [bitsOk]; exact h.bits, by simp only [L3.cost]; have := h.cost; omega, by simp only [PyData.depth]; have := h.dep; omega⟩
theorem Dat.lst (h : DatL b c p l) : Dat b (c + 8) (p + 1) (.list l) := ⟨by simp only [PyData.canLay0]; exact h.lay, by simp only [bitsOk]; exact h.bits, by simp only [L3.cost]; have := h.cost; omega, by simp only [PyData.depth]; have := h.dep; omega⟩
theorem Dat.untup (h : Dat b c p (.tuple l)) : 1 ≤ p ∧ 8 ≤ c ∧ DatL b (c - 8) (p - 1) l := by
  have h1 := h.lay
  have h2 := h.bits
  have h3 := h.cost
  have h4 := h.dep
  simp only [PyData.canLay0] at h1
  simp only [bitsOk] at h2
  simp only [L3.cost] at h3
  simp only [PyData.depth] at h4
  exact ⟨by omega, by omega, h1, h2, by omega, by omega⟩
theorem Dat.unlst (h : Dat b c p (.list l)) : 1 ≤ p ∧ 8 ≤ c ∧ DatL b (c - 8) (p - 1) l := by
  have h1 := h.lay
  have h2 := h.bits
  have h3 := h.cost
  have h4 := h.dep
  simp only [PyData.canLay0] at h1
  simp only [bitsOk] at h2
  simp only [L3.cost] at h3
  simp only [PyData.depth] at h4
  exact ⟨by omega, by omega, h1, h2, by omega, by omega⟩
theorem Dat.noDict {kvs : List (D × D)} (h : Dat b c p (.dict kvs)) : False := by have := h.lay; simp [PyData.canLay0] at this
theorem DatL.nil : DatL b c p [] := ⟨rfl, rfl, Nat.zero_le _, by simp [PyData.depthAll]⟩
theorem DatL.cons (h : Dat b c p d) (r : DatL b c2 p l) : DatL b (c + 4 + c2) p (d :: l) :=
  ⟨by simp only [PyData.canLayAll0, h.lay, r.lay, Bool.and_self], by simp only [bitsOkAll, h.bits, r.bits, Bool.and_self], by have := h.cost; have := r.cost; simp only [costs]; omega, by have := h.dep; have := r.dep; simp only [PyData.depthAll]; omega⟩
theorem DatL.one (h : Dat b c p d) : DatL b (c + 4) p [d] := (DatL.cons h .nil (c2 := 0)).mono (by omega) (Nat.le_refl _)
theorem costs_append : ∀ l m : List D, costs (l ++ m) = costs l + costs m
  | [], m => by simp [costs]
  | d :: r, m => by simp only [List.cons_append, costs, costs_append r m]; omega
theorem depthAll_append : ∀ l m : List D, PyData.depthAll (l ++ m) = max (PyData.depthAll l) (PyData.depthAll m)
  | [], m => by simp [PyData.depthAll]
  | d :: r, m => by simp only [List.cons_append, PyData.depthAll, depthAll_append r m]; omega
theorem canLay_append : ∀ l m : List D, PyData.canLayAll0 (l ++ m) = (PyData.canLayAll0 l && PyData.canLayAll0 m)
  | [], m => by simp [PyData.canLayAll0]
  | d :: r, m => by simp only [List.cons_append, PyData.canLayAll0, canLay_append r m, Bool.and_assoc]
theorem bitsOk_append : ∀ l m : List D, bitsOkAll b (l ++ m) = (bitsOkAll b l && bitsOkAll b m)
  | [], m => by simp [bitsOkAll]
  | d :: r, m => by simp only [List.cons_append, bitsOkAll, bitsOk_append r m, Bool.and_assoc]
theorem DatL.append (h : DatL b c p l) (r : DatL b c2 p m) : DatL b (c + c2) p (l ++ m) :=
  ⟨by rw [canLay_append, h.lay, r.lay]; rfl, by rw [bitsOk_append, h.bits, r.bits]; rfl, by rw [costs_append]; have := h.cost; have := r.cost; omega, by rw [depthAll_append]; have := h.dep; have := r.dep; omega⟩
theorem DatL.split (h : DatL b c p (l ++ m)) : DatL b c p l ∧ DatL b c p m ∧ costs l + costs m ≤ c := by
  have h1 := h.lay
  have h2 := h.bits
  have h3 := h.cost
  have h4 := h.dep
  rw [canLay_append, Bool.and_eq_true] at h1
  rw [bitsOk_append, Bool.and_eq_true] at h2
  rw [costs_append] at h3
  rw [depthAll_append] at h4
  exact ⟨⟨h1.1, h2.1, by omega, by omega⟩, ⟨h1.2, h2.2, by omega, by omega⟩, h3⟩
theorem DatL.take (h : DatL b c p l) (n : Nat) : DatL b c p (l.take n) := by
  have : DatL b c p (l.take n ++ l.drop n) := by rw [List.take_append_drop]; exact h
  exact this.split.1
theorem DatL.drop (h : DatL b c p l) (n : Nat) : DatL b c p (l.drop n) := by
  have : DatL b c p (l.take n ++ l.drop n) := by rw [List.take_append_drop]; exact h
  exact this.split.2.1
theorem DatL.get (h : DatL b c p l) (hd : d ∈ l) : Dat b c p d := by
  obtain ⟨s, t, rfl⟩ := List.append_of_mem hd
  obtain ⟨_, h2, h3⟩ := h.split
  have h4 := h2.lay
  have h5 := h2.bits
  have h6 := h2.cost
  have h7 := h2.dep
  simp only [PyData.canLayAll0, Bool.and_eq_true] at h4
  simp only [bitsOkAll, Bool.and_eq_true] at h5
  simp only [costs] at h6
  simp only [PyData.depthAll] at h7
  exact ⟨h4.1, h5.1, by omega, by omega⟩
theorem DatL.reverse : ∀ {l : List D} {c : Nat}, DatL b c p l → DatL b c p l.reverse
  | [], c, h => h
  | d :: r, c, h => by
    have hd := h.get (d := d) (by simp)
    have hr : DatL b c p r := by have := h.drop 1; simpa using this
    have hc := h.cost
    simp only [costs] at hc
    have h1 : DatL b (costs r) p r := ⟨hr.lay, hr.bits, Nat.le_refl _, hr.dep⟩
    have h2 : Dat b (L3.cost d) p d := ⟨hd.lay, hd.bits, Nat.le_refl _, hd.dep⟩
    rw [List.reverse_cons]
    exact ((DatL.reverse h1).append (.one h2)).mono (by omega) (Nat.le_refl _)
theorem DatL.of_all (n : Nat) : ∀ {l : List D}, (∀ d ∈ l, Dat b n p d) → DatL b (l.length * (n + 4)) p l
  | [], _ => .nil
  | d :: r, h => (DatL.cons (h d (by simp)) (DatL.of_all n fun x hx => h x (by simp [hx]))).mono (by simp only [List.length_cons, Nat.add_mul]; omega) (Nat.le_refl _)
mutual
theorem shown_le : ∀ {d : D}, d.canLay0 = true → d.shown.length ≤ cost d
  | .none, _ => by simp only [PyData.shown, cost]; decide +kernel
  | .bool x, _ => by cases x <;> (simp only [PyData.shown, cost]; decide +kernel)
  | .int i, _ => by
    simp only [PyData.shown, cost]
    have := int_text_length_le (a := i) (k := i.natAbs.log2 + 1) (by omega) (by omega)
    rw [ofString_length]
    omega
  | .str x, h => by
    simp only [PyData.shown, cost]
    refine StrLaws.reprText_len x fun ch hc => ?_
    simp only [PyData.canLay0] at h
    unfold PyData.strOk at h
    rw [← Array.all_toList, List.all_eq_true] at h
    have := h ch hc
    simp only [decide_eq_true_eq] at this
    exact Nat.lt_of_lt_of_le this (by decide)
  | .list l, h => by
    simp only [PyData.canLay0] at h
    simp only [PyData.shown, cost]
    have := listText_len_le (PyData.shownAll l)
    have := shownAll_le h
    omega
  | .tuple l, h => by
    simp only [PyData.canLay0] at h
    simp only [PyData.shown, cost]
    have := tupleText_len_le (PyData.shownAll l)
    have := shownAll_le h
    omega
  | .dict _, h => by simp [PyData.canLay0] at h
theorem shownAll_le : ∀ {l : List D}, PyData.canLayAll0 l = true → ((PyData.shownAll l).map (·.length)).sum + 2 * (PyData.shownAll l).length ≤ costs l
  | [], _ => by simp [PyData.shownAll, costs]
  | d :: r, h => by
    simp only [PyData.canLayAll0, Bool.and_eq_true] at h
    have h1 := shown_le h.1
    have h2 := shownAll_le h.2
    simp only [PyData.shownAll, List.map_cons, List.sum_cons, List.length_cons, costs]
    omega
end
mutual
theorem bits_showable {b : Nat} (hb : b < 1920) : ∀ {d : D}, d.canLay0 = true → bitsOk b d = true → d.showable = true
  | .none, _, _ => by simp [PyData.showable]
  | .bool _, _, _ => by simp [PyData.showable]
  | .str _, _, _ => by simp [PyData.showable]
  | .int i, _, h => by
    simp only [bitsOk, decide_eq_true_eq] at h
    have := log2_le h
    simp only [PyData.showable, decide_eq_true_eq]
    omega
  | .list l, h1, h => by simp only [bitsOk] at h; simp only [PyData.canLay0] at h1; simp only [PyData.showable]; exact bits_showableAll hb h1 h
  | .tuple l, h1, h => by simp only [bitsOk] at h; simp only [PyData.canLay0] at h1; simp only [PyData.showable]; exact bits_showableAll hb h1 h
  | .dict _, h1, _ => by simp [PyData.canLay0] at h1
theorem bits_showableAll {b : Nat} (hb : b < 1920) : ∀ {l : List D}, PyData.canLayAll0 l = true → bitsOkAll b l = true → PyData.showableAll l = true
  | [], _, _ => by simp [PyData.showableAll]
  | d :: r, h1, h => by
    simp only [bitsOkAll, Bool.and_eq_true] at h
    simp only [PyData.canLayAll0, Bool.and_eq_true] at h1
    simp only [PyData.showableAll, bits_showable hb h1.1 h.1, bits_showableAll hb h1.2 h.2, Bool.and_self]
end
theorem Dat.shaped (h : Dat b c p d) (hp : p ≤ 64) : SeqAt.shaped d = true := by
  have h1 : d.depth ≤ 64 := Nat.le_trans h.dep hp
  simp only [SeqAt.shaped, h.lay, h1, decide_true, Bool.and_self]
theorem Dat.repr (h : Dat b c p d) (hb : b < 1920) (hc : c ≤ 16000000) (hp : p ≤ 64) : bRepr [d] = some (.v, .str d.shown) :=
  bRepr_ok (h.shaped hp) (bits_showable hb h.lay h.bits) (Nat.le_trans (shown_le h.lay) (Nat.le_trans h.cost (Nat.le_trans hc (by rw [sizeLine_eq]; decide))))
theorem cEq_empty {l : List D} (h : SeqAt.shaped (.tuple l) = true) : cEq (.tuple l) (.tuple []) = some l.isEmpty := by
  have e : SeqAt.shaped (.tuple []) = true := by decide +kernel
  unfold cEq
  simp only [h, e, Bool.and_self, if_true]
  cases l <;> simp [PyData.eqv, PyData.eqvAll]
end
end L3
set_option Elab.async false
set_option linter.all false
set_option maxRecDepth 100000
set_option maxHeartbeats 4000000
set_option autoImplicit false
/-! L3U: more ways through loops. -/
namespace L3
open PySem PySem.Spec L2
theorem Ev.mono {α : Type} {r : RE α} {K K' : Co α} {u : Tag K} {u' : Tag K'} (h : Ev r K u) (ho : ∀ a ρ, K.ok a ρ → K'.ok a ρ) (he : ∀ x ρ, K.ex x ρ → K'.ex x ρ) : Ev r K' u' := by
  cases h with
  | ok h => exact .ok (ho _ _ h)
  | ex h => exact .ex (he _ _ h)
theorem EvP.mono {α : Type} {x : Option α} {k k' : α → Prop} (h : EvP x k) (hk : ∀ a, k a → k' a) : EvP x k' := by
  obtain ⟨a, e, q⟩ := h
  exact ⟨a, e, hk a q⟩
def liftI (g : Int → Int) : D → D
  | .int w => .int (g w)
  | _ => .none
section
variable {gt : D → Fr → Option Fr} {ft : Fr → RE Bool} {fe : ME} {vs : List Nat} {ds : List D} {ρ : Fr} {K : Co (List D)} {u : Tag K}
theorem lc_map (g : D → D) (step : ∀ d, d ∈ ds → EvP (gt d ρ) fun ρ1 => Ev (ft ρ1) ⟨fun k ρ2 => if k = true then Ev (fe ρ2) ⟨fun r ρ3 => EvP (keepV r ρ3) fun q => kill q.2 vs = ρ ∧ q.1 = g d, fun _ _ => False⟩ .mk else False, fun _ _ => False⟩ .mk)
    (fin : K.ok (ds.map g) ρ) : Ev (lcL gt ft fe vs ds ρ) K u := by
  refine lc_inv (fun i es ρ' => ρ' = ρ ∧ es = (ds.take i).map g) ⟨rfl, rfl⟩ ?_ ?_
  · rintro i d es ρ' hd ⟨rfl, rfl⟩
    refine EvP.mono (step d (List.mem_of_getElem? hd)) fun ρ1 h => Ev.mono h (fun k ρ2 h => ?_) fun _ _ h => h
    cases k with
    | false => exact absurd h (by simp)
    | true =>
      simp only [if_true] at h ⊢
      refine Ev.mono h (fun r ρ3 h => EvP.mono h fun q h => ⟨h.1, ?_⟩) fun _ _ h => h
      rw [h.2, List.take_add_one, hd]
      simp
  · rintro es ρ' ⟨rfl, rfl⟩
    rw [List.take_length]
    exact fin
theorem lc_ints {l : List Int} (g : Int → Int) (step : ∀ w, w ∈ l → EvP (gt (.int w) ρ) fun ρ1 => Ev (ft ρ1) ⟨fun k ρ2 => if k = true then Ev (fe ρ2) ⟨fun r ρ3 => EvP (keepV r ρ3) fun q => kill q.2 vs = ρ ∧ q.1 = .int (g w), fun _ _ => False⟩ .mk else False, fun _ _ => False⟩ .mk)
    (fin : K.ok ((l.map g).map .int) ρ) : Ev (lcL gt ft fe vs (l.map .int) ρ) K u := by
  refine lc_map (liftI g) (fun d hd => ?_) ?_
  · obtain ⟨w, hw, rfl⟩ := List.mem_map.mp hd
    exact step w hw
  · have e : (l.map PyData.int).map (liftI g) = (l.map g).map .int := by
      rw [List.map_map, List.map_map]; rfl
    rw [e]
    exact fin
/-- the items by their places -/
theorem lc_idx (g : Nat → D) (step : ∀ (i : Nat) (d : D), ds[i]? = some d → EvP (gt d ρ) fun ρ1 => Ev (ft ρ1) ⟨fun k ρ2 => if k = true then Ev (fe ρ2) ⟨fun r ρ3 => EvP (keepV r ρ3) fun q => kill q.2 vs = ρ ∧ q.1 = g i, fun _ _ => False⟩ .mk else False, fun _ _ => False⟩ .mk)
    (fin : K.ok ((List.range ds.length).map g) ρ) : Ev (lcL gt ft fe vs ds ρ) K u := by
  refine lc_inv (fun i es ρ' => ρ' = ρ ∧ es = (List.range i).map g) ⟨rfl, rfl⟩ ?_ ?_
  · rintro i d es ρ' hd ⟨rfl, rfl⟩
    refine EvP.mono (step i d hd) fun ρ1 h => Ev.mono h (fun k ρ2 h => ?_) fun _ _ h => h
    cases k with
    | false => exact absurd h (by simp)
    | true =>
      simp only [if_true] at h ⊢
      refine Ev.mono h (fun r ρ3 h => EvP.mono h fun q h => ⟨h.1, ?_⟩) fun _ _ h => h
      rw [h.2, List.range_succ, List.map_append]
      rfl
  · rintro es ρ' ⟨rfl, rfl⟩
    exact fin
end
section
variable {gt : D → Fr → Option Fr} {body : MS} {kl : List Nat} {ds : List D} {ρ : Fr} {KO : CoO} {uo : Tag KO}
/-- a loop that changes one slot -/
theorem for_one (k : Nat) (f : Nat → D) (h0 : ρ.set k (.val (f 0)) = ρ) (step : ∀ (i : Nat) (d : D), ds[i]? = some d → EvP (gt d (ρ.set k (.val (f i)))) fun ρ1 => EvO (body ρ1) (forK (fun ρ' => ρ' = ρ.set k (.val (f (i + 1)))) kl KO) .mk)
    (fin : KO.go (.nx (ρ.set k (.val (f ds.length))))) : EvO (forL gt body kl ds ρ) KO uo := by
  refine for_inv (fun i ρ' => ρ' = ρ.set k (.val (f i))) h0.symm ?_ ?_
  · rintro i d ρ' hd rfl
    exact step i d hd
  · rintro ρ' rfl
    exact fin
/-- a loop that changes nothing -/
theorem for_none (step : ∀ (i : Nat) (d : D), ds[i]? = some d → EvP (gt d ρ) fun ρ1 => EvO (body ρ1) (forK (fun ρ' => ρ' = ρ) kl KO) .mk)
    (fin : KO.go (.nx ρ)) : EvO (forL gt body kl ds ρ) KO uo := by
  refine for_inv (fun i ρ' => ρ' = ρ) rfl ?_ ?_
  · rintro i d ρ' hd rfl
    exact step i d hd
  · rintro ρ' rfl
    exact fin
end
theorem atI_int {l : List Int} {i : Nat} (h : i < l.length) : atI l (i : Int) = some l[i] := by
  rw [atI_in (by omega) (by omega), Int.toNat_natCast, List.getElem?_eq_getElem h]
theorem zip_ints {l c : List Int} {i : Nat} {d : D} (h : (zipD (l.map PyData.int) (c.map PyData.int))[i]? = some d) : ∃ (h1 : i < l.length) (h2 : i < c.length), d = .tuple [.int l[i], .int c[i]] := by
  obtain ⟨hl, _⟩ := List.getElem?_eq_some_iff.mp h
  obtain ⟨x, y, hx, hy, hz⟩ := zipD_get _ _ i hl
  rw [h] at hz
  cases hz
  rw [zipD_length, List.length_map, List.length_map] at hl
  have h1 : i < l.length := by omega
  have h2 : i < c.length := by omega
  rw [List.getElem?_map, List.getElem?_eq_getElem h1] at hx
  rw [List.getElem?_map, List.getElem?_eq_getElem h2] at hy
  cases hx; cases hy
  exact ⟨h1, h2, rfl⟩
theorem zip_len {l c : List Int} (e : l.length = c.length) : (zipD (l.map PyData.int) (c.map PyData.int)).length = c.length := by
  rw [zipD_length, List.length_map, List.length_map]; omega
end L3
set_option Elab.async false
set_option linter.all false
set_option maxRecDepth 100000
set_option maxHeartbeats 4000000
set_option autoImplicit false
/-! L3V: sorted(set(..)). -/
namespace L3
open PySem PySem.Spec L2
theorem bb_set : bootBuiltins "set" = some (.type "set") := by decide +kernel
/-- set(t), t a tuple of ints -/
def rSetI (K : Fg) (w : World) : List V → Hp → VK → Prop := fun vs H Q => ∃ (l : Addr) (ns : List Int), vs = [V.ref l] ∧ SqT K H l (ns.map V.int) ∧ ns.length < 64 ∧
  ∀ (a : Addr) (n : Nat), H a = none → n ≤ ns.length → Q (.ref a) (upd H a (SetO w a (fun j => decide (j ∈ ns)) n))
theorem cr_setI {X : Cx} (hc : X.calm = true) : CallR X (.type "set") (rSetI X.K X.w) := by
  intro pins s σ H xs us Q I r h
  obtain ⟨l, ns, rfl, hl, hf, q⟩ := h
  rw [Vals.ref1 r]
  obtain ⟨its, rv, pl, hz⟩ := I.tuple hl
  have hn : H s.heap.objs.size = none := I.hok.fresh (Nat.le_refl _)
  refine call_set_tupI (P := X.prog) (w := X.w) ns (I.ok.hd hc) pl (by simpa using Vals.ints rv) (by have : scanBound = 4096 := rfl; omega) fun h' tk c R hcl k => ?_
  exact ⟨.ref s.heap.objs.size, upd H s.heap.objs.size (SetO X.w s.heap.objs.size (fun j => decide (j ∈ ns)) c), I.laid (t' := tk) k (Nat.le_refl _) (setO_new R), rfl, q _ c hn hcl⟩
def rSS (K : Fg) (w : World) : List V → Hp → VK → Prop := fun vs H Q => rSetI K w vs H fun v H2 => rSortedSet w [v] H2 Q
def insU (x : Int) : List Int → List Int
  | [] => [x]
  | y :: r => if x < y then x :: y :: r else if x = y then y :: r else y :: insU x r
/-- sorted, each once -/
def usI : List Int → List Int
  | [] => []
  | x :: r => insU x (usI r)
theorem mem_insU {x z : Int} : ∀ {l : List Int}, z ∈ insU x l ↔ z = x ∨ z ∈ l
  | [] => by simp [insU]
  | y :: r => by
    unfold insU
    split
    · simp
    · split
      · rename_i h; subst h; simp
      · have := mem_insU (x := x) (z := z) (l := r)
        simp only [List.mem_cons, this]
        constructor
        · rintro (h | h | h) <;> simp [h]
        · rintro (h | h | h) <;> simp [h]
theorem insU_sorted {x : Int} : ∀ {l : List Int}, l.Pairwise (· < ·) → (insU x l).Pairwise (· < ·)
  | [], _ => by simp [insU]
  | y :: r, h => by
    obtain ⟨h1, h2⟩ := List.pairwise_cons.mp h
    unfold insU
    split
    · rename_i hx
      refine List.pairwise_cons.mpr ⟨fun z hz => ?_, h⟩
      rcases List.mem_cons.mp hz with rfl | hz
      · exact hx
      · exact Int.lt_trans hx (h1 z hz)
    · split
      · exact h
      · refine List.pairwise_cons.mpr ⟨fun z hz => ?_, insU_sorted h2⟩
        rcases mem_insU.mp hz with rfl | hz
        · omega
        · exact h1 z hz
theorem mem_usI {z : Int} : ∀ {l : List Int}, z ∈ usI l ↔ z ∈ l
  | [] => by simp [usI]
  | x :: r => by rw [usI, mem_insU, mem_usI, List.mem_cons]
theorem usI_sorted : ∀ l : List Int, (usI l).Pairwise (· < ·)
  | [] => .nil
  | x :: r => insU_sorted (usI_sorted r)
theorem strict_eq : ∀ {l m : List Int}, l.Pairwise (· < ·) → m.Pairwise (· < ·) → (∀ x, x ∈ l ↔ x ∈ m) → l = m
  | [], [], _, _, _ => rfl
  | [], y :: m, _, _, h => absurd ((h y).mpr (by simp)) (by simp)
  | x :: l, [], _, _, h => absurd ((h x).mp (by simp)) (by simp)
  | x :: l, y :: m, h1, h2, h => by
    obtain ⟨a1, a2⟩ := List.pairwise_cons.mp h1
    obtain ⟨b1, b2⟩ := List.pairwise_cons.mp h2
    have exy : x = y := by
      rcases List.mem_cons.mp ((h x).mp (by simp)) with e | e
      · exact e
      · rcases List.mem_cons.mp ((h y).mpr (by simp)) with e2 | e2
        · exact e2.symm
        · have := a1 y e2; have := b1 x e; omega
    subst exy
    refine congrArg _ (strict_eq a2 b2 fun z => ?_)
    have := h z
    constructor
    · intro hz
      rcases List.mem_cons.mp (this.mp (by simp [hz])) with e | e
      · subst e; exact absurd (a1 z hz) (by omega)
      · exact e
    · intro hz
      rcases List.mem_cons.mp (this.mpr (by simp [hz])) with e | e
      · subst e; exact absurd (b1 z hz) (by omega)
      · exact e
theorem usI_of_sorted {l : List Int} (h : l.Pairwise (· < ·)) : usI l = l := strict_eq (usI_sorted l) h fun _ => mem_usI
def bSSet : List D → Option (Kd × D)
  | [.tuple l] => match intsOf l with
    | some ns => if ns.length < 64 then some (.f, .list ((usI ns).map .int)) else none
    | none => none
  | _ => none
theorem usI_len : ∀ l : List Int, (usI l).length ≤ l.length
  | [] => Nat.le_refl _
  | x :: r => by
    have h := usI_len r
    have : ∀ l : List Int, (insU x l).length ≤ l.length + 1 := by
      intro l
      induction l with
      | nil => simp [insU]
      | cons y r ih =>
        unfold insU
        split
        · simp
        · split
          · simp
          · simp only [List.length_cons]; omega
    have h2 := this (usI r)
    simp only [usI, List.length_cons]
    omega
theorem g_sset {K : Fg} {w : World} : CallOk K (rSS K w) bSSet := by
  intro H O vs ds k z Q s h c
  unfold bSSet at h
  split at h
  · rename_i l
    cases q : intsOf l with
    | none => rw [q] at h; cases h
    | some ns =>
      rw [q] at h
      have h : (if ns.length < 64 then some (Kd.f, PyData.list ((usI ns).map .int)) else none) = some (k, z) := h
      split at h
      · rename_i h64
        cases h
        obtain ⟨v, rfl, s1⟩ := s.one
        obtain ⟨a, xs, rfl, h1, r1⟩ := s1.tup
        have e := intsOf_eq q
        subst e
        rw [RpAll.ints r1] at h1
        refine ⟨a, ns, rfl, h1, h64, fun b n hb hn => ?_⟩
        refine ⟨b, _, n, rfl, upd_same, by omega, fun ns' p hp hm hl hpn => ?_⟩
        have e2 : ns' = usI ns := strict_eq hp (usI_sorted ns) fun x => by rw [hm, mem_usI]; simp
        subst e2
        have c2 : Cf K (upd H b (SetO w b (fun j => decide (j ∈ ns)) n)) O (.list ((usI ns).map .int)) Q := fun v H' O' g r => by
          have g0 : Gr H O (upd H b (SetO w b (fun j => decide (j ∈ ns)) n)) O := .new hb
          refine c v H' O' ⟨fun a o ha => ?_, fun d => g.dom (g0.dom d)⟩ ?_
          · obtain ⟨x1, x2⟩ := g0.keep a o ha
            obtain ⟨y1, y2⟩ := g.keep a o x1
            exact ⟨y1, y2.trans x2⟩
          · obtain ⟨a, e1, e2, e3, e4⟩ := r
            refine ⟨a, e1, ?_, e3, e4⟩
            cases qa : H a with
            | none => rfl
            | some o => exact absurd e2 (by rw [(g0.keep a o qa).1]; intro z; cases z)
        exact Cf.lst c2 (g_sortedI.rpAll_of _) p hpn
      · cases h
  · cases h
section
variable {X : Cx} {W : WX} {p p2 q pos : Pos} {e : Expr} {ta : TA} {fa : MAr}
theorem se_sset (hc : X.calm = true) (hg : Gl X "sorted") (hm : X.mg "sorted" = none) (hb : bootBuiltins "sorted" = some (.builtin "sorted")) (hg2 : Gl X "set") (hm2 : X.mg "set" = none)
    (he2 : starEach [e] X.env = (false, eval e X.env) :: starEach [] X.env) (hpl2 : (backTo q (starEach [] X.env)).any (·.1) = false)
    (he : starEach [.Call (.Name "set" p2) [e] [] q] X.env = (false, eval (.Call (.Name "set" p2) [e] [] q) X.env) :: starEach [] X.env) (hpl : (backTo pos (starEach [] X.env)).any (·.1) = false)
    (ha : SAr X W [e] ta fa) : SE X W (.Call (.Name "sorted" p) [.Call (.Name "set" p2) [e] [] q] [] pos) (tCB (rSS X.K X.w) ta) (mBi bSSet fa) := by
  have h1 : PE X (.Call (.Name "set" p2) [e] [] q) (tCB (rSetI X.K X.w) ta) := pe_callTy (cr_setI hc) hg2 hm2 bb_set ha.p (by decide) (by decide) he2 hpl2
  have h2 := pe_callB (pos := pos) (p := p) (cr_sortedSet hc) hg hm hb (pa_cons h1 pa_nil he) (by decide) (by decide) he hpl
  exact ⟨h2, bi_core g_sset ha.s⟩
end
end L3
set_option Elab.async false
set_option linter.all false
set_option maxRecDepth 100000
set_option maxHeartbeats 4000000
set_option autoImplicit false
/-! L3W: tuples of ints compared, sorted, in sets. -/
namespace L3
open PySem PySem.Spec L2
/-! ### a <= b -/
def lexLe (ns ms : List Int) : Bool := Ob.lexAt (fun j => decide (ns.getD j 0 = ms.getD j 0)) (fun j => decide (ns.getD j 0 ≤ ms.getD j 0)) (decide (ns.length ≤ ms.length)) 0 (min ns.length ms.length)
def rLeA (K : Fg) : R2 := fun x y H Q => rI0 (fun i j => .bl (decide (i ≤ j))) x y H Q ∨ rLeT K x y H Q
def cLeA : D → D → Option Bool
  | .int i, .int j => some (decide (i ≤ j))
  | .tuple l, .tuple m => (intsOf l).bind fun ns => (intsOf m).map fun ms => lexLe ns ms
  | _, _ => none
theorem op_leA {X : Cx} (hu : X.A.units < cLine) : OpR X (compareOp .LtE) (rLeA X.K) := OpR.or op_le (op_leT hu)
theorem g_leA {K : Fg} : CmpOk K (rLeA K) cLeA := by
  intro H O x y d e b Q sx sy h c
  cases d <;> cases e <;> simp only [cLeA] at h <;> try (cases h; done)
  · cases h; exact .inl ⟨_, _, sx.int, sy.int, c⟩
  · rename_i l m
    cases q : intsOf l with
    | none => rw [q] at h; cases h
    | some ns =>
      cases q2 : intsOf m with
      | none => rw [q, q2] at h; cases h
      | some ms =>
        rw [q, q2] at h
        cases h
        obtain ⟨a, xs, rfl, h1, r1⟩ := sx.tup
        obtain ⟨a2, xs2, rfl, h2, r2⟩ := sy.tup
        have e1 := intsOf_eq q
        have e2 := intsOf_eq q2
        subst e1; subst e2
        rw [RpAll.ints r1] at h1
        rw [RpAll.ints r2] at h2
        exact .inr ⟨a, a2, ns, ms, rfl, rfl, h1, h2, c⟩
/-! ### sorted(t) -/
section
open PyProof.Rows SrtO
variable {prog : Program} {w : World} {A : Around} {E : Value → Shared → Prop} {s : Shared}
theorem sorted_ordT {l : Addr} {vs : List Value} {ltv : Value → Value → Bool} {Q : Value → Shared → Prop} (O : Swo ltv) (hl : s.heap.IsTuple l vs.toArray) (hz : vs.length ≤ sizeLine)
    (hS : 2 ≤ vs.length → ∀ (h₁ : Heap) (a : Addr), h₁.get? a = some (seqObj "list" vs.toArray 0) → (∀ b o, s.heap.get? b = some o → b ≠ a ∧ h₁.get? b = some o) → SortableO prog w A.in1.in1 { s with heap := h₁ } a vs ltv)
    (h : ∀ (h1 : Heap) (out : List Value), (∀ b o, s.heap.get? b = some o → b < h1.objs.size ∧ h1.get? b = some o) → Srtd ltv out → Stb ltv out vs → Q (.ref h1.objs.size) { s with heap := sortedHeap (h1.push (seqObj "list" vs.toArray 0)) h1.objs.size vs out.toArray }) :
    wpAny (model prog w) A (call (.builtin "sorted") [.ref l]) Q E s := by
  refine Calls.call_function_entry kind_sorted plain_sorted entry_sorted (args_sorted1 _) ?_
  unfold Builtin.«sorted»
  refine wpAny_bind (m := checkCount "sorted" 1 1 _) (wpAny_pure ?_)
  obtain ⟨o, ho, hc, n, hd⟩ := id hl
  refine wpAny_bind (wpAny_collect_seq l (.inr rfl) ho hc hd (fun h1 hk => ?_) (by simpa using hz))
  have hlt : ∀ b o, s.heap.get? b = some o → b < h1.objs.size ∧ h1.get? b = some o := fun b o q => ⟨Heap.lt_size (hk b o q), hk b o q⟩
  rw [show vs.toArray.toList = vs from rfl]
  refine wpAny_bind (wpAny_newList ?_ hz)
  have hoL : (h1.push (seqObj "list" vs.toArray 0)).get? h1.objs.size = some (seqObj "list" vs.toArray 0) := Heap.get?_push_size _ rfl
  have keep : ∀ b o, s.heap.get? b = some o → b ≠ h1.objs.size ∧ (h1.push (seqObj "list" vs.toArray 0)).get? b = some o := fun b o q => ⟨Nat.ne_of_lt (hlt b o q).1, Heap.get?_push_of_some _ (hlt b o q).2⟩
  show wpAny _ _ _ _ _ { s with heap := h1.push (seqObj "list" vs.toArray 0) }
  refine wpAny_bind (wpAny_holding (wpAny_call_entry slot_list_sort ⟨_, hoL, rfl⟩ entry_list_sort (list_sort_ord O hoL hz (fun h2 => hS h2 _ _ hoL keep) fun out hs hb => ⟨_, rfl, ?_⟩) (args_list_sort _)))
  exact wpAny_pure ⟨_, rfl, h h1 out hlt hs hb⟩
end
def rSortedIT (K : Fg) : List V → Hp → VK → Prop := fun vs H Q => ∃ (a : Addr) (ns : List Int), vs = [V.ref a] ∧ SqT K H a (ns.map V.int) ∧
  ∀ (ns' : List Int) (p : Addr), ns'.Perm ns → ns'.Pairwise (· ≤ ·) → H p = none → Q (.ref p) (upd H p (.lst (ns'.map V.int)))
theorem cr_sortedIT {X : Cx} : CallR X (.builtin "sorted") (rSortedIT X.K) := by
  intro pins s σ H vs us Q I r h
  obtain ⟨a, ns, rfl, hs, q⟩ := h
  obtain ⟨its, rv, hl, hz⟩ := I.tuple hs
  rw [Vals.ref1 r]
  have hi : PyProof.Rows.IntsAre its ns := rv.ints
  refine sorted_ordT SrtO.swo_int hl (by rw [← rv.length]; exact hz) (fun h2 h₁ a' _ _ => SrtO.ints_sortable hi h2) fun h1 out hk o1 o2 => ?_
  obtain ⟨k1, k2, k3⟩ := SrtO.ints_out hi o1 o2
  have hoL : (h1.push (PyProof.Rows.seqObj "list" its.toArray 0)).get? h1.objs.size = some (PyProof.Rows.seqObj "list" its.toArray 0) := Heap.get?_push_size _ rfl
  obtain ⟨ep, he'⟩ := PyProof.Rows.sortedHeap_at (out := out.toArray) hoL
  have hlen : ((out.map SrtO.iv).map V.int).length ≤ sizeLine := by
    rw [List.length_map, k2.length_eq]
    rw [List.length_map] at hz
    exact hz
  have old : ∀ b o, h1.get? b = some o → (PyProof.Rows.sortedHeap (h1.push (PyProof.Rows.seqObj "list" its.toArray 0)) h1.objs.size its out.toArray).get? b = some o := fun b o e => by
    have e1 := Heap.lt_size e
    rw [PyProof.Rows.sortedHeap_old (Nat.ne_of_lt e1) (by rw [Heap.size_push]; exact Nat.lt_succ_of_lt e1)]
    exact Heap.get?_push_of_some _ e
  have I1 : Inv X pins σ H { s with heap := h1 } := I.kept (t' := s.toks) fun b o e => (hk b o e).2
  exact ⟨.ref _, upd H h1.objs.size (.lst ((out.map SrtO.iv).map V.int)), I1.laid (t' := s.toks) old (Nat.le_refl _) ⟨hlen, out, ep, vals_of_ints k1, he'⟩, rfl, q _ _ k2 k3 (I1.hok.fresh (Nat.le_refl _))⟩
def rSortedA (K : Fg) : List V → Hp → VK → Prop := fun vs H Q => rSortedI K vs H Q ∨ rSortedIT K vs H Q
def bSortedA : List D → Option (Kd × D)
  | [.list l] => (intsOf l).map fun ns => (.f, .list ((sortI ns).map .int))
  | [.tuple l] => (intsOf l).map fun ns => (.f, .list ((sortI ns).map .int))
  | _ => none
theorem g_sortedA {K : Fg} : CallOk K (rSortedA K) bSortedA := by
  intro H O vs ds k z Q s h c
  unfold bSortedA at h
  split at h
  · exact .inl (g_sortedI H O vs _ k z Q s h c)
  · rename_i l
    cases q : intsOf l with
    | none => rw [q] at h; cases h
    | some ns =>
      rw [q] at h
      cases h
      obtain ⟨v, rfl, s1⟩ := s.one
      obtain ⟨a, xs, rfl, h1, r1⟩ := s1.tup
      have e := intsOf_eq q
      subst e
      rw [RpAll.ints r1] at h1
      refine .inr ⟨a, ns, rfl, h1, fun ns' p hp hs hn => ?_⟩
      have : ns' = sortI ns := rise_eq hs (sortI_sorted ns) (hp.trans (sortI_perm ns).symm)
      subst this
      exact Cf.lst c (g_sortedI.rpAll_of _) p hn
  · cases h
/-! ### sorted(set(rows)) -/
def rowsOf : List D → Option (List (List Int))
  | [] => some []
  | .tuple r :: t => (intsOf r).bind fun ns => (rowsOf t).map (ns :: ·)
  | _ => none
def tupI (r : List Int) : D := .tuple (r.map .int)
theorem rowsOf_eq : ∀ {l : List D} {rs : List (List Int)}, rowsOf l = some rs → l = rs.map tupI
  | [], rs, h => by cases h; rfl
  | .tuple r :: t, rs, h => by
    have h : ((intsOf r).bind fun ns => (rowsOf t).map (ns :: ·)) = some rs := h
    cases q : intsOf r with
    | none => rw [q] at h; cases h
    | some ns =>
      cases q2 : rowsOf t with
      | none => rw [q, q2] at h; cases h
      | some rs' =>
        rw [q, q2] at h
        cases h
        rw [intsOf_eq q, rowsOf_eq q2]
        rfl
  | .none :: _, _, h => by cases h
  | .bool _ :: _, _, h => by cases h
  | .int _ :: _, _, h => by cases h
  | .str _ :: _, _, h => by cases h
  | .list _ :: _, _, h => by cases h
  | .dict _ :: _, _, h => by cases h
theorem rowsOf_map : ∀ rs : List (List Int), rowsOf (rs.map tupI) = some rs
  | [] => rfl
  | r :: rs => by
    show ((intsOf (r.map .int)).bind fun ns => (rowsOf (rs.map tupI)).map (ns :: ·)) = _
    rw [intsOf_map, rowsOf_map rs]
    rfl
def goodR (r : List Int) : Bool := decide (r.length = 2) && r.all fun x => decide (0 ≤ x) && decide (x < 64)
abbrev keyR (r : List Int) : Int := TS.code 64 r
theorem goodR_iff {r : List Int} (h : goodR r = true) : ∃ x y, r = [x, y] ∧ 0 ≤ x ∧ x < 64 ∧ 0 ≤ y ∧ y < 64 := by
  simp only [goodR, Bool.and_eq_true, decide_eq_true_eq] at h
  match r, h with
  | [x, y], h => exact ⟨x, y, rfl, by simpa [and_assoc] using h.2⟩
theorem keyR_inj {r q : List Int} (h : goodR r = true) (h2 : goodR q = true) (e : keyR r = keyR q) : r = q := by
  obtain ⟨x, y, rfl, a1, a2, a3, a4⟩ := goodR_iff h
  obtain ⟨z, w, rfl, b1, b2, b3, b4⟩ := goodR_iff h2
  rw [keyR, keyR, code_pair, code_pair] at e
  have : x = z := by omega
  have : y = w := by omega
  subst x; subst y; rfl
def insT (x : List Int) : List (List Int) → List (List Int)
  | [] => [x]
  | y :: r => if keyR x < keyR y then x :: y :: r else if keyR x = keyR y then y :: r else y :: insT x r
def usT : List (List Int) → List (List Int)
  | [] => []
  | x :: r => insT x (usT r)
def AscT (l : List (List Int)) : Prop := l.Pairwise fun a b => keyR a < keyR b
theorem mem_insT {x z : List Int} : ∀ {l : List (List Int)}, z ∈ insT x l → z = x ∨ z ∈ l
  | [], h => by simpa [insT] using h
  | y :: r, h => by
    unfold insT at h
    split at h
    · simpa using h
    · split at h
      · exact .inr h
      · rcases List.mem_cons.mp h with h | h
        · exact .inr (by simp [h])
        · rcases mem_insT h with h | h
          · exact .inl h
          · exact .inr (by simp [h])
theorem insT_mem {x z : List Int} : ∀ {l : List (List Int)}, z ∈ l → z ∈ insT x l
  | y :: r, h => by
    unfold insT
    split
    · simp [List.mem_cons.mp h]
    · split
      · exact h
      · rcases List.mem_cons.mp h with h | h
        · simp [h]
        · exact List.mem_cons_of_mem _ (insT_mem h)
theorem insT_self {x : List Int} (hx : goodR x = true) : ∀ {l : List (List Int)}, (∀ y ∈ l, goodR y = true) → x ∈ insT x l
  | [], _ => by simp [insT]
  | y :: r, h => by
    unfold insT
    split
    · simp
    · split
      · rename_i e
        have := keyR_inj hx (h y (by simp)) e
        simp [this]
      · exact List.mem_cons_of_mem _ (insT_self hx fun z hz => h z (by simp [hz]))
theorem insT_asc {x : List Int} : ∀ {l : List (List Int)}, AscT l → AscT (insT x l)
  | [], _ => by simp [insT, AscT]
  | y :: r, h => by
    obtain ⟨h1, h2⟩ := List.pairwise_cons.mp h
    unfold insT
    split
    · rename_i hx
      refine List.pairwise_cons.mpr ⟨fun z hz => ?_, h⟩
      rcases List.mem_cons.mp hz with rfl | hz
      · exact hx
      · exact Int.lt_trans hx (h1 z hz)
    · split
      · exact h
      · refine List.pairwise_cons.mpr ⟨fun z hz => ?_, insT_asc h2⟩
        rcases mem_insT hz with rfl | hz
        · omega
        · exact h1 z hz
theorem usT_asc : ∀ l, AscT (usT l)
  | [] => .nil
  | x :: r => insT_asc (usT_asc r)
theorem mem_usT {z : List Int} : ∀ {l : List (List Int)}, z ∈ usT l → z ∈ l
  | [], h => h
  | x :: r, h => by
    rcases mem_insT h with h | h
    · simp [h]
    · simp [mem_usT h]
theorem usT_mem : ∀ {l : List (List Int)}, (∀ y ∈ l, goodR y = true) → ∀ z ∈ l, z ∈ usT l
  | x :: r, h, z, hz => by
    rcases List.mem_cons.mp hz with rfl | hz
    · exact insT_self (h z (by simp)) fun y hy => h y (by simp [mem_usT hy])
    · exact insT_mem (usT_mem (fun y hy => h y (by simp [hy])) z hz)
theorem ascT_eq {l m : List (List Int)} (hl : AscT l) (hm : AscT m) (gl : ∀ y ∈ l, goodR y = true) (gm : ∀ y ∈ m, goodR y = true) (h : ∀ x, x ∈ l ↔ x ∈ m) : l = m := by
  have e : l.map keyR = m.map keyR := by
    refine strict_eq (List.pairwise_map.mpr hl) (List.pairwise_map.mpr hm) fun k => ?_
    simp only [List.mem_map, h]
  clear hl hm h
  induction l generalizing m with
  | nil => cases m with
    | nil => rfl
    | cons _ _ => cases e
  | cons x l ih =>
    cases m with
    | nil => cases e
    | cons y m =>
      rw [List.map_cons, List.map_cons] at e
      obtain ⟨e1, e2⟩ := List.cons.inj e
      rw [keyR_inj (gl x (by simp)) (gm y (by simp)) e1, ih (fun z hz => gl z (by simp [hz])) (fun z hz => gm z (by simp [hz])) e2]
theorem usT_of_asc {l : List (List Int)} (h : AscT l) (g : ∀ y ∈ l, goodR y = true) : usT l = l :=
  ascT_eq (usT_asc l) h (fun y hy => g y (mem_usT hy)) g fun x => ⟨mem_usT, usT_mem g x⟩
theorem rows_refs {K : Fg} {H : Hp} {O : Ow} : ∀ {xs : List V} {rs : List (List Int)}, RpAll K H O xs (rs.map tupI) → ∃ ks : List (Addr × List Int), xs = ks.map (fun p => V.ref p.1) ∧ ks.map (·.2) = rs ∧ ∀ p ∈ ks, H p.1 = some (.tup (p.2.map V.int))
  | _, [], .nil => ⟨[], rfl, rfl, by simp⟩
  | _, r :: rs, .cons a b => by
    obtain ⟨ks, rfl, rfl, h⟩ := rows_refs b
    cases a with
    | tup h1 r1 =>
      rw [RpAll.ints r1] at h1
      refine ⟨(_, r) :: ks, rfl, rfl, fun p hp => ?_⟩
      rcases List.mem_cons.mp hp with rfl | hp
      · exact h1
      · exact h p hp
theorem refs_rows {K : Fg} {H : Hp} {O : Ow} : ∀ {L : List (Addr × List Int)}, (∀ p ∈ L, H p.1 = some (.tup (p.2.map V.int))) → RpAll K H O (L.map fun p => V.ref p.1) ((L.map (·.2)).map tupI)
  | [], _ => .nil
  | p :: L, h => .cons (.tup (h p (by simp)) (g_sortedI.rpAll_of _)) (refs_rows fun q hq => h q (by simp [hq]))
def rSST (K : Fg) (P : Program) (w : World) : List V → Hp → VK → Prop := fun vs H Q => rSetOfT K P w vs H fun v H2 => rSortedT K P w [v] H2 Q
def bSSetT : List D → Option (Kd × D)
  | [.list l] => match rowsOf l with
    | some rs => if rs.length < 64 ∧ rs.all goodR = true then some (.f, .list ((usT rs).map tupI)) else none
    | none => none
  | _ => none
theorem g_ssetT {K : Fg} {P : Program} {w : World} : CallOk K (rSST K P w) bSSetT := by
  intro H O vs ds k z Q s h c
  unfold bSSetT at h
  split at h
  · rename_i l
    cases q : rowsOf l with
    | none => rw [q] at h; cases h
    | some rs =>
      rw [q] at h
      have h : (if rs.length < 64 ∧ rs.all goodR = true then some (Kd.f, PyData.list ((usT rs).map tupI)) else none) = some (k, z) := h
      split at h
      · rename_i hg
        obtain ⟨h64, hg⟩ := hg
        rw [List.all_eq_true] at hg
        cases h
        obtain ⟨v, rfl, s1⟩ := s.one
        obtain ⟨a, xs, rfl, h1, r1⟩ := s1.lst
        have e := rowsOf_eq q
        subst e
        obtain ⟨ks, rfl, rfl, hk⟩ := rows_refs r1
        rw [List.length_map] at h64
        refine ⟨a, ks, rfl, .of h1, fun p hp => .inl (.inl (hk p hp)), h64, fun b L hb hL1 hL2 => ?_⟩
        have g0 : Gr H O (upd H b (SetTO P w b L)) O := .new hb
        have gL : ∀ p ∈ L, goodR p.2 = true := fun p hp => hg _ (List.mem_map.mpr ⟨p, hL1 p hp, rfl⟩)
        have kL : ∀ p ∈ L, upd H b (SetTO P w b L) p.1 = some (.tup (p.2.map V.int)) := fun p hp => g0.kp.tups _ _ (hk p (hL1 p hp))
        refine ⟨b, L, 2, 64, rfl, upd_same, fun p hp => .inl (.inl (kL p hp)), by decide, fun p hp => ?_, fun L' p hperm hnd hfew hpw hpn => ?_⟩
        · obtain ⟨x, y, e, a1, a2, a3, a4⟩ := goodR_iff (gL p hp)
          rw [e]
          exact ⟨rfl, fun m hm => by simp only [List.mem_cons, List.not_mem_nil, or_false] at hm; rcases hm with rfl | rfl <;> omega⟩
        · have gL' : ∀ y ∈ L'.map (·.2), goodR y = true := fun y hy => by
            obtain ⟨p, hp, rfl⟩ := List.mem_map.mp hy
            exact gL p (hperm.mem_iff.mp hp)
          have asc : AscT (L'.map (·.2)) := by
            unfold AscT
            have h1 : (L'.map (·.2)).Pairwise fun a b => keyR a ≤ keyR b := List.pairwise_map.mpr hpw
            have h2 := h1.and hnd
            refine List.Pairwise.imp_of_mem (fun {a b} ha hb hh => ?_) h2
            rcases Int.lt_or_eq_of_le hh.1 with hl | he
            · exact hl
            · exact absurd (keyR_inj (gL' a ha) (gL' b hb) he) hh.2
          have e : L'.map (·.2) = usT (ks.map (·.2)) := by
            refine ascT_eq asc (usT_asc _) gL' (fun y hy => hg y (mem_usT hy)) fun x => ⟨fun hx => ?_, fun hx => ?_⟩
            · obtain ⟨p, hp, rfl⟩ := List.mem_map.mp hx
              exact usT_mem hg _ (List.mem_map.mpr ⟨p, hL1 p (hperm.mem_iff.mp hp), rfl⟩)
            · obtain ⟨p, hp, rfl⟩ := List.mem_map.mp (mem_usT hx)
              obtain ⟨p2, hp2, e2⟩ := List.mem_map.mp (hL2 p hp)
              exact List.mem_map.mpr ⟨p2, hperm.mem_iff.mpr hp2, e2⟩
          rw [← e] at c
          have c2 : Cf K (upd H b (SetTO P w b L)) O (.list ((L'.map (·.2)).map tupI)) Q := fun v H' O' g r => by
            refine c v H' O' ⟨fun a o ha => ?_, fun d => g.dom (g0.dom d)⟩ ?_
            · obtain ⟨x1, x2⟩ := g0.keep a o ha
              obtain ⟨y1, y2⟩ := g.keep a o x1
              exact ⟨y1, y2.trans x2⟩
            · obtain ⟨a, e1, e2, e3, e4⟩ := r
              refine ⟨a, e1, ?_, e3, e4⟩
              cases qa : H a with
              | none => rfl
              | some o => exact absurd e2 (by rw [(g0.keep a o qa).1]; intro z; cases z)
          exact Cf.lst c2 (refs_rows fun p hp => kL p (hperm.mem_iff.mp hp)) p hpn
      · cases h
  · cases h
/-- sorted(set(e)): e a tuple of ints, or a list of rows -/
def rSSA (K : Fg) (P : Program) (w : World) : List V → Hp → VK → Prop := fun vs H Q => rSetI K w vs H (fun v H2 => rSortedSet w [v] H2 Q ∨ rSortedT K P w [v] H2 Q) ∨ rSetOfT K P w vs H (fun v H2 => rSortedSet w [v] H2 Q ∨ rSortedT K P w [v] H2 Q)
def bSSetA : List D → Option (Kd × D)
  | [.tuple l] => bSSet [.tuple l]
  | [.list l] => bSSetT [.list l]
  | _ => none
theorem g_ssetA {K : Fg} {P : Program} {w : World} : CallOk K (rSSA K P w) bSSetA := by
  intro H O vs ds k z Q s h c
  unfold bSSetA at h
  split at h
  · obtain ⟨l, ns, e, hl, hf, q⟩ := g_sset (w := w) H O vs _ k z Q s h c
    exact .inl ⟨l, ns, e, hl, hf, fun a n h1 h2 => .inl (q a n h1 h2)⟩
  · obtain ⟨l, ks, e, hl, hk, hf, q⟩ := g_ssetT (P := P) (w := w) H O vs _ k z Q s h c
    exact .inr ⟨l, ks, e, hl, hk, hf, fun a L h1 h2 h3 => .inr (q a L h1 h2 h3)⟩
  · cases h
section
variable {X : Cx} {W : WX} {p p2 q pos : Pos} {e : Expr} {ta : TA} {fa : MAr}
theorem se_ssetA (hc : X.calm = true) (hu : X.A.units + 64 < cLine) (hg : Gl X "sorted") (hm : X.mg "sorted" = none) (hb : bootBuiltins "sorted" = some (.builtin "sorted")) (hg2 : Gl X "set") (hm2 : X.mg "set" = none)
    (he2 : starEach [e] X.env = (false, eval e X.env) :: starEach [] X.env) (hpl2 : (backTo q (starEach [] X.env)).any (·.1) = false)
    (he : starEach [.Call (.Name "set" p2) [e] [] q] X.env = (false, eval (.Call (.Name "set" p2) [e] [] q) X.env) :: starEach [] X.env) (hpl : (backTo pos (starEach [] X.env)).any (·.1) = false)
    (ha : SAr X W [e] ta fa) : SE X W (.Call (.Name "sorted" p) [.Call (.Name "set" p2) [e] [] q] [] pos) (tCB (rSSA X.K X.prog X.w) ta) (mBi bSSetA fa) := by
  have h1 : PE X (.Call (.Name "set" p2) [e] [] q) _ := pe_callTy (CallR.or (cr_setI hc) (cr_setOfT hc hu)) hg2 hm2 bb_set ha.p (by decide) (by decide) he2 hpl2
  have h2 := pe_callB (pos := pos) (p := p) (CallR.or (cr_sortedSet hc) (cr_sortedT hc)) hg hm hb (pa_cons h1 pa_nil he) (by decide) (by decide) he hpl
  exact ⟨h2, bi_core g_ssetA ha.s⟩
end
theorem hu0 {k : Nat} {A : Around} (hr : Room k A) : A.units < cLine := by have := hr.un; omega
theorem intsOf_nil : intsOf [] = some [] := rfl
theorem intsOf_icons {i : Int} {r : List D} : intsOf (.int i :: r) = (intsOf r).map (i :: ·) := rfl
theorem lexLe2 {a b c d : Int} : lexLe [a, b] [c, d] = (decide (a < c) || (decide (a = c) && decide (b ≤ d))) := by
  simp only [lexLe, Ob.lexAt, List.length_cons, List.length_nil, List.getD_cons_zero, List.getD_cons_succ, Nat.reduceAdd, Nat.min_self, Nat.zero_add]
  by_cases h : a = c
  · subst h
    by_cases h2 : b = d
    · subst h2; simp
    · simp [h2]
  · simp [h]
    omega
end L3
set_option Elab.async false
set_option linter.all false
set_option maxRecDepth 100000
set_option maxHeartbeats 4000000
set_option autoImplicit false
/-! L3X: x[i] op= e; raise of an own exception; try .. except X as e; list(range(n)). -/
namespace L3
open PySem PySem.Spec L2

/-! ### x[i] op= e, ints -/
theorem pget_list {X : Cx} : PGet X (rIxL X.K) := by
  intro pins s σ H x y v u Q I rx ry h
  obtain ⟨p, xs, i, z, rfl, rfl, hq, he, q⟩ := h
  cases rx
  obtain ⟨t, rfl⟩ := ry
  obtain ⟨its, r, pl, hz⟩ := I.list hq
  obtain ⟨j, h1, h2, h3, h4, h5⟩ := atI_get he
  obtain ⟨w, ew, rw'⟩ := r.get h2
  have hl := r.length
  have hn := line63
  have fin : EP X pins σ Q w s := ⟨z, H, I, rw', q⟩
  by_cases h0 : 0 ≤ i
  · have hj : i.toNat = j := by
      rw [seqIndex_of h0 h5] at h1
      exact Option.some.inj h1
    exact wpAny_getItem_list pl.isList h0 (by omega) (by rw [hj]; simpa using ew) fin
  · have hj : (i + (its.toArray.size : Int)).toNat = j := by
      rw [seqIndex_neg (by omega) h4] at h1
      rw [List.size_toArray, ← hl]
      exact Option.some.inj h1
    exact wpAny_getItem_list_neg pl.isList (by omega) (by rw [List.size_toArray] <;> omega) (by omega) (by rw [hj]; simpa using ew) fin
def mAugI (j : Nat) (f : Int → Int → Int) (fi fe : ME) : MS := fun ρ => Out.opt (ownL j ρ) fun _ => RE.out (fi ρ) fun ri ρ1 => Out.opt (look ri ρ1) fun di => Out.opt (intOf di) fun k =>
  Out.opt (ownL j ρ1) fun l => Out.opt (atI l k) fun x => Out.opt (intOf x) fun a => RE.out (fe ρ1) fun re ρ2 => Out.opt (look re ρ2) fun y => Out.opt (intOf y) fun b =>
  Out.opt (ownL j ρ2) fun l2 => Out.opt (ixN l2.length k) fun n => .nx (ρ2.set j (.own (.list (l2.set n (.int (f a b))))))
theorem intOf_see {K : Fg} {H : Hp} {O : Ow} {v : V} {d : D} {k : Int} (s : See K H O v d) (e : intOf d = some k) : v = .int k := by
  cases d with
  | int k' => cases e; exact s.int
  | _ => cases e
section
variable {X : Cx} {W : WX} {P : List Nat} {e i : Expr} {x : Str} {te ti : TE} {fe fi : ME} {p pos spos : Pos} {j : Nat} {op : Operator} {f : Int → Int → Int}
theorem ss_augI (K : Fg) (hK : X.K = K) (hp : PIp X op (ipI f)) (hN : X.N[j]? = some x) (hv : Vis X.env.scope x) (hd : (x == ("__debug__" : Str)) = false) (hcd : (x == ("__classdict__" : Str)) = false)
    (ha : ∀ ov iv new, augStore i ov iv new = (do holding [new, ov, iv] (setItem ov iv new); release [new, ov, iv] []; pure .next))
    (hi : SE X W i ti fi) (he : SE X W e te fe) : SS X W P (.AugAssign (.Subscript (.Name x p) i spos) op e pos) (tAugS (tVar j) ti te (rIxL K) (ipI f) rSetL) (mAugI j f fi fe) := by
  subst hK
  refine ⟨ps_augS (pe_var hN hv hd hcd) hi.p pget_list he.p hp set_list ha, fun n hn ρ σ H O D R B w => ?_⟩
  obtain ⟨l0, el0, w⟩ := WantS.opt w
  obtain ⟨a, xs0, es0, _, hx0, _⟩ := own_list R el0
  refine ⟨_, es0, hi.s ρ σ H O _ R (w.ev R B fun ri ρ1 iv H1 O1 e1 R1 B1 F1 o1 w1 => ?_)⟩
  obtain ⟨di, edi, w1⟩ := w1.opt
  obtain ⟨k, ek, w1⟩ := w1.opt
  obtain ⟨l, el, w1⟩ := w1.opt
  obtain ⟨x0, ex0, w1⟩ := w1.opt
  obtain ⟨i0, ei0, w1⟩ := w1.opt
  obtain ⟨a', xs, es1, oa, hx, rx⟩ := own_list R1 el
  rw [es0] at es1
  cases es1
  have eiv : iv = .int k := intOf_see (ORel.see1 o1 R F1 R1 edi) ek
  obtain ⟨v0, hv0, rv0⟩ := rx.atI ex0
  have ev0 : v0 = .int i0 := intOf_see (.inl rv0) ei0
  refine ⟨a, xs, k, v0, rfl, eiv, .of hx, hv0, he.s ρ1 σ H1 O1 _ R1 (w1.ev R1 B1 fun re ρ2 v2 H2 O2 e2 R2 B2 F2 o2 w2 => ?_)⟩
  obtain ⟨y, ey, w2⟩ := w2.opt
  obtain ⟨b, eb, w2⟩ := w2.opt
  obtain ⟨l2, el2, w2⟩ := w2.opt
  obtain ⟨m, em, w2⟩ := w2.opt
  obtain ⟨a2, xs2, es2, oa2, hx2, rx2⟩ := own_list R2 el2
  rw [es0] at es2
  cases es2
  have ev2 : v2 = .int b := intOf_see (ORel.see1 o2 R1 F2 R2 ey) eb
  obtain ⟨R4, F4⟩ := R2.updSlot (d' := .list (l2.set m (.int (f i0 b)))) (o' := .lst (xs2.set m (.int (f i0 b)))) (ownL_some el2) es0 fun kp => ⟨_, upd_same, RpAll.set (.int _) m (rx2.keep kp)⟩
  exact ⟨i0, b, ev0, ev2, a, xs2, k, m, rfl, eiv, hx2, by rw [rx2.length]; exact em, w2 σ _ O2 R4 (B2.frm F4) (F4.kp R2)⟩
end

/-! ### an exception's __init__ -/
/-- us: the arguments behind self; Z: the fields, the last store first -/
def initSp (K : Fg) (C : Addr) (n : Nat) (Z : List V → List (Str × V)) : Sp := fun vs H Q _ => ∃ (a : Addr) (us : List V), vs = .ref a :: us ∧ us.length = n ∧ OexC K C ∧ H a = some (exo a C none) ∧
  ∀ (dx : Addr) (H' : Hp), H dx = none → dx ≠ a → H' a = some (exo a C (some dx)) → H' dx = some (exd dx (Z us)) → (∀ b, b ≠ a → b ≠ dx → H' b = H b) → Q .non H'
def fields {α : Type} (ns : List Str) (us : List α) : List (Str × α) := (ns.zip us).reverse
section
variable {Pr : Program} {w : World} {K : Fg} {mg : Str → Option Value} {base : Heap} {C fI : Addr} {fd : FuncData} {qual s1 f1 f2 : Str} {st : Stmt}
theorem init1 (hn1 : PySem.W.findIn K (.ref C) f1 = some none) (F : Fun K "__init__" qual st fI fd) (S : FnScope [s1, f1] [s1, f1] (defScope st))
    (hb : ∀ (cdv : Value) (A : Around) (outer : List Env) (s : Shared) (H : Hp) (E : XK), PSs (cxOf CX0 Pr w K mg base [s1, f1] qual (defScope st) fI cdv A outer s H E).nox (defBody st) (tOst K f1 (tVar 0) (tVar 1))) :
    FnOk Pr w K mg base CX0 1 fI fd [s1, f1] (initSp K C 1 (fields [f1])) := by
  refine F.ok S (fun vs H Q E h => ?_) fun cdv A outer s H vs Q E hr h => ⟨_, hb cdv A outer s H E, ?_⟩
  · obtain ⟨a, us, rfl, e, _⟩ := h
    simp [e]
  · obtain ⟨a, us, rfl, e, T, ha, q⟩ := h
    match us, e with
    | [v], _ => exact ⟨v, rfl, _, rfl, a, C, rfl, T, hn1, .inl ⟨ha, fun dx n1 n2 => q dx _ n1 n2 upd_same (by rw [upd_ne n2, upd_same]; rfl) fun b n3 n4 => by rw [upd_ne n3, upd_ne n4]⟩⟩
theorem init2 (hn1 : PySem.W.findIn K (.ref C) f1 = some none) (hn2 : PySem.W.findIn K (.ref C) f2 = some none) (F : Fun K "__init__" qual st fI fd) (S : FnScope [s1, f1, f2] [s1, f1, f2] (defScope st))
    (hb : ∀ (cdv : Value) (A : Around) (outer : List Env) (s : Shared) (H : Hp) (E : XK), PSs (cxOf CX0 Pr w K mg base [s1, f1, f2] qual (defScope st) fI cdv A outer s H E).nox (defBody st) (tSeq (tOst K f1 (tVar 0) (tVar 1)) (tOst K f2 (tVar 0) (tVar 2)))) :
    FnOk Pr w K mg base CX0 1 fI fd [s1, f1, f2] (initSp K C 2 (fields [f1, f2])) := by
  refine F.ok S (fun vs H Q E h => ?_) fun cdv A outer s H vs Q E hr h => ⟨_, hb cdv A outer s H E, ?_⟩
  · obtain ⟨a, us, rfl, e, _⟩ := h
    simp [e]
  · obtain ⟨a, us, rfl, e, T, ha, q⟩ := h
    match us, e with
    | [v, u], _ =>
      refine ⟨v, rfl, _, rfl, a, C, rfl, T, hn1, .inl ⟨ha, fun dx n1 n2 => ⟨u, rfl, _, rfl, a, C, rfl, T, hn2, .inr ⟨dx, [(f1, v)], upd_same, by rw [upd_ne n2, upd_same], by simp, ?_⟩⟩⟩⟩
      exact q dx _ n1 n2 (by rw [upd_ne (Ne.symm n2), upd_same]) (by rw [upd_same]; rfl) fun b n3 n4 => by rw [upd_ne n4, upd_ne n3, upd_ne n4]
end

/-! ### raise X(..) -/
def mRaise (c : Str) (ns : List Str) (fa : MA) : MS := fun ρ => RE.out (fa ρ) fun ds ρ1 => if ds.length = ns.length then .exc ⟨c, fields ns ds⟩ ρ1 else .bad
theorem fields_fst {α : Type} (ns : List Str) (us : List α) (h : us.length = ns.length) : (fields ns us).map (·.1) = ns.reverse := by
  unfold fields
  rw [List.map_reverse]
  congr 1
  exact List.map_fst_zip (Nat.le_of_eq h.symm)
theorem fields_snd {α : Type} (ns : List Str) (us : List α) (h : us.length = ns.length) : (fields ns us).map (·.2) = us.reverse := by
  unfold fields
  rw [List.map_reverse]
  congr 1
  exact List.map_snd_zip (Nat.le_of_eq h)
section
variable {X : Cx} {W : WX} {P : List Nat} {e : Expr} {es : List Expr} {c : Str} {ta : TA} {fa : MA} {p pos pos' : Pos} {C fI : Addr} {fd : FuncData} {ps ns : List Str}
theorem ss_raise (K : Fg) (mg : Str → Option Value) (hK : X.K = K) (hmg : X.mg = mg) (hc : X.calm = true) (tk : Takes X W) (T : OexC K C) (iC : PySem.W.findIn K (.ref C) "__init__" = some (some (.ref fI))) (tI : PySem.W.typeIn K (.ref fI) = some (.type "function"))
    (G : FnOk X.prog X.w K mg X.base CX0 1 fI fd ps (initSp K C ns.length (fields ns))) (hr : Room 2 X.A) (hb : Binds K fd ps []) (hg : Gl X c) (hm : mg c = some (.ref C))
    (hdb : (c == ("__debug__" : Str)) = false) (he : starEach (e :: es) X.env = (false, eval e X.env) :: starEach es X.env) (hpl : (backTo pos (starEach es X.env)).any (·.1) = false) (hz : ns.length ≤ 1000) (ha : SA X W (e :: es) ta fa) :
    SS X W P (.Raise (some (.Call (.Name c p) (e :: es) [] pos)) none pos') (fun _ σ H => tMkO C (initSp K C ns.length (fields ns)) [] ta σ H fun cls d H' => W cls d σ H') (mRaise c ns fa) := by
  subst hK hmg
  refine ⟨ps_raise hc tk (pmk_oex T iC tI G hr hb .nil pass0 hg hm ha.p hdb he hpl), fun n hn ρ σ H O D R B w => ha.s ρ σ H O _ R (w.ev R B fun ds ρ1 vs H1 O1 e1 R1 B1 F1 o1 w1 => ?_)⟩
  have o1 : RpAll X.K H1 O1 vs ds := o1
  by_cases hl : ds.length = ns.length
  · rw [if_pos hl] at w1
    have hv : vs.length = ns.length := by rw [o1.length]; exact hl
    refine ⟨by omega, fun a na => ⟨a, vs ++ [], rfl, by simpa using hv, T, upd_same, fun dx H' n1 n2 h1 h2 h3 => ?_⟩⟩
    rw [List.append_nil] at h2
    have nd : H1 dx = none := by rw [upd_ne n2] at n1; exact n1
    refine ⟨rfl, dx, fields ns vs, h1, h2, nd, ?_⟩
    have eH : upd (del H' a) dx (.xd (fields ns vs)) = upd H1 dx (.xd (fields ns vs)) := by
      funext b
      by_cases b1 : b = dx
      · rw [b1, upd_same, upd_same]
      · rw [upd_ne b1, upd_ne b1]
        by_cases b2 : b = a
        · rw [b2, del_same, na]
        · rw [del_ne b2, h3 b b2 b1, upd_ne b2]
    rw [eH]
    have g : Gr H1 O1 (upd H1 dx (.xd (fields ns vs))) O1 := Gr.new nd
    refine w1 (.ref C) (some dx) σ _ O1 (g.rel R1) (B1.frm g.frm) g.kp ⟨C, hm, rfl, fun _ => ⟨dx, _, rfl, upd_same, fun z => R1.dom dx z nd, ?_, ?_⟩, .inr ⟨dx, _, rfl, upd_same, fun z => R1.dom dx z nd⟩⟩
    · show (fields ns vs).map (·.1) = (fields ns ds).map (·.1)
      rw [fields_fst _ _ hv, fields_fst _ _ hl]
    · show RpAll _ _ _ ((fields ns vs).map (·.2)) ((fields ns ds).map (·.2))
      rw [fields_snd _ _ hv, fields_snd _ _ hl]
      exact (o1.keep g.kp).reverse
  · rw [if_neg hl] at w1; exact w1.elim
end

/-! ### try .. except X as e -/
theorem XRel.keep {K : Fg} {mg : Str → Option Value} {H H' : Hp} {O O' : Ow} {x : Xc} {cls : Value} {d : Option Addr} (k : Kp H O H' O') (r : XRel K mg H O x cls d) : XRel K mg H' O' x cls d := by
  obtain ⟨C, h1, h2, h3, h0⟩ := r
  refine ⟨C, h1, h2, fun hne => ?_, h0.imp id fun ⟨dd, fs, e, hd, nd⟩ => ⟨dd, fs, e, (k.keep _ _ hd nd).1, (k.keep _ _ hd nd).2⟩⟩
  obtain ⟨dd, fs, e, h4, h5, h6, h7⟩ := h3 hne
  obtain ⟨h8, h9⟩ := k.keep dd _ h4 h5
  exact ⟨dd, fs, e, h8, h9, h6, h7.keep k⟩
abbrev WZ : WX := fun _ _ _ _ => False
/-- a reading within an except suite: slot i holds the exception at a -/
def TSx (K : Fg) (mg : Str → Option Value) (P : List Nat) (i : Nat) (a : Addr) (cls : Value) (d : Option Addr) (t : TS) (h : Xc → MS) : Prop :=
  ∀ n : En, n.P = P → (i, a) ∈ n.E → ∀ x ρ σ H O D, Rel K ρ σ H O → Bs n ρ σ H O → XRel K mg H O x cls d → WantS K mg WZ n H O (h x ρ) D → t D σ H
structure SX1 (X : Cx) (P : List Nat) (i : Nat) (a : Addr) (cls : Value) (d : Option Addr) (st : Stmt) (t : TS) (h : Xc → MS) : Prop where
  p : PS X st t
  s : TSx X.K X.mg P i a cls d t h
structure SXs (X : Cx) (P : List Nat) (i : Nat) (a : Addr) (cls : Value) (d : Option Addr) (st : List Stmt) (t : TS) (h : Xc → MS) : Prop where
  p : PSs X st t
  s : TSx X.K X.mg P i a cls d t h
def TEx (K : Fg) (mg : Str → Option Value) (i : Nat) (a : Addr) (cls : Value) (d : Option Addr) (t : TE) (f : Xc → ME) : Prop :=
  ∀ x ρ σ H O Q, σ[i]? = some (some (.ref a)) → Rel K ρ σ H O → XRel K mg H O x cls d → Want orE K mg WZ (f x ρ) ρ σ H O Q → t σ H Q
def TAx (K : Fg) (mg : Str → Option Value) (i : Nat) (a : Addr) (cls : Value) (d : Option Addr) (t : TA) (f : Xc → MA) : Prop :=
  ∀ x ρ σ H O Q, σ[i]? = some (some (.ref a)) → Rel K ρ σ H O → XRel K mg H O x cls d → Want orA K mg WZ (f x ρ) ρ σ H O Q → t σ H Q
structure SXE (X : Cx) (i : Nat) (a : Addr) (cls : Value) (d : Option Addr) (e : Expr) (t : TE) (f : Xc → ME) : Prop where
  p : PE X e t
  s : TEx X.K X.mg i a cls d t f
structure SXA (X : Cx) (i : Nat) (a : Addr) (cls : Value) (d : Option Addr) (es : List Expr) (t : TA) (f : Xc → MA) : Prop where
  p : PA X es t
  s : TAx X.K X.mg i a cls d t f
def mFl (c f : Str) (x : Xc) : ME := fun ρ => if x.c = c then RE.opt (x.fl.lookup f) fun d => .ok (.val d) ρ else .bad
section
variable {X : Cx} {i : Nat} {a : Addr} {cls : Value} {d : Option Addr} {e : Expr} {es : List Expr} {te : TE} {ta : TA} {f : Xc → ME} {g : Xc → MA} {P : List Nat} {pos : Pos}
theorem sx_of {f : ME} (h : SE X WZ e te f) : SXE X i a cls d e te fun _ => f := ⟨h.p, fun x ρ σ H O Q _ R _ w => h.s ρ σ H O Q R w⟩
theorem lookup_rel {K : Fg} {H : Hp} {O : Ow} {f : Str} {z : D} : ∀ {fs : List (Str × V)} {fl : List (Str × D)}, fs.map (·.1) = fl.map (·.1) → RpAll K H O (fs.map (·.2)) (fl.map (·.2)) → fl.lookup f = some z → ∃ v, fs.lookup f = some v ∧ Rp K H O v z
  | [], [], _, _, h => by cases h
  | [], _ :: _, e, _, _ => by cases e
  | _ :: _, [], e, _, _ => by cases e
  | (k, v) :: fs, (k', z') :: fl, e, r, h => by
    have e1 : k = k' := (List.cons.inj e).1
    have e2 : fs.map (·.1) = fl.map (·.1) := (List.cons.inj e).2
    subst e1
    have r' : RpAll K H O (v :: fs.map (·.2)) (z' :: fl.map (·.2)) := r
    cases r' with
    | cons r1 r2 =>
      by_cases hk : f == k
      · simp only [List.lookup, hk] at h ⊢
        cases h
        exact ⟨v, rfl, r1⟩
      · have hk : (f == k) = false := by simpa using hk
        simp only [List.lookup, hk] at h ⊢
        exact lookup_rel e2 r2 h
theorem sx_fld {Y : Cx} {C : Addr} {c n fl : Str} {p : Pos} {oe : Obj} {pn : List (Addr × Obj)} (K : Fg) (mg : Str → Option Value) (hK : Y.K = K) (hmg : Y.mg = mg) (hm : mg c = some (.ref C)) (T : XfC K C) (hno : PySem.W.findIn K (.ref C) fl = some none) (hz : Zc cls d oe) (hf : ∃ vs, oe.data = .fields vs)
    (hN : Y.N[i]? = some n) (hv : Vis Y.env.scope n) (hd : (n == ("__debug__" : Str)) = false) (hcd : (n == ("__classdict__" : Str)) = false)
    (hb : attributeBase (.Name n p) fl Y.env (eval (.Name n p) Y.env) = eval (.Name n p) Y.env) :
    SXE (Y.suite a ((a, oe) :: pn)) i a cls d (.Attribute (.Name n p) fl pos) (tXf a cls d C fl (tVar i)) (mFl c fl) := by
  subst hK hmg
  refine ⟨pe_xf T hno hz hf (pe_var (X := Y.suite a ((a, oe) :: pn)) hN hv hd hcd) hb, fun x ρ σ H O Q hi R xr w => ?_⟩
  unfold mFl at w
  by_cases hx : x.c = c
  · rw [if_pos hx] at w
    obtain ⟨z, ez, w⟩ := Want.opt w
    obtain ⟨C', h1, h2, h3, _⟩ := xr
    have hC : C' = C := by
      have h1 : Y.mg x.c = some (.ref C') := h1
      rw [hx, hm] at h1; cases h1; rfl
    subst hC
    have hne : x.fl ≠ [] := fun z => by rw [z] at ez; cases ez
    obtain ⟨dd, fs, e, h4, h5, h6, h7⟩ := h3 hne
    obtain ⟨v, hv, rv⟩ := lookup_rel h6 h7 ez
    exact ⟨_, hi, rfl, h2, dd, fs, v, e, h4, hv, w v H O R .refl rv⟩
  · rw [if_neg hx] at w; exact w.elim
theorem sxa_nil : SXA X i a cls d [] tNil fun _ => mNil := ⟨pa_nil, fun x ρ σ H O Q _ R _ h => h [] H O R .refl .nil⟩
theorem sxa_cons (he : SXE X i a cls d e te f) (hr : SXA X i a cls d es ta g) (hs : starEach (e :: es) X.env = (false, eval e X.env) :: starEach es X.env) : SXA X i a cls d (e :: es) (tCons te ta) fun x => mCons (f x) (g x) := by
  obtain ⟨pe, he⟩ := he
  obtain ⟨pr, hr⟩ := hr
  refine ⟨pa_cons pe pr hs, fun x ρ σ H O Q hi R xr h => he x ρ σ H O _ hi R xr (Want.bind h fun r ρ1 v H1 O1 e1 R1 F1 o1 h1 => ?_)⟩
  obtain ⟨⟨d', ρ2⟩, ek, h1⟩ := h1.opt
  obtain ⟨O2, R2, F2, rp⟩ := ORel.kept o1 R F1 R1 ek
  have h2 : Want orA X.K X.mg WZ ((g x ρ2).bind fun ds ρ2 => .ok (d' :: ds) ρ2) ρ σ H O Q := by
    unfold mCons at h
    rw [e1] at h
    simp only [RE.bind] at h
    rw [ek] at h
    exact h
  refine hr x ρ2 σ H1 O2 _ hi R2 (xr.keep (F2.kp R)) (Want.bind (h2.from F2) fun ds ρ3 vs H3 O3 e3 R3 F3 o3 h3 => ?_)
  exact h3 _ H3 O3 R3 .refl (.cons (rp.keep (F3.kp R2)) o3)
theorem sx_tup {k} (h : SXA X i a cls d es ta g) : SXE X i a cls d (.Tuple es k pos) (tTup ta) fun x => mTup (g x) := by
  obtain ⟨p, h⟩ := h
  refine ⟨pe_tup p, fun x ρ σ H O Q hi R xr hw => h x ρ σ H O _ hi R xr (Want.bind hw fun ds ρ1 vs H1 O1 e1 R1 F1 o1 h1 => ?_)⟩
  have o1 : RpAll X.K H1 O1 vs ds := o1
  by_cases z : ds.length ≤ sizeLine
  · rw [if_pos z] at h1
    exact ⟨by rw [o1.length]; exact z, fun q hq => (h1.ck .v R1).tup o1 q hq⟩
  · rw [if_neg z] at h1; exact h1.elim
theorem sxs_of {st : List Stmt} {t : TS} {h : MS} (hs : SSs X WZ P st t h) : SXs X P i a cls d st t fun _ => h := ⟨hs.p, fun n hn hE x ρ σ H O D R B _ w => hs.s n hn ρ σ H O D R B w⟩
end
section
variable {X : Cx} {i j : Nat} {a : Addr} {cls : Value} {d : Option Addr} {e : Expr} {te : TE} {f : Xc → ME} {P : List Nat} {pos : Pos} {st : Stmt} {rest : List Stmt} {t u : TS} {g h : Xc → MS}
theorem sx_set {x : Str} {pos' : Pos} (ip : j ∉ P) (hN : X.N.Nodup) (hi : X.N[j]? = some x) (hx : Loc X.env.scope x) (hs : swapsWith e (some (.Name x pos')) pos.line X.env = pure false) (hf : X.fn x = true ∨ X.env.scope.names.lookup x = some .local) (he : SXE X i a cls d e te f) :
    SX1 X P i a cls d (.Assign [.Name x pos'] e pos) (tAsg te (gName j)) fun x => mSet j (f x) := by
  refine ⟨(ps_set hN hi hx he.p hs hf), fun n hn hE x ρ σ H O D R B xr w => he.s x ρ σ H O _ (B.pin i a hE).1 R xr (w.ev R B fun r ρ1 v H1 O1 e1 R1 B1 F1 o1 w1 => ?_)⟩
  obtain ⟨⟨s, ρ2⟩, eq, w1⟩ := w1.opt
  obtain ⟨O2, R2, B2, k2⟩ := store (by rw [hn]; exact ip) o1 R F1 B R1 eq
  have w2 : WantS X.K X.mg WZ n H O (.nx (ρ2.set j s)) D := by
    unfold mSet at w
    rw [e1] at w
    simp only [RE.out, eq, Out.opt] at w
    exact w
  exact w2 _ H1 O2 R2 B2 k2
theorem sx_of1 {h : MS} (hs : SS X WZ P st t h) : SX1 X P i a cls d st t fun _ => h := ⟨hs.p, fun n hn hE x ρ σ H O D R B _ w => hs.s n hn ρ σ H O D R B w⟩
theorem sxs_one (h1 : SX1 X P i a cls d st t g) : SXs X P i a cls d [st] t g := ⟨pss_one h1.p, h1.s⟩
theorem sxs_cons (h1 : SX1 X P i a cls d st t g) (h2 : SXs X P i a cls d rest u h) : SXs X P i a cls d (st :: rest) (tSeq t u) fun x => mSeq (g x) (h x) := by
  refine ⟨pss_cons h1.p h2.p, fun n hn hE x ρ σ H O D R B xr w => h1.s n hn hE x ρ σ H O _ R B xr ?_⟩
  unfold mSeq at w
  cases eg : g x ρ with
  | nx ρ1 => rw [eg] at w; exact fun σ' H' O' R' B' k => h2.s n hn hE x ρ1 σ' H' O' D R' B' (xr.keep k) (WantS.from w k)
  | rt f d ρ1 => rw [eg] at w; exact w
  | bk ρ1 => rw [eg] at w; exact w
  | ct ρ1 => rw [eg] at w; exact w
  | exc x ρ1 => rw [eg] at w; exact w
  | bad => rw [eg] at w; exact w
end
def outI (i : Nat) : Out → Out
  | .nx ρ => .nx (ρ.set i .no)
  | .rt f d ρ => .rt f d (ρ.set i .no)
  | .bk ρ => .bk (ρ.set i .no)
  | .ct ρ => .ct (ρ.set i .no)
  | _ => .bad
def mTry (yes no : List Str) (i : Nat) (g : MS) (h : Xc → MS) : MS := fun ρ => match g ρ with
  | .exc x ρ1 => if x.c ∈ yes then Out.opt ρ1[i]? fun _ => outI i (h x (ρ1.set i .no)) else if x.c ∈ no then .exc x ρ1 else .bad
  | o => o
section
variable {K : Fg} {mg : Str → Option Value} {ρ : Fr} {σ τ : L2.St} {H : Hp} {O : Ow} {n : En} {i : Nat} {a : Addr}
theorem get_no {i j : Nat} {ρ : Fr} {d : D} (h : (ρ.set i .no)[j]? = some (.own d)) : j ≠ i ∧ ρ[j]? = some (.own d) := by
  by_cases e : j = i
  · subst e
    by_cases l : j < ρ.length
    · rw [List.getElem?_set_self l] at h; cases h
    · rw [List.getElem?_eq_none (by simpa using l)] at h; cases h
  · rw [List.getElem?_set_ne (Ne.symm e)] at h
    exact ⟨e, h⟩
theorem Rel.drop (R : Rel K ρ σ H O) (l : τ.length = σ.length) (e : ∀ j, j ≠ i → τ[j]? = σ[j]?) : Rel K (ρ.set i .no) τ H O := by
  refine ⟨by rw [List.length_set, l]; exact R.len, fun j s hs => ?_, fun j k b d c h1 h2 h3 h4 => ?_, R.dom⟩
  · by_cases ej : j = i
    · subst ej
      by_cases l : j < ρ.length
      · rw [List.getElem?_set_self l] at hs; cases hs; trivial
      · rw [List.getElem?_eq_none (by simpa using l)] at hs; cases hs
    · rw [List.getElem?_set_ne (Ne.symm ej)] at hs
      rw [e j ej]
      exact R.slot j s hs
  · obtain ⟨n1, q1⟩ := get_no h1
    obtain ⟨n2, q2⟩ := get_no h2
    rw [e j n1] at h3
    rw [e k n2] at h4
    exact R.uniq j k b d c q1 q2 h3 h4
theorem Bs.pinned (B : Bs n ρ σ H O) (ip : i ∉ n.P) (il : i < σ.length) : Bs ⟨i :: n.P, (i, a) :: n.E, n.H0, n.O0⟩ (ρ.set i .no) (σ.set i (some (.ref a))) H O := by
  refine ⟨fun b o h hn => B.keep b o h fun j hj => hn j (List.mem_cons_of_mem _ hj), B.dom, B.tups, B.frzs, fun k d b h1 h2 => ?_, fun j b h => ?_⟩
  · obtain ⟨n1, q1⟩ := get_no h1
    rw [List.getElem?_set_ne (Ne.symm n1)] at h2
    exact (B.own k d b q1 h2).imp (List.mem_cons_of_mem _) id
  · rcases List.mem_cons.mp h with e | h
    · cases e
      exact ⟨List.getElem?_set_self il, List.mem_cons_self ..⟩
    · obtain ⟨q1, q2⟩ := B.pin j b h
      have ne : i ≠ j := fun z => ip (by rw [z]; exact q2)
      exact ⟨by rw [List.getElem?_set_ne ne]; exact q1, List.mem_cons_of_mem _ q2⟩
theorem Bs.unpin (B : Bs ⟨i :: n.P, (i, a) :: n.E, n.H0, n.O0⟩ ρ σ H O) (ip : i ∉ n.P) (na : n.H0 a = none) (ap : ∀ j b, (j, b) ∈ n.E → j ∈ n.P) (e : ∀ j, j ≠ i → τ[j]? = σ[j]?) : Bs n (ρ.set i .no) τ H O := by
  refine ⟨fun b o h hn => B.keep b o h fun j hj => ?_, B.dom, B.tups, B.frzs, fun k d b h1 h2 => ?_, fun j b h => ?_⟩
  · rcases List.mem_cons.mp hj with z | hj
    · cases z
      have h : n.H0 a = some o := h
      rw [na] at h; cases h
    · exact hn j hj
  · obtain ⟨n1, q1⟩ := get_no h1
    rw [e k n1] at h2
    rcases B.own k d b q1 h2 with z | z
    · rcases List.mem_cons.mp z with z | z
      · cases z; exact absurd rfl n1
      · exact .inl z
    · exact .inr z
  · have hP := ap j b h
    have ne : j ≠ i := fun z => ip (by rw [← z]; exact hP)
    obtain ⟨q1, _⟩ := B.pin j b (List.mem_cons_of_mem _ h)
    exact ⟨by rw [e j ne]; exact q1, hP⟩
end
section
variable {X : Cx} {W : WX} {P : List Nat} {x nm : Str} {c : Value} {i : Nat} {body suite : List Stmt} {b₀ : Stmt} {np pos pos' : Pos} {tb : WX → TS} {ts : Addr → Value → Option Addr → TS} {g : MS} {h : Xc → MS}
theorem ss_try (K : Fg) (mg : Str → Option Value) (hK : X.K = K) (hmg : X.mg = mg) (ip : i ∉ P) (yes no : List Str) (hy : ∀ y ∈ yes, ∀ C, mg y = some (.ref C) → PySem.W.exmOne K (.ref C) c = some true) (hno : ∀ y ∈ no, ∀ C, mg y = some (.ref C) → PySem.W.exmOne K (.ref C) c = some false)
    (hs : X.stack = X.env :: X.outer) (hf : X.env.frame = some X.env.locals) (hN : X.N.Nodup) (hi : X.N[i]? = some nm) (hln : X.env.kindOf nm = some .local) (hc : Names X x c) (tk : Takes X W)
    (hb : ∀ (W' : WX) (pn : List (Addr × Obj)) (xe : Value → Shared → Prop), Takes (X.tr pn xe) W' → SSs (X.tr pn xe) W' P body (tb W') g)
    (hsu : ∀ (a : Addr) (oe : Obj) (cls : Value) (d : Option Addr) (pn : List (Addr × Obj)), Zc cls d oe → (∃ vs, oe.data = .fields vs) → SXs (X.suite a ((a, oe) :: pn)) (i :: P) i a cls d (b₀ :: suite) (ts a cls d) h)
    (oe0 : Obj) (hd0 : ∃ vs, oe0.data = .fields vs) :
    SS X W P (.Try body [.ExceptHandler (some (.Name x np)) (some nm) (b₀ :: suite) pos'] [] [] pos) (fun D σ H => tb (wAs K c i ts W D) D σ H) (mTry yes no i g h) := by
  subst hK hmg
  refine ⟨ps_try_as hs hf hN hi hln hc tk (fun W' pn xe t1 t2 => (hb W' pn xe t1).p) fun a oe cls d pn hz hd => (hsu a oe cls d pn hz hd).p, fun n hn ρ σ H O D R B w => ?_⟩
  have sb : TSs X.K X.mg (wAs X.K c i ts W D) P (tb (wAs X.K c i ts W D)) g := (hb (wAs X.K c i ts W D) [] (fun _ _ => True) (fun _ _ _ => trivial)).s
  refine sb n hn ρ σ H O D R B ?_
  unfold mTry at w
  cases eg : g ρ with
  | nx ρ1 => rw [eg] at w; exact w
  | rt f d ρ1 => rw [eg] at w; exact w
  | bk ρ1 => rw [eg] at w; exact w
  | ct ρ1 => rw [eg] at w; exact w
  | bad => rw [eg] at w; exact w
  | exc y ρ1 =>
    rw [eg] at w
    intro cls d σ' H' O' R' B' k' xr
    obtain ⟨C, h1, h2, h3⟩ := id xr
    have ip' : i ∉ n.P := by rw [hn]; exact ip
    by_cases yy : y.c ∈ yes
    · have w : WantS X.K X.mg W n H O (if y.c ∈ yes then Out.opt ρ1[i]? fun _ => outI i (h y (ρ1.set i .no)) else if y.c ∈ no then .exc y ρ1 else .bad) D := w
      rw [if_pos yy] at w
      obtain ⟨s0, es0, w⟩ := w.opt
      have il : i < σ'.length := by rw [← R'.len]; exact (List.getElem?_eq_some_iff.mp es0).1
      refine ⟨true, by rw [h2]; exact hy _ yy C h1, fun _ a na => ?_, fun z => Bool.noConfusion z⟩
      have n0 : n.H0 a = none := by
        cases z : n.H0 a with
        | none => rfl
        | some o => exact absurd na (B'.dom a (by rw [z]; intro y; cases y))
      have ap : ∀ j b, (j, b) ∈ n.E → j ∈ n.P := fun j b hj => (B'.pin j b hj).2
      have R1 : Rel X.K (ρ1.set i .no) (σ'.set i (some (.ref a))) H' O' := R'.drop (by simp) fun j hj => List.getElem?_set_ne (Ne.symm hj)
      have hoe : Zc cls d { oe0 with cls := cls, dict := d } := ⟨rfl, rfl⟩
      refine (hsu a { oe0 with cls := cls, dict := d } cls d [] hoe hd0).s ⟨i :: n.P, (i, a) :: n.E, n.H0, n.O0⟩ (by rw [← hn]) (List.mem_cons_self ..) y _ _ H' O' _ R1 (B'.pinned ip' il) xr ?_
      have w := w.from k'
      have back : ∀ {ρ2 : Fr} {σ2 : L2.St} {H2 : Hp} {O2 : Ow}, Rel X.K ρ2 σ2 H2 O2 → Bs ⟨i :: n.P, (i, a) :: n.E, n.H0, n.O0⟩ ρ2 σ2 H2 O2 → Rel X.K (ρ2.set i .no) (σ2.set i none) H2 O2 ∧ Bs n (ρ2.set i .no) (σ2.set i none) H2 O2 := fun {ρ2 σ2 H2 O2} R2 B2 =>
        ⟨R2.drop (by simp) fun j hj => List.getElem?_set_ne (Ne.symm hj), B2.unpin ip' n0 ap fun j hj => List.getElem?_set_ne (Ne.symm hj)⟩
      cases eh : h y (ρ1.set i .no) with
      | nx ρ2 => rw [eh] at w; exact fun σ2 H2 O2 R2 B2 k2 => w _ H2 O2 (back R2 B2).1 (back R2 B2).2 k2
      | bk ρ2 => rw [eh] at w; exact fun σ2 H2 O2 R2 B2 k2 => w _ H2 O2 (back R2 B2).1 (back R2 B2).2 k2
      | ct ρ2 => rw [eh] at w; exact fun σ2 H2 O2 R2 B2 k2 => w _ H2 O2 (back R2 B2).1 (back R2 B2).2 k2
      | rt f z ρ2 => rw [eh] at w; exact fun v σ2 H2 O2 R2 B2 rr => w v σ2 H2 O2 (R2.drop rfl fun _ _ => rfl) (B2.unpin ip' n0 ap fun _ _ => rfl) (by cases f <;> exact rr)
      | exc z ρ2 => rw [eh] at w; exact w.elim
      | bad => rw [eh] at w; exact w.elim
    · have w : WantS X.K X.mg W n H O (if y.c ∈ yes then Out.opt ρ1[i]? fun _ => outI i (h y (ρ1.set i .no)) else if y.c ∈ no then .exc y ρ1 else .bad) D := w
      rw [if_neg yy] at w
      by_cases nn : y.c ∈ no
      · rw [if_pos nn] at w
        exact ⟨false, by rw [h2]; exact hno _ nn C h1, fun z => Bool.noConfusion z, fun _ => w cls d σ' H' O' R' B' k' xr⟩
      · rw [if_neg nn] at w; exact w.elim
end

/-! ### list(range(n)) -/
def mLRg (f : ME) : ME := fun ρ => (f ρ).bind fun r ρ1 => RE.opt (look r ρ1) fun d => RE.opt (intOf d) fun b => if -(2 ^ 62) ≤ b ∧ b ≤ 16777216 then .ok (.fresh (.list (upto 0 b.toNat))) ρ1 else .bad
theorem rgV_rp {K : Fg} {H : Hp} {O : Ow} (a b : Int) : RpAll K H O (rgV a b) (upto a (b - a).toNat) := by
  unfold rgV upto
  generalize (b - a).toNat = n
  have : ∀ l : List Nat, RpAll K H O (l.map fun (i : Nat) => V.int (a + (i : Nat))) (l.map fun (i : Nat) => PyData.int (a + (i : Nat))) := by
    intro l
    induction l with
    | nil => exact .nil
    | cons x l ih => exact .cons (.int _) ih
  exact this _
section
variable {X : Cx} {W : WX} {e : Expr} {te : TE} {fe : ME} {p p2 pos pos2 : Pos}
theorem se_lrg (hc : X.calm = true) (hg : Gl X "list") (hm : X.mg "list" = none) (hg2 : Gl X "range") (hm2 : X.mg "range" = none) (na : starEach [e] X.env = (false, eval e X.env) :: starEach [] X.env)
    (na2 : starEach [.Call (.Name "range" p2) [e] [] pos2] X.env = (false, eval (.Call (.Name "range" p2) [e] [] pos2) X.env) :: starEach [] X.env) (he : SE X W e te fe) :
    SE X W (.Call (.Name "list" p) [.Call (.Name "range" p2) [e] [] pos2] [] pos) (tLstRg (tRg1 te)) (mLRg fe) := by
  refine ⟨pe_listRg hc hg hm (prg_1 hg2 hm2 he.p na) na2, fun ρ σ H O Q R h => he.s ρ σ H O _ R (Want.bind h fun r ρ1 v H1 O1 e1 R1 F1 o1 h1 => ?_)⟩
  obtain ⟨d, ed, h1⟩ := h1.opt
  obtain ⟨b, eb, h1⟩ := h1.opt
  have ev : v = .int b := intOf_see (ORel.see1 o1 R F1 R1 ed) eb
  by_cases hb : -(2 ^ 62) ≤ b ∧ b ≤ 16777216
  · rw [if_pos hb] at h1
    refine ⟨b, ev, ⟨by omega, by omega, hb.1, by omega, by omega⟩, fun q hq => ?_⟩
    have := rgV_rp (K := X.K) (H := H1) (O := O1) 0 b
    rw [Int.sub_zero] at this
    exact Cf.lst (h1.ck .f R1) this q hq
  · rw [if_neg hb] at h1; exact h1.elim
end

theorem hy_nil {K : Fg} {mg : Str → Option Value} {c : Value} {b : Bool} : ∀ y ∈ ([] : List Str), ∀ C, mg y = some (.ref C) → PySem.W.exmOne K (.ref C) c = some b := fun y h => by cases h
theorem hy_cons {K : Fg} {mg : Str → Option Value} {c : Value} {b : Bool} {n : Str} {N : Addr} {l : List Str} (g : mg n = some (.ref N)) (e : PySem.W.exmOne K (.ref N) c = some b) (r : ∀ y ∈ l, ∀ C, mg y = some (.ref C) → PySem.W.exmOne K (.ref C) c = some b) :
    ∀ y ∈ n :: l, ∀ C, mg y = some (.ref C) → PySem.W.exmOne K (.ref C) c = some b := fun y h C hC => by
  rcases List.mem_cons.mp h with rfl | h
  · rw [g] at hC; cases hC; exact e
  · exact r y h C hC
def clsB : Stmt → List Stmt
  | .ClassDef _ _ _ b _ _ _ _ _ _ _ => b
  | _ => []
theorem fields1 {α : Type} {a : Str} {u : α} : fields [a] [u] = [(a, u)] := rfl
theorem fields2 {α : Type} {a b : Str} {u v : α} : fields [a, b] [u, v] = [(b, v), (a, u)] := rfl
theorem lookup_same {k : Str} {d : D} {l : List (Str × D)} : ((k, d) :: l).lookup k = some d := by simp [List.lookup]
theorem lookup_other {k k' : Str} {d : D} {l : List (Str × D)} (h : ¬ k = k') : ((k', d) :: l).lookup k = l.lookup k := by
  have : (k == k') = false := by simpa using h
  simp [List.lookup, this]

/-! ### runs -/
section
variable {K : Co Opd} {u : Tag K} {ρ : Fr} {fa fi fe : ME} {KO : CoO} {uo : Tag KO}
theorem ev_lrg : Ev (mLRg fa ρ) K u = Ev (fa ρ) ⟨fun r ρ1 => EvP (look r ρ1) fun d => EvP (intOf d) fun b => (-(2 ^ 62) ≤ b ∧ b ≤ 16777216) ∧ K.ok (.fresh (.list (upto 0 b.toNat))) ρ1, K.ex⟩ .mk := by
  unfold mLRg; simp only [ev_un, evP_un, eu_bind, eu_opt, eu_if]
theorem evo_augI {j : Nat} {f : Int → Int → Int} : EvO (mAugI j f fi fe ρ) KO uo = EvP (ownL j ρ) fun _ => Ev (fi ρ) ⟨fun ri ρ1 => EvP (look ri ρ1) fun di => EvP (intOf di) fun k =>
    EvP (ownL j ρ1) fun l => EvP (atI l k) fun x => EvP (intOf x) fun a => Ev (fe ρ1) ⟨fun re ρ2 => EvP (look re ρ2) fun y => EvP (intOf y) fun b => EvP (ownL j ρ2) fun l2 => EvP (ixN l2.length k) fun n =>
    KO.go (.nx (ρ2.set j (.own (.list (l2.set n (.int (f a b)))))))
    , fun x ρ => KO.go (.exc x ρ)⟩ .mk, fun x ρ => KO.go (.exc x ρ)⟩ .mk := by
  unfold mAugI; simp only [evo_out, ev_un, evo_opt, evP_un, evo_nx]
theorem evo_raise {c : Str} {ns : List Str} {sa : MA} : EvO (mRaise c ns sa ρ) KO uo = Ev (sa ρ) ⟨fun ds ρ1 => ds.length = ns.length ∧ KO.go (.exc ⟨c, fields ns ds⟩ ρ1), fun x ρ => KO.go (.exc x ρ)⟩ .mk := by
  unfold mRaise
  have e : (fun (ds : List D) (ρ1 : Fr) => EvO (if ds.length = ns.length then .exc ⟨c, fields ns ds⟩ ρ1 else .bad) KO .mk) = fun ds ρ1 => ds.length = ns.length ∧ KO.go (.exc ⟨c, fields ns ds⟩ ρ1) := by
    funext ds ρ1
    by_cases h : ds.length = ns.length
    · rw [if_pos h, evo_exc]; exact propext ⟨fun q => ⟨h, q⟩, fun q => q.2⟩
    · rw [if_neg h, evo_bad]; exact propext ⟨fun q => q.elim, fun q => absurd q.1 h⟩
  rw [evo_out]
  simp only [ev_un, e]
/-- behind the suite of an except -/
def suiK (i : Nat) (KO : CoO) : CoO := ⟨fun o => outI i o ≠ .bad ∧ KO.go (outI i o)⟩
def tryK (yes no : List Str) (i : Nat) (h : Xc → MS) (KO : CoO) : CoO := ⟨fun o => match o with
  | .exc x ρ => if x.c ∈ yes then EvP ρ[i]? fun _ => EvO (h x (ρ.set i .no)) (suiK i KO) .mk else x.c ∈ no ∧ KO.go (.exc x ρ)
  | o => KO.go o⟩
theorem sk_nx {i : Nat} : (suiK i KO).go (.nx ρ) = KO.go (.nx (ρ.set i .no)) := propext ⟨fun h => h.2, fun h => ⟨(by intro z; cases z), h⟩⟩
theorem sk_rt {i : Nat} {f : Bool} {d : D} : (suiK i KO).go (.rt f d ρ) = KO.go (.rt f d (ρ.set i .no)) := propext ⟨fun h => h.2, fun h => ⟨(by intro z; cases z), h⟩⟩
theorem tk_nx {yes no : List Str} {i : Nat} {h : Xc → MS} : (tryK yes no i h KO).go (.nx ρ) = KO.go (.nx ρ) := rfl
theorem tk_rt {yes no : List Str} {i : Nat} {h : Xc → MS} {f : Bool} {d : D} : (tryK yes no i h KO).go (.rt f d ρ) = KO.go (.rt f d ρ) := rfl
theorem tk_exc {yes no : List Str} {i : Nat} {h : Xc → MS} {x : Xc} : (tryK yes no i h KO).go (.exc x ρ) = if x.c ∈ yes then EvP ρ[i]? fun _ => EvO (h x (ρ.set i .no)) (suiK i KO) .mk else x.c ∈ no ∧ KO.go (.exc x ρ) := rfl
theorem evo_try {yes no : List Str} {i : Nat} {g : MS} {h : Xc → MS} : EvO (mTry yes no i g h ρ) KO uo = EvO (g ρ) (tryK yes no i h KO) .mk := by
  unfold mTry
  cases e : g ρ with
  | nx ρ1 => rw [evo_nx, evo_nx]; rfl
  | rt f d ρ1 => rw [evo_rt, evo_rt]; rfl
  | bk ρ1 => rw [evo_bk, evo_bk]; rfl
  | ct ρ1 => rw [evo_ct, evo_ct]; rfl
  | bad => rw [evo_bad, evo_bad]
  | exc x ρ1 =>
    rw [evo_exc, tk_exc]
    show EvO (if x.c ∈ yes then _ else _) KO uo = _
    by_cases hy : x.c ∈ yes
    · rw [if_pos hy, if_pos hy, evo_opt]
      have e2 : EvO (outI i (h x (ρ1.set i .no))) KO .mk = EvO (h x (ρ1.set i .no)) (suiK i KO) .mk := by
        rw [evo_un, evo_un]
        exact propext ⟨fun q => ⟨fun z => q.1 (by rw [z]; rfl), q⟩, fun q => q.2⟩
      exact propext ⟨fun ⟨a, e, q⟩ => ⟨a, e, e2 ▸ q⟩, fun ⟨a, e, q⟩ => ⟨a, e, e2 ▸ q⟩⟩
    · rw [if_neg hy, if_neg hy]
      by_cases hn : x.c ∈ no
      · rw [if_pos hn, evo_exc]; exact propext ⟨fun q => ⟨hn, q⟩, fun q => q.2⟩
      · rw [if_neg hn, evo_bad]; exact propext ⟨fun q => q.elim, fun q => absurd q.1 hn⟩
theorem evo_fcons {gt : D → Fr → Option Fr} {body : MS} {kl : List Nat} {d : D} {ds : List D} : EvO (forL gt body kl (d :: ds) ρ) KO uo = EvP (gt d ρ) fun ρ1 => EvO (body ρ1) (forK (fun ρ' => EvO (forL gt body kl ds ρ') KO .mk) kl KO) .mk := by
  conv => lhs; unfold forL
  cases e : gt d ρ with
  | none => simp only [evo_bad, evP_none]
  | some ρ1 =>
    rw [evP_some]
    cases eb : body ρ1 with
    | nx ρ2 => simp only [eb, evo_nx, fk_nx]
    | ct ρ2 => simp only [eb, evo_ct, fk_ct]
    | bk ρ2 => simp only [eb, evo_bk, evo_nx, fk_bk]
    | rt f z ρ2 => simp only [eb, evo_rt, fk_rt]
    | exc x ρ2 => simp only [eb, evo_exc, fk_exc]
    | bad => simp only [eb, evo_bad]
theorem ev_fl {c f : Str} {x : Xc} : Ev (mFl c f x ρ) K u = (x.c = c ∧ EvP (x.fl.lookup f) fun d => K.ok (.val d) ρ) := by
  unfold mFl
  by_cases h : x.c = c
  · rw [if_pos h, ev_opt]
    refine propext ⟨fun ⟨a, e, q⟩ => ⟨h, a, e, ev_ok.mp q⟩, fun ⟨_, a, e, q⟩ => ⟨a, e, ev_ok.mpr q⟩⟩
  · rw [if_neg h, ev_bad]; exact propext ⟨fun q => q.elim, fun q => absurd q.1 h⟩
end
end L3
set_option Elab.async false
set_option linter.all false
set_option maxRecDepth 1000000
set_option maxHeartbeats 40000000
set_option autoImplicit false
/-! L3Y: what the laws' mathematics share: looks at things, rows of ints, drawn numbers, meetings, rules. -/
namespace L3
open PySem PySem.Spec L2
def inB (lo hi : Int) : D → Bool
  | .int i => decide (lo ≤ i) && decide (i ≤ hi)
  | _ => false
def noD : D → Bool
  | .dict _ => false
  | _ => true
theorem Dat.noD {b c p : Nat} {d : D} (h : Dat b c p d) : noD d = true := by
  cases d with
  | dict _ => exact h.noDict.elim
  | _ => rfl
/-- a comprehension of truths -/
theorem map_spec {l : List D} {f : D → Bool} {fe : ME} {j : Nat} {fr : Fr} {L : Co (List D)} {ul : Tag L} (hk : ∀ x : Slot, kill (fr.set j x) [j] = fr)
    (hfe : ∀ d ∈ l, ∀ (N : Co Opd) (un : Tag N), N.ok (.val (.bool (f d))) (fr.set j (.val d)) → Ev (fe (fr.set j (.val d))) N un) (q : L.ok ((l.map f).map .bool) fr) : Ev (lcL (gtName j) mYes fe [j] l fr) L ul := by
  refine lc_inv (fun i es ρ => ρ = fr ∧ es = ((l.take i).map f).map .bool) ⟨rfl, rfl⟩ ?_ ?_
  · rintro i d es ρ hd ⟨rfl, rfl⟩
    refine ⟨_, rfl, ?_⟩
    show Ev (mYes _) _ .mk
    rw [ap_yes, ev_ok]
    show Ev (fe _) _ .mk
    refine hfe d (List.mem_of_getElem? hd) _ _ ⟨_, rfl, hk _, ?_⟩
    rw [List.take_add_one, hd]
    simp
  · rintro es ρ ⟨rfl, rfl⟩
    rw [List.take_length]
    exact q
theorem all_noD {b c p : Nat} {l : List D} (h : DatL b c p l) : ∀ d ∈ l, noD d = true := fun d hd => Dat.noD (h.get hd)
theorem len_small {b c p : Nat} {l : List D} (h : DatL b c p l) : l.length ≤ c := by
  have : ∀ l : List D, l.length ≤ costs l := by
    intro l
    induction l with
    | nil => simp [costs]
    | cons d r ih => simp only [List.length_cons, costs]; omega
  exact Nat.le_trans (this l) h.cost
theorem cNotIn_bools (bs : List Bool) : cNotIn (.bool false) (.list (bs.map PyData.bool)) = some (bs.all id) := by
  have h1 : PyData.canLayAll0 (bs.map PyData.bool) = true := by
    induction bs with
    | nil => rfl
    | cons x r ih => simp only [List.map_cons, PyData.canLayAll0, PyData.canLay0, ih, Bool.and_self]
  have h2 : PyData.depthAll (bs.map PyData.bool) ≤ 1 := by
    induction bs with
    | nil => simp [PyData.depthAll]
    | cons x r ih =>
      have := ih (by simpa [PyData.canLayAll0, PyData.canLay0] using h1)
      simp only [List.map_cons, PyData.depthAll, PyData.depth]; omega
  have h3 : PyData.depth (.list (bs.map PyData.bool)) ≤ 64 := by simp only [PyData.depth]; omega
  have h4 : SeqAt.shaped (.list (bs.map PyData.bool)) = true := by simp only [SeqAt.shaped, PyData.canLay0, h1, h3, decide_true, Bool.and_self]
  have h5 : ∀ bs : List Bool, (!(bs.map PyData.bool).any fun z => PyData.eqv z (.bool false)) = bs.all id := by
    intro bs
    induction bs with
    | nil => rfl
    | cons x r ih =>
      simp only [List.map_cons, List.any_cons, Bool.not_or, ih, List.all_cons]
      cases x <;> simp [PyData.eqv]
  unfold cNotIn
  simp only [shaped_bool, h4, Bool.and_self, if_true, h5]
theorem cIn_bools (bs : List Bool) : cIn (.bool false) (.list (bs.map PyData.bool)) = some (!bs.all id) := by
  have h1 : PyData.canLayAll0 (bs.map PyData.bool) = true := by
    induction bs with
    | nil => rfl
    | cons x r ih => simp only [List.map_cons, PyData.canLayAll0, PyData.canLay0, ih, Bool.and_self]
  have h2 : PyData.depthAll (bs.map PyData.bool) ≤ 1 := by
    induction bs with
    | nil => simp [PyData.depthAll]
    | cons x r ih =>
      have := ih (by simpa [PyData.canLayAll0, PyData.canLay0] using h1)
      simp only [List.map_cons, PyData.depthAll, PyData.depth]; omega
  have h3 : PyData.depth (.list (bs.map PyData.bool)) ≤ 64 := by simp only [PyData.depth]; omega
  have h4 : SeqAt.shaped (.list (bs.map PyData.bool)) = true := by simp only [SeqAt.shaped, PyData.canLay0, h1, h3, decide_true, Bool.and_self]
  have h5 : ∀ bs : List Bool, ((bs.map PyData.bool).any fun z => PyData.eqv z (.bool false)) = !bs.all id := by
    intro bs
    induction bs with
    | nil => rfl
    | cons x r ih =>
      simp only [List.map_cons, List.any_cons, ih, List.all_cons, Bool.not_and]
      cases x <;> simp [PyData.eqv]
  unfold cIn
  simp only [shaped_bool, h4, Bool.and_self, if_true, h5]
/-- rising, each in [0, k) -/
theorem ints_of_all {lo hi : Int} : ∀ {l : List D}, l.all (inB lo hi) = true → ∃ ns : List Int, l = ns.map .int ∧ ∀ x ∈ ns, lo ≤ x ∧ x ≤ hi
  | [], _ => ⟨[], rfl, by simp⟩
  | d :: r, h => by
    rw [List.all_cons, Bool.and_eq_true] at h
    obtain ⟨ns, rfl, h2⟩ := ints_of_all h.2
    cases d with
    | int i =>
      refine ⟨i :: ns, rfl, fun x hx => ?_⟩
      rcases List.mem_cons.mp hx with rfl | hx
      · simpa [inB] using h.1
      · exact h2 x hx
    | _ => simp [inB] at h
theorem all_id {l : List D} {f : D → Bool} : (l.map f).all id = l.all f := by rw [List.all_map]; rfl

theorem eqv_ints : ∀ (ns ms : List Int), PyData.eqvAll (ns.map .int) (ms.map .int) = decide (ns = ms)
  | [], [] => by simp [PyData.eqvAll]
  | [], _ :: _ => by simp [PyData.eqvAll]
  | _ :: _, [] => by simp [PyData.eqvAll]
  | x :: xs, y :: ys => by
    have := eqv_ints xs ys
    simp only [List.map_cons, PyData.eqvAll, this, PyData.eqv]
    by_cases h : x = y <;> by_cases h2 : xs = ys <;> simp [h, h2]
theorem shaped_ints (ns : List Int) : SeqAt.shaped (.list (ns.map .int)) = true := by
  have h1 : PyData.canLayAll0 (ns.map .int) = true ∧ PyData.depthAll (ns.map PyData.int) = 0 := by
    induction ns with
    | nil => exact ⟨rfl, rfl⟩
    | cons x r ih => exact ⟨by simp only [List.map_cons, PyData.canLayAll0, PyData.canLay0, ih.1, Bool.and_self], by simp only [List.map_cons, PyData.depthAll, PyData.depth, ih.2]; rfl⟩
  simp only [SeqAt.shaped, PyData.canLay0, h1.1, PyData.depth, h1.2]; rfl
theorem cEq_lints (ns ms : List Int) : cEq (.list (ns.map .int)) (.list (ms.map .int)) = some (decide (ns = ms)) := by
  unfold cEq
  simp only [shaped_ints, Bool.and_self, if_true, PyData.eqv, eqv_ints]

/-! ### drawn numbers -/
abbrev Fd (g s t : Int) : Slot := .own (.list [.int g, .int s, .int t])
def Fk (n g s t : Int) : Prop := 0 ≤ g ∧ 0 ≤ s ∧ s < 2 ^ 40 ∧ 0 ≤ t ∧ t ≤ n
theorem Fk.mono {n m g s t : Int} (h : Fk n g s t) (l : n ≤ m) : Fk m g s t := ⟨h.1, h.2.1, h.2.2.1, h.2.2.2.1, Int.le_trans h.2.2.2.2 l⟩

/-! ### rows of ints -/
/-- the i-th -/
def gI (l : List Int) (i : Nat) : Int := l.getD i 0
theorem gI_eq {l : List Int} {i : Nat} (h : i < l.length) : l[i]? = some (gI l i) := by
  unfold gI; rw [List.getD_eq_getElem?_getD, List.getElem?_eq_getElem h]; rfl
theorem atI_g {l : List Int} {i : Nat} (h : i < l.length) : atI (l.map PyData.int) (i : Int) = some (.int (gI l i)) := by
  rw [atI_map, atI_in (by omega) (by omega), Int.toNat_natCast, gI_eq h]; rfl
theorem ixN_g {n i : Nat} (h : i < n) : ixN n (i : Int) = some i := by
  rw [ixN_in (by omega) (by omega), Int.toNat_natCast]
theorem atI_gI {l : List Int} {i : Nat} (h : i < l.length) : atI l (i : Int) = some (gI l i) := by
  rw [atI_in (by omega) (by omega), Int.toNat_natCast, gI_eq h]
theorem atI_get {α : Type} {l : List α} {i : Nat} (h : i < l.length) : atI l (i : Int) = some l[i] := by
  rw [atI_in (by omega) (by omega), Int.toNat_natCast, List.getElem?_eq_getElem h]
theorem numb_at {l : List D} {i : Nat} {d : D} (h : (numb 0 l)[i]? = some d) : ∃ x, l[i]? = some x ∧ d = .tuple [.int (i : Nat), x] := by
  rw [numb_get] at h
  cases e : l[i]? with
  | none => rw [e] at h; cases h
  | some x => rw [e] at h; cases h; exact ⟨x, rfl, by simp⟩
/-- v more at i -/
def addAt (l : List Int) (i : Nat) (v : Int) : List Int := l.set i (gI l i + v)
theorem addAt_length {l : List Int} {i : Nat} {v : Int} : (addAt l i v).length = l.length := by unfold addAt; rw [List.length_set]
theorem set_int {l : List Int} {i : Nat} {v : Int} : (l.map PyData.int).set i (.int v) = (l.set i v).map .int := List.map_set.symm
theorem gI_set {l : List Int} {i j : Nat} {v : Int} (h : i < l.length) : gI (l.set i v) j = if i = j then v else gI l j := by
  unfold gI
  rw [List.getD_eq_getElem?_getD, List.getD_eq_getElem?_getD, List.getElem?_set]
  by_cases e : i = j
  · subst e; simp [h]
  · simp [e]
theorem gI_add {l : List Int} {i j : Nat} {v : Int} (h : i < l.length) : gI (addAt l i v) j = gI l j + if i = j then v else 0 := by
  unfold addAt
  rw [gI_set h]
  by_cases e : i = j
  · subst e; simp
  · simp [e]
theorem gI_mem {l : List Int} {i : Nat} (h : i < l.length) : gI l i ∈ l := by
  unfold gI; rw [List.getD_eq_getElem?_getD, List.getElem?_eq_getElem h]; exact List.getElem_mem h
theorem mem_gI {l : List Int} {x : Int} (h : x ∈ l) : ∃ i, i < l.length ∧ x = gI l i := by
  obtain ⟨i, hi, rfl⟩ := List.mem_iff_getElem.mp h
  exact ⟨i, hi, by unfold gI; rw [List.getD_eq_getElem?_getD, List.getElem?_eq_getElem hi]; rfl⟩
theorem rep_flat {α : Type} {x : α} : ∀ n : Nat, (List.replicate n [x]).flatten = List.replicate n x
  | 0 => rfl
  | n + 1 => by rw [List.replicate_succ, List.flatten_cons, rep_flat n, List.replicate_succ]; rfl
theorem rep_int {n : Nat} {v : Int} : (List.replicate n (PyData.int v)) = (List.replicate n v).map .int := List.map_replicate.symm
/-- bounds of a row, as data -/
theorem datL_ints {b : Nat} {l : List Int} (h : ∀ x ∈ l, x.natAbs < 2 ^ b) : DatL b (l.length * (b + 7)) 0 (l.map .int) := by
  have := DatL.of_all (b := b) (p := 0) (b + 3) (l := l.map PyData.int) (fun d hd => by
    obtain ⟨x, hx, rfl⟩ := List.mem_map.mp hd
    exact Dat.int (h x hx))
  rw [List.length_map] at this
  exact this

/-! ### comprehensions with a test -/
section
variable {gt : D → Fr → Option Fr} {ft : Fr → RE Bool} {fe : ME} {vs : List Nat} {ds : List D} {ρ : Fr} {K : Co (List D)} {u : Tag K}
/-- by the items' places: those that p takes, with g's values -/
theorem lc_filt (p : Nat → Bool) (g : Nat → D) (step : ∀ (i : Nat) (d : D), ds[i]? = some d → EvP (gt d ρ) fun ρ1 => Ev (ft ρ1) ⟨fun k ρ2 => k = p i ∧ if k = true then Ev (fe ρ2) ⟨fun r ρ3 => EvP (keepV r ρ3) fun q => kill q.2 vs = ρ ∧ q.1 = g i, fun _ _ => False⟩ .mk else kill ρ2 vs = ρ, fun _ _ => False⟩ .mk)
    (fin : K.ok (((List.range ds.length).filter p).map g) ρ) : Ev (lcL gt ft fe vs ds ρ) K u := by
  refine lc_inv (fun i es ρ' => ρ' = ρ ∧ es = ((List.range i).filter p).map g) ⟨rfl, rfl⟩ ?_ ?_
  · rintro i d es ρ' hd ⟨rfl, rfl⟩
    refine EvP.mono (step i d hd) fun ρ1 h => Ev.mono h (fun k ρ2 h => ?_) fun _ _ h => h
    obtain ⟨hp, h⟩ := h
    cases k with
    | false =>
      simp only [Bool.false_eq_true, if_false] at h ⊢
      refine ⟨h, ?_⟩
      rw [List.range_succ, List.filter_append, List.map_append]
      simp [← hp]
    | true =>
      simp only [if_true] at h ⊢
      refine Ev.mono h (fun r ρ3 h => EvP.mono h fun q h => ⟨h.1, ?_⟩) fun _ _ h => h
      rw [h.2, List.range_succ, List.filter_append, List.map_append]
      simp [← hp]
  · rintro es ρ' ⟨rfl, rfl⟩
    exact fin
end

/-! ### meetings, rules -/
structure Me where
  (a b c d : Nat)
deriving DecidableEq
def mtD (m : Me) : D := .tuple [.int m.a, .int m.b, .int m.c, .int m.d]
structure Me.Ok (R : Nat) (m : Me) : Prop where
  ab : m.a ≤ m.b
  b : m.b < R
  c : m.c < R
  d : m.d < R
  ne : ¬ (m.c = m.a ∧ m.d = m.b)
  nt : ¬ (m.c = m.b ∧ m.d = m.a)
theorem Me.Ok.a {R : Nat} {m : Me} (h : m.Ok R) : m.a < R := Nat.lt_of_le_of_lt h.ab h.b
def Me.key (m : Me) : Nat := 64 * m.a + m.b
def nD (n : Nat) : D := .int (n : Int)
structure Rl where
  R : Nat
  S : List Nat
  M : List Me
  Y : List Bool
def rlD (r : Rl) : D := .tuple [.int r.R, .tuple (r.S.map nD), .tuple (r.M.map mtD), .tuple (r.Y.map .bool)]
structure Rl.Ok (r : Rl) (mx ss : Nat) : Prop where
  r1 : 1 ≤ r.R
  r2 : r.R ≤ mx
  sl : r.S.length = ss
  sv : ∀ x ∈ r.S, x < r.R
  mt : ∀ m ∈ r.M, m.Ok r.R
  asc : (r.M.map Me.key).Pairwise (· < ·)
  ml : r.M.length ≤ 1600
  yl : r.Y.length = r.R
section
variable {r : Rl} {m : Me}
theorem rl0 : dIx (rlD r) (.int 0) = some (.v, .int r.R) := by simp only [rlD, dIx, atI_0]; rfl
theorem rl1 : dIx (rlD r) (.int 1) = some (.v, .tuple (r.S.map nD)) := by simp only [rlD, dIx, atI_1]; rfl
theorem rl2 : dIx (rlD r) (.int 2) = some (.v, .tuple (r.M.map mtD)) := by simp only [rlD, dIx, atI_2]; rfl
theorem rl3 : dIx (rlD r) (.int 3) = some (.v, .tuple (r.Y.map .bool)) := by simp only [rlD, dIx, atI_3]; rfl
theorem me0 : dIx (mtD m) (.int 0) = some (.v, .int m.a) := by simp only [mtD, dIx, atI_0]; rfl
theorem me1 : dIx (mtD m) (.int 1) = some (.v, .int m.b) := by simp only [mtD, dIx, atI_1]; rfl
theorem me2 : dIx (mtD m) (.int 2) = some (.v, .int m.c) := by simp only [mtD, dIx, atI_2]; rfl
theorem me3 : dIx (mtD m) (.int 3) = some (.v, .int m.d) := by simp only [mtD, dIx, atI_3]; rfl
theorem me_hi : dSl (mtD m) none (some 2) = some (.v, .tuple [.int m.a, .int m.b]) := by simp only [mtD, dSl, cutL_hi2]; rfl
theorem me_lo : dSl (mtD m) (some 2) none = some (.v, .tuple [.int m.c, .int m.d]) := by simp only [mtD, dSl, cutL_lo2]; rfl
theorem at_m {M : List Me} {i : Nat} (h : i < M.length) : atI (M.map mtD) (i : Int) = some (mtD M[i]) := by
  rw [atI_map, atI_in (by omega) (by omega), Int.toNat_natCast, List.getElem?_eq_getElem h]; rfl
theorem at_n {S : List Nat} {i : Nat} (h : i < S.length) : atI (S.map nD) (i : Int) = some (.int (S[i] : Nat)) := by
  rw [atI_map, atI_in (by omega) (by omega), Int.toNat_natCast, List.getElem?_eq_getElem h]; rfl
theorem at_b {Y : List Bool} {i : Nat} (h : i < Y.length) : atI (Y.map PyData.bool) (i : Int) = some (.bool Y[i]) := by
  rw [atI_map, atI_in (by omega) (by omega), Int.toNat_natCast, List.getElem?_eq_getElem h]; rfl
theorem dIx_g {l : List Int} {i : Nat} (h : i < l.length) : dIx (.tuple (l.map .int)) (.int (i : Int)) = some (.v, .int (gI l i)) := by
  simp only [dIx, atI_g h, Option.map_some]
theorem dIx_gl {l : List Int} {i : Nat} (h : i < l.length) : dIx (.list (l.map .int)) (.int (i : Int)) = some (.v, .int (gI l i)) := by
  simp only [dIx, atI_g h, Option.map_some]
end
/-! ### crowds -/
def mayP (c : List Int) (m : Me) : Bool := if m.a = m.b then decide (2 ≤ gI c m.a) else decide (1 ≤ gI c m.a) && decide (1 ≤ gI c m.b)
def behindP (c : List Int) (m : Me) : List Int := addAt (addAt (addAt (addAt c m.a (-1)) m.b (-1)) m.c 1) m.d 1
theorem behindP_length {c : List Int} {m : Me} : (behindP c m).length = c.length := by unfold behindP; rw [addAt_length, addAt_length, addAt_length, addAt_length]
/-- behind the meeting of a number, if it can be -/
def metP (r : Rl) (c : List Int) (v : Int) : Option (List Int) := if 0 ≤ v then (match r.M[v.toNat]? with | some m => if mayP c m = true then some (behindP c m) else none | none => none) else none
def canI (r : Rl) (c : List Int) : List Int := ((List.range r.M.length).filter fun (i : Nat) => (metP r c (i : Int)).isSome).map fun (i : Nat) => (i : Int)
theorem metP_get {r : Rl} {c : List Int} {i : Nat} (h : i < r.M.length) : metP r c i = if mayP c r.M[i] = true then some (behindP c r.M[i]) else none := by
  unfold metP
  rw [if_pos (by omega), Int.toNat_natCast, List.getElem?_eq_getElem h]
theorem mem_canI {r : Rl} {c : List Int} {v : Int} : v ∈ canI r c ↔ (metP r c v).isSome = true := by
  unfold canI
  simp only [List.mem_map, List.mem_filter, List.mem_range]
  constructor
  · rintro ⟨i, ⟨_, h⟩, rfl⟩; exact h
  · intro h
    have hv : 0 ≤ v := by
      apply Classical.byContradiction
      intro hn
      unfold metP at h
      rw [if_neg hn] at h
      cases h
    refine ⟨v.toNat, ⟨?_, ?_⟩, Int.toNat_of_nonneg hv⟩
    · apply Classical.byContradiction
      intro hn
      have hn : r.M.length ≤ v.toNat := Nat.le_of_not_lt hn
      unfold metP at h
      rw [if_pos hv, List.getElem?_eq_none hn] at h
      cases h
    · rw [Int.toNat_of_nonneg hv]; exact h
def begunP (r : Rl) (n : List Int) (i : Nat) : List Int := ((r.S.zip n).take i).foldl (fun c p => addAt c p.1 p.2) (List.replicate r.R 0)
theorem begunP_succ {r : Rl} {n : List Int} {i : Nat} (h : i < r.S.length) (h2 : i < n.length) : begunP r n (i + 1) = addAt (begunP r n i) r.S[i] (gI n i) := by
  unfold begunP
  have e : (r.S.zip n)[i]? = some (r.S[i], gI n i) := by
    rw [List.getElem?_zip_eq_some]
    exact ⟨List.getElem?_eq_getElem h, gI_eq h2⟩
  rw [List.take_add_one, e, List.foldl_append]
  rfl
theorem begunP_length {r : Rl} {n : List Int} : ∀ i : Nat, (begunP r n i).length = r.R := by
  intro i
  unfold begunP
  generalize (r.S.zip n).take i = l
  have : ∀ (l : List (Nat × Int)) (c : List Int), (l.foldl (fun c p => addAt c p.1 p.2) c).length = c.length := by
    intro l
    induction l with
    | nil => intro c; rfl
    | cons p l ih => intro c; rw [List.foldl_cons, ih, addAt_length]
  rw [this, List.length_replicate]
theorem gI_rep {n j : Nat} : gI (List.replicate n 0) j = 0 := by
  unfold gI
  rw [List.getD_eq_getElem?_getD, List.getElem?_replicate]
  split <;> rfl
/-- each room's hands in a beginning's crowd -/
theorem begunP_bound {r : Rl} {n : List Int} {B : Int} (hs : ∀ x ∈ r.S, x < r.R) (hl : r.S.length = n.length) (hn : ∀ x ∈ n, 0 ≤ x ∧ x ≤ B) : ∀ i, i ≤ n.length → ∀ j, 0 ≤ gI (begunP r n i) j ∧ gI (begunP r n i) j ≤ i * B
  | 0, _, j => by
    unfold begunP
    rw [List.take_zero, List.foldl_nil, gI_rep]
    simp
  | i + 1, h, j => by
    obtain ⟨a1, a2⟩ := begunP_bound hs hl hn i (by omega) j
    have hb := hn _ (gI_mem (l := n) (i := i) (by omega))
    rw [begunP_succ (by omega) (by omega), gI_add (by rw [begunP_length]; exact hs _ (List.getElem_mem _))]
    have e : ((i + 1 : Nat) : Int) * B = i * B + B := by rw [Int.natCast_add, Int.add_mul]; simp
    rw [e]
    split <;> omega
/-- crowds' bounds -/
def Cr (R : Nat) (B : Int) (c : List Int) : Prop := c.length = R ∧ ∀ x ∈ c, 0 ≤ x ∧ x ≤ B
theorem Cr.at {R : Nat} {B : Int} {c : List Int} (h : Cr R B c) {j : Nat} : 0 ≤ gI c j := by
  by_cases l : j < c.length
  · exact (h.2 _ (gI_mem l)).1
  · unfold gI; rw [List.getD_eq_getElem?_getD, List.getElem?_eq_none (by omega)]; exact Int.le_refl _
theorem Cr.le {R : Nat} {B : Int} {c : List Int} (h : Cr R B c) (hB : 0 ≤ B) {j : Nat} : gI c j ≤ B := by
  by_cases l : j < c.length
  · exact (h.2 _ (gI_mem l)).2
  · unfold gI; rw [List.getD_eq_getElem?_getD, List.getElem?_eq_none (by omega)]; exact hB
theorem gI_behind {c : List Int} {m : Me} (h : m.Ok c.length) (j : Nat) : gI (behindP c m) j = gI c j + (if m.a = j then -1 else 0) + (if m.b = j then -1 else 0) + (if m.c = j then 1 else 0) + (if m.d = j then 1 else 0) := by
  unfold behindP
  rw [gI_add (by rw [addAt_length, addAt_length, addAt_length]; exact h.d), gI_add (by rw [addAt_length, addAt_length]; exact h.c), gI_add (by rw [addAt_length]; exact h.b), gI_add h.a]
theorem Cr.behind {R : Nat} {B : Int} {c : List Int} {m : Me} (h : Cr R B c) (hB : 0 ≤ B) (hm : m.Ok R) (hy : mayP c m = true) : Cr R (B + 2) (behindP c m) := by
  obtain ⟨hl, hb⟩ := id h
  have hm' : m.Ok c.length := by rw [hl]; exact hm
  refine ⟨by rw [behindP_length, hl], fun x hx => ?_⟩
  obtain ⟨j, hj, rfl⟩ := mem_gI hx
  rw [gI_behind hm']
  have h0 := h.at (j := j)
  have h1 := h.le hB (j := j)
  unfold mayP at hy
  by_cases e : m.a = m.b
  · rw [if_pos e] at hy
    have hy := of_decide_eq_true hy
    rw [← e]
    by_cases e1 : m.a = j
    · rw [e1] at hy; rw [if_pos e1]; constructor <;> (split <;> split <;> omega)
    · rw [if_neg e1]; constructor <;> (split <;> split <;> omega)
  · rw [if_neg e, Bool.and_eq_true] at hy
    have y1 := of_decide_eq_true hy.1
    have y2 := of_decide_eq_true hy.2
    by_cases e1 : m.a = j
    · have e2 : ¬ m.b = j := fun z => e (e1.trans z.symm)
      rw [e1] at y1; rw [if_pos e1, if_neg e2]; constructor <;> (split <;> split <;> omega)
    · by_cases e2 : m.b = j
      · rw [e2] at y2; rw [if_neg e1, if_pos e2]; constructor <;> (split <;> split <;> omega)
      · rw [if_neg e1, if_neg e2]; constructor <;> (split <;> split <;> omega)
theorem begunP_cr {r : Rl} {n : List Int} {B : Int} {mx ss : Nat} (h : r.Ok mx ss) (hl : n.length = ss) (hn : ∀ x ∈ n, 0 ≤ x ∧ x ≤ B) : Cr r.R (ss * B) (begunP r n n.length) := by
  refine ⟨begunP_length _, fun x hx => ?_⟩
  obtain ⟨j, hj, rfl⟩ := mem_gI hx
  have := begunP_bound h.sv (by rw [h.sl, hl]) hn n.length (Nat.le_refl _) j
  rw [hl] at this
  rw [hl]
  exact this
theorem metP_cr {r : Rl} {R : Nat} {B v : Int} {c x : List Int} {mx ss : Nat} (h : r.Ok mx ss) (hc : Cr r.R B c) (hB : 0 ≤ B) (e : metP r c v = some x) : Cr r.R (B + 2) x := by
  unfold metP at e
  split at e
  · split at e
    · rename_i m em
      split at e
      · rename_i hy
        cases e
        exact hc.behind hB (h.mt _ (List.mem_of_getElem? em)) hy
      · cases e
    · cases e
  · cases e
theorem Cr.dat {R : Nat} {B : Int} {c : List Int} (h : Cr R B c) (hB : B < 2 ^ 100) (hR : R ≤ 100) : Dat 110 20000 1 (tupI c) := by
  have : DatL 110 (c.length * (110 + 7)) 0 (c.map .int) := datL_ints fun x hx => by
    obtain ⟨h1, h2⟩ := h.2 x hx
    have : x.natAbs < 2 ^ 100 := by omega
    exact Nat.lt_of_lt_of_le this (by decide)
  exact (Dat.tup this).mono (by rw [h.1]; omega) (by decide)
theorem behind_four {R : Nat} {B : Int} {c : List Int} {m : Me} {X Y : Prop} (h : Cr R B c) (hm : m.Ok c.length) (q : if mayP c m = true then Y else X) :
    if gI (addAt c m.a (-1)) m.a < 0 then X else if gI (addAt (addAt c m.a (-1)) m.b (-1)) m.b < 0 then X else if gI (addAt (addAt (addAt c m.a (-1)) m.b (-1)) m.c 1) m.c < 0 then X else if gI (behindP c m) m.d < 0 then X else Y := by
  have a0 := h.at (j := m.a)
  have b0 := h.at (j := m.b)
  have c0 := h.at (j := m.c)
  have d0 := h.at (j := m.d)
  have v1 : gI (addAt c m.a (-1)) m.a = gI c m.a - 1 := by rw [gI_add hm.a]; simp; omega
  have v2 : gI (addAt (addAt c m.a (-1)) m.b (-1)) m.b = gI c m.b + (if m.a = m.b then -1 else 0) - 1 := by
    rw [gI_add (by rw [addAt_length]; exact hm.b), gI_add hm.a, if_pos rfl]; rfl
  have v3 : gI (addAt (addAt (addAt c m.a (-1)) m.b (-1)) m.c 1) m.c = gI c m.c + (if m.a = m.c then -1 else 0) + (if m.b = m.c then -1 else 0) + 1 := by
    rw [gI_add (by rw [addAt_length, addAt_length]; exact hm.c), gI_add (by rw [addAt_length]; exact hm.b), gI_add hm.a]; simp
  have v4 := gI_behind hm m.d
  rw [v1, v2, v3, v4]
  unfold mayP at q
  by_cases e : m.a = m.b
  · rw [if_pos e] at q
    rw [if_pos e]
    by_cases y : 2 ≤ gI c m.a
    · rw [decide_eq_true y, if_pos rfl] at q
      have y' : 2 ≤ gI c m.b := by rw [← e]; exact y
      rw [if_neg (by omega), if_neg (by omega), if_neg, if_neg]
      · exact q
      · by_cases z : m.b = m.d
        · rw [z] at y'; rw [e]; simp only [z]; split <;> simp <;> omega
        · rw [e]; simp only [if_neg z]; split <;> simp <;> omega
      · by_cases z : m.b = m.c
        · rw [z] at y'; rw [e]; simp only [z]; simp; omega
        · rw [e]; simp only [if_neg z]; omega
    · rw [decide_eq_false y, if_neg Bool.false_ne_true] at q
      by_cases y1 : gI c m.a - 1 < 0
      · rw [if_pos y1]; exact q
      · rw [if_neg y1, if_pos (by rw [← e]; omega)]; exact q
  · rw [if_neg e] at q
    rw [if_neg e]
    by_cases y1 : 1 ≤ gI c m.a
    · by_cases y2 : 1 ≤ gI c m.b
      · rw [decide_eq_true y1, decide_eq_true y2, if_pos (by rfl)] at q
        rw [if_neg (by omega), if_neg (by omega), if_neg, if_neg]
        · exact q
        · by_cases z : m.a = m.d
          · have z2 : ¬ m.b = m.d := fun w => e (z.trans w.symm)
            rw [z] at y1; simp only [if_pos z, if_neg z2]; split <;> simp <;> omega
          · by_cases z2 : m.b = m.d
            · rw [z2] at y2; simp only [if_neg z, if_pos z2]; split <;> simp <;> omega
            · simp only [if_neg z, if_neg z2]; split <;> simp <;> omega
        · by_cases z : m.a = m.c
          · have z2 : ¬ m.b = m.c := fun w => e (z.trans w.symm)
            rw [z] at y1; simp only [if_pos z, if_neg z2]; omega
          · by_cases z2 : m.b = m.c
            · rw [z2] at y2; simp only [if_neg z, if_pos z2]; omega
            · simp only [if_neg z, if_neg z2]; omega
      · rw [decide_eq_true y1, decide_eq_false y2, if_neg (by simp)] at q
        rw [if_neg (by omega), if_pos (by omega)]; exact q
    · rw [decide_eq_false y1, if_neg (by simp)] at q
      rw [if_pos (by omega)]; exact q
/-! ### walks -/
def walkP (r : Rl) (c : List Int) (i : Nat) : List Int → (List Int) ⊕ Nat
  | [] => .inl c
  | v :: vs => match metP r c v with
    | some x => walkP r x (i + 1) vs
    | none => .inr i
def walkD : (List Int) ⊕ Nat → D
  | .inl x => tupI x
  | .inr p => .tuple [.str "none", .int (p : Int)]
theorem walkP_snoc {r : Rl} {v : Int} : ∀ (l : List Int) (c : List Int) (i : Nat) (x : List Int), walkP r c i l = .inl x → walkP r c i (l ++ [v]) = match metP r x v with | some y => .inl y | none => .inr (i + l.length)
  | [], c, i, x, h => by
    cases h
    rfl
  | w :: l, c, i, x, h => by
    simp only [List.cons_append, walkP] at h ⊢
    cases e : metP r c w with
    | none => rw [e] at h; cases h
    | some y =>
      rw [e] at h
      have := walkP_snoc (v := v) l y (i + 1) x h
      simp only [this, List.length_cons]
      cases metP r x v with
      | none => simp only; congr 1; omega
      | some _ => rfl
theorem walkP_cr {r : Rl} {mx ss : Nat} (hr : r.Ok mx ss) : ∀ (l : List Int) (c : List Int) (i : Nat) (x : List Int) (B : Int), 0 ≤ B → Cr r.R B c → walkP r c i l = .inl x → Cr r.R (B + 2 * l.length) x
  | [], c, i, x, B, _, hc, h => by
    cases h
    simpa using hc
  | w :: l, c, i, x, B, hB, hc, h => by
    simp only [walkP] at h
    cases e : metP r c w with
    | none => rw [e] at h; cases h
    | some y =>
      rw [e] at h
      have h1 := metP_cr (R := r.R) hr hc hB e
      have h2 := walkP_cr hr l y (i + 1) x (B + 2) (by omega) h1 h
      refine ⟨h2.1, fun z hz => ?_⟩
      have := h2.2 z hz
      simp only [List.length_cons]
      omega
theorem walkP_le {r : Rl} : ∀ (l : List Int) (c : List Int) (i p : Nat), walkP r c i l = .inr p → p < i + l.length
  | [], c, i, p, h => by cases h
  | w :: l, c, i, p, h => by
    simp only [walkP] at h
    cases e : metP r c w with
    | none => rw [e] at h; cases h; simp
    | some y =>
      rw [e] at h
      have := walkP_le l y (i + 1) p h
      simp only [List.length_cons]
      omega
theorem walkD_dat {r : Rl} {mx ss : Nat} (hr : r.Ok mx ss) (hx : mx ≤ 40) {c l : List Int} {B : Int} (hB : 0 ≤ B) (hB2 : B ≤ 100000000) (hc : Cr r.R B c) (hl : l.length ≤ 1000) : Dat 110 30000 2 (walkD (walkP r c 0 l)) := by
  cases e : walkP r c 0 l with
  | inl x =>
    have := walkP_cr hr l c 0 x B hB hc e
    have h2 := hr.r2
    exact (this.dat (by omega) (by omega)).mono (by decide) (by decide)
  | inr p =>
    have := walkP_le l c 0 p e
    refine (Dat.tup (.cons (Dat.str (b := 110)) (.one ((Dat.int (b := 110) (i := (p : Int)) ?_).mono (Nat.le_refl _) (Nat.le_refl _))))).mono (by decide) (by decide)
    have h3 : (p : Int).natAbs < 2 ^ 20 := by omega
    exact Nat.lt_of_lt_of_le h3 (by decide)
/-! ### two crowds -/
def bothP (R : Nat) (c o : List Int) : List Int := (List.range R).map fun i => gI c i + gI o i
theorem bothP_length {R : Nat} {c o : List Int} : (bothP R c o).length = R := by unfold bothP; rw [List.length_map, List.length_range]
theorem gI_both {R : Nat} {c o : List Int} {j : Nat} (h : j < R) : gI (bothP R c o) j = gI c j + gI o j := by
  have h2 : j < (bothP R c o).length := by rw [bothP_length]; exact h
  have := gI_eq h2
  unfold bothP at this
  rw [List.getElem?_map, List.getElem?_range h] at this
  exact (Option.some.inj this).symm
theorem ext_gI {a b : List Int} (h : a.length = b.length) (e : ∀ j, j < a.length → gI a j = gI b j) : a = b := by
  apply List.ext_getElem? 
  intro j
  by_cases hj : j < a.length
  · rw [gI_eq hj, gI_eq (by omega), e j hj]
  · rw [List.getElem?_eq_none (by omega), List.getElem?_eq_none (by omega)]
theorem bothP_cr {R : Nat} {c o : List Int} {B C : Int} (hc : Cr R B c) (ho : Cr R C o) (hB : 0 ≤ B) (hC : 0 ≤ C) : Cr R (B + C) (bothP R c o) := by
  refine ⟨bothP_length, fun x hx => ?_⟩
  unfold bothP at hx
  obtain ⟨i, hi, rfl⟩ := List.mem_map.mp hx
  have := hc.at (j := i); have := ho.at (j := i); have := hc.le hB (j := i); have := ho.le hC (j := i)
  omega
theorem metP_both {r : Rl} {mx ss : Nat} (hr : r.Ok mx ss) {c o x : List Int} {v B C : Int} (hc : Cr r.R B c) (ho : Cr r.R C o) (h : metP r c v = some x) : metP r (bothP r.R c o) v = some (bothP r.R x o) := by
  unfold metP at h ⊢
  split at h
  · rename_i h0
    rw [if_pos h0]
    split at h
    · rename_i m em
      split at h
      · rename_i hy
        cases h
        have hm := hr.mt m (List.mem_of_getElem? em)
        have hy2 : mayP (bothP r.R c o) m = true := by
          unfold mayP at hy ⊢
          have oa := ho.at (j := m.a)
          have ob := ho.at (j := m.b)
          rw [gI_both hm.a, gI_both hm.b]
          split at hy
          · rename_i e
            rw [if_pos e]
            have := of_decide_eq_true hy
            exact decide_eq_true (by omega)
          · rename_i e
            rw [if_neg e]
            rw [Bool.and_eq_true] at hy ⊢
            have h1 := of_decide_eq_true hy.1
            have h2 := of_decide_eq_true hy.2
            exact ⟨decide_eq_true (by omega), decide_eq_true (by omega)⟩
        simp only [hy2, if_true]
        congr 1
        have m1 : m.Ok (bothP r.R c o).length := by rw [bothP_length]; exact hm
        have m2 : m.Ok c.length := by rw [hc.1]; exact hm
        refine ext_gI (by rw [behindP_length, bothP_length, bothP_length]) fun j hj => ?_
        rw [behindP_length, bothP_length] at hj
        rw [gI_behind m1, gI_both hj, gI_both hj, gI_behind m2]
        omega
      · cases h
    · cases h
  · cases h
theorem walkP_both {r : Rl} {mx ss : Nat} (hr : r.Ok mx ss) {o : List Int} {C : Int} (ho : Cr r.R C o) : ∀ (l : List Int) (c : List Int) (i : Nat) (x : List Int) (B : Int), 0 ≤ B → Cr r.R B c → walkP r c i l = .inl x → walkP r (bothP r.R c o) i l = .inl (bothP r.R x o)
  | [], c, i, x, B, _, _, h => by cases h; rfl
  | w :: l, c, i, x, B, hB, hc, h => by
    simp only [walkP] at h ⊢
    cases e : metP r c w with
    | none => rw [e] at h; cases h
    | some y =>
      rw [e] at h
      rw [metP_both hr hc ho e]
      exact walkP_both hr ho l y (i + 1) x (B + 2) (by omega) (metP_cr (R := r.R) hr hc hB e) h
/-! ### what is said -/
def wordsP (r : Rl) (c : List Int) : List Bool := ((List.range r.R).filter fun i => decide (gI c i > 0)).map fun i => r.Y.getD i false
def saidP (W : List Bool) : String := if W.all id = true then "yes" else if W.any id = true then "both" else "no"
theorem cInT_bools (bs : List Bool) : cIn (.bool true) (.list (bs.map PyData.bool)) = some (bs.any id) := by
  have h1 : PyData.canLayAll0 (bs.map PyData.bool) = true := by
    induction bs with
    | nil => rfl
    | cons x r ih => simp only [List.map_cons, PyData.canLayAll0, PyData.canLay0, ih, Bool.and_self]
  have h2 : PyData.depthAll (bs.map PyData.bool) ≤ 1 := by
    induction bs with
    | nil => simp [PyData.depthAll]
    | cons x r ih =>
      have := ih (by simpa [PyData.canLayAll0, PyData.canLay0] using h1)
      simp only [List.map_cons, PyData.depthAll, PyData.depth]; omega
  have h3 : PyData.depth (.list (bs.map PyData.bool)) ≤ 64 := by simp only [PyData.depth]; omega
  have h4 : SeqAt.shaped (.list (bs.map PyData.bool)) = true := by simp only [SeqAt.shaped, PyData.canLay0, h1, h3, decide_true, Bool.and_self]
  have h5 : ∀ bs : List Bool, ((bs.map PyData.bool).any fun z => PyData.eqv z (.bool true)) = bs.any id := by
    intro bs
    induction bs with
    | nil => rfl
    | cons x r ih =>
      simp only [List.map_cons, List.any_cons, ih]
      cases x <;> simp [PyData.eqv]
  unfold cIn
  simp only [shaped_bool, h4, Bool.and_self, if_true, h5]
end L3
set_option Elab.async false
set_option linter.all false
set_option maxRecDepth 100000
set_option maxHeartbeats 4000000
set_option autoImplicit false
/-! L3Z: dict(pairs), the keys tuples of ints and texts; d.get(k, x). -/
namespace L3
open PySem PySem.Spec L2
/-! ### the dict of a list of pairs -/
theorem KT.putAll {H : Hp} : ∀ {l : List (List Key × V)} {ps : List (List Key × Addr × Value)} {kvs : List (List Key × V)} {xs : List (List Key × Addr × Value)}, KT H kvs xs → KT H l ps → KT H (l.foldl (fun a p => putK a p.1 p.2) kvs) (storedAllH xs ps)
  | [], _, kvs, xs, r, .nil => r
  | _ :: _, _, kvs, xs, r, .cons (b := q) ⟨e1, e2, e3⟩ t => by
    have r1 := L2.KT.put r q.1 (b := q.2.1) (by rw [← e1]; exact e2) e3
    rw [← e1] at r1
    have := KT.putAll r1 t
    rw [e1] at this
    rw [List.foldl_cons, e1]
    exact this
theorem putAll_length : ∀ (l kvs : List (List Key × V)), (l.foldl (fun a p => putK a p.1 p.2) kvs).length ≤ kvs.length + l.length
  | [], kvs => Nat.le_refl _
  | p :: l, kvs => by
    have h1 := length_putK kvs p.1 p.2
    have h2 := putAll_length l (putK kvs p.1 p.2)
    rw [List.foldl_cons, List.length_cons]
    omega
/-- pairs: the pair's address, the key, the key's address, the value -/
abbrev Pr := Addr × List Key × Addr × V
def PrOk (H : Hp) (p : Pr) : Prop := H p.1 = some (.tup [.ref p.2.2.1, p.2.2.2]) ∧ H p.2.2.1 = some (.tup (p.2.1.map kV))
def rDictP : List V → Hp → VK → Prop := fun vs H Q => ∃ (a : Addr) (ks : List Pr), vs = [V.ref a] ∧ H a = some (.lst (ks.map fun p => V.ref p.1)) ∧ (∀ p ∈ ks, PrOk H p) ∧
  ∀ b, H b = none → Q (.ref b) (upd H b (.dT ((ks.map fun p => (p.2.1, p.2.2.2)).foldl (fun a p => putK a p.1 p.2) [])))
theorem refs_vals {α : Type} {f : α → Addr} : ∀ {l : List α} {us : List Value}, Vals (l.map fun p => V.ref (f p)) us → us = l.map fun p => Value.ref (f p)
  | [], _, .nil => rfl
  | p :: l, _, .cons h r => by
    rw [refs_vals r]
    cases h
    rfl
section
variable {X : Cx}
theorem cr_dictP (hc : X.calm = true) (hu : X.A.units + 3 < cLine) : CallR X (.type "dict") rDictP := by
  intro pins s σ H vs us Q I r h
  obtain ⟨a, ks, rfl, ha, hp, q⟩ := h
  obtain ⟨u, rfl, rx⟩ := r.one
  cases rx
  obtain ⟨z, its, n, rv, ea⟩ := (show ObjOk X.prog X.w H s.heap a (.lst (ks.map fun p => V.ref p.1)) from I.hok a _ ha)
  have eits := refs_vals rv
  subst eits
  rw [List.length_map] at z
  have hqs : ∀ l : List Pr, (∀ p ∈ l, PrOk H p) → ∃ qs : List (List Key × Addr × Value), KT H (l.map fun p => (p.2.1, p.2.2.2)) qs ∧ Paired (fun (p : Pr) (q : List Key × Addr × Value) => s.heap.IsTuple p.1 #[.ref q.2.1, q.2.2]) l qs := by
    intro l
    induction l with
    | nil => exact fun _ => ⟨[], .nil, .nil⟩
    | cons p l ih =>
      intro hl
      obtain ⟨qs, h1, h2⟩ := ih fun x hx => hl x (List.mem_cons_of_mem _ hx)
      obtain ⟨p1, p2⟩ := hl p (List.mem_cons_self ..)
      obtain ⟨_, its, rv, ob, e, c⟩ := (show ObjOk X.prog X.w H s.heap p.1 (.tup [.ref p.2.2.1, p.2.2.2]) from I.hok _ _ p1)
      cases rv with
      | cons r1 rv =>
        cases rv with
        | @cons _ w _ _ r2 rv =>
          cases rv
          cases r1
          exact ⟨(p.2.1, p.2.2.1, w) :: qs, .cons ⟨rfl, p2, r2⟩ h1, .cons ⟨ob, e, c⟩ h2⟩
  obtain ⟨qs, kt, pr⟩ := hqs ks hp
  have len : ks.length = qs.length := Paired.length pr
  have gat : ∀ {l : List Pr} {m : List (List Key × Addr × Value)}, Paired (fun (p : Pr) (q : List Key × Addr × Value) => s.heap.IsTuple p.1 #[.ref q.2.1, q.2.2]) l m → ∀ {j : Nat} {q : List Key × Addr × Value}, m[j]? = some q → ∃ p, l[j]? = some p ∧ s.heap.IsTuple p.1 #[.ref q.2.1, q.2.2] := by
    intro l m h
    induction h with
    | nil => intro j q e; simp at e
    | @cons p0 q0 l m hh t ih =>
      intro j q e
      cases j with
      | zero => simp at e; subst e; exact ⟨p0, rfl, hh⟩
      | succ j => simpa using ih (j := j) (q := q) (by simpa using e)
  let Ts : Nat → Addr := fun j => match ks[j]? with | some p => p.1 | none => 0
  let ps : List (Value × Value) := qs.map fun q => (.ref q.2.1, q.2.2)
  have pl : ps.length = qs.length := List.length_map ..
  have hkey : ∀ x ∈ qs, (tupleKind (mixKind X.prog X.w)).is s.heap x.1 x.2.1 := by
    have all : ∀ {l : List (List Key × V)} {m : List (List Key × Addr × Value)}, KT H l m → ∀ x ∈ m, (tupleKind (mixKind X.prog X.w)).is s.heap x.1 x.2.1 := by
      intro l m q
      induction q with
      | nil => intro x hx; exact nomatch hx
      | @cons p q ps qs hq t ih =>
        intro x hx
        rcases List.mem_cons.mp hx with e | hx
        · subst e
          exact key_of I.hok (by rw [← hq.1]; exact hq.2.1)
        · exact ih x hx
    exact all kt
  refine call_dict_pairsH (knd := tupleKind (mixKind X.prog X.w)) (ps := qs) (PairArg.list a (ks.map fun p => Value.ref p.1).toArray Ts ps) (I.ok.hd hc) (tupleKind_room_in1 (by show X.A.units + 1 + 1 < cLine; omega)) ⟨⟨_, n, ea, rfl, rfl, rfl⟩, ⟨?_, ?_⟩⟩ ⟨pl.symm, ?_⟩ ?_ ?_ ?_
  · rw [pl, ← len]; simp
  · intro j k v hj
    have hj : (qs.map fun q => (Value.ref q.2.1, q.2.2))[j]? = some (k, v) := hj
    rw [List.getElem?_map] at hj
    cases e : qs[j]? with
    | none => rw [e] at hj; cases hj
    | some x =>
      rw [e] at hj
      cases hj
      obtain ⟨p, e1, e2⟩ := gat pr e
      refine ⟨?_, .inl ?_⟩
      · show (ks.map fun p => Value.ref p.1).toArray[j]? = some (.ref (match ks[j]? with | some p => p.1 | none => 0))
        rw [e1, List.getElem?_toArray, List.getElem?_map, e1]; rfl
      · show s.heap.IsTuple (match ks[j]? with | some p => p.1 | none => 0) _
        rw [e1]; exact e2
  · intro i key v hi
    have hi : (qs.map fun q => (Value.ref q.2.1, q.2.2))[i]? = some (key, v) := hi
    rw [List.getElem?_map] at hi
    cases e : qs[i]? with
    | none => rw [e] at hi; cases hi
    | some x => rw [e] at hi; cases hi; exact ⟨x.1, x.2.1, rfl, rfl⟩
  · intro h' hk x hx
    obtain ⟨o, items, m, e, c⟩ := hkey x hx
    exact ⟨o, items, m, hk _ _ (Nat.ne_of_lt (Heap.lt_size e)) (by simp) e, c⟩
  · rw [pl, ← len]; exact z
  · intro h' tk dd hk
    have hn := I.hok.fresh (Nat.le_refl s.heap.objs.size)
    obtain ⟨o, es, ep, h1, h2, h3, h4, _, h5⟩ := dd
    refine ⟨.ref s.heap.objs.size, _, I.laid (a := s.heap.objs.size) (o := .dT ((ks.map fun p => (p.2.1, p.2.2.2)).foldl (fun a p => putK a p.1 p.2) [])) (h' := h') (t' := tk) (fun b o e => hk b o (by simp) e) (Nat.le_refl _) ⟨?_, ?_, storedAllH [] qs, ?_, o, es, ep, h1, h2, h3, h4, h5⟩, rfl, q _ hn⟩
    · have := putAll_length (ks.map fun p => (p.2.1, p.2.2.2)) []
      rw [List.length_map, List.length_nil] at this
      omega
    · exact beq_eq_false_iff_ne.mpr (Ne.symm (Nat.ne_of_lt I.big))
    · have k1 : KT H ((ks.map fun p => (p.2.1, p.2.2.2)).foldl (fun a p => putK a p.1 p.2) []) (storedAllH [] qs) := KT.putAll .nil kt
      exact k1.keeps fun b ys e => by rw [upd_ne (ne_of_none e hn)]; exact e
end

/-! ### as trees -/
abbrev DL := List (List Key × D)
def keyOf : D → Option Key
  | .int i => some (.inl i)
  | .str x => some (.inr x)
  | _ => none
def keysOf : List D → Option (List Key)
  | [] => some []
  | d :: r => match keyOf d, keysOf r with
    | some k, some l => some (k :: l)
    | _, _ => none
def keyT : D → Option (List Key)
  | .tuple ks => keysOf ks
  | _ => none
def pairOf : D → Option (List Key × D)
  | .tuple [k, d] => (keyT k).map fun l => (l, d)
  | _ => none
def pairsOf : List D → Option DL
  | [] => some []
  | d :: r => match pairOf d, pairsOf r with
    | some k, some l => some (k :: l)
    | _, _ => none
def putD (l : DL) (k : List Key) (d : D) : DL := if (l.any fun p => decide (p.1 = k)) then l.map fun p => if p.1 = k then (p.1, d) else p else l ++ [(k, d)]
def valD (l : DL) (k : List Key) : Option D := (l.find? fun p => decide (p.1 = k)).map (·.2)
def mergeD (l : DL) : DL := l.foldl (fun a p => putD a p.1 p.2) []
def dictD (l : DL) : D := .dict (l.map fun p => (.tuple (p.1.map kD), p.2))
def unDs : List (D × D) → Option DL
  | [] => some []
  | p :: r => match keyT p.1, unDs r with
    | some k, some l => some ((k, p.2) :: l)
    | _, _ => none
def unD : D → Option DL
  | .dict kvs => unDs kvs
  | _ => none
theorem keyOf_kD : ∀ k : Key, keyOf (kD k) = some k
  | .inl _ => rfl
  | .inr _ => rfl
theorem keysOf_kD : ∀ ks : List Key, keysOf (ks.map kD) = some ks
  | [] => rfl
  | k :: r => by simp only [List.map_cons, keysOf, keyOf_kD, keysOf_kD r]
theorem unDs_dict : ∀ l : DL, unDs (l.map fun p => (.tuple (p.1.map kD), p.2)) = some l
  | [] => rfl
  | p :: r => by simp only [List.map_cons, unDs, keyT, keysOf_kD, unDs_dict r]
theorem unD_dict (l : DL) : unD (dictD l) = some l := unDs_dict l
theorem keyOf_eq {d : D} {k : Key} (h : keyOf d = some k) : d = kD k := by
  cases d <;> simp only [keyOf] at h <;> cases h <;> rfl
theorem keysOf_eq : ∀ {l : List D} {ks : List Key}, keysOf l = some ks → l = ks.map kD
  | [], _, h => by cases h; rfl
  | d :: r, ks, h => by
    simp only [keysOf] at h
    cases e1 : keyOf d with
    | none => rw [e1] at h; cases h
    | some k =>
      cases e2 : keysOf r with
      | none => rw [e1, e2] at h; cases h
      | some l =>
        rw [e1, e2] at h
        cases h
        rw [keyOf_eq e1, keysOf_eq e2, List.map_cons]
section
variable {K : Fg} {H : Hp} {O : Ow}
theorem Rp.key {v : V} : ∀ {k : Key}, Rp K H O v (kD k) → v = kV k
  | .inl i, h => by cases h; rfl
  | .inr x, h => by cases h; rfl
theorem RpAll.keys : ∀ {ks : List Key} {vs : List V}, RpAll K H O vs (ks.map kD) → vs = ks.map kV
  | [], _, .nil => rfl
  | k :: ks, _, .cons h r => by rw [Rp.key h, RpAll.keys r]; rfl
theorem Rp.keyT {v : V} {d : D} {k : List Key} (h : Rp K H O v d) (e : keyT d = some k) : ∃ b, v = .ref b ∧ H b = some (.tup (k.map kV)) := by
  cases h with
  | tup h r =>
    have e := keysOf_eq e
    subst e
    rw [RpAll.keys r] at h
    exact ⟨_, rfl, h⟩
  | _ => cases e
abbrev RpM (K : Fg) (H : Hp) (O : Ow) : List (List Key × V) → DL → Prop := Paired fun p q => p.1 = q.1 ∧ Rp K H O p.2 q.2
theorem RpM.keep {H' : Hp} {O' : Ow} (k : Kp H O H' O') {l : List (List Key × V)} {m : DL} (r : RpM K H O l m) : RpM K H' O' l m := Paired.mapP r fun _ _ z => ⟨z.1, z.2.keep k⟩
theorem RpT.m : ∀ {l : List (List Key × V)} {kvs : List (D × D)} {m : DL}, RpT K H O l kvs → unDs kvs = some m → RpM K H O l m
  | _, _, _, .nil, e => by cases e; exact .nil
  | _, _, _, .cons (k := k) (kvs := kvs) h r, e => by
    simp only [unDs, L3.keyT, keysOf_kD] at e
    cases e2 : unDs kvs with
    | none => rw [e2] at e; cases e
    | some m => rw [e2] at e; cases e; exact .cons ⟨rfl, h⟩ (RpT.m r e2)
theorem RpM.t : ∀ {l : List (List Key × V)} {m : DL}, RpM K H O l m → RpT K H O l (m.map fun p => (.tuple (p.1.map kD), p.2))
  | _, _, .nil => .nil
  | (k, v) :: _, (k2, d) :: _, .cons ⟨h1, h2⟩ r => by
    cases h1
    exact .cons h2 (RpM.t r)
theorem RpM.any {l : List (List Key × V)} {m : DL} (r : RpM K H O l m) (k : List Key) : (l.any fun p => decide (p.1 = k)) = m.any fun p => decide (p.1 = k) := by
  induction r with
  | nil => rfl
  | cons h t ih => rw [List.any_cons, List.any_cons, ih, h.1]
theorem RpM.snoc {l : List (List Key × V)} {m : DL} (r : RpM K H O l m) {k : List Key} {v : V} {d : D} (h : Rp K H O v d) : RpM K H O (l ++ [(k, v)]) (m ++ [(k, d)]) := Paired.snoc r ⟨rfl, h⟩
theorem RpM.repl {l : List (List Key × V)} {m : DL} (r : RpM K H O l m) (k : List Key) {v : V} {d : D} (h : Rp K H O v d) : RpM K H O (l.map fun p => if p.1 = k then (p.1, v) else p) (m.map fun p => if p.1 = k then (p.1, d) else p) := by
  induction r with
  | nil => exact .nil
  | @cons p q ps qs hh t ih =>
    rw [List.map_cons, List.map_cons]
    refine .cons ?_ ih
    by_cases e : p.1 = k
    · rw [if_pos e, if_pos (hh.1.symm.trans e)]; exact ⟨hh.1, h⟩
    · rw [if_neg e, if_neg fun z => e (hh.1.trans z)]; exact hh
theorem RpM.put {l : List (List Key × V)} {m : DL} (r : RpM K H O l m) (k : List Key) {v : V} {d : D} (h : Rp K H O v d) : RpM K H O (putK l k v) (putD m k d) := by
  unfold putK putD
  rw [r.any k]
  split
  · exact r.repl k h
  · exact r.snoc h
theorem RpM.putAll : ∀ {l : List (List Key × V)} {m : DL} {l0 : List (List Key × V)} {m0 : DL}, RpM K H O l0 m0 → RpM K H O l m → RpM K H O (l.foldl (fun a p => putK a p.1 p.2) l0) (m.foldl (fun a p => putD a p.1 p.2) m0)
  | _, _, _, _, r0, .nil => r0
  | _, _, _, _, r0, .cons (a := p) (b := q) h t => by
    rw [List.foldl_cons, List.foldl_cons, h.1]
    exact RpM.putAll (r0.put q.1 h.2) t
theorem RpM.val {l : List (List Key × V)} {m : DL} (r : RpM K H O l m) (k : List Key) {v : V} {d : D} (h : Rp K H O v d) : Rp K H O ((valV l k).getD v) ((valD m k).getD d) := by
  induction r with
  | nil => exact h
  | @cons p q ps qs hh t ih =>
    by_cases e : p.1 = k
    · have e' : q.1 = k := hh.1.symm.trans e
      have : valD (q :: qs) k = some q.2 := by simp [valD, List.find?_cons, e']
      rw [valV_pos e, this]; exact hh.2
    · have e' : ¬ q.1 = k := fun z => e (hh.1.trans z)
      have : valD (q :: qs) k = valD qs k := by simp [valD, List.find?_cons, e']
      rw [valV_neg e, this]; exact ih
theorem pairs_of : ∀ {xs : List V} {ds : List D} {m : DL}, RpAll K H O xs ds → pairsOf ds = some m → ∃ ks : List Pr, xs = ks.map (fun p => V.ref p.1) ∧ (∀ p ∈ ks, PrOk H p) ∧ RpM K H O (ks.map fun p => (p.2.1, p.2.2.2)) m
  | _, _, _, .nil, e => by cases e; exact ⟨[], rfl, by simp, .nil⟩
  | _, d :: ds, m, .cons h r, e => by
    simp only [pairsOf] at e
    cases e1 : pairOf d with
    | none => rw [e1] at e; cases e
    | some p =>
      cases e2 : pairsOf ds with
      | none => rw [e1, e2] at e; cases e
      | some m2 =>
        rw [e1, e2] at e
        cases e
        obtain ⟨ks, rfl, h1, h2⟩ := pairs_of r e2
        unfold pairOf at e1
        split at e1
        · rename_i k dd
          cases e3 : keyT k with
          | none => rw [e3] at e1; cases e1
          | some kk =>
            rw [e3] at e1
            cases e1
            cases h with
            | @tup a xs _ ha ra =>
              cases ra with
              | cons ra1 ra =>
                cases ra with
                | cons ra2 ra =>
                  cases ra
                  obtain ⟨b, rfl, hb⟩ := ra1.keyT e3
                  refine ⟨(a, kk, b, _) :: ks, rfl, fun p hp => ?_, .cons ⟨rfl, ra2⟩ h2⟩
                  rcases List.mem_cons.mp hp with rfl | hp
                  · exact ⟨ha, hb⟩
                  · exact h1 p hp
        · cases e1
end
def bDict : List D → Option (Kd × D)
  | [.list ds] => (pairsOf ds).map fun m => (.f, dictD (mergeD m))
  | _ => none
theorem Cf.dT {K : Fg} {H : Hp} {O : Ow} {Q : VK} {l : List (List Key × V)} {m : DL} (c : Cf K H O (dictD m) Q) (r : RpM K H O l m) (p : Addr) (hp : H p = none) : Q (.ref p) (upd H p (.dT l)) :=
  c _ _ (Own1 O p) (.newOwn hp) ⟨p, rfl, hp, .inr rfl, .inr (.inl ⟨l, upd_same, (r.keep (Gr.newOwn hp).kp).t⟩)⟩
theorem g_dict {K : Fg} : CallOk K rDictP bDict := by
  intro H O vs ds k z Q s h c
  unfold bDict at h
  split at h
  · rename_i l
    cases q : pairsOf l with
    | none => rw [q] at h; cases h
    | some m =>
      rw [q] at h
      cases h
      obtain ⟨v, rfl, s1⟩ := s.one
      obtain ⟨a, xs, rfl, h1, r1⟩ := s1.lst
      obtain ⟨ks, rfl, hk, hm⟩ := pairs_of r1 q
      exact ⟨a, ks, rfl, h1, hk, fun b hb => Cf.dT c (RpM.putAll .nil hm) b hb⟩
  · cases h
theorem hu3 {k : Nat} {A : Around} (hr : Room k A) : A.units + 3 < cLine := by have := hr.un; omega
theorem hu1 {k : Nat} {A : Around} (hr : Room k A) : A.units + 1 < cLine := by have := hr.un; omega
theorem bb_dict : bootBuiltins "dict" = some (.type "dict") := rfl

/-! ### d.get(k, x) -/
def valO : Opd → Option D
  | .val d => some d
  | _ => none
def mGet (fo fk fd : ME) : ME := fun ρ => (fo ρ).bind fun ro ρ1 => RE.opt (valO ro) fun dd => RE.opt (unD dd) fun l => (fk ρ1).bind fun rk ρ2 => RE.opt (look rk ρ2) fun dk => RE.opt (keyT dk) fun k => (fd ρ2).bind fun rd ρ3 => RE.opt (valO rd) fun d => .ok (.val ((valD l k).getD d)) ρ3
theorem valO_eq {r : Opd} {d : D} (h : valO r = some d) : r = .val d := by
  cases r <;> cases h; rfl
section
variable {X : Cx} {W : WX} {o e f : Expr} {apos cpos : Pos} {td ty tx : TE} {fo fk fd : ME}
theorem se_get (K : Fg) (hK : X.K = K) (hu : X.A.units + 1 < cLine) (ho : SE X W o td fo) (he : SE X W e ty fk) (hf : SE X W f tx fd) (m : M2 X o "get" apos e f cpos) : SE X W (.Call (.Attribute o "get" apos) [e, f] [] cpos) (tDGet2 td ty tx) (mGet fo fk fd) := by
  subst hK
  refine ⟨pe_dget2 hu ho.p he.p hf.p m, fun ρ σ H O Q R h => ho.s ρ σ H O _ R (Want.bind h fun r ρ1 v H1 O1 e1 R1 F1 o1 h1 => ?_)⟩
  obtain ⟨dd, er, hb1⟩ := h1.opt
  obtain ⟨l, el, hb2⟩ := hb1.opt
  cases valO_eq er
  have o1 : Rp X.K H1 O1 v dd := o1
  cases o1 with
  | @dT a lv kvs ha na rt =>
    have rm := RpT.m rt el
    refine ⟨a, rfl, .inr ⟨lv, .of ha⟩, he.s ρ1 σ H1 O1 _ R1 (Want.bind hb2 fun rk ρ2 y H2 O2 e2 R2 F2 o2 h2 => ?_)⟩
    obtain ⟨dk, edk, h2⟩ := h2.opt
    obtain ⟨k, ek, h2⟩ := h2.opt
    have s2 := ORel.see1 o2 R1 F2 R2 edk
    obtain ⟨b, rfl, hb⟩ : ∃ b, y = .ref b ∧ H2 b = some (.tup (k.map kV)) := by
      rcases s2 with s2 | ⟨c, _, _, s2⟩
      · exact s2.keyT ek
      · cases dk <;> first | cases ek | exact s2.elim
    refine hf.s ρ2 σ H2 O2 _ R2 (Want.bind h2 fun rd ρ3 z H3 O3 e3 R3 F3 o3 h3 => ?_)
    obtain ⟨d, ed, h3⟩ := h3.opt
    cases valO_eq ed
    have o3 : Rp X.K H3 O3 z d := o3
    obtain ⟨ha2, na2⟩ := (F2.kp R1).keep _ _ ha na
    obtain ⟨ha3, na3⟩ := (F3.kp R2).keep _ _ ha2 na2
    have rm3 := (rm.keep (F2.kp R1)).keep (F3.kp R2)
    exact ⟨valV lv k, .t ha3 ((F3.kp R2).tups _ _ hb), h3.ck .v R3 _ _ _ .refl (rm3.val k o3)⟩
  | _ => first | (cases el) | (simp [unD, unDs, L3.keyT] at el)
end
section
variable {K : Co Opd} {u : Tag K} {ρ : Fr} {fo fk fd : ME}
theorem ev_get : Ev (mGet fo fk fd ρ) K u = Ev (fo ρ) ⟨fun ro ρ1 => EvP (valO ro) fun dd => EvP (unD dd) fun l => Ev (fk ρ1) ⟨fun rk ρ2 => EvP (look rk ρ2) fun dk => EvP (keyT dk) fun k => Ev (fd ρ2) ⟨fun rd ρ3 => EvP (valO rd) fun d => K.ok (.val ((valD l k).getD d)) ρ3, K.ex⟩ .mk, K.ex⟩ .mk, K.ex⟩ .mk := by
  unfold mGet; simp only [ev_un, evP_un, eu_bind, eu_opt, eu_ok, eu_ite]
end
/-- a statement that is never reached -/
def mUnr : MS := fun _ => .bad
theorem ss_unr {X : Cx} {W : WX} {P : List Nat} {st : Stmt} : SS X W P st (fun _ _ _ => False) mUnr := ⟨⟨fun pins s σ H D I h => h.elim⟩, fun n hn ρ σ H O D R B w => w.elim⟩
end L3
set_option Elab.async false
set_option linter.all false
set_option maxRecDepth 1000000
set_option maxHeartbeats 40000000
set_option autoImplicit false
/-! L3ZA: to what two hands turn, by a rule's meetings; quotients. -/
namespace L3
open PySem PySem.Spec L2
theorem fdivN {p m : Nat} (h : 0 < m) : Int.fdiv (p : Int) (m : Int) = ((p / m : Nat) : Int) := by
  rw [Int.fdiv_eq_ediv_of_nonneg _ (by omega)]; rfl
theorem fmodN {p m : Nat} (h : 0 < m) : Int.fmod (p : Int) (m : Int) = ((p % m : Nat) : Int) := by
  rw [Int.fmod_eq_emod_of_nonneg _ (by omega)]; rfl
def findM (M : List Me) (x y : Nat) : Option Me := M.find? fun m => decide (m.a = x) && decide (m.b = y)
theorem findM_some {M : List Me} {x y : Nat} {m : Me} (h : findM M x y = some m) : m ∈ M ∧ m.a = x ∧ m.b = y := by
  unfold findM at h
  have h1 := List.mem_of_find?_eq_some h
  have h2 := List.find?_some h
  simp only [Bool.and_eq_true, decide_eq_true_eq] at h2
  exact ⟨h1, h2.1, h2.2⟩
theorem findM_none {M : List Me} {x y : Nat} (h : ∀ m ∈ M, ¬ (m.a = x ∧ m.b = y)) : findM M x y = none := by
  unfold findM
  rw [List.find?_eq_none]
  intro m hm
  simp only [Bool.and_eq_true, decide_eq_true_eq]
  exact h m hm
theorem key_inj {R : Nat} {m n : Me} (hm : m.Ok R) (hn : n.Ok R) (hR : R ≤ 64) (e : m.key = n.key) : m.a = n.a ∧ m.b = n.b := by
  have h1 := hm.b; have h2 := hn.b
  unfold Me.key at e
  omega
theorem asc_inj : ∀ {M : List Me}, (M.map Me.key).Pairwise (· < ·) → ∀ {m n : Me}, m ∈ M → n ∈ M → m.key = n.key → m = n
  | [], _, m, n, hm, _, _ => by cases hm
  | p :: M, h, m, n, hm, hn, e => by
    rw [List.map_cons, List.pairwise_cons] at h
    obtain ⟨h1, h2⟩ := h
    rcases List.mem_cons.mp hm with em | hm2
    · rcases List.mem_cons.mp hn with en | hn2
      · rw [em, en]
      · have := h1 _ (List.mem_map.mpr ⟨n, hn2, rfl⟩); rw [em] at e; omega
    · rcases List.mem_cons.mp hn with en | hn2
      · have := h1 _ (List.mem_map.mpr ⟨m, hm2, rfl⟩); rw [en] at e; omega
      · exact asc_inj h2 hm2 hn2 e
theorem findM_mem {M : List Me} (h : (M.map Me.key).Pairwise (· < ·)) {m : Me} (hm : m ∈ M) : findM M m.a m.b = some m := by
  cases e : findM M m.a m.b with
  | none =>
    unfold findM at e
    rw [List.find?_eq_none] at e
    have := e m hm
    simp at this
  | some n =>
    obtain ⟨h1, h2, h3⟩ := findM_some e
    have : n = m := asc_inj h h1 hm (by unfold Me.key; rw [h2, h3])
    rw [this]
/-- to what a hand in x, told first, and another one in y turn -/
def turnP (r : Rl) (x y : Nat) : Nat × Nat := if x ≤ y then (match findM r.M x y with | some m => (m.c, m.d) | none => (x, y)) else (match findM r.M y x with | some m => (m.d, m.c) | none => (x, y))
section
variable {r : Rl} {mx ss : Nat} {x y : Nat}
theorem turnP_lt (h : r.Ok mx ss) (hx : x < r.R) (hy : y < r.R) : (turnP r x y).1 < r.R ∧ (turnP r x y).2 < r.R := by
  unfold turnP
  split
  · cases e : findM r.M x y with
    | none => exact ⟨hx, hy⟩
    | some m => have := h.mt m (findM_some e).1; exact ⟨this.c, this.d⟩
  · cases e : findM r.M y x with
    | none => exact ⟨hx, hy⟩
    | some m => have := h.mt m (findM_some e).1; exact ⟨this.d, this.c⟩
theorem turnP_swap (h : r.Ok mx ss) (e : turnP r x y = (y, x)) : x = y := by
  unfold turnP at e
  split at e
  · cases f : findM r.M x y with
    | none => rw [f] at e; cases e; rfl
    | some m =>
      rw [f] at e
      obtain ⟨h1, h2, h3⟩ := findM_some f
      have := (h.mt m h1).nt
      obtain ⟨e1, e2⟩ := Prod.mk.inj e
      exact absurd ⟨e1.trans h3.symm, e2.trans h2.symm⟩ this
  · cases f : findM r.M y x with
    | none => rw [f] at e; cases e; rfl
    | some m =>
      rw [f] at e
      obtain ⟨h1, h2, h3⟩ := findM_some f
      have := (h.mt m h1).nt
      obtain ⟨e1, e2⟩ := Prod.mk.inj e
      exact absurd ⟨e2.trans h3.symm, e1.trans h2.symm⟩ this
/-- the walk through the meetings: here -/
theorem turnP_here (h : r.Ok mx ss) {m : Me} (hm : m ∈ r.M) : turnP r m.a m.b = (m.c, m.d) := by
  unfold turnP
  rw [if_pos (h.mt m hm).ab, findM_mem h.asc hm]
theorem turnP_turned (h : r.Ok mx ss) {m : Me} (hm : m ∈ r.M) (n : m.a ≠ m.b) : turnP r m.b m.a = (m.d, m.c) := by
  have := (h.mt m hm).ab
  unfold turnP
  rw [if_neg (by omega), findM_mem h.asc hm]
theorem turnP_none (h : ∀ m ∈ r.M, ¬ (m.a = x ∧ m.b = y) ∧ ¬ (m.b = x ∧ m.a = y)) : turnP r x y = (x, y) := by
  unfold turnP
  split
  · rw [findM_none fun m hm => (h m hm).1]
  · rw [findM_none fun m hm z => (h m hm).2 ⟨z.2, z.1⟩]
end
/-- the told turns -/
def kyM (m : Me) : List Key × D := ([.inl m.a, .inl m.b], .tuple [.int m.c, .int m.d])
def pdM (m : Me) : D := .tuple [.tuple [.int m.a, .int m.b], .tuple [.int m.c, .int m.d]]
def tD (r : Rl) : DL := r.M.map kyM
theorem pairs_M : ∀ M : List Me, pairsOf (M.map pdM) = some (M.map kyM)
  | [] => rfl
  | m :: r => by simp only [List.map_cons, pairsOf, pairOf, pdM, keyT, keysOf, keyOf, pairs_M r, kyM, Option.map_some]
theorem merge_nodup : ∀ (l acc : DL), ((acc ++ l).map (·.1)).Nodup → l.foldl (fun a p => putD a p.1 p.2) acc = acc ++ l
  | [], acc, _ => by simp
  | p :: l, acc, h => by
    have e : (acc.any fun q => decide (q.1 = p.1)) = false := by
      rw [List.any_eq_false]
      intro q hq
      simp only [decide_eq_true_eq]
      intro z
      rw [List.map_append, List.map_cons, List.nodup_append] at h
      exact h.2.2 _ (List.mem_map.mpr ⟨q, hq, rfl⟩) _ (List.mem_cons_self ..) z
    rw [List.foldl_cons]
    unfold putD
    rw [e]
    simp only [Bool.false_eq_true, if_false]
    have := merge_nodup l (acc ++ [p]) (by simpa using h)
    unfold putD at this
    rw [this]
    simp
theorem tD_keys {r : Rl} {mx ss : Nat} (h : r.Ok mx ss) : ((r.M.map kyM).map (·.1)).Nodup := by
  have h1 := h.asc
  have : ∀ M : List Me, (M.map Me.key).Pairwise (· < ·) → ((M.map kyM).map (·.1)).Nodup := by
    intro M
    induction M with
    | nil => intro _; exact .nil
    | cons m M ih =>
      intro h
      rw [List.map_cons, List.pairwise_cons] at h
      rw [List.map_cons, List.map_cons, List.nodup_cons]
      refine ⟨fun z => ?_, ih h.2⟩
      rw [List.map_map] at z
      obtain ⟨n, hn, e⟩ := List.mem_map.mp z
      have hk := h.1 _ (List.mem_map.mpr ⟨n, hn, rfl⟩)
      simp only [kyM, Function.comp, List.cons.injEq, Sum.inl.injEq, and_true] at e
      unfold Me.key at hk
      omega
  exact this _ h1
theorem merge_tD {r : Rl} {mx ss : Nat} (h : r.Ok mx ss) : mergeD (r.M.map kyM) = tD r := by
  have := merge_nodup (r.M.map kyM) [] (by simpa using tD_keys h)
  unfold mergeD
  rw [this]; rfl
theorem bDict_M {r : Rl} {mx ss : Nat} (h : r.Ok mx ss) : bDict [.list (r.M.map pdM)] = some (.f, dictD (tD r)) := by
  unfold bDict
  simp only [pairs_M, Option.map_some, merge_tD h]
theorem val_tD {r : Rl} {x y : Nat} : valD (tD r) [.inl (x : Int), .inl (y : Int)] = (findM r.M x y).map fun m => .tuple [.int m.c, .int m.d] := by
  unfold valD tD findM
  rw [List.find?_map, Option.map_map]
  congr 1
  congr 1
  funext m
  simp only [Function.comp, kyM, List.cons.injEq, Sum.inl.injEq, and_true]
  by_cases h1 : m.a = x <;> by_cases h2 : m.b = y <;> simp [h1, h2] <;> omega
/-! ### x, y = [], [] -/
def mPar00 (i j : Nat) : MS := fun ρ => .nx ((ρ.set i (.own (.list []))).set j (.own (.list [])))
section
variable {X : Cx} {W : WX} {P : List Nat} {pos : Pos}
theorem ss_par00 {i j : Nat} {x y : Str} {a b : Expr} {px py pt : Pos} {kt k2 pt2} (ip : i ∉ P) (jp : j ∉ P) (hc : X.calm = true) (hN : X.N.Nodup) (hi : X.N[i]? = some x) (hj : X.N[j]? = some y) (hij : i ≠ j)
    (hx : X.env.scope.names.lookup x = some .local) (hy : X.env.scope.names.lookup y = some .local)
    (hw : swappedStores [.Tuple [.Name x px, .Name y py] kt pt] (.Tuple [a, b] k2 pt2) X.env = pure (some [x, y]))
    (hs : swapsWithSole [.Tuple [.Name x px, .Name y py] kt pt] (.Tuple [a, b] k2 pt2) pos.line X.env = pure false)
    (s1 : starEach [a, b] X.env = (false, eval a X.env) :: starEach [b] X.env) (s2 : starEach [b] X.env = (false, eval b X.env) :: starEach [] X.env) {fa fb : ME} (ha : SE X W a (tLst tNil) fa) (hb : SE X W b (tLst tNil) fb) :
    SS X W P (.Assign [.Tuple [.Name x px, .Name y py] kt pt] (.Tuple [a, b] k2 pt2) pos) (tPar i j (tCons (tLst tNil) (tCons (tLst tNil) tNil))) (mPar00 i j) := by
  refine ⟨ps_par hc hN hi hj hij hx hy (pa_cons ha.p (pa_cons hb.p pa_nil s2) s1) hw hs, fun n hn ρ σ H O D R B w => ?_⟩
  refine ⟨Nat.zero_le _, fun p hp => ⟨Nat.zero_le _, fun q hq => ⟨_, _, rfl, ?_⟩⟩⟩
  obtain ⟨O2, R2, B2, k2⟩ := store (s := .own (.list [])) (ρ2 := ρ) (by rw [hn]; exact ip) (show ORel X.K ρ σ H (upd H p (.lst [])) (Own1 O p) (.fresh (.list [])) (.ref p) from ⟨p, rfl, hp, .inr rfl, [], upd_same, .nil⟩) R (.newOwn hp) B (R.newOwn hp) rfl
  obtain ⟨O3, R3, B3, k3⟩ := store (s := .own (.list [])) (ρ2 := ρ.set i (.own (.list []))) (by rw [hn]; exact jp) (show ORel X.K (ρ.set i (.own (.list []))) (σ.set i (some (.ref p))) (upd H p (.lst [])) (upd (upd H p (.lst [])) q (.lst [])) (Own1 O2 q) (.fresh (.list [])) (.ref q) from ⟨q, rfl, hq, .inr rfl, [], upd_same, .nil⟩) R2 (.newOwn hq) B2 (R2.newOwn hq) rfl
  exact w _ _ O3 R3 B3 (k2.trans k3)
end
theorem evo_par00 {KO : CoO} {uo : Tag KO} {ρ : Fr} {i j : Nat} : EvO (mPar00 i j ρ) KO uo = KO.go (.nx ((ρ.set i (.own (.list []))).set j (.own (.list [])))) := by
  unfold mPar00; rw [evo_nx]
end L3
set_option Elab.async false
set_option linter.all false
set_option maxRecDepth 1000000
set_option maxHeartbeats 40000000
set_option autoImplicit false
/-! L3ZB: hands, one by one: how many in a room, whom a meeting turns. -/
namespace L3
open PySem PySem.Spec L2
def hD (hs : List Nat) : D := .tuple (hs.map nD)
def cnt (l : List Nat) (j : Nat) : Int := (l.count j : Nat)
def crowdP (R : Nat) (hs : List Nat) : List Int := (List.range R).map (cnt hs)
theorem crowdP_length {R : Nat} {hs : List Nat} : (crowdP R hs).length = R := by unfold crowdP; rw [List.length_map, List.length_range]
theorem gI_crowd {R j : Nat} {hs : List Nat} (h : j < R) : gI (crowdP R hs) j = cnt hs j := by
  have h2 : j < (crowdP R hs).length := by rw [crowdP_length]; exact h
  have := gI_eq h2
  unfold crowdP at this
  rw [List.getElem?_map, List.getElem?_range h] at this
  exact (Option.some.inj this).symm
theorem cnt_cons {a j : Nat} {l : List Nat} : cnt (a :: l) j = cnt l j + if a = j then 1 else 0 := by
  unfold cnt
  rw [List.count_cons]
  by_cases e : a = j
  · simp [e]
  · simp [e]
theorem cnt_append {l m : List Nat} {j : Nat} : cnt (l ++ m) j = cnt l j + cnt m j := by
  unfold cnt
  rw [List.count_append]
  omega
theorem cnt_rep {n a j : Nat} : cnt (List.replicate n a) j = if a = j then (n : Int) else 0 := by
  unfold cnt
  rw [List.count_replicate]
  by_cases e : a = j
  · simp [e]
  · simp [e]
theorem cnt_nonneg {l : List Nat} {j : Nat} : 0 ≤ cnt l j := by unfold cnt; omega
theorem cnt_le {l : List Nat} {j : Nat} : cnt l j ≤ l.length := by unfold cnt; have := List.count_le_length (a := j) (l := l); omega
theorem cnt_set : ∀ {l : List Nat} {i x b : Nat} (h : i < l.length), cnt (l.set i x) b = cnt l b + (if l[i] = b then -1 else 0) + (if x = b then 1 else 0)
  | [], i, _, _, h => by simp at h
  | a :: l, 0, x, b, h => by
    rw [List.set_cons_zero, cnt_cons, cnt_cons, List.getElem_cons_zero]
    split <;> split <;> omega
  | a :: l, i + 1, x, b, h => by
    have := cnt_set (l := l) (i := i) (x := x) (b := b) (by simpa using h)
    rw [List.set_cons_succ, cnt_cons, cnt_cons, List.getElem_cons_succ, this]
    omega
theorem cnt_pos {l : List Nat} {x : Nat} (h : x ∈ l) : 1 ≤ cnt l x := by
  unfold cnt
  have := List.count_pos_iff.mpr h
  omega
theorem cnt_mem {l : List Nat} {x : Nat} (h : 0 < cnt l x) : x ∈ l := by
  unfold cnt at h
  exact List.count_pos_iff.mp (by omega)
theorem cnt_two {l : List Nat} {i j : Nat} (hi : i < l.length) (hj : j < l.length) (ne : i ≠ j) (e : l[i] = l[j]) : 2 ≤ cnt l l[i] := by
  have h1 := cnt_set (x := l[i] + 1) (b := l[i]) hi
  have h2 : l[i] ∈ l.set i (l[i] + 1) := by
    rw [e]
    rw [List.mem_iff_getElem]
    exact ⟨j, by rw [List.length_set]; exact hj, by rw [List.getElem_set_ne ne]⟩
  have h3 := cnt_pos h2
  rw [h1, if_pos rfl, if_neg (by omega)] at h3
  omega
theorem crowdP_snoc {R x : Nat} {l : List Nat} (h : x < R) : crowdP R (l ++ [x]) = addAt (crowdP R l) x 1 := by
  refine ext_gI (by rw [crowdP_length, addAt_length, crowdP_length]) fun j hj => ?_
  rw [crowdP_length] at hj
  rw [gI_crowd hj, gI_add (by rw [crowdP_length]; exact h), gI_crowd hj, cnt_append, cnt_cons]
  simp [cnt]
theorem crowdP_nil {R : Nat} : crowdP R [] = List.replicate R 0 := by
  apply List.ext_getElem
  · simp [crowdP]
  · intro i h1 h2
    simp [crowdP, cnt]
theorem crowdP_cr {R B : Nat} {hs : List Nat} (h : hs.length ≤ B) : Cr R B (crowdP R hs) := by
  refine ⟨crowdP_length, fun x hx => ?_⟩
  unfold crowdP at hx
  obtain ⟨j, _, rfl⟩ := List.mem_map.mp hx
  have := cnt_le (l := hs) (j := j)
  exact ⟨cnt_nonneg, by omega⟩
/-! ### the hands of a beginning -/
def seatQ (r : Rl) (n : List Int) (i : Nat) : List Nat := ((r.S.zip n).take i).flatMap fun p => List.replicate p.2.toNat p.1
section
variable {r : Rl} {mx ss : Nat} {n : List Int} {i j : Nat} {hs : List Nat}
theorem seatQ_succ (h : i < r.S.length) (h2 : i < n.length) : seatQ r n (i + 1) = seatQ r n i ++ List.replicate (gI n i).toNat r.S[i] := by
  unfold seatQ
  have e : (r.S.zip n)[i]? = some (r.S[i], gI n i) := by
    rw [List.getElem?_zip_eq_some]
    exact ⟨List.getElem?_eq_getElem h, gI_eq h2⟩
  rw [List.take_add_one, e, List.flatMap_append]
  simp
theorem begun_seat (h : r.Ok mx ss) (hl : n.length = ss) (hn : ∀ x ∈ n, 0 ≤ x) : ∀ i, i ≤ ss → ∀ j, gI (begunP r n i) j = cnt (seatQ r n i) j
  | 0, _, j => by
    unfold begunP seatQ
    rw [List.take_zero, List.foldl_nil, gI_rep]
    rfl
  | i + 1, hi, j => by
    have h1 : i < r.S.length := by rw [h.sl]; omega
    have h2 : i < n.length := by omega
    have n0 := hn _ (gI_mem h2)
    rw [begunP_succ h1 h2, gI_add (by rw [begunP_length]; exact h.sv _ (List.getElem_mem _)), begun_seat h hl hn i (by omega) j, seatQ_succ h1 h2, cnt_append, cnt_rep, Int.toNat_of_nonneg n0]
theorem seat_lt (h : r.Ok mx ss) : ∀ x ∈ seatQ r n i, x < r.R := by
  intro x hx
  unfold seatQ at hx
  obtain ⟨p, hp, hx⟩ := List.mem_flatMap.mp hx
  have := List.of_mem_zip (List.mem_of_mem_take hp)
  rw [(List.mem_replicate.mp hx).2]
  exact h.sv _ this.1
theorem seat_len (h : r.Ok mx ss) (hl : n.length = ss) (hn : ∀ x ∈ n, 0 ≤ x) : ∀ i, i ≤ ss → ((seatQ r n i).length : Int) = (n.take i).sum
  | 0, _ => by simp [seatQ]
  | i + 1, hi => by
    have h1 : i < r.S.length := by rw [h.sl]; omega
    have h2 : i < n.length := by omega
    have n0 := hn _ (gI_mem h2)
    have ih := seat_len h hl hn i (by omega)
    rw [seatQ_succ h1 h2, List.length_append, List.length_replicate, List.take_add_one, gI_eq h2, List.sum_append, Int.natCast_add, ih, Int.toNat_of_nonneg n0]
    simp
theorem crowd_seat (h : r.Ok mx ss) (hl : n.length = ss) (hn : ∀ x ∈ n, 0 ≤ x) : crowdP r.R (seatQ r n n.length) = begunP r n n.length := by
  refine ext_gI (by rw [crowdP_length, begunP_length]) fun j hj => ?_
  rw [crowdP_length] at hj
  rw [gI_crowd hj, begun_seat h hl hn n.length (by omega) j]
/-! ### two hands meet -/
def metH (r : Rl) (hs : List Nat) (i j : Nat) : List Nat := (hs.set i (turnP r (hs.getD i 0) (hs.getD j 0)).1).set j (turnP r (hs.getD i 0) (hs.getD j 0)).2
theorem getD_in {l : List Nat} {i : Nat} (h : i < l.length) : l.getD i 0 = l[i] := by rw [List.getD_eq_getElem?_getD, List.getElem?_eq_getElem h]; rfl
theorem metH_length : (metH r hs i j).length = hs.length := by unfold metH; rw [List.length_set, List.length_set]
theorem metH_lt (h : r.Ok mx ss) (hh : ∀ x ∈ hs, x < r.R) (hi : i < hs.length) (hj : j < hs.length) : ∀ x ∈ metH r hs i j, x < r.R := by
  intro x hx
  have t := turnP_lt h (x := hs.getD i 0) (y := hs.getD j 0) (by rw [getD_in hi]; exact hh _ (List.getElem_mem _)) (by rw [getD_in hj]; exact hh _ (List.getElem_mem _))
  unfold metH at hx
  rcases List.mem_or_eq_of_mem_set hx with hx | rfl
  · rcases List.mem_or_eq_of_mem_set hx with hx | rfl
    · exact hh x hx
    · exact t.1
  · exact t.2
theorem cnt_met (hi : i < hs.length) (hj : j < hs.length) (ne : i ≠ j) (b : Nat) : cnt (metH r hs i j) b = cnt hs b + (if hs.getD i 0 = b then -1 else 0) + (if (turnP r (hs.getD i 0) (hs.getD j 0)).1 = b then 1 else 0) + (if hs.getD j 0 = b then -1 else 0) + (if (turnP r (hs.getD i 0) (hs.getD j 0)).2 = b then 1 else 0) := by
  unfold metH
  rw [cnt_set (by rw [List.length_set]; exact hj), cnt_set hi, List.getElem_set_ne ne, getD_in hi, getD_in hj]
/-- the lesser, the greater room -/
def loP (hs : List Nat) (i j : Nat) : Nat := min (hs.getD i 0) (hs.getD j 0)
def hiP (hs : List Nat) (i j : Nat) : Nat := max (hs.getD i 0) (hs.getD j 0)
theorem met_none (hi : i < hs.length) (hj : j < hs.length) (ne : i ≠ j) (e : findM r.M (loP hs i j) (hiP hs i j) = none) : crowdP r.R (metH r hs i j) = crowdP r.R hs := by
  have t : turnP r (hs.getD i 0) (hs.getD j 0) = (hs.getD i 0, hs.getD j 0) := by
    unfold turnP
    unfold loP hiP at e
    split
    · rename_i l
      rw [Nat.min_eq_left l, Nat.max_eq_right l] at e
      rw [e]
    · rename_i l
      rw [Nat.min_eq_right (by omega), Nat.max_eq_left (by omega)] at e
      rw [e]
  refine ext_gI (by rw [crowdP_length, crowdP_length]) fun b hb => ?_
  rw [crowdP_length] at hb
  rw [gI_crowd hb, gI_crowd hb, cnt_met hi hj ne, t]
  simp only
  split <;> split <;> omega
theorem met_some (h : r.Ok mx ss) (hi : i < hs.length) (hj : j < hs.length) (ne : i ≠ j) {m : Me} (e : findM r.M (loP hs i j) (hiP hs i j) = some m) :
    mayP (crowdP r.R hs) m = true ∧ crowdP r.R (metH r hs i j) = behindP (crowdP r.R hs) m := by
  obtain ⟨hm, ea, eb⟩ := findM_some e
  have ok := h.mt m hm
  have okc : m.Ok (crowdP r.R hs).length := by rw [crowdP_length]; exact ok
  unfold loP at ea
  unfold hiP at eb
  have xi : hs.getD i 0 ∈ hs := by rw [getD_in hi]; exact List.getElem_mem _
  have xj : hs.getD j 0 ∈ hs := by rw [getD_in hj]; exact List.getElem_mem _
  constructor
  · unfold mayP
    rw [gI_crowd ok.a, gI_crowd ok.b]
    split
    · rename_i q
      have q2 : hs.getD i 0 = hs.getD j 0 := by omega
      have := cnt_two hi hj ne (by rw [← getD_in hi, ← getD_in hj]; exact q2)
      rw [← getD_in hi] at this
      rw [ea, show min (hs.getD i 0) (hs.getD j 0) = hs.getD i 0 by omega]
      exact decide_eq_true this
    · have p1 := cnt_pos xi
      have p2 := cnt_pos xj
      rw [Bool.and_eq_true, decide_eq_true_eq, decide_eq_true_eq, ea, eb]
      by_cases l : hs.getD i 0 ≤ hs.getD j 0
      · rw [Nat.min_eq_left l, Nat.max_eq_right l]; exact ⟨p1, p2⟩
      · rw [Nat.min_eq_right (by omega), Nat.max_eq_left (by omega)]; exact ⟨p2, p1⟩
  · refine ext_gI (by rw [crowdP_length, behindP_length, crowdP_length]) fun b hb => ?_
    rw [crowdP_length] at hb
    rw [gI_crowd hb, cnt_met hi hj ne, gI_behind okc, gI_crowd hb]
    unfold turnP
    unfold loP hiP at e
    by_cases l : hs.getD i 0 ≤ hs.getD j 0
    · rw [Nat.min_eq_left l, Nat.max_eq_right l] at e
      rw [Nat.min_eq_left l] at ea
      rw [Nat.max_eq_right l] at eb
      rw [if_pos l, e, ← ea, ← eb]
      simp only
      omega
    · rw [Nat.min_eq_right (by omega), Nat.max_eq_left (by omega)] at e
      rw [Nat.min_eq_right (by omega)] at ea
      rw [Nat.max_eq_left (by omega)] at eb
      rw [if_neg l, e, ← ea, ← eb]
      simp only
      omega
/-! ### what they say -/
theorem words_all (hh : ∀ x ∈ hs, x < r.R) : (wordsP r (crowdP r.R hs)).all id = (hs.map fun x => r.Y.getD x false).all id := by
  rw [Bool.eq_iff_iff, List.all_eq_true, List.all_eq_true]
  unfold wordsP
  constructor
  · intro q y hy
    obtain ⟨x, hx, rfl⟩ := List.mem_map.mp hy
    refine q _ (List.mem_map.mpr ⟨x, List.mem_filter.mpr ⟨List.mem_range.mpr (hh x hx), ?_⟩, rfl⟩)
    rw [gI_crowd (hh x hx)]
    have := cnt_pos hx
    exact decide_eq_true (by omega)
  · intro q y hy
    obtain ⟨x, hx, rfl⟩ := List.mem_map.mp hy
    obtain ⟨h1, h2⟩ := List.mem_filter.mp hx
    rw [gI_crowd (List.mem_range.mp h1)] at h2
    exact q _ (List.mem_map.mpr ⟨x, cnt_mem (of_decide_eq_true h2), rfl⟩)
theorem words_any (hh : ∀ x ∈ hs, x < r.R) : (wordsP r (crowdP r.R hs)).any id = (hs.map fun x => r.Y.getD x false).any id := by
  rw [Bool.eq_iff_iff, List.any_eq_true, List.any_eq_true]
  unfold wordsP
  constructor
  · rintro ⟨y, hy, q⟩
    obtain ⟨x, hx, rfl⟩ := List.mem_map.mp hy
    obtain ⟨h1, h2⟩ := List.mem_filter.mp hx
    rw [gI_crowd (List.mem_range.mp h1)] at h2
    exact ⟨_, List.mem_map.mpr ⟨x, cnt_mem (of_decide_eq_true h2), rfl⟩, q⟩
  · rintro ⟨y, hy, q⟩
    obtain ⟨x, hx, rfl⟩ := List.mem_map.mp hy
    refine ⟨_, List.mem_map.mpr ⟨x, List.mem_filter.mpr ⟨List.mem_range.mpr (hh x hx), ?_⟩, rfl⟩, q⟩
    rw [gI_crowd (hh x hx)]
    have := cnt_pos hx
    exact decide_eq_true (by omega)
end
theorem hD_get {hs : List Nat} {i : Nat} (h : i < hs.length) : atI hs (i : Int) = some (hs.getD i 0) := by
  rw [atI_get h, List.getD_eq_getElem?_getD, List.getElem?_eq_getElem h]; rfl
end L3
set_option Elab.async false
set_option linter.all false
set_option maxRecDepth 100000
set_option maxHeartbeats 4000000
set_option autoImplicit false
/-! L3ZC: texts: their signs, a sign in a text, a text so many times, split, join. -/
namespace L3
open PySem PySem.Spec L2
/-! ### sign by sign -/
def signs (x : Str) : List D := x.cps.toList.map oneSign
theorem signs_length {x : Str} : (signs x).length = x.cps.size := by unfold signs; rw [List.length_map, Array.length_toList]
theorem walk_str {K : Fg} {H : Hp} {O : Ow} (x : Str) : Walk K (Its x) (signs x) H O where
  go := fun i H1 O1 k hi => by rw [signs_length] at hi; exact hi
  stop := fun i H1 O1 k hi => by rw [signs_length] at hi; exact hi
  yld := fun i H1 O1 v H' k dm hi q => by
    obtain ⟨rfl, c, hc, rfl⟩ := q
    refine ⟨oneSign c, ?_, .refl, .str _⟩
    unfold signs
    rw [List.getElem?_map, Array.getElem?_toList, hc]
    rfl
def strOf : D → Option Str
  | .str x => some x
  | _ => none
def mStrI (f : ME) : Fr → RE (List PyData) := fun ρ => (f ρ).bind fun r ρ1 => RE.opt (look r ρ1) fun d => RE.opt (strOf d) fun x => .ok (signs x) ρ1
theorem si_str {X : Cx} {W : WX} {tg l : Expr} {tl : TE} {f : ME} (hl : SE X W l tl f) : SI X W tg l (iStr tl) (mStrI f) := by
  refine ⟨pi_str hl.p, fun ρ σ H O R Rl h => hl.s ρ σ H O _ Rl (Want.bind h fun r ρ1 v H1 O1 e1 R1 F1 o1 h1 => ?_)⟩
  obtain ⟨d, ed, h1⟩ := h1.opt
  obtain ⟨x, ex, h1⟩ := h1.opt
  cases d with
  | str y =>
    cases ex
    exact ⟨_, (ORel.see1 o1 Rl F1 R1 ed).str, h1 _ H1 O1 R1 .refl (walk_str _)⟩
  | _ => cases ex
/-! ### a sign in a text -/
def cInS : D → D → Option Bool
  | .str x, .str y => match x.cps.toList with
    | [c] => some (decide (c ∈ y.cps.toList))
    | _ => none
  | _, _ => none
def cNotInS (x y : D) : Option Bool := (cInS x y).map not
theorem one_of {x : Str} {c : Nat} (h : x.cps.toList = [c]) : x = ⟨#[c]⟩ := by
  cases x with
  | mk a =>
    have : a = #[c] := by
      apply Array.ext'
      simpa using h
    rw [this]
theorem g_inS {K : Fg} : CmpOk K rInS cInS := by
  intro H O x y d e b Q sx sy h c
  cases d <;> cases e <;> simp only [cInS] at h <;> try (cases h; done)
  split at h
  · rename_i q
    cases h
    rw [one_of q] at sx
    exact ⟨_, _, sx.str, sy.str, c⟩
  · cases h
theorem g_notInS {K : Fg} : CmpOk K rNotInS cNotInS := by
  intro H O x y d e b Q sx sy h c
  unfold cNotInS at h
  cases d <;> cases e <;> simp only [cInS] at h <;> try (cases h; done)
  split at h
  · rename_i q
    cases h
    rw [one_of q] at sx
    exact ⟨_, _, sx.str, sy.str, c⟩
  · cases h
theorem cInS_one {c : Nat} {y : Str} : cInS (oneSign c) (.str y) = some (decide (c ∈ y.cps.toList)) := rfl
theorem cNotInS_one {c : Nat} {y : Str} : cNotInS (oneSign c) (.str y) = some (!decide (c ∈ y.cps.toList)) := rfl
/-! ### so many times -/
def strRep (x : Str) (n : Nat) : Str := ⟨(List.replicate n x.cps).foldl (· ++ ·) #[]⟩
def rMulStr : R2 := fun x y H Q => ∃ (s : Str) (n : Int), x = .str s ∧ y = .int n ∧ 1 < n ∧ n ≤ 1000 ∧ 0 < s.length ∧ s.length ≤ 1000 ∧ Q (.str (strRep s n.toNat)) H
theorem rep_size {x : Array Nat} : ∀ (n : Nat) (acc : Array Nat), ((List.replicate n x).foldl (· ++ ·) acc).size = acc.size + n * x.size
  | 0, acc => by simp
  | n + 1, acc => by
    rw [List.replicate_succ, List.foldl_cons, rep_size n, Array.size_append, Nat.add_mul]
    omega
theorem strRep_length {x : Str} {n : Nat} : (strRep x n).length = n * x.length := by
  show ((List.replicate n x.cps).foldl (· ++ ·) #[]).size = _
  rw [rep_size]
  show 0 + n * x.cps.size = n * x.cps.size
  omega
theorem op_mulStr {X : Cx} : OpR X (binaryOp .Mult) rMulStr := by
  intro pins s σ H x y v u Q I rx ry h
  obtain ⟨z, n, rfl, rfl, h1, h2, h3, h4, q⟩ := h
  obtain ⟨t, rfl⟩ := rx
  obtain ⟨t', rfl⟩ := ry
  have e1 : ¬ n < 1 := by omega
  have e2 : (n == 1 || z.length == 0) = false := by
    rw [Bool.or_eq_false_iff]
    exact ⟨by rw [beq_eq_false_iff_ne]; omega, by rw [beq_eq_false_iff_ne]; omega⟩
  have hz : z.length * n.toNat ≤ 1000 * 1000 := Nat.mul_le_mul h4 (by omega)
  refine P.mul_str ?_ (fun _ _ => ?_) (fun _ _ => ?_) ?_
  · rw [Bool.or_eq_false_iff]
    exact ⟨decide_eq_false (by omega), decide_eq_false (by omega)⟩
  · have : (1000 : Int) ≤ (2 ^ 63 - 1) / n := (Int.le_ediv_iff_mul_le (by omega)).mpr (by omega)
    omega
  · have := small_line hz
    show decide (z.length * n.toNat > sizeLine) = false
    exact decide_eq_false (by omega)
  · rw [if_neg e1, e2, if_neg Bool.false_ne_true]
    refine ⟨?_, .str (strRep z n.toNat), H, I.tok _, ⟨_, rfl⟩, q⟩
    show (strRep z n.toNat).length ≤ sizeLine
    rw [strRep_length, Nat.mul_comm]
    exact small_line hz
def dMulS : D → D → Option (Kd × D)
  | .str s, .int n => if 1 < n ∧ n ≤ 1000 ∧ 0 < s.length ∧ s.length ≤ 1000 then some (.v, .str (strRep s n.toNat)) else none
  | _, _ => none
theorem g_mulS {K : Fg} : Op2 K rMulStr dMulS := by
  intro H O x y d e k z Q sx sy h c
  cases d <;> cases e <;> simp only [dMulS] at h <;> try (cases h; done)
  split at h
  · rename_i q
    cases h
    exact ⟨_, _, sx.str, sy.int, q.1, q.2.1, q.2.2.1, q.2.2.2, Cv.str c⟩
  · cases h
/-! ### split, join -/
def mM1 (g : Str → D → Option (Kd × D)) (fo fe : ME) : ME := fun ρ => (fo ρ).bind fun ro ρ1 => RE.opt (valO ro) fun dx => RE.opt (strOf dx) fun x => (fe ρ1).bind fun re ρ2 => RE.opt (look re ρ2) fun y => RE.opt (g x y) fun z => .ok (z.1.mk z.2) ρ2
def M1Ok (K : Fg) (r : V → List V → Hp → VK → Prop) (g : Str → D → Option (Kd × D)) : Prop := ∀ H O x y e k z Q, See K H O y e → g x e = some (k, z) → Ck k K H O z Q → r (.str x) [y] H Q
section
variable {X : Cx} {W : WX} {o e : Expr} {pos apos : Pos} {m : Str} {to te : TE} {fo fe : ME} {r : V → List V → Hp → VK → Prop} {g : Str → D → Option (Kd × D)}
theorem se_m1 (hG : M1Ok X.K r g) (ho : SE X W o to fo) (he : SE X W e te fe) (p : PE X o to → PE X e te → PE X (.Call (.Attribute o m apos) [e] [] pos) (tM1 r to te)) : SE X W (.Call (.Attribute o m apos) [e] [] pos) (tM1 r to te) (mM1 g fo fe) := by
  refine ⟨p ho.p he.p, fun ρ σ H O Q R h => ho.s ρ σ H O _ R (Want.bind h fun ra ρ1 v H1 O1 e1 R1 F1 o1 h1 => ?_)⟩
  obtain ⟨dx, ed, h1⟩ := h1.opt
  obtain ⟨x, ex, h1⟩ := h1.opt
  cases valO_eq ed
  have o1 : Rp X.K H1 O1 v dx := o1
  cases dx with
  | str z =>
    cases ex
    cases o1
    refine ⟨⟨_, rfl⟩, he.s ρ1 σ H1 O1 _ R1 (Want.bind h1 fun rb ρ2 y H2 O2 e2 R2 F2 o2 h2 => ?_)⟩
    obtain ⟨dy, edy, h2⟩ := h2.opt
    obtain ⟨⟨k, z⟩, ez, h2⟩ := h2.opt
    exact hG H2 O2 _ y dy k z Q (ORel.see1 o2 R1 F2 R2 edy) ez (h2.ck k R2)
  | _ => cases ex
def rSplit : V → List V → Hp → VK → Prop := fun x xs H Q => ∃ a b, x = .str a ∧ xs = [.str b] ∧ (b.length == 0) = false ∧ a.length + 2 ≤ sizeLine ∧ rNewStrs (Txt.split a b) H Q
def dSplit (a : Str) : D → Option (Kd × D)
  | .str b => if b.length ≠ 0 ∧ a.length + 2 ≤ sizeLine then some (.f, .list ((Txt.split a b).map .str)) else none
  | _ => none
theorem rp_strs {K : Fg} {H : Hp} {O : Ow} : ∀ ys : List Str, RpAll K H O (ys.map V.str) (ys.map .str)
  | [] => .nil
  | y :: r => .cons (.str y) (rp_strs r)
theorem g_split {K : Fg} : M1Ok K rSplit dSplit := by
  intro H O x y e k z Q s h c
  cases e <;> simp only [dSplit] at h <;> try (cases h; done)
  split at h
  · rename_i q
    cases h
    refine ⟨_, _, rfl, by rw [s.str], beq_eq_false_iff_ne.mpr q.1, q.2, fun p hp => Cf.lst c (rp_strs _) p hp⟩
  · cases h
theorem se_split (ho : SE X W o to fo) (he : SE X W e te fe) (hs : starEach [e] X.env = [(false, eval e X.env)]) (hbase : attributeBase o "split" X.env (eval o X.env) = eval o X.env) (hline : (apos.endLine == pos.line) = true) :
    SE X W (.Call (.Attribute o "split" apos) [e] [] pos) (tM1 rSplit to te) (mM1 dSplit fo fe) := se_m1 g_split ho he fun a b => pe_split a b hs hbase hline
def rJoin (K : Fg) : V → List V → Hp → VK → Prop := fun x xs H Q => ∃ a p, ∃ ys : List Str, x = .str a ∧ xs = [.ref p] ∧ (SqL K H p (ys.map V.str) ∨ SqT K H p (ys.map V.str)) ∧ (ys.map (·.length)).sum + ys.length * a.length ≤ 16777216 ∧ Q (.str (Txt.join a ys)) H
def strsOf : List D → Option (List Str)
  | [] => some []
  | d :: r => match strOf d, strsOf r with
    | some x, some l => some (x :: l)
    | _, _ => none
theorem strsOf_map : ∀ ys : List Str, strsOf (ys.map .str) = some ys
  | [] => rfl
  | y :: r => by simp only [List.map_cons, strsOf, strOf, strsOf_map r]
theorem strsOf_eq : ∀ {ds : List D} {ys : List Str}, strsOf ds = some ys → ds = ys.map .str
  | [], _, h => by cases h; rfl
  | d :: r, ys, h => by
    simp only [strsOf] at h
    cases e1 : strOf d with
    | none => rw [e1] at h; cases h
    | some x =>
      cases e2 : strsOf r with
      | none => rw [e1, e2] at h; cases h
      | some l =>
        rw [e1, e2] at h
        cases h
        cases d <;> cases e1
        rw [strsOf_eq e2]; rfl
theorem rp_strs_eq {K : Fg} {H : Hp} {O : Ow} : ∀ {ys : List Str} {xs : List V}, RpAll K H O xs (ys.map .str) → xs = ys.map V.str
  | [], _, .nil => rfl
  | y :: r, _, .cons h t => by
    rw [rp_strs_eq t]
    cases h
    rfl
def dJoin (a : Str) : D → Option (Kd × D)
  | .list ds => match strsOf ds with
    | some ys => if (ys.map (·.length)).sum + ys.length * a.length ≤ 16777216 then some (.v, .str (Txt.join a ys)) else none
    | none => none
  | _ => none
theorem g_join {K : Fg} : M1Ok K (rJoin K) dJoin := by
  intro H O x y e k z Q s h c
  cases e <;> simp only [dJoin] at h <;> try (cases h; done)
  rename_i ds
  cases q : strsOf ds with
  | none => rw [q] at h; cases h
  | some ys =>
    rw [q] at h
    simp only at h
    split at h
    · rename_i hz
      cases h
      obtain ⟨p, xs, rfl, h1, r1⟩ := s.lst
      have e := strsOf_eq q
      subst e
      have e := rp_strs_eq r1
      subst e
      exact ⟨_, p, ys, rfl, rfl, .inl (.inl (.inl h1)), hz, Cv.str c⟩
    · cases h
theorem se_joinK (K : Fg) (hK : X.K = K) (ho : SE X W o to fo) (he : SE X W e te fe) (hs : starEach [e] X.env = [(false, eval e X.env)]) (hbase : attributeBase o "join" X.env (eval o X.env) = eval o X.env) (hline : (apos.endLine == pos.line) = true) :
    SE X W (.Call (.Attribute o "join" apos) [e] [] pos) (tM1 (rJoin K) to te) (mM1 dJoin fo fe) := by
  subst hK
  exact se_m1 g_join ho he fun a b => pe_join a b hs hbase hline
end
section
variable {K : Co Opd} {u : Tag K} {KA : Co (List D)} {ua : Tag KA} {ρ : Fr} {fo fe f : ME} {g : Str → D → Option (Kd × D)}
theorem ev_m1 : Ev (mM1 g fo fe ρ) K u = Ev (fo ρ) ⟨fun ro ρ1 => EvP (valO ro) fun dx => EvP (strOf dx) fun x => Ev (fe ρ1) ⟨fun re ρ2 => EvP (look re ρ2) fun y => EvP (g x y) fun z => K.ok (z.1.mk z.2) ρ2, K.ex⟩ .mk, K.ex⟩ .mk := by
  unfold mM1; simp only [ev_un, evP_un, eu_bind, eu_opt, eu_ok, eu_ite]
theorem ev_strI : Ev (mStrI f ρ) KA ua = Ev (f ρ) ⟨fun r ρ1 => EvP (look r ρ1) fun d => EvP (strOf d) fun x => KA.ok (signs x) ρ1, KA.ex⟩ .mk := by
  unfold mStrI; simp only [ev_un, evP_un, eu_bind, eu_opt, eu_ok, eu_ite]
end
end L3
set_option Elab.async false
set_option linter.all false
set_option maxRecDepth 1000000
set_option maxHeartbeats 40000000
set_option autoImplicit false
/-! L3ZD: rules side by side; a crowd of pairs laid together by a part; what a rule's crowd can come to by one meeting. -/
namespace L3
open PySem PySem.Spec L2
/-! ### rows of numbers -/
theorem depth0_ints (ns : List Int) : PyData.canLayAll0 (ns.map .int) = true ∧ PyData.depthAll (ns.map PyData.int) = 0 := by
  induction ns with
  | nil => exact ⟨rfl, rfl⟩
  | cons x r ih => exact ⟨by simp only [List.map_cons, PyData.canLayAll0, PyData.canLay0, ih.1, Bool.and_self], by simp only [List.map_cons, PyData.depthAll, PyData.depth, ih.2]; rfl⟩
theorem shaped_rows (rs : List (List Int)) : SeqAt.shaped (.list (rs.map tupI)) = true := by
  have h1 : PyData.canLayAll0 (rs.map tupI) = true ∧ PyData.depthAll (rs.map tupI) ≤ 1 := by
    induction rs with
    | nil => exact ⟨rfl, by simp [PyData.depthAll]⟩
    | cons x r ih =>
      obtain ⟨d1, d2⟩ := depth0_ints x
      refine ⟨by simp only [List.map_cons, PyData.canLayAll0, tupI, PyData.canLay0, d1, ih.1, Bool.and_self], ?_⟩
      have := ih.2
      simp only [List.map_cons, PyData.depthAll, tupI, PyData.depth, d2]
      omega
  have h2 : PyData.depth (.list (rs.map tupI)) ≤ 64 := by simp only [PyData.depth]; omega
  simp only [SeqAt.shaped, PyData.canLay0, h1.1, h2, decide_true, Bool.and_self]
theorem cNe_tupI (a b : List Int) : cNe (tupI a) (tupI b) = some (!decide (a = b)) := by
  unfold cNe cEq tupI
  simp only [shaped_tints, Bool.and_self, if_true, PyData.eqv, eqv_ints, Option.map_some]
theorem cEq_tupI (a b : List Int) : cEq (tupI a) (tupI b) = some (decide (a = b)) := by
  unfold cEq tupI
  simp only [shaped_tints, Bool.and_self, if_true, PyData.eqv, eqv_ints]
theorem any_rows (x : List Int) (rs : List (List Int)) : ((rs.map tupI).any fun z => PyData.eqv z (tupI x)) = decide (x ∈ rs) := by
  induction rs with
  | nil => simp
  | cons y r ih =>
    rw [List.map_cons, List.any_cons, ih]
    simp only [tupI, PyData.eqv, eqv_ints, List.mem_cons]
    by_cases h : x = y
    · simp [h]
    · have h2 : ¬ y = x := fun z => h z.symm
      simp [h, h2]
theorem cNotIn_rows (x : List Int) (rs : List (List Int)) : cNotIn (tupI x) (.list (rs.map tupI)) = some (!decide (x ∈ rs)) := by
  have h : SeqAt.shaped (tupI x) = true := shaped_tints x
  unfold cNotIn
  simp only [h, shaped_rows, Bool.and_self, if_true, any_rows]
theorem cIn_rows (x : List Int) (rs : List (List Int)) : cIn (tupI x) (.list (rs.map tupI)) = some (decide (x ∈ rs)) := by
  have h : SeqAt.shaped (tupI x) = true := shaped_tints x
  unfold cIn
  simp only [h, shaped_rows, Bool.and_self, if_true, any_rows]
theorem cEq_pair {a b c d : Int} : cEq (.tuple [.int c, .int d]) (.tuple [.int a, .int b]) = some (decide (c = a ∧ d = b)) := by
  have := cEq_tupI [c, d] [a, b]
  simpa [tupI] using this
/-! ### what a crowd comes to by one meeting -/
structure Rl.Wk (r : Rl) : Prop where
  mt : ∀ m ∈ r.M, m.Ok r.R
  ml : r.M.length ≤ 1600
  yl : r.Y.length = r.R
  r2 : r.R ≤ 40
  sv : ∀ x ∈ r.S, x < r.R
theorem Rl.Ok.wk {r : Rl} {mx ss : Nat} (h : r.Ok mx ss) (hx : mx ≤ 40) : r.Wk := ⟨h.mt, Nat.le_trans h.ml (by decide), h.yl, Nat.le_trans h.r2 hx, h.sv⟩
theorem metP_some {r : Rl} {c x : List Int} {v : Int} (e : metP r c v = some x) : ∃ m ∈ r.M, mayP c m = true ∧ x = behindP c m := by
  unfold metP at e
  split at e
  · split at e
    · rename_i m em
      split at e
      · rename_i hy
        cases e
        exact ⟨m, List.mem_of_getElem? em, hy, rfl⟩
      · cases e
    · cases e
  · cases e
theorem metP_wk {r : Rl} {B v : Int} {c x : List Int} (h : r.Wk) (hc : Cr r.R B c) (hB : 0 ≤ B) (e : metP r c v = some x) : Cr r.R (B + 2) x := by
  obtain ⟨m, hm, hy, rfl⟩ := metP_some e
  exact hc.behind hB (h.mt _ hm) hy
def afterP (r : Rl) (c : List Int) : List (List Int) := (canI r c).map fun v => (metP r c v).getD []
theorem mem_after {r : Rl} {c x : List Int} : x ∈ afterP r c ↔ ∃ m ∈ r.M, mayP c m = true ∧ x = behindP c m := by
  unfold afterP
  rw [List.mem_map]
  constructor
  · rintro ⟨v, hv, rfl⟩
    rw [mem_canI] at hv
    obtain ⟨y, hy⟩ := Option.isSome_iff_exists.mp hv
    rw [hy, Option.getD_some]
    exact metP_some hy
  · rintro ⟨m, hm, hy, rfl⟩
    obtain ⟨i, hi, rfl⟩ := List.mem_iff_getElem.mp hm
    have e := metP_get (r := r) (c := c) hi
    rw [if_pos hy] at e
    refine ⟨i, ?_, by rw [e]; rfl⟩
    rw [mem_canI, e]; rfl
/-! ### the rules side by side -/
def pairP (r o : Rl) (p q : Nat) : Nat × Nat :=
  ((turnP r (p / o.R) (q / o.R)).1 * o.R + (turnP o (p % o.R) (q % o.R)).1, (turnP r (p / o.R) (q / o.R)).2 * o.R + (turnP o (p % o.R) (q % o.R)).2)
def mP (r o : Rl) (p q : Nat) : Me := ⟨p, q, (pairP r o p q).1, (pairP r o p q).2⟩
def inn (r o : Rl) (p : Nat) : Nat → List Me
  | 0 => []
  | j + 1 => inn r o p j ++ if pairP r o p (p + j) = (p, p + j) then [] else [mP r o p (p + j)]
def outM (r o : Rl) (R : Nat) : Nat → List Me
  | 0 => []
  | i + 1 => outM r o R i ++ inn r o i (R - i)
section
variable {r o : Rl} {mx mo ss so : Nat} {p q : Nat}
theorem mul_lt {a b m n : Nat} (ha : a < m) (hb : b < n) : a * n + b < m * n := by
  have : (a + 1) * n ≤ m * n := Nat.mul_le_mul_right n ha
  rw [Nat.add_mul] at this
  omega
theorem div_ltR {m n p : Nat} (hn : 0 < n) (h : p < m * n) : p / n < m := by
  rw [Nat.div_lt_iff_lt_mul hn]; exact h
theorem pairP_lt (h : r.Ok mx ss) (k : o.Ok mo so) (hp : p < r.R * o.R) (hq : q < r.R * o.R) : (pairP r o p q).1 < r.R * o.R ∧ (pairP r o p q).2 < r.R * o.R := by
  have o1 : 0 < o.R := k.r1
  have t1 := turnP_lt h (div_ltR o1 hp) (div_ltR o1 hq)
  have t2 := turnP_lt k (Nat.mod_lt p o1) (Nat.mod_lt q o1)
  exact ⟨mul_lt t1.1 t2.1, mul_lt t1.2 t2.2⟩
theorem split_eq {a b n p : Nat} (hb : b < n) (e : a * n + b = p) : a = p / n ∧ b = p % n := by
  subst e
  have hn : 0 < n := by omega
  constructor
  · rw [Nat.mul_comm, Nat.mul_add_div hn, Nat.div_eq_of_lt hb, Nat.add_zero]
  · rw [Nat.mul_comm, Nat.mul_add_mod, Nat.mod_eq_of_lt hb]
theorem join_eq {n p : Nat} : p / n * n + p % n = p := by rw [Nat.mul_comm]; exact Nat.div_add_mod p n
/-- as it is: just where both parts are -/
theorem pairP_iff (k : o.Ok mo so) {s t : Nat} (hp : p % o.R < o.R) : pairP r o p q = (s, t) ↔ turnP r (p / o.R) (q / o.R) = (s / o.R, t / o.R) ∧ turnP o (p % o.R) (q % o.R) = (s % o.R, t % o.R) := by
  have o1 : 0 < o.R := k.r1
  have t2 := turnP_lt k (Nat.mod_lt p o1) (Nat.mod_lt q o1)
  unfold pairP
  constructor
  · intro e
    obtain ⟨e1, e2⟩ := Prod.mk.inj e
    obtain ⟨a1, a2⟩ := split_eq t2.1 e1
    obtain ⟨b1, b2⟩ := split_eq t2.2 e2
    exact ⟨Prod.ext a1 b1, Prod.ext a2 b2⟩
  · rintro ⟨e1, e2⟩
    rw [e1, e2]
    exact Prod.ext join_eq join_eq
theorem pairP_swap (h : r.Ok mx ss) (k : o.Ok mo so) (e : pairP r o p q = (q, p)) : p = q := by
  have o1 : 0 < o.R := k.r1
  obtain ⟨e1, e2⟩ := (pairP_iff k (Nat.mod_lt p o1)).mp e
  have a1 := turnP_swap h e1
  have a2 := turnP_swap k e2
  rw [← join_eq (n := o.R) (p := p), a1, a2, join_eq]
theorem mP_ok (h : r.Ok mx ss) (k : o.Ok mo so) (hpq : p ≤ q) (hq : q < r.R * o.R) (n : ¬ pairP r o p q = (p, q)) : (mP r o p q).Ok (r.R * o.R) := by
  have hl := pairP_lt h k (Nat.lt_of_le_of_lt hpq hq) hq
  refine ⟨hpq, hq, hl.1, hl.2, fun z => n (Prod.ext z.1 z.2), fun z => ?_⟩
  have e : pairP r o p q = (q, p) := Prod.ext z.1 z.2
  have := pairP_swap h k e
  subst this
  exact n e
theorem inn_mem (h : r.Ok mx ss) (k : o.Ok mo so) : ∀ j, p + j ≤ r.R * o.R → ∀ m ∈ inn r o p j, m.Ok (r.R * o.R) ∧ m.a = p ∧ m.b < p + j
  | 0, _, m, hm => by cases hm
  | j + 1, hj, m, hm => by
    unfold inn at hm
    rcases List.mem_append.mp hm with hm | hm
    · have := inn_mem h k j (by omega) m hm
      exact ⟨this.1, this.2.1, by omega⟩
    · split at hm
      · cases hm
      · rename_i n
        have := List.mem_singleton.mp hm
        subst this
        exact ⟨mP_ok h k (by omega) (by omega) n, rfl, by show p + j < _; omega⟩
theorem inn_asc (h : r.Ok mx ss) (k : o.Ok mo so) : ∀ j, p + j ≤ r.R * o.R → ((inn r o p j).map Me.key).Pairwise (· < ·)
  | 0, _ => .nil
  | j + 1, hj => by
    unfold inn
    rw [List.map_append, List.pairwise_append]
    refine ⟨inn_asc h k j (by omega), ?_, fun x hx y hy => ?_⟩
    · split
      · exact .nil
      · simp
    · obtain ⟨m, hm, rfl⟩ := List.mem_map.mp hx
      have := inn_mem h k j (by omega) m hm
      split at hy
      · cases hy
      · simp only [List.map_cons, List.map_nil, List.mem_singleton] at hy
        subst hy
        show 64 * m.a + m.b < 64 * p + (p + j)
        omega
theorem outM_mem (h : r.Ok mx ss) (k : o.Ok mo so) : ∀ i, i ≤ r.R * o.R → ∀ m ∈ outM r o (r.R * o.R) i, m.Ok (r.R * o.R) ∧ m.a < i
  | 0, _, m, hm => by cases hm
  | i + 1, hi, m, hm => by
    unfold outM at hm
    rcases List.mem_append.mp hm with hm | hm
    · have := outM_mem h k i (by omega) m hm
      exact ⟨this.1, by omega⟩
    · have := inn_mem h k _ (by omega) m hm
      exact ⟨this.1, by omega⟩
theorem outM_asc (h : r.Ok mx ss) (k : o.Ok mo so) (h40 : r.R * o.R ≤ 40) : ∀ i, i ≤ r.R * o.R → ((outM r o (r.R * o.R) i).map Me.key).Pairwise (· < ·)
  | 0, _ => .nil
  | i + 1, hi => by
    unfold outM
    rw [List.map_append, List.pairwise_append]
    refine ⟨outM_asc h k h40 i (by omega), inn_asc h k _ (by omega), fun x hx y hy => ?_⟩
    obtain ⟨m, hm, rfl⟩ := List.mem_map.mp hx
    obtain ⟨n, hn, rfl⟩ := List.mem_map.mp hy
    have a1 := outM_mem h k i (by omega) m hm
    have a2 := inn_mem h k _ (by omega) n hn
    have := a1.1.b
    unfold Me.key
    omega
theorem inn_len : ∀ j, (inn r o p j).length ≤ j
  | 0 => Nat.le_refl _
  | j + 1 => by
    have := inn_len j
    unfold inn
    rw [List.length_append]
    split <;> simp <;> omega
theorem outM_len {R : Nat} : ∀ i, (outM r o R i).length ≤ i * R
  | 0 => Nat.zero_le _
  | i + 1 => by
    have h1 : (outM r o R i).length ≤ i * R := outM_len i
    have h2 := inn_len (r := r) (o := o) (p := i) (R - i)
    unfold outM
    rw [List.length_append, Nat.add_mul]
    omega
/-- what a pair says -/
def sayP (r o : Rl) (w : Bool) (p : Nat) : Bool := if w = true then r.Y.getD (p / o.R) false && o.Y.getD (p % o.R) false else r.Y.getD (p / o.R) false || o.Y.getD (p % o.R) false
def startP (r o : Rl) (i : Nat) : Nat := r.S.getD i 0 * o.R + o.S.getD i 0
def sideD (r o : Rl) (w : Bool) : D := .tuple [.int ((r.R * o.R : Nat) : Int), .tuple (((List.range r.S.length).map (startP r o)).map nD), .tuple ((outM r o (r.R * o.R) (r.R * o.R)).map mtD), .tuple (((List.range (r.R * o.R)).map (sayP r o w)).map .bool)]
def wordS (w : Bool) : Str := if w = true then Str.ofString "both" else Str.ofString "either"
end
def sideR (r o : Rl) (w : Bool) : Rl := ⟨r.R * o.R, (List.range r.S.length).map (startP r o), outM r o (r.R * o.R) (r.R * o.R), (List.range (r.R * o.R)).map (sayP r o w)⟩
theorem sideR_D {r o : Rl} {w : Bool} : rlD (sideR r o w) = sideD r o w := rfl
section
variable {r o : Rl} {mx mo ss so : Nat} {p q : Nat}
theorem inn_of {m : Me} : ∀ j, m ∈ inn r o p j → ∃ q, p ≤ q ∧ q < p + j ∧ ¬ pairP r o p q = (p, q) ∧ m = mP r o p q
  | 0, hm => by cases hm
  | j + 1, hm => by
    unfold inn at hm
    rcases List.mem_append.mp hm with hm | hm
    · obtain ⟨q, h1, h2, h3⟩ := inn_of j hm
      exact ⟨q, h1, by omega, h3⟩
    · split at hm
      · cases hm
      · rename_i n
        exact ⟨p + j, by omega, by omega, n, List.mem_singleton.mp hm⟩
theorem inn_has (n : ¬ pairP r o p q = (p, q)) (hpq : p ≤ q) : ∀ j, q < p + j → mP r o p q ∈ inn r o p j
  | 0, h => by omega
  | j + 1, h => by
    unfold inn
    by_cases e : q = p + j
    · subst e
      rw [if_neg n]
      simp
    · exact List.mem_append_left _ (inn_has n hpq j (by omega))
theorem outM_of {R : Nat} {m : Me} : ∀ i, i ≤ R → m ∈ outM r o R i → ∃ p q, p ≤ q ∧ q < R ∧ ¬ pairP r o p q = (p, q) ∧ m = mP r o p q
  | 0, _, hm => by cases hm
  | i + 1, hi, hm => by
    unfold outM at hm
    rcases List.mem_append.mp hm with hm | hm
    · exact outM_of i (by omega) hm
    · obtain ⟨q, h1, h2, h3⟩ := inn_of _ hm
      exact ⟨i, q, h1, by omega, h3⟩
theorem outM_has {R : Nat} (n : ¬ pairP r o p q = (p, q)) (hpq : p ≤ q) (hq : q < R) : ∀ i, p < i → mP r o p q ∈ outM r o R i
  | 0, h => by omega
  | i + 1, h => by
    unfold outM
    by_cases e : p = i
    · subst e
      exact List.mem_append_right _ (inn_has n hpq _ (by omega))
    · exact List.mem_append_left _ (outM_has n hpq hq i (by omega))
theorem side_wk (h : r.Ok mx ss) (k : o.Ok mo ss) (h40 : r.R * o.R ≤ 40) {w : Bool} : (sideR r o w).Wk := by
  refine ⟨fun m hm => (outM_mem h k _ (Nat.le_refl _) m hm).1, ?_, ?_, h40, fun x hx => ?_⟩
  · have h1 := outM_len (r := r) (o := o) (R := r.R * o.R) (r.R * o.R)
    have h2 : r.R * o.R * (r.R * o.R) ≤ 40 * 40 := Nat.mul_le_mul h40 h40
    show (outM r o (r.R * o.R) (r.R * o.R)).length ≤ _
    omega
  · show ((List.range (r.R * o.R)).map (sayP r o w)).length = r.R * o.R
    rw [List.length_map, List.length_range]
  · obtain ⟨i, hi, rfl⟩ := List.mem_map.mp hx
    have hi := List.mem_range.mp hi
    have b1 : r.S.getD i 0 < r.R := by
      rw [List.getD_eq_getElem?_getD, List.getElem?_eq_getElem hi]; exact h.sv _ (List.getElem_mem _)
    have b2 : o.S.getD i 0 < o.R := by
      rw [List.getD_eq_getElem?_getD, List.getElem?_eq_getElem (by have := h.sl; have := k.sl; omega)]; exact k.sv _ (List.getElem_mem _)
    exact mul_lt b1 b2
end
/-! ### a crowd laid together -/
def wt (f : Nat → Nat) (c : List Int) (j : Nat) : Nat → Int
  | 0 => 0
  | k + 1 => wt f c j k + if f k = j then gI c k else 0
def partF (f : Nat → Nat) (N : Nat) (c : List Int) : Nat → List Int
  | 0 => List.replicate N 0
  | k + 1 => addAt (partF f N c k) (f k) (gI c k)
def partP (f : Nat → Nat) (N : Nat) (c : List Int) : List Int := partF f N c c.length
section
variable {f : Nat → Nat} {N n : Nat} {c : List Int} {B : Int} {p q j : Nat}
theorem partF_length : ∀ k, (partF f N c k).length = N
  | 0 => List.length_replicate
  | k + 1 => by unfold partF; rw [addAt_length, partF_length k]
theorem gI_partF : ∀ k, (∀ i, i < k → f i < N) → gI (partF f N c k) j = wt f c j k
  | 0, _ => by unfold partF wt; exact gI_rep
  | k + 1, h => by
    unfold partF wt
    rw [gI_add (by rw [partF_length]; exact h k (by omega)), gI_partF k fun i hi => h i (by omega)]
theorem wt_add {v : Int} (hp : p < c.length) : ∀ k, wt f (addAt c p v) j k = wt f c j k + if p < k ∧ f p = j then v else 0
  | 0 => by unfold wt; simp
  | k + 1 => by
    unfold wt
    rw [wt_add hp k, gI_add hp]
    by_cases e : p = k
    · subst e
      by_cases z : f p = j <;> simp [z]
      omega
    · by_cases z : f k = j <;> by_cases y : f p = j <;> by_cases x : p < k
      all_goals (have x2 : p < k + 1 ↔ p < k := by omega); simp [e, x, x2, y, z]
      all_goals omega
theorem wt_rep : ∀ k, wt f (List.replicate n 0) j k = 0
  | 0 => rfl
  | k + 1 => by unfold wt; rw [wt_rep k, gI_rep]; simp
theorem wt_ge0 (h : ∀ i, 0 ≤ gI c i) : ∀ k, 0 ≤ wt f c j k
  | 0 => Int.le_refl _
  | k + 1 => by have := wt_ge0 h k; have := h k; unfold wt; split <;> omega
theorem wt_le (h : ∀ i, gI c i ≤ B) (hB : 0 ≤ B) : ∀ k : Nat, wt f c j k ≤ k * B
  | 0 => by unfold wt; omega
  | k + 1 => by
    have := wt_le h hB k; have := h k
    have e : ((k + 1 : Nat) : Int) * B = k * B + B := by rw [Int.natCast_add, Int.add_mul]; simp
    unfold wt
    rw [e]
    split <;> omega
theorem wt_one (h : ∀ i, 0 ≤ gI c i) (e : f p = j) : ∀ k, p < k → gI c p ≤ wt f c j k
  | 0, hp => by omega
  | k + 1, hp => by
    have z := wt_ge0 (f := f) (j := j) h k
    have y := h k
    unfold wt
    by_cases x : p = k
    · subst x; rw [if_pos e]; omega
    · have := wt_one h e k (by omega)
      split <;> omega
theorem wt_two (h : ∀ i, 0 ≤ gI c i) (e : f p = j) (e2 : f q = j) (hpq : p < q) : ∀ k, q < k → gI c p + gI c q ≤ wt f c j k
  | 0, hp => by omega
  | k + 1, hp => by
    have y := h k
    unfold wt
    by_cases x : q = k
    · subst x; rw [if_pos e2]; have := wt_one h e q hpq; omega
    · have := wt_two h e e2 hpq k (by omega)
      split <;> omega
theorem wt_pos : ∀ k, 1 ≤ wt f c j k → ∃ p, p < k ∧ f p = j ∧ 1 ≤ gI c p
  | 0, hp => by unfold wt at hp; omega
  | k + 1, hp => by
    unfold wt at hp
    by_cases x : 1 ≤ wt f c j k
    · obtain ⟨p, h1, h2⟩ := wt_pos k x
      exact ⟨p, by omega, h2⟩
    · split at hp
      · rename_i e; exact ⟨k, by omega, e, by omega⟩
      · omega
theorem wt_pos2 : ∀ k, 2 ≤ wt f c j k → ∃ p q, p ≤ q ∧ q < k ∧ f p = j ∧ f q = j ∧ 1 ≤ gI c p ∧ 1 ≤ gI c q ∧ (p = q → 2 ≤ gI c p)
  | 0, hp => by unfold wt at hp; omega
  | k + 1, hp => by
    unfold wt at hp
    by_cases x : 2 ≤ wt f c j k
    · obtain ⟨p, q, h1, h2, h3⟩ := wt_pos2 k x
      exact ⟨p, q, h1, by omega, h3⟩
    · split at hp
      · rename_i e
        by_cases y : 1 ≤ wt f c j k
        · obtain ⟨p, h1, h2, h3⟩ := wt_pos k y
          exact ⟨p, k, by omega, by omega, h2, e, h3, by omega, fun z => by omega⟩
        · exact ⟨k, k, by omega, by omega, e, e, by omega, by omega, fun z => by omega⟩
      · omega
theorem partP_length : (partP f N c).length = N := partF_length _
theorem gI_part (h : ∀ i, i < c.length → f i < N) : gI (partP f N c) j = wt f c j c.length := gI_partF _ h
theorem part_add {v : Int} (h : ∀ i, i < c.length → f i < N) (hp : p < c.length) : partP f N (addAt c p v) = addAt (partP f N c) (f p) v := by
  refine ext_gI (by rw [partP_length, addAt_length, partP_length]) fun j _ => ?_
  rw [gI_part (by rw [addAt_length]; exact h), gI_add (by rw [partP_length]; exact h p hp), gI_part h, addAt_length, wt_add hp]
  by_cases e : f p = j <;> simp [e, hp]
theorem part_rep (h : ∀ i, i < n → f i < N) : partP f N (List.replicate n 0) = List.replicate N 0 := by
  refine ext_gI (by rw [partP_length, List.length_replicate]) fun j _ => ?_
  rw [gI_part (by rw [List.length_replicate]; exact h), wt_rep, gI_rep]
theorem part_cr {R : Nat} (hc : Cr R B c) (hB : 0 ≤ B) (h : ∀ i, i < R → f i < N) : Cr N (R * B) (partP f N c) := by
  refine ⟨partP_length, fun x hx => ?_⟩
  obtain ⟨j, _, rfl⟩ := mem_gI hx
  rw [gI_part (by rw [hc.1]; exact h), hc.1]
  exact ⟨wt_ge0 (fun i => hc.at) _, wt_le (fun i => hc.le hB) hB _⟩
theorem part_behind {m : Me} (h : ∀ i, i < c.length → f i < N) (hm : m.Ok c.length) : partP f N (behindP c m) = addAt (addAt (addAt (addAt (partP f N c) (f m.a) (-1)) (f m.b) (-1)) (f m.c) 1) (f m.d) 1 := by
  unfold behindP
  rw [part_add (by rw [addAt_length, addAt_length, addAt_length]; exact h) (by rw [addAt_length, addAt_length, addAt_length]; exact hm.d),
    part_add (by rw [addAt_length, addAt_length]; exact h) (by rw [addAt_length, addAt_length]; exact hm.c),
    part_add (by rw [addAt_length]; exact h) (by rw [addAt_length]; exact hm.b), part_add h hm.a]
end
/-! ### one part of the pairs -/
section
variable {r o s : Rl} {mx mo ms ss : Nat} {p q : Nat} {f : Nat → Nat} {n : Nat} {c : List Int} {B : Int} {w : Bool}
/-- a part of the pairs: what it is, and that it turns as its rule tells -/
structure Part (r o s : Rl) (f : Nat → Nat) : Prop where
  lt : ∀ i, i < r.R * o.R → f i < s.R
  tn : ∀ p q, turnP s (f p) (f q) = (f (pairP r o p q).1, f (pairP r o p q).2)
theorem part0 (k : o.Ok mo ss) : Part r o r fun p => p / o.R := by
  have o1 : 0 < o.R := k.r1
  refine ⟨fun i hi => div_ltR o1 hi, fun p q => ?_⟩
  have t2 := turnP_lt k (Nat.mod_lt p o1) (Nat.mod_lt q o1)
  have a := (split_eq t2.1 (a := (turnP r (p / o.R) (q / o.R)).1) rfl).1
  have b := (split_eq t2.2 (a := (turnP r (p / o.R) (q / o.R)).2) rfl).1
  exact Prod.ext a b
theorem part1 (k : o.Ok mo ss) : Part r o o fun p => p % o.R := by
  have o1 : 0 < o.R := k.r1
  refine ⟨fun i hi => Nat.mod_lt _ o1, fun p q => ?_⟩
  have t2 := turnP_lt k (Nat.mod_lt p o1) (Nat.mod_lt q o1)
  have a := (split_eq t2.1 (a := (turnP r (p / o.R) (q / o.R)).1) rfl).2
  have b := (split_eq t2.2 (a := (turnP r (p / o.R) (q / o.R)).2) rfl).2
  exact Prod.ext a b
theorem add4 {a b d e x : Nat} {l : List Int} (ha : a < l.length) (hb : b < l.length) (hd : d < l.length) (he : e < l.length) : gI (addAt (addAt (addAt (addAt l a (-1)) b (-1)) d 1) e 1) x = gI l x + (if a = x then -1 else 0) + (if b = x then -1 else 0) + (if d = x then 1 else 0) + (if e = x then 1 else 0) := by
  rw [gI_add (by rw [addAt_length, addAt_length, addAt_length]; exact he), gI_add (by rw [addAt_length, addAt_length]; exact hd), gI_add (by rw [addAt_length]; exact hb), gI_add ha]
theorem add4_turn {a b d e : Nat} {l : List Int} (ha : a < l.length) (hb : b < l.length) (hd : d < l.length) (he : e < l.length) : addAt (addAt (addAt (addAt l a (-1)) b (-1)) d 1) e 1 = addAt (addAt (addAt (addAt l b (-1)) a (-1)) e 1) d 1 := by
  refine ext_gI (by simp only [addAt_length]) fun x _ => ?_
  rw [add4 ha hb hd he, add4 hb ha he hd]
  omega
theorem add4_stay {a b : Nat} {l : List Int} (ha : a < l.length) (hb : b < l.length) : addAt (addAt (addAt (addAt l a (-1)) b (-1)) a 1) b 1 = l := by
  refine ext_gI (by simp only [addAt_length]) fun x _ => ?_
  rw [add4 ha hb ha hb]
  split <;> split <;> omega
/-- what pairs do there, the part's rule's hands do, or nothing -/
theorem part_does (h : r.Ok mx ss) (k : o.Ok mo ss) (g : s.Ok ms ss) (P : Part r o s f) (hc : Cr (r.R * o.R) B c) (hpq : p ≤ q) (hq : q < r.R * o.R) (n : ¬ pairP r o p q = (p, q)) (hy : mayP c (mP r o p q) = true) :
    partP f s.R (behindP c (mP r o p q)) = partP f s.R c ∨ partP f s.R (behindP c (mP r o p q)) ∈ afterP s (partP f s.R c) := by
  have hlt : ∀ i, i < c.length → f i < s.R := by rw [hc.1]; exact P.lt
  have hm : (mP r o p q).Ok c.length := by rw [hc.1]; exact mP_ok h k hpq hq n
  rw [part_behind hlt hm]
  have tn := P.tn p q
  have fp : f p < s.R := P.lt p (by omega)
  have fq : f q < s.R := P.lt q hq
  have fc : f (pairP r o p q).1 < s.R := hlt _ hm.c
  have fd : f (pairP r o p q).2 < s.R := hlt _ hm.d
  show addAt (addAt (addAt (addAt _ (f p) (-1)) (f q) (-1)) (f (pairP r o p q).1) 1) (f (pairP r o p q).2) 1 = _ ∨ addAt (addAt (addAt (addAt _ (f p) (-1)) (f q) (-1)) (f (pairP r o p q).1) 1) (f (pairP r o p q).2) 1 ∈ _
  have pl : (partP f s.R c).length = s.R := partP_length
  have h0 : ∀ i, 0 ≤ gI c i := fun i => hc.at
  have may : ∀ m : Me, (m.a = f p ∧ m.b = f q) ∨ (m.a = f q ∧ m.b = f p) → mayP (partP f s.R c) m = true := by
    intro m hm2
    have v1 : 1 ≤ gI c p ∧ 1 ≤ gI c q ∧ (p = q → 2 ≤ gI c p) := by
      unfold mayP at hy
      split at hy
      · rename_i e; have e : p = q := e; subst e; have := of_decide_eq_true hy; exact ⟨by show 1 ≤ gI c p; have : 2 ≤ gI c p := this; omega, by have : 2 ≤ gI c p := this; omega, fun _ => this⟩
      · rename_i e; rw [Bool.and_eq_true] at hy; exact ⟨of_decide_eq_true hy.1, of_decide_eq_true hy.2, fun z => absurd z e⟩
    obtain ⟨v1, v2, v3⟩ := v1
    have w1 := wt_one (f := f) (p := p) h0 rfl c.length (by rw [hc.1]; omega)
    have w2 := wt_one (f := f) (p := q) h0 rfl c.length (by rw [hc.1]; omega)
    unfold mayP
    rw [gI_part hlt, gI_part hlt]
    by_cases e : f p = f q
    · have e2 : m.a = m.b := by omega
      have e3 : m.a = f q := by omega
      rw [if_pos e2, e3]
      apply decide_eq_true
      by_cases z : p = q
      · subst z; have := v3 rfl; omega
      · have := wt_two (f := f) (p := p) (q := q) h0 e rfl (by omega) c.length (by rw [hc.1]; omega)
        omega
    · have e2 : ¬ m.a = m.b := by omega
      rw [if_neg e2]
      rcases hm2 with ⟨a1, a2⟩ | ⟨a1, a2⟩
      · rw [a1, a2, decide_eq_true (by omega), decide_eq_true (by omega)]; rfl
      · rw [a1, a2, decide_eq_true (by omega), decide_eq_true (by omega)]; rfl
  unfold turnP at tn
  split at tn
  · cases e : findM s.M (f p) (f q) with
    | none =>
      rw [e] at tn
      obtain ⟨t1, t2⟩ := Prod.mk.inj tn
      left
      rw [← t1, ← t2]
      exact add4_stay (by omega) (by omega)
    | some m =>
      rw [e] at tn
      obtain ⟨t1, t2⟩ := Prod.mk.inj tn
      obtain ⟨m1, m2, m3⟩ := findM_some e
      right
      rw [mem_after]
      refine ⟨m, m1, may m (.inl ⟨m2, m3⟩), ?_⟩
      rw [← t1, ← t2, ← m2, ← m3]
      rfl
  · cases e : findM s.M (f q) (f p) with
    | none =>
      rw [e] at tn
      obtain ⟨t1, t2⟩ := Prod.mk.inj tn
      left
      rw [← t1, ← t2]
      exact add4_stay (by omega) (by omega)
    | some m =>
      rw [e] at tn
      obtain ⟨t1, t2⟩ := Prod.mk.inj tn
      obtain ⟨m1, m2, m3⟩ := findM_some e
      right
      rw [mem_after]
      refine ⟨m, m1, may m (.inr ⟨m2, m3⟩), ?_⟩
      have gm := g.mt m m1
      have ga := gm.a; have gb := gm.b; have gc := gm.c; have gd := gm.d
      rw [← t1, ← t2, ← m2, ← m3, add4_turn (by omega) (by omega) (by omega) (by omega)]
      rfl
/-- what the part's rule's hands can do there, some pairs can do -/
theorem part_can (h : r.Ok mx ss) (k : o.Ok mo ss) (g : s.Ok ms ss) (P : Part r o s f) (hc : Cr (r.R * o.R) B c) {m : Me} (hm : m ∈ s.M) (hy : mayP (partP f s.R c) m = true) :
    ∃ p q, p ≤ q ∧ q < r.R * o.R ∧ ¬ pairP r o p q = (p, q) ∧ mayP c (mP r o p q) = true ∧ partP f s.R (behindP c (mP r o p q)) = behindP (partP f s.R c) m := by
  have hlt : ∀ i, i < c.length → f i < s.R := by rw [hc.1]; exact P.lt
  have h0 : ∀ i, 0 ≤ gI c i := fun i => hc.at
  have mo := g.mt m hm
  have pl : (partP f s.R c).length = s.R := partP_length
  -- two hands
  have two : ∃ p q, p < c.length ∧ q < c.length ∧ f p = m.a ∧ f q = m.b ∧ 1 ≤ gI c p ∧ 1 ≤ gI c q ∧ (p = q → 2 ≤ gI c p) := by
    unfold mayP at hy
    rw [gI_part hlt, gI_part hlt] at hy
    split at hy
    · rename_i e
      obtain ⟨p, q, a1, a2, a3, a4, a5⟩ := wt_pos2 _ (of_decide_eq_true hy)
      exact ⟨p, q, by omega, a2, a3, by omega, a5⟩
    · rename_i e
      rw [Bool.and_eq_true] at hy
      obtain ⟨p, a1, a2, a3⟩ := wt_pos _ (of_decide_eq_true hy.1)
      obtain ⟨q, b1, b2, b3⟩ := wt_pos _ (of_decide_eq_true hy.2)
      exact ⟨p, q, a1, b1, a2, b2, a3, b3, fun z => by subst z; omega⟩
  obtain ⟨p, q, hp, hq, ea, eb, v1, v2, v3⟩ := two
  rw [hc.1] at hp hq
  have may : ∀ p q, 1 ≤ gI c p → 1 ≤ gI c q → (p = q → 2 ≤ gI c p) → mayP c (mP r o p q) = true := by
    intro p q v1 v2 v3
    unfold mayP
    by_cases e : p = q
    · rw [if_pos (show (mP r o p q).a = (mP r o p q).b from e)]; exact decide_eq_true (v3 e)
    · rw [if_neg (show ¬ (mP r o p q).a = (mP r o p q).b from e)]
      rw [show (mP r o p q).a = p from rfl, show (mP r o p q).b = q from rfl, decide_eq_true v1, decide_eq_true v2]; rfl
  by_cases hpq : p ≤ q
  · have tn := P.tn p q
    rw [ea, eb, turnP_here g hm] at tn
    obtain ⟨t1, t2⟩ := Prod.mk.inj tn
    have n : ¬ pairP r o p q = (p, q) := fun e => by
      rw [e] at t1 t2
      exact mo.ne ⟨t1.trans ea, t2.trans eb⟩
    refine ⟨p, q, hpq, hq, n, may p q v1 v2 v3, ?_⟩
    rw [part_behind hlt (by rw [hc.1]; exact mP_ok h k hpq hq n)]
    show addAt (addAt (addAt (addAt _ (f p) (-1)) (f q) (-1)) (f (pairP r o p q).1) 1) (f (pairP r o p q).2) 1 = _
    rw [← t1, ← t2, ea, eb]
    rfl
  · have tn := P.tn q p
    rw [ea, eb] at tn
    have tt : turnP s m.b m.a = (m.d, m.c) ∨ (m.a = m.b ∧ turnP s m.b m.a = (m.c, m.d)) := by
      by_cases e : m.a = m.b
      · refine .inr ⟨e, ?_⟩
        have := turnP_here g hm
        rw [← e] at this ⊢
        exact this
      · exact .inl (turnP_turned g hm e)
    have gc := mo.c; have gd := mo.d; have ga := mo.a; have gb := mo.b
    have n : ¬ pairP r o q p = (q, p) := fun e => by
      rw [e] at tn
      dsimp only at tn
      rw [ea, eb] at tn
      have n1 := mo.ne; have n2 := mo.nt
      rcases tt with tt | ⟨z, tt⟩
      · rw [tt] at tn
        obtain ⟨t1, t2⟩ := Prod.mk.inj tn
        exact n1 ⟨by omega, by omega⟩
      · rw [tt] at tn
        obtain ⟨t1, t2⟩ := Prod.mk.inj tn
        exact n1 ⟨by omega, by omega⟩
    refine ⟨q, p, by omega, hp, n, may q p v2 v1 (fun z => by omega), ?_⟩
    rw [part_behind hlt (by rw [hc.1]; exact mP_ok h k (by omega) hp n)]
    show addAt (addAt (addAt (addAt _ (f q) (-1)) (f p) (-1)) (f (pairP r o q p).1) 1) (f (pairP r o q p).2) 1 = _
    rcases tt with tt | ⟨z, tt⟩
    · rw [tt] at tn
      obtain ⟨t1, t2⟩ := Prod.mk.inj tn
      rw [← t1, ← t2, ea, eb, add4_turn (by omega) (by omega) (by omega) (by omega)]
      rfl
    · rw [tt] at tn
      obtain ⟨t1, t2⟩ := Prod.mk.inj tn
      rw [← t1, ← t2, ea, eb, z]
      unfold behindP
      rw [z]
theorem after_side {x : List Int} (hx : x ∈ afterP (sideR r o w) c) : ∃ p q, p ≤ q ∧ q < r.R * o.R ∧ ¬ pairP r o p q = (p, q) ∧ mayP c (mP r o p q) = true ∧ x = behindP c (mP r o p q) := by
  rw [mem_after] at hx
  obtain ⟨m, hm, hy, rfl⟩ := hx
  obtain ⟨p, q, h1, h2, h3, rfl⟩ := outM_of _ (Nat.le_refl _) hm
  exact ⟨p, q, h1, h2, h3, hy, rfl⟩
theorem parts_fit (h : r.Ok mx ss) (k : o.Ok mo ss) (g : s.Ok ms ss) (P : Part r o s f) (hc : Cr (r.R * o.R) B c) :
    (∀ x ∈ (afterP (sideR r o w) c).map (partP f s.R), x = partP f s.R c ∨ x ∈ afterP s (partP f s.R c)) ∧ ∀ x ∈ afterP s (partP f s.R c), x ∈ (afterP (sideR r o w) c).map (partP f s.R) := by
  refine ⟨fun x hx => ?_, fun x hx => ?_⟩
  · obtain ⟨y, hy, rfl⟩ := List.mem_map.mp hx
    obtain ⟨p, q, h1, h2, h3, h4, rfl⟩ := after_side hy
    exact part_does h k g P hc h1 h2 h3 h4
  · obtain ⟨m, hm, hy, rfl⟩ := mem_after.mp hx
    obtain ⟨p, q, h1, h2, h3, h4, h5⟩ := part_can h k g P hc hm hy
    rw [List.mem_map]
    refine ⟨_, mem_after.mpr ⟨mP r o p q, outM_has h3 h1 h2 _ (by omega), h4, rfl⟩, h5⟩
/-- the beginning's crowd of pairs, laid together -/
theorem part_begun (h : r.Ok mx ss) (k : o.Ok mo ss) (g : s.Ok ms ss) (P : Part r o s f) (hS : ∀ i, i < ss → f (startP r o i) = s.S.getD i 0) {n : List Int} (hn : n.length = ss) :
    ∀ i, i ≤ ss → partP f s.R (begunP (sideR r o w) n i) = begunP s n i
  | 0, _ => by
    unfold begunP
    rw [List.take_zero, List.take_zero, List.foldl_nil, List.foldl_nil]
    exact part_rep P.lt
  | i + 1, hi => by
    have sl := h.sl; have gl := g.sl
    have hiS : i < (sideR r o w).S.length := by show i < ((List.range r.S.length).map (startP r o)).length; rw [List.length_map, List.length_range]; omega
    have e : (sideR r o w).S[i] = startP r o i := by
      show ((List.range r.S.length).map (startP r o))[i]'(by rw [List.length_map, List.length_range]; omega) = _
      rw [List.getElem_map, List.getElem_range]
    have bl : (begunP (sideR r o w) n i).length = r.R * o.R := begunP_length i
    have lt : startP r o i < r.R * o.R := by
      have b1 : r.S.getD i 0 < r.R := by
        rw [List.getD_eq_getElem?_getD, List.getElem?_eq_getElem (by omega)]; exact h.sv _ (List.getElem_mem _)
      have b2 : o.S.getD i 0 < o.R := by
        rw [List.getD_eq_getElem?_getD, List.getElem?_eq_getElem (by have := k.sl; omega)]; exact k.sv _ (List.getElem_mem _)
      exact mul_lt b1 b2
    rw [begunP_succ hiS (by omega), begunP_succ (by omega) (by omega), e, part_add (by rw [bl]; exact P.lt) (by omega), part_begun h k g P hS hn i (by omega), hS i (by omega)]
    congr 1
    rw [List.getD_eq_getElem?_getD, List.getElem?_eq_getElem (by omega)]; rfl
/-! what is said -/
theorem mem_words {c : List Int} {b : Bool} : b ∈ wordsP s c ↔ ∃ i, i < s.R ∧ gI c i > 0 ∧ b = s.Y.getD i false := by
  unfold wordsP
  simp only [List.mem_map, List.mem_filter, List.mem_range, decide_eq_true_eq]
  constructor
  · rintro ⟨i, ⟨h1, h2⟩, rfl⟩; exact ⟨i, h1, h2, rfl⟩
  · rintro ⟨i, h1, h2, rfl⟩; exact ⟨i, ⟨h1, h2⟩, rfl⟩
theorem said_yes {W : List Bool} : saidP W = "yes" ↔ ∀ b ∈ W, b = true := by
  unfold saidP
  have e : (W.all id = true) ↔ ∀ b ∈ W, b = true := by rw [List.all_eq_true]; rfl
  constructor
  · intro h
    split at h
    · rename_i z; exact e.mp z
    · split at h <;> exact absurd h (by decide)
  · intro h; rw [if_pos (e.mpr h)]
theorem said_no {W : List Bool} : saidP W = "no" ↔ W ≠ [] ∧ ∀ b ∈ W, b = false := by
  unfold saidP
  have e : (W.all id = true) ↔ ∀ b ∈ W, b = true := by rw [List.all_eq_true]; rfl
  have e2 : (W.any id = true) ↔ ∃ b ∈ W, b = true := by rw [List.any_eq_true]; rfl
  constructor
  · intro h
    split at h
    · exact absurd h (by decide)
    · rename_i z
      split at h
      · exact absurd h (by decide)
      · rename_i y
        refine ⟨fun n => z (by rw [n]; rfl), fun b hb => ?_⟩
        cases b with
        | false => rfl
        | true => exact absurd (e2.mpr ⟨true, hb, rfl⟩) y
  · rintro ⟨n, a⟩
    obtain ⟨b, hb⟩ := List.exists_mem_of_ne_nil _ n
    rw [if_neg (fun z => by have := e.mp z b hb; rw [a b hb] at this; cases this), if_neg (fun z => by obtain ⟨b, h1, h2⟩ := e2.mp z; rw [a b h1] at h2; cases h2)]
theorem say_at (hp : p < r.R * o.R) : (sideR r o w).Y.getD p false = sayP r o w p := by
  show ((List.range (r.R * o.R)).map (sayP r o w)).getD p false = _
  rw [List.getD_eq_getElem?_getD, List.getElem?_map, List.getElem?_range hp]; rfl
/-- who is in a room of a part -/
theorem part_room (P : Part r o s f) (hc : Cr (r.R * o.R) B c) {j : Nat} : gI (partP f s.R c) j > 0 ↔ ∃ p, p < r.R * o.R ∧ f p = j ∧ gI c p > 0 := by
  have hlt : ∀ i, i < c.length → f i < s.R := by rw [hc.1]; exact P.lt
  rw [gI_part hlt, hc.1]
  constructor
  · intro h
    obtain ⟨p, h1, h2, h3⟩ := wt_pos (f := f) (c := c) (j := j) (r.R * o.R) (by omega)
    exact ⟨p, h1, h2, by omega⟩
  · rintro ⟨p, h1, h2, h3⟩
    have := wt_one (c := c) (fun i => hc.at) h2 _ h1
    omega
theorem part_words (P : Part r o s f) (hc : Cr (r.R * o.R) B c) {b : Bool} : b ∈ wordsP s (partP f s.R c) ↔ ∃ p, p < r.R * o.R ∧ gI c p > 0 ∧ b = s.Y.getD (f p) false := by
  rw [mem_words]
  constructor
  · rintro ⟨i, h1, h2, rfl⟩
    obtain ⟨p, a1, a2, a3⟩ := (part_room P hc).mp h2
    exact ⟨p, a1, a3, by rw [a2]⟩
  · rintro ⟨p, h1, h2, rfl⟩
    exact ⟨f p, P.lt p h1, (part_room P hc).mpr ⟨p, h1, rfl, h2⟩, rfl⟩
theorem pair_words (hc : Cr (r.R * o.R) B c) {b : Bool} : b ∈ wordsP (sideR r o w) c ↔ ∃ p, p < r.R * o.R ∧ gI c p > 0 ∧ b = sayP r o w p := by
  rw [mem_words]
  constructor
  · rintro ⟨i, h1, h2, rfl⟩
    exact ⟨i, h1, h2, say_at h1⟩
  · rintro ⟨p, h1, h2, rfl⟩
    exact ⟨p, h1, h2, (say_at h1).symm⟩
theorem said_both (k : o.Ok mo ss) (hc : Cr (r.R * o.R) B c) : saidP (wordsP (sideR r o true) c) = "yes" ↔ saidP (wordsP r (partP (fun p => p / o.R) r.R c)) = "yes" ∧ saidP (wordsP o (partP (fun p => p % o.R) o.R c)) = "yes" := by
  rw [said_yes, said_yes, said_yes]
  simp only [part_words (part0 (r := r) k) hc, part_words (part1 (r := r) k) hc, pair_words hc]
  constructor
  · intro h
    refine ⟨?_, ?_⟩
    · rintro b ⟨p, h1, h2, rfl⟩
      have := h _ ⟨p, h1, h2, rfl⟩
      unfold sayP at this
      rw [if_pos rfl, Bool.and_eq_true] at this
      exact this.1
    · rintro b ⟨p, h1, h2, rfl⟩
      have := h _ ⟨p, h1, h2, rfl⟩
      unfold sayP at this
      rw [if_pos rfl, Bool.and_eq_true] at this
      exact this.2
  · rintro ⟨a, b⟩ x ⟨p, h1, h2, rfl⟩
    unfold sayP
    rw [if_pos rfl, Bool.and_eq_true]
    exact ⟨a _ ⟨p, h1, h2, rfl⟩, b _ ⟨p, h1, h2, rfl⟩⟩
theorem said_either (k : o.Ok mo ss) (hc : Cr (r.R * o.R) B c) : saidP (wordsP (sideR r o false) c) = "no" ↔ saidP (wordsP r (partP (fun p => p / o.R) r.R c)) = "no" ∧ saidP (wordsP o (partP (fun p => p % o.R) o.R c)) = "no" := by
  rw [said_no, said_no, said_no]
  have ne : ∀ W : List Bool, W ≠ [] ↔ ∃ b, b ∈ W := fun W => ⟨List.exists_mem_of_ne_nil W, fun ⟨b, hb⟩ z => by rw [z] at hb; cases hb⟩
  rw [ne, ne, ne]
  simp only [part_words (part0 (r := r) k) hc, part_words (part1 (r := r) k) hc, pair_words hc]
  constructor
  · rintro ⟨⟨b, p, p1, p2, _⟩, h⟩
    refine ⟨⟨⟨_, p, p1, p2, rfl⟩, ?_⟩, ⟨_, p, p1, p2, rfl⟩, ?_⟩
    · rintro b ⟨p, h1, h2, rfl⟩
      have := h _ ⟨p, h1, h2, rfl⟩
      unfold sayP at this
      rw [if_neg Bool.false_ne_true, Bool.or_eq_false_iff] at this
      exact this.1
    · rintro b ⟨p, h1, h2, rfl⟩
      have := h _ ⟨p, h1, h2, rfl⟩
      unfold sayP at this
      rw [if_neg Bool.false_ne_true, Bool.or_eq_false_iff] at this
      exact this.2
  · rintro ⟨⟨⟨b, p, p1, p2, _⟩, a⟩, _, b⟩
    refine ⟨⟨_, p, p1, p2, rfl⟩, ?_⟩
    rintro x ⟨p, h1, h2, rfl⟩
    unfold sayP
    rw [if_neg Bool.false_ne_true, Bool.or_eq_false_iff]
    exact ⟨a _ ⟨p, h1, h2, rfl⟩, b _ ⟨p, h1, h2, rfl⟩⟩
end
end L3
set_option Elab.async false
set_option linter.all false
set_option maxRecDepth 100000
set_option maxHeartbeats 4000000
set_option autoImplicit false
/-! L3ZE: sorted of data that are alike. -/
namespace L3
open PySem PySem.Spec L2
open PySem.W (EachIs AllAlike Sortable dataLe alike alikeAll TotalLe sort_maps sort_unique)
def SortOk (l : List D) : Prop := AllAlike l ∧ Sortable l ∧ ∀ d ∈ l, SeqAt.shaped d = true
def sortD (l : List D) : List D := l.mergeSort (dataLe false id)
def rSortedD (K : Fg) : List V → Hp → VK → Prop := fun vs H Q => ∃ (a : Addr) (ps : List (V × D)), vs = [V.ref a] ∧ SqL K H a (ps.map (·.1)) ∧ (∀ p ∈ ps, Dp K H p.1 p.2) ∧ SortOk (ps.map (·.2)) ∧
  ∀ p, H p = none → Q (.ref p) (upd H p (.lst ((ps.mergeSort (dataLe false Prod.snd)).map (·.1))))
theorem each_vals {ps : List (V × D)} : ∀ {us : List Value}, Vals (ps.map (·.1)) us → EachIs (fun u p => RelV p.1 u) us ps := by
  induction ps with
  | nil => intro us h; cases h; exact .nil
  | cons p ps ih => intro us h; cases h with | cons h1 h2 => exact .cons h1 (ih h2)
theorem vals_each {ps : List (V × D)} : ∀ {us : List Value}, EachIs (fun u p => RelV p.1 u) us ps → Vals (ps.map (·.1)) us := by
  induction ps with
  | nil => intro us h; cases h; exact .nil
  | cons p ps ih => intro us h; cases h with | cons h1 h2 => exact .cons h1 (ih h2)
theorem each_with {R : Value → V × D → Prop} {S : Value → V × D → Prop} : ∀ {us : List Value} {ps : List (V × D)}, EachIs R us ps → (∀ u p, p ∈ ps → R u p → S u p) → EachIs S us ps
  | _, _, .nil, _ => .nil
  | _, _, .cons h1 h2, k => .cons (k _ _ (List.mem_cons_self ..) h1) (each_with h2 fun u p hp => k u p (List.mem_cons_of_mem _ hp))
theorem shaped_depth {d : D} (h : SeqAt.shaped d = true) : d.canLay0 = true ∧ d.depth ≤ 64 := by
  unfold SeqAt.shaped at h
  rw [Bool.and_eq_true] at h
  exact ⟨h.1, of_decide_eq_true h.2⟩
theorem cr_sortedD {X : Cx} (hu : X.A.units + 66 < cLine) : CallR X (.builtin "sorted") (rSortedD X.K) := by
  intro pins s σ H vs us Q I r h
  obtain ⟨a, ps, rfl, hs, hd, ⟨hal, hk, hsh⟩, q⟩ := h
  obtain ⟨its, rv, hl, hz⟩ := I.list hs
  rw [Vals.ref1 r]
  have e := each_vals rv
  have er : EachIs (fun v (b : V × D) => ∃ as, Reads s.heap v b.2 as) its ps := each_with e fun u p hp r => Dp.reads I p.2 p.1 u (hd p hp) r
  rw [List.length_map] at hz
  refine PySem.W.sorted_data (bs := ps) (enc := Prod.snd) hl.isList e er hal hk hz (fun b hb => ?_) fun out ho eo => ?_
  · have := (shaped_depth (hsh b.2 (List.mem_map.mpr ⟨b, hb, rfl⟩))).2
    show X.A.units + 2 + b.2.depth < cLine
    omega
  · obtain ⟨ep, hp⟩ := PyProof.Rows.sortedAll_at s.heap its out.toArray
    have hn := I.hok.fresh (Nat.le_succ s.heap.objs.size)
    refine ⟨.ref _, upd H (s.heap.objs.size + 1) (.lst ((ps.mergeSort (dataLe false Prod.snd)).map (·.1))), I.laid (a := s.heap.objs.size + 1) (t' := s.toks) (fun b o e => PyProof.Rows.sortedAll_old e) (Nat.le_succ _) ⟨?_, out, ep, vals_each eo, hp⟩, rfl, q _ hn⟩
    rw [List.length_map, List.length_mergeSort]
    exact hz
theorem rpAll_zip {K : Fg} {H : Hp} {O : Ow} : ∀ {xs : List V} {ds : List D}, RpAll K H O xs ds → ∃ ps : List (V × D), ps.map (·.1) = xs ∧ ps.map (·.2) = ds ∧ ∀ p ∈ ps, Rp K H O p.1 p.2
  | _, _, .nil => ⟨[], rfl, rfl, by simp⟩
  | _, _, .cons (v := v) (d := d) h r => by
    obtain ⟨ps, e1, e2, h2⟩ := rpAll_zip r
    refine ⟨(v, d) :: ps, by rw [List.map_cons, e1], by rw [List.map_cons, e2], fun p hp => ?_⟩
    rcases List.mem_cons.mp hp with rfl | hp
    · exact h
    · exact h2 p hp
theorem rpAll_of_zip {K : Fg} {H : Hp} {O : Ow} : ∀ {ps : List (V × D)}, (∀ p ∈ ps, Rp K H O p.1 p.2) → RpAll K H O (ps.map (·.1)) (ps.map (·.2))
  | [], _ => .nil
  | p :: ps, h => .cons (h p (List.mem_cons_self ..)) (rpAll_of_zip fun q hq => h q (List.mem_cons_of_mem _ hq))
def rSortedB (K : Fg) : List V → Hp → VK → Prop := fun vs H Q => rSortedA K vs H Q ∨ rSortedD K vs H Q
open Classical in
noncomputable def bSortedD : List D → Option (Kd × D)
  | [.list l] => if SortOk l then some (.f, .list (sortD l)) else none
  | _ => none
noncomputable def bSortedB (ds : List D) : Option (Kd × D) := match bSortedA ds with
  | some z => some z
  | none => bSortedD ds
theorem g_sortedD {K : Fg} : CallOk K (rSortedD K) bSortedD := by
  intro H O vs ds k z Q s h c
  unfold bSortedD at h
  split at h
  · rename_i l
    split at h
    · rename_i ok
      cases h
      obtain ⟨v, rfl, s1⟩ := s.one
      obtain ⟨a, xs, rfl, h1, r1⟩ := s1.lst
      obtain ⟨ps, rfl, rfl, h2⟩ := rpAll_zip r1
      refine ⟨a, ps, rfl, .of h1, fun p hp => (h2 p hp).dp (shaped_depth (ok.2.2 p.2 (List.mem_map.mpr ⟨p, hp, rfl⟩))).1, ok, fun p hp => ?_⟩
      have e : sortD (ps.map (·.2)) = (ps.mergeSort (dataLe false Prod.snd)).map (·.2) := (sort_maps (r := dataLe false Prod.snd) (s := dataLe false id) (fun p : V × D => p.2) fun _ _ _ _ => rfl).symm
      rw [e] at c
      exact Cf.lst c (rpAll_of_zip fun p hp => h2 p (List.mem_mergeSort.mp hp)) p hp
    · cases h
  · cases h
theorem g_sortedB {K : Fg} : CallOk K (rSortedB K) bSortedB := by
  intro H O vs ds k z Q s h c
  unfold bSortedB at h
  split at h
  · rename_i e
    cases h
    exact .inl (g_sortedA H O vs ds k z Q s e c)
  · exact .inr (g_sortedD H O vs ds k z Q s h c)
theorem bSortedB_D {l : List D} (h : intsOf l = none) (ok : SortOk l) : bSortedB [.list l] = some (.f, .list (sortD l)) := by
  unfold bSortedB bSortedA
  dsimp only
  rw [h]
  show bSortedD _ = _
  unfold bSortedD
  dsimp only
  rw [if_pos ok]
theorem bSortedB_I {ns : List Int} : bSortedB [.list (ns.map .int)] = some (.f, .list ((sortI ns).map .int)) := by
  unfold bSortedB bSortedA
  dsimp only
  rw [intsOf_map]
  rfl
end L3
set_option Elab.async false
set_option linter.all false
set_option maxRecDepth 100000
set_option maxHeartbeats 4000000
set_option autoImplicit false
/-! L3ZF: dicts that a slot owns, their keys tuples of ints and texts: new, stored into, read, asked, sorted. -/
namespace L3
open PySem PySem.Spec L2
open PySem.W (EachIs AllAlike Sortable dataLe alike alikeAll TotalLe sort_maps sort_unique)
section
variable {K : Fg} {H : Hp} {O : Ow}
theorem See.dictT {v : V} {d : D} {l : DL} (h : See K H O v d) (e : unD d = some l) : ∃ a lv, v = .ref a ∧ H a = some (.dT lv) ∧ RpM K H O lv l := by
  rcases h with h | ⟨a, rfl, oa, h⟩
  · cases h with
    | @dT a lv kvs ha na rt => exact ⟨a, lv, rfl, ha, RpT.m rt e⟩
    | _ => first | (cases e) | (simp [unD, unDs, L3.keyT] at e)
  · cases d with
    | dict kvs =>
      rcases h with ⟨lv, kvs', rfl, _⟩ | ⟨lv, ha, rt⟩ | ⟨_, _, _, _, _, eo, _⟩
      · simp [unD, unDs, L3.keyT] at e
      · exact ⟨a, lv, rfl, ha, RpT.m rt e⟩
      · rw [eo] at e; simp [unD, unDs, L3.keyT] at e
    | _ => cases e
theorem See.keyT {v : V} {d : D} {k : List Key} (h : See K H O v d) (e : L3.keyT d = some k) : ∃ b, v = .ref b ∧ H b = some (.tup (k.map kV)) := by
  rcases h with h | ⟨a, rfl, oa, h⟩
  · exact h.keyT e
  · cases d <;> first | cases e | exact h.elim
theorem RpM.at {l : List (List Key × V)} {m : DL} (r : RpM K H O l m) {k : List Key} {d : D} (e : valD m k = some d) : ∃ v, valV l k = some v ∧ Rp K H O v d := by
  induction r with
  | nil => cases e
  | @cons p q ps qs hh t ih =>
    by_cases z : p.1 = k
    · have z' : q.1 = k := hh.1.symm.trans z
      have : valD (q :: qs) k = some q.2 := by simp [valD, List.find?_cons, z']
      rw [this] at e
      cases e
      exact ⟨p.2, valV_pos z, hh.2⟩
    · have z' : ¬ q.1 = k := fun w => z (hh.1.trans w)
      have : valD (q :: qs) k = valD qs k := by simp [valD, List.find?_cons, z']
      rw [this] at e
      rw [valV_neg z]
      exact ih e
theorem RpM.has {l : List (List Key × V)} {m : DL} (r : RpM K H O l m) (k : List Key) : (valV l k).isSome = (valD m k).isSome := by
  induction r with
  | nil => rfl
  | @cons p q ps qs hh t ih =>
    by_cases z : p.1 = k
    · have z' : q.1 = k := hh.1.symm.trans z
      have : valD (q :: qs) k = some q.2 := by simp [valD, List.find?_cons, z']
      rw [this, valV_pos z]; rfl
    · have z' : ¬ q.1 = k := fun w => z (hh.1.trans w)
      have : valD (q :: qs) k = valD qs k := by simp [valD, List.find?_cons, z']
      rw [this, valV_neg z]; exact ih
end
/-! ### {} -/
def mDNew : ME := fun ρ => .ok (.fresh (dictD [])) ρ
theorem se_dnew {X : Cx} {W : WX} {pos : Pos} : SE X W (.Dict [] [] pos) tDNewT mDNew :=
  ⟨pe_dnewT, fun ρ σ H O Q R h p hp => h _ _ (Own1 O p) (R.newOwn hp) (Frm.newOwn hp) ⟨p, rfl, hp, .inr rfl, .inr (.inl ⟨[], upd_same, .nil⟩)⟩⟩
/-! ### d[k] = e -/
def ownD (j : Nat) (ρ : Fr) : Option DL := match ρ[j]? with
  | some (.own d) => unD d
  | _ => none
theorem own_dict {K : Fg} {ρ : Fr} {σ : L2.St} {H : Hp} {O : Ow} {j : Nat} {l : DL} (R : Rel K ρ σ H O) (h : ownD j ρ = some l) : ∃ d a lv, ρ[j]? = some (.own d) ∧ σ[j]? = some (some (.ref a)) ∧ O a ∧ H a = some (.dT lv) ∧ RpM K H O lv l := by
  unfold ownD at h
  split at h
  · rename_i d e
    obtain ⟨a, e1, oa, w⟩ := R.slot j _ e
    obtain ⟨a', lv, ea, ha, rm⟩ := See.dictT (.inr ⟨a, rfl, oa, w⟩) h
    cases ea
    exact ⟨d, a, lv, e, e1, oa, ha, rm⟩
  · cases h
def mDPut (j : Nat) (fe fk : ME) : MS := fun ρ => RE.out (fe ρ) fun r ρ1 => Out.opt (keepV r ρ1) fun p => Out.opt (ownD j p.2) fun _ => RE.out (fk p.2) fun rk ρ2 => Out.opt (look rk ρ2) fun dk => Out.opt (keyT dk) fun k =>
  Out.opt (ownD j ρ2) fun l => if l.length < sizeLine then .nx (ρ2.set j (.own (dictD (putD l k p.1)))) else .bad
theorem RpM.len {K : Fg} {H : Hp} {O : Ow} {l : List (List Key × V)} {m : DL} (r : RpM K H O l m) : l.length = m.length := Paired.length r
section
variable {X : Cx} {W : WX} {P : List Nat} {e i : Expr} {x : Str} {te ti : TE} {fe fi : ME} {p pos spos : Pos} {j : Nat}
theorem ss_dput (K : Fg) (hK : X.K = K) (hu : X.A.units + 1 < cLine) (hN : X.N[j]? = some x) (hv : Vis X.env.scope x) (hd : (x == ("__debug__" : Str)) = false) (hcd : (x == ("__classdict__" : Str)) = false)
    (hs : swapsWith e (some (.Subscript (.Name x p) i spos)) pos.line X.env = pure false)
    (he : SE X W e te fe) (hi : SE X W i ti fi) : SS X W P (.Assign [.Subscript (.Name x p) i spos] e pos) (sDPut (tVar j) ti te) (mDPut j fe fi) := by
  subst hK
  refine ⟨ps_dput hu (pe_var hN hv hd hcd) hi.p he.p hs, fun n hn ρ σ H O D R B w => he.s ρ σ H O _ R (w.ev R B fun r ρ1 v H1 O1 e1 R1 B1 F1 o1 w1 => ?_)⟩
  obtain ⟨⟨d, ρ2⟩, ek, w1⟩ := w1.opt
  obtain ⟨O2, R2, F2, rp⟩ := ORel.kept o1 R F1 R1 ek
  have w2 : WantS X.K X.mg W n H O (Out.opt (ownD j ρ2) fun _ => RE.out (fi ρ2) fun rk ρ2 => Out.opt (look rk ρ2) fun dk => Out.opt (keyT dk) fun k =>
      Out.opt (ownD j ρ2) fun l => if l.length < sizeLine then .nx (ρ2.set j (.own (dictD (putD l k d)))) else .bad) D := by
    unfold mDPut at w
    rw [e1] at w
    simp only [RE.out, ek, Out.opt] at w
    exact w
  have w2 := w2.from (F2.kp R)
  obtain ⟨l0, el0, w2⟩ := w2.opt
  obtain ⟨d0, a, lv0, ed0, es0, _, ha0, _⟩ := own_dict R2 el0
  refine ⟨_, es0, hi.s ρ2 σ H1 O2 _ R2 (w2.ev R2 (B.frm F2) fun ri ρ3 iv H3 O3 e3 R3 B3 F3 o3 w3 => ?_)⟩
  obtain ⟨di, edi, w3⟩ := w3.opt
  obtain ⟨k, ek2, w3⟩ := w3.opt
  obtain ⟨l, el, w3⟩ := w3.opt
  obtain ⟨d3, a', lv, ed3, es1, oa, ha, rm⟩ := own_dict R3 el
  rw [es0] at es1
  cases es1
  obtain ⟨b, rfl, hb⟩ := (ORel.see1 o3 R2 F3 R3 edi).keyT ek2
  split at w3
  · rename_i hz
    obtain ⟨R4, F4⟩ := R3.updSlot (d' := dictD (putD l k d)) (o' := .dT (putK lv k v)) ed3 es0 fun kp => .inr (.inl ⟨_, upd_same, (((rm.put k (rp.keep (F3.kp R2))).keep kp)).t⟩)
    exact ⟨a, _, rfl, .t ha hb (by rw [rm.len]; exact hz), w3 σ _ O3 R4 (B3.frm F4) (F4.kp R3)⟩
  · exact w3.elim
end
/-! ### d[k] -/
def mDIx (fo fk : ME) : ME := fun ρ => (fo ρ).bind fun ro ρ1 => (fk ρ1).bind fun rk ρ2 => RE.opt (look ro ρ2) fun dd => RE.opt (unD dd) fun l => RE.opt (look rk ρ2) fun dk => RE.opt (keyT dk) fun k => RE.opt (valD l k) fun d => .ok (.val d) ρ2
section
variable {X : Cx} {W : WX} {o i : Expr} {pos : Pos} {td ty : TE} {fo fk : ME}
theorem se_dix (K : Fg) (hK : X.K = K) (hu : X.A.units + 1 < cLine) (ho : SE X W o td fo) (hi : SE X W i ty fk) (hs : NoSl i) : SE X W (.Subscript o i pos) (tDGet td ty) (mDIx fo fk) := by
  subst hK
  refine ⟨pe_dget hu ho.p hi.p hs, fun ρ σ H O Q R h => ho.s ρ σ H O _ R (Want.bind h fun r ρ1 v H1 O1 e1 R1 F1 o1 h1 => hi.s ρ1 σ H1 O1 _ R1 (Want.bind h1 fun rk ρ2 y H2 O2 e2 R2 F2 o2 h2 => ?_))⟩
  obtain ⟨dd, edd, h2⟩ := h2.opt
  obtain ⟨l, el, h2⟩ := h2.opt
  obtain ⟨dk, edk, h2⟩ := h2.opt
  obtain ⟨k, ek, h2⟩ := h2.opt
  obtain ⟨d, ed, h2⟩ := h2.opt
  obtain ⟨a, lv, rfl, ha, rm⟩ := (ORel.see o1 R F1 R1 F2 R2 edd).dictT el
  obtain ⟨b, rfl, hb⟩ := (ORel.see1 o2 R1 F2 R2 edk).keyT ek
  obtain ⟨z, ez, rz⟩ := rm.at ed
  refine ⟨a, z, rfl, ?_, h2.ck .v R2 _ _ _ .refl rz⟩
  have := DGet.t ha hb
  rw [ez] at this
  exact this
end
section
variable {K : Co Opd} {u : Tag K} {ρ : Fr} {fo fk : ME}
theorem ev_dix : Ev (mDIx fo fk ρ) K u = Ev (fo ρ) ⟨fun ro ρ1 => Ev (fk ρ1) ⟨fun rk ρ2 => EvP (look ro ρ2) fun dd => EvP (unD dd) fun l => EvP (look rk ρ2) fun dk => EvP (keyT dk) fun k => EvP (valD l k) fun d => K.ok (.val d) ρ2, K.ex⟩ .mk, K.ex⟩ .mk := by
  unfold mDIx; simp only [ev_un, evP_un, eu_bind, eu_opt, eu_ok, eu_ite]
theorem ev_dnew : Ev (mDNew ρ) K u = K.ok (.fresh (dictD [])) ρ := by
  unfold mDNew; simp only [ev_un, eu_ok]
end
section
variable {K : CoO} {u : Tag K} {ρ : Fr} {fe fk : ME} {j : Nat}
theorem evo_dput : EvO (mDPut j fe fk ρ) K u = Ev (fe ρ) ⟨fun r ρ1 => EvP (keepV r ρ1) fun p => EvP (ownD j p.2) fun _ => Ev (fk p.2) ⟨fun rk ρ2 => EvP (look rk ρ2) fun dk => EvP (keyT dk) fun k => EvP (ownD j ρ2) fun l => if l.length < sizeLine then K.go (.nx (ρ2.set j (.own (dictD (putD l k p.1))))) else False, fun x ρ => K.go (.exc x ρ)⟩ .mk, fun x ρ => K.go (.exc x ρ)⟩ .mk := by
  unfold mDPut; simp only [evo_out, ev_un, evo_opt, evP_un, evo_nx, evo_rt, ite_evo, evo_bad]
end
/-! ### k in d -/
def rInDict : R2 := fun x y H Q => ∃ a o, y = .ref a ∧ DGet H a x o ∧ Q (.bl o.isSome) H
def rNotInDict : R2 := fun x y H Q => ∃ a o, y = .ref a ∧ DGet H a x o ∧ Q (.bl (!o.isSome)) H
theorem op_inDict {X : Cx} (hu : X.A.units + 1 < cLine) : OpR X (compareOp .In) rInDict := by
  intro pins s σ H x y v u Q I rx ry h
  obtain ⟨a, o, rfl, g, q⟩ := h
  obtain rfl : u = Value.ref a := ry
  exact d_in hu I g rx fun s' I' => ⟨.bl o.isSome, H, I', rfl, q⟩
theorem op_notInDict {X : Cx} (hu : X.A.units + 1 < cLine) : OpR X (compareOp .NotIn) rNotInDict := by
  intro pins s σ H x y v u Q I rx ry h
  obtain ⟨a, o, rfl, g, q⟩ := h
  obtain rfl : u = Value.ref a := ry
  exact d_notIn hu I g rx fun s' I' => ⟨.bl (!o.isSome), H, I', rfl, q⟩
def cInDict (x y : D) : Option Bool := match unD y with
  | some l => (keyT x).map fun k => (valD l k).isSome
  | none => none
def cInB (x y : D) : Option Bool := match cIn x y with
  | some b => some b
  | none => cInDict x y
def cNotInB (x y : D) : Option Bool := match cNotIn x y with
  | some b => some b
  | none => (cInDict x y).map not
theorem inDict_core {K : Fg} {H : Hp} {O : Ow} {x y : V} {d e : D} {b : Bool} (sx : See K H O x d) (sy : See K H O y e) (h : cInDict d e = some b) : ∃ a o, y = .ref a ∧ DGet H a x o ∧ o.isSome = b := by
  unfold cInDict at h
  split at h
  · rename_i l el
    cases ek : keyT d with
    | none => rw [ek] at h; cases h
    | some k =>
      rw [ek] at h
      cases h
      obtain ⟨a, lv, rfl, ha, rm⟩ := sy.dictT el
      obtain ⟨b, rfl, hb⟩ := sx.keyT ek
      exact ⟨a, _, rfl, .t ha hb, rm.has k⟩
  · cases h
theorem g_inB {K : Fg} : CmpOk K (fun x y H Q => rInA K x y H Q ∨ rInDict x y H Q) cInB := by
  intro H O x y d e b Q sx sy h c
  unfold cInB at h
  split at h
  · rename_i q; cases h; exact .inl (g_in H O x y d e _ Q sx sy q c)
  · obtain ⟨a, o, rfl, g, rfl⟩ := inDict_core sx sy h
    exact .inr ⟨a, o, rfl, g, c⟩
theorem g_notInB {K : Fg} : CmpOk K (fun x y H Q => rNotInA K x y H Q ∨ rNotInDict x y H Q) cNotInB := by
  intro H O x y d e b Q sx sy h c
  unfold cNotInB at h
  split at h
  · rename_i q; cases h; exact .inl (g_notIn H O x y d e _ Q sx sy q c)
  · cases q : cInDict d e with
    | none => rw [q] at h; cases h
    | some b' =>
      rw [q] at h
      cases h
      obtain ⟨a, o, rfl, g, rfl⟩ := inDict_core sx sy q
      exact .inr ⟨a, o, rfl, g, c⟩
/-! ### len(d) -/
def bLenB (ds : List D) : Option (Kd × D) := match bLen ds with
  | some z => some z
  | none => match ds with
    | [d] => (unD d).map fun l => (.v, .int (l.length : Nat))
    | _ => none
theorem g_lenB {K : Fg} : CallOk K (fun vs H Q => rLenA K vs H Q ∨ rLenT vs H Q) bLenB := by
  intro H O vs ds k z Q s h c
  unfold bLenB at h
  split at h
  · rename_i q; cases h; exact .inl (g_len H O vs ds _ _ Q s q c)
  · split at h
    · rename_i d _
      cases e : unD d with
      | none => rw [e] at h; cases h
      | some l =>
        rw [e] at h
        cases h
        obtain ⟨v, rfl, s1⟩ := s.one
        obtain ⟨a, lv, rfl, ha, rm⟩ := s1.dictT e
        refine .inr ⟨a, lv, rfl, ha, ?_⟩
        rw [rm.len]
        exact Cv.int c
    · cases h
end L3
set_option Elab.async false
set_option linter.all false
set_option maxRecDepth 100000
set_option maxHeartbeats 4000000
set_option autoImplicit false
/-! L3ZG: sorted of a dict with tuple keys. -/
namespace L3
open PySem PySem.Spec L2
open PySem.W (EachIs AllAlike Sortable dataLe alike alikeAll TotalLe sort_maps sort_unique)
def keyD (k : List Key) : D := .tuple (k.map kD)
def rSortedK : List V → Hp → VK → Prop := fun vs H Q => ∃ (a : Addr) (lv : List (List Key × V)), vs = [V.ref a] ∧ H a = some (.dT lv) ∧ SortOk (lv.map fun p => keyD p.1) ∧
  ∀ (zs : List (Addr × List Key)) (p : Addr), (∀ z ∈ zs, H z.1 = some (.tup (z.2.map kV))) → zs.map (fun z => keyD z.2) = sortD (lv.map fun p => keyD p.1) → H p = none → Q (.ref p) (upd H p (.lst (zs.map fun z => V.ref z.1)))
theorem keys_reads {h : Heap} : ∀ {k : List Key} {its : List Value}, Vals (k.map kV) its → ReadsAll h its (k.map kD) []
  | [], _, .nil => .nil
  | .inl i :: k, _, .cons h r => by
    obtain ⟨t, rfl⟩ := h
    exact ReadsAll.cons (ds := k.map kD) (as := []) (bs := []) (Reads.int (h := h) i t) (keys_reads r)
  | .inr x :: k, _, .cons h r => by
    obtain ⟨t, rfl⟩ := h
    exact ReadsAll.cons (ds := k.map kD) (as := []) (bs := []) (Reads.str (h := h) x t) (keys_reads r)
theorem kt_keys {H : Hp} : ∀ {lv : List (List Key × V)} {xs : List (List Key × Addr × Value)}, KT H lv xs → lv.map (·.1) = xs.map (·.1) ∧ ∀ x ∈ xs, H x.2.1 = some (.tup (x.1.map kV))
  | _, _, .nil => ⟨rfl, by simp⟩
  | _, _, .cons (a := p) (b := q) hh t => by
    obtain ⟨e, h⟩ := kt_keys t
    refine ⟨by rw [List.map_cons, List.map_cons, e, hh.1], fun x hx => ?_⟩
    rcases List.mem_cons.mp hx with rfl | hx
    · rw [← hh.1]; exact hh.2.1
    · exact h x hx
theorem each_of {R : Value → Addr × List Key → Prop} : ∀ {bs : List (Addr × List Key)}, (∀ b ∈ bs, R (.ref b.1) b) → EachIs R (bs.map fun b => Value.ref b.1) bs
  | [], _ => .nil
  | b :: bs, h => .cons (h b (List.mem_cons_self ..)) (each_of fun c hc => h c (List.mem_cons_of_mem _ hc))
theorem vals_refs : ∀ {out : List Value} {zs : List (Addr × List Key)}, EachIs (fun u (z : Addr × List Key) => u = .ref z.1) out zs → Vals (zs.map fun z => V.ref z.1) out
  | _, _, .nil => .nil
  | _, _, .cons h r => .cons h (vals_refs r)
theorem cr_sortedK {X : Cx} (hc : X.calm = true) (hu : X.A.units + 66 < cLine) : CallR X (.builtin "sorted") rSortedK := by
  intro pins s σ H vs us Q I r h
  obtain ⟨a, lv, rfl, ha, ⟨hal, hk, hsh⟩, q⟩ := h
  obtain ⟨u, rfl, rx⟩ := r.one
  cases rx
  obtain ⟨z, lo, xs, rel, o, es, ep, ho, hx, hdat, he, hkey, hnd⟩ := dt_of I.hok ha
  obtain ⟨e1, htup⟩ := kt_keys rel
  have el : lv.length = xs.length := by have := congrArg List.length e1; rwa [List.length_map, List.length_map] at this
  have esz : es.size = xs.length := by rw [← Array.length_toList, he, List.length_map]
  let bs : List (Addr × List Key) := xs.map fun x => (x.2.1, x.1)
  have ebs : bs.map (fun z => keyD z.2) = lv.map fun p => keyD p.1 := by
    show (xs.map fun x => (x.2.1, x.1)).map _ = _
    rw [List.map_map]
    have := congrArg (List.map keyD) e1
    rw [List.map_map, List.map_map] at this
    exact this.symm
  refine Calls.call_function_entry PyProof.Rows.kind_sorted PyProof.Rows.plain_sorted PyProof.Rows.entry_sorted (PyProof.Rows.args_sorted1 _) ?_
  unfold Builtin.«sorted»
  refine wpAny_bind (m := checkCount "sorted" 1 1 _) (wpAny_pure ?_)
  refine wpAny_bind (PySem.W.kdu_collect (A := X.A.in1) (PySem.KdlSrc.rawDict (es := es) (ep := ep) lo) (I.ok.hd hc) ⟨o, ho, hx, hdat⟩ (by rw [esz, ← el]; exact z) fun h' tk acc hk' hacc => ?_)
  have eacc : acc.toList = bs.map fun b => Value.ref b.1 := by
    apply List.ext_getElem?
    intro i
    by_cases hi : i < xs.length
    · have ha1 : i < acc.toList.length := by rw [Array.length_toList, hacc.1, esz]; exact hi
      obtain ⟨hi2, e2⟩ := hacc.2 i (acc.toList[i]) (by rw [← Array.getElem?_toList, List.getElem?_eq_getElem ha1])
      have e3 : es.toList[i]? = (xs[i]?).map (entryOfKey (knd := tupleKind (mixKind X.prog X.w))) := by rw [he, List.getElem?_map]
      rw [List.getElem?_eq_getElem hi, Array.getElem?_toList, Array.getElem?_eq_getElem hi2] at e3
      have e4 := Option.some.inj e3
      rw [List.getElem?_eq_getElem ha1, e2, e4]
      show _ = ((xs.map fun x => (x.2.1, x.1)).map fun b => Value.ref b.1)[i]?
      rw [List.getElem?_map, List.getElem?_map, List.getElem?_eq_getElem hi]
      rfl
    · rw [List.getElem?_eq_none (by rw [Array.length_toList, hacc.1, esz]; omega), List.getElem?_eq_none (by rw [List.length_map]; show (xs.map _).length ≤ _; rw [List.length_map]; omega)]
  have I1 : Inv X pins σ H { s with heap := h', toks := tk } := I.kept hk'
  have bl : bs.length = xs.length := List.length_map ..
  refine wpAny_bind (wpAny_newList ?_ (by rw [eacc, List.length_map, bl, ← el]; exact z))
  rw [eacc]
  have hoL : (h'.push (PyProof.Rows.seqObj "list" (bs.map fun b => Value.ref b.1).toArray 0)).get? h'.objs.size = some (PyProof.Rows.seqObj "list" (bs.map fun b => Value.ref b.1).toArray 0) := Heap.get?_push_size _ rfl
  show wpAny _ _ _ _ _ { s with heap := h'.push (PyProof.Rows.seqObj "list" (bs.map fun b => Value.ref b.1).toArray 0), toks := tk }
  have I2 : Inv X pins σ H { s with heap := h'.push (PyProof.Rows.seqObj "list" (bs.map fun b => Value.ref b.1).toArray 0), toks := tk } := I1.kept (t' := tk) fun b u e => Heap.get?_push_of_some _ e
  have mem : ∀ b ∈ bs, H b.1 = some (.tup (b.2.map kV)) := by
    intro b hb
    obtain ⟨x, hx, rfl⟩ := List.mem_map.mp hb
    exact htup x hx
  have rd : ∀ b ∈ bs, ∃ as, Reads (h'.push (PyProof.Rows.seqObj "list" (bs.map fun b => Value.ref b.1).toArray 0)) (.ref b.1) (keyD b.2) as ∧ h'.objs.size ∉ as := by
    intro b hb
    obtain ⟨_, its, rv, ob, e, c, n, hd⟩ := (show ObjOk X.prog X.w H _ b.1 (.tup (b.2.map kV)) from I2.hok _ _ (mem b hb))
    exact ⟨[], Reads.tuple e c hd (keys_reads rv), by simp⟩
  rw [← ebs] at hal hk hsh q
  refine wpAny_bind (wpAny_holding (PySem.W.list_sort_data (R := fun u (z : Addr × List Key) => u = .ref z.1) (enc := fun z => keyD z.2) hoL (each_of fun b _ => rfl) (each_of fun b hb => rd b hb) hal hk (by rw [bl, ← el]; exact z) (fun b hb => ?_) fun out ho2 eo => ?_))
  · have := (shaped_depth (hsh _ (List.mem_map.mpr ⟨b, hb, rfl⟩))).2
    show X.A.units + 1 + 1 + (keyD b.2).depth < cLine
    omega
  · obtain ⟨e', he'⟩ := PyProof.Rows.sortedHeap_at (vs := bs.map fun b => Value.ref b.1) (out := out.toArray) hoL
    have es2 : (bs.mergeSort (dataLe false fun z => keyD z.2)).map (fun z => keyD z.2) = sortD (bs.map fun z => keyD z.2) := sort_maps (r := dataLe false fun z : Addr × List Key => keyD z.2) (s := dataLe false id) (fun z => keyD z.2) fun _ _ _ _ => rfl
    refine wpAny_pure ⟨_, rfl, .ref h'.objs.size, upd H h'.objs.size (.lst ((bs.mergeSort (dataLe false fun z => keyD z.2)).map fun z => V.ref z.1)), I1.laid (t' := tk) (fun b u e => ?_) (Nat.le_refl _) ⟨?_, out, e', vals_refs eo, he'⟩, rfl,
      q _ _ (fun z hz => mem z (List.mem_mergeSort.mp hz)) es2 (I1.hok.fresh (Nat.le_refl _))⟩
    · have hb : b < h'.objs.size := Heap.lt_size e
      rw [PyProof.Rows.sortedHeap_old (Nat.ne_of_lt hb) (by rw [Heap.size_push]; exact Nat.lt_succ_of_lt hb)]
      exact Heap.get?_push_of_some _ e
    · rw [List.length_map, List.length_mergeSort, bl, ← el]; exact z
/-! as trees -/
open Classical in
noncomputable def bSortedK : List D → Option (Kd × D)
  | [d] => match unD d with
    | some l => if SortOk (l.map fun p => keyD p.1) then some (.f, .list (sortD (l.map fun p => keyD p.1))) else none
    | none => none
  | _ => none
theorem rpM_keys {K : Fg} {H : Hp} {O : Ow} : ∀ {lv : List (List Key × V)} {l : DL}, RpM K H O lv l → lv.map (·.1) = l.map (·.1)
  | _, _, .nil => rfl
  | _, _, .cons hh t => by rw [List.map_cons, List.map_cons, rpM_keys t, hh.1]
theorem rpAll_keyD {K : Fg} {H : Hp} {O : Ow} : ∀ k : List Key, RpAll K H O (k.map kV) (k.map kD)
  | [] => .nil
  | .inl i :: k => .cons (.int i) (rpAll_keyD k)
  | .inr x :: k => .cons (.str x) (rpAll_keyD k)
theorem rpAll_refs {K : Fg} {H : Hp} {O : Ow} : ∀ {zs : List (Addr × List Key)}, (∀ z ∈ zs, H z.1 = some (.tup (z.2.map kV))) → RpAll K H O (zs.map fun z => V.ref z.1) (zs.map fun z => keyD z.2)
  | [], _ => .nil
  | z :: zs, h => .cons (.tup (h z (List.mem_cons_self ..)) (rpAll_keyD z.2)) (rpAll_refs fun y hy => h y (List.mem_cons_of_mem _ hy))
theorem g_sortedK {K : Fg} : CallOk K rSortedK bSortedK := by
  intro H O vs ds k z Q s h c
  unfold bSortedK at h
  split at h
  · rename_i d
    split at h
    · rename_i l el
      split at h
      · rename_i ok
        cases h
        obtain ⟨v, rfl, s1⟩ := s.one
        obtain ⟨a, lv, rfl, ha, rm⟩ := s1.dictT el
        have ek : (lv.map fun p => keyD p.1) = l.map fun p => keyD p.1 := by
          have := congrArg (List.map keyD) (rpM_keys rm)
          rw [List.map_map, List.map_map] at this
          exact this
        refine ⟨a, lv, rfl, ha, by rw [ek]; exact ok, fun zs p hz e hp => ?_⟩
        rw [ek] at e
        rw [← e] at c
        exact Cf.lst c (rpAll_refs hz) p hp
      · cases h
    · cases h
  · cases h
noncomputable def bSortedC (ds : List D) : Option (Kd × D) := match bSortedB ds with
  | some z => some z
  | none => bSortedK ds
theorem g_sortedC {K : Fg} : CallOk K (fun vs H Q => rSortedB K vs H Q ∨ rSortedK vs H Q) bSortedC := by
  intro H O vs ds k z Q s h c
  unfold bSortedC at h
  split at h
  · rename_i e
    cases h
    exact .inl (g_sortedB H O vs ds _ _ Q s e c)
  · exact .inr (g_sortedK H O vs ds k z Q s h c)
theorem bSortedC_I {ns : List Int} : bSortedC [.list (ns.map .int)] = some (.f, .list ((sortI ns).map .int)) := by
  unfold bSortedC
  rw [bSortedB_I]
theorem bSortedC_K {l : DL} (ok : SortOk (l.map fun p => keyD p.1)) : bSortedC [dictD l] = some (.f, .list (sortD (l.map fun p => keyD p.1))) := by
  have e : bSortedB [dictD l] = none := by
    unfold bSortedB bSortedA bSortedD dictD
    rfl
  unfold bSortedC
  rw [e]
  show bSortedK _ = _
  unfold bSortedK
  dsimp only
  rw [unD_dict]
  dsimp only
  rw [if_pos ok]
end L3
set_option Elab.async false
set_option linter.all false
set_option maxRecDepth 100000
set_option maxHeartbeats 4000000
set_option autoImplicit false
/-! L3ZH: instances of the program's own classes: fields read and written, methods called, made; a def called with a thing just made. -/
namespace L3
open PySem PySem.Spec L2
/-- where the classes stand -/
class Cn where cls : Nat → Addr
def fldIx (f : Str) : List D → Option Nat
  | [] => none
  | d :: r => match d with
    | .str g => if g = f then some 0 else (fldIx f r).map (· + 1)
    | _ => none
def obFld (C : Addr) (f : Str) : D → Option D
  | .dict [(.none, .int c), (.list ks, .list ds)] => if c = (C : Nat) then ((fldIx f ks).bind (fun i => ds[i]?)) else none
  | _ => none
def obPut (C : Addr) (f : Str) (d : D) : D → Option D
  | .dict [(.none, .int c), (.list ks, .list ds)] => if c = (C : Nat) ∧ ds.length < 1000 then (match fldIx f ks with
    | some i => some (.dict [(.none, .int c), (.list ks, .list (ds.set i d))])
    | none => some (.dict [(.none, .int c), (.list (ks ++ [.str f]), .list (ds ++ [d]))])) else none
  | _ => none
def obHas (C : Addr) (m : Str) : D → Bool
  | .dict [(.none, .int c), (.list ks, .list _)] => decide (c = (C : Nat)) && (fldIx m ks).isNone
  | _ => false
def ownAt (j : Nat) (ρ : Fr) : Option D := match ρ[j]? with
  | some (.own d) => some d
  | _ => none
theorem map_str_inj : ∀ {a b : List Str}, a.map PyData.str = b.map PyData.str → a = b
  | [], [], _ => rfl
  | [], _ :: _, h => by cases h
  | _ :: _, [], h => by cases h
  | x :: a, y :: b, h => by
    simp only [List.map_cons, List.cons.injEq, PyData.str.injEq] at h
    rw [h.1, map_str_inj h.2]
section
variable {K : Fg} {H : Hp} {O : Ow}
theorem See.ins {v : V} {c : Int} {e : List D} {ds : List D} (h : See K H O v (.dict [(.none, .int c), (.list e, .list ds)])) :
    ∃ (a C dx : Addr) (ks : List Str) (vs : List V), v = .ref a ∧ c = (C : Nat) ∧ e = ks.map .str ∧ H a = some (.ins C dx (ks.zip vs)) ∧ ks.length = vs.length ∧ RpAll K H O vs ds := by
  rcases h with h | ⟨a, rfl, oa, h⟩
  · generalize eq : PyData.dict [(PyData.none, PyData.int c), (PyData.list e, PyData.list ds)] = D at h
    cases h with
    | @ins a C dx ks vs ds' h l n r => cases eq; exact ⟨a, C, dx, ks, vs, rfl, rfl, rfl, h, l, r⟩
    | @dT a l kvs h n r => cases eq; exact absurd rfl (r.noNone _ (List.mem_cons_self ..))
    | _ => cases eq
  · rcases h with ⟨l, _, e, _⟩ | ⟨l, _, w⟩ | ⟨C, dx, ks, vs, ds', e, h, l, r⟩
    · cases e
    · exact absurd rfl (w.noNone _ (List.mem_cons_self ..))
    · cases e
      exact ⟨a, C, dx, ks, vs, rfl, rfl, rfl, h, l, r⟩
theorem fld_at : ∀ {ks : List Str} {vs : List V} {ds : List D} {f : Str} {i : Nat} {d : D}, fldIx f (ks.map .str) = some i → ds[i]? = some d → ks.length = vs.length → RpAll K H O vs ds → ∃ v, (ks.zip vs).lookup f = some v ∧ Rp K H O v d
  | [], _, _, _, _, _, h, _, _, _ => by cases h
  | k :: ks, [], _, _, _, _, _, _, l, _ => by cases l
  | k :: ks, v :: vs, ds, f, i, d, h, hd, l, rr => by
    cases rr with
    | @cons _ _ d' ds' r rs =>
      simp only [List.map_cons, fldIx] at h
      by_cases e : k = f
      · rw [if_pos e] at h; cases h
        simp only [List.getElem?_cons_zero, Option.some.injEq] at hd
        subst hd
        exact ⟨v, by simp [List.zip_cons_cons, List.lookup_cons, e], r⟩
      · rw [if_neg e] at h
        cases q : fldIx f (ks.map .str) with
        | none => rw [q] at h; cases h
        | some j =>
          rw [q] at h; cases h
          obtain ⟨u, h1, h2⟩ := fld_at q (by simpa using hd) (by simpa using l) rs
          have : (f == k) = false := beq_eq_false_iff_ne.mpr fun z => e z.symm
          exact ⟨u, by simp [List.zip_cons_cons, List.lookup_cons, this, h1], h2⟩
theorem fld_none : ∀ {ks : List Str} {vs : List V} {f : Str}, fldIx f (ks.map .str) = none → (ks.zip vs).lookup f = none
  | [], _, _, _ => rfl
  | k :: ks, [], _, _ => rfl
  | k :: ks, v :: vs, f, h => by
    simp only [List.map_cons, fldIx] at h
    by_cases e : k = f
    · rw [if_pos e] at h; cases h
    · rw [if_neg e, Option.map_eq_none_iff] at h
      have : (f == k) = false := beq_eq_false_iff_ne.mpr fun z => e z.symm
      simp [List.zip_cons_cons, List.lookup_cons, this, fld_none h]
theorem put_some : ∀ {ks : List Str} {vs : List V} {f : Str} {i : Nat} {v : V}, fldIx f (ks.map .str) = some i → ks.length = vs.length → putF f v (ks.zip vs) = ks.zip (vs.set i v)
  | [], _, _, _, _, h, _ => by cases h
  | k :: ks, [], _, _, _, _, l => by cases l
  | k :: ks, u :: vs, f, i, v, h, l => by
    simp only [List.map_cons, fldIx] at h
    by_cases e : k = f
    · rw [if_pos e] at h; cases h
      simp [List.zip_cons_cons, putF, e]
    · rw [if_neg e] at h
      cases q : fldIx f (ks.map .str) with
      | none => rw [q] at h; cases h
      | some j =>
        rw [q] at h; cases h
        simp [List.zip_cons_cons, putF, e, put_some q (by simpa using l)]
theorem put_none : ∀ {ks : List Str} {vs : List V} {f : Str} {v : V}, fldIx f (ks.map .str) = none → ks.length = vs.length → putF f v (ks.zip vs) = (ks ++ [f]).zip (vs ++ [v])
  | [], [], _, _, _, _ => rfl
  | [], _ :: _, _, _, _, l => by cases l
  | k :: ks, [], _, _, _, l => by cases l
  | k :: ks, u :: vs, f, v, h, l => by
    simp only [List.map_cons, fldIx] at h
    by_cases e : k = f
    · rw [if_pos e] at h; cases h
    · rw [if_neg e, Option.map_eq_none_iff] at h
      simp [List.zip_cons_cons, putF, e, put_none h (by simpa using l)]
end
/-! ### x.f -/
def mFld (C : Addr) (f : Str) (fa : ME) : ME := fun ρ => (fa ρ).bind fun r ρ1 => RE.opt (look r ρ1) fun d => RE.opt (obFld C f d) fun z => .ok (.val z) ρ1
theorem obFld_some {C : Addr} {f : Str} {d z : D} (h : obFld C f d = some z) : ∃ ks ds i, d = .dict [(.none, .int (C : Nat)), (.list ks, .list ds)] ∧ fldIx f ks = some i ∧ ds[i]? = some z := by
  unfold obFld at h
  split at h
  · rename_i c ks ds
    split at h
    · rename_i e
      subst e
      cases q : fldIx f ks with
      | none => rw [q] at h; cases h
      | some i => rw [q] at h; exact ⟨ks, ds, i, rfl, q, h⟩
    · cases h
  · cases h
section
variable {X : Cx} {W : WX} {P : List Nat} {e value : Expr} {f x : Str} {pos pos' apos p : Pos} {ta te : TE} {fa fe : ME} {C : Addr} {j : Nat}
theorem se_fld (K : Fg) (hK : X.K = K) (cl : Cls K C) (na : NoAttr K C f) (he : SE X W e ta fa) (hb : attributeBase e f X.env (eval e X.env) = eval e X.env) : SE X W (.Attribute e f pos) (tFld K ta f) (mFld C f fa) := by
  subst hK
  refine ⟨pe_fld he.p hb, fun ρ σ H O Q R h => he.s ρ σ H O _ R (Want.bind h fun r ρ1 v H1 O1 e1 R1 F1 o1 h1 => ?_)⟩
  obtain ⟨d, ed, h1⟩ := h1.opt
  obtain ⟨z, ez, h2⟩ := h1.opt
  obtain ⟨kl, ds, i, rfl, ei, hz⟩ := obFld_some ez
  obtain ⟨a, C', dx, ks, vs, rfl, eC, rfl, ha, l, r⟩ := (ORel.see1 o1 R F1 R1 ed).ins
  have eC : C' = C := (Int.ofNat_inj.mp eC).symm
  subst eC
  obtain ⟨u, hu, ru⟩ := fld_at ei hz l r
  exact ⟨a, C', dx, _, u, rfl, ha, cl, na, hu, h2 _ _ _ R1 .refl ru⟩
/-! ### x.f = e -/
def mPutF (C : Addr) (f : Str) (j : Nat) (fe : ME) : MS := fun ρ => RE.out (fe ρ) fun r ρ1 => Out.opt (keepV r ρ1) fun p => Out.opt (ownAt j p.2) fun d => Out.opt (obPut C f p.1 d) fun d' => .nx (p.2.set j (.own d'))
theorem ownAt_some {j : Nat} {ρ : Fr} {d : D} (h : ownAt j ρ = some d) : ρ[j]? = some (.own d) := by
  unfold ownAt at h
  split at h
  · cases h; assumption
  · cases h
theorem ss_fld (K : Fg) (hK : X.K = K) (cl : Cls K C) (na : NoAttr K C f) (hN : X.N[j]? = some x) (hv : Vis X.env.scope x) (hd : (x == ("__debug__" : Str)) = false) (hcd : (x == ("__classdict__" : Str)) = false)
    (hs : swapsWith value (some (.Attribute (.Name x p) f pos')) pos.line X.env = pure false) (he : SE X W value te fe) : SS X W P (.Assign [.Attribute (.Name x p) f pos'] value pos) (sFld K (tVar j) te f) (mPutF C f j fe) := by
  subst hK
  refine ⟨ps_fld (pe_var hN hv hd hcd) he.p hs, fun n hn ρ σ H O D R B w => he.s ρ σ H O _ R (w.ev R B fun r ρ1 v H1 O1 e1 R1 B1 F1 o1 w1 => ?_)⟩
  obtain ⟨⟨d, ρ2⟩, ek, w1⟩ := w1.opt
  obtain ⟨O2, R2, F2, rp⟩ := ORel.kept o1 R F1 R1 ek
  have w2 : WantS X.K X.mg W n H O (Out.opt (ownAt j ρ2) fun d0 => Out.opt (obPut C f d d0) fun d' => .nx (ρ2.set j (.own d'))) D := by
    unfold mPutF at w
    rw [e1] at w
    simp only [RE.out, ek, Out.opt] at w
    exact w
  have w2 := w2.from (F2.kp R)
  obtain ⟨d0, ed0, w2⟩ := w2.opt
  obtain ⟨d', ed', w2⟩ := w2.opt
  have eo := ownAt_some ed0
  obtain ⟨a, es, oa, w⟩ := R2.slot j _ eo
  unfold obPut at ed'
  split at ed'
  · rename_i c kl ds
    split at ed'
    · rename_i hc
      obtain ⟨hc, hl⟩ := hc
      obtain ⟨a', C', dx, ks, vs, ea, eC, rfl, ha, l, r⟩ := See.ins (.inr ⟨a, rfl, oa, w⟩)
      cases ea
      have eC : C' = C := (Int.ofNat_inj.mp (hc.symm.trans eC)).symm
      subst eC
      have ll : (ks.zip vs).length < 1000 := by rw [List.length_zip, l, Nat.min_self, r.length]; exact hl
      refine ⟨_, es, a, C', dx, _, rfl, ha, cl, na, ll, ?_⟩
      split at ed'
      · rename_i i ei
        cases ed'
        obtain ⟨R4, F4⟩ := R2.updSlot (d' := .dict [(.none, .int c), (.list (ks.map .str), .list (ds.set i d))]) (o' := .ins C' dx (putF f v (ks.zip vs))) eo es fun kp =>
          .inr (.inr ⟨C', dx, ks, vs.set i v, ds.set i d, by rw [hc], by rw [upd_same, put_some ei l], by rw [List.length_set]; exact l, RpAll.set (rp.keep kp) i (r.keep kp)⟩)
        exact w2 σ _ O2 R4 ((B.frm F2).frm F4) (F4.kp R2)
      · rename_i ei
        cases ed'
        obtain ⟨R4, F4⟩ := R2.updSlot (d' := .dict [(.none, .int c), (.list (ks.map .str ++ [.str f]), .list (ds ++ [d]))]) (o' := .ins C' dx (putF f v (ks.zip vs))) eo es fun kp =>
          .inr (.inr ⟨C', dx, ks ++ [f], vs ++ [v], ds ++ [d], by rw [hc]; simp [objD], by rw [upd_same, put_none ei l], by simp [l], (r.keep kp).append (.cons (rp.keep kp) .nil)⟩)
        exact w2 σ _ O2 R4 ((B.frm F2).frm F4) (F4.kp R2)
    · cases ed'
  · cases ed'
end
/-! ### a call from known arguments -/
theorem call_at {K : Fg} {mg : Str → Option Value} {P : List Nat} {np : Nat} {F : ME} {σ : L2.St} {ρ ρ2 as : Fr} {H : Hp} {O : Ow} {args : List Arg} {vs : List V} {Q : VK} {E : XK} (hk : Keeps F) (nd : (places args).Nodup) (R : Rel K ρ σ H O) (al : args.length = vs.length)
    (aq : ∀ (j : Nat) a v, args[j]? = some a → vs[j]? = some v → match a with | .val d => Rp K H O v d | .place i => σ[i]? = some (some v)) (em : mkAs P 0 args ρ = some (as, ρ2)) (ln : args.length = np)
    (h : match F as with
      | .ok r outs => ∀ v H' O', Rel K (wb args as outs ρ2) σ H' O' → Frm ρ σ H O (wb args as outs ρ2) H' O' → (match r with | .val d => Rp K H' O' v d | .fresh d => ∃ a, v = .ref a ∧ H a = none ∧ O' a ∧ OwnRp K H' O' a d | .place _ => False) → Q v H'
      | .exc x outs => ∀ cls d H' O', Rel K (wb args as outs ρ2) σ H' O' → Frm ρ σ H O (wb args as outs ρ2) H' O' → XRel K mg H' O' x cls d → E cls d H'
      | .bad => False) : spF mg np P F K vs H Q E := by
  obtain ⟨O2, R2, F2, A, _⟩ := mkAs_ok (vs := vs) nd R al aq em
  obtain ⟨Ra, ap, _, _⟩ := A.rel nd R2
  refine ⟨as, O2, by rw [A.1]; exact ln, by rw [A.2.1]; exact ln, Ra, ap, ?_⟩
  cases ef : F as with
  | ok r outs =>
    simp only [ef] at h
    intro v H3 O3 R3 F3 o3
    obtain ⟨R4, F4⟩ := A.back nd R2 (hk.1 as r outs ef).1 R3 F3
    cases r with
    | val d => exact h v H3 O3 R4 (F2.trans F4) o3
    | fresh d => exact h v H3 O3 R4 (F2.trans F4) o3
    | place i => exact absurd rfl ((hk.1 as _ outs ef).2 i)
  | exc x outs =>
    simp only [ef] at h
    intro cls d H3 O3 R3 F3 xr
    obtain ⟨R4, F4⟩ := A.back nd R2 (hk.2 as x outs ef) R3 F3
    exact h cls d H3 O3 R4 (F2.trans F4) xr
  | bad => simp only [ef] at h
/-! ### one slot more -/
section
variable {K : Fg} {ρ ρ' : Fr} {σ : L2.St} {H H' : Hp} {O O' : Ow} {a : Addr} {d : D} {s : Slot}
theorem Rel.push (R : Rel K ρ σ H O) (oa : O a) (ns : ¬ SlotOwn ρ σ a) (w : OwnRp K H O a d) : Rel K (ρ ++ [.own d]) (σ ++ [some (.ref a)]) H O := by
  have len := R.len
  have low : ∀ {i : Nat} {s : Slot}, (ρ ++ [.own d])[i]? = some s → (i < ρ.length ∧ ρ[i]? = some s ∧ (σ ++ [some (.ref a)])[i]? = σ[i]?) ∨ (i = ρ.length ∧ s = .own d ∧ (σ ++ [some (.ref a)])[i]? = some (some (.ref a))) := fun {i s} h => by
    by_cases l : i < ρ.length
    · rw [List.getElem?_append_left l] at h
      exact .inl ⟨l, h, by rw [List.getElem?_append_left (by omega)]⟩
    · rw [List.getElem?_append_right (by omega)] at h
      obtain ⟨lt, _⟩ := List.getElem?_eq_some_iff.mp h
      have e : i = ρ.length := by simp at lt; omega
      subst e
      simp at h
      refine .inr ⟨rfl, h.symm, ?_⟩
      rw [List.getElem?_append_right (by omega), len, Nat.sub_self]; rfl
  refine ⟨by simp [len], fun i s h => ?_, fun i j b d1 d2 h1 h2 h3 h4 => ?_, R.dom⟩
  · rcases low h with ⟨_, h1, h2⟩ | ⟨_, rfl, h2⟩
    · rw [h2]; exact R.slot i s h1
    · rw [h2]; exact ⟨a, rfl, oa, w⟩
  · rcases low h1 with ⟨_, q1, q2⟩ | ⟨e1, _, q2⟩ <;> rcases low h2 with ⟨_, q3, q4⟩ | ⟨e2, _, q4⟩
    · rw [q2] at h3; rw [q4] at h4; exact R.uniq i j b d1 d2 q1 q3 h3 h4
    · rw [q2] at h3; rw [q4] at h4; cases h4; exact absurd ⟨i, d1, q1, h3⟩ ns
    · rw [q2] at h3; rw [q4] at h4; cases h3; exact absurd ⟨j, d2, q3, h4⟩ ns
    · omega
theorem Rel.pop (len : ρ.length = σ.length) (R : Rel K ρ' (σ ++ [some (.ref a)]) H O) : Rel K (ρ'.take ρ.length) σ H O := by
  have l := R.len
  simp at l
  have low : ∀ {i : Nat} {s : Slot}, (ρ'.take ρ.length)[i]? = some s → i < ρ.length ∧ ρ'[i]? = some s ∧ (σ ++ [some (.ref a)])[i]? = σ[i]? := fun {i s} h => by
    rw [List.getElem?_take] at h
    split at h
    · rename_i q
      exact ⟨q, h, by rw [List.getElem?_append_left (by omega)]⟩
    · cases h
  refine ⟨by rw [List.length_take]; omega, fun i s h => ?_, fun i j b d1 d2 h1 h2 h3 h4 => ?_, R.dom⟩
  · obtain ⟨_, h1, h2⟩ := low h
    have := R.slot i s h1
    rw [h2] at this; exact this
  · obtain ⟨_, q1, q2⟩ := low h1
    obtain ⟨_, q3, q4⟩ := low h2
    exact R.uniq i j b d1 d2 q1 q3 (by rw [q2]; exact h3) (by rw [q4]; exact h4)
theorem SlotOwn.push {b : Addr} (len : ρ.length = σ.length) : SlotOwn (ρ ++ [.own d]) (σ ++ [some (.ref a)]) b ↔ SlotOwn ρ σ b ∨ b = a := by
  constructor
  · rintro ⟨i, d1, h1, h2⟩
    by_cases l : i < ρ.length
    · rw [List.getElem?_append_left l] at h1
      rw [List.getElem?_append_left (by omega)] at h2
      exact .inl ⟨i, d1, h1, h2⟩
    · rw [List.getElem?_append_right (by omega)] at h1 h2
      obtain ⟨lt, _⟩ := List.getElem?_eq_some_iff.mp h1
      have e : i = ρ.length := by simp at lt; omega
      subst e
      rw [len, Nat.sub_self] at h2
      simp at h2
      exact .inr h2.symm
  · rintro (⟨i, d1, h1, h2⟩ | rfl)
    · have l := (List.getElem?_eq_some_iff.mp h1).1
      exact ⟨i, d1, by rw [List.getElem?_append_left l]; exact h1, by rw [List.getElem?_append_left (by omega)]; exact h2⟩
    · exact ⟨ρ.length, d, by simp, by rw [len]; simp⟩
/-- what was made behind H0 is no one's there -/
theorem Frm.pop {ρ0 : Fr} {H0 : Hp} {O0 : Ow} (len : ρ.length = σ.length) (F1 : Frm ρ0 σ H0 O0 ρ H O) (ha : H0 a = none) (F2 : Frm (ρ ++ [.own d]) (σ ++ [some (.ref a)]) H O ρ' H' O') : Frm ρ0 σ H0 O0 (ρ'.take ρ.length) H' O' := by
  refine ⟨fun b o h n => ?_, fun b h => F2.dom b (F1.dom b h), fun i e h => ?_, fun b xs h => F2.tups b xs (F1.tups b xs h), fun b o u h => F2.frzs b o u (F1.frzs b o u h)⟩
  · obtain ⟨h1, o1⟩ := F1.keep b o h n
    obtain ⟨h2, o2⟩ := F2.keep b o h1 fun z => by
      rcases (SlotOwn.push len).mp z with z | z
      · exact n (F1.subO b z)
      · subst z; rw [ha] at h; cases h
    exact ⟨h2, o2.trans o1⟩
  · rw [List.getElem?_take] at h
    split at h
    · rename_i l
      obtain ⟨e1, h1⟩ := F2.sub i e h
      rw [List.getElem?_append_left l] at h1
      exact F1.sub i e1 h1
    · cases h
end
/-! ### a call whose first argument was just made -/
/-- d: the thing just made -/
def mCallX (P : List Nat) (F : ME) (d : D) (args : List Arg) (ρ : Fr) (k : Opd → Option Slot → Fr → RE Opd) : RE Opd := if (places (.place ρ.length :: args)).Nodup then RE.opt (mkAs P 0 (.place ρ.length :: args) (ρ ++ [.own d])) fun q => (match F q.1 with
  | .ok r outs => k r (wb (.place ρ.length :: args) q.1 outs q.2)[ρ.length]? ((wb (.place ρ.length :: args) q.1 outs q.2).take ρ.length)
  | .exc x outs => .exc x ((wb (.place ρ.length :: args) q.1 outs q.2).take ρ.length)
  | .bad => .bad) else .bad
def mCallFr (P : List Nat) (F : ME) (fe : ME) (fa : MAr) : ME := fun ρ => (fe ρ).bind fun r ρ1 => (fa ρ1).bind fun args ρ2 => match r with
  | .fresh d => mCallX P F d args ρ2 fun r _ ρ3 => .ok r ρ3
  | _ => .bad
def mMake (C : Addr) (P : List Nat) (F : ME) (fa : MAr) : ME := fun ρ => (fa ρ).bind fun args ρ2 => mCallX P F (objD C [] []) args ρ2 fun r s ρ3 => match r, s with
  | .val .none, some (.own d) => .ok (.fresh d) ρ3
  | _, _ => .bad
theorem callX_core {K : Fg} {mg : Str → Option Value} {W : WX} {P : List Nat} {np : Nat} {F : ME} {σ : L2.St} {ρ0 ρ : Fr} {H0 H : Hp} {O0 O : Ow} {args : List Arg} {vs : List V} {Q : VK} {a : Addr} {d : D} {k : Opd → Option Slot → Fr → RE Opd} {Q' : VK}
    (hk : Keeps F) (R0 : Rel K ρ0 σ H0 O0) (R : Rel K ρ σ H O) (F0 : Frm ρ0 σ H0 O0 ρ H O) (na : H0 a = none) (oa : O a) (w : OwnRp K H O a d) (al : args.length = vs.length)
    (aq : ∀ (j : Nat) a v, args[j]? = some a → vs[j]? = some v → match a with | .val d => Rp K H O v d | .place i => σ[i]? = some (some v)) (ln : args.length + 1 = np)
    (h : Want orE K mg W (mCallX P F d args ρ k) ρ0 σ H0 O0 Q')
    (hq : ∀ r v s ρ3 H3 O3, Rel K ρ3 (σ ++ [some (.ref a)]) H3 O3 → ρ3[ρ.length]? = s → Rel K (ρ3.take ρ.length) σ H3 O3 → Frm ρ0 σ H0 O0 (ρ3.take ρ.length) H3 O3 → (match r with | .val d => Rp K H3 O3 v d | .fresh d => ∃ b, v = .ref b ∧ H0 b = none ∧ O3 b ∧ OwnRp K H3 O3 b d | .place _ => False) →
      Want orE K mg W (k r s (ρ3.take ρ.length)) ρ0 σ H0 O0 Q' → Q v H3) :
    spF mg np P F K (.ref a :: vs) H Q (WE W σ) := by
  have len := R.len
  have ns : ¬ SlotOwn ρ σ a := fun z => by
    obtain ⟨_, o, ho, _⟩ := R0.owned (F0.subO a z)
    rw [na] at ho; cases ho
  have RX := R.push oa ns w
  unfold mCallX at h
  by_cases nd : (places (.place ρ.length :: args)).Nodup
  · rw [if_pos nd] at h
    obtain ⟨⟨as, ρ2⟩, em, h⟩ := h.opt
    refine call_at hk nd RX (by simp [al]) (fun j b v hj hv => ?_) em (by simpa using ln) ?_
    · cases j with
      | zero =>
        simp at hj hv
        subst hj hv
        show (σ ++ [some (V.ref a)])[ρ.length]? = some (some (V.ref a))
        rw [len]; simp
      | succ j =>
        have q := aq j b v (by simpa using hj) (by simpa using hv)
        cases b with
        | val d => exact q
        | place i =>
          have q : σ[i]? = some (some v) := q
          show (σ ++ [some (V.ref a)])[i]? = some (some v)
          rw [List.getElem?_append_left (List.getElem?_eq_some_iff.mp q).1]; exact q
    · cases ef : F as with
      | ok r outs =>
        simp only [ef] at h ⊢
        intro v H3 O3 R3 F3 o3
        refine hq r v _ _ H3 O3 R3 rfl (R3.pop len) (F0.pop len na F3) ?_ h
        cases r with
        | val d => exact o3
        | fresh d =>
          obtain ⟨b, e, hb, ob, wb⟩ := o3
          refine ⟨b, e, ?_, ob, wb⟩
          cases q : H0 b with
          | none => rfl
          | some o => exact absurd hb (F0.dom b (by rw [q]; intro z; cases z))
        | place i => exact o3
      | exc x outs =>
        simp only [ef] at h ⊢
        intro cls dd H3 O3 R3 F3 xr
        exact h cls dd H3 O3 (R3.pop len) (F0.pop len na F3) xr
      | bad => simp only [ef] at h; exact h.elim
  · rw [if_neg nd] at h; exact h.elim
end L3
set_option Elab.async false
set_option linter.all false
set_option maxRecDepth 100000
set_option maxHeartbeats 4000000
set_option autoImplicit false
/-! L3ZI: the rules for methods of own classes, for what makes an instance, for a call with a thing just made. -/
namespace L3
open PySem PySem.Spec L2
def tMt (C : Addr) (m : Str) (sp : Sp) (W : WX) (j : Nat) (t : TA) : TE := fun σ H Q => tVar j σ H fun x H1 => ∃ a dx fs, x = .ref a ∧ H1 a = some (.ins C dx fs) ∧ fs.lookup m = none ∧ t σ H1 fun vs H2 => sp (x :: vs) H2 Q (WE W σ)
def tMkG (C : Addr) (sp : Sp) (W : WX) (t : TA) : TE := fun σ H Q => t σ H fun vs H1 => ∀ x dx, H1 x = none → H1 dx = none → dx ≠ x → sp (.ref x :: vs) (upd (upd H1 dx (.own x)) x (.ins C dx [])) (fun v H2 => v = .non ∧ Q (.ref x) H2) (WE W σ)
section
variable {X : Cx} {W : WX} {k np : Nat} {f C : Addr} {fd : FuncData} {ps : List Str} {sp : Sp} {x m : Str} {p pos apos : Pos} {e o : Expr} {es : List Expr} {t : TA} {j : Nat}
theorem pe_mt {pl : Sem Bool} (hN : X.N[j]? = some x) (hv : Vis X.env.scope x) (hd : (x == ("__debug__" : Str)) = false) (hcd : (x == ("__classdict__" : Str)) = false) (c : Cls X.K C) (hm : Meth X.K C m f) (G : FnG X.prog X.w X.K X.mg X.base k f fd ps sp) (hr : Room k X.A) (hG : X.A.guards = some [])
    (hb : Binds X.K fd ps []) (tk : Takes X W) (ha : PA X (e :: es) t)
    (hst : starEach (e :: es) X.env = (false, eval e X.env) :: starEach es X.env) (hpl : (backTo pos (starEach es X.env)).any (·.1) = false)
    (ht : eval (.Call (.Attribute (.Name x p) m apos) (e :: es) [] pos) X.env = (do
      let ov ← eval (.Name x p) X.env
      standAt apos.atName
      let (f, first) ← holding [ov] (getMethod ov m pl)
      callWith pos f first (backTo pos (starEach (e :: es) X.env)) (backToKw pos (keywordEach [] X.env)))) :
    PE X (.Call (.Attribute (.Name x p) m apos) (e :: es) [] pos) (tMt C m sp W j t) := by
  refine ⟨fun pins s σ H Q I h => ?_⟩
  refine PySem.W.methodCall_KW (pl := pl) (thn ((pe_var hN hv hd hcd).run pins s σ H _ I h) fun u s1 ⟨x, H1, I1, rx, a, dx, fs, ex, ea, l, q⟩ => ?_) ht
  subst ex
  obtain rfl : u = Value.ref a := rx
  refine getmeth_ok I1 ea c hm l ?_
  refine PySem.W.callWith_K (first := [.ref a]) (h₀ := X.base) I.ok.mod.kin hm.kp (thn (ha.run pos pins s1 σ H1 _ I1 q) fun us s2 ⟨vs, H2, I2, r, q2⟩ => ⟨I2.kIn, ?_⟩) hst hpl
  exact run_g (us := .ref a :: us) (vs := .ref a :: vs) (dvs := []) G hr hG hb .nil tk I2 (.cons rfl r) (by rw [List.append_nil]; exact q2)
theorem pe_mt0 {pl : Sem Bool} (hN : X.N[j]? = some x) (hv : Vis X.env.scope x) (hd : (x == ("__debug__" : Str)) = false) (hcd : (x == ("__classdict__" : Str)) = false) (c : Cls X.K C) (hm : Meth X.K C m f) (G : FnG X.prog X.w X.K X.mg X.base k f fd ps sp) (hr : Room k X.A) (hG : X.A.guards = some [])
    (hb : Binds X.K fd ps []) (tk : Takes X W)
    (ht : eval (.Call (.Attribute (.Name x p) m apos) [] [] pos) X.env = (do
      let ov ← eval (.Name x p) X.env
      standAt apos.atName
      let (f, first) ← holding [ov] (getMethod ov m pl)
      callWith pos f first (backTo pos (starEach [] X.env)) (backToKw pos (keywordEach [] X.env)))) :
    PE X (.Call (.Attribute (.Name x p) m apos) [] [] pos) (tMt C m sp W j tNil) := by
  refine ⟨fun pins s σ H Q I h => ?_⟩
  refine PySem.W.methodCall_KW (pl := pl) (thn ((pe_var hN hv hd hcd).run pins s σ H _ I h) fun u s1 ⟨x, H1, I1, rx, a, dx, fs, ex, ea, l, q⟩ => ?_) ht
  subst ex
  obtain rfl : u = Value.ref a := rx
  refine getmeth_ok I1 ea c hm l ?_
  exact PySem.W.callWith_K0 (first := [.ref a]) I1.kIn hm.kp (run_g (us := [.ref a]) (vs := [.ref a]) (dvs := []) G hr hG hb .nil tk I1 (.cons rfl .nil) (by rw [List.append_nil]; exact q))
theorem run_mk {pins : List (Addr × Obj)} {σ : L2.St} {H : Hp} {s : Shared} {Q : VK} {us : List Value} {vs : List V} (M : Mk X.K C f) (G : FnG X.prog X.w X.K X.mg X.base k f fd ps sp) (hr : Room (k + 1) X.A) (hG : X.A.guards = some []) (hb : Binds X.K fd ps [])
    (tk : Takes X W) (I : Inv X pins σ H s) (r : Vals vs us)
    (h : ∀ x dx, H x = none → H dx = none → dx ≠ x → sp (.ref x :: vs) (upd (upd H dx (.own x)) x (.ins C dx [])) (fun v H2 => v = .non ∧ Q (.ref x) H2) (WE W σ)) :
    wpAny (model X.prog X.w) X.A (call (.ref C) us) (EP X pins σ Q) X.xe s := by
  have hq := h (s.heap.objs.size + 1) s.heap.objs.size (I.hok.fresh (Nat.le_succ _)) (I.hok.fresh (Nat.le_refl _)) (Nat.ne_of_lt (Nat.lt_succ_self _))
  have I2 := Inv.made (C := C) I
  have r2 : Vals (V.ref (s.heap.objs.size + 1) :: vs) (Value.ref (s.heap.objs.size + 1) :: us) := .cons rfl r
  have hl : ((Value.ref (s.heap.objs.size + 1) :: us) ++ []).length = ps.length := by
    have e := r2.length
    rw [G.len _ _ _ _ hq] at e
    rw [List.append_nil]
    exact e.symm
  have bd := hb _ (Value.ref (s.heap.objs.size + 1) :: us) I2.kIn hl
  rw [List.append_nil] at bd
  refine wpAny_call (make_map (f := f) I.kIn M.makes M.init (beq_iff_eq.mp M.fn) (codeAny_mono (G.run _ X.stack _ _ ⟨Value.ref (s.heap.objs.size + 1) :: us, []⟩ (Value.ref (s.heap.objs.size + 1) :: us) _ _ _ (hr.make C us []) (by exact hG)
    (I2.env0.make C us []) bd r2 hq) fun r s' hq' => ?_))
  cases r with
  | error e => exact passAt tk σ pins _ _ e s' I2 hq'
  | ok fl =>
    cases fl with
    | ret u =>
      obtain ⟨v, H', I3, rv, ev, q3⟩ := I2.after hq'
      subst ev
      exact ⟨rv, ⟨V.ref (s.heap.objs.size + 1), H', I3, rfl, q3⟩⟩
    | next => exact False.elim hq'
    | brk => exact False.elim hq'
    | cont => exact False.elim hq'
theorem pe_mk (M : Mk X.K C f) (G : FnG X.prog X.w X.K X.mg X.base k f fd ps sp) (hr : Room (k + 1) X.A) (hG : X.A.guards = some []) (hg : Gl X x) (hm : X.mg x = some (.ref C)) (hb : Binds X.K fd ps []) (tk : Takes X W)
    (ha : PA X (e :: es) t) (hdb : (x == ("__debug__" : Str)) = false) (he : starEach (e :: es) X.env = (false, eval e X.env) :: starEach es X.env) (hpl : (backTo pos (starEach es X.env)).any (·.1) = false) :
    PE X (.Call (.Name x p) (e :: es) [] pos) (tMkG C sp W t) := by
  refine ⟨fun pins s σ H Q I h => ?_⟩
  refine wpAny_Call_Name_kw (ld_glob I hg hm ?_ hdb)
  refine PySem.W.callWith_K (h₀ := X.base) I.ok.mod.kin M.kp (thn (ha.run pos pins s σ H _ I h) fun us s1 ⟨vs, H1, I1, r, q⟩ => ⟨I1.kIn, ?_⟩) he hpl
  exact run_mk M G hr hG hb tk I1 r q
theorem pe_mk0 (M : Mk X.K C f) (G : FnG X.prog X.w X.K X.mg X.base k f fd ps sp) (hr : Room (k + 1) X.A) (hG : X.A.guards = some []) (hg : Gl X x) (hm : X.mg x = some (.ref C)) (hb : Binds X.K fd ps []) (tk : Takes X W)
    (hdb : (x == ("__debug__" : Str)) = false) : PE X (.Call (.Name x p) [] [] pos) (tMkG C sp W tNil) := by
  refine ⟨fun pins s σ H Q I h => ?_⟩
  refine wpAny_Call_Name_kw (ld_glob I hg hm ?_ hdb)
  exact PySem.W.callWith_K0 I.kIn M.kp (run_mk (us := []) (vs := []) M G hr hG hb tk I .nil h)
end
/-! ### what they compute -/
def mMt (C : Addr) (m : Str) (P : List Nat) (F : ME) (j : Nat) (fa : MAr) : ME := fun ρ => match ownAt j ρ with
  | some d => if obHas C m d = true then mCall P F [] (mrCons (mVar j) fa) ρ else .bad
  | none => .bad
theorem obHas_some {C : Addr} {m : Str} {d : D} (h : obHas C m d = true) : ∃ ks ds, d = .dict [(.none, .int (C : Nat)), (.list ks, .list ds)] ∧ fldIx m ks = none := by
  unfold obHas at h
  split at h
  · rename_i c ks ds
    simp only [Bool.and_eq_true, decide_eq_true_eq, Option.isNone_iff_eq_none] at h
    obtain ⟨rfl, h⟩ := h
    exact ⟨ks, ds, rfl, h⟩
  · cases h
theorem tars_var {K : Fg} {mg : Str → Option Value} {W : WX} {ta : TA} {fa : MAr} {j : Nat} {d : D} {ρ : Fr} {σ : L2.St} {H : Hp} {O : Ow} {Q : List V → Hp → Prop} (ha : TArs K mg W ta fa) (R : Rel K ρ σ H O) (e : ρ[j]? = some (.own d)) (h : Want orAr K mg W (mrCons (mVar j) fa ρ) ρ σ H O Q) :
    ∃ v, σ[j]? = some (some v) ∧ ta σ H fun vs H2 => Q (v :: vs) H2 := by
  obtain ⟨a, es, oa, w⟩ := R.slot j _ e
  refine ⟨_, es, ?_⟩
  have h2 : Want orAr K mg W ((fa ρ).bind fun ds ρ2 => .ok (.place j :: ds) ρ2) ρ σ H O Q := by
    unfold mrCons mVar at h
    simp only [e, RE.bind, argOf, RE.opt] at h
    exact h
  refine ha ρ σ H O _ R (Want.bind h2 fun ds ρ3 vs H3 O3 e3 R3 F3 o3 h3 => ?_)
  obtain ⟨l3, q3⟩ := o3
  refine h3 _ H3 O3 R3 .refl ⟨by simp [l3], fun i b w hj hw => ?_⟩
  cases i with
  | zero =>
    simp at hj hw
    subst hj hw
    exact es
  | succ i => exact q3 i b w (by simpa using hj) (by simpa using hw)
theorem mt_core {K : Fg} {mg : Str → Option Value} {W : WX} {P : List Nat} {np : Nat} {ta : TA} {fa : MAr} {F : ME} {C : Addr} {m : Str} {j : Nat} (hk : Keeps F) (ha : TArs K mg W ta fa) (hn : ∀ ρ args ρ1, fa ρ = .ok args ρ1 → args.length + 1 = np) :
    TEs K mg W (tMt C m (spF mg np P F K) W j ta) (mMt C m P F j fa) := by
  intro ρ σ H O Q R h
  unfold mMt at h
  cases ed : ownAt j ρ with
  | none => simp only [ed] at h; exact h.elim
  | some d =>
    simp only [ed] at h
    split at h
    · rename_i hh
      have eo := ownAt_some ed
      obtain ⟨a, es, oa, w⟩ := R.slot j _ eo
      obtain ⟨kl, ds, rfl, hf⟩ := obHas_some hh
      obtain ⟨a', C', dx, ks, vs, ea, eC, rfl, hi, l, r⟩ := See.ins (.inr ⟨a, rfl, oa, w⟩)
      cases ea
      have eC : C = C' := Int.ofNat_inj.mp eC
      subst eC
      -- the call, its first argument in the slot j
      let ta' : TA := fun σ H Q => ∃ v, σ[j]? = some (some v) ∧ ta σ H fun vs H2 => Q (v :: vs) H2
      have hc : TEs K mg W (tCallG (spF mg np P F K) [] W ta') (fun ρ => match ρ[j]? with | some (.own _) => mCall P F [] (mrCons (mVar j) fa) ρ | _ => .bad) := by
        intro ρ σ H O Q R h
        cases e : ρ[j]? with
        | none => simp only [e] at h; exact h.elim
        | some s =>
          cases s with
          | no => simp only [e] at h; exact h.elim
          | val d => simp only [e] at h; exact h.elim
          | own d =>
            simp only [e] at h
            have hh : TArs K mg W ta' (fun ρ => match ρ[j]? with | some (.own _) => mrCons (mVar j) fa ρ | _ => .bad) := by
              intro ρ σ H O Q R h
              cases e : ρ[j]? with
              | none => simp only [e] at h; exact h.elim
              | some s =>
                cases s with
                | no => simp only [e] at h; exact h.elim
                | val d => simp only [e] at h; exact h.elim
                | own d => simp only [e] at h; exact tars_var ha R e h
            have := call_core (P := P) (np := np) (dvs := []) (dfs := []) hk (fun _ _ _ => .nil) hh (fun ρ args ρ1 q => by
              cases e : ρ[j]? with
              | none => simp only [e] at q; cases q
              | some s =>
                cases s with
                | no => simp only [e] at q; cases q
                | val d => simp only [e] at q; cases q
                | own d =>
                  simp only [e] at q
                  unfold mrCons mVar at q
                  simp only [e, RE.bind, argOf, RE.opt] at q
                  cases e3 : fa ρ with
                  | exc x ρ3 => rw [e3] at q; cases q
                  | bad => rw [e3] at q; cases q
                  | ok ds ρ3 => rw [e3] at q; cases q; simpa using hn _ _ _ e3) ρ σ H O Q R
            refine this ?_
            unfold mCall at h ⊢
            simp only [e]
            exact h
      have h3 := hc ρ σ H O Q R (by simp only [eo]; exact h)
      obtain ⟨v, ev, h4⟩ := h3
      rw [es] at ev
      cases ev
      refine ⟨_, es, a, dx, _, rfl, hi, fld_none hf, ?_⟩
      simp only [List.append_nil] at h4
      exact h4
    · exact h.elim
theorem mk_core {K : Fg} {mg : Str → Option Value} {W : WX} {P : List Nat} {np : Nat} {ta : TA} {fa : MAr} {F : ME} {C : Addr} (hk : Keeps F) (ha : TArs K mg W ta fa) (hn : ∀ ρ args ρ1, fa ρ = .ok args ρ1 → args.length + 1 = np) :
    TEs K mg W (tMkG C (spF mg np P F K) W ta) (mMake C P F fa) := by
  intro ρ σ H O Q R h
  refine ha ρ σ H O _ R (Want.bind h fun args ρ1 vs H1 O1 e1 R1 F1 o1 h1 => ?_)
  obtain ⟨al, aq⟩ := o1
  intro x dx nx nd ne
  have n2 : upd H1 dx (.own x) x = none := by rw [upd_ne ne.symm]; exact nx
  have g1 : Gr H1 O1 (upd H1 dx (.own x)) O1 := Gr.new nd
  have g2 : Gr (upd H1 dx (.own x)) O1 (upd (upd H1 dx (.own x)) x (.ins C dx [])) (Own1 O1 x) := Gr.newOwn n2
  have R2 := g2.rel (g1.rel R1)
  have kp : Kp H1 O1 (upd (upd H1 dx (.own x)) x (.ins C dx [])) (Own1 O1 x) := g1.kp.trans g2.kp
  have F2 : Frm ρ1 σ H1 O1 ρ1 (upd (upd H1 dx (.own x)) x (.ins C dx [])) (Own1 O1 x) := g1.frm.trans g2.frm
  have h0 : ∀ b, H1 b = none → H b = none := fun b q => by
    cases q2 : H b with
    | none => rfl
    | some o => exact absurd q (F1.dom b (by rw [q2]; intro z; cases z))
  refine callX_core (k := fun r s ρ3 => match r, s with | .val .none, some (.own d) => .ok (.fresh d) ρ3 | _, _ => .bad) (d := objD C [] []) hk R1 R2 F2 nx (.inr rfl) (Or.inr (Or.inr ⟨C, dx, [], [], [], rfl, upd_same, rfl, .nil⟩)) al (fun j b v hj hv => ?_) (hn _ _ _ e1) h1 ?_
  · have q := aq j b v hj hv
    cases b with
    | val d => exact Rp.keep kp q
    | place i => exact q
  · intro r v s ρ3 H3 O3 RX es R3 F3 o3 h3
    cases r with
    | val d =>
      cases d with
      | none =>
        have o3 : Rp K H3 O3 v .none := o3
        cases o3
        refine ⟨rfl, ?_⟩
        cases s with
        | none => exact h3.elim
        | some s =>
          cases s with
          | own d =>
            obtain ⟨b, eb, ob, w⟩ := RX.slot ρ1.length _ es
            rw [R1.len] at eb
            simp at eb
            subst eb
            exact h3 _ H3 O3 R3 F3 ⟨x, rfl, nx, ob, w⟩
          | _ => exact h3.elim
      | _ => exact h3.elim
    | _ => exact h3.elim
/-- f(<just made>, ..) -/
theorem fr_core {K : Fg} {mg : Str → Option Value} {W : WX} {P : List Nat} {np : Nat} {te : TE} {fe : ME} {ta : TA} {fa : MAr} {F : ME} (hk : Keeps F) (he : TEs K mg W te fe) (ha : TArs K mg W ta fa) (hn : ∀ ρ args ρ1, fa ρ = .ok args ρ1 → args.length + 1 = np) :
    TEs K mg W (tCallG (spF mg np P F K) [] W (tCons te ta)) (mCallFr P F fe fa) := by
  intro ρ σ H O Q R h
  refine he ρ σ H O _ R (Want.bind h fun r ρ1 v H1 O1 e1 R1 F1 o1 h1 => ?_)
  refine ha ρ1 σ H1 O1 _ R1 (Want.bind h1 fun args ρ2 vs H2 O2 e2 R2 F2 o2 h2 => ?_)
  obtain ⟨al, aq⟩ := o2
  rw [List.append_nil]
  cases r with
  | fresh d =>
    obtain ⟨a, rfl, na, oa, w⟩ := o1
    have nso : ¬ SlotOwn ρ1 σ a := fun z => by
      obtain ⟨_, o, ho, _⟩ := R.owned (F1.subO a z)
      rw [na] at ho; cases ho
    obtain ⟨o, ho, _⟩ := w.there
    have k2 := F2.keep a o ho nso
    have w2 : OwnRp K H2 O2 a d := w.keep (F2.kp R1) fun o' q => (F2.keep a o' q nso).1
    refine callX_core (ρ0 := ρ) (H0 := H) (O0 := O) (k := fun r _ ρ3 => .ok r ρ3) (Q' := Q) hk R R2 (F1.trans F2) na ((k2.2).mpr oa) w2 al aq (hn _ _ _ e2) ?_ ?_
    · have h0 := h
      unfold mCallFr at h0
      simp only [e1, e2, RE.bind] at h0
      exact h0
    · intro r v s ρ3 H3 O3 RX es R3 F3 o3 h3
      cases r with
      | val d => exact h3 v H3 O3 R3 F3 o3
      | fresh d => exact h3 v H3 O3 R3 F3 o3
      | place i => exact o3.elim
  | _ => exact h2.elim
end L3
set_option Elab.async false
set_option linter.all false
set_option maxRecDepth 100000
set_option maxHeartbeats 4000000
set_option autoImplicit false
/-! L3ZJ: the rules as gen.py names them; runs; the end of a law whose defs know where a class stands. -/
namespace L3
open PySem PySem.Spec L2
section
variable {X : Cx} {W : WX} {k np : Nat} {f C : Addr} {fd : FuncData} {ps : List Str} {x m : Str} {p pos apos : Pos} {e o : Expr} {es : List Expr} {ta : TA} {fa : MAr} {te : TE} {fe : ME} {j : Nat} {P : List Nat} {F : ME}
theorem se_mt {pl : Sem Bool} (K : Fg) (mg : Str → Option Value) (hK : X.K = K) (hmg : X.mg = mg) (hN : X.N[j]? = some x) (hv : Vis X.env.scope x) (hd : (x == ("__debug__" : Str)) = false) (hcd : (x == ("__classdict__" : Str)) = false) (c : Cls K C) (hm : Meth K C m f)
    (G : FnG X.prog X.w K mg X.base k f fd ps (spF mg np P F K)) (hk : Keeps F) (hr : Room k X.A) (hG : X.A.guards = some []) (hb : Binds K fd ps []) (tk : Takes X W)
    (hst : starEach (e :: es) X.env = (false, eval e X.env) :: starEach es X.env) (hpl : (backTo pos (starEach es X.env)).any (·.1) = false) (hn : (e :: es).length + 1 = np)
    (ht : eval (.Call (.Attribute (.Name x p) m apos) (e :: es) [] pos) X.env = (do
      let ov ← eval (.Name x p) X.env
      standAt apos.atName
      let (f, first) ← holding [ov] (getMethod ov m pl)
      callWith pos f first (backTo pos (starEach (e :: es) X.env)) (backToKw pos (keywordEach [] X.env)))) (ha : SAr X W (e :: es) ta fa) :
    SE X W (.Call (.Attribute (.Name x p) m apos) (e :: es) [] pos) (tMt C m (spF mg np P F K) W j ta) (mMt C m P F j fa) := by
  subst hK hmg
  exact ⟨pe_mt hN hv hd hcd c hm G hr hG hb tk ha.p hst hpl ht, mt_core hk ha.s fun ρ args ρ1 h => by rw [ha.l ρ args ρ1 h]; exact hn⟩
theorem se_mt0 {pl : Sem Bool} (K : Fg) (mg : Str → Option Value) (hK : X.K = K) (hmg : X.mg = mg) (hN : X.N[j]? = some x) (hv : Vis X.env.scope x) (hd : (x == ("__debug__" : Str)) = false) (hcd : (x == ("__classdict__" : Str)) = false) (c : Cls K C) (hm : Meth K C m f)
    (G : FnG X.prog X.w K mg X.base k f fd ps (spF mg 1 P F K)) (hk : Keeps F) (hr : Room k X.A) (hG : X.A.guards = some []) (hb : Binds K fd ps []) (tk : Takes X W)
    (ht : eval (.Call (.Attribute (.Name x p) m apos) [] [] pos) X.env = (do
      let ov ← eval (.Name x p) X.env
      standAt apos.atName
      let (f, first) ← holding [ov] (getMethod ov m pl)
      callWith pos f first (backTo pos (starEach [] X.env)) (backToKw pos (keywordEach [] X.env)))) :
    SE X W (.Call (.Attribute (.Name x p) m apos) [] [] pos) (tMt C m (spF mg 1 P F K) W j tNil) (mMt C m P F j mrNil) := by
  subst hK hmg
  exact ⟨pe_mt0 hN hv hd hcd c hm G hr hG hb tk ht, mt_core hk (sar_nil (X := X)).s fun ρ args ρ1 h => by cases h; rfl⟩
theorem se_mk (K : Fg) (mg : Str → Option Value) (hK : X.K = K) (hmg : X.mg = mg) (M : Mk K C f) (G : FnG X.prog X.w K mg X.base k f fd ps (spF mg np P F K)) (hk : Keeps F) (hr : Room (k + 1) X.A) (hG : X.A.guards = some []) (hg : Gl X x) (hm : mg x = some (.ref C)) (hb : Binds K fd ps []) (tk : Takes X W)
    (hdb : (x == ("__debug__" : Str)) = false) (he : starEach (e :: es) X.env = (false, eval e X.env) :: starEach es X.env) (hpl : (backTo pos (starEach es X.env)).any (·.1) = false) (hn : (e :: es).length + 1 = np) (ha : SAr X W (e :: es) ta fa) :
    SE X W (.Call (.Name x p) (e :: es) [] pos) (tMkG C (spF mg np P F K) W ta) (mMake C P F fa) := by
  subst hK hmg
  exact ⟨pe_mk M G hr hG hg hm hb tk ha.p hdb he hpl, mk_core hk ha.s fun ρ args ρ1 h => by rw [ha.l ρ args ρ1 h]; exact hn⟩
theorem se_mk0 (K : Fg) (mg : Str → Option Value) (hK : X.K = K) (hmg : X.mg = mg) (M : Mk K C f) (G : FnG X.prog X.w K mg X.base k f fd ps (spF mg 1 P F K)) (hk : Keeps F) (hr : Room (k + 1) X.A) (hG : X.A.guards = some []) (hg : Gl X x) (hm : mg x = some (.ref C)) (hb : Binds K fd ps []) (tk : Takes X W)
    (hdb : (x == ("__debug__" : Str)) = false) : SE X W (.Call (.Name x p) [] [] pos) (tMkG C (spF mg 1 P F K) W tNil) (mMake C P F mrNil) := by
  subst hK hmg
  exact ⟨pe_mk0 M G hr hG hg hm hb tk hdb, mk_core hk (sar_nil (X := X)).s fun ρ args ρ1 h => by cases h; rfl⟩
theorem se_fr (K : Fg) (mg : Str → Option Value) (hK : X.K = K) (hmg : X.mg = mg) (G : FnG X.prog X.w K mg X.base k f fd ps (spF mg np P F K)) (hk : Keeps F) (hr : Room k X.A) (hG : X.A.guards = some []) (hg : Gl X x) (hm : mg x = some (.ref f)) (kp : PySem.W.keepIn K (.ref f) = true) (hb : Binds K fd ps []) (tk : Takes X W)
    (hdb : (x == ("__debug__" : Str)) = false) (hs : starEach (e :: es) X.env = (false, eval e X.env) :: starEach es X.env) (hpl : (backTo pos (starEach es X.env)).any (·.1) = false) (hn : es.length + 1 = np) (he : SE X W e te fe) (ha : SAr X W es ta fa) :
    SE X W (.Call (.Name x p) (e :: es) [] pos) (tCallG (spF mg np P F K) [] W (tCons te ta)) (mCallFr P F fe fa) := by
  subst hK hmg
  exact ⟨pe_callG G hr hG hg hm kp hb .nil tk hdb hs hpl (pa_cons he.p ha.p hs), fr_core hk he.s ha.s fun ρ args ρ1 h => by rw [ha.l ρ args ρ1 h]; exact hn⟩
end
/-! ### runs -/
section
variable {K : Co Opd} {u : Tag K} {ρ : Fr} {fa fe : ME} {ra : MAr} {C : Addr} {f m : Str} {P : List Nat} {F : ME} {j : Nat} {d : D} {args : List Arg}
theorem ev_fld : Ev (mFld C f fa ρ) K u = Ev (fa ρ) ⟨fun r ρ1 => EvP (look r ρ1) fun d => EvP (obFld C f d) fun z => K.ok (.val z) ρ1, K.ex⟩ .mk := by
  unfold mFld; simp only [ev_un, evP_un, eu_bind, eu_opt, eu_ok, eu_ite]
theorem ev_ext {α : Type} {K K' : Co α} {u : Tag K} {u' : Tag K'} {r : RE α} (h : ∀ a ρ, K.ok a ρ = K'.ok a ρ) (hx : ∀ x ρ, K.ex x ρ = K'.ex x ρ) : Ev r K u = Ev r K' u' := by
  cases r with
  | ok a ρ => rw [ev_ok, ev_ok, h]
  | exc x ρ => rw [ev_exc, ev_exc, hx]
  | bad => rw [ev_bad, ev_bad]
theorem evP_ext {α : Type} {y : Option α} {k k' : α → Prop} (h : ∀ a, k a = k' a) : EvP y k = EvP y k' := by
  cases y with
  | none => rw [evP_none, evP_none]
  | some a => rw [evP_some, evP_some, h]
theorem ev_mt : Ev (mMt C m P F j ra ρ) K u = EvP (ownAt j ρ) fun d => obHas C m d = true ∧ Ev (mCall P F [] (mrCons (mVar j) ra) ρ) K .mk := by
  unfold mMt
  cases ownAt j ρ with
  | none => rw [evP_none]; exact ev_bad
  | some d =>
    rw [evP_some]
    show Ev (if obHas C m d = true then _ else _) K u = _
    by_cases h : obHas C m d = true
    · rw [if_pos h]; exact propext ⟨fun q => ⟨h, q⟩, fun q => q.2⟩
    · rw [if_neg h, ev_bad]; exact propext ⟨fun q => q.elim, fun q => absurd q.1 h⟩
theorem ev_callX {k : Opd → Option Slot → Fr → RE Opd} : Ev (mCallX P F d args ρ k) K u = ((places (.place ρ.length :: args)).Nodup ∧ EvP (mkAs P 0 (.place ρ.length :: args) (ρ ++ [.own d])) fun q =>
    Ev (F q.1) ⟨fun r outs => Ev (k r (wb (.place ρ.length :: args) q.1 outs q.2)[ρ.length]? ((wb (.place ρ.length :: args) q.1 outs q.2).take ρ.length)) K .mk, fun x outs => K.ex x ((wb (.place ρ.length :: args) q.1 outs q.2).take ρ.length)⟩ .mk) := by
  unfold mCallX
  by_cases h : (places (.place ρ.length :: args)).Nodup
  · rw [if_pos h, ev_opt]
    refine (evP_ext fun q => ?_).trans (propext ⟨fun z => ⟨h, z⟩, fun z => z.2⟩)
    cases F q.1 with
    | ok r outs => exact propext ⟨fun h => .ok h, fun h => by cases h; assumption⟩
    | exc x outs => exact propext ⟨fun h => .ex (by cases h; assumption), fun h => by cases h; exact .ex (by assumption)⟩
    | bad => exact propext ⟨fun h => (by cases h), fun h => (by cases h)⟩
  · rw [if_neg h, ev_bad]; exact propext ⟨fun q => q.elim, fun q => absurd q.1 h⟩
theorem ev_callFr : Ev (mCallFr P F fe ra ρ) K u = Ev (fe ρ) ⟨fun r ρ1 => Ev (ra ρ1) ⟨fun args ρ2 => ∃ d, r = .fresh d ∧ Ev (mCallX P F d args ρ2 fun r _ ρ3 => .ok r ρ3) K .mk, K.ex⟩ .mk, K.ex⟩ .mk := by
  unfold mCallFr
  rw [ev_bind]
  refine ev_ext (fun r ρ1 => ?_) fun _ _ => rfl
  show Ev ((ra ρ1).bind _) K _ = _
  rw [ev_bind]
  refine ev_ext (fun args ρ2 => ?_) fun _ _ => rfl
  cases r with
  | fresh d => exact propext ⟨fun h => ⟨d, rfl, h⟩, fun ⟨_, e, h⟩ => by cases e; exact h⟩
  | val d => exact propext ⟨fun h => (by have h : Ev RE.bad K _ := h; rw [ev_bad] at h; exact h.elim), fun ⟨_, e, h⟩ => by cases e⟩
  | place d => exact propext ⟨fun h => (by have h : Ev RE.bad K _ := h; rw [ev_bad] at h; exact h.elim), fun ⟨_, e, h⟩ => by cases e⟩
def mkEnd (K : Co Opd) (r : Opd) (s : Option Slot) (ρ3 : Fr) : Prop := ∃ d, r = .val .none ∧ s = some (.own d) ∧ K.ok (.fresh d) ρ3
theorem mkEnd_of {r : Opd} {s : Option Slot} {ρ3 : Fr} : Ev (match r, s with | .val .none, some (.own d) => RE.ok (.fresh d) ρ3 | _, _ => .bad) K u = mkEnd K r s ρ3 := by
  have no : ∀ {p : Prop}, (¬ p) → Ev RE.bad K u = p := fun h => by rw [ev_bad]; exact propext ⟨fun z => z.elim, fun z => absurd z h⟩
  unfold mkEnd
  cases r with
  | val d =>
    cases d with
    | none =>
      cases s with
      | none => exact no fun ⟨_, _, e, _⟩ => by cases e
      | some s =>
        cases s with
        | own d => exact ev_ok.trans (propext ⟨fun h => ⟨d, rfl, rfl, h⟩, fun ⟨_, _, e, h⟩ => by cases e; exact h⟩)
        | no => exact no fun ⟨_, _, e, _⟩ => by cases e
        | val d => exact no fun ⟨_, _, e, _⟩ => by cases e
    | _ => exact no fun ⟨_, e, _, _⟩ => by cases e
  | fresh d => exact no fun ⟨_, e, _, _⟩ => by cases e
  | place d => exact no fun ⟨_, e, _, _⟩ => by cases e
theorem ev_make : Ev (mMake C P F ra ρ) K u = Ev (ra ρ) ⟨fun args ρ2 => (places (.place ρ2.length :: args)).Nodup ∧ EvP (mkAs P 0 (.place ρ2.length :: args) (ρ2 ++ [.own (objD C [] [])])) fun q =>
    Ev (F q.1) ⟨fun r outs => mkEnd K r (wb (.place ρ2.length :: args) q.1 outs q.2)[ρ2.length]? ((wb (.place ρ2.length :: args) q.1 outs q.2).take ρ2.length), fun x outs => K.ex x ((wb (.place ρ2.length :: args) q.1 outs q.2).take ρ2.length)⟩ .mk, K.ex⟩ .mk := by
  unfold mMake
  rw [ev_bind]
  refine ev_ext (fun args ρ2 => ?_) fun _ _ => rfl
  show Ev (mCallX P F (objD C [] []) args ρ2 _) K _ = _
  rw [ev_callX]
  refine congrArg _ (evP_ext fun q => ev_ext (fun r outs => ?_) fun _ _ => rfl)
  exact mkEnd_of
end
section
variable {K : CoO} {u : Tag K} {ρ : Fr} {fe : ME} {j : Nat} {C : Addr} {f : Str}
theorem evo_putF : EvO (mPutF C f j fe ρ) K u = Ev (fe ρ) ⟨fun r ρ1 => EvP (keepV r ρ1) fun p => EvP (ownAt j p.2) fun d => EvP (obPut C f p.1 d) fun d' => K.go (.nx (p.2.set j (.own d'))), fun x ρ => K.go (.exc x ρ)⟩ .mk := by
  unfold mPutF; simp only [evo_out, ev_un, evo_opt, evP_un, evo_nx, evo_rt, ite_evo, evo_bad]
end
theorem obFld_one {C : Addr} {f : Str} {ks ds : List D} : obFld C f (.dict [(.none, .int (C : Nat)), (.list ks, .list ds)]) = (fldIx f ks).bind fun i => ds[i]? := by
  unfold obFld; simp
theorem obHas_one {C : Addr} {f : Str} {ks ds : List D} : obHas C f (.dict [(.none, .int (C : Nat)), (.list ks, .list ds)]) = (fldIx f ks).isNone := by
  unfold obHas; simp
theorem fldIx_nil {f : Str} : fldIx f [] = none := rfl
theorem fldIx_cons {f g : Str} {r : List D} : fldIx f (.str g :: r) = if g = f then some 0 else (fldIx f r).map (· + 1) := rfl
theorem obPut_one {C : Addr} {f : Str} {ks ds : List D} {d : D} (h : ds.length < 1000) : obPut C f d (.dict [(.none, .int (C : Nat)), (.list ks, .list ds)]) = match fldIx f ks with
    | some i => some (.dict [(.none, .int (C : Nat)), (.list ks, .list (ds.set i d))])
    | none => some (.dict [(.none, .int (C : Nat)), (.list (ks ++ [.str f]), .list (ds ++ [d]))]) := by
  unfold obPut; simp only [h, and_true, if_true] <;> rfl
theorem ownAt_one {j : Nat} {ρ : Fr} : ownAt j ρ = match ρ[j]? with
  | some (.own d) => some d
  | _ => none := rfl
/-! ### the end -/
open PyProof.Rows (AllBare)
theorem law_endE {l : PySem.W.OpenLaw} {n k : Nat} {q : Program} {loose : List Str} {XP : (Str → Option Value) → Heap → Prop} {YP : World → Heap → Prop} {d : DefRec} {K : Params → Fg} {x : Str}
    (hn : l.most = some n) (hn2 : n ≤ sizeLine) (hdf : d.params.defaults = []) (hr : Room k callerA) (hY : ∀ (w : World) (h : Heap), YP w h → (K w.params).In h)
    (hG : ∀ (w : World) (mg : Str → Option Value) (fa : Addr) (h : Heap), (K w.params).In h → h.Ns mainGlobals mg → mg d.name = some (.ref fa) →
      ∃ (fd : FuncData) (F : ME), (∀ (s : Shared) (u : Value), BindsTo s fd ⟨[u], []⟩ [(x, u)]) ∧ (∀ base : Heap, (K w.params).In base → base.Ns mainGlobals mg → FnG l.prog w (K w.params) mg base k fa fd [x] (spF mg 1 [] F (K w.params))) ∧
      ∀ ns : List Int, ns.length ≤ n → ∃ outs, F [.val (scriptOf ns)] = .ok (.val (.bool true)) outs) :
    PySem.W.WalkO q loose XP YP l.row.toRowW d [] (fun f vs => PySem.call f vs) := by
  refine Att.attach_call hn hdf fun w s₀ s mg mb fa o pm cd doc a vs ns G Y ho hd hcd hmg hobj hints hlen hg => ?_
  obtain ⟨fd, F, hb, hH, hF⟩ := hG w mg fa _ (hY w _ Y) G.T.g hmg
  exact law_run (hY w _ Y) G.T.g G.T.b G.T.builtins G.T.nolimit hg hobj hints (Nat.le_trans hlen hn2) hr hH hb (hF ns hlen)
end L3
set_option Elab.async false
set_option linter.all false
set_option maxRecDepth 100000
set_option maxHeartbeats 4000000
set_option autoImplicit false
/-! L3ZK: while by an invariant. -/
namespace L3
open PySem PySem.Spec L2
theorem while_inv {c : MB} {body : MS} {kl : List Nat} {KO : CoO} {uo : Tag KO} {ρ : Fr} {n fuel : Nat} (hf : n < fuel) (I : Nat → Fr → Prop) (h0 : I 0 ρ)
    (step : ∀ i ρ, i ≤ n → I i ρ → Ev (c ρ) ⟨fun k ρ1 => if k = true then i < n ∧ EvO (body ρ1) (forK (I (i + 1)) kl KO) .mk else KO.go (.nx ρ1), fun x ρ => KO.go (.exc x ρ)⟩ .mk) : EvO (whileN c body kl fuel ρ) KO uo := by
  have gen : ∀ (m i : Nat) (ρ : Fr), i ≤ n → n - i < m → I i ρ → EvO (whileN c body kl m ρ) KO .mk := by
    intro m
    induction m with
    | zero => intro i ρ _ h; omega
    | succ m ih =>
      intro i ρ hi hm h
      have s := step i ρ hi h
      unfold whileN
      cases ec : c ρ with
      | bad => rw [ec, ev_bad] at s; exact s.elim
      | exc x ρ1 => rw [ec, ev_exc] at s; exact EvO.mk (by intro z; cases z) s
      | ok k ρ1 =>
        rw [ec, ev_ok] at s
        cases k with
        | false =>
          simp only [Bool.false_eq_true, if_false] at s
          exact EvO.mk (by intro z; cases z) s
        | true =>
          simp only [if_true] at s
          obtain ⟨hin, st⟩ := s
          simp only [RE.out, if_true]
          cases eb : body ρ1 with
          | bad => rw [eb, evo_bad] at st; exact st.elim
          | nx ρ2 => rw [eb, evo_nx] at st; exact ih (i + 1) _ hin (by omega) st
          | ct ρ2 => rw [eb, evo_ct] at st; exact ih (i + 1) _ hin (by omega) st
          | bk ρ2 => rw [eb, evo_bk] at st; exact EvO.mk (by intro z; cases z) st
          | rt f d ρ2 => rw [eb, evo_rt] at st; exact EvO.mk (by intro z; cases z) st
          | exc x ρ2 => rw [eb, evo_exc] at st; exact EvO.mk (by intro z; cases z) st
  exact gen fuel 0 ρ (Nat.zero_le _) (by omega) h0
end L3
set_option Elab.async false
set_option linter.all false
set_option maxRecDepth 100000
set_option maxHeartbeats 4000000
set_option autoImplicit false
/-! L3ZL: dicts whose keys are ints and texts: new, of pairs, stored into, get. -/
namespace L3
open PySem PySem.Spec L2
abbrev DK := List (Key × D)
def putN (l : DK) (k : Key) (d : D) : DK := if (l.any fun p => decide (p.1 = k)) then l.map fun p => if p.1 = k then (p.1, d) else p else l ++ [(k, d)]
def valN (l : DK) (k : Key) : Option D := (l.find? fun p => decide (p.1 = k)).map (·.2)
def mergeN (l : DK) : DK := l.foldl (fun a p => putN a p.1 p.2) []
def dictK (l : DK) : D := .dict ((.none, .none) :: l.map fun p => (kD p.1, p.2))
def unKs : List (D × D) → Option DK
  | [] => some []
  | p :: r => match keyOf p.1, unKs r with
    | some k, some l => some ((k, p.2) :: l)
    | _, _ => none
def unK : D → Option DK
  | .dict ((.none, .none) :: kvs) => unKs kvs
  | _ => none
theorem unKs_dict : ∀ l : DK, unKs (l.map fun p => (kD p.1, p.2)) = some l
  | [] => rfl
  | p :: r => by simp only [List.map_cons, unKs, keyOf_kD, unKs_dict r]
theorem unK_dict (l : DK) : unK (dictK l) = some l := unKs_dict l
def pairN : D → Option (Key × D)
  | .tuple [k, d] => (keyOf k).map fun l => (l, d)
  | _ => none
def pairsN : List D → Option DK
  | [] => some []
  | d :: r => match pairN d, pairsN r with
    | some k, some l => some (k :: l)
    | _, _ => none
section
variable {K : Fg} {H : Hp} {O : Ow}
abbrev RpN (K : Fg) (H : Hp) (O : Ow) : List (Key × V) → DK → Prop := Paired fun p q => p.1 = q.1 ∧ Rp K H O p.2 q.2
theorem RpN.keep {H' : Hp} {O' : Ow} (k : Kp H O H' O') {l : List (Key × V)} {m : DK} (r : RpN K H O l m) : RpN K H' O' l m := Paired.mapP r fun _ _ z => ⟨z.1, z.2.keep k⟩
theorem RpK.n : ∀ {l : List (Key × V)} {kvs : List (D × D)} {m : DK}, RpK K H O l kvs → unKs kvs = some m → RpN K H O l m
  | _, _, _, .nil, e => by cases e; exact .nil
  | _, _, _, .cons (k := k) (kvs := kvs) h r, e => by
    simp only [unKs, keyOf_kD] at e
    cases e2 : unKs kvs with
    | none => rw [e2] at e; cases e
    | some m => rw [e2] at e; cases e; exact .cons ⟨rfl, h⟩ (RpK.n r e2)
theorem RpN.k : ∀ {l : List (Key × V)} {m : DK}, RpN K H O l m → RpK K H O l (m.map fun p => (kD p.1, p.2))
  | _, _, .nil => .nil
  | (k, v) :: _, (k2, d) :: _, .cons ⟨h1, h2⟩ r => by
    cases h1
    exact .cons h2 (RpN.k r)
theorem RpN.any {l : List (Key × V)} {m : DK} (r : RpN K H O l m) (k : Key) : (l.any fun p => decide (p.1 = k)) = m.any fun p => decide (p.1 = k) := by
  induction r with
  | nil => rfl
  | cons h t ih => rw [List.any_cons, List.any_cons, ih, h.1]
theorem RpN.snoc {l : List (Key × V)} {m : DK} (r : RpN K H O l m) {k : Key} {v : V} {d : D} (h : Rp K H O v d) : RpN K H O (l ++ [(k, v)]) (m ++ [(k, d)]) := Paired.snoc r ⟨rfl, h⟩
theorem RpN.repl {l : List (Key × V)} {m : DK} (r : RpN K H O l m) (k : Key) {v : V} {d : D} (h : Rp K H O v d) : RpN K H O (l.map fun p => if p.1 = k then (p.1, v) else p) (m.map fun p => if p.1 = k then (p.1, d) else p) := by
  induction r with
  | nil => exact .nil
  | @cons p q ps qs hh t ih =>
    rw [List.map_cons, List.map_cons]
    refine .cons ?_ ih
    by_cases e : p.1 = k
    · rw [if_pos e, if_pos (hh.1.symm.trans e)]; exact ⟨hh.1, h⟩
    · rw [if_neg e, if_neg fun z => e (hh.1.trans z)]; exact hh
theorem RpN.put {l : List (Key × V)} {m : DK} (r : RpN K H O l m) (k : Key) {v : V} {d : D} (h : Rp K H O v d) : RpN K H O (putK l k v) (putN m k d) := by
  unfold putK putN
  rw [r.any k]
  split
  · exact r.repl k h
  · exact r.snoc h
theorem RpN.putAll : ∀ {l : List (Key × V)} {m : DK} {l0 : List (Key × V)} {m0 : DK}, RpN K H O l0 m0 → RpN K H O l m → RpN K H O (mergeK l0 l) (m.foldl (fun a p => putN a p.1 p.2) m0)
  | _, _, _, _, r0, .nil => r0
  | _, _, _, _, r0, .cons (a := p) (b := q) h t => by
    unfold mergeK
    rw [List.foldl_cons, List.foldl_cons, h.1]
    exact RpN.putAll (r0.put q.1 h.2) t
theorem RpN.val {l : List (Key × V)} {m : DK} (r : RpN K H O l m) (k : Key) {v : V} {d : D} (h : Rp K H O v d) : Rp K H O ((valV l k).getD v) ((valN m k).getD d) := by
  induction r with
  | nil => exact h
  | @cons p q ps qs hh t ih =>
    by_cases e : p.1 = k
    · have e' : q.1 = k := hh.1.symm.trans e
      have : valN (q :: qs) k = some q.2 := by simp [valN, List.find?_cons, e']
      rw [valV_pos e, this]; exact hh.2
    · have e' : ¬ q.1 = k := fun z => e (hh.1.trans z)
      have : valN (q :: qs) k = valN qs k := by simp [valN, List.find?_cons, e']
      rw [valV_neg e, this]; exact ih
theorem RpN.len {l : List (Key × V)} {m : DK} (r : RpN K H O l m) : l.length = m.length := Paired.length r
theorem pairs_ofN : ∀ {xs : List V} {ds : List D} {m : DK}, RpAll K H O xs ds → pairsN ds = some m → ∃ (ps : List Addr) (kvs : List (Key × V)), xs = ps.map V.ref ∧ Paired (fun p kv => SqT K H p [kV kv.1, kv.2]) ps kvs ∧ RpN K H O kvs m
  | _, _, _, .nil, e => by cases e; exact ⟨[], [], rfl, .nil, .nil⟩
  | _, d :: ds, m, .cons h r, e => by
    simp only [pairsN] at e
    cases e1 : pairN d with
    | none => rw [e1] at e; cases e
    | some k =>
      cases e2 : pairsN ds with
      | none => rw [e1, e2] at e; cases e
      | some l =>
        rw [e1, e2] at e
        cases e
        obtain ⟨ps, kvs, rfl, hp, hm⟩ := pairs_ofN r e2
        unfold pairN at e1
        split at e1
        · rename_i k0 d0
          cases e3 : keyOf k0 with
          | none => rw [e3] at e1; cases e1
          | some kk =>
            rw [e3] at e1
            cases e1
            obtain ⟨a, ys, rfl, ha, ra⟩ := See.tup (.inl h)
            cases ra with
            | cons ra1 ra =>
              cases ra with
              | cons ra2 ra =>
                cases ra
                have ek := keyOf_eq e3
                subst ek
                have := ra1.key
                subst this
                exact ⟨a :: ps, (kk, _) :: kvs, rfl, .cons ha hp, .cons ⟨rfl, ra2⟩ hm⟩
        · cases e1
theorem See.dictK {v : V} {d : D} {l : DK} (h : See K H O v d) (e : unK d = some l) : ∃ a lv, v = .ref a ∧ H a = some (.dK lv) ∧ RpN K H O lv l := by
  unfold unK at e
  split at e
  · rename_i kvs
    rcases h with h | ⟨a, rfl, oa, h⟩
    · generalize eq : PyData.dict ((PyData.none, PyData.none) :: kvs) = D at h
      cases h with
      | @dK a lv kvs' ha na rk => cases eq; exact ⟨a, lv, rfl, ha, RpK.n rk e⟩
      | @dT a lv kvs' ha na rt => cases eq; exact absurd rfl (rt.noNone _ (List.mem_cons_self ..))
      | _ => cases eq
    · rcases h with ⟨lv, kvs', e1, ha, rk⟩ | ⟨lv, ha, rt⟩ | ⟨_, _, _, _, _, e1, _⟩
      · cases e1; exact ⟨a, lv, rfl, ha, RpK.n rk e⟩
      · exact absurd rfl (rt.noNone _ (List.mem_cons_self ..))
      · cases e1
  · cases e
theorem See.keyN {v : V} {d : D} {k : Key} (h : See K H O v d) (e : keyOf d = some k) : v = kV k := by
  have := keyOf_eq e
  subst this
  cases k with
  | inl i => exact h.int
  | inr x => exact h.str
theorem Cf.dK {Q : VK} {l : List (Key × V)} {m : DK} (c : Cf K H O (dictK m) Q) (r : RpN K H O l m) (p : Addr) (hp : H p = none) : Q (.ref p) (upd H p (.dK l)) :=
  c _ _ (Own1 O p) (.newOwn hp) ⟨p, rfl, hp, .inr rfl, .inl ⟨l, _, rfl, upd_same, (r.keep (Gr.newOwn hp).kp).k⟩⟩
end
/-! ### {} -/
def mDNewK : ME := fun ρ => .ok (.fresh (dictK [])) ρ
theorem se_dnewK {X : Cx} {W : WX} {pos : Pos} : SE X W (.Dict [] [] pos) tDNewK mDNewK :=
  ⟨pe_dnewK, fun ρ σ H O Q R h p hp => h _ _ (Own1 O p) (R.newOwn hp) (Frm.newOwn hp) ⟨p, rfl, hp, .inr rfl, .inl ⟨[], [], rfl, upd_same, .nil⟩⟩⟩
/-! ### dict(pairs) -/
def rDictN (K : Fg) : List V → Hp → VK → Prop := fun xs H Q => ∃ (a : Addr) (ps : List Addr) (kvs : List (Key × V)), xs = [.ref a] ∧ SqL K H a (ps.map V.ref) ∧ Paired (fun p kv => SqT K H p [kV kv.1, kv.2]) ps kvs ∧
    ∀ p, H p = none → Q (.ref p) (upd H p (.dK (mergeK [] kvs)))
def bDictN : List D → Option (Kd × D)
  | [.list ds] => (pairsN ds).map fun m => (.f, dictK (mergeN m))
  | _ => none
theorem g_dictN {K : Fg} : CallOk K (rDictN K) bDictN := by
  intro H O vs ds k z Q s h c
  unfold bDictN at h
  split at h
  · rename_i l
    cases q : pairsN l with
    | none => rw [q] at h; cases h
    | some m =>
      rw [q] at h
      cases h
      obtain ⟨v, rfl, s1⟩ := s.one
      obtain ⟨a, xs, rfl, h1, r1⟩ := s1.lst
      obtain ⟨ps, kvs, rfl, hp, hm⟩ := pairs_ofN r1 q
      exact ⟨a, ps, kvs, rfl, .inl (.of h1), hp, fun b hb => Cf.dK c (RpN.putAll .nil hm) b hb⟩
  · cases h
/-! ### d[k] = e -/
def ownN (j : Nat) (ρ : Fr) : Option DK := match ρ[j]? with
  | some (.own d) => unK d
  | _ => none
theorem own_dictN {K : Fg} {ρ : Fr} {σ : L2.St} {H : Hp} {O : Ow} {j : Nat} {l : DK} (R : Rel K ρ σ H O) (h : ownN j ρ = some l) : ∃ d a lv, ρ[j]? = some (.own d) ∧ σ[j]? = some (some (.ref a)) ∧ O a ∧ H a = some (.dK lv) ∧ RpN K H O lv l := by
  unfold ownN at h
  split at h
  · rename_i d e
    obtain ⟨a, e1, oa, w⟩ := R.slot j _ e
    obtain ⟨a', lv, ea, ha, rm⟩ := See.dictK (.inr ⟨a, rfl, oa, w⟩) h
    cases ea
    exact ⟨d, a, lv, e, e1, oa, ha, rm⟩
  · cases h
def mDPutN (j : Nat) (fe fk : ME) : MS := fun ρ => RE.out (fe ρ) fun r ρ1 => Out.opt (keepV r ρ1) fun p => Out.opt (ownN j p.2) fun _ => RE.out (fk p.2) fun rk ρ2 => Out.opt (look rk ρ2) fun dk => Out.opt (keyOf dk) fun k =>
  Out.opt (ownN j ρ2) fun l => if l.length < sizeLine then .nx (ρ2.set j (.own (dictK (putN l k p.1)))) else .bad
section
variable {X : Cx} {W : WX} {P : List Nat} {e i : Expr} {x : Str} {te ti : TE} {fe fi : ME} {p pos spos : Pos} {j : Nat}
theorem ss_dputN (K : Fg) (hK : X.K = K) (hu : X.A.units + 1 < cLine) (hN : X.N[j]? = some x) (hv : Vis X.env.scope x) (hd : (x == ("__debug__" : Str)) = false) (hcd : (x == ("__classdict__" : Str)) = false)
    (hs : swapsWith e (some (.Subscript (.Name x p) i spos)) pos.line X.env = pure false)
    (he : SE X W e te fe) (hi : SE X W i ti fi) : SS X W P (.Assign [.Subscript (.Name x p) i spos] e pos) (sDPut (tVar j) ti te) (mDPutN j fe fi) := by
  subst hK
  refine ⟨ps_dput hu (pe_var hN hv hd hcd) hi.p he.p hs, fun n hn ρ σ H O D R B w => he.s ρ σ H O _ R (w.ev R B fun r ρ1 v H1 O1 e1 R1 B1 F1 o1 w1 => ?_)⟩
  obtain ⟨⟨d, ρ2⟩, ek, w1⟩ := w1.opt
  obtain ⟨O2, R2, F2, rp⟩ := ORel.kept o1 R F1 R1 ek
  have w2 : WantS X.K X.mg W n H O (Out.opt (ownN j ρ2) fun _ => RE.out (fi ρ2) fun rk ρ2 => Out.opt (look rk ρ2) fun dk => Out.opt (keyOf dk) fun k =>
      Out.opt (ownN j ρ2) fun l => if l.length < sizeLine then .nx (ρ2.set j (.own (dictK (putN l k d)))) else .bad) D := by
    unfold mDPutN at w
    rw [e1] at w
    simp only [RE.out, ek, Out.opt] at w
    exact w
  have w2 := w2.from (F2.kp R)
  obtain ⟨l0, el0, w2⟩ := w2.opt
  obtain ⟨d0, a, lv0, ed0, es0, _, ha0, _⟩ := own_dictN R2 el0
  refine ⟨_, es0, hi.s ρ2 σ H1 O2 _ R2 (w2.ev R2 (B.frm F2) fun ri ρ3 iv H3 O3 e3 R3 B3 F3 o3 w3 => ?_)⟩
  obtain ⟨di, edi, w3⟩ := w3.opt
  obtain ⟨k, ek2, w3⟩ := w3.opt
  obtain ⟨l, el, w3⟩ := w3.opt
  obtain ⟨d3, a', lv, ed3, es1, oa, ha, rm⟩ := own_dictN R3 el
  rw [es0] at es1
  cases es1
  have eiv := (ORel.see1 o3 R2 F3 R3 edi).keyN ek2
  subst eiv
  split at w3
  · rename_i hz
    obtain ⟨R4, F4⟩ := R3.updSlot (d' := dictK (putN l k d)) (o' := .dK (putK lv k v)) ed3 es0 fun kp => .inl ⟨_, _, rfl, upd_same, (((rm.put k (rp.keep (F3.kp R2))).keep kp)).k⟩
    exact ⟨a, _, rfl, .k ha (by rw [rm.len]; exact hz), w3 σ _ O3 R4 (B3.frm F4) (F4.kp R3)⟩
  · exact w3.elim
end
/-! ### d.get(k, x) -/
def mGetN (fo fk fd : ME) : ME := fun ρ => (fo ρ).bind fun ro ρ1 => RE.opt (look ro ρ1) fun d0 => RE.opt (unK d0) fun _ => (fk ρ1).bind fun rk ρ2 => RE.opt (look rk ρ2) fun dk => RE.opt (keyOf dk) fun k => (fd ρ2).bind fun rd ρ3 => RE.opt (valO rd) fun d => RE.opt (look ro ρ3) fun dd => RE.opt (unK dd) fun l => .ok (.val ((valN l k).getD d)) ρ3
section
variable {X : Cx} {W : WX} {o e f : Expr} {apos cpos : Pos} {td ty tx : TE} {fo fk fd : ME}
theorem se_getN (K : Fg) (hK : X.K = K) (hu : X.A.units + 1 < cLine) (ho : SE X W o td fo) (he : SE X W e ty fk) (hf : SE X W f tx fd) (m : M2 X o "get" apos e f cpos) : SE X W (.Call (.Attribute o "get" apos) [e, f] [] cpos) (tDGet2 td ty tx) (mGetN fo fk fd) := by
  subst hK
  refine ⟨pe_dget2 hu ho.p he.p hf.p m, fun ρ σ H O Q R h => ho.s ρ σ H O _ R (Want.bind h fun r ρ1 v H1 O1 e1 R1 F1 o1 h1 => ?_)⟩
  obtain ⟨d0, ed0, h1⟩ := h1.opt
  obtain ⟨l0, el0, h1⟩ := h1.opt
  obtain ⟨a, lv0, rfl, ha0, _⟩ := (ORel.see1 o1 R F1 R1 ed0).dictK el0
  refine ⟨a, rfl, .inl ⟨lv0, .of ha0⟩, he.s ρ1 σ H1 O1 _ R1 (Want.bind h1 fun rk ρ2 y H2 O2 e2 R2 F2 o2 h2 => ?_)⟩
  obtain ⟨dk, edk, h2⟩ := h2.opt
  obtain ⟨k, ek, h2⟩ := h2.opt
  have ey := (ORel.see1 o2 R1 F2 R2 edk).keyN ek
  subst ey
  refine hf.s ρ2 σ H2 O2 _ R2 (Want.bind h2 fun rd ρ3 z H3 O3 e3 R3 F3 o3 h3 => ?_)
  obtain ⟨d, ed, h4⟩ := h3.opt
  obtain ⟨dd, edd, h5⟩ := h4.opt
  obtain ⟨l, el, h6⟩ := h5.opt
  cases valO_eq ed
  have o3 : Rp X.K H3 O3 z d := o3
  obtain ⟨a', lv, ea, ha, rm⟩ := (ORel.see o1 R F1 R1 (F2.trans F3) R3 edd).dictK el
  cases ea
  exact ⟨valV lv k, .k ha, h6.ck .v R3 _ _ _ .refl (rm.val k o3)⟩
end
section
variable {K : Co Opd} {u : Tag K} {ρ : Fr} {fo fk fd : ME}
theorem ev_getN : Ev (mGetN fo fk fd ρ) K u = Ev (fo ρ) ⟨fun ro ρ1 => EvP (look ro ρ1) fun d0 => EvP (unK d0) fun _ => Ev (fk ρ1) ⟨fun rk ρ2 => EvP (look rk ρ2) fun dk => EvP (keyOf dk) fun k => Ev (fd ρ2) ⟨fun rd ρ3 => EvP (valO rd) fun d => EvP (look ro ρ3) fun dd => EvP (unK dd) fun l => K.ok (.val ((valN l k).getD d)) ρ3, K.ex⟩ .mk, K.ex⟩ .mk, K.ex⟩ .mk := by
  unfold mGetN; simp only [ev_un, evP_un, eu_bind, eu_opt, eu_ok, eu_ite]
theorem ev_dnewK : Ev (mDNewK ρ) K u = K.ok (.fresh (dictK [])) ρ := by
  unfold mDNewK; simp only [ev_un, eu_ok]
end
section
variable {K : CoO} {u : Tag K} {ρ : Fr} {fe fk : ME} {j : Nat}
theorem evo_dputN : EvO (mDPutN j fe fk ρ) K u = Ev (fe ρ) ⟨fun r ρ1 => EvP (keepV r ρ1) fun p => EvP (ownN j p.2) fun _ => Ev (fk p.2) ⟨fun rk ρ2 => EvP (look rk ρ2) fun dk => EvP (keyOf dk) fun k => EvP (ownN j ρ2) fun l => if l.length < sizeLine then K.go (.nx (ρ2.set j (.own (dictK (putN l k p.1))))) else False, fun x ρ => K.go (.exc x ρ)⟩ .mk, fun x ρ => K.go (.exc x ρ)⟩ .mk := by
  unfold mDPutN; simp only [evo_out, ev_un, evo_opt, evP_un, evo_nx, evo_rt, ite_evo, evo_bad]
end
end L3
set_option Elab.async false
set_option linter.all false
set_option maxRecDepth 100000
set_option maxHeartbeats 4000000
set_option autoImplicit false
/-! L3ZM: for over a list that a slot owns and keeps. -/
namespace L3
open PySem PySem.Spec L2
open Classical in
noncomputable def forLO (gt : D → Fr → Option Fr) (body : MS) (kl : List Nat) (j : Nat) (l0 : List D) : List D → Fr → Out
  | [], ρ => if ρ[j]? = some (.own (.list l0)) then .nx ρ else .bad
  | d :: ds, ρ => if ρ[j]? = some (.own (.list l0)) then (match gt d ρ with
    | none => .bad
    | some ρ1 => match body ρ1 with
      | .nx ρ2 => forLO gt body kl j l0 ds (kill ρ2 kl)
      | .ct ρ2 => forLO gt body kl j l0 ds (kill ρ2 kl)
      | .bk ρ2 => .nx (kill ρ2 kl)
      | .rt f d ρ2 => .rt f d ρ2
      | .exc x ρ2 => .exc x ρ2
      | .bad => .bad) else .bad
noncomputable def mForO (j : Nat) (gt : D → Fr → Option Fr) (body : MS) (kl : List Nat) : MS := fun ρ => Out.opt (ownL j ρ) fun l => forLO gt body kl j l l (kill ρ kl)
section
variable {K : Fg} {ρ : Fr} {σ : L2.St} {H : Hp} {O : Ow} {n : En} {j : Nat} {a : Addr}
abbrev En.more (n : En) (j : Nat) (a : Addr) : En := ⟨j :: n.P, (j, a) :: n.E, n.H0, n.O0⟩
theorem Bs.more (B : Bs n ρ σ H O) (e : σ[j]? = some (some (.ref a))) : Bs (n.more j a) ρ σ H O :=
  ⟨fun b o h hn => B.keep b o h fun i hi => hn i (List.mem_cons_of_mem _ hi), B.dom, B.tups, B.frzs, fun i d b h1 h2 => (B.own i d b h1 h2).imp (List.mem_cons_of_mem _) id, fun i b h => by
    rcases List.mem_cons.mp h with z | h
    · cases z; exact ⟨e, List.mem_cons_self ..⟩
    · exact ⟨(B.pin i b h).1, List.mem_cons_of_mem _ (B.pin i b h).2⟩⟩
theorem Bs.less (B : Bs (n.more j a) ρ σ H O) (na : n.H0 a = none) (ap : ∀ i b, (i, b) ∈ n.E → i ∈ n.P) : Bs n ρ σ H O :=
  ⟨fun b o h hn => B.keep b o h fun i hi => by
      rcases List.mem_cons.mp hi with z | hi
      · cases z
        have h : n.H0 a = some o := h
        rw [na] at h; cases h
      · exact hn i hi, B.dom, B.tups, B.frzs, fun i d b h1 h2 => by
      rcases B.own i d b h1 h2 with z | z
      · rcases List.mem_cons.mp z with z | z
        · cases z; exact .inr na
        · exact .inl z
      · exact .inr z, fun i b h => ⟨(B.pin i b (List.mem_cons_of_mem _ h)).1, ap i b h⟩⟩
end
section
variable {X : Cx} {W : WX} {P : List Nat} {tg : Expr} {body : List Stmt} {g : TG} {tb : TS} {p pos : Pos} {x : Str} {gt : D → Fr → Option Fr} {fb : MS} {is : List Nat} {j : Nat}
theorem ss_forO (kl : List Nat) (hp : PassesOwn (model X.prog X.w) X.A X.env X.xe) (hc : X.calm = true) (hN : X.N[j]? = some x) (hv : Vis X.env.scope x) (hd : (x == ("__debug__" : Str)) = false) (hcd : (x == ("__classdict__" : Str)) = false)
    (hs : ∀ z, foldedSetIterable (.Name x p) X.env z = pure z) (jp : j ∉ P) (ip : ∀ i ∈ is, i ∉ j :: P) (hg : SG X tg is g gt) (hb : SSs X W (j :: P) body tb fb) :
    SS X W P (.For tg (.Name x p) body [] pos) (tFor (iSeq X.K (tVar j)) g tb) (mForO j gt fb kl) := by
  refine ⟨ps_for hp hc (pi_seq (pe_var hN hv hd hcd)) hg.p hb.p hs, fun n hn ρ σ H O D R B w => ?_⟩
  obtain ⟨l, el, w⟩ := WantS.opt w
  obtain ⟨a, xs0, es0, oa0, hx0, rx0⟩ := own_list R el
  have na : n.H0 a = none := by
    rcases B.own j _ a (ownL_some el) es0 with z | z
    · exact absurd (B.pin j a z).2 (by rw [hn]; exact jp)
    · exact z
  have ap : ∀ i b, (i, b) ∈ n.E → i ∈ n.P := fun i b h => (B.pin i b h).2
  refine ⟨_, es0, a, rfl, .inl ⟨⟨xs0, .inl (.of hx0)⟩, ?_⟩⟩
  refine ⟨fun i m σ H => m = l.length - i ∧ i ≤ l.length ∧ ∃ ρ O, Rel X.K ρ σ H O ∧ Bs (n.more j a) ρ σ H O ∧ WantS X.K X.mg W n H O (forLO gt fb kl j l (l.drop i) ρ) D,
    ⟨l.length, rfl, Nat.zero_le _, kill ρ kl, O, R.kill kl, (B.more es0).kill kl, w⟩, ?_⟩
  rintro i m σ2 H2 ⟨rfl, hi2, ρ2, O2, R2, B2, w2⟩
  have here : ρ2[j]? = some (.own (.list l)) → ∃ xs, H2 a = some (.lst xs) ∧ RpAll X.K H2 O2 xs l := fun e => by
    obtain ⟨b, eb, ob, xs, hx, rx⟩ := R2.slot j _ e
    have ea := (B2.pin j a (List.mem_cons_self ..)).1
    rw [ea] at eb
    cases eb
    exact ⟨xs, hx, rx⟩
  by_cases hlt : i < l.length
  · have edr : l.drop i = l[i] :: l.drop (i + 1) := List.drop_eq_getElem_cons hlt
    rw [edr] at w2
    unfold forLO at w2
    by_cases ej : ρ2[j]? = some (.own (.list l))
    · rw [if_pos ej] at w2
      obtain ⟨xs, hx, rx⟩ := here ej
      obtain ⟨x0, ex0, rp⟩ := rx.get (List.getElem?_eq_getElem hlt)
      refine .inr ⟨⟨xs, x0, .inl (.of hx), ex0⟩, fun σ' H' => ∃ ρ' O', Rel X.K ρ' σ' H' O' ∧ Bs (n.more j a) ρ' σ' H' O' ∧ WantS X.K X.mg W n H' O' (forLO gt fb kl j l (l.drop (i + 1)) ρ') D,
        fun σ' H' q => ⟨l.length - (i + 1), by omega, rfl, hlt, q⟩, fun x H' y => ?_⟩
      obtain ⟨rfl, y⟩ := y
      have := y xs (.inl (.of hx))
      rw [ex0] at this
      cases this
      cases eg : gt l[i] ρ2 with
      | none => simp only [eg] at w2; exact w2.elim
      | some ρ3 =>
        simp only [eg] at w2
        refine hg.s (n.more j a) x0 l[i] ρ2 ρ3 σ2 H' O2 _ (fun i hi => by show i ∉ j :: n.P; rw [hn]; exact ip i hi) R2 B2 rp eg fun σ3 R3 B3 _ _ => ?_
        refine hb.s (n.more j a) (by show j :: n.P = j :: P; rw [hn]) ρ3 σ3 H' O2 _ R3 B3 ?_
        have w3 := w2
        cases eb : fb ρ3 with
        | nx ρ4 => rw [eb] at w3; exact fun σ4 H4 O4 R4 B4 k4 => ⟨kill ρ4 kl, O4, R4.kill kl, B4.kill kl, w3.from k4⟩
        | ct ρ4 => rw [eb] at w3; exact fun σ4 H4 O4 R4 B4 k4 => ⟨kill ρ4 kl, O4, R4.kill kl, B4.kill kl, w3.from k4⟩
        | bk ρ4 => rw [eb] at w3; exact fun σ4 H4 O4 R4 B4 k4 => w3 σ4 H4 O4 (R4.kill kl) ((B4.less na ap).kill kl) k4
        | rt f d ρ4 => rw [eb] at w3; exact fun v σ4 H4 O4 R4 B4 rr => w3 v σ4 H4 O4 R4 (B4.less na ap) (by cases f <;> exact rr)
        | exc x ρ4 => rw [eb] at w3; exact fun cls d σ4 H4 O4 R4 B4 k4 xr => w3 cls d σ4 H4 O4 R4 (B4.less na ap) k4 xr
        | bad => rw [eb] at w3; exact w3
    · rw [if_neg ej] at w2; exact w2.elim
  · have e : i = l.length := by omega
    subst e
    rw [List.drop_length] at w2
    unfold forLO at w2
    by_cases ej : ρ2[j]? = some (.own (.list l))
    · rw [if_pos ej] at w2
      obtain ⟨xs, hx, rx⟩ := here ej
      exact .inl ⟨⟨xs, .inl (.of hx), by rw [rx.length]; exact Nat.le_refl _⟩, w2 σ2 H2 O2 R2 (B2.less na ap) .refl⟩
    · rw [if_neg ej] at w2; exact w2.elim
end
section
variable {gt : D → Fr → Option Fr} {body : MS} {kl : List Nat} {KO : CoO} {uo : Tag KO} {j : Nat} {l0 : List D}
theorem evo_forO {ρ : Fr} : EvO (mForO j gt body kl ρ) KO uo = EvP (ownL j ρ) fun l => EvO (forLO gt body kl j l l (kill ρ kl)) KO .mk := by
  unfold mForO
  cases ownL j ρ with
  | none => rw [evP_none]; exact evo_bad
  | some l => rw [evP_some]; rfl
theorem forO_inv {ds : List D} {ρ : Fr} (I : Nat → Fr → Prop) (hI : ∀ i ρ, I i ρ → ρ[j]? = some (.own (.list l0))) (h0 : I 0 ρ) (step : ∀ i d ρ, ds[i]? = some d → I i ρ → EvP (gt d ρ) fun ρ1 => EvO (body ρ1) (forK (I (i + 1)) kl KO) .mk)
    (fin : ∀ ρ, I ds.length ρ → KO.go (.nx ρ)) : EvO (forLO gt body kl j l0 ds ρ) KO uo := by
  have gen : ∀ (l : List D) (i : Nat) (ρ : Fr), l = ds.drop i → i ≤ ds.length → I i ρ → EvO (forLO gt body kl j l0 l ρ) KO .mk := by
    intro l
    induction l with
    | nil =>
      intro i ρ e hi h
      have : i = ds.length := by
        have := congrArg List.length e
        simp at this
        omega
      subst this
      unfold forLO
      rw [if_pos (hI _ _ h), evo_nx]
      exact fin ρ h
    | cons d l ih =>
      intro i ρ e hi h
      have hlt : i < ds.length := by
        have := congrArg List.length e
        simp at this
        omega
      have ed : ds[i]? = some d ∧ l = ds.drop (i + 1) := by
        rw [List.drop_eq_getElem_cons hlt] at e
        cases e
        exact ⟨List.getElem?_eq_getElem hlt, rfl⟩
      obtain ⟨ρ1, e1, st⟩ := step i d ρ ed.1 h
      unfold forLO
      rw [if_pos (hI _ _ h)]
      simp only [e1]
      cases eb : body ρ1 with
      | bad => rw [eb, evo_bad] at st; exact st.elim
      | nx ρ2 => rw [eb, evo_nx] at st; exact ih (i + 1) _ ed.2 hlt st
      | ct ρ2 => rw [eb, evo_ct] at st; exact ih (i + 1) _ ed.2 hlt st
      | bk ρ2 => rw [eb, evo_bk] at st; rw [evo_nx]; exact st
      | rt f d ρ2 => rw [eb, evo_rt] at st; rw [evo_rt]; exact st
      | exc x ρ2 => rw [eb, evo_exc] at st; rw [evo_exc]; exact st
  exact gen ds 0 ρ rfl (Nat.zero_le _) h0
end
end L3
set_option Elab.async false
set_option linter.all false
set_option maxRecDepth 100000
set_option maxHeartbeats 4000000
set_option autoImplicit false
/-! L3ZN: an exception kept behind its suite, asked and read there; raise X(). -/
namespace L3
open PySem PySem.Spec L2 PyProof.Rows
theorem excH_ok {P : Program} {w : World} {H : Hp} {h : Heap} {a : Addr} {cls : Value} {d : Option Addr} {oe : Obj} {vs : Array Value} (e : h.get? a = some oe) (z : Zc cls d oe) (hd : oe.data = .fields vs) : ObjOk P w H h a (excH a cls d) :=
  ⟨⟨oe, vs, e, z, hd⟩, ⟨_, e⟩, fun h1 h2 ⟨o, v, e1, z1, d1⟩ k => ⟨o, v, k _ e1, z1, d1⟩⟩
section
variable {X : Cx} {pins : List (Addr × Obj)} {σ : L2.St} {H : Hp} {s : Shared}
theorem Inv.keepPin {a : Addr} {q : Addr × Obj} {pn' : List (Addr × Obj)} (I : Inv (X.suite a (q :: (X.pn ++ pins))) pn' σ H s) (ok : X.Ok) : Inv X (q :: pins) σ H s :=
  ⟨ok, I.os, I.bare, I.base, I.loc, I.cell, I.free, I.freeC, fun p hp => I.pin p (List.mem_append_left _ (by
    rcases List.mem_append.mp hp with h | h
    · exact List.mem_cons_of_mem _ (List.mem_append_left _ h)
    · rcases List.mem_cons.mp h with e | h
      · rw [e]; exact List.mem_cons_self
      · exact List.mem_cons_of_mem _ (List.mem_append_right _ h))), I.hok, I.len⟩
/-- what was pinned is tracked -/
theorem Inv.adopt {a : Addr} {oe : Obj} {o : HO} (I : Inv X ((a, oe) :: pins) σ H s) (h0 : X.s_0.heap.get? a = none) (hp : ∀ p ∈ X.pn ++ pins, p.1 ≠ a) (new : ObjOk X.prog X.w (upd H a o) s.heap a o) : Inv X pins σ (upd H a o) s := by
  obtain ⟨ha, na, nL, nF, nc⟩ := I.pin (a, oe) (List.mem_append_right _ List.mem_cons_self)
  have na : H a = none := na
  refine ⟨I.ok, I.os, I.bare, ⟨I.base.keep, I.base.slot, fun b ob e n hx => ?_, I.base.there, fun b xs e => ?_, fun b ob u e => ?_, fun b ps e => ?_⟩, I.loc, I.cell, ?_, fun x c e => ?_, fun p hq => ?_, I.hok.laidN (fun _ _ z => z) na new, I.len⟩
  · have nb : b ≠ a := fun z => by rw [z, h0] at e; cases e
    rw [upd_ne nb]
    exact I.base.free b ob e n hx
  · have q := I.base.tups b xs e
    rw [upd_ne (fun z => by rw [z, na] at q; cases q)]
    exact q
  · have q := I.base.frzs b ob u e
    rw [upd_ne (fun z => by rw [z, na] at q; cases q)]
    exact q
  · obtain ⟨more, q⟩ := I.base.tbls b ps e
    exact ⟨more, by rw [upd_ne (fun z => by rw [z, na] at q; cases q)]; exact q⟩
  · rw [upd_ne (Ne.symm nL)]; exact I.free
  · have ne : c ≠ a := fun z => by
      obtain ⟨v, oc, hc, hd⟩ := I.cell x c e
      have eo : oe = oc := Option.some.inj (ha.symm.trans (z ▸ hc))
      exact nc _ (by show oe.data = _; rw [eo]; exact hd)
    rw [upd_ne ne]
    exact I.freeC x c e
  · have hq' : p ∈ X.pn ++ (a, oe) :: pins := by
      rcases List.mem_append.mp hq with h | h
      · exact List.mem_append_left _ h
      · exact List.mem_append_right _ (List.mem_cons_of_mem _ h)
    obtain ⟨q1, q2, q3⟩ := I.pin p hq'
    exact ⟨q1, by rw [upd_ne (hp p hq)]; exact q2, q3⟩
end
/-- what the clause 'except x as n' wishes of an exception of the body, where the suite keeps it: slot i is n's -/
def wKeep (K : PySem.W.Frag) (c : Value) (i : Nat) (ts : Addr → Value → Option Addr → TS) (Wout : WX) (D : Ends) : WX := fun cls d σ H =>
  ∃ b, PySem.W.exmOne K cls c = some b ∧ (b = true → ∀ a, H a = none → ts a cls d { nx := fun σ' H' => H' a = none ∧ (H' a = none → D.nx (σ'.set i none) (upd H' a (excH a cls d))), rt := fun _ _ => False, bk := fun _ _ => False, ct := fun _ _ => False } (σ.set i (some (.ref a))) H) ∧
    (b = false → Wout cls d σ H)
section
variable {X : Cx} {x n : Str} {c : Value} {i : Nat} {body suite : List Stmt} {b₀ : Stmt} {np pos pos' : Pos} {tb : WX → TS} {ts : Addr → Value → Option Addr → TS} {Wout : WX}
theorem ps_try_keep (hs : X.stack = X.env :: X.outer) (hf : X.env.frame = some X.env.locals) (hex : X.ex = []) (hN : X.N.Nodup) (hi : X.N[i]? = some n) (hln : X.env.kindOf n = some .local) (hc : Names X x c) (tk : Takes X Wout)
    (hb : ∀ (W : WX) (pn : List (Addr × Obj)) (xe : Value → Shared → Prop), Takes (X.tr pn xe) W → PassesOwn (model X.prog X.w) X.A X.env xe → PSs (X.tr pn xe) body (tb W))
    (hsu : ∀ (a : Addr) (oe : Obj) (cls : Value) (d : Option Addr) (pn : List (Addr × Obj)), Zc cls d oe → (∃ vs, oe.data = .fields vs) → PSs (X.suite a ((a, oe) :: pn)) (b₀ :: suite) (ts a cls d)) :
    PS X (.Try body [.ExceptHandler (some (.Name x np)) (some n) (b₀ :: suite) pos'] [] [] pos) (fun D σ H => tb (wKeep X.K c i ts Wout D) D σ H) := by
  refine ⟨fun pins s σ H D I h => ?_⟩
  have ok := I.ok
  have hfr : X.A.frames = some (X.env :: X.outer) := by rw [ok.frames, hs]
  have hloc : Loc X.env.scope n := .inl hln
  refine wpAny_Try_except ?_
  refine wpAny_mono ((hb (wKeep X.K c i ts Wout D) (X.pn ++ pins) (fun e s₁ => wpAny (model X.prog X.w) X.A (noteFrame e X.env) (fun _ s₂ => wpAny (model X.prog X.w) X.A (setFlight e none) (fun _ s₃ =>
    wpAny (model X.prog X.w) X.A (handleBy e X.env [.ExceptHandler (some (.Name x np)) (some n) (b₀ :: suite) pos']) (SP X pins D) X.xe s₃) X.xe s₂) X.xe s₁) (fun u s' xx => ?_) PassesOwn.looking).run [] s σ H D (I.toTry _) h) (fun f s1 hsp => ?_) (fun e s1 he => he)
  · -- the catch
    obtain ⟨a, B, sI, pins', σ', H', cls, d, rfl, J', nb, up, sky, na, os, ag, b, hb1, hyes, hno⟩ := xx
    have J : Inv X pins σ' H' sI := J'.ofTry ok
    have sky' : Sky B (X.env :: X.outer) a (Zc cls d) X.env.locals s'.heap := by rw [← hs]; exact sky
    show wpAny (model X.prog X.w) X.A (noteFrame (.ref a) X.env) _ _ _
    refine Sky.land Zc.steady hfr hf sky' fun h3 fl3 up3 => ?_
    have J3 : Inv X pins σ' H' { s' with heap := h3 } := J.landed nb fl3.1 (up.trans up3) os ag
    obtain ⟨oe3, vs3, he3, hz3, hd3⟩ := fl3.there
    have notFr : ∀ {h : Heap} {o : Obj} {vs : Array Value}, h.FunFrames B (X.env :: X.outer) → h.get? a = some o → o.data = .fields vs → a ∉ frs (X.env :: X.outer) := fun {h o vs} ff e dd hm => by
      obtain ⟨_, o', e', hnf⟩ := ff.mem hm
      rw [e] at e'; cases e'
      exact hnf _ dd
    have nfr := notFr fl3.2.2.1 he3 hd3
    have nL : a ≠ X.env.locals := fun z => nfr (List.mem_filterMap.mpr ⟨X.env, List.mem_cons_self, by rw [hf, z]⟩)
    have nF : a ∉ X.fs := fun hm => by
      obtain ⟨e, he, q⟩ := List.mem_filterMap.mp hm
      exact nfr (List.mem_filterMap.mpr ⟨e, List.mem_cons_of_mem _ he, q⟩)
    have nB : B.get? a = none := fl3.2.1
    have nI : ∀ o, sI.heap.get? a = some o → False := fun o e => by
      have := nb a o e (by rw [hs]; exact nfr)
      rw [nB] at this
      cases this
    have n0 : X.s_0.heap.get? a = none := by
      cases z : X.s_0.heap.get? a with
      | none => rfl
      | some o =>
        obtain ⟨o', e⟩ := J.base.there a o z (by rw [hex]; intro y; cases y)
        exact (nI _ e).elim
    have npp : ∀ p ∈ X.pn ++ pins, p.1 ≠ a := fun p hp z => nI p.2 (by rw [← z]; exact (J.pin p hp).1)
    have S3 := J3.suite he3 hd3 na nL nF
    refine wpAny_handleBy_cons (codeAny_handlers_test ?_) (by intro q; cases q)
    have LT : PySem.W.Looks (model X.prog X.w) h3 (typeOf (.ref a)) cls := fun A Q E s k q => wpAny_typeOf_ref (k _ _ he3) (by rw [hz3.1]; exact q)
    have LM := PySem.W.exm_one (M := model X.prog X.w) (J3.kIn) LT hb1
    have test : ∀ {Q : Value → Shared → Prop} {E : Value → Shared → Prop}, Q c { s' with heap := h3 } → wpAny (model X.prog X.w) (X.A.mark (some (.ref a))) (eval (.Name x np) X.env) Q E { s' with heap := h3 } := fun {Q E} q => by
      obtain ⟨hg, hdbg, hm | ⟨hm, hv, hnn⟩⟩ := hc
      · exact ld_glob (X := X.suite a ((a, oe3) :: (X.pn ++ pins))) S3 hg hm q hdbg
      · exact ld_blt (X := X.suite a ((a, oe3) :: (X.pn ++ pins))) S3 hg hm hv q hnn hdbg
    refine test (LM.here ?_)
    cases b with
    | true =>
      refine codeAny_handlers_suite_as ?_
      refine HandSPX.lands_againZ fl3 fun h4 fl4 up4 => ?_
      have J4 : Inv X pins σ' H' { s' with heap := h4 } := J.landed nb fl4.1 ((up.trans up3).trans up4) os ag
      obtain ⟨oe4, vs4, he4, hz4, hd4⟩ := fl4.there
      have S4 := J4.suite he4 hd4 na nL nF
      refine store_ok (X := X.suite a ((a, oe4) :: (X.pn ++ pins))) (v := .ref a) S4 hN hi hloc rfl (fun s5 S5 => ?_) (.inr hln)
      refine wpAny_mono ((hsu a oe4 cls d (X.pn ++ pins) hz4 ⟨_, hd4⟩).run [] s5 _ H' _ S5 (hyes rfl a na)) (fun f s6 hsp => ?_) (fun _ _ z => False.elim z)
      cases f with
      | next =>
        obtain ⟨σ6, H6, S6, n6, q6⟩ := hsp
        refine gone_ok (Inv.keepPin S6 ok) hN hi hln fun s7 J7 => ⟨_, _, Inv.adopt J7 n0 npp (excH_ok ((J7.pin (a, oe4) (List.mem_append_right _ List.mem_cons_self)).1) hz4 hd4), q6 n6⟩
      | brk => obtain ⟨σ6, H6, S6, q6⟩ := hsp; exact q6.elim
      | cont => obtain ⟨σ6, H6, S6, q6⟩ := hsp; exact q6.elim
      | ret u => obtain ⟨v6, σ6, H6, S6, r6, q6⟩ := hsp; exact q6.elim
    | false =>
      show wpAny _ X.A (handleBy (.ref a) X.env []) _ _ _
      refine wpAny_handleBy_nil ?_
      obtain ⟨k1, k2, k3, oe, vs, T, oT, ts', he, hz, hd, h1, hr⟩ := id fl3
      unfold PySem.passOn
      refine wpAny_bind (wpAny_field he hd h1 ?_)
      rw [if_neg (show ¬ ((Value.ref T == Value.none) = true) from by simp)]
      have fin : wpAny (model X.prog X.w) X.A (setFlight (.ref a) X.env.frame) (fun _ s4 => wpAny (model X.prog X.w) X.A (throw (.ref a) : Sem Flow) (SP X pins D) X.xe s4) X.xe { s' with heap := h3 } := by
        rw [hf]
        refine HandSPX.setFlight_upZ fl3 fun h4 hh4 up4 => wpAny_throw (tk _ _ ?_)
        exact ⟨a, B, sI, pins, σ', H', cls, d, rfl, J, nb, (up.trans up3).trans up4, .inr (.inr (by rw [hs]; exact hh4)), na, os, ag, hno rfl⟩
      first
        | exact wpAny_bind (wpAny_pure (wpAny_bind fin))
        | exact wpAny_bind fin
  · cases f with
    | next =>
      obtain ⟨σ', H', J', q⟩ := hsp
      exact wpAny_execs_nil ⟨σ', H', J'.ofTry ok, q⟩
    | brk =>
      obtain ⟨σ', H', J', q⟩ := hsp
      exact ⟨σ', H', J'.ofTry ok, q⟩
    | cont =>
      obtain ⟨σ', H', J', q⟩ := hsp
      exact ⟨σ', H', J'.ofTry ok, q⟩
    | ret u =>
      obtain ⟨v, σ', H', J', r, q⟩ := hsp
      exact ⟨v, σ', H', J'.ofTry ok, r, q⟩
end
/-! ### isinstance of it -/
end L3
namespace PySem.W
open PySem PySem.Spec PySem.Calls PyProof.Rows
section
variable {prog : Program} {w : World} {A : Around} {E : Value → Shared → Prop} {s : Shared} {K : Frag} {x D : Addr} {ox : Obj} {od : Option Obj}
theorem kin_classX {Q : Option Value → Shared → Prop} (hga : findIn K (.ref D) "__getattribute__" = some (some (.builtin "BaseException.__getattribute__"))) (hgt : findIn K (.ref D) "__getattr__" = some none) (hsub : subIn K (.ref D) (.type "BaseException") = some true)
    (hdct : hasDictIn K D = true) (ha : findIn K (.ref D) "__class__" = some (some (.builtin "object.__class__")))
    (hn : specialIn K (.builtin "object.__class__") "__get__" = some (some (.builtin "getset_descriptor.__get__"))) (htk : takesIn K (.builtin "object.__class__") = some true) (hm : mroIn K D (.type "object") = some true)
    (X : K.In s.heap) (I : InstAt s.heap x ox D od) (h : Q (some (.ref D)) { s with toks := s.toks + 1 }) : wpAny (model prog w) A (getAttr? (.ref x) "__class__") Q E s := by
  have hf : findObj K D od "__class__" = some (.bind (.builtin "getset_descriptor.__get__") (.builtin "object.__class__")) := findObj_dataE (by obtain ⟨cd, hc, _⟩ := any_some hdct; rw [hc]; rfl) ha hn htk
  obtain ⟨hp, g, d, t, os⟩ := s
  have L0 := I.type (M := model prog w)
  have L1 := looks_findIn (M := model prog w) X hga
  have L2 := looks_findIn (M := model prog w) X hgt
  have L3 := looks_find (M := model prog w) X I hf
  have sub : Looks (model prog w) hp (isInstance (.ref x) (.type "BaseException")) true := L0.andThen (looks_subIn X hsub)
  have hx0 : (false && onTheHeap (Value.builtin "BaseException.__getattribute__")) = false := rfl
  have hx2 : (Value.builtin "BaseException.__getattribute__" == Value.builtin "object.__getattribute__") = false := by decide +kernel
  have hx1 : (onTheHeap (Value.ref D) && Value.builtin "BaseException.__getattribute__" == Value.builtin "object.__getattribute__") = false := by rw [hx2]; rfl
  unfold getAttr? getAttrBy? getAttrBy
  refine wpAny_bind (wpAny_mkText (wpAny_bind (wpAny_attempt (wpAny_holding (wpAny_bind (L0.at (wpAny_bind (L1.at ?_))))))))
  show wpAny _ _ (if (onTheHeap (Value.ref D) && Value.builtin "BaseException.__getattribute__" == Value.builtin "object.__getattribute__") = true then _ else _) _ _ _
  rw [hx1, if_neg Bool.false_ne_true]
  unfold getAttrByItsOwn hookBefore
  refine wpAny_bind ?_
  rw [if_pos (show onTheHeap (Value.ref D) = true from rfl)]
  refine L2.at ?_
  refine wpAny_bind (wpAny_attempt (wpAny_holding ?_))
  unfold callGetattribute
  rw [hx0, if_neg Bool.false_ne_true]
  unfold boundAndCalled
  rw [PySem.F.excAttr_ValueError.ga.bind (.ref x)]
  refine wpAny_bind (wpAny_pure ?_)
  show wpAny _ _ (call (.builtin "BaseException.__getattribute__") [.ref x, .str "__class__" t]) _ _ _
  refine wpAny_call (codeAny_call_builtin PySem.F.excAttr_ValueError.ga.plain PySem.F.entry_bexc_ga ?_)
  refine @check_slot (model prog w) _ _ ⟨hp, g, d, t + 1, os⟩ "BaseException.__getattribute__" "BaseException" "__getattribute__" (.ref x) [.str "__class__" t] [] _ (by decide +kernel) (by decide +kernel) sub (PySem.F.args_bexc_ga (.ref x) (.str "__class__" t)) ?_
  unfold Builtin.«object.__getattribute__»
  refine wpAny_bind (wpAny_of_eq (a := ((Value.ref x : Value), [Value.str "__class__" t])) (by first | rfl | (simp only [slotArgs]; rfl)) ?_)
  refine wpAny_bind (wpAny_pure (wpAny_bind (L0.at (wpAny_bind (L3.at ?_)))))
  show wpAny _ _ (holding [Value.builtin "object.__class__"] (call (.builtin "getset_descriptor.__get__") [.builtin "object.__class__", .ref x, .ref D]) >>= ret) _ _ _
  refine wpAny_bind (wpAny_holding (wpAny_call (class_get (s := ⟨hp, g, d, t + 1, os⟩) (ox := ox) (od := od) X I hm ?_)))
  refine wpAny_pure ?_
  show wpAny _ _ (handedOut (.ref D)) _ _ _
  rw [handedOut_of (v := .ref D) rfl]
  first
    | exact wpAny_pure (wpAny_pure h)
    | exact wpAny_pure h
    | exact wpAny_pure (wpAny_bind (wpAny_pure (wpAny_pure h)))
theorem kitx_excX (hga : findIn K (.ref D) "__getattribute__" = some (some (.builtin "BaseException.__getattribute__"))) (hgt : findIn K (.ref D) "__getattr__" = some none) (hsub : subIn K (.ref D) (.type "BaseException") = some true) (hdct : hasDictIn K D = true) (ha : findIn K (.ref D) "__class__" = some (some (.builtin "object.__class__")))
    (hn : specialIn K (.builtin "object.__class__") "__get__" = some (some (.builtin "getset_descriptor.__get__"))) (htk : takesIn K (.builtin "object.__class__") = some true) (hm : mroIn K D (.type "object") = some true) :
    KitX K (.ref x) (.ref D) (fun h => InstAt h x ox D od) where
  ty := fun _ _ _ I => I.type
  it := fun _ _ X _ => by
    obtain ⟨cdD, hcD, _⟩ := any_some hdct
    unfold clsIn at hcD
    split at hcD
    · rename_i c' d' cd' sl' ho
      intro A' Q' E' s' k q
      unfold isType loadHead
      exact wpAny_bind (wpAny_loadPart (k _ _ (X _ _ ho)) (wpAny_pure q))
    · cases hcD
  ne := fun h tp dd its n sl X htp => by
    obtain ⟨cdD, hcD, _⟩ := any_some hdct
    refine Bool.eq_false_iff.mpr fun q => ?_
    have e : D = tp := Value.ref.inj (beq_iff_eq.mp q)
    subst e
    unfold clsIn at hcD
    split at hcD
    · rename_i c' d' cd' sl' ho
      have z := (X _ _ ho).symm.trans htp
      cases z
    · cases hcD
  ca := fun X I k => kin_classX hga hgt hsub hdct ha hn htk hm X I k
end
end PySem.W
namespace L3
open PySem PySem.Spec L2 PyProof.Rows
/-- the exception at a, of the class D -/
def ExcAt (H : Hp) (a D : Addr) : Prop := ∃ d, H a = some (excH a (.ref D) d) ∧ (d = none ∨ ∃ dd fs, d = some dd ∧ H dd = some (.xd fs))
theorem ExcAt.inst {X : Cx} {pins : List (Addr × Obj)} {σ : L2.St} {H : Hp} {s : Shared} {a D : Addr} (I : Inv X pins σ H s) (h : ExcAt H a D) : ∃ ox od, PySem.W.InstAt s.heap a ox D od := by
  obtain ⟨d, ha, hd⟩ := h
  obtain ⟨⟨oe, vs, hg, hz, hv⟩, _⟩ := I.hok a _ ha
  obtain ⟨oc, odx, oda, osl⟩ := oe
  obtain ⟨h1, h2⟩ := hz
  dsimp only at h1 h2 hv
  subst h1 h2 hv
  rcases hd with e | ⟨dd, fs, e, hdd⟩
  · subst e
    exact ⟨_, none, ⟨hg, rfl, rfl, trivial⟩⟩
  · subst e
    obtain ⟨mA, hns, _⟩ := I.hok dd _ hdd
    obtain ⟨od, ho, hl⟩ := lookIn_ns hns
    exact ⟨_, some od, ⟨hg, rfl, rfl, ho⟩⟩
def rIsX (K : PySem.W.Frag) : List V → Hp → VK → Prop := fun xs H Q => ∃ (a D : Addr) (c : V) (cv : Value) (b : Bool), xs = [.ref a, c] ∧ ExcAt H a D ∧ ExcC K D ∧ (∀ u, RelV c u → u = cv) ∧ PySem.W.kitOne K (.ref D) cv = some b ∧ Q (.bl b) H
theorem call_isX {X : Cx} : CallR X (.builtin "isinstance") (rIsX X.K) := by
  intro pins s σ H xs us Q I r h
  obtain ⟨a, D, c, cv, b, rfl, hx, C, hcv, e, q⟩ := h
  obtain ⟨ox, od, J⟩ := hx.inst I
  cases r with
  | cons rx rr =>
    cases rr with
    | cons rt rr =>
      cases rr
      cases rx
      have ec := hcv _ rt
      subst ec
      exact PySem.W.kia_one (PySem.W.kitx_excX C.hg C.hk C.hs C.hd C.ha C.hn C.ht C.hm) I.kIn J e (fun z => nomatch z) fun tk => ⟨.bl b, H, I.kept (t' := tk) fun _ _ z => z, rfl, q⟩
/-- .. and of one of several classes -/
def rIsXs (K : PySem.W.Frag) : List V → Hp → VK → Prop := fun xs H Q => ∃ (a D t : Addr) (cs : List V) (cvs : List Value) (b : Bool), xs = [.ref a, .ref t] ∧ ExcAt H a D ∧ ExcC K D ∧ H t = some (.tup cs) ∧ (∀ us, Vals cs us → us = cvs) ∧ PySem.W.kitAny K (.ref D) cvs = some b ∧ Q (.bl b) H
theorem call_isXs {X : Cx} : CallR X (.builtin "isinstance") (rIsXs X.K) := by
  intro pins s σ H xs us Q I r h
  obtain ⟨a, D, t, cs, cvs, b, rfl, hx, C, ht, hcv, e, q⟩ := h
  obtain ⟨ox, od, J⟩ := hx.inst I
  obtain ⟨_, its, ri, o, ho, hc, n, hd⟩ := I.hok t _ ht
  have ei := hcv _ ri
  subst ei
  obtain ⟨oc, odx, oda, osl⟩ := o
  dsimp only at hc hd
  subst hc hd
  cases r with
  | cons rx rr =>
    cases rr with
    | cons rt rr =>
      cases rr
      cases rx
      cases rt
      exact PySem.W.kia_tup (PySem.W.kitx_excX C.hg C.hk C.hs C.hd C.ha C.hn C.ht C.hm) I.kIn J ho e (fun z => nomatch z) fun tk => ⟨.bl b, H, I.kept (t' := tk) fun _ _ z => z, rfl, q⟩
/-! ### its fields -/
def tXg (K : PySem.W.Frag) (f : Str) (te : TE) : TE := fun σ H Q => te σ H fun x H1 => ∃ (a C dd : Addr) (fs : List (Str × V)) (v : V), x = .ref a ∧ XfC K C ∧ PySem.W.findIn K (.ref C) f = some none ∧ H1 a = some (excH a (.ref C) (some dd)) ∧ H1 dd = some (.xd fs) ∧ fs.lookup f = some v ∧ Q v H1
theorem pe_xg {X : Cx} {e : Expr} {te : TE} {pos : Pos} {n : Str} (he : PE X e te) (hb : attributeBase e n X.env (eval e X.env) = eval e X.env) : PE X (.Attribute e n pos) (tXg X.K n te) := by
  refine ⟨fun pins s σ H Q I h => ?_⟩
  refine attr_of hb (thn (he.run pins s σ H _ I h) fun u s1 hh => ?_)
  obtain ⟨x, H1, I1, rx, a, C, dd, fs, v, ex, T, hno, ha, hdd, l, q⟩ := hh
  subst ex
  obtain rfl : u = Value.ref a := rx
  obtain ⟨⟨oe, vs, hg, hz, hd⟩, _⟩ := I1.hok a _ ha
  obtain ⟨mA, hns, hr⟩ := I1.hok dd _ hdd
  obtain ⟨od, ho, hl⟩ := lookIn_ns hns
  obtain ⟨u, hu, ru⟩ := RelO.some_of (v := v) (o := mA n) (by rw [← l]; exact hr n)
  have J : PySem.W.InstAt s1.heap a oe C (some od) := ⟨hg, hz.1, by unfold PySem.W.notCls; rw [hd] <;> rfl, by rw [hz.2]; exact ho⟩
  exact HandSPX.exc_get I1.kIn J T.ga T.gg T.exC (PySem.W.findObj_own T.hdC hno rfl (by rw [hl, hu])) (handed_of ru) ⟨v, H1, I1.tok _, ru, q⟩
/-! ### raise X() -/
theorem pmk_own0 {X : Cx} {C : Addr} {x : Str} {p pos : Pos} (T : OexC X.K C) (ib : PySem.W.findIn X.K (.ref C) "__init__" = some (some (.builtin "ValueError.__init__"))) (gC : X.mg x = some (.ref C)) (hg : Gl X x) (hdb : (x == ("__debug__" : Str)) = false) :
    PMk X (.Call (.Name x p) [] [] pos) (fun _ H Q => Q (.ref C) none H) := by
  intro pins s σ H Q I h
  refine wpAny_Call_Name_kw (ld_glob I hg gC ?_ hdb)
  refine PySem.W.callWith_K0 I.kIn T.kC ?_
  show wpAny _ _ (call (.ref C) []) _ _ _
  obtain ⟨nm, q, N, bs, bm, sn, sub, ab, col, dd, k0, k1, k2, k3, k5, hL, hr⟩ := T.cls
  have hi' : PySem.W.Looks (model X.prog X.w) s.heap (typeLookup (.ref C) "__init__") (some (.builtin "ValueError.__init__")) := PySem.W.looks_findIn I.kIn ib
  have X0 := I.kIn _ _ hL
  obtain ⟨hp, g, d, tk, os⟩ := s
  refine PySem.W.call_B PySem.F.excBase_ValueError (fun Y => PySem.HandSPX.refsVE_contains Y _ hr) X0 hi' (Nat.zero_le _) fun h' k he ht => ?_
  have hne : hp.get? (hp.objs.size + 1) = none := Heap.get?_none_of_le (Nat.le_add_right _ _)
  exact ⟨_, _, _, ⟨hp, g, d, tk, os⟩, H, .ref C, none, rfl, I, k, hne, he, ⟨rfl, rfl⟩, rfl, rfl, I.hok.gone hne, rfl, I.bare, raises_own T.exC T.tyC, h⟩
end L3
set_option Elab.async false
set_option linter.all false
set_option maxRecDepth 100000
set_option maxHeartbeats 4000000
set_option autoImplicit false
/-! L3ZO: an exception kept behind its suite, by trees. -/
namespace L3
open PySem PySem.Spec L2 PyProof.Rows
section
variable [Cn]
def isX (tbl : List (Nat × Bool)) : D → Option Bool
  | .dict [(.none, .bool true), (.int i, .int c), _] => if c = ((Cn.cls i.toNat : Nat) : Int) then tbl.lookup i.toNat else none
  | _ => none
def flX (ks : List Nat) (f : Str) : D → Option D
  | .dict [(.none, .bool true), (.int i, .int c), (.list ns, .list ds)] => if i.toNat ∈ ks ∧ c = ((Cn.cls i.toNat : Nat) : Int) then (fldIx f ns).bind fun j => ds[j]? else none
  | _ => none
def mIsX (tbl : List (Nat × Bool)) (f : ME) : ME := fun ρ => (f ρ).bind fun r ρ1 => RE.opt (look r ρ1) fun d => RE.opt (isX tbl d) fun b => .ok (.val (.bool b)) ρ1
def mFlX (ks : List Nat) (n : Str) (f : ME) : ME := fun ρ => (f ρ).bind fun r ρ1 => RE.opt (look r ρ1) fun d => RE.opt (flX ks n d) fun z => .ok (.val z) ρ1
/-- what a kept exception is -/
def keptD (k : Nat) (x : Xc) : D := excD k (Cn.cls k) (x.fl.map (·.1)) (x.fl.map (·.2))
def mTryK (yes no : List Str) (nm : List (Str × Nat)) (i j : Nat) (g : MS) : MS := fun ρ => match g ρ with
  | .exc x ρ1 => if x.c ∈ yes then Out.opt ρ1[i]? fun _ => Out.opt ρ1[j]? fun _ => Out.opt (nm.lookup x.c) fun k => .nx ((ρ1.set j (.val (keptD k x))).set i .no) else if x.c ∈ no then .exc x ρ1 else .bad
  | o => o
def mRaise0 (c : Str) : MS := fun ρ => .exc ⟨c, []⟩ ρ
section
variable {K : Fg} {H : Hp} {O : Ow}
theorem See.exc {v : V} {i c : Int} {e : D × D} (h : See K H O v (.dict [(.none, .bool true), (.int i, .int c), e])) :
    ∃ (a C : Addr) (d : Option Addr) (k : Nat) (ks : List Str) (vs : List V) (ds : List D), v = .ref a ∧ i = (k : Nat) ∧ c = (C : Nat) ∧ e = (.list (ks.map .str), .list ds) ∧ H a = some (excH a (.ref C) d) ∧ (d = none ∨ ∃ dd fs, d = some dd ∧ H dd = some (.xd fs)) ∧
      (vs ≠ [] → ∃ dd, d = some dd ∧ H dd = some (.xd (ks.zip vs))) ∧ ks.length = vs.length ∧ RpAll K H O vs ds := by
  rcases h with h | ⟨a, rfl, oa, h⟩
  · generalize eq : PyData.dict [(PyData.none, PyData.bool true), (PyData.int i, PyData.int c), e] = D at h
    cases h with
    | @exc a C d k ks vs ds h n p p2 l r => cases eq; exact ⟨a, C, d, k, ks, vs, ds, rfl, rfl, rfl, rfl, h, p.imp id fun ⟨dd, fs, z1, z2, _⟩ => ⟨dd, fs, z1, z2⟩, fun z => let ⟨dd, z1, z2, _⟩ := p2 z; ⟨dd, z1, z2⟩, l, r⟩
    | @dT a l kvs h n r => cases eq; exact absurd rfl (r.noNone _ (List.mem_cons_self ..))
    | _ => cases eq
  · rcases h with ⟨l, _, e, _⟩ | ⟨l, _, w⟩ | ⟨C, dx, ks, vs, ds', e, h, l, r⟩
    · cases e
    · exact absurd rfl (w.noNone _ (List.mem_cons_self ..))
    · cases e
theorem See.excAt {v : V} {d : D} {tbl : List (Nat × Bool)} {b : Bool} (h : See K H O v d) (e : isX tbl d = some b) : ∃ a i, v = .ref a ∧ ExcAt H a (Cn.cls i) ∧ tbl.lookup i = some b := by
  unfold isX at e
  split at e
  · rename_i i c z
    obtain ⟨a, C, d, k, ks, vs, ds, rfl, rfl, rfl, rfl, h1, h2, _⟩ := h.exc
    simp only [Int.toNat_natCast] at e
    split at e
    · rename_i hc
      have hc : C = Cn.cls k := by exact_mod_cast hc
      subst hc
      exact ⟨a, k, rfl, ⟨d, h1, h2⟩, e⟩
    · cases e
  · cases e
theorem See.excFl {v : V} {d z : D} {ks : List Nat} {f : Str} (h : See K H O v d) (e : flX ks f d = some z) : ∃ a i dd fs u, v = .ref a ∧ i ∈ ks ∧ H a = some (excH a (.ref (Cn.cls i)) (some dd)) ∧ H dd = some (.xd fs) ∧ fs.lookup f = some u ∧ Rp K H O u z := by
  unfold flX at e
  split at e
  · rename_i i c ns es
    obtain ⟨a, C, d, k, kk, vs, ds, rfl, rfl, rfl, eq, h1, h2, h3, h4, h5⟩ := h.exc
    cases eq
    simp only [Int.toNat_natCast] at e
    split at e
    · rename_i hc
      obtain ⟨hk, hc⟩ := hc
      have hc : C = Cn.cls k := by exact_mod_cast hc
      subst hc
      obtain ⟨j, ej, ed⟩ := Option.bind_eq_some_iff.mp e
      obtain ⟨u, eu, ru⟩ := fld_at ej ed h4 h5
      have ne : vs ≠ [] := fun z => by
        rw [z, List.zip_nil_right] at eu
        cases eu
      obtain ⟨dd, e1, e2⟩ := h3 ne
      subst e1
      exact ⟨a, k, dd, _, u, rfl, hk, h1, e2, eu, ru⟩
    · cases e
  · cases e
end
theorem kit_ref {K : Fg} {D C : Addr} {b : Bool} (hd : PySem.W.hasDictIn K C = true) (ty : PySem.W.typeIn K (.ref C) = some (.type "type")) (sb : PySem.W.subIn K (.ref D) (.ref C) = some b) (self : PySem.W.subIn K (.ref C) (.ref C) = some true) : PySem.W.kitOne K (.ref D) (.ref C) = some b := by
  unfold PySem.W.kitOne
  split
  · rename_i q
    have e : D = C := Value.ref.inj (beq_iff_eq.mp q)
    subst e
    rw [← sb, self]
  · obtain ⟨cd, hc, _⟩ := PySem.W.any_some hd
    show (if ((PySem.W.clsIn K C).isSome && PySem.W.typeIn K (.ref C) == some (.type "type")) = true then PySem.W.subIn K (.ref D) (.ref C) else none) = _
    rw [if_pos (by rw [hc, ty] <;> rfl)]
    exact sb
theorem kit_type {K : Fg} {D : Addr} {T : String} {b : Bool} (hm : PySem.W.kitMeta T = true) (sb : PySem.W.subIn K (.ref D) (.type T) = some b) : PySem.W.kitOne K (.ref D) (.type T) = some b := by
  unfold PySem.W.kitOne
  rw [if_neg (by intro z; cases beq_iff_eq.mp z)]
  show (if PySem.W.kitMeta T = true then PySem.W.subIn K (.ref D) (.type T) else none) = _
  rw [if_pos hm]
  exact sb
theorem ka_nil {K : Fg} {t : Value} : PySem.W.kitAny K t [] = some false := rfl
theorem ka_f {K : Fg} {t c : Value} {r : List Value} {b : Bool} (h : PySem.W.kitOne K t c = some false) (hr : PySem.W.kitAny K t r = some b) : PySem.W.kitAny K t (c :: r) = some b := by
  show (match PySem.W.kitOne K t c with | some true => some true | some false => PySem.W.kitAny K t r | none => none) = _
  rw [h]
  exact hr
theorem ka_t {K : Fg} {t c : Value} {r : List Value} (h : PySem.W.kitOne K t c = some true) : PySem.W.kitAny K t (c :: r) = some true := by
  show (match PySem.W.kitOne K t c with | some true => some true | some false => PySem.W.kitAny K t r | none => none) = _
  rw [h]
theorem tb_nil {P : Nat → Bool → Prop} : ∀ i b, ([] : List (Nat × Bool)).lookup i = some b → P i b := fun i b h => by cases h
theorem tb_cons {P : Nat → Bool → Prop} {k : Nat} {c : Bool} {l : List (Nat × Bool)} (h : P k c) (r : ∀ i b, l.lookup i = some b → P i b) : ∀ i b, ((k, c) :: l).lookup i = some b → P i b := fun i b e => by
  by_cases hk : i = k
  · subst hk
    simp [List.lookup] at e
    subst e; exact h
  · have : (i == k) = false := by simpa using hk
    simp only [List.lookup, this] at e
    exact r i b e
theorem nk_nil {mg : Str → Option Value} : ∀ y k, ([] : List (Str × Nat)).lookup y = some k → ∀ C, mg y = some (.ref C) → C = Cn.cls k := fun y k h => by cases h
theorem nk_cons {mg : Str → Option Value} {n : Str} {N : Addr} {k0 : Nat} {l : List (Str × Nat)} (g : mg n = some (.ref N)) (e : N = Cn.cls k0) (r : ∀ y k, l.lookup y = some k → ∀ C, mg y = some (.ref C) → C = Cn.cls k) :
    ∀ y k, ((n, k0) :: l).lookup y = some k → ∀ C, mg y = some (.ref C) → C = Cn.cls k := fun y k h C hC => by
  by_cases hk : y = n
  · subst hk
    simp [List.lookup] at h
    subst h
    rw [g] at hC
    cases hC
    exact e
  · have : (y == n) = false := by simpa using hk
    simp only [List.lookup, this] at h
    exact r y k h C hC
theorem fk_nil {P : Nat → Prop} : ∀ i ∈ ([] : List Nat), P i := fun i h => by cases h
theorem fk_cons {P : Nat → Prop} {k : Nat} {l : List Nat} (h : P k) (r : ∀ i ∈ l, P i) : ∀ i ∈ k :: l, P i := fun i hi => by
  rcases List.mem_cons.mp hi with rfl | hi
  · exact h
  · exact r i hi
theorem bb_ValueError : bootBuiltins "ValueError" = some (.type "ValueError") := by decide +kernel
theorem vals_adr : ∀ {l : List Addr} {us : List Value}, Vals (l.map V.ref) us → us = l.map Value.ref
  | [], us, h => by cases h; rfl
  | a :: l, us, h => by
    cases h with
    | cons r rs =>
      cases r
      rw [vals_adr rs]; rfl
section
variable {X : Cx} {W : WX} {p p2 pos pos2 : Pos} {e : Expr} {te : TE} {fe : ME}
theorem se_isX (K : Fg) (hK : X.K = K) (tbl : List (Nat × Bool)) {x : Str} {cV : V} {cv : Value} (hcv : ∀ u, RelV cV u → u = cv) (hg : Gl X "isinstance") (hm : X.mg "isinstance" = none) (hp : PE X (.Name x p2) (tC cV)) (ht : ∀ i b, tbl.lookup i = some b → ExcC K (Cn.cls i) ∧ PySem.W.kitOne K (.ref (Cn.cls i)) cv = some b)
    (he : starEach (e :: [.Name x p2]) X.env = (false, eval e X.env) :: starEach [.Name x p2] X.env) (he2 : starEach (.Name x p2 :: []) X.env = (false, eval (.Name x p2) X.env) :: starEach [] X.env) (hpl : (backTo pos (starEach [.Name x p2] X.env)).any (·.1) = false) (ha : SE X W e te fe) :
    SE X W (.Call (.Name "isinstance" p) [e, .Name x p2] [] pos) (tCB (rIsX K) (tCons te (tCons (tC cV) tNil))) (mIsX tbl fe) := by
  subst hK
  have hv : bootBuiltins "isinstance" = some (.builtin "isinstance") := by decide +kernel
  refine ⟨pe_callB call_isX hg hm hv (pa_cons ha.p (pa_cons hp pa_nil he2) he) (by decide) rfl he hpl, fun ρ σ H O Q R h => ha.s ρ σ H O _ R (Want.bind h fun r ρ1 v H1 O1 e1 R1 F1 o1 h1 => ?_)⟩
  obtain ⟨d, ed, h1⟩ := h1.opt
  obtain ⟨b, eb, h1⟩ := h1.opt
  obtain ⟨a, i, ev, hx, el⟩ := See.excAt (ORel.see1 o1 R F1 R1 ed) eb
  obtain ⟨C, kb⟩ := ht i b el
  exact ⟨a, Cn.cls i, cV, cv, b, by rw [ev], hx, C, hcv, kb, h1 _ H1 O1 R1 .refl (.bl b)⟩
theorem se_isXs (K : Fg) (hK : X.K = K) (tbl : List (Nat × Bool)) {es : List Expr} {ta : TA} {k : Nat} (l : List Addr) (hl : l.length ≤ 1000) (hg : Gl X "isinstance") (hm : X.mg "isinstance" = none) (hp : PA X es ta) (ht : ∀ i b, tbl.lookup i = some b → ExcC K (Cn.cls i) ∧ PySem.W.kitAny K (.ref (Cn.cls i)) (l.map Value.ref) = some b)
    (he : starEach (e :: [.Tuple es k pos2]) X.env = (false, eval e X.env) :: starEach [.Tuple es k pos2] X.env) (he2 : starEach (.Tuple es k pos2 :: []) X.env = (false, eval (.Tuple es k pos2) X.env) :: starEach [] X.env) (hpl : (backTo pos (starEach [.Tuple es k pos2] X.env)).any (·.1) = false) (ha : SE X W e te fe) (hta : ∀ σ H (Q : List V → Hp → Prop), Q (l.map V.ref) H → ta σ H Q) :
    SE X W (.Call (.Name "isinstance" p) [e, .Tuple es k pos2] [] pos) (tCB (rIsXs K) (tCons te (tCons (tTup ta) tNil))) (mIsX tbl fe) := by
  subst hK
  have hv : bootBuiltins "isinstance" = some (.builtin "isinstance") := by decide +kernel
  refine ⟨pe_callB call_isXs hg hm hv (pa_cons ha.p (pa_cons (pe_tup hp) pa_nil he2) he) (by decide) rfl he hpl, fun ρ σ H O Q R h => ha.s ρ σ H O _ R (Want.bind h fun r ρ1 v H1 O1 e1 R1 F1 o1 h1 => ?_)⟩
  obtain ⟨d, ed, h1⟩ := h1.opt
  obtain ⟨b, eb, h1⟩ := h1.opt
  obtain ⟨a, i, ev, hx, el⟩ := See.excAt (ORel.see1 o1 R F1 R1 ed) eb
  obtain ⟨C, kb⟩ := ht i b el
  refine hta _ _ _ ⟨by rw [List.length_map]; exact small_line (by omega), fun t hn => ?_⟩
  have g : Gr H1 O1 (upd H1 t (.tup (l.map V.ref))) O1 := Gr.new hn
  obtain ⟨dd, hd1, hd2⟩ := hx
  refine ⟨a, Cn.cls i, t, l.map V.ref, l.map Value.ref, b, by rw [ev], ⟨dd, (g.keep _ _ hd1).1, hd2.imp id fun ⟨x, fs, z1, z2⟩ => ⟨x, fs, z1, (g.keep _ _ z2).1⟩⟩, C, upd_same, fun us r => vals_adr r, kb, h1 _ _ O1 (g.rel R1) g.frm (.bl b)⟩
theorem se_flX (K : Fg) (hK : X.K = K) (ks : List Nat) {n : Str} (hk : ∀ i ∈ ks, XfC K (Cn.cls i) ∧ PySem.W.findIn K (.ref (Cn.cls i)) n = some none) (ha : SE X W e te fe) (hb : attributeBase e n X.env (eval e X.env) = eval e X.env) :
    SE X W (.Attribute e n pos) (tXg K n te) (mFlX ks n fe) := by
  subst hK
  refine ⟨pe_xg ha.p hb, fun ρ σ H O Q R h => ha.s ρ σ H O _ R (Want.bind h fun r ρ1 v H1 O1 e1 R1 F1 o1 h1 => ?_)⟩
  obtain ⟨d, ed, h1⟩ := h1.opt
  obtain ⟨z, ez, h1⟩ := h1.opt
  obtain ⟨a, i, dd, fs, u, ev, hi, h2, h3, h4, h5⟩ := See.excFl (ORel.see1 o1 R F1 R1 ed) ez
  obtain ⟨T, hn⟩ := hk i hi
  exact ⟨a, Cn.cls i, dd, fs, u, ev, T, hn, h2, h3, h4, h1 _ H1 O1 R1 .refl h5⟩
end
section
variable {X : Cx} {W : WX} {P : List Nat} {c : Str} {p pos pos' : Pos} {C : Addr}
theorem ss_raise0 (mg : Str → Option Value) (hmg : X.mg = mg) (hc : X.calm = true) (tk : Takes X W) (T : OexC X.K C) (ib : PySem.W.findIn X.K (.ref C) "__init__" = some (some (.builtin "ValueError.__init__"))) (hm : mg c = some (.ref C)) (hg : Gl X c) (hdb : (c == ("__debug__" : Str)) = false) :
    SS X W P (.Raise (some (.Call (.Name c p) [] [] pos)) none pos') (fun _ σ H => W (.ref C) none σ H) (mRaise0 c) := by
  subst hmg
  refine ⟨ps_raise hc tk (pmk_own0 T ib hm hg hdb), fun n hn ρ σ H O D R B w => ?_⟩
  exact w (.ref C) none σ H O R B .refl ⟨C, hm, rfl, fun z => absurd rfl z, .inl rfl⟩
end
section
variable {K : Fg} {mg : Str → Option Value} {ρ : Fr} {σ τ : L2.St} {H : Hp} {O : Ow} {n : En} {i : Nat}
theorem Bs.drop (B : Bs n ρ σ H O) (ip : i ∉ n.P) (e : ∀ j, j ≠ i → τ[j]? = σ[j]?) : Bs n (ρ.set i .no) τ H O := by
  refine ⟨B.keep, B.dom, B.tups, B.frzs, fun k d b h1 h2 => ?_, fun j b h => ?_⟩
  · obtain ⟨n1, q1⟩ := get_no h1
    rw [e k n1] at h2
    exact B.own k d b q1 h2
  · obtain ⟨q1, q2⟩ := B.pin j b h
    have ne : j ≠ i := fun z => ip (by rw [← z]; exact q2)
    exact ⟨by rw [e j ne]; exact q1, q2⟩
theorem Rel.setVal {j : Nat} {v : V} {d : D} (R : Rel K ρ σ H O) (r : Rp K H O v d) : Rel K (ρ.set j (.val d)) (σ.set j (some v)) H O := by
  refine ⟨by rw [List.length_set, List.length_set]; exact R.len, fun k s ej => ?_, fun k l a d1 d2 h1 h2 h3 h4 => ?_, R.dom⟩
  · rcases getElem?_set_cases ej with ⟨rfl, l, rfl⟩ | ⟨ne, ej⟩
    · rw [List.getElem?_set_self (by rw [← R.len]; exact l)]; exact ⟨v, rfl, r⟩
    · rw [List.getElem?_set_ne ne]; exact R.slot k s ej
  · rcases getElem?_set_cases h1 with ⟨rfl, l, e1⟩ | ⟨ne, h1⟩
    · cases e1
    · rcases getElem?_set_cases h2 with ⟨rfl, l, e2⟩ | ⟨ne2, h2⟩
      · cases e2
      · rw [List.getElem?_set_ne ne] at h3
        rw [List.getElem?_set_ne ne2] at h4
        exact R.uniq k l a d1 d2 h1 h2 h3 h4
theorem Bs.setVal {j : Nat} {v : V} {d : D} (B : Bs n ρ σ H O) (jp : j ∉ n.P) : Bs n (ρ.set j (.val d)) (σ.set j (some v)) H O := by
  refine ⟨B.keep, B.dom, B.tups, B.frzs, fun k d' b h1 h2 => ?_, fun k b h => ?_⟩
  · rcases getElem?_set_cases h1 with ⟨rfl, l, e1⟩ | ⟨ne, h1⟩
    · cases e1
    · rw [List.getElem?_set_ne ne] at h2
      exact B.own k d' b h1 h2
  · obtain ⟨q1, q2⟩ := B.pin k b h
    have ne : j ≠ k := fun z => jp (by rw [z]; exact q2)
    exact ⟨by rw [List.getElem?_set_ne ne]; exact q1, q2⟩
end
theorem zip_fs {α β : Type} : ∀ fs : List (α × β), (fs.map (·.1)).zip (fs.map (·.2)) = fs
  | [] => rfl
  | p :: fs => by rw [List.map_cons, List.map_cons, List.zip_cons_cons, zip_fs fs]
theorem xrel_rp {K : Fg} {mg : Str → Option Value} {H : Hp} {O : Ow} {x : Xc} {C a : Addr} {d : Option Addr} {k : Nat} (xr : XRel K mg H O x (.ref C) d) (hC : C = Cn.cls k) (ha : H a = some (excH a (.ref C) d)) (na : ¬ O a) : Rp K H O (.ref a) (keptD k x) := by
  obtain ⟨C', h1, h2, h3, h4⟩ := xr
  subst hC
  unfold keptD
  by_cases hf : x.fl = []
  · rw [hf]
    exact .exc (vs := []) ha na h4 (fun z => absurd rfl z) rfl .nil
  · obtain ⟨dd, fs, e, h5, h6, h7, h8⟩ := h3 hf
    rw [← h7]
    refine .exc (vs := fs.map (·.2)) ha na h4 (fun _ => ⟨dd, e, ?_, h6⟩) (by rw [List.length_map, List.length_map]) h8
    rw [zip_fs]
    exact h5
section
variable {X : Cx} {W : WX} {P : List Nat} {x nm cn : Str} {c : Value} {i j : Nat} {body : List Stmt} {np pos pos' ap tp hp : Pos} {tb : WX → TS} {g : MS}
theorem ss_tryK (K : Fg) (mg : Str → Option Value) (hK : X.K = K) (hmg : X.mg = mg) (ip : i ∉ P) (jp : j ∉ P) (hij : i ≠ j) (yes no : List Str) (nl : List (Str × Nat)) (hy : ∀ y ∈ yes, ∀ C, mg y = some (.ref C) → PySem.W.exmOne K (.ref C) c = some true) (hno : ∀ y ∈ no, ∀ C, mg y = some (.ref C) → PySem.W.exmOne K (.ref C) c = some false)
    (hnl : ∀ y k, nl.lookup y = some k → ∀ C, mg y = some (.ref C) → C = Cn.cls k) (hs : X.stack = X.env :: X.outer) (hf : X.env.frame = some X.env.locals) (hex : X.ex = []) (hN : X.N.Nodup) (hi : X.N[i]? = some nm) (hln : X.env.kindOf nm = some .local) (hc : Names X x c) (tk : Takes X W)
    (hb : ∀ (W' : WX) (pn : List (Addr × Obj)) (xe : Value → Shared → Prop), Takes (X.tr pn xe) W' → SSs (X.tr pn xe) W' P body (tb W') g)
    (hsu : ∀ (a : Addr) (oe : Obj) (cls : Value) (d : Option Addr) (pn : List (Addr × Obj)), Zc cls d oe → (∃ vs, oe.data = .fields vs) → PS (X.suite a ((a, oe) :: pn)) (.Assign [.Name cn tp] (.Name nm ap) pos') (tAsg (tVar i) (gName j))) :
    SS X W P (.Try body [.ExceptHandler (some (.Name x np)) (some nm) [.Assign [.Name cn tp] (.Name nm ap) pos'] hp] [] [] pos) (fun D σ H => tb (wKeep K c i (fun _ _ _ => tAsg (tVar i) (gName j)) W D) D σ H) (mTryK yes no nl i j g) := by
  subst hK hmg
  refine ⟨ps_try_keep hs hf hex hN hi hln hc tk (fun W' pn xe t1 t2 => (hb W' pn xe t1).p) fun a oe cls d pn hz hd => pss_one (hsu a oe cls d pn hz hd), fun n hn ρ σ H O D R B w => ?_⟩
  refine (hb (wKeep X.K c i (fun _ _ _ => tAsg (tVar i) (gName j)) W D) [] (fun _ _ => True) (fun _ _ _ => trivial)).s n hn ρ σ H O D R B ?_
  unfold mTryK at w
  cases eg : g ρ with
  | nx ρ1 => rw [eg] at w; exact w
  | rt f d ρ1 => rw [eg] at w; exact w
  | bk ρ1 => rw [eg] at w; exact w
  | ct ρ1 => rw [eg] at w; exact w
  | bad => rw [eg] at w; exact w
  | exc y ρ1 =>
    rw [eg] at w
    intro cls d σ' H' O' R' B' k' xr
    obtain ⟨C, h1, h2, h3⟩ := id xr
    subst h2
    have ip' : i ∉ n.P := by rw [hn]; exact ip
    have jp' : j ∉ n.P := by rw [hn]; exact jp
    have w : WantS X.K X.mg W n H O (if y.c ∈ yes then Out.opt ρ1[i]? fun _ => Out.opt ρ1[j]? fun _ => Out.opt (nl.lookup y.c) fun k => .nx ((ρ1.set j (.val (keptD k y))).set i .no) else if y.c ∈ no then .exc y ρ1 else .bad) D := w
    by_cases yy : y.c ∈ yes
    · rw [if_pos yy] at w
      obtain ⟨s0, es0, w⟩ := w.opt
      obtain ⟨s1, es1, w⟩ := w.opt
      obtain ⟨k, ek, w⟩ := w.opt
      have il : i < σ'.length := by rw [← R'.len]; exact (List.getElem?_eq_some_iff.mp es0).1
      refine ⟨true, hy _ yy C h1, fun _ a na => ?_, fun z => Bool.noConfusion z⟩
      refine ⟨.ref a, List.getElem?_set_self il, na, fun _ => ?_⟩
      have gr : Gr H' O' (upd H' a (excH a (.ref C) d)) O' := Gr.new na
      have noa : ¬ O' a := fun z => R'.dom a z na
      have rp := xrel_rp (xr.keep gr.kp) (hnl _ _ ek C h1) upd_same noa
      have R2 := Rel.setVal (j := j) (gr.rel R') rp
      have B2 : Bs n (ρ1.set j (.val (keptD k y))) (σ'.set j (some (.ref a))) _ O' := Bs.setVal (B'.frm gr.frm) jp'
      have es : ∀ q, q ≠ i → (((σ'.set i (some (.ref a))).set j (some (V.ref a))).set i none)[q]? = (σ'.set j (some (.ref a)))[q]? := fun q hq => by
        rw [List.getElem?_set_ne (Ne.symm hq)]
        by_cases e : j = q
        · subst e
          by_cases l : j < σ'.length
          · rw [List.getElem?_set_self (by simpa using l), List.getElem?_set_self l]
          · rw [List.getElem?_eq_none (by simpa using l), List.getElem?_eq_none (by simpa using l)]
        · rw [List.getElem?_set_ne e, List.getElem?_set_ne e, List.getElem?_set_ne (Ne.symm hq)]
      exact w _ _ O' (R2.drop (by simp) es) (Bs.drop B2 ip' es) (k'.trans gr.kp)
    · rw [if_neg yy] at w
      by_cases nn : y.c ∈ no
      · rw [if_pos nn] at w
        exact ⟨false, hno _ nn C h1, fun z => Bool.noConfusion z, fun _ => w (.ref C) d σ' H' O' R' B' k' xr⟩
      · rw [if_neg nn] at w; exact w.elim
end
/-! ### runs -/
section
variable {K : Co Opd} {u : Tag K} {ρ : Fr} {fa : ME} {KO : CoO} {uo : Tag KO}
theorem ev_isX {tbl : List (Nat × Bool)} : Ev (mIsX tbl fa ρ) K u = Ev (fa ρ) ⟨fun r ρ1 => EvP (look r ρ1) fun d => EvP (isX tbl d) fun b => K.ok (.val (.bool b)) ρ1, K.ex⟩ .mk := by
  unfold mIsX; simp only [ev_un, evP_un, eu_bind, eu_opt, eu_ok]
theorem ev_flX {ks : List Nat} {n : Str} : Ev (mFlX ks n fa ρ) K u = Ev (fa ρ) ⟨fun r ρ1 => EvP (look r ρ1) fun d => EvP (flX ks n d) fun z => K.ok (.val z) ρ1, K.ex⟩ .mk := by
  unfold mFlX; simp only [ev_un, evP_un, eu_bind, eu_opt, eu_ok]
theorem evo_raise0 {c : Str} : EvO (mRaise0 c ρ) KO uo = KO.go (.exc ⟨c, []⟩ ρ) := evo_exc
theorem lookN_nil {β : Type} {k : Nat} : ([] : List (Nat × β)).lookup k = none := rfl
theorem lookN_cons {β : Type} {k k' : Nat} {d : β} {l : List (Nat × β)} : ((k', d) :: l).lookup k = if k = k' then some d else l.lookup k := by
  by_cases h : k = k'
  · subst h; simp [List.lookup]
  · have : (k == k') = false := by simpa using h
    simp [List.lookup, this, h]
theorem lookS_cons {k k' : Str} {d : Nat} {l : List (Str × Nat)} : ((k', d) :: l).lookup k = if k = k' then some d else l.lookup k := by
  by_cases h : k = k'
  · subst h; simp [List.lookup]
  · have : (k == k') = false := by simpa using h
    simp [List.lookup, this, h]
theorem isX_kept {tbl : List (Nat × Bool)} {k : Nat} {x : Xc} : isX tbl (keptD k x) = tbl.lookup k := by
  show (if ((Cn.cls k : Nat) : Int) = ((Cn.cls (Int.toNat (k : Nat)) : Nat) : Int) then tbl.lookup (Int.toNat (k : Nat)) else none) = _
  rw [Int.toNat_natCast, if_pos rfl]
theorem flX_kept {ks : List Nat} {k : Nat} {x : Xc} {f : Str} (h : k ∈ ks) : flX ks f (keptD k x) = (fldIx f ((x.fl.map (·.1)).map .str)).bind fun j => (x.fl.map (·.2))[j]? := by
  show (if Int.toNat (k : Nat) ∈ ks ∧ ((Cn.cls k : Nat) : Int) = ((Cn.cls (Int.toNat (k : Nat)) : Nat) : Int) then _ else none) = _
  rw [Int.toNat_natCast, if_pos ⟨h, rfl⟩]
theorem isNone_kept {k : Nat} {x : Xc} : isNone (keptD k x) = false := rfl
def keepK (yes no : List Str) (nl : List (Str × Nat)) (i j : Nat) (KO : CoO) : CoO := ⟨fun o => match o with
  | .exc x ρ => if x.c ∈ yes then EvP ρ[i]? fun _ => EvP ρ[j]? fun _ => EvP (nl.lookup x.c) fun k => KO.go (.nx ((ρ.set j (.val (keptD k x))).set i .no)) else x.c ∈ no ∧ KO.go (.exc x ρ)
  | o => KO.go o⟩
theorem kk_nx {yes no : List Str} {nl : List (Str × Nat)} {i j : Nat} : (keepK yes no nl i j KO).go (.nx ρ) = KO.go (.nx ρ) := rfl
theorem kk_rt {yes no : List Str} {nl : List (Str × Nat)} {i j : Nat} {f : Bool} {d : D} : (keepK yes no nl i j KO).go (.rt f d ρ) = KO.go (.rt f d ρ) := rfl
theorem kk_exc {yes no : List Str} {nl : List (Str × Nat)} {i j : Nat} {x : Xc} : (keepK yes no nl i j KO).go (.exc x ρ) = if x.c ∈ yes then EvP ρ[i]? fun _ => EvP ρ[j]? fun _ => EvP (nl.lookup x.c) fun k => KO.go (.nx ((ρ.set j (.val (keptD k x))).set i .no)) else x.c ∈ no ∧ KO.go (.exc x ρ) := rfl
theorem evo_tryK {yes no : List Str} {nl : List (Str × Nat)} {i j : Nat} {g : MS} : EvO (mTryK yes no nl i j g ρ) KO uo = EvO (g ρ) (keepK yes no nl i j KO) .mk := by
  unfold mTryK
  cases e : g ρ with
  | nx ρ1 => rw [evo_nx, evo_nx]; rfl
  | rt f d ρ1 => rw [evo_rt, evo_rt]; rfl
  | bk ρ1 => rw [evo_bk, evo_bk]; rfl
  | ct ρ1 => rw [evo_ct, evo_ct]; rfl
  | bad => rw [evo_bad, evo_bad]
  | exc x ρ1 =>
    rw [evo_exc, kk_exc]
    by_cases h : x.c ∈ yes
    · simp only [h, if_true, evo_opt, evP_un, evo_nx]
    · simp only [h, if_false]
      by_cases h2 : x.c ∈ no
      · simp only [h2, if_true, evo_exc, true_and]
      · simp only [h2, if_false, evo_bad, false_and]
end
end
end L3
set_option Elab.async false
set_option linter.all false
set_option maxRecDepth 100000
set_option maxHeartbeats 4000000
set_option autoImplicit false
namespace K18
open PySem PySem.Spec L2 L3
variable [Cn]
def top (i : Nat) : Stmt := PySem.Challenge.pw_passersby_k18_refusals_apart.main.body.getD i (.Pass ⟨0, 0, 0, 0⟩)
abbrev s__law_feed : Stmt := top 10
abbrev s__law_next : Stmt := top 11
abbrev s__law_one : Stmt := top 12
abbrev s__law_sorts : Stmt := top 13
abbrev s__law_fields : Stmt := top 14
abbrev s__law_raised : Stmt := top 15
abbrev s_law : Stmt := top 16
def b__law_feed : MS := (mSeq (mSet 2 (mIf (mCmpB cGt (mBi bLen (mrCons (mVar 0) mrNil)) (mC (.int 0))) (mOp2 dIx (mVar 0) (mOp2 dMod (mVar 1) (mBi bLen (mrCons (mVar 0) mrNil)))) (mC (.int 0))))
  (mSeq (mSet 3 (mIf (mCmpB cGe (mBi bAbs (mrCons (mVar 2) mrNil)) (mOp2 dPow (mC (.int 10)) (mC (.int 18)))) (mBi bAbs (mrCons (mVar 2) mrNil)) (mC (.int 0))))
  (mRet [0, 1] (mLst (mCons (mVar 3) (mCons (mOp2 dAdd (mOp2 dMod (mVar 2) (mC (.int 1000003))) (mOp2 dMul (mC (.int 7919)) (mVar 1))) (mCons (mC (.int 0)) mNil)))))))
def F__law_feed : ME := runDef 4 b__law_feed
theorem kp__law_feed : Keeps F__law_feed := keeps_run _ _
def b__law_next : MS := (mSeq (mIfS (mCmpB cGt (mOp2 dIx (mVar 0) (mC (.int 0))) (mC (.int 0))) (mSeq (mSet 2 (mOp2 dMod (mOp2 dIx (mVar 0) (mC (.int 0))) (mVar 1)))
  (mSeq (mPut 0 (mOp2 dDiv (mOp2 dIx (mVar 0) (mC (.int 0))) (mVar 1)) (mC (.int 0)))
  (mRet [0, 1] (mVar 2)))) mNx)
  (mSeq (mSet 3 (mOp2 dAdd (mOp2 dIx (mVar 0) (mC (.int 2))) (mC (.int 1))))
  (mSeq (mPut 0 (mVar 3) (mC (.int 2)))
  (mSeq (mSet 4 (mOp2 dMod (mOp2 dMul (mOp2 dAdd (mOp2 dAdd (mOp2 dIx (mVar 0) (mC (.int 1))) (mOp2 dMul (mC (.int 41)) (mVar 3))) (mC (.int 3))) (mOp2 dAdd (mOp2 dMul (mVar 3) (mVar 3)) (mC (.int 69621)))) (mC (.int 998244353))))
  (mRet [0, 1] (mOp2 dMod (mOp2 dDiv (mOp2 dMod (mOp2 dAdd (mOp2 dMul (mVar 4) (mOp2 dAdd (mOp2 dMod (mVar 4) (mC (.int 65519))) (mC (.int 40692)))) (mVar 3)) (mC (.int 2147483629))) (mC (.int 13))) (mVar 1)))))))
def F__law_next : ME := runDef 5 b__law_next
theorem kp__law_next : Keeps F__law_next := keeps_run _ _
def b__law_one : MS := (mRet [0, 1] (mOp2 dIx (mVar 1) (mCall [0, 1] F__law_next [] (mrCons (mVar 0) (mrCons (mBi bLen (mrCons (mVar 1) mrNil)) mrNil)))))
def F__law_one : ME := runDef 2 b__law_one
theorem kp__law_one : Keeps F__law_one := keeps_run _ _
def b__law_sorts : MS := (mSeq (mSet 1 (mLst (mCons (mIsX [(21, true), (22, false), (23, false), (24, false), (25, false), (26, false), (27, false)] (mVar 0)) (mCons (mIsX [(21, false), (22, true), (23, false), (24, false), (25, false), (26, false), (27, false)] (mVar 0)) (mCons (mIsX [(21, false), (22, false), (23, true), (24, false), (25, false), (26, false), (27, false)] (mVar 0)) (mCons (mIsX [(21, false), (22, false), (23, false), (24, true), (25, false), (26, false), (27, false)] (mVar 0)) mNil))))))
  (mRet [0] (mOp2 dAdd (mVar 1) (mLst (mCons (mIsX [(21, false), (22, false), (23, false), (24, false), (25, true), (26, false), (27, false)] (mVar 0)) (mCons (mIsX [(21, false), (22, false), (23, false), (24, false), (25, false), (26, true), (27, false)] (mVar 0)) (mCons (mIsX [(21, false), (22, false), (23, false), (24, false), (25, false), (26, false), (27, true)] (mVar 0)) mNil)))))))
def F__law_sorts : ME := runDef 2 b__law_sorts
theorem kp__law_sorts : Keeps F__law_sorts := keeps_run _ _
def b__law_fields : MS := (mSeq (mIfS (mTest (mIsX [(21, true), (22, false), (23, false), (24, false), (25, false), (26, false), (27, false)] (mVar 0))) (mRet [0] (mTup (mCons (mFlX [21] "row" (mVar 0)) (mCons (mFlX [21, 23] "word" (mVar 0)) mNil)))) mNx)
  (mSeq (mIfS (mTest (mIsX [(21, false), (22, false), (23, true), (24, false), (25, false), (26, false), (27, false)] (mVar 0))) (mRet [0] (mTup (mCons (mFlX [21, 23] "word" (mVar 0)) (mCons (mFlX [23] "number" (mVar 0)) mNil)))) mNx)
  (mSeq (mIfS (mTest (mIsX [(21, false), (22, true), (23, false), (24, false), (25, false), (26, false), (27, false)] (mVar 0))) (mRet [0] (mTup (mCons (mFlX [22] "place" (mVar 0)) mNil))) mNx)
  (mRet [0] (mIf (mTest (mIsX [(21, false), (22, false), (23, false), (24, false), (25, true), (26, false), (27, false)] (mVar 0))) (mTup (mCons (mFlX [25] "line" (mVar 0)) mNil)) (mTup mNil))))))
def F__law_fields : ME := runDef 1 b__law_fields
theorem kp__law_fields : Keeps F__law_fields := keeps_run _ _
def b__law_raised : MS := (mSeq (mSet 4 (mC .none))
  (mSeq (mTryK ["NoText", "NoMeeting", "NoPaper", "TooMany", "NoLine", "NoRule", "NoCrowd"] [] [("NoText", 21), ("NoMeeting", 22), ("NoPaper", 23), ("TooMany", 24), ("NoLine", 25), ("NoRule", 26), ("NoCrowd", 27)] 5 4 (mSeq (mIfS (mCmpB cEq (mVar 0) (mC (.int 0))) (mRaise "NoText" ["row", "word"] (mCons (mVar 1) (mCons (mVar 2) mNil))) mNx)
  (mSeq (mIfS (mCmpB cEq (mVar 0) (mC (.int 1))) (mRaise "NoMeeting" ["place"] (mCons (mVar 1) mNil)) mNx)
  (mSeq (mIfS (mCmpB cEq (mVar 0) (mC (.int 2))) (mRaise "NoPaper" ["word", "number"] (mCons (mVar 3) (mCons (mVar 2) mNil))) mNx)
  (mSeq (mIfS (mCmpB cEq (mVar 0) (mC (.int 3))) (mRaise0 "TooMany") mNx)
  (mSeq (mIfS (mCmpB cEq (mVar 0) (mC (.int 4))) (mRaise "NoLine" ["line"] (mCons (mVar 3) mNil)) mNx)
  (mSeq (mIfS (mCmpB cEq (mVar 0) (mC (.int 5))) (mRaise0 "NoRule") mNx)
  (mRaise0 "NoCrowd"))))))))
  (mRet [0, 1, 2, 3] (mVar 4))))
def F__law_raised : ME := runDef 6 b__law_raised
theorem kp__law_raised : Keeps F__law_raised := keeps_run _ _
def b_law : MS := (mSeq (mSet 1 (mCall [0, 1] F__law_feed [] (mrCons (mVar 0) (mrCons (mC (.int 0)) mrNil))))
  (mSeq (mPar 2 3 (mCons (mCall [0, 1] F__law_next [] (mrCons (mVar 1) (mrCons (mC (.int 400)) mrNil))) (mCons (mCall [0, 1] F__law_next [] (mrCons (mVar 1) (mrCons (mC (.int 400)) mrNil))) mNil)))
  (mSeq (mSet 4 (mCall [0, 1] F__law_one [] (mrCons (mVar 1) (mrCons (mLst (mCons (mC (.str "shape")) (mCons (mC (.str "way")) (mCons (mC (.str "")) (mCons (mC (.str "meet 3")) (mCons (mC (.str "closed")) mNil)))))) mrNil))))
  (mSeq (mSet 5 (mLst (mCons (mTup (mCons (mVar 2) (mCons (mVar 3) mNil))) (mCons (mTup (mCons (mVar 2) mNil)) (mCons (mTup (mCons (mVar 4) (mCons (mVar 3) mNil))) (mCons (mTup mNil) (mCons (mTup (mCons (mVar 4) mNil)) (mCons (mTup mNil) (mCons (mTup mNil) mNil)))))))))
  (mSeq (mFor (mRng1 (mCons (mC (.int 7)) mNil)) (gtName 6) (mSeq (mSet 7 (mCall [0, 1, 2, 3] F__law_raised [] (mrCons (mVar 6) (mrCons (mVar 2) (mrCons (mVar 3) (mrCons (mVar 4) mrNil))))))
  (mSeq (mIfS (mOrB (mNotB (mTest (mIsX [(21, true), (22, true), (23, true), (24, true), (25, true), (26, true), (27, true)] (mVar 7)))) (mCmpB cNe (mCall [0] F__law_fields [] (mrCons (mVar 7) mrNil)) (mOp2 dIx (mVar 5) (mVar 6)))) (mRet [] (mC (.bool false))) mNx)
  (mIfS (mCmpB cNe (mCall [0] F__law_sorts [] (mrCons (mVar 7) mrNil)) (mLC (mRng1 (mCons (mC (.int 7)) mNil)) (gtName 8) mYes (mCmp cEq (mVar 8) (mVar 6)) [8])) (mRet [] (mC (.bool false))) mNx))) [6, 7])
  (mRet [] (mC (.bool true))))))))
def F_law : ME := runDef 9 b_law
theorem kp_law : Keeps F_law := keeps_run _ _
def si_NoLine : Stmt := (clsB (top 6)).getD 0 (.Pass ⟨0, 0, 0, 0⟩)
def si_NoMeeting : Stmt := (clsB (top 3)).getD 0 (.Pass ⟨0, 0, 0, 0⟩)
def si_NoPaper : Stmt := (clsB (top 4)).getD 0 (.Pass ⟨0, 0, 0, 0⟩)
def si_NoText : Stmt := (clsB (top 2)).getD 0 (.Pass ⟨0, 0, 0, 0⟩)
structure Txt (K : Fg) (mg : Str → Option Value) where
  C_PassError : Addr
  gc_PassError : mg "PassError" = some (.ref C_PassError)
  C_NoText : Addr
  gc_NoText : mg "NoText" = some (.ref C_NoText)
  C_NoMeeting : Addr
  gc_NoMeeting : mg "NoMeeting" = some (.ref C_NoMeeting)
  C_NoPaper : Addr
  gc_NoPaper : mg "NoPaper" = some (.ref C_NoPaper)
  C_TooMany : Addr
  gc_TooMany : mg "TooMany" = some (.ref C_TooMany)
  C_NoLine : Addr
  gc_NoLine : mg "NoLine" = some (.ref C_NoLine)
  C_NoRule : Addr
  gc_NoRule : mg "NoRule" = some (.ref C_NoRule)
  C_NoCrowd : Addr
  gc_NoCrowd : mg "NoCrowd" = some (.ref C_NoCrowd)
  oe_NoLine : OexC K C_NoLine
  fI_NoLine : Addr
  di_NoLine : FuncData
  ic_NoLine : PySem.W.findIn K (.ref C_NoLine) "__init__" = some (some (.ref fI_NoLine))
  ti_NoLine : PySem.W.typeIn K (.ref fI_NoLine) = some (.type "function")
  Fi_NoLine : Fun K "__init__" "NoLine.__init__" si_NoLine fI_NoLine di_NoLine
  bi_NoLine : Binds K di_NoLine ["self", "line"] []
  oe_NoMeeting : OexC K C_NoMeeting
  fI_NoMeeting : Addr
  di_NoMeeting : FuncData
  ic_NoMeeting : PySem.W.findIn K (.ref C_NoMeeting) "__init__" = some (some (.ref fI_NoMeeting))
  ti_NoMeeting : PySem.W.typeIn K (.ref fI_NoMeeting) = some (.type "function")
  Fi_NoMeeting : Fun K "__init__" "NoMeeting.__init__" si_NoMeeting fI_NoMeeting di_NoMeeting
  bi_NoMeeting : Binds K di_NoMeeting ["self", "place"] []
  oe_NoPaper : OexC K C_NoPaper
  fI_NoPaper : Addr
  di_NoPaper : FuncData
  ic_NoPaper : PySem.W.findIn K (.ref C_NoPaper) "__init__" = some (some (.ref fI_NoPaper))
  ti_NoPaper : PySem.W.typeIn K (.ref fI_NoPaper) = some (.type "function")
  Fi_NoPaper : Fun K "__init__" "NoPaper.__init__" si_NoPaper fI_NoPaper di_NoPaper
  bi_NoPaper : Binds K di_NoPaper ["self", "word", "number"] []
  oe_NoText : OexC K C_NoText
  fI_NoText : Addr
  di_NoText : FuncData
  ic_NoText : PySem.W.findIn K (.ref C_NoText) "__init__" = some (some (.ref fI_NoText))
  ti_NoText : PySem.W.typeIn K (.ref fI_NoText) = some (.type "function")
  Fi_NoText : Fun K "__init__" "NoText.__init__" si_NoText fI_NoText di_NoText
  bi_NoText : Binds K di_NoText ["self", "row", "word"] []
  nf_NoLine_line : PySem.W.findIn K (.ref C_NoLine) "line" = some none
  nf_NoMeeting_place : PySem.W.findIn K (.ref C_NoMeeting) "place" = some none
  nf_NoPaper_number : PySem.W.findIn K (.ref C_NoPaper) "number" = some none
  nf_NoPaper_word : PySem.W.findIn K (.ref C_NoPaper) "word" = some none
  nf_NoText_row : PySem.W.findIn K (.ref C_NoText) "row" = some none
  nf_NoText_word : PySem.W.findIn K (.ref C_NoText) "word" = some none
  xc_NoCrowd : XfC K C_NoCrowd
  ty_NoCrowd : PySem.W.typeIn K (.ref C_NoCrowd) = some (.type "type")
  xc_NoLine : XfC K C_NoLine
  ty_NoLine : PySem.W.typeIn K (.ref C_NoLine) = some (.type "type")
  xc_NoMeeting : XfC K C_NoMeeting
  ty_NoMeeting : PySem.W.typeIn K (.ref C_NoMeeting) = some (.type "type")
  xc_NoPaper : XfC K C_NoPaper
  ty_NoPaper : PySem.W.typeIn K (.ref C_NoPaper) = some (.type "type")
  xc_NoRule : XfC K C_NoRule
  ty_NoRule : PySem.W.typeIn K (.ref C_NoRule) = some (.type "type")
  xc_NoText : XfC K C_NoText
  ty_NoText : PySem.W.typeIn K (.ref C_NoText) = some (.type "type")
  xc_PassError : XfC K C_PassError
  ty_PassError : PySem.W.typeIn K (.ref C_PassError) = some (.type "type")
  xc_TooMany : XfC K C_TooMany
  ty_TooMany : PySem.W.typeIn K (.ref C_TooMany) = some (.type "type")
  sb_NoCrowd_NoCrowd : PySem.W.subIn K (.ref C_NoCrowd) (.ref C_NoCrowd) = some true
  sb_NoCrowd_NoLine : PySem.W.subIn K (.ref C_NoCrowd) (.ref C_NoLine) = some false
  sb_NoCrowd_NoMeeting : PySem.W.subIn K (.ref C_NoCrowd) (.ref C_NoMeeting) = some false
  sb_NoCrowd_NoPaper : PySem.W.subIn K (.ref C_NoCrowd) (.ref C_NoPaper) = some false
  sb_NoCrowd_NoRule : PySem.W.subIn K (.ref C_NoCrowd) (.ref C_NoRule) = some false
  sb_NoCrowd_NoText : PySem.W.subIn K (.ref C_NoCrowd) (.ref C_NoText) = some false
  sb_NoCrowd_PassError : PySem.W.subIn K (.ref C_NoCrowd) (.ref C_PassError) = some true
  sb_NoCrowd_TooMany : PySem.W.subIn K (.ref C_NoCrowd) (.ref C_TooMany) = some false
  sb_NoLine_NoCrowd : PySem.W.subIn K (.ref C_NoLine) (.ref C_NoCrowd) = some false
  sb_NoLine_NoLine : PySem.W.subIn K (.ref C_NoLine) (.ref C_NoLine) = some true
  sb_NoLine_NoMeeting : PySem.W.subIn K (.ref C_NoLine) (.ref C_NoMeeting) = some false
  sb_NoLine_NoPaper : PySem.W.subIn K (.ref C_NoLine) (.ref C_NoPaper) = some false
  sb_NoLine_NoRule : PySem.W.subIn K (.ref C_NoLine) (.ref C_NoRule) = some false
  sb_NoLine_NoText : PySem.W.subIn K (.ref C_NoLine) (.ref C_NoText) = some false
  sb_NoLine_PassError : PySem.W.subIn K (.ref C_NoLine) (.ref C_PassError) = some true
  sb_NoLine_TooMany : PySem.W.subIn K (.ref C_NoLine) (.ref C_TooMany) = some false
  sb_NoMeeting_NoCrowd : PySem.W.subIn K (.ref C_NoMeeting) (.ref C_NoCrowd) = some false
  sb_NoMeeting_NoLine : PySem.W.subIn K (.ref C_NoMeeting) (.ref C_NoLine) = some false
  sb_NoMeeting_NoMeeting : PySem.W.subIn K (.ref C_NoMeeting) (.ref C_NoMeeting) = some true
  sb_NoMeeting_NoPaper : PySem.W.subIn K (.ref C_NoMeeting) (.ref C_NoPaper) = some false
  sb_NoMeeting_NoRule : PySem.W.subIn K (.ref C_NoMeeting) (.ref C_NoRule) = some false
  sb_NoMeeting_NoText : PySem.W.subIn K (.ref C_NoMeeting) (.ref C_NoText) = some false
  sb_NoMeeting_PassError : PySem.W.subIn K (.ref C_NoMeeting) (.ref C_PassError) = some true
  sb_NoMeeting_TooMany : PySem.W.subIn K (.ref C_NoMeeting) (.ref C_TooMany) = some false
  sb_NoPaper_NoCrowd : PySem.W.subIn K (.ref C_NoPaper) (.ref C_NoCrowd) = some false
  sb_NoPaper_NoLine : PySem.W.subIn K (.ref C_NoPaper) (.ref C_NoLine) = some false
  sb_NoPaper_NoMeeting : PySem.W.subIn K (.ref C_NoPaper) (.ref C_NoMeeting) = some false
  sb_NoPaper_NoPaper : PySem.W.subIn K (.ref C_NoPaper) (.ref C_NoPaper) = some true
  sb_NoPaper_NoRule : PySem.W.subIn K (.ref C_NoPaper) (.ref C_NoRule) = some false
  sb_NoPaper_NoText : PySem.W.subIn K (.ref C_NoPaper) (.ref C_NoText) = some false
  sb_NoPaper_PassError : PySem.W.subIn K (.ref C_NoPaper) (.ref C_PassError) = some true
  sb_NoPaper_TooMany : PySem.W.subIn K (.ref C_NoPaper) (.ref C_TooMany) = some false
  sb_NoRule_NoCrowd : PySem.W.subIn K (.ref C_NoRule) (.ref C_NoCrowd) = some false
  sb_NoRule_NoLine : PySem.W.subIn K (.ref C_NoRule) (.ref C_NoLine) = some false
  sb_NoRule_NoMeeting : PySem.W.subIn K (.ref C_NoRule) (.ref C_NoMeeting) = some false
  sb_NoRule_NoPaper : PySem.W.subIn K (.ref C_NoRule) (.ref C_NoPaper) = some false
  sb_NoRule_NoRule : PySem.W.subIn K (.ref C_NoRule) (.ref C_NoRule) = some true
  sb_NoRule_NoText : PySem.W.subIn K (.ref C_NoRule) (.ref C_NoText) = some false
  sb_NoRule_PassError : PySem.W.subIn K (.ref C_NoRule) (.ref C_PassError) = some true
  sb_NoRule_TooMany : PySem.W.subIn K (.ref C_NoRule) (.ref C_TooMany) = some false
  sb_NoText_NoCrowd : PySem.W.subIn K (.ref C_NoText) (.ref C_NoCrowd) = some false
  sb_NoText_NoLine : PySem.W.subIn K (.ref C_NoText) (.ref C_NoLine) = some false
  sb_NoText_NoMeeting : PySem.W.subIn K (.ref C_NoText) (.ref C_NoMeeting) = some false
  sb_NoText_NoPaper : PySem.W.subIn K (.ref C_NoText) (.ref C_NoPaper) = some false
  sb_NoText_NoRule : PySem.W.subIn K (.ref C_NoText) (.ref C_NoRule) = some false
  sb_NoText_NoText : PySem.W.subIn K (.ref C_NoText) (.ref C_NoText) = some true
  sb_NoText_PassError : PySem.W.subIn K (.ref C_NoText) (.ref C_PassError) = some true
  sb_NoText_TooMany : PySem.W.subIn K (.ref C_NoText) (.ref C_TooMany) = some false
  sb_TooMany_NoCrowd : PySem.W.subIn K (.ref C_TooMany) (.ref C_NoCrowd) = some false
  sb_TooMany_NoLine : PySem.W.subIn K (.ref C_TooMany) (.ref C_NoLine) = some false
  sb_TooMany_NoMeeting : PySem.W.subIn K (.ref C_TooMany) (.ref C_NoMeeting) = some false
  sb_TooMany_NoPaper : PySem.W.subIn K (.ref C_TooMany) (.ref C_NoPaper) = some false
  sb_TooMany_NoRule : PySem.W.subIn K (.ref C_TooMany) (.ref C_NoRule) = some false
  sb_TooMany_NoText : PySem.W.subIn K (.ref C_TooMany) (.ref C_NoText) = some false
  sb_TooMany_PassError : PySem.W.subIn K (.ref C_TooMany) (.ref C_PassError) = some true
  sb_TooMany_TooMany : PySem.W.subIn K (.ref C_TooMany) (.ref C_TooMany) = some true
  ea_NoText : C_NoText = Cn.cls 21
  ec_NoText : ExcC K (Cn.cls 21)
  xg_NoText : XfC K (Cn.cls 21)
  ea_NoMeeting : C_NoMeeting = Cn.cls 22
  ec_NoMeeting : ExcC K (Cn.cls 22)
  xg_NoMeeting : XfC K (Cn.cls 22)
  ea_NoPaper : C_NoPaper = Cn.cls 23
  ec_NoPaper : ExcC K (Cn.cls 23)
  xg_NoPaper : XfC K (Cn.cls 23)
  ea_TooMany : C_TooMany = Cn.cls 24
  ec_TooMany : ExcC K (Cn.cls 24)
  xg_TooMany : XfC K (Cn.cls 24)
  ea_NoLine : C_NoLine = Cn.cls 25
  ec_NoLine : ExcC K (Cn.cls 25)
  xg_NoLine : XfC K (Cn.cls 25)
  ea_NoRule : C_NoRule = Cn.cls 26
  ec_NoRule : ExcC K (Cn.cls 26)
  xg_NoRule : XfC K (Cn.cls 26)
  ea_NoCrowd : C_NoCrowd = Cn.cls 27
  ec_NoCrowd : ExcC K (Cn.cls 27)
  xg_NoCrowd : XfC K (Cn.cls 27)
  kx_NoCrowd_NoCrowd : PySem.W.kitOne K (.ref (Cn.cls 27)) (.ref C_NoCrowd) = some true
  kx_NoCrowd_NoLine : PySem.W.kitOne K (.ref (Cn.cls 27)) (.ref C_NoLine) = some false
  kx_NoCrowd_NoMeeting : PySem.W.kitOne K (.ref (Cn.cls 27)) (.ref C_NoMeeting) = some false
  kx_NoCrowd_NoPaper : PySem.W.kitOne K (.ref (Cn.cls 27)) (.ref C_NoPaper) = some false
  kx_NoCrowd_NoRule : PySem.W.kitOne K (.ref (Cn.cls 27)) (.ref C_NoRule) = some false
  kx_NoCrowd_NoText : PySem.W.kitOne K (.ref (Cn.cls 27)) (.ref C_NoText) = some false
  kx_NoCrowd_TooMany : PySem.W.kitOne K (.ref (Cn.cls 27)) (.ref C_TooMany) = some false
  kx_NoLine_NoCrowd : PySem.W.kitOne K (.ref (Cn.cls 25)) (.ref C_NoCrowd) = some false
  kx_NoLine_NoLine : PySem.W.kitOne K (.ref (Cn.cls 25)) (.ref C_NoLine) = some true
  kx_NoLine_NoMeeting : PySem.W.kitOne K (.ref (Cn.cls 25)) (.ref C_NoMeeting) = some false
  kx_NoLine_NoPaper : PySem.W.kitOne K (.ref (Cn.cls 25)) (.ref C_NoPaper) = some false
  kx_NoLine_NoRule : PySem.W.kitOne K (.ref (Cn.cls 25)) (.ref C_NoRule) = some false
  kx_NoLine_NoText : PySem.W.kitOne K (.ref (Cn.cls 25)) (.ref C_NoText) = some false
  kx_NoLine_TooMany : PySem.W.kitOne K (.ref (Cn.cls 25)) (.ref C_TooMany) = some false
  kx_NoMeeting_NoCrowd : PySem.W.kitOne K (.ref (Cn.cls 22)) (.ref C_NoCrowd) = some false
  kx_NoMeeting_NoLine : PySem.W.kitOne K (.ref (Cn.cls 22)) (.ref C_NoLine) = some false
  kx_NoMeeting_NoMeeting : PySem.W.kitOne K (.ref (Cn.cls 22)) (.ref C_NoMeeting) = some true
  kx_NoMeeting_NoPaper : PySem.W.kitOne K (.ref (Cn.cls 22)) (.ref C_NoPaper) = some false
  kx_NoMeeting_NoRule : PySem.W.kitOne K (.ref (Cn.cls 22)) (.ref C_NoRule) = some false
  kx_NoMeeting_NoText : PySem.W.kitOne K (.ref (Cn.cls 22)) (.ref C_NoText) = some false
  kx_NoMeeting_TooMany : PySem.W.kitOne K (.ref (Cn.cls 22)) (.ref C_TooMany) = some false
  kx_NoPaper_NoCrowd : PySem.W.kitOne K (.ref (Cn.cls 23)) (.ref C_NoCrowd) = some false
  kx_NoPaper_NoLine : PySem.W.kitOne K (.ref (Cn.cls 23)) (.ref C_NoLine) = some false
  kx_NoPaper_NoMeeting : PySem.W.kitOne K (.ref (Cn.cls 23)) (.ref C_NoMeeting) = some false
  kx_NoPaper_NoPaper : PySem.W.kitOne K (.ref (Cn.cls 23)) (.ref C_NoPaper) = some true
  kx_NoPaper_NoRule : PySem.W.kitOne K (.ref (Cn.cls 23)) (.ref C_NoRule) = some false
  kx_NoPaper_NoText : PySem.W.kitOne K (.ref (Cn.cls 23)) (.ref C_NoText) = some false
  kx_NoPaper_TooMany : PySem.W.kitOne K (.ref (Cn.cls 23)) (.ref C_TooMany) = some false
  kx_NoRule_NoCrowd : PySem.W.kitOne K (.ref (Cn.cls 26)) (.ref C_NoCrowd) = some false
  kx_NoRule_NoLine : PySem.W.kitOne K (.ref (Cn.cls 26)) (.ref C_NoLine) = some false
  kx_NoRule_NoMeeting : PySem.W.kitOne K (.ref (Cn.cls 26)) (.ref C_NoMeeting) = some false
  kx_NoRule_NoPaper : PySem.W.kitOne K (.ref (Cn.cls 26)) (.ref C_NoPaper) = some false
  kx_NoRule_NoRule : PySem.W.kitOne K (.ref (Cn.cls 26)) (.ref C_NoRule) = some true
  kx_NoRule_NoText : PySem.W.kitOne K (.ref (Cn.cls 26)) (.ref C_NoText) = some false
  kx_NoRule_TooMany : PySem.W.kitOne K (.ref (Cn.cls 26)) (.ref C_TooMany) = some false
  kx_NoText_NoCrowd : PySem.W.kitOne K (.ref (Cn.cls 21)) (.ref C_NoCrowd) = some false
  kx_NoText_NoLine : PySem.W.kitOne K (.ref (Cn.cls 21)) (.ref C_NoLine) = some false
  kx_NoText_NoMeeting : PySem.W.kitOne K (.ref (Cn.cls 21)) (.ref C_NoMeeting) = some false
  kx_NoText_NoPaper : PySem.W.kitOne K (.ref (Cn.cls 21)) (.ref C_NoPaper) = some false
  kx_NoText_NoRule : PySem.W.kitOne K (.ref (Cn.cls 21)) (.ref C_NoRule) = some false
  kx_NoText_NoText : PySem.W.kitOne K (.ref (Cn.cls 21)) (.ref C_NoText) = some true
  kx_NoText_TooMany : PySem.W.kitOne K (.ref (Cn.cls 21)) (.ref C_TooMany) = some false
  kx_TooMany_NoCrowd : PySem.W.kitOne K (.ref (Cn.cls 24)) (.ref C_NoCrowd) = some false
  kx_TooMany_NoLine : PySem.W.kitOne K (.ref (Cn.cls 24)) (.ref C_NoLine) = some false
  kx_TooMany_NoMeeting : PySem.W.kitOne K (.ref (Cn.cls 24)) (.ref C_NoMeeting) = some false
  kx_TooMany_NoPaper : PySem.W.kitOne K (.ref (Cn.cls 24)) (.ref C_NoPaper) = some false
  kx_TooMany_NoRule : PySem.W.kitOne K (.ref (Cn.cls 24)) (.ref C_NoRule) = some false
  kx_TooMany_NoText : PySem.W.kitOne K (.ref (Cn.cls 24)) (.ref C_NoText) = some false
  kx_TooMany_TooMany : PySem.W.kitOne K (.ref (Cn.cls 24)) (.ref C_TooMany) = some true
  kv_NoCrowd : PySem.W.kitOne K (.ref (Cn.cls 27)) (.type "ValueError") = some true
  kv_NoLine : PySem.W.kitOne K (.ref (Cn.cls 25)) (.type "ValueError") = some true
  kv_NoMeeting : PySem.W.kitOne K (.ref (Cn.cls 22)) (.type "ValueError") = some true
  kv_NoPaper : PySem.W.kitOne K (.ref (Cn.cls 23)) (.type "ValueError") = some true
  kv_NoRule : PySem.W.kitOne K (.ref (Cn.cls 26)) (.type "ValueError") = some true
  kv_NoText : PySem.W.kitOne K (.ref (Cn.cls 21)) (.type "ValueError") = some true
  kv_TooMany : PySem.W.kitOne K (.ref (Cn.cls 24)) (.type "ValueError") = some true
  ng_NoLine_line : PySem.W.findIn K (.ref (Cn.cls 25)) "line" = some none
  ng_NoMeeting_place : PySem.W.findIn K (.ref (Cn.cls 22)) "place" = some none
  ng_NoPaper_number : PySem.W.findIn K (.ref (Cn.cls 23)) "number" = some none
  ng_NoPaper_word : PySem.W.findIn K (.ref (Cn.cls 23)) "word" = some none
  ng_NoText_row : PySem.W.findIn K (.ref (Cn.cls 21)) "row" = some none
  ng_NoText_word : PySem.W.findIn K (.ref (Cn.cls 21)) "word" = some none
  oe_NoCrowd : OexC K C_NoCrowd
  ib_NoCrowd : PySem.W.findIn K (.ref C_NoCrowd) "__init__" = some (some (.builtin "ValueError.__init__"))
  oe_NoRule : OexC K C_NoRule
  ib_NoRule : PySem.W.findIn K (.ref C_NoRule) "__init__" = some (some (.builtin "ValueError.__init__"))
  oe_TooMany : OexC K C_TooMany
  ib_TooMany : PySem.W.findIn K (.ref C_TooMany) "__init__" = some (some (.builtin "ValueError.__init__"))
  f__law_feed : Addr
  d__law_feed : FuncData
  F__law_feed : Fun K "_law_feed" "_law_feed" s__law_feed f__law_feed d__law_feed
  g__law_feed : mg "_law_feed" = some (.ref f__law_feed)
  k__law_feed : PySem.W.keepIn K (.ref f__law_feed) = true
  b__law_feed : Binds K d__law_feed ["_law_script", "_law_k"] []
  f__law_next : Addr
  d__law_next : FuncData
  F__law_next : Fun K "_law_next" "_law_next" s__law_next f__law_next d__law_next
  g__law_next : mg "_law_next" = some (.ref f__law_next)
  k__law_next : PySem.W.keepIn K (.ref f__law_next) = true
  b__law_next : Binds K d__law_next ["_law_feed_here", "_law_many"] []
  f__law_one : Addr
  d__law_one : FuncData
  F__law_one : Fun K "_law_one" "_law_one" s__law_one f__law_one d__law_one
  g__law_one : mg "_law_one" = some (.ref f__law_one)
  k__law_one : PySem.W.keepIn K (.ref f__law_one) = true
  b__law_one : Binds K d__law_one ["_law_feed_here", "_law_some"] []
  f__law_sorts : Addr
  d__law_sorts : FuncData
  F__law_sorts : Fun K "_law_sorts" "_law_sorts" s__law_sorts f__law_sorts d__law_sorts
  g__law_sorts : mg "_law_sorts" = some (.ref f__law_sorts)
  k__law_sorts : PySem.W.keepIn K (.ref f__law_sorts) = true
  b__law_sorts : Binds K d__law_sorts ["_law_e"] []
  f__law_fields : Addr
  d__law_fields : FuncData
  F__law_fields : Fun K "_law_fields" "_law_fields" s__law_fields f__law_fields d__law_fields
  g__law_fields : mg "_law_fields" = some (.ref f__law_fields)
  k__law_fields : PySem.W.keepIn K (.ref f__law_fields) = true
  b__law_fields : Binds K d__law_fields ["_law_e"] []
  f__law_raised : Addr
  d__law_raised : FuncData
  F__law_raised : Fun K "_law_raised" "_law_raised" s__law_raised f__law_raised d__law_raised
  g__law_raised : mg "_law_raised" = some (.ref f__law_raised)
  k__law_raised : PySem.W.keepIn K (.ref f__law_raised) = true
  b__law_raised : Binds K d__law_raised ["_law_k", "_law_number", "_law_more", "_law_text"] []
  f_law : Addr
  d_law : FuncData
  F_law : Fun K "law" "law" s_law f_law d_law
  g_law : mg "law" = some (.ref f_law)
  k_law : PySem.W.keepIn K (.ref f_law) = true
  b_law : Binds K d_law ["_law_script"] []
  n_ValueError : mg "ValueError" = none
  n_abs : mg "abs" = none
  n_isinstance : mg "isinstance" = none
  n_len : mg "len" = none
  n_range : mg "range" = none
section
variable {P : Program} {w : World} {K : Fg} {mg : Str → Option Value} {base : Heap}
theorem sci_NoLine : FnScope ["self", "line"] ["self", "line"] (defScope si_NoLine) := ⟨rfl, rfl, rfl, by decide +kernel, rfl, by decide +kernel, by decide +kernel⟩
theorem xi_NoLine (T : Txt K mg) : FnOk P w K mg base CX0 1 T.fI_NoLine T.di_NoLine ["self", "line"] (initSp K T.C_NoLine 1 (fields ["line"])) := init1 T.nf_NoLine_line T.Fi_NoLine sci_NoLine fun _ _ _ _ _ _ => pss_one (ps_ost (pv 0) (pv 1))
theorem sci_NoMeeting : FnScope ["self", "place"] ["self", "place"] (defScope si_NoMeeting) := ⟨rfl, rfl, rfl, by decide +kernel, rfl, by decide +kernel, by decide +kernel⟩
theorem xi_NoMeeting (T : Txt K mg) : FnOk P w K mg base CX0 1 T.fI_NoMeeting T.di_NoMeeting ["self", "place"] (initSp K T.C_NoMeeting 1 (fields ["place"])) := init1 T.nf_NoMeeting_place T.Fi_NoMeeting sci_NoMeeting fun _ _ _ _ _ _ => pss_one (ps_ost (pv 0) (pv 1))
theorem sci_NoPaper : FnScope ["self", "word", "number"] ["self", "word", "number"] (defScope si_NoPaper) := ⟨rfl, rfl, rfl, by decide +kernel, rfl, by decide +kernel, by decide +kernel⟩
theorem xi_NoPaper (T : Txt K mg) : FnOk P w K mg base CX0 1 T.fI_NoPaper T.di_NoPaper ["self", "word", "number"] (initSp K T.C_NoPaper 2 (fields ["word", "number"])) := init2 T.nf_NoPaper_word T.nf_NoPaper_number T.Fi_NoPaper sci_NoPaper fun _ _ _ _ _ _ => pss_cons (ps_ost (pv 0) (pv 1)) (pss_one (ps_ost (pv 0) (pv 2)))
theorem sci_NoText : FnScope ["self", "row", "word"] ["self", "row", "word"] (defScope si_NoText) := ⟨rfl, rfl, rfl, by decide +kernel, rfl, by decide +kernel, by decide +kernel⟩
theorem xi_NoText (T : Txt K mg) : FnOk P w K mg base CX0 1 T.fI_NoText T.di_NoText ["self", "row", "word"] (initSp K T.C_NoText 2 (fields ["row", "word"])) := init2 T.nf_NoText_row T.nf_NoText_word T.Fi_NoText sci_NoText fun _ _ _ _ _ _ => pss_cons (ps_ost (pv 0) (pv 1)) (pss_one (ps_ost (pv 0) (pv 2)))
theorem sc__law_feed : FnScope ["_law_script", "_law_k", "_law_cell", "_law_great"] ["_law_script", "_law_k"] (defScope s__law_feed) := ⟨rfl, rfl, rfl, by decide +kernel, rfl, by decide +kernel, by decide +kernel⟩
theorem ok__law_feed (T : Txt K mg) : FnG P w K mg base 1 T.f__law_feed T.d__law_feed ["_law_script", "_law_k"] (spF mg 2 [0, 1] F__law_feed K) := def_ok (k := 0) [0, 1] T.F__law_feed sc__law_feed fun cdv A outer s H E hr hG => by
    exact ⟨_, (sss_cons (ss_set (i := 2) (by decide) sc__law_feed.nd rfl (.inl rfl) rfl (.inl rfl) (se_if (sb_cmp op_gt (g_cI _) rfl (se_biB (r := (rLenA K)) call_len g_len rfl T.n_len bb_len (by decide) rfl rfl rfl (sar_cons rfl (se_var (i := 0) rfl (.inl rfl) rfl rfl) sar_nil)) se_int) (se_ixK K rfl (fun _ _ => rfl) (se_var (i := 0) rfl (.inl rfl) rfl rfl) (se_op op_modN g_mod (se_var (i := 1) rfl (.inl rfl) rfl rfl) (se_biB (r := (rLenA K)) call_len g_len rfl T.n_len bb_len (by decide) rfl rfl rfl (sar_cons rfl (se_var (i := 0) rfl (.inl rfl) rfl rfl) sar_nil)))) se_int))
      (sss_cons (ss_set (i := 3) (by decide) sc__law_feed.nd rfl (.inl rfl) rfl (.inl rfl) (se_if (sb_cmp op_ge (g_cI _) rfl (se_biB (r := rAbsA) call_abs g_abs rfl T.n_abs bb_abs (by decide) rfl rfl rfl (sar_cons rfl (se_var (i := 2) rfl (.inl rfl) rfl rfl) sar_nil)) (se_op op_pow g_pow se_int se_int)) (se_biB (r := rAbsA) call_abs g_abs rfl T.n_abs bb_abs (by decide) rfl rfl rfl (sar_cons rfl (se_var (i := 2) rfl (.inl rfl) rfl rfl) sar_nil)) se_int))
      (sss_one (ss_ret (se_lst (sa_cons (se_var (i := 3) rfl (.inl rfl) rfl rfl) (sa_cons (se_op (r := rAddA K) op_addA g_add (se_op op_modN g_mod (se_var (i := 2) rfl (.inl rfl) rfl rfl) se_int) (se_op (r := rMulA K) op_mulA g_mul se_int (se_var (i := 1) rfl (.inl rfl) rfl rfl))) (sa_cons se_int sa_nil rfl) rfl) rfl))))))⟩
theorem sc__law_next : FnScope ["_law_feed_here", "_law_many", "_law_digit", "_law_turn", "_law_one_here"] ["_law_feed_here", "_law_many"] (defScope s__law_next) := ⟨rfl, rfl, rfl, by decide +kernel, rfl, by decide +kernel, by decide +kernel⟩
theorem ok__law_next (T : Txt K mg) : FnG P w K mg base 1 T.f__law_next T.d__law_next ["_law_feed_here", "_law_many"] (spF mg 2 [0, 1] F__law_next K) := def_ok (k := 0) [0, 1] T.F__law_next sc__law_next fun cdv A outer s H E hr hG => by
    exact ⟨_, (sss_cons (ss_if (sb_cmp op_gt (g_cI _) rfl (se_ixK K rfl (fun _ _ => rfl) (se_var (i := 0) rfl (.inl rfl) rfl rfl) se_int) se_int) (sss_cons (ss_set (i := 2) (by decide) sc__law_next.nd rfl (.inl rfl) rfl (.inl rfl) (se_op op_modN g_mod (se_ixK K rfl (fun _ _ => rfl) (se_var (i := 0) rfl (.inl rfl) rfl rfl) se_int) (se_var (i := 1) rfl (.inl rfl) rfl rfl)))
      (sss_cons (ss_put (j := 0) rfl (.inl rfl) rfl rfl rfl rfl rfl (fun _ => rfl) (se_op op_fdivN g_div (se_ixK K rfl (fun _ _ => rfl) (se_var (i := 0) rfl (.inl rfl) rfl rfl) se_int) (se_var (i := 1) rfl (.inl rfl) rfl rfl)) se_int)
      (sss_one (ss_ret (se_var (i := 2) rfl (.inl rfl) rfl rfl))))) sss_nil)
      (sss_cons (ss_set (i := 3) (by decide) sc__law_next.nd rfl (.inl rfl) rfl (.inl rfl) (se_op (r := rAddA K) op_addA g_add (se_ixK K rfl (fun _ _ => rfl) (se_var (i := 0) rfl (.inl rfl) rfl rfl) se_int) se_int))
      (sss_cons (ss_put (j := 0) rfl (.inl rfl) rfl rfl rfl rfl rfl (fun _ => rfl) (se_var (i := 3) rfl (.inl rfl) rfl rfl) se_int)
      (sss_cons (ss_set (i := 4) (by decide) sc__law_next.nd rfl (.inl rfl) rfl (.inl rfl) (se_op op_modN g_mod (se_op (r := rMulA K) op_mulA g_mul (se_op (r := rAddA K) op_addA g_add (se_op (r := rAddA K) op_addA g_add (se_ixK K rfl (fun _ _ => rfl) (se_var (i := 0) rfl (.inl rfl) rfl rfl) se_int) (se_op (r := rMulA K) op_mulA g_mul se_int (se_var (i := 3) rfl (.inl rfl) rfl rfl))) se_int) (se_op (r := rAddA K) op_addA g_add (se_op (r := rMulA K) op_mulA g_mul (se_var (i := 3) rfl (.inl rfl) rfl rfl) (se_var (i := 3) rfl (.inl rfl) rfl rfl)) se_int)) se_int))
      (sss_one (ss_ret (se_op op_modN g_mod (se_op op_fdivN g_div (se_op op_modN g_mod (se_op (r := rAddA K) op_addA g_add (se_op (r := rMulA K) op_mulA g_mul (se_var (i := 4) rfl (.inl rfl) rfl rfl) (se_op (r := rAddA K) op_addA g_add (se_op op_modN g_mod (se_var (i := 4) rfl (.inl rfl) rfl rfl) se_int) se_int)) (se_var (i := 3) rfl (.inl rfl) rfl rfl)) se_int) se_int) (se_var (i := 1) rfl (.inl rfl) rfl rfl))))))))⟩
theorem sc__law_one : FnScope ["_law_feed_here", "_law_some"] ["_law_feed_here", "_law_some"] (defScope s__law_one) := ⟨rfl, rfl, rfl, by decide +kernel, rfl, by decide +kernel, by decide +kernel⟩
theorem ok__law_one (T : Txt K mg) : FnG P w K mg base 2 T.f__law_one T.d__law_one ["_law_feed_here", "_law_some"] (spF mg 2 [0, 1] F__law_one K) := def_ok (k := 1) [0, 1] T.F__law_one sc__law_one fun cdv A outer s H E hr hG => by
    have G__law_next := ok__law_next (P := P) (w := w) (base := base) T
    exact ⟨_, (sss_one (ss_ret (se_ixK K rfl (fun _ _ => rfl) (se_var (i := 1) rfl (.inl rfl) rfl rfl) (se_callK K mg rfl rfl G__law_next kp__law_next (hr.mono (by decide)) hG rfl T.g__law_next T.k__law_next T.b__law_next .nil (fun _ _ _ => .nil) (takes_of rfl rfl rfl rfl) rfl rfl rfl rfl (sar_cons rfl (se_var (i := 0) rfl (.inl rfl) rfl rfl) (sar_cons rfl (se_biB (r := (rLenA K)) call_len g_len rfl T.n_len bb_len (by decide) rfl rfl rfl (sar_cons rfl (se_var (i := 1) rfl (.inl rfl) rfl rfl) sar_nil)) sar_nil))))))⟩
theorem sc__law_sorts : FnScope ["_law_e", "_law_some"] ["_law_e"] (defScope s__law_sorts) := ⟨rfl, rfl, rfl, by decide +kernel, rfl, by decide +kernel, by decide +kernel⟩
theorem ok__law_sorts (T : Txt K mg) : FnG P w K mg base 1 T.f__law_sorts T.d__law_sorts ["_law_e"] (spF mg 1 [0] F__law_sorts K) := def_ok (k := 0) [0] T.F__law_sorts sc__law_sorts fun cdv A outer s H E hr hG => by
    exact ⟨_, (sss_cons (ss_set (i := 1) (by decide) sc__law_sorts.nd rfl (.inl rfl) rfl (.inl rfl) (se_lst (sa_cons (se_isX K rfl [(21, true), (22, false), (23, false), (24, false), (25, false), (26, false), (27, false)] (cV := .ref T.C_NoText) (cv := .ref T.C_NoText) (fun _ h => h) rfl T.n_isinstance (pe_glob rfl T.gc_NoText rfl) (tb_cons ⟨T.ec_NoText, T.kx_NoText_NoText⟩ (tb_cons ⟨T.ec_NoMeeting, T.kx_NoMeeting_NoText⟩ (tb_cons ⟨T.ec_NoPaper, T.kx_NoPaper_NoText⟩ (tb_cons ⟨T.ec_TooMany, T.kx_TooMany_NoText⟩ (tb_cons ⟨T.ec_NoLine, T.kx_NoLine_NoText⟩ (tb_cons ⟨T.ec_NoRule, T.kx_NoRule_NoText⟩ (tb_cons ⟨T.ec_NoCrowd, T.kx_NoCrowd_NoText⟩ tb_nil))))))) rfl rfl rfl (se_var (i := 0) rfl (.inl rfl) rfl rfl)) (sa_cons (se_isX K rfl [(21, false), (22, true), (23, false), (24, false), (25, false), (26, false), (27, false)] (cV := .ref T.C_NoMeeting) (cv := .ref T.C_NoMeeting) (fun _ h => h) rfl T.n_isinstance (pe_glob rfl T.gc_NoMeeting rfl) (tb_cons ⟨T.ec_NoText, T.kx_NoText_NoMeeting⟩ (tb_cons ⟨T.ec_NoMeeting, T.kx_NoMeeting_NoMeeting⟩ (tb_cons ⟨T.ec_NoPaper, T.kx_NoPaper_NoMeeting⟩ (tb_cons ⟨T.ec_TooMany, T.kx_TooMany_NoMeeting⟩ (tb_cons ⟨T.ec_NoLine, T.kx_NoLine_NoMeeting⟩ (tb_cons ⟨T.ec_NoRule, T.kx_NoRule_NoMeeting⟩ (tb_cons ⟨T.ec_NoCrowd, T.kx_NoCrowd_NoMeeting⟩ tb_nil))))))) rfl rfl rfl (se_var (i := 0) rfl (.inl rfl) rfl rfl)) (sa_cons (se_isX K rfl [(21, false), (22, false), (23, true), (24, false), (25, false), (26, false), (27, false)] (cV := .ref T.C_NoPaper) (cv := .ref T.C_NoPaper) (fun _ h => h) rfl T.n_isinstance (pe_glob rfl T.gc_NoPaper rfl) (tb_cons ⟨T.ec_NoText, T.kx_NoText_NoPaper⟩ (tb_cons ⟨T.ec_NoMeeting, T.kx_NoMeeting_NoPaper⟩ (tb_cons ⟨T.ec_NoPaper, T.kx_NoPaper_NoPaper⟩ (tb_cons ⟨T.ec_TooMany, T.kx_TooMany_NoPaper⟩ (tb_cons ⟨T.ec_NoLine, T.kx_NoLine_NoPaper⟩ (tb_cons ⟨T.ec_NoRule, T.kx_NoRule_NoPaper⟩ (tb_cons ⟨T.ec_NoCrowd, T.kx_NoCrowd_NoPaper⟩ tb_nil))))))) rfl rfl rfl (se_var (i := 0) rfl (.inl rfl) rfl rfl)) (sa_cons (se_isX K rfl [(21, false), (22, false), (23, false), (24, true), (25, false), (26, false), (27, false)] (cV := .ref T.C_TooMany) (cv := .ref T.C_TooMany) (fun _ h => h) rfl T.n_isinstance (pe_glob rfl T.gc_TooMany rfl) (tb_cons ⟨T.ec_NoText, T.kx_NoText_TooMany⟩ (tb_cons ⟨T.ec_NoMeeting, T.kx_NoMeeting_TooMany⟩ (tb_cons ⟨T.ec_NoPaper, T.kx_NoPaper_TooMany⟩ (tb_cons ⟨T.ec_TooMany, T.kx_TooMany_TooMany⟩ (tb_cons ⟨T.ec_NoLine, T.kx_NoLine_TooMany⟩ (tb_cons ⟨T.ec_NoRule, T.kx_NoRule_TooMany⟩ (tb_cons ⟨T.ec_NoCrowd, T.kx_NoCrowd_TooMany⟩ tb_nil))))))) rfl rfl rfl (se_var (i := 0) rfl (.inl rfl) rfl rfl)) sa_nil rfl) rfl) rfl) rfl)))
      (sss_one (ss_ret (se_op (r := rAddA K) op_addA g_add (se_var (i := 1) rfl (.inl rfl) rfl rfl) (se_lst (sa_cons (se_isX K rfl [(21, false), (22, false), (23, false), (24, false), (25, true), (26, false), (27, false)] (cV := .ref T.C_NoLine) (cv := .ref T.C_NoLine) (fun _ h => h) rfl T.n_isinstance (pe_glob rfl T.gc_NoLine rfl) (tb_cons ⟨T.ec_NoText, T.kx_NoText_NoLine⟩ (tb_cons ⟨T.ec_NoMeeting, T.kx_NoMeeting_NoLine⟩ (tb_cons ⟨T.ec_NoPaper, T.kx_NoPaper_NoLine⟩ (tb_cons ⟨T.ec_TooMany, T.kx_TooMany_NoLine⟩ (tb_cons ⟨T.ec_NoLine, T.kx_NoLine_NoLine⟩ (tb_cons ⟨T.ec_NoRule, T.kx_NoRule_NoLine⟩ (tb_cons ⟨T.ec_NoCrowd, T.kx_NoCrowd_NoLine⟩ tb_nil))))))) rfl rfl rfl (se_var (i := 0) rfl (.inl rfl) rfl rfl)) (sa_cons (se_isX K rfl [(21, false), (22, false), (23, false), (24, false), (25, false), (26, true), (27, false)] (cV := .ref T.C_NoRule) (cv := .ref T.C_NoRule) (fun _ h => h) rfl T.n_isinstance (pe_glob rfl T.gc_NoRule rfl) (tb_cons ⟨T.ec_NoText, T.kx_NoText_NoRule⟩ (tb_cons ⟨T.ec_NoMeeting, T.kx_NoMeeting_NoRule⟩ (tb_cons ⟨T.ec_NoPaper, T.kx_NoPaper_NoRule⟩ (tb_cons ⟨T.ec_TooMany, T.kx_TooMany_NoRule⟩ (tb_cons ⟨T.ec_NoLine, T.kx_NoLine_NoRule⟩ (tb_cons ⟨T.ec_NoRule, T.kx_NoRule_NoRule⟩ (tb_cons ⟨T.ec_NoCrowd, T.kx_NoCrowd_NoRule⟩ tb_nil))))))) rfl rfl rfl (se_var (i := 0) rfl (.inl rfl) rfl rfl)) (sa_cons (se_isX K rfl [(21, false), (22, false), (23, false), (24, false), (25, false), (26, false), (27, true)] (cV := .ref T.C_NoCrowd) (cv := .ref T.C_NoCrowd) (fun _ h => h) rfl T.n_isinstance (pe_glob rfl T.gc_NoCrowd rfl) (tb_cons ⟨T.ec_NoText, T.kx_NoText_NoCrowd⟩ (tb_cons ⟨T.ec_NoMeeting, T.kx_NoMeeting_NoCrowd⟩ (tb_cons ⟨T.ec_NoPaper, T.kx_NoPaper_NoCrowd⟩ (tb_cons ⟨T.ec_TooMany, T.kx_TooMany_NoCrowd⟩ (tb_cons ⟨T.ec_NoLine, T.kx_NoLine_NoCrowd⟩ (tb_cons ⟨T.ec_NoRule, T.kx_NoRule_NoCrowd⟩ (tb_cons ⟨T.ec_NoCrowd, T.kx_NoCrowd_NoCrowd⟩ tb_nil))))))) rfl rfl rfl (se_var (i := 0) rfl (.inl rfl) rfl rfl)) sa_nil rfl) rfl) rfl))))))⟩
theorem sc__law_fields : FnScope ["_law_e"] ["_law_e"] (defScope s__law_fields) := ⟨rfl, rfl, rfl, by decide +kernel, rfl, by decide +kernel, by decide +kernel⟩
theorem ok__law_fields (T : Txt K mg) : FnG P w K mg base 1 T.f__law_fields T.d__law_fields ["_law_e"] (spF mg 1 [0] F__law_fields K) := def_ok (k := 0) [0] T.F__law_fields sc__law_fields fun cdv A outer s H E hr hG => by
    exact ⟨_, (sss_cons (ss_if (sb_truthK K rfl (fun _ => rfl) (se_isX K rfl [(21, true), (22, false), (23, false), (24, false), (25, false), (26, false), (27, false)] (cV := .ref T.C_NoText) (cv := .ref T.C_NoText) (fun _ h => h) rfl T.n_isinstance (pe_glob rfl T.gc_NoText rfl) (tb_cons ⟨T.ec_NoText, T.kx_NoText_NoText⟩ (tb_cons ⟨T.ec_NoMeeting, T.kx_NoMeeting_NoText⟩ (tb_cons ⟨T.ec_NoPaper, T.kx_NoPaper_NoText⟩ (tb_cons ⟨T.ec_TooMany, T.kx_TooMany_NoText⟩ (tb_cons ⟨T.ec_NoLine, T.kx_NoLine_NoText⟩ (tb_cons ⟨T.ec_NoRule, T.kx_NoRule_NoText⟩ (tb_cons ⟨T.ec_NoCrowd, T.kx_NoCrowd_NoText⟩ tb_nil))))))) rfl rfl rfl (se_var (i := 0) rfl (.inl rfl) rfl rfl))) (sss_one (ss_ret (se_tup (sa_cons (se_flX K rfl [21] (fk_cons ⟨T.xg_NoText, T.ng_NoText_row⟩ fk_nil) (se_var (i := 0) rfl (.inl rfl) rfl rfl) rfl) (sa_cons (se_flX K rfl [21, 23] (fk_cons ⟨T.xg_NoText, T.ng_NoText_word⟩ (fk_cons ⟨T.xg_NoPaper, T.ng_NoPaper_word⟩ fk_nil)) (se_var (i := 0) rfl (.inl rfl) rfl rfl) rfl) sa_nil rfl) rfl)))) sss_nil)
      (sss_cons (ss_if (sb_truthK K rfl (fun _ => rfl) (se_isX K rfl [(21, false), (22, false), (23, true), (24, false), (25, false), (26, false), (27, false)] (cV := .ref T.C_NoPaper) (cv := .ref T.C_NoPaper) (fun _ h => h) rfl T.n_isinstance (pe_glob rfl T.gc_NoPaper rfl) (tb_cons ⟨T.ec_NoText, T.kx_NoText_NoPaper⟩ (tb_cons ⟨T.ec_NoMeeting, T.kx_NoMeeting_NoPaper⟩ (tb_cons ⟨T.ec_NoPaper, T.kx_NoPaper_NoPaper⟩ (tb_cons ⟨T.ec_TooMany, T.kx_TooMany_NoPaper⟩ (tb_cons ⟨T.ec_NoLine, T.kx_NoLine_NoPaper⟩ (tb_cons ⟨T.ec_NoRule, T.kx_NoRule_NoPaper⟩ (tb_cons ⟨T.ec_NoCrowd, T.kx_NoCrowd_NoPaper⟩ tb_nil))))))) rfl rfl rfl (se_var (i := 0) rfl (.inl rfl) rfl rfl))) (sss_one (ss_ret (se_tup (sa_cons (se_flX K rfl [21, 23] (fk_cons ⟨T.xg_NoText, T.ng_NoText_word⟩ (fk_cons ⟨T.xg_NoPaper, T.ng_NoPaper_word⟩ fk_nil)) (se_var (i := 0) rfl (.inl rfl) rfl rfl) rfl) (sa_cons (se_flX K rfl [23] (fk_cons ⟨T.xg_NoPaper, T.ng_NoPaper_number⟩ fk_nil) (se_var (i := 0) rfl (.inl rfl) rfl rfl) rfl) sa_nil rfl) rfl)))) sss_nil)
      (sss_cons (ss_if (sb_truthK K rfl (fun _ => rfl) (se_isX K rfl [(21, false), (22, true), (23, false), (24, false), (25, false), (26, false), (27, false)] (cV := .ref T.C_NoMeeting) (cv := .ref T.C_NoMeeting) (fun _ h => h) rfl T.n_isinstance (pe_glob rfl T.gc_NoMeeting rfl) (tb_cons ⟨T.ec_NoText, T.kx_NoText_NoMeeting⟩ (tb_cons ⟨T.ec_NoMeeting, T.kx_NoMeeting_NoMeeting⟩ (tb_cons ⟨T.ec_NoPaper, T.kx_NoPaper_NoMeeting⟩ (tb_cons ⟨T.ec_TooMany, T.kx_TooMany_NoMeeting⟩ (tb_cons ⟨T.ec_NoLine, T.kx_NoLine_NoMeeting⟩ (tb_cons ⟨T.ec_NoRule, T.kx_NoRule_NoMeeting⟩ (tb_cons ⟨T.ec_NoCrowd, T.kx_NoCrowd_NoMeeting⟩ tb_nil))))))) rfl rfl rfl (se_var (i := 0) rfl (.inl rfl) rfl rfl))) (sss_one (ss_ret (se_tup (sa_cons (se_flX K rfl [22] (fk_cons ⟨T.xg_NoMeeting, T.ng_NoMeeting_place⟩ fk_nil) (se_var (i := 0) rfl (.inl rfl) rfl rfl) rfl) sa_nil rfl)))) sss_nil)
      (sss_one (ss_ret (se_if (sb_truthK K rfl (fun _ => rfl) (se_isX K rfl [(21, false), (22, false), (23, false), (24, false), (25, true), (26, false), (27, false)] (cV := .ref T.C_NoLine) (cv := .ref T.C_NoLine) (fun _ h => h) rfl T.n_isinstance (pe_glob rfl T.gc_NoLine rfl) (tb_cons ⟨T.ec_NoText, T.kx_NoText_NoLine⟩ (tb_cons ⟨T.ec_NoMeeting, T.kx_NoMeeting_NoLine⟩ (tb_cons ⟨T.ec_NoPaper, T.kx_NoPaper_NoLine⟩ (tb_cons ⟨T.ec_TooMany, T.kx_TooMany_NoLine⟩ (tb_cons ⟨T.ec_NoLine, T.kx_NoLine_NoLine⟩ (tb_cons ⟨T.ec_NoRule, T.kx_NoRule_NoLine⟩ (tb_cons ⟨T.ec_NoCrowd, T.kx_NoCrowd_NoLine⟩ tb_nil))))))) rfl rfl rfl (se_var (i := 0) rfl (.inl rfl) rfl rfl))) (se_tup (sa_cons (se_flX K rfl [25] (fk_cons ⟨T.xg_NoLine, T.ng_NoLine_line⟩ fk_nil) (se_var (i := 0) rfl (.inl rfl) rfl rfl) rfl) sa_nil rfl)) (se_tup sa_nil)))))))⟩
theorem sc__law_raised : FnScope ["_law_k", "_law_number", "_law_more", "_law_text", "_law_caught", "_law_e"] ["_law_k", "_law_number", "_law_more", "_law_text"] (defScope s__law_raised) := ⟨rfl, rfl, rfl, by decide +kernel, rfl, by decide +kernel, by decide +kernel⟩
theorem ok__law_raised (T : Txt K mg) : FnG P w K mg base 3 T.f__law_raised T.d__law_raised ["_law_k", "_law_number", "_law_more", "_law_text"] (spF mg 4 [0, 1, 2, 3] F__law_raised K) := def_ok (k := 2) [0, 1, 2, 3] T.F__law_raised sc__law_raised fun cdv A outer s H E hr hG => by
    exact ⟨_, (sss_cons (ss_set (i := 4) (by decide) sc__law_raised.nd rfl (.inl rfl) rfl (.inl rfl) se_non)
      (sss_cons (ss_tryK (i := 5) (j := 4) K mg rfl rfl (by decide) (by decide) (by decide) ["NoText", "NoMeeting", "NoPaper", "TooMany", "NoLine", "NoRule", "NoCrowd"] [] [("NoText", 21), ("NoMeeting", 22), ("NoPaper", 23), ("TooMany", 24), ("NoLine", 25), ("NoRule", 26), ("NoCrowd", 27)] (hy_cons T.gc_NoText (PySem.W.exm_ref T.xc_PassError.exC T.xc_PassError.hdC T.ty_PassError T.sb_NoText_PassError) (hy_cons T.gc_NoMeeting (PySem.W.exm_ref T.xc_PassError.exC T.xc_PassError.hdC T.ty_PassError T.sb_NoMeeting_PassError) (hy_cons T.gc_NoPaper (PySem.W.exm_ref T.xc_PassError.exC T.xc_PassError.hdC T.ty_PassError T.sb_NoPaper_PassError) (hy_cons T.gc_TooMany (PySem.W.exm_ref T.xc_PassError.exC T.xc_PassError.hdC T.ty_PassError T.sb_TooMany_PassError) (hy_cons T.gc_NoLine (PySem.W.exm_ref T.xc_PassError.exC T.xc_PassError.hdC T.ty_PassError T.sb_NoLine_PassError) (hy_cons T.gc_NoRule (PySem.W.exm_ref T.xc_PassError.exC T.xc_PassError.hdC T.ty_PassError T.sb_NoRule_PassError) (hy_cons T.gc_NoCrowd (PySem.W.exm_ref T.xc_PassError.exC T.xc_PassError.hdC T.ty_PassError T.sb_NoCrowd_PassError) hy_nil))))))) hy_nil (nk_cons T.gc_NoText T.ea_NoText (nk_cons T.gc_NoMeeting T.ea_NoMeeting (nk_cons T.gc_NoPaper T.ea_NoPaper (nk_cons T.gc_TooMany T.ea_TooMany (nk_cons T.gc_NoLine T.ea_NoLine (nk_cons T.gc_NoRule T.ea_NoRule (nk_cons T.gc_NoCrowd T.ea_NoCrowd nk_nil))))))) rfl rfl rfl sc__law_raised.nd rfl rfl ⟨rfl, by decide, .inl T.gc_PassError⟩ (takes_of rfl rfl rfl rfl) (fun _ _ _ tk5 => (sss_cons (ss_if (sb_cmp (r := (rEqA K)) (op_eqA (hu64 hr)) g_eq rfl (se_var (i := 0) rfl (.inl rfl) rfl rfl) se_int) (sss_one (ss_raise K mg rfl rfl rfl tk5 T.oe_NoText T.ic_NoText T.ti_NoText (xi_NoText T) (hr.mono (by decide)) T.bi_NoText rfl T.gc_NoText rfl rfl rfl (by decide) (sa_cons (se_var (i := 1) rfl (.inl rfl) rfl rfl) (sa_cons (se_var (i := 2) rfl (.inl rfl) rfl rfl) sa_nil rfl) rfl))) sss_nil)
      (sss_cons (ss_if (sb_cmp (r := (rEqA K)) (op_eqA (hu64 hr)) g_eq rfl (se_var (i := 0) rfl (.inl rfl) rfl rfl) se_int) (sss_one (ss_raise K mg rfl rfl rfl tk5 T.oe_NoMeeting T.ic_NoMeeting T.ti_NoMeeting (xi_NoMeeting T) (hr.mono (by decide)) T.bi_NoMeeting rfl T.gc_NoMeeting rfl rfl rfl (by decide) (sa_cons (se_var (i := 1) rfl (.inl rfl) rfl rfl) sa_nil rfl))) sss_nil)
      (sss_cons (ss_if (sb_cmp (r := (rEqA K)) (op_eqA (hu64 hr)) g_eq rfl (se_var (i := 0) rfl (.inl rfl) rfl rfl) se_int) (sss_one (ss_raise K mg rfl rfl rfl tk5 T.oe_NoPaper T.ic_NoPaper T.ti_NoPaper (xi_NoPaper T) (hr.mono (by decide)) T.bi_NoPaper rfl T.gc_NoPaper rfl rfl rfl (by decide) (sa_cons (se_var (i := 3) rfl (.inl rfl) rfl rfl) (sa_cons (se_var (i := 2) rfl (.inl rfl) rfl rfl) sa_nil rfl) rfl))) sss_nil)
      (sss_cons (ss_if (sb_cmp (r := (rEqA K)) (op_eqA (hu64 hr)) g_eq rfl (se_var (i := 0) rfl (.inl rfl) rfl rfl) se_int) (sss_one (ss_raise0 mg rfl rfl tk5 T.oe_TooMany T.ib_TooMany T.gc_TooMany rfl rfl)) sss_nil)
      (sss_cons (ss_if (sb_cmp (r := (rEqA K)) (op_eqA (hu64 hr)) g_eq rfl (se_var (i := 0) rfl (.inl rfl) rfl rfl) se_int) (sss_one (ss_raise K mg rfl rfl rfl tk5 T.oe_NoLine T.ic_NoLine T.ti_NoLine (xi_NoLine T) (hr.mono (by decide)) T.bi_NoLine rfl T.gc_NoLine rfl rfl rfl (by decide) (sa_cons (se_var (i := 3) rfl (.inl rfl) rfl rfl) sa_nil rfl))) sss_nil)
      (sss_cons (ss_if (sb_cmp (r := (rEqA K)) (op_eqA (hu64 hr)) g_eq rfl (se_var (i := 0) rfl (.inl rfl) rfl rfl) se_int) (sss_one (ss_raise0 mg rfl rfl tk5 T.oe_NoRule T.ib_NoRule T.gc_NoRule rfl rfl)) sss_nil)
      (sss_one (ss_raise0 mg rfl rfl tk5 T.oe_NoCrowd T.ib_NoCrowd T.gc_NoCrowd rfl rfl))))))))) (fun _ _ _ _ _ _ _ => ps_set sc__law_raised.nd rfl (.inl rfl) (pe_var (i := 5) rfl (.inl rfl) rfl rfl) rfl (.inl rfl)))
      (sss_one (ss_ret (se_var (i := 4) rfl (.inl rfl) rfl rfl)))))⟩
theorem sc_law : FnScope ["_law_script", "_law_feed_here", "_law_number", "_law_more", "_law_text", "_law_due", "_law_k", "_law_caught", "_law_j"] ["_law_script"] (defScope s_law) := ⟨rfl, rfl, rfl, by decide +kernel, rfl, by decide +kernel, by decide +kernel⟩
theorem bk_law_0 : BlkOk ["_law_script", "_law_feed_here", "_law_number", "_law_more", "_law_text", "_law_due", "_law_k", "_law_caught", "_law_j"] (defScope s_law) ⟨.function, [(".0", .local), ("_law_j", .local), ("_law_k", .free)], false, false, []⟩ [("_law_j", 8)] := ⟨rfl, by decide +kernel, by decide +kernel, by decide +kernel, by decide +kernel⟩
theorem ok_law (T : Txt K mg) : FnG P w K mg base 4 T.f_law T.d_law ["_law_script"] (spF mg 1 [] F_law K) := def_ok (k := 3) [] T.F_law sc_law fun cdv A outer s H E hr hG => by
    have G__law_feed := ok__law_feed (P := P) (w := w) (base := base) T
    have G__law_fields := ok__law_fields (P := P) (w := w) (base := base) T
    have G__law_next := ok__law_next (P := P) (w := w) (base := base) T
    have G__law_one := ok__law_one (P := P) (w := w) (base := base) T
    have G__law_raised := ok__law_raised (P := P) (w := w) (base := base) T
    have G__law_sorts := ok__law_sorts (P := P) (w := w) (base := base) T
    exact ⟨_, (sss_cons (ss_set (i := 1) (by decide) sc_law.nd rfl (.inl rfl) rfl (.inl rfl) (se_callK K mg rfl rfl G__law_feed kp__law_feed (hr.mono (by decide)) hG rfl T.g__law_feed T.k__law_feed T.b__law_feed .nil (fun _ _ _ => .nil) (takes_of rfl rfl rfl rfl) rfl rfl rfl rfl (sar_cons rfl (se_var (i := 0) rfl (.inl rfl) rfl rfl) (sar_cons rfl se_int sar_nil))))
      (sss_cons (ss_par (i := 2) (j := 3) (by decide) (by decide) rfl sc_law.nd rfl rfl (by decide) rfl rfl rfl rfl (sa_cons (se_callK K mg rfl rfl G__law_next kp__law_next (hr.mono (by decide)) hG rfl T.g__law_next T.k__law_next T.b__law_next .nil (fun _ _ _ => .nil) (takes_of rfl rfl rfl rfl) rfl rfl rfl rfl (sar_cons rfl (se_var (i := 1) rfl (.inl rfl) rfl rfl) (sar_cons rfl se_int sar_nil))) (sa_cons (se_callK K mg rfl rfl G__law_next kp__law_next (hr.mono (by decide)) hG rfl T.g__law_next T.k__law_next T.b__law_next .nil (fun _ _ _ => .nil) (takes_of rfl rfl rfl rfl) rfl rfl rfl rfl (sar_cons rfl (se_var (i := 1) rfl (.inl rfl) rfl rfl) (sar_cons rfl se_int sar_nil))) sa_nil rfl) rfl))
      (sss_cons (ss_set (i := 4) (by decide) sc_law.nd rfl (.inl rfl) rfl (.inl rfl) (se_callK K mg rfl rfl G__law_one kp__law_one (hr.mono (by decide)) hG rfl T.g__law_one T.k__law_one T.b__law_one .nil (fun _ _ _ => .nil) (takes_of rfl rfl rfl rfl) rfl rfl rfl rfl (sar_cons rfl (se_var (i := 1) rfl (.inl rfl) rfl rfl) (sar_cons rfl (se_lst (sa_cons se_str (sa_cons se_str (sa_cons se_str (sa_cons se_str (sa_cons se_str sa_nil rfl) rfl) rfl) rfl) rfl)) sar_nil))))
      (sss_cons (ss_set (i := 5) (by decide) sc_law.nd rfl (.inl rfl) rfl (.inl rfl) (se_lst (sa_cons (se_tup (sa_cons (se_var (i := 2) rfl (.inl rfl) rfl rfl) (sa_cons (se_var (i := 3) rfl (.inl rfl) rfl rfl) sa_nil rfl) rfl)) (sa_cons (se_tup (sa_cons (se_var (i := 2) rfl (.inl rfl) rfl rfl) sa_nil rfl)) (sa_cons (se_tup (sa_cons (se_var (i := 4) rfl (.inl rfl) rfl rfl) (sa_cons (se_var (i := 3) rfl (.inl rfl) rfl rfl) sa_nil rfl) rfl)) (sa_cons (se_tup sa_nil) (sa_cons (se_tup (sa_cons (se_var (i := 4) rfl (.inl rfl) rfl rfl) sa_nil rfl)) (sa_cons (se_tup sa_nil) (sa_cons (se_tup sa_nil) sa_nil rfl) rfl) rfl) rfl) rfl) rfl) rfl)))
      (sss_cons (ss_for [6, 7] (passes_of rfl) rfl (fun _ => rfl) (by decide) (si_range1 rfl T.n_range rfl (sa_cons se_int sa_nil rfl)) (sg_name (i := 6) sc_law.nd rfl (.inr rfl) (.inl rfl)) (sss_cons (ss_set (i := 7) (by decide) sc_law.nd rfl (.inl rfl) rfl (.inl rfl) (se_callK K mg rfl rfl G__law_raised kp__law_raised (hr.mono (by decide)) hG rfl T.g__law_raised T.k__law_raised T.b__law_raised .nil (fun _ _ _ => .nil) (takes_of rfl rfl rfl rfl) rfl rfl rfl rfl (sar_cons rfl (se_var (i := 6) rfl (.inr (.inl rfl)) rfl rfl) (sar_cons rfl (se_var (i := 2) rfl (.inl rfl) rfl rfl) (sar_cons rfl (se_var (i := 3) rfl (.inl rfl) rfl rfl) (sar_cons rfl (se_var (i := 4) rfl (.inl rfl) rfl rfl) sar_nil))))))
      (sss_cons (ss_if (sb_w (sw_or (sb_not (sb_truthK K rfl (fun _ => rfl) (se_isX K rfl [(21, true), (22, true), (23, true), (24, true), (25, true), (26, true), (27, true)] (cV := .ty "ValueError") (cv := .type "ValueError") (fun _ h => h) rfl T.n_isinstance (pe_bltn rfl T.n_ValueError bb_ValueError rfl) (tb_cons ⟨T.ec_NoText, T.kv_NoText⟩ (tb_cons ⟨T.ec_NoMeeting, T.kv_NoMeeting⟩ (tb_cons ⟨T.ec_NoPaper, T.kv_NoPaper⟩ (tb_cons ⟨T.ec_TooMany, T.kv_TooMany⟩ (tb_cons ⟨T.ec_NoLine, T.kv_NoLine⟩ (tb_cons ⟨T.ec_NoRule, T.kv_NoRule⟩ (tb_cons ⟨T.ec_NoCrowd, T.kv_NoCrowd⟩ tb_nil))))))) rfl rfl rfl (se_var (i := 7) rfl (.inl rfl) rfl rfl)))) (sw_or1 (sb_cmp (r := (rNeA K)) (op_neA (hu64 hr)) g_ne rfl (se_callK K mg rfl rfl G__law_fields kp__law_fields (hr.mono (by decide)) hG rfl T.g__law_fields T.k__law_fields T.b__law_fields .nil (fun _ _ _ => .nil) (takes_of rfl rfl rfl rfl) rfl rfl rfl rfl (sar_cons rfl (se_var (i := 7) rfl (.inl rfl) rfl rfl) sar_nil)) (se_ixK K rfl (fun _ _ => rfl) (se_var (i := 5) rfl (.inl rfl) rfl rfl) (se_var (i := 6) rfl (.inr (.inl rfl)) rfl rfl)))))) (sss_one (ss_ret se_bl)) sss_nil)
      (sss_one (ss_if (sb_cmp (r := (rNeA K)) (op_neA (hu64 hr)) g_ne rfl (se_callK K mg rfl rfl G__law_sorts kp__law_sorts (hr.mono (by decide)) hG rfl T.g__law_sorts T.k__law_sorts T.b__law_sorts .nil (fun _ _ _ => .nil) (takes_of rfl rfl rfl rfl) rfl rfl rfl rfl (sar_cons rfl (se_var (i := 7) rfl (.inl rfl) rfl rfl) sar_nil)) (se_lc [("_law_j", 8)] rfl sc_law.nd (fun _ => rfl) bk_law_0 (by decide) (si_range1 rfl T.n_range rfl (sa_cons se_int sa_nil rfl)) (fun _ _ _ _ _ => (sg_name (i := 8) sc_law.nd rfl (.inl rfl) (.inr rfl))) (fun _ _ _ _ _ => spt_nil) (fun _ _ _ _ _ => (se_cmp (r := (rEqA K)) (op_eqA (hu64 hr)) g_eq rfl (se_var (i := 8) rfl (.inl rfl) rfl rfl) (se_var (i := 6) rfl (.inr (.inl rfl)) rfl rfl))))) (sss_one (ss_ret se_bl)) sss_nil)))))
      (sss_one (ss_ret se_bl)))))))⟩
end
end K18
set_option Elab.async false
set_option linter.all false
set_option maxRecDepth 1000000
set_option maxHeartbeats 40000000
set_option autoImplicit false
set_option pp.deepTerms false
set_option pp.deepTerms.threshold 12
namespace K18
open PySem PySem.Spec L2 L3
theorem next_spec {n g s t m : Int} (h : Fk n g s t) (hn : n < 2 ^ 40) (hm : 0 < m) (hm2 : m < 2 ^ 30) {K : Co Opd} {u : Tag K}
    (k : ∀ v g' t', 0 ≤ v → v < m → Fk (n + 1) g' s t' → K.ok (.val (.int v)) [Fd g' s t', .no]) : Ev (F__law_next [Fd g s t, .val (.int m)]) K u := by
  obtain ⟨h1, h2, h3, h4, h5⟩ := h
  unfold F__law_next b__law_next
  simp -dsimp only [↓ev_run, ↓ev_ok, ↓ev_exc, ↓ev_bad, ↓ev_op2, ↓ev_op1, ↓ev_cmp, ↓ev_cmpB, ↓ev_chain, ↓ev_chainB, ↓ev_test, ↓ev_andB, ↓ev_orB, ↓ev_notB, ↓ev_andV, ↓ev_orV, ↓ev_notV, ↓ev_if, ↓ev_cons, ↓ev_rcons, ↓ev_tup, ↓ev_lst, ↓ev_call, ↓ev_bi, ↓ev_sl, ↓ev_part, ↓ev_meth, ↓ev_rng1, ↓ev_rng2, ↓ev_seqI, ↓ev_enum, ↓ev_zip, ↓ev_lc, ↓evo_nx, ↓evo_rt, ↓evo_bk, ↓evo_ct, ↓evo_exc, ↓evo_bad, ↓sq_nx, ↓sq_rt, ↓sq_bk, ↓sq_ct, ↓sq_exc, ↓evo_seq, ↓evo_set, ↓evo_drop, ↓evo_if, ↓evo_ret, ↓evo_put, ↓evo_asgT, ↓evo_par, ↓evo_for, ↓rk_nx, ↓rk_rtt, ↓rk_rtf, ↓rk_exc, ↓rk_bk, ↓rk_ct, ↓fk_nx, ↓fk_ct, ↓fk_bk, ↓fk_rt, ↓fk_exc, ap_var, ap_c, ap_nil, ap_rnil, ap_yes, ap_nopart, ao_nx, ao_bk, ao_ct, ao_retN, ↓evP_some, ↓evP_none, evP_some, evP_none, evP_if, evP_ifn, evP_map, ↓ev_isa, ↓evo_aug, isa, augOf, cIsA, cIsNA, bInt, bStr, bAll, bAny, bSorted, boolsOf_map, revAll, dAddI, ↓ev_lnil, ↓ev_lcons, ↓evo_fnil, intsOf_map, List.drop_succ_cons, List.drop_zero, List.take_succ_cons, List.take_zero, List.length_map, List.drop_nil, List.take_nil, cutL_lo0, cutL_hi0, cutL_lo1, cutL_hi1, cutL_lo2, cutL_hi2, cutL_lo3, cutL_hi3, cutL_lo4, cutL_hi4, cutL_lo5, cutL_hi5, cutL_lo6, cutL_hi6, cutL_lo7, cutL_hi7, cutL_lo8, cutL_hi8, cutL_lo9, cutL_hi9, look, keepV, slotOf, retOf, argOf, mkAs, wb, places, lookAll, Kd.mk, ownL, intOf, items, truth, isNone, kill, outsOf, gtName, gtCons, gtNil, gtTup, dAdd, dSub, dMul, dMod, dDiv, dPow, dNeg, dIx, dSl, cEq, cNe, cI, cIs, cIsN, bLen, bAbs, bSum, bMax, bMin, bTuple, bList, lmAppend, lmExtend, lmPop, lmReverse, lmClear, zipOk, ofStr_inj, atI_0, ixN_0, atI_1, ixN_1, atI_2, ixN_2, atI_3, ixN_3, atI_4, ixN_4, atI_5, ixN_5, atI_6, ixN_6, atI_7, ixN_7, atI_8, ixN_8, atI_9, ixN_9, atI_m1, atI_map, strOk_of, sl_0, sl_1, sl_2, sl_3, sl_4, sl_5, sl_6, sl_7, sl_8, sl_9, sl_10, sl_11, sl_12, cIn_ts1, cIn_ls1, cNotIn_ts1, cNotIn_ls1, cIn_ts2, cIn_ls2, cNotIn_ts2, cNotIn_ls2, cIn_ts3, cIn_ls3, cNotIn_ts3, cNotIn_ls3, cIn_ts4, cIn_ls4, cNotIn_ts4, cNotIn_ls4, cIn_ts5, cIn_ls5, cNotIn_ts5, cNotIn_ls5, cIn_tints, cIn_lints, cNotIn_tints, cNotIn_lints, List.getElem?_cons_zero, List.getElem?_cons_succ, List.getElem?_nil, List.set_cons_zero, List.set_cons_succ, List.set_nil, List.length_cons, List.length_nil, List.cons_append, List.nil_append, List.append_nil, List.map_nil, List.map_cons, List.replicate_succ, List.replicate_zero, Option.map_some, Option.map_none, Option.bind_some, Option.bind_none, List.nodup_cons, List.nodup_nil, List.not_mem_nil, List.mem_cons, List.mem_singleton, not_false_eq_true, and_self, and_true, true_and, or_true, true_or, or_false, false_or, if_true, if_false, ite_true, ite_false, decide_true, decide_false, decide_eq_true_eq, Bool.false_eq_true, reduceCtorEq, PyData.str.injEq, PyData.int.injEq, PyData.bool.injEq, exists_eq_left, exists_eq_left', List.cons.injEq, exists_const, Bool.not_true, Bool.not_false, Bool.and_true, Bool.and_false, Bool.true_and, Nat.reduceAdd, Nat.reduceSub, Nat.reduceMul, Nat.reduceLT, Nat.reduceLeDiff, Nat.reduceEqDiff, Int.reduceLE, Int.reduceLT, Int.reduceNeg, Int.reduceAdd, Int.reduceSub, Int.reduceMul, Int.reduceToNat, Int.reducePow, Int.reduceEq, Int.reduceNe, Int.cast_ofNat_Int, Int.toNat_zero, Int.toNat_one, Int.natCast_add, Int.natCast_zero, Int.natCast_one, Int.ofNat_eq_natCast, Int.le_refl, Nat.le_refl, Nat.zero_add, Int.zero_add, Int.add_zero, String.reduceEq, String.reduceNe, eq_self, ne_eq, not_true_eq_false, not_false_eq_true,  Int.lt_irrefl, decide_not, Nat.reducePow, Int.neg_neg]
  refine itep (fun _ => ?_) (fun _ => ?_)
  · exact ⟨by omega, ⟨by omega, by omega⟩, k _ _ _ (fmod_lt hm).1 (fmod_lt hm).2 ⟨fdiv_nonneg h1 hm, h2, h3, h4, by omega⟩⟩
  · generalize he : Int.fmod _ 998244353 = e
    have b1 : 0 ≤ e ∧ e < 998244353 := he ▸ fmod_lt (by decide)
    exact ⟨by omega, .inl ⟨by omega, by omega⟩, .inl ⟨by omega, by omega⟩, by decide, by omega, k _ _ _ (fmod_lt hm).1 (fmod_lt hm).2 ⟨h1, h2, h3, by omega, by omega⟩⟩
theorem one_spec {n g s t : Int} {l : List D} (h : Fk n g s t) (hn : n < 2 ^ 40) (hl : 0 < l.length) (hl2 : l.length < 1000) {K : Co Opd} {u : Tag K}
    (k : ∀ d g' t', d ∈ l → Fk (n + 1) g' s t' → K.ok (.val d) [Fd g' s t', .no]) : Ev (F__law_one [Fd g s t, .val (.list l)]) K u := by
  unfold F__law_one b__law_one
  simp -dsimp only [↓ev_run, ↓ev_ok, ↓ev_exc, ↓ev_bad, ↓ev_op2, ↓ev_op1, ↓ev_cmp, ↓ev_cmpB, ↓ev_chain, ↓ev_chainB, ↓ev_test, ↓ev_andB, ↓ev_orB, ↓ev_notB, ↓ev_andV, ↓ev_orV, ↓ev_notV, ↓ev_if, ↓ev_cons, ↓ev_rcons, ↓ev_tup, ↓ev_lst, ↓ev_call, ↓ev_bi, ↓ev_sl, ↓ev_part, ↓ev_meth, ↓ev_rng1, ↓ev_rng2, ↓ev_seqI, ↓ev_enum, ↓ev_zip, ↓ev_lc, ↓evo_nx, ↓evo_rt, ↓evo_bk, ↓evo_ct, ↓evo_exc, ↓evo_bad, ↓sq_nx, ↓sq_rt, ↓sq_bk, ↓sq_ct, ↓sq_exc, ↓evo_seq, ↓evo_set, ↓evo_drop, ↓evo_if, ↓evo_ret, ↓evo_put, ↓evo_asgT, ↓evo_par, ↓evo_for, ↓rk_nx, ↓rk_rtt, ↓rk_rtf, ↓rk_exc, ↓rk_bk, ↓rk_ct, ↓fk_nx, ↓fk_ct, ↓fk_bk, ↓fk_rt, ↓fk_exc, ap_var, ap_c, ap_nil, ap_rnil, ap_yes, ap_nopart, ao_nx, ao_bk, ao_ct, ao_retN, ↓evP_some, ↓evP_none, evP_some, evP_none, evP_if, evP_ifn, evP_map, ↓ev_isa, ↓evo_aug, isa, augOf, cIsA, cIsNA, bInt, bStr, bAll, bAny, bSorted, boolsOf_map, revAll, dAddI, ↓ev_lnil, ↓ev_lcons, ↓evo_fnil, intsOf_map, List.drop_succ_cons, List.drop_zero, List.take_succ_cons, List.take_zero, List.length_map, List.drop_nil, List.take_nil, cutL_lo0, cutL_hi0, cutL_lo1, cutL_hi1, cutL_lo2, cutL_hi2, cutL_lo3, cutL_hi3, cutL_lo4, cutL_hi4, cutL_lo5, cutL_hi5, cutL_lo6, cutL_hi6, cutL_lo7, cutL_hi7, cutL_lo8, cutL_hi8, cutL_lo9, cutL_hi9, look, keepV, slotOf, retOf, argOf, mkAs, wb, places, lookAll, Kd.mk, ownL, intOf, items, truth, isNone, kill, outsOf, gtName, gtCons, gtNil, gtTup, dAdd, dSub, dMul, dMod, dDiv, dPow, dNeg, dIx, dSl, cEq, cNe, cI, cIs, cIsN, bLen, bAbs, bSum, bMax, bMin, bTuple, bList, lmAppend, lmExtend, lmPop, lmReverse, lmClear, zipOk, ofStr_inj, atI_0, ixN_0, atI_1, ixN_1, atI_2, ixN_2, atI_3, ixN_3, atI_4, ixN_4, atI_5, ixN_5, atI_6, ixN_6, atI_7, ixN_7, atI_8, ixN_8, atI_9, ixN_9, atI_m1, atI_map, strOk_of, sl_0, sl_1, sl_2, sl_3, sl_4, sl_5, sl_6, sl_7, sl_8, sl_9, sl_10, sl_11, sl_12, cIn_ts1, cIn_ls1, cNotIn_ts1, cNotIn_ls1, cIn_ts2, cIn_ls2, cNotIn_ts2, cNotIn_ls2, cIn_ts3, cIn_ls3, cNotIn_ts3, cNotIn_ls3, cIn_ts4, cIn_ls4, cNotIn_ts4, cNotIn_ls4, cIn_ts5, cIn_ls5, cNotIn_ts5, cNotIn_ls5, cIn_tints, cIn_lints, cNotIn_tints, cNotIn_lints, List.getElem?_cons_zero, List.getElem?_cons_succ, List.getElem?_nil, List.set_cons_zero, List.set_cons_succ, List.set_nil, List.length_cons, List.length_nil, List.cons_append, List.nil_append, List.append_nil, List.map_nil, List.map_cons, List.replicate_succ, List.replicate_zero, Option.map_some, Option.map_none, Option.bind_some, Option.bind_none, List.nodup_cons, List.nodup_nil, List.not_mem_nil, List.mem_cons, List.mem_singleton, not_false_eq_true, and_self, and_true, true_and, or_true, true_or, or_false, false_or, if_true, if_false, ite_true, ite_false, decide_true, decide_false, decide_eq_true_eq, Bool.false_eq_true, reduceCtorEq, PyData.str.injEq, PyData.int.injEq, PyData.bool.injEq, exists_eq_left, exists_eq_left', List.cons.injEq, exists_const, Bool.not_true, Bool.not_false, Bool.and_true, Bool.and_false, Bool.true_and, Nat.reduceAdd, Nat.reduceSub, Nat.reduceMul, Nat.reduceLT, Nat.reduceLeDiff, Nat.reduceEqDiff, Int.reduceLE, Int.reduceLT, Int.reduceNeg, Int.reduceAdd, Int.reduceSub, Int.reduceMul, Int.reduceToNat, Int.reducePow, Int.reduceEq, Int.reduceNe, Int.cast_ofNat_Int, Int.toNat_zero, Int.toNat_one, Int.natCast_add, Int.natCast_zero, Int.natCast_one, Int.ofNat_eq_natCast, Int.le_refl, Nat.le_refl, Nat.zero_add, Int.zero_add, Int.add_zero, String.reduceEq, String.reduceNe, eq_self, ne_eq, not_true_eq_false, not_false_eq_true,  Int.lt_irrefl, decide_not, Nat.reducePow, Int.neg_neg]
  refine next_spec h hn (by omega) (by omega) fun v g' t' h1 h2 h3 => ?_
  simp -dsimp only [↓ev_run, ↓ev_ok, ↓ev_exc, ↓ev_bad, ↓ev_op2, ↓ev_op1, ↓ev_cmp, ↓ev_cmpB, ↓ev_chain, ↓ev_chainB, ↓ev_test, ↓ev_andB, ↓ev_orB, ↓ev_notB, ↓ev_andV, ↓ev_orV, ↓ev_notV, ↓ev_if, ↓ev_cons, ↓ev_rcons, ↓ev_tup, ↓ev_lst, ↓ev_call, ↓ev_bi, ↓ev_sl, ↓ev_part, ↓ev_meth, ↓ev_rng1, ↓ev_rng2, ↓ev_seqI, ↓ev_enum, ↓ev_zip, ↓ev_lc, ↓evo_nx, ↓evo_rt, ↓evo_bk, ↓evo_ct, ↓evo_exc, ↓evo_bad, ↓sq_nx, ↓sq_rt, ↓sq_bk, ↓sq_ct, ↓sq_exc, ↓evo_seq, ↓evo_set, ↓evo_drop, ↓evo_if, ↓evo_ret, ↓evo_put, ↓evo_asgT, ↓evo_par, ↓evo_for, ↓rk_nx, ↓rk_rtt, ↓rk_rtf, ↓rk_exc, ↓rk_bk, ↓rk_ct, ↓fk_nx, ↓fk_ct, ↓fk_bk, ↓fk_rt, ↓fk_exc, ap_var, ap_c, ap_nil, ap_rnil, ap_yes, ap_nopart, ao_nx, ao_bk, ao_ct, ao_retN, ↓evP_some, ↓evP_none, evP_some, evP_none, evP_if, evP_ifn, evP_map, ↓ev_isa, ↓evo_aug, isa, augOf, cIsA, cIsNA, bInt, bStr, bAll, bAny, bSorted, boolsOf_map, revAll, dAddI, ↓ev_lnil, ↓ev_lcons, ↓evo_fnil, intsOf_map, List.drop_succ_cons, List.drop_zero, List.take_succ_cons, List.take_zero, List.length_map, List.drop_nil, List.take_nil, cutL_lo0, cutL_hi0, cutL_lo1, cutL_hi1, cutL_lo2, cutL_hi2, cutL_lo3, cutL_hi3, cutL_lo4, cutL_hi4, cutL_lo5, cutL_hi5, cutL_lo6, cutL_hi6, cutL_lo7, cutL_hi7, cutL_lo8, cutL_hi8, cutL_lo9, cutL_hi9, look, keepV, slotOf, retOf, argOf, mkAs, wb, places, lookAll, Kd.mk, ownL, intOf, items, truth, isNone, kill, outsOf, gtName, gtCons, gtNil, gtTup, dAdd, dSub, dMul, dMod, dDiv, dPow, dNeg, dIx, dSl, cEq, cNe, cI, cIs, cIsN, bLen, bAbs, bSum, bMax, bMin, bTuple, bList, lmAppend, lmExtend, lmPop, lmReverse, lmClear, zipOk, ofStr_inj, atI_0, ixN_0, atI_1, ixN_1, atI_2, ixN_2, atI_3, ixN_3, atI_4, ixN_4, atI_5, ixN_5, atI_6, ixN_6, atI_7, ixN_7, atI_8, ixN_8, atI_9, ixN_9, atI_m1, atI_map, strOk_of, sl_0, sl_1, sl_2, sl_3, sl_4, sl_5, sl_6, sl_7, sl_8, sl_9, sl_10, sl_11, sl_12, cIn_ts1, cIn_ls1, cNotIn_ts1, cNotIn_ls1, cIn_ts2, cIn_ls2, cNotIn_ts2, cNotIn_ls2, cIn_ts3, cIn_ls3, cNotIn_ts3, cNotIn_ls3, cIn_ts4, cIn_ls4, cNotIn_ts4, cNotIn_ls4, cIn_ts5, cIn_ls5, cNotIn_ts5, cNotIn_ls5, cIn_tints, cIn_lints, cNotIn_tints, cNotIn_lints, List.getElem?_cons_zero, List.getElem?_cons_succ, List.getElem?_nil, List.set_cons_zero, List.set_cons_succ, List.set_nil, List.length_cons, List.length_nil, List.cons_append, List.nil_append, List.append_nil, List.map_nil, List.map_cons, List.replicate_succ, List.replicate_zero, Option.map_some, Option.map_none, Option.bind_some, Option.bind_none, List.nodup_cons, List.nodup_nil, List.not_mem_nil, List.mem_cons, List.mem_singleton, not_false_eq_true, and_self, and_true, true_and, or_true, true_or, or_false, false_or, if_true, if_false, ite_true, ite_false, decide_true, decide_false, decide_eq_true_eq, Bool.false_eq_true, reduceCtorEq, PyData.str.injEq, PyData.int.injEq, PyData.bool.injEq, exists_eq_left, exists_eq_left', List.cons.injEq, exists_const, Bool.not_true, Bool.not_false, Bool.and_true, Bool.and_false, Bool.true_and, Nat.reduceAdd, Nat.reduceSub, Nat.reduceMul, Nat.reduceLT, Nat.reduceLeDiff, Nat.reduceEqDiff, Int.reduceLE, Int.reduceLT, Int.reduceNeg, Int.reduceAdd, Int.reduceSub, Int.reduceMul, Int.reduceToNat, Int.reducePow, Int.reduceEq, Int.reduceNe, Int.cast_ofNat_Int, Int.toNat_zero, Int.toNat_one, Int.natCast_add, Int.natCast_zero, Int.natCast_one, Int.ofNat_eq_natCast, Int.le_refl, Nat.le_refl, Nat.zero_add, Int.zero_add, Int.add_zero, String.reduceEq, String.reduceNe, eq_self, ne_eq, not_true_eq_false, not_false_eq_true,  Int.lt_irrefl, decide_not, Nat.reducePow, Int.neg_neg]
  rw [atI_in h1 h2, List.getElem?_eq_getElem (by omega)]
  simp -dsimp only [↓ev_run, ↓ev_ok, ↓ev_exc, ↓ev_bad, ↓ev_op2, ↓ev_op1, ↓ev_cmp, ↓ev_cmpB, ↓ev_chain, ↓ev_chainB, ↓ev_test, ↓ev_andB, ↓ev_orB, ↓ev_notB, ↓ev_andV, ↓ev_orV, ↓ev_notV, ↓ev_if, ↓ev_cons, ↓ev_rcons, ↓ev_tup, ↓ev_lst, ↓ev_call, ↓ev_bi, ↓ev_sl, ↓ev_part, ↓ev_meth, ↓ev_rng1, ↓ev_rng2, ↓ev_seqI, ↓ev_enum, ↓ev_zip, ↓ev_lc, ↓evo_nx, ↓evo_rt, ↓evo_bk, ↓evo_ct, ↓evo_exc, ↓evo_bad, ↓sq_nx, ↓sq_rt, ↓sq_bk, ↓sq_ct, ↓sq_exc, ↓evo_seq, ↓evo_set, ↓evo_drop, ↓evo_if, ↓evo_ret, ↓evo_put, ↓evo_asgT, ↓evo_par, ↓evo_for, ↓rk_nx, ↓rk_rtt, ↓rk_rtf, ↓rk_exc, ↓rk_bk, ↓rk_ct, ↓fk_nx, ↓fk_ct, ↓fk_bk, ↓fk_rt, ↓fk_exc, ap_var, ap_c, ap_nil, ap_rnil, ap_yes, ap_nopart, ao_nx, ao_bk, ao_ct, ao_retN, ↓evP_some, ↓evP_none, evP_some, evP_none, evP_if, evP_ifn, evP_map, ↓ev_isa, ↓evo_aug, isa, augOf, cIsA, cIsNA, bInt, bStr, bAll, bAny, bSorted, boolsOf_map, revAll, dAddI, ↓ev_lnil, ↓ev_lcons, ↓evo_fnil, intsOf_map, List.drop_succ_cons, List.drop_zero, List.take_succ_cons, List.take_zero, List.length_map, List.drop_nil, List.take_nil, cutL_lo0, cutL_hi0, cutL_lo1, cutL_hi1, cutL_lo2, cutL_hi2, cutL_lo3, cutL_hi3, cutL_lo4, cutL_hi4, cutL_lo5, cutL_hi5, cutL_lo6, cutL_hi6, cutL_lo7, cutL_hi7, cutL_lo8, cutL_hi8, cutL_lo9, cutL_hi9, look, keepV, slotOf, retOf, argOf, mkAs, wb, places, lookAll, Kd.mk, ownL, intOf, items, truth, isNone, kill, outsOf, gtName, gtCons, gtNil, gtTup, dAdd, dSub, dMul, dMod, dDiv, dPow, dNeg, dIx, dSl, cEq, cNe, cI, cIs, cIsN, bLen, bAbs, bSum, bMax, bMin, bTuple, bList, lmAppend, lmExtend, lmPop, lmReverse, lmClear, zipOk, ofStr_inj, atI_0, ixN_0, atI_1, ixN_1, atI_2, ixN_2, atI_3, ixN_3, atI_4, ixN_4, atI_5, ixN_5, atI_6, ixN_6, atI_7, ixN_7, atI_8, ixN_8, atI_9, ixN_9, atI_m1, atI_map, strOk_of, sl_0, sl_1, sl_2, sl_3, sl_4, sl_5, sl_6, sl_7, sl_8, sl_9, sl_10, sl_11, sl_12, cIn_ts1, cIn_ls1, cNotIn_ts1, cNotIn_ls1, cIn_ts2, cIn_ls2, cNotIn_ts2, cNotIn_ls2, cIn_ts3, cIn_ls3, cNotIn_ts3, cNotIn_ls3, cIn_ts4, cIn_ls4, cNotIn_ts4, cNotIn_ls4, cIn_ts5, cIn_ls5, cNotIn_ts5, cNotIn_ls5, cIn_tints, cIn_lints, cNotIn_tints, cNotIn_lints, List.getElem?_cons_zero, List.getElem?_cons_succ, List.getElem?_nil, List.set_cons_zero, List.set_cons_succ, List.set_nil, List.length_cons, List.length_nil, List.cons_append, List.nil_append, List.append_nil, List.map_nil, List.map_cons, List.replicate_succ, List.replicate_zero, Option.map_some, Option.map_none, Option.bind_some, Option.bind_none, List.nodup_cons, List.nodup_nil, List.not_mem_nil, List.mem_cons, List.mem_singleton, not_false_eq_true, and_self, and_true, true_and, or_true, true_or, or_false, false_or, if_true, if_false, ite_true, ite_false, decide_true, decide_false, decide_eq_true_eq, Bool.false_eq_true, reduceCtorEq, PyData.str.injEq, PyData.int.injEq, PyData.bool.injEq, exists_eq_left, exists_eq_left', List.cons.injEq, exists_const, Bool.not_true, Bool.not_false, Bool.and_true, Bool.and_false, Bool.true_and, Nat.reduceAdd, Nat.reduceSub, Nat.reduceMul, Nat.reduceLT, Nat.reduceLeDiff, Nat.reduceEqDiff, Int.reduceLE, Int.reduceLT, Int.reduceNeg, Int.reduceAdd, Int.reduceSub, Int.reduceMul, Int.reduceToNat, Int.reducePow, Int.reduceEq, Int.reduceNe, Int.cast_ofNat_Int, Int.toNat_zero, Int.toNat_one, Int.natCast_add, Int.natCast_zero, Int.natCast_one, Int.ofNat_eq_natCast, Int.le_refl, Nat.le_refl, Nat.zero_add, Int.zero_add, Int.add_zero, String.reduceEq, String.reduceNe, eq_self, ne_eq, not_true_eq_false, not_false_eq_true,  Int.lt_irrefl, decide_not, Nat.reducePow, Int.neg_neg]
  exact k _ _ _ (List.getElem_mem _) h3
theorem feed_spec {ns : List Int} {j : Int} (hl : ns.length ≤ 63) (hj : 0 ≤ j) (hj2 : j < 100) {K : Co Opd} {u : Tag K}
    (q : ∀ g s, Fk 0 g s 0 → K.ok (.fresh (.list [.int g, .int s, .int 0])) [.no, .no]) : Ev (F__law_feed [.val (scriptOf ns), .val (.int j)]) K u := by
  have fin : ∀ c g : Int, 0 ≤ g → Fk 0 g (Int.fmod c 1000003 + 7919 * j) 0 := fun c g hg => by
    have hc := fmod_lt (a := c) (b := 1000003) (by decide)
    exact ⟨hg, by omega, by omega, by omega, by omega⟩
  unfold F__law_feed b__law_feed scriptOf
  simp -dsimp only [↓ev_run, ↓ev_ok, ↓ev_exc, ↓ev_bad, ↓ev_op2, ↓ev_op1, ↓ev_cmp, ↓ev_cmpB, ↓ev_chain, ↓ev_chainB, ↓ev_test, ↓ev_andB, ↓ev_orB, ↓ev_notB, ↓ev_andV, ↓ev_orV, ↓ev_notV, ↓ev_if, ↓ev_cons, ↓ev_rcons, ↓ev_tup, ↓ev_lst, ↓ev_call, ↓ev_bi, ↓ev_sl, ↓ev_part, ↓ev_meth, ↓ev_rng1, ↓ev_rng2, ↓ev_seqI, ↓ev_enum, ↓ev_zip, ↓ev_lc, ↓evo_nx, ↓evo_rt, ↓evo_bk, ↓evo_ct, ↓evo_exc, ↓evo_bad, ↓sq_nx, ↓sq_rt, ↓sq_bk, ↓sq_ct, ↓sq_exc, ↓evo_seq, ↓evo_set, ↓evo_drop, ↓evo_if, ↓evo_ret, ↓evo_put, ↓evo_asgT, ↓evo_par, ↓evo_for, ↓rk_nx, ↓rk_rtt, ↓rk_rtf, ↓rk_exc, ↓rk_bk, ↓rk_ct, ↓fk_nx, ↓fk_ct, ↓fk_bk, ↓fk_rt, ↓fk_exc, ap_var, ap_c, ap_nil, ap_rnil, ap_yes, ap_nopart, ao_nx, ao_bk, ao_ct, ao_retN, ↓evP_some, ↓evP_none, evP_some, evP_none, evP_if, evP_ifn, evP_map, ↓ev_isa, ↓evo_aug, isa, augOf, cIsA, cIsNA, bInt, bStr, bAll, bAny, bSorted, boolsOf_map, revAll, dAddI, ↓ev_lnil, ↓ev_lcons, ↓evo_fnil, intsOf_map, List.drop_succ_cons, List.drop_zero, List.take_succ_cons, List.take_zero, List.length_map, List.drop_nil, List.take_nil, cutL_lo0, cutL_hi0, cutL_lo1, cutL_hi1, cutL_lo2, cutL_hi2, cutL_lo3, cutL_hi3, cutL_lo4, cutL_hi4, cutL_lo5, cutL_hi5, cutL_lo6, cutL_hi6, cutL_lo7, cutL_hi7, cutL_lo8, cutL_hi8, cutL_lo9, cutL_hi9, look, keepV, slotOf, retOf, argOf, mkAs, wb, places, lookAll, Kd.mk, ownL, intOf, items, truth, isNone, kill, outsOf, gtName, gtCons, gtNil, gtTup, dAdd, dSub, dMul, dMod, dDiv, dPow, dNeg, dIx, dSl, cEq, cNe, cI, cIs, cIsN, bLen, bAbs, bSum, bMax, bMin, bTuple, bList, lmAppend, lmExtend, lmPop, lmReverse, lmClear, zipOk, ofStr_inj, atI_0, ixN_0, atI_1, ixN_1, atI_2, ixN_2, atI_3, ixN_3, atI_4, ixN_4, atI_5, ixN_5, atI_6, ixN_6, atI_7, ixN_7, atI_8, ixN_8, atI_9, ixN_9, atI_m1, atI_map, strOk_of, sl_0, sl_1, sl_2, sl_3, sl_4, sl_5, sl_6, sl_7, sl_8, sl_9, sl_10, sl_11, sl_12, cIn_ts1, cIn_ls1, cNotIn_ts1, cNotIn_ls1, cIn_ts2, cIn_ls2, cNotIn_ts2, cNotIn_ls2, cIn_ts3, cIn_ls3, cNotIn_ts3, cNotIn_ls3, cIn_ts4, cIn_ls4, cNotIn_ts4, cNotIn_ls4, cIn_ts5, cIn_ls5, cNotIn_ts5, cNotIn_ls5, cIn_tints, cIn_lints, cNotIn_tints, cNotIn_lints, List.getElem?_cons_zero, List.getElem?_cons_succ, List.getElem?_nil, List.set_cons_zero, List.set_cons_succ, List.set_nil, List.length_cons, List.length_nil, List.cons_append, List.nil_append, List.append_nil, List.map_nil, List.map_cons, List.replicate_succ, List.replicate_zero, Option.map_some, Option.map_none, Option.bind_some, Option.bind_none, List.nodup_cons, List.nodup_nil, List.not_mem_nil, List.mem_cons, List.mem_singleton, not_false_eq_true, and_self, and_true, true_and, or_true, true_or, or_false, false_or, if_true, if_false, ite_true, ite_false, decide_true, decide_false, decide_eq_true_eq, Bool.false_eq_true, reduceCtorEq, PyData.str.injEq, PyData.int.injEq, PyData.bool.injEq, exists_eq_left, exists_eq_left', List.cons.injEq, exists_const, Bool.not_true, Bool.not_false, Bool.and_true, Bool.and_false, Bool.true_and, Nat.reduceAdd, Nat.reduceSub, Nat.reduceMul, Nat.reduceLT, Nat.reduceLeDiff, Nat.reduceEqDiff, Int.reduceLE, Int.reduceLT, Int.reduceNeg, Int.reduceAdd, Int.reduceSub, Int.reduceMul, Int.reduceToNat, Int.reducePow, Int.reduceEq, Int.reduceNe, Int.cast_ofNat_Int, Int.toNat_zero, Int.toNat_one, Int.natCast_add, Int.natCast_zero, Int.natCast_one, Int.ofNat_eq_natCast, Int.le_refl, Nat.le_refl, Nat.zero_add, Int.zero_add, Int.add_zero, String.reduceEq, String.reduceNe, eq_self, ne_eq, not_true_eq_false, not_false_eq_true,  Int.lt_irrefl, decide_not, Nat.reducePow, Int.neg_neg, ↓evo_augI, ↓evo_raise, ↓evo_try, ↓ev_lrg, ↓ev_fl, ↓sk_nx, ↓sk_rt, ↓tk_nx, ↓tk_rt, ↓tk_exc, fields1, fields2, lookup_same, lookup_other, cLeA, bSortedA, bSSetA, intsOf_nil, intsOf_icons]
  refine itep (fun hp => ?_) fun _ => ?_
  · refine ⟨by omega, ?_⟩
    have hb := fmod_lt (a := j) (b := (ns.length : Int)) hp
    rw [atI_in hb.1 hb.2, List.getElem?_eq_getElem (by omega)]
    generalize ns[(j.fmod (ns.length : Int)).toNat]'(by omega) = c
    simp -dsimp only [↓ev_run, ↓ev_ok, ↓ev_exc, ↓ev_bad, ↓ev_op2, ↓ev_op1, ↓ev_cmp, ↓ev_cmpB, ↓ev_chain, ↓ev_chainB, ↓ev_test, ↓ev_andB, ↓ev_orB, ↓ev_notB, ↓ev_andV, ↓ev_orV, ↓ev_notV, ↓ev_if, ↓ev_cons, ↓ev_rcons, ↓ev_tup, ↓ev_lst, ↓ev_call, ↓ev_bi, ↓ev_sl, ↓ev_part, ↓ev_meth, ↓ev_rng1, ↓ev_rng2, ↓ev_seqI, ↓ev_enum, ↓ev_zip, ↓ev_lc, ↓evo_nx, ↓evo_rt, ↓evo_bk, ↓evo_ct, ↓evo_exc, ↓evo_bad, ↓sq_nx, ↓sq_rt, ↓sq_bk, ↓sq_ct, ↓sq_exc, ↓evo_seq, ↓evo_set, ↓evo_drop, ↓evo_if, ↓evo_ret, ↓evo_put, ↓evo_asgT, ↓evo_par, ↓evo_for, ↓rk_nx, ↓rk_rtt, ↓rk_rtf, ↓rk_exc, ↓rk_bk, ↓rk_ct, ↓fk_nx, ↓fk_ct, ↓fk_bk, ↓fk_rt, ↓fk_exc, ap_var, ap_c, ap_nil, ap_rnil, ap_yes, ap_nopart, ao_nx, ao_bk, ao_ct, ao_retN, ↓evP_some, ↓evP_none, evP_some, evP_none, evP_if, evP_ifn, evP_map, ↓ev_isa, ↓evo_aug, isa, augOf, cIsA, cIsNA, bInt, bStr, bAll, bAny, bSorted, boolsOf_map, revAll, dAddI, ↓ev_lnil, ↓ev_lcons, ↓evo_fnil, intsOf_map, List.drop_succ_cons, List.drop_zero, List.take_succ_cons, List.take_zero, List.length_map, List.drop_nil, List.take_nil, cutL_lo0, cutL_hi0, cutL_lo1, cutL_hi1, cutL_lo2, cutL_hi2, cutL_lo3, cutL_hi3, cutL_lo4, cutL_hi4, cutL_lo5, cutL_hi5, cutL_lo6, cutL_hi6, cutL_lo7, cutL_hi7, cutL_lo8, cutL_hi8, cutL_lo9, cutL_hi9, look, keepV, slotOf, retOf, argOf, mkAs, wb, places, lookAll, Kd.mk, ownL, intOf, items, truth, isNone, kill, outsOf, gtName, gtCons, gtNil, gtTup, dAdd, dSub, dMul, dMod, dDiv, dPow, dNeg, dIx, dSl, cEq, cNe, cI, cIs, cIsN, bLen, bAbs, bSum, bMax, bMin, bTuple, bList, lmAppend, lmExtend, lmPop, lmReverse, lmClear, zipOk, ofStr_inj, atI_0, ixN_0, atI_1, ixN_1, atI_2, ixN_2, atI_3, ixN_3, atI_4, ixN_4, atI_5, ixN_5, atI_6, ixN_6, atI_7, ixN_7, atI_8, ixN_8, atI_9, ixN_9, atI_m1, atI_map, strOk_of, sl_0, sl_1, sl_2, sl_3, sl_4, sl_5, sl_6, sl_7, sl_8, sl_9, sl_10, sl_11, sl_12, cIn_ts1, cIn_ls1, cNotIn_ts1, cNotIn_ls1, cIn_ts2, cIn_ls2, cNotIn_ts2, cNotIn_ls2, cIn_ts3, cIn_ls3, cNotIn_ts3, cNotIn_ls3, cIn_ts4, cIn_ls4, cNotIn_ts4, cNotIn_ls4, cIn_ts5, cIn_ls5, cNotIn_ts5, cNotIn_ls5, cIn_tints, cIn_lints, cNotIn_tints, cNotIn_lints, List.getElem?_cons_zero, List.getElem?_cons_succ, List.getElem?_nil, List.set_cons_zero, List.set_cons_succ, List.set_nil, List.length_cons, List.length_nil, List.cons_append, List.nil_append, List.append_nil, List.map_nil, List.map_cons, List.replicate_succ, List.replicate_zero, Option.map_some, Option.map_none, Option.bind_some, Option.bind_none, List.nodup_cons, List.nodup_nil, List.not_mem_nil, List.mem_cons, List.mem_singleton, not_false_eq_true, and_self, and_true, true_and, or_true, true_or, or_false, false_or, if_true, if_false, ite_true, ite_false, decide_true, decide_false, decide_eq_true_eq, Bool.false_eq_true, reduceCtorEq, PyData.str.injEq, PyData.int.injEq, PyData.bool.injEq, exists_eq_left, exists_eq_left', List.cons.injEq, exists_const, Bool.not_true, Bool.not_false, Bool.and_true, Bool.and_false, Bool.true_and, Nat.reduceAdd, Nat.reduceSub, Nat.reduceMul, Nat.reduceLT, Nat.reduceLeDiff, Nat.reduceEqDiff, Int.reduceLE, Int.reduceLT, Int.reduceNeg, Int.reduceAdd, Int.reduceSub, Int.reduceMul, Int.reduceToNat, Int.reducePow, Int.reduceEq, Int.reduceNe, Int.cast_ofNat_Int, Int.toNat_zero, Int.toNat_one, Int.natCast_add, Int.natCast_zero, Int.natCast_one, Int.ofNat_eq_natCast, Int.le_refl, Nat.le_refl, Nat.zero_add, Int.zero_add, Int.add_zero, String.reduceEq, String.reduceNe, eq_self, ne_eq, not_true_eq_false, not_false_eq_true,  Int.lt_irrefl, decide_not, Nat.reducePow, Int.neg_neg, ↓evo_augI, ↓evo_raise, ↓evo_try, ↓ev_lrg, ↓ev_fl, ↓sk_nx, ↓sk_rt, ↓tk_nx, ↓tk_rt, ↓tk_exc, fields1, fields2, lookup_same, lookup_other, cLeA, bSortedA, bSSetA, intsOf_nil, intsOf_icons]
    refine ⟨by decide, itep (fun _ => ?_) fun _ => ?_⟩
    · refine q _ _ (fin _ _ ?_)
      split <;> omega
    · exact q _ _ (fin _ _ (by omega))
  · exact ⟨by decide, q _ _ (fin _ _ (by omega))⟩
end K18
set_option Elab.async false
set_option linter.all false
set_option maxRecDepth 1000000
set_option maxHeartbeats 40000000
set_option autoImplicit false
set_option pp.deepTerms false
set_option pp.deepTerms.threshold 12
namespace K18
open PySem PySem.Spec L2 L3
theorem cNe_self {l : List D} (h : SeqAt.shaped (.tuple l) = true) (e : PyData.eqvAll l l = true) : cNe (.tuple l) (.tuple l) = some false := by
  unfold cNe cEq
  simp only [h, Bool.and_self, if_true, Option.map_some, PyData.eqv, e, Bool.not_true]
theorem law_true [Cn] (ns : List Int) (hl : ns.length ≤ 63) : ∃ outs, F_law [.val (scriptOf ns)] = .ok (.val (.bool true)) outs := by
  refine ev_end ?_
  unfold F_law b_law
  simp -dsimp only [↓ev_run, ↓ev_ok, ↓ev_exc, ↓ev_bad, ↓ev_op2, ↓ev_op1, ↓ev_cmp, ↓ev_cmpB, ↓ev_chain, ↓ev_chainB, ↓ev_test, ↓ev_andB, ↓ev_orB, ↓ev_notB, ↓ev_andV, ↓ev_orV, ↓ev_notV, ↓ev_if, ↓ev_cons, ↓ev_rcons, ↓ev_tup, ↓ev_lst, ↓ev_call, ↓ev_bi, ↓ev_sl, ↓ev_part, ↓ev_meth, ↓ev_rng1, ↓ev_rng2, ↓ev_seqI, ↓ev_enum, ↓ev_zip, ↓ev_lc, ↓evo_nx, ↓evo_rt, ↓evo_bk, ↓evo_ct, ↓evo_exc, ↓evo_bad, ↓sq_nx, ↓sq_rt, ↓sq_bk, ↓sq_ct, ↓sq_exc, ↓evo_seq, ↓evo_set, ↓evo_drop, ↓evo_if, ↓evo_ret, ↓evo_put, ↓evo_asgT, ↓evo_par, ↓evo_for, ↓rk_nx, ↓rk_rtt, ↓rk_rtf, ↓rk_exc, ↓rk_bk, ↓rk_ct, ↓fk_nx, ↓fk_ct, ↓fk_bk, ↓fk_rt, ↓fk_exc, ap_var, ap_c, ap_nil, ap_rnil, ap_yes, ap_nopart, ao_nx, ao_bk, ao_ct, ao_retN, ↓evP_some, ↓evP_none, evP_some, evP_none, evP_if, evP_ifn, evP_map, ↓ev_isa, ↓evo_aug, isa, augOf, cIsA, cIsNA, bInt, bStr, bAll, bAny, bSorted, boolsOf_map, revAll, dAddI, ↓ev_lnil, ↓ev_lcons, ↓evo_fnil, intsOf_map, List.drop_succ_cons, List.drop_zero, List.take_succ_cons, List.take_zero, List.length_map, List.drop_nil, List.take_nil, cutL_lo0, cutL_hi0, cutL_lo1, cutL_hi1, cutL_lo2, cutL_hi2, cutL_lo3, cutL_hi3, cutL_lo4, cutL_hi4, cutL_lo5, cutL_hi5, cutL_lo6, cutL_hi6, cutL_lo7, cutL_hi7, cutL_lo8, cutL_hi8, cutL_lo9, cutL_hi9, look, keepV, slotOf, retOf, argOf, mkAs, wb, places, lookAll, Kd.mk, ownL, intOf, items, truth, isNone, kill, outsOf, gtName, gtCons, gtNil, gtTup, dAdd, dSub, dMul, dMod, dDiv, dPow, dNeg, dIx, dSl, cEq, cNe, cI, cIs, cIsN, bLen, bAbs, bSum, bMax, bMin, bTuple, bList, lmAppend, lmExtend, lmPop, lmReverse, lmClear, zipOk, ofStr_inj, atI_0, ixN_0, atI_1, ixN_1, atI_2, ixN_2, atI_3, ixN_3, atI_4, ixN_4, atI_5, ixN_5, atI_6, ixN_6, atI_7, ixN_7, atI_8, ixN_8, atI_9, ixN_9, atI_m1, atI_map, strOk_of, sl_0, sl_1, sl_2, sl_3, sl_4, sl_5, sl_6, sl_7, sl_8, sl_9, sl_10, sl_11, sl_12, cIn_ts1, cIn_ls1, cNotIn_ts1, cNotIn_ls1, cIn_ts2, cIn_ls2, cNotIn_ts2, cNotIn_ls2, cIn_ts3, cIn_ls3, cNotIn_ts3, cNotIn_ls3, cIn_ts4, cIn_ls4, cNotIn_ts4, cNotIn_ls4, cIn_ts5, cIn_ls5, cNotIn_ts5, cNotIn_ls5, cIn_tints, cIn_lints, cNotIn_tints, cNotIn_lints, List.getElem?_cons_zero, List.getElem?_cons_succ, List.getElem?_nil, List.set_cons_zero, List.set_cons_succ, List.set_nil, List.length_cons, List.length_nil, List.cons_append, List.nil_append, List.append_nil, List.map_nil, List.map_cons, List.replicate_succ, List.replicate_zero, Option.map_some, Option.map_none, Option.bind_some, Option.bind_none, List.nodup_cons, List.nodup_nil, List.not_mem_nil, List.mem_cons, List.mem_singleton, not_false_eq_true, and_self, and_true, true_and, or_true, true_or, or_false, false_or, if_true, if_false, ite_true, ite_false, decide_true, decide_false, decide_eq_true_eq, Bool.false_eq_true, reduceCtorEq, PyData.str.injEq, PyData.int.injEq, PyData.bool.injEq, exists_eq_left, exists_eq_left', List.cons.injEq, exists_const, Bool.not_true, Bool.not_false, Bool.and_true, Bool.and_false, Bool.true_and, Nat.reduceAdd, Nat.reduceSub, Nat.reduceMul, Nat.reduceLT, Nat.reduceLeDiff, Nat.reduceEqDiff, Int.reduceLE, Int.reduceLT, Int.reduceNeg, Int.reduceAdd, Int.reduceSub, Int.reduceMul, Int.reduceToNat, Int.reducePow, Int.reduceEq, Int.reduceNe, Int.cast_ofNat_Int, Int.toNat_zero, Int.toNat_one, Int.natCast_add, Int.natCast_zero, Int.natCast_one, Int.ofNat_eq_natCast, Int.le_refl, Nat.le_refl, Nat.zero_add, Int.zero_add, Int.add_zero, String.reduceEq, String.reduceNe, eq_self, ne_eq, not_true_eq_false, not_false_eq_true,  Int.lt_irrefl, decide_not, Nat.reducePow, Int.neg_neg, ↓evo_augI, ↓evo_raise, ↓evo_try, ↓ev_lrg, ↓ev_fl, ↓sk_nx, ↓sk_rt, ↓tk_nx, ↓tk_rt, ↓tk_exc, fields1, fields2, lookup_same, lookup_other, cLeA, bSortedA, bSSetA, intsOf_nil, intsOf_icons, ↓rl0, ↓rl1, ↓rl2, ↓rl3, ↓me0, ↓me1, ↓me2, ↓me3, ↓me_hi, ↓me_lo, set_int, L3.strOf, L3.cNotInS, L3.cInS, ↓ev_m1, ↓ev_strI, ↓evo_par00, ↓ev_get, L3.unD_dict, L3.valO, L3.keyT, L3.keysOf, L3.keyOf, ↓evo_tryK, ↓evo_raise0, ↓kk_nx, ↓kk_rt, ↓kk_exc, ↓ev_isX, ↓ev_flX, isX_kept, flX_kept, isNone_kept, lookN_nil, lookN_cons, lookS_cons, fldIx_nil, fldIx_cons, List.getElem?_nil]
  refine feed_spec hl (by decide) (by decide) fun g s f0 => ?_
  simp -dsimp only [↓ev_run, ↓ev_ok, ↓ev_exc, ↓ev_bad, ↓ev_op2, ↓ev_op1, ↓ev_cmp, ↓ev_cmpB, ↓ev_chain, ↓ev_chainB, ↓ev_test, ↓ev_andB, ↓ev_orB, ↓ev_notB, ↓ev_andV, ↓ev_orV, ↓ev_notV, ↓ev_if, ↓ev_cons, ↓ev_rcons, ↓ev_tup, ↓ev_lst, ↓ev_call, ↓ev_bi, ↓ev_sl, ↓ev_part, ↓ev_meth, ↓ev_rng1, ↓ev_rng2, ↓ev_seqI, ↓ev_enum, ↓ev_zip, ↓ev_lc, ↓evo_nx, ↓evo_rt, ↓evo_bk, ↓evo_ct, ↓evo_exc, ↓evo_bad, ↓sq_nx, ↓sq_rt, ↓sq_bk, ↓sq_ct, ↓sq_exc, ↓evo_seq, ↓evo_set, ↓evo_drop, ↓evo_if, ↓evo_ret, ↓evo_put, ↓evo_asgT, ↓evo_par, ↓evo_for, ↓rk_nx, ↓rk_rtt, ↓rk_rtf, ↓rk_exc, ↓rk_bk, ↓rk_ct, ↓fk_nx, ↓fk_ct, ↓fk_bk, ↓fk_rt, ↓fk_exc, ap_var, ap_c, ap_nil, ap_rnil, ap_yes, ap_nopart, ao_nx, ao_bk, ao_ct, ao_retN, ↓evP_some, ↓evP_none, evP_some, evP_none, evP_if, evP_ifn, evP_map, ↓ev_isa, ↓evo_aug, isa, augOf, cIsA, cIsNA, bInt, bStr, bAll, bAny, bSorted, boolsOf_map, revAll, dAddI, ↓ev_lnil, ↓ev_lcons, ↓evo_fnil, intsOf_map, List.drop_succ_cons, List.drop_zero, List.take_succ_cons, List.take_zero, List.length_map, List.drop_nil, List.take_nil, cutL_lo0, cutL_hi0, cutL_lo1, cutL_hi1, cutL_lo2, cutL_hi2, cutL_lo3, cutL_hi3, cutL_lo4, cutL_hi4, cutL_lo5, cutL_hi5, cutL_lo6, cutL_hi6, cutL_lo7, cutL_hi7, cutL_lo8, cutL_hi8, cutL_lo9, cutL_hi9, look, keepV, slotOf, retOf, argOf, mkAs, wb, places, lookAll, Kd.mk, ownL, intOf, items, truth, isNone, kill, outsOf, gtName, gtCons, gtNil, gtTup, dAdd, dSub, dMul, dMod, dDiv, dPow, dNeg, dIx, dSl, cEq, cNe, cI, cIs, cIsN, bLen, bAbs, bSum, bMax, bMin, bTuple, bList, lmAppend, lmExtend, lmPop, lmReverse, lmClear, zipOk, ofStr_inj, atI_0, ixN_0, atI_1, ixN_1, atI_2, ixN_2, atI_3, ixN_3, atI_4, ixN_4, atI_5, ixN_5, atI_6, ixN_6, atI_7, ixN_7, atI_8, ixN_8, atI_9, ixN_9, atI_m1, atI_map, strOk_of, sl_0, sl_1, sl_2, sl_3, sl_4, sl_5, sl_6, sl_7, sl_8, sl_9, sl_10, sl_11, sl_12, cIn_ts1, cIn_ls1, cNotIn_ts1, cNotIn_ls1, cIn_ts2, cIn_ls2, cNotIn_ts2, cNotIn_ls2, cIn_ts3, cIn_ls3, cNotIn_ts3, cNotIn_ls3, cIn_ts4, cIn_ls4, cNotIn_ts4, cNotIn_ls4, cIn_ts5, cIn_ls5, cNotIn_ts5, cNotIn_ls5, cIn_tints, cIn_lints, cNotIn_tints, cNotIn_lints, List.getElem?_cons_zero, List.getElem?_cons_succ, List.getElem?_nil, List.set_cons_zero, List.set_cons_succ, List.set_nil, List.length_cons, List.length_nil, List.cons_append, List.nil_append, List.append_nil, List.map_nil, List.map_cons, List.replicate_succ, List.replicate_zero, Option.map_some, Option.map_none, Option.bind_some, Option.bind_none, List.nodup_cons, List.nodup_nil, List.not_mem_nil, List.mem_cons, List.mem_singleton, not_false_eq_true, and_self, and_true, true_and, or_true, true_or, or_false, false_or, if_true, if_false, ite_true, ite_false, decide_true, decide_false, decide_eq_true_eq, Bool.false_eq_true, reduceCtorEq, PyData.str.injEq, PyData.int.injEq, PyData.bool.injEq, exists_eq_left, exists_eq_left', List.cons.injEq, exists_const, Bool.not_true, Bool.not_false, Bool.and_true, Bool.and_false, Bool.true_and, Nat.reduceAdd, Nat.reduceSub, Nat.reduceMul, Nat.reduceLT, Nat.reduceLeDiff, Nat.reduceEqDiff, Int.reduceLE, Int.reduceLT, Int.reduceNeg, Int.reduceAdd, Int.reduceSub, Int.reduceMul, Int.reduceToNat, Int.reducePow, Int.reduceEq, Int.reduceNe, Int.cast_ofNat_Int, Int.toNat_zero, Int.toNat_one, Int.natCast_add, Int.natCast_zero, Int.natCast_one, Int.ofNat_eq_natCast, Int.le_refl, Nat.le_refl, Nat.zero_add, Int.zero_add, Int.add_zero, String.reduceEq, String.reduceNe, eq_self, ne_eq, not_true_eq_false, not_false_eq_true,  Int.lt_irrefl, decide_not, Nat.reducePow, Int.neg_neg, ↓evo_augI, ↓evo_raise, ↓evo_try, ↓ev_lrg, ↓ev_fl, ↓sk_nx, ↓sk_rt, ↓tk_nx, ↓tk_rt, ↓tk_exc, fields1, fields2, lookup_same, lookup_other, cLeA, bSortedA, bSSetA, intsOf_nil, intsOf_icons, ↓rl0, ↓rl1, ↓rl2, ↓rl3, ↓me0, ↓me1, ↓me2, ↓me3, ↓me_hi, ↓me_lo, set_int, L3.strOf, L3.cNotInS, L3.cInS, ↓ev_m1, ↓ev_strI, ↓evo_par00, ↓ev_get, L3.unD_dict, L3.valO, L3.keyT, L3.keysOf, L3.keyOf, ↓evo_tryK, ↓evo_raise0, ↓kk_nx, ↓kk_rt, ↓kk_exc, ↓ev_isX, ↓ev_flX, isX_kept, flX_kept, isNone_kept, lookN_nil, lookN_cons, lookS_cons, fldIx_nil, fldIx_cons, List.getElem?_nil]
  refine next_spec f0 (by decide) (by decide) (by decide) fun v g1 t1 h1 h2 f1 => ?_
  simp -dsimp only [↓ev_run, ↓ev_ok, ↓ev_exc, ↓ev_bad, ↓ev_op2, ↓ev_op1, ↓ev_cmp, ↓ev_cmpB, ↓ev_chain, ↓ev_chainB, ↓ev_test, ↓ev_andB, ↓ev_orB, ↓ev_notB, ↓ev_andV, ↓ev_orV, ↓ev_notV, ↓ev_if, ↓ev_cons, ↓ev_rcons, ↓ev_tup, ↓ev_lst, ↓ev_call, ↓ev_bi, ↓ev_sl, ↓ev_part, ↓ev_meth, ↓ev_rng1, ↓ev_rng2, ↓ev_seqI, ↓ev_enum, ↓ev_zip, ↓ev_lc, ↓evo_nx, ↓evo_rt, ↓evo_bk, ↓evo_ct, ↓evo_exc, ↓evo_bad, ↓sq_nx, ↓sq_rt, ↓sq_bk, ↓sq_ct, ↓sq_exc, ↓evo_seq, ↓evo_set, ↓evo_drop, ↓evo_if, ↓evo_ret, ↓evo_put, ↓evo_asgT, ↓evo_par, ↓evo_for, ↓rk_nx, ↓rk_rtt, ↓rk_rtf, ↓rk_exc, ↓rk_bk, ↓rk_ct, ↓fk_nx, ↓fk_ct, ↓fk_bk, ↓fk_rt, ↓fk_exc, ap_var, ap_c, ap_nil, ap_rnil, ap_yes, ap_nopart, ao_nx, ao_bk, ao_ct, ao_retN, ↓evP_some, ↓evP_none, evP_some, evP_none, evP_if, evP_ifn, evP_map, ↓ev_isa, ↓evo_aug, isa, augOf, cIsA, cIsNA, bInt, bStr, bAll, bAny, bSorted, boolsOf_map, revAll, dAddI, ↓ev_lnil, ↓ev_lcons, ↓evo_fnil, intsOf_map, List.drop_succ_cons, List.drop_zero, List.take_succ_cons, List.take_zero, List.length_map, List.drop_nil, List.take_nil, cutL_lo0, cutL_hi0, cutL_lo1, cutL_hi1, cutL_lo2, cutL_hi2, cutL_lo3, cutL_hi3, cutL_lo4, cutL_hi4, cutL_lo5, cutL_hi5, cutL_lo6, cutL_hi6, cutL_lo7, cutL_hi7, cutL_lo8, cutL_hi8, cutL_lo9, cutL_hi9, look, keepV, slotOf, retOf, argOf, mkAs, wb, places, lookAll, Kd.mk, ownL, intOf, items, truth, isNone, kill, outsOf, gtName, gtCons, gtNil, gtTup, dAdd, dSub, dMul, dMod, dDiv, dPow, dNeg, dIx, dSl, cEq, cNe, cI, cIs, cIsN, bLen, bAbs, bSum, bMax, bMin, bTuple, bList, lmAppend, lmExtend, lmPop, lmReverse, lmClear, zipOk, ofStr_inj, atI_0, ixN_0, atI_1, ixN_1, atI_2, ixN_2, atI_3, ixN_3, atI_4, ixN_4, atI_5, ixN_5, atI_6, ixN_6, atI_7, ixN_7, atI_8, ixN_8, atI_9, ixN_9, atI_m1, atI_map, strOk_of, sl_0, sl_1, sl_2, sl_3, sl_4, sl_5, sl_6, sl_7, sl_8, sl_9, sl_10, sl_11, sl_12, cIn_ts1, cIn_ls1, cNotIn_ts1, cNotIn_ls1, cIn_ts2, cIn_ls2, cNotIn_ts2, cNotIn_ls2, cIn_ts3, cIn_ls3, cNotIn_ts3, cNotIn_ls3, cIn_ts4, cIn_ls4, cNotIn_ts4, cNotIn_ls4, cIn_ts5, cIn_ls5, cNotIn_ts5, cNotIn_ls5, cIn_tints, cIn_lints, cNotIn_tints, cNotIn_lints, List.getElem?_cons_zero, List.getElem?_cons_succ, List.getElem?_nil, List.set_cons_zero, List.set_cons_succ, List.set_nil, List.length_cons, List.length_nil, List.cons_append, List.nil_append, List.append_nil, List.map_nil, List.map_cons, List.replicate_succ, List.replicate_zero, Option.map_some, Option.map_none, Option.bind_some, Option.bind_none, List.nodup_cons, List.nodup_nil, List.not_mem_nil, List.mem_cons, List.mem_singleton, not_false_eq_true, and_self, and_true, true_and, or_true, true_or, or_false, false_or, if_true, if_false, ite_true, ite_false, decide_true, decide_false, decide_eq_true_eq, Bool.false_eq_true, reduceCtorEq, PyData.str.injEq, PyData.int.injEq, PyData.bool.injEq, exists_eq_left, exists_eq_left', List.cons.injEq, exists_const, Bool.not_true, Bool.not_false, Bool.and_true, Bool.and_false, Bool.true_and, Nat.reduceAdd, Nat.reduceSub, Nat.reduceMul, Nat.reduceLT, Nat.reduceLeDiff, Nat.reduceEqDiff, Int.reduceLE, Int.reduceLT, Int.reduceNeg, Int.reduceAdd, Int.reduceSub, Int.reduceMul, Int.reduceToNat, Int.reducePow, Int.reduceEq, Int.reduceNe, Int.cast_ofNat_Int, Int.toNat_zero, Int.toNat_one, Int.natCast_add, Int.natCast_zero, Int.natCast_one, Int.ofNat_eq_natCast, Int.le_refl, Nat.le_refl, Nat.zero_add, Int.zero_add, Int.add_zero, String.reduceEq, String.reduceNe, eq_self, ne_eq, not_true_eq_false, not_false_eq_true,  Int.lt_irrefl, decide_not, Nat.reducePow, Int.neg_neg, ↓evo_augI, ↓evo_raise, ↓evo_try, ↓ev_lrg, ↓ev_fl, ↓sk_nx, ↓sk_rt, ↓tk_nx, ↓tk_rt, ↓tk_exc, fields1, fields2, lookup_same, lookup_other, cLeA, bSortedA, bSSetA, intsOf_nil, intsOf_icons, ↓rl0, ↓rl1, ↓rl2, ↓rl3, ↓me0, ↓me1, ↓me2, ↓me3, ↓me_hi, ↓me_lo, set_int, L3.strOf, L3.cNotInS, L3.cInS, ↓ev_m1, ↓ev_strI, ↓evo_par00, ↓ev_get, L3.unD_dict, L3.valO, L3.keyT, L3.keysOf, L3.keyOf, ↓evo_tryK, ↓evo_raise0, ↓kk_nx, ↓kk_rt, ↓kk_exc, ↓ev_isX, ↓ev_flX, isX_kept, flX_kept, isNone_kept, lookN_nil, lookN_cons, lookS_cons, fldIx_nil, fldIx_cons, List.getElem?_nil]
  refine next_spec f1 (by decide) (by decide) (by decide) fun w g2 t2 h3 h4 f2 => ?_
  simp -dsimp only [↓ev_run, ↓ev_ok, ↓ev_exc, ↓ev_bad, ↓ev_op2, ↓ev_op1, ↓ev_cmp, ↓ev_cmpB, ↓ev_chain, ↓ev_chainB, ↓ev_test, ↓ev_andB, ↓ev_orB, ↓ev_notB, ↓ev_andV, ↓ev_orV, ↓ev_notV, ↓ev_if, ↓ev_cons, ↓ev_rcons, ↓ev_tup, ↓ev_lst, ↓ev_call, ↓ev_bi, ↓ev_sl, ↓ev_part, ↓ev_meth, ↓ev_rng1, ↓ev_rng2, ↓ev_seqI, ↓ev_enum, ↓ev_zip, ↓ev_lc, ↓evo_nx, ↓evo_rt, ↓evo_bk, ↓evo_ct, ↓evo_exc, ↓evo_bad, ↓sq_nx, ↓sq_rt, ↓sq_bk, ↓sq_ct, ↓sq_exc, ↓evo_seq, ↓evo_set, ↓evo_drop, ↓evo_if, ↓evo_ret, ↓evo_put, ↓evo_asgT, ↓evo_par, ↓evo_for, ↓rk_nx, ↓rk_rtt, ↓rk_rtf, ↓rk_exc, ↓rk_bk, ↓rk_ct, ↓fk_nx, ↓fk_ct, ↓fk_bk, ↓fk_rt, ↓fk_exc, ap_var, ap_c, ap_nil, ap_rnil, ap_yes, ap_nopart, ao_nx, ao_bk, ao_ct, ao_retN, ↓evP_some, ↓evP_none, evP_some, evP_none, evP_if, evP_ifn, evP_map, ↓ev_isa, ↓evo_aug, isa, augOf, cIsA, cIsNA, bInt, bStr, bAll, bAny, bSorted, boolsOf_map, revAll, dAddI, ↓ev_lnil, ↓ev_lcons, ↓evo_fnil, intsOf_map, List.drop_succ_cons, List.drop_zero, List.take_succ_cons, List.take_zero, List.length_map, List.drop_nil, List.take_nil, cutL_lo0, cutL_hi0, cutL_lo1, cutL_hi1, cutL_lo2, cutL_hi2, cutL_lo3, cutL_hi3, cutL_lo4, cutL_hi4, cutL_lo5, cutL_hi5, cutL_lo6, cutL_hi6, cutL_lo7, cutL_hi7, cutL_lo8, cutL_hi8, cutL_lo9, cutL_hi9, look, keepV, slotOf, retOf, argOf, mkAs, wb, places, lookAll, Kd.mk, ownL, intOf, items, truth, isNone, kill, outsOf, gtName, gtCons, gtNil, gtTup, dAdd, dSub, dMul, dMod, dDiv, dPow, dNeg, dIx, dSl, cEq, cNe, cI, cIs, cIsN, bLen, bAbs, bSum, bMax, bMin, bTuple, bList, lmAppend, lmExtend, lmPop, lmReverse, lmClear, zipOk, ofStr_inj, atI_0, ixN_0, atI_1, ixN_1, atI_2, ixN_2, atI_3, ixN_3, atI_4, ixN_4, atI_5, ixN_5, atI_6, ixN_6, atI_7, ixN_7, atI_8, ixN_8, atI_9, ixN_9, atI_m1, atI_map, strOk_of, sl_0, sl_1, sl_2, sl_3, sl_4, sl_5, sl_6, sl_7, sl_8, sl_9, sl_10, sl_11, sl_12, cIn_ts1, cIn_ls1, cNotIn_ts1, cNotIn_ls1, cIn_ts2, cIn_ls2, cNotIn_ts2, cNotIn_ls2, cIn_ts3, cIn_ls3, cNotIn_ts3, cNotIn_ls3, cIn_ts4, cIn_ls4, cNotIn_ts4, cNotIn_ls4, cIn_ts5, cIn_ls5, cNotIn_ts5, cNotIn_ls5, cIn_tints, cIn_lints, cNotIn_tints, cNotIn_lints, List.getElem?_cons_zero, List.getElem?_cons_succ, List.getElem?_nil, List.set_cons_zero, List.set_cons_succ, List.set_nil, List.length_cons, List.length_nil, List.cons_append, List.nil_append, List.append_nil, List.map_nil, List.map_cons, List.replicate_succ, List.replicate_zero, Option.map_some, Option.map_none, Option.bind_some, Option.bind_none, List.nodup_cons, List.nodup_nil, List.not_mem_nil, List.mem_cons, List.mem_singleton, not_false_eq_true, and_self, and_true, true_and, or_true, true_or, or_false, false_or, if_true, if_false, ite_true, ite_false, decide_true, decide_false, decide_eq_true_eq, Bool.false_eq_true, reduceCtorEq, PyData.str.injEq, PyData.int.injEq, PyData.bool.injEq, exists_eq_left, exists_eq_left', List.cons.injEq, exists_const, Bool.not_true, Bool.not_false, Bool.and_true, Bool.and_false, Bool.true_and, Nat.reduceAdd, Nat.reduceSub, Nat.reduceMul, Nat.reduceLT, Nat.reduceLeDiff, Nat.reduceEqDiff, Int.reduceLE, Int.reduceLT, Int.reduceNeg, Int.reduceAdd, Int.reduceSub, Int.reduceMul, Int.reduceToNat, Int.reducePow, Int.reduceEq, Int.reduceNe, Int.cast_ofNat_Int, Int.toNat_zero, Int.toNat_one, Int.natCast_add, Int.natCast_zero, Int.natCast_one, Int.ofNat_eq_natCast, Int.le_refl, Nat.le_refl, Nat.zero_add, Int.zero_add, Int.add_zero, String.reduceEq, String.reduceNe, eq_self, ne_eq, not_true_eq_false, not_false_eq_true,  Int.lt_irrefl, decide_not, Nat.reducePow, Int.neg_neg, ↓evo_augI, ↓evo_raise, ↓evo_try, ↓ev_lrg, ↓ev_fl, ↓sk_nx, ↓sk_rt, ↓tk_nx, ↓tk_rt, ↓tk_exc, fields1, fields2, lookup_same, lookup_other, cLeA, bSortedA, bSSetA, intsOf_nil, intsOf_icons, ↓rl0, ↓rl1, ↓rl2, ↓rl3, ↓me0, ↓me1, ↓me2, ↓me3, ↓me_hi, ↓me_lo, set_int, L3.strOf, L3.cNotInS, L3.cInS, ↓ev_m1, ↓ev_strI, ↓evo_par00, ↓ev_get, L3.unD_dict, L3.valO, L3.keyT, L3.keysOf, L3.keyOf, ↓evo_tryK, ↓evo_raise0, ↓kk_nx, ↓kk_rt, ↓kk_exc, ↓ev_isX, ↓ev_flX, isX_kept, flX_kept, isNone_kept, lookN_nil, lookN_cons, lookS_cons, fldIx_nil, fldIx_cons, List.getElem?_nil]
  refine ⟨_, _, ⟨rfl, rfl⟩, ?_⟩
  refine one_spec (l := [.str "shape", .str "way", .str "", .str "meet 3", .str "closed"]) f2 (by decide) (by decide) (by decide) fun d g3 t3 hd f3 => ?_
  obtain ⟨x, rfl⟩ : ∃ x : String, d = .str (Str.ofString x) := by
    simp only [List.mem_cons, List.not_mem_nil, or_false] at hd
    rcases hd with rfl | rfl | rfl | rfl | rfl <;> exact ⟨_, rfl⟩
  simp -dsimp only [↓ev_run, ↓ev_ok, ↓ev_exc, ↓ev_bad, ↓ev_op2, ↓ev_op1, ↓ev_cmp, ↓ev_cmpB, ↓ev_chain, ↓ev_chainB, ↓ev_test, ↓ev_andB, ↓ev_orB, ↓ev_notB, ↓ev_andV, ↓ev_orV, ↓ev_notV, ↓ev_if, ↓ev_cons, ↓ev_rcons, ↓ev_tup, ↓ev_lst, ↓ev_call, ↓ev_bi, ↓ev_sl, ↓ev_part, ↓ev_meth, ↓ev_rng1, ↓ev_rng2, ↓ev_seqI, ↓ev_enum, ↓ev_zip, ↓ev_lc, ↓evo_nx, ↓evo_rt, ↓evo_bk, ↓evo_ct, ↓evo_exc, ↓evo_bad, ↓sq_nx, ↓sq_rt, ↓sq_bk, ↓sq_ct, ↓sq_exc, ↓evo_seq, ↓evo_set, ↓evo_drop, ↓evo_if, ↓evo_ret, ↓evo_put, ↓evo_asgT, ↓evo_par, ↓evo_for, ↓rk_nx, ↓rk_rtt, ↓rk_rtf, ↓rk_exc, ↓rk_bk, ↓rk_ct, ↓fk_nx, ↓fk_ct, ↓fk_bk, ↓fk_rt, ↓fk_exc, ap_var, ap_c, ap_nil, ap_rnil, ap_yes, ap_nopart, ao_nx, ao_bk, ao_ct, ao_retN, ↓evP_some, ↓evP_none, evP_some, evP_none, evP_if, evP_ifn, evP_map, ↓ev_isa, ↓evo_aug, isa, augOf, cIsA, cIsNA, bInt, bStr, bAll, bAny, bSorted, boolsOf_map, revAll, dAddI, ↓ev_lnil, ↓ev_lcons, ↓evo_fnil, intsOf_map, List.drop_succ_cons, List.drop_zero, List.take_succ_cons, List.take_zero, List.length_map, List.drop_nil, List.take_nil, cutL_lo0, cutL_hi0, cutL_lo1, cutL_hi1, cutL_lo2, cutL_hi2, cutL_lo3, cutL_hi3, cutL_lo4, cutL_hi4, cutL_lo5, cutL_hi5, cutL_lo6, cutL_hi6, cutL_lo7, cutL_hi7, cutL_lo8, cutL_hi8, cutL_lo9, cutL_hi9, look, keepV, slotOf, retOf, argOf, mkAs, wb, places, lookAll, Kd.mk, ownL, intOf, items, truth, isNone, kill, outsOf, gtName, gtCons, gtNil, gtTup, dAdd, dSub, dMul, dMod, dDiv, dPow, dNeg, dIx, dSl, cEq, cNe, cI, cIs, cIsN, bLen, bAbs, bSum, bMax, bMin, bTuple, bList, lmAppend, lmExtend, lmPop, lmReverse, lmClear, zipOk, ofStr_inj, atI_0, ixN_0, atI_1, ixN_1, atI_2, ixN_2, atI_3, ixN_3, atI_4, ixN_4, atI_5, ixN_5, atI_6, ixN_6, atI_7, ixN_7, atI_8, ixN_8, atI_9, ixN_9, atI_m1, atI_map, strOk_of, sl_0, sl_1, sl_2, sl_3, sl_4, sl_5, sl_6, sl_7, sl_8, sl_9, sl_10, sl_11, sl_12, cIn_ts1, cIn_ls1, cNotIn_ts1, cNotIn_ls1, cIn_ts2, cIn_ls2, cNotIn_ts2, cNotIn_ls2, cIn_ts3, cIn_ls3, cNotIn_ts3, cNotIn_ls3, cIn_ts4, cIn_ls4, cNotIn_ts4, cNotIn_ls4, cIn_ts5, cIn_ls5, cNotIn_ts5, cNotIn_ls5, cIn_tints, cIn_lints, cNotIn_tints, cNotIn_lints, List.getElem?_cons_zero, List.getElem?_cons_succ, List.getElem?_nil, List.set_cons_zero, List.set_cons_succ, List.set_nil, List.length_cons, List.length_nil, List.cons_append, List.nil_append, List.append_nil, List.map_nil, List.map_cons, List.replicate_succ, List.replicate_zero, Option.map_some, Option.map_none, Option.bind_some, Option.bind_none, List.nodup_cons, List.nodup_nil, List.not_mem_nil, List.mem_cons, List.mem_singleton, not_false_eq_true, and_self, and_true, true_and, or_true, true_or, or_false, false_or, if_true, if_false, ite_true, ite_false, decide_true, decide_false, decide_eq_true_eq, Bool.false_eq_true, reduceCtorEq, PyData.str.injEq, PyData.int.injEq, PyData.bool.injEq, exists_eq_left, exists_eq_left', List.cons.injEq, exists_const, Bool.not_true, Bool.not_false, Bool.and_true, Bool.and_false, Bool.true_and, Nat.reduceAdd, Nat.reduceSub, Nat.reduceMul, Nat.reduceLT, Nat.reduceLeDiff, Nat.reduceEqDiff, Int.reduceLE, Int.reduceLT, Int.reduceNeg, Int.reduceAdd, Int.reduceSub, Int.reduceMul, Int.reduceToNat, Int.reducePow, Int.reduceEq, Int.reduceNe, Int.cast_ofNat_Int, Int.toNat_zero, Int.toNat_one, Int.natCast_add, Int.natCast_zero, Int.natCast_one, Int.ofNat_eq_natCast, Int.le_refl, Nat.le_refl, Nat.zero_add, Int.zero_add, Int.add_zero, String.reduceEq, String.reduceNe, eq_self, ne_eq, not_true_eq_false, not_false_eq_true,  Int.lt_irrefl, decide_not, Nat.reducePow, Int.neg_neg, ↓evo_augI, ↓evo_raise, ↓evo_try, ↓ev_lrg, ↓ev_fl, ↓sk_nx, ↓sk_rt, ↓tk_nx, ↓tk_rt, ↓tk_exc, fields1, fields2, lookup_same, lookup_other, cLeA, bSortedA, bSSetA, intsOf_nil, intsOf_icons, ↓rl0, ↓rl1, ↓rl2, ↓rl3, ↓me0, ↓me1, ↓me2, ↓me3, ↓me_hi, ↓me_lo, set_int, L3.strOf, L3.cNotInS, L3.cInS, ↓ev_m1, ↓ev_strI, ↓evo_par00, ↓ev_get, L3.unD_dict, L3.valO, L3.keyT, L3.keysOf, L3.keyOf, ↓evo_tryK, ↓evo_raise0, ↓kk_nx, ↓kk_rt, ↓kk_exc, ↓ev_isX, ↓ev_flX, isX_kept, flX_kept, isNone_kept, lookN_nil, lookN_cons, lookS_cons, fldIx_nil, fldIx_cons, List.getElem?_nil]
  have e0 : cNe (.tuple [.int v, .int w]) (.tuple [.int v, .int w]) = some false := cNe_self rfl (by simp [PyData.eqvAll, PyData.eqv])
  have e1 : cNe (.tuple [.int v]) (.tuple [.int v]) = some false := cNe_self rfl (by simp [PyData.eqvAll, PyData.eqv])
  have hs2 : SeqAt.shaped (.tuple [.str (Str.ofString x), .int w]) = true := (Dat.tup (DatL.cons (Dat.str (b := 50) (s := x) |>.mono (c2 := 10 * x.length + 2) (p2 := 1) (by omega) (by decide)) (DatL.one ((Dat.int (b := 50) (by omega)).mono (p2 := 1) (Nat.le_refl _) (by decide))))).shaped (by decide)
  have hs3 : SeqAt.shaped (.tuple [.str (Str.ofString x)]) = true := (Dat.tup (DatL.one (Dat.str (b := 50) (s := x)))).shaped (by decide)
  have e2 : cNe (.tuple [.str (Str.ofString x), .int w]) (.tuple [.str (Str.ofString x), .int w]) = some false := cNe_self hs2 (by simp [PyData.eqvAll, PyData.eqv])
  have e3 : cNe (.tuple []) (.tuple ([] : List D)) = some false := cNe_self rfl rfl
  have e4 : cNe (.tuple [.str (Str.ofString x)]) (.tuple [.str (Str.ofString x)]) = some false := cNe_self hs3 (by simp [PyData.eqvAll, PyData.eqv])
  have up7 : upto 0 7 = [.int 0, .int 1, .int 2, .int 3, .int 4, .int 5, .int 6] := rfl
  have f0 : cNe (.list [.bool true, .bool false, .bool false, .bool false, .bool false, .bool false, .bool false]) (.list [.bool true, .bool false, .bool false, .bool false, .bool false, .bool false, .bool false]) = some false := by decide +kernel
  have f1 : cNe (.list [.bool false, .bool true, .bool false, .bool false, .bool false, .bool false, .bool false]) (.list [.bool false, .bool true, .bool false, .bool false, .bool false, .bool false, .bool false]) = some false := by decide +kernel
  have f2 : cNe (.list [.bool false, .bool false, .bool true, .bool false, .bool false, .bool false, .bool false]) (.list [.bool false, .bool false, .bool true, .bool false, .bool false, .bool false, .bool false]) = some false := by decide +kernel
  have f3 : cNe (.list [.bool false, .bool false, .bool false, .bool true, .bool false, .bool false, .bool false]) (.list [.bool false, .bool false, .bool false, .bool true, .bool false, .bool false, .bool false]) = some false := by decide +kernel
  have f4 : cNe (.list [.bool false, .bool false, .bool false, .bool false, .bool true, .bool false, .bool false]) (.list [.bool false, .bool false, .bool false, .bool false, .bool true, .bool false, .bool false]) = some false := by decide +kernel
  have f5 : cNe (.list [.bool false, .bool false, .bool false, .bool false, .bool false, .bool true, .bool false]) (.list [.bool false, .bool false, .bool false, .bool false, .bool false, .bool true, .bool false]) = some false := by decide +kernel
  have f6 : cNe (.list [.bool false, .bool false, .bool false, .bool false, .bool false, .bool false, .bool true]) (.list [.bool false, .bool false, .bool false, .bool false, .bool false, .bool false, .bool true]) = some false := by decide +kernel
  refine for_none (fun i d hd => ?_) ?_
  · obtain ⟨hi, rfl⟩ := upto_get0 hd
    have hi : i < 7 := by simpa using hi
    have hc : i = 0 ∨ i = 1 ∨ i = 2 ∨ i = 3 ∨ i = 4 ∨ i = 5 ∨ i = 6 := by omega
    rcases hc with rfl | rfl | rfl | rfl | rfl | rfl | rfl
    · simp -dsimp only [↓ev_run, ↓ev_ok, ↓ev_exc, ↓ev_bad, ↓ev_op2, ↓ev_op1, ↓ev_cmp, ↓ev_cmpB, ↓ev_chain, ↓ev_chainB, ↓ev_test, ↓ev_andB, ↓ev_orB, ↓ev_notB, ↓ev_andV, ↓ev_orV, ↓ev_notV, ↓ev_if, ↓ev_cons, ↓ev_rcons, ↓ev_tup, ↓ev_lst, ↓ev_call, ↓ev_bi, ↓ev_sl, ↓ev_part, ↓ev_meth, ↓ev_rng1, ↓ev_rng2, ↓ev_seqI, ↓ev_enum, ↓ev_zip, ↓ev_lc, ↓evo_nx, ↓evo_rt, ↓evo_bk, ↓evo_ct, ↓evo_exc, ↓evo_bad, ↓sq_nx, ↓sq_rt, ↓sq_bk, ↓sq_ct, ↓sq_exc, ↓evo_seq, ↓evo_set, ↓evo_drop, ↓evo_if, ↓evo_ret, ↓evo_put, ↓evo_asgT, ↓evo_par, ↓evo_for, ↓rk_nx, ↓rk_rtt, ↓rk_rtf, ↓rk_exc, ↓rk_bk, ↓rk_ct, ↓fk_nx, ↓fk_ct, ↓fk_bk, ↓fk_rt, ↓fk_exc, ap_var, ap_c, ap_nil, ap_rnil, ap_yes, ap_nopart, ao_nx, ao_bk, ao_ct, ao_retN, ↓evP_some, ↓evP_none, evP_some, evP_none, evP_if, evP_ifn, evP_map, ↓ev_isa, ↓evo_aug, isa, augOf, cIsA, cIsNA, bInt, bStr, bAll, bAny, bSorted, boolsOf_map, revAll, dAddI, ↓ev_lnil, ↓ev_lcons, ↓evo_fnil, intsOf_map, List.drop_succ_cons, List.drop_zero, List.take_succ_cons, List.take_zero, List.length_map, List.drop_nil, List.take_nil, cutL_lo0, cutL_hi0, cutL_lo1, cutL_hi1, cutL_lo2, cutL_hi2, cutL_lo3, cutL_hi3, cutL_lo4, cutL_hi4, cutL_lo5, cutL_hi5, cutL_lo6, cutL_hi6, cutL_lo7, cutL_hi7, cutL_lo8, cutL_hi8, cutL_lo9, cutL_hi9, look, keepV, slotOf, retOf, argOf, mkAs, wb, places, lookAll, Kd.mk, ownL, intOf, items, truth, isNone, kill, outsOf, gtName, gtCons, gtNil, gtTup, dAdd, dSub, dMul, dMod, dDiv, dPow, dNeg, dIx, dSl, cEq, cNe, cI, cIs, cIsN, bLen, bAbs, bSum, bMax, bMin, bTuple, bList, lmAppend, lmExtend, lmPop, lmReverse, lmClear, zipOk, ofStr_inj, atI_0, ixN_0, atI_1, ixN_1, atI_2, ixN_2, atI_3, ixN_3, atI_4, ixN_4, atI_5, ixN_5, atI_6, ixN_6, atI_7, ixN_7, atI_8, ixN_8, atI_9, ixN_9, atI_m1, atI_map, strOk_of, sl_0, sl_1, sl_2, sl_3, sl_4, sl_5, sl_6, sl_7, sl_8, sl_9, sl_10, sl_11, sl_12, cIn_ts1, cIn_ls1, cNotIn_ts1, cNotIn_ls1, cIn_ts2, cIn_ls2, cNotIn_ts2, cNotIn_ls2, cIn_ts3, cIn_ls3, cNotIn_ts3, cNotIn_ls3, cIn_ts4, cIn_ls4, cNotIn_ts4, cNotIn_ls4, cIn_ts5, cIn_ls5, cNotIn_ts5, cNotIn_ls5, cIn_tints, cIn_lints, cNotIn_tints, cNotIn_lints, List.getElem?_cons_zero, List.getElem?_cons_succ, List.getElem?_nil, List.set_cons_zero, List.set_cons_succ, List.set_nil, List.length_cons, List.length_nil, List.cons_append, List.nil_append, List.append_nil, List.map_nil, List.map_cons, List.replicate_succ, List.replicate_zero, Option.map_some, Option.map_none, Option.bind_some, Option.bind_none, List.nodup_cons, List.nodup_nil, List.not_mem_nil, List.mem_cons, List.mem_singleton, not_false_eq_true, and_self, and_true, true_and, or_true, true_or, or_false, false_or, if_true, if_false, ite_true, ite_false, decide_true, decide_false, decide_eq_true_eq, Bool.false_eq_true, reduceCtorEq, PyData.str.injEq, PyData.int.injEq, PyData.bool.injEq, exists_eq_left, exists_eq_left', List.cons.injEq, exists_const, Bool.not_true, Bool.not_false, Bool.and_true, Bool.and_false, Bool.true_and, Nat.reduceAdd, Nat.reduceSub, Nat.reduceMul, Nat.reduceLT, Nat.reduceLeDiff, Nat.reduceEqDiff, Int.reduceLE, Int.reduceLT, Int.reduceNeg, Int.reduceAdd, Int.reduceSub, Int.reduceMul, Int.reduceToNat, Int.reducePow, Int.reduceEq, Int.reduceNe, Int.cast_ofNat_Int, Int.toNat_zero, Int.toNat_one, Int.natCast_add, Int.natCast_zero, Int.natCast_one, Int.ofNat_eq_natCast, Int.le_refl, Nat.le_refl, Nat.zero_add, Int.zero_add, Int.add_zero, String.reduceEq, String.reduceNe, eq_self, ne_eq, not_true_eq_false, not_false_eq_true,  Int.lt_irrefl, decide_not, Nat.reducePow, Int.neg_neg, ↓evo_augI, ↓evo_raise, ↓evo_try, ↓ev_lrg, ↓ev_fl, ↓sk_nx, ↓sk_rt, ↓tk_nx, ↓tk_rt, ↓tk_exc, fields1, fields2, lookup_same, lookup_other, cLeA, bSortedA, bSSetA, intsOf_nil, intsOf_icons, ↓rl0, ↓rl1, ↓rl2, ↓rl3, ↓me0, ↓me1, ↓me2, ↓me3, ↓me_hi, ↓me_lo, set_int, L3.strOf, L3.cNotInS, L3.cInS, ↓ev_m1, ↓ev_strI, ↓evo_par00, ↓ev_get, L3.unD_dict, L3.valO, L3.keyT, L3.keysOf, L3.keyOf, ↓evo_tryK, ↓evo_raise0, ↓kk_nx, ↓kk_rt, ↓kk_exc, ↓ev_isX, ↓ev_flX, isX_kept, flX_kept, isNone_kept, lookN_nil, lookN_cons, lookS_cons, fldIx_nil, fldIx_cons, List.getElem?_nil]
      unfold F__law_raised b__law_raised
      simp -dsimp only [↓ev_run, ↓ev_ok, ↓ev_exc, ↓ev_bad, ↓ev_op2, ↓ev_op1, ↓ev_cmp, ↓ev_cmpB, ↓ev_chain, ↓ev_chainB, ↓ev_test, ↓ev_andB, ↓ev_orB, ↓ev_notB, ↓ev_andV, ↓ev_orV, ↓ev_notV, ↓ev_if, ↓ev_cons, ↓ev_rcons, ↓ev_tup, ↓ev_lst, ↓ev_call, ↓ev_bi, ↓ev_sl, ↓ev_part, ↓ev_meth, ↓ev_rng1, ↓ev_rng2, ↓ev_seqI, ↓ev_enum, ↓ev_zip, ↓ev_lc, ↓evo_nx, ↓evo_rt, ↓evo_bk, ↓evo_ct, ↓evo_exc, ↓evo_bad, ↓sq_nx, ↓sq_rt, ↓sq_bk, ↓sq_ct, ↓sq_exc, ↓evo_seq, ↓evo_set, ↓evo_drop, ↓evo_if, ↓evo_ret, ↓evo_put, ↓evo_asgT, ↓evo_par, ↓evo_for, ↓rk_nx, ↓rk_rtt, ↓rk_rtf, ↓rk_exc, ↓rk_bk, ↓rk_ct, ↓fk_nx, ↓fk_ct, ↓fk_bk, ↓fk_rt, ↓fk_exc, ap_var, ap_c, ap_nil, ap_rnil, ap_yes, ap_nopart, ao_nx, ao_bk, ao_ct, ao_retN, ↓evP_some, ↓evP_none, evP_some, evP_none, evP_if, evP_ifn, evP_map, ↓ev_isa, ↓evo_aug, isa, augOf, cIsA, cIsNA, bInt, bStr, bAll, bAny, bSorted, boolsOf_map, revAll, dAddI, ↓ev_lnil, ↓ev_lcons, ↓evo_fnil, intsOf_map, List.drop_succ_cons, List.drop_zero, List.take_succ_cons, List.take_zero, List.length_map, List.drop_nil, List.take_nil, cutL_lo0, cutL_hi0, cutL_lo1, cutL_hi1, cutL_lo2, cutL_hi2, cutL_lo3, cutL_hi3, cutL_lo4, cutL_hi4, cutL_lo5, cutL_hi5, cutL_lo6, cutL_hi6, cutL_lo7, cutL_hi7, cutL_lo8, cutL_hi8, cutL_lo9, cutL_hi9, look, keepV, slotOf, retOf, argOf, mkAs, wb, places, lookAll, Kd.mk, ownL, intOf, items, truth, isNone, kill, outsOf, gtName, gtCons, gtNil, gtTup, dAdd, dSub, dMul, dMod, dDiv, dPow, dNeg, dIx, dSl, cEq, cNe, cI, cIs, cIsN, bLen, bAbs, bSum, bMax, bMin, bTuple, bList, lmAppend, lmExtend, lmPop, lmReverse, lmClear, zipOk, ofStr_inj, atI_0, ixN_0, atI_1, ixN_1, atI_2, ixN_2, atI_3, ixN_3, atI_4, ixN_4, atI_5, ixN_5, atI_6, ixN_6, atI_7, ixN_7, atI_8, ixN_8, atI_9, ixN_9, atI_m1, atI_map, strOk_of, sl_0, sl_1, sl_2, sl_3, sl_4, sl_5, sl_6, sl_7, sl_8, sl_9, sl_10, sl_11, sl_12, cIn_ts1, cIn_ls1, cNotIn_ts1, cNotIn_ls1, cIn_ts2, cIn_ls2, cNotIn_ts2, cNotIn_ls2, cIn_ts3, cIn_ls3, cNotIn_ts3, cNotIn_ls3, cIn_ts4, cIn_ls4, cNotIn_ts4, cNotIn_ls4, cIn_ts5, cIn_ls5, cNotIn_ts5, cNotIn_ls5, cIn_tints, cIn_lints, cNotIn_tints, cNotIn_lints, List.getElem?_cons_zero, List.getElem?_cons_succ, List.getElem?_nil, List.set_cons_zero, List.set_cons_succ, List.set_nil, List.length_cons, List.length_nil, List.cons_append, List.nil_append, List.append_nil, List.map_nil, List.map_cons, List.replicate_succ, List.replicate_zero, Option.map_some, Option.map_none, Option.bind_some, Option.bind_none, List.nodup_cons, List.nodup_nil, List.not_mem_nil, List.mem_cons, List.mem_singleton, not_false_eq_true, and_self, and_true, true_and, or_true, true_or, or_false, false_or, if_true, if_false, ite_true, ite_false, decide_true, decide_false, decide_eq_true_eq, Bool.false_eq_true, reduceCtorEq, PyData.str.injEq, PyData.int.injEq, PyData.bool.injEq, exists_eq_left, exists_eq_left', List.cons.injEq, exists_const, Bool.not_true, Bool.not_false, Bool.and_true, Bool.and_false, Bool.true_and, Nat.reduceAdd, Nat.reduceSub, Nat.reduceMul, Nat.reduceLT, Nat.reduceLeDiff, Nat.reduceEqDiff, Int.reduceLE, Int.reduceLT, Int.reduceNeg, Int.reduceAdd, Int.reduceSub, Int.reduceMul, Int.reduceToNat, Int.reducePow, Int.reduceEq, Int.reduceNe, Int.cast_ofNat_Int, Int.toNat_zero, Int.toNat_one, Int.natCast_add, Int.natCast_zero, Int.natCast_one, Int.ofNat_eq_natCast, Int.le_refl, Nat.le_refl, Nat.zero_add, Int.zero_add, Int.add_zero, String.reduceEq, String.reduceNe, eq_self, ne_eq, not_true_eq_false, not_false_eq_true,  Int.lt_irrefl, decide_not, Nat.reducePow, Int.neg_neg, ↓evo_augI, ↓evo_raise, ↓evo_try, ↓ev_lrg, ↓ev_fl, ↓sk_nx, ↓sk_rt, ↓tk_nx, ↓tk_rt, ↓tk_exc, fields1, fields2, lookup_same, lookup_other, cLeA, bSortedA, bSSetA, intsOf_nil, intsOf_icons, ↓rl0, ↓rl1, ↓rl2, ↓rl3, ↓me0, ↓me1, ↓me2, ↓me3, ↓me_hi, ↓me_lo, set_int, L3.strOf, L3.cNotInS, L3.cInS, ↓ev_m1, ↓ev_strI, ↓evo_par00, ↓ev_get, L3.unD_dict, L3.valO, L3.keyT, L3.keysOf, L3.keyOf, ↓evo_tryK, ↓evo_raise0, ↓kk_nx, ↓kk_rt, ↓kk_exc, ↓ev_isX, ↓ev_flX, isX_kept, flX_kept, isNone_kept, lookN_nil, lookN_cons, lookS_cons, fldIx_nil, fldIx_cons, List.getElem?_nil]
      unfold F__law_fields b__law_fields
      simp -dsimp only [↓ev_run, ↓ev_ok, ↓ev_exc, ↓ev_bad, ↓ev_op2, ↓ev_op1, ↓ev_cmp, ↓ev_cmpB, ↓ev_chain, ↓ev_chainB, ↓ev_test, ↓ev_andB, ↓ev_orB, ↓ev_notB, ↓ev_andV, ↓ev_orV, ↓ev_notV, ↓ev_if, ↓ev_cons, ↓ev_rcons, ↓ev_tup, ↓ev_lst, ↓ev_call, ↓ev_bi, ↓ev_sl, ↓ev_part, ↓ev_meth, ↓ev_rng1, ↓ev_rng2, ↓ev_seqI, ↓ev_enum, ↓ev_zip, ↓ev_lc, ↓evo_nx, ↓evo_rt, ↓evo_bk, ↓evo_ct, ↓evo_exc, ↓evo_bad, ↓sq_nx, ↓sq_rt, ↓sq_bk, ↓sq_ct, ↓sq_exc, ↓evo_seq, ↓evo_set, ↓evo_drop, ↓evo_if, ↓evo_ret, ↓evo_put, ↓evo_asgT, ↓evo_par, ↓evo_for, ↓rk_nx, ↓rk_rtt, ↓rk_rtf, ↓rk_exc, ↓rk_bk, ↓rk_ct, ↓fk_nx, ↓fk_ct, ↓fk_bk, ↓fk_rt, ↓fk_exc, ap_var, ap_c, ap_nil, ap_rnil, ap_yes, ap_nopart, ao_nx, ao_bk, ao_ct, ao_retN, ↓evP_some, ↓evP_none, evP_some, evP_none, evP_if, evP_ifn, evP_map, ↓ev_isa, ↓evo_aug, isa, augOf, cIsA, cIsNA, bInt, bStr, bAll, bAny, bSorted, boolsOf_map, revAll, dAddI, ↓ev_lnil, ↓ev_lcons, ↓evo_fnil, intsOf_map, List.drop_succ_cons, List.drop_zero, List.take_succ_cons, List.take_zero, List.length_map, List.drop_nil, List.take_nil, cutL_lo0, cutL_hi0, cutL_lo1, cutL_hi1, cutL_lo2, cutL_hi2, cutL_lo3, cutL_hi3, cutL_lo4, cutL_hi4, cutL_lo5, cutL_hi5, cutL_lo6, cutL_hi6, cutL_lo7, cutL_hi7, cutL_lo8, cutL_hi8, cutL_lo9, cutL_hi9, look, keepV, slotOf, retOf, argOf, mkAs, wb, places, lookAll, Kd.mk, ownL, intOf, items, truth, isNone, kill, outsOf, gtName, gtCons, gtNil, gtTup, dAdd, dSub, dMul, dMod, dDiv, dPow, dNeg, dIx, dSl, cEq, cNe, cI, cIs, cIsN, bLen, bAbs, bSum, bMax, bMin, bTuple, bList, lmAppend, lmExtend, lmPop, lmReverse, lmClear, zipOk, ofStr_inj, atI_0, ixN_0, atI_1, ixN_1, atI_2, ixN_2, atI_3, ixN_3, atI_4, ixN_4, atI_5, ixN_5, atI_6, ixN_6, atI_7, ixN_7, atI_8, ixN_8, atI_9, ixN_9, atI_m1, atI_map, strOk_of, sl_0, sl_1, sl_2, sl_3, sl_4, sl_5, sl_6, sl_7, sl_8, sl_9, sl_10, sl_11, sl_12, cIn_ts1, cIn_ls1, cNotIn_ts1, cNotIn_ls1, cIn_ts2, cIn_ls2, cNotIn_ts2, cNotIn_ls2, cIn_ts3, cIn_ls3, cNotIn_ts3, cNotIn_ls3, cIn_ts4, cIn_ls4, cNotIn_ts4, cNotIn_ls4, cIn_ts5, cIn_ls5, cNotIn_ts5, cNotIn_ls5, cIn_tints, cIn_lints, cNotIn_tints, cNotIn_lints, List.getElem?_cons_zero, List.getElem?_cons_succ, List.getElem?_nil, List.set_cons_zero, List.set_cons_succ, List.set_nil, List.length_cons, List.length_nil, List.cons_append, List.nil_append, List.append_nil, List.map_nil, List.map_cons, List.replicate_succ, List.replicate_zero, Option.map_some, Option.map_none, Option.bind_some, Option.bind_none, List.nodup_cons, List.nodup_nil, List.not_mem_nil, List.mem_cons, List.mem_singleton, not_false_eq_true, and_self, and_true, true_and, or_true, true_or, or_false, false_or, if_true, if_false, ite_true, ite_false, decide_true, decide_false, decide_eq_true_eq, Bool.false_eq_true, reduceCtorEq, PyData.str.injEq, PyData.int.injEq, PyData.bool.injEq, exists_eq_left, exists_eq_left', List.cons.injEq, exists_const, Bool.not_true, Bool.not_false, Bool.and_true, Bool.and_false, Bool.true_and, Nat.reduceAdd, Nat.reduceSub, Nat.reduceMul, Nat.reduceLT, Nat.reduceLeDiff, Nat.reduceEqDiff, Int.reduceLE, Int.reduceLT, Int.reduceNeg, Int.reduceAdd, Int.reduceSub, Int.reduceMul, Int.reduceToNat, Int.reducePow, Int.reduceEq, Int.reduceNe, Int.cast_ofNat_Int, Int.toNat_zero, Int.toNat_one, Int.natCast_add, Int.natCast_zero, Int.natCast_one, Int.ofNat_eq_natCast, Int.le_refl, Nat.le_refl, Nat.zero_add, Int.zero_add, Int.add_zero, String.reduceEq, String.reduceNe, eq_self, ne_eq, not_true_eq_false, not_false_eq_true,  Int.lt_irrefl, decide_not, Nat.reducePow, Int.neg_neg, ↓evo_augI, ↓evo_raise, ↓evo_try, ↓ev_lrg, ↓ev_fl, ↓sk_nx, ↓sk_rt, ↓tk_nx, ↓tk_rt, ↓tk_exc, fields1, fields2, lookup_same, lookup_other, cLeA, bSortedA, bSSetA, intsOf_nil, intsOf_icons, ↓rl0, ↓rl1, ↓rl2, ↓rl3, ↓me0, ↓me1, ↓me2, ↓me3, ↓me_hi, ↓me_lo, set_int, L3.strOf, L3.cNotInS, L3.cInS, ↓ev_m1, ↓ev_strI, ↓evo_par00, ↓ev_get, L3.unD_dict, L3.valO, L3.keyT, L3.keysOf, L3.keyOf, ↓evo_tryK, ↓evo_raise0, ↓kk_nx, ↓kk_rt, ↓kk_exc, ↓ev_isX, ↓ev_flX, isX_kept, flX_kept, isNone_kept, lookN_nil, lookN_cons, lookS_cons, fldIx_nil, fldIx_cons, List.getElem?_nil, ↓e0]
      unfold F__law_sorts b__law_sorts
      simp -dsimp only [↓ev_run, ↓ev_ok, ↓ev_exc, ↓ev_bad, ↓ev_op2, ↓ev_op1, ↓ev_cmp, ↓ev_cmpB, ↓ev_chain, ↓ev_chainB, ↓ev_test, ↓ev_andB, ↓ev_orB, ↓ev_notB, ↓ev_andV, ↓ev_orV, ↓ev_notV, ↓ev_if, ↓ev_cons, ↓ev_rcons, ↓ev_tup, ↓ev_lst, ↓ev_call, ↓ev_bi, ↓ev_sl, ↓ev_part, ↓ev_meth, ↓ev_rng1, ↓ev_rng2, ↓ev_seqI, ↓ev_enum, ↓ev_zip, ↓ev_lc, ↓evo_nx, ↓evo_rt, ↓evo_bk, ↓evo_ct, ↓evo_exc, ↓evo_bad, ↓sq_nx, ↓sq_rt, ↓sq_bk, ↓sq_ct, ↓sq_exc, ↓evo_seq, ↓evo_set, ↓evo_drop, ↓evo_if, ↓evo_ret, ↓evo_put, ↓evo_asgT, ↓evo_par, ↓evo_for, ↓rk_nx, ↓rk_rtt, ↓rk_rtf, ↓rk_exc, ↓rk_bk, ↓rk_ct, ↓fk_nx, ↓fk_ct, ↓fk_bk, ↓fk_rt, ↓fk_exc, ap_var, ap_c, ap_nil, ap_rnil, ap_yes, ap_nopart, ao_nx, ao_bk, ao_ct, ao_retN, ↓evP_some, ↓evP_none, evP_some, evP_none, evP_if, evP_ifn, evP_map, ↓ev_isa, ↓evo_aug, isa, augOf, cIsA, cIsNA, bInt, bStr, bAll, bAny, bSorted, boolsOf_map, revAll, dAddI, ↓ev_lnil, ↓ev_lcons, ↓evo_fnil, intsOf_map, List.drop_succ_cons, List.drop_zero, List.take_succ_cons, List.take_zero, List.length_map, List.drop_nil, List.take_nil, cutL_lo0, cutL_hi0, cutL_lo1, cutL_hi1, cutL_lo2, cutL_hi2, cutL_lo3, cutL_hi3, cutL_lo4, cutL_hi4, cutL_lo5, cutL_hi5, cutL_lo6, cutL_hi6, cutL_lo7, cutL_hi7, cutL_lo8, cutL_hi8, cutL_lo9, cutL_hi9, look, keepV, slotOf, retOf, argOf, mkAs, wb, places, lookAll, Kd.mk, ownL, intOf, items, truth, isNone, kill, outsOf, gtName, gtCons, gtNil, gtTup, dAdd, dSub, dMul, dMod, dDiv, dPow, dNeg, dIx, dSl, cEq, cNe, cI, cIs, cIsN, bLen, bAbs, bSum, bMax, bMin, bTuple, bList, lmAppend, lmExtend, lmPop, lmReverse, lmClear, zipOk, ofStr_inj, atI_0, ixN_0, atI_1, ixN_1, atI_2, ixN_2, atI_3, ixN_3, atI_4, ixN_4, atI_5, ixN_5, atI_6, ixN_6, atI_7, ixN_7, atI_8, ixN_8, atI_9, ixN_9, atI_m1, atI_map, strOk_of, sl_0, sl_1, sl_2, sl_3, sl_4, sl_5, sl_6, sl_7, sl_8, sl_9, sl_10, sl_11, sl_12, cIn_ts1, cIn_ls1, cNotIn_ts1, cNotIn_ls1, cIn_ts2, cIn_ls2, cNotIn_ts2, cNotIn_ls2, cIn_ts3, cIn_ls3, cNotIn_ts3, cNotIn_ls3, cIn_ts4, cIn_ls4, cNotIn_ts4, cNotIn_ls4, cIn_ts5, cIn_ls5, cNotIn_ts5, cNotIn_ls5, cIn_tints, cIn_lints, cNotIn_tints, cNotIn_lints, List.getElem?_cons_zero, List.getElem?_cons_succ, List.getElem?_nil, List.set_cons_zero, List.set_cons_succ, List.set_nil, List.length_cons, List.length_nil, List.cons_append, List.nil_append, List.append_nil, List.map_nil, List.map_cons, List.replicate_succ, List.replicate_zero, Option.map_some, Option.map_none, Option.bind_some, Option.bind_none, List.nodup_cons, List.nodup_nil, List.not_mem_nil, List.mem_cons, List.mem_singleton, not_false_eq_true, and_self, and_true, true_and, or_true, true_or, or_false, false_or, if_true, if_false, ite_true, ite_false, decide_true, decide_false, decide_eq_true_eq, Bool.false_eq_true, reduceCtorEq, PyData.str.injEq, PyData.int.injEq, PyData.bool.injEq, exists_eq_left, exists_eq_left', List.cons.injEq, exists_const, Bool.not_true, Bool.not_false, Bool.and_true, Bool.and_false, Bool.true_and, Nat.reduceAdd, Nat.reduceSub, Nat.reduceMul, Nat.reduceLT, Nat.reduceLeDiff, Nat.reduceEqDiff, Int.reduceLE, Int.reduceLT, Int.reduceNeg, Int.reduceAdd, Int.reduceSub, Int.reduceMul, Int.reduceToNat, Int.reducePow, Int.reduceEq, Int.reduceNe, Int.cast_ofNat_Int, Int.toNat_zero, Int.toNat_one, Int.natCast_add, Int.natCast_zero, Int.natCast_one, Int.ofNat_eq_natCast, Int.le_refl, Nat.le_refl, Nat.zero_add, Int.zero_add, Int.add_zero, String.reduceEq, String.reduceNe, eq_self, ne_eq, not_true_eq_false, not_false_eq_true,  Int.lt_irrefl, decide_not, Nat.reducePow, Int.neg_neg, ↓evo_augI, ↓evo_raise, ↓evo_try, ↓ev_lrg, ↓ev_fl, ↓sk_nx, ↓sk_rt, ↓tk_nx, ↓tk_rt, ↓tk_exc, fields1, fields2, lookup_same, lookup_other, cLeA, bSortedA, bSSetA, intsOf_nil, intsOf_icons, ↓rl0, ↓rl1, ↓rl2, ↓rl3, ↓me0, ↓me1, ↓me2, ↓me3, ↓me_hi, ↓me_lo, set_int, L3.strOf, L3.cNotInS, L3.cInS, ↓ev_m1, ↓ev_strI, ↓evo_par00, ↓ev_get, L3.unD_dict, L3.valO, L3.keyT, L3.keysOf, L3.keyOf, ↓evo_tryK, ↓evo_raise0, ↓kk_nx, ↓kk_rt, ↓kk_exc, ↓ev_isX, ↓ev_flX, isX_kept, flX_kept, isNone_kept, lookN_nil, lookN_cons, lookS_cons, fldIx_nil, fldIx_cons, List.getElem?_nil, ↓up7, ↓f0]
    · simp -dsimp only [↓ev_run, ↓ev_ok, ↓ev_exc, ↓ev_bad, ↓ev_op2, ↓ev_op1, ↓ev_cmp, ↓ev_cmpB, ↓ev_chain, ↓ev_chainB, ↓ev_test, ↓ev_andB, ↓ev_orB, ↓ev_notB, ↓ev_andV, ↓ev_orV, ↓ev_notV, ↓ev_if, ↓ev_cons, ↓ev_rcons, ↓ev_tup, ↓ev_lst, ↓ev_call, ↓ev_bi, ↓ev_sl, ↓ev_part, ↓ev_meth, ↓ev_rng1, ↓ev_rng2, ↓ev_seqI, ↓ev_enum, ↓ev_zip, ↓ev_lc, ↓evo_nx, ↓evo_rt, ↓evo_bk, ↓evo_ct, ↓evo_exc, ↓evo_bad, ↓sq_nx, ↓sq_rt, ↓sq_bk, ↓sq_ct, ↓sq_exc, ↓evo_seq, ↓evo_set, ↓evo_drop, ↓evo_if, ↓evo_ret, ↓evo_put, ↓evo_asgT, ↓evo_par, ↓evo_for, ↓rk_nx, ↓rk_rtt, ↓rk_rtf, ↓rk_exc, ↓rk_bk, ↓rk_ct, ↓fk_nx, ↓fk_ct, ↓fk_bk, ↓fk_rt, ↓fk_exc, ap_var, ap_c, ap_nil, ap_rnil, ap_yes, ap_nopart, ao_nx, ao_bk, ao_ct, ao_retN, ↓evP_some, ↓evP_none, evP_some, evP_none, evP_if, evP_ifn, evP_map, ↓ev_isa, ↓evo_aug, isa, augOf, cIsA, cIsNA, bInt, bStr, bAll, bAny, bSorted, boolsOf_map, revAll, dAddI, ↓ev_lnil, ↓ev_lcons, ↓evo_fnil, intsOf_map, List.drop_succ_cons, List.drop_zero, List.take_succ_cons, List.take_zero, List.length_map, List.drop_nil, List.take_nil, cutL_lo0, cutL_hi0, cutL_lo1, cutL_hi1, cutL_lo2, cutL_hi2, cutL_lo3, cutL_hi3, cutL_lo4, cutL_hi4, cutL_lo5, cutL_hi5, cutL_lo6, cutL_hi6, cutL_lo7, cutL_hi7, cutL_lo8, cutL_hi8, cutL_lo9, cutL_hi9, look, keepV, slotOf, retOf, argOf, mkAs, wb, places, lookAll, Kd.mk, ownL, intOf, items, truth, isNone, kill, outsOf, gtName, gtCons, gtNil, gtTup, dAdd, dSub, dMul, dMod, dDiv, dPow, dNeg, dIx, dSl, cEq, cNe, cI, cIs, cIsN, bLen, bAbs, bSum, bMax, bMin, bTuple, bList, lmAppend, lmExtend, lmPop, lmReverse, lmClear, zipOk, ofStr_inj, atI_0, ixN_0, atI_1, ixN_1, atI_2, ixN_2, atI_3, ixN_3, atI_4, ixN_4, atI_5, ixN_5, atI_6, ixN_6, atI_7, ixN_7, atI_8, ixN_8, atI_9, ixN_9, atI_m1, atI_map, strOk_of, sl_0, sl_1, sl_2, sl_3, sl_4, sl_5, sl_6, sl_7, sl_8, sl_9, sl_10, sl_11, sl_12, cIn_ts1, cIn_ls1, cNotIn_ts1, cNotIn_ls1, cIn_ts2, cIn_ls2, cNotIn_ts2, cNotIn_ls2, cIn_ts3, cIn_ls3, cNotIn_ts3, cNotIn_ls3, cIn_ts4, cIn_ls4, cNotIn_ts4, cNotIn_ls4, cIn_ts5, cIn_ls5, cNotIn_ts5, cNotIn_ls5, cIn_tints, cIn_lints, cNotIn_tints, cNotIn_lints, List.getElem?_cons_zero, List.getElem?_cons_succ, List.getElem?_nil, List.set_cons_zero, List.set_cons_succ, List.set_nil, List.length_cons, List.length_nil, List.cons_append, List.nil_append, List.append_nil, List.map_nil, List.map_cons, List.replicate_succ, List.replicate_zero, Option.map_some, Option.map_none, Option.bind_some, Option.bind_none, List.nodup_cons, List.nodup_nil, List.not_mem_nil, List.mem_cons, List.mem_singleton, not_false_eq_true, and_self, and_true, true_and, or_true, true_or, or_false, false_or, if_true, if_false, ite_true, ite_false, decide_true, decide_false, decide_eq_true_eq, Bool.false_eq_true, reduceCtorEq, PyData.str.injEq, PyData.int.injEq, PyData.bool.injEq, exists_eq_left, exists_eq_left', List.cons.injEq, exists_const, Bool.not_true, Bool.not_false, Bool.and_true, Bool.and_false, Bool.true_and, Nat.reduceAdd, Nat.reduceSub, Nat.reduceMul, Nat.reduceLT, Nat.reduceLeDiff, Nat.reduceEqDiff, Int.reduceLE, Int.reduceLT, Int.reduceNeg, Int.reduceAdd, Int.reduceSub, Int.reduceMul, Int.reduceToNat, Int.reducePow, Int.reduceEq, Int.reduceNe, Int.cast_ofNat_Int, Int.toNat_zero, Int.toNat_one, Int.natCast_add, Int.natCast_zero, Int.natCast_one, Int.ofNat_eq_natCast, Int.le_refl, Nat.le_refl, Nat.zero_add, Int.zero_add, Int.add_zero, String.reduceEq, String.reduceNe, eq_self, ne_eq, not_true_eq_false, not_false_eq_true,  Int.lt_irrefl, decide_not, Nat.reducePow, Int.neg_neg, ↓evo_augI, ↓evo_raise, ↓evo_try, ↓ev_lrg, ↓ev_fl, ↓sk_nx, ↓sk_rt, ↓tk_nx, ↓tk_rt, ↓tk_exc, fields1, fields2, lookup_same, lookup_other, cLeA, bSortedA, bSSetA, intsOf_nil, intsOf_icons, ↓rl0, ↓rl1, ↓rl2, ↓rl3, ↓me0, ↓me1, ↓me2, ↓me3, ↓me_hi, ↓me_lo, set_int, L3.strOf, L3.cNotInS, L3.cInS, ↓ev_m1, ↓ev_strI, ↓evo_par00, ↓ev_get, L3.unD_dict, L3.valO, L3.keyT, L3.keysOf, L3.keyOf, ↓evo_tryK, ↓evo_raise0, ↓kk_nx, ↓kk_rt, ↓kk_exc, ↓ev_isX, ↓ev_flX, isX_kept, flX_kept, isNone_kept, lookN_nil, lookN_cons, lookS_cons, fldIx_nil, fldIx_cons, List.getElem?_nil]
      unfold F__law_raised b__law_raised
      simp -dsimp only [↓ev_run, ↓ev_ok, ↓ev_exc, ↓ev_bad, ↓ev_op2, ↓ev_op1, ↓ev_cmp, ↓ev_cmpB, ↓ev_chain, ↓ev_chainB, ↓ev_test, ↓ev_andB, ↓ev_orB, ↓ev_notB, ↓ev_andV, ↓ev_orV, ↓ev_notV, ↓ev_if, ↓ev_cons, ↓ev_rcons, ↓ev_tup, ↓ev_lst, ↓ev_call, ↓ev_bi, ↓ev_sl, ↓ev_part, ↓ev_meth, ↓ev_rng1, ↓ev_rng2, ↓ev_seqI, ↓ev_enum, ↓ev_zip, ↓ev_lc, ↓evo_nx, ↓evo_rt, ↓evo_bk, ↓evo_ct, ↓evo_exc, ↓evo_bad, ↓sq_nx, ↓sq_rt, ↓sq_bk, ↓sq_ct, ↓sq_exc, ↓evo_seq, ↓evo_set, ↓evo_drop, ↓evo_if, ↓evo_ret, ↓evo_put, ↓evo_asgT, ↓evo_par, ↓evo_for, ↓rk_nx, ↓rk_rtt, ↓rk_rtf, ↓rk_exc, ↓rk_bk, ↓rk_ct, ↓fk_nx, ↓fk_ct, ↓fk_bk, ↓fk_rt, ↓fk_exc, ap_var, ap_c, ap_nil, ap_rnil, ap_yes, ap_nopart, ao_nx, ao_bk, ao_ct, ao_retN, ↓evP_some, ↓evP_none, evP_some, evP_none, evP_if, evP_ifn, evP_map, ↓ev_isa, ↓evo_aug, isa, augOf, cIsA, cIsNA, bInt, bStr, bAll, bAny, bSorted, boolsOf_map, revAll, dAddI, ↓ev_lnil, ↓ev_lcons, ↓evo_fnil, intsOf_map, List.drop_succ_cons, List.drop_zero, List.take_succ_cons, List.take_zero, List.length_map, List.drop_nil, List.take_nil, cutL_lo0, cutL_hi0, cutL_lo1, cutL_hi1, cutL_lo2, cutL_hi2, cutL_lo3, cutL_hi3, cutL_lo4, cutL_hi4, cutL_lo5, cutL_hi5, cutL_lo6, cutL_hi6, cutL_lo7, cutL_hi7, cutL_lo8, cutL_hi8, cutL_lo9, cutL_hi9, look, keepV, slotOf, retOf, argOf, mkAs, wb, places, lookAll, Kd.mk, ownL, intOf, items, truth, isNone, kill, outsOf, gtName, gtCons, gtNil, gtTup, dAdd, dSub, dMul, dMod, dDiv, dPow, dNeg, dIx, dSl, cEq, cNe, cI, cIs, cIsN, bLen, bAbs, bSum, bMax, bMin, bTuple, bList, lmAppend, lmExtend, lmPop, lmReverse, lmClear, zipOk, ofStr_inj, atI_0, ixN_0, atI_1, ixN_1, atI_2, ixN_2, atI_3, ixN_3, atI_4, ixN_4, atI_5, ixN_5, atI_6, ixN_6, atI_7, ixN_7, atI_8, ixN_8, atI_9, ixN_9, atI_m1, atI_map, strOk_of, sl_0, sl_1, sl_2, sl_3, sl_4, sl_5, sl_6, sl_7, sl_8, sl_9, sl_10, sl_11, sl_12, cIn_ts1, cIn_ls1, cNotIn_ts1, cNotIn_ls1, cIn_ts2, cIn_ls2, cNotIn_ts2, cNotIn_ls2, cIn_ts3, cIn_ls3, cNotIn_ts3, cNotIn_ls3, cIn_ts4, cIn_ls4, cNotIn_ts4, cNotIn_ls4, cIn_ts5, cIn_ls5, cNotIn_ts5, cNotIn_ls5, cIn_tints, cIn_lints, cNotIn_tints, cNotIn_lints, List.getElem?_cons_zero, List.getElem?_cons_succ, List.getElem?_nil, List.set_cons_zero, List.set_cons_succ, List.set_nil, List.length_cons, List.length_nil, List.cons_append, List.nil_append, List.append_nil, List.map_nil, List.map_cons, List.replicate_succ, List.replicate_zero, Option.map_some, Option.map_none, Option.bind_some, Option.bind_none, List.nodup_cons, List.nodup_nil, List.not_mem_nil, List.mem_cons, List.mem_singleton, not_false_eq_true, and_self, and_true, true_and, or_true, true_or, or_false, false_or, if_true, if_false, ite_true, ite_false, decide_true, decide_false, decide_eq_true_eq, Bool.false_eq_true, reduceCtorEq, PyData.str.injEq, PyData.int.injEq, PyData.bool.injEq, exists_eq_left, exists_eq_left', List.cons.injEq, exists_const, Bool.not_true, Bool.not_false, Bool.and_true, Bool.and_false, Bool.true_and, Nat.reduceAdd, Nat.reduceSub, Nat.reduceMul, Nat.reduceLT, Nat.reduceLeDiff, Nat.reduceEqDiff, Int.reduceLE, Int.reduceLT, Int.reduceNeg, Int.reduceAdd, Int.reduceSub, Int.reduceMul, Int.reduceToNat, Int.reducePow, Int.reduceEq, Int.reduceNe, Int.cast_ofNat_Int, Int.toNat_zero, Int.toNat_one, Int.natCast_add, Int.natCast_zero, Int.natCast_one, Int.ofNat_eq_natCast, Int.le_refl, Nat.le_refl, Nat.zero_add, Int.zero_add, Int.add_zero, String.reduceEq, String.reduceNe, eq_self, ne_eq, not_true_eq_false, not_false_eq_true,  Int.lt_irrefl, decide_not, Nat.reducePow, Int.neg_neg, ↓evo_augI, ↓evo_raise, ↓evo_try, ↓ev_lrg, ↓ev_fl, ↓sk_nx, ↓sk_rt, ↓tk_nx, ↓tk_rt, ↓tk_exc, fields1, fields2, lookup_same, lookup_other, cLeA, bSortedA, bSSetA, intsOf_nil, intsOf_icons, ↓rl0, ↓rl1, ↓rl2, ↓rl3, ↓me0, ↓me1, ↓me2, ↓me3, ↓me_hi, ↓me_lo, set_int, L3.strOf, L3.cNotInS, L3.cInS, ↓ev_m1, ↓ev_strI, ↓evo_par00, ↓ev_get, L3.unD_dict, L3.valO, L3.keyT, L3.keysOf, L3.keyOf, ↓evo_tryK, ↓evo_raise0, ↓kk_nx, ↓kk_rt, ↓kk_exc, ↓ev_isX, ↓ev_flX, isX_kept, flX_kept, isNone_kept, lookN_nil, lookN_cons, lookS_cons, fldIx_nil, fldIx_cons, List.getElem?_nil]
      unfold F__law_fields b__law_fields
      simp -dsimp only [↓ev_run, ↓ev_ok, ↓ev_exc, ↓ev_bad, ↓ev_op2, ↓ev_op1, ↓ev_cmp, ↓ev_cmpB, ↓ev_chain, ↓ev_chainB, ↓ev_test, ↓ev_andB, ↓ev_orB, ↓ev_notB, ↓ev_andV, ↓ev_orV, ↓ev_notV, ↓ev_if, ↓ev_cons, ↓ev_rcons, ↓ev_tup, ↓ev_lst, ↓ev_call, ↓ev_bi, ↓ev_sl, ↓ev_part, ↓ev_meth, ↓ev_rng1, ↓ev_rng2, ↓ev_seqI, ↓ev_enum, ↓ev_zip, ↓ev_lc, ↓evo_nx, ↓evo_rt, ↓evo_bk, ↓evo_ct, ↓evo_exc, ↓evo_bad, ↓sq_nx, ↓sq_rt, ↓sq_bk, ↓sq_ct, ↓sq_exc, ↓evo_seq, ↓evo_set, ↓evo_drop, ↓evo_if, ↓evo_ret, ↓evo_put, ↓evo_asgT, ↓evo_par, ↓evo_for, ↓rk_nx, ↓rk_rtt, ↓rk_rtf, ↓rk_exc, ↓rk_bk, ↓rk_ct, ↓fk_nx, ↓fk_ct, ↓fk_bk, ↓fk_rt, ↓fk_exc, ap_var, ap_c, ap_nil, ap_rnil, ap_yes, ap_nopart, ao_nx, ao_bk, ao_ct, ao_retN, ↓evP_some, ↓evP_none, evP_some, evP_none, evP_if, evP_ifn, evP_map, ↓ev_isa, ↓evo_aug, isa, augOf, cIsA, cIsNA, bInt, bStr, bAll, bAny, bSorted, boolsOf_map, revAll, dAddI, ↓ev_lnil, ↓ev_lcons, ↓evo_fnil, intsOf_map, List.drop_succ_cons, List.drop_zero, List.take_succ_cons, List.take_zero, List.length_map, List.drop_nil, List.take_nil, cutL_lo0, cutL_hi0, cutL_lo1, cutL_hi1, cutL_lo2, cutL_hi2, cutL_lo3, cutL_hi3, cutL_lo4, cutL_hi4, cutL_lo5, cutL_hi5, cutL_lo6, cutL_hi6, cutL_lo7, cutL_hi7, cutL_lo8, cutL_hi8, cutL_lo9, cutL_hi9, look, keepV, slotOf, retOf, argOf, mkAs, wb, places, lookAll, Kd.mk, ownL, intOf, items, truth, isNone, kill, outsOf, gtName, gtCons, gtNil, gtTup, dAdd, dSub, dMul, dMod, dDiv, dPow, dNeg, dIx, dSl, cEq, cNe, cI, cIs, cIsN, bLen, bAbs, bSum, bMax, bMin, bTuple, bList, lmAppend, lmExtend, lmPop, lmReverse, lmClear, zipOk, ofStr_inj, atI_0, ixN_0, atI_1, ixN_1, atI_2, ixN_2, atI_3, ixN_3, atI_4, ixN_4, atI_5, ixN_5, atI_6, ixN_6, atI_7, ixN_7, atI_8, ixN_8, atI_9, ixN_9, atI_m1, atI_map, strOk_of, sl_0, sl_1, sl_2, sl_3, sl_4, sl_5, sl_6, sl_7, sl_8, sl_9, sl_10, sl_11, sl_12, cIn_ts1, cIn_ls1, cNotIn_ts1, cNotIn_ls1, cIn_ts2, cIn_ls2, cNotIn_ts2, cNotIn_ls2, cIn_ts3, cIn_ls3, cNotIn_ts3, cNotIn_ls3, cIn_ts4, cIn_ls4, cNotIn_ts4, cNotIn_ls4, cIn_ts5, cIn_ls5, cNotIn_ts5, cNotIn_ls5, cIn_tints, cIn_lints, cNotIn_tints, cNotIn_lints, List.getElem?_cons_zero, List.getElem?_cons_succ, List.getElem?_nil, List.set_cons_zero, List.set_cons_succ, List.set_nil, List.length_cons, List.length_nil, List.cons_append, List.nil_append, List.append_nil, List.map_nil, List.map_cons, List.replicate_succ, List.replicate_zero, Option.map_some, Option.map_none, Option.bind_some, Option.bind_none, List.nodup_cons, List.nodup_nil, List.not_mem_nil, List.mem_cons, List.mem_singleton, not_false_eq_true, and_self, and_true, true_and, or_true, true_or, or_false, false_or, if_true, if_false, ite_true, ite_false, decide_true, decide_false, decide_eq_true_eq, Bool.false_eq_true, reduceCtorEq, PyData.str.injEq, PyData.int.injEq, PyData.bool.injEq, exists_eq_left, exists_eq_left', List.cons.injEq, exists_const, Bool.not_true, Bool.not_false, Bool.and_true, Bool.and_false, Bool.true_and, Nat.reduceAdd, Nat.reduceSub, Nat.reduceMul, Nat.reduceLT, Nat.reduceLeDiff, Nat.reduceEqDiff, Int.reduceLE, Int.reduceLT, Int.reduceNeg, Int.reduceAdd, Int.reduceSub, Int.reduceMul, Int.reduceToNat, Int.reducePow, Int.reduceEq, Int.reduceNe, Int.cast_ofNat_Int, Int.toNat_zero, Int.toNat_one, Int.natCast_add, Int.natCast_zero, Int.natCast_one, Int.ofNat_eq_natCast, Int.le_refl, Nat.le_refl, Nat.zero_add, Int.zero_add, Int.add_zero, String.reduceEq, String.reduceNe, eq_self, ne_eq, not_true_eq_false, not_false_eq_true,  Int.lt_irrefl, decide_not, Nat.reducePow, Int.neg_neg, ↓evo_augI, ↓evo_raise, ↓evo_try, ↓ev_lrg, ↓ev_fl, ↓sk_nx, ↓sk_rt, ↓tk_nx, ↓tk_rt, ↓tk_exc, fields1, fields2, lookup_same, lookup_other, cLeA, bSortedA, bSSetA, intsOf_nil, intsOf_icons, ↓rl0, ↓rl1, ↓rl2, ↓rl3, ↓me0, ↓me1, ↓me2, ↓me3, ↓me_hi, ↓me_lo, set_int, L3.strOf, L3.cNotInS, L3.cInS, ↓ev_m1, ↓ev_strI, ↓evo_par00, ↓ev_get, L3.unD_dict, L3.valO, L3.keyT, L3.keysOf, L3.keyOf, ↓evo_tryK, ↓evo_raise0, ↓kk_nx, ↓kk_rt, ↓kk_exc, ↓ev_isX, ↓ev_flX, isX_kept, flX_kept, isNone_kept, lookN_nil, lookN_cons, lookS_cons, fldIx_nil, fldIx_cons, List.getElem?_nil, ↓e1]
      unfold F__law_sorts b__law_sorts
      simp -dsimp only [↓ev_run, ↓ev_ok, ↓ev_exc, ↓ev_bad, ↓ev_op2, ↓ev_op1, ↓ev_cmp, ↓ev_cmpB, ↓ev_chain, ↓ev_chainB, ↓ev_test, ↓ev_andB, ↓ev_orB, ↓ev_notB, ↓ev_andV, ↓ev_orV, ↓ev_notV, ↓ev_if, ↓ev_cons, ↓ev_rcons, ↓ev_tup, ↓ev_lst, ↓ev_call, ↓ev_bi, ↓ev_sl, ↓ev_part, ↓ev_meth, ↓ev_rng1, ↓ev_rng2, ↓ev_seqI, ↓ev_enum, ↓ev_zip, ↓ev_lc, ↓evo_nx, ↓evo_rt, ↓evo_bk, ↓evo_ct, ↓evo_exc, ↓evo_bad, ↓sq_nx, ↓sq_rt, ↓sq_bk, ↓sq_ct, ↓sq_exc, ↓evo_seq, ↓evo_set, ↓evo_drop, ↓evo_if, ↓evo_ret, ↓evo_put, ↓evo_asgT, ↓evo_par, ↓evo_for, ↓rk_nx, ↓rk_rtt, ↓rk_rtf, ↓rk_exc, ↓rk_bk, ↓rk_ct, ↓fk_nx, ↓fk_ct, ↓fk_bk, ↓fk_rt, ↓fk_exc, ap_var, ap_c, ap_nil, ap_rnil, ap_yes, ap_nopart, ao_nx, ao_bk, ao_ct, ao_retN, ↓evP_some, ↓evP_none, evP_some, evP_none, evP_if, evP_ifn, evP_map, ↓ev_isa, ↓evo_aug, isa, augOf, cIsA, cIsNA, bInt, bStr, bAll, bAny, bSorted, boolsOf_map, revAll, dAddI, ↓ev_lnil, ↓ev_lcons, ↓evo_fnil, intsOf_map, List.drop_succ_cons, List.drop_zero, List.take_succ_cons, List.take_zero, List.length_map, List.drop_nil, List.take_nil, cutL_lo0, cutL_hi0, cutL_lo1, cutL_hi1, cutL_lo2, cutL_hi2, cutL_lo3, cutL_hi3, cutL_lo4, cutL_hi4, cutL_lo5, cutL_hi5, cutL_lo6, cutL_hi6, cutL_lo7, cutL_hi7, cutL_lo8, cutL_hi8, cutL_lo9, cutL_hi9, look, keepV, slotOf, retOf, argOf, mkAs, wb, places, lookAll, Kd.mk, ownL, intOf, items, truth, isNone, kill, outsOf, gtName, gtCons, gtNil, gtTup, dAdd, dSub, dMul, dMod, dDiv, dPow, dNeg, dIx, dSl, cEq, cNe, cI, cIs, cIsN, bLen, bAbs, bSum, bMax, bMin, bTuple, bList, lmAppend, lmExtend, lmPop, lmReverse, lmClear, zipOk, ofStr_inj, atI_0, ixN_0, atI_1, ixN_1, atI_2, ixN_2, atI_3, ixN_3, atI_4, ixN_4, atI_5, ixN_5, atI_6, ixN_6, atI_7, ixN_7, atI_8, ixN_8, atI_9, ixN_9, atI_m1, atI_map, strOk_of, sl_0, sl_1, sl_2, sl_3, sl_4, sl_5, sl_6, sl_7, sl_8, sl_9, sl_10, sl_11, sl_12, cIn_ts1, cIn_ls1, cNotIn_ts1, cNotIn_ls1, cIn_ts2, cIn_ls2, cNotIn_ts2, cNotIn_ls2, cIn_ts3, cIn_ls3, cNotIn_ts3, cNotIn_ls3, cIn_ts4, cIn_ls4, cNotIn_ts4, cNotIn_ls4, cIn_ts5, cIn_ls5, cNotIn_ts5, cNotIn_ls5, cIn_tints, cIn_lints, cNotIn_tints, cNotIn_lints, List.getElem?_cons_zero, List.getElem?_cons_succ, List.getElem?_nil, List.set_cons_zero, List.set_cons_succ, List.set_nil, List.length_cons, List.length_nil, List.cons_append, List.nil_append, List.append_nil, List.map_nil, List.map_cons, List.replicate_succ, List.replicate_zero, Option.map_some, Option.map_none, Option.bind_some, Option.bind_none, List.nodup_cons, List.nodup_nil, List.not_mem_nil, List.mem_cons, List.mem_singleton, not_false_eq_true, and_self, and_true, true_and, or_true, true_or, or_false, false_or, if_true, if_false, ite_true, ite_false, decide_true, decide_false, decide_eq_true_eq, Bool.false_eq_true, reduceCtorEq, PyData.str.injEq, PyData.int.injEq, PyData.bool.injEq, exists_eq_left, exists_eq_left', List.cons.injEq, exists_const, Bool.not_true, Bool.not_false, Bool.and_true, Bool.and_false, Bool.true_and, Nat.reduceAdd, Nat.reduceSub, Nat.reduceMul, Nat.reduceLT, Nat.reduceLeDiff, Nat.reduceEqDiff, Int.reduceLE, Int.reduceLT, Int.reduceNeg, Int.reduceAdd, Int.reduceSub, Int.reduceMul, Int.reduceToNat, Int.reducePow, Int.reduceEq, Int.reduceNe, Int.cast_ofNat_Int, Int.toNat_zero, Int.toNat_one, Int.natCast_add, Int.natCast_zero, Int.natCast_one, Int.ofNat_eq_natCast, Int.le_refl, Nat.le_refl, Nat.zero_add, Int.zero_add, Int.add_zero, String.reduceEq, String.reduceNe, eq_self, ne_eq, not_true_eq_false, not_false_eq_true,  Int.lt_irrefl, decide_not, Nat.reducePow, Int.neg_neg, ↓evo_augI, ↓evo_raise, ↓evo_try, ↓ev_lrg, ↓ev_fl, ↓sk_nx, ↓sk_rt, ↓tk_nx, ↓tk_rt, ↓tk_exc, fields1, fields2, lookup_same, lookup_other, cLeA, bSortedA, bSSetA, intsOf_nil, intsOf_icons, ↓rl0, ↓rl1, ↓rl2, ↓rl3, ↓me0, ↓me1, ↓me2, ↓me3, ↓me_hi, ↓me_lo, set_int, L3.strOf, L3.cNotInS, L3.cInS, ↓ev_m1, ↓ev_strI, ↓evo_par00, ↓ev_get, L3.unD_dict, L3.valO, L3.keyT, L3.keysOf, L3.keyOf, ↓evo_tryK, ↓evo_raise0, ↓kk_nx, ↓kk_rt, ↓kk_exc, ↓ev_isX, ↓ev_flX, isX_kept, flX_kept, isNone_kept, lookN_nil, lookN_cons, lookS_cons, fldIx_nil, fldIx_cons, List.getElem?_nil, ↓up7, ↓f1]
    · simp -dsimp only [↓ev_run, ↓ev_ok, ↓ev_exc, ↓ev_bad, ↓ev_op2, ↓ev_op1, ↓ev_cmp, ↓ev_cmpB, ↓ev_chain, ↓ev_chainB, ↓ev_test, ↓ev_andB, ↓ev_orB, ↓ev_notB, ↓ev_andV, ↓ev_orV, ↓ev_notV, ↓ev_if, ↓ev_cons, ↓ev_rcons, ↓ev_tup, ↓ev_lst, ↓ev_call, ↓ev_bi, ↓ev_sl, ↓ev_part, ↓ev_meth, ↓ev_rng1, ↓ev_rng2, ↓ev_seqI, ↓ev_enum, ↓ev_zip, ↓ev_lc, ↓evo_nx, ↓evo_rt, ↓evo_bk, ↓evo_ct, ↓evo_exc, ↓evo_bad, ↓sq_nx, ↓sq_rt, ↓sq_bk, ↓sq_ct, ↓sq_exc, ↓evo_seq, ↓evo_set, ↓evo_drop, ↓evo_if, ↓evo_ret, ↓evo_put, ↓evo_asgT, ↓evo_par, ↓evo_for, ↓rk_nx, ↓rk_rtt, ↓rk_rtf, ↓rk_exc, ↓rk_bk, ↓rk_ct, ↓fk_nx, ↓fk_ct, ↓fk_bk, ↓fk_rt, ↓fk_exc, ap_var, ap_c, ap_nil, ap_rnil, ap_yes, ap_nopart, ao_nx, ao_bk, ao_ct, ao_retN, ↓evP_some, ↓evP_none, evP_some, evP_none, evP_if, evP_ifn, evP_map, ↓ev_isa, ↓evo_aug, isa, augOf, cIsA, cIsNA, bInt, bStr, bAll, bAny, bSorted, boolsOf_map, revAll, dAddI, ↓ev_lnil, ↓ev_lcons, ↓evo_fnil, intsOf_map, List.drop_succ_cons, List.drop_zero, List.take_succ_cons, List.take_zero, List.length_map, List.drop_nil, List.take_nil, cutL_lo0, cutL_hi0, cutL_lo1, cutL_hi1, cutL_lo2, cutL_hi2, cutL_lo3, cutL_hi3, cutL_lo4, cutL_hi4, cutL_lo5, cutL_hi5, cutL_lo6, cutL_hi6, cutL_lo7, cutL_hi7, cutL_lo8, cutL_hi8, cutL_lo9, cutL_hi9, look, keepV, slotOf, retOf, argOf, mkAs, wb, places, lookAll, Kd.mk, ownL, intOf, items, truth, isNone, kill, outsOf, gtName, gtCons, gtNil, gtTup, dAdd, dSub, dMul, dMod, dDiv, dPow, dNeg, dIx, dSl, cEq, cNe, cI, cIs, cIsN, bLen, bAbs, bSum, bMax, bMin, bTuple, bList, lmAppend, lmExtend, lmPop, lmReverse, lmClear, zipOk, ofStr_inj, atI_0, ixN_0, atI_1, ixN_1, atI_2, ixN_2, atI_3, ixN_3, atI_4, ixN_4, atI_5, ixN_5, atI_6, ixN_6, atI_7, ixN_7, atI_8, ixN_8, atI_9, ixN_9, atI_m1, atI_map, strOk_of, sl_0, sl_1, sl_2, sl_3, sl_4, sl_5, sl_6, sl_7, sl_8, sl_9, sl_10, sl_11, sl_12, cIn_ts1, cIn_ls1, cNotIn_ts1, cNotIn_ls1, cIn_ts2, cIn_ls2, cNotIn_ts2, cNotIn_ls2, cIn_ts3, cIn_ls3, cNotIn_ts3, cNotIn_ls3, cIn_ts4, cIn_ls4, cNotIn_ts4, cNotIn_ls4, cIn_ts5, cIn_ls5, cNotIn_ts5, cNotIn_ls5, cIn_tints, cIn_lints, cNotIn_tints, cNotIn_lints, List.getElem?_cons_zero, List.getElem?_cons_succ, List.getElem?_nil, List.set_cons_zero, List.set_cons_succ, List.set_nil, List.length_cons, List.length_nil, List.cons_append, List.nil_append, List.append_nil, List.map_nil, List.map_cons, List.replicate_succ, List.replicate_zero, Option.map_some, Option.map_none, Option.bind_some, Option.bind_none, List.nodup_cons, List.nodup_nil, List.not_mem_nil, List.mem_cons, List.mem_singleton, not_false_eq_true, and_self, and_true, true_and, or_true, true_or, or_false, false_or, if_true, if_false, ite_true, ite_false, decide_true, decide_false, decide_eq_true_eq, Bool.false_eq_true, reduceCtorEq, PyData.str.injEq, PyData.int.injEq, PyData.bool.injEq, exists_eq_left, exists_eq_left', List.cons.injEq, exists_const, Bool.not_true, Bool.not_false, Bool.and_true, Bool.and_false, Bool.true_and, Nat.reduceAdd, Nat.reduceSub, Nat.reduceMul, Nat.reduceLT, Nat.reduceLeDiff, Nat.reduceEqDiff, Int.reduceLE, Int.reduceLT, Int.reduceNeg, Int.reduceAdd, Int.reduceSub, Int.reduceMul, Int.reduceToNat, Int.reducePow, Int.reduceEq, Int.reduceNe, Int.cast_ofNat_Int, Int.toNat_zero, Int.toNat_one, Int.natCast_add, Int.natCast_zero, Int.natCast_one, Int.ofNat_eq_natCast, Int.le_refl, Nat.le_refl, Nat.zero_add, Int.zero_add, Int.add_zero, String.reduceEq, String.reduceNe, eq_self, ne_eq, not_true_eq_false, not_false_eq_true,  Int.lt_irrefl, decide_not, Nat.reducePow, Int.neg_neg, ↓evo_augI, ↓evo_raise, ↓evo_try, ↓ev_lrg, ↓ev_fl, ↓sk_nx, ↓sk_rt, ↓tk_nx, ↓tk_rt, ↓tk_exc, fields1, fields2, lookup_same, lookup_other, cLeA, bSortedA, bSSetA, intsOf_nil, intsOf_icons, ↓rl0, ↓rl1, ↓rl2, ↓rl3, ↓me0, ↓me1, ↓me2, ↓me3, ↓me_hi, ↓me_lo, set_int, L3.strOf, L3.cNotInS, L3.cInS, ↓ev_m1, ↓ev_strI, ↓evo_par00, ↓ev_get, L3.unD_dict, L3.valO, L3.keyT, L3.keysOf, L3.keyOf, ↓evo_tryK, ↓evo_raise0, ↓kk_nx, ↓kk_rt, ↓kk_exc, ↓ev_isX, ↓ev_flX, isX_kept, flX_kept, isNone_kept, lookN_nil, lookN_cons, lookS_cons, fldIx_nil, fldIx_cons, List.getElem?_nil]
      unfold F__law_raised b__law_raised
      simp -dsimp only [↓ev_run, ↓ev_ok, ↓ev_exc, ↓ev_bad, ↓ev_op2, ↓ev_op1, ↓ev_cmp, ↓ev_cmpB, ↓ev_chain, ↓ev_chainB, ↓ev_test, ↓ev_andB, ↓ev_orB, ↓ev_notB, ↓ev_andV, ↓ev_orV, ↓ev_notV, ↓ev_if, ↓ev_cons, ↓ev_rcons, ↓ev_tup, ↓ev_lst, ↓ev_call, ↓ev_bi, ↓ev_sl, ↓ev_part, ↓ev_meth, ↓ev_rng1, ↓ev_rng2, ↓ev_seqI, ↓ev_enum, ↓ev_zip, ↓ev_lc, ↓evo_nx, ↓evo_rt, ↓evo_bk, ↓evo_ct, ↓evo_exc, ↓evo_bad, ↓sq_nx, ↓sq_rt, ↓sq_bk, ↓sq_ct, ↓sq_exc, ↓evo_seq, ↓evo_set, ↓evo_drop, ↓evo_if, ↓evo_ret, ↓evo_put, ↓evo_asgT, ↓evo_par, ↓evo_for, ↓rk_nx, ↓rk_rtt, ↓rk_rtf, ↓rk_exc, ↓rk_bk, ↓rk_ct, ↓fk_nx, ↓fk_ct, ↓fk_bk, ↓fk_rt, ↓fk_exc, ap_var, ap_c, ap_nil, ap_rnil, ap_yes, ap_nopart, ao_nx, ao_bk, ao_ct, ao_retN, ↓evP_some, ↓evP_none, evP_some, evP_none, evP_if, evP_ifn, evP_map, ↓ev_isa, ↓evo_aug, isa, augOf, cIsA, cIsNA, bInt, bStr, bAll, bAny, bSorted, boolsOf_map, revAll, dAddI, ↓ev_lnil, ↓ev_lcons, ↓evo_fnil, intsOf_map, List.drop_succ_cons, List.drop_zero, List.take_succ_cons, List.take_zero, List.length_map, List.drop_nil, List.take_nil, cutL_lo0, cutL_hi0, cutL_lo1, cutL_hi1, cutL_lo2, cutL_hi2, cutL_lo3, cutL_hi3, cutL_lo4, cutL_hi4, cutL_lo5, cutL_hi5, cutL_lo6, cutL_hi6, cutL_lo7, cutL_hi7, cutL_lo8, cutL_hi8, cutL_lo9, cutL_hi9, look, keepV, slotOf, retOf, argOf, mkAs, wb, places, lookAll, Kd.mk, ownL, intOf, items, truth, isNone, kill, outsOf, gtName, gtCons, gtNil, gtTup, dAdd, dSub, dMul, dMod, dDiv, dPow, dNeg, dIx, dSl, cEq, cNe, cI, cIs, cIsN, bLen, bAbs, bSum, bMax, bMin, bTuple, bList, lmAppend, lmExtend, lmPop, lmReverse, lmClear, zipOk, ofStr_inj, atI_0, ixN_0, atI_1, ixN_1, atI_2, ixN_2, atI_3, ixN_3, atI_4, ixN_4, atI_5, ixN_5, atI_6, ixN_6, atI_7, ixN_7, atI_8, ixN_8, atI_9, ixN_9, atI_m1, atI_map, strOk_of, sl_0, sl_1, sl_2, sl_3, sl_4, sl_5, sl_6, sl_7, sl_8, sl_9, sl_10, sl_11, sl_12, cIn_ts1, cIn_ls1, cNotIn_ts1, cNotIn_ls1, cIn_ts2, cIn_ls2, cNotIn_ts2, cNotIn_ls2, cIn_ts3, cIn_ls3, cNotIn_ts3, cNotIn_ls3, cIn_ts4, cIn_ls4, cNotIn_ts4, cNotIn_ls4, cIn_ts5, cIn_ls5, cNotIn_ts5, cNotIn_ls5, cIn_tints, cIn_lints, cNotIn_tints, cNotIn_lints, List.getElem?_cons_zero, List.getElem?_cons_succ, List.getElem?_nil, List.set_cons_zero, List.set_cons_succ, List.set_nil, List.length_cons, List.length_nil, List.cons_append, List.nil_append, List.append_nil, List.map_nil, List.map_cons, List.replicate_succ, List.replicate_zero, Option.map_some, Option.map_none, Option.bind_some, Option.bind_none, List.nodup_cons, List.nodup_nil, List.not_mem_nil, List.mem_cons, List.mem_singleton, not_false_eq_true, and_self, and_true, true_and, or_true, true_or, or_false, false_or, if_true, if_false, ite_true, ite_false, decide_true, decide_false, decide_eq_true_eq, Bool.false_eq_true, reduceCtorEq, PyData.str.injEq, PyData.int.injEq, PyData.bool.injEq, exists_eq_left, exists_eq_left', List.cons.injEq, exists_const, Bool.not_true, Bool.not_false, Bool.and_true, Bool.and_false, Bool.true_and, Nat.reduceAdd, Nat.reduceSub, Nat.reduceMul, Nat.reduceLT, Nat.reduceLeDiff, Nat.reduceEqDiff, Int.reduceLE, Int.reduceLT, Int.reduceNeg, Int.reduceAdd, Int.reduceSub, Int.reduceMul, Int.reduceToNat, Int.reducePow, Int.reduceEq, Int.reduceNe, Int.cast_ofNat_Int, Int.toNat_zero, Int.toNat_one, Int.natCast_add, Int.natCast_zero, Int.natCast_one, Int.ofNat_eq_natCast, Int.le_refl, Nat.le_refl, Nat.zero_add, Int.zero_add, Int.add_zero, String.reduceEq, String.reduceNe, eq_self, ne_eq, not_true_eq_false, not_false_eq_true,  Int.lt_irrefl, decide_not, Nat.reducePow, Int.neg_neg, ↓evo_augI, ↓evo_raise, ↓evo_try, ↓ev_lrg, ↓ev_fl, ↓sk_nx, ↓sk_rt, ↓tk_nx, ↓tk_rt, ↓tk_exc, fields1, fields2, lookup_same, lookup_other, cLeA, bSortedA, bSSetA, intsOf_nil, intsOf_icons, ↓rl0, ↓rl1, ↓rl2, ↓rl3, ↓me0, ↓me1, ↓me2, ↓me3, ↓me_hi, ↓me_lo, set_int, L3.strOf, L3.cNotInS, L3.cInS, ↓ev_m1, ↓ev_strI, ↓evo_par00, ↓ev_get, L3.unD_dict, L3.valO, L3.keyT, L3.keysOf, L3.keyOf, ↓evo_tryK, ↓evo_raise0, ↓kk_nx, ↓kk_rt, ↓kk_exc, ↓ev_isX, ↓ev_flX, isX_kept, flX_kept, isNone_kept, lookN_nil, lookN_cons, lookS_cons, fldIx_nil, fldIx_cons, List.getElem?_nil]
      unfold F__law_fields b__law_fields
      simp -dsimp only [↓ev_run, ↓ev_ok, ↓ev_exc, ↓ev_bad, ↓ev_op2, ↓ev_op1, ↓ev_cmp, ↓ev_cmpB, ↓ev_chain, ↓ev_chainB, ↓ev_test, ↓ev_andB, ↓ev_orB, ↓ev_notB, ↓ev_andV, ↓ev_orV, ↓ev_notV, ↓ev_if, ↓ev_cons, ↓ev_rcons, ↓ev_tup, ↓ev_lst, ↓ev_call, ↓ev_bi, ↓ev_sl, ↓ev_part, ↓ev_meth, ↓ev_rng1, ↓ev_rng2, ↓ev_seqI, ↓ev_enum, ↓ev_zip, ↓ev_lc, ↓evo_nx, ↓evo_rt, ↓evo_bk, ↓evo_ct, ↓evo_exc, ↓evo_bad, ↓sq_nx, ↓sq_rt, ↓sq_bk, ↓sq_ct, ↓sq_exc, ↓evo_seq, ↓evo_set, ↓evo_drop, ↓evo_if, ↓evo_ret, ↓evo_put, ↓evo_asgT, ↓evo_par, ↓evo_for, ↓rk_nx, ↓rk_rtt, ↓rk_rtf, ↓rk_exc, ↓rk_bk, ↓rk_ct, ↓fk_nx, ↓fk_ct, ↓fk_bk, ↓fk_rt, ↓fk_exc, ap_var, ap_c, ap_nil, ap_rnil, ap_yes, ap_nopart, ao_nx, ao_bk, ao_ct, ao_retN, ↓evP_some, ↓evP_none, evP_some, evP_none, evP_if, evP_ifn, evP_map, ↓ev_isa, ↓evo_aug, isa, augOf, cIsA, cIsNA, bInt, bStr, bAll, bAny, bSorted, boolsOf_map, revAll, dAddI, ↓ev_lnil, ↓ev_lcons, ↓evo_fnil, intsOf_map, List.drop_succ_cons, List.drop_zero, List.take_succ_cons, List.take_zero, List.length_map, List.drop_nil, List.take_nil, cutL_lo0, cutL_hi0, cutL_lo1, cutL_hi1, cutL_lo2, cutL_hi2, cutL_lo3, cutL_hi3, cutL_lo4, cutL_hi4, cutL_lo5, cutL_hi5, cutL_lo6, cutL_hi6, cutL_lo7, cutL_hi7, cutL_lo8, cutL_hi8, cutL_lo9, cutL_hi9, look, keepV, slotOf, retOf, argOf, mkAs, wb, places, lookAll, Kd.mk, ownL, intOf, items, truth, isNone, kill, outsOf, gtName, gtCons, gtNil, gtTup, dAdd, dSub, dMul, dMod, dDiv, dPow, dNeg, dIx, dSl, cEq, cNe, cI, cIs, cIsN, bLen, bAbs, bSum, bMax, bMin, bTuple, bList, lmAppend, lmExtend, lmPop, lmReverse, lmClear, zipOk, ofStr_inj, atI_0, ixN_0, atI_1, ixN_1, atI_2, ixN_2, atI_3, ixN_3, atI_4, ixN_4, atI_5, ixN_5, atI_6, ixN_6, atI_7, ixN_7, atI_8, ixN_8, atI_9, ixN_9, atI_m1, atI_map, strOk_of, sl_0, sl_1, sl_2, sl_3, sl_4, sl_5, sl_6, sl_7, sl_8, sl_9, sl_10, sl_11, sl_12, cIn_ts1, cIn_ls1, cNotIn_ts1, cNotIn_ls1, cIn_ts2, cIn_ls2, cNotIn_ts2, cNotIn_ls2, cIn_ts3, cIn_ls3, cNotIn_ts3, cNotIn_ls3, cIn_ts4, cIn_ls4, cNotIn_ts4, cNotIn_ls4, cIn_ts5, cIn_ls5, cNotIn_ts5, cNotIn_ls5, cIn_tints, cIn_lints, cNotIn_tints, cNotIn_lints, List.getElem?_cons_zero, List.getElem?_cons_succ, List.getElem?_nil, List.set_cons_zero, List.set_cons_succ, List.set_nil, List.length_cons, List.length_nil, List.cons_append, List.nil_append, List.append_nil, List.map_nil, List.map_cons, List.replicate_succ, List.replicate_zero, Option.map_some, Option.map_none, Option.bind_some, Option.bind_none, List.nodup_cons, List.nodup_nil, List.not_mem_nil, List.mem_cons, List.mem_singleton, not_false_eq_true, and_self, and_true, true_and, or_true, true_or, or_false, false_or, if_true, if_false, ite_true, ite_false, decide_true, decide_false, decide_eq_true_eq, Bool.false_eq_true, reduceCtorEq, PyData.str.injEq, PyData.int.injEq, PyData.bool.injEq, exists_eq_left, exists_eq_left', List.cons.injEq, exists_const, Bool.not_true, Bool.not_false, Bool.and_true, Bool.and_false, Bool.true_and, Nat.reduceAdd, Nat.reduceSub, Nat.reduceMul, Nat.reduceLT, Nat.reduceLeDiff, Nat.reduceEqDiff, Int.reduceLE, Int.reduceLT, Int.reduceNeg, Int.reduceAdd, Int.reduceSub, Int.reduceMul, Int.reduceToNat, Int.reducePow, Int.reduceEq, Int.reduceNe, Int.cast_ofNat_Int, Int.toNat_zero, Int.toNat_one, Int.natCast_add, Int.natCast_zero, Int.natCast_one, Int.ofNat_eq_natCast, Int.le_refl, Nat.le_refl, Nat.zero_add, Int.zero_add, Int.add_zero, String.reduceEq, String.reduceNe, eq_self, ne_eq, not_true_eq_false, not_false_eq_true,  Int.lt_irrefl, decide_not, Nat.reducePow, Int.neg_neg, ↓evo_augI, ↓evo_raise, ↓evo_try, ↓ev_lrg, ↓ev_fl, ↓sk_nx, ↓sk_rt, ↓tk_nx, ↓tk_rt, ↓tk_exc, fields1, fields2, lookup_same, lookup_other, cLeA, bSortedA, bSSetA, intsOf_nil, intsOf_icons, ↓rl0, ↓rl1, ↓rl2, ↓rl3, ↓me0, ↓me1, ↓me2, ↓me3, ↓me_hi, ↓me_lo, set_int, L3.strOf, L3.cNotInS, L3.cInS, ↓ev_m1, ↓ev_strI, ↓evo_par00, ↓ev_get, L3.unD_dict, L3.valO, L3.keyT, L3.keysOf, L3.keyOf, ↓evo_tryK, ↓evo_raise0, ↓kk_nx, ↓kk_rt, ↓kk_exc, ↓ev_isX, ↓ev_flX, isX_kept, flX_kept, isNone_kept, lookN_nil, lookN_cons, lookS_cons, fldIx_nil, fldIx_cons, List.getElem?_nil, ↓e2]
      unfold F__law_sorts b__law_sorts
      simp -dsimp only [↓ev_run, ↓ev_ok, ↓ev_exc, ↓ev_bad, ↓ev_op2, ↓ev_op1, ↓ev_cmp, ↓ev_cmpB, ↓ev_chain, ↓ev_chainB, ↓ev_test, ↓ev_andB, ↓ev_orB, ↓ev_notB, ↓ev_andV, ↓ev_orV, ↓ev_notV, ↓ev_if, ↓ev_cons, ↓ev_rcons, ↓ev_tup, ↓ev_lst, ↓ev_call, ↓ev_bi, ↓ev_sl, ↓ev_part, ↓ev_meth, ↓ev_rng1, ↓ev_rng2, ↓ev_seqI, ↓ev_enum, ↓ev_zip, ↓ev_lc, ↓evo_nx, ↓evo_rt, ↓evo_bk, ↓evo_ct, ↓evo_exc, ↓evo_bad, ↓sq_nx, ↓sq_rt, ↓sq_bk, ↓sq_ct, ↓sq_exc, ↓evo_seq, ↓evo_set, ↓evo_drop, ↓evo_if, ↓evo_ret, ↓evo_put, ↓evo_asgT, ↓evo_par, ↓evo_for, ↓rk_nx, ↓rk_rtt, ↓rk_rtf, ↓rk_exc, ↓rk_bk, ↓rk_ct, ↓fk_nx, ↓fk_ct, ↓fk_bk, ↓fk_rt, ↓fk_exc, ap_var, ap_c, ap_nil, ap_rnil, ap_yes, ap_nopart, ao_nx, ao_bk, ao_ct, ao_retN, ↓evP_some, ↓evP_none, evP_some, evP_none, evP_if, evP_ifn, evP_map, ↓ev_isa, ↓evo_aug, isa, augOf, cIsA, cIsNA, bInt, bStr, bAll, bAny, bSorted, boolsOf_map, revAll, dAddI, ↓ev_lnil, ↓ev_lcons, ↓evo_fnil, intsOf_map, List.drop_succ_cons, List.drop_zero, List.take_succ_cons, List.take_zero, List.length_map, List.drop_nil, List.take_nil, cutL_lo0, cutL_hi0, cutL_lo1, cutL_hi1, cutL_lo2, cutL_hi2, cutL_lo3, cutL_hi3, cutL_lo4, cutL_hi4, cutL_lo5, cutL_hi5, cutL_lo6, cutL_hi6, cutL_lo7, cutL_hi7, cutL_lo8, cutL_hi8, cutL_lo9, cutL_hi9, look, keepV, slotOf, retOf, argOf, mkAs, wb, places, lookAll, Kd.mk, ownL, intOf, items, truth, isNone, kill, outsOf, gtName, gtCons, gtNil, gtTup, dAdd, dSub, dMul, dMod, dDiv, dPow, dNeg, dIx, dSl, cEq, cNe, cI, cIs, cIsN, bLen, bAbs, bSum, bMax, bMin, bTuple, bList, lmAppend, lmExtend, lmPop, lmReverse, lmClear, zipOk, ofStr_inj, atI_0, ixN_0, atI_1, ixN_1, atI_2, ixN_2, atI_3, ixN_3, atI_4, ixN_4, atI_5, ixN_5, atI_6, ixN_6, atI_7, ixN_7, atI_8, ixN_8, atI_9, ixN_9, atI_m1, atI_map, strOk_of, sl_0, sl_1, sl_2, sl_3, sl_4, sl_5, sl_6, sl_7, sl_8, sl_9, sl_10, sl_11, sl_12, cIn_ts1, cIn_ls1, cNotIn_ts1, cNotIn_ls1, cIn_ts2, cIn_ls2, cNotIn_ts2, cNotIn_ls2, cIn_ts3, cIn_ls3, cNotIn_ts3, cNotIn_ls3, cIn_ts4, cIn_ls4, cNotIn_ts4, cNotIn_ls4, cIn_ts5, cIn_ls5, cNotIn_ts5, cNotIn_ls5, cIn_tints, cIn_lints, cNotIn_tints, cNotIn_lints, List.getElem?_cons_zero, List.getElem?_cons_succ, List.getElem?_nil, List.set_cons_zero, List.set_cons_succ, List.set_nil, List.length_cons, List.length_nil, List.cons_append, List.nil_append, List.append_nil, List.map_nil, List.map_cons, List.replicate_succ, List.replicate_zero, Option.map_some, Option.map_none, Option.bind_some, Option.bind_none, List.nodup_cons, List.nodup_nil, List.not_mem_nil, List.mem_cons, List.mem_singleton, not_false_eq_true, and_self, and_true, true_and, or_true, true_or, or_false, false_or, if_true, if_false, ite_true, ite_false, decide_true, decide_false, decide_eq_true_eq, Bool.false_eq_true, reduceCtorEq, PyData.str.injEq, PyData.int.injEq, PyData.bool.injEq, exists_eq_left, exists_eq_left', List.cons.injEq, exists_const, Bool.not_true, Bool.not_false, Bool.and_true, Bool.and_false, Bool.true_and, Nat.reduceAdd, Nat.reduceSub, Nat.reduceMul, Nat.reduceLT, Nat.reduceLeDiff, Nat.reduceEqDiff, Int.reduceLE, Int.reduceLT, Int.reduceNeg, Int.reduceAdd, Int.reduceSub, Int.reduceMul, Int.reduceToNat, Int.reducePow, Int.reduceEq, Int.reduceNe, Int.cast_ofNat_Int, Int.toNat_zero, Int.toNat_one, Int.natCast_add, Int.natCast_zero, Int.natCast_one, Int.ofNat_eq_natCast, Int.le_refl, Nat.le_refl, Nat.zero_add, Int.zero_add, Int.add_zero, String.reduceEq, String.reduceNe, eq_self, ne_eq, not_true_eq_false, not_false_eq_true,  Int.lt_irrefl, decide_not, Nat.reducePow, Int.neg_neg, ↓evo_augI, ↓evo_raise, ↓evo_try, ↓ev_lrg, ↓ev_fl, ↓sk_nx, ↓sk_rt, ↓tk_nx, ↓tk_rt, ↓tk_exc, fields1, fields2, lookup_same, lookup_other, cLeA, bSortedA, bSSetA, intsOf_nil, intsOf_icons, ↓rl0, ↓rl1, ↓rl2, ↓rl3, ↓me0, ↓me1, ↓me2, ↓me3, ↓me_hi, ↓me_lo, set_int, L3.strOf, L3.cNotInS, L3.cInS, ↓ev_m1, ↓ev_strI, ↓evo_par00, ↓ev_get, L3.unD_dict, L3.valO, L3.keyT, L3.keysOf, L3.keyOf, ↓evo_tryK, ↓evo_raise0, ↓kk_nx, ↓kk_rt, ↓kk_exc, ↓ev_isX, ↓ev_flX, isX_kept, flX_kept, isNone_kept, lookN_nil, lookN_cons, lookS_cons, fldIx_nil, fldIx_cons, List.getElem?_nil, ↓up7, ↓f2]
    · simp -dsimp only [↓ev_run, ↓ev_ok, ↓ev_exc, ↓ev_bad, ↓ev_op2, ↓ev_op1, ↓ev_cmp, ↓ev_cmpB, ↓ev_chain, ↓ev_chainB, ↓ev_test, ↓ev_andB, ↓ev_orB, ↓ev_notB, ↓ev_andV, ↓ev_orV, ↓ev_notV, ↓ev_if, ↓ev_cons, ↓ev_rcons, ↓ev_tup, ↓ev_lst, ↓ev_call, ↓ev_bi, ↓ev_sl, ↓ev_part, ↓ev_meth, ↓ev_rng1, ↓ev_rng2, ↓ev_seqI, ↓ev_enum, ↓ev_zip, ↓ev_lc, ↓evo_nx, ↓evo_rt, ↓evo_bk, ↓evo_ct, ↓evo_exc, ↓evo_bad, ↓sq_nx, ↓sq_rt, ↓sq_bk, ↓sq_ct, ↓sq_exc, ↓evo_seq, ↓evo_set, ↓evo_drop, ↓evo_if, ↓evo_ret, ↓evo_put, ↓evo_asgT, ↓evo_par, ↓evo_for, ↓rk_nx, ↓rk_rtt, ↓rk_rtf, ↓rk_exc, ↓rk_bk, ↓rk_ct, ↓fk_nx, ↓fk_ct, ↓fk_bk, ↓fk_rt, ↓fk_exc, ap_var, ap_c, ap_nil, ap_rnil, ap_yes, ap_nopart, ao_nx, ao_bk, ao_ct, ao_retN, ↓evP_some, ↓evP_none, evP_some, evP_none, evP_if, evP_ifn, evP_map, ↓ev_isa, ↓evo_aug, isa, augOf, cIsA, cIsNA, bInt, bStr, bAll, bAny, bSorted, boolsOf_map, revAll, dAddI, ↓ev_lnil, ↓ev_lcons, ↓evo_fnil, intsOf_map, List.drop_succ_cons, List.drop_zero, List.take_succ_cons, List.take_zero, List.length_map, List.drop_nil, List.take_nil, cutL_lo0, cutL_hi0, cutL_lo1, cutL_hi1, cutL_lo2, cutL_hi2, cutL_lo3, cutL_hi3, cutL_lo4, cutL_hi4, cutL_lo5, cutL_hi5, cutL_lo6, cutL_hi6, cutL_lo7, cutL_hi7, cutL_lo8, cutL_hi8, cutL_lo9, cutL_hi9, look, keepV, slotOf, retOf, argOf, mkAs, wb, places, lookAll, Kd.mk, ownL, intOf, items, truth, isNone, kill, outsOf, gtName, gtCons, gtNil, gtTup, dAdd, dSub, dMul, dMod, dDiv, dPow, dNeg, dIx, dSl, cEq, cNe, cI, cIs, cIsN, bLen, bAbs, bSum, bMax, bMin, bTuple, bList, lmAppend, lmExtend, lmPop, lmReverse, lmClear, zipOk, ofStr_inj, atI_0, ixN_0, atI_1, ixN_1, atI_2, ixN_2, atI_3, ixN_3, atI_4, ixN_4, atI_5, ixN_5, atI_6, ixN_6, atI_7, ixN_7, atI_8, ixN_8, atI_9, ixN_9, atI_m1, atI_map, strOk_of, sl_0, sl_1, sl_2, sl_3, sl_4, sl_5, sl_6, sl_7, sl_8, sl_9, sl_10, sl_11, sl_12, cIn_ts1, cIn_ls1, cNotIn_ts1, cNotIn_ls1, cIn_ts2, cIn_ls2, cNotIn_ts2, cNotIn_ls2, cIn_ts3, cIn_ls3, cNotIn_ts3, cNotIn_ls3, cIn_ts4, cIn_ls4, cNotIn_ts4, cNotIn_ls4, cIn_ts5, cIn_ls5, cNotIn_ts5, cNotIn_ls5, cIn_tints, cIn_lints, cNotIn_tints, cNotIn_lints, List.getElem?_cons_zero, List.getElem?_cons_succ, List.getElem?_nil, List.set_cons_zero, List.set_cons_succ, List.set_nil, List.length_cons, List.length_nil, List.cons_append, List.nil_append, List.append_nil, List.map_nil, List.map_cons, List.replicate_succ, List.replicate_zero, Option.map_some, Option.map_none, Option.bind_some, Option.bind_none, List.nodup_cons, List.nodup_nil, List.not_mem_nil, List.mem_cons, List.mem_singleton, not_false_eq_true, and_self, and_true, true_and, or_true, true_or, or_false, false_or, if_true, if_false, ite_true, ite_false, decide_true, decide_false, decide_eq_true_eq, Bool.false_eq_true, reduceCtorEq, PyData.str.injEq, PyData.int.injEq, PyData.bool.injEq, exists_eq_left, exists_eq_left', List.cons.injEq, exists_const, Bool.not_true, Bool.not_false, Bool.and_true, Bool.and_false, Bool.true_and, Nat.reduceAdd, Nat.reduceSub, Nat.reduceMul, Nat.reduceLT, Nat.reduceLeDiff, Nat.reduceEqDiff, Int.reduceLE, Int.reduceLT, Int.reduceNeg, Int.reduceAdd, Int.reduceSub, Int.reduceMul, Int.reduceToNat, Int.reducePow, Int.reduceEq, Int.reduceNe, Int.cast_ofNat_Int, Int.toNat_zero, Int.toNat_one, Int.natCast_add, Int.natCast_zero, Int.natCast_one, Int.ofNat_eq_natCast, Int.le_refl, Nat.le_refl, Nat.zero_add, Int.zero_add, Int.add_zero, String.reduceEq, String.reduceNe, eq_self, ne_eq, not_true_eq_false, not_false_eq_true,  Int.lt_irrefl, decide_not, Nat.reducePow, Int.neg_neg, ↓evo_augI, ↓evo_raise, ↓evo_try, ↓ev_lrg, ↓ev_fl, ↓sk_nx, ↓sk_rt, ↓tk_nx, ↓tk_rt, ↓tk_exc, fields1, fields2, lookup_same, lookup_other, cLeA, bSortedA, bSSetA, intsOf_nil, intsOf_icons, ↓rl0, ↓rl1, ↓rl2, ↓rl3, ↓me0, ↓me1, ↓me2, ↓me3, ↓me_hi, ↓me_lo, set_int, L3.strOf, L3.cNotInS, L3.cInS, ↓ev_m1, ↓ev_strI, ↓evo_par00, ↓ev_get, L3.unD_dict, L3.valO, L3.keyT, L3.keysOf, L3.keyOf, ↓evo_tryK, ↓evo_raise0, ↓kk_nx, ↓kk_rt, ↓kk_exc, ↓ev_isX, ↓ev_flX, isX_kept, flX_kept, isNone_kept, lookN_nil, lookN_cons, lookS_cons, fldIx_nil, fldIx_cons, List.getElem?_nil]
      unfold F__law_raised b__law_raised
      simp -dsimp only [↓ev_run, ↓ev_ok, ↓ev_exc, ↓ev_bad, ↓ev_op2, ↓ev_op1, ↓ev_cmp, ↓ev_cmpB, ↓ev_chain, ↓ev_chainB, ↓ev_test, ↓ev_andB, ↓ev_orB, ↓ev_notB, ↓ev_andV, ↓ev_orV, ↓ev_notV, ↓ev_if, ↓ev_cons, ↓ev_rcons, ↓ev_tup, ↓ev_lst, ↓ev_call, ↓ev_bi, ↓ev_sl, ↓ev_part, ↓ev_meth, ↓ev_rng1, ↓ev_rng2, ↓ev_seqI, ↓ev_enum, ↓ev_zip, ↓ev_lc, ↓evo_nx, ↓evo_rt, ↓evo_bk, ↓evo_ct, ↓evo_exc, ↓evo_bad, ↓sq_nx, ↓sq_rt, ↓sq_bk, ↓sq_ct, ↓sq_exc, ↓evo_seq, ↓evo_set, ↓evo_drop, ↓evo_if, ↓evo_ret, ↓evo_put, ↓evo_asgT, ↓evo_par, ↓evo_for, ↓rk_nx, ↓rk_rtt, ↓rk_rtf, ↓rk_exc, ↓rk_bk, ↓rk_ct, ↓fk_nx, ↓fk_ct, ↓fk_bk, ↓fk_rt, ↓fk_exc, ap_var, ap_c, ap_nil, ap_rnil, ap_yes, ap_nopart, ao_nx, ao_bk, ao_ct, ao_retN, ↓evP_some, ↓evP_none, evP_some, evP_none, evP_if, evP_ifn, evP_map, ↓ev_isa, ↓evo_aug, isa, augOf, cIsA, cIsNA, bInt, bStr, bAll, bAny, bSorted, boolsOf_map, revAll, dAddI, ↓ev_lnil, ↓ev_lcons, ↓evo_fnil, intsOf_map, List.drop_succ_cons, List.drop_zero, List.take_succ_cons, List.take_zero, List.length_map, List.drop_nil, List.take_nil, cutL_lo0, cutL_hi0, cutL_lo1, cutL_hi1, cutL_lo2, cutL_hi2, cutL_lo3, cutL_hi3, cutL_lo4, cutL_hi4, cutL_lo5, cutL_hi5, cutL_lo6, cutL_hi6, cutL_lo7, cutL_hi7, cutL_lo8, cutL_hi8, cutL_lo9, cutL_hi9, look, keepV, slotOf, retOf, argOf, mkAs, wb, places, lookAll, Kd.mk, ownL, intOf, items, truth, isNone, kill, outsOf, gtName, gtCons, gtNil, gtTup, dAdd, dSub, dMul, dMod, dDiv, dPow, dNeg, dIx, dSl, cEq, cNe, cI, cIs, cIsN, bLen, bAbs, bSum, bMax, bMin, bTuple, bList, lmAppend, lmExtend, lmPop, lmReverse, lmClear, zipOk, ofStr_inj, atI_0, ixN_0, atI_1, ixN_1, atI_2, ixN_2, atI_3, ixN_3, atI_4, ixN_4, atI_5, ixN_5, atI_6, ixN_6, atI_7, ixN_7, atI_8, ixN_8, atI_9, ixN_9, atI_m1, atI_map, strOk_of, sl_0, sl_1, sl_2, sl_3, sl_4, sl_5, sl_6, sl_7, sl_8, sl_9, sl_10, sl_11, sl_12, cIn_ts1, cIn_ls1, cNotIn_ts1, cNotIn_ls1, cIn_ts2, cIn_ls2, cNotIn_ts2, cNotIn_ls2, cIn_ts3, cIn_ls3, cNotIn_ts3, cNotIn_ls3, cIn_ts4, cIn_ls4, cNotIn_ts4, cNotIn_ls4, cIn_ts5, cIn_ls5, cNotIn_ts5, cNotIn_ls5, cIn_tints, cIn_lints, cNotIn_tints, cNotIn_lints, List.getElem?_cons_zero, List.getElem?_cons_succ, List.getElem?_nil, List.set_cons_zero, List.set_cons_succ, List.set_nil, List.length_cons, List.length_nil, List.cons_append, List.nil_append, List.append_nil, List.map_nil, List.map_cons, List.replicate_succ, List.replicate_zero, Option.map_some, Option.map_none, Option.bind_some, Option.bind_none, List.nodup_cons, List.nodup_nil, List.not_mem_nil, List.mem_cons, List.mem_singleton, not_false_eq_true, and_self, and_true, true_and, or_true, true_or, or_false, false_or, if_true, if_false, ite_true, ite_false, decide_true, decide_false, decide_eq_true_eq, Bool.false_eq_true, reduceCtorEq, PyData.str.injEq, PyData.int.injEq, PyData.bool.injEq, exists_eq_left, exists_eq_left', List.cons.injEq, exists_const, Bool.not_true, Bool.not_false, Bool.and_true, Bool.and_false, Bool.true_and, Nat.reduceAdd, Nat.reduceSub, Nat.reduceMul, Nat.reduceLT, Nat.reduceLeDiff, Nat.reduceEqDiff, Int.reduceLE, Int.reduceLT, Int.reduceNeg, Int.reduceAdd, Int.reduceSub, Int.reduceMul, Int.reduceToNat, Int.reducePow, Int.reduceEq, Int.reduceNe, Int.cast_ofNat_Int, Int.toNat_zero, Int.toNat_one, Int.natCast_add, Int.natCast_zero, Int.natCast_one, Int.ofNat_eq_natCast, Int.le_refl, Nat.le_refl, Nat.zero_add, Int.zero_add, Int.add_zero, String.reduceEq, String.reduceNe, eq_self, ne_eq, not_true_eq_false, not_false_eq_true,  Int.lt_irrefl, decide_not, Nat.reducePow, Int.neg_neg, ↓evo_augI, ↓evo_raise, ↓evo_try, ↓ev_lrg, ↓ev_fl, ↓sk_nx, ↓sk_rt, ↓tk_nx, ↓tk_rt, ↓tk_exc, fields1, fields2, lookup_same, lookup_other, cLeA, bSortedA, bSSetA, intsOf_nil, intsOf_icons, ↓rl0, ↓rl1, ↓rl2, ↓rl3, ↓me0, ↓me1, ↓me2, ↓me3, ↓me_hi, ↓me_lo, set_int, L3.strOf, L3.cNotInS, L3.cInS, ↓ev_m1, ↓ev_strI, ↓evo_par00, ↓ev_get, L3.unD_dict, L3.valO, L3.keyT, L3.keysOf, L3.keyOf, ↓evo_tryK, ↓evo_raise0, ↓kk_nx, ↓kk_rt, ↓kk_exc, ↓ev_isX, ↓ev_flX, isX_kept, flX_kept, isNone_kept, lookN_nil, lookN_cons, lookS_cons, fldIx_nil, fldIx_cons, List.getElem?_nil]
      unfold F__law_fields b__law_fields
      simp -dsimp only [↓ev_run, ↓ev_ok, ↓ev_exc, ↓ev_bad, ↓ev_op2, ↓ev_op1, ↓ev_cmp, ↓ev_cmpB, ↓ev_chain, ↓ev_chainB, ↓ev_test, ↓ev_andB, ↓ev_orB, ↓ev_notB, ↓ev_andV, ↓ev_orV, ↓ev_notV, ↓ev_if, ↓ev_cons, ↓ev_rcons, ↓ev_tup, ↓ev_lst, ↓ev_call, ↓ev_bi, ↓ev_sl, ↓ev_part, ↓ev_meth, ↓ev_rng1, ↓ev_rng2, ↓ev_seqI, ↓ev_enum, ↓ev_zip, ↓ev_lc, ↓evo_nx, ↓evo_rt, ↓evo_bk, ↓evo_ct, ↓evo_exc, ↓evo_bad, ↓sq_nx, ↓sq_rt, ↓sq_bk, ↓sq_ct, ↓sq_exc, ↓evo_seq, ↓evo_set, ↓evo_drop, ↓evo_if, ↓evo_ret, ↓evo_put, ↓evo_asgT, ↓evo_par, ↓evo_for, ↓rk_nx, ↓rk_rtt, ↓rk_rtf, ↓rk_exc, ↓rk_bk, ↓rk_ct, ↓fk_nx, ↓fk_ct, ↓fk_bk, ↓fk_rt, ↓fk_exc, ap_var, ap_c, ap_nil, ap_rnil, ap_yes, ap_nopart, ao_nx, ao_bk, ao_ct, ao_retN, ↓evP_some, ↓evP_none, evP_some, evP_none, evP_if, evP_ifn, evP_map, ↓ev_isa, ↓evo_aug, isa, augOf, cIsA, cIsNA, bInt, bStr, bAll, bAny, bSorted, boolsOf_map, revAll, dAddI, ↓ev_lnil, ↓ev_lcons, ↓evo_fnil, intsOf_map, List.drop_succ_cons, List.drop_zero, List.take_succ_cons, List.take_zero, List.length_map, List.drop_nil, List.take_nil, cutL_lo0, cutL_hi0, cutL_lo1, cutL_hi1, cutL_lo2, cutL_hi2, cutL_lo3, cutL_hi3, cutL_lo4, cutL_hi4, cutL_lo5, cutL_hi5, cutL_lo6, cutL_hi6, cutL_lo7, cutL_hi7, cutL_lo8, cutL_hi8, cutL_lo9, cutL_hi9, look, keepV, slotOf, retOf, argOf, mkAs, wb, places, lookAll, Kd.mk, ownL, intOf, items, truth, isNone, kill, outsOf, gtName, gtCons, gtNil, gtTup, dAdd, dSub, dMul, dMod, dDiv, dPow, dNeg, dIx, dSl, cEq, cNe, cI, cIs, cIsN, bLen, bAbs, bSum, bMax, bMin, bTuple, bList, lmAppend, lmExtend, lmPop, lmReverse, lmClear, zipOk, ofStr_inj, atI_0, ixN_0, atI_1, ixN_1, atI_2, ixN_2, atI_3, ixN_3, atI_4, ixN_4, atI_5, ixN_5, atI_6, ixN_6, atI_7, ixN_7, atI_8, ixN_8, atI_9, ixN_9, atI_m1, atI_map, strOk_of, sl_0, sl_1, sl_2, sl_3, sl_4, sl_5, sl_6, sl_7, sl_8, sl_9, sl_10, sl_11, sl_12, cIn_ts1, cIn_ls1, cNotIn_ts1, cNotIn_ls1, cIn_ts2, cIn_ls2, cNotIn_ts2, cNotIn_ls2, cIn_ts3, cIn_ls3, cNotIn_ts3, cNotIn_ls3, cIn_ts4, cIn_ls4, cNotIn_ts4, cNotIn_ls4, cIn_ts5, cIn_ls5, cNotIn_ts5, cNotIn_ls5, cIn_tints, cIn_lints, cNotIn_tints, cNotIn_lints, List.getElem?_cons_zero, List.getElem?_cons_succ, List.getElem?_nil, List.set_cons_zero, List.set_cons_succ, List.set_nil, List.length_cons, List.length_nil, List.cons_append, List.nil_append, List.append_nil, List.map_nil, List.map_cons, List.replicate_succ, List.replicate_zero, Option.map_some, Option.map_none, Option.bind_some, Option.bind_none, List.nodup_cons, List.nodup_nil, List.not_mem_nil, List.mem_cons, List.mem_singleton, not_false_eq_true, and_self, and_true, true_and, or_true, true_or, or_false, false_or, if_true, if_false, ite_true, ite_false, decide_true, decide_false, decide_eq_true_eq, Bool.false_eq_true, reduceCtorEq, PyData.str.injEq, PyData.int.injEq, PyData.bool.injEq, exists_eq_left, exists_eq_left', List.cons.injEq, exists_const, Bool.not_true, Bool.not_false, Bool.and_true, Bool.and_false, Bool.true_and, Nat.reduceAdd, Nat.reduceSub, Nat.reduceMul, Nat.reduceLT, Nat.reduceLeDiff, Nat.reduceEqDiff, Int.reduceLE, Int.reduceLT, Int.reduceNeg, Int.reduceAdd, Int.reduceSub, Int.reduceMul, Int.reduceToNat, Int.reducePow, Int.reduceEq, Int.reduceNe, Int.cast_ofNat_Int, Int.toNat_zero, Int.toNat_one, Int.natCast_add, Int.natCast_zero, Int.natCast_one, Int.ofNat_eq_natCast, Int.le_refl, Nat.le_refl, Nat.zero_add, Int.zero_add, Int.add_zero, String.reduceEq, String.reduceNe, eq_self, ne_eq, not_true_eq_false, not_false_eq_true,  Int.lt_irrefl, decide_not, Nat.reducePow, Int.neg_neg, ↓evo_augI, ↓evo_raise, ↓evo_try, ↓ev_lrg, ↓ev_fl, ↓sk_nx, ↓sk_rt, ↓tk_nx, ↓tk_rt, ↓tk_exc, fields1, fields2, lookup_same, lookup_other, cLeA, bSortedA, bSSetA, intsOf_nil, intsOf_icons, ↓rl0, ↓rl1, ↓rl2, ↓rl3, ↓me0, ↓me1, ↓me2, ↓me3, ↓me_hi, ↓me_lo, set_int, L3.strOf, L3.cNotInS, L3.cInS, ↓ev_m1, ↓ev_strI, ↓evo_par00, ↓ev_get, L3.unD_dict, L3.valO, L3.keyT, L3.keysOf, L3.keyOf, ↓evo_tryK, ↓evo_raise0, ↓kk_nx, ↓kk_rt, ↓kk_exc, ↓ev_isX, ↓ev_flX, isX_kept, flX_kept, isNone_kept, lookN_nil, lookN_cons, lookS_cons, fldIx_nil, fldIx_cons, List.getElem?_nil, ↓e3]
      unfold F__law_sorts b__law_sorts
      simp -dsimp only [↓ev_run, ↓ev_ok, ↓ev_exc, ↓ev_bad, ↓ev_op2, ↓ev_op1, ↓ev_cmp, ↓ev_cmpB, ↓ev_chain, ↓ev_chainB, ↓ev_test, ↓ev_andB, ↓ev_orB, ↓ev_notB, ↓ev_andV, ↓ev_orV, ↓ev_notV, ↓ev_if, ↓ev_cons, ↓ev_rcons, ↓ev_tup, ↓ev_lst, ↓ev_call, ↓ev_bi, ↓ev_sl, ↓ev_part, ↓ev_meth, ↓ev_rng1, ↓ev_rng2, ↓ev_seqI, ↓ev_enum, ↓ev_zip, ↓ev_lc, ↓evo_nx, ↓evo_rt, ↓evo_bk, ↓evo_ct, ↓evo_exc, ↓evo_bad, ↓sq_nx, ↓sq_rt, ↓sq_bk, ↓sq_ct, ↓sq_exc, ↓evo_seq, ↓evo_set, ↓evo_drop, ↓evo_if, ↓evo_ret, ↓evo_put, ↓evo_asgT, ↓evo_par, ↓evo_for, ↓rk_nx, ↓rk_rtt, ↓rk_rtf, ↓rk_exc, ↓rk_bk, ↓rk_ct, ↓fk_nx, ↓fk_ct, ↓fk_bk, ↓fk_rt, ↓fk_exc, ap_var, ap_c, ap_nil, ap_rnil, ap_yes, ap_nopart, ao_nx, ao_bk, ao_ct, ao_retN, ↓evP_some, ↓evP_none, evP_some, evP_none, evP_if, evP_ifn, evP_map, ↓ev_isa, ↓evo_aug, isa, augOf, cIsA, cIsNA, bInt, bStr, bAll, bAny, bSorted, boolsOf_map, revAll, dAddI, ↓ev_lnil, ↓ev_lcons, ↓evo_fnil, intsOf_map, List.drop_succ_cons, List.drop_zero, List.take_succ_cons, List.take_zero, List.length_map, List.drop_nil, List.take_nil, cutL_lo0, cutL_hi0, cutL_lo1, cutL_hi1, cutL_lo2, cutL_hi2, cutL_lo3, cutL_hi3, cutL_lo4, cutL_hi4, cutL_lo5, cutL_hi5, cutL_lo6, cutL_hi6, cutL_lo7, cutL_hi7, cutL_lo8, cutL_hi8, cutL_lo9, cutL_hi9, look, keepV, slotOf, retOf, argOf, mkAs, wb, places, lookAll, Kd.mk, ownL, intOf, items, truth, isNone, kill, outsOf, gtName, gtCons, gtNil, gtTup, dAdd, dSub, dMul, dMod, dDiv, dPow, dNeg, dIx, dSl, cEq, cNe, cI, cIs, cIsN, bLen, bAbs, bSum, bMax, bMin, bTuple, bList, lmAppend, lmExtend, lmPop, lmReverse, lmClear, zipOk, ofStr_inj, atI_0, ixN_0, atI_1, ixN_1, atI_2, ixN_2, atI_3, ixN_3, atI_4, ixN_4, atI_5, ixN_5, atI_6, ixN_6, atI_7, ixN_7, atI_8, ixN_8, atI_9, ixN_9, atI_m1, atI_map, strOk_of, sl_0, sl_1, sl_2, sl_3, sl_4, sl_5, sl_6, sl_7, sl_8, sl_9, sl_10, sl_11, sl_12, cIn_ts1, cIn_ls1, cNotIn_ts1, cNotIn_ls1, cIn_ts2, cIn_ls2, cNotIn_ts2, cNotIn_ls2, cIn_ts3, cIn_ls3, cNotIn_ts3, cNotIn_ls3, cIn_ts4, cIn_ls4, cNotIn_ts4, cNotIn_ls4, cIn_ts5, cIn_ls5, cNotIn_ts5, cNotIn_ls5, cIn_tints, cIn_lints, cNotIn_tints, cNotIn_lints, List.getElem?_cons_zero, List.getElem?_cons_succ, List.getElem?_nil, List.set_cons_zero, List.set_cons_succ, List.set_nil, List.length_cons, List.length_nil, List.cons_append, List.nil_append, List.append_nil, List.map_nil, List.map_cons, List.replicate_succ, List.replicate_zero, Option.map_some, Option.map_none, Option.bind_some, Option.bind_none, List.nodup_cons, List.nodup_nil, List.not_mem_nil, List.mem_cons, List.mem_singleton, not_false_eq_true, and_self, and_true, true_and, or_true, true_or, or_false, false_or, if_true, if_false, ite_true, ite_false, decide_true, decide_false, decide_eq_true_eq, Bool.false_eq_true, reduceCtorEq, PyData.str.injEq, PyData.int.injEq, PyData.bool.injEq, exists_eq_left, exists_eq_left', List.cons.injEq, exists_const, Bool.not_true, Bool.not_false, Bool.and_true, Bool.and_false, Bool.true_and, Nat.reduceAdd, Nat.reduceSub, Nat.reduceMul, Nat.reduceLT, Nat.reduceLeDiff, Nat.reduceEqDiff, Int.reduceLE, Int.reduceLT, Int.reduceNeg, Int.reduceAdd, Int.reduceSub, Int.reduceMul, Int.reduceToNat, Int.reducePow, Int.reduceEq, Int.reduceNe, Int.cast_ofNat_Int, Int.toNat_zero, Int.toNat_one, Int.natCast_add, Int.natCast_zero, Int.natCast_one, Int.ofNat_eq_natCast, Int.le_refl, Nat.le_refl, Nat.zero_add, Int.zero_add, Int.add_zero, String.reduceEq, String.reduceNe, eq_self, ne_eq, not_true_eq_false, not_false_eq_true,  Int.lt_irrefl, decide_not, Nat.reducePow, Int.neg_neg, ↓evo_augI, ↓evo_raise, ↓evo_try, ↓ev_lrg, ↓ev_fl, ↓sk_nx, ↓sk_rt, ↓tk_nx, ↓tk_rt, ↓tk_exc, fields1, fields2, lookup_same, lookup_other, cLeA, bSortedA, bSSetA, intsOf_nil, intsOf_icons, ↓rl0, ↓rl1, ↓rl2, ↓rl3, ↓me0, ↓me1, ↓me2, ↓me3, ↓me_hi, ↓me_lo, set_int, L3.strOf, L3.cNotInS, L3.cInS, ↓ev_m1, ↓ev_strI, ↓evo_par00, ↓ev_get, L3.unD_dict, L3.valO, L3.keyT, L3.keysOf, L3.keyOf, ↓evo_tryK, ↓evo_raise0, ↓kk_nx, ↓kk_rt, ↓kk_exc, ↓ev_isX, ↓ev_flX, isX_kept, flX_kept, isNone_kept, lookN_nil, lookN_cons, lookS_cons, fldIx_nil, fldIx_cons, List.getElem?_nil, ↓up7, ↓f3]
    · simp -dsimp only [↓ev_run, ↓ev_ok, ↓ev_exc, ↓ev_bad, ↓ev_op2, ↓ev_op1, ↓ev_cmp, ↓ev_cmpB, ↓ev_chain, ↓ev_chainB, ↓ev_test, ↓ev_andB, ↓ev_orB, ↓ev_notB, ↓ev_andV, ↓ev_orV, ↓ev_notV, ↓ev_if, ↓ev_cons, ↓ev_rcons, ↓ev_tup, ↓ev_lst, ↓ev_call, ↓ev_bi, ↓ev_sl, ↓ev_part, ↓ev_meth, ↓ev_rng1, ↓ev_rng2, ↓ev_seqI, ↓ev_enum, ↓ev_zip, ↓ev_lc, ↓evo_nx, ↓evo_rt, ↓evo_bk, ↓evo_ct, ↓evo_exc, ↓evo_bad, ↓sq_nx, ↓sq_rt, ↓sq_bk, ↓sq_ct, ↓sq_exc, ↓evo_seq, ↓evo_set, ↓evo_drop, ↓evo_if, ↓evo_ret, ↓evo_put, ↓evo_asgT, ↓evo_par, ↓evo_for, ↓rk_nx, ↓rk_rtt, ↓rk_rtf, ↓rk_exc, ↓rk_bk, ↓rk_ct, ↓fk_nx, ↓fk_ct, ↓fk_bk, ↓fk_rt, ↓fk_exc, ap_var, ap_c, ap_nil, ap_rnil, ap_yes, ap_nopart, ao_nx, ao_bk, ao_ct, ao_retN, ↓evP_some, ↓evP_none, evP_some, evP_none, evP_if, evP_ifn, evP_map, ↓ev_isa, ↓evo_aug, isa, augOf, cIsA, cIsNA, bInt, bStr, bAll, bAny, bSorted, boolsOf_map, revAll, dAddI, ↓ev_lnil, ↓ev_lcons, ↓evo_fnil, intsOf_map, List.drop_succ_cons, List.drop_zero, List.take_succ_cons, List.take_zero, List.length_map, List.drop_nil, List.take_nil, cutL_lo0, cutL_hi0, cutL_lo1, cutL_hi1, cutL_lo2, cutL_hi2, cutL_lo3, cutL_hi3, cutL_lo4, cutL_hi4, cutL_lo5, cutL_hi5, cutL_lo6, cutL_hi6, cutL_lo7, cutL_hi7, cutL_lo8, cutL_hi8, cutL_lo9, cutL_hi9, look, keepV, slotOf, retOf, argOf, mkAs, wb, places, lookAll, Kd.mk, ownL, intOf, items, truth, isNone, kill, outsOf, gtName, gtCons, gtNil, gtTup, dAdd, dSub, dMul, dMod, dDiv, dPow, dNeg, dIx, dSl, cEq, cNe, cI, cIs, cIsN, bLen, bAbs, bSum, bMax, bMin, bTuple, bList, lmAppend, lmExtend, lmPop, lmReverse, lmClear, zipOk, ofStr_inj, atI_0, ixN_0, atI_1, ixN_1, atI_2, ixN_2, atI_3, ixN_3, atI_4, ixN_4, atI_5, ixN_5, atI_6, ixN_6, atI_7, ixN_7, atI_8, ixN_8, atI_9, ixN_9, atI_m1, atI_map, strOk_of, sl_0, sl_1, sl_2, sl_3, sl_4, sl_5, sl_6, sl_7, sl_8, sl_9, sl_10, sl_11, sl_12, cIn_ts1, cIn_ls1, cNotIn_ts1, cNotIn_ls1, cIn_ts2, cIn_ls2, cNotIn_ts2, cNotIn_ls2, cIn_ts3, cIn_ls3, cNotIn_ts3, cNotIn_ls3, cIn_ts4, cIn_ls4, cNotIn_ts4, cNotIn_ls4, cIn_ts5, cIn_ls5, cNotIn_ts5, cNotIn_ls5, cIn_tints, cIn_lints, cNotIn_tints, cNotIn_lints, List.getElem?_cons_zero, List.getElem?_cons_succ, List.getElem?_nil, List.set_cons_zero, List.set_cons_succ, List.set_nil, List.length_cons, List.length_nil, List.cons_append, List.nil_append, List.append_nil, List.map_nil, List.map_cons, List.replicate_succ, List.replicate_zero, Option.map_some, Option.map_none, Option.bind_some, Option.bind_none, List.nodup_cons, List.nodup_nil, List.not_mem_nil, List.mem_cons, List.mem_singleton, not_false_eq_true, and_self, and_true, true_and, or_true, true_or, or_false, false_or, if_true, if_false, ite_true, ite_false, decide_true, decide_false, decide_eq_true_eq, Bool.false_eq_true, reduceCtorEq, PyData.str.injEq, PyData.int.injEq, PyData.bool.injEq, exists_eq_left, exists_eq_left', List.cons.injEq, exists_const, Bool.not_true, Bool.not_false, Bool.and_true, Bool.and_false, Bool.true_and, Nat.reduceAdd, Nat.reduceSub, Nat.reduceMul, Nat.reduceLT, Nat.reduceLeDiff, Nat.reduceEqDiff, Int.reduceLE, Int.reduceLT, Int.reduceNeg, Int.reduceAdd, Int.reduceSub, Int.reduceMul, Int.reduceToNat, Int.reducePow, Int.reduceEq, Int.reduceNe, Int.cast_ofNat_Int, Int.toNat_zero, Int.toNat_one, Int.natCast_add, Int.natCast_zero, Int.natCast_one, Int.ofNat_eq_natCast, Int.le_refl, Nat.le_refl, Nat.zero_add, Int.zero_add, Int.add_zero, String.reduceEq, String.reduceNe, eq_self, ne_eq, not_true_eq_false, not_false_eq_true,  Int.lt_irrefl, decide_not, Nat.reducePow, Int.neg_neg, ↓evo_augI, ↓evo_raise, ↓evo_try, ↓ev_lrg, ↓ev_fl, ↓sk_nx, ↓sk_rt, ↓tk_nx, ↓tk_rt, ↓tk_exc, fields1, fields2, lookup_same, lookup_other, cLeA, bSortedA, bSSetA, intsOf_nil, intsOf_icons, ↓rl0, ↓rl1, ↓rl2, ↓rl3, ↓me0, ↓me1, ↓me2, ↓me3, ↓me_hi, ↓me_lo, set_int, L3.strOf, L3.cNotInS, L3.cInS, ↓ev_m1, ↓ev_strI, ↓evo_par00, ↓ev_get, L3.unD_dict, L3.valO, L3.keyT, L3.keysOf, L3.keyOf, ↓evo_tryK, ↓evo_raise0, ↓kk_nx, ↓kk_rt, ↓kk_exc, ↓ev_isX, ↓ev_flX, isX_kept, flX_kept, isNone_kept, lookN_nil, lookN_cons, lookS_cons, fldIx_nil, fldIx_cons, List.getElem?_nil]
      unfold F__law_raised b__law_raised
      simp -dsimp only [↓ev_run, ↓ev_ok, ↓ev_exc, ↓ev_bad, ↓ev_op2, ↓ev_op1, ↓ev_cmp, ↓ev_cmpB, ↓ev_chain, ↓ev_chainB, ↓ev_test, ↓ev_andB, ↓ev_orB, ↓ev_notB, ↓ev_andV, ↓ev_orV, ↓ev_notV, ↓ev_if, ↓ev_cons, ↓ev_rcons, ↓ev_tup, ↓ev_lst, ↓ev_call, ↓ev_bi, ↓ev_sl, ↓ev_part, ↓ev_meth, ↓ev_rng1, ↓ev_rng2, ↓ev_seqI, ↓ev_enum, ↓ev_zip, ↓ev_lc, ↓evo_nx, ↓evo_rt, ↓evo_bk, ↓evo_ct, ↓evo_exc, ↓evo_bad, ↓sq_nx, ↓sq_rt, ↓sq_bk, ↓sq_ct, ↓sq_exc, ↓evo_seq, ↓evo_set, ↓evo_drop, ↓evo_if, ↓evo_ret, ↓evo_put, ↓evo_asgT, ↓evo_par, ↓evo_for, ↓rk_nx, ↓rk_rtt, ↓rk_rtf, ↓rk_exc, ↓rk_bk, ↓rk_ct, ↓fk_nx, ↓fk_ct, ↓fk_bk, ↓fk_rt, ↓fk_exc, ap_var, ap_c, ap_nil, ap_rnil, ap_yes, ap_nopart, ao_nx, ao_bk, ao_ct, ao_retN, ↓evP_some, ↓evP_none, evP_some, evP_none, evP_if, evP_ifn, evP_map, ↓ev_isa, ↓evo_aug, isa, augOf, cIsA, cIsNA, bInt, bStr, bAll, bAny, bSorted, boolsOf_map, revAll, dAddI, ↓ev_lnil, ↓ev_lcons, ↓evo_fnil, intsOf_map, List.drop_succ_cons, List.drop_zero, List.take_succ_cons, List.take_zero, List.length_map, List.drop_nil, List.take_nil, cutL_lo0, cutL_hi0, cutL_lo1, cutL_hi1, cutL_lo2, cutL_hi2, cutL_lo3, cutL_hi3, cutL_lo4, cutL_hi4, cutL_lo5, cutL_hi5, cutL_lo6, cutL_hi6, cutL_lo7, cutL_hi7, cutL_lo8, cutL_hi8, cutL_lo9, cutL_hi9, look, keepV, slotOf, retOf, argOf, mkAs, wb, places, lookAll, Kd.mk, ownL, intOf, items, truth, isNone, kill, outsOf, gtName, gtCons, gtNil, gtTup, dAdd, dSub, dMul, dMod, dDiv, dPow, dNeg, dIx, dSl, cEq, cNe, cI, cIs, cIsN, bLen, bAbs, bSum, bMax, bMin, bTuple, bList, lmAppend, lmExtend, lmPop, lmReverse, lmClear, zipOk, ofStr_inj, atI_0, ixN_0, atI_1, ixN_1, atI_2, ixN_2, atI_3, ixN_3, atI_4, ixN_4, atI_5, ixN_5, atI_6, ixN_6, atI_7, ixN_7, atI_8, ixN_8, atI_9, ixN_9, atI_m1, atI_map, strOk_of, sl_0, sl_1, sl_2, sl_3, sl_4, sl_5, sl_6, sl_7, sl_8, sl_9, sl_10, sl_11, sl_12, cIn_ts1, cIn_ls1, cNotIn_ts1, cNotIn_ls1, cIn_ts2, cIn_ls2, cNotIn_ts2, cNotIn_ls2, cIn_ts3, cIn_ls3, cNotIn_ts3, cNotIn_ls3, cIn_ts4, cIn_ls4, cNotIn_ts4, cNotIn_ls4, cIn_ts5, cIn_ls5, cNotIn_ts5, cNotIn_ls5, cIn_tints, cIn_lints, cNotIn_tints, cNotIn_lints, List.getElem?_cons_zero, List.getElem?_cons_succ, List.getElem?_nil, List.set_cons_zero, List.set_cons_succ, List.set_nil, List.length_cons, List.length_nil, List.cons_append, List.nil_append, List.append_nil, List.map_nil, List.map_cons, List.replicate_succ, List.replicate_zero, Option.map_some, Option.map_none, Option.bind_some, Option.bind_none, List.nodup_cons, List.nodup_nil, List.not_mem_nil, List.mem_cons, List.mem_singleton, not_false_eq_true, and_self, and_true, true_and, or_true, true_or, or_false, false_or, if_true, if_false, ite_true, ite_false, decide_true, decide_false, decide_eq_true_eq, Bool.false_eq_true, reduceCtorEq, PyData.str.injEq, PyData.int.injEq, PyData.bool.injEq, exists_eq_left, exists_eq_left', List.cons.injEq, exists_const, Bool.not_true, Bool.not_false, Bool.and_true, Bool.and_false, Bool.true_and, Nat.reduceAdd, Nat.reduceSub, Nat.reduceMul, Nat.reduceLT, Nat.reduceLeDiff, Nat.reduceEqDiff, Int.reduceLE, Int.reduceLT, Int.reduceNeg, Int.reduceAdd, Int.reduceSub, Int.reduceMul, Int.reduceToNat, Int.reducePow, Int.reduceEq, Int.reduceNe, Int.cast_ofNat_Int, Int.toNat_zero, Int.toNat_one, Int.natCast_add, Int.natCast_zero, Int.natCast_one, Int.ofNat_eq_natCast, Int.le_refl, Nat.le_refl, Nat.zero_add, Int.zero_add, Int.add_zero, String.reduceEq, String.reduceNe, eq_self, ne_eq, not_true_eq_false, not_false_eq_true,  Int.lt_irrefl, decide_not, Nat.reducePow, Int.neg_neg, ↓evo_augI, ↓evo_raise, ↓evo_try, ↓ev_lrg, ↓ev_fl, ↓sk_nx, ↓sk_rt, ↓tk_nx, ↓tk_rt, ↓tk_exc, fields1, fields2, lookup_same, lookup_other, cLeA, bSortedA, bSSetA, intsOf_nil, intsOf_icons, ↓rl0, ↓rl1, ↓rl2, ↓rl3, ↓me0, ↓me1, ↓me2, ↓me3, ↓me_hi, ↓me_lo, set_int, L3.strOf, L3.cNotInS, L3.cInS, ↓ev_m1, ↓ev_strI, ↓evo_par00, ↓ev_get, L3.unD_dict, L3.valO, L3.keyT, L3.keysOf, L3.keyOf, ↓evo_tryK, ↓evo_raise0, ↓kk_nx, ↓kk_rt, ↓kk_exc, ↓ev_isX, ↓ev_flX, isX_kept, flX_kept, isNone_kept, lookN_nil, lookN_cons, lookS_cons, fldIx_nil, fldIx_cons, List.getElem?_nil]
      unfold F__law_fields b__law_fields
      simp -dsimp only [↓ev_run, ↓ev_ok, ↓ev_exc, ↓ev_bad, ↓ev_op2, ↓ev_op1, ↓ev_cmp, ↓ev_cmpB, ↓ev_chain, ↓ev_chainB, ↓ev_test, ↓ev_andB, ↓ev_orB, ↓ev_notB, ↓ev_andV, ↓ev_orV, ↓ev_notV, ↓ev_if, ↓ev_cons, ↓ev_rcons, ↓ev_tup, ↓ev_lst, ↓ev_call, ↓ev_bi, ↓ev_sl, ↓ev_part, ↓ev_meth, ↓ev_rng1, ↓ev_rng2, ↓ev_seqI, ↓ev_enum, ↓ev_zip, ↓ev_lc, ↓evo_nx, ↓evo_rt, ↓evo_bk, ↓evo_ct, ↓evo_exc, ↓evo_bad, ↓sq_nx, ↓sq_rt, ↓sq_bk, ↓sq_ct, ↓sq_exc, ↓evo_seq, ↓evo_set, ↓evo_drop, ↓evo_if, ↓evo_ret, ↓evo_put, ↓evo_asgT, ↓evo_par, ↓evo_for, ↓rk_nx, ↓rk_rtt, ↓rk_rtf, ↓rk_exc, ↓rk_bk, ↓rk_ct, ↓fk_nx, ↓fk_ct, ↓fk_bk, ↓fk_rt, ↓fk_exc, ap_var, ap_c, ap_nil, ap_rnil, ap_yes, ap_nopart, ao_nx, ao_bk, ao_ct, ao_retN, ↓evP_some, ↓evP_none, evP_some, evP_none, evP_if, evP_ifn, evP_map, ↓ev_isa, ↓evo_aug, isa, augOf, cIsA, cIsNA, bInt, bStr, bAll, bAny, bSorted, boolsOf_map, revAll, dAddI, ↓ev_lnil, ↓ev_lcons, ↓evo_fnil, intsOf_map, List.drop_succ_cons, List.drop_zero, List.take_succ_cons, List.take_zero, List.length_map, List.drop_nil, List.take_nil, cutL_lo0, cutL_hi0, cutL_lo1, cutL_hi1, cutL_lo2, cutL_hi2, cutL_lo3, cutL_hi3, cutL_lo4, cutL_hi4, cutL_lo5, cutL_hi5, cutL_lo6, cutL_hi6, cutL_lo7, cutL_hi7, cutL_lo8, cutL_hi8, cutL_lo9, cutL_hi9, look, keepV, slotOf, retOf, argOf, mkAs, wb, places, lookAll, Kd.mk, ownL, intOf, items, truth, isNone, kill, outsOf, gtName, gtCons, gtNil, gtTup, dAdd, dSub, dMul, dMod, dDiv, dPow, dNeg, dIx, dSl, cEq, cNe, cI, cIs, cIsN, bLen, bAbs, bSum, bMax, bMin, bTuple, bList, lmAppend, lmExtend, lmPop, lmReverse, lmClear, zipOk, ofStr_inj, atI_0, ixN_0, atI_1, ixN_1, atI_2, ixN_2, atI_3, ixN_3, atI_4, ixN_4, atI_5, ixN_5, atI_6, ixN_6, atI_7, ixN_7, atI_8, ixN_8, atI_9, ixN_9, atI_m1, atI_map, strOk_of, sl_0, sl_1, sl_2, sl_3, sl_4, sl_5, sl_6, sl_7, sl_8, sl_9, sl_10, sl_11, sl_12, cIn_ts1, cIn_ls1, cNotIn_ts1, cNotIn_ls1, cIn_ts2, cIn_ls2, cNotIn_ts2, cNotIn_ls2, cIn_ts3, cIn_ls3, cNotIn_ts3, cNotIn_ls3, cIn_ts4, cIn_ls4, cNotIn_ts4, cNotIn_ls4, cIn_ts5, cIn_ls5, cNotIn_ts5, cNotIn_ls5, cIn_tints, cIn_lints, cNotIn_tints, cNotIn_lints, List.getElem?_cons_zero, List.getElem?_cons_succ, List.getElem?_nil, List.set_cons_zero, List.set_cons_succ, List.set_nil, List.length_cons, List.length_nil, List.cons_append, List.nil_append, List.append_nil, List.map_nil, List.map_cons, List.replicate_succ, List.replicate_zero, Option.map_some, Option.map_none, Option.bind_some, Option.bind_none, List.nodup_cons, List.nodup_nil, List.not_mem_nil, List.mem_cons, List.mem_singleton, not_false_eq_true, and_self, and_true, true_and, or_true, true_or, or_false, false_or, if_true, if_false, ite_true, ite_false, decide_true, decide_false, decide_eq_true_eq, Bool.false_eq_true, reduceCtorEq, PyData.str.injEq, PyData.int.injEq, PyData.bool.injEq, exists_eq_left, exists_eq_left', List.cons.injEq, exists_const, Bool.not_true, Bool.not_false, Bool.and_true, Bool.and_false, Bool.true_and, Nat.reduceAdd, Nat.reduceSub, Nat.reduceMul, Nat.reduceLT, Nat.reduceLeDiff, Nat.reduceEqDiff, Int.reduceLE, Int.reduceLT, Int.reduceNeg, Int.reduceAdd, Int.reduceSub, Int.reduceMul, Int.reduceToNat, Int.reducePow, Int.reduceEq, Int.reduceNe, Int.cast_ofNat_Int, Int.toNat_zero, Int.toNat_one, Int.natCast_add, Int.natCast_zero, Int.natCast_one, Int.ofNat_eq_natCast, Int.le_refl, Nat.le_refl, Nat.zero_add, Int.zero_add, Int.add_zero, String.reduceEq, String.reduceNe, eq_self, ne_eq, not_true_eq_false, not_false_eq_true,  Int.lt_irrefl, decide_not, Nat.reducePow, Int.neg_neg, ↓evo_augI, ↓evo_raise, ↓evo_try, ↓ev_lrg, ↓ev_fl, ↓sk_nx, ↓sk_rt, ↓tk_nx, ↓tk_rt, ↓tk_exc, fields1, fields2, lookup_same, lookup_other, cLeA, bSortedA, bSSetA, intsOf_nil, intsOf_icons, ↓rl0, ↓rl1, ↓rl2, ↓rl3, ↓me0, ↓me1, ↓me2, ↓me3, ↓me_hi, ↓me_lo, set_int, L3.strOf, L3.cNotInS, L3.cInS, ↓ev_m1, ↓ev_strI, ↓evo_par00, ↓ev_get, L3.unD_dict, L3.valO, L3.keyT, L3.keysOf, L3.keyOf, ↓evo_tryK, ↓evo_raise0, ↓kk_nx, ↓kk_rt, ↓kk_exc, ↓ev_isX, ↓ev_flX, isX_kept, flX_kept, isNone_kept, lookN_nil, lookN_cons, lookS_cons, fldIx_nil, fldIx_cons, List.getElem?_nil, ↓e4]
      unfold F__law_sorts b__law_sorts
      simp -dsimp only [↓ev_run, ↓ev_ok, ↓ev_exc, ↓ev_bad, ↓ev_op2, ↓ev_op1, ↓ev_cmp, ↓ev_cmpB, ↓ev_chain, ↓ev_chainB, ↓ev_test, ↓ev_andB, ↓ev_orB, ↓ev_notB, ↓ev_andV, ↓ev_orV, ↓ev_notV, ↓ev_if, ↓ev_cons, ↓ev_rcons, ↓ev_tup, ↓ev_lst, ↓ev_call, ↓ev_bi, ↓ev_sl, ↓ev_part, ↓ev_meth, ↓ev_rng1, ↓ev_rng2, ↓ev_seqI, ↓ev_enum, ↓ev_zip, ↓ev_lc, ↓evo_nx, ↓evo_rt, ↓evo_bk, ↓evo_ct, ↓evo_exc, ↓evo_bad, ↓sq_nx, ↓sq_rt, ↓sq_bk, ↓sq_ct, ↓sq_exc, ↓evo_seq, ↓evo_set, ↓evo_drop, ↓evo_if, ↓evo_ret, ↓evo_put, ↓evo_asgT, ↓evo_par, ↓evo_for, ↓rk_nx, ↓rk_rtt, ↓rk_rtf, ↓rk_exc, ↓rk_bk, ↓rk_ct, ↓fk_nx, ↓fk_ct, ↓fk_bk, ↓fk_rt, ↓fk_exc, ap_var, ap_c, ap_nil, ap_rnil, ap_yes, ap_nopart, ao_nx, ao_bk, ao_ct, ao_retN, ↓evP_some, ↓evP_none, evP_some, evP_none, evP_if, evP_ifn, evP_map, ↓ev_isa, ↓evo_aug, isa, augOf, cIsA, cIsNA, bInt, bStr, bAll, bAny, bSorted, boolsOf_map, revAll, dAddI, ↓ev_lnil, ↓ev_lcons, ↓evo_fnil, intsOf_map, List.drop_succ_cons, List.drop_zero, List.take_succ_cons, List.take_zero, List.length_map, List.drop_nil, List.take_nil, cutL_lo0, cutL_hi0, cutL_lo1, cutL_hi1, cutL_lo2, cutL_hi2, cutL_lo3, cutL_hi3, cutL_lo4, cutL_hi4, cutL_lo5, cutL_hi5, cutL_lo6, cutL_hi6, cutL_lo7, cutL_hi7, cutL_lo8, cutL_hi8, cutL_lo9, cutL_hi9, look, keepV, slotOf, retOf, argOf, mkAs, wb, places, lookAll, Kd.mk, ownL, intOf, items, truth, isNone, kill, outsOf, gtName, gtCons, gtNil, gtTup, dAdd, dSub, dMul, dMod, dDiv, dPow, dNeg, dIx, dSl, cEq, cNe, cI, cIs, cIsN, bLen, bAbs, bSum, bMax, bMin, bTuple, bList, lmAppend, lmExtend, lmPop, lmReverse, lmClear, zipOk, ofStr_inj, atI_0, ixN_0, atI_1, ixN_1, atI_2, ixN_2, atI_3, ixN_3, atI_4, ixN_4, atI_5, ixN_5, atI_6, ixN_6, atI_7, ixN_7, atI_8, ixN_8, atI_9, ixN_9, atI_m1, atI_map, strOk_of, sl_0, sl_1, sl_2, sl_3, sl_4, sl_5, sl_6, sl_7, sl_8, sl_9, sl_10, sl_11, sl_12, cIn_ts1, cIn_ls1, cNotIn_ts1, cNotIn_ls1, cIn_ts2, cIn_ls2, cNotIn_ts2, cNotIn_ls2, cIn_ts3, cIn_ls3, cNotIn_ts3, cNotIn_ls3, cIn_ts4, cIn_ls4, cNotIn_ts4, cNotIn_ls4, cIn_ts5, cIn_ls5, cNotIn_ts5, cNotIn_ls5, cIn_tints, cIn_lints, cNotIn_tints, cNotIn_lints, List.getElem?_cons_zero, List.getElem?_cons_succ, List.getElem?_nil, List.set_cons_zero, List.set_cons_succ, List.set_nil, List.length_cons, List.length_nil, List.cons_append, List.nil_append, List.append_nil, List.map_nil, List.map_cons, List.replicate_succ, List.replicate_zero, Option.map_some, Option.map_none, Option.bind_some, Option.bind_none, List.nodup_cons, List.nodup_nil, List.not_mem_nil, List.mem_cons, List.mem_singleton, not_false_eq_true, and_self, and_true, true_and, or_true, true_or, or_false, false_or, if_true, if_false, ite_true, ite_false, decide_true, decide_false, decide_eq_true_eq, Bool.false_eq_true, reduceCtorEq, PyData.str.injEq, PyData.int.injEq, PyData.bool.injEq, exists_eq_left, exists_eq_left', List.cons.injEq, exists_const, Bool.not_true, Bool.not_false, Bool.and_true, Bool.and_false, Bool.true_and, Nat.reduceAdd, Nat.reduceSub, Nat.reduceMul, Nat.reduceLT, Nat.reduceLeDiff, Nat.reduceEqDiff, Int.reduceLE, Int.reduceLT, Int.reduceNeg, Int.reduceAdd, Int.reduceSub, Int.reduceMul, Int.reduceToNat, Int.reducePow, Int.reduceEq, Int.reduceNe, Int.cast_ofNat_Int, Int.toNat_zero, Int.toNat_one, Int.natCast_add, Int.natCast_zero, Int.natCast_one, Int.ofNat_eq_natCast, Int.le_refl, Nat.le_refl, Nat.zero_add, Int.zero_add, Int.add_zero, String.reduceEq, String.reduceNe, eq_self, ne_eq, not_true_eq_false, not_false_eq_true,  Int.lt_irrefl, decide_not, Nat.reducePow, Int.neg_neg, ↓evo_augI, ↓evo_raise, ↓evo_try, ↓ev_lrg, ↓ev_fl, ↓sk_nx, ↓sk_rt, ↓tk_nx, ↓tk_rt, ↓tk_exc, fields1, fields2, lookup_same, lookup_other, cLeA, bSortedA, bSSetA, intsOf_nil, intsOf_icons, ↓rl0, ↓rl1, ↓rl2, ↓rl3, ↓me0, ↓me1, ↓me2, ↓me3, ↓me_hi, ↓me_lo, set_int, L3.strOf, L3.cNotInS, L3.cInS, ↓ev_m1, ↓ev_strI, ↓evo_par00, ↓ev_get, L3.unD_dict, L3.valO, L3.keyT, L3.keysOf, L3.keyOf, ↓evo_tryK, ↓evo_raise0, ↓kk_nx, ↓kk_rt, ↓kk_exc, ↓ev_isX, ↓ev_flX, isX_kept, flX_kept, isNone_kept, lookN_nil, lookN_cons, lookS_cons, fldIx_nil, fldIx_cons, List.getElem?_nil, ↓up7, ↓f4]
    · simp -dsimp only [↓ev_run, ↓ev_ok, ↓ev_exc, ↓ev_bad, ↓ev_op2, ↓ev_op1, ↓ev_cmp, ↓ev_cmpB, ↓ev_chain, ↓ev_chainB, ↓ev_test, ↓ev_andB, ↓ev_orB, ↓ev_notB, ↓ev_andV, ↓ev_orV, ↓ev_notV, ↓ev_if, ↓ev_cons, ↓ev_rcons, ↓ev_tup, ↓ev_lst, ↓ev_call, ↓ev_bi, ↓ev_sl, ↓ev_part, ↓ev_meth, ↓ev_rng1, ↓ev_rng2, ↓ev_seqI, ↓ev_enum, ↓ev_zip, ↓ev_lc, ↓evo_nx, ↓evo_rt, ↓evo_bk, ↓evo_ct, ↓evo_exc, ↓evo_bad, ↓sq_nx, ↓sq_rt, ↓sq_bk, ↓sq_ct, ↓sq_exc, ↓evo_seq, ↓evo_set, ↓evo_drop, ↓evo_if, ↓evo_ret, ↓evo_put, ↓evo_asgT, ↓evo_par, ↓evo_for, ↓rk_nx, ↓rk_rtt, ↓rk_rtf, ↓rk_exc, ↓rk_bk, ↓rk_ct, ↓fk_nx, ↓fk_ct, ↓fk_bk, ↓fk_rt, ↓fk_exc, ap_var, ap_c, ap_nil, ap_rnil, ap_yes, ap_nopart, ao_nx, ao_bk, ao_ct, ao_retN, ↓evP_some, ↓evP_none, evP_some, evP_none, evP_if, evP_ifn, evP_map, ↓ev_isa, ↓evo_aug, isa, augOf, cIsA, cIsNA, bInt, bStr, bAll, bAny, bSorted, boolsOf_map, revAll, dAddI, ↓ev_lnil, ↓ev_lcons, ↓evo_fnil, intsOf_map, List.drop_succ_cons, List.drop_zero, List.take_succ_cons, List.take_zero, List.length_map, List.drop_nil, List.take_nil, cutL_lo0, cutL_hi0, cutL_lo1, cutL_hi1, cutL_lo2, cutL_hi2, cutL_lo3, cutL_hi3, cutL_lo4, cutL_hi4, cutL_lo5, cutL_hi5, cutL_lo6, cutL_hi6, cutL_lo7, cutL_hi7, cutL_lo8, cutL_hi8, cutL_lo9, cutL_hi9, look, keepV, slotOf, retOf, argOf, mkAs, wb, places, lookAll, Kd.mk, ownL, intOf, items, truth, isNone, kill, outsOf, gtName, gtCons, gtNil, gtTup, dAdd, dSub, dMul, dMod, dDiv, dPow, dNeg, dIx, dSl, cEq, cNe, cI, cIs, cIsN, bLen, bAbs, bSum, bMax, bMin, bTuple, bList, lmAppend, lmExtend, lmPop, lmReverse, lmClear, zipOk, ofStr_inj, atI_0, ixN_0, atI_1, ixN_1, atI_2, ixN_2, atI_3, ixN_3, atI_4, ixN_4, atI_5, ixN_5, atI_6, ixN_6, atI_7, ixN_7, atI_8, ixN_8, atI_9, ixN_9, atI_m1, atI_map, strOk_of, sl_0, sl_1, sl_2, sl_3, sl_4, sl_5, sl_6, sl_7, sl_8, sl_9, sl_10, sl_11, sl_12, cIn_ts1, cIn_ls1, cNotIn_ts1, cNotIn_ls1, cIn_ts2, cIn_ls2, cNotIn_ts2, cNotIn_ls2, cIn_ts3, cIn_ls3, cNotIn_ts3, cNotIn_ls3, cIn_ts4, cIn_ls4, cNotIn_ts4, cNotIn_ls4, cIn_ts5, cIn_ls5, cNotIn_ts5, cNotIn_ls5, cIn_tints, cIn_lints, cNotIn_tints, cNotIn_lints, List.getElem?_cons_zero, List.getElem?_cons_succ, List.getElem?_nil, List.set_cons_zero, List.set_cons_succ, List.set_nil, List.length_cons, List.length_nil, List.cons_append, List.nil_append, List.append_nil, List.map_nil, List.map_cons, List.replicate_succ, List.replicate_zero, Option.map_some, Option.map_none, Option.bind_some, Option.bind_none, List.nodup_cons, List.nodup_nil, List.not_mem_nil, List.mem_cons, List.mem_singleton, not_false_eq_true, and_self, and_true, true_and, or_true, true_or, or_false, false_or, if_true, if_false, ite_true, ite_false, decide_true, decide_false, decide_eq_true_eq, Bool.false_eq_true, reduceCtorEq, PyData.str.injEq, PyData.int.injEq, PyData.bool.injEq, exists_eq_left, exists_eq_left', List.cons.injEq, exists_const, Bool.not_true, Bool.not_false, Bool.and_true, Bool.and_false, Bool.true_and, Nat.reduceAdd, Nat.reduceSub, Nat.reduceMul, Nat.reduceLT, Nat.reduceLeDiff, Nat.reduceEqDiff, Int.reduceLE, Int.reduceLT, Int.reduceNeg, Int.reduceAdd, Int.reduceSub, Int.reduceMul, Int.reduceToNat, Int.reducePow, Int.reduceEq, Int.reduceNe, Int.cast_ofNat_Int, Int.toNat_zero, Int.toNat_one, Int.natCast_add, Int.natCast_zero, Int.natCast_one, Int.ofNat_eq_natCast, Int.le_refl, Nat.le_refl, Nat.zero_add, Int.zero_add, Int.add_zero, String.reduceEq, String.reduceNe, eq_self, ne_eq, not_true_eq_false, not_false_eq_true,  Int.lt_irrefl, decide_not, Nat.reducePow, Int.neg_neg, ↓evo_augI, ↓evo_raise, ↓evo_try, ↓ev_lrg, ↓ev_fl, ↓sk_nx, ↓sk_rt, ↓tk_nx, ↓tk_rt, ↓tk_exc, fields1, fields2, lookup_same, lookup_other, cLeA, bSortedA, bSSetA, intsOf_nil, intsOf_icons, ↓rl0, ↓rl1, ↓rl2, ↓rl3, ↓me0, ↓me1, ↓me2, ↓me3, ↓me_hi, ↓me_lo, set_int, L3.strOf, L3.cNotInS, L3.cInS, ↓ev_m1, ↓ev_strI, ↓evo_par00, ↓ev_get, L3.unD_dict, L3.valO, L3.keyT, L3.keysOf, L3.keyOf, ↓evo_tryK, ↓evo_raise0, ↓kk_nx, ↓kk_rt, ↓kk_exc, ↓ev_isX, ↓ev_flX, isX_kept, flX_kept, isNone_kept, lookN_nil, lookN_cons, lookS_cons, fldIx_nil, fldIx_cons, List.getElem?_nil]
      unfold F__law_raised b__law_raised
      simp -dsimp only [↓ev_run, ↓ev_ok, ↓ev_exc, ↓ev_bad, ↓ev_op2, ↓ev_op1, ↓ev_cmp, ↓ev_cmpB, ↓ev_chain, ↓ev_chainB, ↓ev_test, ↓ev_andB, ↓ev_orB, ↓ev_notB, ↓ev_andV, ↓ev_orV, ↓ev_notV, ↓ev_if, ↓ev_cons, ↓ev_rcons, ↓ev_tup, ↓ev_lst, ↓ev_call, ↓ev_bi, ↓ev_sl, ↓ev_part, ↓ev_meth, ↓ev_rng1, ↓ev_rng2, ↓ev_seqI, ↓ev_enum, ↓ev_zip, ↓ev_lc, ↓evo_nx, ↓evo_rt, ↓evo_bk, ↓evo_ct, ↓evo_exc, ↓evo_bad, ↓sq_nx, ↓sq_rt, ↓sq_bk, ↓sq_ct, ↓sq_exc, ↓evo_seq, ↓evo_set, ↓evo_drop, ↓evo_if, ↓evo_ret, ↓evo_put, ↓evo_asgT, ↓evo_par, ↓evo_for, ↓rk_nx, ↓rk_rtt, ↓rk_rtf, ↓rk_exc, ↓rk_bk, ↓rk_ct, ↓fk_nx, ↓fk_ct, ↓fk_bk, ↓fk_rt, ↓fk_exc, ap_var, ap_c, ap_nil, ap_rnil, ap_yes, ap_nopart, ao_nx, ao_bk, ao_ct, ao_retN, ↓evP_some, ↓evP_none, evP_some, evP_none, evP_if, evP_ifn, evP_map, ↓ev_isa, ↓evo_aug, isa, augOf, cIsA, cIsNA, bInt, bStr, bAll, bAny, bSorted, boolsOf_map, revAll, dAddI, ↓ev_lnil, ↓ev_lcons, ↓evo_fnil, intsOf_map, List.drop_succ_cons, List.drop_zero, List.take_succ_cons, List.take_zero, List.length_map, List.drop_nil, List.take_nil, cutL_lo0, cutL_hi0, cutL_lo1, cutL_hi1, cutL_lo2, cutL_hi2, cutL_lo3, cutL_hi3, cutL_lo4, cutL_hi4, cutL_lo5, cutL_hi5, cutL_lo6, cutL_hi6, cutL_lo7, cutL_hi7, cutL_lo8, cutL_hi8, cutL_lo9, cutL_hi9, look, keepV, slotOf, retOf, argOf, mkAs, wb, places, lookAll, Kd.mk, ownL, intOf, items, truth, isNone, kill, outsOf, gtName, gtCons, gtNil, gtTup, dAdd, dSub, dMul, dMod, dDiv, dPow, dNeg, dIx, dSl, cEq, cNe, cI, cIs, cIsN, bLen, bAbs, bSum, bMax, bMin, bTuple, bList, lmAppend, lmExtend, lmPop, lmReverse, lmClear, zipOk, ofStr_inj, atI_0, ixN_0, atI_1, ixN_1, atI_2, ixN_2, atI_3, ixN_3, atI_4, ixN_4, atI_5, ixN_5, atI_6, ixN_6, atI_7, ixN_7, atI_8, ixN_8, atI_9, ixN_9, atI_m1, atI_map, strOk_of, sl_0, sl_1, sl_2, sl_3, sl_4, sl_5, sl_6, sl_7, sl_8, sl_9, sl_10, sl_11, sl_12, cIn_ts1, cIn_ls1, cNotIn_ts1, cNotIn_ls1, cIn_ts2, cIn_ls2, cNotIn_ts2, cNotIn_ls2, cIn_ts3, cIn_ls3, cNotIn_ts3, cNotIn_ls3, cIn_ts4, cIn_ls4, cNotIn_ts4, cNotIn_ls4, cIn_ts5, cIn_ls5, cNotIn_ts5, cNotIn_ls5, cIn_tints, cIn_lints, cNotIn_tints, cNotIn_lints, List.getElem?_cons_zero, List.getElem?_cons_succ, List.getElem?_nil, List.set_cons_zero, List.set_cons_succ, List.set_nil, List.length_cons, List.length_nil, List.cons_append, List.nil_append, List.append_nil, List.map_nil, List.map_cons, List.replicate_succ, List.replicate_zero, Option.map_some, Option.map_none, Option.bind_some, Option.bind_none, List.nodup_cons, List.nodup_nil, List.not_mem_nil, List.mem_cons, List.mem_singleton, not_false_eq_true, and_self, and_true, true_and, or_true, true_or, or_false, false_or, if_true, if_false, ite_true, ite_false, decide_true, decide_false, decide_eq_true_eq, Bool.false_eq_true, reduceCtorEq, PyData.str.injEq, PyData.int.injEq, PyData.bool.injEq, exists_eq_left, exists_eq_left', List.cons.injEq, exists_const, Bool.not_true, Bool.not_false, Bool.and_true, Bool.and_false, Bool.true_and, Nat.reduceAdd, Nat.reduceSub, Nat.reduceMul, Nat.reduceLT, Nat.reduceLeDiff, Nat.reduceEqDiff, Int.reduceLE, Int.reduceLT, Int.reduceNeg, Int.reduceAdd, Int.reduceSub, Int.reduceMul, Int.reduceToNat, Int.reducePow, Int.reduceEq, Int.reduceNe, Int.cast_ofNat_Int, Int.toNat_zero, Int.toNat_one, Int.natCast_add, Int.natCast_zero, Int.natCast_one, Int.ofNat_eq_natCast, Int.le_refl, Nat.le_refl, Nat.zero_add, Int.zero_add, Int.add_zero, String.reduceEq, String.reduceNe, eq_self, ne_eq, not_true_eq_false, not_false_eq_true,  Int.lt_irrefl, decide_not, Nat.reducePow, Int.neg_neg, ↓evo_augI, ↓evo_raise, ↓evo_try, ↓ev_lrg, ↓ev_fl, ↓sk_nx, ↓sk_rt, ↓tk_nx, ↓tk_rt, ↓tk_exc, fields1, fields2, lookup_same, lookup_other, cLeA, bSortedA, bSSetA, intsOf_nil, intsOf_icons, ↓rl0, ↓rl1, ↓rl2, ↓rl3, ↓me0, ↓me1, ↓me2, ↓me3, ↓me_hi, ↓me_lo, set_int, L3.strOf, L3.cNotInS, L3.cInS, ↓ev_m1, ↓ev_strI, ↓evo_par00, ↓ev_get, L3.unD_dict, L3.valO, L3.keyT, L3.keysOf, L3.keyOf, ↓evo_tryK, ↓evo_raise0, ↓kk_nx, ↓kk_rt, ↓kk_exc, ↓ev_isX, ↓ev_flX, isX_kept, flX_kept, isNone_kept, lookN_nil, lookN_cons, lookS_cons, fldIx_nil, fldIx_cons, List.getElem?_nil]
      unfold F__law_fields b__law_fields
      simp -dsimp only [↓ev_run, ↓ev_ok, ↓ev_exc, ↓ev_bad, ↓ev_op2, ↓ev_op1, ↓ev_cmp, ↓ev_cmpB, ↓ev_chain, ↓ev_chainB, ↓ev_test, ↓ev_andB, ↓ev_orB, ↓ev_notB, ↓ev_andV, ↓ev_orV, ↓ev_notV, ↓ev_if, ↓ev_cons, ↓ev_rcons, ↓ev_tup, ↓ev_lst, ↓ev_call, ↓ev_bi, ↓ev_sl, ↓ev_part, ↓ev_meth, ↓ev_rng1, ↓ev_rng2, ↓ev_seqI, ↓ev_enum, ↓ev_zip, ↓ev_lc, ↓evo_nx, ↓evo_rt, ↓evo_bk, ↓evo_ct, ↓evo_exc, ↓evo_bad, ↓sq_nx, ↓sq_rt, ↓sq_bk, ↓sq_ct, ↓sq_exc, ↓evo_seq, ↓evo_set, ↓evo_drop, ↓evo_if, ↓evo_ret, ↓evo_put, ↓evo_asgT, ↓evo_par, ↓evo_for, ↓rk_nx, ↓rk_rtt, ↓rk_rtf, ↓rk_exc, ↓rk_bk, ↓rk_ct, ↓fk_nx, ↓fk_ct, ↓fk_bk, ↓fk_rt, ↓fk_exc, ap_var, ap_c, ap_nil, ap_rnil, ap_yes, ap_nopart, ao_nx, ao_bk, ao_ct, ao_retN, ↓evP_some, ↓evP_none, evP_some, evP_none, evP_if, evP_ifn, evP_map, ↓ev_isa, ↓evo_aug, isa, augOf, cIsA, cIsNA, bInt, bStr, bAll, bAny, bSorted, boolsOf_map, revAll, dAddI, ↓ev_lnil, ↓ev_lcons, ↓evo_fnil, intsOf_map, List.drop_succ_cons, List.drop_zero, List.take_succ_cons, List.take_zero, List.length_map, List.drop_nil, List.take_nil, cutL_lo0, cutL_hi0, cutL_lo1, cutL_hi1, cutL_lo2, cutL_hi2, cutL_lo3, cutL_hi3, cutL_lo4, cutL_hi4, cutL_lo5, cutL_hi5, cutL_lo6, cutL_hi6, cutL_lo7, cutL_hi7, cutL_lo8, cutL_hi8, cutL_lo9, cutL_hi9, look, keepV, slotOf, retOf, argOf, mkAs, wb, places, lookAll, Kd.mk, ownL, intOf, items, truth, isNone, kill, outsOf, gtName, gtCons, gtNil, gtTup, dAdd, dSub, dMul, dMod, dDiv, dPow, dNeg, dIx, dSl, cEq, cNe, cI, cIs, cIsN, bLen, bAbs, bSum, bMax, bMin, bTuple, bList, lmAppend, lmExtend, lmPop, lmReverse, lmClear, zipOk, ofStr_inj, atI_0, ixN_0, atI_1, ixN_1, atI_2, ixN_2, atI_3, ixN_3, atI_4, ixN_4, atI_5, ixN_5, atI_6, ixN_6, atI_7, ixN_7, atI_8, ixN_8, atI_9, ixN_9, atI_m1, atI_map, strOk_of, sl_0, sl_1, sl_2, sl_3, sl_4, sl_5, sl_6, sl_7, sl_8, sl_9, sl_10, sl_11, sl_12, cIn_ts1, cIn_ls1, cNotIn_ts1, cNotIn_ls1, cIn_ts2, cIn_ls2, cNotIn_ts2, cNotIn_ls2, cIn_ts3, cIn_ls3, cNotIn_ts3, cNotIn_ls3, cIn_ts4, cIn_ls4, cNotIn_ts4, cNotIn_ls4, cIn_ts5, cIn_ls5, cNotIn_ts5, cNotIn_ls5, cIn_tints, cIn_lints, cNotIn_tints, cNotIn_lints, List.getElem?_cons_zero, List.getElem?_cons_succ, List.getElem?_nil, List.set_cons_zero, List.set_cons_succ, List.set_nil, List.length_cons, List.length_nil, List.cons_append, List.nil_append, List.append_nil, List.map_nil, List.map_cons, List.replicate_succ, List.replicate_zero, Option.map_some, Option.map_none, Option.bind_some, Option.bind_none, List.nodup_cons, List.nodup_nil, List.not_mem_nil, List.mem_cons, List.mem_singleton, not_false_eq_true, and_self, and_true, true_and, or_true, true_or, or_false, false_or, if_true, if_false, ite_true, ite_false, decide_true, decide_false, decide_eq_true_eq, Bool.false_eq_true, reduceCtorEq, PyData.str.injEq, PyData.int.injEq, PyData.bool.injEq, exists_eq_left, exists_eq_left', List.cons.injEq, exists_const, Bool.not_true, Bool.not_false, Bool.and_true, Bool.and_false, Bool.true_and, Nat.reduceAdd, Nat.reduceSub, Nat.reduceMul, Nat.reduceLT, Nat.reduceLeDiff, Nat.reduceEqDiff, Int.reduceLE, Int.reduceLT, Int.reduceNeg, Int.reduceAdd, Int.reduceSub, Int.reduceMul, Int.reduceToNat, Int.reducePow, Int.reduceEq, Int.reduceNe, Int.cast_ofNat_Int, Int.toNat_zero, Int.toNat_one, Int.natCast_add, Int.natCast_zero, Int.natCast_one, Int.ofNat_eq_natCast, Int.le_refl, Nat.le_refl, Nat.zero_add, Int.zero_add, Int.add_zero, String.reduceEq, String.reduceNe, eq_self, ne_eq, not_true_eq_false, not_false_eq_true,  Int.lt_irrefl, decide_not, Nat.reducePow, Int.neg_neg, ↓evo_augI, ↓evo_raise, ↓evo_try, ↓ev_lrg, ↓ev_fl, ↓sk_nx, ↓sk_rt, ↓tk_nx, ↓tk_rt, ↓tk_exc, fields1, fields2, lookup_same, lookup_other, cLeA, bSortedA, bSSetA, intsOf_nil, intsOf_icons, ↓rl0, ↓rl1, ↓rl2, ↓rl3, ↓me0, ↓me1, ↓me2, ↓me3, ↓me_hi, ↓me_lo, set_int, L3.strOf, L3.cNotInS, L3.cInS, ↓ev_m1, ↓ev_strI, ↓evo_par00, ↓ev_get, L3.unD_dict, L3.valO, L3.keyT, L3.keysOf, L3.keyOf, ↓evo_tryK, ↓evo_raise0, ↓kk_nx, ↓kk_rt, ↓kk_exc, ↓ev_isX, ↓ev_flX, isX_kept, flX_kept, isNone_kept, lookN_nil, lookN_cons, lookS_cons, fldIx_nil, fldIx_cons, List.getElem?_nil, ↓e3]
      unfold F__law_sorts b__law_sorts
      simp -dsimp only [↓ev_run, ↓ev_ok, ↓ev_exc, ↓ev_bad, ↓ev_op2, ↓ev_op1, ↓ev_cmp, ↓ev_cmpB, ↓ev_chain, ↓ev_chainB, ↓ev_test, ↓ev_andB, ↓ev_orB, ↓ev_notB, ↓ev_andV, ↓ev_orV, ↓ev_notV, ↓ev_if, ↓ev_cons, ↓ev_rcons, ↓ev_tup, ↓ev_lst, ↓ev_call, ↓ev_bi, ↓ev_sl, ↓ev_part, ↓ev_meth, ↓ev_rng1, ↓ev_rng2, ↓ev_seqI, ↓ev_enum, ↓ev_zip, ↓ev_lc, ↓evo_nx, ↓evo_rt, ↓evo_bk, ↓evo_ct, ↓evo_exc, ↓evo_bad, ↓sq_nx, ↓sq_rt, ↓sq_bk, ↓sq_ct, ↓sq_exc, ↓evo_seq, ↓evo_set, ↓evo_drop, ↓evo_if, ↓evo_ret, ↓evo_put, ↓evo_asgT, ↓evo_par, ↓evo_for, ↓rk_nx, ↓rk_rtt, ↓rk_rtf, ↓rk_exc, ↓rk_bk, ↓rk_ct, ↓fk_nx, ↓fk_ct, ↓fk_bk, ↓fk_rt, ↓fk_exc, ap_var, ap_c, ap_nil, ap_rnil, ap_yes, ap_nopart, ao_nx, ao_bk, ao_ct, ao_retN, ↓evP_some, ↓evP_none, evP_some, evP_none, evP_if, evP_ifn, evP_map, ↓ev_isa, ↓evo_aug, isa, augOf, cIsA, cIsNA, bInt, bStr, bAll, bAny, bSorted, boolsOf_map, revAll, dAddI, ↓ev_lnil, ↓ev_lcons, ↓evo_fnil, intsOf_map, List.drop_succ_cons, List.drop_zero, List.take_succ_cons, List.take_zero, List.length_map, List.drop_nil, List.take_nil, cutL_lo0, cutL_hi0, cutL_lo1, cutL_hi1, cutL_lo2, cutL_hi2, cutL_lo3, cutL_hi3, cutL_lo4, cutL_hi4, cutL_lo5, cutL_hi5, cutL_lo6, cutL_hi6, cutL_lo7, cutL_hi7, cutL_lo8, cutL_hi8, cutL_lo9, cutL_hi9, look, keepV, slotOf, retOf, argOf, mkAs, wb, places, lookAll, Kd.mk, ownL, intOf, items, truth, isNone, kill, outsOf, gtName, gtCons, gtNil, gtTup, dAdd, dSub, dMul, dMod, dDiv, dPow, dNeg, dIx, dSl, cEq, cNe, cI, cIs, cIsN, bLen, bAbs, bSum, bMax, bMin, bTuple, bList, lmAppend, lmExtend, lmPop, lmReverse, lmClear, zipOk, ofStr_inj, atI_0, ixN_0, atI_1, ixN_1, atI_2, ixN_2, atI_3, ixN_3, atI_4, ixN_4, atI_5, ixN_5, atI_6, ixN_6, atI_7, ixN_7, atI_8, ixN_8, atI_9, ixN_9, atI_m1, atI_map, strOk_of, sl_0, sl_1, sl_2, sl_3, sl_4, sl_5, sl_6, sl_7, sl_8, sl_9, sl_10, sl_11, sl_12, cIn_ts1, cIn_ls1, cNotIn_ts1, cNotIn_ls1, cIn_ts2, cIn_ls2, cNotIn_ts2, cNotIn_ls2, cIn_ts3, cIn_ls3, cNotIn_ts3, cNotIn_ls3, cIn_ts4, cIn_ls4, cNotIn_ts4, cNotIn_ls4, cIn_ts5, cIn_ls5, cNotIn_ts5, cNotIn_ls5, cIn_tints, cIn_lints, cNotIn_tints, cNotIn_lints, List.getElem?_cons_zero, List.getElem?_cons_succ, List.getElem?_nil, List.set_cons_zero, List.set_cons_succ, List.set_nil, List.length_cons, List.length_nil, List.cons_append, List.nil_append, List.append_nil, List.map_nil, List.map_cons, List.replicate_succ, List.replicate_zero, Option.map_some, Option.map_none, Option.bind_some, Option.bind_none, List.nodup_cons, List.nodup_nil, List.not_mem_nil, List.mem_cons, List.mem_singleton, not_false_eq_true, and_self, and_true, true_and, or_true, true_or, or_false, false_or, if_true, if_false, ite_true, ite_false, decide_true, decide_false, decide_eq_true_eq, Bool.false_eq_true, reduceCtorEq, PyData.str.injEq, PyData.int.injEq, PyData.bool.injEq, exists_eq_left, exists_eq_left', List.cons.injEq, exists_const, Bool.not_true, Bool.not_false, Bool.and_true, Bool.and_false, Bool.true_and, Nat.reduceAdd, Nat.reduceSub, Nat.reduceMul, Nat.reduceLT, Nat.reduceLeDiff, Nat.reduceEqDiff, Int.reduceLE, Int.reduceLT, Int.reduceNeg, Int.reduceAdd, Int.reduceSub, Int.reduceMul, Int.reduceToNat, Int.reducePow, Int.reduceEq, Int.reduceNe, Int.cast_ofNat_Int, Int.toNat_zero, Int.toNat_one, Int.natCast_add, Int.natCast_zero, Int.natCast_one, Int.ofNat_eq_natCast, Int.le_refl, Nat.le_refl, Nat.zero_add, Int.zero_add, Int.add_zero, String.reduceEq, String.reduceNe, eq_self, ne_eq, not_true_eq_false, not_false_eq_true,  Int.lt_irrefl, decide_not, Nat.reducePow, Int.neg_neg, ↓evo_augI, ↓evo_raise, ↓evo_try, ↓ev_lrg, ↓ev_fl, ↓sk_nx, ↓sk_rt, ↓tk_nx, ↓tk_rt, ↓tk_exc, fields1, fields2, lookup_same, lookup_other, cLeA, bSortedA, bSSetA, intsOf_nil, intsOf_icons, ↓rl0, ↓rl1, ↓rl2, ↓rl3, ↓me0, ↓me1, ↓me2, ↓me3, ↓me_hi, ↓me_lo, set_int, L3.strOf, L3.cNotInS, L3.cInS, ↓ev_m1, ↓ev_strI, ↓evo_par00, ↓ev_get, L3.unD_dict, L3.valO, L3.keyT, L3.keysOf, L3.keyOf, ↓evo_tryK, ↓evo_raise0, ↓kk_nx, ↓kk_rt, ↓kk_exc, ↓ev_isX, ↓ev_flX, isX_kept, flX_kept, isNone_kept, lookN_nil, lookN_cons, lookS_cons, fldIx_nil, fldIx_cons, List.getElem?_nil, ↓up7, ↓f5]
    · simp -dsimp only [↓ev_run, ↓ev_ok, ↓ev_exc, ↓ev_bad, ↓ev_op2, ↓ev_op1, ↓ev_cmp, ↓ev_cmpB, ↓ev_chain, ↓ev_chainB, ↓ev_test, ↓ev_andB, ↓ev_orB, ↓ev_notB, ↓ev_andV, ↓ev_orV, ↓ev_notV, ↓ev_if, ↓ev_cons, ↓ev_rcons, ↓ev_tup, ↓ev_lst, ↓ev_call, ↓ev_bi, ↓ev_sl, ↓ev_part, ↓ev_meth, ↓ev_rng1, ↓ev_rng2, ↓ev_seqI, ↓ev_enum, ↓ev_zip, ↓ev_lc, ↓evo_nx, ↓evo_rt, ↓evo_bk, ↓evo_ct, ↓evo_exc, ↓evo_bad, ↓sq_nx, ↓sq_rt, ↓sq_bk, ↓sq_ct, ↓sq_exc, ↓evo_seq, ↓evo_set, ↓evo_drop, ↓evo_if, ↓evo_ret, ↓evo_put, ↓evo_asgT, ↓evo_par, ↓evo_for, ↓rk_nx, ↓rk_rtt, ↓rk_rtf, ↓rk_exc, ↓rk_bk, ↓rk_ct, ↓fk_nx, ↓fk_ct, ↓fk_bk, ↓fk_rt, ↓fk_exc, ap_var, ap_c, ap_nil, ap_rnil, ap_yes, ap_nopart, ao_nx, ao_bk, ao_ct, ao_retN, ↓evP_some, ↓evP_none, evP_some, evP_none, evP_if, evP_ifn, evP_map, ↓ev_isa, ↓evo_aug, isa, augOf, cIsA, cIsNA, bInt, bStr, bAll, bAny, bSorted, boolsOf_map, revAll, dAddI, ↓ev_lnil, ↓ev_lcons, ↓evo_fnil, intsOf_map, List.drop_succ_cons, List.drop_zero, List.take_succ_cons, List.take_zero, List.length_map, List.drop_nil, List.take_nil, cutL_lo0, cutL_hi0, cutL_lo1, cutL_hi1, cutL_lo2, cutL_hi2, cutL_lo3, cutL_hi3, cutL_lo4, cutL_hi4, cutL_lo5, cutL_hi5, cutL_lo6, cutL_hi6, cutL_lo7, cutL_hi7, cutL_lo8, cutL_hi8, cutL_lo9, cutL_hi9, look, keepV, slotOf, retOf, argOf, mkAs, wb, places, lookAll, Kd.mk, ownL, intOf, items, truth, isNone, kill, outsOf, gtName, gtCons, gtNil, gtTup, dAdd, dSub, dMul, dMod, dDiv, dPow, dNeg, dIx, dSl, cEq, cNe, cI, cIs, cIsN, bLen, bAbs, bSum, bMax, bMin, bTuple, bList, lmAppend, lmExtend, lmPop, lmReverse, lmClear, zipOk, ofStr_inj, atI_0, ixN_0, atI_1, ixN_1, atI_2, ixN_2, atI_3, ixN_3, atI_4, ixN_4, atI_5, ixN_5, atI_6, ixN_6, atI_7, ixN_7, atI_8, ixN_8, atI_9, ixN_9, atI_m1, atI_map, strOk_of, sl_0, sl_1, sl_2, sl_3, sl_4, sl_5, sl_6, sl_7, sl_8, sl_9, sl_10, sl_11, sl_12, cIn_ts1, cIn_ls1, cNotIn_ts1, cNotIn_ls1, cIn_ts2, cIn_ls2, cNotIn_ts2, cNotIn_ls2, cIn_ts3, cIn_ls3, cNotIn_ts3, cNotIn_ls3, cIn_ts4, cIn_ls4, cNotIn_ts4, cNotIn_ls4, cIn_ts5, cIn_ls5, cNotIn_ts5, cNotIn_ls5, cIn_tints, cIn_lints, cNotIn_tints, cNotIn_lints, List.getElem?_cons_zero, List.getElem?_cons_succ, List.getElem?_nil, List.set_cons_zero, List.set_cons_succ, List.set_nil, List.length_cons, List.length_nil, List.cons_append, List.nil_append, List.append_nil, List.map_nil, List.map_cons, List.replicate_succ, List.replicate_zero, Option.map_some, Option.map_none, Option.bind_some, Option.bind_none, List.nodup_cons, List.nodup_nil, List.not_mem_nil, List.mem_cons, List.mem_singleton, not_false_eq_true, and_self, and_true, true_and, or_true, true_or, or_false, false_or, if_true, if_false, ite_true, ite_false, decide_true, decide_false, decide_eq_true_eq, Bool.false_eq_true, reduceCtorEq, PyData.str.injEq, PyData.int.injEq, PyData.bool.injEq, exists_eq_left, exists_eq_left', List.cons.injEq, exists_const, Bool.not_true, Bool.not_false, Bool.and_true, Bool.and_false, Bool.true_and, Nat.reduceAdd, Nat.reduceSub, Nat.reduceMul, Nat.reduceLT, Nat.reduceLeDiff, Nat.reduceEqDiff, Int.reduceLE, Int.reduceLT, Int.reduceNeg, Int.reduceAdd, Int.reduceSub, Int.reduceMul, Int.reduceToNat, Int.reducePow, Int.reduceEq, Int.reduceNe, Int.cast_ofNat_Int, Int.toNat_zero, Int.toNat_one, Int.natCast_add, Int.natCast_zero, Int.natCast_one, Int.ofNat_eq_natCast, Int.le_refl, Nat.le_refl, Nat.zero_add, Int.zero_add, Int.add_zero, String.reduceEq, String.reduceNe, eq_self, ne_eq, not_true_eq_false, not_false_eq_true,  Int.lt_irrefl, decide_not, Nat.reducePow, Int.neg_neg, ↓evo_augI, ↓evo_raise, ↓evo_try, ↓ev_lrg, ↓ev_fl, ↓sk_nx, ↓sk_rt, ↓tk_nx, ↓tk_rt, ↓tk_exc, fields1, fields2, lookup_same, lookup_other, cLeA, bSortedA, bSSetA, intsOf_nil, intsOf_icons, ↓rl0, ↓rl1, ↓rl2, ↓rl3, ↓me0, ↓me1, ↓me2, ↓me3, ↓me_hi, ↓me_lo, set_int, L3.strOf, L3.cNotInS, L3.cInS, ↓ev_m1, ↓ev_strI, ↓evo_par00, ↓ev_get, L3.unD_dict, L3.valO, L3.keyT, L3.keysOf, L3.keyOf, ↓evo_tryK, ↓evo_raise0, ↓kk_nx, ↓kk_rt, ↓kk_exc, ↓ev_isX, ↓ev_flX, isX_kept, flX_kept, isNone_kept, lookN_nil, lookN_cons, lookS_cons, fldIx_nil, fldIx_cons, List.getElem?_nil]
      unfold F__law_raised b__law_raised
      simp -dsimp only [↓ev_run, ↓ev_ok, ↓ev_exc, ↓ev_bad, ↓ev_op2, ↓ev_op1, ↓ev_cmp, ↓ev_cmpB, ↓ev_chain, ↓ev_chainB, ↓ev_test, ↓ev_andB, ↓ev_orB, ↓ev_notB, ↓ev_andV, ↓ev_orV, ↓ev_notV, ↓ev_if, ↓ev_cons, ↓ev_rcons, ↓ev_tup, ↓ev_lst, ↓ev_call, ↓ev_bi, ↓ev_sl, ↓ev_part, ↓ev_meth, ↓ev_rng1, ↓ev_rng2, ↓ev_seqI, ↓ev_enum, ↓ev_zip, ↓ev_lc, ↓evo_nx, ↓evo_rt, ↓evo_bk, ↓evo_ct, ↓evo_exc, ↓evo_bad, ↓sq_nx, ↓sq_rt, ↓sq_bk, ↓sq_ct, ↓sq_exc, ↓evo_seq, ↓evo_set, ↓evo_drop, ↓evo_if, ↓evo_ret, ↓evo_put, ↓evo_asgT, ↓evo_par, ↓evo_for, ↓rk_nx, ↓rk_rtt, ↓rk_rtf, ↓rk_exc, ↓rk_bk, ↓rk_ct, ↓fk_nx, ↓fk_ct, ↓fk_bk, ↓fk_rt, ↓fk_exc, ap_var, ap_c, ap_nil, ap_rnil, ap_yes, ap_nopart, ao_nx, ao_bk, ao_ct, ao_retN, ↓evP_some, ↓evP_none, evP_some, evP_none, evP_if, evP_ifn, evP_map, ↓ev_isa, ↓evo_aug, isa, augOf, cIsA, cIsNA, bInt, bStr, bAll, bAny, bSorted, boolsOf_map, revAll, dAddI, ↓ev_lnil, ↓ev_lcons, ↓evo_fnil, intsOf_map, List.drop_succ_cons, List.drop_zero, List.take_succ_cons, List.take_zero, List.length_map, List.drop_nil, List.take_nil, cutL_lo0, cutL_hi0, cutL_lo1, cutL_hi1, cutL_lo2, cutL_hi2, cutL_lo3, cutL_hi3, cutL_lo4, cutL_hi4, cutL_lo5, cutL_hi5, cutL_lo6, cutL_hi6, cutL_lo7, cutL_hi7, cutL_lo8, cutL_hi8, cutL_lo9, cutL_hi9, look, keepV, slotOf, retOf, argOf, mkAs, wb, places, lookAll, Kd.mk, ownL, intOf, items, truth, isNone, kill, outsOf, gtName, gtCons, gtNil, gtTup, dAdd, dSub, dMul, dMod, dDiv, dPow, dNeg, dIx, dSl, cEq, cNe, cI, cIs, cIsN, bLen, bAbs, bSum, bMax, bMin, bTuple, bList, lmAppend, lmExtend, lmPop, lmReverse, lmClear, zipOk, ofStr_inj, atI_0, ixN_0, atI_1, ixN_1, atI_2, ixN_2, atI_3, ixN_3, atI_4, ixN_4, atI_5, ixN_5, atI_6, ixN_6, atI_7, ixN_7, atI_8, ixN_8, atI_9, ixN_9, atI_m1, atI_map, strOk_of, sl_0, sl_1, sl_2, sl_3, sl_4, sl_5, sl_6, sl_7, sl_8, sl_9, sl_10, sl_11, sl_12, cIn_ts1, cIn_ls1, cNotIn_ts1, cNotIn_ls1, cIn_ts2, cIn_ls2, cNotIn_ts2, cNotIn_ls2, cIn_ts3, cIn_ls3, cNotIn_ts3, cNotIn_ls3, cIn_ts4, cIn_ls4, cNotIn_ts4, cNotIn_ls4, cIn_ts5, cIn_ls5, cNotIn_ts5, cNotIn_ls5, cIn_tints, cIn_lints, cNotIn_tints, cNotIn_lints, List.getElem?_cons_zero, List.getElem?_cons_succ, List.getElem?_nil, List.set_cons_zero, List.set_cons_succ, List.set_nil, List.length_cons, List.length_nil, List.cons_append, List.nil_append, List.append_nil, List.map_nil, List.map_cons, List.replicate_succ, List.replicate_zero, Option.map_some, Option.map_none, Option.bind_some, Option.bind_none, List.nodup_cons, List.nodup_nil, List.not_mem_nil, List.mem_cons, List.mem_singleton, not_false_eq_true, and_self, and_true, true_and, or_true, true_or, or_false, false_or, if_true, if_false, ite_true, ite_false, decide_true, decide_false, decide_eq_true_eq, Bool.false_eq_true, reduceCtorEq, PyData.str.injEq, PyData.int.injEq, PyData.bool.injEq, exists_eq_left, exists_eq_left', List.cons.injEq, exists_const, Bool.not_true, Bool.not_false, Bool.and_true, Bool.and_false, Bool.true_and, Nat.reduceAdd, Nat.reduceSub, Nat.reduceMul, Nat.reduceLT, Nat.reduceLeDiff, Nat.reduceEqDiff, Int.reduceLE, Int.reduceLT, Int.reduceNeg, Int.reduceAdd, Int.reduceSub, Int.reduceMul, Int.reduceToNat, Int.reducePow, Int.reduceEq, Int.reduceNe, Int.cast_ofNat_Int, Int.toNat_zero, Int.toNat_one, Int.natCast_add, Int.natCast_zero, Int.natCast_one, Int.ofNat_eq_natCast, Int.le_refl, Nat.le_refl, Nat.zero_add, Int.zero_add, Int.add_zero, String.reduceEq, String.reduceNe, eq_self, ne_eq, not_true_eq_false, not_false_eq_true,  Int.lt_irrefl, decide_not, Nat.reducePow, Int.neg_neg, ↓evo_augI, ↓evo_raise, ↓evo_try, ↓ev_lrg, ↓ev_fl, ↓sk_nx, ↓sk_rt, ↓tk_nx, ↓tk_rt, ↓tk_exc, fields1, fields2, lookup_same, lookup_other, cLeA, bSortedA, bSSetA, intsOf_nil, intsOf_icons, ↓rl0, ↓rl1, ↓rl2, ↓rl3, ↓me0, ↓me1, ↓me2, ↓me3, ↓me_hi, ↓me_lo, set_int, L3.strOf, L3.cNotInS, L3.cInS, ↓ev_m1, ↓ev_strI, ↓evo_par00, ↓ev_get, L3.unD_dict, L3.valO, L3.keyT, L3.keysOf, L3.keyOf, ↓evo_tryK, ↓evo_raise0, ↓kk_nx, ↓kk_rt, ↓kk_exc, ↓ev_isX, ↓ev_flX, isX_kept, flX_kept, isNone_kept, lookN_nil, lookN_cons, lookS_cons, fldIx_nil, fldIx_cons, List.getElem?_nil]
      unfold F__law_fields b__law_fields
      simp -dsimp only [↓ev_run, ↓ev_ok, ↓ev_exc, ↓ev_bad, ↓ev_op2, ↓ev_op1, ↓ev_cmp, ↓ev_cmpB, ↓ev_chain, ↓ev_chainB, ↓ev_test, ↓ev_andB, ↓ev_orB, ↓ev_notB, ↓ev_andV, ↓ev_orV, ↓ev_notV, ↓ev_if, ↓ev_cons, ↓ev_rcons, ↓ev_tup, ↓ev_lst, ↓ev_call, ↓ev_bi, ↓ev_sl, ↓ev_part, ↓ev_meth, ↓ev_rng1, ↓ev_rng2, ↓ev_seqI, ↓ev_enum, ↓ev_zip, ↓ev_lc, ↓evo_nx, ↓evo_rt, ↓evo_bk, ↓evo_ct, ↓evo_exc, ↓evo_bad, ↓sq_nx, ↓sq_rt, ↓sq_bk, ↓sq_ct, ↓sq_exc, ↓evo_seq, ↓evo_set, ↓evo_drop, ↓evo_if, ↓evo_ret, ↓evo_put, ↓evo_asgT, ↓evo_par, ↓evo_for, ↓rk_nx, ↓rk_rtt, ↓rk_rtf, ↓rk_exc, ↓rk_bk, ↓rk_ct, ↓fk_nx, ↓fk_ct, ↓fk_bk, ↓fk_rt, ↓fk_exc, ap_var, ap_c, ap_nil, ap_rnil, ap_yes, ap_nopart, ao_nx, ao_bk, ao_ct, ao_retN, ↓evP_some, ↓evP_none, evP_some, evP_none, evP_if, evP_ifn, evP_map, ↓ev_isa, ↓evo_aug, isa, augOf, cIsA, cIsNA, bInt, bStr, bAll, bAny, bSorted, boolsOf_map, revAll, dAddI, ↓ev_lnil, ↓ev_lcons, ↓evo_fnil, intsOf_map, List.drop_succ_cons, List.drop_zero, List.take_succ_cons, List.take_zero, List.length_map, List.drop_nil, List.take_nil, cutL_lo0, cutL_hi0, cutL_lo1, cutL_hi1, cutL_lo2, cutL_hi2, cutL_lo3, cutL_hi3, cutL_lo4, cutL_hi4, cutL_lo5, cutL_hi5, cutL_lo6, cutL_hi6, cutL_lo7, cutL_hi7, cutL_lo8, cutL_hi8, cutL_lo9, cutL_hi9, look, keepV, slotOf, retOf, argOf, mkAs, wb, places, lookAll, Kd.mk, ownL, intOf, items, truth, isNone, kill, outsOf, gtName, gtCons, gtNil, gtTup, dAdd, dSub, dMul, dMod, dDiv, dPow, dNeg, dIx, dSl, cEq, cNe, cI, cIs, cIsN, bLen, bAbs, bSum, bMax, bMin, bTuple, bList, lmAppend, lmExtend, lmPop, lmReverse, lmClear, zipOk, ofStr_inj, atI_0, ixN_0, atI_1, ixN_1, atI_2, ixN_2, atI_3, ixN_3, atI_4, ixN_4, atI_5, ixN_5, atI_6, ixN_6, atI_7, ixN_7, atI_8, ixN_8, atI_9, ixN_9, atI_m1, atI_map, strOk_of, sl_0, sl_1, sl_2, sl_3, sl_4, sl_5, sl_6, sl_7, sl_8, sl_9, sl_10, sl_11, sl_12, cIn_ts1, cIn_ls1, cNotIn_ts1, cNotIn_ls1, cIn_ts2, cIn_ls2, cNotIn_ts2, cNotIn_ls2, cIn_ts3, cIn_ls3, cNotIn_ts3, cNotIn_ls3, cIn_ts4, cIn_ls4, cNotIn_ts4, cNotIn_ls4, cIn_ts5, cIn_ls5, cNotIn_ts5, cNotIn_ls5, cIn_tints, cIn_lints, cNotIn_tints, cNotIn_lints, List.getElem?_cons_zero, List.getElem?_cons_succ, List.getElem?_nil, List.set_cons_zero, List.set_cons_succ, List.set_nil, List.length_cons, List.length_nil, List.cons_append, List.nil_append, List.append_nil, List.map_nil, List.map_cons, List.replicate_succ, List.replicate_zero, Option.map_some, Option.map_none, Option.bind_some, Option.bind_none, List.nodup_cons, List.nodup_nil, List.not_mem_nil, List.mem_cons, List.mem_singleton, not_false_eq_true, and_self, and_true, true_and, or_true, true_or, or_false, false_or, if_true, if_false, ite_true, ite_false, decide_true, decide_false, decide_eq_true_eq, Bool.false_eq_true, reduceCtorEq, PyData.str.injEq, PyData.int.injEq, PyData.bool.injEq, exists_eq_left, exists_eq_left', List.cons.injEq, exists_const, Bool.not_true, Bool.not_false, Bool.and_true, Bool.and_false, Bool.true_and, Nat.reduceAdd, Nat.reduceSub, Nat.reduceMul, Nat.reduceLT, Nat.reduceLeDiff, Nat.reduceEqDiff, Int.reduceLE, Int.reduceLT, Int.reduceNeg, Int.reduceAdd, Int.reduceSub, Int.reduceMul, Int.reduceToNat, Int.reducePow, Int.reduceEq, Int.reduceNe, Int.cast_ofNat_Int, Int.toNat_zero, Int.toNat_one, Int.natCast_add, Int.natCast_zero, Int.natCast_one, Int.ofNat_eq_natCast, Int.le_refl, Nat.le_refl, Nat.zero_add, Int.zero_add, Int.add_zero, String.reduceEq, String.reduceNe, eq_self, ne_eq, not_true_eq_false, not_false_eq_true,  Int.lt_irrefl, decide_not, Nat.reducePow, Int.neg_neg, ↓evo_augI, ↓evo_raise, ↓evo_try, ↓ev_lrg, ↓ev_fl, ↓sk_nx, ↓sk_rt, ↓tk_nx, ↓tk_rt, ↓tk_exc, fields1, fields2, lookup_same, lookup_other, cLeA, bSortedA, bSSetA, intsOf_nil, intsOf_icons, ↓rl0, ↓rl1, ↓rl2, ↓rl3, ↓me0, ↓me1, ↓me2, ↓me3, ↓me_hi, ↓me_lo, set_int, L3.strOf, L3.cNotInS, L3.cInS, ↓ev_m1, ↓ev_strI, ↓evo_par00, ↓ev_get, L3.unD_dict, L3.valO, L3.keyT, L3.keysOf, L3.keyOf, ↓evo_tryK, ↓evo_raise0, ↓kk_nx, ↓kk_rt, ↓kk_exc, ↓ev_isX, ↓ev_flX, isX_kept, flX_kept, isNone_kept, lookN_nil, lookN_cons, lookS_cons, fldIx_nil, fldIx_cons, List.getElem?_nil, ↓e3]
      unfold F__law_sorts b__law_sorts
      simp -dsimp only [↓ev_run, ↓ev_ok, ↓ev_exc, ↓ev_bad, ↓ev_op2, ↓ev_op1, ↓ev_cmp, ↓ev_cmpB, ↓ev_chain, ↓ev_chainB, ↓ev_test, ↓ev_andB, ↓ev_orB, ↓ev_notB, ↓ev_andV, ↓ev_orV, ↓ev_notV, ↓ev_if, ↓ev_cons, ↓ev_rcons, ↓ev_tup, ↓ev_lst, ↓ev_call, ↓ev_bi, ↓ev_sl, ↓ev_part, ↓ev_meth, ↓ev_rng1, ↓ev_rng2, ↓ev_seqI, ↓ev_enum, ↓ev_zip, ↓ev_lc, ↓evo_nx, ↓evo_rt, ↓evo_bk, ↓evo_ct, ↓evo_exc, ↓evo_bad, ↓sq_nx, ↓sq_rt, ↓sq_bk, ↓sq_ct, ↓sq_exc, ↓evo_seq, ↓evo_set, ↓evo_drop, ↓evo_if, ↓evo_ret, ↓evo_put, ↓evo_asgT, ↓evo_par, ↓evo_for, ↓rk_nx, ↓rk_rtt, ↓rk_rtf, ↓rk_exc, ↓rk_bk, ↓rk_ct, ↓fk_nx, ↓fk_ct, ↓fk_bk, ↓fk_rt, ↓fk_exc, ap_var, ap_c, ap_nil, ap_rnil, ap_yes, ap_nopart, ao_nx, ao_bk, ao_ct, ao_retN, ↓evP_some, ↓evP_none, evP_some, evP_none, evP_if, evP_ifn, evP_map, ↓ev_isa, ↓evo_aug, isa, augOf, cIsA, cIsNA, bInt, bStr, bAll, bAny, bSorted, boolsOf_map, revAll, dAddI, ↓ev_lnil, ↓ev_lcons, ↓evo_fnil, intsOf_map, List.drop_succ_cons, List.drop_zero, List.take_succ_cons, List.take_zero, List.length_map, List.drop_nil, List.take_nil, cutL_lo0, cutL_hi0, cutL_lo1, cutL_hi1, cutL_lo2, cutL_hi2, cutL_lo3, cutL_hi3, cutL_lo4, cutL_hi4, cutL_lo5, cutL_hi5, cutL_lo6, cutL_hi6, cutL_lo7, cutL_hi7, cutL_lo8, cutL_hi8, cutL_lo9, cutL_hi9, look, keepV, slotOf, retOf, argOf, mkAs, wb, places, lookAll, Kd.mk, ownL, intOf, items, truth, isNone, kill, outsOf, gtName, gtCons, gtNil, gtTup, dAdd, dSub, dMul, dMod, dDiv, dPow, dNeg, dIx, dSl, cEq, cNe, cI, cIs, cIsN, bLen, bAbs, bSum, bMax, bMin, bTuple, bList, lmAppend, lmExtend, lmPop, lmReverse, lmClear, zipOk, ofStr_inj, atI_0, ixN_0, atI_1, ixN_1, atI_2, ixN_2, atI_3, ixN_3, atI_4, ixN_4, atI_5, ixN_5, atI_6, ixN_6, atI_7, ixN_7, atI_8, ixN_8, atI_9, ixN_9, atI_m1, atI_map, strOk_of, sl_0, sl_1, sl_2, sl_3, sl_4, sl_5, sl_6, sl_7, sl_8, sl_9, sl_10, sl_11, sl_12, cIn_ts1, cIn_ls1, cNotIn_ts1, cNotIn_ls1, cIn_ts2, cIn_ls2, cNotIn_ts2, cNotIn_ls2, cIn_ts3, cIn_ls3, cNotIn_ts3, cNotIn_ls3, cIn_ts4, cIn_ls4, cNotIn_ts4, cNotIn_ls4, cIn_ts5, cIn_ls5, cNotIn_ts5, cNotIn_ls5, cIn_tints, cIn_lints, cNotIn_tints, cNotIn_lints, List.getElem?_cons_zero, List.getElem?_cons_succ, List.getElem?_nil, List.set_cons_zero, List.set_cons_succ, List.set_nil, List.length_cons, List.length_nil, List.cons_append, List.nil_append, List.append_nil, List.map_nil, List.map_cons, List.replicate_succ, List.replicate_zero, Option.map_some, Option.map_none, Option.bind_some, Option.bind_none, List.nodup_cons, List.nodup_nil, List.not_mem_nil, List.mem_cons, List.mem_singleton, not_false_eq_true, and_self, and_true, true_and, or_true, true_or, or_false, false_or, if_true, if_false, ite_true, ite_false, decide_true, decide_false, decide_eq_true_eq, Bool.false_eq_true, reduceCtorEq, PyData.str.injEq, PyData.int.injEq, PyData.bool.injEq, exists_eq_left, exists_eq_left', List.cons.injEq, exists_const, Bool.not_true, Bool.not_false, Bool.and_true, Bool.and_false, Bool.true_and, Nat.reduceAdd, Nat.reduceSub, Nat.reduceMul, Nat.reduceLT, Nat.reduceLeDiff, Nat.reduceEqDiff, Int.reduceLE, Int.reduceLT, Int.reduceNeg, Int.reduceAdd, Int.reduceSub, Int.reduceMul, Int.reduceToNat, Int.reducePow, Int.reduceEq, Int.reduceNe, Int.cast_ofNat_Int, Int.toNat_zero, Int.toNat_one, Int.natCast_add, Int.natCast_zero, Int.natCast_one, Int.ofNat_eq_natCast, Int.le_refl, Nat.le_refl, Nat.zero_add, Int.zero_add, Int.add_zero, String.reduceEq, String.reduceNe, eq_self, ne_eq, not_true_eq_false, not_false_eq_true,  Int.lt_irrefl, decide_not, Nat.reducePow, Int.neg_neg, ↓evo_augI, ↓evo_raise, ↓evo_try, ↓ev_lrg, ↓ev_fl, ↓sk_nx, ↓sk_rt, ↓tk_nx, ↓tk_rt, ↓tk_exc, fields1, fields2, lookup_same, lookup_other, cLeA, bSortedA, bSSetA, intsOf_nil, intsOf_icons, ↓rl0, ↓rl1, ↓rl2, ↓rl3, ↓me0, ↓me1, ↓me2, ↓me3, ↓me_hi, ↓me_lo, set_int, L3.strOf, L3.cNotInS, L3.cInS, ↓ev_m1, ↓ev_strI, ↓evo_par00, ↓ev_get, L3.unD_dict, L3.valO, L3.keyT, L3.keysOf, L3.keyOf, ↓evo_tryK, ↓evo_raise0, ↓kk_nx, ↓kk_rt, ↓kk_exc, ↓ev_isX, ↓ev_flX, isX_kept, flX_kept, isNone_kept, lookN_nil, lookN_cons, lookS_cons, fldIx_nil, fldIx_cons, List.getElem?_nil, ↓up7, ↓f6]
  · simp -dsimp only [↓ev_run, ↓ev_ok, ↓ev_exc, ↓ev_bad, ↓ev_op2, ↓ev_op1, ↓ev_cmp, ↓ev_cmpB, ↓ev_chain, ↓ev_chainB, ↓ev_test, ↓ev_andB, ↓ev_orB, ↓ev_notB, ↓ev_andV, ↓ev_orV, ↓ev_notV, ↓ev_if, ↓ev_cons, ↓ev_rcons, ↓ev_tup, ↓ev_lst, ↓ev_call, ↓ev_bi, ↓ev_sl, ↓ev_part, ↓ev_meth, ↓ev_rng1, ↓ev_rng2, ↓ev_seqI, ↓ev_enum, ↓ev_zip, ↓ev_lc, ↓evo_nx, ↓evo_rt, ↓evo_bk, ↓evo_ct, ↓evo_exc, ↓evo_bad, ↓sq_nx, ↓sq_rt, ↓sq_bk, ↓sq_ct, ↓sq_exc, ↓evo_seq, ↓evo_set, ↓evo_drop, ↓evo_if, ↓evo_ret, ↓evo_put, ↓evo_asgT, ↓evo_par, ↓evo_for, ↓rk_nx, ↓rk_rtt, ↓rk_rtf, ↓rk_exc, ↓rk_bk, ↓rk_ct, ↓fk_nx, ↓fk_ct, ↓fk_bk, ↓fk_rt, ↓fk_exc, ap_var, ap_c, ap_nil, ap_rnil, ap_yes, ap_nopart, ao_nx, ao_bk, ao_ct, ao_retN, ↓evP_some, ↓evP_none, evP_some, evP_none, evP_if, evP_ifn, evP_map, ↓ev_isa, ↓evo_aug, isa, augOf, cIsA, cIsNA, bInt, bStr, bAll, bAny, bSorted, boolsOf_map, revAll, dAddI, ↓ev_lnil, ↓ev_lcons, ↓evo_fnil, intsOf_map, List.drop_succ_cons, List.drop_zero, List.take_succ_cons, List.take_zero, List.length_map, List.drop_nil, List.take_nil, cutL_lo0, cutL_hi0, cutL_lo1, cutL_hi1, cutL_lo2, cutL_hi2, cutL_lo3, cutL_hi3, cutL_lo4, cutL_hi4, cutL_lo5, cutL_hi5, cutL_lo6, cutL_hi6, cutL_lo7, cutL_hi7, cutL_lo8, cutL_hi8, cutL_lo9, cutL_hi9, look, keepV, slotOf, retOf, argOf, mkAs, wb, places, lookAll, Kd.mk, ownL, intOf, items, truth, isNone, kill, outsOf, gtName, gtCons, gtNil, gtTup, dAdd, dSub, dMul, dMod, dDiv, dPow, dNeg, dIx, dSl, cEq, cNe, cI, cIs, cIsN, bLen, bAbs, bSum, bMax, bMin, bTuple, bList, lmAppend, lmExtend, lmPop, lmReverse, lmClear, zipOk, ofStr_inj, atI_0, ixN_0, atI_1, ixN_1, atI_2, ixN_2, atI_3, ixN_3, atI_4, ixN_4, atI_5, ixN_5, atI_6, ixN_6, atI_7, ixN_7, atI_8, ixN_8, atI_9, ixN_9, atI_m1, atI_map, strOk_of, sl_0, sl_1, sl_2, sl_3, sl_4, sl_5, sl_6, sl_7, sl_8, sl_9, sl_10, sl_11, sl_12, cIn_ts1, cIn_ls1, cNotIn_ts1, cNotIn_ls1, cIn_ts2, cIn_ls2, cNotIn_ts2, cNotIn_ls2, cIn_ts3, cIn_ls3, cNotIn_ts3, cNotIn_ls3, cIn_ts4, cIn_ls4, cNotIn_ts4, cNotIn_ls4, cIn_ts5, cIn_ls5, cNotIn_ts5, cNotIn_ls5, cIn_tints, cIn_lints, cNotIn_tints, cNotIn_lints, List.getElem?_cons_zero, List.getElem?_cons_succ, List.getElem?_nil, List.set_cons_zero, List.set_cons_succ, List.set_nil, List.length_cons, List.length_nil, List.cons_append, List.nil_append, List.append_nil, List.map_nil, List.map_cons, List.replicate_succ, List.replicate_zero, Option.map_some, Option.map_none, Option.bind_some, Option.bind_none, List.nodup_cons, List.nodup_nil, List.not_mem_nil, List.mem_cons, List.mem_singleton, not_false_eq_true, and_self, and_true, true_and, or_true, true_or, or_false, false_or, if_true, if_false, ite_true, ite_false, decide_true, decide_false, decide_eq_true_eq, Bool.false_eq_true, reduceCtorEq, PyData.str.injEq, PyData.int.injEq, PyData.bool.injEq, exists_eq_left, exists_eq_left', List.cons.injEq, exists_const, Bool.not_true, Bool.not_false, Bool.and_true, Bool.and_false, Bool.true_and, Nat.reduceAdd, Nat.reduceSub, Nat.reduceMul, Nat.reduceLT, Nat.reduceLeDiff, Nat.reduceEqDiff, Int.reduceLE, Int.reduceLT, Int.reduceNeg, Int.reduceAdd, Int.reduceSub, Int.reduceMul, Int.reduceToNat, Int.reducePow, Int.reduceEq, Int.reduceNe, Int.cast_ofNat_Int, Int.toNat_zero, Int.toNat_one, Int.natCast_add, Int.natCast_zero, Int.natCast_one, Int.ofNat_eq_natCast, Int.le_refl, Nat.le_refl, Nat.zero_add, Int.zero_add, Int.add_zero, String.reduceEq, String.reduceNe, eq_self, ne_eq, not_true_eq_false, not_false_eq_true,  Int.lt_irrefl, decide_not, Nat.reducePow, Int.neg_neg, ↓evo_augI, ↓evo_raise, ↓evo_try, ↓ev_lrg, ↓ev_fl, ↓sk_nx, ↓sk_rt, ↓tk_nx, ↓tk_rt, ↓tk_exc, fields1, fields2, lookup_same, lookup_other, cLeA, bSortedA, bSSetA, intsOf_nil, intsOf_icons, ↓rl0, ↓rl1, ↓rl2, ↓rl3, ↓me0, ↓me1, ↓me2, ↓me3, ↓me_hi, ↓me_lo, set_int, L3.strOf, L3.cNotInS, L3.cInS, ↓ev_m1, ↓ev_strI, ↓evo_par00, ↓ev_get, L3.unD_dict, L3.valO, L3.keyT, L3.keysOf, L3.keyOf, ↓evo_tryK, ↓evo_raise0, ↓kk_nx, ↓kk_rt, ↓kk_exc, ↓ev_isX, ↓ev_flX, isX_kept, flX_kept, isNone_kept, lookN_nil, lookN_cons, lookS_cons, fldIx_nil, fldIx_cons, List.getElem?_nil]
end K18
set_option Elab.async false
set_option linter.all false
set_option maxRecDepth 100000
set_option maxHeartbeats 4000000
set_option autoImplicit false
namespace K18
open PySem PySem.Spec L2 L3
theorem all_mk {P : Program} {w : World} {K : Fg} {h : Heap} {mg : Str → Option Value} {fa f0 f1 f2 f3 f4 f5 f6 : Addr} (X : K.In h) (G : h.Ns mainGlobals mg) (hfa : mg "law" = some (.ref fa))
    {od0 od1 od2 od3 od4 od5 od6 an0 an1 an2 an3 an4 an5 an6 : Option Addr} {sl0 sl1 sl2 sl3 sl4 sl5 sl6 : Array (Option Value)} {oc0 oc1 oc2 oc3 oc4 oc5 oc6 kV0 kV1 kV2 kV3 kV4 kV5 kV6 dc0 dc1 dc2 dc3 dc4 dc5 dc6 pm0 pm1 pm2 pm3 pm4 pm5 pm6 cd0 cd1 cd2 cd3 cd4 cd5 cd6 ct0 ct1 ct2 ct3 ct4 ct5 ct6 : Value}
    {C_PassError : Addr}
    {C_NoText : Addr}
    {C_NoMeeting : Addr}
    {C_NoPaper : Addr}
    {C_TooMany : Addr}
    {C_NoLine : Addr}
    {C_NoRule : Addr}
    {C_NoCrowd : Addr}
    {nm_NoLine qn_NoLine : Str} {NN_NoLine fi_NoLine : Addr} {bs_NoLine su_NoLine mr_NoLine : List Value} {sn_NoLine : List Str} {ab_NoLine : Bool} {co_NoLine : Option Bool} {dd_NoLine odi_NoLine ani_NoLine : Option Addr} {m0_NoLine m1_NoLine m2_NoLine m3_NoLine m5_NoLine : Option Value} {sli_NoLine : Array (Option Value)} {oci_NoLine kVi_NoLine dci_NoLine pmi_NoLine cdi_NoLine cti_NoLine : Value}
    {nm_NoMeeting qn_NoMeeting : Str} {NN_NoMeeting fi_NoMeeting : Addr} {bs_NoMeeting su_NoMeeting mr_NoMeeting : List Value} {sn_NoMeeting : List Str} {ab_NoMeeting : Bool} {co_NoMeeting : Option Bool} {dd_NoMeeting odi_NoMeeting ani_NoMeeting : Option Addr} {m0_NoMeeting m1_NoMeeting m2_NoMeeting m3_NoMeeting m5_NoMeeting : Option Value} {sli_NoMeeting : Array (Option Value)} {oci_NoMeeting kVi_NoMeeting dci_NoMeeting pmi_NoMeeting cdi_NoMeeting cti_NoMeeting : Value}
    {nm_NoPaper qn_NoPaper : Str} {NN_NoPaper fi_NoPaper : Addr} {bs_NoPaper su_NoPaper mr_NoPaper : List Value} {sn_NoPaper : List Str} {ab_NoPaper : Bool} {co_NoPaper : Option Bool} {dd_NoPaper odi_NoPaper ani_NoPaper : Option Addr} {m0_NoPaper m1_NoPaper m2_NoPaper m3_NoPaper m5_NoPaper : Option Value} {sli_NoPaper : Array (Option Value)} {oci_NoPaper kVi_NoPaper dci_NoPaper pmi_NoPaper cdi_NoPaper cti_NoPaper : Value}
    {nm_NoText qn_NoText : Str} {NN_NoText fi_NoText : Addr} {bs_NoText su_NoText mr_NoText : List Value} {sn_NoText : List Str} {ab_NoText : Bool} {co_NoText : Option Bool} {dd_NoText odi_NoText ani_NoText : Option Addr} {m0_NoText m1_NoText m2_NoText m3_NoText m5_NoText : Option Value} {sli_NoText : Array (Option Value)} {oci_NoText kVi_NoText dci_NoText pmi_NoText cdi_NoText cti_NoText : Value}
    {nm_NoCrowd qn_NoCrowd : Str} {NN_NoCrowd : Addr} {bs_NoCrowd su_NoCrowd mr_NoCrowd : List Value} {sn_NoCrowd : List Str} {ab_NoCrowd : Bool} {co_NoCrowd : Option Bool} {dd_NoCrowd : Option Addr} {m0_NoCrowd m1_NoCrowd m2_NoCrowd m3_NoCrowd m5_NoCrowd : Option Value}
    {nm_NoRule qn_NoRule : Str} {NN_NoRule : Addr} {bs_NoRule su_NoRule mr_NoRule : List Value} {sn_NoRule : List Str} {ab_NoRule : Bool} {co_NoRule : Option Bool} {dd_NoRule : Option Addr} {m0_NoRule m1_NoRule m2_NoRule m3_NoRule m5_NoRule : Option Value}
    {nm_TooMany qn_TooMany : Str} {NN_TooMany : Addr} {bs_TooMany su_TooMany mr_TooMany : List Value} {sn_TooMany : List Str} {ab_TooMany : Bool} {co_TooMany : Option Bool} {dd_TooMany : Option Addr} {m0_TooMany m1_TooMany m2_TooMany m3_TooMany m5_TooMany : Option Value}
    (a0 : PySem.W.nsIn K mainGlobals "_law_feed" = some (some (.ref f0))) (l0 : K.lookup f0 = some ⟨oc0, od0, .func (PySem.W.fnOf "_law_feed" "_law_feed" (defArgs s__law_feed) (defBody s__law_feed) (defScope s__law_feed) .none kV0 dc0 pm0 an0 cd0 ct0), sl0⟩) (c0 : PySem.W.codeIn K cd0 "_law_feed" = true) (k0 : PySem.W.keepIn K (.ref f0) = true)
    (a1 : PySem.W.nsIn K mainGlobals "_law_next" = some (some (.ref f1))) (l1 : K.lookup f1 = some ⟨oc1, od1, .func (PySem.W.fnOf "_law_next" "_law_next" (defArgs s__law_next) (defBody s__law_next) (defScope s__law_next) .none kV1 dc1 pm1 an1 cd1 ct1), sl1⟩) (c1 : PySem.W.codeIn K cd1 "_law_next" = true) (k1 : PySem.W.keepIn K (.ref f1) = true)
    (a2 : PySem.W.nsIn K mainGlobals "_law_one" = some (some (.ref f2))) (l2 : K.lookup f2 = some ⟨oc2, od2, .func (PySem.W.fnOf "_law_one" "_law_one" (defArgs s__law_one) (defBody s__law_one) (defScope s__law_one) .none kV2 dc2 pm2 an2 cd2 ct2), sl2⟩) (c2 : PySem.W.codeIn K cd2 "_law_one" = true) (k2 : PySem.W.keepIn K (.ref f2) = true)
    (a3 : PySem.W.nsIn K mainGlobals "_law_sorts" = some (some (.ref f3))) (l3 : K.lookup f3 = some ⟨oc3, od3, .func (PySem.W.fnOf "_law_sorts" "_law_sorts" (defArgs s__law_sorts) (defBody s__law_sorts) (defScope s__law_sorts) .none kV3 dc3 pm3 an3 cd3 ct3), sl3⟩) (c3 : PySem.W.codeIn K cd3 "_law_sorts" = true) (k3 : PySem.W.keepIn K (.ref f3) = true)
    (a4 : PySem.W.nsIn K mainGlobals "_law_fields" = some (some (.ref f4))) (l4 : K.lookup f4 = some ⟨oc4, od4, .func (PySem.W.fnOf "_law_fields" "_law_fields" (defArgs s__law_fields) (defBody s__law_fields) (defScope s__law_fields) .none kV4 dc4 pm4 an4 cd4 ct4), sl4⟩) (c4 : PySem.W.codeIn K cd4 "_law_fields" = true) (k4 : PySem.W.keepIn K (.ref f4) = true)
    (a5 : PySem.W.nsIn K mainGlobals "_law_raised" = some (some (.ref f5))) (l5 : K.lookup f5 = some ⟨oc5, od5, .func (PySem.W.fnOf "_law_raised" "_law_raised" (defArgs s__law_raised) (defBody s__law_raised) (defScope s__law_raised) .none kV5 dc5 pm5 an5 cd5 ct5), sl5⟩) (c5 : PySem.W.codeIn K cd5 "_law_raised" = true) (k5 : PySem.W.keepIn K (.ref f5) = true)
    (a6 : PySem.W.nsIn K mainGlobals "law" = some (some (.ref f6))) (l6 : K.lookup f6 = some ⟨oc6, od6, .func (PySem.W.fnOf "law" "law" (defArgs s_law) (defBody s_law) (defScope s_law) .none kV6 dc6 pm6 an6 cd6 ct6), sl6⟩) (c6 : PySem.W.codeIn K cd6 "law" = true) (k6 : PySem.W.keepIn K (.ref f6) = true)
    (z_ValueError : PySem.W.nsIn K mainGlobals "ValueError" = some none)
    (z_abs : PySem.W.nsIn K mainGlobals "abs" = some none)
    (z_isinstance : PySem.W.nsIn K mainGlobals "isinstance" = some none)
    (z_len : PySem.W.nsIn K mainGlobals "len" = some none)
    (z_range : PySem.W.nsIn K mainGlobals "range" = some none)
    (gc_PassError : PySem.W.nsIn K mainGlobals "PassError" = some (some (.ref C_PassError)))
    (gc_NoText : PySem.W.nsIn K mainGlobals "NoText" = some (some (.ref C_NoText)))
    (gc_NoMeeting : PySem.W.nsIn K mainGlobals "NoMeeting" = some (some (.ref C_NoMeeting)))
    (gc_NoPaper : PySem.W.nsIn K mainGlobals "NoPaper" = some (some (.ref C_NoPaper)))
    (gc_TooMany : PySem.W.nsIn K mainGlobals "TooMany" = some (some (.ref C_TooMany)))
    (gc_NoLine : PySem.W.nsIn K mainGlobals "NoLine" = some (some (.ref C_NoLine)))
    (gc_NoRule : PySem.W.nsIn K mainGlobals "NoRule" = some (some (.ref C_NoRule)))
    (gc_NoCrowd : PySem.W.nsIn K mainGlobals "NoCrowd" = some (some (.ref C_NoCrowd)))
    (xl_NoLine : K.lookup C_NoLine = some (excClassObj nm_NoLine qn_NoLine C_NoLine NN_NoLine bs_NoLine mr_NoLine true sn_NoLine su_NoLine ab_NoLine co_NoLine dd_NoLine m0_NoLine m1_NoLine m2_NoLine m3_NoLine m5_NoLine "ValueError.__new__"))
    (xr_NoLine : PySem.HandSPX.refsVE mr_NoLine = true)
    (sa_NoLine : PySem.W.findIn K (.ref C_NoLine) "__setattr__" = some (some (.builtin "object.__setattr__")))
    (eb_NoLine : PySem.W.subIn K (.ref C_NoLine) (.type "BaseException") = some true)
    (tc_NoLine : PySem.W.typeIn K (.ref C_NoLine) = some (.type "type"))
    (kc_NoLine : PySem.W.keepIn K (.ref C_NoLine) = true)
    (ic_NoLine : PySem.W.findIn K (.ref C_NoLine) "__init__" = some (some (.ref fi_NoLine)))
    (ti_NoLine : PySem.W.typeIn K (.ref fi_NoLine) = some (.type "function"))
    (li_NoLine : K.lookup fi_NoLine = some ⟨oci_NoLine, odi_NoLine, .func (PySem.W.fnOf "__init__" "NoLine.__init__" (defArgs si_NoLine) (defBody si_NoLine) (defScope si_NoLine) .none kVi_NoLine dci_NoLine pmi_NoLine ani_NoLine cdi_NoLine cti_NoLine), sli_NoLine⟩)
    (cc_NoLine : PySem.W.codeIn K cdi_NoLine "NoLine.__init__" = true)
    (ki_NoLine : PySem.W.keepIn K (.ref fi_NoLine) = true)
    (xl_NoMeeting : K.lookup C_NoMeeting = some (excClassObj nm_NoMeeting qn_NoMeeting C_NoMeeting NN_NoMeeting bs_NoMeeting mr_NoMeeting true sn_NoMeeting su_NoMeeting ab_NoMeeting co_NoMeeting dd_NoMeeting m0_NoMeeting m1_NoMeeting m2_NoMeeting m3_NoMeeting m5_NoMeeting "ValueError.__new__"))
    (xr_NoMeeting : PySem.HandSPX.refsVE mr_NoMeeting = true)
    (sa_NoMeeting : PySem.W.findIn K (.ref C_NoMeeting) "__setattr__" = some (some (.builtin "object.__setattr__")))
    (eb_NoMeeting : PySem.W.subIn K (.ref C_NoMeeting) (.type "BaseException") = some true)
    (tc_NoMeeting : PySem.W.typeIn K (.ref C_NoMeeting) = some (.type "type"))
    (kc_NoMeeting : PySem.W.keepIn K (.ref C_NoMeeting) = true)
    (ic_NoMeeting : PySem.W.findIn K (.ref C_NoMeeting) "__init__" = some (some (.ref fi_NoMeeting)))
    (ti_NoMeeting : PySem.W.typeIn K (.ref fi_NoMeeting) = some (.type "function"))
    (li_NoMeeting : K.lookup fi_NoMeeting = some ⟨oci_NoMeeting, odi_NoMeeting, .func (PySem.W.fnOf "__init__" "NoMeeting.__init__" (defArgs si_NoMeeting) (defBody si_NoMeeting) (defScope si_NoMeeting) .none kVi_NoMeeting dci_NoMeeting pmi_NoMeeting ani_NoMeeting cdi_NoMeeting cti_NoMeeting), sli_NoMeeting⟩)
    (cc_NoMeeting : PySem.W.codeIn K cdi_NoMeeting "NoMeeting.__init__" = true)
    (ki_NoMeeting : PySem.W.keepIn K (.ref fi_NoMeeting) = true)
    (xl_NoPaper : K.lookup C_NoPaper = some (excClassObj nm_NoPaper qn_NoPaper C_NoPaper NN_NoPaper bs_NoPaper mr_NoPaper true sn_NoPaper su_NoPaper ab_NoPaper co_NoPaper dd_NoPaper m0_NoPaper m1_NoPaper m2_NoPaper m3_NoPaper m5_NoPaper "ValueError.__new__"))
    (xr_NoPaper : PySem.HandSPX.refsVE mr_NoPaper = true)
    (sa_NoPaper : PySem.W.findIn K (.ref C_NoPaper) "__setattr__" = some (some (.builtin "object.__setattr__")))
    (eb_NoPaper : PySem.W.subIn K (.ref C_NoPaper) (.type "BaseException") = some true)
    (tc_NoPaper : PySem.W.typeIn K (.ref C_NoPaper) = some (.type "type"))
    (kc_NoPaper : PySem.W.keepIn K (.ref C_NoPaper) = true)
    (ic_NoPaper : PySem.W.findIn K (.ref C_NoPaper) "__init__" = some (some (.ref fi_NoPaper)))
    (ti_NoPaper : PySem.W.typeIn K (.ref fi_NoPaper) = some (.type "function"))
    (li_NoPaper : K.lookup fi_NoPaper = some ⟨oci_NoPaper, odi_NoPaper, .func (PySem.W.fnOf "__init__" "NoPaper.__init__" (defArgs si_NoPaper) (defBody si_NoPaper) (defScope si_NoPaper) .none kVi_NoPaper dci_NoPaper pmi_NoPaper ani_NoPaper cdi_NoPaper cti_NoPaper), sli_NoPaper⟩)
    (cc_NoPaper : PySem.W.codeIn K cdi_NoPaper "NoPaper.__init__" = true)
    (ki_NoPaper : PySem.W.keepIn K (.ref fi_NoPaper) = true)
    (xl_NoText : K.lookup C_NoText = some (excClassObj nm_NoText qn_NoText C_NoText NN_NoText bs_NoText mr_NoText true sn_NoText su_NoText ab_NoText co_NoText dd_NoText m0_NoText m1_NoText m2_NoText m3_NoText m5_NoText "ValueError.__new__"))
    (xr_NoText : PySem.HandSPX.refsVE mr_NoText = true)
    (sa_NoText : PySem.W.findIn K (.ref C_NoText) "__setattr__" = some (some (.builtin "object.__setattr__")))
    (eb_NoText : PySem.W.subIn K (.ref C_NoText) (.type "BaseException") = some true)
    (tc_NoText : PySem.W.typeIn K (.ref C_NoText) = some (.type "type"))
    (kc_NoText : PySem.W.keepIn K (.ref C_NoText) = true)
    (ic_NoText : PySem.W.findIn K (.ref C_NoText) "__init__" = some (some (.ref fi_NoText)))
    (ti_NoText : PySem.W.typeIn K (.ref fi_NoText) = some (.type "function"))
    (li_NoText : K.lookup fi_NoText = some ⟨oci_NoText, odi_NoText, .func (PySem.W.fnOf "__init__" "NoText.__init__" (defArgs si_NoText) (defBody si_NoText) (defScope si_NoText) .none kVi_NoText dci_NoText pmi_NoText ani_NoText cdi_NoText cti_NoText), sli_NoText⟩)
    (cc_NoText : PySem.W.codeIn K cdi_NoText "NoText.__init__" = true)
    (ki_NoText : PySem.W.keepIn K (.ref fi_NoText) = true)
    (nf_NoLine_line : PySem.W.findIn K (.ref C_NoLine) "line" = some none)
    (nf_NoMeeting_place : PySem.W.findIn K (.ref C_NoMeeting) "place" = some none)
    (nf_NoPaper_number : PySem.W.findIn K (.ref C_NoPaper) "number" = some none)
    (nf_NoPaper_word : PySem.W.findIn K (.ref C_NoPaper) "word" = some none)
    (nf_NoText_row : PySem.W.findIn K (.ref C_NoText) "row" = some none)
    (nf_NoText_word : PySem.W.findIn K (.ref C_NoText) "word" = some none)
    (xa_NoCrowd : PySem.W.findIn K (.ref C_NoCrowd) "__getattribute__" = some (some (.builtin "BaseException.__getattribute__")))
    (xg_NoCrowd : PySem.W.findIn K (.ref C_NoCrowd) "__getattr__" = some none)
    (xe_NoCrowd : PySem.W.subIn K (.ref C_NoCrowd) (.type "BaseException") = some true)
    (xh_NoCrowd : PySem.W.hasDictIn K C_NoCrowd = true)
    (xt_NoCrowd : PySem.W.typeIn K (.ref C_NoCrowd) = some (.type "type"))
    (xa_NoLine : PySem.W.findIn K (.ref C_NoLine) "__getattribute__" = some (some (.builtin "BaseException.__getattribute__")))
    (xg_NoLine : PySem.W.findIn K (.ref C_NoLine) "__getattr__" = some none)
    (xe_NoLine : PySem.W.subIn K (.ref C_NoLine) (.type "BaseException") = some true)
    (xh_NoLine : PySem.W.hasDictIn K C_NoLine = true)
    (xt_NoLine : PySem.W.typeIn K (.ref C_NoLine) = some (.type "type"))
    (xa_NoMeeting : PySem.W.findIn K (.ref C_NoMeeting) "__getattribute__" = some (some (.builtin "BaseException.__getattribute__")))
    (xg_NoMeeting : PySem.W.findIn K (.ref C_NoMeeting) "__getattr__" = some none)
    (xe_NoMeeting : PySem.W.subIn K (.ref C_NoMeeting) (.type "BaseException") = some true)
    (xh_NoMeeting : PySem.W.hasDictIn K C_NoMeeting = true)
    (xt_NoMeeting : PySem.W.typeIn K (.ref C_NoMeeting) = some (.type "type"))
    (xa_NoPaper : PySem.W.findIn K (.ref C_NoPaper) "__getattribute__" = some (some (.builtin "BaseException.__getattribute__")))
    (xg_NoPaper : PySem.W.findIn K (.ref C_NoPaper) "__getattr__" = some none)
    (xe_NoPaper : PySem.W.subIn K (.ref C_NoPaper) (.type "BaseException") = some true)
    (xh_NoPaper : PySem.W.hasDictIn K C_NoPaper = true)
    (xt_NoPaper : PySem.W.typeIn K (.ref C_NoPaper) = some (.type "type"))
    (xa_NoRule : PySem.W.findIn K (.ref C_NoRule) "__getattribute__" = some (some (.builtin "BaseException.__getattribute__")))
    (xg_NoRule : PySem.W.findIn K (.ref C_NoRule) "__getattr__" = some none)
    (xe_NoRule : PySem.W.subIn K (.ref C_NoRule) (.type "BaseException") = some true)
    (xh_NoRule : PySem.W.hasDictIn K C_NoRule = true)
    (xt_NoRule : PySem.W.typeIn K (.ref C_NoRule) = some (.type "type"))
    (xa_NoText : PySem.W.findIn K (.ref C_NoText) "__getattribute__" = some (some (.builtin "BaseException.__getattribute__")))
    (xg_NoText : PySem.W.findIn K (.ref C_NoText) "__getattr__" = some none)
    (xe_NoText : PySem.W.subIn K (.ref C_NoText) (.type "BaseException") = some true)
    (xh_NoText : PySem.W.hasDictIn K C_NoText = true)
    (xt_NoText : PySem.W.typeIn K (.ref C_NoText) = some (.type "type"))
    (xa_PassError : PySem.W.findIn K (.ref C_PassError) "__getattribute__" = some (some (.builtin "BaseException.__getattribute__")))
    (xg_PassError : PySem.W.findIn K (.ref C_PassError) "__getattr__" = some none)
    (xe_PassError : PySem.W.subIn K (.ref C_PassError) (.type "BaseException") = some true)
    (xh_PassError : PySem.W.hasDictIn K C_PassError = true)
    (xt_PassError : PySem.W.typeIn K (.ref C_PassError) = some (.type "type"))
    (xa_TooMany : PySem.W.findIn K (.ref C_TooMany) "__getattribute__" = some (some (.builtin "BaseException.__getattribute__")))
    (xg_TooMany : PySem.W.findIn K (.ref C_TooMany) "__getattr__" = some none)
    (xe_TooMany : PySem.W.subIn K (.ref C_TooMany) (.type "BaseException") = some true)
    (xh_TooMany : PySem.W.hasDictIn K C_TooMany = true)
    (xt_TooMany : PySem.W.typeIn K (.ref C_TooMany) = some (.type "type"))
    (sb_NoCrowd_NoCrowd : PySem.W.subIn K (.ref C_NoCrowd) (.ref C_NoCrowd) = some true)
    (sb_NoCrowd_NoLine : PySem.W.subIn K (.ref C_NoCrowd) (.ref C_NoLine) = some false)
    (sb_NoCrowd_NoMeeting : PySem.W.subIn K (.ref C_NoCrowd) (.ref C_NoMeeting) = some false)
    (sb_NoCrowd_NoPaper : PySem.W.subIn K (.ref C_NoCrowd) (.ref C_NoPaper) = some false)
    (sb_NoCrowd_NoRule : PySem.W.subIn K (.ref C_NoCrowd) (.ref C_NoRule) = some false)
    (sb_NoCrowd_NoText : PySem.W.subIn K (.ref C_NoCrowd) (.ref C_NoText) = some false)
    (sb_NoCrowd_PassError : PySem.W.subIn K (.ref C_NoCrowd) (.ref C_PassError) = some true)
    (sb_NoCrowd_TooMany : PySem.W.subIn K (.ref C_NoCrowd) (.ref C_TooMany) = some false)
    (sb_NoLine_NoCrowd : PySem.W.subIn K (.ref C_NoLine) (.ref C_NoCrowd) = some false)
    (sb_NoLine_NoLine : PySem.W.subIn K (.ref C_NoLine) (.ref C_NoLine) = some true)
    (sb_NoLine_NoMeeting : PySem.W.subIn K (.ref C_NoLine) (.ref C_NoMeeting) = some false)
    (sb_NoLine_NoPaper : PySem.W.subIn K (.ref C_NoLine) (.ref C_NoPaper) = some false)
    (sb_NoLine_NoRule : PySem.W.subIn K (.ref C_NoLine) (.ref C_NoRule) = some false)
    (sb_NoLine_NoText : PySem.W.subIn K (.ref C_NoLine) (.ref C_NoText) = some false)
    (sb_NoLine_PassError : PySem.W.subIn K (.ref C_NoLine) (.ref C_PassError) = some true)
    (sb_NoLine_TooMany : PySem.W.subIn K (.ref C_NoLine) (.ref C_TooMany) = some false)
    (sb_NoMeeting_NoCrowd : PySem.W.subIn K (.ref C_NoMeeting) (.ref C_NoCrowd) = some false)
    (sb_NoMeeting_NoLine : PySem.W.subIn K (.ref C_NoMeeting) (.ref C_NoLine) = some false)
    (sb_NoMeeting_NoMeeting : PySem.W.subIn K (.ref C_NoMeeting) (.ref C_NoMeeting) = some true)
    (sb_NoMeeting_NoPaper : PySem.W.subIn K (.ref C_NoMeeting) (.ref C_NoPaper) = some false)
    (sb_NoMeeting_NoRule : PySem.W.subIn K (.ref C_NoMeeting) (.ref C_NoRule) = some false)
    (sb_NoMeeting_NoText : PySem.W.subIn K (.ref C_NoMeeting) (.ref C_NoText) = some false)
    (sb_NoMeeting_PassError : PySem.W.subIn K (.ref C_NoMeeting) (.ref C_PassError) = some true)
    (sb_NoMeeting_TooMany : PySem.W.subIn K (.ref C_NoMeeting) (.ref C_TooMany) = some false)
    (sb_NoPaper_NoCrowd : PySem.W.subIn K (.ref C_NoPaper) (.ref C_NoCrowd) = some false)
    (sb_NoPaper_NoLine : PySem.W.subIn K (.ref C_NoPaper) (.ref C_NoLine) = some false)
    (sb_NoPaper_NoMeeting : PySem.W.subIn K (.ref C_NoPaper) (.ref C_NoMeeting) = some false)
    (sb_NoPaper_NoPaper : PySem.W.subIn K (.ref C_NoPaper) (.ref C_NoPaper) = some true)
    (sb_NoPaper_NoRule : PySem.W.subIn K (.ref C_NoPaper) (.ref C_NoRule) = some false)
    (sb_NoPaper_NoText : PySem.W.subIn K (.ref C_NoPaper) (.ref C_NoText) = some false)
    (sb_NoPaper_PassError : PySem.W.subIn K (.ref C_NoPaper) (.ref C_PassError) = some true)
    (sb_NoPaper_TooMany : PySem.W.subIn K (.ref C_NoPaper) (.ref C_TooMany) = some false)
    (sb_NoRule_NoCrowd : PySem.W.subIn K (.ref C_NoRule) (.ref C_NoCrowd) = some false)
    (sb_NoRule_NoLine : PySem.W.subIn K (.ref C_NoRule) (.ref C_NoLine) = some false)
    (sb_NoRule_NoMeeting : PySem.W.subIn K (.ref C_NoRule) (.ref C_NoMeeting) = some false)
    (sb_NoRule_NoPaper : PySem.W.subIn K (.ref C_NoRule) (.ref C_NoPaper) = some false)
    (sb_NoRule_NoRule : PySem.W.subIn K (.ref C_NoRule) (.ref C_NoRule) = some true)
    (sb_NoRule_NoText : PySem.W.subIn K (.ref C_NoRule) (.ref C_NoText) = some false)
    (sb_NoRule_PassError : PySem.W.subIn K (.ref C_NoRule) (.ref C_PassError) = some true)
    (sb_NoRule_TooMany : PySem.W.subIn K (.ref C_NoRule) (.ref C_TooMany) = some false)
    (sb_NoText_NoCrowd : PySem.W.subIn K (.ref C_NoText) (.ref C_NoCrowd) = some false)
    (sb_NoText_NoLine : PySem.W.subIn K (.ref C_NoText) (.ref C_NoLine) = some false)
    (sb_NoText_NoMeeting : PySem.W.subIn K (.ref C_NoText) (.ref C_NoMeeting) = some false)
    (sb_NoText_NoPaper : PySem.W.subIn K (.ref C_NoText) (.ref C_NoPaper) = some false)
    (sb_NoText_NoRule : PySem.W.subIn K (.ref C_NoText) (.ref C_NoRule) = some false)
    (sb_NoText_NoText : PySem.W.subIn K (.ref C_NoText) (.ref C_NoText) = some true)
    (sb_NoText_PassError : PySem.W.subIn K (.ref C_NoText) (.ref C_PassError) = some true)
    (sb_NoText_TooMany : PySem.W.subIn K (.ref C_NoText) (.ref C_TooMany) = some false)
    (sb_TooMany_NoCrowd : PySem.W.subIn K (.ref C_TooMany) (.ref C_NoCrowd) = some false)
    (sb_TooMany_NoLine : PySem.W.subIn K (.ref C_TooMany) (.ref C_NoLine) = some false)
    (sb_TooMany_NoMeeting : PySem.W.subIn K (.ref C_TooMany) (.ref C_NoMeeting) = some false)
    (sb_TooMany_NoPaper : PySem.W.subIn K (.ref C_TooMany) (.ref C_NoPaper) = some false)
    (sb_TooMany_NoRule : PySem.W.subIn K (.ref C_TooMany) (.ref C_NoRule) = some false)
    (sb_TooMany_NoText : PySem.W.subIn K (.ref C_TooMany) (.ref C_NoText) = some false)
    (sb_TooMany_PassError : PySem.W.subIn K (.ref C_TooMany) (.ref C_PassError) = some true)
    (sb_TooMany_TooMany : PySem.W.subIn K (.ref C_TooMany) (.ref C_TooMany) = some true)
    (xsp : PySem.W.specialIn K (.builtin "object.__class__") "__get__" = some (some (.builtin "getset_descriptor.__get__")))
    (xtk : PySem.W.takesIn K (.builtin "object.__class__") = some true)
    (xk_NoText : PySem.W.findIn K (.ref C_NoText) "__class__" = some (some (.builtin "object.__class__")))
    (xm_NoText : PySem.W.mroIn K C_NoText (.type "object") = some true)
    (xk_NoMeeting : PySem.W.findIn K (.ref C_NoMeeting) "__class__" = some (some (.builtin "object.__class__")))
    (xm_NoMeeting : PySem.W.mroIn K C_NoMeeting (.type "object") = some true)
    (xk_NoPaper : PySem.W.findIn K (.ref C_NoPaper) "__class__" = some (some (.builtin "object.__class__")))
    (xm_NoPaper : PySem.W.mroIn K C_NoPaper (.type "object") = some true)
    (xk_TooMany : PySem.W.findIn K (.ref C_TooMany) "__class__" = some (some (.builtin "object.__class__")))
    (xm_TooMany : PySem.W.mroIn K C_TooMany (.type "object") = some true)
    (xk_NoLine : PySem.W.findIn K (.ref C_NoLine) "__class__" = some (some (.builtin "object.__class__")))
    (xm_NoLine : PySem.W.mroIn K C_NoLine (.type "object") = some true)
    (xk_NoRule : PySem.W.findIn K (.ref C_NoRule) "__class__" = some (some (.builtin "object.__class__")))
    (xm_NoRule : PySem.W.mroIn K C_NoRule (.type "object") = some true)
    (xk_NoCrowd : PySem.W.findIn K (.ref C_NoCrowd) "__class__" = some (some (.builtin "object.__class__")))
    (xm_NoCrowd : PySem.W.mroIn K C_NoCrowd (.type "object") = some true)
    (vb_NoCrowd : PySem.W.subIn K (.ref C_NoCrowd) (.type "ValueError") = some true)
    (vb_NoLine : PySem.W.subIn K (.ref C_NoLine) (.type "ValueError") = some true)
    (vb_NoMeeting : PySem.W.subIn K (.ref C_NoMeeting) (.type "ValueError") = some true)
    (vb_NoPaper : PySem.W.subIn K (.ref C_NoPaper) (.type "ValueError") = some true)
    (vb_NoRule : PySem.W.subIn K (.ref C_NoRule) (.type "ValueError") = some true)
    (vb_NoText : PySem.W.subIn K (.ref C_NoText) (.type "ValueError") = some true)
    (vb_TooMany : PySem.W.subIn K (.ref C_TooMany) (.type "ValueError") = some true)
    (ng_NoLine_line : PySem.W.findIn K (.ref C_NoLine) "line" = some none)
    (ng_NoMeeting_place : PySem.W.findIn K (.ref C_NoMeeting) "place" = some none)
    (ng_NoPaper_number : PySem.W.findIn K (.ref C_NoPaper) "number" = some none)
    (ng_NoPaper_word : PySem.W.findIn K (.ref C_NoPaper) "word" = some none)
    (ng_NoText_row : PySem.W.findIn K (.ref C_NoText) "row" = some none)
    (ng_NoText_word : PySem.W.findIn K (.ref C_NoText) "word" = some none)
    (xl_NoCrowd : K.lookup C_NoCrowd = some (excClassObj nm_NoCrowd qn_NoCrowd C_NoCrowd NN_NoCrowd bs_NoCrowd mr_NoCrowd true sn_NoCrowd su_NoCrowd ab_NoCrowd co_NoCrowd dd_NoCrowd m0_NoCrowd m1_NoCrowd m2_NoCrowd m3_NoCrowd m5_NoCrowd "ValueError.__new__"))
    (xr_NoCrowd : PySem.HandSPX.refsVE mr_NoCrowd = true)
    (sa_NoCrowd : PySem.W.findIn K (.ref C_NoCrowd) "__setattr__" = some (some (.builtin "object.__setattr__")))
    (eb_NoCrowd : PySem.W.subIn K (.ref C_NoCrowd) (.type "BaseException") = some true)
    (tc_NoCrowd : PySem.W.typeIn K (.ref C_NoCrowd) = some (.type "type"))
    (kc_NoCrowd : PySem.W.keepIn K (.ref C_NoCrowd) = true)
    (ib_NoCrowd : PySem.W.findIn K (.ref C_NoCrowd) "__init__" = some (some (.builtin "ValueError.__init__")))
    (xl_NoRule : K.lookup C_NoRule = some (excClassObj nm_NoRule qn_NoRule C_NoRule NN_NoRule bs_NoRule mr_NoRule true sn_NoRule su_NoRule ab_NoRule co_NoRule dd_NoRule m0_NoRule m1_NoRule m2_NoRule m3_NoRule m5_NoRule "ValueError.__new__"))
    (xr_NoRule : PySem.HandSPX.refsVE mr_NoRule = true)
    (sa_NoRule : PySem.W.findIn K (.ref C_NoRule) "__setattr__" = some (some (.builtin "object.__setattr__")))
    (eb_NoRule : PySem.W.subIn K (.ref C_NoRule) (.type "BaseException") = some true)
    (tc_NoRule : PySem.W.typeIn K (.ref C_NoRule) = some (.type "type"))
    (kc_NoRule : PySem.W.keepIn K (.ref C_NoRule) = true)
    (ib_NoRule : PySem.W.findIn K (.ref C_NoRule) "__init__" = some (some (.builtin "ValueError.__init__")))
    (xl_TooMany : K.lookup C_TooMany = some (excClassObj nm_TooMany qn_TooMany C_TooMany NN_TooMany bs_TooMany mr_TooMany true sn_TooMany su_TooMany ab_TooMany co_TooMany dd_TooMany m0_TooMany m1_TooMany m2_TooMany m3_TooMany m5_TooMany "ValueError.__new__"))
    (xr_TooMany : PySem.HandSPX.refsVE mr_TooMany = true)
    (sa_TooMany : PySem.W.findIn K (.ref C_TooMany) "__setattr__" = some (some (.builtin "object.__setattr__")))
    (eb_TooMany : PySem.W.subIn K (.ref C_TooMany) (.type "BaseException") = some true)
    (tc_TooMany : PySem.W.typeIn K (.ref C_TooMany) = some (.type "type"))
    (kc_TooMany : PySem.W.keepIn K (.ref C_TooMany) = true)
    (ib_TooMany : PySem.W.findIn K (.ref C_TooMany) "__init__" = some (some (.builtin "ValueError.__init__")))
    : ∃ (fd : FuncData) (F : ME), (∀ (s : Shared) (u : Value), BindsTo s fd ⟨[u], []⟩ [("_law_script", u)]) ∧ (∀ base : Heap, K.In base → base.Ns mainGlobals mg → FnG P w K mg base 4 fa fd ["_law_script"] (spF mg 1 [] F K)) ∧ ∀ ns : List Int, ns.length ≤ 63 → ∃ outs, F [.val (scriptOf ns)] = .ok (.val (.bool true)) outs := by
  have e := hfa.symm.trans (PySem.W.mg_of X G a6)
  cases e
  have F0 := fun_mk (st := s__law_feed) l0 c0 k0
  have b0 := F0.binds (ps := ["_law_script", "_law_k"]) fun _ _ _ _ _ _ us hl => match us, hl with | [_, _], _ => rfl
  have F1 := fun_mk (st := s__law_next) l1 c1 k1
  have b1 := F1.binds (ps := ["_law_feed_here", "_law_many"]) fun _ _ _ _ _ _ us hl => match us, hl with | [_, _], _ => rfl
  have F2 := fun_mk (st := s__law_one) l2 c2 k2
  have b2 := F2.binds (ps := ["_law_feed_here", "_law_some"]) fun _ _ _ _ _ _ us hl => match us, hl with | [_, _], _ => rfl
  have F3 := fun_mk (st := s__law_sorts) l3 c3 k3
  have b3 := F3.binds (ps := ["_law_e"]) fun _ _ _ _ _ _ us hl => match us, hl with | [_], _ => rfl
  have F4 := fun_mk (st := s__law_fields) l4 c4 k4
  have b4 := F4.binds (ps := ["_law_e"]) fun _ _ _ _ _ _ us hl => match us, hl with | [_], _ => rfl
  have F5 := fun_mk (st := s__law_raised) l5 c5 k5
  have b5 := F5.binds (ps := ["_law_k", "_law_number", "_law_more", "_law_text"]) fun _ _ _ _ _ _ us hl => match us, hl with | [_, _, _, _], _ => rfl
  have F6 := fun_mk (st := s_law) l6 c6 k6
  have b6 := F6.binds (ps := ["_law_script"]) fun _ _ _ _ _ _ us hl => match us, hl with | [_], _ => rfl
  have Fi_NoLine := fun_mk (st := si_NoLine) li_NoLine cc_NoLine ki_NoLine
  have bi_NoLine := Fi_NoLine.binds (ps := ["self", "line"]) fun _ _ _ _ _ _ us hl => match us, hl with | [_, _], _ => rfl
  have Fi_NoMeeting := fun_mk (st := si_NoMeeting) li_NoMeeting cc_NoMeeting ki_NoMeeting
  have bi_NoMeeting := Fi_NoMeeting.binds (ps := ["self", "place"]) fun _ _ _ _ _ _ us hl => match us, hl with | [_, _], _ => rfl
  have Fi_NoPaper := fun_mk (st := si_NoPaper) li_NoPaper cc_NoPaper ki_NoPaper
  have bi_NoPaper := Fi_NoPaper.binds (ps := ["self", "word", "number"]) fun _ _ _ _ _ _ us hl => match us, hl with | [_, _, _], _ => rfl
  have Fi_NoText := fun_mk (st := si_NoText) li_NoText cc_NoText ki_NoText
  have bi_NoText := Fi_NoText.binds (ps := ["self", "row", "word"]) fun _ _ _ _ _ _ us hl => match us, hl with | [_, _, _], _ => rfl
  letI : Cn := ⟨fun | 21 => C_NoText | 22 => C_NoMeeting | 23 => C_NoPaper | 24 => C_TooMany | 25 => C_NoLine | 26 => C_NoRule | 27 => C_NoCrowd | _ => 0⟩
  exact ⟨_, F_law, fun s v => .of_eq rfl, fun base _ _ => ok_law (⟨_, PySem.W.mg_of X G gc_PassError, _, PySem.W.mg_of X G gc_NoText, _, PySem.W.mg_of X G gc_NoMeeting, _, PySem.W.mg_of X G gc_NoPaper, _, PySem.W.mg_of X G gc_TooMany, _, PySem.W.mg_of X G gc_NoLine, _, PySem.W.mg_of X G gc_NoRule, _, PySem.W.mg_of X G gc_NoCrowd, ⟨⟨_, _, _, _, _, _, _, _, _, _, _, _, _, _, _, xl_NoLine, xr_NoLine⟩, sa_NoLine, eb_NoLine, tc_NoLine, kc_NoLine⟩, _, _, ic_NoLine, ti_NoLine, Fi_NoLine, bi_NoLine, ⟨⟨_, _, _, _, _, _, _, _, _, _, _, _, _, _, _, xl_NoMeeting, xr_NoMeeting⟩, sa_NoMeeting, eb_NoMeeting, tc_NoMeeting, kc_NoMeeting⟩, _, _, ic_NoMeeting, ti_NoMeeting, Fi_NoMeeting, bi_NoMeeting, ⟨⟨_, _, _, _, _, _, _, _, _, _, _, _, _, _, _, xl_NoPaper, xr_NoPaper⟩, sa_NoPaper, eb_NoPaper, tc_NoPaper, kc_NoPaper⟩, _, _, ic_NoPaper, ti_NoPaper, Fi_NoPaper, bi_NoPaper, ⟨⟨_, _, _, _, _, _, _, _, _, _, _, _, _, _, _, xl_NoText, xr_NoText⟩, sa_NoText, eb_NoText, tc_NoText, kc_NoText⟩, _, _, ic_NoText, ti_NoText, Fi_NoText, bi_NoText, nf_NoLine_line, nf_NoMeeting_place, nf_NoPaper_number, nf_NoPaper_word, nf_NoText_row, nf_NoText_word, ⟨xa_NoCrowd, xg_NoCrowd, xe_NoCrowd, xh_NoCrowd⟩, xt_NoCrowd, ⟨xa_NoLine, xg_NoLine, xe_NoLine, xh_NoLine⟩, xt_NoLine, ⟨xa_NoMeeting, xg_NoMeeting, xe_NoMeeting, xh_NoMeeting⟩, xt_NoMeeting, ⟨xa_NoPaper, xg_NoPaper, xe_NoPaper, xh_NoPaper⟩, xt_NoPaper, ⟨xa_NoRule, xg_NoRule, xe_NoRule, xh_NoRule⟩, xt_NoRule, ⟨xa_NoText, xg_NoText, xe_NoText, xh_NoText⟩, xt_NoText, ⟨xa_PassError, xg_PassError, xe_PassError, xh_PassError⟩, xt_PassError, ⟨xa_TooMany, xg_TooMany, xe_TooMany, xh_TooMany⟩, xt_TooMany, sb_NoCrowd_NoCrowd, sb_NoCrowd_NoLine, sb_NoCrowd_NoMeeting, sb_NoCrowd_NoPaper, sb_NoCrowd_NoRule, sb_NoCrowd_NoText, sb_NoCrowd_PassError, sb_NoCrowd_TooMany, sb_NoLine_NoCrowd, sb_NoLine_NoLine, sb_NoLine_NoMeeting, sb_NoLine_NoPaper, sb_NoLine_NoRule, sb_NoLine_NoText, sb_NoLine_PassError, sb_NoLine_TooMany, sb_NoMeeting_NoCrowd, sb_NoMeeting_NoLine, sb_NoMeeting_NoMeeting, sb_NoMeeting_NoPaper, sb_NoMeeting_NoRule, sb_NoMeeting_NoText, sb_NoMeeting_PassError, sb_NoMeeting_TooMany, sb_NoPaper_NoCrowd, sb_NoPaper_NoLine, sb_NoPaper_NoMeeting, sb_NoPaper_NoPaper, sb_NoPaper_NoRule, sb_NoPaper_NoText, sb_NoPaper_PassError, sb_NoPaper_TooMany, sb_NoRule_NoCrowd, sb_NoRule_NoLine, sb_NoRule_NoMeeting, sb_NoRule_NoPaper, sb_NoRule_NoRule, sb_NoRule_NoText, sb_NoRule_PassError, sb_NoRule_TooMany, sb_NoText_NoCrowd, sb_NoText_NoLine, sb_NoText_NoMeeting, sb_NoText_NoPaper, sb_NoText_NoRule, sb_NoText_NoText, sb_NoText_PassError, sb_NoText_TooMany, sb_TooMany_NoCrowd, sb_TooMany_NoLine, sb_TooMany_NoMeeting, sb_TooMany_NoPaper, sb_TooMany_NoRule, sb_TooMany_NoText, sb_TooMany_PassError, sb_TooMany_TooMany, rfl, ⟨xa_NoText, xg_NoText, xe_NoText, xh_NoText, xk_NoText, xsp, xtk, xm_NoText⟩, ⟨xa_NoText, xg_NoText, xe_NoText, xh_NoText⟩, rfl, ⟨xa_NoMeeting, xg_NoMeeting, xe_NoMeeting, xh_NoMeeting, xk_NoMeeting, xsp, xtk, xm_NoMeeting⟩, ⟨xa_NoMeeting, xg_NoMeeting, xe_NoMeeting, xh_NoMeeting⟩, rfl, ⟨xa_NoPaper, xg_NoPaper, xe_NoPaper, xh_NoPaper, xk_NoPaper, xsp, xtk, xm_NoPaper⟩, ⟨xa_NoPaper, xg_NoPaper, xe_NoPaper, xh_NoPaper⟩, rfl, ⟨xa_TooMany, xg_TooMany, xe_TooMany, xh_TooMany, xk_TooMany, xsp, xtk, xm_TooMany⟩, ⟨xa_TooMany, xg_TooMany, xe_TooMany, xh_TooMany⟩, rfl, ⟨xa_NoLine, xg_NoLine, xe_NoLine, xh_NoLine, xk_NoLine, xsp, xtk, xm_NoLine⟩, ⟨xa_NoLine, xg_NoLine, xe_NoLine, xh_NoLine⟩, rfl, ⟨xa_NoRule, xg_NoRule, xe_NoRule, xh_NoRule, xk_NoRule, xsp, xtk, xm_NoRule⟩, ⟨xa_NoRule, xg_NoRule, xe_NoRule, xh_NoRule⟩, rfl, ⟨xa_NoCrowd, xg_NoCrowd, xe_NoCrowd, xh_NoCrowd, xk_NoCrowd, xsp, xtk, xm_NoCrowd⟩, ⟨xa_NoCrowd, xg_NoCrowd, xe_NoCrowd, xh_NoCrowd⟩, kit_ref xh_NoCrowd xt_NoCrowd sb_NoCrowd_NoCrowd sb_NoCrowd_NoCrowd, kit_ref xh_NoLine xt_NoLine sb_NoCrowd_NoLine sb_NoLine_NoLine, kit_ref xh_NoMeeting xt_NoMeeting sb_NoCrowd_NoMeeting sb_NoMeeting_NoMeeting, kit_ref xh_NoPaper xt_NoPaper sb_NoCrowd_NoPaper sb_NoPaper_NoPaper, kit_ref xh_NoRule xt_NoRule sb_NoCrowd_NoRule sb_NoRule_NoRule, kit_ref xh_NoText xt_NoText sb_NoCrowd_NoText sb_NoText_NoText, kit_ref xh_TooMany xt_TooMany sb_NoCrowd_TooMany sb_TooMany_TooMany, kit_ref xh_NoCrowd xt_NoCrowd sb_NoLine_NoCrowd sb_NoCrowd_NoCrowd, kit_ref xh_NoLine xt_NoLine sb_NoLine_NoLine sb_NoLine_NoLine, kit_ref xh_NoMeeting xt_NoMeeting sb_NoLine_NoMeeting sb_NoMeeting_NoMeeting, kit_ref xh_NoPaper xt_NoPaper sb_NoLine_NoPaper sb_NoPaper_NoPaper, kit_ref xh_NoRule xt_NoRule sb_NoLine_NoRule sb_NoRule_NoRule, kit_ref xh_NoText xt_NoText sb_NoLine_NoText sb_NoText_NoText, kit_ref xh_TooMany xt_TooMany sb_NoLine_TooMany sb_TooMany_TooMany, kit_ref xh_NoCrowd xt_NoCrowd sb_NoMeeting_NoCrowd sb_NoCrowd_NoCrowd, kit_ref xh_NoLine xt_NoLine sb_NoMeeting_NoLine sb_NoLine_NoLine, kit_ref xh_NoMeeting xt_NoMeeting sb_NoMeeting_NoMeeting sb_NoMeeting_NoMeeting, kit_ref xh_NoPaper xt_NoPaper sb_NoMeeting_NoPaper sb_NoPaper_NoPaper, kit_ref xh_NoRule xt_NoRule sb_NoMeeting_NoRule sb_NoRule_NoRule, kit_ref xh_NoText xt_NoText sb_NoMeeting_NoText sb_NoText_NoText, kit_ref xh_TooMany xt_TooMany sb_NoMeeting_TooMany sb_TooMany_TooMany, kit_ref xh_NoCrowd xt_NoCrowd sb_NoPaper_NoCrowd sb_NoCrowd_NoCrowd, kit_ref xh_NoLine xt_NoLine sb_NoPaper_NoLine sb_NoLine_NoLine, kit_ref xh_NoMeeting xt_NoMeeting sb_NoPaper_NoMeeting sb_NoMeeting_NoMeeting, kit_ref xh_NoPaper xt_NoPaper sb_NoPaper_NoPaper sb_NoPaper_NoPaper, kit_ref xh_NoRule xt_NoRule sb_NoPaper_NoRule sb_NoRule_NoRule, kit_ref xh_NoText xt_NoText sb_NoPaper_NoText sb_NoText_NoText, kit_ref xh_TooMany xt_TooMany sb_NoPaper_TooMany sb_TooMany_TooMany, kit_ref xh_NoCrowd xt_NoCrowd sb_NoRule_NoCrowd sb_NoCrowd_NoCrowd, kit_ref xh_NoLine xt_NoLine sb_NoRule_NoLine sb_NoLine_NoLine, kit_ref xh_NoMeeting xt_NoMeeting sb_NoRule_NoMeeting sb_NoMeeting_NoMeeting, kit_ref xh_NoPaper xt_NoPaper sb_NoRule_NoPaper sb_NoPaper_NoPaper, kit_ref xh_NoRule xt_NoRule sb_NoRule_NoRule sb_NoRule_NoRule, kit_ref xh_NoText xt_NoText sb_NoRule_NoText sb_NoText_NoText, kit_ref xh_TooMany xt_TooMany sb_NoRule_TooMany sb_TooMany_TooMany, kit_ref xh_NoCrowd xt_NoCrowd sb_NoText_NoCrowd sb_NoCrowd_NoCrowd, kit_ref xh_NoLine xt_NoLine sb_NoText_NoLine sb_NoLine_NoLine, kit_ref xh_NoMeeting xt_NoMeeting sb_NoText_NoMeeting sb_NoMeeting_NoMeeting, kit_ref xh_NoPaper xt_NoPaper sb_NoText_NoPaper sb_NoPaper_NoPaper, kit_ref xh_NoRule xt_NoRule sb_NoText_NoRule sb_NoRule_NoRule, kit_ref xh_NoText xt_NoText sb_NoText_NoText sb_NoText_NoText, kit_ref xh_TooMany xt_TooMany sb_NoText_TooMany sb_TooMany_TooMany, kit_ref xh_NoCrowd xt_NoCrowd sb_TooMany_NoCrowd sb_NoCrowd_NoCrowd, kit_ref xh_NoLine xt_NoLine sb_TooMany_NoLine sb_NoLine_NoLine, kit_ref xh_NoMeeting xt_NoMeeting sb_TooMany_NoMeeting sb_NoMeeting_NoMeeting, kit_ref xh_NoPaper xt_NoPaper sb_TooMany_NoPaper sb_NoPaper_NoPaper, kit_ref xh_NoRule xt_NoRule sb_TooMany_NoRule sb_NoRule_NoRule, kit_ref xh_NoText xt_NoText sb_TooMany_NoText sb_NoText_NoText, kit_ref xh_TooMany xt_TooMany sb_TooMany_TooMany sb_TooMany_TooMany, kit_type (by decide +kernel) vb_NoCrowd, kit_type (by decide +kernel) vb_NoLine, kit_type (by decide +kernel) vb_NoMeeting, kit_type (by decide +kernel) vb_NoPaper, kit_type (by decide +kernel) vb_NoRule, kit_type (by decide +kernel) vb_NoText, kit_type (by decide +kernel) vb_TooMany, ng_NoLine_line, ng_NoMeeting_place, ng_NoPaper_number, ng_NoPaper_word, ng_NoText_row, ng_NoText_word, ⟨⟨_, _, _, _, _, _, _, _, _, _, _, _, _, _, _, xl_NoCrowd, xr_NoCrowd⟩, sa_NoCrowd, eb_NoCrowd, tc_NoCrowd, kc_NoCrowd⟩, ib_NoCrowd, ⟨⟨_, _, _, _, _, _, _, _, _, _, _, _, _, _, _, xl_NoRule, xr_NoRule⟩, sa_NoRule, eb_NoRule, tc_NoRule, kc_NoRule⟩, ib_NoRule, ⟨⟨_, _, _, _, _, _, _, _, _, _, _, _, _, _, _, xl_TooMany, xr_TooMany⟩, sa_TooMany, eb_TooMany, tc_TooMany, kc_TooMany⟩, ib_TooMany, _, _, F0, PySem.W.mg_of X G a0, k0, b0, _, _, F1, PySem.W.mg_of X G a1, k1, b1, _, _, F2, PySem.W.mg_of X G a2, k2, b2, _, _, F3, PySem.W.mg_of X G a3, k3, b3, _, _, F4, PySem.W.mg_of X G a4, k4, b4, _, _, F5, PySem.W.mg_of X G a5, k5, b5, _, _, F6, PySem.W.mg_of X G a6, k6, b6, PySem.W.mg_none_of X G z_ValueError, PySem.W.mg_none_of X G z_abs, PySem.W.mg_none_of X G z_isinstance, PySem.W.mg_none_of X G z_len, PySem.W.mg_none_of X G z_range⟩ : Txt K mg), law_true⟩
end K18
open PySem PySem.W PyProof.Rows
set_option maxHeartbeats 0 in
theorem PySem.Challenge.cw_passersby_k18_refusals_apart_holds : PySem.Challenge.rw_passersby_k18_refusals_apart.Holds := by
  w_on; o_law; k_head; (case hw => w_witness2)
  k_fill
  refine L3.law_endE (l := PySem.Challenge.rw_passersby_k18_refusals_apart) (n := 63) (k := 4) (x := "_law_script") rfl (by decide) rfl ⟨rfl, by decide, by decide⟩ (fun w h Y => PySem.W.kIn_of Y) ?F
  case F =>
    intro w mg fa h KX G hmg
    refine' K18.all_mk KX G hmg ?a0 ?l0 ?c0 ?k0 ?a1 ?l1 ?c1 ?k1 ?a2 ?l2 ?c2 ?k2 ?a3 ?l3 ?c3 ?k3 ?a4 ?l4 ?c4 ?k4 ?a5 ?l5 ?c5 ?k5 ?a6 ?l6 ?c6 ?k6 ?z_ValueError ?z_abs ?z_isinstance ?z_len ?z_range ?gc_PassError ?gc_NoText ?gc_NoMeeting ?gc_NoPaper ?gc_TooMany ?gc_NoLine ?gc_NoRule ?gc_NoCrowd ?xl_NoLine ?xr_NoLine ?sa_NoLine ?eb_NoLine ?tc_NoLine ?kc_NoLine ?ic_NoLine ?ti_NoLine ?li_NoLine ?cc_NoLine ?ki_NoLine ?xl_NoMeeting ?xr_NoMeeting ?sa_NoMeeting ?eb_NoMeeting ?tc_NoMeeting ?kc_NoMeeting ?ic_NoMeeting ?ti_NoMeeting ?li_NoMeeting ?cc_NoMeeting ?ki_NoMeeting ?xl_NoPaper ?xr_NoPaper ?sa_NoPaper ?eb_NoPaper ?tc_NoPaper ?kc_NoPaper ?ic_NoPaper ?ti_NoPaper ?li_NoPaper ?cc_NoPaper ?ki_NoPaper ?xl_NoText ?xr_NoText ?sa_NoText ?eb_NoText ?tc_NoText ?kc_NoText ?ic_NoText ?ti_NoText ?li_NoText ?cc_NoText ?ki_NoText ?nf_NoLine_line ?nf_NoMeeting_place ?nf_NoPaper_number ?nf_NoPaper_word ?nf_NoText_row ?nf_NoText_word ?xa_NoCrowd ?xg_NoCrowd ?xe_NoCrowd ?xh_NoCrowd ?xt_NoCrowd ?xa_NoLine ?xg_NoLine ?xe_NoLine ?xh_NoLine ?xt_NoLine ?xa_NoMeeting ?xg_NoMeeting ?xe_NoMeeting ?xh_NoMeeting ?xt_NoMeeting ?xa_NoPaper ?xg_NoPaper ?xe_NoPaper ?xh_NoPaper ?xt_NoPaper ?xa_NoRule ?xg_NoRule ?xe_NoRule ?xh_NoRule ?xt_NoRule ?xa_NoText ?xg_NoText ?xe_NoText ?xh_NoText ?xt_NoText ?xa_PassError ?xg_PassError ?xe_PassError ?xh_PassError ?xt_PassError ?xa_TooMany ?xg_TooMany ?xe_TooMany ?xh_TooMany ?xt_TooMany ?sb_NoCrowd_NoCrowd ?sb_NoCrowd_NoLine ?sb_NoCrowd_NoMeeting ?sb_NoCrowd_NoPaper ?sb_NoCrowd_NoRule ?sb_NoCrowd_NoText ?sb_NoCrowd_PassError ?sb_NoCrowd_TooMany ?sb_NoLine_NoCrowd ?sb_NoLine_NoLine ?sb_NoLine_NoMeeting ?sb_NoLine_NoPaper ?sb_NoLine_NoRule ?sb_NoLine_NoText ?sb_NoLine_PassError ?sb_NoLine_TooMany ?sb_NoMeeting_NoCrowd ?sb_NoMeeting_NoLine ?sb_NoMeeting_NoMeeting ?sb_NoMeeting_NoPaper ?sb_NoMeeting_NoRule ?sb_NoMeeting_NoText ?sb_NoMeeting_PassError ?sb_NoMeeting_TooMany ?sb_NoPaper_NoCrowd ?sb_NoPaper_NoLine ?sb_NoPaper_NoMeeting ?sb_NoPaper_NoPaper ?sb_NoPaper_NoRule ?sb_NoPaper_NoText ?sb_NoPaper_PassError ?sb_NoPaper_TooMany ?sb_NoRule_NoCrowd ?sb_NoRule_NoLine ?sb_NoRule_NoMeeting ?sb_NoRule_NoPaper ?sb_NoRule_NoRule ?sb_NoRule_NoText ?sb_NoRule_PassError ?sb_NoRule_TooMany ?sb_NoText_NoCrowd ?sb_NoText_NoLine ?sb_NoText_NoMeeting ?sb_NoText_NoPaper ?sb_NoText_NoRule ?sb_NoText_NoText ?sb_NoText_PassError ?sb_NoText_TooMany ?sb_TooMany_NoCrowd ?sb_TooMany_NoLine ?sb_TooMany_NoMeeting ?sb_TooMany_NoPaper ?sb_TooMany_NoRule ?sb_TooMany_NoText ?sb_TooMany_PassError ?sb_TooMany_TooMany ?xsp ?xtk ?xk_NoText ?xm_NoText ?xk_NoMeeting ?xm_NoMeeting ?xk_NoPaper ?xm_NoPaper ?xk_TooMany ?xm_TooMany ?xk_NoLine ?xm_NoLine ?xk_NoRule ?xm_NoRule ?xk_NoCrowd ?xm_NoCrowd ?vb_NoCrowd ?vb_NoLine ?vb_NoMeeting ?vb_NoPaper ?vb_NoRule ?vb_NoText ?vb_TooMany ?ng_NoLine_line ?ng_NoMeeting_place ?ng_NoPaper_number ?ng_NoPaper_word ?ng_NoText_row ?ng_NoText_word ?xl_NoCrowd ?xr_NoCrowd ?sa_NoCrowd ?eb_NoCrowd ?tc_NoCrowd ?kc_NoCrowd ?ib_NoCrowd ?xl_NoRule ?xr_NoRule ?sa_NoRule ?eb_NoRule ?tc_NoRule ?kc_NoRule ?ib_NoRule ?xl_TooMany ?xr_TooMany ?sa_TooMany ?eb_TooMany ?tc_TooMany ?kc_TooMany ?ib_TooMany
    (case a0 => k_is); (case l0 => k_is); (case c0 => k_is); (case k0 => k_is); (case a1 => k_is); (case l1 => k_is); (case c1 => k_is); (case k1 => k_is)
    (case a2 => k_is); (case l2 => k_is); (case c2 => k_is); (case k2 => k_is); (case a3 => k_is); (case l3 => k_is); (case c3 => k_is); (case k3 => k_is)
    (case a4 => k_is); (case l4 => k_is); (case c4 => k_is); (case k4 => k_is); (case a5 => k_is); (case l5 => k_is); (case c5 => k_is); (case k5 => k_is)
    (case a6 => k_is); (case l6 => k_is); (case c6 => k_is); (case k6 => k_is); (case z_ValueError => k_is); (case z_abs => k_is); (case z_isinstance => k_is); (case z_len => k_is)
    (case z_range => k_is); (case gc_PassError => k_is); (case gc_NoText => k_is); (case gc_NoMeeting => k_is); (case gc_NoPaper => k_is); (case gc_TooMany => k_is); (case gc_NoLine => k_is); (case gc_NoRule => k_is)
    (case gc_NoCrowd => k_is); (case xl_NoLine => k_is); (case xr_NoLine => first | k_is | decide +kernel | rfl); (case sa_NoLine => k_is); (case eb_NoLine => k_is); (case tc_NoLine => k_is); (case kc_NoLine => k_is); (case ic_NoLine => k_is)
    (case ti_NoLine => k_is); (case li_NoLine => k_is); (case cc_NoLine => k_is); (case ki_NoLine => k_is); (case xl_NoMeeting => k_is); (case xr_NoMeeting => first | k_is | decide +kernel | rfl); (case sa_NoMeeting => k_is); (case eb_NoMeeting => k_is)
    (case tc_NoMeeting => k_is); (case kc_NoMeeting => k_is); (case ic_NoMeeting => k_is); (case ti_NoMeeting => k_is); (case li_NoMeeting => k_is); (case cc_NoMeeting => k_is); (case ki_NoMeeting => k_is); (case xl_NoPaper => k_is)
    (case xr_NoPaper => first | k_is | decide +kernel | rfl); (case sa_NoPaper => k_is); (case eb_NoPaper => k_is); (case tc_NoPaper => k_is); (case kc_NoPaper => k_is); (case ic_NoPaper => k_is); (case ti_NoPaper => k_is); (case li_NoPaper => k_is)
    (case cc_NoPaper => k_is); (case ki_NoPaper => k_is); (case xl_NoText => k_is); (case xr_NoText => first | k_is | decide +kernel | rfl); (case sa_NoText => k_is); (case eb_NoText => k_is); (case tc_NoText => k_is); (case kc_NoText => k_is)
    (case ic_NoText => k_is); (case ti_NoText => k_is); (case li_NoText => k_is); (case cc_NoText => k_is); (case ki_NoText => k_is); (case nf_NoLine_line => k_is); (case nf_NoMeeting_place => k_is); (case nf_NoPaper_number => k_is)
    (case nf_NoPaper_word => k_is); (case nf_NoText_row => k_is); (case nf_NoText_word => k_is); (case xa_NoCrowd => k_is); (case xg_NoCrowd => k_is); (case xe_NoCrowd => k_is); (case xh_NoCrowd => k_is); (case xt_NoCrowd => k_is)
    (case xa_NoLine => k_is); (case xg_NoLine => k_is); (case xe_NoLine => k_is); (case xh_NoLine => k_is); (case xt_NoLine => k_is); (case xa_NoMeeting => k_is); (case xg_NoMeeting => k_is); (case xe_NoMeeting => k_is)
    (case xh_NoMeeting => k_is); (case xt_NoMeeting => k_is); (case xa_NoPaper => k_is); (case xg_NoPaper => k_is); (case xe_NoPaper => k_is); (case xh_NoPaper => k_is); (case xt_NoPaper => k_is); (case xa_NoRule => k_is)
    (case xg_NoRule => k_is); (case xe_NoRule => k_is); (case xh_NoRule => k_is); (case xt_NoRule => k_is); (case xa_NoText => k_is); (case xg_NoText => k_is); (case xe_NoText => k_is); (case xh_NoText => k_is)
    (case xt_NoText => k_is); (case xa_PassError => k_is); (case xg_PassError => k_is); (case xe_PassError => k_is); (case xh_PassError => k_is); (case xt_PassError => k_is); (case xa_TooMany => k_is); (case xg_TooMany => k_is)
    (case xe_TooMany => k_is); (case xh_TooMany => k_is); (case xt_TooMany => k_is); (case sb_NoCrowd_NoCrowd => first | k_is | decide +kernel | rfl); (case sb_NoCrowd_NoLine => first | k_is | decide +kernel | rfl); (case sb_NoCrowd_NoMeeting => first | k_is | decide +kernel | rfl); (case sb_NoCrowd_NoPaper => first | k_is | decide +kernel | rfl); (case sb_NoCrowd_NoRule => first | k_is | decide +kernel | rfl)
    (case sb_NoCrowd_NoText => first | k_is | decide +kernel | rfl); (case sb_NoCrowd_PassError => first | k_is | decide +kernel | rfl); (case sb_NoCrowd_TooMany => first | k_is | decide +kernel | rfl); (case sb_NoLine_NoCrowd => first | k_is | decide +kernel | rfl); (case sb_NoLine_NoLine => first | k_is | decide +kernel | rfl); (case sb_NoLine_NoMeeting => first | k_is | decide +kernel | rfl); (case sb_NoLine_NoPaper => first | k_is | decide +kernel | rfl); (case sb_NoLine_NoRule => first | k_is | decide +kernel | rfl)
    (case sb_NoLine_NoText => first | k_is | decide +kernel | rfl); (case sb_NoLine_PassError => first | k_is | decide +kernel | rfl); (case sb_NoLine_TooMany => first | k_is | decide +kernel | rfl); (case sb_NoMeeting_NoCrowd => first | k_is | decide +kernel | rfl); (case sb_NoMeeting_NoLine => first | k_is | decide +kernel | rfl); (case sb_NoMeeting_NoMeeting => first | k_is | decide +kernel | rfl); (case sb_NoMeeting_NoPaper => first | k_is | decide +kernel | rfl); (case sb_NoMeeting_NoRule => first | k_is | decide +kernel | rfl)
    (case sb_NoMeeting_NoText => first | k_is | decide +kernel | rfl); (case sb_NoMeeting_PassError => first | k_is | decide +kernel | rfl); (case sb_NoMeeting_TooMany => first | k_is | decide +kernel | rfl); (case sb_NoPaper_NoCrowd => first | k_is | decide +kernel | rfl); (case sb_NoPaper_NoLine => first | k_is | decide +kernel | rfl); (case sb_NoPaper_NoMeeting => first | k_is | decide +kernel | rfl); (case sb_NoPaper_NoPaper => first | k_is | decide +kernel | rfl); (case sb_NoPaper_NoRule => first | k_is | decide +kernel | rfl)
    (case sb_NoPaper_NoText => first | k_is | decide +kernel | rfl); (case sb_NoPaper_PassError => first | k_is | decide +kernel | rfl); (case sb_NoPaper_TooMany => first | k_is | decide +kernel | rfl); (case sb_NoRule_NoCrowd => first | k_is | decide +kernel | rfl); (case sb_NoRule_NoLine => first | k_is | decide +kernel | rfl); (case sb_NoRule_NoMeeting => first | k_is | decide +kernel | rfl); (case sb_NoRule_NoPaper => first | k_is | decide +kernel | rfl); (case sb_NoRule_NoRule => first | k_is | decide +kernel | rfl)
    (case sb_NoRule_NoText => first | k_is | decide +kernel | rfl); (case sb_NoRule_PassError => first | k_is | decide +kernel | rfl); (case sb_NoRule_TooMany => first | k_is | decide +kernel | rfl); (case sb_NoText_NoCrowd => first | k_is | decide +kernel | rfl); (case sb_NoText_NoLine => first | k_is | decide +kernel | rfl); (case sb_NoText_NoMeeting => first | k_is | decide +kernel | rfl); (case sb_NoText_NoPaper => first | k_is | decide +kernel | rfl); (case sb_NoText_NoRule => first | k_is | decide +kernel | rfl)
    (case sb_NoText_NoText => first | k_is | decide +kernel | rfl); (case sb_NoText_PassError => first | k_is | decide +kernel | rfl); (case sb_NoText_TooMany => first | k_is | decide +kernel | rfl); (case sb_TooMany_NoCrowd => first | k_is | decide +kernel | rfl); (case sb_TooMany_NoLine => first | k_is | decide +kernel | rfl); (case sb_TooMany_NoMeeting => first | k_is | decide +kernel | rfl); (case sb_TooMany_NoPaper => first | k_is | decide +kernel | rfl); (case sb_TooMany_NoRule => first | k_is | decide +kernel | rfl)
    (case sb_TooMany_NoText => first | k_is | decide +kernel | rfl); (case sb_TooMany_PassError => first | k_is | decide +kernel | rfl); (case sb_TooMany_TooMany => first | k_is | decide +kernel | rfl); (case xsp => first | k_is | decide +kernel | rfl); (case xtk => first | k_is | decide +kernel | rfl); (case xk_NoText => k_is); (case xm_NoText => first | k_is | decide +kernel | rfl); (case xk_NoMeeting => k_is)
    (case xm_NoMeeting => first | k_is | decide +kernel | rfl); (case xk_NoPaper => k_is); (case xm_NoPaper => first | k_is | decide +kernel | rfl); (case xk_TooMany => k_is); (case xm_TooMany => first | k_is | decide +kernel | rfl); (case xk_NoLine => k_is); (case xm_NoLine => first | k_is | decide +kernel | rfl); (case xk_NoRule => k_is)
    (case xm_NoRule => first | k_is | decide +kernel | rfl); (case xk_NoCrowd => k_is); (case xm_NoCrowd => first | k_is | decide +kernel | rfl); (case vb_NoCrowd => first | k_is | decide +kernel | rfl); (case vb_NoLine => first | k_is | decide +kernel | rfl); (case vb_NoMeeting => first | k_is | decide +kernel | rfl); (case vb_NoPaper => first | k_is | decide +kernel | rfl); (case vb_NoRule => first | k_is | decide +kernel | rfl)
    (case vb_NoText => first | k_is | decide +kernel | rfl); (case vb_TooMany => first | k_is | decide +kernel | rfl); (case ng_NoLine_line => k_is); (case ng_NoMeeting_place => k_is); (case ng_NoPaper_number => k_is); (case ng_NoPaper_word => k_is); (case ng_NoText_row => k_is); (case ng_NoText_word => k_is)
    (case xl_NoCrowd => k_is); (case xr_NoCrowd => first | k_is | decide +kernel | rfl); (case sa_NoCrowd => k_is); (case eb_NoCrowd => k_is); (case tc_NoCrowd => k_is); (case kc_NoCrowd => k_is); (case ib_NoCrowd => k_is); (case xl_NoRule => k_is)
    (case xr_NoRule => first | k_is | decide +kernel | rfl); (case sa_NoRule => k_is); (case eb_NoRule => k_is); (case tc_NoRule => k_is); (case kc_NoRule => k_is); (case ib_NoRule => k_is); (case xl_TooMany => k_is); (case xr_TooMany => first | k_is | decide +kernel | rfl)
    (case sa_TooMany => k_is); (case eb_TooMany => k_is); (case tc_TooMany => k_is); (case kc_TooMany => k_is); (case ib_TooMany => k_is)
